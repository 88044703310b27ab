import PyProof.Rows.All
import Wide.All
import OpenK.AllK
import Wide.FinOn
import HandS.ForMost
import HandS.ForExc
import HandS.IsInst
import HandS.Zip
import HandS.Wide
import HandS.Small
import HandS.Style
import HandS.Deep
import HandS.ClsMeth
import HandS.TupMul
import HandS.WideMore
import HandS.WideBits
import HandS.StrMore
import HandS.Dict
import HandS.More
import HandS.DictComp
import HandS.Finally
import HandS.ExcInit
import PySem.Challenge.RW_pactway_k23_read
set_option Elab.async false
set_option linter.all false
set_option maxRecDepth 100000
set_option maxHeartbeats 4000000
/-! EV0: values as trees (D), a small store for objects that are still being made, the relation to the heap. -/
namespace EV
open PySem L2
/-- a value as a tree: what never changes again -/
inductive D where
  | non | bl (b : Bool) | int (i : Int) | str (x : Str) | ref (a : Addr) | ty (n : String)
  | lst (xs : List D) | fls (xs : List D) | tup (xs : List D)
  | dct (ks : List Key) (vs : List D)
  | ins (c : Nat) (ks : List Nat) (vs : List D)
/-- a value of a frame: a tree, or an object of the frame's own store -/
inductive W where
  | d (x : D) | loc (n : Nat)
/-- what stands in the store -/
inductive OO where
  | lst (xs : List W)
  | dct (ks : List Key) (vs : List W)
  | ins (c : Nat) (ks : List Nat) (vs : List W)
  | tup (xs : List W)
abbrev Store := List (Option OO)
structure SS where
  env : List (Option W)
  st : Store
/-- an outcome: a value, or an exception of the class c with its fields -/
inductive Out (α : Type) where
  | ok (a : α) | ex (c : Nat) (ks : List Nat) (vs : List D)
abbrev EM (α : Type) := SS → Option (Out α × SS)
inductive Fl where
  | nx | ret (w : W) | brk | cnt
/-! ### the relation -/
/-- the text's facts: the written part, the classes by number, the names of fields by number -/
structure Kx where
  K : PySem.W.Frag
  ct : List Addr
  fn : List Str
  nd : fn.Nodup
def Kx.nm (c : Kx) (i : Nat) : Str := c.fn.getD i ""
abbrev Rho := List (Addr × Addr)
/-- a class of instances, and its fields -/
def FOk (c : Kx) (C : Addr) (ks : List Nat) : Prop := Cls c.K C ∧ ∀ i ∈ ks, i < c.fn.length ∧ NoAttr c.K C (c.nm i)
mutual
inductive RepD (c : Kx) (G : Hp) : D → V → Prop
  | non : RepD c G .non .non
  | bl (b : Bool) : RepD c G (.bl b) (.bl b)
  | int (i : Int) : RepD c G (.int i) (.int i)
  | str (x : Str) : RepD c G (.str x) (.str x)
  | ref (a : Addr) : RepD c G (.ref a) (.ref a)
  | ty (n : String) : RepD c G (.ty n) (.ty n)
  | lst {a : Addr} {ds : List D} {vs : List V} : G a = some (.lst vs) → RepDs c G ds vs → RepD c G (.lst ds) (.ref a)
  | fls {a : Addr} {ds : List D} {vs : List V} : SqL c.K G a vs → RepDs c G ds vs → RepD c G (.fls ds) (.ref a)
  | tup {a : Addr} {ds : List D} {vs : List V} : SqT c.K G a vs → RepDs c G ds vs → RepD c G (.tup ds) (.ref a)
  | dct {a : Addr} {ks : List Key} {ds : List D} {vs : List V} : G a = some (.dK (ks.zip vs)) → ks.length = ds.length → RepDs c G ds vs → RepD c G (.dct ks ds) (.ref a)
  | ins {a dx C : Addr} {k : Nat} {ks : List Nat} {ds : List D} {vs : List V} : c.ct[k]? = some C → FOk c C ks → G a = some (.ins C dx ((ks.map c.nm).zip vs)) → G dx = some (.own a) → ks.length = ds.length → RepDs c G ds vs → RepD c G (.ins k ks ds) (.ref a)
inductive RepDs (c : Kx) (G : Hp) : List D → List V → Prop
  | nil : RepDs c G [] []
  | cons {d : D} {v : V} {ds : List D} {vs : List V} : RepD c G d v → RepDs c G ds vs → RepDs c G (d :: ds) (v :: vs)
end
section
variable {c : Kx} {G G' : Hp}
theorem SqT.same {K : PySem.W.Frag} {H H' : Hp} {a : Addr} {xs : List V} (e : Same H H') (h : SqT K H a xs) : SqT K H' a xs := by
  rcases h with (h | ⟨o, h⟩) | h
  · exact .inl (.inl (e _ _ h))
  · exact .inl (.inr ⟨o, e _ _ h⟩)
  · exact .inr h
mutual
theorem RepD.mono (e : Same G G') : ∀ {d : D} {v : V}, RepD c G d v → RepD c G' d v
  | _, _, .non => .non
  | _, _, .bl b => .bl b
  | _, _, .int i => .int i
  | _, _, .str x => .str x
  | _, _, .ref a => .ref a
  | _, _, .ty n => .ty n
  | _, _, .lst h r => .lst (e _ _ h) (RepDs.mono e r)
  | _, _, .fls h r => .fls (e.seq h) (RepDs.mono e r)
  | _, _, .tup h r => .tup (SqT.same e h) (RepDs.mono e r)
  | _, _, .dct h l r => .dct (e _ _ h) l (RepDs.mono e r)
  | _, _, .ins hc f h h2 l r => .ins hc f (e _ _ h) (e _ _ h2) l (RepDs.mono e r)
theorem RepDs.mono (e : Same G G') : ∀ {ds : List D} {vs : List V}, RepDs c G ds vs → RepDs c G' ds vs
  | _, _, .nil => .nil
  | _, _, .cons h r => .cons (RepD.mono e h) (RepDs.mono e r)
end
theorem RepDs.len : ∀ {ds : List D} {vs : List V}, RepDs c G ds vs → vs.length = ds.length
  | _, _, .nil => rfl
  | _, _, .cons _ r => congrArg (· + 1) (RepDs.len r)
theorem RepDs.get : ∀ {ds : List D} {vs : List V} {i : Nat} {d : D}, RepDs c G ds vs → ds[i]? = some d → ∃ v, vs[i]? = some v ∧ RepD c G d v
  | _, _, _, _, .nil, e => by simp at e
  | _, _, 0, _, .cons r _, e => by simp at e; subst e; exact ⟨_, rfl, r⟩
  | _, _, i + 1, d, .cons _ t, e => by
    obtain ⟨u, h1, h2⟩ := RepDs.get (i := i) (d := d) t (by simpa using e)
    exact ⟨u, by simpa using h1, h2⟩
theorem RepDs.app : ∀ {ds es : List D} {vs us : List V}, RepDs c G ds vs → RepDs c G es us → RepDs c G (ds ++ es) (vs ++ us)
  | _, _, _, _, .nil, s => s
  | _, _, _, _, .cons r t, s => .cons r (RepDs.app t s)
theorem RepDs.take : ∀ {ds : List D} {vs : List V} (n : Nat), RepDs c G ds vs → RepDs c G (ds.take n) (vs.take n)
  | _, _, 0, _ => .nil
  | _, _, _ + 1, .nil => .nil
  | _, _, n + 1, .cons r t => .cons r (RepDs.take n t)
theorem RepDs.drop : ∀ {ds : List D} {vs : List V} (n : Nat), RepDs c G ds vs → RepDs c G (ds.drop n) (vs.drop n)
  | _, _, 0, r => r
  | _, _, _ + 1, .nil => .nil
  | _, _, n + 1, .cons _ t => RepDs.drop n t
end
/-- a frame's value -/
def RepW (c : Kx) (ρ : Rho) (G : Hp) : W → V → Prop
  | .d x, v => RepD c G x v
  | .loc n, v => ∃ p, ρ[n]? = some p ∧ v = .ref p.1
def RepWs (c : Kx) (ρ : Rho) (G : Hp) : List W → List V → Prop
  | [], vs => vs = []
  | w :: ws, vs => ∃ v r, vs = v :: r ∧ RepW c ρ G w v ∧ RepWs c ρ G ws r
section
variable {c : Kx} {ρ ρ' : Rho} {G G' : Hp}
theorem RepWs.len : ∀ {ws : List W} {vs : List V}, RepWs c ρ G ws vs → vs.length = ws.length
  | [], _, h => by subst h; rfl
  | _ :: _, _, ⟨_, _, e, _, t⟩ => by subst e; exact congrArg (· + 1) (RepWs.len t)
theorem RepWs.get : ∀ {ws : List W} {vs : List V} {i : Nat} {w : W}, RepWs c ρ G ws vs → ws[i]? = some w → ∃ v, vs[i]? = some v ∧ RepW c ρ G w v
  | [], _, _, _, _, e => by simp at e
  | _ :: _, _, 0, _, ⟨_, _, q, r, _⟩, e => by simp at e; subst e; subst q; exact ⟨_, rfl, r⟩
  | _ :: _, _, i + 1, w, ⟨_, _, q, _, t⟩, e => by
    subst q
    obtain ⟨u, h1, h2⟩ := RepWs.get (i := i) (w := w) t (by simpa using e)
    exact ⟨u, by simpa using h1, h2⟩
theorem RepWs.app : ∀ {ws xs : List W} {vs us : List V}, RepWs c ρ G ws vs → RepWs c ρ G xs us → RepWs c ρ G (ws ++ xs) (vs ++ us)
  | [], _, _, _, h, s => by subst h; exact s
  | _ :: _, _, _, _, ⟨_, _, q, r, t⟩, s => by subst q; exact ⟨_, _, rfl, r, RepWs.app t s⟩
theorem RepWs.take : ∀ {ws : List W} {vs : List V} (n : Nat), RepWs c ρ G ws vs → RepWs c ρ G (ws.take n) (vs.take n)
  | _, _, 0, _ => rfl
  | [], _, _ + 1, h => by subst h; rfl
  | _ :: _, _, n + 1, ⟨_, _, q, r, t⟩ => by subst q; exact ⟨_, _, rfl, r, RepWs.take n t⟩
theorem RepWs.drop : ∀ {ws : List W} {vs : List V} (n : Nat), RepWs c ρ G ws vs → RepWs c ρ G (ws.drop n) (vs.drop n)
  | _, _, 0, r => r
  | [], _, _ + 1, h => by subst h; rfl
  | _ :: _, _, n + 1, ⟨_, _, q, _, t⟩ => by subst q; exact RepWs.drop n t
theorem RepWs.set : ∀ {ws : List W} {vs : List V} (i : Nat) {w : W} {v : V}, RepWs c ρ G ws vs → RepW c ρ G w v → RepWs c ρ G (ws.set i w) (vs.set i v)
  | [], _, _, _, _, h, _ => by subst h; rfl
  | _ :: _, _, 0, _, _, ⟨_, _, q, _, t⟩, r => by subst q; exact ⟨_, _, rfl, r, t⟩
  | _ :: _, _, i + 1, _, _, ⟨_, _, q, r0, t⟩, r => by subst q; exact ⟨_, _, rfl, r0, RepWs.set i t r⟩
theorem RepWs.ofD : ∀ {ds : List D} {vs : List V}, RepDs c G ds vs → RepWs c ρ G (ds.map .d) vs
  | [], _, h => by cases h; rfl
  | _ :: _, _, h => by cases h with | cons r t => exact ⟨_, _, rfl, r, RepWs.ofD t⟩
theorem RepWs.toD : ∀ {ds : List D} {vs : List V}, RepWs c ρ G (ds.map .d) vs → RepDs c G ds vs
  | [], _, h => by have h : _ = [] := h; subst h; exact .nil
  | _ :: _, _, ⟨_, _, q, r, t⟩ => by subst q; exact .cons r (RepWs.toD t)
end
/-- an own object stands -/
def OwnOk (c : Kx) (ρ : Rho) (G H : Hp) (p : Addr × Addr) : OO → Prop
  | .tup ws => p.2 = p.1 ∧ ∃ vs, H p.1 = some (.tup vs) ∧ RepWs c ρ G ws vs
  | .lst ws => p.2 = p.1 ∧ ∃ vs, H p.1 = some (.lst vs) ∧ RepWs c ρ G ws vs
  | .dct ks ws => p.2 = p.1 ∧ ks.length = ws.length ∧ ∃ vs, H p.1 = some (.dK (ks.zip vs)) ∧ RepWs c ρ G ws vs
  | .ins k ks ws => ks.length = ws.length ∧ ∃ C vs, c.ct[k]? = some C ∧ FOk c C ks ∧ H p.1 = some (.ins C p.2 ((ks.map c.nm).zip vs)) ∧ H p.2 = some (.own p.1) ∧ RepWs c ρ G ws vs
/-- a greater G, a longer ρ -/
def Rle (ρ ρ' : Rho) : Prop := ∀ (n : Nat) (p : Addr × Addr), ρ[n]? = some p → ρ'[n]? = some p
theorem Rle.refl (ρ : Rho) : Rle ρ ρ := fun _ _ h => h
theorem Rle.trans {ρ ρ1 ρ2 : Rho} (a : Rle ρ ρ1) (b : Rle ρ1 ρ2) : Rle ρ ρ2 := fun n p h => b n p (a n p h)
theorem Rle.len {ρ ρ' : Rho} (a : Rle ρ ρ') : ρ.length ≤ ρ'.length := by
  by_cases h : ρ.length = 0
  · omega
  · have h1 : ρ.length - 1 < ρ.length := by omega
    have := a (ρ.length - 1) _ (List.getElem?_eq_getElem h1)
    have := (List.getElem?_eq_some_iff.mp this).1
    omega
theorem RepW.mono {c : Kx} {ρ ρ' : Rho} {G G' : Hp} (l : Rle ρ ρ') (e : Same G G') : ∀ {w : W} {v : V}, RepW c ρ G w v → RepW c ρ' G' w v
  | .d _, _, h => RepD.mono e h
  | .loc _, _, ⟨p, h, q⟩ => ⟨p, l _ _ h, q⟩
theorem RepWs.mono {c : Kx} {ρ ρ' : Rho} {G G' : Hp} (l : Rle ρ ρ') (e : Same G G') : ∀ {ws : List W} {vs : List V}, RepWs c ρ G ws vs → RepWs c ρ' G' ws vs
  | [], _, h => h
  | _ :: _, _, ⟨v, r, q, h, t⟩ => ⟨v, r, q, RepW.mono l e h, RepWs.mono l e t⟩
theorem OwnOk.mono {c : Kx} {ρ ρ' : Rho} {G G' H H' : Hp} {p : Addr × Addr} (l : Rle ρ ρ') (e : Same G G') (h1 : ∀ o, H p.1 = some o → H' p.1 = some o) (h2 : ∀ o, H p.2 = some o → H' p.2 = some o) : ∀ {o : OO}, OwnOk c ρ G H p o → OwnOk c ρ' G' H' p o
  | .tup _, ⟨q, vs, a, r⟩ => ⟨q, vs, h1 _ a, RepWs.mono l e r⟩
  | .lst _, ⟨q, vs, a, r⟩ => ⟨q, vs, h1 _ a, RepWs.mono l e r⟩
  | .dct _ _, ⟨q, k, vs, a, r⟩ => ⟨q, k, vs, h1 _ a, RepWs.mono l e r⟩
  | .ins _ _ _, ⟨k, C, vs, a, f, b, d, r⟩ => ⟨k, C, vs, a, f, h1 _ b, h2 _ d, RepWs.mono l e r⟩
theorem OwnOk.there {c : Kx} {ρ : Rho} {G H : Hp} {p : Addr × Addr} : ∀ {o : OO}, OwnOk c ρ G H p o → (∃ u, H p.1 = some u) ∧ ∃ u, H p.2 = some u
  | .tup _, ⟨q, vs, a, _⟩ => ⟨⟨_, a⟩, ⟨_, by rw [q]; exact a⟩⟩
  | .lst _, ⟨q, vs, a, _⟩ => ⟨⟨_, a⟩, ⟨_, by rw [q]; exact a⟩⟩
  | .dct _ _, ⟨q, k, vs, a, _⟩ => ⟨⟨_, a⟩, ⟨_, by rw [q]; exact a⟩⟩
  | .ins _ _ _, ⟨k, C, vs, a, f, b, d, _⟩ => ⟨⟨_, b⟩, ⟨_, d⟩⟩
/-- the store stands in the heap, all of G too -/
structure RS (c : Kx) (ρ : Rho) (G H : Hp) (st : Store) : Prop where
  sub : Same G H
  len : ρ.length = st.length
  own : ∀ (n : Nat) (p : Addr × Addr) (o : OO), ρ[n]? = some p → st[n]? = some (some o) → G p.1 = none ∧ G p.2 = none ∧ OwnOk c ρ G H p o
  inj : ∀ (n m : Nat) (p q : Addr × Addr) (o o' : OO), ρ[n]? = some p → ρ[m]? = some q → st[n]? = some (some o) → st[m]? = some (some o') → p.1 = q.1 → n = m
/-- the names' values stand -/
def EnvOk (c : Kx) (ρ : Rho) (G : Hp) (env : List (Option W)) (σ : L2.St) : Prop := ∀ (i : Nat) (w : W), env[i]? = some (some w) → ∃ v, σ[i]? = some (some v) ∧ RepW c ρ G w v
structure R (c : Kx) (ρ : Rho) (G : Hp) (σ : L2.St) (H : Hp) (s : SS) : Prop where
  rs : RS c ρ G H s.st
  env : EnvOk c ρ G s.env σ
  len : s.env.length = σ.length
/-- a step: what may have changed -/
structure Stp (ρ : Rho) (G H : Hp) (st : Store) (ρ' : Rho) (G' H' : Hp) (st' : Store) : Prop where
  same : Same G G'
  rho : Rle ρ ρ'
  live : ∀ (n : Nat) (o' : OO), n < ρ.length → st'[n]? = some (some o') → ∃ o, st[n]? = some (some o)
  keep : ∀ a u, H a = some u → (∀ (n : Nat) (p : Addr × Addr) (o : OO), ρ[n]? = some p → st[n]? = some (some o) → p.1 ≠ a ∧ p.2 ≠ a) → H' a = some u
  there : ∀ a u, H a = some u → ∃ u', H' a = some u'
  fresh : ∀ a u, G a = none → G' a = some u → H a = none ∨ ∃ (n : Nat) (p : Addr × Addr) (o : OO), ρ[n]? = some p ∧ st[n]? = some (some o) ∧ (a = p.1 ∨ a = p.2)
  new : ∀ (n : Nat) (p : Addr × Addr), ρ.length ≤ n → ρ'[n]? = some p → H p.1 = none ∧ H p.2 = none
section
variable {c : Kx} {ρ ρ1 ρ2 : Rho} {G H G1 H1 G2 H2 : Hp} {st st1 st2 : Store}
theorem Stp.refl : Stp ρ G H st ρ G H st :=
  ⟨Same.refl _, Rle.refl _, fun _ o' _ h => ⟨o', h⟩, fun _ _ h _ => h, fun _ u h => ⟨u, h⟩, fun a u h h' => (by rw [h] at h'; cases h'), fun n p h h' => absurd (List.getElem?_eq_some_iff.mp h').1 (by omega)⟩
theorem none_back {H H' : Hp} (t : ∀ a u, H a = some u → ∃ u', H' a = some u') {a : Addr} (h : H' a = none) : H a = none := by
  cases q : H a with
  | none => rfl
  | some u =>
    obtain ⟨u', e⟩ := t a u q
    rw [h] at e; cases e
theorem Stp.trans (hl : ρ.length = st.length) (a : Stp ρ G H st ρ1 G1 H1 st1) (b : Stp ρ1 G1 H1 st1 ρ2 G2 H2 st2) : Stp ρ G H st ρ2 G2 H2 st2 := by
  have own1 : ∀ (n : Nat) (p : Addr × Addr) (o' : OO), ρ1[n]? = some p → st1[n]? = some (some o') → (∃ o, ρ[n]? = some p ∧ st[n]? = some (some o)) ∨ (H p.1 = none ∧ H p.2 = none) := fun n p o' hp ho => by
    by_cases hn : n < ρ.length
    · obtain ⟨o, e⟩ := a.live n o' hn ho
      have e2 := a.rho n _ (List.getElem?_eq_getElem hn)
      rw [hp] at e2
      refine .inl ⟨o, ?_, e⟩
      rw [List.getElem?_eq_getElem hn]
      exact e2.symm
    · exact .inr (a.new n p (by omega) hp)
  refine ⟨a.same.trans b.same, a.rho.trans b.rho, fun n o' hn h => ?_, fun x u h ho => ?_, fun x u h => ?_, fun x u h h' => ?_, fun n p hn hp => ?_⟩
  · obtain ⟨o1, e1⟩ := b.live n o' (Nat.lt_of_lt_of_le hn a.rho.len) h
    exact a.live n o1 hn e1
  · refine b.keep x u (a.keep x u h ho) fun n p o' hp ho' => ?_
    rcases own1 n p o' hp ho' with ⟨o, e1, e2⟩ | ⟨e1, e2⟩
    · exact ho n p o e1 e2
    · exact ⟨fun e => (by rw [← e, e1] at h; cases h), fun e => (by rw [← e, e2] at h; cases h)⟩
  · obtain ⟨u1, e1⟩ := a.there x u h
    exact b.there x u1 e1
  · cases q : G1 x with
    | some u1 => exact a.fresh x u1 h q
    | none =>
      rcases b.fresh x u q h' with e | ⟨n, p, o', e1, e2, e3⟩
      · exact .inl (none_back a.there e)
      · rcases own1 n p o' e1 e2 with ⟨o, f1, f2⟩ | ⟨f1, f2⟩
        · exact .inr ⟨n, p, o, f1, f2, e3⟩
        · refine .inl ?_
          rcases e3 with rfl | rfl
          · exact f1
          · exact f2
  · by_cases h1 : ρ1.length ≤ n
    · obtain ⟨e1, e2⟩ := b.new n p h1 hp
      exact ⟨none_back a.there e1, none_back a.there e2⟩
    · have h2 : n < ρ1.length := by omega
      have e2 := b.rho n _ (List.getElem?_eq_getElem h2)
      rw [hp] at e2
      exact a.new n p hn (by rw [List.getElem?_eq_getElem h2]; exact e2.symm)
end
end EV
/-! EV1: the monad, what it is to run, expressions, arguments. -/
namespace EV
open PySem L2
/-! ### the monad -/
section
variable {α β : Type}
def pur (a : α) : EM α := fun s => some (.ok a, s)
def non : EM α := fun _ => none
def bnd (m : EM α) (k : α → EM β) : EM β := fun s => match m s with
  | some (.ok a, s') => k a s'
  | some (.ex c ks vs, s') => some (.ex c ks vs, s')
  | none => none
def lft (f : Store → Option (α × Store)) : EM α := fun s => match f s.st with
  | some (a, st) => some (.ok a, ⟨s.env, st⟩)
  | none => none
end
theorem bnd_ok {α β : Type} {m : EM α} {k : α → EM β} {s s' : SS} {a : α} (h : m s = some (.ok a, s')) : bnd m k s = k a s' := by unfold bnd; rw [h]
theorem bnd_ex {α β : Type} {m : EM α} {k : α → EM β} {s s' : SS} {c : Nat} {ks : List Nat} {vs : List D} (h : m s = some (.ex c ks vs, s')) : bnd m k s = some (.ex c ks vs, s') := by unfold bnd; rw [h]
theorem bnd_no {α β : Type} {m : EM α} {k : α → EM β} {s : SS} (h : m s = none) : bnd m k s = none := by unfold bnd; rw [h]
theorem bnd_pur {α β : Type} (a : α) (k : α → EM β) : bnd (pur a) k = k a := rfl
/-! ### what it is to run -/
/-- how an exception stands -/
def XOk (c : Kx) (G : Hp) (k : Nat) (ks : List Nat) (ds : List D) (cls : Value) (d : Option Addr) : Prop :=
  ∃ C, c.ct[k]? = some C ∧ cls = .ref C ∧ ((ks = [] ∧ ds = [] ∧ d = none) ∨ ∃ dx vs, d = some dx ∧ ks.length = ds.length ∧ G dx = some (.xd ((ks.map c.nm).zip vs)) ∧ RepDs c G ds vs)
section
variable {α β : Type}
def Wp (c : Kx) (U : WX) (m : EM α) (ρ : Rho) (G : Hp) (σ : L2.St) (H : Hp) (s : SS) (k : α → Rho → Hp → Hp → SS → Prop) : Prop :=
  match m s with
  | none => False
  | some (.ok a, s') => ∀ ρ' G' H', Stp ρ G H s.st ρ' G' H' s'.st → R c ρ' G' σ H' s' → k a ρ' G' H' s'
  | some (.ex C ks ds, s') => ∀ ρ' G' H' cls d, Stp ρ G H s.st ρ' G' H' s'.st → R c ρ' G' σ H' s' → XOk c G' C ks ds cls d → U cls d σ H'
variable {c : Kx} {U : WX} {m : EM α} {ρ : Rho} {G : Hp} {σ : L2.St} {H : Hp} {s s' : SS} {k k' : α → Rho → Hp → Hp → SS → Prop}
theorem Wp.ok {a : α} (e : m s = some (.ok a, s')) (h : ∀ ρ' G' H', Stp ρ G H s.st ρ' G' H' s'.st → R c ρ' G' σ H' s' → k a ρ' G' H' s') : Wp c U m ρ G σ H s k := by
  unfold Wp; rw [e]; exact h
theorem Wp.okE {a : α} (e : m s = some (.ok a, s')) (h : Wp c U m ρ G σ H s k) : ∀ ρ' G' H', Stp ρ G H s.st ρ' G' H' s'.st → R c ρ' G' σ H' s' → k a ρ' G' H' s' := by
  unfold Wp at h; rw [e] at h; exact h
theorem Wp.imp (h : Wp c U m ρ G σ H s k) (q : ∀ a ρ' G' H' s', k a ρ' G' H' s' → k' a ρ' G' H' s') : Wp c U m ρ G σ H s k' := by
  unfold Wp at h ⊢
  cases e : m s with
  | none => rw [e] at h; exact h.elim
  | some p =>
    obtain ⟨o, s1⟩ := p
    cases o with
    | ok a => rw [e] at h; exact fun ρ' G' H' S R => q _ _ _ _ _ (h ρ' G' H' S R)
    | ex _ _ _ => rw [e] at h; exact h
theorem Wp.bnd {f : α → EM β} {k : β → Rho → Hp → Hp → SS → Prop} (hR : R c ρ G σ H s) (h : Wp c U (bnd m f) ρ G σ H s k) :
    Wp c U m ρ G σ H s (fun a ρ1 G1 H1 s1 => Stp ρ G H s.st ρ1 G1 H1 s1.st ∧ R c ρ1 G1 σ H1 s1 ∧ Wp c U (f a) ρ1 G1 σ H1 s1 k) := by
  unfold Wp at h ⊢
  cases e : m s with
  | none => rw [bnd_no e] at h; exact h.elim
  | some p =>
    obtain ⟨o, s1⟩ := p
    cases o with
    | ok a =>
      rw [bnd_ok e] at h
      intro ρ1 G1 H1 S1 R1
      refine ⟨S1, R1, ?_⟩
      cases e2 : f a s1 with
      | none => rw [e2] at h; exact h.elim
      | some p =>
        obtain ⟨o, s2⟩ := p
        cases o with
        | ok b => rw [e2] at h; exact fun ρ2 G2 H2 S2 R2 => h ρ2 G2 H2 (S1.trans hR.rs.len S2) R2
        | ex _ _ _ => rw [e2] at h; exact fun ρ2 G2 H2 cls d S2 R2 x => h ρ2 G2 H2 cls d (S1.trans hR.rs.len S2) R2 x
    | ex _ _ _ => rw [bnd_ex e] at h; exact h
theorem Wp.pur {a : α} (hR : R c ρ G σ H s) (h : Wp c U (pur a) ρ G σ H s k) : k a ρ G H s := h ρ G H Stp.refl hR
/-- a computation that leaves all as it is -/
theorem Wp.same {a : α} (hR : R c ρ G σ H s) (e : m s = some (.ok a, s)) (h : Wp c U m ρ G σ H s k) : k a ρ G H s := by
  unfold Wp at h; rw [e] at h; exact h ρ G H Stp.refl hR
theorem Wp.none (e : m s = none) (h : Wp c U m ρ G σ H s k) {P : Prop} : P := by
  unfold Wp at h; rw [e] at h; exact h.elim
/-- .. by its store alone -/
theorem Wp.lft {f : Store → Option (α × Store)} (h : Wp c U (lft f) ρ G σ H s k) : ∃ a st', f s.st = some (a, st') ∧ ∀ ρ' G' H', Stp ρ G H s.st ρ' G' H' st' → R c ρ' G' σ H' ⟨s.env, st'⟩ → k a ρ' G' H' ⟨s.env, st'⟩ := by
  unfold Wp EV.lft at h
  cases e : f s.st with
  | none => simp only [e] at h
  | some p =>
    obtain ⟨a, st'⟩ := p
    simp only [e] at h
    exact ⟨a, st', rfl, h⟩
end
theorem EnvOk.mono {c : Kx} {ρ ρ' : Rho} {G G' : Hp} {env : List (Option W)} {σ : L2.St} (l : Rle ρ ρ') (e : Same G G') (h : EnvOk c ρ G env σ) : EnvOk c ρ' G' env σ := fun i w q =>
  let ⟨v, a, b⟩ := h i w q
  ⟨v, a, b.mono l e⟩
/-! ### the judgements -/
def tE (c : Kx) (U : WX) (m : EM W) : TE := fun σ H Q => ∃ ρ G s, R c ρ G σ H s ∧ Wp c U m ρ G σ H s (fun w ρ' G' H' _ => ∀ v, RepW c ρ' G' w v → Q v H')
def tT (c : Kx) (U : WX) (m : EM Bool) : TT := fun σ H Q => ∃ ρ G s, R c ρ G σ H s ∧ Wp c U m ρ G σ H s (fun b _ _ H' _ => Q b H')
def tA (c : Kx) (U : WX) (m : EM (List W)) : TA := fun σ H Q => ∃ ρ G s, R c ρ G σ H s ∧ Wp c U m ρ G σ H s (fun ws ρ' G' H' _ => ∀ vs, RepWs c ρ' G' ws vs → Q vs H')
/-- e is m -/
structure EE (c : Kx) (X : Cx) (U : WX) (e : Expr) (m : EM W) : Prop where
  K : X.K = c.K
  pe : PE X e (tE c U m)
structure ET (c : Kx) (X : Cx) (U : WX) (e : Expr) (m : EM Bool) : Prop where
  K : X.K = c.K
  pt : PT X e (tT c U m)
structure EWt (c : Kx) (X : Cx) (U : WX) (e : Expr) (m : EM Bool) : Prop where
  K : X.K = c.K
  pw : PW X e (tT c U m)
structure EA (c : Kx) (X : Cx) (U : WX) (es : List Expr) (m : EM (List W)) : Prop where
  K : X.K = c.K
  pa : PA X es (tA c U m)
theorem PE.imp {X : Cx} {e : Expr} {t t' : TE} (h : PE X e t) (q : ∀ σ H Q, t' σ H Q → t σ H Q) : PE X e t' := ⟨fun pins s σ H Q I x => h.run pins s σ H Q I (q σ H Q x)⟩
theorem PT.imp {X : Cx} {e : Expr} {t t' : TT} (h : PT X e t) (q : ∀ σ H Q, t' σ H Q → t σ H Q) : PT X e t' := ⟨fun pins s σ H Q I x => h.run pins s σ H Q I (q σ H Q x)⟩
theorem PW.imp {X : Cx} {e : Expr} {t t' : TT} (h : PW X e t) (q : ∀ σ H Q, t' σ H Q → t σ H Q) : PW X e t' := ⟨fun wh pins s σ H Q I x => h.run wh pins s σ H Q I (q σ H Q x)⟩
theorem PA.imp {X : Cx} {es : List Expr} {t t' : TA} (h : PA X es t) (q : ∀ σ H Q, t' σ H Q → t σ H Q) : PA X es t' := ⟨fun pos pins s σ H Q I x => h.run pos pins s σ H Q I (q σ H Q x)⟩
section
variable {c : Kx} {X : Cx} {U : WX} {e a b : Expr} {es : List Expr} {ma mb : EM W} {pos : Pos}
/-! ### constants, names -/
def cst (d : D) : EM W := pur (.d d)
theorem EE.mk1 {t : TE} {m : EM W} (hK : X.K = c.K) (h : PE X e t) (q : ∀ ρ G s σ H Q, R c ρ G σ H s → Wp c U m ρ G σ H s (fun w ρ' G' H' _ => ∀ v, RepW c ρ' G' w v → Q v H') → t σ H Q) : EE c X U e m :=
  ⟨hK, PE.imp h fun σ H Q ⟨ρ, G, s, r, w⟩ => q ρ G s σ H Q r w⟩
theorem ee_int {i j} (hK : X.K = c.K) : EE c X U (.Constant (.int i) j pos) (cst (.int i)) := EE.mk1 hK pe_int fun _ _ _ _ _ _ r w => Wp.pur r w _ (.int i)
theorem ee_bl {i j} (hK : X.K = c.K) : EE c X U (.Constant (.bool i) j pos) (cst (.bl i)) := EE.mk1 hK pe_bl fun _ _ _ _ _ _ r w => Wp.pur r w _ (.bl i)
theorem ee_non {j} (hK : X.K = c.K) : EE c X U (.Constant .none j pos) (cst .non) := EE.mk1 hK pe_non fun _ _ _ _ _ _ r w => Wp.pur r w _ .non
theorem ee_str {i j} (hK : X.K = c.K) : EE c X U (.Constant (.str i) j pos) (cst (.str i)) := EE.mk1 hK pe_str fun _ _ _ _ _ _ r w => Wp.pur r w _ (.str i)
/-- a module's name -/
theorem ee_glob {x : Str} {d : D} {v : V} {u : Value} (hK : X.K = c.K) (hg : Gl X x) (hm : X.mg x = some u) (r : RelV v u) (hd : ∀ G, RepD c G d v) (hdb : (x == ("__debug__" : Str)) = false := by decide) : EE c X U (.Name x pos) (cst d) :=
  EE.mk1 hK (pe_glob hg hm r hdb) fun _ G _ _ _ _ r w => Wp.pur r w _ (hd G)
def var (i : Nat) : EM W := fun s => match s.env[i]? with
  | some (some w) => some (.ok w, s)
  | _ => none
theorem ee_var (i : Nat) (hK : X.K = c.K) {x : Str} (h : PE X (.Name x pos) (tVar i)) : EE c X U (.Name x pos) (var i) :=
  EE.mk1 hK h fun ρ G s σ H Q r w => by
    cases e : s.env[i]? with
    | none => exact w.none (by unfold var; simp only [e])
    | some o =>
      cases o with
      | none => exact w.none (by unfold var; simp only [e])
      | some x =>
        obtain ⟨v, h1, h2⟩ := r.env i x e
        exact ⟨v, h1, w.same r (by unfold var; simp only [e]) v h2⟩
/-! ### arguments -/
def anil : EM (List W) := pur []
def acons (m : EM W) (r : EM (List W)) : EM (List W) := bnd m fun w => bnd r fun ws => pur (w :: ws)
theorem ea_nil (hK : X.K = c.K) : EA c X U [] anil := ⟨hK, PA.imp pa_nil fun σ H Q ⟨ρ, G, s, r, w⟩ => Wp.pur r w _ rfl⟩
theorem ea_cons {m : EM W} {r : EM (List W)} (ha : EE c X U e m) (hr : EA c X U es r) (hs : starEach (e :: es) X.env = (false, eval e X.env) :: starEach es X.env := by rfl) : EA c X U (e :: es) (acons m r) :=
  ⟨ha.K, PA.imp (pa_cons ha.pe hr.pa hs) fun σ H Q ⟨ρ, G, s, hR, w⟩ => by
    refine ⟨ρ, G, s, hR, (Wp.bnd hR w).imp fun x ρ1 G1 H1 s1 ⟨S1, R1, w1⟩ v rv => ?_⟩
    refine ⟨ρ1, G1, s1, R1, (Wp.bnd R1 w1).imp fun xs ρ2 G2 H2 s2 ⟨S2, R2, w2⟩ vs rvs => ?_⟩
    exact Wp.pur R2 w2 _ ⟨v, vs, rfl, rv.mono S2.rho S2.same, rvs⟩⟩
/-! ### operators by values -/
/-- what a rule of two values does -/
def S2 (c : Kx) (r : R2) (f : Store → W → W → Option (W × Store)) : Prop :=
  ∀ (ρ : Rho) (G H : Hp) (st : Store) (x y w : W) (st' : Store) (vx vy : V) (Q : VK), RS c ρ G H st → RepW c ρ G x vx → RepW c ρ G y vy → f st x y = some (w, st') →
    (∀ v ρ' G' H', Stp ρ G H st ρ' G' H' st' → RS c ρ' G' H' st' → RepW c ρ' G' w v → Q v H') → r vx vy H Q
def op2 (f : Store → W → W → Option (W × Store)) (ma mb : EM W) : EM W := bnd ma fun x => bnd mb fun y => lft fun st => f st x y
theorem wp_op2 {r : R2} {f : Store → W → W → Option (W × Store)} (hs : S2 c r f) {ρ : Rho} {G H : Hp} {σ : L2.St} {s : SS} {Q : VK} (hR : R c ρ G σ H s) (w : Wp c U (op2 f ma mb) ρ G σ H s (fun w ρ' G' H' _ => ∀ v, RepW c ρ' G' w v → Q v H')) :
    tOp r (tE c U ma) (tE c U mb) σ H Q := by
  refine ⟨ρ, G, s, hR, (Wp.bnd hR w).imp fun x ρ1 G1 H1 s1 ⟨S1, R1, w1⟩ v rv => ?_⟩
  refine ⟨ρ1, G1, s1, R1, (Wp.bnd R1 w1).imp fun y ρ2 G2 H2 s2 ⟨S2, R2, w2⟩ u ru => ?_⟩
  obtain ⟨w, st', e, q⟩ := Wp.lft w2
  exact hs ρ2 G2 H2 s2.st x y w st' v u Q R2.rs (rv.mono S2.rho S2.same) ru e fun v' ρ' G' H' S3 R3 r3 => q ρ' G' H' S3 ⟨R3, R2.env.mono S3.rho S3.same, R2.len⟩ v' r3
theorem ee_op {op : Operator} {r : R2} {f : Store → W → W → Option (W × Store)} (ho : OpR X (binaryOp op) r) (hs : S2 c r f) (ha : EE c X U a ma) (hb : EE c X U b mb) : EE c X U (.BinOp a op b pos) (op2 f ma mb) :=
  EE.mk1 ha.K (pe_op ho ha.pe hb.pe) fun ρ G s σ H Q hR w => wp_op2 hs hR w
theorem ee_cmp {op : CmpOp} {r : R2} {f : Store → W → W → Option (W × Store)} (ho : OpR X (compareOp op) r) (hm : behindInMarks op b = false) (hs : S2 c r f) (ha : EE c X U a ma) (hb : EE c X U b mb) : EE c X U (.Compare a [op] [b] pos) (op2 f ma mb) :=
  EE.mk1 ha.K (pe_cmpR ho ha.pe hb.pe hm) fun ρ G s σ H Q hR w => wp_op2 hs hR w
/-- a truth -/
def toB (m : EM W) : EM Bool := bnd m fun w => match w with
  | .d (.bl b) => pur b
  | _ => non
theorem wp_toB {m : EM W} {ρ : Rho} {G H : Hp} {σ : L2.St} {s : SS} {Q : Bool → Hp → Prop} (hR : R c ρ G σ H s) (w : Wp c U (toB m) ρ G σ H s (fun b _ _ H' _ => Q b H')) :
    Wp c U m ρ G σ H s (fun w ρ' G' H' _ => ∀ v, RepW c ρ' G' w v → ∃ k, v = .bl k ∧ Q k H') := by
  refine (Wp.bnd hR w).imp fun x ρ1 G1 H1 s1 ⟨S1, R1, w1⟩ v rv => ?_
  cases x with
  | loc n => exact w1.none rfl
  | d x =>
    cases x with
    | bl b =>
      cases rv
      exact ⟨b, rfl, Wp.pur R1 w1⟩
    | _ => exact w1.none rfl
theorem et_cmp {op : CmpOp} {r : R2} {f : Store → W → W → Option (W × Store)} (ho : OpR X (compareOp op) r) (hm : behindInMarks op b = false) (hs : S2 c r f) (ha : EE c X U a ma) (hb : EE c X U b mb) : ET c X U (.Compare a [op] [b] pos) (toB (op2 f ma mb)) :=
  ⟨ha.K, PT.imp (pt_cmpR ho ha.pe hb.pe hm) fun σ H Q ⟨ρ, G, s, hR, w⟩ => wp_op2 hs hR (wp_toB hR w)⟩
theorem et_val {m : EM W} (h : EE c X U e m) (he : ∀ whole, isTrue e X.env whole = (do let v ← whole; standAt e.pos; holding [v] (truthy v)) := by intro _; rfl) : ET c X U e (toB m) :=
  ⟨h.K, PT.imp (pt_val h.pe he) fun σ H Q ⟨ρ, G, s, hR, w⟩ => ⟨ρ, G, s, hR, wp_toB hR w⟩⟩
/-! ### and, or, not -/
def ntB (m : EM Bool) : EM Bool := bnd m fun b => pur (!b)
def anB (m r : EM Bool) : EM Bool := bnd m fun b => if b then r else pur false
def orB (m r : EM Bool) : EM Bool := bnd m fun b => if b then pur true else r
variable {m1 m2 : EM Bool} {rest : List Expr}
theorem et_not (h : ET c X U a m1) : ET c X U (.UnaryOp .Not a pos) (ntB m1) :=
  ⟨h.K, PT.imp (pt_not h.pt) fun σ H Q ⟨ρ, G, s, hR, w⟩ => ⟨ρ, G, s, hR, (Wp.bnd hR w).imp fun x ρ1 G1 H1 s1 ⟨S1, R1, w1⟩ => Wp.pur R1 w1⟩⟩
theorem ew_and1 (h : ET c X U a m1) : EWt c X U (.BoolOp .And [a] pos) m1 := ⟨h.K, pw_and1 h.pt⟩
theorem ew_or1 (h : ET c X U a m1) : EWt c X U (.BoolOp .Or [a] pos) m1 := ⟨h.K, pw_or1 h.pt⟩
theorem ew_and (h : ET c X U a m1) (h2 : EWt c X U (.BoolOp .And (b :: rest) pos) m2) : EWt c X U (.BoolOp .And (a :: b :: rest) pos) (anB m1 m2) :=
  ⟨h.K, PW.imp (pw_and h.pt h2.pw) fun σ H Q ⟨ρ, G, s, hR, w⟩ => ⟨ρ, G, s, hR, (Wp.bnd hR w).imp fun x ρ1 G1 H1 s1 ⟨S1, R1, w1⟩ => by
    cases x with
    | true => exact iteT ⟨ρ1, G1, s1, R1, w1⟩
    | false => exact iteF (Wp.pur R1 w1)⟩⟩
theorem ew_or (h : ET c X U a m1) (h2 : EWt c X U (.BoolOp .Or (b :: rest) pos) m2) : EWt c X U (.BoolOp .Or (a :: b :: rest) pos) (orB m1 m2) :=
  ⟨h.K, PW.imp (pw_or h.pt h2.pw) fun σ H Q ⟨ρ, G, s, hR, w⟩ => ⟨ρ, G, s, hR, (Wp.bnd hR w).imp fun x ρ1 G1 H1 s1 ⟨S1, R1, w1⟩ => by
    cases x with
    | true => exact iteT (Wp.pur R1 w1)
    | false => exact iteF ⟨ρ1, G1, s1, R1, w1⟩⟩⟩
theorem EWt.et (h : EWt c X U e m1) : ET c X U e m1 := ⟨h.K, h.pw.pt⟩
/-- a truth as a value -/
def ofB (m : EM Bool) : EM W := bnd m fun b => pur (.d (.bl b))
/-- .. as values: operands are truths -/
theorem ee_one {op} {m : EM W} (h : EE c X U a m) : EE c X U (.BoolOp op [a] pos) m := ⟨h.K, pe_one h.pe⟩
def anV (m r : EM W) : EM W := bnd (toB m) fun b => if b then r else pur (.d (.bl false))
def orV (m r : EM W) : EM W := bnd (toB m) fun b => if b then pur (.d (.bl true)) else r
def ntV (m : EM W) : EM W := bnd (toB m) fun b => pur (.d (.bl (!b)))
theorem wp_toBv {α : Type} {m : EM W} {f : Bool → EM α} {ρ : Rho} {G H : Hp} {σ : L2.St} {s : SS} {k : α → Rho → Hp → Hp → SS → Prop} (hR : R c ρ G σ H s) (w : Wp c U (bnd (toB m) f) ρ G σ H s k) :
    Wp c U m ρ G σ H s (fun w ρ1 G1 H1 s1 => ∀ v, RepW c ρ1 G1 w v → ∃ b, v = .bl b ∧ Stp ρ G H s.st ρ1 G1 H1 s1.st ∧ R c ρ1 G1 σ H1 s1 ∧ Wp c U (f b) ρ1 G1 σ H1 s1 k) := by
  have e : bnd (toB m) f = bnd m fun w => bnd (match w with | .d (.bl b) => pur b | _ => non) f := by
    funext s
    unfold toB bnd
    cases m s with
    | none => rfl
    | some p => obtain ⟨o, s1⟩ := p; cases o <;> rfl
  rw [e] at w
  refine (Wp.bnd hR w).imp fun x ρ1 G1 H1 s1 ⟨S1, R1, w1⟩ v rv => ?_
  cases x with
  | loc n => exact w1.none rfl
  | d x =>
    cases x with
    | bl b =>
      cases rv
      exact ⟨b, rfl, S1, R1, w1⟩
    | _ => exact w1.none rfl
theorem ee_and {mr : EM W} (ha : EE c X U a ma) (hb : EE c X U (.BoolOp .And (b :: rest) pos) mr) : EE c X U (.BoolOp .And (a :: b :: rest) pos) (anV ma mr) :=
  EE.mk1 ha.K (pe_and ha.pe hb.pe) fun ρ G s σ H Q hR w => ⟨ρ, G, s, hR, (wp_toBv hR w).imp fun x ρ1 G1 H1 s1 h v rv => by
    obtain ⟨b, rfl, S1, R1, w1⟩ := h v rv
    refine ⟨b, rfl, ?_⟩
    cases b with
    | true => exact iteT ⟨ρ1, G1, s1, R1, w1⟩
    | false => exact iteF (Wp.pur R1 w1 _ (.bl false))⟩
theorem ee_or {mr : EM W} (ha : EE c X U a ma) (hb : EE c X U (.BoolOp .Or (b :: rest) pos) mr) : EE c X U (.BoolOp .Or (a :: b :: rest) pos) (orV ma mr) :=
  EE.mk1 ha.K (pe_or ha.pe hb.pe) fun ρ G s σ H Q hR w => ⟨ρ, G, s, hR, (wp_toBv hR w).imp fun x ρ1 G1 H1 s1 h v rv => by
    obtain ⟨b, rfl, S1, R1, w1⟩ := h v rv
    refine ⟨b, rfl, ?_⟩
    cases b with
    | true => exact iteT (Wp.pur R1 w1 _ (.bl true))
    | false => exact iteF ⟨ρ1, G1, s1, R1, w1⟩⟩
theorem ee_not (ha : EE c X U a ma) : EE c X U (.UnaryOp .Not a pos) (ntV ma) :=
  EE.mk1 ha.K (pe_not ha.pe) fun ρ G s σ H Q hR w => ⟨ρ, G, s, hR, (wp_toBv hR w).imp fun x ρ1 G1 H1 s1 h v rv => by
    obtain ⟨b, rfl, S1, R1, w1⟩ := h v rv
    exact ⟨b, rfl, Wp.pur R1 w1 _ (.bl (!b))⟩⟩
def ifE {α : Type} (t : EM Bool) (ma mb : EM α) : EM α := bnd t fun b => if b then ma else mb
theorem ee_if {t : Expr} (ht : ET c X U t m1) (ha : EE c X U a ma) (hb : EE c X U b mb) : EE c X U (.IfExp t a b pos) (ifE m1 ma mb) :=
  EE.mk1 ha.K (pe_ifExp ht.pt ha.pe hb.pe) fun ρ G s σ H Q hR w => ⟨ρ, G, s, hR, (Wp.bnd hR w).imp fun x ρ1 G1 H1 s1 ⟨S1, R1, w1⟩ => by
    cases x with
    | true => exact iteT ⟨ρ1, G1, s1, R1, w1⟩
    | false => exact iteF ⟨ρ1, G1, s1, R1, w1⟩⟩
end
end EV
/-! EV2: statements, loops, defs. -/
namespace EV
open PySem L2
section
variable {α β : Type}
def Ws (c : Kx) (U : WX) (m : EM α) (ρ : Rho) (G H : Hp) (s : SS) (k : α → Rho → Hp → L2.St → Hp → SS → Prop) : Prop :=
  match m s with
  | none => False
  | some (.ok a, s') => ∀ ρ' G' σ' H', Stp ρ G H s.st ρ' G' H' s'.st → R c ρ' G' σ' H' s' → k a ρ' G' σ' H' s'
  | some (.ex C ks ds, s') => ∀ ρ' G' σ' H' cls d, Stp ρ G H s.st ρ' G' H' s'.st → R c ρ' G' σ' H' s' → XOk c G' C ks ds cls d → U cls d σ' H'
variable {c : Kx} {U : WX} {m : EM α} {ρ : Rho} {G : Hp} {σ : L2.St} {H : Hp} {s s' : SS} {k k' : α → Rho → Hp → L2.St → Hp → SS → Prop}
theorem Ws.imp (h : Ws c U m ρ G H s k) (q : ∀ a ρ' G' σ' H' s', k a ρ' G' σ' H' s' → k' a ρ' G' σ' H' s') : Ws c U m ρ G H s k' := by
  unfold Ws at h ⊢
  cases e : m s with
  | none => rw [e] at h; exact h.elim
  | some p =>
    obtain ⟨o, s1⟩ := p
    cases o with
    | ok a => rw [e] at h; exact fun ρ' G' σ' H' S R => q _ _ _ _ _ _ (h ρ' G' σ' H' S R)
    | ex _ _ _ => rw [e] at h; exact h
/-- an expression ahead -/
theorem Ws.bndE {f : α → EM β} {k : β → Rho → Hp → L2.St → Hp → SS → Prop} (hR : R c ρ G σ H s) (h : Ws c U (bnd m f) ρ G H s k) :
    Wp c U m ρ G σ H s (fun a ρ1 G1 H1 s1 => Stp ρ G H s.st ρ1 G1 H1 s1.st ∧ R c ρ1 G1 σ H1 s1 ∧ Ws c U (f a) ρ1 G1 H1 s1 k) := by
  unfold Ws at h
  unfold Wp
  cases e : m s with
  | none => rw [bnd_no e] at h; exact h.elim
  | some p =>
    obtain ⟨o, s1⟩ := p
    cases o with
    | ok a =>
      rw [bnd_ok e] at h
      intro ρ1 G1 H1 S1 R1
      refine ⟨S1, R1, ?_⟩
      unfold Ws
      cases e2 : f a s1 with
      | none => rw [e2] at h; exact h.elim
      | some p =>
        obtain ⟨o, s2⟩ := p
        cases o with
        | ok b => rw [e2] at h; exact fun ρ2 G2 σ2 H2 S2 R2 => h ρ2 G2 σ2 H2 (S1.trans hR.rs.len S2) R2
        | ex _ _ _ => rw [e2] at h; exact fun ρ2 G2 σ2 H2 cls d S2 R2 x => h ρ2 G2 σ2 H2 cls d (S1.trans hR.rs.len S2) R2 x
    | ex _ _ _ => rw [bnd_ex e] at h; exact fun ρ1 G1 H1 cls d S1 R1 x => h ρ1 G1 σ H1 cls d S1 R1 x
/-- a statement ahead -/
theorem Ws.bnd {f : α → EM β} {k : β → Rho → Hp → L2.St → Hp → SS → Prop} (hl : ρ.length = s.st.length) (h : Ws c U (bnd m f) ρ G H s k) :
    Ws c U m ρ G H s (fun a ρ1 G1 σ1 H1 s1 => Stp ρ G H s.st ρ1 G1 H1 s1.st ∧ R c ρ1 G1 σ1 H1 s1 ∧ Ws c U (f a) ρ1 G1 H1 s1 k) := by
  unfold Ws at h ⊢
  cases e : m s with
  | none => rw [bnd_no e] at h; exact h.elim
  | some p =>
    obtain ⟨o, s1⟩ := p
    cases o with
    | ok a =>
      rw [bnd_ok e] at h
      intro ρ1 G1 σ1 H1 S1 R1
      refine ⟨S1, R1, ?_⟩
      cases e2 : f a s1 with
      | none => rw [e2] at h; exact h.elim
      | some p =>
        obtain ⟨o, s2⟩ := p
        cases o with
        | ok b => rw [e2] at h; exact fun ρ2 G2 σ2 H2 S2 R2 => h ρ2 G2 σ2 H2 (S1.trans hl S2) R2
        | ex _ _ _ => rw [e2] at h; exact fun ρ2 G2 σ2 H2 cls d S2 R2 x => h ρ2 G2 σ2 H2 cls d (S1.trans hl S2) R2 x
    | ex _ _ _ => rw [bnd_ex e] at h; exact h
theorem Ws.pur {a : α} (hR : R c ρ G σ H s) (h : Ws c U (pur a) ρ G H s k) : k a ρ G σ H s := h ρ G σ H Stp.refl hR
theorem Ws.none (e : m s = none) (h : Ws c U m ρ G H s k) {P : Prop} : P := by
  unfold Ws at h; rw [e] at h; exact h.elim
theorem Ws.after {ρ1 : Rho} {G1 H1 : Hp} {st : Store} (hl : ρ.length = st.length) (S : Stp ρ G H st ρ1 G1 H1 s.st) (h : Ws c U m ρ G H ⟨s.env, st⟩ k) (e : m ⟨s.env, st⟩ = m s) : Ws c U m ρ1 G1 H1 s k := by
  unfold Ws at h ⊢
  rw [e] at h
  cases e : m s with
  | none => rw [e] at h; exact h.elim
  | some p =>
    obtain ⟨o, s1⟩ := p
    cases o with
    | ok a => rw [e] at h; exact fun ρ' G' σ' H' S' R => h ρ' G' σ' H' (S.trans hl S') R
    | ex _ _ _ => rw [e] at h; exact fun ρ' G' σ' H' cls d S' R x => h ρ' G' σ' H' cls d (S.trans hl S') R x
end
/-! ### statements -/
def kD (c : Kx) (D : Ends) : Fl → Rho → Hp → L2.St → Hp → SS → Prop := fun f ρ' G' σ' H' _ => match f with
  | .nx => D.nx σ' H'
  | .ret w => ∀ v, RepW c ρ' G' w v → D.rt v H'
  | .brk => D.bk σ' H'
  | .cnt => D.ct σ' H'
def tS (c : Kx) (U : WX) (m : EM Fl) : TS := fun D σ H => ∃ ρ G s, R c ρ G σ H s ∧ Ws c U m ρ G H s (kD c D)
structure ES (c : Kx) (X : Cx) (U : WX) (st : Stmt) (m : EM Fl) : Prop where
  K : X.K = c.K
  ps : PS X st (tS c U m)
structure ESs (c : Kx) (X : Cx) (U : WX) (sts : List Stmt) (m : EM Fl) : Prop where
  K : X.K = c.K
  ps : PSs X sts (tS c U m)
theorem PS.imp {X : Cx} {st : Stmt} {t t' : TS} (h : PS X st t) (q : ∀ D σ H, t' D σ H → t D σ H) : PS X st t' := ⟨fun pins s σ H D I x => h.run pins s σ H D I (q D σ H x)⟩
theorem PSs.imp {X : Cx} {st : List Stmt} {t t' : TS} (h : PSs X st t) (q : ∀ D σ H, t' D σ H → t D σ H) : PSs X st t' := ⟨fun pins s σ H D I x => h.run pins s σ H D I (q D σ H x)⟩
def sq (m r : EM Fl) : EM Fl := bnd m fun f => match f with
  | .nx => r
  | .ret w => pur (.ret w)
  | .brk => pur .brk
  | .cnt => pur .cnt
section
variable {c : Kx} {X : Cx} {U : WX} {st : Stmt} {rest body orelse : List Stmt} {e t a b : Expr} {m r : EM Fl} {me ma mb : EM W} {mt : EM Bool} {pos pos' : Pos}
theorem ess_nil (hK : X.K = c.K) : ESs c X U [] (pur .nx) := ⟨hK, PSs.imp pss_nil fun D σ H ⟨ρ, G, s, hR, w⟩ => Ws.pur hR w⟩
theorem wp_sq {D : Ends} {ρ : Rho} {G H : Hp} {σ : L2.St} {s : SS} (hR : R c ρ G σ H s) (w : Ws c U (sq m r) ρ G H s (kD c D)) : Ws c U m ρ G H s (kD c { D with nx := tS c U r D }) := by
  refine (Ws.bnd hR.rs.len w).imp fun f ρ1 G1 σ1 H1 s1 ⟨S1, R1, w1⟩ => ?_
  cases f with
  | nx => exact ⟨ρ1, G1, s1, R1, w1⟩
  | ret w => exact fun v rv => Ws.pur (U := U) R1 w1 v rv
  | brk => exact Ws.pur (U := U) R1 w1
  | cnt => exact Ws.pur (U := U) R1 w1
theorem ess_cons (h : ES c X U st m) (hr : ESs c X U rest r) : ESs c X U (st :: rest) (sq m r) :=
  ⟨h.K, PSs.imp (pss_cons h.ps hr.ps) fun D σ H ⟨ρ, G, s, hR, w⟩ => ⟨ρ, G, s, hR, wp_sq hR w⟩⟩
theorem ess_one (h : ES c X U st m) : ESs c X U [st] m := ⟨h.K, pss_one h.ps⟩
theorem es_pass (hK : X.K = c.K) : ES c X U (.Pass pos) (pur .nx) := ⟨hK, PS.imp ps_pass fun D σ H ⟨ρ, G, s, hR, w⟩ => Ws.pur hR w⟩
theorem es_break (hK : X.K = c.K) : ES c X U (.Break pos) (pur .brk) := ⟨hK, PS.imp ps_break fun D σ H ⟨ρ, G, s, hR, w⟩ => Ws.pur hR w⟩
theorem es_continue (hK : X.K = c.K) : ES c X U (.Continue pos) (pur .cnt) := ⟨hK, PS.imp ps_continue fun D σ H ⟨ρ, G, s, hR, w⟩ => Ws.pur hR w⟩
def exprS (m : EM W) : EM Fl := bnd m fun _ => pur .nx
theorem es_expr (he : EE c X U e me) (hs : swapsWith e none pos.line X.env = pure false := by rfl) : ES c X U (.Expr e pos) (exprS me) :=
  ⟨he.K, PS.imp (ps_expr he.pe hs) fun D σ H ⟨ρ, G, s, hR, w⟩ => ⟨ρ, G, s, hR, (Ws.bndE hR w).imp fun x ρ1 G1 H1 s1 ⟨S1, R1, w1⟩ v rv => Ws.pur R1 w1⟩⟩
def retS (m : EM W) : EM Fl := bnd m fun w => pur (.ret w)
theorem es_ret (he : EE c X U e me) : ES c X U (.Return (some e) pos) (retS me) :=
  ⟨he.K, PS.imp (ps_ret he.pe) fun D σ H ⟨ρ, G, s, hR, w⟩ => ⟨ρ, G, s, hR, (Ws.bndE hR w).imp fun x ρ1 G1 H1 s1 ⟨S1, R1, w1⟩ v rv => Ws.pur R1 w1 v rv⟩⟩
theorem es_retN (hK : X.K = c.K) : ES c X U (.Return none pos) (pur (.ret (.d .non))) := ⟨hK, PS.imp ps_retN fun D σ H ⟨ρ, G, s, hR, w⟩ => Ws.pur hR w _ .non⟩
theorem es_if (ht : ET c X U t mt) (h1 : ESs c X U body m) (h2 : ESs c X U orelse r) : ES c X U (.If t body orelse pos) (ifE mt m r) :=
  ⟨ht.K, PS.imp (ps_if ht.pt h1.ps h2.ps) fun D σ H ⟨ρ, G, s, hR, w⟩ => ⟨ρ, G, s, hR, (Ws.bndE hR w).imp fun b ρ1 G1 H1 s1 ⟨S1, R1, w1⟩ => by
    cases b with
    | true => exact iteT ⟨ρ1, G1, s1, R1, w1⟩
    | false => exact iteF ⟨ρ1, G1, s1, R1, w1⟩⟩⟩
/-! ### targets -/
inductive Tg where
  | name (i : Nat) | tup (is : List Nat)
def Tg.is : Tg → List Nat
  | .name i => [i]
  | .tup is => is
def gNames : List Nat → TGs
  | [] => gNil
  | i :: r => gCons (gName i) (gNames r)
def gOf (K : PySem.W.Frag) : Tg → TG
  | .name i => gName i
  | .tup is => gTup K is.length (gNames is)
def setAll {α : Type} : List Nat → List α → List (Option α) → List (Option α)
  | i :: is, w :: ws, l => setAll is ws (l.set i (some w))
  | _, _, l => l
/-- the target is given its value -/
def asg (t : Tg) (w : W) : EM Unit := fun s => match t with
  | .name i => some (.ok (), ⟨s.env.set i (some w), s.st⟩)
  | .tup is => match w with
    | .d (.tup ds) => if ds.length = is.length then some (.ok (), ⟨setAll is (ds.map .d) s.env, s.st⟩) else none
    | .loc n => match s.st[n]? with
      | some (some (.tup ws)) => if ws.length = is.length then some (.ok (), ⟨setAll is ws s.env, s.st⟩) else none
      | _ => none
    | _ => none
theorem EnvOk.set {ρ : Rho} {G : Hp} {env : List (Option W)} {σ : L2.St} {i : Nat} {w : W} {v : V} (hl : env.length = σ.length) (h : EnvOk c ρ G env σ) (r : RepW c ρ G w v) : EnvOk c ρ G (env.set i (some w)) (σ.set i (some v)) := fun j x e => by
  by_cases hj : j = i
  · subst hj
    have hlt : j < env.length := by
      have := (List.getElem?_eq_some_iff.mp e).1
      simpa using this
    rw [List.getElem?_set_self hlt] at e
    cases e
    exact ⟨v, by rw [List.getElem?_set_self (by omega)], r⟩
  · rw [List.getElem?_set_ne (Ne.symm hj)] at e
    obtain ⟨u, h1, h2⟩ := h j x e
    exact ⟨u, by rw [List.getElem?_set_ne (Ne.symm hj)]; exact h1, h2⟩
theorem setAll_len {α : Type} : ∀ (is : List Nat) (ws : List α) (l : List (Option α)), (setAll is ws l).length = l.length
  | [], _, _ => rfl
  | _ :: _, [], _ => rfl
  | i :: is, w :: ws, l => by unfold setAll; rw [setAll_len is ws]; simp
theorem setAll_ok {ρ : Rho} {G : Hp} : ∀ (is : List Nat) (ws : List W) (vs : List V) (env : List (Option W)) (σ : L2.St), env.length = σ.length → EnvOk c ρ G env σ → RepWs c ρ G ws vs → EnvOk c ρ G (setAll is ws env) (setAll is vs σ)
  | [], _, _, _, _, _, h, _ => h
  | _ :: _, [], _, _, _, _, h, r => by have r : _ = [] := r; subst r; exact h
  | i :: is, w :: ws, _, env, σ, hl, h, ⟨v, vs, e, r, t⟩ => by
    subst e
    exact setAll_ok is ws vs _ _ (by simpa using hl) (h.set hl r) t
theorem gNames_of {Q : L2.St → Hp → Prop} {H : Hp} : ∀ (is : List Nat) (vs : List V) (σ : L2.St), vs.length = is.length → Q (setAll is vs σ) H → gNames is vs σ H Q
  | [], [], _, _, q => ⟨rfl, q⟩
  | [], _ :: _, _, h, _ => by simp at h
  | _ :: _, [], _, h, _ => by simp at h
  | i :: is, v :: vs, σ, h, q => ⟨v, vs, rfl, gNames_of is vs _ (by simpa using h) q⟩
/-- what the target's reading asks -/
theorem asg_ok {t : Tg} {w : W} {ρ : Rho} {G H : Hp} {σ : L2.St} {s s' : SS} {v : V} {o : Out Unit} {Q : L2.St → Hp → Prop} (hR : R c ρ G σ H s) (r : RepW c ρ G w v) (e : asg t w s = some (o, s'))
    (q : ∀ σ', R c ρ G σ' H s' → s'.st = s.st → o = .ok () → (∃ ws : List V, σ' = setAll t.is ws σ) → Q σ' H) : gOf c.K t v σ H Q := by
  unfold asg at e
  cases t with
  | name i =>
    simp only [Option.some.injEq, Prod.mk.injEq] at e
    obtain ⟨rfl, rfl⟩ := e
    exact q _ ⟨hR.rs, hR.env.set hR.len r, by simpa using hR.len⟩ rfl rfl ⟨[v], rfl⟩
  | tup is =>
    cases w with
    | loc n =>
      simp only at e
      cases ho : s.st[n]? with
      | none => rw [ho] at e; cases e
      | some oo =>
        cases oo with
        | none => rw [ho] at e; cases e
        | some oo =>
          cases oo with
          | lst _ => rw [ho] at e; cases e
          | dct _ _ => rw [ho] at e; cases e
          | ins _ _ _ => rw [ho] at e; cases e
          | tup ws =>
            rw [ho] at e
            simp only at e
            split at e
            · rename_i hl
              simp only [Option.some.injEq, Prod.mk.injEq] at e
              obtain ⟨rfl, rfl⟩ := e
              obtain ⟨p, hp, rfl⟩ := r
              obtain ⟨_, _, _, vs, h, hr⟩ := hR.rs.own n p _ hp ho
              have hl2 : vs.length = is.length := by rw [hr.len]; exact hl
              refine ⟨p.1, vs, rfl, SqT.of h, hl2, gNames_of is vs σ hl2 (q _ ⟨hR.rs, setAll_ok is _ vs _ _ hR.len hR.env hr, ?_⟩ rfl rfl ⟨vs, rfl⟩)⟩
              show (setAll _ _ _).length = (setAll _ _ _).length
              rw [setAll_len, setAll_len]
              exact hR.len
            · cases e
    | d x =>
      cases x with
      | tup ds =>
        simp only at e
        split at e
        · rename_i hl
          simp only [Option.some.injEq, Prod.mk.injEq] at e
          obtain ⟨rfl, rfl⟩ := e
          cases r with
          | tup hs rs =>
            rename_i a vs
            have hl2 : vs.length = is.length := by rw [rs.len]; exact hl
            refine ⟨a, vs, rfl, SqT.same hR.rs.sub hs, hl2, gNames_of is vs σ hl2 (q _ ⟨hR.rs, setAll_ok is _ vs _ _ hR.len hR.env (RepWs.ofD rs), ?_⟩ rfl rfl ⟨vs, rfl⟩)⟩
            show (setAll _ _ _).length = (setAll _ _ _).length
            rw [setAll_len, setAll_len]
            exact hR.len
        · cases e
      | _ => simp at e
structure EG (c : Kx) (X : Cx) (target : Expr) (t : Tg) : Prop where
  pg : PG X target (gOf c.K t)
theorem eg_name {i : Nat} {x : Str} (h : PG X (.Name x pos) (gName i)) : EG c X (.Name x pos) (.name i) := ⟨h⟩
theorem eg_tup {is : List Nat} {es : List Expr} {k : Nat} (hK : X.K = c.K) (hc : X.calm = true) (h : PGs X es (gNames is)) (hn : (assignEach es X.env).length = is.length := by rfl) (hst : (assignEach es X.env).findIdx? (·.1) = none := by rfl) : EG c X (.Tuple es k pos) (.tup is) :=
  ⟨by
    have h := pg_tup (k := k) (pos := pos) hc h hn hst
    rw [hK] at h
    exact h⟩
/-- target = e -/
def asgS (t : Tg) (m : EM W) : EM Fl := bnd m fun w => bnd (asg t w) fun _ => pur .nx
theorem ws_asg {t : Tg} {w : W} {f : Unit → EM Fl} {ρ : Rho} {G H : Hp} {σ : L2.St} {s : SS} {v : V} {k : Fl → Rho → Hp → L2.St → Hp → SS → Prop} {Q : L2.St → Hp → Prop} (hR : R c ρ G σ H s) (r : RepW c ρ G w v) (h : Ws c U (bnd (asg t w) f) ρ G H s k)
    (q : ∀ σ' s', R c ρ G σ' H s' → s'.st = s.st → (∃ ws : List V, σ' = setAll t.is ws σ) → Ws c U (f ()) ρ G H s' k → Q σ' H) : gOf c.K t v σ H Q := by
  cases e : asg t w s with
  | none => exact h.none (bnd_no e)
  | some p =>
    obtain ⟨o, s'⟩ := p
    refine asg_ok hR r e fun σ' R' hst ho hw => q σ' s' R' hst hw ?_
    subst ho
    unfold Ws at h ⊢
    rw [bnd_ok e, ← hst] at h
    exact h
theorem es_asg {tg : Expr} {t : Tg} (he : EE c X U e me) (hg : EG c X tg t) (hs : swapsWithSole [tg] e pos.line X.env = pure false := by rfl) (hw : swappedStores [tg] e X.env = pure none := by rfl)
    (h1 : (assignEach [tg] X.env).map (·.2) = [assign tg X.env] := by rfl) : ES c X U (.Assign [tg] e pos) (asgS t me) :=
  ⟨he.K, PS.imp (ps_asg he.pe hg.pg hs hw h1) fun D σ H ⟨ρ, G, s, hR, w⟩ => ⟨ρ, G, s, hR, (Ws.bndE hR w).imp fun x ρ1 G1 H1 s1 ⟨S1, R1, w1⟩ v rv => ws_asg R1 rv w1 fun σ' s' R' _ _ w' => Ws.pur R' w'⟩⟩
/-! ### loops -/
/-- an iterator J gives ds -/
structure Iter (c : Kx) (G : Hp) (J : It) (ds : List D) : Prop where
  go : ∀ i H, Same G H → i < ds.length → J.go i H
  stop : ∀ H, Same G H → J.stop ds.length H
  yld : ∀ (i : Nat) H x H' (d : D), Same G H → ds[i]? = some d → J.yld i H x H' → ∀ ρ G1 st, Same G G1 → RS c ρ G1 H st → ∃ G2, Stp ρ G1 H st ρ G2 H' st ∧ RS c ρ G2 H' st ∧ RepD c G2 d x
def tI (c : Kx) (U : WX) (m : EM (List D)) : TI := fun σ H Rk => ∃ ρ G s, R c ρ G σ H s ∧ Wp c U m ρ G σ H s (fun ds _ G' H' _ => ∀ J, Iter c G' J ds → Rk J H')
structure EI (c : Kx) (X : Cx) (U : WX) (tg iter : Expr) (m : EM (List D)) : Prop where
  K : X.K = c.K
  pi : PI X tg iter (tI c U m)
def loopS (t : Tg) (body : EM Fl) : List D → EM Fl
  | [] => pur .nx
  | d :: ds => bnd (bnd (asg t (.d d)) fun _ => body) fun f => match f with
    | .nx => loopS t body ds
    | .cnt => loopS t body ds
    | .brk => pur .nx
    | .ret w => pur (.ret w)
def forS (mi : EM (List D)) (t : Tg) (body : EM Fl) : EM Fl := bnd mi fun ds => loopS t body ds
theorem Ws.step {α : Type} {mm : EM α} {ρ : Rho} {G H G1 H1 : Hp} {s : SS} {k : α → Rho → Hp → L2.St → Hp → SS → Prop} (hl : ρ.length = s.st.length) (S : Stp ρ G H s.st ρ G1 H1 s.st) (h : Ws c U mm ρ G H s k) : Ws c U mm ρ G1 H1 s k :=
  Ws.after (s := s) hl S h rfl
theorem bnd_assoc {α β γ : Type} (m : EM α) (f : α → EM β) (g : β → EM γ) : bnd (bnd m f) g = bnd m fun a => bnd (f a) g := by
  funext s
  unfold bnd
  cases m s with
  | none => rfl
  | some p =>
    obtain ⟨o, s1⟩ := p
    cases o <;> rfl
theorem es_for {tg iter : Expr} {t : Tg} {mi : EM (List D)} (hp : PassesOwn (model X.prog X.w) X.A X.env X.xe) (hc : X.calm = true) (hi : EI c X U tg iter mi) (hg : EG c X tg t) (hb : ESs c X U body m) (hs : ∀ x, foldedSetIterable iter X.env x = pure x := by intro _; rfl) :
    ES c X U (.For tg iter body [] pos) (forS mi t m) :=
  ⟨hi.K, PS.imp (ps_for hp hc hi.pi hg.pg hb.ps hs) fun D σ H ⟨ρ, G, s, hR, w⟩ => ⟨ρ, G, s, hR, (Ws.bndE hR w).imp fun ds ρ1 G1 H1 s1 ⟨S1, R1, w1⟩ J it => by
    refine ⟨fun i n σ H => ∃ ρ2 G2 s2, i ≤ ds.length ∧ n = ds.length - i ∧ Same G1 G2 ∧ R c ρ2 G2 σ H s2 ∧ Ws c U (loopS t m (ds.drop i)) ρ2 G2 H s2 (kD c D), ⟨ds.length, ρ1, G1, s1, Nat.zero_le _, by simp, Same.refl _, R1, by simpa using w1⟩, ?_⟩
    rintro i n σ2 H2 ⟨ρ2, G2, s2, hi, rfl, sm, R2, w2⟩
    have sH : Same G1 H2 := sm.trans R2.rs.sub
    by_cases hlt : i < ds.length
    · refine .inr ⟨it.go i H2 sH hlt, fun σ H => ∃ ρ2 G2 s2, Same G1 G2 ∧ R c ρ2 G2 σ H s2 ∧ Ws c U (loopS t m (ds.drop (i + 1))) ρ2 G2 H s2 (kD c D), fun σ' H' ⟨ρ3, G3, s3, h1, h2, h3⟩ => ⟨ds.length - (i + 1), by omega, ρ3, G3, s3, hlt, rfl, h1, h2, h3⟩, fun x H' hy => ?_⟩
      obtain ⟨G3, S3, RS3, rx⟩ := it.yld i H2 x H' ds[i] sH (List.getElem?_eq_getElem hlt) hy ρ2 G2 s2.st sm R2.rs
      have R3 : R c ρ2 G3 σ2 H' s2 := ⟨RS3, R2.env.mono S3.rho S3.same, R2.len⟩
      have ed : ds.drop i = ds[i] :: ds.drop (i + 1) := List.drop_eq_getElem_cons hlt
      rw [ed] at w2
      unfold loopS at w2
      rw [bnd_assoc] at w2
      refine ws_asg (w := .d ds[i]) R3 rx (w2.step R2.rs.len S3) fun σ4 s4 R4 _ _ w4 => ?_
      refine ⟨ρ2, G3, s4, R4, (Ws.bnd R4.rs.len w4).imp fun f ρ5 G5 σ5 H5 s5 ⟨S5, R5, w5⟩ => ?_⟩
      cases f with
      | nx => exact ⟨ρ5, G5, s5, (sm.trans S3.same).trans S5.same, R5, w5⟩
      | cnt => exact ⟨ρ5, G5, s5, (sm.trans S3.same).trans S5.same, R5, w5⟩
      | brk => exact Ws.pur (U := U) R5 w5
      | ret w => exact fun v rv => Ws.pur (U := U) R5 w5 v rv
    · have e : i = ds.length := by omega
      subst e
      rw [List.drop_length] at w2
      exact .inl ⟨it.stop H2 sH, Ws.pur R2 w2⟩⟩⟩
def whileS : Nat → EM Bool → EM Fl → EM Fl
  | 0, _, _ => non
  | n + 1, t, b => bnd t fun k => if k then bnd b fun f => match f with
    | .nx => whileS n t b
    | .cnt => whileS n t b
    | .brk => pur .nx
    | .ret w => pur (.ret w)
    else pur .nx
theorem es_while {n : Nat} (hp : PassesOwn (model X.prog X.w) X.A X.env X.xe) (ht : ET c X U t mt) (hb : ESs c X U body m) : ES c X U (.While t body [] pos) (whileS n mt m) :=
  ⟨ht.K, PS.imp (ps_while hp ht.pt hb.ps) fun D σ H ⟨ρ, G, s, hR, w⟩ => by
    refine ⟨fun n σ H => ∃ ρ G s, R c ρ G σ H s ∧ Ws c U (whileS n mt m) ρ G H s (kD c D), ⟨n, ρ, G, s, hR, w⟩, ?_⟩
    rintro n σ1 H1 ⟨ρ1, G1, s1, R1, w1⟩
    cases n with
    | zero => exact w1.none rfl
    | succ n =>
      unfold whileS at w1
      refine ⟨ρ1, G1, s1, R1, (Ws.bndE R1 w1).imp fun b ρ2 G2 H2 s2 ⟨S2, R2, w2⟩ => ?_⟩
      cases b with
      | false => exact iteF (Ws.pur R2 w2)
      | true =>
        refine iteT ⟨fun σ H => ∃ ρ G s, R c ρ G σ H s ∧ Ws c U (whileS n mt m) ρ G H s (kD c D), fun σ' H' h => ⟨n, Nat.lt_succ_self n, h⟩, ρ2, G2, s2, R2, ?_⟩
        refine (Ws.bnd R2.rs.len w2).imp fun f ρ5 G5 σ5 H5 s5 ⟨S5, R5, w5⟩ => ?_
        cases f with
        | nx => exact ⟨ρ5, G5, s5, R5, w5⟩
        | cnt => exact ⟨ρ5, G5, s5, R5, w5⟩
        | brk => exact Ws.pur (U := U) R5 w5
        | ret w => exact fun v rv => Ws.pur (U := U) R5 w5 v rv⟩
end
end EV
/-! EV3: the store: an object is made, written, frozen. -/
namespace EV
open PySem L2
theorem get_set {α : Type} (l : List α) (n m : Nat) (x y : α) (h : (l.set n x)[m]? = some y) : (m = n ∧ x = y ∧ n < l.length) ∨ (m ≠ n ∧ l[m]? = some y) := by
  by_cases e : m = n
  · subst e
    have hlt : m < l.length := by
      have := (List.getElem?_eq_some_iff.mp h).1
      simpa using this
    rw [List.getElem?_set_self hlt] at h
    exact .inl ⟨rfl, Option.some.inj h, hlt⟩
  · rw [List.getElem?_set_ne (Ne.symm e)] at h
    exact .inr ⟨e, h⟩
section
variable {c : Kx} {ρ : Rho} {G H G' H' : Hp} {st : Store}
theorem OwnOk.sort {p : Addr × Addr} {o : OO} (h : OwnOk c ρ G H p o) : ∃ u, H p.1 = some u ∧ (∀ x, u ≠ .own x) := by
  cases o with
  | lst ws => obtain ⟨_, vs, e, _⟩ := h; exact ⟨_, e, fun x z => by cases z⟩
  | tup ws => obtain ⟨_, vs, e, _⟩ := h; exact ⟨_, e, fun x z => by cases z⟩
  | dct ks ws => obtain ⟨_, _, vs, e, _⟩ := h; exact ⟨_, e, fun x z => by cases z⟩
  | ins k ks ws => obtain ⟨_, C, vs, _, _, e, _, _⟩ := h; exact ⟨_, e, fun x z => by cases z⟩
theorem OwnOk.second {p : Addr × Addr} {o : OO} (h : OwnOk c ρ G H p o) : p.2 = p.1 ∨ H p.2 = some (.own p.1) := by
  cases o with
  | lst ws => exact .inl h.1
  | tup ws => exact .inl h.1
  | dct ks ws => exact .inl h.1
  | ins k ks ws => obtain ⟨_, C, vs, _, _, _, e, _⟩ := h; exact .inr e
/-- two of the store's objects stand apart -/
theorem RS.apart (r : RS c ρ G H st) {n m : Nat} {p q : Addr × Addr} {o o' : OO} (hp : ρ[n]? = some p) (hq : ρ[m]? = some q) (ho : st[n]? = some (some o)) (ho' : st[m]? = some (some o')) (ne : n ≠ m) :
    p.1 ≠ q.1 ∧ p.1 ≠ q.2 ∧ p.2 ≠ q.1 ∧ p.2 ≠ q.2 := by
  have e1 : p.1 ≠ q.1 := fun e => ne (r.inj n m p q o o' hp hq ho ho' e)
  obtain ⟨_, _, a⟩ := r.own n p o hp ho
  obtain ⟨_, _, b⟩ := r.own m q o' hq ho'
  obtain ⟨u, hu, nu⟩ := a.sort
  obtain ⟨v, hv, nv⟩ := b.sort
  have e2 : p.1 ≠ q.2 := fun e => by
    rcases b.second with z | z
    · exact e1 (e.trans z)
    · rw [← e, hu] at z
      exact nu _ (Option.some.inj z)
  have e3 : p.2 ≠ q.1 := fun e => by
    rcases a.second with z | z
    · exact e1 (z.symm.trans e)
    · rw [e, hv] at z
      exact nv _ (Option.some.inj z)
  refine ⟨e1, e2, e3, fun e => ?_⟩
  rcases a.second with z | z
  · exact e2 (z.symm.trans e)
  · rcases b.second with y | y
    · exact e3 (e.trans y)
    · rw [e, y] at z
      have z := Option.some.inj z
      injection z with z
      exact e1 z.symm
theorem RS.rho_of (r : RS c ρ G H st) {n : Nat} {o : Option OO} (h : st[n]? = some o) : ∃ p, ρ[n]? = some p := by
  have := (List.getElem?_eq_some_iff.mp h).1
  exact ⟨_, List.getElem?_eq_getElem (by rw [r.len]; exact this)⟩
/-- an object is given up -/
theorem RS.dead (r : RS c ρ G H st) (n : Nat) : RS c ρ G H (st.set n none) where
  sub := r.sub
  len := by rw [List.length_set]; exact r.len
  own := fun m p o hp ho => by
    rcases get_set _ _ _ _ _ ho with ⟨_, z, _⟩ | ⟨_, z⟩
    · cases z
    · exact r.own m p o hp z
  inj := fun m m' p q o o' hp hq ho ho' e => by
    rcases get_set _ _ _ _ _ ho with ⟨_, z, _⟩ | ⟨_, z⟩
    · cases z
    · rcases get_set _ _ _ _ _ ho' with ⟨_, z', _⟩ | ⟨_, z'⟩
      · cases z'
      · exact r.inj m m' p q o o' hp hq z z' e
/-- .. and put among what stays for good -/
def frzG (H G : Hp) (p : Addr × Addr) : Hp := fun a => if a = p.1 ∨ a = p.2 then H a else G a
theorem frzG_same {p : Addr × Addr} (s : Same G H) : Same G (frzG H G p) := fun a u e => by
  unfold frzG
  split
  · exact s a u e
  · exact e
theorem frzG_sub {p : Addr × Addr} (s : Same G H) : Same (frzG H G p) H := fun a u e => by
  unfold frzG at e
  split at e
  · exact e
  · exact s a u e
theorem frzG_1 {p : Addr × Addr} : frzG H G p p.1 = H p.1 := if_pos (.inl rfl)
theorem frzG_2 {p : Addr × Addr} : frzG H G p p.2 = H p.2 := if_pos (.inr rfl)
theorem RS.frozen (r : RS c ρ G H st) {n : Nat} {p : Addr × Addr} {o : OO} (hp : ρ[n]? = some p) (ho : st[n]? = some (some o)) {ρ1 : Rho} {G1 : Hp} {st1 : Store} (S : Stp ρ G H (st.set n none) ρ G1 H st1) (r1 : RS c ρ G1 H st1) :
    Stp ρ G H st ρ (frzG H G1 p) H st1 ∧ RS c ρ (frzG H G1 p) H st1 := by
  have back : ∀ m o', st1[m]? = some (some o') → m ≠ n ∧ ∃ o, st[m]? = some (some o) := fun m o' h => by
    have hm : m < ρ.length := by
      have := (List.getElem?_eq_some_iff.mp h).1
      rw [r1.len]; exact this
    obtain ⟨o2, e⟩ := S.live m o' hm h
    rcases get_set _ _ _ _ _ e with ⟨_, z, _⟩ | ⟨ne, z⟩
    · cases z
    · exact ⟨ne, _, z⟩
  refine ⟨⟨S.same.trans (frzG_same r1.sub), Rle.refl _, fun m o' _ h => (back m o' h).2, fun a u h _ => h, fun a u h => ⟨u, h⟩, fun a u h h' => ?_, fun m q hm hq => absurd (List.getElem?_eq_some_iff.mp hq).1 (by omega)⟩, frzG_sub r1.sub, r1.len, fun m q o' hq h => ?_, r1.inj⟩
  · unfold frzG at h'
    split at h'
    · rename_i e
      exact .inr ⟨n, p, o, hp, ho, e⟩
    · rcases S.fresh a u h h' with z | ⟨m, q, o2, hq, h2, e⟩
      · exact .inl z
      · rcases get_set _ _ _ _ _ h2 with ⟨_, z, _⟩ | ⟨ne, z⟩
        · cases z
        · exact .inr ⟨m, q, o2, hq, z, e⟩
  · obtain ⟨ne, o2, h2⟩ := back m o' h
    obtain ⟨a1, a2, a3, a4⟩ := r.apart hq hp h2 ho ne
    obtain ⟨b1, b2, b3⟩ := r1.own m q o' hq h
    refine ⟨?_, ?_, b3.mono (Rle.refl _) (frzG_same r1.sub) (fun _ e => e) (fun _ e => e)⟩
    · unfold frzG
      rw [if_neg (by rintro (z | z); exact a1 z; exact a2 z)]
      exact b1
    · unfold frzG
      rw [if_neg (by rintro (z | z); exact a3 z; exact a4 z)]
      exact b2
end
def fzL (f : W → Store → Option (D × Store)) : List W → Store → Option (List D × Store)
  | [], st => some ([], st)
  | w :: ws, st => match f w st with
    | some (d, st1) => match fzL f ws st1 with
      | some (ds, st2) => some (d :: ds, st2)
      | none => none
    | none => none
def fz : Nat → W → Store → Option (D × Store)
  | _, .d x, st => some (x, st)
  | 0, .loc _, _ => none
  | k + 1, .loc n, st => match st[n]? with
    | some (some (.lst ws)) => match fzL (fz k) ws (st.set n none) with
      | some (ds, st1) => some (.lst ds, st1)
      | none => none
    | some (some (.dct ks ws)) => match fzL (fz k) ws (st.set n none) with
      | some (ds, st1) => some (.dct ks ds, st1)
      | none => none
    | some (some (.ins i ks ws)) => match fzL (fz k) ws (st.set n none) with
      | some (ds, st1) => some (.ins i ks ds, st1)
      | none => none
    | _ => none
theorem fz_d (k : Nat) (x : D) (st : Store) : fz k (.d x) st = some (x, st) := by cases k <;> rfl
theorem fzL_d (k : Nat) : ∀ (ds : List D) (st : Store), fzL (fz k) (ds.map .d) st = some (ds, st)
  | [], _ => rfl
  | d :: ds, st => by
    show (match fz k (.d d) st with | some (d, st1) => (match fzL (fz k) (ds.map .d) st1 with | some (ds, st2) => some (d :: ds, st2) | none => none) | none => none) = _
    rw [fz_d]
    simp only []
    rw [fzL_d k ds st]
section
variable {c : Kx} {H : Hp}
theorem fzL_ok {ρ : Rho} {f : W → Store → Option (D × Store)} (hf : ∀ (G : Hp) (st st' : Store) (w : W) (v : V) (d : D), RS c ρ G H st → RepW c ρ G w v → f w st = some (d, st') → ∃ G', Stp ρ G H st ρ G' H st' ∧ RS c ρ G' H st' ∧ RepD c G' d v) :
    ∀ (ws : List W) (vs : List V) (G : Hp) (st st' : Store) (ds : List D), RS c ρ G H st → RepWs c ρ G ws vs → fzL f ws st = some (ds, st') → ∃ G', Stp ρ G H st ρ G' H st' ∧ RS c ρ G' H st' ∧ RepDs c G' ds vs
  | [], _, G, st, st', ds, r, h, e => by
    have h : _ = [] := h
    subst h
    simp only [fzL, Option.some.injEq, Prod.mk.injEq] at e
    obtain ⟨rfl, rfl⟩ := e
    exact ⟨G, Stp.refl, r, .nil⟩
  | w :: ws, _, G, st, st', ds, r, ⟨v, vs, q, h, t⟩, e => by
    subst q
    unfold fzL at e
    split at e
    · rename_i d st1 e1
      split at e
      · rename_i ds2 st2 e2
        simp only [Option.some.injEq, Prod.mk.injEq] at e
        obtain ⟨rfl, rfl⟩ := e
        obtain ⟨G1, S1, r1, h1⟩ := hf G st st1 w v d r h e1
        obtain ⟨G2, S2, r2, h2⟩ := fzL_ok hf ws vs G1 st1 st2 ds2 r1 (t.mono (Rle.refl _) S1.same) e2
        exact ⟨G2, S1.trans r.len S2, r2, .cons (h1.mono S2.same) h2⟩
      · cases e
    · cases e
theorem fz_ok {ρ : Rho} : ∀ (k : Nat) (G : Hp) (st st' : Store) (w : W) (v : V) (d : D), RS c ρ G H st → RepW c ρ G w v → fz k w st = some (d, st') → ∃ G', Stp ρ G H st ρ G' H st' ∧ RS c ρ G' H st' ∧ RepD c G' d v
  | k, G, st, st', .d x, v, d, r, h, e => by
    rw [fz_d] at e
    simp only [Option.some.injEq, Prod.mk.injEq] at e
    obtain ⟨rfl, rfl⟩ := e
    exact ⟨G, Stp.refl, r, h⟩
  | 0, G, st, st', .loc n, v, d, r, h, e => by cases e
  | k + 1, G, st, st', .loc n, v, d, r, ⟨p, hp, hv⟩, e => by
    subst hv
    unfold fz at e
    split at e
    · rename_i ws ho
      split at e
      · rename_i ds st1 e1
        simp only [Option.some.injEq, Prod.mk.injEq] at e
        obtain ⟨rfl, rfl⟩ := e
        obtain ⟨_, _, q, vs, hH, hw⟩ := r.own n p _ hp ho
        obtain ⟨G1, S1, r1, h1⟩ := fzL_ok (fz_ok k) ws vs G _ _ ds (r.dead n) hw e1
        obtain ⟨S2, r2⟩ := r.frozen hp ho (ρ1 := ρ) S1 r1
        exact ⟨_, S2, r2, .lst (frzG_1.trans hH) (h1.mono (frzG_same r1.sub))⟩
      · cases e
    · rename_i ks ws ho
      split at e
      · rename_i ds st1 e1
        simp only [Option.some.injEq, Prod.mk.injEq] at e
        obtain ⟨rfl, rfl⟩ := e
        obtain ⟨_, _, q, hk, vs, hH, hw⟩ := r.own n p _ hp ho
        obtain ⟨G1, S1, r1, h1⟩ := fzL_ok (fz_ok k) ws vs G _ _ ds (r.dead n) hw e1
        obtain ⟨S2, r2⟩ := r.frozen hp ho (ρ1 := ρ) S1 r1
        exact ⟨_, S2, r2, .dct (frzG_1.trans hH) (by rw [hk, ← hw.len, h1.len]) (h1.mono (frzG_same r1.sub))⟩
      · cases e
    · rename_i i ks ws ho
      split at e
      · rename_i ds st1 e1
        simp only [Option.some.injEq, Prod.mk.injEq] at e
        obtain ⟨rfl, rfl⟩ := e
        obtain ⟨_, _, hk, C, vs, hC, hF, hH, hO, hw⟩ := r.own n p _ hp ho
        obtain ⟨G1, S1, r1, h1⟩ := fzL_ok (fz_ok k) ws vs G _ _ ds (r.dead n) hw e1
        obtain ⟨S2, r2⟩ := r.frozen hp ho (ρ1 := ρ) S1 r1
        exact ⟨_, S2, r2, .ins hC hF (frzG_1.trans hH) (frzG_2.trans hO) (by rw [hk, ← hw.len, h1.len]) (h1.mono (frzG_same r1.sub))⟩
      · cases e
    · cases e
end
/-- a value is frozen: it may stand anywhere then; the names that held it hold the tree -/
def rpl (n : Nat) (d : D) : Option W → Option W
  | some (.loc m) => if m = n then some (.d d) else some (.loc m)
  | x => x
def frz (m : EM W) : EM W := bnd m fun w => match w with
  | .d x => pur (.d x)
  | .loc n => fun s => match fz 20 (.loc n) s.st with
    | some (d, st) => some (.ok (.d d), ⟨s.env.map (rpl n d), st⟩)
    | none => none
theorem EnvOk.rpl {c : Kx} {ρ : Rho} {G : Hp} {env : List (Option W)} {σ : L2.St} {n : Nat} {p : Addr × Addr} {d : D} (h : EnvOk c ρ G env σ) (hp : ρ[n]? = some p) (r : RepD c G d (.ref p.1)) : EnvOk c ρ G (env.map (rpl n d)) σ := fun i w e => by
  rw [List.getElem?_map] at e
  cases q : env[i]? with
  | none => rw [q] at e; cases e
  | some o =>
    rw [q] at e
    have e : EV.rpl n d o = some w := Option.some.inj e
    cases o with
    | none => cases e
    | some x =>
      obtain ⟨v, h1, h2⟩ := h i x q
      refine ⟨v, h1, ?_⟩
      cases x with
      | d y => have e : some (W.d y) = some w := e; cases e; exact h2
      | loc m =>
        have e : (if m = n then some (W.d d) else some (W.loc m)) = some w := e
        by_cases z : m = n
        · subst z
          rw [if_pos rfl] at e
          cases e
          obtain ⟨p', hp', hv⟩ := h2
          rw [hp] at hp'
          cases hp'
          subst hv
          exact r
        · rw [if_neg z] at e
          cases e
          exact h2
section
variable {c : Kx} {X : Cx} {U : WX} {e : Expr} {m : EM W}
theorem ee_frz (h : EE c X U e m) : EE c X U e (frz m) :=
  EE.mk1 h.K h.pe fun ρ G s σ H Q hR w => ⟨ρ, G, s, hR, (Wp.bnd hR w).imp fun x ρ1 G1 H1 s1 ⟨S1, R1, w1⟩ v rv => by
    cases x with
    | d x => exact Wp.pur R1 w1 v rv
    | loc n =>
      unfold Wp at w1
      cases e1 : fz 20 (.loc n) s1.st with
      | none => simp only [e1] at w1
      | some z =>
        obtain ⟨d, st⟩ := z
        simp only [e1] at w1
        obtain ⟨G2, S2, r2, h2⟩ := fz_ok 20 G1 s1.st st (.loc n) v d R1.rs rv e1
        obtain ⟨p, hp, hv⟩ := rv
        subst hv
        refine w1 ρ1 G2 H1 S2 ⟨r2, (R1.env.mono S2.rho S2.same).rpl hp h2, ?_⟩ _ h2
        show (List.map _ _).length = _
        rw [List.length_map]
        exact R1.len⟩
end
section
variable {c : Kx} {ρ : Rho} {G H : Hp} {st : Store}
/-- a new object that never changes -/
theorem new_frozen (r : RS c ρ G H st) {p : Addr} {o : HO} (hp : H p = none) : Stp ρ G H st ρ (upd G p o) (upd H p o) st ∧ RS c ρ (upd G p o) (upd H p o) st := by
  have gp : G p = none := r.sub.free hp
  have sG : Same G (upd G p o) := fun a u e => by rw [upd_ne (ne_of_none e gp)]; exact e
  have sH : Same H (upd H p o) := fun a u e => by rw [upd_ne (ne_of_none e hp)]; exact e
  refine ⟨⟨sG, Rle.refl _, fun m o' _ h => ⟨o', h⟩, fun a u h _ => sH a u h, fun a u h => ⟨u, sH a u h⟩, fun a u h h' => ?_, fun m q hm hq => absurd (List.getElem?_eq_some_iff.mp hq).1 (by omega)⟩, fun a u e => ?_, r.len, fun m q o' hq h => ?_, r.inj⟩
  · by_cases e : a = p
    · rw [e]; exact .inl hp
    · rw [upd_ne e, h] at h'; cases h'
  · by_cases z : a = p
    · subst z; rw [upd_same] at e ⊢; exact e
    · rw [upd_ne z] at e ⊢; exact r.sub a u e
  · obtain ⟨b1, b2, b3⟩ := r.own m q o' hq h
    obtain ⟨⟨u1, t1⟩, ⟨u2, t2⟩⟩ := b3.there
    exact ⟨by rw [upd_ne (ne_of_none t1 hp)]; exact b1, by rw [upd_ne (ne_of_none t2 hp)]; exact b2, b3.mono (Rle.refl _) sG (fun o e => sH _ o e) (fun o e => sH _ o e)⟩
/-- a new object of the store -/
theorem new_own (r : RS c ρ G H st) {p : Addr × Addr} {o : OO} {H' : Hp} (h1 : H p.1 = none) (h2 : H p.2 = none) (s : Same H H') (ok : OwnOk c ρ G H' p o) : Stp ρ G H st (ρ ++ [p]) G H' (st ++ [some o]) ∧ RS c (ρ ++ [p]) G H' (st ++ [some o]) := by
  have g1 : G p.1 = none := r.sub.free h1
  have g2 : G p.2 = none := r.sub.free h2
  have le : Rle ρ (ρ ++ [p]) := fun n q e => by rw [List.getElem?_append_left (List.getElem?_eq_some_iff.mp e).1]; exact e
  have at1 : ∀ (n : Nat) (q : Addr × Addr), (ρ ++ [p])[n]? = some q → ρ[n]? = some q ∨ (n = ρ.length ∧ q = p) := fun n q e => by
    by_cases hn : n < ρ.length
    · rw [List.getElem?_append_left hn] at e; exact .inl e
    · rw [List.getElem?_append_right (by omega)] at e
      have hz : n - ρ.length = 0 := by
        have := (List.getElem?_eq_some_iff.mp e).1
        simp at this; omega
      rw [hz] at e
      exact .inr ⟨by omega, (Option.some.inj e).symm⟩
  have at2 : ∀ (n : Nat) (o' : Option OO), (st ++ [some o])[n]? = some o' → st[n]? = some o' ∨ (n = st.length ∧ o' = some o) := fun n o' e => by
    by_cases hn : n < st.length
    · rw [List.getElem?_append_left hn] at e; exact .inl e
    · rw [List.getElem?_append_right (by omega)] at e
      have hz : n - st.length = 0 := by
        have := (List.getElem?_eq_some_iff.mp e).1
        simp at this; omega
      rw [hz] at e
      exact .inr ⟨by omega, (Option.some.inj e).symm⟩
  have old : ∀ (n : Nat) (q : Addr × Addr) (o' : OO), (ρ ++ [p])[n]? = some q → (st ++ [some o])[n]? = some (some o') → (ρ[n]? = some q ∧ st[n]? = some (some o')) ∨ (n = st.length ∧ q = p ∧ o' = o) := fun n q o' hq ho => by
    rcases at1 n q hq with z | ⟨z, e⟩
    · rcases at2 n _ ho with y | ⟨y, e⟩
      · exact .inl ⟨z, y⟩
      · have := (List.getElem?_eq_some_iff.mp z).1
        rw [r.len] at this
        omega
    · rcases at2 n _ ho with y | ⟨y, e'⟩
      · have := (List.getElem?_eq_some_iff.mp y).1
        rw [← r.len] at this
        omega
      · exact .inr ⟨y, e, Option.some.inj e'⟩
  refine ⟨⟨Same.refl _, le, fun m o' hm h => ?_, fun a u h _ => s a u h, fun a u h => ⟨u, s a u h⟩, fun a u h h' => (by rw [h] at h'; cases h'), fun m q hm hq => ?_⟩, r.sub.trans s, by simp [r.len], fun m q o' hq h => ?_, fun m m' q q' o1 o2 hq hq' ho ho' e => ?_⟩
  · rcases at2 m _ h with z | ⟨z, _⟩
    · exact ⟨o', z⟩
    · rw [← r.len] at z; omega
  · rcases at1 m q hq with z | ⟨_, e⟩
    · have := (List.getElem?_eq_some_iff.mp z).1
      omega
    · rw [e]; exact ⟨h1, h2⟩
  · rcases old m q o' hq h with ⟨z, y⟩ | ⟨_, e, e'⟩
    · obtain ⟨b1, b2, b3⟩ := r.own m q o' z y
      exact ⟨b1, b2, b3.mono le (Same.refl _) (fun o e => s _ o e) (fun o e => s _ o e)⟩
    · subst e e'
      exact ⟨g1, g2, ok.mono le (Same.refl _) (fun _ e => e) (fun _ e => e)⟩
  · rcases old m q o1 hq ho with ⟨z, y⟩ | ⟨z, y, _⟩
    · rcases old m' q' o2 hq' ho' with ⟨z', y'⟩ | ⟨z', y', _⟩
      · exact r.inj m m' q q' o1 o2 z z' y y' e
      · obtain ⟨⟨u, t⟩, _⟩ := (r.own m q o1 z y).2.2.there
        rw [e, y', h1] at t
        cases t
    · rcases old m' q' o2 hq' ho' with ⟨z', y'⟩ | ⟨z', y', _⟩
      · obtain ⟨⟨u, t⟩, _⟩ := (r.own m' q' o2 z' y').2.2.there
        rw [← e, y, h1] at t
        cases t
      · omega
/-- an object of the store is written -/
theorem written (r : RS c ρ G H st) {n : Nat} {p : Addr × Addr} {o o' : OO} {u : HO} (hp : ρ[n]? = some p) (ho : st[n]? = some (some o)) (ok : OwnOk c ρ G (upd H p.1 u) p o') : Stp ρ G H st ρ G (upd H p.1 u) (st.set n (some o')) ∧ RS c ρ G (upd H p.1 u) (st.set n (some o')) := by
  obtain ⟨g1, g2, b⟩ := r.own n p o hp ho
  have back : ∀ (m : Nat) (o1 : OO), (st.set n (some o'))[m]? = some (some o1) → (m = n ∧ o1 = o') ∨ (m ≠ n ∧ st[m]? = some (some o1)) := fun m o1 h => by
    rcases get_set _ _ _ _ _ h with ⟨e, z, _⟩ | ⟨ne, z⟩
    · exact .inl ⟨e, (Option.some.inj z).symm⟩
    · exact .inr ⟨ne, z⟩
  refine ⟨⟨Same.refl _, Rle.refl _, fun m o1 _ h => ?_, fun a w h hn => ?_, fun a w h => ?_, fun a w h h' => (by rw [h] at h'; cases h'), fun m q hm hq => absurd (List.getElem?_eq_some_iff.mp hq).1 (by omega)⟩, fun a w e => ?_, by rw [List.length_set]; exact r.len, fun m q o1 hq h => ?_, fun m m' q q' o1 o2 hq hq' h1 h2 e => ?_⟩
  · rcases back m o1 h with ⟨e, _⟩ | ⟨_, z⟩
    · exact ⟨o, by rw [e]; exact ho⟩
    · exact ⟨o1, z⟩
  · rw [upd_ne (Ne.symm (hn n p o hp ho).1)]; exact h
  · by_cases e : a = p.1
    · exact ⟨u, by rw [e, upd_same]⟩
    · exact ⟨w, by rw [upd_ne e]; exact h⟩
  · rw [upd_ne (ne_of_none e g1)]; exact r.sub a w e
  · rcases back m o1 h with ⟨e, e'⟩ | ⟨ne, z⟩
    · subst e e'
      rw [hp] at hq; cases hq
      exact ⟨g1, g2, ok⟩
    · obtain ⟨b1, b2, b3⟩ := r.own m q o1 hq z
      obtain ⟨a1, a2, a3, a4⟩ := r.apart hq hp z ho ne
      exact ⟨b1, b2, b3.mono (Rle.refl _) (Same.refl _) (fun w e => by rw [upd_ne a1]; exact e) (fun w e => by rw [upd_ne a3]; exact e)⟩
  · have oldn : ∀ (m : Nat) (o1 : OO), (st.set n (some o'))[m]? = some (some o1) → ∃ o2, st[m]? = some (some o2) := fun m o1 h => by
      rcases back m o1 h with ⟨e, _⟩ | ⟨_, z⟩
      · exact ⟨o, by rw [e]; exact ho⟩
      · exact ⟨o1, z⟩
    obtain ⟨x1, y1⟩ := oldn m o1 h1
    obtain ⟨x2, y2⟩ := oldn m' o2 h2
    exact r.inj m m' q q' x1 x2 hq hq' y1 y2 e
/-- behind a call: all that stood stands, G grew by new ones -/
theorem called (r : RS c ρ G H st) {G' H' : Hp} (sH : Same H H') (sG : Same G G') (sub : Same G' H') (fr : ∀ a u, G a = none → G' a = some u → H a = none) : Stp ρ G H st ρ G' H' st ∧ RS c ρ G' H' st := by
  refine ⟨⟨sG, Rle.refl _, fun m o' _ h => ⟨o', h⟩, fun a u h _ => sH a u h, fun a u h => ⟨u, sH a u h⟩, fun a u h h' => .inl (fr a u h h'), fun m q hm hq => absurd (List.getElem?_eq_some_iff.mp hq).1 (by omega)⟩, sub, r.len, fun m q o' hq h => ?_, r.inj⟩
  obtain ⟨b1, b2, b3⟩ := r.own m q o' hq h
  obtain ⟨⟨u1, t1⟩, ⟨u2, t2⟩⟩ := b3.there
  have no : ∀ a u, H a = some u → G a = none → G' a = none := fun a u t g => by
    cases e : G' a with
    | none => rfl
    | some w =>
      have := fr a w g e
      rw [t] at this; cases this
  exact ⟨no _ _ t1 b1, no _ _ t2 b2, b3.mono (Rle.refl _) sG (fun o e => sH _ o e) (fun o e => sH _ o e)⟩
end
end EV
/-! EV4: defs, their promises, calls. -/
namespace EV
open PySem PySem.Spec PyProof.Rows L2
def initS (n : Nat) (ws : List W) (st : Store) : SS := ⟨ws.map some ++ List.replicate (n - ws.length) none, st⟩
/-- a def's body as a function -/
def bodyF (n : Nat) (m : EM Fl) (ws : List W) (st : Store) : Option (Out W × Store) := match m (initS n ws st) with
  | some (.ok .nx, s) => some (.ok (.d .non), s.st)
  | some (.ok (.ret w), s) => some (.ok w, s.st)
  | some (.ok .brk, _) => none
  | some (.ok .cnt, _) => none
  | some (.ex c ks vs, s) => some (.ex c ks vs, s.st)
  | none => none
abbrev FF := List W → Store → Option (Out W × Store)
abbrev FP := List D → Option (Out D)
abbrev FO := List D → Option (Out OO)
/-- a def that may read and write the caller's store -/
def spF (c : Kx) (np : Nat) (F : FF) : Sp := fun vs H Q E => ∃ ρ G st ws, RS c ρ G H st ∧ RepWs c ρ G ws vs ∧ ws.length = np ∧ match F ws st with
  | none => False
  | some (.ok w, st') => ∀ v ρ' G' H', Stp ρ G H st ρ' G' H' st' → RS c ρ' G' H' st' → RepW c ρ' G' w v → Q v H'
  | some (.ex C ks es, st') => ∀ ρ' G' H' cls d, Stp ρ G H st ρ' G' H' st' → RS c ρ' G' H' st' → XOk c G' C ks es cls d → E cls d H'
/-- what a call leaves: all that stood, and new things that never change -/
structure Grown (G H G' H' : Hp) : Prop where
  sH : Same H H'
  sG : Same G G'
  sub : Same G' H'
  fr : ∀ a u, G a = none → G' a = some u → H a = none
/-- a def from trees to a tree -/
def spP (c : Kx) (np : Nat) (F : FP) : Sp := fun vs H Q E => ∃ G ds, Same G H ∧ RepDs c G ds vs ∧ ds.length = np ∧ match F ds with
  | none => False
  | some (.ok d) => ∀ v G' H', Grown G H G' H' → RepD c G' d v → Q v H'
  | some (.ex C ks es) => ∀ G' H' cls d, Grown G H G' H' → XOk c G' C ks es cls d → E cls d H'
/-- .. to an object that is the caller's own -/
def spO (c : Kx) (np : Nat) (F : FO) : Sp := fun vs H Q E => ∃ G ds, Same G H ∧ RepDs c G ds vs ∧ ds.length = np ∧ match F ds with
  | none => False
  | some (.ok o) => ∀ p G' H', Grown G H G' H' → G' p.1 = none → G' p.2 = none → H p.1 = none → H p.2 = none → OwnOk c [] G' H' p o → Q (.ref p.1) H'
  | some (.ex C ks es) => ∀ G' H' cls d, Grown G H G' H' → XOk c G' C ks es cls d → E cls d H'
def pureP (F : FF) : FP := fun ds => match F (ds.map .d) [] with
  | some (.ok w, st) => match fz 20 w st with
    | some (d, _) => some (.ok d)
    | none => none
  | some (.ex C ks es, _) => some (.ex C ks es)
  | none => none
def OO.fz (o : OO) (st : Store) : Option OO := match o with
  | .lst ws => match fzL (EV.fz 20) ws st with
    | some (ds, _) => some (.lst (ds.map .d))
    | none => none
  | .dct ks ws => match fzL (EV.fz 20) ws st with
    | some (ds, _) => some (.dct ks (ds.map .d))
    | none => none
  | .ins i ks ws => match fzL (EV.fz 20) ws st with
    | some (ds, _) => some (.ins i ks (ds.map .d))
    | none => none
  | .tup _ => none
def pureO (F : FF) : FO := fun ds => match F (ds.map .d) [] with
  | some (.ok (.loc n), st) => match st[n]? with
    | some (some o) => match o.fz (st.set n none) with
      | some o' => some (.ok o')
      | none => none
    | _ => none
  | some (.ok (.d _), _) => none
  | some (.ex C ks es, _) => some (.ex C ks es)
  | none => none
section
variable {c : Kx} {ρ : Rho} {G H G1 H1 : Hp} {st : Store}
theorem RS.nil (s : Same G H) : RS c [] G H [] := ⟨s, rfl, fun n p o h => (by simp at h), fun n m p q o o' h => (by simp at h)⟩
theorem Stp.grown (r : RS c ρ G1 H1 st) (S : Stp [] G H [] ρ G1 H1 st) : Grown G H G1 H1 :=
  ⟨fun a u h => S.keep a u h fun n p o e => (by simp at e), S.same, r.sub, fun a u h h' => by
    rcases S.fresh a u h h' with z | ⟨n, p, o, e, _⟩
    · exact z
    · simp at e⟩
theorem spP_of {np : Nat} {F : FF} {vs : List V} {Q : VK} {E : XK} (h : spP c np (pureP F) vs H Q E) : spF c np F vs H Q E := by
  obtain ⟨G, ds, sG, r, hl, h⟩ := h
  refine ⟨[], G, [], ds.map .d, RS.nil sG, RepWs.ofD r, by rw [List.length_map]; exact hl, ?_⟩
  unfold pureP at h
  cases e : F (ds.map .d) [] with
  | none => simp only [e] at h
  | some p =>
    obtain ⟨o, st'⟩ := p
    cases o with
    | ok w =>
      simp only [e] at h ⊢
      cases e2 : fz 20 w st' with
      | none => simp only [e2] at h
      | some q =>
        obtain ⟨d, st2⟩ := q
        simp only [e2] at h
        intro v ρ' G' H' S' r' rw'
        obtain ⟨G2, S2, r2, h2⟩ := fz_ok 20 G' st' st2 w v d r' rw' e2
        exact h v G2 H' ((S'.trans rfl S2).grown r2) h2
    | ex C ks es =>
      simp only [e] at h ⊢
      intro ρ' G' H' cls d S' r' x
      exact h G' H' cls d (S'.grown r') x
theorem OO.fz_ok {n : Nat} {p : Addr × Addr} {o o' : OO} (r : RS c ρ G H st) (hp : ρ[n]? = some p) (ho : st[n]? = some (some o)) (e : o.fz (st.set n none) = some o') :
    ∃ G' st', Stp ρ G H (st.set n none) ρ G' H st' ∧ RS c ρ G' H st' ∧ OwnOk c [] G' H p o' := by
  obtain ⟨_, _, ok⟩ := r.own n p o hp ho
  unfold OO.fz at e
  cases o with
  | tup ws => cases e
  | lst ws =>
    simp only at e
    split at e
    · rename_i ds st1 e1
      cases e
      obtain ⟨q, vs, hH, hw⟩ := ok
      obtain ⟨G1, S1, r1, h1⟩ := fzL_ok (EV.fz_ok 20) ws vs G _ _ ds (r.dead n) hw e1
      exact ⟨G1, st1, S1, r1, q, vs, hH, RepWs.ofD h1⟩
    · cases e
  | dct ks ws =>
    simp only at e
    split at e
    · rename_i ds st1 e1
      cases e
      obtain ⟨q, hk, vs, hH, hw⟩ := ok
      obtain ⟨G1, S1, r1, h1⟩ := fzL_ok (EV.fz_ok 20) ws vs G _ _ ds (r.dead n) hw e1
      exact ⟨G1, st1, S1, r1, q, by rw [List.length_map, hk, ← hw.len, h1.len], vs, hH, RepWs.ofD h1⟩
    · cases e
  | ins i ks ws =>
    simp only at e
    split at e
    · rename_i ds st1 e1
      cases e
      obtain ⟨hk, C, vs, hC, hF, hH, hO, hw⟩ := ok
      obtain ⟨G1, S1, r1, h1⟩ := fzL_ok (EV.fz_ok 20) ws vs G _ _ ds (r.dead n) hw e1
      exact ⟨G1, st1, S1, r1, by rw [List.length_map, hk, ← hw.len, h1.len], C, vs, hC, hF, hH, hO, RepWs.ofD h1⟩
    · cases e
theorem spO_of {np : Nat} {F : FF} {vs : List V} {Q : VK} {E : XK} (h : spO c np (pureO F) vs H Q E) : spF c np F vs H Q E := by
  obtain ⟨G, ds, sG, r, hl, h⟩ := h
  refine ⟨[], G, [], ds.map .d, RS.nil sG, RepWs.ofD r, by rw [List.length_map]; exact hl, ?_⟩
  unfold pureO at h
  cases e : F (ds.map .d) [] with
  | none => simp only [e] at h
  | some p =>
    obtain ⟨o, st'⟩ := p
    cases o with
    | ok w =>
      simp only [e] at h ⊢
      cases w with
      | d x => simp only at h
      | loc n =>
        simp only at h
        cases ho : st'[n]? with
        | none => simp only [ho] at h
        | some oo =>
        cases oo with
        | none => simp only [ho] at h
        | some o =>
          simp only [ho] at h
          intro v ρ' G' H' S' r' ⟨p, hp, hv⟩
          subst hv
          cases e2 : o.fz (st'.set n none) with
          | none => simp only [e2] at h
          | some o' =>
            simp only [e2] at h
            obtain ⟨G2, st2, S2, r2, h2⟩ := OO.fz_ok r' hp ho e2
            obtain ⟨g1, g2, _⟩ := r'.own n p o hp ho
            have dead : Stp [] G H [] ρ' G' H' (st'.set n none) := ⟨S'.same, S'.rho, fun m o' hm _ => absurd hm (Nat.not_lt_zero _), S'.keep, S'.there, S'.fresh, S'.new⟩
            obtain ⟨n1, n2⟩ := S'.new n p (Nat.zero_le _) hp
            have no : ∀ a, (a = p.1 ∨ a = p.2) → G' a = none → G2 a = none := fun a ha g => by
              cases q : G2 a with
              | none => rfl
              | some u =>
                exfalso
                have ok := (r'.own n p o hp ho).2.2
                obtain ⟨⟨u1, t1⟩, ⟨u2, t2⟩⟩ := ok.there
                rcases S2.fresh a u g q with z | ⟨m, p', o', hp', ho', z⟩
                · rcases ha with e | e
                  · rw [e, t1] at z; cases z
                  · rw [e, t2] at z; cases z
                · rcases get_set _ _ _ _ _ ho' with ⟨_, y, _⟩ | ⟨ne, y⟩
                  · cases y
                  · obtain ⟨a1, a2, a3, a4⟩ := r'.apart hp' hp y ho ne
                    rcases ha with e | e <;> rcases z with z | z <;> subst e
                    · exact a1 z.symm
                    · exact a3 z.symm
                    · exact a2 z.symm
                    · exact a4 z.symm
            exact h p G2 H' ((dead.trans rfl S2).grown r2) (no _ (.inl rfl) g1) (no _ (.inr rfl) g2) n1 n2 h2
    | ex C ks es =>
      simp only [e] at h ⊢
      intro ρ' G' H' cls d S' r' x
      exact h G' H' cls d (S'.grown r') x
theorem spF.len {np : Nat} {F : FF} {vs : List V} {Q : VK} {E : XK} (h : spF c np F vs H Q E) : vs.length = np := by
  obtain ⟨ρ, G, st, ws, _, r, hl, _⟩ := h
  rw [r.len, hl]
end
/-! ### a def's body keeps its promise -/
section
variable {P : Program} {w : World} {mg : Str → Option Value} {base : Heap} {c : Kx}
abbrev cxE (P : Program) (w : World) (c : Kx) (mg : Str → Option Value) (base : Heap) (N : List Str) (qual : Str) (st : Stmt) (f : Addr) (cdv : Value) (A : Around) (outer : List Env) (s : Shared) (H : Hp) (E : XK) : Cx :=
  cxOf (L2.CX P w) P w c.K mg base N qual (defScope st) f cdv A outer s H E
abbrev wx (E : XK) : WX := fun cls d _ H => E cls d H
theorem fn_full {x qual : Str} {sd : Stmt} {f : Addr} {fd : FuncData} {N ps : List Str} {k : Nat} {m : EM Fl} (F : Fun c.K x qual sd f fd) (S : FnScope N ps (defScope sd)) (hn : ps.length ≤ N.length)
    (hb : ∀ (cdv : Value) (A : Around) (outer : List Env) (s : Shared) (H : Hp) (E : XK), Room k (A.deeper (envOfC qual (defScope sd) s.heap.objs.size f cdv)) → ESs c (cxE P w c mg base N qual sd f cdv A outer s H E) (wx E) (defBody sd) m) :
    FnOk P w c.K mg base (L2.CX P w) (k + 1) f fd ps (spF c ps.length (bodyF N.length m)) := by
  refine F.okX S (fun vs H Q E h => h.len) (fun cdv A outer s H vs Q E hr h => ⟨_, (hb cdv A outer s H E hr).ps, ?_⟩)
  obtain ⟨ρ, G, st, ws, r, rw', hl, h⟩ := h
  have hv : vs.length = ws.length := rw'.len
  have hR : R c ρ G (L2.start N vs) H (initS N.length ws st) := by
    refine ⟨r, fun i w e => ?_, ?_⟩
    · unfold initS at e
      unfold L2.start
      simp only at e
      by_cases hi : i < ws.length
      · rw [List.getElem?_append_left (by simpa using hi), List.getElem?_map] at e
        cases q : ws[i]? with
        | none => rw [q] at e; cases e
        | some y =>
          rw [q] at e
          cases e
          obtain ⟨v, h1, h2⟩ := rw'.get q
          exact ⟨v, by rw [List.getElem?_append_left (by simp [hv]; exact hi), List.getElem?_map, h1]; rfl, h2⟩
      · rw [List.getElem?_append_right (by simpa using hi), List.getElem?_replicate] at e
        split at e <;> cases e
    · unfold initS L2.start
      simp [hv]
  refine ⟨ρ, G, initS N.length ws st, hR, ?_⟩
  unfold bodyF at h
  unfold Ws
  cases e : m (initS N.length ws st) with
  | none => simp only [e] at h
  | some p =>
    obtain ⟨o, s'⟩ := p
    cases o with
    | ok fl =>
      cases fl with
      | nx =>
        simp only [e] at h
        exact fun ρ' G' σ' H' S' R' => h _ ρ' G' H' S' R'.rs .non
      | ret w =>
        simp only [e] at h
        exact fun ρ' G' σ' H' S' R' v rv => h v ρ' G' H' S' R'.rs rv
      | brk => simp only [e] at h
      | cnt => simp only [e] at h
    | ex C ks es =>
      simp only [e] at h
      exact fun ρ' G' σ' H' cls d S' R' x => h ρ' G' H' cls d S' R'.rs x
end
end EV
/-! EV5: calls of defs, of methods, of classes. -/
namespace EV
open PySem PySem.Spec PyProof.Rows L2
def thr {α : Type} (C : Nat) (ks : List Nat) (es : List D) : EM α := fun s => some (.ex C ks es, s)
def allD : List W → Option (List D)
  | [] => some []
  | .d x :: r => (allD r).map (x :: ·)
  | .loc _ :: _ => none
theorem allD_map : ∀ (ds : List D), allD (ds.map .d) = some ds
  | [] => rfl
  | d :: ds => by
    show (allD (ds.map .d)).map (d :: ·) = _
    rw [allD_map ds]; rfl
theorem allD_eq : ∀ {ws : List W} {ds : List D}, allD ws = some ds → ws = ds.map .d
  | [], _, e => by cases e; rfl
  | .d x :: r, ds, e => by
    unfold allD at e
    cases q : allD r with
    | none => rw [q] at e; cases e
    | some es => rw [q] at e; cases e; rw [allD_eq q]; rfl
  | .loc _ :: _, _, e => by cases e
/-- the arguments are trees -/
def treesE (m : EM (List W)) : EM (List D) := bnd m fun ws => match allD ws with
  | some ds => pur ds
  | none => non
def outP (o : Option (Out D)) : EM W := match o with
  | some (.ok d) => pur (.d d)
  | some (.ex C ks es) => thr C ks es
  | none => non
def callP (F : FP) (m : EM (List W)) : EM W := bnd (treesE m) fun ds => outP (F ds)
def outO (o : Option (Out OO)) : EM W := match o with
  | some (.ok o) => fun s => some (.ok (.loc s.st.length), ⟨s.env, s.st ++ [some o]⟩)
  | some (.ex C ks es) => thr C ks es
  | none => non
def callO (F : FO) (m : EM (List W)) : EM W := bnd (treesE m) fun ds => outO (F ds)
def outF (o : Option (Out W × Store)) : EM W := match o with
  | some (.ok w, st) => fun s => some (.ok w, ⟨s.env, st⟩)
  | some (.ex C ks es, st) => fun s => some (.ex C ks es, ⟨s.env, st⟩)
  | none => non
def callF (F : FF) (m : EM (List W)) : EM W := bnd m fun ws => fun s => outF (F ws s.st) s
/-- a promise by values, within a def: what it asks gives what m gives -/
def SpA (c : Kx) (sp : Sp) (f : List W → EM W) : Prop :=
  ∀ (U : WX) (ρ : Rho) (G H : Hp) (σ : L2.St) (s : SS) (ws : List W) (vs : List V) (Q : VK), R c ρ G σ H s → RepWs c ρ G ws vs → Wp c U (f ws) ρ G σ H s (fun w ρ' G' H' _ => ∀ v, RepW c ρ' G' w v → Q v H') → sp vs H Q (WE U σ)
def gP (np : Nat) (F : FP) (ws : List W) : EM W := if ws.length = np then callP F (pur ws) else non
def gO (np : Nat) (F : FO) (ws : List W) : EM W := if ws.length = np then callO F (pur ws) else non
def gF (np : Nat) (F : FF) (ws : List W) : EM W := if ws.length = np then callF F (pur ws) else non
section
variable {c : Kx} {np : Nat}
theorem spA_P {F : FP} : SpA c (spP c np F) (gP np F) := fun U ρ G H σ s ws vs Q hR r w => by
  unfold gP at w
  by_cases hl : ws.length = np
  · rw [if_pos hl] at w
    cases e : allD ws with
    | none => exact w.none (by unfold callP treesE; rw [bnd_pur, e]; rfl)
    | some ds =>
      have e2 : callP F (pur ws) = outP (F ds) := by unfold callP treesE; rw [bnd_pur, e]; rfl
      rw [e2] at w
      obtain rfl := allD_eq e
      refine ⟨G, ds, hR.rs.sub, RepWs.toD r, by rw [List.length_map] at hl; exact hl, ?_⟩
      cases q : F ds with
      | none => rw [q] at w; exact w.none rfl
      | some o =>
        rw [q] at w
        cases o with
        | ok d =>
          intro v G' H' g rd
          obtain ⟨S, r'⟩ := called hR.rs g.sH g.sG g.sub g.fr
          exact Wp.okE (s' := s) (a := W.d d) rfl w ρ G' H' S ⟨r', hR.env.mono S.rho S.same, hR.len⟩ v rd
        | ex C ks es =>
          intro G' H' cls d g x
          obtain ⟨S, r'⟩ := called hR.rs g.sH g.sG g.sub g.fr
          exact w ρ G' H' cls d S ⟨r', hR.env.mono S.rho S.same, hR.len⟩ x
  · rw [if_neg hl] at w
    exact w.none rfl
theorem spA_O {F : FO} : SpA c (spO c np F) (gO np F) := fun U ρ G H σ s ws vs Q hR r w => by
  unfold gO at w
  by_cases hl : ws.length = np
  · rw [if_pos hl] at w
    cases e : allD ws with
    | none => exact w.none (by unfold callO treesE; rw [bnd_pur, e]; rfl)
    | some ds =>
      have e2 : callO F (pur ws) = outO (F ds) := by unfold callO treesE; rw [bnd_pur, e]; rfl
      rw [e2] at w
      obtain rfl := allD_eq e
      refine ⟨G, ds, hR.rs.sub, RepWs.toD r, by rw [List.length_map] at hl; exact hl, ?_⟩
      cases q : F ds with
      | none => rw [q] at w; exact w.none rfl
      | some o =>
        rw [q] at w
        cases o with
        | ok o =>
          intro p G' H' g n1 n2 h1 h2 ok
          obtain ⟨S, r'⟩ := called hR.rs g.sH g.sG g.sub g.fr
          -- the new object apart
          have own : OwnOk c ρ G' H' p o := ok.mono (fun n q e => by simp at e) (Same.refl _) (fun _ e => e) (fun _ e => e)
          have le : Rle ρ (ρ ++ [p]) := fun n q e => by rw [List.getElem?_append_left (List.getElem?_eq_some_iff.mp e).1]; exact e
          have at1 : ∀ (n : Nat) (q : Addr × Addr), (ρ ++ [p])[n]? = some q → ρ[n]? = some q ∨ (n = ρ.length ∧ q = p) := fun n q e => by
            by_cases hn : n < ρ.length
            · rw [List.getElem?_append_left hn] at e; exact .inl e
            · rw [List.getElem?_append_right (by omega)] at e
              have hz : n - ρ.length = 0 := by
                have := (List.getElem?_eq_some_iff.mp e).1
                simp at this; omega
              rw [hz] at e
              exact .inr ⟨by omega, (Option.some.inj e).symm⟩
          have at2 : ∀ (n : Nat) (o' : Option OO), (s.st ++ [some o])[n]? = some o' → s.st[n]? = some o' ∨ (n = s.st.length ∧ o' = some o) := fun n o' e => by
            by_cases hn : n < s.st.length
            · rw [List.getElem?_append_left hn] at e; exact .inl e
            · rw [List.getElem?_append_right (by omega)] at e
              have hz : n - s.st.length = 0 := by
                have := (List.getElem?_eq_some_iff.mp e).1
                simp at this; omega
              rw [hz] at e
              exact .inr ⟨by omega, (Option.some.inj e).symm⟩
          have old : ∀ (n : Nat) (q : Addr × Addr) (o' : OO), (ρ ++ [p])[n]? = some q → (s.st ++ [some o])[n]? = some (some o') → (ρ[n]? = some q ∧ s.st[n]? = some (some o')) ∨ (n = s.st.length ∧ q = p ∧ o' = o) := fun n q o' hq ho => by
            rcases at1 n q hq with z | ⟨z, e⟩
            · rcases at2 n _ ho with y | ⟨y, e⟩
              · exact .inl ⟨z, y⟩
              · have := (List.getElem?_eq_some_iff.mp z).1
                rw [hR.rs.len] at this
                omega
            · rcases at2 n _ ho with y | ⟨y, e'⟩
              · have := (List.getElem?_eq_some_iff.mp y).1
                rw [← hR.rs.len] at this
                omega
              · exact .inr ⟨y, e, Option.some.inj e'⟩
          have rs : RS c (ρ ++ [p]) G' H' (s.st ++ [some o]) := by
            refine ⟨g.sub, by simp [hR.rs.len], fun m q o' hq h => ?_, fun m m' q q' o1 o2 hq hq' ho ho' e => ?_⟩
            · rcases old m q o' hq h with ⟨z, y⟩ | ⟨_, e, e'⟩
              · obtain ⟨b1, b2, b3⟩ := r'.own m q o' z y
                exact ⟨b1, b2, b3.mono le (Same.refl _) (fun _ e => e) (fun _ e => e)⟩
              · subst e e'
                exact ⟨n1, n2, own.mono le (Same.refl _) (fun _ e => e) (fun _ e => e)⟩
            · rcases old m q o1 hq ho with ⟨z, y⟩ | ⟨z, y, _⟩
              · rcases old m' q' o2 hq' ho' with ⟨z', y'⟩ | ⟨z', y', _⟩
                · exact r'.inj m m' q q' o1 o2 z z' y y' e
                · obtain ⟨⟨u, t⟩, _⟩ := (hR.rs.own m q o1 z y).2.2.there
                  rw [e, y', h1] at t
                  cases t
              · rcases old m' q' o2 hq' ho' with ⟨z', y'⟩ | ⟨z', y', _⟩
                · obtain ⟨⟨u, t⟩, _⟩ := (hR.rs.own m' q' o2 z' y').2.2.there
                  rw [← e, y, h1] at t
                  cases t
                · omega
          have S2 : Stp ρ G H s.st (ρ ++ [p]) G' H' (s.st ++ [some o]) := by
            refine ⟨S.same, le, fun m o' hm h => ?_, S.keep, S.there, S.fresh, fun m q hm hq => ?_⟩
            · rcases at2 m _ h with z | ⟨z, _⟩
              · exact ⟨o', z⟩
              · rw [← hR.rs.len] at z; omega
            · rcases at1 m q hq with z | ⟨_, e⟩
              · have := (List.getElem?_eq_some_iff.mp z).1
                omega
              · rw [e]; exact ⟨h1, h2⟩
          exact Wp.okE (s' := ⟨s.env, s.st ++ [some o]⟩) (a := W.loc s.st.length) rfl w (ρ ++ [p]) G' H' S2 ⟨rs, hR.env.mono S2.rho S2.same, hR.len⟩ _
            ⟨p, by rw [← hR.rs.len, List.getElem?_append_right (Nat.le_refl _)]; simp, rfl⟩
        | ex C ks es =>
          intro G' H' cls d g x
          obtain ⟨S, r'⟩ := called hR.rs g.sH g.sG g.sub g.fr
          exact w ρ G' H' cls d S ⟨r', hR.env.mono S.rho S.same, hR.len⟩ x
  · rw [if_neg hl] at w
    exact w.none rfl
theorem spA_F {F : FF} : SpA c (spF c np F) (gF np F) := fun U ρ G H σ s ws vs Q hR r w => by
  unfold gF at w
  by_cases hl : ws.length = np
  · rw [if_pos hl] at w
    refine ⟨ρ, G, s.st, ws, hR.rs, r, hl, ?_⟩
    have e2 : callF F (pur ws) s = outF (F ws s.st) s := rfl
    unfold Wp at w
    rw [e2] at w
    cases q : F ws s.st with
    | none => rw [q] at w; exact w
    | some p =>
      obtain ⟨o, st'⟩ := p
      rw [q] at w
      cases o with
      | ok x => exact fun v ρ' G' H' S r' rv => w ρ' G' H' S ⟨r', hR.env.mono S.rho S.same, hR.len⟩ v rv
      | ex C ks es => exact fun ρ' G' H' cls d S r' x => w ρ' G' H' cls d S ⟨r', hR.env.mono S.rho S.same, hR.len⟩ x
  · rw [if_neg hl] at w
    exact w.none rfl
end
/-! ### a def that may be called -/
/-- at f stands a def of level k that keeps sp; its last parameters have the defaults dvs -/
structure FnS (P : Program) (w : World) (K : PySem.W.Frag) (mg : Str → Option Value) (base : Heap) (k : Nat) (f : Addr) (sp : Sp) (dvs : List V) : Prop where
  ex : ∃ (fd : FuncData) (ps : List Str) (ds : List Value), FnOk P w K mg base (L2.CX P w) k f fd ps sp ∧ PySem.W.keepIn K (.ref f) = true ∧ Binds K fd ps ds ∧ Vals dvs ds
theorem FnS.mono {P : Program} {w : World} {K : PySem.W.Frag} {mg : Str → Option Value} {base : Heap} {j k : Nat} {f : Addr} {sp : Sp} {dvs : List V} (h : FnS P w K mg base j f sp dvs) (hk : j ≤ k) : FnS P w K mg base k f sp dvs :=
  let ⟨fd, ps, ds, F, a, b, d⟩ := h.ex
  ⟨fd, ps, ds, F.mono hk, a, b, d⟩
theorem FnS.imp {P : Program} {w : World} {K : PySem.W.Frag} {mg : Str → Option Value} {base : Heap} {k : Nat} {f : Addr} {sp sp' : Sp} {dvs : List V} (h : FnS P w K mg base k f sp dvs) (q : ∀ vs H Q E, sp' vs H Q E → sp vs H Q E) : FnS P w K mg base k f sp' dvs :=
  let ⟨fd, ps, ds, F, a, b, d⟩ := h.ex
  ⟨fd, ps, ds, F.imp q, a, b, d⟩
section
variable {X : Cx} {c : Kx} {U : WX} {k : Nat} {f C : Addr} {sp : Sp} {dvs : List V} {x mn : Str} {p pos apos : Pos} {e o : Expr} {es : List Expr} {t : TA}
theorem run_g {pins : List (Addr × Obj)} {σ : L2.St} {H : Hp} {s : Shared} {Q : VK} {us : List Value} {vs : List V} (F : FnS X.prog X.w X.K X.mg X.base k f sp dvs) (hr : Room k X.A) (tk : Takes X U)
    (I : L2.Inv X pins σ H s) (r : Vals vs us) (h : sp (vs ++ dvs) H Q (WE U σ)) : wpAny (model X.prog X.w) X.A (call (.ref f) us) (EP X pins σ Q) X.xe s := by
  obtain ⟨fd, ps, ds, F, _, hb, hd⟩ := F.ex
  have r2 := r.append hd
  have hl : (us ++ ds).length = ps.length := by
    rw [← r2.length]
    exact F.len _ _ _ _ h
  refine wpAny_call (codeAny_mono (F.run X.A X.stack s H ⟨us, []⟩ (us ++ ds) (vs ++ dvs) Q (WE U σ) hr I.env0 (hb s us I.kIn hl) r2 h) fun res s' hq => ?_)
  match res, hq with
  | .error e, hq => exact passAt tk σ pins H s e s' I hq
  | .ok (.ret u), hq => exact I.after hq
  | .ok .next, hq => exact hq.elim
  | .ok .brk, hq => exact hq.elim
  | .ok .cont, hq => exact hq.elim
/-- the reading of a call -/
def tCl (sp : Sp) (dvs : List V) (U : WX) (t : TA) : TE := fun σ H Q => t σ H fun vs H1 => sp (vs ++ dvs) H1 Q (WE U σ)
theorem pe_cl (F : FnS X.prog X.w X.K X.mg X.base k f sp dvs) (hr : Room k X.A) (tk : Takes X U) (hg : Gl X x) (hm : X.mg x = some (.ref f)) (ha : PA X (e :: es) t)
    (hdb : (x == ("__debug__" : Str)) = false := by decide) (he : starEach (e :: es) X.env = (false, eval e X.env) :: starEach es X.env := by rfl) (hpl : (backTo pos (starEach es X.env)).any (·.1) = false := by rfl) :
    PE X (.Call (.Name x p) (e :: es) [] pos) (tCl sp dvs U t) := ⟨fun pins s σ H Q I h => by
  obtain ⟨fd, ps, ds, _, hk, _⟩ := id F.ex
  refine wpAny_Call_Name_kw (ld_glob I hg hm (PySem.W.callWith_K (h₀ := X.base) I.ok.mod.kin hk ?_ he hpl) hdb)
  exact thn (ha.run pos pins s σ H _ I h) fun us s1 ⟨vs, H1, I1, r, q⟩ => ⟨I1.kIn, run_g F hr tk I1 r q⟩⟩
theorem pe_cl0 (F : FnS X.prog X.w X.K X.mg X.base k f sp dvs) (hr : Room k X.A) (tk : Takes X U) (hg : Gl X x) (hm : X.mg x = some (.ref f))
    (hdb : (x == ("__debug__" : Str)) = false := by decide) : PE X (.Call (.Name x p) [] [] pos) (tCl sp dvs U tNil) := ⟨fun pins s σ H Q I h => by
  obtain ⟨fd, ps, ds, _, hk, _⟩ := id F.ex
  exact wpAny_Call_Name_kw (ld_glob I hg hm (PySem.W.callWith_K0 I.kIn hk (run_g (us := []) F hr tk I .nil h)) hdb)⟩
/-- what a call gives, by the rule of its promise -/
def callE (g : List W → EM W) (dws : List W) (m : EM (List W)) : EM W := bnd m fun ws => g (ws ++ dws)
/-- the defaults as values -/
def DefOk (c : Kx) (dws : List W) (dvs : List V) : Prop := ∀ (ρ : Rho) (G : Hp), RepWs c ρ G dws dvs
theorem DefOk.nil : DefOk c [] [] := fun _ _ => rfl
theorem wp_cl {g : List W → EM W} {m : EM (List W)} {dws : List W} (hs : SpA c sp g) (hd : DefOk c dws dvs) {ρ : Rho} {G H : Hp} {σ : L2.St} {s : SS} {Q : VK} (hR : R c ρ G σ H s) (w : Wp c U (callE g dws m) ρ G σ H s (fun w ρ' G' H' _ => ∀ v, RepW c ρ' G' w v → Q v H')) :
    tCl sp dvs U (tA c U m) σ H Q :=
  ⟨ρ, G, s, hR, (Wp.bnd hR w).imp fun ws ρ1 G1 H1 s1 ⟨S1, R1, w1⟩ vs rvs => hs U ρ1 G1 H1 σ s1 (ws ++ dws) (vs ++ dvs) Q R1 (rvs.app (hd ρ1 G1)) w1⟩
variable {g : List W → EM W} {dws : List W} {m : EM (List W)} {mo : EM W}
theorem ee_call (hs : SpA c sp g) (hd : DefOk c dws dvs) (F : FnS X.prog X.w X.K X.mg X.base k f sp dvs) (hr : Room k X.A) (tk : Takes X U) (hg : Gl X x) (hm : X.mg x = some (.ref f)) (ha : EA c X U (e :: es) m)
    (hdb : (x == ("__debug__" : Str)) = false := by decide) (he : starEach (e :: es) X.env = (false, eval e X.env) :: starEach es X.env := by rfl) (hpl : (backTo pos (starEach es X.env)).any (·.1) = false := by rfl) :
    EE c X U (.Call (.Name x p) (e :: es) [] pos) (callE g dws m) :=
  EE.mk1 ha.K (pe_cl F hr tk hg hm ha.pa hdb he hpl) fun ρ G s σ H Q hR w => wp_cl hs hd hR w
theorem ee_call0 (hK : X.K = c.K) (hs : SpA c sp g) (hd : DefOk c dws dvs) (F : FnS X.prog X.w X.K X.mg X.base k f sp dvs) (hr : Room k X.A) (tk : Takes X U) (hg : Gl X x) (hm : X.mg x = some (.ref f))
    (hdb : (x == ("__debug__" : Str)) = false := by decide) : EE c X U (.Call (.Name x p) [] [] pos) (callE g dws anil) :=
  EE.mk1 hK (pe_cl0 F hr tk hg hm hdb) fun ρ G s σ H Q hR w => by
    have q := wp_cl (m := anil) hs hd hR w
    obtain ⟨ρ, G, s, hR, w⟩ := q
    exact Wp.pur hR w [] rfl
end
end EV
/-! EV6: methods, classes called. -/
namespace EV
open PySem PySem.Spec PyProof.Rows L2
def clsOf (st : Store) : W → Option Nat
  | .d (.ins k _ _) => some k
  | .d _ => none
  | .loc n => match st[n]? with
    | some (some (.ins k _ _)) => some k
    | _ => none
def methE (tbl : List (Nat × (List W → EM W))) (mo : EM W) (m : EM (List W)) : EM W := bnd mo fun o => fun s => match clsOf s.st o with
  | none => none
  | some k => match tbl.lookup k with
    | none => none
    | some g => bnd m (fun ws => g (o :: ws)) s
section
variable {c : Kx} {ρ : Rho} {G H : Hp} {st : Store}
theorem nm_none {C : Addr} {ks : List Nat} {vs : List V} {mn : Str} {f : Addr} (h : FOk c C ks) (hm : PySem.W.findIn c.K (.ref C) mn = some (some (.ref f))) : ((ks.map c.nm).zip vs).lookup mn = none := by
  have key : ∀ (ks : List Nat) (vs : List V), (∀ i ∈ ks, NoAttr c.K C (c.nm i)) → ((ks.map c.nm).zip vs).lookup mn = none := by
    intro ks
    induction ks with
    | nil => intro vs _; rfl
    | cons i r ih =>
      intro vs hn
      cases vs with
      | nil => rfl
      | cons v vs =>
        have ne : (mn == c.nm i) = false := by
          rw [beq_eq_false_iff_ne]
          intro e
          have := hn i List.mem_cons_self
          unfold NoAttr at this
          rw [← e, hm] at this
          cases this
        show (match mn == c.nm i with | true => some v | false => ((r.map c.nm).zip vs).lookup mn) = none
        rw [ne]
        exact ih vs fun j hj => hn j (List.mem_cons_of_mem _ hj)
  exact key ks vs fun i hi => (h.2 i hi).2
/-- an instance stands -/
theorem inst_at (r : RS c ρ G H st) {w : W} {v : V} {k : Nat} (rw' : RepW c ρ G w v) (hk : clsOf st w = some k) : ∃ (a C dx : Addr) (ks : List Nat) (vs : List V), v = .ref a ∧ c.ct[k]? = some C ∧ FOk c C ks ∧ H a = some (.ins C dx ((ks.map c.nm).zip vs)) := by
  cases w with
  | d x =>
    cases x with
    | ins k' ks ds =>
      cases hk
      cases rw' with
      | ins hC hF hG hO hl hr => exact ⟨_, _, _, _, _, rfl, hC, hF, r.sub _ _ hG⟩
    | _ => cases hk
  | loc n =>
    obtain ⟨p, hp, hv⟩ := rw'
    unfold clsOf at hk
    cases ho : st[n]? with
    | none => simp only [ho] at hk; cases hk
    | some o =>
      cases o with
      | none => simp only [ho] at hk; cases hk
      | some o =>
        cases o with
        | ins k' ks ws =>
          simp only [ho] at hk
          cases hk
          obtain ⟨_, _, hkl, C, vs, hC, hF, hH, hO, hw⟩ := r.own n p _ hp ho
          exact ⟨p.1, C, p.2, ks, vs, hv, hC, hF, hH⟩
        | lst _ => simp only [ho] at hk; cases hk
        | dct _ _ => simp only [ho] at hk; cases hk
        | tup _ => simp only [ho] at hk; cases hk
end
/-- the class of number k has the method -/
structure MethOk (c : Kx) (X : Cx) (mn : Str) (k : Nat) (g : List W → EM W) : Prop where
  ex : ∃ (C f : Addr) (sp : Sp) (dvs : List V) (dws : List W) (g0 : List W → EM W) (j : Nat), c.ct[k]? = some C ∧ Meth c.K C mn f ∧ FnS X.prog X.w X.K X.mg X.base j f sp dvs ∧ Room j X.A ∧ SpA c sp g0 ∧ DefOk c dws dvs ∧ g = fun ws => g0 (ws ++ dws)
section
variable {X : Cx} {c : Kx} {U : WX} {k j : Nat} {f C : Addr} {sp : Sp} {dvs : List V} {x mn : Str} {p pos apos : Pos} {e o : Expr} {es : List Expr} {t : TA} {mo : EM W} {m : EM (List W)} {tbl : List (Nat × (List W → EM W))}
theorem getm {pins : List (Addr × Obj)} {σ : L2.St} {H : Hp} {s : Shared} {a dx : Addr} {ks : List Nat} {vs : List V} {A : Around} {E : Value → Shared → Prop} {pl : Sem Bool} {Q : Value × List Value → Shared → Prop} (hK : X.K = c.K) (I : L2.Inv X pins σ H s)
    (ha : H a = some (.ins C dx ((ks.map c.nm).zip vs))) (hF : FOk c C ks) (hm : Meth c.K C mn f) (h : Q (.ref f, [.ref a]) s) : wpAny (model X.prog X.w) A (getMethod (.ref a) mn pl) Q E s := by
  refine getmeth_ok I ha ?_ ?_ (nm_none hF hm.at_) h
  · rw [hK]; exact hF.1
  · rw [hK]; exact hm
theorem ee_meth {pl : Sem Bool} (ht : ∀ k g, tbl.lookup k = some g → MethOk c X mn k g) (tk : Takes X U) (ho : EE c X U o mo) (ha : EA c X U (e :: es) m)
    (hst : starEach (e :: es) X.env = (false, eval e X.env) :: starEach es X.env := by rfl) (hpl : (backTo pos (starEach es X.env)).any (·.1) = false := by rfl)
    (hev : eval (.Call (.Attribute o mn apos) (e :: es) [] pos) X.env = (do
      let z ← eval o X.env
      standAt apos.atName
      let (f, first) ← holding [z] (getMethod z mn pl)
      callWith pos f first (backTo pos (starEach (e :: es) X.env)) (backToKw pos (keywordEach [] X.env))) := by rfl) :
    EE c X U (.Call (.Attribute o mn apos) (e :: es) [] pos) (methE tbl mo m) := ⟨ho.K, ⟨fun pins s σ H Q I ⟨ρ, G, ss, hR, w⟩ => by
  have q1 : tE c U mo σ H (fun v H' => ∃ (a : Addr) (k : Nat) (C dx : Addr) (ks : List Nat) (vs : List V) (g : List W → EM W) (w : W) (ρ' : Rho) (G' : Hp) (s' : SS), v = V.ref a ∧ tbl.lookup k = some g ∧ c.ct[k]? = some C ∧ FOk c C ks ∧ H' a = some (.ins C dx ((ks.map c.nm).zip vs)) ∧
      RepW c ρ' G' w v ∧ R c ρ' G' σ H' s' ∧ Wp c U (bnd m fun ws => g (w :: ws)) ρ' G' σ H' s' (fun w ρ' G' H' _ => ∀ v, RepW c ρ' G' w v → Q v H')) := by
    refine ⟨ρ, G, ss, hR, (Wp.bnd hR w).imp fun z ρ1 G1 H1 s1 ⟨S1, R1, w1⟩ v rv => ?_⟩
    unfold Wp at w1
    cases hk : clsOf s1.st z with
    | none => simp only [hk] at w1
    | some k =>
      cases hg : tbl.lookup k with
      | none => simp only [hk, hg] at w1
      | some g =>
        simp only [hk, hg] at w1
        obtain ⟨a, C, dx, ks, vs, e, hC, hF, hH⟩ := inst_at R1.rs rv hk
        exact ⟨a, k, C, dx, ks, vs, g, z, ρ1, G1, s1, e, hg, hC, hF, hH, rv, R1, w1⟩
  refine PySem.W.methodCall_KW (pl := pl) (thn (ho.pe.run pins s σ H _ I q1) fun u s1 ⟨v, H1, I1, ru, a, k, C, dx, ks, vs, g, z, ρ1, G1, s2, hv, hg, hC, hF, hH, rv, R1, w1⟩ => ?_) hev
  · subst hv
    obtain rfl : u = Value.ref a := ru
    obtain ⟨C', f, sp, dvs, dws, g0, j, hC', hm, F, hr, hs, hd, rfl⟩ := (ht k g hg).ex
    rw [hC] at hC'
    cases hC'
    refine getm ho.K I1 hH hF hm ?_
    refine PySem.W.callWith_K (first := [.ref a]) (h₀ := X.base) I1.ok.mod.kin (by rw [ho.K]; exact hm.kp) ?_ hst hpl
    refine thn (ha.pa.run pos pins s1 σ H1 (fun vs H' => sp (V.ref a :: vs ++ dvs) H' Q (WE U σ)) I1 ⟨_, _, _, R1, (Wp.bnd R1 w1).imp fun ws ρ2 G2 H2 s2 ⟨S2, R2, w2⟩ us rus => ?_⟩) fun us s2 ⟨vs2, H2, I2, r, q2⟩ => ⟨I2.kIn, ?_⟩
    · have r1 : RepWs c ρ2 G2 ((_ :: ws) ++ dws) (V.ref a :: us ++ dvs) := RepWs.app (⟨_, us, rfl, rv.mono S2.rho S2.same, rus⟩ : RepWs c ρ2 G2 (_ :: ws) (V.ref a :: us)) (hd ρ2 G2)
      exact hs U ρ2 G2 H2 σ s2 _ _ Q R2 r1 w2
    · exact run_g (us := .ref a :: us) (vs := .ref a :: vs2) F hr tk I2 (.cons rfl r) q2⟩⟩
theorem ee_meth0 {pl : Sem Bool} (ht : ∀ k g, tbl.lookup k = some g → MethOk c X mn k g) (tk : Takes X U) (ho : EE c X U o mo)
    (hev : eval (.Call (.Attribute o mn apos) [] [] pos) X.env = (do
      let z ← eval o X.env
      standAt apos.atName
      let (f, first) ← holding [z] (getMethod z mn pl)
      callWith pos f first (backTo pos (starEach [] X.env)) (backToKw pos (keywordEach [] X.env))) := by rfl) :
    EE c X U (.Call (.Attribute o mn apos) [] [] pos) (methE tbl mo anil) := ⟨ho.K, ⟨fun pins s σ H Q I ⟨ρ, G, ss, hR, w⟩ => by
  have q1 : tE c U mo σ H (fun v H' => ∃ (a : Addr) (k : Nat) (C dx : Addr) (ks : List Nat) (vs : List V) (g : List W → EM W) (w : W) (ρ' : Rho) (G' : Hp) (s' : SS), v = V.ref a ∧ tbl.lookup k = some g ∧ c.ct[k]? = some C ∧ FOk c C ks ∧ H' a = some (.ins C dx ((ks.map c.nm).zip vs)) ∧
      RepW c ρ' G' w v ∧ R c ρ' G' σ H' s' ∧ Wp c U (g [w]) ρ' G' σ H' s' (fun w ρ' G' H' _ => ∀ v, RepW c ρ' G' w v → Q v H')) := by
    refine ⟨ρ, G, ss, hR, (Wp.bnd hR w).imp fun z ρ1 G1 H1 s1 ⟨S1, R1, w1⟩ v rv => ?_⟩
    unfold Wp at w1
    cases hk : clsOf s1.st z with
    | none => simp only [hk] at w1
    | some k =>
      cases hg : tbl.lookup k with
      | none => simp only [hk, hg] at w1
      | some g =>
        simp only [hk, hg] at w1
        obtain ⟨a, C, dx, ks, vs, e, hC, hF, hH⟩ := inst_at R1.rs rv hk
        exact ⟨a, k, C, dx, ks, vs, g, z, ρ1, G1, s1, e, hg, hC, hF, hH, rv, R1, w1⟩
  refine PySem.W.methodCall_KW (pl := pl) (thn (ho.pe.run pins s σ H _ I q1) fun u s1 ⟨v, H1, I1, ru, a, k, C, dx, ks, vs, g, z, ρ1, G1, s2, hv, hg, hC, hF, hH, rv, R1, w1⟩ => ?_) hev
  · subst hv
    obtain rfl : u = Value.ref a := ru
    obtain ⟨C', f, sp, dvs, dws, g0, j, hC', hm, F, hr, hs, hd, rfl⟩ := (ht k g hg).ex
    rw [hC] at hC'
    cases hC'
    refine getm ho.K I1 hH hF hm ?_
    refine PySem.W.callWith_K0 (first := [.ref a]) I1.kIn (by rw [ho.K]; exact hm.kp) ?_
    refine run_g (us := [.ref a]) (vs := [.ref a]) F hr tk I1 (.cons rfl .nil) ?_
    have r1 : RepWs c _ _ ([_] ++ dws) ([V.ref a] ++ dvs) := RepWs.app (⟨_, [], rfl, rv, rfl⟩ : RepWs c _ _ [_] [V.ref a]) (hd _ _)
    exact hs U _ _ H1 σ _ _ _ Q R1 r1 w1⟩⟩
/-! ### C.m(..): a def of a class, called as it stands -/
structure CFun (K : PySem.W.Frag) (C : Addr) (mn : Str) (f : Addr) : Prop where
  ex : ∃ mc, ClX.CRead K C mc ∧ PySem.W.findCls K (.ref C) mc mn = some (.val (.ref f))
theorem ee_cfun {g : List W → EM W} {dws : List W} (hs : SpA c sp g) (hd : DefOk c dws dvs) (F : FnS X.prog X.w X.K X.mg X.base k f sp dvs) (hr : Room k X.A) (tk : Takes X U) (hg : Gl X x) (hm : X.mg x = some (.ref C)) (hC : CFun X.K C mn f) (ha : EA c X U (e :: es) m)
    (hdb : (x == ("__debug__" : Str)) = false := by decide) {pl : Sem Bool} (hst : starEach (e :: es) X.env = (false, eval e X.env) :: starEach es X.env := by rfl) (hpl : (backTo pos (starEach es X.env)).any (·.1) = false := by rfl)
    (hev : eval (.Call (.Attribute (.Name x p) mn apos) (e :: es) [] pos) X.env = (do
      let z ← eval (.Name x p) X.env
      standAt apos.atName
      let (f, first) ← holding [z] (getMethod z mn pl)
      callWith pos f first (backTo pos (starEach (e :: es) X.env)) (backToKw pos (keywordEach [] X.env))) := by rfl) :
    EE c X U (.Call (.Attribute (.Name x p) mn apos) (e :: es) [] pos) (callE g dws m) := ⟨ha.K, ⟨fun pins s σ H Q I ⟨ρ, G, ss, hR, w⟩ => by
  obtain ⟨mc, rd, at_⟩ := hC.ex
  have q := wp_cl (Q := Q) hs hd hR w
  refine PySem.W.methodCall_KW (pl := pl) (ld_glob I hg hm ?_ hdb) hev
  refine PySem.W.method_cls I.kIn rd.ga (ClX.getcval_ok (v := .ref f) I rd ⟨at_, rfl⟩ fun s1 I1 => ?_)
  obtain ⟨fd, ps, ds, _, hk, _⟩ := id F.ex
  refine PySem.W.callWith_K (first := []) (h₀ := X.base) I1.ok.mod.kin hk ?_ hst hpl
  exact thn (ha.pa.run pos pins s1 σ H _ I1 q) fun us s2 ⟨vs, H2, I2, r, q2⟩ => ⟨I2.kIn, run_g F hr tk I2 r q2⟩⟩⟩
/-! ### C(..) -/
theorem run_mk {pins : List (Addr × Obj)} {σ : L2.St} {H : Hp} {s : Shared} {Q : VK} {us : List Value} {vs : List V} (M : Mk X.K C f) (F : FnS X.prog X.w X.K X.mg X.base k f sp dvs) (hr : Room (k + 1) X.A) (tk : Takes X U) (I : L2.Inv X pins σ H s) (r : Vals vs us)
    (h : ∀ x dx, H x = none → H dx = none → dx ≠ x → sp (.ref x :: (vs ++ dvs)) (upd (upd H dx (.own x)) x (.ins C dx [])) (fun v H2 => v = .non ∧ Q (.ref x) H2) (WE U σ)) :
    wpAny (model X.prog X.w) X.A (call (.ref C) us) (EP X pins σ Q) X.xe s := by
  obtain ⟨fd, ps, ds, F, _, hb, hd⟩ := F.ex
  have hq := h (s.heap.objs.size + 1) s.heap.objs.size (I.hok.fresh (Nat.le_succ _)) (I.hok.fresh (Nat.le_refl _)) (Nat.ne_of_lt (Nat.lt_succ_self _))
  have I2 := Inv.made (C := C) I
  have r2 : Vals (V.ref (s.heap.objs.size + 1) :: (vs ++ dvs)) (Value.ref (s.heap.objs.size + 1) :: (us ++ ds)) := .cons rfl (r.append hd)
  have hl : (Value.ref (s.heap.objs.size + 1) :: us ++ ds).length = ps.length := by
    have e := F.len _ _ _ _ hq
    rw [r2.length] at e
    exact e
  refine wpAny_call (L2.make_map (f := f) I.kIn M.makes M.init (beq_iff_eq.mp M.fn) (codeAny_mono (F.run _ X.stack _ _ ⟨Value.ref (s.heap.objs.size + 1) :: us, []⟩ (Value.ref (s.heap.objs.size + 1) :: (us ++ ds)) _ _ (WE U σ)
    (hr.make C us []) (I2.env0.make C us []) (hb _ (Value.ref (s.heap.objs.size + 1) :: us) I2.kIn hl) r2 hq) fun res s' hq' => ?_))
  match res, hq' with
  | .error e, hq' => exact passAt tk σ pins _ _ e s' I2 hq'
  | .ok (.ret u), hq' =>
    obtain ⟨v, H', I3, rv, ev, q3⟩ := I2.after hq'
    subst ev
    exact ⟨rv, ⟨V.ref (s.heap.objs.size + 1), H', I3, rfl, q3⟩⟩
  | .ok .next, hq' => exact hq'.elim
  | .ok .brk, hq' => exact hq'.elim
  | .ok .cont, hq' => exact hq'.elim
def tMk (C : Addr) (sp : Sp) (dvs : List V) (U : WX) (t : TA) : TE := fun σ H Q => t σ H fun vs H1 => ∀ x dx, H1 x = none → H1 dx = none → dx ≠ x →
  sp (.ref x :: (vs ++ dvs)) (upd (upd H1 dx (.own x)) x (.ins C dx [])) (fun v H2 => v = .non ∧ Q (.ref x) H2) (WE U σ)
theorem pe_mkC (M : Mk X.K C f) (F : FnS X.prog X.w X.K X.mg X.base k f sp dvs) (hr : Room (k + 1) X.A) (tk : Takes X U) (hg : Gl X x) (hm : X.mg x = some (.ref C)) (ha : PA X (e :: es) t)
    (hdb : (x == ("__debug__" : Str)) = false := by decide) (he : starEach (e :: es) X.env = (false, eval e X.env) :: starEach es X.env := by rfl) (hpl : (backTo pos (starEach es X.env)).any (·.1) = false := by rfl) :
    PE X (.Call (.Name x p) (e :: es) [] pos) (tMk C sp dvs U t) := ⟨fun pins s σ H Q I h => by
  refine wpAny_Call_Name_kw (ld_glob I hg hm (PySem.W.callWith_K (h₀ := X.base) I.ok.mod.kin M.kp ?_ he hpl) hdb)
  exact thn (ha.run pos pins s σ H _ I h) fun us s1 ⟨vs, H1, I1, r, q⟩ => ⟨I1.kIn, run_mk M F hr tk I1 r q⟩⟩
theorem pe_mkC0 (M : Mk X.K C f) (F : FnS X.prog X.w X.K X.mg X.base k f sp dvs) (hr : Room (k + 1) X.A) (tk : Takes X U) (hg : Gl X x) (hm : X.mg x = some (.ref C))
    (hdb : (x == ("__debug__" : Str)) = false := by decide) : PE X (.Call (.Name x p) [] [] pos) (tMk C sp dvs U tNil) := ⟨fun pins s σ H Q I h =>
  wpAny_Call_Name_kw (ld_glob I hg hm (PySem.W.callWith_K0 I.kIn M.kp (run_mk (us := []) M F hr tk I .nil h)) hdb)⟩
/-- .. a tree -/
def mkP (k np : Nat) (F : FF) (dws : List W) (m : EM (List W)) : EM W := bnd (treesE m) fun ds => match (if (.loc 0 :: (ds.map .d ++ dws)).length = np then F (.loc 0 :: (ds.map .d ++ dws)) [some (.ins k [] [])] else none) with
  | some (.ok (.d .non), st) => match fz 20 (.loc 0) st with
    | some (d, _) => pur (.d d)
    | none => non
  | some (.ex C ks es, _) => thr C ks es
  | _ => non
/-- .. an object of the store -/
def mkO (k np : Nat) (F : FF) (dws : List W) (m : EM (List W)) : EM W := bnd m fun ws => fun s => match (if (.loc s.st.length :: (ws ++ dws)).length = np then F (.loc s.st.length :: (ws ++ dws)) (s.st ++ [some (.ins k [] [])]) else none) with
  | some (.ok (.d .non), st) => some (.ok (.loc s.st.length), ⟨s.env, st⟩)
  | some (.ex C ks es, st) => some (.ex C ks es, ⟨s.env, st⟩)
  | _ => none
theorem made_own {ρ : Rho} {G H : Hp} {st : Store} {x dx : Addr} (r : RS c ρ G H st) (hk : c.ct[j]? = some C) (hc : Cls c.K C) (h1 : H x = none) (h2 : H dx = none) (ne : dx ≠ x) :
    Stp ρ G H st (ρ ++ [(x, dx)]) G (upd (upd H dx (.own x)) x (.ins C dx [])) (st ++ [some (.ins j [] [])]) ∧ RS c (ρ ++ [(x, dx)]) G (upd (upd H dx (.own x)) x (.ins C dx [])) (st ++ [some (.ins j [] [])]) := by
  refine new_own (p := (x, dx)) r h1 h2 (fun a u e => ?_) ⟨rfl, C, [], hk, ⟨hc, fun i hi => by cases hi⟩, upd_same, ?_, rfl⟩
  · rw [upd_ne (ne_of_none e h1), upd_ne (ne_of_none e h2)]
    exact e
  · show upd _ x _ dx = _
    rw [upd_ne ne, upd_same]
variable {np : Nat} {F : FF} {dws : List W}
theorem wp_mkO (hd : DefOk c dws dvs) (hk : c.ct[j]? = some C) (hc : Cls c.K C) {ρ : Rho} {G H : Hp} {σ : L2.St} {s : SS} {Q : VK} (hR : R c ρ G σ H s) (w : Wp c U (mkO j np F dws m) ρ G σ H s (fun w ρ' G' H' _ => ∀ v, RepW c ρ' G' w v → Q v H')) :
    tMk C (spF c np F) dvs U (tA c U m) σ H Q :=
  ⟨ρ, G, s, hR, (Wp.bnd hR w).imp fun ws ρ1 G1 H1 s1 ⟨S1, R1, w1⟩ vs rvs x dx h1 h2 ne => by
    obtain ⟨S2, r2⟩ := made_own (j := j) R1.rs hk hc h1 h2 ne
    have at0 : (ρ1 ++ [(x, dx)])[s1.st.length]? = some (x, dx) := by rw [← R1.rs.len, List.getElem?_append_right (Nat.le_refl _)]; simp
    unfold Wp at w1
    dsimp only at w1
    by_cases hn : (W.loc s1.st.length :: (ws ++ dws)).length = np
    · rw [if_pos hn] at w1
      refine ⟨_, _, _, W.loc s1.st.length :: (ws ++ dws), r2, ⟨_, _, rfl, ⟨(x, dx), at0, rfl⟩, (rvs.mono S2.rho S2.same).app (hd _ _)⟩, hn, ?_⟩
      cases e : F (W.loc s1.st.length :: (ws ++ dws)) (s1.st ++ [some (OO.ins j [] [])]) with
      | none => simp only [e] at w1
      | some q =>
        obtain ⟨o, st'⟩ := q
        cases o with
        | ok z =>
          cases z with
          | loc n => simp only [e] at w1
          | d z =>
            cases z with
            | non =>
              simp only [e] at w1
              intro v ρ' G' H' S' r' rv
              cases rv
              have S3 := S2.trans R1.rs.len S'
              exact ⟨rfl, w1 ρ' G' H' S3 ⟨r', R1.env.mono S3.rho S3.same, R1.len⟩ _ ⟨(x, dx), S'.rho _ _ at0, rfl⟩⟩
            | _ => simp only [e] at w1
        | ex C' ks es =>
          simp only [e] at w1
          intro ρ' G' H' cls d S' r' xo
          have S3 := S2.trans R1.rs.len S'
          exact w1 ρ' G' H' cls d S3 ⟨r', R1.env.mono S3.rho S3.same, R1.len⟩ xo
    · rw [if_neg hn] at w1
      exact w1.elim⟩
theorem wp_trees {α : Type} {f : List D → EM α} {ρ : Rho} {G H : Hp} {σ : L2.St} {s : SS} {kk : α → Rho → Hp → Hp → SS → Prop} (hR : R c ρ G σ H s) (w : Wp c U (bnd (treesE m) f) ρ G σ H s kk) :
    Wp c U m ρ G σ H s (fun ws ρ1 G1 H1 s1 => ∃ ds, ws = ds.map .d ∧ Stp ρ G H s.st ρ1 G1 H1 s1.st ∧ R c ρ1 G1 σ H1 s1 ∧ Wp c U (f ds) ρ1 G1 σ H1 s1 kk) := by
  unfold treesE at w
  rw [bnd_assoc] at w
  refine (Wp.bnd hR w).imp fun ws ρ1 G1 H1 s1 ⟨S1, R1, w1⟩ => ?_
  cases e : allD ws with
  | none => exact w1.none (by simp only [e]; rfl)
  | some ds =>
    simp only [e] at w1
    exact ⟨ds, allD_eq e, S1, R1, w1⟩
theorem wp_mkP (hd : DefOk c dws dvs) (hk : c.ct[j]? = some C) (hc : Cls c.K C) {ρ : Rho} {G H : Hp} {σ : L2.St} {s : SS} {Q : VK} (hR : R c ρ G σ H s) (w : Wp c U (mkP j np F dws m) ρ G σ H s (fun w ρ' G' H' _ => ∀ v, RepW c ρ' G' w v → Q v H')) :
    tMk C (spF c np F) dvs U (tA c U m) σ H Q :=
  ⟨ρ, G, s, hR, (wp_trees hR w).imp fun ws ρ1 G1 H1 s1 ⟨ds, ew, S1, R1, w1⟩ vs rvs x dx h1 h2 ne => by
    subst ew
    have r0 : RS c [] G1 H1 [] := RS.nil R1.rs.sub
    obtain ⟨S2, r2⟩ := made_own (j := j) r0 hk hc h1 h2 ne
    by_cases hn : (W.loc 0 :: (ds.map .d ++ dws)).length = np
    · rw [if_pos hn] at w1
      refine ⟨_, _, _, W.loc 0 :: (ds.map .d ++ dws), r2, ⟨_, _, rfl, ⟨(x, dx), rfl, rfl⟩, RepWs.app (RepWs.ofD (RepWs.toD rvs)) (hd _ _)⟩, hn, ?_⟩
      show match F (W.loc 0 :: (ds.map .d ++ dws)) [some (OO.ins j [] [])] with | none => _ | some (.ok w, st') => _ | some (.ex C ks es, st') => _
      cases e : F (W.loc 0 :: (ds.map .d ++ dws)) [some (OO.ins j [] [])] with
      | none => rw [e] at w1; exact w1.none rfl
      | some q =>
        obtain ⟨o, st'⟩ := q
        rw [e] at w1
        cases o with
        | ok z =>
          cases z with
          | loc n => exact w1.none rfl
          | d z =>
            cases z with
            | non =>
              intro v ρ' G' H' S' r' rv
              cases rv
              have S3 := S2.trans rfl S'
              cases e2 : fz 20 (.loc 0) st' with
              | none => simp only [e2] at w1; exact w1.none rfl
              | some y =>
                obtain ⟨d, st2⟩ := y
                simp only [e2] at w1
                obtain ⟨G3, S4, r4, h4⟩ := fz_ok (c := c) 20 G' st' st2 (.loc 0) (.ref x) d r' ⟨(x, dx), S'.rho _ _ rfl, rfl⟩ e2
                have g := (S3.trans rfl S4).grown r4
                obtain ⟨S5, r5⟩ := called R1.rs g.sH g.sG g.sub g.fr
                exact ⟨rfl, Wp.okE (s' := s1) (a := W.d d) rfl w1 ρ1 G3 H' S5 ⟨r5, R1.env.mono S5.rho S5.same, R1.len⟩ _ h4⟩
            | _ => exact w1.none rfl
        | ex C' ks es =>
          intro ρ' G' H' cls d S' r' xo
          have g := (S2.trans rfl S').grown r'
          obtain ⟨S5, r5⟩ := called R1.rs g.sH g.sG g.sub g.fr
          exact w1 ρ1 G' H' cls d S5 ⟨r5, R1.env.mono S5.rho S5.same, R1.len⟩ xo
    · rw [if_neg hn] at w1
      exact w1.none rfl⟩
theorem ee_mkP (hd : DefOk c dws dvs) (hk : c.ct[j]? = some C) (hc : Cls c.K C) (M : Mk X.K C f) (Fn : FnS X.prog X.w X.K X.mg X.base k f (spF c np F) dvs) (hr : Room (k + 1) X.A) (tk : Takes X U) (hg : Gl X x) (hm : X.mg x = some (.ref C)) (ha : EA c X U (e :: es) m)
    (hdb : (x == ("__debug__" : Str)) = false := by decide) (he : starEach (e :: es) X.env = (false, eval e X.env) :: starEach es X.env := by rfl) (hpl : (backTo pos (starEach es X.env)).any (·.1) = false := by rfl) :
    EE c X U (.Call (.Name x p) (e :: es) [] pos) (mkP j np F dws m) :=
  EE.mk1 ha.K (pe_mkC M Fn hr tk hg hm ha.pa hdb he hpl) fun ρ G s σ H Q hR w => wp_mkP hd hk hc hR w
theorem ee_mkO (hd : DefOk c dws dvs) (hk : c.ct[j]? = some C) (hc : Cls c.K C) (M : Mk X.K C f) (Fn : FnS X.prog X.w X.K X.mg X.base k f (spF c np F) dvs) (hr : Room (k + 1) X.A) (tk : Takes X U) (hg : Gl X x) (hm : X.mg x = some (.ref C)) (ha : EA c X U (e :: es) m)
    (hdb : (x == ("__debug__" : Str)) = false := by decide) (he : starEach (e :: es) X.env = (false, eval e X.env) :: starEach es X.env := by rfl) (hpl : (backTo pos (starEach es X.env)).any (·.1) = false := by rfl) :
    EE c X U (.Call (.Name x p) (e :: es) [] pos) (mkO j np F dws m) :=
  EE.mk1 ha.K (pe_mkC M Fn hr tk hg hm ha.pa hdb he hpl) fun ρ G s σ H Q hR w => wp_mkO hd hk hc hR w
end
end EV
/-! EV7: operators, built-ins by values. -/
namespace EV
open PySem PySem.Spec PyProof.Rows L2
section
variable {c : Kx} {ρ : Rho} {G H : Hp} {st : Store}
/-- the items of a list -/
def listW (st : Store) : W → Option (List W)
  | .d (.lst ds) => some (ds.map .d)
  | .d (.fls ds) => some (ds.map .d)
  | .d _ => none
  | .loc n => match st[n]? with
    | some (some (.lst ws)) => some ws
    | _ => none
/-- .. of a list that is no argument of the law's -/
def lst1W (st : Store) : W → Option (List W)
  | .d (.lst ds) => some (ds.map .d)
  | .d _ => none
  | .loc n => match st[n]? with
    | some (some (.lst ws)) => some ws
    | _ => none
def tupW : W → Option (List W)
  | .d (.tup ds) => some (ds.map .d)
  | _ => none
theorem lst1W_ok {w : W} {v : V} {ws : List W} (r : RS c ρ G H st) (rv : RepW c ρ G w v) (e : lst1W st w = some ws) : ∃ a vs, v = .ref a ∧ H a = some (.lst vs) ∧ RepWs c ρ G ws vs := by
  cases w with
  | d x =>
    cases x with
    | lst ds =>
      cases e
      cases rv with
      | lst h hr => exact ⟨_, _, rfl, r.sub _ _ h, RepWs.ofD hr⟩
    | _ => cases e
  | loc n =>
    unfold lst1W at e
    cases ho : st[n]? with
    | none => simp only [ho] at e; cases e
    | some o =>
      cases o with
      | none => simp only [ho] at e; cases e
      | some o =>
        cases o with
        | lst ws' =>
          simp only [ho] at e
          cases e
          obtain ⟨p, hp, hv⟩ := rv
          obtain ⟨_, _, q, vs, hH, hw⟩ := r.own n p _ hp ho
          exact ⟨p.1, vs, hv, hH, hw⟩
        | dct _ _ => simp only [ho] at e; cases e
        | ins _ _ _ => simp only [ho] at e; cases e
        | tup _ => simp only [ho] at e; cases e
theorem listW_ok {w : W} {v : V} {ws : List W} (r : RS c ρ G H st) (rv : RepW c ρ G w v) (e : listW st w = some ws) : ∃ a vs, v = .ref a ∧ SqL c.K H a vs ∧ RepWs c ρ G ws vs := by
  cases w with
  | d x =>
    cases x with
    | lst ds =>
      cases e
      cases rv with
      | lst h hr => exact ⟨_, _, rfl, SqL.of (r.sub _ _ h), RepWs.ofD hr⟩
    | fls ds =>
      cases e
      cases rv with
      | fls h hr => exact ⟨_, _, rfl, r.sub.seq h, RepWs.ofD hr⟩
    | _ => cases e
  | loc n =>
    obtain ⟨a, vs, h1, h2, h3⟩ := lst1W_ok r rv (show lst1W st (.loc n) = some ws from e)
    exact ⟨a, vs, h1, SqL.of h2, h3⟩
theorem tupW_ok {w : W} {v : V} {ws : List W} (r : RS c ρ G H st) (rv : RepW c ρ G w v) (e : tupW w = some ws) : ∃ a vs, v = .ref a ∧ SqT c.K H a vs ∧ RepWs c ρ G ws vs := by
  cases w with
  | d x =>
    cases x with
    | tup ds =>
      cases e
      cases rv with
      | tup h hr => exact ⟨_, _, rfl, SqT.same r.sub h, RepWs.ofD hr⟩
    | _ => cases e
  | loc n => cases e
/-- a new list: a tree, or an object of the store -/
def newL (own : Bool) (ws : List W) (st : Store) : Option (W × Store) := if own then some (.loc st.length, st ++ [some (.lst ws)]) else match allD ws with
  | some ds => some (.d (.lst ds), st)
  | none => none
theorem newL_ok {own : Bool} {ws : List W} {vs : List V} {w : W} {st' : Store} {p : Addr} (r : RS c ρ G H st) (rv : RepWs c ρ G ws vs) (e : newL own ws st = some (w, st')) (hp : H p = none) :
    ∃ ρ' G', Stp ρ G H st ρ' G' (upd H p (.lst vs)) st' ∧ RS c ρ' G' (upd H p (.lst vs)) st' ∧ RepW c ρ' G' w (.ref p) := by
  unfold newL at e
  cases own with
  | true =>
    simp only [if_true] at e
    cases e
    obtain ⟨S, r'⟩ := new_own (p := (p, p)) (o := .lst ws) (H' := upd H p (.lst vs)) r hp hp (fun a u e => by rw [upd_ne (ne_of_none e hp)]; exact e) ⟨rfl, vs, upd_same, rv⟩
    exact ⟨_, _, S, r', (p, p), by rw [← r.len, List.getElem?_append_right (Nat.le_refl _)]; simp, rfl⟩
  | false =>
    simp only [Bool.false_eq_true, if_false] at e
    cases q : allD ws with
    | none => simp only [q] at e; cases e
    | some ds =>
      simp only [q] at e
      cases e
      obtain rfl := allD_eq q
      obtain ⟨S, r'⟩ := new_frozen (o := .lst vs) r hp
      exact ⟨_, _, S, r', .lst upd_same ((RepWs.toD rv).mono S.same)⟩
theorem Stp.toks : Stp ρ G H st ρ G H st := Stp.refl
end
/-! ### what a rule of one value, of several does -/
def S1 (c : Kx) (r : V → Hp → VK → Prop) (f : Store → W → Option (W × Store)) : Prop :=
  ∀ (ρ : Rho) (G H : Hp) (st : Store) (x w : W) (st' : Store) (vx : V) (Q : VK), RS c ρ G H st → RepW c ρ G x vx → f st x = some (w, st') →
    (∀ v ρ' G' H', Stp ρ G H st ρ' G' H' st' → RS c ρ' G' H' st' → RepW c ρ' G' w v → Q v H') → r vx H Q
/-- a list of values -/
def SN (c : Kx) (r : List V → Hp → VK → Prop) (f : Store → List W → Option (W × Store)) : Prop :=
  ∀ (ρ : Rho) (G H : Hp) (st : Store) (xs : List W) (w : W) (st' : Store) (vs : List V) (Q : VK), RS c ρ G H st → RepWs c ρ G xs vs → f st xs = some (w, st') →
    (∀ v ρ' G' H', Stp ρ G H st ρ' G' H' st' → RS c ρ' G' H' st' → RepW c ρ' G' w v → Q v H') → r vs H Q
theorem S2.or {c : Kx} {r r' : R2} {f g : Store → W → W → Option (W × Store)} (h1 : S2 c r f) (h2 : S2 c r' g) : S2 c (fun x y H Q => r x y H Q ∨ r' x y H Q) (fun st x y => match f st x y with | some z => some z | none => g st x y) :=
  fun ρ G H st x y w st' vx vy Q r rx ry e q => by
    cases e1 : f st x y with
    | some z =>
      simp only [e1] at e
      cases e
      exact .inl (h1 ρ G H st x y w st' vx vy Q r rx ry e1 q)
    | none =>
      simp only [e1] at e
      exact .inr (h2 ρ G H st x y w st' vx vy Q r rx ry e q)
theorem SN.or {c : Kx} {r r' : List V → Hp → VK → Prop} {f g : Store → List W → Option (W × Store)} (h1 : SN c r f) (h2 : SN c r' g) : SN c (fun x H Q => r x H Q ∨ r' x H Q) (fun st x => match f st x with | some z => some z | none => g st x) :=
  fun ρ G H st x w st' vx Q r rx e q => by
    cases e1 : f st x with
    | some z =>
      simp only [e1] at e
      cases e
      exact .inl (h1 ρ G H st x w st' vx Q r rx e1 q)
    | none =>
      simp only [e1] at e
      exact .inr (h2 ρ G H st x w st' vx Q r rx e q)
/-! ### intF -/
def intF (f : Int → Int → Option D) (st : Store) : W → W → Option (W × Store)
  | .d (.int i), .d (.int j) => match f i j with
    | some d => some (.d d, st)
    | none => none
  | _, _ => none
theorem s2_ints {c : Kx} {C : Int → Int → Prop} {g : Int → Int → V} {f : Int → Int → Option D} (h : ∀ i j d, f i j = some d → C i j ∧ ∀ G, RepD c G d (g i j)) : S2 c (rI C g) (intF f) := fun ρ G H st x y w st' vx vy Q r rx ry e q => by
  unfold intF at e
  split at e
  · rename_i i j
    cases rx
    cases ry
    cases e1 : f i j with
    | none => simp only [e1] at e; cases e
    | some d =>
      simp only [e1] at e
      cases e
      obtain ⟨h1, h2⟩ := h i j d e1
      exact ⟨i, j, rfl, rfl, h1, q _ ρ G H Stp.refl r (h2 G)⟩
  · cases e
theorem s2_ints0 {c : Kx} {g : Int → Int → V} {f : Int → Int → Option D} (h : ∀ i j d, f i j = some d → ∀ G, RepD c G d (g i j)) : S2 c (rI0 g) (intF f) := fun ρ G H st x y w st' vx vy Q r rx ry e q => by
  obtain ⟨i, j, a, b, _, z⟩ := s2_ints (C := fun _ _ => True) (g := g) (fun i j d e => ⟨trivial, h i j d e⟩) ρ G H st x y w st' vx vy Q r rx ry e q
  exact ⟨i, j, a, b, z⟩
def small (i : Int) : Bool := decide (-18446744073709551616 < i) && decide (i < 18446744073709551616)
def mulI (i j : Int) : Option D := if small i || small j then some (.int (i * j)) else none
def divI (i j : Int) : Option D := if 0 < j ∧ j < 1000000000000000000000000000000 then some (.int (i / j)) else none
def modI (i j : Int) : Option D := if 0 < j then some (.int (i % j)) else none
def powI (i j : Int) : Option D := if 0 ≤ j ∧ j ≤ 1000 ∧ 0 ≤ i ∧ i < 1000 then some (.int (i ^ j.toNat)) else none
def shrI (i j : Int) : Option D := if 0 ≤ j then some (.int (i / 2 ^ j.toNat)) else none
theorem s2_add {c : Kx} : S2 c (rI0 fun i j => .int (i + j)) (intF fun i j => some (.int (i + j))) := s2_ints0 fun i j d e G => by cases e; exact .int _
def subA : Store → W → W → Option (W × Store) := intF fun i j => some (.int (i - j))
theorem s2_sub {c : Kx} : S2 c (rI0 fun i j => .int (i - j)) subA := s2_ints0 fun i j d e G => by cases e; exact .int _
theorem s2_mul {c : Kx} : S2 c (rI CMul fun i j => .int (i * j)) (intF mulI) := s2_ints fun i j d e => by
  unfold mulI at e
  split at e
  · rename_i h
    cases e
    refine ⟨?_, fun G => .int _⟩
    rcases Bool.or_eq_true_iff.mp h with h | h
    · unfold small at h
      simp only [Bool.and_eq_true, decide_eq_true_eq] at h
      exact .inl ⟨h.1, h.2⟩
    · unfold small at h
      simp only [Bool.and_eq_true, decide_eq_true_eq] at h
      exact .inr ⟨h.1, h.2⟩
  · cases e
theorem log2_lt {n k : Nat} (h : n < 2 ^ k) (hk : 0 < k) : n.log2 < k := by
  by_cases h0 : n = 0
  · subst h0
    simpa using hk
  · exact (Nat.log2_lt h0).mpr h
theorem s2_div {c : Kx} : S2 c (rI CDivW fun i j => .int (i / j)) (intF divI) := s2_ints fun i j d e => by
  unfold divI at e
  split at e
  · rename_i h
    cases e
    refine ⟨⟨h.1, ?_⟩, fun G => .int _⟩
    have : j.natAbs < 2 ^ 100 := by
      have h2 := h.2
      have h1 := h.1
      omega
    exact Nat.lt_of_lt_of_le (log2_lt this (by decide)) (by decide)
  · cases e
theorem s2_mod {c : Kx} : S2 c (rI (fun _ j => 0 < j) fun i j => .int (i % j)) (intF modI) := s2_ints fun i j d e => by
  unfold modI at e
  split at e
  · rename_i h
    cases e
    exact ⟨h, fun G => .int _⟩
  · cases e
theorem s2_pow {c : Kx} : S2 c (rI CPow fun i j => .int (i ^ j.toNat)) (intF powI) := s2_ints fun i j d e => by
  unfold powI at e
  split at e
  · rename_i h
    cases e
    exact ⟨⟨h.1, by omega, by omega⟩, fun G => .int _⟩
  · cases e
theorem s2_shr {c : Kx} : S2 c (rI (fun _ j => 0 ≤ j) fun i j => .int (i / 2 ^ j.toNat)) (intF shrI) := s2_ints fun i j d e => by
  unfold shrI at e
  split at e
  · rename_i h
    cases e
    exact ⟨h, fun G => .int _⟩
  · cases e
def andA : Store → W → W → Option (W × Store) := intF fun i j => some (.int (Builtin.bitAnd i j))
theorem s2_and {c : Kx} : S2 c (rI0 fun i j => .int (Builtin.bitAnd i j)) andA := s2_ints0 fun i j d e G => by cases e; exact .int _
def ltA : Store → W → W → Option (W × Store) := intF fun i j => some (.bl (decide (i < j)))
theorem s2_lt {c : Kx} : S2 c (rI0 fun i j => .bl (decide (i < j))) ltA := s2_ints0 fun i j d e G => by cases e; exact .bl _
def leA : Store → W → W → Option (W × Store) := intF fun i j => some (.bl (decide (i ≤ j)))
theorem s2_le {c : Kx} : S2 c (rI0 fun i j => .bl (decide (i ≤ j))) leA := s2_ints0 fun i j d e G => by cases e; exact .bl _
def gtA : Store → W → W → Option (W × Store) := intF fun i j => some (.bl (decide (j < i)))
theorem s2_gt {c : Kx} : S2 c (rI0 fun i j => .bl (decide (j < i))) gtA := s2_ints0 fun i j d e G => by cases e; exact .bl _
def geA : Store → W → W → Option (W × Store) := intF fun i j => some (.bl (decide (j ≤ i)))
theorem s2_ge {c : Kx} : S2 c (rI0 fun i j => .bl (decide (j ≤ i))) geA := s2_ints0 fun i j d e G => by cases e; exact .bl _
/-! ### + of anything -/
def strs2 (f : Str → Str → Option D) (st : Store) : W → W → Option (W × Store)
  | .d (.str i), .d (.str j) => match f i j with
    | some d => some (.d d, st)
    | none => none
  | _, _ => none
def catS (i j : Str) : Option D := if i.length + j.length ≤ 16777216 then some (.str (i ++ j)) else none
theorem s2_cat {c : Kx} : S2 c (fun x y H Q => ∃ i j, x = .str i ∧ y = .str j ∧ i.length + j.length ≤ sizeLine ∧ Q (.str (i ++ j)) H) (strs2 catS) := fun ρ G H st x y w st' vx vy Q r rx ry e q => by
  unfold strs2 at e
  split at e
  · rename_i i j
    cases rx
    cases ry
    unfold catS at e
    split at e
    · rename_i d h
      split at h
      · rename_i h
        cases h
        cases e
        exact ⟨i, j, rfl, rfl, by rw [sizeLine_eq]; assumption, q _ ρ G H Stp.refl r (.str _)⟩
      · cases h
    · cases e
  · cases e
def catL (own : Bool) (st : Store) (x y : W) : Option (W × Store) := match lst1W st x, lst1W st y with
  | some a, some b => if a.length + b.length ≤ 16777216 then newL own (a ++ b) st else none
  | _, _ => none
theorem s2_catL {c : Kx} (own : Bool) : S2 c rCat (catL own) := fun ρ G H st x y w st' vx vy Q r rx ry e q => by
  unfold catL at e
  split at e
  · rename_i a b ea eb
    split at e
    · rename_i hl
      obtain ⟨p1, v1, rfl, h1, r1⟩ := lst1W_ok r rx ea
      obtain ⟨p2, v2, rfl, h2, r2⟩ := lst1W_ok r ry eb
      refine ⟨p1, p2, v1, v2, rfl, rfl, h1, h2, by rw [r1.len, r2.len, sizeLine_eq]; exact hl, fun p hp => ?_⟩
      obtain ⟨ρ', G', S, r', rw'⟩ := newL_ok r (r1.app r2) e hp
      exact q _ ρ' G' _ S r' rw'
    · cases e
  · cases e
def catT (st : Store) (x y : W) : Option (W × Store) := match x, y with
  | .d (.tup a), .d (.tup b) => if a.length + b.length ≤ 16777216 ∧ 0 < a.length ∧ 0 < b.length then some (.d (.tup (a ++ b)), st) else none
  | _, _ => none
theorem s2_catT {c : Kx} : S2 c (rCatT c.K) catT := fun ρ G H st x y w st' vx vy Q r rx ry e q => by
  unfold catT at e
  split at e
  · rename_i a b
    split at e
    · rename_i hl
      cases e
      cases rx with
      | tup h1 r1 =>
        cases ry with
        | tup h2 r2 =>
          rename_i p1 v1 p2 v2
          have ne : ∀ {ds : List D} {vs : List V}, RepDs c G ds vs → 0 < ds.length → vs ≠ [] := fun {ds vs} h hl e => by
            subst e
            have := h.len
            simp at this
            omega
          refine ⟨p1, p2, v1, v2, rfl, rfl, SqT.same r.sub h1, SqT.same r.sub h2, ne r1 hl.2.1, by rw [r1.len, r2.len, sizeLine_eq]; exact hl.1, fun e => absurd e (ne r2 hl.2.2), fun _ p hp => ?_⟩
          obtain ⟨S, r'⟩ := new_frozen (o := .tup (v1 ++ v2)) r hp
          exact q _ ρ _ _ S r' (.tup (SqT.of upd_same) ((r1.app r2).mono S.same))
    · cases e
  · cases e
def addA (own : Bool) (st : Store) (x y : W) : Option (W × Store) := match x, y with
  | .d (.int i), .d (.int j) => some (.d (.int (i + j)), st)
  | .d (.str i), .d (.str j) => if i.length + j.length ≤ 16777216 then some (.d (.str (i ++ j)), st) else none
  | .d (.tup a), .d (.tup b) => if a.length + b.length ≤ 16777216 ∧ 0 < a.length ∧ 0 < b.length then some (.d (.tup (a ++ b)), st) else none
  | x, y => catL own st x y
theorem op_addA {X : Cx} : OpR X (binaryOp .Add) (fun x y H Q => rI0 (fun i j => .int (i + j)) x y H Q ∨ (∃ i j, x = .str i ∧ y = .str j ∧ i.length + j.length ≤ sizeLine ∧ Q (.str (i ++ j)) H) ∨ rCatT X.K x y H Q ∨ rCat x y H Q) :=
  op_add.or (op_add_str.or (op_catT.or op_cat))
theorem s2_addA {c : Kx} (own : Bool) : S2 c (fun x y H Q => rI0 (fun i j => .int (i + j)) x y H Q ∨ (∃ i j, x = .str i ∧ y = .str j ∧ i.length + j.length ≤ sizeLine ∧ Q (.str (i ++ j)) H) ∨ rCatT c.K x y H Q ∨ rCat x y H Q) (addA own) := fun ρ G H st x y w st' vx vy Q r rx ry e q => by
  unfold addA at e
  split at e
  · exact .inl (s2_add ρ G H st _ _ w st' vx vy Q r rx ry e q)
  · refine .inr (.inl (s2_cat ρ G H st _ _ w st' vx vy Q r rx ry ?_ q))
    unfold strs2 catS
    simp only
    split at e
    · rename_i h; rw [if_pos h]; exact e
    · cases e
  · exact .inr (.inr (.inl (s2_catT ρ G H st _ _ w st' vx vy Q r rx ry e q)))
  · exact .inr (.inr (.inr (s2_catL own ρ G H st _ _ w st' vx vy Q r rx ry e q)))
/-! ### * of anything -/
def rMulS : R2 := fun x y H Q => ∃ z n, x = .str z ∧ y = .int n ∧ MulOk z n ∧ Q (.str (Txt.mul z n)) H
theorem op_mulS {X : Cx} : OpR X (binaryOp .Mult) rMulS := fun pins s σ H x y v u Q I rx ry h => by
  obtain ⟨z, n, rfl, rfl, ok, q⟩ := h
  obtain ⟨t, rfl⟩ := rx
  obtain ⟨t', rfl⟩ := ry
  exact SB.mul ok fun t2 k => ⟨.str _, H, I.tok k, ⟨_, rfl⟩, q⟩
def mulS (st : Store) (x y : W) : Option (W × Store) := match x, y with
  | .d (.str z), .d (.int n) => if z.length ≤ 1000 ∧ n ≤ 1000 ∧ 0 ≤ n then some (.d (.str (Txt.mul z n)), st) else none
  | _, _ => none
theorem mulOk_small {z : Str} {n : Int} (h : z.length ≤ 1000 ∧ n ≤ 1000 ∧ 0 ≤ n) : MulOk z n := by
  obtain ⟨h1, h2, h3⟩ := h
  refine ⟨?_, fun hn _ => ?_, fun hn _ => ?_⟩
  · simp only [Bool.or_eq_false_iff, decide_eq_false_iff_not]
    omega
  · have e : (2 ^ 63 - 1 : Int) / 1000 ≤ (2 ^ 63 - 1) / n := by
      have hn0 : 0 < n := by omega
      rw [Int.le_ediv_iff_mul_le hn0]
      calc (2 ^ 63 - 1 : Int) / 1000 * n ≤ (2 ^ 63 - 1 : Int) / 1000 * 1000 := Int.mul_le_mul_of_nonneg_left h2 (by decide)
        _ ≤ 2 ^ 63 - 1 := by decide
    have e2 : (2 ^ 63 - 1 : Int) / 1000 = 9223372036854775 := by decide
    omega
  · have hm : z.length * n.toNat ≤ 1000 * 1000 := Nat.mul_le_mul h1 (by omega)
    unfold Builtin.Str.tooLong
    rw [decide_eq_false_iff_not]
    have := sizeLine_eq
    omega
theorem s2_mulS {c : Kx} : S2 c rMulS mulS := fun ρ G H st x y w st' vx vy Q r rx ry e q => by
  unfold mulS at e
  split at e
  · rename_i z n
    split at e
    · rename_i h
      cases e
      cases rx
      cases ry
      exact ⟨z, n, rfl, rfl, mulOk_small h, q _ ρ G H Stp.refl r (.str _)⟩
    · cases e
  · cases e
def mulL (own : Bool) (st : Store) (x y : W) : Option (W × Store) := match lst1W st x, y with
  | some ws, .d (.int n) => if ws.length ≤ 1000 ∧ n ≤ 1000 ∧ 0 ≤ n then newL own (List.replicate n.toNat ws).flatten st else none
  | _, _ => none
theorem RepWs.rep {c : Kx} {ρ : Rho} {G : Hp} {ws : List W} {vs : List V} (h : RepWs c ρ G ws vs) : ∀ n : Nat, RepWs c ρ G (List.replicate n ws).flatten (List.replicate n vs).flatten
  | 0 => rfl
  | n + 1 => by
    rw [List.replicate_succ, List.replicate_succ, List.flatten_cons, List.flatten_cons]
    exact h.app (RepWs.rep h n)
theorem s2_mulL {c : Kx} (own : Bool) : S2 c rRep (mulL own) := fun ρ G H st x y w st' vx vy Q r rx ry e q => by
  unfold mulL at e
  split at e
  · rename_i ws n ew
    split at e
    · rename_i h
      cases ry
      obtain ⟨p1, v1, rfl, h1, r1⟩ := lst1W_ok r rx ew
      refine ⟨p1, n, v1, rfl, rfl, h1, by omega, by omega, ?_, fun p hp => ?_⟩
      · rw [r1.len, sizeLine_eq]
        exact Nat.le_trans (Nat.mul_le_mul h.1 (by omega : n.toNat ≤ 1000)) (by decide)
      · obtain ⟨ρ', G', S, r', rw'⟩ := newL_ok r (r1.rep n.toNat) e hp
        exact q _ ρ' G' _ S r' rw'
    · cases e
  · cases e
def mulA (own : Bool) (st : Store) (x y : W) : Option (W × Store) := match x, y with
  | .d (.int i), .d (.int j) => if small i || small j then some (.d (.int (i * j)), st) else none
  | .d (.str z), .d (.int n) => if z.length ≤ 1000 ∧ n ≤ 1000 ∧ 0 ≤ n then some (.d (.str (Txt.mul z n)), st) else none
  | x, y => mulL own st x y
theorem op_mulA {X : Cx} : OpR X (binaryOp .Mult) (fun x y H Q => rI CMul (fun i j => .int (i * j)) x y H Q ∨ rMulS x y H Q ∨ rRep x y H Q) := op_mul.or (op_mulS.or op_rep)
theorem s2_mulA {c : Kx} (own : Bool) : S2 c (fun x y H Q => rI CMul (fun i j => .int (i * j)) x y H Q ∨ rMulS x y H Q ∨ rRep x y H Q) (mulA own) := fun ρ G H st x y w st' vx vy Q r rx ry e q => by
  unfold mulA at e
  split at e
  · refine .inl (s2_mul ρ G H st _ _ w st' vx vy Q r rx ry ?_ q)
    unfold intF mulI
    simp only
    split at e
    · rename_i h; rw [if_pos h]; exact e
    · cases e
  · exact .inr (.inl (s2_mulS ρ G H st _ _ w st' vx vy Q r rx ry e q))
  · exact .inr (.inr (s2_mulL own ρ G H st _ _ w st' vx vy Q r rx ry e q))
end EV
/-! EV8: comparisons, len, isinstance, int, str, list, items, slices, displays. -/
namespace EV
open PySem PySem.Spec PyProof.Rows L2
/-! ### == of data -/
mutual
def toPy : D → PyData
  | .non => .none
  | .bl b => .bool b
  | .int i => .int i
  | .str x => .str x
  | .lst xs => .list (toPys xs)
  | .fls xs => .list (toPys xs)
  | .tup xs => .tuple (toPys xs)
  | .ref _ => .dict []
  | .ty _ => .dict []
  | .dct _ _ => .dict []
  | .ins _ _ _ => .dict []
def toPys : List D → List PyData
  | [] => []
  | d :: ds => toPy d :: toPys ds
end
def okD (d : D) : Bool := SeqAt.shaped (toPy d)
def D.eq (d e : D) : Bool := PyData.eqv (toPy d) (toPy e)
section
variable {c : Kx} {ρ : Rho} {G H : Hp} {st : Store}
mutual
theorem dp_of (s : Same G H) {d : D} {v : V} (h : (toPy d).canLay0 = true) (r : RepD c G d v) : Dp c.K H v (toPy d) := by
  cases r with
  | non => exact .non
  | bl b => exact .bl b
  | int i => exact .int i
  | str x => exact .str x
  | ref a => cases h
  | ty n => cases h
  | lst hl r => exact .lst (SqL.of (s _ _ hl)) (dps_of s h r)
  | fls hl r => exact .lst (s.seq hl) (dps_of s h r)
  | tup hl r => exact .tup (SqT.same s hl) (dps_of s h r)
  | dct _ _ _ => cases h
  | ins _ _ _ _ _ _ => cases h
theorem dps_of (s : Same G H) {ds : List D} {vs : List V} (h : PyData.canLayAll0 (toPys ds) = true) (r : RepDs c G ds vs) : DpAll c.K H vs (toPys ds) := by
  cases r with
  | nil => exact .nil
  | cons r t =>
    have h := Bool.and_eq_true_iff.mp h
    exact .cons (dp_of s h.1 r) (dps_of s h.2 t)
end
theorem toPys_map : ∀ ds : List D, toPys ds = ds.map toPy
  | [] => rfl
  | d :: ds => by show toPy d :: toPys ds = _; rw [toPys_map ds]; rfl
theorem canLay_ok {d : D} (h : okD d = true) : (toPy d).canLay0 = true := (Bool.and_eq_true_iff.mp h).1
/-- a look at a value -/
def snapD (st : Store) (w : W) : Option D := match fz 20 w st with
  | some (d, _) => some d
  | none => none
theorem snap_d (st : Store) (d : D) : snapD st (.d d) = some d := by unfold snapD; rw [fz_d]
theorem snap_ok {w : W} {v : V} {d : D} (r : RS c ρ G H st) (rv : RepW c ρ G w v) (e : snapD st w = some d) : ∃ G', Same G' H ∧ RepD c G' d v := by
  unfold snapD at e
  cases q : fz 20 w st with
  | none => simp only [q] at e; cases e
  | some p =>
    obtain ⟨d', st'⟩ := p
    simp only [q] at e
    cases e
    obtain ⟨G', _, r', h'⟩ := fz_ok 20 G st st' w v d r rv q
    exact ⟨G', r'.sub, h'⟩
def eqB (st : Store) (x y : W) : Option Bool := match x, y with
  | .d (.int i), .d (.int j) => some (decide (i = j))
  | .d (.str i), .d (.str j) => some (decide (i = j))
  | x, y => match snapD st x, snapD st y with
    | some a, some b => if okD a && okD b then some (D.eq a b) else none
    | _, _ => none
def eqA (st : Store) (x y : W) : Option (W × Store) := match eqB st x y with
  | some b => some (.d (.bl b), st)
  | none => none
def neA (st : Store) (x y : W) : Option (W × Store) := match eqB st x y with
  | some b => some (.d (.bl (!b)), st)
  | none => none
theorem eqB_ok {x y : W} {vx vy : V} {b : Bool} (r : RS c ρ G H st) (rx : RepW c ρ G x vx) (ry : RepW c ρ G y vy) (e : eqB st x y = some b) :
    (scal vx vy = true ∧ decide (vx = vy) = b) ∨ ∃ d e, Dp c.K H vx d ∧ Dp c.K H vy e ∧ SeqAt.shaped d = true ∧ SeqAt.shaped e = true ∧ PyData.eqv d e = b := by
  unfold eqB at e
  split at e
  · cases e
    cases rx
    cases ry
    refine .inl ⟨rfl, ?_⟩
    rw [Bool.eq_iff_iff]
    simp
  · cases e
    cases rx
    cases ry
    refine .inl ⟨rfl, ?_⟩
    rw [Bool.eq_iff_iff]
    simp
  · cases ea : snapD st x with
    | none => simp only [ea] at e; cases e
    | some a =>
      cases eb : snapD st y with
      | none => simp only [ea, eb] at e; cases e
      | some b' =>
        simp only [ea, eb] at e
        split at e
        · rename_i h
          cases e
          have h := Bool.and_eq_true_iff.mp h
          obtain ⟨G1, s1, r1⟩ := snap_ok r rx ea
          obtain ⟨G2, s2, r2⟩ := snap_ok r ry eb
          exact .inr ⟨_, _, dp_of s1 (canLay_ok h.1) r1, dp_of s2 (canLay_ok h.2) r2, h.1, h.2, rfl⟩
        · cases e
theorem op_eqA {X : Cx} (hu : X.A.units + 64 < cLine) : OpR X (compareOp .Eq) (fun x y H Q => rEq x y H Q ∨ rEqD X.K x y H Q) := op_eq.or (op_eqD hu)
theorem op_neA {X : Cx} (hu : X.A.units + 64 < cLine) : OpR X (compareOp .NotEq) (fun x y H Q => rNe x y H Q ∨ rNeD X.K x y H Q) := op_ne.or (op_neD hu)
theorem s2_eqA : S2 c (fun x y H Q => rEq x y H Q ∨ rEqD c.K x y H Q) eqA := fun ρ G H st x y w st' vx vy Q r rx ry e q => by
  unfold eqA at e
  cases eb : eqB st x y with
  | none => simp only [eb] at e; cases e
  | some b =>
    simp only [eb] at e
    cases e
    have fin := q (.bl b) ρ G H Stp.refl r (.bl b)
    rcases eqB_ok r rx ry eb with ⟨h1, h2⟩ | ⟨d, e, h1, h2, h3, h4, h5⟩
    · exact .inl ⟨h1, by rw [h2]; exact fin⟩
    · exact .inr ⟨d, e, h1, h2, h3, h4, by rw [h5]; exact fin⟩
theorem s2_neA : S2 c (fun x y H Q => rNe x y H Q ∨ rNeD c.K x y H Q) neA := fun ρ G H st x y w st' vx vy Q r rx ry e q => by
  unfold neA at e
  cases eb : eqB st x y with
  | none => simp only [eb] at e; cases e
  | some b =>
    simp only [eb] at e
    cases e
    have fin := q (.bl (!b)) ρ G H Stp.refl r (.bl (!b))
    rcases eqB_ok r rx ry eb with ⟨h1, h2⟩ | ⟨d, e, h1, h2, h3, h4, h5⟩
    · exact .inl ⟨h1, by rw [h2]; exact fin⟩
    · exact .inr ⟨d, e, h1, h2, h3, h4, by rw [h5]; exact fin⟩
/-! ### in -/
def flatD : D → Bool
  | .non => true
  | .bl _ => true
  | .int _ => true
  | .str _ => true
  | _ => false
def inS (i z : Str) : Bool := match i.cps.toList with
  | [k] => decide (k ∈ z.cps.toList)
  | _ => !(Builtin.Str.occurrences z i 0 z.length 1).isEmpty
def seqD : D → Option (List D)
  | .lst ds => some ds
  | .fls ds => some ds
  | .tup ds => some ds
  | _ => none
def notTup : D → Bool
  | .tup _ => false
  | _ => true
def inB (st : Store) (x y : W) : Option Bool := match x, y with
  | .d (.str i), .d (.str z) => some (inS i z)
  | x, y => match snapD st x, snapD st y with
    | some a, some b => match seqD b with
      | some ds => if flatD a && ds.all flatD then some (ds.any fun e => D.eq e a) else if okD a && okD b && notTup b then some (ds.any fun e => D.eq e a) else none
      | none => none
    | _, _ => none
def inA (st : Store) (x y : W) : Option (W × Store) := match inB st x y with
  | some b => some (.d (.bl b), st)
  | none => none
def ninA (st : Store) (x y : W) : Option (W × Store) := match inB st x y with
  | some b => some (.d (.bl (!b)), st)
  | none => none
theorem flat_rep {a : D} {v : V} (h : flatD a = true) (r : RepD c G a v) : flatV v = true := by cases r <;> first | rfl | cases h
theorem eqV_rep {G' : Hp} {a b : D} {v u : V} (ha : flatD a = true) (hb : flatD b = true) (r : RepD c G a v) (q : RepD c G' b u) : eqV v u = D.eq a b := by
  cases a <;> first | (exfalso; exact Bool.false_ne_true ha) | (cases b <;> first | (exfalso; exact Bool.false_ne_true hb) | (cases r; cases q; simp [eqV, D.eq, toPy, PyData.eqv]))
theorem inV_rep {a : D} {v : V} {G' : Hp} (ha : flatD a = true) (r : RepD c G' a v) : ∀ {ds : List D} {vs : List V}, ds.all flatD = true → RepDs c G ds vs → vs.all flatV = true ∧ inV v vs = ds.any fun e => D.eq e a
  | _, _, _, .nil => ⟨rfl, rfl⟩
  | _, _, h, .cons h1 t => by
    simp only [List.all_cons, Bool.and_eq_true] at h
    obtain ⟨i1, i2⟩ := inV_rep ha r h.2 t
    refine ⟨by simp only [List.all_cons, Bool.and_eq_true]; exact ⟨flat_rep h.1 h1, i1⟩, ?_⟩
    have e := eqV_rep h.1 ha h1 r
    show (eqV _ v || inV v _) = (D.eq _ a || _)
    rw [e, i2]
    try rfl
theorem any_map {α β : Type} (f : α → β) (p : β → Bool) (l : List α) : (l.map f).any p = l.any fun x => p (f x) := List.any_map
def rInA (K : PySem.W.Frag) : R2 := fun x y H Q => (∃ k z, x = .str ⟨#[k]⟩ ∧ y = .str z ∧ Q (.bl (decide (k ∈ z.cps.toList))) H) ∨ (∃ i j, x = .str i ∧ y = .str j ∧ Q (.bl (!(Builtin.Str.occurrences j i 0 j.length 1).isEmpty)) H) ∨ rIn K false x y H Q ∨ rInD K x y H Q
def rNotInA (K : PySem.W.Frag) : R2 := fun x y H Q => (∃ k z, x = .str ⟨#[k]⟩ ∧ y = .str z ∧ Q (.bl (!decide (k ∈ z.cps.toList))) H) ∨ (∃ i j, x = .str i ∧ y = .str j ∧ Q (.bl (!(!(Builtin.Str.occurrences j i 0 j.length 1).isEmpty))) H) ∨ rIn K true x y H Q ∨ rNotInD K x y H Q
theorem op_inA {X : Cx} (hu : X.A.units + 65 < cLine) : OpR X (compareOp .In) (rInA X.K) := op_in_sign.or (op_in_str.or (op_in_seq.or (op_inD hu)))
theorem op_ninA {X : Cx} (hu : X.A.units + 65 < cLine) : OpR X (compareOp .NotIn) (rNotInA X.K) := op_notIn_sign.or (op_notin_str.or (op_notIn_seq.or (op_notInD hu)))
theorem inB_ok {x y : W} {vx vy : V} {b : Bool} (r : RS c ρ G H st) (rx : RepW c ρ G x vx) (ry : RepW c ρ G y vy) (e : inB st x y = some b) :
    (∃ k z, vx = .str ⟨#[k]⟩ ∧ vy = .str z ∧ decide (k ∈ z.cps.toList) = b) ∨ (∃ i j, vx = .str i ∧ vy = .str j ∧ (!(Builtin.Str.occurrences j i 0 j.length 1).isEmpty) = b) ∨
      (∃ p xs, vy = V.ref p ∧ (SqL c.K H p xs ∨ SqT c.K H p xs) ∧ flatV vx = true ∧ xs.all flatV = true ∧ inV vx xs = b) ∨
      (∃ d ds, Dp c.K H vx d ∧ Dp c.K H vy (.list ds) ∧ SeqAt.shaped d = true ∧ SeqAt.shaped (.list ds) = true ∧ (ds.any fun z => PyData.eqv z d) = b) := by
  unfold inB at e
  split at e
  · rename_i i z
    cases e
    cases rx
    cases ry
    unfold inS
    split
    · rename_i k hk
      refine .inl ⟨k, z, ?_, rfl, rfl⟩
      obtain ⟨⟨l⟩⟩ := i
      have hk : l = [k] := hk
      rw [hk]
    · exact .inr (.inl ⟨i, z, rfl, rfl, rfl⟩)
  · cases ea : snapD st x with
    | none => simp only [ea] at e; cases e
    | some a =>
      cases eb : snapD st y with
      | none => simp only [ea, eb] at e; cases e
      | some b' =>
        simp only [ea, eb] at e
        obtain ⟨G1, s1, r1⟩ := snap_ok r rx ea
        obtain ⟨G2, s2, r2⟩ := snap_ok r ry eb
        cases es : seqD b' with
        | none => simp only [es] at e; cases e
        | some ds =>
          simp only [es] at e
          split at e
          · rename_i h
            cases e
            have h := Bool.and_eq_true_iff.mp h
            refine .inr (.inr (.inl ?_))
            cases r2 <;> cases es
            · rename_i hl hr
              obtain ⟨i1, i2⟩ := inV_rep h.1 r1 h.2 hr
              exact ⟨_, _, rfl, .inl (SqL.of (s2 _ _ hl)), flat_rep h.1 r1, i1, i2⟩
            · rename_i hl hr
              obtain ⟨i1, i2⟩ := inV_rep h.1 r1 h.2 hr
              exact ⟨_, _, rfl, .inl (s2.seq hl), flat_rep h.1 r1, i1, i2⟩
            · rename_i hl hr
              obtain ⟨i1, i2⟩ := inV_rep h.1 r1 h.2 hr
              exact ⟨_, _, rfl, .inr (SqT.same s2 hl), flat_rep h.1 r1, i1, i2⟩
          · split at e
            · rename_i h
              cases e
              have h := Bool.and_eq_true_iff.mp h
              obtain ⟨h1, h3⟩ := h
              have h1 := Bool.and_eq_true_iff.mp h1
              have d2 := dp_of s2 (canLay_ok h1.2) r2
              refine .inr (.inr (.inr ?_))
              cases b' with
              | lst xs =>
                cases es
                exact ⟨_, _, dp_of s1 (canLay_ok h1.1) r1, d2, h1.1, h1.2, by rw [toPys_map, any_map]; rfl⟩
              | fls xs =>
                cases es
                exact ⟨_, _, dp_of s1 (canLay_ok h1.1) r1, d2, h1.1, h1.2, by rw [toPys_map, any_map]; rfl⟩
              | tup xs => cases h3
              | _ => cases es
            · cases e
theorem s2_inA : S2 c (rInA c.K) inA := fun ρ G H st x y w st' vx vy Q r rx ry e q => by
  unfold inA at e
  cases eb : inB st x y with
  | none => simp only [eb] at e; cases e
  | some b =>
    simp only [eb] at e
    cases e
    have fin := q (.bl b) ρ G H Stp.refl r (.bl b)
    rcases inB_ok r rx ry eb with ⟨k, z, h1, h2, h3⟩ | ⟨i, j, h1, h2, h3⟩ | ⟨p, xs, h1, h2, h3, h4, h5⟩ | ⟨d, ds, h1, h2, h3, h4, h5⟩
    · exact .inl ⟨k, z, h1, h2, by rw [h3]; exact fin⟩
    · exact .inr (.inl ⟨i, j, h1, h2, by rw [h3]; exact fin⟩)
    · exact .inr (.inr (.inl ⟨p, xs, h1, h2, h3, h4, by rw [if_neg Bool.false_ne_true, h5]; exact fin⟩))
    · exact .inr (.inr (.inr ⟨d, ds, h1, h2, h3, h4, by rw [h5]; exact fin⟩))
theorem s2_ninA : S2 c (rNotInA c.K) ninA := fun ρ G H st x y w st' vx vy Q r rx ry e q => by
  unfold ninA at e
  cases eb : inB st x y with
  | none => simp only [eb] at e; cases e
  | some b =>
    simp only [eb] at e
    cases e
    have fin := q (.bl (!b)) ρ G H Stp.refl r (.bl (!b))
    rcases inB_ok r rx ry eb with ⟨k, z, h1, h2, h3⟩ | ⟨i, j, h1, h2, h3⟩ | ⟨p, xs, h1, h2, h3, h4, h5⟩ | ⟨d, ds, h1, h2, h3, h4, h5⟩
    · exact .inl ⟨k, z, h1, h2, by rw [h3]; exact fin⟩
    · exact .inr (.inl ⟨i, j, h1, h2, by rw [h3]; exact fin⟩)
    · exact .inr (.inr (.inl ⟨p, xs, h1, h2, h3, h4, by rw [if_pos rfl, h5]; exact fin⟩))
    · exact .inr (.inr (.inr ⟨d, ds, h1, h2, h3, h4, by rw [h5]; exact fin⟩))
/-! ### is -/
def isNonB : W → Bool
  | .d .non => true
  | _ => false
theorem isNon_ok {x : W} {v : V} (rx : RepW c ρ G x v) : decide (v = .non) = isNonB x := by
  cases x with
  | d x => cases rx <;> simp [isNonB]
  | loc n => obtain ⟨p, _, rfl⟩ := rx; simp [isNonB]
def isN (st : Store) (x y : W) : Option (W × Store) := match y with
  | .d .non => some (.d (.bl (isNonB x)), st)
  | _ => none
def isnN (st : Store) (x y : W) : Option (W × Store) := match y with
  | .d .non => some (.d (.bl (!isNonB x)), st)
  | _ => none
theorem s2_isN : S2 c (fun x y H Q => y = .non ∧ Q (.bl (decide (x = .non))) H) isN := fun ρ G H st x y w st' vx vy Q r rx ry e q => by
  unfold isN at e
  split at e
  · cases e
    cases ry
    exact ⟨rfl, by rw [isNon_ok rx]; exact q _ ρ G H Stp.refl r (.bl _)⟩
  · cases e
theorem s2_isnN : S2 c (fun x y H Q => y = .non ∧ Q (.bl (!decide (x = .non))) H) isnN := fun ρ G H st x y w st' vx vy Q r rx ry e q => by
  unfold isnN at e
  split at e
  · cases e
    cases ry
    exact ⟨rfl, by rw [isNon_ok rx]; exact q _ ρ G H Stp.refl r (.bl _)⟩
  · cases e
def isBl (st : Store) (x y : W) : Option (W × Store) := match x, y with
  | .d (.bl a), .d (.bl b) => some (.d (.bl (decide (a = b))), st)
  | _, _ => none
def isnBl (st : Store) (x y : W) : Option (W × Store) := match x, y with
  | .d (.bl a), .d (.bl b) => some (.d (.bl (!decide (a = b))), st)
  | _, _ => none
theorem s2_isBl : S2 c rIsB isBl := fun ρ G H st x y w st' vx vy Q r rx ry e q => by
  unfold isBl at e
  split at e
  · cases e
    cases rx
    cases ry
    exact ⟨_, _, rfl, rfl, q _ ρ G H Stp.refl r (.bl _)⟩
  · cases e
theorem s2_isnBl : S2 c rNotB isnBl := fun ρ G H st x y w st' vx vy Q r rx ry e q => by
  unfold isnBl at e
  split at e
  · cases e
    cases rx
    cases ry
    exact ⟨_, _, rfl, rfl, q _ ρ G H Stp.refl r (.bl _)⟩
  · cases e
end
end EV
/-! EV9: built-ins called, methods of built-in types, items, slices, displays, fields, what a loop walks. -/
namespace EV
open PySem PySem.Spec PyProof.Rows L2
section
variable {c : Kx} {X : Cx} {U : WX} {e o a b i : Expr} {es : List Expr} {x : Str} {p pos apos cpos : Pos} {id T : String} {m : EM (List W)} {ma mb mi mo : EM W}
/-! ### f(..), T(..) built-in -/
def callB (f : Store → List W → Option (W × Store)) (m : EM (List W)) : EM W := bnd m fun ws => lft fun st => f st ws
theorem wp_cb {r : List V → Hp → VK → Prop} {f : Store → List W → Option (W × Store)} (hs : SN c r f) {ρ : Rho} {G H : Hp} {σ : L2.St} {s : SS} {Q : VK} (hR : R c ρ G σ H s) (w : Wp c U (callB f m) ρ G σ H s (fun w ρ' G' H' _ => ∀ v, RepW c ρ' G' w v → Q v H')) :
    tCB r (tA c U m) σ H Q :=
  ⟨ρ, G, s, hR, (Wp.bnd hR w).imp fun ws ρ1 G1 H1 s1 ⟨S1, R1, w1⟩ vs rvs => by
    obtain ⟨w, st', e, q⟩ := Wp.lft w1
    exact hs ρ1 G1 H1 s1.st ws w st' vs Q R1.rs rvs e fun v' ρ' G' H' S3 R3 r3 => q ρ' G' H' S3 ⟨R3, R1.env.mono S3.rho S3.same, R1.len⟩ v' r3⟩
theorem ee_cb {r : List V → Hp → VK → Prop} {f : Store → List W → Option (W × Store)} (hc : CallR X (.builtin id) r) (hs : SN c r f) (hg : Gl X x) (hm : X.mg x = none) (hv : bootBuiltins x = some (.builtin id)) (ha : EA c X U (e :: es) m) (hn : x ≠ "__name__" := by decide) (hdb : (x == ("__debug__" : Str)) = false := by decide)
    (he : starEach (e :: es) X.env = (false, eval e X.env) :: starEach es X.env := by rfl) (hpl : (backTo pos (starEach es X.env)).any (·.1) = false := by rfl) : EE c X U (.Call (.Name x p) (e :: es) [] pos) (callB f m) :=
  EE.mk1 ha.K (pe_callB hc hg hm hv ha.pa hn hdb he hpl) fun ρ G s σ H Q hR w => wp_cb hs hR w
theorem ee_cty {r : List V → Hp → VK → Prop} {f : Store → List W → Option (W × Store)} (hc : CallR X (.type T) r) (hs : SN c r f) (hg : Gl X x) (hm : X.mg x = none) (hv : bootBuiltins x = some (.type T)) (ha : EA c X U (e :: es) m) (hn : x ≠ "__name__" := by decide) (hdb : (x == ("__debug__" : Str)) = false := by decide)
    (he : starEach (e :: es) X.env = (false, eval e X.env) :: starEach es X.env := by rfl) (hpl : (backTo pos (starEach es X.env)).any (·.1) = false := by rfl) : EE c X U (.Call (.Name x p) (e :: es) [] pos) (callB f m) :=
  EE.mk1 ha.K (pe_callTy hc hg hm hv ha.pa hn hdb he hpl) fun ρ G s σ H Q hR w => wp_cb hs hR w
def lenW (st : Store) : List W → Option (W × Store)
  | [.d (.str z)] => if z.length ≤ 16777216 then some (.d (.int z.length), st) else none
  | [w] => match listW st w with
    | some ws => some (.d (.int ws.length), st)
    | none => match tupW w with
      | some ws => some (.d (.int ws.length), st)
      | none => none
  | _ => none
theorem sn_len : SN c (fun xs H Q => ∃ x n, xs = [x] ∧ LenV c.K x H n ∧ Q (.int n) H) lenW := fun ρ G H st xs w st' vs Q r rv e q => by
  unfold lenW at e
  split at e
  · rename_i z
    split at e
    · rename_i h
      cases e
      obtain ⟨v, r', rfl, hz, h2⟩ := rv
      have h2 : r' = [] := h2
      subst h2
      cases hz
      exact ⟨_, z.length, rfl, ⟨by rw [sizeLine_eq]; exact h, rfl⟩, q _ ρ G H Stp.refl r (.int _)⟩
    · cases e
  · rename_i w' _
    obtain ⟨v, r', rfl, hz, h2⟩ := rv
    have h2 : r' = [] := h2
    subst h2
    cases el : listW st w' with
    | some ws =>
      simp only [el] at e
      cases e
      obtain ⟨a, us, rfl, h1, h3⟩ := listW_ok r hz el
      exact ⟨_, ws.length, rfl, .inl ⟨us, h1, h3.len.symm⟩, q _ ρ G H Stp.refl r (.int _)⟩
    | none =>
      simp only [el] at e
      cases et : tupW w' with
      | some ws =>
        simp only [et] at e
        cases e
        obtain ⟨a, us, rfl, h1, h3⟩ := tupW_ok r hz et
        exact ⟨_, ws.length, rfl, .inr ⟨us, h1, h3.len.symm⟩, q _ ρ G H Stp.refl r (.int _)⟩
      | none => simp only [et] at e; cases e
  · cases e
def intW (st : Store) : List W → Option (W × Store)
  | [.d (.int i)] => some (.d (.int i), st)
  | [.d (.bl k)] => some (.d (.int (if k then 1 else 0)), st)
  | [.d (.str z)] => if z.length ≤ 640 then match intText? z with
    | some n => some (.d (.int n), st)
    | none => none
    else none
  | _ => none
theorem one_rep {ρ : Rho} {G : Hp} {w : W} {vs : List V} (h : RepWs c ρ G [w] vs) : ∃ v, vs = [v] ∧ RepW c ρ G w v := by
  obtain ⟨v, r', rfl, hz, h2⟩ := h
  have h2 : r' = [] := h2
  subst h2
  exact ⟨v, rfl, hz⟩
theorem two_rep {ρ : Rho} {G : Hp} {w w' : W} {vs : List V} (h : RepWs c ρ G [w, w'] vs) : ∃ v v', vs = [v, v'] ∧ RepW c ρ G w v ∧ RepW c ρ G w' v' := by
  obtain ⟨v, r', rfl, hz, h2⟩ := h
  obtain ⟨v', rfl, h3⟩ := one_rep h2
  exact ⟨v, v', rfl, hz, h3⟩
theorem call_intA : CallR X (.type "int") (fun xs H Q => ((∃ i, xs = [.int i] ∧ Q (.int i) H) ∨ ∃ k, xs = [.bl k] ∧ Q (.int (if k = true then 1 else 0)) H) ∨ ∃ a n, xs = [.str a] ∧ intText? a = some n ∧ a.length ≤ 640 ∧ Q (.int n) H) := call_int1.or call_int_str
theorem sn_int : SN c (fun xs H Q => ((∃ i, xs = [.int i] ∧ Q (.int i) H) ∨ ∃ k, xs = [.bl k] ∧ Q (.int (if k = true then 1 else 0)) H) ∨ ∃ a n, xs = [.str a] ∧ intText? a = some n ∧ a.length ≤ 640 ∧ Q (.int n) H) intW := fun ρ G H st xs w st' vs Q r rv e q => by
  unfold intW at e
  split at e
  · cases e
    obtain ⟨v, rfl, hz⟩ := one_rep rv
    cases hz
    exact .inl (.inl ⟨_, rfl, q _ ρ G H Stp.refl r (.int _)⟩)
  · cases e
    obtain ⟨v, rfl, hz⟩ := one_rep rv
    cases hz
    exact .inl (.inr ⟨_, rfl, q _ ρ G H Stp.refl r (.int _)⟩)
  · split at e
    · rename_i h
      split at e
      · rename_i n hn
        cases e
        obtain ⟨v, rfl, hz⟩ := one_rep rv
        cases hz
        exact .inr ⟨_, n, rfl, hn, h, q _ ρ G H Stp.refl r (.int _)⟩
      · cases e
    · cases e
  · cases e
def strW (st : Store) : List W → Option (W × Store)
  | [.d (.int i)] => if 0 ≤ i ∧ i < 10 ^ 200 then some (.d (.str (Str.ofString (toString i))), st) else none
  | _ => none
theorem sn_str : SN c (fun xs H Q => ∃ i, xs = [.int i] ∧ i.natAbs.log2 < 1920 ∧ Q (.str (Str.ofString (toString i))) H) strW := fun ρ G H st xs w st' vs Q r rv e q => by
  unfold strW at e
  split at e
  · rename_i i
    split at e
    · rename_i h
      cases e
      obtain ⟨v, rfl, hz⟩ := one_rep rv
      cases hz
      refine ⟨i, rfl, ?_, q _ ρ G H Stp.refl r (.str _)⟩
      refine log2_lt ?_ (by decide)
      have h1 : i.natAbs < 10 ^ 200 := by omega
      exact Nat.lt_of_lt_of_le h1 (by decide +kernel)
    · cases e
  · cases e
def listC (own : Bool) (st : Store) : List W → Option (W × Store)
  | [w] => match listW st w with
    | some ws => newL own ws st
    | none => match tupW w with
      | some ws => newL own ws st
      | none => none
  | _ => none
theorem sn_list (own : Bool) : SN c (fun xs H Q => ∃ p ys, xs = [.ref p] ∧ (SqL c.K H p ys ∨ SqT c.K H p ys) ∧ ∀ l, H l = none → Q (.ref l) (upd H l (.lst ys))) (listC own) := fun ρ G H st xs w st' vs Q r rv e q => by
  unfold listC at e
  split at e
  · rename_i w'
    obtain ⟨v, rfl, hz⟩ := one_rep rv
    cases el : listW st w' with
    | some ws =>
      simp only [el] at e
      obtain ⟨a, us, rfl, h1, h3⟩ := listW_ok r hz el
      refine ⟨a, us, rfl, .inl h1, fun l hl => ?_⟩
      obtain ⟨ρ', G', S, r', rw'⟩ := newL_ok r h3 e hl
      exact q _ ρ' G' _ S r' rw'
    | none =>
      simp only [el] at e
      cases et : tupW w' with
      | some ws =>
        simp only [et] at e
        obtain ⟨a, us, rfl, h1, h3⟩ := tupW_ok r hz et
        refine ⟨a, us, rfl, .inr h1, fun l hl => ?_⟩
        obtain ⟨ρ', G', S, r', rw'⟩ := newL_ok r h3 e hl
        exact q _ ρ' G' _ S r' rw'
      | none => simp only [et] at e; cases e
  · cases e
/-- isinstance(x, T): by the kind of the value -/
inductive Ty where
  | bi (n : String) | cl (k : Nat)
  deriving DecidableEq
def tyW (st : Store) : W → Option Ty
  | .d .non => some (.bi "NoneType")
  | .d (.bl _) => some (.bi "bool")
  | .d (.int _) => some (.bi "int")
  | .d (.str _) => some (.bi "str")
  | .d (.lst _) => some (.bi "list")
  | .d (.fls _) => none
  | .d (.tup _) => some (.bi "tuple")
  | .d (.dct _ _) => some (.bi "dict")
  | .d (.ins k _ _) => some (.cl k)
  | .d _ => none
  | .loc n => match st[n]? with
    | some (some (.lst _)) => some (.bi "list")
    | some (some (.dct _ _)) => some (.bi "dict")
    | some (some (.ins k _ _)) => some (.cl k)
    | _ => none
/-- what isinstance asks of a class of instances -/
structure InsT (K : PySem.W.Frag) (C : Addr) : Prop where
  a : PySem.W.findIn K (.ref C) "__class__" = some (some (.builtin "object.__class__"))
  b : PySem.W.specialIn K (.builtin "object.__class__") "__get__" = some (some (.builtin "getset_descriptor.__get__"))
  c : PySem.W.takesIn K (.builtin "object.__class__") = some true
  d : PySem.W.mroIn K C (.type "object") = some true
def TyFact (c : Kx) (u : Value) : Ty → Bool → Prop
  | .bi n, b => PySem.W.kitOne c.K (.type n) u = some b
  | .cl k, b => ∀ C, c.ct[k]? = some C → InsT c.K C ∧ PySem.W.kitOne c.K (.ref C) u = some b
def isiW (q : List (Ty × Bool)) (st : Store) : List W → Option (W × Store)
  | [w, _] => match tyW st w with
    | some t => match q.lookup t with
      | some b => some (.d (.bl b), st)
      | none => none
    | none => none
  | _ => none
theorem sn_isi {q : List (Ty × Bool)} {v : V} {u : Value} (hv : ClsV v u) (hq : ∀ t b, q.lookup t = some b → TyFact c u t b) (ρ : Rho) (G H : Hp) (st : Store) (w : W) (w2 : W) (st' : Store) (vx : V) (Q : VK) (r : RS c ρ G H st) (rv : RepW c ρ G w vx) (w0 : W) (e : isiW q st [w, w2] = some (w0, st'))
    (k : ∀ v ρ' G' H', Stp ρ G H st ρ' G' H' st' → RS c ρ' G' H' st' → RepW c ρ' G' w0 v → Q v H') : rIsi c.K [vx, v] H Q := by
  unfold isiW at e
  simp only at e
  cases et : tyW st w with
  | none => simp only [et] at e; cases e
  | some t =>
    simp only [et] at e
    cases eq : q.lookup t with
    | none => simp only [eq] at e; cases e
    | some b =>
      simp only [eq] at e
      cases e
      have hf := hq t b eq
      have fin := k (.bl b) ρ G H Stp.refl r (.bl b)
      cases w with
      | d x =>
        cases x with
        | non => cases et; cases rv; exact ⟨_, _, _, _, b, rfl, hv, .base .non, hf, fin⟩
        | bl _ => cases et; cases rv; exact ⟨_, _, _, _, b, rfl, hv, .base (.bl _), hf, fin⟩
        | int _ => cases et; cases rv; exact ⟨_, _, _, _, b, rfl, hv, .base (.int _), hf, fin⟩
        | str _ => cases et; cases rv; exact ⟨_, _, _, _, b, rfl, hv, .base (.str _), hf, fin⟩
        | lst _ => cases et; cases rv with | lst h _ => exact ⟨_, _, _, _, b, rfl, hv, .base (.lst (r.sub _ _ h)), hf, fin⟩
        | fls _ => cases et
        | tup _ =>
          cases et
          cases rv with
          | tup h _ =>
            rcases h with (h | ⟨o, h⟩) | ⟨o, its, n, h1, h2, _⟩
            · exact ⟨_, _, _, _, b, rfl, hv, .base (.tup (r.sub _ _ h)), hf, fin⟩
            · exact ⟨_, _, _, _, b, rfl, hv, .fTuple (r.sub _ _ h), hf, fin⟩
            · exact ⟨_, _, _, _, b, rfl, hv, .kTuple h1 h2, hf, fin⟩
        | dct _ _ => cases et; cases rv with | dct h _ _ => exact ⟨_, _, _, _, b, rfl, hv, .base (.dK (r.sub _ _ h)), hf, fin⟩
        | ins _ _ _ =>
          cases et
          cases rv with
          | ins hC hF h _ _ _ =>
            obtain ⟨hI, hb⟩ := hf _ hC
            exact ⟨_, _, _, _, b, rfl, hv, .base (.ins (r.sub _ _ h) hF.1 hI.a hI.b hI.c hI.d), hb, fin⟩
        | ref _ => cases et
        | ty _ => cases et
      | loc n =>
        obtain ⟨p, hp, rfl⟩ := rv
        unfold tyW at et
        cases ho : st[n]? with
        | none => simp only [ho] at et; cases et
        | some o =>
          cases o with
          | none => simp only [ho] at et; cases et
          | some o =>
            obtain ⟨_, _, ok⟩ := r.own n p o hp ho
            cases o with
            | lst _ =>
              simp only [ho] at et
              cases et
              obtain ⟨_, _, h, _⟩ := ok
              exact ⟨_, _, _, _, b, rfl, hv, .base (.lst h), hf, fin⟩
            | dct _ _ =>
              simp only [ho] at et
              cases et
              obtain ⟨_, _, _, h, _⟩ := ok
              exact ⟨_, _, _, _, b, rfl, hv, .base (.dK h), hf, fin⟩
            | ins _ _ _ =>
              simp only [ho] at et
              cases et
              obtain ⟨_, C, _, hC, hF, h, _⟩ := ok
              obtain ⟨hI, hb⟩ := hf _ hC
              exact ⟨_, _, _, _, b, rfl, hv, .base (.ins h hF.1 hI.a hI.b hI.c hI.d), hb, fin⟩
            | tup _ => simp only [ho] at et; cases et
theorem wp_map {α β : Type} {mm : EM α} {g : α → β} {ρ : Rho} {G H : Hp} {σ : L2.St} {s : SS} {k : β → Rho → Hp → Hp → SS → Prop} (h : Wp c U mm ρ G σ H s (fun a ρ' G' H' s' => k (g a) ρ' G' H' s')) : Wp c U (bnd mm fun a => pur (g a)) ρ G σ H s k := by
  unfold Wp at h ⊢
  cases e : mm s with
  | none => rw [e] at h; exact h.elim
  | some p =>
    obtain ⟨o, s1⟩ := p
    rw [e] at h
    cases o with
    | ok a => rw [bnd_ok e]; exact h
    | ex _ _ _ => rw [bnd_ex e]; exact h
/-- the second argument is a class, known by its name -/
theorem ee_isi {q : List (Ty × Bool)} {u : Value} {v : V} {d2 : D} (hv : ClsV v u) (hq : ∀ t b, q.lookup t = some b → TyFact c u t b) (hd2 : ∀ (G : Hp) (z : V), RepD c G d2 z → z = v) (hg : Gl X "isinstance") (hm : X.mg "isinstance" = none) (ha : EE c X U a ma) (hb : EE c X U b (cst d2))
    (hs : starEach [a, b] X.env = (false, eval a X.env) :: starEach [b] X.env := by rfl) (hs2 : starEach [b] X.env = (false, eval b X.env) :: starEach [] X.env := by rfl) (hpl : (backTo pos (starEach [b] X.env)).any (·.1) = false := by rfl) :
    EE c X U (.Call (.Name "isinstance" p) [a, b] [] pos) (bnd ma fun w => lft fun st => isiW q st [w, .d .non]) :=
  EE.mk1 ha.K (pe_callB call_isi hg hm (by decide +kernel) (ea_cons ha (ea_cons hb (ea_nil ha.K) hs2) hs).pa (by decide) (by decide) hs hpl) fun ρ G s σ H Q hR w => by
    refine ⟨ρ, G, s, hR, ?_⟩
    have e : acons ma (acons (cst d2) anil) = bnd ma fun w => pur [w, .d d2] := rfl
    rw [e]
    refine wp_map (g := fun w => [w, .d d2]) (k := fun ws ρ' G' H' _ => ∀ vs, RepWs c ρ' G' ws vs → rIsi X.K vs H' Q) ((Wp.bnd hR w).imp fun x ρ1 G1 H1 s1 ⟨S1, R1, w1⟩ vs rvs => ?_)
    obtain ⟨w, st', e, q'⟩ := Wp.lft w1
    obtain ⟨v1, v2, rfl, r1, r2⟩ := two_rep rvs
    rw [hd2 G1 v2 r2, ha.K]
    exact sn_isi hv hq ρ1 G1 H1 s1.st x _ st' v1 Q R1.rs r1 w e fun v' ρ' G' H' S3 R3 r3 => q' ρ' G' H' S3 ⟨R3, R1.env.mono S3.rho S3.same, R1.len⟩ v' r3
/-! ### methods of built-in types -/
/-- the receiver is of the type T -/
def tyIs (T : String) (st : Store) (w : W) : Bool := match w with
  | .d (.str _) => decide (T = "str")
  | .d (.lst _) => decide (T = "list")
  | .d (.fls _) => decide (T = "list")
  | .d (.dct _ _) => decide (T = "dict")
  | .d _ => false
  | .loc n => match st[n]? with
    | some (some (.lst _)) => decide (T = "list")
    | some (some (.dct _ _)) => decide (T = "dict")
    | _ => false
theorem tyIs_ok {ρ : Rho} {G H : Hp} {st : Store} {w : W} {v : V} (r : RS c ρ G H st) (rv : RepW c ρ G w v) (e : tyIs T st w = true) : tyV c.K T v H := by
  cases w with
  | d x =>
    cases x with
    | str z => cases rv; exact (of_decide_eq_true e : T = "str")
    | lst _ => cases rv with | lst h _ => exact .inl ⟨of_decide_eq_true e, _, SqL.of (r.sub _ _ h)⟩
    | fls _ => cases rv with | fls h _ => exact .inl ⟨of_decide_eq_true e, _, r.sub.seq h⟩
    | dct _ _ => cases rv with | dct h _ _ => exact .inr (.inr (.inl ⟨of_decide_eq_true e, .inl ⟨_, r.sub _ _ h⟩⟩))
    | _ => exact absurd e Bool.false_ne_true
  | loc n =>
    obtain ⟨p, hp, rfl⟩ := rv
    unfold tyIs at e
    cases ho : st[n]? with
    | none => simp only [ho] at e; exact absurd e Bool.false_ne_true
    | some o =>
      cases o with
      | none => simp only [ho] at e; exact absurd e Bool.false_ne_true
      | some o =>
        obtain ⟨_, _, ok⟩ := r.own n p o hp ho
        cases o with
        | lst _ =>
          simp only [ho] at e
          obtain ⟨_, _, h, _⟩ := ok
          exact .inl ⟨of_decide_eq_true e, _, SqL.of h⟩
        | dct _ _ =>
          simp only [ho] at e
          obtain ⟨_, _, _, h, _⟩ := ok
          exact .inr (.inr (.inl ⟨of_decide_eq_true e, .inl ⟨_, h⟩⟩))
        | ins _ _ _ => simp only [ho] at e; exact absurd e Bool.false_ne_true
        | tup _ => simp only [ho] at e; exact absurd e Bool.false_ne_true
/-- what a method's rule does: the receiver, the arguments -/
def SM (c : Kx) (r : V → List V → Hp → VK → Prop) (f : Store → W → List W → Option (W × Store)) : Prop :=
  ∀ (ρ : Rho) (G H : Hp) (st : Store) (o : W) (xs : List W) (w : W) (st' : Store) (vo : V) (vs : List V) (Q : VK), RS c ρ G H st → RepW c ρ G o vo → RepWs c ρ G xs vs → f st o xs = some (w, st') →
    (∀ v ρ' G' H', Stp ρ G H st ρ' G' H' st' → RS c ρ' G' H' st' → RepW c ρ' G' w v → Q v H') → r vo vs H Q
def bmE (T : String) (f : Store → W → List W → Option (W × Store)) (mo : EM W) (m : EM (List W)) : EM W := bnd mo fun o => fun s => if tyIs T s.st o then bnd m (fun ws => lft fun st => f st o ws) s else none
theorem ee_bm {name : Str} {r : V → List V → Hp → VK → Prop} {f : Store → W → List W → Option (W × Store)} (hs : SM c r f) (pa : PlainAttrs T) (slot : Slot T name id) (hty : typeOf (.builtin id) = pure (.type "method_descriptor")) (hm : MtR X id r) (ho : EE c X U o mo) (ha : EA c X U (e :: es) m)
    (h1 : attributeBase o name X.env (eval o X.env) = eval o X.env := by rfl)
    (h2 : (((backTo cpos (starEach (e :: es) X.env)).all fun x => !x.1) && (backToKw cpos (keywordEach [] X.env)).all (fun x => x.1.isSome) && decide ((e :: es).length + ([] : List Keyword).length + (if ([] : List Keyword).isEmpty = true then 0 else 1) < 30)) = true := by rfl)
    (h3 : (apos.endLine == cpos.line) = true := by rfl) (h4 : starEach (e :: es) X.env = (false, eval e X.env) :: starEach es X.env := by rfl) (h5 : (backTo cpos (starEach es X.env)).any (fun x => x.1) = false := by rfl) :
    EE c X U (.Call (.Attribute o name apos) (e :: es) [] cpos) (bmE T f mo m) :=
  EE.mk1 ho.K (pe_bm pa slot hty hm ho.pe ha.pa h1 h2 h3 h4 h5) fun ρ G s σ H Q hR w => ⟨ρ, G, s, hR, (Wp.bnd hR w).imp fun ov ρ1 G1 H1 s1 ⟨S1, R1, w1⟩ v rv => by
    unfold Wp at w1
    by_cases ht : tyIs T s1.st ov = true
    · simp only [ht, if_true] at w1
      refine ⟨by rw [ho.K]; exact tyIs_ok R1.rs rv ht, ρ1, G1, s1, R1, (Wp.bnd R1 w1).imp fun ws ρ2 G2 H2 s2 ⟨S2, R2, w2⟩ vs rvs => ?_⟩
      obtain ⟨w, st', e, q⟩ := Wp.lft w2
      exact hs ρ2 G2 H2 s2.st ov ws w st' v vs Q R2.rs (rv.mono S2.rho S2.same) rvs e fun v' ρ' G' H' S3 R3 r3 => q ρ' G' H' S3 ⟨R3, R2.env.mono S3.rho S3.same, R2.len⟩ v' r3
    · simp only [if_neg ht] at w1⟩
theorem ee_bm0 {name : Str} {r : V → List V → Hp → VK → Prop} {f : Store → W → List W → Option (W × Store)} (hs : SM c r f) (pa : PlainAttrs T) (slot : Slot T name id) (hty : typeOf (.builtin id) = pure (.type "method_descriptor")) (hm : MtR X id r) (ho : EE c X U o mo)
    (h1 : attributeBase o name X.env (eval o X.env) = eval o X.env := by rfl) (h3 : (apos.endLine == cpos.line) = true := by rfl) :
    EE c X U (.Call (.Attribute o name apos) [] [] cpos) (bmE T f mo anil) :=
  EE.mk1 ho.K (pe_bm0 pa slot hty hm ho.pe h1 h3) fun ρ G s σ H Q hR w => ⟨ρ, G, s, hR, (Wp.bnd hR w).imp fun ov ρ1 G1 H1 s1 ⟨S1, R1, w1⟩ v rv => by
    unfold Wp at w1
    by_cases ht : tyIs T s1.st ov = true
    · simp only [ht, if_true] at w1
      refine ⟨by rw [ho.K]; exact tyIs_ok R1.rs rv ht, ?_⟩
      have w2 : Wp c U (lft fun st => f st ov []) ρ1 G1 σ H1 s1 (fun w ρ' G' H' _ => ∀ v, RepW c ρ' G' w v → Q v H') := w1
      obtain ⟨w, st', e, q⟩ := Wp.lft w2
      exact hs ρ1 G1 H1 s1.st ov [] w st' v [] Q R1.rs rv rfl e fun v' ρ' G' H' S3 R3 r3 => q ρ' G' H' S3 ⟨R3, R1.env.mono S3.rho S3.same, R1.len⟩ v' r3
    · simp only [if_neg ht] at w1⟩
/-! lists that are written -/
def wrL (st : Store) (o : W) (g : List W → Option (List W × W)) : Option (W × Store) := match o with
  | .loc n => match st[n]? with
    | some (some (.lst ws)) => match g ws with
      | some (ws', w) => some (w, st.set n (some (.lst ws')))
      | none => none
    | _ => none
  | _ => none
def appendW (st : Store) (o : W) : List W → Option (W × Store)
  | [w] => wrL st o fun ws => if ws.length < 16777216 then some (ws ++ [w], .d .non) else none
  | _ => none
theorem wrL_ok {ρ : Rho} {G H : Hp} {st : Store} {o w : W} {st' : Store} {vo : V} {g : List W → Option (List W × W)} (r : RS c ρ G H st) (ro : RepW c ρ G o vo) (e : wrL st o g = some (w, st')) :
    ∃ a vs ws ws', vo = .ref a ∧ H a = some (.lst vs) ∧ RepWs c ρ G ws vs ∧ g ws = some (ws', w) ∧ ∀ vs', RepWs c ρ G ws' vs' → Stp ρ G H st ρ G (upd H a (.lst vs')) st' ∧ RS c ρ G (upd H a (.lst vs')) st' := by
  unfold wrL at e
  split at e
  · rename_i n
    obtain ⟨p, hp, rfl⟩ := ro
    cases ho : st[n]? with
    | none => simp only [ho] at e; cases e
    | some o =>
      cases o with
      | none => simp only [ho] at e; cases e
      | some o =>
        cases o with
        | lst ws =>
          simp only [ho] at e
          cases hg : g ws with
          | none => simp only [hg] at e; cases e
          | some q =>
            obtain ⟨ws', w'⟩ := q
            simp only [hg] at e
            cases e
            obtain ⟨_, _, h1, vs, h2, h3⟩ := r.own n p _ hp ho
            exact ⟨p.1, vs, ws, ws', rfl, h2, h3, hg, fun vs' r' => written r hp ho ⟨h1, vs', upd_same, r'⟩⟩
        | dct _ _ => simp only [ho] at e; cases e
        | ins _ _ _ => simp only [ho] at e; cases e
        | tup _ => simp only [ho] at e; cases e
  · cases e
theorem sm_append : SM c rAppend appendW := fun ρ G H st o xs w st' vo vs Q r ro rx e q => by
  unfold appendW at e
  split at e
  · rename_i x
    obtain ⟨v, rfl, rv⟩ := one_rep rx
    obtain ⟨a, vs, ws, ws', rfl, h1, h2, h3, h4⟩ := wrL_ok r ro e
    by_cases hl : ws.length < 16777216
    · rw [if_pos hl] at h3
      cases h3
      obtain ⟨S, r'⟩ := h4 (vs ++ [v]) (h2.app ⟨v, [], rfl, rv, rfl⟩)
      exact ⟨a, vs, v, rfl, rfl, h1, by rw [h2.len, sizeLine_eq]; exact hl, q _ ρ G _ S r' .non⟩
    · rw [if_neg hl] at h3
      cases h3
  · cases e
def clearW (st : Store) (o : W) : List W → Option (W × Store)
  | [] => wrL st o fun _ => some ([], .d .non)
  | _ => none
theorem sm_clear : SM c rClear clearW := fun ρ G H st o xs w st' vo vs Q r ro rx e q => by
  unfold clearW at e
  split at e
  · have rx : vs = [] := rx
    subst rx
    obtain ⟨a, vs, ws, ws', rfl, h1, h2, h3, h4⟩ := wrL_ok r ro e
    cases h3
    obtain ⟨S, r'⟩ := h4 [] rfl
    exact ⟨a, vs, rfl, rfl, h1, q _ ρ G _ S r' .non⟩
  · cases e
def popW (st : Store) (o : W) : List W → Option (W × Store)
  | [] => wrL st o fun ws => match ws[ws.length - 1]? with
    | some w => some (ws.dropLast, w)
    | none => none
  | _ => none
theorem RepWs.dropLast {ρ : Rho} {G : Hp} {ws : List W} {vs : List V} (h : RepWs c ρ G ws vs) : RepWs c ρ G ws.dropLast vs.dropLast := by
  rw [List.dropLast_eq_take, List.dropLast_eq_take, h.len]
  exact h.take _
theorem sm_pop : SM c rPop popW := fun ρ G H st o xs w st' vo vs Q r ro rx e q => by
  unfold popW at e
  split at e
  · have rx : vs = [] := rx
    subst rx
    obtain ⟨a, vs, ws, ws', rfl, h1, h2, h3, h4⟩ := wrL_ok r ro e
    cases hw : ws[ws.length - 1]? with
    | none => simp only [hw] at h3; cases h3
    | some y =>
      simp only [hw] at h3
      cases h3
      obtain ⟨v, hv, rv⟩ := h2.get hw
      obtain ⟨S, r'⟩ := h4 vs.dropLast h2.dropLast
      exact ⟨a, vs, v, rfl, rfl, h1, by rw [h2.len]; exact hv, q _ ρ G _ S r' rv⟩
  · cases e
def extendW (st : Store) (o : W) : List W → Option (W × Store)
  | [x] => match lst1W st x with
    | some zs => wrL st o fun ws => if ws.length + zs.length ≤ 16777216 then some (ws ++ zs, .d .non) else none
    | none => none
  | _ => none
theorem sm_extend : SM c rExtend extendW := fun ρ G H st o xs w st' vo vs Q r ro rx e q => by
  unfold extendW at e
  split at e
  · rename_i x
    cases hz : lst1W st x with
    | none => simp only [hz] at e; cases e
    | some zs =>
      simp only [hz] at e
      obtain ⟨v, rfl, rv⟩ := one_rep rx
      obtain ⟨b, us, rfl, g1, g2⟩ := lst1W_ok r rv hz
      obtain ⟨a, vs, ws, ws', rfl, h1, h2, h3, h4⟩ := wrL_ok r ro e
      by_cases hl : ws.length + zs.length ≤ 16777216
      · rw [if_pos hl] at h3
        cases h3
        obtain ⟨S, r'⟩ := h4 (vs ++ us) (h2.app g2)
        exact ⟨a, b, vs, us, rfl, rfl, h1, g1, by rw [h2.len, g2.len, sizeLine_eq]; exact hl, q _ ρ G _ S r' .non⟩
      · rw [if_neg hl] at h3
        cases h3
  · cases e
def insertW (st : Store) (o : W) : List W → Option (W × Store)
  | [.d (.int i), x] => wrL st o fun ws => if ws.length < 16777216 ∧ 0 ≤ i ∧ i < 1000000000 then some (ws.take i.toNat ++ [x] ++ ws.drop i.toNat, .d .non) else none
  | _ => none
theorem sm_insert : SM c (fun x vs H Q => ∃ (l : Addr) (xs : List V) (i : Int) (y : V), x = .ref l ∧ vs = [.int i, y] ∧ H l = some (.lst xs) ∧ xs.length < sizeLine ∧ 0 ≤ i ∧ i < 2 ^ 63 ∧ Q .non (upd H l (.lst (xs.take i.toNat ++ [y] ++ xs.drop i.toNat)))) insertW := fun ρ G H st o xs w st' vo vs Q r ro rx e q => by
  unfold insertW at e
  split at e
  · rename_i i x
    obtain ⟨v, v', rfl, rv, rv'⟩ := two_rep rx
    cases rv
    obtain ⟨a, vs, ws, ws', rfl, h1, h2, h3, h4⟩ := wrL_ok r ro e
    by_cases hl : ws.length < 16777216 ∧ 0 ≤ i ∧ i < 1000000000
    · rw [if_pos hl] at h3
      cases h3
      obtain ⟨S, r'⟩ := h4 (vs.take i.toNat ++ [v'] ++ vs.drop i.toNat) (((h2.take _).app (show RepWs c ρ G [x] [v'] from ⟨v', [], rfl, rv', rfl⟩)).app (h2.drop _))
      exact ⟨a, vs, i, v', rfl, rfl, h1, by rw [h2.len, sizeLine_eq]; exact hl.1, hl.2.1, by omega, q _ ρ G _ S r' .non⟩
    · rw [if_neg hl] at h3
      cases h3
  · cases e
/-! texts -/
def strsD : List D → Option (List Str)
  | [] => some []
  | .str z :: r => (strsD r).map (z :: ·)
  | _ :: _ => none
theorem strsD_map : ∀ zs : List Str, strsD (zs.map .str) = some zs
  | [] => rfl
  | z :: zs => by
    show (strsD (zs.map .str)).map (z :: ·) = _
    rw [strsD_map zs]; rfl
theorem strsD_ok {G : Hp} : ∀ {ds : List D} {zs : List Str} {vs : List V}, strsD ds = some zs → RepDs c G ds vs → vs = zs.map V.str
  | [], _, _, e, .nil => by cases e; rfl
  | d :: ds, zs, _, e, .cons h t => by
    cases d with
    | str z =>
      unfold strsD at e
      cases q : strsD ds with
      | none => rw [q] at e; cases e
      | some ys =>
        rw [q] at e
        cases e
        cases h
        rw [strsD_ok q t]
        rfl
    | _ => cases e
def joinW (st : Store) (o : W) : List W → Option (W × Store)
  | [x] => match o, snapD st x with
    | .d (.str a), some d => match (match d with | .lst ds => strsD ds | .fls ds => strsD ds | .tup ds => strsD ds | _ => none) with
      | some ys => if (ys.map fun x => x.length).sum + ys.length * a.length ≤ 16777216 then some (.d (.str (Txt.join a ys)), st) else none
      | none => none
    | _, _ => none
  | _ => none
theorem sm_join : SM c (fun x xs H Q => ∃ a p, ∃ ys : List Str, x = .str a ∧ xs = [.ref p] ∧ (SqL c.K H p (ys.map V.str) ∨ SqT c.K H p (ys.map V.str)) ∧ (ys.map fun x => x.length).sum + ys.length * a.length ≤ 16777216 ∧ Q (.str (Txt.join a ys)) H) joinW := fun ρ G H st o xs w st' vo vs Q r ro rx e q => by
  unfold joinW at e
  split at e
  · rename_i x
    obtain ⟨v, rfl, rv⟩ := one_rep rx
    split at e
    · rename_i a d hd
      split at e
      · rename_i ys hy
        split at e
        · rename_i hl
          cases e
          cases ro
          obtain ⟨G', s', r'⟩ := snap_ok r rv hd
          have fin := q (.str (Txt.join a ys)) ρ G H Stp.refl r (.str _)
          cases r' with
          | lst h hr => rw [strsD_ok hy hr] at h; exact ⟨a, _, ys, rfl, rfl, .inl (SqL.of (s' _ _ h)), hl, fin⟩
          | fls h hr => rw [strsD_ok hy hr] at h; exact ⟨a, _, ys, rfl, rfl, .inl (s'.seq h), hl, fin⟩
          | tup h hr => rw [strsD_ok hy hr] at h; exact ⟨a, _, ys, rfl, rfl, .inr (SqT.same s' h), hl, fin⟩
          | _ => cases hy
        · cases e
      · cases e
    · cases e
  · cases e
def splitW (own : Bool) (st : Store) (o : W) : List W → Option (W × Store)
  | [.d (.str b)] => match o with
    | .d (.str a) => if 0 < b.length ∧ a.length ≤ 1000000 then newL own ((Txt.split a b).map fun z => .d (.str z)) st else none
    | _ => none
  | _ => none
theorem strs_rep {ρ : Rho} {G : Hp} : ∀ zs : List Str, RepWs c ρ G (zs.map fun z => W.d (.str z)) (zs.map V.str)
  | [] => rfl
  | z :: zs => ⟨_, _, rfl, .str z, strs_rep zs⟩
theorem sm_split (own : Bool) : SM c (fun x xs H Q => ∃ a b, x = .str a ∧ xs = [.str b] ∧ (b.length == 0) = false ∧ a.length + 2 ≤ sizeLine ∧ rNewStrs (Txt.split a b) H Q) (splitW own) := fun ρ G H st o xs w st' vo vs Q r ro rx e q => by
  unfold splitW at e
  split at e
  · rename_i b
    obtain ⟨v, rfl, rv⟩ := one_rep rx
    cases rv
    split at e
    · rename_i a
      cases ro
      split at e
      · rename_i hl
        refine ⟨a, b, rfl, rfl, beq_eq_false_iff_ne.mpr (by omega), by rw [sizeLine_eq]; omega, fun p hp => ?_⟩
        obtain ⟨ρ', G', S, r', rw'⟩ := newL_ok r (strs_rep (Txt.split a b)) e hp
        exact q _ ρ' G' _ S r' rw'
      · cases e
    · cases e
  · cases e
def findW (st : Store) (o : W) : List W → Option (W × Store)
  | [.d (.str b)] => match o with
    | .d (.str a) => some (.d (.int (Txt.find a b)), st)
    | _ => none
  | _ => none
theorem sm_find : SM c (fun x xs H Q => ∃ a b, x = .str a ∧ xs = [.str b] ∧ Q (.int (Txt.find a b)) H) findW := fun ρ G H st o xs w st' vo vs Q r ro rx e q => by
  unfold findW at e
  split at e
  · rename_i b
    obtain ⟨v, rfl, rv⟩ := one_rep rx
    cases rv
    split at e
    · rename_i a
      cases ro
      cases e
      exact ⟨a, b, rfl, rfl, q _ ρ G H Stp.refl r (.int _)⟩
    · cases e
  · cases e
end
end EV
/-! EV10: items, slices, displays, fields, what a loop walks. -/
namespace EV
open PySem PySem.Spec PyProof.Rows L2
section
variable {c : Kx} {X : Cx} {U : WX} {e o a b i value : Expr} {es : List Expr} {x f : Str} {p p2 pos pos' apos cpos : Pos} {m : EM (List W)} {ma mb mi mo me ml mh : EM W}
/-! ### items -/
theorem rep_at {ρ : Rho} {G : Hp} {ws : List W} {vs : List V} {k : Int} {w : W} (h : RepWs c ρ G ws vs) (e : atI ws k = some w) : ∃ v, atI vs k = some v ∧ RepW c ρ G w v := by
  unfold atI at e ⊢
  rw [h.len]
  cases q : ixN ws.length k with
  | none => rw [q] at e; cases e
  | some j =>
    rw [q] at e
    obtain ⟨v, h1, h2⟩ := h.get (show ws[j]? = some w from e)
    exact ⟨v, h1, h2⟩
def ixI (st : Store) (x : W) (k : Int) : Option (W × Store) := match x with
  | .d (.str z) => match atI z.cps.toList k with
    | some ch => if z.length ≤ 16777216 then some (.d (.str ⟨#[ch]⟩), st) else none
    | none => none
  | .d (.lst ds) => match atI ds k with
    | some d => some (.d d, st)
    | none => none
  | .d (.fls ds) => match atI ds k with
    | some d => some (.d d, st)
    | none => none
  | .d (.tup ds) => match atI ds k with
    | some d => some (.d d, st)
    | none => none
  | .d _ => none
  | .loc n => match st[n]? with
    | some (some (.lst ws)) => match atI ws k with
      | some w => some (w, st)
      | none => none
    | some (some (.tup ws)) => match atI ws k with
      | some w => some (w, st)
      | none => none
    | _ => none
def ixA (st : Store) (x y : W) : Option (W × Store) := match y with
  | .d (.int k) => ixI st x k
  | _ => none
theorem repD_at {G : Hp} {ds : List D} {vs : List V} {k : Int} {d : D} (h : RepDs c G ds vs) (e : atI ds k = some d) : ∃ v, atI vs k = some v ∧ RepD c G d v := by
  unfold atI at e ⊢
  rw [h.len]
  cases q : ixN ds.length k with
  | none => rw [q] at e; cases e
  | some j =>
    rw [q] at e
    obtain ⟨v, h1, h2⟩ := h.get (show ds[j]? = some d from e)
    exact ⟨v, h1, h2⟩
theorem s2_ixA : S2 c (rIx c.K) ixA := fun ρ G H st x y w st' vx vy Q r rx ry e q => by
  unfold ixA at e
  cases y with
  | loc n => cases e
  | d y =>
  cases y with
  | int k =>
    have e : ixI st x k = some (w, st') := e
    cases ry
    unfold ixI at e
    cases x with
    | d x =>
      cases x with
      | str z =>
        cases rx
        cases hc : atI z.cps.toList k with
        | none => simp only [hc] at e; cases e
        | some ch =>
          simp only [hc] at e
          split at e
          · rename_i hl
            cases e
            exact .inr (.inr ⟨z, k, ch, rfl, rfl, by rw [sizeLine_eq]; exact hl, hc, q _ ρ G H Stp.refl r (.str _)⟩)
          · cases e
      | lst ds =>
        cases ea : atI ds k with
        | none => simp only [ea] at e; cases e
        | some d =>
          simp only [ea] at e
          cases e
          cases rx with
          | lst h hr =>
            obtain ⟨v, h4, h5⟩ := repD_at hr ea
            exact .inl ⟨_, _, k, v, rfl, rfl, SqL.of (r.sub _ _ h), h4, q v ρ G H Stp.refl r h5⟩
      | fls ds =>
        cases ea : atI ds k with
        | none => simp only [ea] at e; cases e
        | some d =>
          simp only [ea] at e
          cases e
          cases rx with
          | fls h hr =>
            obtain ⟨v, h4, h5⟩ := repD_at hr ea
            exact .inl ⟨_, _, k, v, rfl, rfl, r.sub.seq h, h4, q v ρ G H Stp.refl r h5⟩
      | tup ds =>
        cases ea : atI ds k with
        | none => simp only [ea] at e; cases e
        | some d =>
          simp only [ea] at e
          cases e
          cases rx with
          | tup h hr =>
            obtain ⟨v, h4, h5⟩ := repD_at hr ea
            exact .inr (.inl ⟨_, _, k, v, rfl, rfl, SqT.same r.sub h, h4, q v ρ G H Stp.refl r h5⟩)
      | _ => cases e
    | loc n =>
      cases ho : st[n]? with
      | none => simp only [ho] at e; cases e
      | some oo =>
        cases oo with
        | none => simp only [ho] at e; cases e
        | some oo =>
          cases oo with
          | lst ws =>
            simp only [ho] at e
            cases ea : atI ws k with
            | none => simp only [ea] at e; cases e
            | some w' =>
              simp only [ea] at e
              cases e
              obtain ⟨p, hp, rfl⟩ := rx
              obtain ⟨_, _, _, vs, h, hr⟩ := r.own n p _ hp ho
              obtain ⟨v, h4, h5⟩ := rep_at hr ea
              exact .inl ⟨_, vs, k, v, rfl, rfl, SqL.of h, h4, q v ρ G H Stp.refl r h5⟩
          | dct _ _ => simp only [ho] at e; cases e
          | ins _ _ _ => simp only [ho] at e; cases e
          | tup ws =>
            simp only [ho] at e
            cases ea : atI ws k with
            | none => simp only [ea] at e; cases e
            | some w' =>
              simp only [ea] at e
              cases e
              obtain ⟨p, hp, rfl⟩ := rx
              obtain ⟨_, _, _, vs, h, hr⟩ := r.own n p _ hp ho
              obtain ⟨v, h4, h5⟩ := rep_at hr ea
              exact .inr (.inl ⟨_, vs, k, v, rfl, rfl, SqT.of h, h4, q v ρ G H Stp.refl r h5⟩)
  | _ => cases e
theorem ee_ix (ha : EE c X U a ma) (hb : EE c X U b mb) (hs : PlainIx b) : EE c X U (.Subscript a b pos) (op2 ixA ma mb) :=
  EE.mk1 ha.K (pe_ix ix_seq ha.pe hb.pe hs) fun ρ G s σ H Q hR w => by
    have := wp_op2 (c := c) (r := rIx c.K) s2_ixA hR w
    rw [ha.K]
    exact this
/-! ### slices -/
def partE (o : Option (EM W)) : EM (Option Int) := match o with
  | none => pur none
  | some m => bnd m fun w => match w with
    | .d (.int i) => pur (some i)
    | _ => non
def tO (c : Kx) (U : WX) (m : EM (Option Int)) : TO := fun σ H Q => ∃ ρ G s, R c ρ G σ H s ∧ Wp c U m ρ G σ H s (fun z _ _ H' _ => Q z H')
structure EO (c : Kx) (X : Cx) (U : WX) (e : Option Expr) (m : EM (Option Int)) : Prop where
  po : PO X e (tO c U m)
theorem PO.imp {X : Cx} {e : Option Expr} {t t' : TO} (h : PO X e t) (q : ∀ σ H Q, t' σ H Q → t σ H Q) : PO X e t' := ⟨fun pins s σ H Q I x => h.run pins s σ H Q I (q σ H Q x)⟩
theorem eo_none : EO c X U none (partE none) := ⟨PO.imp po_none fun σ H Q ⟨ρ, G, s, hR, w⟩ => Wp.pur hR w⟩
theorem eo_some (h : EE c X U e me) : EO c X U (some e) (partE (some me)) := ⟨PO.imp (po_some h.pe) fun σ H Q ⟨ρ, G, s, hR, w⟩ => ⟨ρ, G, s, hR, (Wp.bnd hR w).imp fun z ρ1 G1 H1 s1 ⟨S1, R1, w1⟩ v rv => by
    cases z with
    | loc n => exact w1.none rfl
    | d z =>
      cases z with
      | int i => cases rv; exact ⟨i, rfl, Wp.pur R1 w1⟩
      | _ => exact w1.none rfl⟩⟩
def cutW {α : Type} (xs : List α) (lo hi : Option Int) : List α := List.take (HT.sIx xs.length xs.length hi - HT.sIx xs.length 0 lo) (List.drop (HT.sIx xs.length 0 lo) xs)
theorem rep_cut {ρ : Rho} {G : Hp} {ws : List W} {vs : List V} {lo hi : Option Int} (h : RepWs c ρ G ws vs) : RepWs c ρ G (cutW ws lo hi) (cutV vs lo hi) := by
  unfold cutW cutV
  rw [h.len]
  exact (h.drop _).take _
def sliceA (own : Bool) (st : Store) (x : W) (lo hi : Option Int) : Option (W × Store) := match x with
  | .d (.str z) => if z.length ≤ 16777216 then some (.d (.str (cutS z lo hi)), st) else none
  | .d (.tup ds) => if HT.sIx ds.length 0 lo = 0 ∧ HT.sIx ds.length ds.length hi = ds.length then none else some (.d (.tup (cutW ds lo hi)), st)
  | x => match listW st x with
    | some ws => newL own (cutW ws lo hi) st
    | none => none
def slE (own : Bool) (m : EM W) (ml mh : EM (Option Int)) : EM W := bnd m fun x => bnd ml fun lo => bnd mh fun hi => lft fun st => sliceA own st x lo hi
theorem sl_any : SlR X (fun x lo hi H Q => rSlL X.K x lo hi H Q ∨ rSlT X.K x lo hi H Q ∨ rSlS x lo hi H Q) := sl_list.or (sl_tup.or sl_str)
theorem cutW_D (ds : List D) (lo hi : Option Int) : cutW (ds.map W.d) lo hi = (cutW ds lo hi).map W.d := by
  unfold cutW
  rw [List.length_map, List.map_take, List.map_drop]
theorem ee_slice {own : Bool} {lo hi : Option Expr} {nl nh : EM (Option Int)} (h : EE c X U e me) (hl : EO c X U lo nl) (hh : EO c X U hi nh) : EE c X U (.Subscript e (.Slice lo hi none p2) pos) (slE own me nl nh) :=
  EE.mk1 h.K (pe_slice sl_any h.pe hl.po hh.po) fun ρ G s σ H Q hR w => ⟨ρ, G, s, hR, (Wp.bnd hR w).imp fun z ρ1 G1 H1 s1 ⟨S1, R1, w1⟩ v rv =>
    ⟨ρ1, G1, s1, R1, (Wp.bnd R1 w1).imp fun l ρ2 G2 H2 s2 ⟨S2, R2, w2⟩ => ⟨ρ2, G2, s2, R2, (Wp.bnd R2 w2).imp fun u ρ3 G3 H3 s3 ⟨S3, R3, w3⟩ => by
      obtain ⟨w, st', e, q⟩ := Wp.lft w3
      have rv3 : RepW c ρ3 G3 z v := (rv.mono S2.rho S2.same).mono S3.rho S3.same
      have r := R3.rs
      rw [h.K]
      unfold sliceA at e
      split at e
      · split at e
        · rename_i y _ hl
          cases e
          cases rv3
          exact .inr (.inr ⟨_, rfl, by rw [sizeLine_eq]; assumption, q ρ3 G3 H3 Stp.refl R3 _ (.str _)⟩)
        · cases e
      · split at e
        · cases e
        · rename_i hn
          cases e
          cases rv3 with
          | tup ht hr =>
            rename_i a us
            refine .inr (.inl ⟨a, us, rfl, SqT.same r.sub ht, by rw [hr.len]; exact hn, fun p hp => ?_⟩)
            obtain ⟨S4, r4⟩ := new_frozen (o := .tup (cutV us l u)) r hp
            refine q ρ3 _ _ S4 ⟨r4, R3.env.mono S4.rho S4.same, R3.len⟩ _ (.tup (SqT.of upd_same) (RepDs.mono S4.same ?_))
            have := rep_cut (lo := l) (hi := u) (RepWs.ofD (ρ := ρ3) hr)
            rw [cutW_D] at this
            exact RepWs.toD this
      · cases el : listW s3.st z with
        | none => simp only [el] at e; cases e
        | some ws =>
          simp only [el] at e
          obtain ⟨a, us, rfl, h1, h3⟩ := listW_ok r rv3 el
          refine .inl ⟨a, us, rfl, h1, fun p hp => ?_⟩
          obtain ⟨ρ', G', S4, r4, rw4⟩ := newL_ok r (rep_cut (lo := l) (hi := u) h3) e hp
          exact q ρ' G' _ S4 ⟨r4, R3.env.mono S4.rho S4.same, R3.len⟩ _ rw4⟩⟩⟩
/-! ### displays -/
def tupE (m : EM (List W)) : EM W := bnd (treesE m) fun ds => if ds.length ≤ 16777216 then pur' ds else non
where pur' (ds : List D) : EM W := pur (.d (.tup ds))
def lstE (own : Bool) (m : EM (List W)) : EM W := bnd m fun ws => if ws.length ≤ 16777216 then lft (newL own ws) else non
theorem ee_tup {k} (h : EA c X U es m) : EE c X U (.Tuple es k pos) (tupE m) :=
  EE.mk1 h.K (pe_tup h.pa) fun ρ G s σ H Q hR w => ⟨ρ, G, s, hR, (wp_trees hR w).imp fun ws ρ1 G1 H1 s1 ⟨ds, ew, S1, R1, w1⟩ vs rvs => by
    subst ew
    by_cases hl : ds.length ≤ 16777216
    · rw [if_pos hl] at w1
      have rd := RepWs.toD rvs
      refine ⟨by rw [rd.len, sizeLine_eq]; exact hl, fun p hp => ?_⟩
      obtain ⟨S2, r2⟩ := new_frozen (o := .tup vs) R1.rs hp
      exact Wp.okE (s' := s1) (a := W.d (.tup ds)) rfl w1 ρ1 _ _ S2 ⟨r2, R1.env.mono S2.rho S2.same, R1.len⟩ _ (.tup (SqT.of upd_same) (rd.mono S2.same))
    · rw [if_neg hl] at w1
      exact w1.none rfl⟩
theorem ee_lst {own : Bool} (h : EA c X U es m) : EE c X U (.List es pos) (lstE own m) :=
  EE.mk1 h.K (pe_lst h.pa) fun ρ G s σ H Q hR w => ⟨ρ, G, s, hR, (Wp.bnd hR w).imp fun ws ρ1 G1 H1 s1 ⟨S1, R1, w1⟩ vs rvs => by
    by_cases hl : ws.length ≤ 16777216
    · rw [if_pos hl] at w1
      refine ⟨by rw [rvs.len, sizeLine_eq]; exact hl, fun p hp => ?_⟩
      obtain ⟨w, st', e, q⟩ := Wp.lft w1
      obtain ⟨ρ', G', S2, r2, rw2⟩ := newL_ok R1.rs rvs e hp
      exact q ρ' G' _ S2 ⟨r2, R1.env.mono S2.rho S2.same, R1.len⟩ _ rw2
    · rw [if_neg hl] at w1
      exact w1.none rfl⟩
/-! ### fields -/
def fget : List Nat → List W → Nat → Option W
  | k :: ks, w :: ws, i => if k = i then some w else fget ks ws i
  | _, _, _ => none
def fput : List Nat → List W → Nat → W → List Nat × List W
  | k :: ks, w :: ws, i, y => if k = i then (k :: ks, y :: ws) else let r := fput ks ws i y; (k :: r.1, w :: r.2)
  | _, _, i, y => ([i], [y])
def insW (st : Store) : W → Option (Nat × List Nat × List W)
  | .d (.ins k ks ds) => some (k, ks, ds.map .d)
  | .d _ => none
  | .loc n => match st[n]? with
    | some (some (.ins k ks ws)) => some (k, ks, ws)
    | _ => none
theorem insW_ok {ρ : Rho} {G H : Hp} {st : Store} {w : W} {v : V} {k : Nat} {ks : List Nat} {ws : List W} (r : RS c ρ G H st) (rv : RepW c ρ G w v) (e : insW st w = some (k, ks, ws)) :
    ∃ (a C dx : Addr) (vs : List V), v = .ref a ∧ c.ct[k]? = some C ∧ FOk c C ks ∧ H a = some (.ins C dx ((ks.map c.nm).zip vs)) ∧ ks.length = ws.length ∧ RepWs c ρ G ws vs := by
  cases w with
  | d x =>
    cases x with
    | ins k' ks' ds =>
      cases e
      cases rv with
      | ins hC hF h h2 hl hr => exact ⟨_, _, _, _, rfl, hC, hF, r.sub _ _ h, by rw [List.length_map]; exact hl, RepWs.ofD hr⟩
    | _ => cases e
  | loc n =>
    obtain ⟨p, hp, rfl⟩ := rv
    unfold insW at e
    cases ho : st[n]? with
    | none => simp only [ho] at e; cases e
    | some o =>
      cases o with
      | none => simp only [ho] at e; cases e
      | some o =>
        cases o with
        | ins k' ks' ws' =>
          simp only [ho] at e
          cases e
          obtain ⟨_, _, hl, C, vs, hC, hF, h, _, hr⟩ := r.own n p _ hp ho
          exact ⟨p.1, C, p.2, vs, rfl, hC, hF, h, hl, hr⟩
        | lst _ => simp only [ho] at e; cases e
        | dct _ _ => simp only [ho] at e; cases e
        | tup _ => simp only [ho] at e; cases e
theorem nm_inj {i j : Nat} (hi : i < c.fn.length) (hj : j < c.fn.length) (e : c.nm i = c.nm j) : i = j := by
  unfold Kx.nm at e
  rw [List.getD_eq_getElem?_getD, List.getD_eq_getElem?_getD, List.getElem?_eq_getElem hi, List.getElem?_eq_getElem hj] at e
  exact (List.getElem_inj c.nd).mp e
theorem fget_ok {ρ : Rho} {G : Hp} {i : Nat} {w : W} (hi : i < c.fn.length) : ∀ {ks : List Nat} {ws : List W} {vs : List V}, (∀ k ∈ ks, k < c.fn.length) → RepWs c ρ G ws vs → fget ks ws i = some w → i ∈ ks ∧ ∃ v, ((ks.map c.nm).zip vs).lookup (c.nm i) = some v ∧ RepW c ρ G w v
  | [], _, _, _, _, e => by unfold fget at e; cases e
  | k :: ks, [], _, _, _, e => by unfold fget at e; cases e
  | k :: ks, w' :: ws, _, hk, ⟨v, vs, q, h, t⟩, e => by
    subst q
    unfold fget at e
    show _ ∧ ∃ v', (match c.nm i == c.nm k with | true => some v | false => ((ks.map c.nm).zip vs).lookup (c.nm i)) = some v' ∧ _
    by_cases z : k = i
    · rw [if_pos z] at e
      cases e
      subst z
      exact ⟨List.mem_cons_self, v, by simp, h⟩
    · rw [if_neg z] at e
      obtain ⟨h1, v', h2, h3⟩ := fget_ok hi (fun k' h' => hk k' (List.mem_cons_of_mem _ h')) t e
      have ne : (c.nm i == c.nm k) = false := beq_eq_false_iff_ne.mpr fun e => z (nm_inj hi (hk k List.mem_cons_self) e).symm
      rw [ne]
      exact ⟨List.mem_cons_of_mem _ h1, v', h2, h3⟩
def fldE (i : Nat) (m : EM W) : EM W := bnd m fun w => fun s => match insW s.st w with
  | some (_, ks, ws) => match fget ks ws i with
    | some y => some (.ok y, s)
    | none => none
  | none => none
theorem ee_fld {i : Nat} (hf : c.fn[i]? = some f) (h : EE c X U e me) (ha : attributeBase e f X.env (eval e X.env) = eval e X.env := by rfl) : EE c X U (.Attribute e f pos) (fldE i me) :=
  EE.mk1 h.K (pe_fld h.pe ha) fun ρ G s σ H Q hR w => ⟨ρ, G, s, hR, (Wp.bnd hR w).imp fun z ρ1 G1 H1 s1 ⟨S1, R1, w1⟩ v rv => by
    cases e1 : insW s1.st z with
    | none => exact w1.none (by simp only [e1])
    | some q =>
      obtain ⟨k, ks, ws⟩ := q
      cases e2 : fget ks ws i with
      | none => exact w1.none (by simp only [e1, e2])
      | some y =>
        obtain ⟨a, C, dx, vs, rfl, hC, hF, hH, hl, hr⟩ := insW_ok R1.rs rv e1
        have hi : i < c.fn.length := (List.getElem?_eq_some_iff.mp hf).1
        obtain ⟨h1, u, h2, h3⟩ := fget_ok hi (fun k hk => (hF.2 k hk).1) hr e2
        have en : c.nm i = f := by
          unfold Kx.nm
          rw [List.getD_eq_getElem?_getD, hf]
          rfl
        rw [en] at h2
        refine ⟨a, C, dx, _, u, rfl, hH, by rw [h.K]; exact hF.1, ?_, h2, w1.same R1 (by simp only [e1, e2]) u h3⟩
        have := (hF.2 i h1).2
        rw [en] at this
        rw [h.K]
        exact this⟩
theorem putF_ok {ρ : Rho} {G : Hp} {i : Nat} {y : W} {u : V} (hi : i < c.fn.length) (hy : RepW c ρ G y u) : ∀ {ks : List Nat} {ws : List W} {vs : List V}, (∀ k ∈ ks, k < c.fn.length) → ks.length = ws.length → RepWs c ρ G ws vs →
    ∃ vs', putF (c.nm i) u ((ks.map c.nm).zip vs) = (((fput ks ws i y).1).map c.nm).zip vs' ∧ RepWs c ρ G (fput ks ws i y).2 vs' ∧ (fput ks ws i y).1.length = (fput ks ws i y).2.length ∧ ∀ k ∈ (fput ks ws i y).1, k ∈ ks ∨ k = i
  | [], [], _, _, _, h => by
    have h : _ = [] := h
    subst h
    exact ⟨[u], rfl, ⟨u, [], rfl, hy, rfl⟩, rfl, fun k hk => .inr (by simpa [fput] using hk)⟩
  | [], _ :: _, _, _, h, _ => by cases h
  | _ :: _, [], _, _, h, _ => by cases h
  | k :: ks, w :: ws, _, hk, hl, ⟨v, vs, q, h, t⟩ => by
    subst q
    unfold fput
    by_cases z : k = i
    · subst z
      rw [if_pos rfl]
      refine ⟨u :: vs, ?_, ⟨u, vs, rfl, hy, t⟩, hl, fun k' hk' => .inl hk'⟩
      show (if c.nm k = c.nm k then (c.nm k, u) :: _ else _) = _
      rw [if_pos rfl]
      rfl
    · rw [if_neg z]
      obtain ⟨vs', h1, h2, h3, h4⟩ := putF_ok hi hy (fun k' h' => hk k' (List.mem_cons_of_mem _ h')) (Nat.succ.inj hl) t
      refine ⟨v :: vs', ?_, ⟨v, vs', rfl, h, h2⟩, congrArg (· + 1) h3, fun k' hk' => ?_⟩
      · have ne : ¬ c.nm k = c.nm i := fun e => z (nm_inj (hk k List.mem_cons_self) hi e)
        show (if c.nm k = c.nm i then _ else (c.nm k, v) :: putF (c.nm i) u ((ks.map c.nm).zip vs)) = _
        rw [if_neg ne, h1]
        rfl
      · rcases List.mem_cons.mp hk' with e | e
        · exact .inl (by rw [e]; exact List.mem_cons_self)
        · rcases h4 k' e with e | e
          · exact .inl (List.mem_cons_of_mem _ e)
          · exact .inr e
/-- o.f = e: o an object of the store; its class may have the field -/
def sfldS (ok : List Nat) (i : Nat) (mo m : EM W) : EM Fl := bnd m fun y => bnd mo fun w => fun s => match w with
  | .loc n => match s.st[n]? with
    | some (some (.ins k ks ws)) => if ok.contains k && decide (ks.length < 900) then some (.ok .nx, ⟨s.env, s.st.set n (some (.ins k (fput ks ws i y).1 (fput ks ws i y).2))⟩) else none
    | _ => none
  | _ => none
theorem zip_len {ks : List Nat} {vs : List V} (h : ks.length ≤ 900) : ((ks.map c.nm).zip vs).length < 1000 := by
  rw [List.length_zip, List.length_map]
  omega
theorem es_sfld {ok : List Nat} {i : Nat} (hf : c.fn[i]? = some f) (hok : ∀ k C, ok.contains k = true → c.ct[k]? = some C → NoAttr c.K C f) (ho : EE c X U o mo) (h : EE c X U value me)
    (hs : swapsWith value (some (.Attribute o f pos')) pos.line X.env = pure false := by rfl) : ES c X U (.Assign [.Attribute o f pos'] value pos) (sfldS ok i mo me) :=
  ⟨h.K, PS.imp (ps_fld ho.pe h.pe hs) fun D σ H ⟨ρ, G, s, hR, w⟩ => ⟨ρ, G, s, hR, (Ws.bndE hR w).imp fun y ρ1 G1 H1 s1 ⟨S1, R1, w1⟩ u ru =>
    ⟨ρ1, G1, s1, R1, (Ws.bndE R1 w1).imp fun z ρ2 G2 H2 s2 ⟨S2, R2, w2⟩ v rv => by
      cases z with
      | d _ => exact w2.none rfl
      | loc n =>
        cases ho2 : s2.st[n]? with
        | none => exact w2.none (by simp only [ho2])
        | some oo =>
          cases oo with
          | none => exact w2.none (by simp only [ho2])
          | some oo =>
            cases oo with
            | lst _ => exact w2.none (by simp only [ho2])
            | dct _ _ => exact w2.none (by simp only [ho2])
            | tup _ => exact w2.none (by simp only [ho2])
            | ins k ks ws =>
              by_cases hk : (ok.contains k && decide (ks.length < 900)) = true
              · obtain ⟨p, hp, rfl⟩ := rv
                have hi : i < c.fn.length := (List.getElem?_eq_some_iff.mp hf).1
                have en : c.nm i = f := by
                  unfold Kx.nm
                  rw [List.getD_eq_getElem?_getD, hf]
                  rfl
                obtain ⟨_, _, hl, C, vs, hC, hF, hH, hO, hr⟩ := R2.rs.own n p _ hp ho2
                have hk2 := Bool.and_eq_true_iff.mp hk
                have na := hok k C hk2.1 hC
                obtain ⟨vs', h1, h2, h3, h4⟩ := putF_ok hi (ru.mono S2.rho S2.same) (fun k hk => (hF.2 k hk).1) hl hr
                refine ⟨p.1, C, p.2, _, rfl, hH, by rw [h.K]; exact hF.1, by rw [h.K]; exact na, zip_len (by have := of_decide_eq_true hk2.2; omega), ?_⟩
                rw [← en, h1]
                have hF' : FOk c C (fput ks ws i y).1 := ⟨hF.1, fun j hj => by
                  rcases h4 j hj with e | e
                  · exact hF.2 j e
                  · rw [e, en]; exact ⟨hi, na⟩⟩
                obtain ⟨S3, r3⟩ := written (u := .ins C p.2 ((((fput ks ws i y).1).map c.nm).zip vs')) R2.rs hp ho2 (o' := .ins k (fput ks ws i y).1 (fput ks ws i y).2) ⟨h3, C, vs', hC, hF', upd_same, by
                  have ne : p.2 ≠ p.1 := fun e => by rw [e, hH] at hO; cases hO
                  rw [upd_ne ne]; exact hO, h2⟩
                unfold Ws at w2
                simp only [ho2, hk, if_true] at w2
                exact w2 ρ2 G2 σ _ S3 ⟨r3, R2.env, R2.len⟩
              · exact w2.none (by simp only [ho2, if_neg hk])⟩⟩⟩
end
end EV
/-! EV11: what a loop walks; comprehensions. -/
namespace EV
open PySem PySem.Spec PyProof.Rows L2
section
variable {c : Kx} {X : Cx} {U : WX} {e o a b tg iter : Expr} {es : List Expr} {x f : Str} {p p2 pos pos' tpos : Pos} {m : EM (List W)} {ma mb mi mo me : EM W}
theorem Wp.exE {α : Type} {mm : EM α} {ρ : Rho} {G H : Hp} {σ : L2.St} {s s' : SS} {k k' : α → Rho → Hp → Hp → SS → Prop} {C : Nat} {ks : List Nat} {ds : List D} (e : mm s = some (.ex C ks ds, s')) (h : Wp c U mm ρ G σ H s k) : Wp c U mm ρ G σ H s k' := by
  unfold Wp at h ⊢
  rw [e] at h ⊢
  exact h
theorem PI.imp {w1 w2 : TI} (h : PI X tg iter w1) (q : ∀ σ H Rk, w2 σ H Rk → w1 σ H Rk) : PI X tg iter w2 := ⟨fun pins s σ H Rk I x => h.run pins s σ H Rk I (q σ H Rk x)⟩
theorem PI.or {w1 w2 : TI} (h1 : PI X tg iter w1) (h2 : PI X tg iter w2) : PI X tg iter (fun σ H Rk => w1 σ H Rk ∨ w2 σ H Rk) := ⟨fun pins s σ H Rk I x => x.elim (h1.run pins s σ H Rk I) (h2.run pins s σ H Rk I)⟩
/-- the items of a tree -/
def itemsD : D → Option (List D)
  | .lst ds => some ds
  | .fls ds => some ds
  | .tup ds => some ds
  | .str z => some (z.cps.toList.map fun k => .str ⟨#[k]⟩)
  | _ => none
def itemsE (m : EM W) : EM (List D) := bnd m fun w => match w with
  | .d x => match itemsD x with
    | some ds => pur ds
    | none => non
  | .loc _ => non
theorem iter_list {G : Hp} {a : Addr} {ds : List D} {vs : List V} (h : SqL c.K G a vs) (r : RepDs c G ds vs) : Iter c G (Itl c.K a) ds where
  go := fun i H s hi => by
    obtain ⟨v, h1, _⟩ := r.get (List.getElem?_eq_getElem hi)
    exact ⟨vs, v, s.seq h, h1⟩
  stop := fun H s => ⟨vs, s.seq h, by rw [r.len]; exact Nat.le_refl _⟩
  yld := fun i H x H' d s hd hy ρ G1 st sG rs => by
    obtain ⟨e, hy⟩ := hy
    subst e
    obtain ⟨v, h1, h2⟩ := r.get hd
    have := hy vs (s.seq h)
    rw [h1] at this
    cases this
    exact ⟨G1, Stp.refl, rs, h2.mono sG⟩
theorem iter_tup {G : Hp} {a : Addr} {ds : List D} {vs : List V} (h : SqT c.K G a vs) (r : RepDs c G ds vs) : Iter c G (Itt c.K a) ds where
  go := fun i H s hi => by
    obtain ⟨v, h1, _⟩ := r.get (List.getElem?_eq_getElem hi)
    exact ⟨vs, v, SqT.same s h, h1⟩
  stop := fun H s => ⟨vs, SqT.same s h, by rw [r.len]; exact Nat.le_refl _⟩
  yld := fun i H x H' d s hd hy ρ G1 st sG rs => by
    obtain ⟨e, hy⟩ := hy
    subst e
    obtain ⟨v, h1, h2⟩ := r.get hd
    have := hy vs (SqT.same s h)
    rw [h1] at this
    cases this
    exact ⟨G1, Stp.refl, rs, h2.mono sG⟩
theorem iter_str {G : Hp} {z : Str} : Iter c G (Its z) (z.cps.toList.map fun k => .str ⟨#[k]⟩) where
  go := fun i H s hi => by
    rw [List.length_map] at hi
    show i < z.cps.size
    simpa using hi
  stop := fun H s => by
    show z.cps.size ≤ _
    simp
  yld := fun i H x H' d s hd hy ρ G1 st sG rs => by
    obtain ⟨e, k, hk, hx⟩ := hy
    subst e
    rw [List.getElem?_map] at hd
    have e2 : z.cps.toList[i]? = some k := by simpa using hk
    rw [e2] at hd
    cases hd
    subst hx
    exact ⟨G1, Stp.refl, rs, .str _⟩
theorem iter_range {G : Hp} {lo : Int} {n : Nat} : Iter c G (Itr lo n) ((List.range n).map fun (i : Nat) => D.int (lo + (i : Int))) where
  go := fun i H s hi => by
    rw [List.length_map, List.length_range] at hi
    exact hi
  stop := fun H s => by
    show n ≤ _
    simp
  yld := fun i H x H' d s hd hy ρ G1 st sG rs => by
    obtain ⟨e, hx⟩ := hy
    subst e
    rw [List.getElem?_map] at hd
    cases q : (List.range n)[i]? with
    | none => rw [q] at hd; cases hd
    | some j =>
      rw [q] at hd
      cases hd
      have : j = i := by
        have := List.getElem?_eq_some_iff.mp q
        obtain ⟨_, e⟩ := this
        simp at e
        exact e.symm
      subst this
      subst hx
      exact ⟨G1, Stp.refl, rs, .int _⟩
theorem ei_seq (h : EE c X U e me) : EI c X U tg e (itemsE me) :=
  ⟨h.K, PI.imp (PI.or (pi_list h.pe) (PI.or (pi_tup h.pe) (pi_str h.pe))) fun σ H Rk ⟨ρ, G, s, hR, w⟩ => by
    have w1 := Wp.bnd hR w
    cases q : me s with
    | none => exact w1.none q
    | some z =>
      obtain ⟨o, s1⟩ := z
      cases o with
      | ex C ks es => exact .inl ⟨ρ, G, s, hR, Wp.exE q w1⟩
      | ok y =>
        have w2 := Wp.okE q w1
        cases y with
        | loc n => exact .inl ⟨ρ, G, s, hR, Wp.ok q fun ρ' G' H' S R' => (w2 ρ' G' H' S R').2.2.none rfl⟩
        | d y =>
          cases hy : itemsD y with
          | none => exact .inl ⟨ρ, G, s, hR, Wp.ok q fun ρ' G' H' S R' => (w2 ρ' G' H' S R').2.2.none (by simp only [hy]; rfl)⟩
          | some ds =>
            simp only [hy] at w2
            rw [h.K]
            cases y with
            | lst xs =>
              cases hy
              refine .inl ⟨ρ, G, s, hR, Wp.ok q fun ρ' G' H' S R' v rv => ?_⟩
              cases rv with
              | lst hg hr => exact ⟨_, rfl, ⟨_, SqL.of (R'.rs.sub _ _ hg)⟩, Wp.pur R' (w2 ρ' G' H' S R').2.2 _ (iter_list (SqL.of hg) hr)⟩
            | fls xs =>
              cases hy
              refine .inl ⟨ρ, G, s, hR, Wp.ok q fun ρ' G' H' S R' v rv => ?_⟩
              cases rv with
              | fls hg hr => exact ⟨_, rfl, ⟨_, R'.rs.sub.seq hg⟩, Wp.pur R' (w2 ρ' G' H' S R').2.2 _ (iter_list hg hr)⟩
            | tup xs =>
              cases hy
              refine .inr (.inl ⟨ρ, G, s, hR, Wp.ok q fun ρ' G' H' S R' v rv => ?_⟩)
              cases rv with
              | tup hg hr => exact ⟨_, rfl, ⟨_, SqT.same R'.rs.sub hg⟩, Wp.pur R' (w2 ρ' G' H' S R').2.2 _ (iter_tup hg hr)⟩
            | str z =>
              cases hy
              refine .inr (.inr ⟨ρ, G, s, hR, Wp.ok q fun ρ' G' H' S R' v rv => ?_⟩)
              cases rv
              exact ⟨z, rfl, Wp.pur R' (w2 ρ' G' H' S R').2.2 _ iter_str⟩
            | _ => cases hy⟩
def rngL (lo : Int) (n : Nat) : List D := (List.range n).map fun (i : Nat) => D.int (lo + (i : Int))
def range1E (m : EM (List W)) : EM (List D) := bnd m fun ws => match ws with
  | [.d (.int j)] => if j < 1000000000 ∧ -1000000000 < j then pur (rngL 0 j.toNat) else non
  | _ => non
def range2E (m : EM (List W)) : EM (List D) := bnd m fun ws => match ws with
  | [.d (.int i), .d (.int j)] => if (j < 1000000000 ∧ -1000000000 < j) ∧ i < 1000000000 ∧ -1000000000 < i then pur (rngL i (j - i).toNat) else non
  | _ => non
theorem ei_range1 (hg : Gl X "range") (hm : X.mg "range" = none) (ha : EA c X U [a] m) (hs : starEach [a] X.env = [(false, eval a X.env)] := by rfl) : EI c X U tg (.Call (.Name "range" p) [a] [] pos) (range1E m) :=
  ⟨ha.K, PI.imp (pi_range1 hg hm ha.pa hs) fun σ H Rk ⟨ρ, G, s, hR, w⟩ => ⟨ρ, G, s, hR, (Wp.bnd hR w).imp fun ws ρ1 G1 H1 s1 ⟨S1, R1, w1⟩ vs rvs => by
    split at w1
    · rename_i j _
      split at w1
      · rename_i hj
        obtain ⟨v, rfl, rv⟩ := one_rep rvs
        cases rv
        exact ⟨j, rfl, by omega, by omega, Wp.pur R1 w1 _ iter_range⟩
      · exact w1.none rfl
    · exact w1.none rfl⟩⟩
theorem ei_range2 (hg : Gl X "range") (hm : X.mg "range" = none) (ha : EA c X U [a, b] m) (hs : starEach [a, b] X.env = [(false, eval a X.env), (false, eval b X.env)] := by rfl) (hs2 : starEach [b] X.env = [(false, eval b X.env)] := by rfl) : EI c X U tg (.Call (.Name "range" p) [a, b] [] pos) (range2E m) :=
  ⟨ha.K, PI.imp (pi_range2 hg hm ha.pa hs hs2) fun σ H Rk ⟨ρ, G, s, hR, w⟩ => ⟨ρ, G, s, hR, (Wp.bnd hR w).imp fun ws ρ1 G1 H1 s1 ⟨S1, R1, w1⟩ vs rvs => by
    split at w1
    · rename_i i j _
      split at w1
      · rename_i hj
        obtain ⟨v, v', rfl, rv, rv'⟩ := two_rep rvs
        cases rv
        cases rv'
        exact ⟨i, j, rfl, by omega, Wp.pur R1 w1 _ iter_range⟩
      · exact w1.none rfl
    · exact w1.none rfl⟩⟩
/-! zip, enumerate, reversed: of lists -/
def listD : D → Option (List D)
  | .lst ds => some ds
  | .fls ds => some ds
  | _ => none
theorem listD_ok {G : Hp} {d : D} {ds : List D} {v : V} (e : listD d = some ds) (r : RepD c G d v) : ∃ a vs, v = .ref a ∧ SqL c.K G a vs ∧ RepDs c G ds vs := by
  cases r <;> cases e
  · rename_i h r; exact ⟨_, _, rfl, SqL.of h, r⟩
  · rename_i h r; exact ⟨_, _, rfl, h, r⟩
def zipD : List D → List D → List D
  | x :: xs, y :: ys => .tup [x, y] :: zipD xs ys
  | _, _ => []
theorem zipD_len : ∀ (xs ys : List D), (zipD xs ys).length = min xs.length ys.length
  | [], _ => by simp [zipD]
  | _ :: _, [] => by simp [zipD]
  | x :: xs, y :: ys => by simp [zipD, zipD_len xs ys]
theorem zipD_get : ∀ {xs ys : List D} {i : Nat} {d : D}, (zipD xs ys)[i]? = some d → ∃ x y, xs[i]? = some x ∧ ys[i]? = some y ∧ d = .tup [x, y]
  | [], _, _, _, h => by simp [zipD] at h
  | _ :: _, [], _, _, h => by simp [zipD] at h
  | x :: xs, y :: ys, 0, d, h => ⟨x, y, rfl, rfl, by simpa [zipD] using h.symm⟩
  | x :: xs, y :: ys, i + 1, d, h => by
    obtain ⟨x', y', h1, h2, h3⟩ := zipD_get (xs := xs) (ys := ys) (i := i) (d := d) (by simpa [zipD] using h)
    exact ⟨x', y', by simpa using h1, by simpa using h2, h3⟩
theorem iter_zip {G : Hp} {a b : Addr} {xs ys : List D} {vs us : List V} (h : SqL c.K G a vs) (r : RepDs c G xs vs) (h' : SqL c.K G b us) (r' : RepDs c G ys us) : Iter c G (Itz c.K a b) (zipD xs ys) where
  go := fun i H s hi => by
    rw [zipD_len] at hi
    obtain ⟨v, h1, _⟩ := r.get (List.getElem?_eq_getElem (show i < xs.length by omega))
    obtain ⟨u, h2, _⟩ := r'.get (List.getElem?_eq_getElem (show i < ys.length by omega))
    exact ⟨vs, us, v, u, s.seq h, s.seq h', h1, h2⟩
  stop := fun H s => ⟨vs, us, s.seq h, s.seq h', by rw [zipD_len, r.len, r'.len]; omega⟩
  yld := fun i H x H' d s hd hy ρ G1 st sG rs => by
    obtain ⟨T, x', y', rfl, hT, rfl, e1, e2⟩ := hy
    obtain ⟨dx, dy, g1, g2, rfl⟩ := zipD_get hd
    obtain ⟨v, h1, k1⟩ := r.get g1
    obtain ⟨u, h2, k2⟩ := r'.get g2
    have z1 := e1 vs (s.seq h)
    have z2 := e2 us (s.seq h')
    rw [h1] at z1
    rw [h2] at z2
    have z1 := Option.some.inj z1
    have z2 := Option.some.inj z2
    rw [z1] at k1
    rw [z2] at k2
    obtain ⟨S, r2⟩ := new_frozen (o := .tup [x', y']) rs hT
    exact ⟨_, S, r2, .tup (SqT.of upd_same) (.cons ((k1.mono sG).mono S.same) (.cons ((k2.mono sG).mono S.same) .nil))⟩
def enumD (n : Nat) : List D → List D
  | [] => []
  | x :: xs => .tup [.int n, x] :: enumD (n + 1) xs
theorem enumD_len : ∀ (n : Nat) (xs : List D), (enumD n xs).length = xs.length
  | _, [] => rfl
  | n, x :: xs => by simp [enumD, enumD_len (n + 1) xs]
theorem enumD_get : ∀ {n : Nat} {xs : List D} {i : Nat} {d : D}, (enumD n xs)[i]? = some d → ∃ x, xs[i]? = some x ∧ d = .tup [.int (n + i : Nat), x]
  | _, [], _, _, h => by simp [enumD] at h
  | n, x :: xs, 0, d, h => ⟨x, rfl, by simpa [enumD] using h.symm⟩
  | n, x :: xs, i + 1, d, h => by
    obtain ⟨x', h1, h2⟩ := enumD_get (n := n + 1) (xs := xs) (i := i) (d := d) (by simpa [enumD] using h)
    refine ⟨x', by simpa using h1, ?_⟩
    rw [h2]
    have : n + 1 + i = n + (i + 1) := by omega
    rw [this]
theorem iter_enum {G : Hp} {a : Addr} {xs : List D} {vs : List V} (h : SqL c.K G a vs) (r : RepDs c G xs vs) : Iter c G (Ite c.K a) (enumD 0 xs) where
  go := fun i H s hi => by
    rw [enumD_len] at hi
    obtain ⟨v, h1, _⟩ := r.get (List.getElem?_eq_getElem hi)
    exact ⟨vs, v, s.seq h, h1⟩
  stop := fun H s => ⟨vs, s.seq h, by rw [enumD_len, r.len]; exact Nat.le_refl _⟩
  yld := fun i H x H' d s hd hy ρ G1 st sG rs => by
    obtain ⟨T, x', rfl, hT, rfl, e1⟩ := hy
    obtain ⟨dx, g1, rfl⟩ := enumD_get hd
    obtain ⟨v, h1, k1⟩ := r.get g1
    have z1 := e1 vs (s.seq h)
    rw [h1] at z1
    have z1 := Option.some.inj z1
    rw [z1] at k1
    obtain ⟨S, r2⟩ := new_frozen (o := .tup [V.int i, x']) rs hT
    refine ⟨_, S, r2, .tup (SqT.of upd_same) (.cons ?_ (.cons ((k1.mono sG).mono S.same) .nil))⟩
    rw [Nat.zero_add]
    exact .int _
theorem iter_rev {G : Hp} {a : Addr} {xs : List D} {vs : List V} (h : SqL c.K G a vs) (r : RepDs c G xs vs) : Iter c G (Itv c.K a vs.length) xs.reverse where
  go := fun i H s hi => by
    rw [List.length_reverse] at hi
    obtain ⟨v, h1, _⟩ := r.get (List.getElem?_eq_getElem (show xs.length - 1 - i < xs.length by omega))
    exact ⟨by rw [r.len]; exact hi, vs, v, s.seq h, by rw [r.len]; exact h1⟩
  stop := fun H s => by
    show vs.length ≤ _
    rw [List.length_reverse, r.len]
    exact Nat.le_refl _
  yld := fun i H x H' d s hd hy ρ G1 st sG rs => by
    obtain ⟨e, hy⟩ := hy
    subst e
    have hi : i < xs.length := by
      have := (List.getElem?_eq_some_iff.mp hd).1
      simpa using this
    rw [List.getElem?_reverse hi] at hd
    obtain ⟨v, h1, h2⟩ := r.get hd
    have := hy vs (s.seq h)
    rw [r.len, h1] at this
    cases this
    exact ⟨G1, Stp.refl, rs, h2.mono sG⟩
def zipE (m : EM (List W)) : EM (List D) := bnd (treesE m) fun ds => match ds with
  | [x, y] => match listD x, listD y with
    | some xs, some ys => pur (zipD xs ys)
    | _, _ => non
  | _ => non
def enumE (m : EM (List W)) : EM (List D) := bnd (treesE m) fun ds => match ds with
  | [x] => match listD x with
    | some xs => pur (enumD 0 xs)
    | none => non
  | _ => non
def revE (m : EM (List W)) : EM (List D) := bnd (treesE m) fun ds => match ds with
  | [x] => match listD x with
    | some xs => pur xs.reverse
    | none => non
  | _ => non
theorem ei_zip {elts : List Expr} {kk : Nat} (hg : Gl X "zip") (hm : X.mg "zip" = none) (ha : EA c X U [a, b] m) (hs : starEach [a, b] X.env = (false, eval a X.env) :: starEach [b] X.env := by rfl) (hpl : (backTo pos (starEach [b] X.env)).any (fun x => x.1) = false := by rfl) :
    EI c X U (.Tuple elts kk tpos) (.Call (.Name "zip" p) [a, b] [] pos) (zipE m) :=
  ⟨ha.K, PI.imp (pi_zip hg hm ha.pa hs hpl) fun σ H Rk ⟨ρ, G, s, hR, w⟩ => ⟨ρ, G, s, hR, (wp_trees hR w).imp fun ws ρ1 G1 H1 s1 ⟨ds, ew, S1, R1, w1⟩ vs rvs => by
    subst ew
    split at w1
    · rename_i x y
      split at w1
      · rename_i xs ys hx hy
        obtain ⟨v, v', rfl, rv, rv'⟩ := two_rep rvs
        obtain ⟨a1, u1, rfl, g1, r1⟩ := listD_ok hx rv
        obtain ⟨a2, u2, rfl, g2, r2⟩ := listD_ok hy rv'
        rw [ha.K]
        exact ⟨a1, a2, u1, u2, rfl, R1.rs.sub.seq g1, R1.rs.sub.seq g2, Wp.pur R1 w1 _ (iter_zip g1 r1 g2 r2)⟩
      · exact w1.none rfl
    · exact w1.none rfl⟩⟩
theorem ei_enum {elts : List Expr} {kk : Nat} (hg : Gl X "enumerate") (hm : X.mg "enumerate" = none) (ha : EA c X U [a] m) (hs : starEach [a] X.env = [(false, eval a X.env)] := by rfl) :
    EI c X U (.Tuple elts kk tpos) (.Call (.Name "enumerate" p) [a] [] pos) (enumE m) :=
  ⟨ha.K, PI.imp (pi_enum hg hm ha.pa hs) fun σ H Rk ⟨ρ, G, s, hR, w⟩ => ⟨ρ, G, s, hR, (wp_trees hR w).imp fun ws ρ1 G1 H1 s1 ⟨ds, ew, S1, R1, w1⟩ vs rvs => by
    subst ew
    split at w1
    · rename_i x
      split at w1
      · rename_i xs hx
        obtain ⟨v, rfl, rv⟩ := one_rep rvs
        obtain ⟨a1, u1, rfl, g1, r1⟩ := listD_ok hx rv
        rw [ha.K]
        exact ⟨a1, u1, rfl, R1.rs.sub.seq g1, Wp.pur R1 w1 _ (iter_enum g1 r1)⟩
      · exact w1.none rfl
    · exact w1.none rfl⟩⟩
theorem ei_rev (hg : Gl X "reversed") (hm : X.mg "reversed" = none) (ha : EA c X U [a] m) (hs : starEach [a] X.env = [(false, eval a X.env)] := by rfl) : EI c X U tg (.Call (.Name "reversed" p) [a] [] pos) (revE m) :=
  ⟨ha.K, PI.imp (pi_reversed hg hm ha.pa hs) fun σ H Rk ⟨ρ, G, s, hR, w⟩ => ⟨ρ, G, s, hR, (wp_trees hR w).imp fun ws ρ1 G1 H1 s1 ⟨ds, ew, S1, R1, w1⟩ vs rvs => by
    subst ew
    split at w1
    · rename_i x
      split at w1
      · rename_i xs hx
        obtain ⟨v, rfl, rv⟩ := one_rep rvs
        obtain ⟨a1, u1, rfl, g1, r1⟩ := listD_ok hx rv
        rw [ha.K]
        exact ⟨a1, u1, rfl, R1.rs.sub.seq g1, Wp.pur R1 w1 _ (iter_rev g1 r1)⟩
      · exact w1.none rfl
    · exact w1.none rfl⟩⟩
end
end EV
/-! EV12: list comprehensions. -/
namespace EV
open PySem PySem.Spec PyProof.Rows L2
def wipeO (env : List (Option W)) : List Nat → List (Option W)
  | [] => env
  | v :: vs => (wipeO env vs).set v none
theorem wipeO_len (env : List (Option W)) : ∀ vs : List Nat, (wipeO env vs).length = env.length
  | [] => rfl
  | v :: vs => by
    unfold wipeO
    rw [List.length_set]
    exact wipeO_len env vs
def wipS (own : List Nat) : EM Unit := fun s => some (.ok (), ⟨wipeO s.env own, s.st⟩)
def compL (own : List Nat) (t : Tg) (tt : EM Bool) (el : EM W) : List D → List W → EM (List W)
  | [], acc => pur acc
  | d :: ds, acc => bnd (bnd (wipS own) fun _ => asg t (.d d)) fun _ => bnd tt fun b => if b then bnd el fun w => (if acc.length < 16777216 then compL own t tt el ds (acc ++ [w]) else non) else compL own t tt el ds acc
/-- [elt for t in .. if tt] -/
def compE (own : List Nat) (mi : EM (List D)) (t : Tg) (tt : EM Bool) (el : EM W) (ownr : Bool) : EM W := bnd mi fun ds => fun s => match compL own t tt el ds [] s with
  | some (.ok ws, s3) => match newL ownr ws s3.st with
    | some (w, st) => some (.ok w, ⟨wipeO s3.env own, st⟩)
    | none => none
  | _ => none
def hid (D : Addr) (H : Hp) : Hp := fun a => if a = D then none else H a
theorem hid_ne {D a : Addr} {H : Hp} (h : a ≠ D) : hid D H a = H a := if_neg h
theorem hid_same {D : Addr} {H : Hp} : hid D H D = none := if_pos rfl
theorem hid_some {D a : Addr} {H : Hp} {u : HO} (h : hid D H a = some u) : a ≠ D ∧ H a = some u := by
  by_cases e : a = D
  · subst e; rw [hid_same] at h; cases h
  · rw [hid_ne e] at h; exact ⟨e, h⟩
theorem hid_none {D a : Addr} {H : Hp} (h : H a = none) : hid D H a = none := by
  by_cases e : a = D
  · subst e; exact hid_same
  · rw [hid_ne e]; exact h
theorem hid_upd {D : Addr} {H : Hp} {u : HO} : hid D (upd H D u) = hid D H := by
  funext a
  by_cases e : a = D
  · subst e; rw [hid_same, hid_same]
  · rw [hid_ne e, hid_ne e, upd_ne e]
theorem upd_hid {D : Addr} {H : Hp} {u : HO} (h : H D = some u) : upd (hid D H) D u = H := by
  funext a
  by_cases e : a = D
  · subst e; rw [upd_same, h]
  · rw [upd_ne e, hid_ne e]
def NotOwn (D : Addr) (ρ : Rho) (st : Store) : Prop := ∀ (n : Nat) (p : Addr × Addr) (o : OO), ρ[n]? = some p → st[n]? = some (some o) → p.1 ≠ D ∧ p.2 ≠ D
section
variable {c : Kx} {ρ ρ' : Rho} {G H G' H' : Hp} {st st' : Store} {D : Addr} {u : HO}
theorem Stp.hid (S : Stp ρ G H st ρ' G' H' st') : Stp ρ G (hid D H) st ρ' G' (EV.hid D H') st' where
  same := S.same
  rho := S.rho
  live := S.live
  keep := fun a u h hn => by
    obtain ⟨e, h⟩ := hid_some h
    rw [hid_ne e]
    exact S.keep a u h hn
  there := fun a u h => by
    obtain ⟨e, h⟩ := hid_some h
    rw [hid_ne e]
    exact S.there a u h
  fresh := fun a u h h' => (S.fresh a u h h').imp (fun z => hid_none z) (fun z => z)
  new := fun n p hn hp => ⟨hid_none (S.new n p hn hp).1, hid_none (S.new n p hn hp).2⟩
theorem NotOwn.step (S : Stp ρ G H st ρ' G' H' st') (hD : H D = some u) (nD : NotOwn D ρ st) : NotOwn D ρ' st' := fun n p o hp ho => by
  by_cases hn : n < ρ.length
  · obtain ⟨o', e⟩ := S.live n o hn ho
    have e2 := S.rho n _ (List.getElem?_eq_getElem hn)
    rw [hp] at e2
    exact nD n p o' (by rw [List.getElem?_eq_getElem hn]; exact e2.symm) e
  · obtain ⟨e1, e2⟩ := S.new n p (by omega) hp
    exact ⟨fun e => (by rw [e, hD] at e1; cases e1), fun e => (by rw [e, hD] at e2; cases e2)⟩
theorem NotOwn.gn (S : Stp ρ G H st ρ' G' H' st') (hD : H D = some u) (nD : NotOwn D ρ st) (g : G D = none) : G' D = none := by
  cases q : G' D with
  | none => rfl
  | some w =>
    rcases S.fresh D w g q with z | ⟨n, p, o, h1, h2, h3⟩
    · rw [hD] at z; cases z
    · obtain ⟨a1, a2⟩ := nD n p o h1 h2
      rcases h3 with h3 | h3
      · exact absurd h3.symm a1
      · exact absurd h3.symm a2
theorem NotOwn.keep (S : Stp ρ G H st ρ' G' H' st') (hD : H D = some u) (nD : NotOwn D ρ st) : H' D = some u := S.keep D u hD fun n p o h1 h2 => nD n p o h1 h2
theorem RS.hid (r : RS c ρ G H st) (g : G D = none) (nD : NotOwn D ρ st) : RS c ρ G (EV.hid D H) st where
  sub := fun a u h => by
    have e : a ≠ D := fun e => by rw [e, g] at h; cases h
    rw [hid_ne e]
    exact r.sub a u h
  len := r.len
  own := fun n p o hp ho => by
    obtain ⟨b1, b2, b3⟩ := r.own n p o hp ho
    obtain ⟨a1, a2⟩ := nD n p o hp ho
    exact ⟨b1, b2, b3.mono (Rle.refl _) (Same.refl _) (fun o e => by rw [hid_ne a1]; exact e) (fun o e => by rw [hid_ne a2]; exact e)⟩
  inj := r.inj
theorem RS.upd (r : RS c ρ G H st) (g : G D = none) (nD : NotOwn D ρ st) : RS c ρ G (L2.upd H D u) st where
  sub := fun a w h => by
    rw [upd_ne (ne_of_none h g)]
    exact r.sub a w h
  len := r.len
  own := fun n p o hp ho => by
    obtain ⟨b1, b2, b3⟩ := r.own n p o hp ho
    obtain ⟨a1, a2⟩ := nD n p o hp ho
    exact ⟨b1, b2, b3.mono (Rle.refl _) (Same.refl _) (fun o e => by rw [upd_ne a1]; exact e) (fun o e => by rw [upd_ne a2]; exact e)⟩
  inj := r.inj
theorem EnvOk.wipe {env : List (Option W)} {σ : L2.St} (hl : env.length = σ.length) (h : EnvOk c ρ G env σ) : ∀ vs : List Nat, EnvOk c ρ G (wipeO env vs) (L2.wipe σ vs)
  | [] => h
  | v :: vs => fun i w e => by
    unfold wipeO at e
    unfold L2.wipe
    rcases get_set _ _ _ _ _ e with ⟨_, z, _⟩ | ⟨ne, z⟩
    · cases z
    · obtain ⟨u, h1, h2⟩ := EnvOk.wipe hl h vs i w z
      exact ⟨u, by rw [List.getElem?_set_ne (Ne.symm ne)]; exact h1, h2⟩
theorem wipe_set {σ : L2.St} {vs : List Nat} : ∀ (vs' : List Nat) (i : Nat) (x : Option V), i ∈ vs' → L2.wipe (σ.set i x) vs' = L2.wipe σ vs'
  | [], i, x, h => by cases h
  | v :: vs', i, x, h => by
    unfold L2.wipe
    by_cases hi : i ∈ vs'
    · rw [wipe_set (vs := vs) vs' i x hi]
    · have e : i = v := by
        rcases List.mem_cons.mp h with h | h
        · exact h
        · exact absurd h hi
      subst e
      have key : ∀ (vs' : List Nat) (σ : L2.St), i ∉ vs' → L2.wipe (σ.set i x) vs' = (L2.wipe σ vs').set i x := by
        intro vs'
        induction vs' with
        | nil => intro σ _; rfl
        | cons w ws ih =>
          intro σ hn
          unfold L2.wipe
          rw [ih σ fun h => hn (List.mem_cons_of_mem _ h)]
          rw [List.set_comm]
          exact fun e => hn (by rw [e]; exact List.mem_cons_self)
      rw [key vs' σ hi]
      simp
theorem wipe_all {vs : List Nat} : ∀ (is : List Nat) (ws : List V) (σ : L2.St), (∀ i ∈ is, i ∈ vs) → L2.wipe (setAll is ws σ) vs = L2.wipe σ vs
  | [], _, _, _ => rfl
  | _ :: _, [], _, _ => rfl
  | i :: is, w :: ws, σ, h => by
    unfold setAll
    rw [wipe_all is ws _ fun j hj => h j (List.mem_cons_of_mem _ hj)]
    exact wipe_set (σ := σ) (vs := vs) vs i (some w) (h i List.mem_cons_self)
theorem wipe_wipe {σ : L2.St} : ∀ (vs ws : List Nat), (∀ v ∈ vs, v ∈ ws) → L2.wipe (L2.wipe σ vs) ws = L2.wipe σ ws
  | [], _, _ => rfl
  | v :: vs, ws, h => by
    rw [show L2.wipe σ (v :: vs) = (L2.wipe σ vs).set v none from rfl]
    rw [wipe_set (vs := ws) ws v none (h v List.mem_cons_self)]
    exact wipe_wipe vs ws fun x hx => h x (List.mem_cons_of_mem _ hx)
end
abbrev U0 : WX := fun _ _ _ _ => False
/-- a clause's tests -/
structure ETs (c : Kx) (X : Cx) (ifs : List Expr) (m : EM Bool) : Prop where
  pt : PTs X ifs (tT c U0 m)
section
variable {c : Kx} {X : Cx} {U : WX} {tg iter elt t1 : Expr} {ifs : List Expr} {scope : Scope} {own : List (Str × Nat)} {pos : Pos} {mi : EM (List D)} {t : Tg} {tt : EM Bool} {el : EM W} {ownr : Bool}
theorem PTs.imp {ta tb : TT} (h : PTs X ifs ta) (q : ∀ σ H Q, tb σ H Q → ta σ H Q) : PTs X ifs tb := ⟨fun pins s σ H Q I x => h.run pins s σ H Q I (q σ H Q x)⟩
theorem ets_nil : ETs c X [] (pur true) := ⟨PTs.imp pts_nil fun σ H Q ⟨ρ, G, s, hR, w⟩ => Wp.pur hR w⟩
theorem ets_one {m : EM Bool} (h : ET c X U0 t1 m) : ETs c X [t1] m := ⟨pts_one h.pt⟩
theorem bnd_some {α β : Type} {m : EM α} {k : α → EM β} {s : SS} {b : β} {s2 : SS} (h : bnd m k s = some (.ok b, s2)) : ∃ a s1, m s = some (.ok a, s1) ∧ k a s1 = some (.ok b, s2) := by
  unfold bnd at h
  cases e : m s with
  | none => rw [e] at h; cases h
  | some p =>
    obtain ⟨o, s1⟩ := p
    rw [e] at h
    cases o with
    | ok a => exact ⟨a, s1, rfl, h⟩
    | ex _ _ _ => cases h
theorem wp_lc {ρ : Rho} {G H : Hp} {σ : L2.St} {s : SS} {Q : VK} (hsub : ∀ i ∈ t.is, i ∈ own.map (·.2)) (hR : R c ρ G σ H s) (w : Wp c U (compE (own.map (·.2)) mi t tt el ownr) ρ G σ H s (fun w ρ' G' H' _ => ∀ v, RepW c ρ' G' w v → Q v H')) :
    tLc (tI c U mi) (gOf c.K t) (tT c U0 tt) (tE c U0 el) (own.map (·.2)) σ H Q :=
  ⟨ρ, G, s, hR, (Wp.bnd hR w).imp fun ds ρ1 G1 H1 s1 ⟨S1, R1, w1⟩ J it D hD => by
    generalize hvs : own.map (·.2) = vsl at *
    -- the whole run
    unfold Wp at w1
    dsimp only at w1
    cases hrun : compL vsl t tt el ds [] s1 with
    | none => simp only [hrun] at w1
    | some p =>
    obtain ⟨o, s3⟩ := p
    cases o with
    | ex _ _ _ => simp only [hrun] at w1
    | ok ws =>
    simp only [hrun] at w1
    cases hnew : newL ownr ws s3.st with
    | none => simp only [hnew] at w1
    | some q =>
    obtain ⟨wres, stres⟩ := q
    simp only [hnew] at w1
    have gD : G1 D = none := R1.rs.sub.free hD
    have nD0 : NotOwn D ρ1 s1.st := fun n p o hp ho => by
      obtain ⟨⟨u1, t1⟩, ⟨u2, t2⟩⟩ := (R1.rs.own n p o hp ho).2.2.there
      exact ⟨fun e => (by rw [e, hD] at t1; cases t1), fun e => (by rw [e, hD] at t2; cases t2)⟩
    have hidH1 : hid D H1 = H1 := by
      funext a
      by_cases e : a = D
      · subst e; rw [hid_same, hD]
      · rw [hid_ne e]
    let Inv (i : Nat) (H : Hp) : Prop := i ≤ ds.length ∧ ∃ ρ2 G2 s2 acc vs, Stp ρ1 G1 H1 s1.st ρ2 G2 (hid D H) s2.st ∧ RS c ρ2 G2 H s2.st ∧ EnvOk c ρ2 G2 (wipeO s2.env vsl) (L2.wipe σ vsl) ∧ s2.env.length = σ.length ∧ H D = some (.lst vs) ∧ RepWs c ρ2 G2 acc vs ∧ NotOwn D ρ2 s2.st ∧ G2 D = none ∧ compL vsl t tt el (ds.drop i) acc s2 = some (.ok ws, s3)
    refine ⟨fun i m H => m = ds.length - i ∧ Inv i H, ⟨ds.length, by simp, Nat.zero_le _, ρ1, G1, s1, [], [], ?_, R1.rs.upd gD nD0, R1.env.wipe R1.len vsl, R1.len, upd_same, rfl, nD0, gD, by simpa using hrun⟩, ?_⟩
    · rw [hid_upd, hidH1]
      exact Stp.refl
    rintro i mm H2 ⟨rfl, hi2, ρ2, G2, s2, acc, vs, S2, r2, e2, l2, hD2, rv2, nD2, gD2, run2⟩
    have sG : Same G1 H2 := S2.same.trans r2.sub
    by_cases hlt : i < ds.length
    · refine .inr ⟨it.go i H2 sG hlt, Inv (i + 1), fun H' h' => ⟨ds.length - (i + 1), by omega, rfl, h'⟩, fun x H' hy => ?_⟩
      have ed : ds.drop i = ds[i] :: ds.drop (i + 1) := List.drop_eq_getElem_cons hlt
      rw [ed] at run2
      unfold compL at run2
      obtain ⟨_, s4, run3, run4⟩ := bnd_some run2
      obtain ⟨_, s2', run5, run6⟩ := bnd_some run3
      unfold wipS at run5
      cases run5
      obtain ⟨b, s5, run7, run8⟩ := bnd_some run4
      obtain ⟨G3, S3, r3, rx⟩ := it.yld i H2 x H' ds[i] sG (List.getElem?_eq_getElem hlt) hy ρ2 G2 s2.st S2.same r2
      have hD3 := nD2.keep S3 hD2
      have nD3 := nD2.step S3 hD2
      have gD3 := nD2.gn S3 hD2 gD2
      have R3 : R c ρ2 G3 (L2.wipe σ vsl) H' ⟨wipeO s2.env vsl, s2.st⟩ := ⟨r3, e2.mono S3.rho S3.same, by show (wipeO _ _).length = _; rw [wipeO_len, wipe_length, l2]⟩
      refine asg_ok R3 (w := .d ds[i]) rx run6 fun σ4 R4 hst _ ⟨vw, hσ⟩ => ?_
      have hw4 : L2.wipe σ4 vsl = L2.wipe σ vsl := by
        rw [hσ, wipe_all t.is vw _ hsub]
        exact wipe_wipe vsl vsl fun v h => h
      refine ⟨hw4, ρ2, G3, s4, R4, Wp.ok run7 fun ρ5 G5 H5 S5 R5 => ?_⟩
      rw [hst] at S5
      have S35 := S3.trans r2.len S5
      have hD5 := nD3.keep S5 hD3
      have nD5 := nD3.step S5 hD3
      have gD5 := nD3.gn S5 hD3 gD3
      have T5 := S2.trans R1.rs.len S35.hid
      cases b with
      | false =>
        refine iteF ⟨hlt, ρ5, G5, s5, acc, vs, T5, R5.rs, ?_, ?_, hD5, rv2.mono S35.rho S35.same, nD5, gD5, run8⟩
        · rw [← hw4]
          exact R5.env.wipe R5.len vsl
        · rw [R5.len, hσ, setAll_len, wipe_length]
      | true =>
        refine iteT ?_
        simp only [if_true] at run8
        obtain ⟨y, s6, run9, run10⟩ := bnd_some run8
        refine ⟨ρ5, G5, s5, R5, Wp.ok run9 fun ρ6 G6 H6 S6 R6 v rv => ?_⟩
        have hD6 := nD5.keep S6 hD5
        have nD6 := nD5.step S6 hD5
        have gD6 := nD5.gn S6 hD5 gD5
        have S36 := S35.trans r2.len S6
        by_cases hl : acc.length < 16777216
        · rw [if_pos hl] at run10
          refine ⟨vs, hD6, by rw [rv2.len, sizeLine_eq]; exact hl, hlt, ρ6, G6, s6, acc ++ [y], vs ++ [v], ?_, R6.rs.upd gD6 nD6, ?_, ?_, upd_same, (rv2.mono S36.rho S36.same).app ⟨v, [], rfl, rv, rfl⟩, nD6, gD6, run10⟩
          · rw [hid_upd]
            exact S2.trans R1.rs.len S36.hid
          · rw [← hw4]
            exact R6.env.wipe R6.len vsl
          · rw [R6.len, hσ, setAll_len, wipe_length]
        · rw [if_neg hl] at run10
          cases run10
    · have e : i = ds.length := by omega
      subst e
      rw [List.drop_length] at run2
      have run2 : pur acc s2 = some (.ok ws, s3) := run2
      cases run2
      refine .inl ⟨it.stop H2 sG, ?_⟩
      have rh := r2.hid gD2 nD2
      obtain ⟨ρ', G', S', r', rw'⟩ := newL_ok rh rv2 hnew hid_same
      rw [upd_hid hD2] at S' r'
      have T := S2.trans R1.rs.len S'
      refine w1 ρ' G' H2 T ⟨r', fun j z hz => ?_, ?_⟩ _ rw'
      · obtain ⟨u, h1, h2⟩ := e2 j z hz
        exact ⟨u, (wipe_some h1).1, h2.mono S'.rho S'.same⟩
      · show (wipeO _ _).length = _
        rw [wipeO_len, l2]⟩
section
variable (hc : X.calm = true) (hN : X.N.Nodup) (hi : EI c X U tg iter mi) (ok : BlkOk X.N X.env.scope scope own) (hsub : ∀ i ∈ t.is, i ∈ own.map (·.2))
    (hg : ∀ (s : Shared) (H : Hp) (C : Addr) (cl : List (Str × Addr)) (fp : List Addr), EG c (X.blk s H scope (compEnvC scope cl C X.env) fp) tg t) (ht : ∀ (s : Shared) (H : Hp) (C : Addr) (cl : List (Str × Addr)) (fp : List Addr), ETs c (X.blk s H scope (compEnvC scope cl C X.env) fp) ifs tt)
    (he : ∀ (s : Shared) (H : Hp) (C : Addr) (cl : List (Str × Addr)) (fp : List Addr), EE c (X.blk s H scope (compEnvC scope cl C X.env) fp) U0 elt el)
include hc hN hi ok hsub hg ht he
theorem ee_lc (hs : ∀ x, foldedSetIterable iter X.env x = pure x := by intro _; rfl) : EE c X U (.ListComp elt [⟨tg, iter, ifs, 0⟩] scope pos) (compE (own.map (·.2)) mi t tt el ownr) :=
  EE.mk1 hi.K (pe_lc hc hN hi.pi ok (fun s H C cl fp => (hg s H C cl fp).pg) (fun s H C cl fp => (ht s H C cl fp).pt) (fun s H C cl fp => (he s H C cl fp).pe) hs) fun ρ G s σ H Q hR w => wp_lc hsub hR w
/-- y = [..], y a local that nothing captures -/
theorem es_lc {i : Nat} {y : Str} {py spos : Pos} (hy : X.N[i]? = some y) (hyl : X.env.scope.names.lookup y = some .local) (hsw : swapsWith (.ListComp elt [⟨tg, iter, ifs, 0⟩] scope pos) (some (.Name y py)) spos.line X.env = pure true)
    (hs : ∀ x, foldedSetIterable iter X.env x = pure x := by intro _; rfl) : ES c X U (.Assign [.Name y py] (.ListComp elt [⟨tg, iter, ifs, 0⟩] scope pos) spos) (asgS (.name i) (compE (own.map (·.2)) mi t tt el ownr)) :=
  ⟨hi.K, PS.imp (ps_setLc hc hN hy hyl hsw hi.pi ok (fun s H C cl fp => (hg s H C cl fp).pg) (fun s H C cl fp => (ht s H C cl fp).pt) (fun s H C cl fp => (he s H C cl fp).pe) hs) fun D σ H ⟨ρ, G, s, hR, w⟩ =>
    wp_lc (Q := fun x H1 => gName i x σ H1 D.nx) hsub hR ((Ws.bndE hR w).imp fun x ρ1 G1 H1 s1 ⟨S1, R1, w1⟩ v rv => ws_asg (t := .name i) R1 rv w1 fun σ' s' R' _ _ w' => Ws.pur R' w')⟩
end
end
end EV
/-! EV13: a def as it stands behind the top; the law's end. -/
namespace EV
open PySem PySem.Spec PyProof.Rows L2
/-- a def of the text and how its arguments bind -/
structure DefAt (K : PySem.W.Frag) (x qual : Str) (st : Stmt) (f : Addr) (ps : List Str) : Prop where
  ex : ∃ fd : FuncData, Fun K x qual st f fd ∧ Binds K fd ps []
theorem FnS.of {P : Program} {w : World} {mg : Str → Option Value} {base : Heap} {c : Kx} {x qual : Str} {sd : Stmt} {f : Addr} {N ps : List Str} {k : Nat} {m : EM Fl} (D : DefAt c.K x qual sd f ps) (S : FnScope N ps (defScope sd)) (hn : ps.length ≤ N.length)
    (hb : ∀ (cdv : Value) (A : Around) (outer : List Env) (s : Shared) (H : Hp) (E : XK), Room k (A.deeper (envOfC qual (defScope sd) s.heap.objs.size f cdv)) → ESs c (cxE P w c mg base N qual sd f cdv A outer s H E) (wx E) (defBody sd) m) :
    FnS P w c.K mg base (k + 1) f (spF c ps.length (bodyF N.length m)) [] := by
  obtain ⟨fd, F, b⟩ := D.ex
  exact ⟨fd, ps, [], fn_full F S hn hb, F.kp, b, .nil⟩
theorem FnS.P {P : Program} {w : World} {mg : Str → Option Value} {base : Heap} {c : Kx} {k : Nat} {f : Addr} {np : Nat} {F : FF} (h : FnS P w c.K mg base k f (spF c np F) []) : FnS P w c.K mg base k f (spP c np (pureP F)) [] := h.imp fun _ _ _ _ q => spP_of q
theorem FnS.O {P : Program} {w : World} {mg : Str → Option Value} {base : Heap} {c : Kx} {k : Nat} {f : Addr} {np : Nat} {F : FF} (h : FnS P w c.K mg base k f (spF c np F) []) : FnS P w c.K mg base k f (spO c np (pureO F)) [] := h.imp fun _ _ _ _ q => spO_of q
theorem room65 {k : Nat} {A : Around} (r : Room k A) : A.units + 65 < cLine := by
  have := r.un
  omega
/-- another body, equal to the first -/
theorem RepDs.ints {c : Kx} {G : Hp} : ∀ ns : List Int, RepDs c G (ns.map .int) (ns.map V.int)
  | [] => .nil
  | n :: ns => .cons (.int n) (RepDs.ints ns)
/-- the law's end -/
def spLaw (c : Kx) (F : FP) : Sp := spP c 1 F
theorem law_good {c : Kx} {F : FP} (hF : ∀ ns : List Int, ns.length ≤ 63 → F [.fls (ns.map .int)] = some (.ok (.bl true))) (H : Hp) (a : Addr) (ns : List Int) (hl : ns.length ≤ 63) (hS : SqL c.K H a (ns.map V.int)) :
    spLaw c F [V.ref a] H (fun v _ => v = V.bl true) (fun _ _ _ => False) := by
  refine ⟨H, [.fls (ns.map .int)], Same.refl _, .cons (.fls hS (RepDs.ints ns)) .nil, rfl, ?_⟩
  rw [hF ns hl]
  intro v G' H' g r
  cases r
  rfl
theorem cx_none {P : Program} {w : World} {H : Hp} {s : Shared} {e : Value} {s' : Shared} (h : L2.CX P w [] H s (fun _ _ _ => False) e s') : False := by
  obtain ⟨_, _, _, _, _, _, _, _, _, _, _, _, z⟩ := h
  exact z
end EV
/-! EV14: what the printed derivations use besides. -/
namespace EV
open PySem PySem.Spec PyProof.Rows L2
/-- a name of the module that stands for a tree -/
def GlobD (c : Kx) (mg : Str → Option Value) (x : Str) (d : D) : Prop := ∃ v u, mg x = some u ∧ RelV v u ∧ ∀ G, RepD c G d v
section
variable {c : Kx} {X : Cx} {U : WX} {e a b d : Expr} {es : List Expr} {x : Str} {p pos : Pos} {ma mb mc me : EM W} {m : EM (List W)}
theorem ee_globD {z : D} (hK : X.K = c.K) (hg : Gl X x) (h : GlobD c X.mg x z) (hdb : (x == ("__debug__" : Str)) = false := by decide) : EE c X U (.Name x pos) (cst z) := by
  obtain ⟨v, u, hm, r, hd⟩ := h
  exact ee_glob hK hg hm r hd hdb
theorem GlobD.str {mg : Str → Option Value} {z : Str} {t : Tok} (h : mg x = some (.str z t)) : GlobD c mg x (.str z) := ⟨.str z, _, h, ⟨t, rfl⟩, fun _ => .str z⟩
theorem GlobD.int {mg : Str → Option Value} {i : Int} {t : Tok} (h : mg x = some (.int i t)) : GlobD c mg x (.int i) := ⟨.int i, _, h, ⟨t, rfl⟩, fun _ => .int i⟩
/-- the items of a written tuple of texts, ints -/
def atomV : Value → Option D
  | .str z _ => some (.str z)
  | .int i _ => some (.int i)
  | _ => none
def atomsV : List Value → Option (List D)
  | [] => some []
  | v :: r => match atomV v, atomsV r with
    | some d, some ds => some (d :: ds)
    | _, _ => none
theorem atoms_ok : ∀ {us : List Value} {ds : List D}, atomsV us = some ds → ∃ vs, Vals vs us ∧ ∀ G, RepDs c G ds vs
  | [], ds, e => by cases e; exact ⟨[], .nil, fun _ => .nil⟩
  | u :: us, ds, e => by
    unfold atomsV at e
    cases h1 : atomV u with
    | none => simp only [h1] at e; cases e
    | some d =>
      cases h2 : atomsV us with
      | none => simp only [h1, h2] at e; cases e
      | some ds' =>
        simp only [h1, h2] at e
        cases e
        obtain ⟨vs, r1, r2⟩ := atoms_ok h2
        cases u with
        | str z t => cases h1; exact ⟨.str z :: vs, .cons ⟨t, rfl⟩ r1, fun G => .cons (.str z) (r2 G)⟩
        | int i t => cases h1; exact ⟨.int i :: vs, .cons ⟨t, rfl⟩ r1, fun G => .cons (.int i) (r2 G)⟩
        | _ => cases h1
theorem GlobD.tup {mg : Str → Option Value} {A : Addr} {od : Option Addr} {its : Array Value} {n : Nat} {sl : Array (Option Value)} {ds : List D} (h : mg x = some (.ref A)) (l : c.K.lookup A = some ⟨.type "tuple", od, .seq its n, sl⟩) (hi : atomsV its.toList = some ds) (hz : ds.length ≤ 1000) : GlobD c mg x (.tup ds) := by
  obtain ⟨vs, r1, r2⟩ := atoms_ok (c := c) hi
  refine ⟨.ref A, _, h, rfl, fun G => .tup (.inr ⟨_, its, n, l, rfl, rfl, ?_, r1⟩) (r2 G)⟩
  have h1 := r1.length
  have h2 := (r2 G).len
  have h3 := sizeLine_eq
  rw [← Array.length_toList]
  omega
/-- a built-in's name as a value -/
theorem ee_bltn {z : D} {v : V} {u : Value} (hK : X.K = c.K) (hg : Gl X x) (hm : X.mg x = none) (hv : bootBuiltins x = some u) (r : RelV v u) (hd : ∀ G, RepD c G z v) (hn : x ≠ "__name__" := by decide) (hdb : (x == ("__debug__" : Str)) = false := by decide) : EE c X U (.Name x pos) (cst z) :=
  EE.mk1 hK (pe_bltn hg hm hv r hn hdb) fun _ G _ _ _ _ r w => Wp.pur r w _ (hd G)
theorem ty_only {n : String} (G : Hp) (z : V) (h : RepD c G (.ty n) z) : z = .ty n := by cases h; rfl
theorem ref_only {A : Addr} (G : Hp) (z : V) (h : RepD c G (.ref A) z) : z = .ref A := by cases h; rfl
/-- -e -/
def negA (st : Store) : W → Option (W × Store)
  | .d (.int i) => some (.d (.int (-i)), st)
  | _ => none
def op1 (f : Store → W → Option (W × Store)) (m : EM W) : EM W := bnd m fun x => lft fun st => f st x
theorem ee_neg (h : EE c X U e me) : EE c X U (.UnaryOp .USub e pos) (op1 negA me) :=
  EE.mk1 h.K (pe_un un_neg h.pe) fun ρ G s σ H Q hR w => ⟨ρ, G, s, hR, (Wp.bnd hR w).imp fun z ρ1 G1 H1 s1 ⟨S1, R1, w1⟩ v rv => by
    obtain ⟨w, st', e, q⟩ := Wp.lft w1
    unfold negA at e
    split at e
    · cases e
      cases rv
      exact ⟨_, rfl, q ρ1 G1 H1 Stp.refl R1 _ (.int _)⟩
    · cases e⟩
/-- a < b < c -/
def chainE (f g : Store → W → W → Option (W × Store)) (ma mb mc : EM W) : EM W := bnd ma fun x => bnd mb fun y => bnd (lft fun st => f st x y) fun z => match z with
  | .d (.bl true) => bnd mc fun w => lft fun st => g st y w
  | .d (.bl false) => pur (.d (.bl false))
  | _ => non
theorem wp_chain {r r' : R2} {f g : Store → W → W → Option (W × Store)} (hs : S2 c r f) (hs' : S2 c r' g) {ρ : Rho} {G H : Hp} {σ : L2.St} {s : SS} {Q : VK} (hR : R c ρ G σ H s) (w : Wp c U (chainE f g ma mb mc) ρ G σ H s (fun w ρ' G' H' _ => ∀ v, RepW c ρ' G' w v → Q v H')) :
    tChain r r' (tE c U ma) (tE c U mb) (tE c U mc) σ H Q := by
  refine ⟨ρ, G, s, hR, (Wp.bnd hR w).imp fun x ρ1 G1 H1 s1 ⟨S1, R1, w1⟩ v rv => ?_⟩
  refine ⟨ρ1, G1, s1, R1, (Wp.bnd R1 w1).imp fun y ρ2 G2 H2 s2 ⟨S2, R2, w2⟩ u ru => ?_⟩
  obtain ⟨z, st', e, q⟩ := Wp.lft (Wp.bnd R2 w2)
  refine hs ρ2 G2 H2 s2.st x y z st' v u _ R2.rs (rv.mono S2.rho S2.same) ru e fun v' ρ3 G3 H3 S3 R3 r3 => ?_
  obtain ⟨S4, R4, w4⟩ := q ρ3 G3 H3 S3 ⟨R3, R2.env.mono S3.rho S3.same, R2.len⟩
  cases z with
  | loc _ => exact w4.none rfl
  | d z =>
    cases z with
    | bl k =>
      cases r3
      refine ⟨k, rfl, ?_⟩
      cases k with
      | false => exact iteF (Wp.pur R4 w4 _ (.bl false))
      | true =>
        refine iteT ⟨ρ3, G3, _, R4, (Wp.bnd R4 w4).imp fun w ρ5 G5 H5 s5 ⟨S5, R5, w5⟩ t rt => ?_⟩
        obtain ⟨z, st'', e5, q5⟩ := Wp.lft w5
        exact hs' ρ5 G5 H5 s5.st y w z st'' u t _ R5.rs ((ru.mono S3.rho S3.same).mono S5.rho S5.same) rt e5 fun v'' ρ6 G6 H6 S6 R6 r6 => q5 ρ6 G6 H6 S6 ⟨R6, R5.env.mono S6.rho S6.same, R5.len⟩ v'' r6
    | _ => exact w4.none rfl
end
end EV
namespace EV
open PySem PySem.Spec PyProof.Rows L2
section
variable {c : Kx} {X : Cx} {U : WX} {a b d : Expr} {pos : Pos} {ma mb mc : EM W}
theorem ee_chain {o1 o2 : CmpOp} {r r' : R2} {f g : Store → W → W → Option (W × Store)} (h1 : OpR X (compareOp o1) r) (h2 : OpR X (compareOp o2) r') (hs : S2 c r f) (hs' : S2 c r' g) (ha : EE c X U a ma) (hb : EE c X U b mb) (hd : EE c X U d mc)
    (hm : lastMarks [o1, o2] [b, d] = false := by with_unfolding_all rfl) : EE c X U (.Compare a [o1, o2] [b, d] pos) (chainE f g ma mb mc) :=
  EE.mk1 ha.K (pe_chain h1 h2 ha.pe hb.pe hd.pe hm) fun ρ G s σ H Q hR w => wp_chain hs hs' hR w
theorem et_chain {o1 o2 : CmpOp} {r r' : R2} {f g : Store → W → W → Option (W × Store)} (h1 : OpR X (compareOp o1) r) (h2 : OpR X (compareOp o2) r') (hs : S2 c r f) (hs' : S2 c r' g) (ha : EE c X U a ma) (hb : EE c X U b mb) (hd : EE c X U d mc)
    (hm : lastMarks [o1, o2] [b, d] = false := by with_unfolding_all rfl) : ET c X U (.Compare a [o1, o2] [b, d] pos) (toB (chainE f g ma mb mc)) :=
  ⟨ha.K, PT.imp (pt_chain h1 h2 ha.pe hb.pe hd.pe hm) fun σ H Q ⟨ρ, G, s, hR, w⟩ => wp_chain hs hs' hR (wp_toB hR w)⟩
end
end EV
namespace EV
open PySem PySem.Spec PyProof.Rows L2
def tyOkB (T : String) (p : Ty × Bool) : Bool := match p.1 with
  | .bi n => decide (kitB n T = some p.2)
  | .cl _ => false
theorem mem_of_look {α β : Type} [DecidableEq α] : ∀ {l : List (α × β)} {a : α} {b : β}, l.lookup a = some b → (a, b) ∈ l
  | [], _, _, h => by cases h
  | (x, y) :: l, a, b, h => by
    unfold List.lookup at h
    by_cases e : a = x
    · subst e
      simp at h
      subst h
      exact List.mem_cons_self
    · have : (a == x) = false := by simpa using e
      rw [this] at h
      exact List.mem_cons_of_mem _ (mem_of_look h)
theorem tyq {c : Kx} {q : List (Ty × Bool)} {T : String} (h : q.all (tyOkB T) = true) : ∀ t b, q.lookup t = some b → TyFact c (.type T) t b := fun t b e => by
  have h1 := List.all_eq_true.mp h _ (mem_of_look e)
  cases t with
  | bi n => exact kit_ty (of_decide_eq_true h1)
  | cl k => exact absurd h1 Bool.false_ne_true
end EV
/-! EV15: running a function step by step. -/
namespace EV
open PySem L2
def chr1 (c : Nat) : Str := ⟨#[c]⟩
/-- m runs to an end that is wanted -/
def Run {α : Type} (m : EM α) (s : SS) (Q : Out α → SS → Prop) : Prop := ∃ o s', m s = some (o, s') ∧ Q o s'
/-! named parts of what stands behind -/
def toBK : W → EM Bool
  | .d (.bl b) => pur b
  | _ => non
def ite2 {α : Type} (b : Bool) (x y : EM α) : EM α := if b then x else y
def sqK (r : EM Fl) : Fl → EM Fl
  | .nx => r
  | .ret w => pur (.ret w)
  | .brk => pur .brk
  | .cnt => pur .cnt
def chK (g : Store → W → W → Option (W × Store)) (mc : EM W) (y : W) : W → EM W
  | .d (.bl true) => bnd mc fun w => lft fun st => g st y w
  | .d (.bl false) => pur (.d (.bl false))
  | _ => non
def itK : W → EM (List D)
  | .d x => match itemsD x with
    | some ds => pur ds
    | none => non
  | .loc _ => non
def rg1K : List W → EM (List D)
  | [.d (.int j)] => if j < 1000000000 ∧ -1000000000 < j then pur (rngL 0 j.toNat) else non
  | _ => non
def rg2K : List W → EM (List D)
  | [.d (.int i), .d (.int j)] => if (j < 1000000000 ∧ -1000000000 < j) ∧ i < 1000000000 ∧ -1000000000 < i then pur (rngL i (j - i).toNat) else non
  | _ => non
def partK : W → EM (Option Int)
  | .d (.int i) => pur (some i)
  | _ => non
def lstK (own : Bool) (ws : List W) : EM W := if ws.length ≤ 16777216 then lft (newL own ws) else non
def tupK (ds : List D) : EM W := if ds.length ≤ 16777216 then pur (.d (.tup ds)) else non
def treesK (ws : List W) : EM (List D) := match allD ws with
  | some ds => pur ds
  | none => non
def bmK (T : String) (f : Store → W → List W → Option (W × Store)) (m : EM (List W)) (o : W) : EM W := fun s => if tyIs T s.st o then bnd m (fun ws => lft fun st => f st o ws) s else none
def frzK : W → EM W
  | .d x => pur (.d x)
  | .loc n => fun s => match fz 20 (.loc n) s.st with
    | some (d, st) => some (.ok (.d d), ⟨s.env.map (rpl n d), st⟩)
    | none => none
def fldK (i : Nat) (w : W) : EM W := fun s => match insW s.st w with
  | some (_, ks, ws) => match fget ks ws i with
    | some y => some (.ok y, s)
    | none => none
  | none => none
def methK (tbl : List (Nat × (List W → EM W))) (m : EM (List W)) (o : W) : EM W := fun s => match clsOf s.st o with
  | none => none
  | some k => match tbl.lookup k with
    | none => none
    | some g => bnd m (fun ws => g (o :: ws)) s
section
variable {α β : Type} {m : EM α} {k : α → EM β} {s s1 : SS} {Q : Out β → SS → Prop} {Qa : Out α → SS → Prop}
theorem run_pur {a : α} (h : Qa (.ok a) s) : Run (pur a) s Qa := ⟨_, _, rfl, h⟩
theorem run_eq {o : Out α} (e : m s = some (o, s1)) (h : Qa o s1) : Run m s Qa := ⟨o, s1, e, h⟩
theorem Run.imp {Q' : Out α → SS → Prop} (h : Run m s Qa) (q : ∀ o s', Qa o s' → Q' o s') : Run m s Q' := let ⟨o, s', e, h⟩ := h; ⟨o, s', e, q o s' h⟩
/-- a first part -/
def Nx (k : α → EM β) (Q : Out β → SS → Prop) : Out α → SS → Prop := fun o s' => match o with
  | .ok a => Run (k a) s' Q
  | .ex c ks vs => Q (.ex c ks vs) s'
theorem rb_run (h : Run m s (Nx k Q)) : Run (bnd m k) s Q := by
  obtain ⟨o, s', e, h⟩ := h
  cases o with
  | ok a =>
    obtain ⟨o2, s2, e2, h2⟩ := h
    exact ⟨o2, s2, by rw [bnd_ok e]; exact e2, h2⟩
  | ex c ks vs => exact ⟨_, s', bnd_ex e, h⟩
theorem rb_eq {a : α} (e : m s = some (.ok a, s1)) (h : Run (k a) s1 Q) : Run (bnd m k) s Q := by
  obtain ⟨o2, s2, e2, h2⟩ := h
  exact ⟨o2, s2, by rw [bnd_ok e]; exact e2, h2⟩
theorem rb_bnd {γ : Type} {m : EM γ} {f : γ → EM α} (h : Run (bnd m fun a => bnd (f a) k) s Q) : Run (bnd (bnd m f) k) s Q := by rw [bnd_assoc]; exact h
theorem rb_bnd2 {γ δ : Type} {m : EM γ} {n : EM δ} {f : γ → δ → EM α} (h : Run (bnd m fun a => bnd n fun b => bnd (f a b) k) s Q) : Run (bnd (bnd m fun a => bnd n fun b => f a b) k) s Q := by
  rw [bnd_assoc]
  have e : (fun a => bnd (bnd n fun b => f a b) k) = fun a => bnd n fun b => bnd (f a b) k := by
    funext a
    rw [bnd_assoc]
  rw [e]
  exact h
theorem rb_bnd3 {γ δ ε : Type} {m : EM γ} {n : EM δ} {p : EM ε} {f : γ → δ → ε → EM α} (h : Run (bnd m fun a => bnd n fun b => bnd p fun c => bnd (f a b c) k) s Q) : Run (bnd (bnd m fun a => bnd n fun b => bnd p fun c => f a b c) k) s Q := by
  rw [bnd_assoc]
  have e : (fun a => bnd (bnd n fun b => bnd p fun c => f a b c) k) = fun a => bnd n fun b => bnd p fun c => bnd (f a b c) k := by
    funext a
    rw [bnd_assoc]
    congr 1
    funext b
    rw [bnd_assoc]
  rw [e]
  exact h
theorem rb_pur {a : α} (h : Run (k a) s Q) : Run (bnd (pur a) k) s Q := h
theorem rb_thr {c : Nat} {ks : List Nat} {vs : List D} (h : Q (.ex c ks vs) s) : Run (bnd (thr c ks vs : EM α) k) s Q := ⟨_, s, rfl, h⟩
theorem rb_lft {f : Store → Option (α × Store)} {env : List (Option W)} {st st' : Store} {a : α} (e : f st = some (a, st')) (h : Run (k a) ⟨env, st'⟩ Q) : Run (bnd (lft f) k) ⟨env, st⟩ Q := rb_eq (by unfold lft; simp only [e]) h
theorem rb_iteT {m1 m2 : EM α} (h1 : Run (bnd m1 k) s Q) : Run (bnd (ite2 true m1 m2) k) s Q := h1
theorem rb_iteF {m1 m2 : EM α} (h1 : Run (bnd m2 k) s Q) : Run (bnd (ite2 false m1 m2) k) s Q := h1
theorem rb_iteNT {m1 m2 : EM α} (h1 : Run (bnd m2 k) s Q) : Run (bnd (ite2 (!true) m1 m2) k) s Q := h1
theorem rb_iteNF {m1 m2 : EM α} (h1 : Run (bnd m1 k) s Q) : Run (bnd (ite2 (!false) m1 m2) k) s Q := h1
theorem rb_iteP {b : Bool} {m1 m2 : EM α} (e : b = true) (h1 : Run (bnd m1 k) s Q) : Run (bnd (ite2 b m1 m2) k) s Q := by subst e; exact h1
theorem rb_iteN {b : Bool} {m1 m2 : EM α} (e : b = false) (h1 : Run (bnd m2 k) s Q) : Run (bnd (ite2 b m1 m2) k) s Q := by subst e; exact h1
theorem rb_ite {b : Bool} {m1 m2 : EM α} (h1 : b = true → Run (bnd m1 k) s Q) (h2 : b = false → Run (bnd m2 k) s Q) : Run (bnd (ite2 b m1 m2) k) s Q := by
  cases b with
  | true => exact h1 rfl
  | false => exact h2 rfl
theorem rb_iteD {p : Prop} [Decidable p] {m1 m2 : EM α} (h1 : p → Run (bnd m1 k) s Q) (h2 : ¬ p → Run (bnd m2 k) s Q) : Run (bnd (ite2 (decide p) m1 m2) k) s Q := rb_ite (fun e => h1 (of_decide_eq_true e)) fun e => h2 (of_decide_eq_false e)
theorem rb_iteDn {p : Prop} [Decidable p] {m1 m2 : EM α} (h1 : ¬ p → Run (bnd m1 k) s Q) (h2 : p → Run (bnd m2 k) s Q) : Run (bnd (ite2 (!decide p) m1 m2) k) s Q := rb_ite (fun e => h1 fun x => by simp [x] at e) fun e => h2 (by simpa using e)
/-- a bare computation, as one with an end behind it -/
theorem run_bnd (h : Run (bnd m pur) s Qa) : Run m s Qa := by
  obtain ⟨o, s', e, h⟩ := h
  cases q : m s with
  | none => rw [bnd_no q] at e; cases e
  | some p =>
    obtain ⟨o2, s2⟩ := p
    cases o2 with
    | ok a =>
      rw [bnd_ok q] at e
      cases e
      exact ⟨_, _, q, h⟩
    | ex _ _ _ =>
      rw [bnd_ex q] at e
      cases e
      exact ⟨_, _, q, h⟩
end
section
variable {β : Type} {env : List (Option W)} {st st' : Store} {s : SS} {Q : Out β → SS → Prop} {k : W → EM β}
theorem rb_cst {d : D} (h : Run (k (.d d)) s Q) : Run (bnd (cst d) k) s Q := h
theorem rb_var {i : Nat} {w : W} (e : env[i]? = some (some w)) (h : Run (k w) ⟨env, st⟩ Q) : Run (bnd (var i) k) ⟨env, st⟩ Q := rb_eq (by unfold var; simp only [e]) h
theorem rb_op2 {f : Store → W → W → Option (W × Store)} {ma mb : EM W} (h : Run (bnd ma fun x => bnd mb fun y => bnd (lft fun st => f st x y) k) s Q) : Run (bnd (op2 f ma mb) k) s Q := rb_bnd2 h
theorem rb_op1 {f : Store → W → Option (W × Store)} {ma : EM W} (h : Run (bnd ma fun x => bnd (lft fun st => f st x) k) s Q) : Run (bnd (op1 f ma) k) s Q := rb_bnd h
theorem rb_asg {k : Unit → EM β} {i : Nat} {w : W} {env' : List (Option W)} (e : env.set i (some w) = env') (h : Run (k ()) ⟨env', st⟩ Q) : Run (bnd (asg (.name i) w) k) ⟨env, st⟩ Q := by
  subst e
  exact rb_eq (a := ()) rfl h
theorem rb_asgT {k : Unit → EM β} {is : List Nat} {ds : List D} {env' : List (Option W)} (hl : ds.length = is.length) (e : setAll is (ds.map .d) env = env') (h : Run (k ()) ⟨env', st⟩ Q) : Run (bnd (asg (.tup is) (.d (.tup ds))) k) ⟨env, st⟩ Q := by
  subst e
  exact rb_eq (a := ()) (by unfold asg; simp only [hl, if_true]) h
theorem rb_acons {k : List W → EM β} {m : EM W} {r : EM (List W)} (h : Run (bnd m fun w => bnd r fun ws => k (w :: ws)) s Q) : Run (bnd (acons m r) k) s Q := rb_bnd2 h
theorem rb_anil {k : List W → EM β} (h : Run (k []) s Q) : Run (bnd anil k) s Q := h
theorem toB_eq (m : EM W) : toB m = bnd m toBK := rfl
theorem rb_toB {k : Bool → EM β} {m : EM W} (h : Run (bnd m fun w => bnd (toBK w) k) s Q) : Run (bnd (toB m) k) s Q := by rw [toB_eq]; exact rb_bnd h
theorem rb_toBK {k : Bool → EM β} {b : Bool} (h : Run (k b) s Q) : Run (bnd (toBK (.d (.bl b))) k) s Q := h
theorem rb_ntB {k : Bool → EM β} {m : EM Bool} (h : Run (bnd m fun b => k (!b)) s Q) : Run (bnd (ntB m) k) s Q := rb_bnd h
theorem rb_anB {k : Bool → EM β} {m r : EM Bool} (h : Run (bnd m fun b => bnd (ite2 b r (pur false)) k) s Q) : Run (bnd (anB m r) k) s Q := rb_bnd h
theorem rb_orB {k : Bool → EM β} {m r : EM Bool} (h : Run (bnd m fun b => bnd (ite2 b (pur true) r) k) s Q) : Run (bnd (orB m r) k) s Q := rb_bnd h
theorem rb_ifE {α : Type} {k : α → EM β} {t : EM Bool} {ma mb : EM α} (h : Run (bnd t fun b => bnd (ite2 b ma mb) k) s Q) : Run (bnd (ifE t ma mb) k) s Q := rb_bnd h
theorem rb_anV {m r : EM W} (h : Run (bnd (toB m) fun b => bnd (ite2 b r (pur (.d (.bl false)))) k) s Q) : Run (bnd (anV m r) k) s Q := rb_bnd h
theorem rb_orV {m r : EM W} (h : Run (bnd (toB m) fun b => bnd (ite2 b (pur (.d (.bl true))) r) k) s Q) : Run (bnd (orV m r) k) s Q := rb_bnd h
theorem rb_ntV {m : EM W} (h : Run (bnd (toB m) fun b => k (.d (.bl (!b)))) s Q) : Run (bnd (ntV m) k) s Q := rb_bnd h
theorem rb_ofB {m : EM Bool} (h : Run (bnd m fun b => k (.d (.bl b))) s Q) : Run (bnd (ofB m) k) s Q := rb_bnd h
theorem rb_callB {f : Store → List W → Option (W × Store)} {m : EM (List W)} (h : Run (bnd m fun ws => bnd (lft fun st => f st ws) k) s Q) : Run (bnd (callB f m) k) s Q := rb_bnd h
theorem rb_callE {g : List W → EM W} {dws : List W} {m : EM (List W)} (h : Run (bnd m fun ws => bnd (g (ws ++ dws)) k) s Q) : Run (bnd (callE g dws m) k) s Q := rb_bnd h
theorem rb_lst {own : Bool} {m : EM (List W)} (h : Run (bnd m fun ws => bnd (lstK own ws) k) s Q) : Run (bnd (lstE own m) k) s Q := rb_bnd h
theorem rb_tup {m : EM (List W)} (h : Run (bnd (treesE m) fun ds => bnd (tupK ds) k) s Q) : Run (bnd (tupE m) k) s Q := rb_bnd h
theorem treesE_eq (m : EM (List W)) : treesE m = bnd m treesK := rfl
theorem rb_trees {k : List D → EM β} {m : EM (List W)} (h : Run (bnd m fun ws => bnd (treesK ws) k) s Q) : Run (bnd (treesE m) k) s Q := by rw [treesE_eq]; exact rb_bnd h
theorem rb_treesK {k : List D → EM β} {ws : List W} {ds : List D} (e : allD ws = some ds) (h : Run (k ds) s Q) : Run (bnd (treesK ws) k) s Q := by unfold treesK; rw [e]; exact h
theorem rb_tupK {ds : List D} (hl : ds.length ≤ 16777216) (h : Run (k (.d (.tup ds))) s Q) : Run (bnd (tupK ds) k) s Q := by unfold tupK; rw [if_pos hl]; exact h
theorem rb_lstK {own : Bool} {ws : List W} (hl : ws.length ≤ 16777216) (h : Run (bnd (lft (newL own ws)) k) s Q) : Run (bnd (lstK own ws) k) s Q := by unfold lstK; rw [if_pos hl]; exact h
theorem rb_slE {own : Bool} {m : EM W} {ml mh : EM (Option Int)} (h : Run (bnd m fun x => bnd ml fun lo => bnd mh fun hi => bnd (lft fun st => sliceA own st x lo hi) k) s Q) : Run (bnd (slE own m ml mh) k) s Q := rb_bnd3 h
theorem rb_partN {k : Option Int → EM β} (h : Run (k none) s Q) : Run (bnd (partE none) k) s Q := h
theorem partE_eq (m : EM W) : partE (some m) = bnd m partK := rfl
theorem rb_partS {k : Option Int → EM β} {m : EM W} (h : Run (bnd m fun w => bnd (partK w) k) s Q) : Run (bnd (partE (some m)) k) s Q := by rw [partE_eq]; exact rb_bnd h
theorem rb_partK {k : Option Int → EM β} {i : Int} (h : Run (k (some i)) s Q) : Run (bnd (partK (.d (.int i))) k) s Q := h
theorem sq_eq (m r : EM Fl) : sq m r = bnd m (sqK r) := rfl
theorem rb_sq {k : Fl → EM β} {m r : EM Fl} (h : Run (bnd m fun f => bnd (sqK r f) k) s Q) : Run (bnd (sq m r) k) s Q := by rw [sq_eq]; exact rb_bnd h
theorem rb_sqN {k : Fl → EM β} {r : EM Fl} (h : Run (bnd r k) s Q) : Run (bnd (sqK r .nx) k) s Q := h
theorem rb_sqR {k : Fl → EM β} {r : EM Fl} {w : W} (h : Run (k (.ret w)) s Q) : Run (bnd (sqK r (.ret w)) k) s Q := h
theorem rb_sqB {k : Fl → EM β} {r : EM Fl} (h : Run (k .brk) s Q) : Run (bnd (sqK r .brk) k) s Q := h
theorem rb_sqC {k : Fl → EM β} {r : EM Fl} (h : Run (k .cnt) s Q) : Run (bnd (sqK r .cnt) k) s Q := h
theorem rb_asgS {k : Fl → EM β} {t : Tg} {m : EM W} (h : Run (bnd m fun w => bnd (asg t w) fun _ => k .nx) s Q) : Run (bnd (asgS t m) k) s Q := by
  unfold asgS
  rw [bnd_assoc]
  have e : (fun a => bnd (bnd (asg t a) fun _ => pur Fl.nx) k) = fun w => bnd (asg t w) fun _ => k .nx := by
    funext a
    rw [bnd_assoc]
    rfl
  rw [e]
  exact h
theorem rb_exprS {k : Fl → EM β} {m : EM W} (h : Run (bnd m fun _ => k .nx) s Q) : Run (bnd (exprS m) k) s Q := rb_bnd h
theorem rb_retS {k : Fl → EM β} {m : EM W} (h : Run (bnd m fun w => k (.ret w)) s Q) : Run (bnd (retS m) k) s Q := rb_bnd h
theorem rb_forS {k : Fl → EM β} {mi : EM (List D)} {t : Tg} {body : EM Fl} (h : Run (bnd mi fun ds => bnd (loopS t body ds) k) s Q) : Run (bnd (forS mi t body) k) s Q := rb_bnd h
theorem itemsE_eq (m : EM W) : itemsE m = bnd m itK := rfl
theorem rb_items {k : List D → EM β} {m : EM W} (h : Run (bnd m fun w => bnd (itK w) k) s Q) : Run (bnd (itemsE m) k) s Q := by rw [itemsE_eq]; exact rb_bnd h
theorem rb_itL {k : List D → EM β} {ds : List D} (h : Run (k ds) s Q) : Run (bnd (itK (.d (.lst ds))) k) s Q := h
theorem rb_itF {k : List D → EM β} {ds : List D} (h : Run (k ds) s Q) : Run (bnd (itK (.d (.fls ds))) k) s Q := h
theorem rb_itT {k : List D → EM β} {ds : List D} (h : Run (k ds) s Q) : Run (bnd (itK (.d (.tup ds))) k) s Q := h
theorem rb_itS {k : List D → EM β} {z : Str} (h : Run (k (z.cps.toList.map fun c => .str (chr1 c))) s Q) : Run (bnd (itK (.d (.str z))) k) s Q := h
theorem range1E_eq (m : EM (List W)) : range1E m = bnd m rg1K := rfl
theorem range2E_eq (m : EM (List W)) : range2E m = bnd m rg2K := rfl
theorem rb_range1 {k : List D → EM β} {m : EM (List W)} (h : Run (bnd m fun ws => bnd (rg1K ws) k) s Q) : Run (bnd (range1E m) k) s Q := by rw [range1E_eq]; exact rb_bnd h
theorem rb_range2 {k : List D → EM β} {m : EM (List W)} (h : Run (bnd m fun ws => bnd (rg2K ws) k) s Q) : Run (bnd (range2E m) k) s Q := by rw [range2E_eq]; exact rb_bnd h
theorem rb_rg1 {k : List D → EM β} {j : Int} (hj : j < 1000000000 ∧ -1000000000 < j) (h : Run (k (rngL 0 j.toNat)) s Q) : Run (bnd (rg1K [.d (.int j)]) k) s Q := by
  show Run (bnd (if j < 1000000000 ∧ -1000000000 < j then pur (rngL 0 j.toNat) else non) k) s Q
  rw [if_pos hj]; exact h
theorem rb_rg2 {k : List D → EM β} {i j : Int} (hj : (j < 1000000000 ∧ -1000000000 < j) ∧ i < 1000000000 ∧ -1000000000 < i) (h : Run (k (rngL i (j - i).toNat)) s Q) : Run (bnd (rg2K [.d (.int i), .d (.int j)]) k) s Q := by
  show Run (bnd (if (j < 1000000000 ∧ -1000000000 < j) ∧ i < 1000000000 ∧ -1000000000 < i then pur (rngL i (j - i).toNat) else non) k) s Q
  rw [if_pos hj]; exact h
theorem chainE_eq (f g : Store → W → W → Option (W × Store)) (ma mb mc : EM W) : chainE f g ma mb mc = bnd ma fun x => bnd mb fun y => bnd (lft fun st => f st x y) (chK g mc y) := rfl
theorem rb_chain {f g : Store → W → W → Option (W × Store)} {ma mb mc : EM W} (h : Run (bnd ma fun x => bnd mb fun y => bnd (lft fun st => f st x y) fun z => bnd (chK g mc y z) k) s Q) : Run (bnd (chainE f g ma mb mc) k) s Q := by
  rw [chainE_eq, bnd_assoc]
  have e : (fun a => bnd (bnd mb fun y => bnd (lft fun st => f st a y) (chK g mc y)) k) = fun x => bnd mb fun y => bnd (lft fun st => f st x y) fun z => bnd (chK g mc y z) k := by
    funext x
    rw [bnd_assoc]
    congr 1
    funext y
    rw [bnd_assoc]
  rw [e]
  exact h
/-- a test of a chain -/
theorem rb_chK {g : Store → W → W → Option (W × Store)} {y : W} {mc : EM W} {b : Bool} (h : Run (bnd (ite2 b (bnd mc fun w => lft fun st => g st y w) (pur (.d (.bl false)))) k) s Q) : Run (bnd (chK g mc y (.d (.bl b))) k) s Q := by
  cases b with
  | true => exact h
  | false => exact h
theorem bmE_eq (T : String) (f : Store → W → List W → Option (W × Store)) (mo : EM W) (m : EM (List W)) : bmE T f mo m = bnd mo (bmK T f m) := rfl
theorem rb_bm {T : String} {f : Store → W → List W → Option (W × Store)} {mo : EM W} {m : EM (List W)} (h : Run (bnd mo fun o => bnd (bmK T f m o) k) s Q) : Run (bnd (bmE T f mo m) k) s Q := by rw [bmE_eq]; exact rb_bnd h
theorem rb_bmK {T : String} {f : Store → W → List W → Option (W × Store)} {o : W} {m : EM (List W)} (ht : tyIs T st o = true) (h : Run (bnd m fun ws => bnd (lft fun st => f st o ws) k) ⟨env, st⟩ Q) : Run (bnd (bmK T f m o) k) ⟨env, st⟩ Q := by
  obtain ⟨o', s', e, q⟩ := rb_bnd h
  refine ⟨o', s', ?_, q⟩
  rw [← e]
  unfold bmK bnd
  simp only [ht, if_true]
theorem frz_eq (m : EM W) : frz m = bnd m frzK := rfl
theorem rb_frz {m : EM W} (h : Run (bnd m fun w => bnd (frzK w) k) s Q) : Run (bnd (frz m) k) s Q := by rw [frz_eq]; exact rb_bnd h
theorem rb_frzD {d : D} (h : Run (k (.d d)) s Q) : Run (bnd (frzK (.d d)) k) s Q := h
theorem rb_frzL {n : Nat} {d : D} {env' : List (Option W)} (e : fz 20 (.loc n) st = some (d, st')) (e2 : env.map (rpl n d) = env') (h : Run (k (.d d)) ⟨env', st'⟩ Q) : Run (bnd (frzK (.loc n)) k) ⟨env, st⟩ Q := by
  subst e2
  exact rb_eq (by unfold frzK; simp only [e]) h
theorem fz_lst {n : Nat} {ws : List W} {ds : List D} (h : st[n]? = some (some (.lst ws))) (e : allD ws = some ds) : fz 20 (.loc n) st = some (.lst ds, st.set n none) := by
  unfold fz
  rw [allD_eq e] at h
  simp only [h, fzL_d]
theorem fz_ins {n i : Nat} {ks : List Nat} {ws : List W} {ds : List D} (h : st[n]? = some (some (.ins i ks ws))) (e : allD ws = some ds) : fz 20 (.loc n) st = some (.ins i ks ds, st.set n none) := by
  unfold fz
  rw [allD_eq e] at h
  simp only [h, fzL_d]
theorem fldE_eq (i : Nat) (m : EM W) : fldE i m = bnd m (fldK i) := rfl
theorem rb_fld {i : Nat} {m : EM W} (h : Run (bnd m fun w => bnd (fldK i w) k) s Q) : Run (bnd (fldE i m) k) s Q := by rw [fldE_eq]; exact rb_bnd h
theorem rb_fldK {i j : Nat} {ks : List Nat} {ws : List W} {x y : W} (e1 : insW st x = some (j, ks, ws)) (e2 : fget ks ws i = some y) (h : Run (k y) ⟨env, st⟩ Q) : Run (bnd (fldK i x) k) ⟨env, st⟩ Q := rb_eq (by unfold fldK; simp only [e1, e2]) h
theorem rb_fldD {i j : Nat} {ks : List Nat} {ds : List D} {y : W} (e2 : fget ks (ds.map .d) i = some y) (h : Run (k y) ⟨env, st⟩ Q) : Run (bnd (fldK i (.d (.ins j ks ds))) k) ⟨env, st⟩ Q := rb_fldK (e1 := rfl) e2 h
theorem methE_eq (tbl : List (Nat × (List W → EM W))) (mo : EM W) (m : EM (List W)) : methE tbl mo m = bnd mo (methK tbl m) := rfl
theorem rb_meth {tbl : List (Nat × (List W → EM W))} {mo : EM W} {m : EM (List W)} (h : Run (bnd mo fun o => bnd (methK tbl m o) k) s Q) : Run (bnd (methE tbl mo m) k) s Q := by rw [methE_eq]; exact rb_bnd h
theorem rb_methK {tbl : List (Nat × (List W → EM W))} {m : EM (List W)} {o : W} {i : Nat} {g : List W → EM W} (e1 : clsOf st o = some i) (e2 : tbl.lookup i = some g) (h : Run (bnd m fun ws => bnd (g (o :: ws)) k) ⟨env, st⟩ Q) : Run (bnd (methK tbl m o) k) ⟨env, st⟩ Q := by
  obtain ⟨o', s', e, q⟩ := rb_bnd h
  refine ⟨o', s', ?_, q⟩
  rw [← e]
  unfold methK bnd
  simp only [e1, e2]
/-! operations on known values -/
theorem rl_int {f : Int → Int → Option D} {i j : Int} {d : D} (e : f i j = some d) (h : Run (k (.d d)) ⟨env, st⟩ Q) : Run (bnd (lft fun st => intF f st (.d (.int i)) (.d (.int j))) k) ⟨env, st⟩ Q := rb_lft (by unfold intF; simp only [e]) h
theorem rl_mod {i j : Int} (hj : 0 < j) (h : Run (k (.d (.int (i % j)))) ⟨env, st⟩ Q) : Run (bnd (lft fun st => intF modI st (.d (.int i)) (.d (.int j))) k) ⟨env, st⟩ Q := rl_int (by unfold modI; rw [if_pos hj]) h
theorem rl_div {i j : Int} (hj : 0 < j ∧ j < 1000000000000000000000000000000) (h : Run (k (.d (.int (i / j)))) ⟨env, st⟩ Q) : Run (bnd (lft fun st => intF divI st (.d (.int i)) (.d (.int j))) k) ⟨env, st⟩ Q := rl_int (by unfold divI; rw [if_pos hj]) h
theorem rl_pow {i j : Int} (hj : 0 ≤ j ∧ j ≤ 1000 ∧ 0 ≤ i ∧ i < 1000) (h : Run (k (.d (.int (i ^ j.toNat)))) ⟨env, st⟩ Q) : Run (bnd (lft fun st => intF powI st (.d (.int i)) (.d (.int j))) k) ⟨env, st⟩ Q := rl_int (by unfold powI; rw [if_pos hj]) h
theorem rl_addI {own : Bool} {i j : Int} (h : Run (k (.d (.int (i + j)))) ⟨env, st⟩ Q) : Run (bnd (lft fun st => addA own st (.d (.int i)) (.d (.int j))) k) ⟨env, st⟩ Q := rb_lft rfl h
theorem rl_addS {own : Bool} {i j : Str} (hl : i.length + j.length ≤ 16777216) (h : Run (k (.d (.str (i ++ j)))) ⟨env, st⟩ Q) : Run (bnd (lft fun st => addA own st (.d (.str i)) (.d (.str j))) k) ⟨env, st⟩ Q := rb_lft (by unfold addA; simp only [hl, if_true]) h
theorem rl_addL {ds es : List D} (hl : ds.length + es.length ≤ 16777216) (h : Run (k (.d (.lst (ds ++ es)))) ⟨env, st⟩ Q) : Run (bnd (lft fun st => addA false st (.d (.lst ds)) (.d (.lst es))) k) ⟨env, st⟩ Q :=
  rb_lft (by
    unfold addA
    simp only
    unfold catL lst1W
    simp only [List.length_map, hl, if_true]
    rw [← List.map_append]
    unfold newL
    rw [allD_map]
    rfl) h
theorem rl_sub {i j : Int} (h : Run (k (.d (.int (i - j)))) ⟨env, st⟩ Q) : Run (bnd (lft fun st => subA st (.d (.int i)) (.d (.int j))) k) ⟨env, st⟩ Q := rb_lft rfl h
theorem rl_neg {i : Int} (h : Run (k (.d (.int (-i)))) ⟨env, st⟩ Q) : Run (bnd (lft fun st => negA st (.d (.int i))) k) ⟨env, st⟩ Q := rb_lft rfl h
theorem rl_mulI {own : Bool} {i j : Int} (hs : (-18446744073709551616 < i ∧ i < 18446744073709551616) ∨ (-18446744073709551616 < j ∧ j < 18446744073709551616)) (h : Run (k (.d (.int (i * j)))) ⟨env, st⟩ Q) : Run (bnd (lft fun st => mulA own st (.d (.int i)) (.d (.int j))) k) ⟨env, st⟩ Q :=
  rb_lft (by
    have : (small i || small j) = true := by
      unfold small
      simp only [Bool.or_eq_true, Bool.and_eq_true, decide_eq_true_eq]
      exact hs
    unfold mulA
    simp only [this, if_true]) h
theorem rl_mulS {own : Bool} {z : Str} {n : Int} (hs : z.length ≤ 1000 ∧ n ≤ 1000 ∧ 0 ≤ n) (h : Run (k (.d (.str (Txt.mul z n)))) ⟨env, st⟩ Q) : Run (bnd (lft fun st => mulA own st (.d (.str z)) (.d (.int n))) k) ⟨env, st⟩ Q :=
  rb_lft (by
    unfold mulA
    simp only [hs, and_self, if_true]) h
theorem rl_lt {i j : Int} (h : Run (k (.d (.bl (decide (i < j))))) ⟨env, st⟩ Q) : Run (bnd (lft fun st => ltA st (.d (.int i)) (.d (.int j))) k) ⟨env, st⟩ Q := rb_lft rfl h
theorem rl_le {i j : Int} (h : Run (k (.d (.bl (decide (i ≤ j))))) ⟨env, st⟩ Q) : Run (bnd (lft fun st => leA st (.d (.int i)) (.d (.int j))) k) ⟨env, st⟩ Q := rb_lft rfl h
theorem rl_gt {i j : Int} (h : Run (k (.d (.bl (decide (j < i))))) ⟨env, st⟩ Q) : Run (bnd (lft fun st => gtA st (.d (.int i)) (.d (.int j))) k) ⟨env, st⟩ Q := rb_lft rfl h
theorem rl_ge {i j : Int} (h : Run (k (.d (.bl (decide (j ≤ i))))) ⟨env, st⟩ Q) : Run (bnd (lft fun st => geA st (.d (.int i)) (.d (.int j))) k) ⟨env, st⟩ Q := rb_lft rfl h
theorem rl_eqI {i j : Int} (h : Run (k (.d (.bl (decide (i = j))))) ⟨env, st⟩ Q) : Run (bnd (lft fun st => eqA st (.d (.int i)) (.d (.int j))) k) ⟨env, st⟩ Q := rb_lft rfl h
theorem rl_eqS {i j : Str} (h : Run (k (.d (.bl (decide (i = j))))) ⟨env, st⟩ Q) : Run (bnd (lft fun st => eqA st (.d (.str i)) (.d (.str j))) k) ⟨env, st⟩ Q := rb_lft rfl h
theorem rl_neI {i j : Int} (h : Run (k (.d (.bl (!decide (i = j))))) ⟨env, st⟩ Q) : Run (bnd (lft fun st => neA st (.d (.int i)) (.d (.int j))) k) ⟨env, st⟩ Q := rb_lft rfl h
theorem rl_neS {i j : Str} (h : Run (k (.d (.bl (!decide (i = j))))) ⟨env, st⟩ Q) : Run (bnd (lft fun st => neA st (.d (.str i)) (.d (.str j))) k) ⟨env, st⟩ Q := rb_lft rfl h
theorem rl_eqB {x y : W} {b : Bool} (e : eqB st x y = some b) (h : Run (k (.d (.bl b))) ⟨env, st⟩ Q) : Run (bnd (lft fun st => eqA st x y) k) ⟨env, st⟩ Q := rb_lft (by unfold eqA; simp only [e]) h
theorem rl_neB {x y : W} {b : Bool} (e : eqB st x y = some b) (h : Run (k (.d (.bl (!b)))) ⟨env, st⟩ Q) : Run (bnd (lft fun st => neA st x y) k) ⟨env, st⟩ Q := rb_lft (by unfold neA; simp only [e]) h
theorem rl_in {x y : W} {b : Bool} (e : inB st x y = some b) (h : Run (k (.d (.bl b))) ⟨env, st⟩ Q) : Run (bnd (lft fun st => inA st x y) k) ⟨env, st⟩ Q := rb_lft (by unfold inA; simp only [e]) h
theorem rl_nin {x y : W} {b : Bool} (e : inB st x y = some b) (h : Run (k (.d (.bl (!b)))) ⟨env, st⟩ Q) : Run (bnd (lft fun st => ninA st x y) k) ⟨env, st⟩ Q := rb_lft (by unfold ninA; simp only [e]) h
theorem rl_inC {c : Nat} {z : Str} (h : Run (k (.d (.bl (decide (c ∈ z.cps.toList))))) ⟨env, st⟩ Q) : Run (bnd (lft fun st => inA st (.d (.str (chr1 c))) (.d (.str z))) k) ⟨env, st⟩ Q := rb_lft rfl h
theorem rl_ninC {c : Nat} {z : Str} (h : Run (k (.d (.bl (!decide (c ∈ z.cps.toList))))) ⟨env, st⟩ Q) : Run (bnd (lft fun st => ninA st (.d (.str (chr1 c))) (.d (.str z))) k) ⟨env, st⟩ Q := rb_lft rfl h
theorem rl_isN {x : W} (h : Run (k (.d (.bl (isNonB x)))) ⟨env, st⟩ Q) : Run (bnd (lft fun st => isN st x (.d .non)) k) ⟨env, st⟩ Q := rb_lft rfl h
theorem rl_isnN {x : W} (h : Run (k (.d (.bl (!isNonB x)))) ⟨env, st⟩ Q) : Run (bnd (lft fun st => isnN st x (.d .non)) k) ⟨env, st⟩ Q := rb_lft rfl h
theorem rl_isBl {a b : Bool} (h : Run (k (.d (.bl (decide (a = b))))) ⟨env, st⟩ Q) : Run (bnd (lft fun st => isBl st (.d (.bl a)) (.d (.bl b))) k) ⟨env, st⟩ Q := rb_lft rfl h
theorem rl_isnBl {a b : Bool} (h : Run (k (.d (.bl (!decide (a = b))))) ⟨env, st⟩ Q) : Run (bnd (lft fun st => isnBl st (.d (.bl a)) (.d (.bl b))) k) ⟨env, st⟩ Q := rb_lft rfl h
theorem rl_lenS {z : Str} (hl : z.length ≤ 16777216) (h : Run (k (.d (.int z.length))) ⟨env, st⟩ Q) : Run (bnd (lft fun st => lenW st [.d (.str z)]) k) ⟨env, st⟩ Q := rb_lft (by unfold lenW; simp only [hl, if_true]) h
theorem rl_lenL {ds : List D} (h : Run (k (.d (.int ds.length))) ⟨env, st⟩ Q) : Run (bnd (lft fun st => lenW st [.d (.lst ds)]) k) ⟨env, st⟩ Q := rb_lft (by show some _ = _; rw [List.length_map]) h
theorem rl_lenF {ds : List D} (h : Run (k (.d (.int ds.length))) ⟨env, st⟩ Q) : Run (bnd (lft fun st => lenW st [.d (.fls ds)]) k) ⟨env, st⟩ Q := rb_lft (by show some _ = _; rw [List.length_map]) h
theorem rl_lenT {ds : List D} (h : Run (k (.d (.int ds.length))) ⟨env, st⟩ Q) : Run (bnd (lft fun st => lenW st [.d (.tup ds)]) k) ⟨env, st⟩ Q := rb_lft (by show some _ = _; rw [List.length_map]) h
theorem rl_lenO {n : Nat} {ws : List W} (e : st[n]? = some (some (.lst ws))) (h : Run (k (.d (.int ws.length))) ⟨env, st⟩ Q) : Run (bnd (lft fun st => lenW st [.loc n]) k) ⟨env, st⟩ Q := rb_lft (by unfold lenW listW; simp only [e]) h
theorem rl_intB {b : Bool} (h : Run (k (.d (.int (if b then 1 else 0)))) ⟨env, st⟩ Q) : Run (bnd (lft fun st => intW st [.d (.bl b)]) k) ⟨env, st⟩ Q := rb_lft rfl h
theorem rl_str {i : Int} (hi : 0 ≤ i ∧ i < 10 ^ 200) (h : Run (k (.d (.str (Str.ofString (toString i))))) ⟨env, st⟩ Q) : Run (bnd (lft fun st => strW st [.d (.int i)]) k) ⟨env, st⟩ Q := rb_lft (by unfold strW; simp only [hi, and_self, if_true]) h
theorem rl_isi {q : List (Ty × Bool)} {w x : W} {b : Bool} (e : (match tyW st w with | some t => q.lookup t | none => none) = some b) (h : Run (k (.d (.bl b))) ⟨env, st⟩ Q) : Run (bnd (lft fun st => isiW q st [w, x]) k) ⟨env, st⟩ Q := by
  refine rb_lft ?_ h
  unfold isiW
  cases et : tyW st w with
  | none => simp only [et] at e; cases e
  | some t => simp only [et] at e ⊢; simp only [e]
/-! items -/
theorem atI_map {α β : Type} {f : α → β} {xs : List α} {i : Int} : atI (xs.map f) i = (atI xs i).map f := by
  unfold atI
  rw [List.length_map]
  cases ixN xs.length i with
  | none => rfl
  | some j => simp
theorem atI_nat {α : Type} {xs : List α} {i : Int} {n : Nat} (e : i = n) (h : n < xs.length) : atI xs i = some xs[n] := by
  subst e
  have h1 : ixN xs.length (n : Int) = some n := by
    unfold ixN
    rw [if_pos (by omega), if_pos (by omega)]
    rfl
  unfold atI
  rw [h1]
  exact List.getElem?_eq_getElem h
theorem atI_get {α : Type} {xs : List α} {i : Int} {d : α} (h : 0 ≤ i ∧ i < xs.length) : atI xs i = some (xs.getD i.toNat d) := by
  rw [atI_nat (n := i.toNat) (by omega) (by omega)]
  rw [List.getD_eq_getElem?_getD, List.getElem?_eq_getElem (by omega)]
  rfl
theorem rl_ixL {ds : List D} {i : Int} {d : D} (e : atI ds i = some d) (h : Run (k (.d d)) ⟨env, st⟩ Q) : Run (bnd (lft fun st => ixA st (.d (.lst ds)) (.d (.int i))) k) ⟨env, st⟩ Q := rb_lft (by show (match atI ds i with | some d => some (W.d d, st) | none => none) = _; rw [e]) h
theorem rl_ixF {ds : List D} {i : Int} {d : D} (e : atI ds i = some d) (h : Run (k (.d d)) ⟨env, st⟩ Q) : Run (bnd (lft fun st => ixA st (.d (.fls ds)) (.d (.int i))) k) ⟨env, st⟩ Q := rb_lft (by show (match atI ds i with | some d => some (W.d d, st) | none => none) = _; rw [e]) h
theorem rl_ixT {ds : List D} {i : Int} {d : D} (e : atI ds i = some d) (h : Run (k (.d d)) ⟨env, st⟩ Q) : Run (bnd (lft fun st => ixA st (.d (.tup ds)) (.d (.int i))) k) ⟨env, st⟩ Q := rb_lft (by show (match atI ds i with | some d => some (W.d d, st) | none => none) = _; rw [e]) h
theorem rl_ixO {n : Nat} {ws : List W} {i : Int} {w : W} (e : st[n]? = some (some (.lst ws))) (e2 : atI ws i = some w) (h : Run (k w) ⟨env, st⟩ Q) : Run (bnd (lft fun st => ixA st (.loc n) (.d (.int i))) k) ⟨env, st⟩ Q := rb_lft (by unfold ixA ixI; simp only [e, e2]) h
/-- a list of whole numbers, of texts -/
def ints' (xs : List Int) : D := .lst (xs.map .int)
def strs' (xs : List Str) : D := .lst (xs.map .str)
theorem rl_ixI {xs : List Int} {i : Int} (hi : 0 ≤ i ∧ i < xs.length) (h : Run (k (.d (.int (xs.getD i.toNat 0)))) ⟨env, st⟩ Q) : Run (bnd (lft fun st => ixA st (.d (ints' xs)) (.d (.int i))) k) ⟨env, st⟩ Q := rl_ixL (by rw [atI_map, atI_get hi]; rfl) h
theorem rl_ixSs {xs : List Str} {i : Int} (hi : 0 ≤ i ∧ i < xs.length) (h : Run (k (.d (.str (xs.getD i.toNat "")))) ⟨env, st⟩ Q) : Run (bnd (lft fun st => ixA st (.d (strs' xs)) (.d (.int i))) k) ⟨env, st⟩ Q := rl_ixL (by rw [atI_map, atI_get hi]; rfl) h
theorem rl_ixS {z : Str} {i : Int} (hi : 0 ≤ i ∧ i < z.cps.toList.length) (hl : z.cps.toList.length ≤ 16777216) (h : Run (k (.d (.str (chr1 (z.cps.toList.getD i.toNat 0))))) ⟨env, st⟩ Q) : Run (bnd (lft fun st => ixA st (.d (.str z)) (.d (.int i))) k) ⟨env, st⟩ Q :=
  rb_lft (by
    show (match atI z.cps.toList i with | some ch => if z.length ≤ 16777216 then some (W.d (.str ⟨#[ch]⟩), st) else none | none => none) = _
    rw [atI_get hi]
    have hl : z.length ≤ 16777216 := hl
    simp only [hl, if_true]
    rfl) h
theorem rl_slS {own : Bool} {z : Str} {lo hi : Option Int} (hl : z.length ≤ 16777216) (h : Run (k (.d (.str (cutS z lo hi)))) ⟨env, st⟩ Q) : Run (bnd (lft fun st => sliceA own st (.d (.str z)) lo hi) k) ⟨env, st⟩ Q := rb_lft (by unfold sliceA; simp only [hl, if_true]) h
theorem rl_slL {ds : List D} {lo hi : Option Int} (h : Run (k (.d (.lst (cutW ds lo hi)))) ⟨env, st⟩ Q) : Run (bnd (lft fun st => sliceA false st (.d (.lst ds)) lo hi) k) ⟨env, st⟩ Q :=
  rb_lft (by
    show newL false (cutW (ds.map W.d) lo hi) st = _
    rw [cutW_D]
    unfold newL
    rw [allD_map]
    rfl) h
theorem rl_slF {ds : List D} {lo hi : Option Int} (h : Run (k (.d (.lst (cutW ds lo hi)))) ⟨env, st⟩ Q) : Run (bnd (lft fun st => sliceA false st (.d (.fls ds)) lo hi) k) ⟨env, st⟩ Q :=
  rb_lft (by
    show newL false (cutW (ds.map W.d) lo hi) st = _
    rw [cutW_D]
    unfold newL
    rw [allD_map]
    rfl) h
theorem cutW_map {α γ : Type} {f : α → γ} {xs : List α} {lo hi : Option Int} : cutW (xs.map f) lo hi = (cutW xs lo hi).map f := by
  unfold cutW
  rw [List.length_map, List.map_take, List.map_drop]
theorem rl_slI {xs : List Int} {lo hi : Option Int} (h : Run (k (.d (ints' (cutW xs lo hi)))) ⟨env, st⟩ Q) : Run (bnd (lft fun st => sliceA false st (.d (ints' xs)) lo hi) k) ⟨env, st⟩ Q := rl_slL (by rw [cutW_map]; exact h)
theorem rl_newF {ws : List W} {ds : List D} (e : allD ws = some ds) (h : Run (k (.d (.lst ds))) ⟨env, st⟩ Q) : Run (bnd (lft (newL false ws)) k) ⟨env, st⟩ Q := rb_lft (by unfold newL; simp only [Bool.false_eq_true, if_false, e]) h
theorem rl_newO {ws : List W} {n : Nat} {st' : Store} (e : st.length = n) (e2 : st ++ [some (.lst ws)] = st') (h : Run (k (.loc n)) ⟨env, st'⟩ Q) : Run (bnd (lft (newL true ws)) k) ⟨env, st⟩ Q := by
  subst e e2
  exact rb_lft rfl h
/-! own lists -/
theorem rl_append {n : Nat} {ws : List W} {w : W} {st' : Store} (e : st[n]? = some (some (.lst ws))) (hl : ws.length < 16777216) (e2 : st.set n (some (.lst (ws ++ [w]))) = st') (h : Run (k (.d .non)) ⟨env, st'⟩ Q) : Run (bnd (lft fun st => appendW st (.loc n) [w]) k) ⟨env, st⟩ Q := rb_lft (by unfold appendW wrL; simp only [e, hl, if_true]; rw [e2]) h
theorem rl_clear {n : Nat} {ws : List W} {st' : Store} (e : st[n]? = some (some (.lst ws))) (e2 : st.set n (some (.lst [])) = st') (h : Run (k (.d .non)) ⟨env, st'⟩ Q) : Run (bnd (lft fun st => clearW st (.loc n) []) k) ⟨env, st⟩ Q := rb_lft (by unfold clearW wrL; simp only [e]; rw [e2]) h
/-! calls -/
theorem rb_gP {np : Nat} {F : FP} {ws : List W} {ds : List D} {P : D → Prop} (e : allD ws = some ds) (hn : ds.length = np) (h : ∃ d, F ds = some (.ok d) ∧ P d) (hk : ∀ d, P d → Run (k (.d d)) s Q) : Run (bnd (gP np F (ws ++ [])) k) s Q := by
  obtain ⟨d, h1, h2⟩ := h
  refine rb_eq (a := .d d) (s1 := s) ?_ (hk d h2)
  have e := allD_eq e
  subst e
  unfold gP
  rw [List.append_nil, List.length_map, if_pos hn]
  unfold callP treesE
  rw [bnd_pur, allD_map]
  show outP (F ds) s = _
  rw [h1]
  rfl
theorem rb_gPe {np : Nat} {F : FP} {ws : List W} {ds : List D} {d : D} (e : allD ws = some ds) (hn : ds.length = np) (h : F ds = some (.ok d)) (hk : Run (k (.d d)) s Q) : Run (bnd (gP np F (ws ++ [])) k) s Q := rb_gP e hn (P := fun x => x = d) ⟨d, h, rfl⟩ fun _ e => by subst e; exact hk
theorem rb_gO {np : Nat} {F : FO} {ws : List W} {ds : List D} {o : OO} {st' : Store} (e : allD ws = some ds) (hn : ds.length = np) (h : F ds = some (.ok o)) {i : Nat} (e1 : st.length = i) (e2 : st ++ [some o] = st') (hk : Run (k (.loc i)) ⟨env, st'⟩ Q) : Run (bnd (gO np F (ws ++ [])) k) ⟨env, st⟩ Q := by
  subst e1 e2
  refine rb_eq (a := .loc st.length) (s1 := ⟨env, st ++ [some o]⟩) ?_ hk
  have e := allD_eq e
  subst e
  unfold gO callO treesE
  rw [List.append_nil, List.length_map, if_pos hn, bnd_pur, allD_map]
  show outO (F ds) _ = _
  rw [h]
  rfl
/-! loops -/
def LoopQ (N : SS → Prop) (k : Fl → EM β) (Q : Out β → SS → Prop) : Out Fl → SS → Prop := fun o s => match o with
  | .ok .nx => N s
  | .ok .cnt => N s
  | .ok .brk => Run (k .nx) s Q
  | .ok (.ret w) => Run (k (.ret w)) s Q
  | .ex c ks vs => Q (.ex c ks vs) s
theorem lq_nx {N : SS → Prop} {k : Fl → EM β} (h : N s) : Run (pur .nx) s (LoopQ N k Q) := run_pur h
theorem lq_cnt {N : SS → Prop} {k : Fl → EM β} (h : N s) : Run (pur .cnt) s (LoopQ N k Q) := run_pur h
theorem lq_brk {N : SS → Prop} {k : Fl → EM β} (h : Run (k .nx) s Q) : Run (pur .brk) s (LoopQ N k Q) := run_pur h
theorem lq_ret {N : SS → Prop} {k : Fl → EM β} {w : W} (h : Run (k (.ret w)) s Q) : Run (pur (.ret w)) s (LoopQ N k Q) := run_pur h
theorem rb_loop {α : Type} {f : α → D} {t : Tg} {body : EM Fl} {k : Fl → EM β} {Q : Out β → SS → Prop} (P : List α → SS → Prop)
    (hs : ∀ (a : α) (l : List α) (s : SS), P (a :: l) s → Run (bnd (asg t (.d (f a))) fun _ => bnd body pur) s (LoopQ (P l) k Q)) (hd : ∀ s, P [] s → Run (k .nx) s Q) :
    ∀ (l : List α) (s : SS), P l s → Run (bnd (loopS t body (l.map f)) k) s Q
  | [], s, h => hd s h
  | a :: l, s, h => by
    have h1 := hs a l s h
    have e : (bnd (asg t (.d (f a))) fun _ => bnd body pur) = bnd (asg t (.d (f a))) fun _ => body := by
      congr 1
      funext _ s
      unfold bnd
      cases body s with
      | none => rfl
      | some p => obtain ⟨o, s'⟩ := p; cases o <;> rfl
    rw [e] at h1
    obtain ⟨o, s1, e1, h1⟩ := h1
    have ed : loopS t body ((a :: l).map f) = bnd (bnd (asg t (.d (f a))) fun _ => body) fun x => match x with
      | .nx => loopS t body (l.map f)
      | .cnt => loopS t body (l.map f)
      | .brk => pur .nx
      | .ret w => pur (.ret w) := rfl
    rw [ed]
    refine rb_bnd ?_
    cases o with
    | ok x =>
      refine rb_eq e1 ?_
      cases x with
      | nx => exact rb_loop P hs hd l s1 h1
      | cnt => exact rb_loop P hs hd l s1 h1
      | brk => exact h1
      | ret w => exact h1
    | ex c ks vs => exact ⟨_, s1, bnd_ex e1, h1⟩
theorem rb_loopI {t : Tg} {body : EM Fl} {k : Fl → EM β} {Q : Out β → SS → Prop} {l : List D} (P : List D → SS → Prop) (h : P l s)
    (hs : ∀ (a : D) (l : List D) (s : SS), P (a :: l) s → Run (bnd (asg t (.d a)) fun _ => bnd body pur) s (LoopQ (P l) k Q)) (hd : ∀ s, P [] s → Run (k .nx) s Q) :
    Run (bnd (loopS t body l) k) s Q := by
  have := rb_loop (f := fun x => x) P hs hd l s h
  rw [List.map_id'] at this
  exact this
def CompQ (N : SS → Prop) (Y : W → SS → Prop) : Out (Option W) → SS → Prop := fun o s => match o with
  | .ok none => N s
  | .ok (some w) => Y w s
  | .ex _ _ _ => False
theorem run_comp {α : Type} {f : α → D} {own : List Nat} {t : Tg} {tt : EM Bool} {el : EM W} (P : List α → List W → SS → Prop)
    (hs : ∀ (a : α) (l : List α) (acc : List W) (s : SS), P (a :: l) acc s → Run (bnd (wipS own) fun _ => bnd (asg t (.d (f a))) fun _ => bnd tt fun b => bnd (ite2 b (bnd el fun w => pur (some w)) (pur none)) pur) s (CompQ (P l acc) fun w s' => acc.length < 16777216 ∧ P l (acc ++ [w]) s')) :
    ∀ (l : List α) (acc : List W) (s : SS), P l acc s → ∃ ws s', compL own t tt el (l.map f) acc s = some (.ok ws, s') ∧ P [] ws s'
  | [], acc, s, h => ⟨acc, s, rfl, h⟩
  | a :: l, acc, s, h => by
    obtain ⟨o, s1, e1, h1⟩ := hs a l acc s h
    have ed : compL own t tt el ((a :: l).map f) acc = bnd (bnd (wipS own) fun _ => asg t (.d (f a))) fun _ => bnd tt fun b => if b then bnd el fun w => (if acc.length < 16777216 then compL own t tt el (l.map f) (acc ++ [w]) else non) else compL own t tt el (l.map f) acc := rfl
    rw [ed]
    have e2 : (bnd (wipS own) fun _ => bnd (asg t (.d (f a))) fun _ => bnd tt fun b => bnd (ite2 b (bnd el fun w => pur (some w)) (pur none)) pur) = bnd (bnd (bnd (wipS own) fun _ => asg t (.d (f a))) fun _ => bnd tt fun b => ite2 b (bnd el fun w => pur (some w)) (pur none)) pur := by
      rw [bnd_assoc, bnd_assoc]
      congr 1
      funext _
      congr 1
      funext _
      rw [bnd_assoc]
    have e3 : (bnd (bnd (wipS own) fun _ => asg t (.d (f a))) fun _ => bnd tt fun b => if b then bnd el fun w => (if acc.length < 16777216 then compL own t tt el (l.map f) (acc ++ [w]) else non) else compL own t tt el (l.map f) acc) =
        bnd (bnd (bnd (wipS own) fun _ => asg t (.d (f a))) fun _ => bnd tt fun b => ite2 b (bnd el fun w => pur (some w)) (pur none)) fun x => match x with
          | some w => (if acc.length < 16777216 then compL own t tt el (l.map f) (acc ++ [w]) else non)
          | none => compL own t tt el (l.map f) acc := by
      rw [bnd_assoc, bnd_assoc, bnd_assoc]
      congr 1
      funext _
      congr 1
      funext _
      rw [bnd_assoc]
      congr 1
      funext b
      cases b with
      | false => rfl
      | true =>
        show _ = bnd (bnd el fun w => pur (some w)) _
        rw [bnd_assoc]
        rfl
    rw [e3]
    rw [e2] at e1
    cases q : (bnd (bnd (wipS own) fun _ => asg t (.d (f a))) fun _ => bnd tt fun b => ite2 b (bnd el fun w => pur (some w)) (pur none)) s with
    | none => rw [bnd_no q] at e1; cases e1
    | some p =>
      obtain ⟨o2, s2⟩ := p
      cases o2 with
      | ex _ _ _ => rw [bnd_ex q] at e1; cases e1; exact h1.elim
      | ok x =>
        rw [bnd_ok q] at e1
        cases e1
        rw [bnd_ok q]
        cases x with
        | none => exact run_comp P hs l acc s1 h1
        | some w =>
          obtain ⟨h1, h2⟩ := h1
          obtain ⟨ws, s', e4, h4⟩ := run_comp P hs l (acc ++ [w]) s1 h2
          refine ⟨ws, s', ?_, h4⟩
          simp only [h1, if_true]
          exact e4
def compK (own : List Nat) (t : Tg) (tt : EM Bool) (el : EM W) (ownr : Bool) (ds : List D) : EM W := fun s => match compL own t tt el ds [] s with
  | some (.ok ws, s3) => match newL ownr ws s3.st with
    | some (w, st) => some (.ok w, ⟨wipeO s3.env own, st⟩)
    | none => none
  | _ => none
theorem rb_compE {own : List Nat} {mi : EM (List D)} {t : Tg} {tt : EM Bool} {el : EM W} {ownr : Bool} (h : Run (bnd mi fun ds => bnd (compK own t tt el ownr ds) k) s Q) : Run (bnd (compE own mi t tt el ownr) k) s Q := rb_bnd h
theorem rb_compK {α : Type} {f : α → D} {own : List Nat} {t : Tg} {tt : EM Bool} {el : EM W} {ownr : Bool} {l : List α} (P : List α → List W → SS → Prop) (h : P l [] s)
    (hs : ∀ (a : α) (l : List α) (acc : List W) (s : SS), P (a :: l) acc s → Run (bnd (wipS own) fun _ => bnd (asg t (.d (f a))) fun _ => bnd tt fun b => bnd (ite2 b (bnd el fun w => pur (some w)) (pur none)) pur) s (CompQ (P l acc) fun w s' => acc.length < 16777216 ∧ P l (acc ++ [w]) s'))
    (hd : ∀ ws env st, P [] ws ⟨env, st⟩ → Run (bnd (lft (newL ownr ws)) k) ⟨wipeO env own, st⟩ Q) : Run (bnd (compK own t tt el ownr (l.map f)) k) s Q := by
  obtain ⟨ws, s', e, h1⟩ := run_comp P hs l [] s h
  obtain ⟨env, st⟩ := s'
  have h2 := hd ws env st h1
  unfold Run at h2 ⊢
  obtain ⟨o, s2, e2, q⟩ := h2
  refine ⟨o, s2, ?_, q⟩
  rw [← e2]
  unfold bnd lft compK
  simp only [e]
  cases newL ownr ws st with
  | none => rfl
  | some p => rfl
theorem cq_no {N : SS → Prop} {Y : W → SS → Prop} (h : N s) : Run (pur none) s (CompQ N Y) := run_pur h
theorem cq_yes {N : SS → Prop} {Y : W → SS → Prop} {w : W} (h : Y w s) : Run (pur (some w)) s (CompQ N Y) := run_pur h
theorem rb_wip {own : List Nat} {k : Unit → EM β} {env' : List (Option W)} (e : wipeO env own = env') (h : Run (k ()) ⟨env', st⟩ Q) : Run (bnd (wipS own) k) ⟨env, st⟩ Q := by
  subst e
  exact rb_eq (a := ()) rfl h
/-! while -/
def whK (n : Nat) (t : EM Bool) (b : EM Fl) : Fl → EM Fl
  | .nx => whileS n t b
  | .cnt => whileS n t b
  | .brk => pur .nx
  | .ret w => pur (.ret w)
theorem rb_while {t : EM Bool} {b : EM Fl} {k : Fl → EM β} (P : Nat → SS → Prop)
    (hs : ∀ (n : Nat) (s : SS), P (n + 1) s → Run (bnd t fun x => bnd (ite2 x (bnd b fun f => pur (some f)) (pur none)) pur) s (fun o s' => match o with
      | .ok (some f) => LoopQ (P n) k Q (.ok f) s'
      | .ok none => Run (k .nx) s' Q
      | .ex c ks vs => Q (.ex c ks vs) s')) (h0 : ∀ s, P 0 s → False) : ∀ (n : Nat) (s : SS), P n s → Run (bnd (whileS n t b) k) s Q
  | 0, s, h => (h0 s h).elim
  | n + 1, s, h => by
    obtain ⟨o, s1, e1, h1⟩ := hs n s h
    have ed : whileS (n + 1) t b = bnd (bnd t fun x => bnd (ite2 x (bnd b fun f => pur (some f)) (pur none)) pur) fun y => match y with
        | some f => whK n t b f
        | none => pur .nx := by
      rw [bnd_assoc]
      show bnd t _ = _
      congr 1
      funext x
      cases x with
      | false => rfl
      | true =>
        show bnd b _ = bnd (bnd (bnd b fun f => pur (some f)) pur) _
        rw [bnd_assoc, bnd_assoc]
        rfl
    rw [ed]
    refine rb_bnd ?_
    cases o with
    | ex c ks vs => exact ⟨_, s1, bnd_ex e1, h1⟩
    | ok y =>
      refine rb_eq e1 ?_
      cases y with
      | none => exact h1
      | some f =>
        cases f with
        | nx => exact rb_while P hs h0 n s1 h1
        | cnt => exact rb_while P hs h0 n s1 h1
        | brk => exact h1
        | ret w => exact h1
/-! whole functions -/
def RetP (P : D → Prop) : Out Fl → SS → Prop := fun o s => match o with
  | .ok .nx => P .non
  | .ok (.ret (.d d)) => P d
  | .ok (.ret (.loc n)) => ∃ d st, fz 20 (.loc n) s.st = some (d, st) ∧ P d
  | _ => False
theorem rp_nx {P : D → Prop} (h : P .non) : Run (pur .nx) s (RetP P) := run_pur h
theorem rp_d {P : D → Prop} {d : D} (h : P d) : Run (pur (.ret (.d d))) s (RetP P) := run_pur h
theorem rp_lst {P : D → Prop} {n : Nat} {ws : List W} {ds : List D} (e : st[n]? = some (some (.lst ws))) (e2 : allD ws = some ds) (h : P (.lst ds)) : Run (pur (.ret (.loc n))) ⟨env, st⟩ (RetP P) := run_pur ⟨_, _, fz_lst e e2, h⟩
theorem fp_run {n : Nat} {b : EM Fl} {ds : List D} {P : D → Prop} (env : List (Option W)) (e : initS n (ds.map .d) [] = ⟨env, []⟩) (h : Run (bnd b pur) ⟨env, []⟩ (RetP P)) : ∃ d, pureP (bodyF n b) ds = some (.ok d) ∧ P d := by
  obtain ⟨o, s', e1, h⟩ := run_bnd h
  unfold pureP bodyF
  rw [e, e1]
  cases o with
  | ex _ _ _ => exact h.elim
  | ok f =>
    cases f with
    | nx => exact ⟨.non, rfl, h⟩
    | brk => exact h.elim
    | cnt => exact h.elim
    | ret w =>
      cases w with
      | d d => exact ⟨d, by simp only [fz_d], h⟩
      | loc n =>
        obtain ⟨d, st, h1, h2⟩ := h
        exact ⟨d, by simp only [h1], h2⟩
theorem fp_eq {n : Nat} {b : EM Fl} {ds : List D} {d : D} (env : List (Option W)) (e : initS n (ds.map .d) [] = ⟨env, []⟩) (h : Run (bnd b pur) ⟨env, []⟩ (RetP fun x => x = d)) : pureP (bodyF n b) ds = some (.ok d) := by
  obtain ⟨d', h1, rfl⟩ := fp_run env e h
  exact h1
def RetO (P : OO → Prop) : Out Fl → SS → Prop := fun o s => match o with
  | .ok (.ret (.loc n)) => ∃ o o', s.st[n]? = some (some o) ∧ o.fz (s.st.set n none) = some o' ∧ P o'
  | _ => False
theorem ro_lst {P : OO → Prop} {n : Nat} {ws : List W} {ds : List D} (e : st[n]? = some (some (.lst ws))) (e2 : allD ws = some ds) (h : P (.lst (ds.map .d))) : Run (pur (.ret (.loc n))) ⟨env, st⟩ (RetO P) := run_pur ⟨_, _, e, by
    unfold OO.fz
    rw [allD_eq e2]
    simp only [fzL_d], h⟩
theorem fo_eq {n : Nat} {b : EM Fl} {ds : List D} {o : OO} (env : List (Option W)) (e : initS n (ds.map .d) [] = ⟨env, []⟩) (h : Run (bnd b pur) ⟨env, []⟩ (RetO fun x => x = o)) : pureO (bodyF n b) ds = some (.ok o) := by
  obtain ⟨x, s', e1, h⟩ := run_bnd h
  unfold pureO bodyF
  rw [e, e1]
  cases x with
  | ex _ _ _ => exact h.elim
  | ok f =>
    cases f with
    | nx => exact h.elim
    | brk => exact h.elim
    | cnt => exact h.elim
    | ret w =>
      cases w with
      | d d => exact h.elim
      | loc n =>
        obtain ⟨o1, o2, h1, h2, h3⟩ := h
        subst h3
        simp only [h1, h2]
end
section
variable {β : Type} {s : SS} {Q : Out β → SS → Prop}
theorem rb_itI {k : List D → EM β} {xs : List Int} (h : Run (k (xs.map .int)) s Q) : Run (bnd (itK (.d (ints' xs))) k) s Q := h
theorem rb_itSs {k : List D → EM β} {xs : List Str} (h : Run (k (xs.map .str)) s Q) : Run (bnd (itK (.d (strs' xs))) k) s Q := h
end
/-! .. with what is asked behind -/
section
variable {β : Type} {env : List (Option W)} {st st' : Store} {s : SS} {Q : Out β → SS → Prop} {k : W → EM β}
theorem rl_append' {n : Nat} {ws : List W} {w : W} (e : st[n]? = some (some (.lst ws))) (e2 : st.set n (some (.lst (ws ++ [w]))) = st') (h : Run (k (.d .non)) ⟨env, st'⟩ Q) (hl : ws.length < 16777216) : Run (bnd (lft fun st => appendW st (.loc n) [w]) k) ⟨env, st⟩ Q := rl_append e hl e2 h
theorem rl_ixI' {xs : List Int} {i : Int} (h : Run (k (.d (.int (xs.getD i.toNat 0)))) ⟨env, st⟩ Q) (hi : 0 ≤ i ∧ i < xs.length) : Run (bnd (lft fun st => ixA st (.d (ints' xs)) (.d (.int i))) k) ⟨env, st⟩ Q := rl_ixI hi h
theorem rl_ixSs' {xs : List Str} {i : Int} (h : Run (k (.d (.str (xs.getD i.toNat "")))) ⟨env, st⟩ Q) (hi : 0 ≤ i ∧ i < xs.length) : Run (bnd (lft fun st => ixA st (.d (strs' xs)) (.d (.int i))) k) ⟨env, st⟩ Q := rl_ixSs hi h
theorem rl_ixS' {z : Str} {i : Int} (h : Run (k (.d (.str (chr1 (z.cps.toList.getD i.toNat 0))))) ⟨env, st⟩ Q) (hi : (0 ≤ i ∧ i < z.cps.toList.length) ∧ z.cps.toList.length ≤ 16777216) : Run (bnd (lft fun st => ixA st (.d (.str z)) (.d (.int i))) k) ⟨env, st⟩ Q := rl_ixS hi.1 hi.2 h
theorem rl_lenS' {z : Str} (h : Run (k (.d (.int z.length))) ⟨env, st⟩ Q) (hl : z.length ≤ 16777216) : Run (bnd (lft fun st => lenW st [.d (.str z)]) k) ⟨env, st⟩ Q := rl_lenS hl h
theorem rl_addS' {own : Bool} {i j : Str} (h : Run (k (.d (.str (i ++ j)))) ⟨env, st⟩ Q) (hl : i.length + j.length ≤ 16777216) : Run (bnd (lft fun st => addA own st (.d (.str i)) (.d (.str j))) k) ⟨env, st⟩ Q := rl_addS hl h
theorem rl_addL' {ds es : List D} (h : Run (k (.d (.lst (ds ++ es)))) ⟨env, st⟩ Q) (hl : ds.length + es.length ≤ 16777216) : Run (bnd (lft fun st => addA false st (.d (.lst ds)) (.d (.lst es))) k) ⟨env, st⟩ Q := rl_addL hl h
theorem rl_slS' {own : Bool} {z : Str} {lo hi : Option Int} (h : Run (k (.d (.str (cutS z lo hi)))) ⟨env, st⟩ Q) (hl : z.length ≤ 16777216) : Run (bnd (lft fun st => sliceA own st (.d (.str z)) lo hi) k) ⟨env, st⟩ Q := rl_slS hl h
theorem rl_mulS' {own : Bool} {z : Str} {n : Int} (h : Run (k (.d (.str (Txt.mul z n)))) ⟨env, st⟩ Q) (hs : z.length ≤ 1000 ∧ n ≤ 1000 ∧ 0 ≤ n) : Run (bnd (lft fun st => mulA own st (.d (.str z)) (.d (.int n))) k) ⟨env, st⟩ Q := rl_mulS hs h
theorem rl_mulI' {own : Bool} {i j : Int} (h : Run (k (.d (.int (i * j)))) ⟨env, st⟩ Q) (hs : (-18446744073709551616 < i ∧ i < 18446744073709551616) ∨ (-18446744073709551616 < j ∧ j < 18446744073709551616)) : Run (bnd (lft fun st => mulA own st (.d (.int i)) (.d (.int j))) k) ⟨env, st⟩ Q := rl_mulI hs h
theorem rl_mod' {i j : Int} (h : Run (k (.d (.int (i % j)))) ⟨env, st⟩ Q) (hj : 0 < j) : Run (bnd (lft fun st => intF modI st (.d (.int i)) (.d (.int j))) k) ⟨env, st⟩ Q := rl_mod hj h
theorem rl_div' {i j : Int} (h : Run (k (.d (.int (i / j)))) ⟨env, st⟩ Q) (hj : 0 < j ∧ j < 1000000000000000000000000000000) : Run (bnd (lft fun st => intF divI st (.d (.int i)) (.d (.int j))) k) ⟨env, st⟩ Q := rl_div hj h
theorem rb_rg1' {k : List D → EM β} {j : Int} (h : Run (k (rngL 0 j.toNat)) s Q) (hj : j < 1000000000 ∧ -1000000000 < j) : Run (bnd (rg1K [.d (.int j)]) k) s Q := rb_rg1 hj h
theorem rb_rg2' {k : List D → EM β} {i j : Int} (h : Run (k (rngL i (j - i).toNat)) s Q) (hj : (j < 1000000000 ∧ -1000000000 < j) ∧ i < 1000000000 ∧ -1000000000 < i) : Run (bnd (rg2K [.d (.int i), .d (.int j)]) k) s Q := rb_rg2 hj h
end
/-- own lists of whole numbers, of texts, of trees -/
def iw (xs : List Int) : List W := xs.map fun i => W.d (.int i)
def sw (xs : List Str) : List W := xs.map fun i => W.d (.str i)
theorem allD_iw (xs : List Int) : allD (iw xs) = some (xs.map D.int) := by
  have := allD_map (xs.map D.int)
  rw [List.map_map] at this
  exact this
theorem allD_sw (xs : List Str) : allD (sw xs) = some (xs.map D.str) := by
  have := allD_map (xs.map D.str)
  rw [List.map_map] at this
  exact this
theorem iw_snoc {xs : List Int} {v : Int} : iw xs ++ [W.d (.int v)] = iw (xs ++ [v]) := by unfold iw; simp
theorem sw_snoc {xs : List Str} {v : Str} : sw xs ++ [W.d (.str v)] = sw (xs ++ [v]) := by unfold sw; simp
theorem dw_snoc {xs : List D} {v : D} : xs.map W.d ++ [W.d v] = (xs ++ [v]).map W.d := by simp
theorem iw_len {xs : List Int} : (iw xs).length = xs.length := by unfold iw; simp
theorem sw_len {xs : List Str} : (sw xs).length = xs.length := by unfold sw; simp
/-! comprehensions that change nothing but their own name -/
inductive All2 {α γ : Type} (Y : α → γ → Prop) : List α → List γ → Prop where
  | nil : All2 Y [] []
  | cons {a : α} {b : γ} {l : List α} {r : List γ} (h : Y a b) (t : All2 Y l r) : All2 Y (a :: l) (b :: r)
theorem All2.len {α γ : Type} {Y : α → γ → Prop} {l : List α} {r : List γ} (h : All2 Y l r) : l.length = r.length := by
  induction h with
  | nil => rfl
  | cons _ _ ih => exact congrArg (· + 1) ih
def EvQ (s0 : SS) (Y : W → Prop) : Out W → SS → Prop := fun o s => s = s0 ∧ match o with
  | .ok w => Y w
  | .ex _ _ _ => False
theorem ev_ok {s : SS} {Y : W → Prop} {w : W} (h : Y w) : Run (pur w) s (EvQ s Y) := run_pur ⟨rfl, h⟩
section
variable {β : Type} {env : List (Option W)} {st : Store} {Q : Out β → SS → Prop} {k : W → EM β}
theorem compL_snd {α : Type} {f : α → D} {i : Nat} {tt : EM Bool} {el : EM W} (Y : α → W → Prop) (p : α → Bool)
    (ht : ∀ (a : α), tt ⟨env.set i (some (.d (f a))), st⟩ = some (.ok (p a), ⟨env.set i (some (.d (f a))), st⟩))
    (hs : ∀ (a : α), p a = true → ∃ w, el ⟨env.set i (some (.d (f a))), st⟩ = some (.ok w, ⟨env.set i (some (.d (f a))), st⟩) ∧ Y a w) : ∀ (l : List α) (acc : List W) (x : Option W), acc.length + l.length ≤ 16777216 →
      ∃ ws x', compL [i] (.name i) tt el (l.map f) acc ⟨env.set i x, st⟩ = some (.ok (acc ++ ws), ⟨env.set i x', st⟩) ∧ All2 Y (l.filter p) ws
  | [], acc, x, _ => ⟨[], x, by rw [List.append_nil]; rfl, .nil⟩
  | a :: l, acc, x, hl => by
    have hl : acc.length + (l.length + 1) ≤ 16777216 := hl
    have e0 : (bnd (wipS [i]) fun _ => asg (.name i) (.d (f a))) ⟨env.set i x, st⟩ = some (.ok (), ⟨env.set i (some (.d (f a))), st⟩) := by
      show some (Out.ok (), SS.mk (((env.set i x).set i none).set i (some (.d (f a)))) st) = _
      rw [List.set_set, List.set_set]
    have ed : compL [i] (.name i) tt el ((a :: l).map f) acc = bnd (bnd (wipS [i]) fun _ => asg (.name i) (.d (f a))) fun _ => bnd tt fun b => if b then bnd el fun w => (if acc.length < 16777216 then compL [i] (.name i) tt el (l.map f) (acc ++ [w]) else non) else compL [i] (.name i) tt el (l.map f) acc := rfl
    rw [ed, bnd_ok e0, bnd_ok (ht a)]
    cases hp : p a with
    | true =>
      obtain ⟨w, ew, hy⟩ := hs a hp
      rw [if_pos rfl, bnd_ok ew, if_pos (by omega)]
      obtain ⟨ws, x', h1, h2⟩ := compL_snd Y p ht hs l (acc ++ [w]) (some (.d (f a))) (by simp; omega)
      refine ⟨w :: ws, x', ?_, ?_⟩
      · rw [h1, List.append_assoc]
        rfl
      · rw [List.filter_cons_of_pos hp]
        exact .cons hy h2
    | false =>
      rw [if_neg Bool.false_ne_true]
      obtain ⟨ws, x', h1, h2⟩ := compL_snd Y p ht hs l acc (some (.d (f a))) (by omega)
      refine ⟨ws, x', h1, ?_⟩
      rw [List.filter_cons_of_neg (by rw [hp]; exact Bool.false_ne_true)]
      exact h2
theorem rb_compS {α : Type} {f : α → D} {i : Nat} {el : EM W} {ownr : Bool} {l : List α} {env' : List (Option W)} (Y : α → W → Prop) (he : env.set i none = env') (hl : l.length ≤ 16777216)
    (hs : ∀ (a : α), a ∈ l → ∀ env1, env.set i (some (.d (f a))) = env1 → Run (bnd el pur) ⟨env1, st⟩ (EvQ ⟨env1, st⟩ (Y a)))
    (hd : ∀ ws, All2 Y l ws → Run (bnd (lft (newL ownr ws)) k) ⟨env', st⟩ Q) : Run (bnd (compK [i] (.name i) (pur true) el ownr (l.map f)) k) ⟨env, st⟩ Q := by
  subst he
  have h1 : ∀ a : { a // a ∈ l }, (fun _ : { a // a ∈ l } => true) a = true → ∃ w, el ⟨env.set i (some (.d (f a.1))), st⟩ = some (.ok w, ⟨env.set i (some (.d (f a.1))), st⟩) ∧ Y a.1 w := fun a _ => by
    obtain ⟨o, s', e1, e2, h⟩ := run_bnd (hs a.1 a.2 _ rfl)
    subst e2
    cases o with
    | ok w => exact ⟨w, e1, h⟩
    | ex _ _ _ => exact h.elim
  obtain ⟨ws, x', h2, h3⟩ := compL_snd (env := env) (st := st) (f := fun a : { a // a ∈ l } => f a.1) (i := i) (tt := pur true) (el := el) (fun a => Y a.1) (fun _ => true) (fun _ => rfl) h1 l.attach [] env[i]?.join (by simpa using hl)
  have e0 : env.set i env[i]?.join = env := by
    apply List.ext_getElem?
    intro j
    by_cases hj : i = j
    · subst hj
      by_cases hlt : i < env.length
      · rw [List.getElem?_set_self hlt, List.getElem?_eq_getElem hlt]
        rfl
      · rw [List.set_eq_of_length_le (by omega)]
    · rw [List.getElem?_set_ne hj]
  rw [e0] at h2
  have e3 : l.attach.map (fun a : { a // a ∈ l } => f a.1) = l.map f := List.attach_map_val
  rw [e3, List.nil_append] at h2
  have h4 : All2 Y l ws := by
    have e5 : l.attach.filter (fun _ => true) = l.attach := by simp
    rw [e5] at h3
    have e6 : l = l.attach.map (fun a : { a // a ∈ l } => a.1) := by simp
    rw [e6]
    clear h2 h1 e3 e5 e6 e0 hs hd hl
    revert h3
    generalize l.attach = q
    intro h3
    induction h3 with
    | nil => exact .nil
    | cons h _ ih => exact .cons h ih
  obtain ⟨o, s2, e7, q⟩ := hd ws h4
  refine ⟨o, s2, ?_, q⟩
  rw [← e7]
  unfold bnd lft compK
  simp only [h2]
  cases newL ownr ws st with
  | none => rfl
  | some p =>
    show k p.1 ⟨(env.set i x').set i none, p.2⟩ = _
    rw [List.set_set]
end
theorem cut_le {z : Str} {lo hi : Option Int} {n : Nat} (h : z.length ≤ n) : (cutS z lo hi).length ≤ n := Nat.le_trans (cutS_length z lo hi) h
theorem app_le {a b : Str} {n m : Nat} (h1 : a.length ≤ n) (h2 : b.length ≤ m) : (a ++ b).length ≤ n + m := by
  rw [Str.length_append]
  exact Nat.add_le_add h1 h2
theorem chr1_len {c : Nat} : (chr1 c).length = 1 := rfl
theorem mul_len {x : Str} {n : Int} (h0 : 0 ≤ n) : (Txt.mul x n).length = x.length * n.toNat := by
  have h := PyProof.Rows.len_mul x n
  have e : decide (n < 0) = false := decide_eq_false (by omega)
  rw [e] at h
  simp only [Bool.false_eq_true, if_false] at h
  have e2 : ((x.length * n.toNat : Nat) : Int) = (x.length : Int) * n := by
    rw [Int.natCast_mul, Int.toNat_of_nonneg h0]
  omega
theorem eq_str (y z : Str) : D.eq (.str y) (.str z) = decide (y = z) := by
  unfold D.eq toPy PyData.eqv
  rw [Bool.eq_iff_iff]
  simp
theorem eq_int (y z : Int) : D.eq (.int y) (.int z) = decide (y = z) := by
  unfold D.eq toPy PyData.eqv
  rw [Bool.eq_iff_iff]
  simp
theorem any_str (z : Str) (zs : List Str) : ((zs.map D.str).any fun e => D.eq e (.str z)) = decide (z ∈ zs) := by
  rw [List.any_map]
  rw [Bool.eq_iff_iff]
  simp only [List.any_eq_true, Function.comp, eq_str, decide_eq_true_eq]
  exact ⟨fun ⟨x, h, e⟩ => e ▸ h, fun h => ⟨z, h, rfl⟩⟩
theorem flat_strs (zs : List Str) : (zs.map D.str).all flatD = true := by
  rw [List.all_map, List.all_eq_true]
  exact fun _ _ => rfl
section
variable {β : Type} {env : List (Option W)} {st st' : Store} {s : SS} {Q : Out β → SS → Prop} {k : W → EM β}
theorem inB_strT {z : Str} {zs : List Str} : inB st (.d (.str z)) (.d (.tup (zs.map .str))) = some (decide (z ∈ zs)) := by
  unfold inB
  simp only [snap_d, seqD, flat_strs, any_str, flatD, Bool.and_self, if_true]
theorem inB_strL {z : Str} {zs : List Str} : inB st (.d (.str z)) (.d (strs' zs)) = some (decide (z ∈ zs)) := by
  unfold inB strs'
  simp only [snap_d, seqD, flat_strs, any_str, flatD, Bool.and_self, if_true]
theorem rl_inT {z : Str} {zs : List Str} (h : Run (k (.d (.bl (decide (z ∈ zs))))) ⟨env, st⟩ Q) : Run (bnd (lft fun st => inA st (.d (.str z)) (.d (.tup (zs.map .str)))) k) ⟨env, st⟩ Q := rl_in inB_strT h
theorem rl_inL {z : Str} {zs : List Str} (h : Run (k (.d (.bl (decide (z ∈ zs))))) ⟨env, st⟩ Q) : Run (bnd (lft fun st => inA st (.d (.str z)) (.d (strs' zs))) k) ⟨env, st⟩ Q := rl_in inB_strL h
theorem rl_ninT {z : Str} {zs : List Str} (h : Run (k (.d (.bl (!decide (z ∈ zs))))) ⟨env, st⟩ Q) : Run (bnd (lft fun st => ninA st (.d (.str z)) (.d (.tup (zs.map .str)))) k) ⟨env, st⟩ Q := rl_nin inB_strT h
theorem rl_ninL {z : Str} {zs : List Str} (h : Run (k (.d (.bl (!decide (z ∈ zs))))) ⟨env, st⟩ Q) : Run (bnd (lft fun st => ninA st (.d (.str z)) (.d (strs' zs))) k) ⟨env, st⟩ Q := rl_nin inB_strL h
end
end EV
/-! EV16: what many laws share. -/
namespace EV
open PySem L2
local macro_rules | `(tactic| walk_at "go") => `(tactic| repeat (first
  | with_reducible refine rb_cst ?_
  | with_reducible refine rb_var (by with_unfolding_all rfl) ?_
  | with_reducible refine rb_op2 ?_
  | with_reducible refine rb_sq ?_
  | with_reducible refine rb_sqN ?_
  | with_reducible refine rb_sqR ?_
  | with_reducible refine rb_asgS ?_
  | with_reducible refine rb_asg (by dsimp only [List.set] <;> exact rfl) ?_
  | with_reducible refine rb_acons ?_
  | with_reducible refine rb_anil ?_
  | with_reducible refine rb_toB ?_
  | with_reducible refine rb_toBK ?_
  | with_reducible refine rb_ifE ?_
  | with_reducible refine rb_callB ?_
  | with_reducible refine rb_callE ?_
  | with_reducible refine rb_retS ?_
  | with_reducible refine rb_pur ?_
  | with_reducible refine rb_iteT ?_
  | with_reducible refine rb_iteF ?_
  | with_reducible refine rb_iteNT ?_
  | with_reducible refine rb_iteNF ?_
  | with_reducible refine rb_lst ?_
  | with_reducible refine rb_lstK (by decide) ?_
  | with_reducible refine rl_newF (by dsimp only [allD, Option.map] <;> exact rfl) ?_
  | with_reducible refine rb_slE ?_
  | with_reducible refine rb_partN ?_
  | with_reducible refine rb_partS ?_
  | with_reducible refine rb_partK ?_
  | with_reducible refine rb_exprS ?_
  | with_reducible refine rb_forS ?_
  | with_reducible refine rb_items ?_
  | with_reducible refine rb_itL ?_
  | with_reducible refine rb_itF ?_
  | with_reducible refine rb_itI ?_
  | with_reducible refine rb_itSs ?_
  | with_reducible refine rb_itT ?_
  | with_reducible refine rb_itS ?_
  | with_reducible refine rb_range1 ?_
  | with_reducible refine rb_range2 ?_
  | with_reducible refine rb_ntB ?_
  | with_reducible refine rb_anB ?_
  | with_reducible refine rb_orB ?_
  | with_reducible refine rb_anV ?_
  | with_reducible refine rb_orV ?_
  | with_reducible refine rb_ntV ?_
  | with_reducible refine rb_ofB ?_
  | with_reducible refine rb_chain ?_
  | with_reducible refine rb_chK ?_
  | with_reducible refine rb_bm ?_
  | with_reducible refine rb_bmK (by with_unfolding_all rfl) ?_
  | with_reducible refine rb_frz ?_
  | with_reducible refine rb_frzD ?_
  | with_reducible refine rb_compE ?_
  | with_reducible refine rb_wip (by dsimp only [wipeO, List.set] <;> exact rfl) ?_
  | with_reducible refine rb_fld ?_
  | with_reducible refine rb_meth ?_
  | with_reducible refine rb_tup ?_
  | with_reducible refine rb_trees ?_
  | with_reducible refine rb_treesK (by dsimp only [allD, Option.map] <;> exact rfl) ?_
  | with_reducible refine rb_tupK (by decide) ?_
  | with_reducible refine rl_mod (by decide) ?_
  | with_reducible refine rl_div (by decide) ?_
  | with_reducible refine rl_addI ?_
  | with_reducible refine rl_sub ?_
  | with_reducible refine rl_addL (by decide) ?_
  | with_reducible refine rl_neg ?_
  | with_reducible refine rl_mulI (Or.inr (by decide)) ?_
  | with_reducible refine rl_mulI (Or.inl (by decide)) ?_
  | with_reducible refine rl_append' (by with_unfolding_all rfl) (by dsimp only [List.set] <;> exact rfl) ?_ ?_
  | with_reducible refine rl_ixI (by first | omega | (decide +kernel)) ?_
  | with_reducible refine rl_ixI' ?_ ?_
  | with_reducible refine rl_ixSs (by first | omega | (decide +kernel)) ?_
  | with_reducible refine rl_ixSs' ?_ ?_
  | with_reducible refine rl_ixS' ?_ ?_
  | with_reducible refine rl_slI ?_
  | with_reducible refine rl_slL ?_
  | with_reducible refine rl_slF ?_
  | with_reducible refine rl_lenS (by first | omega | (decide +kernel)) ?_
  | with_reducible refine rl_lenS' ?_ ?_
  | with_reducible refine rl_addS (by first | omega | (decide +kernel)) ?_
  | with_reducible refine rl_addS' ?_ ?_
  | with_reducible refine rl_slS (by first | omega | (decide +kernel)) ?_
  | with_reducible refine rl_slS' ?_ ?_
  | with_reducible refine rl_addL' ?_ ?_
  | with_reducible refine rl_mulI (by first | omega | (decide +kernel)) ?_
  | with_reducible refine rl_mod (by first | omega | (decide +kernel)) ?_
  | with_reducible refine rl_div (by first | omega | (decide +kernel)) ?_
  | with_reducible refine rb_rg1 (by first | omega | (decide +kernel)) ?_
  | with_reducible refine rb_rg2 (by first | omega | (decide +kernel)) ?_
  | with_reducible refine rl_mulI' ?_ ?_
  | with_reducible refine rl_mod' ?_ ?_
  | with_reducible refine rl_div' ?_ ?_
  | with_reducible refine rl_mulS' ?_ ?_
  | with_reducible refine rb_gPe (by dsimp only [allD, Option.map] <;> exact rfl) rfl (by assumption) ?_
  | with_reducible refine rl_lt ?_
  | with_reducible refine rl_le ?_
  | with_reducible refine rl_gt ?_
  | with_reducible refine rl_ge ?_
  | with_reducible refine rl_eqI ?_
  | with_reducible refine rl_eqS ?_
  | with_reducible refine rl_neI ?_
  | with_reducible refine rl_neS ?_
  | with_reducible refine rl_isBl ?_
  | with_reducible refine rl_isnBl ?_
  | with_reducible refine rl_isN ?_
  | with_reducible refine rl_isnN ?_
  | with_reducible refine rl_ninC ?_
  | with_reducible refine rl_inC ?_
  | with_reducible refine rl_intB ?_
  | with_reducible refine rb_bnd ?_
  | with_reducible refine rl_isi (by with_unfolding_all rfl) ?_
  | with_reducible refine rl_clear (by with_unfolding_all rfl) (by dsimp only [List.set] <;> exact rfl) ?_
  | with_reducible refine rl_inT ?_
  | with_reducible refine rl_inL ?_
  | with_reducible refine rl_ninT ?_
  | with_reducible refine rl_ninL ?_
  | with_reducible refine rl_lenL ?_
  | with_reducible refine rl_lenF ?_
  | with_reducible refine rl_lenT ?_
  | with_reducible refine rl_newO (by dsimp only [List.length_cons, List.length_nil, Nat.reduceAdd] <;> exact rfl) (by dsimp only [List.cons_append, List.nil_append] <;> exact rfl) ?_
  | with_reducible refine lq_nx ?_
  | with_reducible refine lq_ret ?_
  | with_reducible refine lq_cnt ?_
  | with_reducible refine lq_brk ?_
  | with_reducible refine cq_no ?_
  | with_reducible refine cq_yes ?_
  | with_reducible refine rp_d ?_
  | with_reducible refine rp_nx ?_
  | with_reducible refine ev_ok ?_
  | with_reducible refine rb_iteP (by decide) ?_
  | with_reducible refine rb_iteN (by decide) ?_))
local macro_rules | `(tactic| walk_at "len") => `(tactic| first
  | omega
  | (decide +kernel)
  | grind [L2.cutS_length, Str.length_append, chr1_len])
theorem clen (z : Str) : z.cps.toList.length = z.length := rfl
theorem rl_joinE {β : Type} {env : List (Option W)} {st : Store} {Q : Out β → SS → Prop} {k : W → EM β} {zs : List Str} (hl : (zs.map fun x => x.length).sum ≤ 16777216) (h : Run (k (.d (.str (Txt.join "" zs)))) ⟨env, st⟩ Q) : Run (bnd (lft fun st => joinW st (.d (.str (Str.ofString ""))) [.d (strs' zs)]) k) ⟨env, st⟩ Q := by
  refine rb_lft ?_ h
  unfold joinW strs'
  simp only [snap_d, strsD_map]
  have e : (Str.ofString "").length = 0 := rfl
  rw [e, Nat.mul_zero, Nat.add_zero, if_pos hl]
theorem join_len0 (zs : List Str) : (Txt.join "" zs).length ≤ (zs.map fun x => x.length).sum := by
  have h := StrLaws.join_length_le (Str.ofString "") zs
  have e : (Str.ofString "").length = 0 := rfl
  rw [e, Nat.mul_zero, Nat.add_zero] at h
  have e2 : Txt.join "" zs = Str.join "" zs := StrLaws.glued_eq_join _ _
  rw [e2]
  exact h
theorem sum_one : ∀ {zs : List Str}, (∀ z ∈ zs, z.length = 1) → (zs.map fun x => x.length).sum = zs.length
  | [], _ => rfl
  | z :: zs, h => by
    have h1 := h z List.mem_cons_self
    have h2 := sum_one fun y hy => h y (List.mem_cons_of_mem _ hy)
    simp only [List.map_cons, List.sum_cons, h1, h2, List.length_cons]
    omega
/-- a value that is a text of one sign -/
theorem ones_of {α : Type} {l : List α} {ws : List W} (h : All2 (fun _ w => ∃ c, w = W.d (.str (chr1 c))) l ws) : ∃ zs : List Str, ws = sw zs ∧ zs.length = l.length ∧ ∀ z ∈ zs, z.length = 1 := by
  induction h with
  | nil => exact ⟨[], rfl, rfl, fun _ h => nomatch h⟩
  | cons h _ ih =>
    obtain ⟨c, rfl⟩ := h
    obtain ⟨zs, rfl, e, h⟩ := ih
    refine ⟨chr1 c :: zs, rfl, congrArg (· + 1) e, fun z hz => ?_⟩
    rcases List.mem_cons.mp hz with e | e
    · rw [e]; rfl
    · exact h z e
theorem cut_len {α : Type} (xs : List α) (lo hi : Option Int) : (cutW xs lo hi).length ≤ xs.length := by
  unfold cutW
  rw [List.length_take, List.length_drop]
  omega
abbrev nats (xs : List Int) : Prop := ∀ x ∈ xs, 0 ≤ x ∧ x < 429496730
theorem nat_get {xs : List Int} (h : nats xs) (i : Nat) : 0 ≤ xs.getD i 0 ∧ xs.getD i 0 < 429496730 := by
  rw [List.getD_eq_getElem?_getD]
  cases e : xs[i]? with
  | none => exact ⟨Int.le_refl _, by decide⟩
  | some x => exact h x (List.mem_of_getElem? e)
def b_stream : EM Fl := (sq (asgS (.name 2) (lstE true anil)) (sq (asgS (.name 3) (op2 (intF modI) (var 0) (cst (.int 2147483647)))) (sq (forS (range1E (acons (var 1) anil)) (.name 4) (sq (asgS (.name 3) (op2 (intF modI) (op2 (addA false) (op2 (addA false) (op2 (mulA false) (var 3) (cst (.int 48271))) (op2 (mulA false) (op2 (mulA false) (cst (.int 7919)) (var 4)) (var 4))) (cst (.int 11))) (cst (.int 2147483647)))) (exprS (bmE "list" appendW (var 2) (acons (op2 (intF divI) (var 3) (cst (.int 5))) anil))))) (retS (var 2)))))
theorem stream_ok (c m : Int) (hm : 0 ≤ m ∧ m < 1000) : ∃ d, pureP (bodyF 5 b_stream) [.int c, .int m] = some (.ok d) ∧ ∃ xs : List Int, d = ints' xs ∧ xs.length = m.toNat ∧ nats xs := by
  refine fp_run [some (.d (.int c)), some (.d (.int m)), none, none, none] rfl ?_
  unfold b_stream
  walk_at "go"
  unfold rngL
  refine rb_loop (f := fun (i : Nat) => D.int (0 + (i : Int))) (fun l s => ∃ (n : Int) (z : Option W) (ws : List W) (xs : List Int), s = ⟨[some (.d (.int c)), some (.d (.int m)), some (.loc 0), some (.d (.int n)), z], [some (.lst ws)]⟩ ∧ ws = iw xs ∧
    0 ≤ n ∧ nats xs ∧ xs.length + l.length = m.toNat ∧ (∀ b ∈ l, b < 1000)) ?_ ?_ _ _ ⟨_, _, _, [], rfl, rfl, by omega, (fun _ h => nomatch h), by simp, (fun b h => by have := List.mem_range.mp h; omega)⟩
  · rintro a l s ⟨n, z, ws, xs, rfl, rfl, hn, hx, hl, hb⟩
    have hl : xs.length + (l.length + 1) = m.toNat := hl
    have ha := hb a List.mem_cons_self
    have hp : 0 ≤ 7919 * (0 + (a : Int)) * (0 + a) := Int.mul_nonneg (by omega) (by omega)
    walk_at "go"
    · refine ⟨_, _, _, _, rfl, iw_snoc, by omega, ?_, by simp; omega, fun b h => hb b (List.mem_cons_of_mem _ h)⟩
      intro x h
      rcases List.mem_append.mp h with h | h
      · exact hx x h
      · rw [List.mem_singleton.mp h]
        omega
    · rw [iw_len]; omega
  · rintro s ⟨n, z, ws, xs, rfl, rfl, hn, hx, hl, hb⟩
    walk_at "go"
    exact rp_lst rfl (allD_iw xs) ⟨xs, rfl, by simpa using hl, hx⟩
theorem find_one {x : Str} {c : Nat} (h : ¬ c ∈ x.cps.toList) : Txt.find x (chr1 c) = -1 := by
  have h2 := StrLaws.found_one x c
  rw [decide_eq_false h] at h2
  unfold Txt.find
  show (match Builtin.Str.occurrences x ⟨#[c]⟩ 0 x.length 1 with | i :: _ => (i : Int) | [] => -1) = _
  cases e : Builtin.Str.occurrences x ⟨#[c]⟩ 0 x.length 1 with
  | nil => rfl
  | cons a r => rw [e] at h2; simp at h2
theorem chr1_inj {c d : Nat} : chr1 c = chr1 d ↔ c = d := by
  unfold chr1
  simp
def figL : List Nat := (Str.ofString "0123456789").cps.toList
theorem figL_iff (c : Nat) : c ∈ figL ↔ 48 ≤ c ∧ c ≤ 57 := by
  have e : figL = [48, 49, 50, 51, 52, 53, 54, 55, 56, 57] := by decide +kernel
  rw [e]
  simp only [List.mem_cons, List.not_mem_nil, or_false]
  omega
end EV
/-! EV17: more of classes. -/
namespace EV
open PySem PySem.Spec PyProof.Rows L2
/-- a class without an `__init__` of its own -/
structure Mk0 (K : PySem.W.Frag) (C : Addr) : Prop where
  makes : PySem.W.makesIn K C = true
  init : PySem.W.findIn K (.ref C) "__init__" = some (some (.builtin "object.__init__"))
  kp : PySem.W.keepIn K (.ref C) = true
section
variable {X : Cx} {c : Kx} {U : WX} {j k : Nat} {f C : Addr} {x : Str} {p pos : Pos} {dvs : List V} {dws : List W} {np : Nat} {F : FF}
theorem pe_mk00 (M : Mk0 X.K C) (hg : Gl X x) (hm : X.mg x = some (.ref C)) (hdb : (x == ("__debug__" : Str)) = false := by decide) :
    PE X (.Call (.Name x p) [] [] pos) (fun σ H Q => ∀ a dx, H a = none → H dx = none → dx ≠ a → Q (.ref a) (upd (upd H dx (.own a)) a (.ins C dx []))) := ⟨fun pins s σ H Q I h => by
  refine wpAny_Call_Name_kw (ld_glob I hg hm (PySem.W.callWith_K0 I.kIn M.kp ?_) hdb)
  have hq := h (s.heap.objs.size + 1) s.heap.objs.size (I.hok.fresh (Nat.le_succ _)) (I.hok.fresh (Nat.le_refl _)) (Nat.ne_of_lt (Nat.lt_succ_self _))
  have I2 := Inv.made (C := C) I
  have Y := PySem.W.makes_of (M := model X.prog X.w) I.kIn M.makes
  refine wpAny_call (L2.make_map0 I.kIn M.makes M.init (fun self => PySem.W.Looks.of_pure (PySem.W.oi_bind self)) ?_)
  have e2 : ((s.heap.push PySem.W.emptyDict).push (PySem.W.instObj C s.heap.objs.size)).get? (s.heap.objs.size + 1) = some (PySem.W.instObj C s.heap.objs.size) := by
    have := Heap.get?_push_size (s.heap.push PySem.W.emptyDict) (o := PySem.W.instObj C s.heap.objs.size) rfl
    rwa [Heap.size_push] at this
  have t1 : PySem.W.Looks (model X.prog X.w) ((s.heap.push PySem.W.emptyDict).push (PySem.W.instObj C s.heap.objs.size)) (typeOf (.ref (s.heap.objs.size + 1))) (.ref C) := (PySem.W.Looks.ld e2).andThen PySem.W.Looks.now
  have t2 : PySem.W.Looks (model X.prog X.w) ((s.heap.push PySem.W.emptyDict).push (PySem.W.instObj C s.heap.objs.size)) (isInstance (.ref (s.heap.objs.size + 1)) (.type "object")) true :=
    t1.andThen (Y.top.keeps fun b o e => Heap.get?_push_of_some _ (Heap.get?_push_of_some _ e))
  refine codeAny_call_builtin PySem.W.oi_plain PySem.W.entry_oi (@PySem.W.check_slot (model X.prog X.w) _ _ _ "object.__init__" "object" "__init__" (.ref (s.heap.objs.size + 1)) [] [] _ PySem.W.oi_kind PySem.W.oi_split t2 (PySem.W.oi_args (.ref (s.heap.objs.size + 1))) ?_)
  rw [PySem.W.oi_run]
  exact wpAny_pure (And.intro rfl ⟨V.ref (s.heap.objs.size + 1), _, I2, rfl, hq⟩)⟩
/-- nothing is written -/
def F00 : FF := fun _ st => some (.ok (.d .non), st)
theorem ee_mk0P (hK : X.K = c.K) (hk : c.ct[j]? = some C) (hc : Cls c.K C) (M : Mk0 X.K C) (hg : Gl X x) (hm : X.mg x = some (.ref C)) (hdb : (x == ("__debug__" : Str)) = false := by decide) :
    EE c X U (.Call (.Name x p) [] [] pos) (mkP j 1 F00 [] anil) :=
  EE.mk1 hK (pe_mk00 M hg hm hdb) fun ρ G s σ H Q hR w => by
    obtain ⟨ρ1, G1, s1, R1, w1⟩ := wp_mkP (U := U) (np := 1) (F := F00) (dws := []) (dvs := []) (m := anil) DefOk.nil hk hc hR w
    have w2 := Wp.pur R1 w1 [] rfl
    intro a dx h1 h2 ne
    obtain ⟨ρ2, G2, st, ws, r, rw', hl, q⟩ := w2 a dx h1 h2 ne
    exact (q .non ρ2 G2 _ Stp.refl r .non).2
theorem ee_mk0O (hK : X.K = c.K) (hk : c.ct[j]? = some C) (hc : Cls c.K C) (M : Mk0 X.K C) (hg : Gl X x) (hm : X.mg x = some (.ref C)) (hdb : (x == ("__debug__" : Str)) = false := by decide) :
    EE c X U (.Call (.Name x p) [] [] pos) (mkO j 1 F00 [] anil) :=
  EE.mk1 hK (pe_mk00 M hg hm hdb) fun ρ G s σ H Q hR w => by
    obtain ⟨ρ1, G1, s1, R1, w1⟩ := wp_mkO (U := U) (np := 1) (F := F00) (dws := []) (dvs := []) (m := anil) DefOk.nil hk hc hR w
    have w2 := Wp.pur R1 w1 [] rfl
    intro a dx h1 h2 ne
    obtain ⟨ρ2, G2, st, ws, r, rw', hl, q⟩ := w2 a dx h1 h2 ne
    exact (q .non ρ2 G2 _ Stp.refl r .non).2
theorem ee_mkP0 (hK : X.K = c.K) (hd : DefOk c dws dvs) (hk : c.ct[j]? = some C) (hc : Cls c.K C) (M : Mk X.K C f) (Fn : FnS X.prog X.w X.K X.mg X.base k f (spF c np F) dvs) (hr : Room (k + 1) X.A) (tk : Takes X U) (hg : Gl X x) (hm : X.mg x = some (.ref C))
    (hdb : (x == ("__debug__" : Str)) = false := by decide) : EE c X U (.Call (.Name x p) [] [] pos) (mkP j np F dws anil) :=
  EE.mk1 hK (pe_mkC0 M Fn hr tk hg hm hdb) fun ρ G s σ H Q hR w => by
    obtain ⟨ρ1, G1, s1, R1, w1⟩ := wp_mkP (U := U) (m := anil) hd hk hc hR w
    exact Wp.pur R1 w1 [] rfl
theorem ee_mkO0 (hK : X.K = c.K) (hd : DefOk c dws dvs) (hk : c.ct[j]? = some C) (hc : Cls c.K C) (M : Mk X.K C f) (Fn : FnS X.prog X.w X.K X.mg X.base k f (spF c np F) dvs) (hr : Room (k + 1) X.A) (tk : Takes X U) (hg : Gl X x) (hm : X.mg x = some (.ref C))
    (hdb : (x == ("__debug__" : Str)) = false := by decide) : EE c X U (.Call (.Name x p) [] [] pos) (mkO j np F dws anil) :=
  EE.mk1 hK (pe_mkC0 M Fn hr tk hg hm hdb) fun ρ G s σ H Q hR w => by
    obtain ⟨ρ1, G1, s1, R1, w1⟩ := wp_mkO (U := U) (m := anil) hd hk hc hR w
    exact Wp.pur R1 w1 [] rfl
end
/-! facts about classes, in lists -/
def NaL (c : Kx) (f : Str) : List (Nat × Addr) → Prop
  | [] => True
  | p :: r => (c.ct[p.1]? = some p.2 ∧ NoAttr c.K p.2 f) ∧ NaL c f r
theorem NaL.ok {c : Kx} {f : Str} : ∀ {ps : List (Nat × Addr)}, NaL c f ps → ∀ k C, (ps.map (·.1)).contains k = true → c.ct[k]? = some C → NoAttr c.K C f
  | [], _, k, C, h, _ => by simp at h
  | p :: r, ⟨⟨h1, h2⟩, t⟩, k, C, h, e => by
    by_cases q : k = p.1
    · subst q
      rw [h1] at e
      cases e
      exact h2
    · refine NaL.ok t k C ?_ e
      simp only [List.map_cons, List.contains_cons, Bool.or_eq_true, beq_iff_eq] at h
      exact h.resolve_left q
/-- a table of methods -/
def MeL (c : Kx) (X : Cx) (mn : Str) : List (Nat × (List W → EM W)) → Prop
  | [] => True
  | p :: r => MethOk c X mn p.1 p.2 ∧ MeL c X mn r
theorem MeL.ok {c : Kx} {X : Cx} {mn : Str} : ∀ {tbl : List (Nat × (List W → EM W))}, MeL c X mn tbl → ∀ k g, tbl.lookup k = some g → MethOk c X mn k g
  | [], _, k, g, e => by cases e
  | (i, h) :: r, ⟨h1, t⟩, k, g, e => by
    unfold List.lookup at e
    by_cases q : k = i
    · subst q
      simp at e
      subst e
      exact h1
    · have : (k == i) = false := by simpa using q
      rw [this] at e
      exact MeL.ok t k g e
theorem MethOk.of {c : Kx} {X : Cx} {mn : Str} {k j : Nat} {C f : Addr} {sp : Sp} {dvs : List V} {dws : List W} {g0 : List W → EM W} (hC : c.ct[k]? = some C) (hm : Meth c.K C mn f) (F : FnS X.prog X.w X.K X.mg X.base j f sp dvs) (hr : Room j X.A) (hs : SpA c sp g0) (hd : DefOk c dws dvs) :
    MethOk c X mn k fun ws => g0 (ws ++ dws) := ⟨C, f, sp, dvs, dws, g0, j, hC, hm, F, hr, hs, hd, rfl⟩
/-! isinstance of own classes -/
def TyL (c : Kx) (u : Value) : List (Ty × Bool) → Prop
  | [] => True
  | p :: r => TyFact c u p.1 p.2 ∧ TyL c u r
theorem TyL.ok {c : Kx} {u : Value} : ∀ {q : List (Ty × Bool)}, TyL c u q → ∀ t b, q.lookup t = some b → TyFact c u t b
  | [], _, t, b, e => by cases e
  | (i, h) :: r, ⟨h1, z⟩, t, b, e => by
    unfold List.lookup at e
    by_cases q : t = i
    · subst q
      simp at e
      subst e
      exact h1
    · have : (t == i) = false := by simpa using q
      rw [this] at e
      exact TyL.ok z t b e
theorem TyFact.ofCl {c : Kx} {u : Value} {k : Nat} {C : Addr} {b : Bool} (hC : c.ct[k]? = some C) (i : InsT c.K C) (h : PySem.W.kitOne c.K (.ref C) u = some b) : TyFact c u (.cl k) b := fun C' e => by
  rw [hC] at e
  cases e
  exact ⟨i, h⟩
/-! the law's end -/
def spLawK (K : PySem.W.Frag) : Sp := fun vs H Q _ => ∃ a, ∃ ns : List Int, vs = [V.ref a] ∧ SqL K H a (ns.map V.int) ∧ ns.length ≤ 63 ∧ ∀ H', Q (V.bl true) H'
theorem law_sp {c : Kx} {F : FP} (hF : ∀ ns : List Int, ns.length ≤ 63 → F [.fls (ns.map .int)] = some (.ok (.bl true))) {vs : List V} {H : Hp} {Q : VK} {E : XK} (h : spLawK c.K vs H Q E) : spP c 1 F vs H Q E := by
  obtain ⟨a, ns, rfl, hS, hl, q⟩ := h
  refine ⟨H, [.fls (ns.map .int)], Same.refl _, .cons (.fls hS (RepDs.ints ns)) .nil, rfl, ?_⟩
  rw [hF ns hl]
  intro v G' H' g r
  cases r
  exact q H'
/-! x[i] = e, of an own list -/
def setLW (st : Store) (o i y : W) : Option (Unit × Store) := match i with
  | .d (.int k) => match wrL st o fun ws => (ixN ws.length k).map fun j => (ws.set j y, .d .non) with
    | some (_, st') => some ((), st')
    | none => none
  | _ => none
def setL (mo mi me : EM W) : EM Fl := bnd me fun y => bnd mo fun o => bnd mi fun i => bnd (lft fun st => setLW st o i y) fun _ => pur .nx
section
variable {c : Kx} {X : Cx} {U : WX} {o i e : Expr} {mo mi me : EM W} {pos pos' : Pos}
theorem es_setL (he : EE c X U e me) (ho : EE c X U o mo) (hi : EE c X U i mi)
    (ha : ∀ v, assign (.Subscript o i pos') X.env v = (do
      let ov ← holding [v] (eval o X.env)
      let iv ← holding [v, ov] (eval i X.env)
      standAt pos'
      holding [v, ov, iv] (setItem ov iv v)
      release [v, ov, iv] []) := by intro _; rfl)
    (hs : swapsWithSole [.Subscript o i pos'] e pos.line X.env = pure false := by rfl) (hw : swappedStores [.Subscript o i pos'] e X.env = pure none := by rfl)
    (h1 : (assignEach [.Subscript o i pos'] X.env).map (·.2) = [assign (.Subscript o i pos') X.env] := by rfl) : ES c X U (.Assign [.Subscript o i pos'] e pos) (setL mo mi me) :=
  ⟨he.K, PS.imp (ps_asg he.pe (pg_sub ho.pe hi.pe set_list ha) hs hw h1) fun D σ H ⟨ρ, G, s, hR, w⟩ => ⟨ρ, G, s, hR, (Ws.bndE hR w).imp fun y ρ1 G1 H1 s1 ⟨S1, R1, w1⟩ v rv =>
    ⟨ρ1, G1, s1, R1, (Ws.bndE R1 w1).imp fun z ρ2 G2 H2 s2 ⟨S2, R2, w2⟩ vo ro => ⟨ρ2, G2, s2, R2, (Ws.bndE R2 w2).imp fun iw ρ3 G3 H3 s3 ⟨S3, R3, w3⟩ vi ri => by
      obtain ⟨_, st', e1, q⟩ := Wp.lft (Ws.bndE R3 w3)
      unfold setLW at e1
      split at e1
      · rename_i k _
        split at e1
        · rename_i w st2 e2
          cases e1
          obtain ⟨a, vs, ws, ws', rfl, hH, r1, hg, h4⟩ := wrL_ok R3.rs ((ro.mono S3.rho S3.same)) e2
          cases hj : ixN ws.length k with
          | none => rw [hj] at hg; cases hg
          | some j =>
            rw [hj] at hg
            cases hg
            cases ri
            obtain ⟨S4, r4⟩ := h4 (vs.set j v) (r1.set j ((rv.mono S2.rho S2.same).mono S3.rho S3.same))
            have q2 := q ρ3 G3 _ S4 ⟨r4, R3.env, R3.len⟩
            exact ⟨a, vs, k, j, rfl, rfl, hH, by rw [r1.len]; exact hj, Ws.pur (U := U) q2.2.1 q2.2.2⟩
        · cases e1
      · cases e1⟩⟩⟩⟩
end
section
variable {β : Type} {env : List (Option W)} {st : Store} {Q : Out β → SS → Prop}
theorem rb_setL {k : Fl → EM β} {mo mi me : EM W} {s : SS} (h : Run (bnd me fun y => bnd mo fun o => bnd mi fun i => bnd (lft fun st => setLW st o i y) fun _ => k .nx) s Q) : Run (bnd (setL mo mi me) k) s Q := by
  unfold setL
  rw [bnd_assoc]
  have e : (fun a => bnd (bnd mo fun o => bnd mi fun i => bnd (lft fun st => setLW st o i a) fun _ => pur Fl.nx) k) = fun y => bnd mo fun o => bnd mi fun i => bnd (lft fun st => setLW st o i y) fun _ => k .nx := by
    funext a
    rw [bnd_assoc]
    congr 1
    funext b
    rw [bnd_assoc]
    congr 1
    funext c
    rw [bnd_assoc]
    rfl
  rw [e]
  exact h
theorem rl_setL {k : Unit → EM β} {n : Nat} {ws : List W} {i : Int} {j : Nat} {y : W} {st' : Store} (e : st[n]? = some (some (.lst ws))) (hj : ixN ws.length i = some j) (e2 : st.set n (some (.lst (ws.set j y))) = st') (h : Run (k ()) ⟨env, st'⟩ Q) : Run (bnd (lft fun st => setLW st (.loc n) (.d (.int i)) y) k) ⟨env, st⟩ Q := by
  subst e2
  refine rb_lft (a := ()) ?_ h
  unfold setLW wrL
  simp only [e, hj, Option.map]
theorem rl_setL' {k : Unit → EM β} {n : Nat} {ws : List W} {i : Int} {y : W} {st' : Store} (e : st[n]? = some (some (.lst ws))) (e2 : st.set n (some (.lst (ws.set i.toNat y))) = st') (h : Run (k ()) ⟨env, st'⟩ Q) (hj : 0 ≤ i ∧ i < ws.length) : Run (bnd (lft fun st => setLW st (.loc n) (.d (.int i)) y) k) ⟨env, st⟩ Q :=
  rl_setL e (by unfold ixN; rw [if_pos hj.1, if_pos hj.2]) e2 h
end
/-! running constructors -/
def mkR (k np : Nat) (F : FF) (dws : List W) (ds : List D) : Option D := match (if (.loc 0 :: (ds.map .d ++ dws)).length = np then F (.loc 0 :: (ds.map .d ++ dws)) [some (.ins k [] [])] else none) with
  | some (.ok (.d .non), st) => match fz 20 (.loc 0) st with
    | some (d, _) => some d
    | none => none
  | _ => none
def mkK (k np : Nat) (F : FF) (dws : List W) (ds : List D) : EM W := match (if (.loc 0 :: (ds.map .d ++ dws)).length = np then F (.loc 0 :: (ds.map .d ++ dws)) [some (.ins k [] [])] else none) with
  | some (.ok (.d .non), st) => match fz 20 (.loc 0) st with
    | some (d, _) => pur (.d d)
    | none => non
  | some (.ex C ks es, _) => thr C ks es
  | _ => non
section
variable {β : Type} {env : List (Option W)} {st : Store} {s : SS} {Q : Out β → SS → Prop} {k : W → EM β}
theorem mkP_eq (i np : Nat) (F : FF) (dws : List W) (m : EM (List W)) : mkP i np F dws m = bnd (treesE m) (mkK i np F dws) := rfl
theorem rb_mkP {i np : Nat} {F : FF} {dws : List W} {m : EM (List W)} (h : Run (bnd (treesE m) fun ds => bnd (mkK i np F dws ds) k) s Q) : Run (bnd (mkP i np F dws m) k) s Q := by rw [mkP_eq]; exact rb_bnd h
theorem mkK_eq {i np : Nat} {F : FF} {dws : List W} {ds : List D} {d : D} (e : mkR i np F dws ds = some d) : mkK i np F dws ds = pur (.d d) := by
  unfold mkR at e
  unfold mkK
  generalize (if (W.loc 0 :: (ds.map .d ++ dws)).length = np then F (.loc 0 :: (ds.map .d ++ dws)) [some (.ins i [] [])] else none) = q at e
  cases q with
  | none => cases e
  | some p =>
    obtain ⟨o, st⟩ := p
    cases o with
    | ex _ _ _ => cases e
    | ok w =>
      cases w with
      | loc _ => cases e
      | d x =>
        cases x with
        | non =>
          simp only at e ⊢
          cases h2 : fz 20 (.loc 0) st with
          | none => rw [h2] at e; cases e
          | some y => rw [h2] at e; cases e; rfl
        | _ => cases e
theorem rb_mkK {i np : Nat} {F : FF} {dws : List W} {ds : List D} {d : D} (e : mkR i np F dws ds = some d) (h : Run (k (.d d)) s Q) : Run (bnd (mkK i np F dws ds) k) s Q := by rw [mkK_eq e]; exact h
end
/-! functions that write the store -/
def RetF (P : W → Store → Prop) : Out Fl → SS → Prop := fun o s => match o with
  | .ok .nx => P (.d .non) s.st
  | .ok (.ret w) => P w s.st
  | _ => False
theorem ff_run {n : Nat} {b : EM Fl} {ws : List W} {st : Store} {P : W → Store → Prop} (env : List (Option W)) (e : initS n ws st = ⟨env, st⟩) (h : Run (bnd b pur) ⟨env, st⟩ (RetF P)) : ∃ w st', bodyF n b ws st = some (.ok w, st') ∧ P w st' := by
  obtain ⟨o, s', e1, h⟩ := run_bnd h
  unfold bodyF
  rw [e, e1]
  cases o with
  | ex _ _ _ => exact h.elim
  | ok f =>
    cases f with
    | nx => exact ⟨_, _, rfl, h⟩
    | brk => exact h.elim
    | cnt => exact h.elim
    | ret w => exact ⟨_, _, rfl, h⟩
section
variable {β : Type} {env : List (Option W)} {st : Store} {s : SS} {Q : Out β → SS → Prop} {k : W → EM β}
theorem rf_nx {P : W → Store → Prop} (h : P (.d .non) st) : Run (pur .nx) ⟨env, st⟩ (RetF P) := run_pur h
theorem rf_ret {P : W → Store → Prop} {w : W} (h : P w st) : Run (pur (.ret w)) ⟨env, st⟩ (RetF P) := run_pur h
theorem rb_gF {np : Nat} {F : FF} {ws : List W} {P : W → Store → Prop} (hn : ws.length = np) (h : ∃ w st', F ws st = some (.ok w, st') ∧ P w st') (hk : ∀ w st', P w st' → Run (k w) ⟨env, st'⟩ Q) : Run (bnd (gF np F (ws ++ [])) k) ⟨env, st⟩ Q := by
  obtain ⟨w, st', h1, h2⟩ := h
  refine rb_eq (a := w) (s1 := ⟨env, st'⟩) ?_ (hk w st' h2)
  unfold gF callF
  rw [List.append_nil, if_pos hn, bnd_pur]
  show outF (F ws st) ⟨env, st⟩ = _
  rw [h1]
  rfl
end
/-! ways that meet again -/
def JoinQ (P : SS → Prop) : Out Fl → SS → Prop := fun o s => match o with
  | .ok .nx => P s
  | _ => False
section
variable {β : Type} {env : List (Option W)} {st : Store} {s : SS} {Q : Out β → SS → Prop}
theorem rb_join {k : Fl → EM β} {m : EM Fl} (P : SS → Prop) (h1 : Run (bnd m pur) s (JoinQ P)) (h2 : ∀ s', P s' → Run (k .nx) s' Q) : Run (bnd m k) s Q := by
  obtain ⟨o, s', e, h⟩ := run_bnd h1
  cases o with
  | ex _ _ _ => exact h.elim
  | ok f =>
    cases f with
    | nx => exact rb_eq e (h2 s' h)
    | ret _ => exact h.elim
    | brk => exact h.elim
    | cnt => exact h.elim
theorem jq_nx {P : SS → Prop} (h : P s) : Run (pur .nx) s (JoinQ P) := run_pur h
theorem any_int (z : Int) (zs : List Int) : ((zs.map D.int).any fun e => D.eq e (.int z)) = decide (z ∈ zs) := by
  rw [List.any_map]
  rw [Bool.eq_iff_iff]
  simp only [List.any_eq_true, Function.comp, eq_int, decide_eq_true_eq]
  exact ⟨fun ⟨x, h, e⟩ => e ▸ h, fun h => ⟨z, h, rfl⟩⟩
theorem flat_ints (zs : List Int) : (zs.map D.int).all flatD = true := by
  rw [List.all_map, List.all_eq_true]
  exact fun _ _ => rfl
theorem rl_inTI {k : W → EM β} {z : Int} {zs : List Int} (h : Run (k (.d (.bl (decide (z ∈ zs))))) ⟨env, st⟩ Q) : Run (bnd (lft fun st => inA st (.d (.int z)) (.d (.tup (zs.map .int)))) k) ⟨env, st⟩ Q :=
  rl_in (by unfold inB; simp only [snap_d, seqD, flat_ints, any_int, flatD, Bool.and_self, if_true]) h
theorem ih_ret {k : Fl → EM β} (h : Run (k .nx) s Q) : Run (bnd (pur .nx) k) s Q := h
end
def ValQ {α : Type} (s0 : SS) (Y : α → Prop) : Out α → SS → Prop := fun o s => match o with
  | .ok a => s = s0 ∧ Y a
  | _ => False
theorem rb_val {α β : Type} {k : α → EM β} {m : EM α} {s : SS} {Q : Out β → SS → Prop} (Y : α → Prop) (h1 : Run (bnd m pur) s (ValQ s Y)) (h2 : ∀ a, Y a → Run (k a) s Q) : Run (bnd m k) s Q := by
  obtain ⟨o, s', e, h⟩ := run_bnd h1
  cases o with
  | ex _ _ _ => exact h.elim
  | ok a =>
    obtain ⟨rfl, h⟩ := h
    exact rb_eq e (h2 a h)
theorem vq {α : Type} {a : α} {s : SS} {Y : α → Prop} (h : Y a) : Run (pur a) s (ValQ s Y) := run_pur ⟨rfl, h⟩
theorem rb_iteDT {α β : Type} {k : α → EM β} {s : SS} {Q : Out β → SS → Prop} {p : Prop} {inst : Decidable p} {m1 m2 : EM α} (e : p) (h : Run (bnd m1 k) s Q) : Run (bnd (ite2 (decide p) m1 m2) k) s Q := rb_iteP (decide_eq_true e) h
theorem rb_iteDnT {α β : Type} {k : α → EM β} {s : SS} {Q : Out β → SS → Prop} {p : Prop} {inst : Decidable p} {m1 m2 : EM α} (e : p) (h : Run (bnd m2 k) s Q) : Run (bnd (ite2 (!decide p) m1 m2) k) s Q := rb_iteN (by rw [decide_eq_true e]; rfl) h
end EV
/-! EV18: texts of signs; lists as data. -/
namespace EV
open PySem L2
/-- every sign is one -/
def okS (z : Str) : Prop := PyData.strOk z = true
instance {z : Str} : Decidable (okS z) := inferInstanceAs (Decidable (PyData.strOk z = true))
theorem okS_iff {z : Str} : okS z ↔ ∀ c ∈ z.cps.toList, c < 1114112 := by
  unfold okS PyData.strOk
  rw [← Array.all_toList, List.all_eq_true]
  simp
theorem okS_app {a b : Str} (ha : okS a) (hb : okS b) : okS (a ++ b) := by
  rw [okS_iff] at ha hb ⊢
  intro c hc
  have e : (a ++ b).cps.toList = a.cps.toList ++ b.cps.toList := by
    show (a.cps ++ b.cps).toList = _
    simp
  rw [e] at hc
  rcases List.mem_append.mp hc with h | h
  · exact ha c h
  · exact hb c h
theorem okS_cut {a : Str} {lo hi : Option Int} (ha : okS a) : okS (cutS a lo hi) := by
  rw [okS_iff] at ha ⊢
  intro c hc
  unfold cutS at hc
  simp only at hc
  exact ha c (List.mem_of_mem_drop (List.mem_of_mem_take hc))
theorem okS_chr {c : Nat} (h : c < 1114112) : okS (chr1 c) := by
  rw [okS_iff]
  intro d hd
  have : d = c := by simpa [chr1] using hd
  omega
theorem item_lt {z : Str} (h : okS z) (i : Nat) : z.cps.toList.getD i 0 < 1114112 := by
  rw [okS_iff] at h
  rw [List.getD_eq_getElem?_getD]
  cases e : z.cps.toList[i]? with
  | none => exact (by decide)
  | some x => exact h x (List.mem_of_getElem? e)
theorem okS_num {i : Int} (h : 0 ≤ i) : okS (Str.ofString (toString i)) := by
  obtain ⟨n, rfl⟩ : ∃ n : Nat, i = n := ⟨i.toNat, by omega⟩
  rw [okS_iff]
  intro c hc
  have e : (Str.ofString (toString (n : Int))).cps.toList = TL.numL n := TL.tl_num n
  rw [e] at hc
  have := TL.numL_digits n c hc
  omega
theorem okS_join0 : ∀ {zs : List Str}, (∀ z ∈ zs, okS z) → okS (Txt.join "" zs) := by
  have key : ∀ (zs : List Str), (∀ z ∈ zs, okS z) → okS (Str.join (Str.ofString "") zs) := by
    intro zs
    induction zs with
    | nil => intro _; exact (show okS Str.empty by decide +kernel)
    | cons x r ih =>
      intro h
      cases r with
      | nil => exact h x List.mem_cons_self
      | cons y r =>
        show okS (x ++ Str.ofString "" ++ Str.join (Str.ofString "") (y :: r))
        exact okS_app (okS_app (h x List.mem_cons_self) (by decide +kernel)) (ih fun z hz => h z (List.mem_cons_of_mem _ hz))
  intro zs h
  have e2 : Txt.join "" zs = Str.join "" zs := StrLaws.glued_eq_join _ _
  rw [e2]
  exact key zs h
theorem onesOk {α : Type} {l : List α} {ws : List W} (h : All2 (fun _ w => ∃ c, w = W.d (.str (chr1 c)) ∧ c < 1114112) l ws) : ∃ zs : List Str, ws = sw zs ∧ zs.length = l.length ∧ (∀ z ∈ zs, z.length = 1) ∧ ∀ z ∈ zs, okS z := by
  induction h with
  | nil => exact ⟨[], rfl, rfl, (fun _ h => nomatch h), fun _ h => nomatch h⟩
  | cons h _ ih =>
    obtain ⟨c, rfl, hc⟩ := h
    obtain ⟨zs, rfl, e, h, h'⟩ := ih
    refine ⟨chr1 c :: zs, rfl, congrArg (· + 1) e, fun z hz => ?_, fun z hz => ?_⟩
    · rcases List.mem_cons.mp hz with e | e
      · rw [e]; rfl
      · exact h z e
    · rcases List.mem_cons.mp hz with e | e
      · rw [e]; exact okS_chr hc
      · exact h' z e
theorem num_len {i : Int} (h : 0 ≤ i ∧ i < 10 ^ 30) : (Str.ofString (toString i)).length ≤ 30 := by
  obtain ⟨n, rfl⟩ : ∃ n : Nat, i = n := ⟨i.toNat, by omega⟩
  have e : (Str.ofString (toString (n : Int))).length = (TL.numL n).length := by
    rw [← TL.tl_num]
    rfl
  rw [e]
  exact TL.numL_len (by decide) (by omega)
/-! data -/
/-- d may be compared: every text of it is one, and it is at most n deep -/
def okN (n : Nat) (d : D) : Prop := (toPy d).canLay0 = true ∧ (toPy d).depth ≤ n
def okNs (n : Nat) (ds : List D) : Prop := PyData.canLayAll0 (toPys ds) = true ∧ PyData.depthAll (toPys ds) ≤ n
theorem okD_of {n : Nat} {d : D} (h : okN n d) (hn : n ≤ 64) : okD d = true := by
  unfold okD SeqAt.shaped
  rw [h.1]
  exact decide_eq_true (Nat.le_trans h.2 hn)
theorem okN_mono {n m : Nat} {d : D} (h : okN n d) (hn : n ≤ m) : okN m d := ⟨h.1, Nat.le_trans h.2 hn⟩
theorem okN_str {n : Nat} {z : Str} (h : okS z) : okN n (.str z) := ⟨h, by unfold toPy PyData.depth; exact Nat.zero_le _⟩
theorem okN_int {n : Nat} {i : Int} : okN n (.int i) := ⟨rfl, by unfold toPy PyData.depth; exact Nat.zero_le _⟩
theorem okN_bl {n : Nat} {i : Bool} : okN n (.bl i) := ⟨rfl, by unfold toPy PyData.depth; exact Nat.zero_le _⟩
theorem okN_non {n : Nat} : okN n .non := ⟨rfl, by unfold toPy PyData.depth; exact Nat.zero_le _⟩
theorem okNs_nil {n : Nat} : okNs n [] := ⟨rfl, Nat.zero_le _⟩
theorem okNs_cons {n : Nat} {d : D} {ds : List D} (h : okN n d) (t : okNs n ds) : okNs n (d :: ds) := ⟨by
  show (_ && _) = true
  rw [h.1, t.1]; rfl, by
  show max _ _ ≤ n
  exact Nat.max_le.mpr ⟨h.2, t.2⟩⟩
theorem okN_lst {n : Nat} {ds : List D} (h : okNs n ds) : okN (n + 1) (.lst ds) := ⟨h.1, by
  show PyData.depthAll _ + 1 ≤ _
  have := h.2
  omega⟩
theorem okN_tup {n : Nat} {ds : List D} (h : okNs n ds) : okN (n + 1) (.tup ds) := ⟨h.1, by
  show PyData.depthAll _ + 1 ≤ _
  have := h.2
  omega⟩
theorem okNs_all {n : Nat} : ∀ {ds : List D}, (∀ d ∈ ds, okN n d) → okNs n ds
  | [], _ => okNs_nil
  | d :: ds, h => okNs_cons (h d List.mem_cons_self) (okNs_all fun e he => h e (List.mem_cons_of_mem _ he))
theorem okN_strs {n : Nat} {zs : List Str} (h : ∀ z ∈ zs, okS z) : okN (n + 1) (strs' zs) := okN_lst (okNs_all fun d hd => by
  obtain ⟨z, hz, rfl⟩ := List.mem_map.mp hd
  exact okN_str (h z hz))
theorem okN_ints {n : Nat} {zs : List Int} : okN (n + 1) (ints' zs) := okN_lst (okNs_all fun d hd => by
  obtain ⟨z, hz, rfl⟩ := List.mem_map.mp hd
  exact okN_int)
theorem eq_refl {n : Nat} {d : D} (h : okN n d) : D.eq d d = true := SeqAt.eqv_refl _ h.1
section
variable {β : Type} {env : List (Option W)} {st : Store} {Q : Out β → SS → Prop} {k : W → EM β}
theorem snap_lst {n : Nat} {ws : List W} {ds : List D} (e : st[n]? = some (some (.lst ws))) (e2 : allD ws = some ds) : snapD st (.loc n) = some (.lst ds) := by
  unfold snapD
  rw [fz_lst e e2]
/-- alike: any two values of the same tree -/
theorem eqB_same {n : Nat} {x y : W} {d : D} (hx : snapD st x = some d) (hy : snapD st y = some d) (h : okN n d) (hn : n ≤ 64) : eqB st x y = some true := by
  unfold eqB
  split
  · rw [snap_d] at hx hy
    cases hx
    have := Option.some.inj hy
    cases this
    exact congrArg some (decide_eq_true rfl)
  · rw [snap_d] at hx hy
    cases hx
    have := Option.some.inj hy
    cases this
    exact congrArg some (decide_eq_true rfl)
  · simp only [hx, hy, okD_of h hn, Bool.and_self, if_true, eq_refl h]
theorem rl_neO {n m : Nat} {ws : List W} {ds : List D} (e : st[m]? = some (some (.lst ws))) (e2 : allD ws = some ds) (h : okN n (.lst ds)) (hn : n ≤ 64) (q : Run (k (.d (.bl false))) ⟨env, st⟩ Q) : Run (bnd (lft fun st => neA st (.loc m) (.d (.lst ds))) k) ⟨env, st⟩ Q :=
  rl_neB (eqB_same (snap_lst e e2) (snap_d _ _) h hn) q
theorem rl_eqO {n m : Nat} {ws : List W} {ds : List D} (e : st[m]? = some (some (.lst ws))) (e2 : allD ws = some ds) (h : okN n (.lst ds)) (hn : n ≤ 64) (q : Run (k (.d (.bl true))) ⟨env, st⟩ Q) : Run (bnd (lft fun st => eqA st (.loc m) (.d (.lst ds))) k) ⟨env, st⟩ Q :=
  rl_eqB (eqB_same (snap_lst e e2) (snap_d _ _) h hn) q
theorem rl_neL {n : Nat} {d : D} (h : okN n d) (hn : n ≤ 64) (q : Run (k (.d (.bl false))) ⟨env, st⟩ Q) : Run (bnd (lft fun st => neA st (.d d) (.d d)) k) ⟨env, st⟩ Q :=
  rl_neB (eqB_same (snap_d _ _) (snap_d _ _) h hn) q
theorem rl_eqL {n : Nat} {d : D} (h : okN n d) (hn : n ≤ 64) (q : Run (k (.d (.bl true))) ⟨env, st⟩ Q) : Run (bnd (lft fun st => eqA st (.d d) (.d d)) k) ⟨env, st⟩ Q :=
  rl_eqB (eqB_same (snap_d _ _) (snap_d _ _) h hn) q
end
/-- a name that holds a tree, or nothing -/
def dO (x : Option D) : Option W := x.map W.d
theorem rpl_dO (n : Nat) (d : D) (x : Option D) : rpl n d (dO x) = dO x := by cases x <;> rfl
theorem rpl_d (n : Nat) (d x : D) : rpl n d (some (.d x)) = some (.d x) := rfl
theorem rpl_no (n : Nat) (d : D) : rpl n d none = none := rfl
theorem rpl_at (n : Nat) (d : D) : rpl n d (some (.loc n)) = some (.d d) := by unfold rpl; exact if_pos rfl
theorem rb_frzO {β : Type} {env env' : List (Option W)} {st st' : Store} {Q : Out β → SS → Prop} {k : W → EM β} {n : Nat} {ws : List W} {ds : List D} (e : st[n]? = some (some (.lst ws))) (e2 : allD ws = some ds) (e3 : env.map (rpl n (.lst ds)) = env') (e4 : st.set n none = st')
    (h : Run (k (.d (.lst ds))) ⟨env', st'⟩ Q) : Run (bnd (frzK (.loc n)) k) ⟨env, st⟩ Q := by
  subst e4
  exact rb_frzL (fz_lst e e2) e3 h
theorem lt_len {n : Nat} (h : Nat.ble (n + 1) 16777216 = true) : n < 16777216 := Nat.le_of_ble_eq_true h
theorem cut_len_eq {α : Type} {xs : List α} {a b : Int} (h : 0 ≤ a ∧ a ≤ b ∧ b ≤ xs.length) : (cutW xs (some a) (some b)).length = (b - a).toNat := by
  unfold cutW HT.sIx
  rw [List.length_take, List.length_drop]
  simp only
  rw [if_neg (by omega), if_neg (by omega)]
  omega
theorem join_len_eq (zs : List Str) : (Txt.join "" zs).length = (zs.map fun x => x.length).sum := by
  show (Builtin.Str.glued (Str.ofString "") zs).length = _
  rw [size_glued]
  have e : (Str.ofString "").length = 0 := rfl
  rw [e, Nat.mul_zero, Nat.add_zero]
theorem cutS_len {z : Str} {lo hi : Option Int} : (cutS z lo hi).length = min (HT.sIx z.length z.length hi - HT.sIx z.length 0 lo) (z.length - HT.sIx z.length 0 lo) := by
  show ((List.take _ (List.drop _ z.cps.toList)).toArray).size = _
  rw [List.size_toArray, List.length_take, List.length_drop, clen]
section
variable {β : Type} {env : List (Option W)} {st : Store} {s : SS} {Q : Out β → SS → Prop} {k : W → EM β}
theorem rl_find {a b : Str} (h : Run (k (.d (.int (Txt.find a b)))) ⟨env, st⟩ Q) : Run (bnd (lft fun st => findW st (.d (.str a)) [.d (.str b)]) k) ⟨env, st⟩ Q := rb_lft rfl h
theorem rl_ixZ {z : Str} {i : Int} (hi : (0 ≤ i ∧ i < z.length) ∧ z.length ≤ 16777216) (h : Run (k (.d (.str (chr1 (z.cps.toList.getD i.toNat 0))))) ⟨env, st⟩ Q) : Run (bnd (lft fun st => ixA st (.d (.str z)) (.d (.int i))) k) ⟨env, st⟩ Q := rl_ixS hi.1 hi.2 h
theorem rl_ixZ' {z : Str} {i : Int} (h : Run (k (.d (.str (chr1 (z.cps.toList.getD i.toNat 0))))) ⟨env, st⟩ Q) (hi : (0 ≤ i ∧ i < z.length) ∧ z.length ≤ 16777216) : Run (bnd (lft fun st => ixA st (.d (.str z)) (.d (.int i))) k) ⟨env, st⟩ Q := rl_ixS hi.1 hi.2 h
end
theorem emod_at {i : Int} {n : Nat} (h : 0 < n) : 0 ≤ i % (n : Int) ∧ i % (n : Int) < n := ⟨Int.emod_nonneg _ (by omega), Int.emod_lt_of_pos _ (by omega)⟩
theorem rl_neBl {β : Type} {env : List (Option W)} {st : Store} {Q : Out β → SS → Prop} {k : W → EM β} {a b : Bool} (h : Run (k (.d (.bl (!decide (a = b))))) ⟨env, st⟩ Q) : Run (bnd (lft fun st => neA st (.d (.bl a)) (.d (.bl b))) k) ⟨env, st⟩ Q :=
  rl_neB (b := decide (a = b)) (by cases a <;> cases b <;> rfl) h
theorem rl_eqBl {β : Type} {env : List (Option W)} {st : Store} {Q : Out β → SS → Prop} {k : W → EM β} {a b : Bool} (h : Run (k (.d (.bl (decide (a = b))))) ⟨env, st⟩ Q) : Run (bnd (lft fun st => eqA st (.d (.bl a)) (.d (.bl b))) k) ⟨env, st⟩ Q :=
  rl_eqB (b := decide (a = b)) (by cases a <;> cases b <;> rfl) h
/-! isinstance of an own class, by what can be looked up -/
theorem kit_own {K : PySem.W.Frag} {t : Value} {X : Addr} {b : Bool} (h1 : PySem.W.isClsIn K X = true) (h2 : PySem.W.typeIn K (.ref X) = some (.type "type")) (h5 : PySem.W.subIn K (.ref X) (.ref X) = some true) (h3 : PySem.W.subIn K t (.ref X) = some b) : PySem.W.kitOne K t (.ref X) = some b := by
  unfold PySem.W.kitOne
  by_cases e : (t == .ref X) = true
  · rw [if_pos e]
    have e := beq_iff_eq.mp e
    subst e
    rw [h5] at h3
    exact h3
  · rw [if_neg e]
    unfold PySem.W.kitCls
    have hc : ((PySem.W.clsIn K X).isSome && PySem.W.typeIn K (.ref X) == some (.type "type")) = true := by
      rw [h2]
      have : (PySem.W.clsIn K X).isSome = true := h1
      rw [this]
      simp
    show (if ((PySem.W.clsIn K X).isSome && PySem.W.typeIn K (.ref X) == some (.type "type")) = true then PySem.W.subIn K t (.ref X) else none) = some b
    rw [if_pos hc]
    exact h3
end EV
/-! EV19: dicts by keys that are whole numbers or texts. -/
namespace EV
open PySem PySem.Spec PyProof.Rows L2
/-- a key -/
def kyW : W → Option Key
  | .d (.int i) => some (.inl i)
  | .d (.str z) => some (.inr z)
  | _ => none
def kyD : Key → D
  | .inl i => .int i
  | .inr z => .str z
/-- what stands in a dict -/
def dctW (st : Store) : W → Option (List Key × List W)
  | .d (.dct ks ds) => some (ks, ds.map .d)
  | .d _ => none
  | .loc n => match st[n]? with
    | some (some (.dct ks ws)) => some (ks, ws)
    | _ => none
/-- the value at a key -/
def valW : List Key → List W → Key → Option W
  | k0 :: ks, w :: ws, k => if k0 = k then some w else valW ks ws k
  | _, _, _ => none
def putG {α : Type} (kvs : List (Key × α)) (k : Key) (v : α) : List (Key × α) := if (kvs.any fun kv => decide (kv.1 = k)) = true then kvs.map (fun kv => if kv.1 = k then (kv.1, v) else kv) else kvs ++ [(k, v)]
section
variable {c : Kx} {ρ : Rho} {G H : Hp} {st : Store}
theorem kyW_ok {w : W} {v : V} {k : Key} (r : RepW c ρ G w v) (e : kyW w = some k) : v = kV k := by
  cases w with
  | loc _ => cases e
  | d x =>
    cases x with
    | int i => cases e; cases r; rfl
    | str i => cases e; cases r; rfl
    | _ => cases e
theorem dctW_ok {w : W} {v : V} {ks : List Key} {ws : List W} (r : RS c ρ G H st) (rv : RepW c ρ G w v) (e : dctW st w = some (ks, ws)) : ∃ a vs, v = .ref a ∧ H a = some (.dK (ks.zip vs)) ∧ ks.length = ws.length ∧ RepWs c ρ G ws vs := by
  cases w with
  | d x =>
    cases x with
    | dct ks' ds =>
      cases e
      cases rv with
      | dct h hl hr => exact ⟨_, _, rfl, r.sub _ _ h, by rw [List.length_map]; exact hl, RepWs.ofD hr⟩
    | _ => cases e
  | loc n =>
    unfold dctW at e
    cases ho : st[n]? with
    | none => simp only [ho] at e; cases e
    | some o =>
      cases o with
      | none => simp only [ho] at e; cases e
      | some o =>
        cases o with
        | dct ks' ws' =>
          simp only [ho] at e
          cases e
          obtain ⟨p, hp, rfl⟩ := rv
          obtain ⟨_, _, _, hl, vs, hH, hr⟩ := r.own n p _ hp ho
          exact ⟨p.1, vs, rfl, hH, hl, hr⟩
        | lst _ => simp only [ho] at e; cases e
        | ins _ _ _ => simp only [ho] at e; cases e
        | tup _ => simp only [ho] at e; cases e
theorem valW_ok {k : Key} : ∀ {ks : List Key} {ws : List W} {vs : List V}, ks.length = ws.length → RepWs c ρ G ws vs → match valW ks ws k with
    | some w => ∃ v, valV (ks.zip vs) k = some v ∧ RepW c ρ G w v
    | none => valV (ks.zip vs) k = none
  | [], [], _, _, _ => rfl
  | k0 :: ks, w :: ws, _, hl, ⟨v, vs, q, h, t⟩ => by
    subst q
    unfold valW
    by_cases z : k0 = k
    · rw [if_pos z]
      exact ⟨v, valV_pos (p := (k0, v)) z, h⟩
    · rw [if_neg z]
      have ih := valW_ok (k := k) (Nat.succ.inj hl) t
      show match valW ks ws k with | some w => ∃ v', valV ((k0, v) :: ks.zip vs) k = some v' ∧ _ | none => valV ((k0, v) :: ks.zip vs) k = none
      rw [valV_neg (p := (k0, v)) z]
      exact ih
  | [], _ :: _, _, hl, _ => by cases hl
  | _ :: _, [], _, hl, _ => by cases hl
theorem any_zip {α β : Type} {k : Key} : ∀ {ks : List Key} {ws : List α} {vs : List β}, ks.length = ws.length → ks.length = vs.length → ((ks.zip ws).any fun kv => decide (kv.1 = k)) = (ks.zip vs).any fun kv => decide (kv.1 = k)
  | [], _, _, _, _ => rfl
  | k0 :: ks, w :: ws, v :: vs, h1, h2 => by
    simp only [List.zip_cons_cons, List.any_cons]
    rw [any_zip (Nat.succ.inj h1) (Nat.succ.inj h2)]
  | _ :: _, [], _, h, _ => by cases h
  | _ :: _, _ :: _, [], _, h => by cases h
/-- ks, ws with y at k -/
def putW (ks : List Key) (ws : List W) (k : Key) (y : W) : List Key × List W := ((putG (ks.zip ws) k y).map (·.1), (putG (ks.zip ws) k y).map (·.2))
theorem map_keys {α : Type} {k : Key} {y : α} : ∀ {ks : List Key} {ws : List α}, ks.length = ws.length → ((ks.zip ws).map fun kv => if kv.1 = k then (kv.1, y) else kv).map (·.1) = ks
  | [], _, _ => rfl
  | k0 :: ks, w :: ws, h => by
    simp only [List.zip_cons_cons, List.map_cons]
    rw [map_keys (Nat.succ.inj h)]
    split <;> rfl
  | _ :: _, [], h => by cases h
theorem map_reps {k : Key} {y : W} {u : V} (hy : RepW c ρ G y u) : ∀ {ks : List Key} {ws : List W} {vs : List V}, ks.length = ws.length → RepWs c ρ G ws vs →
    RepWs c ρ G (((ks.zip ws).map fun kv => if kv.1 = k then (kv.1, y) else kv).map (·.2)) (((ks.zip vs).map fun kv => if kv.1 = k then (kv.1, u) else kv).map (·.2))
  | [], [], _, _, h => rfl
  | k0 :: ks, w :: ws, _, hl, ⟨v, vs, q, h, t⟩ => by
    subst q
    refine ⟨_, _, rfl, ?_, map_reps hy (Nat.succ.inj hl) t⟩
    show RepW c ρ G (if k0 = k then (k0, y) else (k0, w)).2 (if k0 = k then (k0, u) else (k0, v)).2
    split
    · exact hy
    · exact h
  | [], _ :: _, _, hl, _ => by cases hl
  | _ :: _, [], _, hl, _ => by cases hl
theorem zip_unzip {α : Type} : ∀ (l : List (Key × α)), (l.map (·.1)).zip (l.map (·.2)) = l
  | [] => rfl
  | p :: l => by
    simp only [List.map_cons, List.zip_cons_cons]
    rw [zip_unzip l]
theorem putW_ok {ks : List Key} {ws : List W} {vs : List V} {k : Key} {y : W} {u : V} (hl : ks.length = ws.length) (r : RepWs c ρ G ws vs) (hy : RepW c ρ G y u) :
    ∃ vs', putK (ks.zip vs) k u = (putW ks ws k y).1.zip vs' ∧ (putW ks ws k y).1.length = (putW ks ws k y).2.length ∧ RepWs c ρ G (putW ks ws k y).2 vs' := by
  have hl2 : ks.length = vs.length := by rw [r.len]; exact hl
  have ha := any_zip (k := k) hl hl2
  refine ⟨(putK (ks.zip vs) k u).map (·.2), ?_, by unfold putW; simp, ?_⟩
  · have e : (putW ks ws k y).1 = (putK (ks.zip vs) k u).map (·.1) := by
      unfold putW putG putK
      rw [ha]
      by_cases z : ((ks.zip vs).any fun kv => decide (kv.1 = k)) = true
      · rw [if_pos z, if_pos z]
        show List.map _ (List.map _ _) = List.map _ (List.map _ _)
        rw [map_keys hl, map_keys hl2]
      · rw [if_neg z, if_neg z]
        simp only [List.map_append, List.map_cons, List.map_nil]
        rw [List.map_fst_zip (by omega), List.map_fst_zip (by omega)]
    rw [e, zip_unzip]
  · unfold putW putG putK
    rw [ha]
    by_cases z : ((ks.zip vs).any fun kv => decide (kv.1 = k)) = true
    · rw [if_pos z, if_pos z]
      exact map_reps hy hl r
    · rw [if_neg z, if_neg z]
      simp only [List.map_append, List.map_cons, List.map_nil]
      rw [List.map_snd_zip (by omega), List.map_snd_zip (by omega)]
      exact r.app ⟨u, [], rfl, hy, rfl⟩
end
/-! d[k], k in d, d[k] = y -/
def rDG : R2 := fun x y H Q => ∃ a v, x = .ref a ∧ DGet H a y (some v) ∧ Q v H
theorem ix_dict {X : Cx} (hu : X.A.units + 1 < cLine) : IxR X rDG := by
  intro value slice pins s σ H x y v u Q I rx ry h hs
  obtain ⟨a, z, ex, g, q⟩ := h
  subst ex
  cases (show v = Value.ref a from rx)
  exact PyProof.Rows.tail_any (dict_typeIs I g) PySem.F.slot_dict_getitem.lookup (d_getItem hu I g ry fun w' s' I' r' => ⟨_, H, I', r', q⟩) hs
/-- x[y], of a list, a tuple, a text or a dict -/
def ixD (st : Store) (x y : W) : Option (W × Store) := match dctW st x with
  | some (ks, ws) => match kyW y with
    | some k => match valW ks ws k with
      | some w => some (w, st)
      | none => none
    | none => none
  | none => ixA st x y
section
variable {c : Kx} {X : Cx} {U : WX} {a b o i value : Expr} {ma mb mo mi me : EM W} {pos pos' : Pos}
theorem dget_ok {ρ : Rho} {G H : Hp} {st : Store} {x y : W} {vx vy : V} {ks : List Key} {ws : List W} {k : Key} (r : RS c ρ G H st) (rx : RepW c ρ G x vx) (ry : RepW c ρ G y vy) (e : dctW st x = some (ks, ws)) (ek : kyW y = some k) :
    ∃ a, vx = .ref a ∧ match valW ks ws k with
      | some w => ∃ v, DGet H a vy (some v) ∧ RepW c ρ G w v
      | none => DGet H a vy none := by
  obtain ⟨a, vs, rfl, hH, hl, hr⟩ := dctW_ok r rx e
  have hk := kyW_ok ry ek
  subst hk
  refine ⟨a, rfl, ?_⟩
  have hv := valW_ok (k := k) hl hr
  cases hw : valW ks ws k with
  | none =>
    rw [hw] at hv
    have := DGet.k (k := k) hH
    rw [hv] at this
    exact this
  | some w =>
    rw [hw] at hv
    obtain ⟨v, h1, h2⟩ := hv
    have := DGet.k (k := k) hH
    rw [h1] at this
    exact ⟨v, this, h2⟩
theorem s2_ixD : S2 c (fun x y H Q => rIx c.K x y H Q ∨ rDG x y H Q) ixD := fun ρ G H st x y w st' vx vy Q r rx ry e q => by
  unfold ixD at e
  cases ed : dctW st x with
  | none =>
    rw [ed] at e
    exact .inl (s2_ixA ρ G H st x y w st' vx vy Q r rx ry e q)
  | some p =>
    obtain ⟨ks, ws⟩ := p
    rw [ed] at e
    simp only at e
    cases ek : kyW y with
    | none => rw [ek] at e; cases e
    | some k =>
      rw [ek] at e
      simp only at e
      obtain ⟨a, rfl, h⟩ := dget_ok r rx ry ed ek
      cases hw : valW ks ws k with
      | none => rw [hw] at e; cases e
      | some w' =>
        rw [hw] at e h
        cases e
        obtain ⟨v, h1, h2⟩ := h
        exact .inr ⟨a, v, rfl, h1, q v ρ G H Stp.refl r h2⟩
theorem ee_ixD (hu : X.A.units + 1 < cLine) (ha : EE c X U a ma) (hb : EE c X U b mb) (hs : PlainIx b) : EE c X U (.Subscript a b pos) (op2 ixD ma mb) :=
  EE.mk1 ha.K (pe_ix (ix_seq.or (ix_dict hu)) ha.pe hb.pe hs) fun ρ G s σ H Q hR w => by
    have := wp_op2 (c := c) s2_ixD hR w
    rw [ha.K]
    exact this
/-- x[i] = e -/
def rSetD : V → V → V → Hp → (Hp → Prop) → Prop := fun o i v H Q => ∃ a H', o = .ref a ∧ DPut H a i v H' ∧ Q H'
theorem set_dict (hu : X.A.units + 1 < cLine) : PSet X rSetD := by
  intro pins s σ H o i v ov iv u Q I ro ri rv h
  obtain ⟨a, H', rfl, g, q⟩ := h
  cases (show ov = Value.ref a from ro)
  exact d_setItem hu I g ri rv fun s' I' => ⟨H', I', q⟩
theorem PSet.or {r r' : V → V → V → Hp → (Hp → Prop) → Prop} (h : PSet X r) (h' : PSet X r') : PSet X (fun o i v H Q => r o i v H Q ∨ r' o i v H Q) := by
  intro pins s σ H o i v ov iv u Q I ro ri rv q
  rcases q with q | q
  · exact h pins s σ H o i v ov iv u Q I ro ri rv q
  · exact h' pins s σ H o i v ov iv u Q I ro ri rv q
def putDW (st : Store) (o i y : W) : Option (Unit × Store) := match o with
  | .loc n => match st[n]? with
    | some (some (.dct ks ws)) => match kyW i with
      | some k => if ks.length < 16777216 then some ((), st.set n (some (.dct (putW ks ws k y).1 (putW ks ws k y).2))) else none
      | none => none
    | some (some (.lst _)) => setLW st o i y
    | _ => none
  | _ => none
def setX (mo mi me : EM W) : EM Fl := bnd me fun y => bnd mo fun o => bnd mi fun i => bnd (lft fun st => putDW st o i y) fun _ => pur .nx
theorem es_setX (hu : X.A.units + 1 < cLine) (he : EE c X U value me) (ho : EE c X U o mo) (hi : EE c X U i mi)
    (ha : ∀ v, assign (.Subscript o i pos') X.env v = (do
      let ov ← holding [v] (eval o X.env)
      let iv ← holding [v, ov] (eval i X.env)
      standAt pos'
      holding [v, ov, iv] (setItem ov iv v)
      release [v, ov, iv] []) := by intro _; rfl)
    (hs : swapsWithSole [.Subscript o i pos'] value pos.line X.env = pure false := by rfl) (hw : swappedStores [.Subscript o i pos'] value X.env = pure none := by rfl)
    (h1 : (assignEach [.Subscript o i pos'] X.env).map (·.2) = [assign (.Subscript o i pos') X.env] := by rfl) : ES c X U (.Assign [.Subscript o i pos'] value pos) (setX mo mi me) :=
  ⟨he.K, PS.imp (ps_asg he.pe (pg_sub ho.pe hi.pe (PSet.or set_list (set_dict hu)) ha) hs hw h1) fun D σ H ⟨ρ, G, s, hR, w⟩ => ⟨ρ, G, s, hR, (Ws.bndE hR w).imp fun y ρ1 G1 H1 s1 ⟨S1, R1, w1⟩ v rv =>
    ⟨ρ1, G1, s1, R1, (Ws.bndE R1 w1).imp fun z ρ2 G2 H2 s2 ⟨S2, R2, w2⟩ vo ro => ⟨ρ2, G2, s2, R2, (Ws.bndE R2 w2).imp fun iw ρ3 G3 H3 s3 ⟨S3, R3, w3⟩ vi ri => by
      obtain ⟨_, st', e1, q⟩ := Wp.lft (Ws.bndE R3 w3)
      have ro3 := ro.mono S3.rho S3.same
      have rv3 := (rv.mono S2.rho S2.same).mono S3.rho S3.same
      unfold putDW at e1
      cases z with
      | d _ => cases e1
      | loc n =>
        simp only at e1
        cases hst : s3.st[n]? with
        | none => rw [hst] at e1; cases e1
        | some oo =>
          cases oo with
          | none => rw [hst] at e1; cases e1
          | some oo =>
            cases oo with
            | ins _ _ _ => rw [hst] at e1; cases e1
            | tup _ => rw [hst] at e1; cases e1
            | lst _ =>
              rw [hst] at e1
              simp only at e1
              unfold setLW at e1
              split at e1
              · rename_i k _
                split at e1
                · rename_i w st2 e2
                  cases e1
                  obtain ⟨a, vs, ws, ws', rfl, hH, r1, hg, h4⟩ := wrL_ok R3.rs ro3 e2
                  cases hj : ixN ws.length k with
                  | none => rw [hj] at hg; cases hg
                  | some j =>
                    rw [hj] at hg
                    cases hg
                    cases ri
                    obtain ⟨S4, r4⟩ := h4 (vs.set j v) (r1.set j rv3)
                    have q2 := q ρ3 G3 _ S4 ⟨r4, R3.env, R3.len⟩
                    exact .inl ⟨a, vs, k, j, rfl, rfl, hH, by rw [r1.len]; exact hj, Ws.pur (U := U) q2.2.1 q2.2.2⟩
                · cases e1
              · cases e1
            | dct ks ws =>
              rw [hst] at e1
              simp only at e1
              cases hk : kyW iw with
              | none => rw [hk] at e1; cases e1
              | some k =>
                rw [hk] at e1
                simp only at e1
                split at e1
                · rename_i hlen
                  cases e1
                  obtain ⟨p, hp, rfl⟩ := ro3
                  obtain ⟨_, _, hp2, hl, vs, hH, hr⟩ := R3.rs.own n p _ hp hst
                  obtain ⟨vs', e5, l5, r5⟩ := putW_ok (k := k) hl hr rv3
                  have hkv := kyW_ok ri hk
                  subst hkv
                  obtain ⟨S4, r4⟩ := written (u := .dK (putK (ks.zip vs) k v)) R3.rs hp hst (o' := .dct (putW ks ws k y).1 (putW ks ws k y).2) ⟨hp2, l5, vs', by rw [upd_same, e5], r5⟩
                  have q2 := q ρ3 G3 _ S4 ⟨r4, R3.env, R3.len⟩
                  exact .inr ⟨p.1, _, rfl, DPut.k hH (by rw [List.length_zip, sizeLine_eq]; omega), Ws.pur (U := U) q2.2.1 q2.2.2⟩
                · cases e1⟩⟩⟩⟩
end
/-! new dicts -/
def newK (own : Bool) (ks : List Key) (ws : List W) (st : Store) : Option (W × Store) := if ks.length = ws.length then (if own then some (.loc st.length, st ++ [some (.dct ks ws)]) else match allD ws with
  | some ds => some (.d (.dct ks ds), st)
  | none => none) else none
section
variable {c : Kx} {ρ : Rho} {G H : Hp} {st : Store}
theorem newK_ok {own : Bool} {ks : List Key} {ws : List W} {vs : List V} {w : W} {st' : Store} {p : Addr} (r : RS c ρ G H st) (rv : RepWs c ρ G ws vs) (e : newK own ks ws st = some (w, st')) (hp : H p = none) :
    ∃ ρ' G', Stp ρ G H st ρ' G' (upd H p (.dK (ks.zip vs))) st' ∧ RS c ρ' G' (upd H p (.dK (ks.zip vs))) st' ∧ RepW c ρ' G' w (.ref p) := by
  unfold newK at e
  by_cases hl : ks.length = ws.length
  · rw [if_pos hl] at e
    cases own with
    | true =>
      simp only [if_true] at e
      cases e
      obtain ⟨S, r'⟩ := new_own (p := (p, p)) (o := .dct ks ws) (H' := upd H p (.dK (ks.zip vs))) r hp hp (fun a u e => by rw [upd_ne (ne_of_none e hp)]; exact e) ⟨rfl, hl, vs, upd_same, rv⟩
      exact ⟨_, _, S, r', (p, p), by rw [← r.len, List.getElem?_append_right (Nat.le_refl _)]; simp, rfl⟩
    | false =>
      simp only [Bool.false_eq_true, if_false] at e
      cases q : allD ws with
      | none => simp only [q] at e; cases e
      | some ds =>
        simp only [q] at e
        cases e
        obtain rfl := allD_eq q
        obtain ⟨S, r'⟩ := new_frozen (o := .dK (ks.zip vs)) r hp
        exact ⟨_, _, S, r', .dct upd_same (by rw [hl, List.length_map]) ((RepWs.toD rv).mono S.same)⟩
  · rw [if_neg hl] at e
    cases e
end
section
variable {c : Kx} {X : Cx} {U : WX} {a b o i value : Expr} {ma mb mo mi me : EM W} {pos pos' : Pos}
/-- {} -/
theorem ee_dnew {own : Bool} (hK : X.K = c.K) : EE c X U (.Dict [] [] pos) (lft (newK own [] [])) :=
  EE.mk1 hK pe_dnewK fun ρ G s σ H Q hR w p hp => by
    obtain ⟨w', st', e, q⟩ := Wp.lft w
    obtain ⟨ρ', G', S2, r2, rw2⟩ := newK_ok (ws := []) (vs := []) hR.rs rfl e hp
    exact q ρ' G' _ S2 ⟨r2, hR.env.mono S2.rho S2.same, hR.len⟩ _ rw2
/-- dict(d) -/
def dictC (own : Bool) (st : Store) : List W → Option (W × Store)
  | [w] => match dctW st w with
    | some (ks, ws) => newK own ks ws st
    | none => none
  | _ => none
theorem sn_dict (own : Bool) : SN c (fun xs H Q => ∃ (a : Addr) (kvs : List (Key × V)), xs = [.ref a] ∧ Rd H a (.dK kvs) ∧ ∀ p, H p = none → Q (.ref p) (upd H p (.dK kvs))) (dictC own) := fun ρ G H st xs w st' vs Q r rv e q => by
  unfold dictC at e
  split at e
  · rename_i w'
    obtain ⟨v, rfl, hz⟩ := one_rep rv
    cases ed : dctW st w' with
    | none => rw [ed] at e; cases e
    | some p =>
      obtain ⟨ks, ws⟩ := p
      rw [ed] at e
      simp only at e
      obtain ⟨a, us, rfl, hH, hl, hr⟩ := dctW_ok r hz ed
      refine ⟨a, _, rfl, .of hH, fun p hp => ?_⟩
      obtain ⟨ρ', G', S2, r2, rw2⟩ := newK_ok r hr e hp
      exact q _ ρ' G' _ S2 r2 rw2
  · cases e
/-- d.clear() -/
def dclearW (st : Store) (o : W) : List W → Option (W × Store)
  | [] => match o with
    | .loc n => match st[n]? with
      | some (some (.dct _ _)) => some (.d .non, st.set n (some (.dct [] [])))
      | _ => none
    | _ => none
  | _ => none
theorem sm_dclear : SM c rDClear dclearW := fun ρ G H st o xs w st' vo vs Q r ro rx e q => by
  unfold dclearW at e
  split at e
  · have rx : vs = [] := rx
    subst rx
    cases o with
    | d _ => cases e
    | loc n =>
      simp only at e
      cases hst : st[n]? with
      | none => rw [hst] at e; cases e
      | some oo =>
        cases oo with
        | none => rw [hst] at e; cases e
        | some oo =>
          cases oo with
          | lst _ => rw [hst] at e; cases e
          | ins _ _ _ => rw [hst] at e; cases e
          | tup _ => rw [hst] at e; cases e
          | dct ks ws =>
            rw [hst] at e
            cases e
            obtain ⟨p, hp, rfl⟩ := ro
            obtain ⟨_, _, hp2, hl, us, hH, hr⟩ := r.own n p _ hp hst
            obtain ⟨S, r'⟩ := written (u := .dK []) r hp hst (o' := .dct [] []) ⟨hp2, rfl, [], upd_same, rfl⟩
            exact ⟨p.1, _, rfl, rfl, hH, q _ ρ G _ S r' .non⟩
  · cases e
/-- k in d -/
def inD (st : Store) (x y : W) : Option (W × Store) := match dctW st y with
  | some (ks, ws) => match kyW x with
    | some k => some (.d (.bl (valW ks ws k).isSome), st)
    | none => none
  | none => inA st x y
def ninD (st : Store) (x y : W) : Option (W × Store) := match dctW st y with
  | some (ks, ws) => match kyW x with
    | some k => some (.d (.bl (!(valW ks ws k).isSome)), st)
    | none => none
  | none => ninA st x y
def rDIn : R2 := fun y x H Q => ∃ a o, x = .ref a ∧ DGet H a y o ∧ Q (.bl o.isSome) H
def rDNin : R2 := fun y x H Q => ∃ a o, x = .ref a ∧ DGet H a y o ∧ Q (.bl (!o.isSome)) H
theorem op_dIn (hu : X.A.units + 1 < cLine) : OpR X (compareOp .In) rDIn := by
  intro pins s σ H y x u v Q I ry rx h
  obtain ⟨a, o, rfl, g, q⟩ := h
  cases (show v = Value.ref a from rx)
  exact d_in hu I g ry fun s' I' => ⟨V.bl o.isSome, H, I', rfl, q⟩
theorem op_dNin (hu : X.A.units + 1 < cLine) : OpR X (compareOp .NotIn) rDNin := by
  intro pins s σ H y x u v Q I ry rx h
  obtain ⟨a, o, rfl, g, q⟩ := h
  cases (show v = Value.ref a from rx)
  exact d_notIn hu I g ry fun s' I' => ⟨V.bl (!o.isSome), H, I', rfl, q⟩
theorem op_inD2 (hu : X.A.units + 65 < cLine) : OpR X (compareOp .In) (fun x y H Q => rInA X.K x y H Q ∨ rDIn x y H Q) := (op_inA hu).or (op_dIn (by omega))
theorem op_ninD2 (hu : X.A.units + 65 < cLine) : OpR X (compareOp .NotIn) (fun x y H Q => rNotInA X.K x y H Q ∨ rDNin x y H Q) := (op_ninA hu).or (op_dNin (by omega))
theorem s2_inD : S2 c (fun x y H Q => rInA c.K x y H Q ∨ rDIn x y H Q) inD := fun ρ G H st x y w st' vx vy Q r rx ry e q => by
  unfold inD at e
  cases ed : dctW st y with
  | none =>
    rw [ed] at e
    exact .inl (s2_inA ρ G H st x y w st' vx vy Q r rx ry e q)
  | some p =>
    obtain ⟨ks, ws⟩ := p
    rw [ed] at e
    simp only at e
    cases ek : kyW x with
    | none => rw [ek] at e; cases e
    | some k =>
      rw [ek] at e
      cases e
      obtain ⟨a, rfl, h⟩ := dget_ok r ry rx ed ek
      cases hw : valW ks ws k with
      | none =>
        rw [hw] at h q
        exact .inr ⟨a, none, rfl, h, q _ ρ G H Stp.refl r (.bl _)⟩
      | some w' =>
        rw [hw] at h q
        obtain ⟨v, h1, h2⟩ := h
        exact .inr ⟨a, some v, rfl, h1, q _ ρ G H Stp.refl r (.bl _)⟩
theorem s2_ninD : S2 c (fun x y H Q => rNotInA c.K x y H Q ∨ rDNin x y H Q) ninD := fun ρ G H st x y w st' vx vy Q r rx ry e q => by
  unfold ninD at e
  cases ed : dctW st y with
  | none =>
    rw [ed] at e
    exact .inl (s2_ninA ρ G H st x y w st' vx vy Q r rx ry e q)
  | some p =>
    obtain ⟨ks, ws⟩ := p
    rw [ed] at e
    simp only at e
    cases ek : kyW x with
    | none => rw [ek] at e; cases e
    | some k =>
      rw [ek] at e
      cases e
      obtain ⟨a, rfl, h⟩ := dget_ok r ry rx ed ek
      cases hw : valW ks ws k with
      | none =>
        rw [hw] at h q
        exact .inr ⟨a, none, rfl, h, q _ ρ G H Stp.refl r (.bl _)⟩
      | some w' =>
        rw [hw] at h q
        obtain ⟨v, h1, h2⟩ := h
        exact .inr ⟨a, some v, rfl, h1, q _ ρ G H Stp.refl r (.bl _)⟩
end
/-! d.get(k), d.get(k, x) -/
def dgetW (ks : List Key) (ws : List W) (k : Key) (x : W) : W := (valW ks ws k).getD x
def lookE (o k x : W) : EM W := lft fun st => match dctW st o, kyW k with
  | some (ks, ws), some k => some (dgetW ks ws k x, st)
  | _, _ => none
def isDE (o : W) : EM Unit := lft fun st => match dctW st o with
  | some _ => some ((), st)
  | none => none
def get1E (mo mk : EM W) : EM W := bnd mo fun o => bnd (isDE o) fun _ => bnd mk fun k => lookE o k (.d .non)
def get2E (mo mk mx : EM W) : EM W := bnd mo fun o => bnd (isDE o) fun _ => bnd mk fun k => bnd mx fun x => lookE o k x
section
variable {c : Kx} {X : Cx} {U : WX} {o e f : Expr} {mo mk mx : EM W} {apos cpos : Pos}
theorem wp_isD {α : Type} {w : W} {k : EM α} {ρ : Rho} {G H : Hp} {σ : L2.St} {s : SS} {kk : α → Rho → Hp → Hp → SS → Prop} {v : V} (hR : R c ρ G σ H s) (rv : RepW c ρ G w v) (h : Wp c U (bnd (isDE w) fun _ => k) ρ G σ H s kk) :
    ∃ a, v = .ref a ∧ IsD H a ∧ Wp c U k ρ G σ H s kk := by
  obtain ⟨x, st', e, q⟩ := Wp.lft (Wp.bnd hR h)
  cases ed : dctW s.st w with
  | none => simp only [ed] at e; cases e
  | some p =>
    obtain ⟨ks, ws⟩ := p
    simp only [ed] at e
    cases e
    obtain ⟨a, vs, rfl, hH, hl, hr⟩ := dctW_ok hR.rs rv ed
    exact ⟨a, rfl, .inl ⟨_, .of hH⟩, (q ρ G H Stp.refl ⟨hR.rs, hR.env, hR.len⟩).2.2⟩
theorem wp_look {w k x : W} {ρ : Rho} {G H : Hp} {σ : L2.St} {s : SS} {a : Addr} {vk vx : V} {Q : VK} (hR : R c ρ G σ H s) (rw' : RepW c ρ G w (.ref a)) (rk : RepW c ρ G k vk) (rx : RepW c ρ G x vx) (h : Wp c U (lookE w k x) ρ G σ H s (fun w ρ' G' H' _ => ∀ v, RepW c ρ' G' w v → Q v H')) :
    ∃ o, DGet H a vk o ∧ Q (o.getD vx) H := by
  obtain ⟨y, st', e, q⟩ := Wp.lft h
  cases ed : dctW s.st w with
  | none => simp only [ed] at e; cases e
  | some p =>
    obtain ⟨ks, ws⟩ := p
    cases ek : kyW k with
    | none => simp only [ed, ek] at e; cases e
    | some k' =>
      simp only [ed, ek] at e
      cases e
      obtain ⟨a', ea, hh⟩ := dget_ok hR.rs rw' rk ed ek
      cases ea
      unfold dgetW at q
      cases hw : valW ks ws k' with
      | none =>
        rw [hw] at hh q
        exact ⟨none, hh, q ρ G H Stp.refl ⟨hR.rs, hR.env, hR.len⟩ _ rx⟩
      | some w' =>
        rw [hw] at hh q
        obtain ⟨v, h1, h2⟩ := hh
        exact ⟨some v, h1, q ρ G H Stp.refl ⟨hR.rs, hR.env, hR.len⟩ _ h2⟩
theorem ee_get1 (hu : X.A.units + 1 < cLine) (ho : EE c X U o mo) (he : EE c X U e mk) (m : M1 X o "get" apos e cpos) : EE c X U (.Call (.Attribute o "get" apos) [e] [] cpos) (get1E mo mk) :=
  EE.mk1 ho.K (pe_dget1 hu ho.pe he.pe m) fun ρ G s σ H Q hR w => ⟨ρ, G, s, hR, (Wp.bnd hR w).imp fun x ρ1 G1 H1 s1 ⟨S1, R1, w1⟩ v rv => by
    obtain ⟨a, rfl, hd, w2⟩ := wp_isD R1 rv w1
    refine ⟨a, rfl, hd, ρ1, G1, s1, R1, (Wp.bnd R1 w2).imp fun y ρ2 G2 H2 s2 ⟨S2, R2, w3⟩ vk rk => ?_⟩
    exact wp_look (x := .d .non) (vx := .non) R2 (rv.mono S2.rho S2.same) rk RepD.non w3⟩
theorem ee_get2 (hu : X.A.units + 1 < cLine) (ho : EE c X U o mo) (he : EE c X U e mk) (hf : EE c X U f mx) (m : M2 X o "get" apos e f cpos) : EE c X U (.Call (.Attribute o "get" apos) [e, f] [] cpos) (get2E mo mk mx) :=
  EE.mk1 ho.K (pe_dget2 hu ho.pe he.pe hf.pe m) fun ρ G s σ H Q hR w => ⟨ρ, G, s, hR, (Wp.bnd hR w).imp fun x ρ1 G1 H1 s1 ⟨S1, R1, w1⟩ v rv => by
    obtain ⟨a, rfl, hd, w2⟩ := wp_isD R1 rv w1
    refine ⟨a, rfl, hd, ρ1, G1, s1, R1, (Wp.bnd R1 w2).imp fun y ρ2 G2 H2 s2 ⟨S2, R2, w3⟩ vk rk => ?_⟩
    refine ⟨ρ2, G2, s2, R2, (Wp.bnd R2 w3).imp fun z ρ3 G3 H3 s3 ⟨S3, R3, w4⟩ vx rx => ?_⟩
    exact wp_look R3 ((rv.mono S2.rho S2.same).mono S3.rho S3.same) (rk.mono S3.rho S3.same) rx w4⟩
end
/-! d == e of two dicts of whole numbers and texts that are alike -/
def eqK (ks : List Key) (ws : List W) (ls : List Key) (us : List W) : Bool := decide (ks.length = ls.length) && (ks.zip ws).all fun p => (kyW p.2).isSome && decide ((valW ls us p.1).bind kyW = kyW p.2)
def eqX (st : Store) (x y : W) : Option (W × Store) := match dctW st x, dctW st y with
  | some (ks, ws), some (ls, us) => if eqK ks ws ls us then some (.d (.bl true), st) else none
  | _, _ => eqA st x y
def neX (st : Store) (x y : W) : Option (W × Store) := match dctW st x, dctW st y with
  | some (ks, ws), some (ls, us) => if eqK ks ws ls us then some (.d (.bl false), st) else none
  | _, _ => neA st x y
section
variable {c : Kx} {ρ : Rho} {G H : Hp} {st : Store}
theorem zip_at {k : Key} {v : V} : ∀ {ks : List Key} {ws : List W} {vs : List V}, ks.length = ws.length → RepWs c ρ G ws vs → (k, v) ∈ ks.zip vs → ∃ w, (k, w) ∈ ks.zip ws ∧ RepW c ρ G w v
  | [], _, _, _, _, h => by simp at h
  | k0 :: ks, w :: ws, _, hl, ⟨v0, vs, q, h0, t⟩, h => by
    subst q
    simp only [List.zip_cons_cons, List.mem_cons] at h
    rcases h with h | h
    · cases h
      exact ⟨w, by simp, h0⟩
    · obtain ⟨w', h1, h2⟩ := zip_at (Nat.succ.inj hl) t h
      exact ⟨w', by simp [h1], h2⟩
  | _ :: _, [], _, hl, _, _ => by cases hl
theorem flat_key (k : Key) : flatB (kV k) = true := by cases k <;> rfl
theorem eqK_ok {x y : W} {vx vy : V} {ks ls : List Key} {ws us : List W} (r : RS c ρ G H st) (rx : RepW c ρ G x vx) (ry : RepW c ρ G y vy) (e1 : dctW st x = some (ks, ws)) (e2 : dctW st y = some (ls, us)) (e : eqK ks ws ls us = true) :
    ∃ a b kk ll, vx = .ref a ∧ vy = .ref b ∧ H a = some (.dK kk) ∧ H b = some (.dK ll) ∧ kk.length = ll.length ∧ ∀ p ∈ kk, valV ll p.1 = some p.2 ∧ flatB p.2 = true := by
  obtain ⟨a, vs, rfl, hH, hl, hr⟩ := dctW_ok r rx e1
  obtain ⟨b, zs, rfl, hH2, hl2, hr2⟩ := dctW_ok r ry e2
  unfold eqK at e
  rw [Bool.and_eq_true, decide_eq_true_eq, List.all_eq_true] at e
  refine ⟨a, b, _, _, rfl, rfl, hH, hH2, ?_, fun p hp => ?_⟩
  · rw [List.length_zip, List.length_zip, hr.len, hr2.len, ← hl, ← hl2, e.1]
  · obtain ⟨k, v⟩ := p
    obtain ⟨w, h1, h2⟩ := zip_at hl hr hp
    have h3 := e.2 _ h1
    rw [Bool.and_eq_true, decide_eq_true_eq] at h3
    obtain ⟨k', hk'⟩ := Option.isSome_iff_exists.mp h3.1
    have hv := kyW_ok h2 hk'
    have hw := valW_ok (k := k) hl2 hr2
    rw [hk'] at h3
    cases hq : valW ls us k with
    | none => rw [hq] at h3; exact absurd h3.2 (by simp)
    | some u =>
      rw [hq] at hw h3
      obtain ⟨v', h4, h5⟩ := hw
      have := kyW_ok h5 h3.2
      subst hv this
      exact ⟨h4, flat_key k'⟩
end
section
variable {c : Kx} {X : Cx}
theorem op_eqX (hu : X.A.units + 64 < cLine) : OpR X (compareOp .Eq) (fun x y H Q => (rEq x y H Q ∨ rEqD X.K x y H Q) ∨ rEqDA x y H Q) := (op_eqA hu).or (op_eq_dictA (by omega))
theorem op_neX (hu : X.A.units + 64 < cLine) : OpR X (compareOp .NotEq) (fun x y H Q => (rNe x y H Q ∨ rNeD X.K x y H Q) ∨ rNeDA x y H Q) := (op_neA hu).or (op_ne_dictA (by omega))
theorem s2_eqX : S2 c (fun x y H Q => (rEq x y H Q ∨ rEqD c.K x y H Q) ∨ rEqDA x y H Q) eqX := fun ρ G H st x y w st' vx vy Q r rx ry e q => by
  unfold eqX at e
  split at e
  · rename_i ks ws ls us e1 e2
    split at e
    · rename_i h
      cases e
      obtain ⟨a, b, kk, ll, rfl, rfl, h1, h2, h3, h4⟩ := eqK_ok r rx ry e1 e2 h
      exact .inr ⟨a, b, kk, ll, rfl, rfl, h1, h2, h3, h4, q _ ρ G H Stp.refl r (.bl true)⟩
    · cases e
  · exact .inl (s2_eqA ρ G H st x y w st' vx vy Q r rx ry e q)
theorem s2_neX : S2 c (fun x y H Q => (rNe x y H Q ∨ rNeD c.K x y H Q) ∨ rNeDA x y H Q) neX := fun ρ G H st x y w st' vx vy Q r rx ry e q => by
  unfold neX at e
  split at e
  · rename_i ks ws ls us e1 e2
    split at e
    · rename_i h
      cases e
      obtain ⟨a, b, kk, ll, rfl, rfl, h1, h2, h3, h4⟩ := eqK_ok r rx ry e1 e2 h
      exact .inr ⟨a, b, kk, ll, rfl, rfl, h1, h2, h3, h4, q _ ρ G H Stp.refl r (.bl false)⟩
    · cases e
  · exact .inl (s2_neA ρ G H st x y w st' vx vy Q r rx ry e q)
end
theorem room1 {k : Nat} {A : Around} (r : Room k A) : A.units + 1 < cLine := by
  have := room65 r
  omega
end EV
/-! EV20: running dicts. -/
namespace EV
open PySem L2
section
variable {β : Type} {env : List (Option W)} {st st' : Store} {s : SS} {Q : Out β → SS → Prop} {k : W → EM β}
theorem rb_setX {k : Fl → EM β} {mo mi me : EM W} (h : Run (bnd me fun y => bnd mo fun o => bnd mi fun i => bnd (lft fun st => putDW st o i y) fun _ => k .nx) s Q) : Run (bnd (setX mo mi me) k) s Q := by
  unfold setX
  rw [bnd_assoc]
  have e : (fun a => bnd (bnd mo fun o => bnd mi fun i => bnd (lft fun st => putDW st o i a) fun _ => pur Fl.nx) k) = fun y => bnd mo fun o => bnd mi fun i => bnd (lft fun st => putDW st o i y) fun _ => k .nx := by
    funext a
    rw [bnd_assoc]
    congr 1
    funext b
    rw [bnd_assoc]
    congr 1
    funext c
    rw [bnd_assoc]
    rfl
  rw [e]
  exact h
theorem rl_putD {k : Unit → EM β} {n : Nat} {ks : List Key} {ws : List W} {i : W} {q : Key} {y : W} (e : st[n]? = some (some (.dct ks ws))) (ek : kyW i = some q) (hl : ks.length < 16777216) (e2 : st.set n (some (.dct (putW ks ws q y).1 (putW ks ws q y).2)) = st') (h : Run (k ()) ⟨env, st'⟩ Q) :
    Run (bnd (lft fun st => putDW st (.loc n) i y) k) ⟨env, st⟩ Q := by
  subst e2
  refine rb_lft (a := ()) ?_ h
  unfold putDW
  simp only [e, ek, hl, if_true]
theorem rl_newKO {n : Nat} (e : st.length = n) (e2 : st ++ [some (.dct [] [])] = st') (h : Run (k (.loc n)) ⟨env, st'⟩ Q) : Run (bnd (lft (newK true [] [])) k) ⟨env, st⟩ Q := by
  subst e e2
  exact rb_lft rfl h
theorem rl_newKF (h : Run (k (.d (.dct [] []))) ⟨env, st⟩ Q) : Run (bnd (lft (newK false [] [])) k) ⟨env, st⟩ Q := rb_lft rfl h
theorem rl_dictO {n : Nat} {w : W} {ks : List Key} {ws : List W} (e : dctW st w = some (ks, ws)) (hl : ks.length = ws.length) (e1 : st.length = n) (e2 : st ++ [some (.dct ks ws)] = st') (h : Run (k (.loc n)) ⟨env, st'⟩ Q) : Run (bnd (lft fun st => dictC true st [w]) k) ⟨env, st⟩ Q := by
  subst e1 e2
  refine rb_lft ?_ h
  unfold dictC newK
  simp only [e, hl, if_true]
theorem rl_dclear {n : Nat} {ks : List Key} {ws : List W} (e : st[n]? = some (some (.dct ks ws))) (e2 : st.set n (some (.dct [] [])) = st') (h : Run (k (.d .non)) ⟨env, st'⟩ Q) : Run (bnd (lft fun st => dclearW st (.loc n) []) k) ⟨env, st⟩ Q := by
  subst e2
  refine rb_lft ?_ h
  unfold dclearW
  simp only [e]
theorem rb_get1 {mo mk : EM W} (h : Run (bnd mo fun o => bnd (isDE o) fun _ => bnd mk fun x => bnd (lookE o x (.d .non)) k) s Q) : Run (bnd (get1E mo mk) k) s Q := by
  unfold get1E
  rw [bnd_assoc]
  have e : (fun o => bnd (bnd (isDE o) fun _ => bnd mk fun x => lookE o x (.d .non)) k) = fun o => bnd (isDE o) fun _ => bnd mk fun x => bnd (lookE o x (.d .non)) k := by
    funext o
    rw [bnd_assoc]
    congr 1
    funext _
    rw [bnd_assoc]
  rw [e]
  exact h
theorem rb_get2 {mo mk mx : EM W} (h : Run (bnd mo fun o => bnd (isDE o) fun _ => bnd mk fun x => bnd mx fun y => bnd (lookE o x y) k) s Q) : Run (bnd (get2E mo mk mx) k) s Q := by
  unfold get2E
  rw [bnd_assoc]
  have e : (fun o => bnd (bnd (isDE o) fun _ => bnd mk fun x => bnd mx fun y => lookE o x y) k) = fun o => bnd (isDE o) fun _ => bnd mk fun x => bnd mx fun y => bnd (lookE o x y) k := by
    funext o
    rw [bnd_assoc]
    congr 1
    funext _
    rw [bnd_assoc]
    congr 1
    funext _
    rw [bnd_assoc]
  rw [e]
  exact h
theorem rb_isD {k : Unit → EM β} {w : W} {p : List Key × List W} (e : dctW st w = some p) (h : Run (k ()) ⟨env, st⟩ Q) : Run (bnd (isDE w) k) ⟨env, st⟩ Q := rb_lft (a := ()) (by simp only [e]) h
theorem rb_look {w x y : W} {ks : List Key} {ws : List W} {q : Key} (e : dctW st w = some (ks, ws)) (ek : kyW x = some q) (h : Run (k (dgetW ks ws q y)) ⟨env, st⟩ Q) : Run (bnd (lookE w x y) k) ⟨env, st⟩ Q := rb_lft (by simp only [e, ek]) h
theorem rl_eqD {x y : W} {ks ls : List Key} {ws us : List W} (e1 : dctW st x = some (ks, ws)) (e2 : dctW st y = some (ls, us)) (e : eqK ks ws ls us = true) (h : Run (k (.d (.bl true))) ⟨env, st⟩ Q) : Run (bnd (lft fun st => eqX st x y) k) ⟨env, st⟩ Q := rb_lft (by unfold eqX; simp only [e1, e2, e, if_true]) h
theorem rl_neD {x y : W} {ks ls : List Key} {ws us : List W} (e1 : dctW st x = some (ks, ws)) (e2 : dctW st y = some (ls, us)) (e : eqK ks ws ls us = true) (h : Run (k (.d (.bl false))) ⟨env, st⟩ Q) : Run (bnd (lft fun st => neX st x y) k) ⟨env, st⟩ Q := rb_lft (by unfold neX; simp only [e1, e2, e, if_true]) h
theorem rl_ixD {x y w : W} {ks : List Key} {ws : List W} {q : Key} (e : dctW st x = some (ks, ws)) (ek : kyW y = some q) (ev : valW ks ws q = some w) (h : Run (k w) ⟨env, st⟩ Q) : Run (bnd (lft fun st => ixD st x y) k) ⟨env, st⟩ Q := rb_lft (by unfold ixD; simp only [e, ek, ev]) h
theorem rl_inD {x y : W} {ks : List Key} {ws : List W} {q : Key} (e : dctW st y = some (ks, ws)) (ek : kyW x = some q) (h : Run (k (.d (.bl (valW ks ws q).isSome))) ⟨env, st⟩ Q) : Run (bnd (lft fun st => inD st x y) k) ⟨env, st⟩ Q := rb_lft (by unfold inD; simp only [e, ek]) h
theorem rl_ninD {x y : W} {ks : List Key} {ws : List W} {q : Key} (e : dctW st y = some (ks, ws)) (ek : kyW x = some q) (h : Run (k (.d (.bl (!(valW ks ws q).isSome)))) ⟨env, st⟩ Q) : Run (bnd (lft fun st => ninD st x y) k) ⟨env, st⟩ Q := rb_lft (by unfold ninD; simp only [e, ek]) h
theorem fz_dct {n : Nat} {ks : List Key} {ws : List W} {ds : List D} (h : st[n]? = some (some (.dct ks ws))) (e : allD ws = some ds) : fz 20 (.loc n) st = some (.dct ks ds, st.set n none) := by
  unfold fz
  rw [allD_eq e] at h
  simp only [h, fzL_d]
theorem rp_dct {P : D → Prop} {n : Nat} {ks : List Key} {ws : List W} {ds : List D} (e : st[n]? = some (some (.dct ks ws))) (e2 : allD ws = some ds) (h : P (.dct ks ds)) : Run (pur (.ret (.loc n))) ⟨env, st⟩ (RetP P) := run_pur ⟨_, _, fz_dct e e2, h⟩
theorem rb_frzK {env' : List (Option W)} {n : Nat} {ks : List Key} {ws : List W} {ds : List D} (e : st[n]? = some (some (.dct ks ws))) (e2 : allD ws = some ds) (e3 : env.map (rpl n (.dct ks ds)) = env') (e4 : st.set n none = st')
    (h : Run (k (.d (.dct ks ds))) ⟨env', st'⟩ Q) : Run (bnd (frzK (.loc n)) k) ⟨env, st⟩ Q := by
  subst e4
  exact rb_frzL (fz_dct e e2) e3 h
/-- a def that only tells a tree, of the same from trees -/
theorem pureP_of {F : FF} {ds : List D} {d : D} {st' : Store} (e : F (ds.map .d) [] = some (.ok (.d d), st')) : pureP F ds = some (.ok d) := by
  unfold pureP
  rw [e]
  show (match fz 20 (.d d) st' with | some (d, _) => some (Out.ok d) | none => none) = _
  rw [fz_d]
end
/-! what putW does -/
theorem put_all {P : W → Prop} {q : Key} {y : W} (hy : P y) {ks : List Key} {ws : List W} (hl : ks.length = ws.length) (hn : ks.Nodup) (h : ∀ w ∈ ws, P w) :
    (putW ks ws q y).1.Nodup ∧ (putW ks ws q y).1.length = (putW ks ws q y).2.length ∧ (putW ks ws q y).1.length ≤ ks.length + 1 ∧ (∀ w ∈ (putW ks ws q y).2, P w) ∧ ∀ k ∈ (putW ks ws q y).1, k ∈ ks ∨ k = q := by
  unfold putW putG
  by_cases z : ((ks.zip ws).any fun kv => decide (kv.1 = q)) = true
  · rw [if_pos z]
    simp only
    have e1 : List.map (fun x => x.1) (List.map (fun kv => if kv.1 = q then (kv.1, y) else kv) (ks.zip ws)) = ks := map_keys hl
    rw [e1]
    refine ⟨hn, by simp [hl], by omega, fun w hw => ?_, fun k hk => .inl hk⟩
    obtain ⟨p, hp, rfl⟩ := List.mem_map.mp hw
    obtain ⟨p0, hp0, rfl⟩ := List.mem_map.mp hp
    split
    · exact hy
    · exact h _ (List.of_mem_zip hp0).2
  · rw [if_neg z]
    simp only [List.map_append, List.map_cons, List.map_nil]
    rw [List.map_fst_zip (by omega), List.map_snd_zip (by omega)]
    refine ⟨?_, by simp [hl], by simp, fun w hw => ?_, fun k hk => ?_⟩
    · refine List.nodup_append.mpr ⟨hn, by simp, fun a ha b hb e => z ?_⟩
      have hb : b = q := by simpa using hb
      subst hb e
      rw [List.any_eq_true]
      obtain ⟨i, hi, rfl⟩ := List.getElem_of_mem ha
      exact ⟨(ks[i], ws[i]'(by omega)), by rw [← List.getElem_zip (h := by simp; omega)]; exact List.getElem_mem _, decide_eq_true rfl⟩
    · rcases List.mem_append.mp hw with hw | hw
      · exact h w hw
      · rw [List.mem_singleton.mp hw]; exact hy
    · rcases List.mem_append.mp hk with hw | hw
      · exact .inl hw
      · exact .inr (List.mem_singleton.mp hw)
theorem val_none {q : Key} : ∀ {ks : List Key} {ws : List W}, ¬ q ∈ ks → valW ks ws q = none
  | [], _, _ => rfl
  | _ :: _, [], _ => rfl
  | k :: ks, w :: ws, h => by
    unfold valW
    rw [if_neg fun e => h (by rw [e]; exact List.mem_cons_self)]
    exact val_none fun e => h (List.mem_cons_of_mem _ e)
theorem val_mem {q : Key} {w : W} : ∀ {ks : List Key} {ws : List W}, valW ks ws q = some w → w ∈ ws
  | [], _, h => by cases h
  | _ :: _, [], h => by cases h
  | k :: ks, x :: ws, h => by
    unfold valW at h
    split at h
    · cases h; exact List.mem_cons_self
    · exact List.mem_cons_of_mem _ (val_mem h)
theorem val_some {q : Key} : ∀ {ks : List Key} {ws : List W}, ks.length = ws.length → q ∈ ks → ∃ w, valW ks ws q = some w
  | [], _, _, h => by cases h
  | _ :: _, [], h, _ => by cases h
  | k :: ks, x :: ws, hl, h => by
    unfold valW
    by_cases e : k = q
    · exact ⟨x, if_pos e⟩
    · rw [if_neg e]
      rcases List.mem_cons.mp h with h | h
      · exact absurd h.symm e
      · exact val_some (Nat.succ.inj hl) h
theorem val_zip {q : Key} {w : W} : ∀ {ks : List Key} {ws : List W}, ks.Nodup → (q, w) ∈ ks.zip ws → valW ks ws q = some w
  | [], _, _, h => by simp at h
  | _ :: _, [], _, h => by simp at h
  | k :: ks, x :: ws, hn, h => by
    obtain ⟨h1, h2⟩ := List.nodup_cons.mp hn
    unfold valW
    rw [List.zip_cons_cons] at h
    rcases List.mem_cons.mp h with h | h
    · cases h
      exact if_pos rfl
    · rw [if_neg fun e => h1 (by rw [e]; exact (List.of_mem_zip h).1)]
      exact val_zip h2 h
/-- a dict is like itself -/
theorem eqK_refl {ks : List Key} {ws : List W} (hn : ks.Nodup) (h : ∀ w ∈ ws, (kyW w).isSome = true) : eqK ks ws ks ws = true := by
  unfold eqK
  rw [decide_eq_true rfl, Bool.true_and, List.all_eq_true]
  rintro ⟨q, w⟩ hp
  rw [Bool.and_eq_true, decide_eq_true_eq]
  refine ⟨h w (List.of_mem_zip hp).2, ?_⟩
  simp only
  rw [val_zip hn hp]
  rfl
/-! dicts of texts to texts -/
theorem sw_of {P : Str → Prop} : ∀ {ws : List W}, (∀ w ∈ ws, ∃ z, w = .d (.str z) ∧ P z) → ∃ zs, ws = sw zs ∧ ∀ z ∈ zs, P z
  | [], _ => ⟨[], rfl, fun _ h => nomatch h⟩
  | w :: ws, h => by
    obtain ⟨z, rfl, hz⟩ := h w List.mem_cons_self
    obtain ⟨zs, rfl, hs⟩ := sw_of fun x hx => h x (List.mem_cons_of_mem _ hx)
    exact ⟨z :: zs, rfl, fun x hx => (List.mem_cons.mp hx).elim (fun e => by rw [e]; exact hz) (hs x)⟩
theorem put_str {P : Str → Prop} {q : Key} {y : Str} {ks : List Key} {zs : List Str} (hy : P y) (hl : ks.length = zs.length) (hn : ks.Nodup) (h : ∀ z ∈ zs, P z) :
    ∃ ks' zs', (putW ks (sw zs) q (.d (.str y))).1 = ks' ∧ (putW ks (sw zs) q (.d (.str y))).2 = sw zs' ∧ ks'.Nodup ∧ ks'.length = zs'.length ∧ ks'.length ≤ ks.length + 1 ∧ ∀ z ∈ zs', P z := by
  obtain ⟨h1, h2, h3, h4, _⟩ := put_all (q := q) (P := fun w => ∃ z, w = .d (.str z) ∧ P z) (y := .d (.str y)) ⟨y, rfl, hy⟩ (ws := sw zs) (by rw [sw_len]; exact hl) hn (fun w hw => by
    obtain ⟨z, hz, rfl⟩ := List.mem_map.mp hw
    exact ⟨z, rfl, h z hz⟩)
  obtain ⟨zs', e, h5⟩ := sw_of h4
  exact ⟨_, zs', rfl, e, h1, by rw [h2, e, sw_len], h3, h5⟩
/-- x by the names of a dict -/
def ren (ks : List Key) (zs : List Str) (x : Str) : Str := match valW ks (sw zs) (.inr x) with
  | some (.d (.str y)) => y
  | _ => x
theorem ren_get {ks : List Key} {zs : List Str} {x : Str} : dgetW ks (sw zs) (.inr x) (.d (.str x)) = .d (.str (ren ks zs x)) ∧ (ren ks zs x = x ∨ ren ks zs x ∈ zs) := by
  unfold dgetW ren
  cases e : valW ks (sw zs) (.inr x) with
  | none => exact ⟨rfl, .inl rfl⟩
  | some w =>
    obtain ⟨z, hz, rfl⟩ := List.mem_map.mp (val_mem e)
    exact ⟨rfl, .inr hz⟩
theorem rb_ren {β : Type} {env : List (Option W)} {st : Store} {Q : Out β → SS → Prop} {k : W → EM β} {w : W} {x : Str} {ks : List Key} {zs : List Str} (e : dctW st w = some (ks, sw zs)) (h : Run (k (.d (.str (ren ks zs x)))) ⟨env, st⟩ Q) : Run (bnd (lookE w (.d (.str x)) (.d (.str x))) k) ⟨env, st⟩ Q := by
  refine rb_look e rfl ?_
  rw [ren_get.1]
  exact h
theorem dct_sw {st : Store} {ks : List Key} {zs : List Str} : dctW st (.d (.dct ks (zs.map .str))) = some (ks, sw zs) := by
  show some (ks, (zs.map D.str).map W.d) = _
  rw [List.map_map]
  rfl
theorem ren_ok {P : Str → Prop} {ks : List Key} {zs : List Str} {x : Str} (hx : P x) (h : ∀ z ∈ zs, P z) : P (ren ks zs x) := by
  rcases (ren_get (ks := ks) (zs := zs) (x := x)).2 with e | e
  · rw [e]; exact hx
  · exact h _ e
end EV
/-! EV21: rows of words. -/
namespace EV
open PySem L2
/-- words as a row -/
def rowJ (ws : List Str) : Str := Txt.join (Str.ofString " ") ws
/-- words that a row keeps apart -/
def okW (ws : List Str) : Prop := ws ≠ [] ∧ ws.length ≤ 100 ∧ ∀ w ∈ ws, w.length ≤ 100 ∧ ¬ 32 ∈ w.cps.toList
theorem split_row {ws : List Str} (h : okW ws) : Txt.split (rowJ ws) (Str.ofString " ") = ws :=
  TL.split_join (s := 32) (S := []) (by decide +kernel) (by decide +kernel) h.1 fun p hp => (h.2.2 p hp).2
theorem sum_le {ws : List Str} {n : Nat} (h : ∀ w ∈ ws, w.length ≤ n) : (ws.map fun x => x.length).sum ≤ ws.length * n := by
  induction ws with
  | nil => simp
  | cons w ws ih =>
    have h1 := h w List.mem_cons_self
    have h2 := ih fun x hx => h x (List.mem_cons_of_mem _ hx)
    simp only [List.map_cons, List.sum_cons, List.length_cons]
    rw [Nat.add_mul]
    omega
theorem okW_sum {ws : List Str} (h : okW ws) : (ws.map fun x => x.length).sum ≤ 10000 := by
  have h1 := sum_le (n := 100) fun w hw => (h.2.2 w hw).1
  have := h.2.1
  omega
theorem rowJ_len {ws : List Str} (h : okW ws) : (rowJ ws).length ≤ 10100 := by
  have h1 := StrLaws.join_length_le (Str.ofString " ") ws
  have e : (Str.ofString " ").length = 1 := rfl
  rw [e, Nat.mul_one] at h1
  have e2 : rowJ ws = Str.join (Str.ofString " ") ws := StrLaws.glued_eq_join _ _
  rw [e2]
  have := okW_sum h
  have := h.2.1
  omega
section
variable {β : Type} {env : List (Option W)} {st st' : Store} {s : SS} {Q : Out β → SS → Prop} {k : W → EM β}
theorem rl_splitR {ws : List Str} (h : okW ws) (q : Run (k (.d (strs' ws))) ⟨env, st⟩ Q) : Run (bnd (lft fun st => splitW false st (.d (.str (rowJ ws))) [.d (.str (Str.ofString " "))]) k) ⟨env, st⟩ Q := by
  refine rb_lft ?_ q
  have hl := rowJ_len h
  have e : (Str.ofString " ").length = 1 := rfl
  unfold splitW
  simp only [e]
  rw [if_pos ⟨by decide, by omega⟩, split_row h]
  unfold newL strs'
  simp only [Bool.false_eq_true, if_false]
  have := allD_sw ws
  unfold sw at this
  rw [this]
theorem rl_joinB {zs : List Str} (hl : (zs.map fun x => x.length).sum + zs.length ≤ 16777216) (h : Run (k (.d (.str (rowJ zs)))) ⟨env, st⟩ Q) : Run (bnd (lft fun st => joinW st (.d (.str (Str.ofString " "))) [.d (strs' zs)]) k) ⟨env, st⟩ Q := by
  refine rb_lft ?_ h
  unfold joinW strs'
  simp only [snap_d, strsD_map]
  have e : (Str.ofString " ").length = 1 := rfl
  rw [e, Nat.mul_one, if_pos hl]
  rfl
theorem rl_joinR {zs : List Str} (h : okW zs) (q : Run (k (.d (.str (rowJ zs)))) ⟨env, st⟩ Q) : Run (bnd (lft fun st => joinW st (.d (.str (Str.ofString " "))) [.d (strs' zs)]) k) ⟨env, st⟩ Q :=
  rl_joinB (by have := okW_sum h; have := h.2.1; omega) q
theorem rl_lenSs {zs : List Str} (h : Run (k (.d (.int zs.length))) ⟨env, st⟩ Q) : Run (bnd (lft fun st => lenW st [.d (strs' zs)]) k) ⟨env, st⟩ Q := rl_lenL (by rw [List.length_map]; exact h)
theorem rl_ixSk {zs : List Str} {i : Int} {z : Str} (e : atI zs i = some z) (h : Run (k (.d (.str z))) ⟨env, st⟩ Q) : Run (bnd (lft fun st => ixA st (.d (strs' zs)) (.d (.int i))) k) ⟨env, st⟩ Q := rl_ixL (by rw [atI_map, e]; rfl) h
theorem rl_ixC0 {a : Str} {r : List Str} (h : Run (k (.d (.str a))) ⟨env, st⟩ Q) : Run (bnd (lft fun st => ixA st (.d (strs' (a :: r))) (.d (.int 0))) k) ⟨env, st⟩ Q := rl_ixSs ⟨by decide, by simp⟩ h
theorem rl_ixC1 {a b : Str} {r : List Str} (h : Run (k (.d (.str b))) ⟨env, st⟩ Q) : Run (bnd (lft fun st => ixA st (.d (strs' (a :: b :: r))) (.d (.int 1))) k) ⟨env, st⟩ Q := rl_ixSs ⟨by decide, by simp; omega⟩ h
theorem rl_ixC2 {a b c : Str} {r : List Str} (h : Run (k (.d (.str c))) ⟨env, st⟩ Q) : Run (bnd (lft fun st => ixA st (.d (strs' (a :: b :: c :: r))) (.d (.int 2))) k) ⟨env, st⟩ Q := rl_ixSs ⟨by decide, by simp; omega⟩ h
theorem rl_slSs {zs : List Str} {lo hi : Option Int} (h : Run (k (.d (strs' (cutW zs lo hi)))) ⟨env, st⟩ Q) : Run (bnd (lft fun st => sliceA false st (.d (strs' zs)) lo hi) k) ⟨env, st⟩ Q := rl_slL (by rw [cutW_map]; exact h)
theorem rl_slSO {zs : List Str} {lo hi : Option Int} {n : Nat} (e : st.length = n) (e2 : st ++ [some (.lst (sw (cutW zs lo hi)))] = st') (h : Run (k (.loc n)) ⟨env, st'⟩ Q) : Run (bnd (lft fun st => sliceA true st (.d (strs' zs)) lo hi) k) ⟨env, st⟩ Q := by
  subst e e2
  refine rb_lft ?_ h
  show newL true (cutW ((zs.map D.str).map W.d) lo hi) st = _
  rw [List.map_map, cutW_map]
  rfl
theorem rl_listF {ds : List D} (h : Run (k (.d (.lst ds))) ⟨env, st⟩ Q) : Run (bnd (lft fun st => listC false st [.d (.lst ds)]) k) ⟨env, st⟩ Q := by
  refine rb_lft ?_ h
  show newL false (ds.map W.d) st = _
  unfold newL
  rw [allD_map]
  rfl
theorem rl_listSs {zs : List Str} (h : Run (k (.d (strs' zs))) ⟨env, st⟩ Q) : Run (bnd (lft fun st => listC false st [.d (strs' zs)]) k) ⟨env, st⟩ Q := rl_listF h
theorem rl_listO {n : Nat} {ws : List W} {ds : List D} (e : st[n]? = some (some (.lst ws))) (e2 : allD ws = some ds) (h : Run (k (.d (.lst ds))) ⟨env, st⟩ Q) : Run (bnd (lft fun st => listC false st [.loc n]) k) ⟨env, st⟩ Q := by
  refine rb_lft ?_ h
  show (match (match st[n]? with | some (some (.lst ws)) => some ws | _ => none) with | some ws => newL false ws st | none => _) = _
  rw [e]
  show newL false ws st = _
  unfold newL
  rw [e2]
  rfl
theorem rl_insert {n : Nat} {ws : List W} {i : Int} {x : W} (e : st[n]? = some (some (.lst ws))) (hl : ws.length < 16777216 ∧ 0 ≤ i ∧ i < 1000000000) (e2 : st.set n (some (.lst (ws.take i.toNat ++ [x] ++ ws.drop i.toNat))) = st') (h : Run (k (.d .non)) ⟨env, st'⟩ Q) :
    Run (bnd (lft fun st => insertW st (.loc n) [.d (.int i), x]) k) ⟨env, st⟩ Q := by
  subst e2
  refine rb_lft ?_ h
  unfold insertW wrL
  simp only [e]
  rw [if_pos hl]
theorem eq_strs : ∀ (xs ys : List Str), D.eq (strs' xs) (strs' ys) = decide (xs = ys)
  | [], [] => rfl
  | [], _ :: _ => rfl
  | _ :: _, [] => rfl
  | x :: xs, y :: ys => by
    show (D.eq (.str x) (.str y) && D.eq (strs' xs) (strs' ys)) = _
    rw [eq_str, eq_strs xs ys, Bool.eq_iff_iff]
    simp
theorem eqB_strs {xs ys : List Str} (hx : ∀ z ∈ xs, okS z) (hy : ∀ z ∈ ys, okS z) : eqB st (.d (strs' xs)) (.d (strs' ys)) = some (decide (xs = ys)) := by
  have ox := okD_of (okN_strs (n := 0) hx) (by decide)
  have oy := okD_of (okN_strs (n := 0) hy) (by decide)
  unfold eqB strs' at *
  simp only [snap_d, ox, oy, Bool.and_self, if_true]
  exact congrArg some (eq_strs xs ys)
theorem rl_neSs {xs ys : List Str} (hx : ∀ z ∈ xs, okS z) (hy : ∀ z ∈ ys, okS z) (q : Run (k (.d (.bl (!decide (xs = ys))))) ⟨env, st⟩ Q) : Run (bnd (lft fun st => neA st (.d (strs' xs)) (.d (strs' ys))) k) ⟨env, st⟩ Q := rl_neB (eqB_strs hx hy) q
theorem rl_eqSs {xs ys : List Str} (hx : ∀ z ∈ xs, okS z) (hy : ∀ z ∈ ys, okS z) (q : Run (k (.d (.bl (decide (xs = ys))))) ⟨env, st⟩ Q) : Run (bnd (lft fun st => eqA st (.d (strs' xs)) (.d (strs' ys))) k) ⟨env, st⟩ Q := rl_eqB (eqB_strs hx hy) q
end
theorem cut_from {α : Type} {xs : List α} {a : Nat} : cutW xs (some (a : Int)) none = xs.drop a := by
  unfold cutW HT.sIx
  simp only
  rw [if_neg (by omega)]
  have e : min ((a : Int)).toNat xs.length = min a xs.length := by simp
  rw [e]
  by_cases h : a ≤ xs.length
  · rw [Nat.min_eq_left h, List.take_of_length_le (by simp)]
  · rw [Nat.min_eq_right (by omega), List.drop_of_length_le (by omega), List.drop_of_length_le (by omega)]
    simp
theorem cut_upto {α : Type} {xs : List α} {a : Nat} (h : a ≤ xs.length) : cutW xs none (some (a : Int)) = xs.take a := by
  unfold cutW HT.sIx
  simp only
  rw [if_neg (by omega)]
  simp [Nat.min_eq_left h]
theorem strs_join {a b : List Str} : strs' (a ++ b) = .lst (a.map .str ++ b.map .str) := by
  unfold strs'
  rw [List.map_append]
theorem rl_addSs {β : Type} {env : List (Option W)} {st : Store} {Q : Out β → SS → Prop} {k : W → EM β} {xs ys : List Str} (hl : xs.length + ys.length ≤ 16777216) (h : Run (k (.d (strs' (xs ++ ys)))) ⟨env, st⟩ Q) : Run (bnd (lft fun st => addA false st (.d (strs' xs)) (.d (strs' ys))) k) ⟨env, st⟩ Q :=
  rl_addL (by simpa using hl) (by rw [strs_join] at h; exact h)
/-! fields written -/
def sfK (ok : List Nat) (i : Nat) (y : W) : W → EM Fl := fun w => fun s => match w with
  | .loc n => match s.st[n]? with
    | some (some (.ins k ks ws)) => if ok.contains k && decide (ks.length < 900) then some (.ok .nx, ⟨s.env, s.st.set n (some (.ins k (fput ks ws i y).1 (fput ks ws i y).2))⟩) else none
    | _ => none
  | _ => none
section
variable {β : Type} {env : List (Option W)} {st st' : Store} {s : SS} {Q : Out β → SS → Prop} {k : Fl → EM β}
theorem sfld_eq (ok : List Nat) (i : Nat) (mo m : EM W) : sfldS ok i mo m = bnd m fun y => bnd mo (sfK ok i y) := rfl
theorem rb_sfld {ok : List Nat} {i : Nat} {mo m : EM W} (h : Run (bnd m fun y => bnd mo fun w => bnd (sfK ok i y w) k) s Q) : Run (bnd (sfldS ok i mo m) k) s Q := by
  rw [sfld_eq]
  exact rb_bnd2 h
theorem rl_sfld {ok : List Nat} {i n c : Nat} {ks : List Nat} {ws : List W} {y : W} (e : st[n]? = some (some (.ins c ks ws))) (h1 : (ok.contains c && decide (ks.length < 900)) = true) (e2 : st.set n (some (.ins c (fput ks ws i y).1 (fput ks ws i y).2)) = st') (h : Run (k .nx) ⟨env, st'⟩ Q) :
    Run (bnd (sfK ok i y (.loc n)) k) ⟨env, st⟩ Q := by
  subst e2
  refine rb_eq ?_ h
  unfold sfK
  simp only [e]
  rw [if_pos h1]
end
end EV
/-! EV22: raising. -/
namespace EV
open PySem PySem.Spec PyProof.Rows L2
/-- an `__init__` of an exception that keeps its one argument -/
def spX1 (C : Addr) (f : Str) : Sp := fun vs H Q _ => ∃ a y, vs = [.ref a, y] ∧ H a = some (exo a C none) ∧ ∀ dx, H dx = none → dx ≠ a → Q .non (upd (upd H dx (exd dx [(f, y)])) a (exo a C (some dx)))
theorem fn_x1 {P : Program} {w : World} {K : PySem.W.Frag} {mg : Str → Option Value} {base : Heap} {x qual f : Str} {sd : Stmt} {fI C : Addr} {N ps : List Str} (D : DefAt K x qual sd fI ps) (S : FnScope N ps (defScope sd)) (T : OexC K C) (hno : PySem.W.findIn K (.ref C) f = some none) (hl : ps.length = 2)
    (hb : ∀ (cdv : Value) (A : Around) (outer : List Env) (s : Shared) (H : Hp) (E : XK), PSs (cxOf (L2.CX P w) P w K mg base N qual (defScope sd) fI cdv A outer s H E) (defBody sd) (tOst K f (tVar 0) (tVar 1))) : FnS P w K mg base 1 fI (spX1 C f) [] := by
  obtain ⟨fd, F, b⟩ := D.ex
  refine ⟨fd, ps, [], F.okX (k := 0) S (fun vs H Q E h => ?_) (fun cdv A outer s H vs Q E hr h => ⟨_, hb cdv A outer s H E, ?_⟩), F.kp, b, .nil⟩
  · obtain ⟨a, y, rfl, _⟩ := h
    exact hl.symm
  · obtain ⟨a, y, rfl, ha, q⟩ := h
    exact ⟨y, rfl, .ref a, rfl, a, C, rfl, T, hno, .inl ⟨ha, q⟩⟩
/-- raise C(e) -/
def raiseS (k : Nat) (ks : List Nat) (m : EM (List W)) : EM Fl := bnd (treesE m) fun ds => if ds.length = ks.length then thr k ks ds else non
theorem passes_no {CX : CXT} {X : Cx} (h : CX = L2.CX X.prog X.w) : Passes CX X (fun _ _ _ => False) := by
  subst h
  intro pins σ H s e s' I hx
  obtain ⟨_, _, _, _, _, _, _, _, _, _, _, _, z⟩ := hx
  exact z.elim
theorem es_raise1 {X : Cx} {c : Kx} {U : WX} {k i j : Nat} {C fI : Addr} {f x : Str} {e : Expr} {p pos pos' : Pos} {m : EM (List W)} (hcalm : X.calm = true) (tk : Takes X U) (hk : c.ct[k]? = some C) (hf : c.fn[i]? = some f) (T : OexC X.K C)
    (iC : PySem.W.findIn X.K (.ref C) "__init__" = some (some (.ref fI))) (tI : PySem.W.typeIn X.K (.ref fI) = some (.type "function")) (Fn : FnS X.prog X.w X.K X.mg X.base j fI (spX1 C f) []) (hr : Room (j + 1) X.A) (hg : Gl X x) (hm : X.mg x = some (.ref C)) (ha : EA c X U [e] m)
    (hdb : (x == ("__debug__" : Str)) = false := by decide) (he : starEach [e] X.env = (false, eval e X.env) :: starEach [] X.env := by rfl) (hpl : (backTo pos (starEach [] X.env)).any (·.1) = false := by rfl) : ES c X U (.Raise (some (.Call (.Name x p) [e] [] pos)) none pos') (raiseS k [i] m) := by
  obtain ⟨fd, ps, ds, F, kp, b, dd⟩ := Fn.ex
  refine ⟨ha.K, PS.imp (ps_raise hcalm tk (pmk_oex T iC tI F hr b dd (passes_no rfl) hg hm ha.pa hdb he hpl)) fun D σ H ⟨ρ, G, s, hR, w⟩ => ?_⟩
  have w : Ws c U (bnd m fun ws => bnd (treesK ws) fun ds => if ds.length = [i].length then thr k [i] ds else non) ρ G H s (kD c D) := by
    have e2 : raiseS k [i] m = bnd m fun ws => bnd (treesK ws) fun ds => if ds.length = [i].length then thr k [i] ds else non := by
      unfold raiseS
      rw [treesE_eq, bnd_assoc]
    rw [← e2]
    exact w
  refine ⟨ρ, G, s, hR, (Ws.bndE hR w).imp fun ws ρ1 G1 H1 s1 ⟨S1, R1, w1⟩ vs rvs => ?_⟩
  cases ew : allD ws with
  | none => exact w1.none (by unfold treesK; rw [ew]; rfl)
  | some ds =>
    obtain rfl := allD_eq ew
    have e3 : (bnd (treesK (ds.map W.d)) fun ds => if ds.length = [i].length then (thr k [i] ds : EM Fl) else non) = if ds.length = [i].length then thr k [i] ds else non := by
      unfold treesK
      rw [ew]
      rfl
    rw [e3] at w1
    by_cases hl : ds.length = [i].length
    · rw [if_pos hl] at w1
      obtain ⟨d0, rfl⟩ : ∃ d0, ds = [d0] := by
        match ds, hl with
        | [d0], _ => exact ⟨d0, rfl⟩
      have rd := RepWs.toD rvs
      obtain ⟨y, rfl, ry⟩ : ∃ y, vs = [y] ∧ RepD c G1 d0 y := by
        cases rd with
        | cons r t => cases t; exact ⟨_, rfl, r⟩
      refine ⟨by simp, fun a ha0 => ⟨a, y, rfl, upd_same, fun dx hdx hne => ⟨rfl, dx, [(f, y)], upd_same, by rw [upd_ne hne, upd_same], ?_, ?_⟩⟩⟩
      · rw [upd_ne hne] at hdx
        exact hdx
      · rw [upd_ne hne] at hdx
        have eq : upd (del (upd (upd (upd H1 a (exo a C none)) dx (exd dx [(f, y)])) a (exo a C (some dx))) a) dx (.xd [(f, y)]) = upd H1 dx (.xd [(f, y)]) := by
          funext b
          by_cases hb : b = dx
          · rw [hb, upd_same, upd_same]
          · rw [upd_ne hb, upd_ne hb]
            by_cases hba : b = a
            · rw [hba, del_same, ha0]
            · rw [del_ne hba, upd_ne hba, upd_ne hb, upd_ne hba]
        rw [eq]
        obtain ⟨S2, r2⟩ := new_frozen (o := .xd [(f, y)]) R1.rs hdx
        have en : c.nm i = f := by
          unfold Kx.nm
          rw [List.getD_eq_getElem?_getD, hf]
          rfl
        refine w1 ρ1 _ σ _ (.ref C) (some dx) S2 ⟨r2, R1.env.mono S2.rho S2.same, R1.len⟩ ⟨C, hk, rfl, .inr ⟨dx, [y], rfl, rfl, ?_, .cons (ry.mono S2.same) .nil⟩⟩
        show upd G1 dx (.xd [(f, y)]) dx = some (.xd [(c.nm i, y)])
        rw [upd_same, en]
    · rw [if_neg hl] at w1
      exact w1.none rfl
/-- nothing is promised -/
theorem fn_none {P : Program} {w : World} {mg : Str → Option Value} {base : Heap} {c : Kx} {x qual : Str} {sd : Stmt} {f : Addr} {N ps : List Str} {np : Nat} (D : DefAt c.K x qual sd f ps) (S : FnScope N ps (defScope sd)) : FnS P w c.K mg base 1 f (spP c np (fun _ => none)) [] := by
  obtain ⟨fd, F, b⟩ := D.ex
  refine ⟨fd, ps, [], F.okX (k := 0) S (fun vs H Q E h => ?_) (fun cdv A outer s H vs Q E hr h => ?_), F.kp, b, .nil⟩
  · obtain ⟨_, _, _, _, _, z⟩ := h
    exact z.elim
  · obtain ⟨_, _, _, _, _, z⟩ := h
    exact z.elim
theorem rb_raise {β : Type} {s : SS} {Q : Out β → SS → Prop} {k : Fl → EM β} {C : Nat} {ks : List Nat} {m : EM (List W)} (h : Run (bnd m fun ws => bnd (treesK ws) fun ds => bnd (if ds.length = ks.length then (thr C ks ds : EM Fl) else non) k) s Q) : Run (bnd (raiseS C ks m) k) s Q := by
  unfold raiseS
  rw [bnd_assoc, treesE_eq, bnd_assoc]
  exact h
theorem rb_thrS {β : Type} {s : SS} {Q : Out β → SS → Prop} {k : Fl → EM β} {C : Nat} {ks : List Nat} {ds : List D} (hl : ds.length = ks.length) (h : Q (.ex C ks ds) s) : Run (bnd (if ds.length = ks.length then (thr C ks ds : EM Fl) else non) k) s Q := by
  rw [if_pos hl]
  exact rb_thr h
end EV
/-! EV23: parts within parts as own objects. -/
namespace EV
open PySem L2
instance kmem {q : L2.Key} {ks : List L2.Key} : Decidable (q ∈ ks) := decidable_of_iff ((ks.any fun x => decide (x = q)) = true) (by
  rw [List.any_eq_true]
  constructor
  · rintro ⟨x, h, e⟩
    exact of_decide_eq_true e ▸ h
  · exact fun h => ⟨q, h, decide_eq_true rfl⟩)
/-- a part as a tree -/
def ptD (name : Str) (rooms : List Str) (rows : List D) : D := .ins 7 [5, 7, 8] [.str name, strs' rooms, .lst rows]
def ptO (name : Str) (a b : Nat) : OO := .ins 7 [5, 7, 8] [.d (.str name), .loc a, .loc b]
mutual
/-- w, with the places fp, is the tree d, at most h parts deep -/
inductive Den (st : Store) : Nat → List Nat → W → D → Prop
  | d (h : Nat) (x : D) : Den st h [] (.d x) x
  | part {h m a b : Nat} {name : Str} {rooms : List Str} {items : List W} {rows : List D} {fp : List Nat} (e1 : st[m]? = some (some (ptO name a b))) (e2 : st[a]? = some (some (.lst (sw rooms)))) (e3 : st[b]? = some (some (.lst items))) (t : Dens st h fp items rows) :
      Den st (h + 1) (m :: a :: b :: fp) (.loc m) (ptD name rooms rows)
inductive Dens (st : Store) : Nat → List Nat → List W → List D → Prop
  | nil (h : Nat) : Dens st h [] [] []
  | cons {h : Nat} {f1 f2 : List Nat} {w : W} {ws : List W} {d : D} {ds : List D} (e : Den st h f1 w d) (t : Dens st h f2 ws ds) : Dens st h (f1 ++ f2) (w :: ws) (d :: ds)
end
theorem Dens.lens {st : Store} : ∀ {h : Nat} {fp : List Nat} {ws : List W} {ds : List D}, Dens st h fp ws ds → ws.length = ds.length
  | _, _, _, _, .nil _ => rfl
  | _, _, _, _, .cons _ t => congrArg (· + 1) (Dens.lens t)
mutual
theorem Den.lt {st : Store} : ∀ {h : Nat} {fp : List Nat} {w : W} {d : D}, Den st h fp w d → ∀ k ∈ fp, k < st.length
  | _, _, _, _, .d h x, k, q => (nomatch q)
  | _, _, _, _, .part e1 e2 e3 t, k, q => by
    simp only [List.mem_cons] at q
    rcases q with rfl | rfl | rfl | q
    · exact (List.getElem?_eq_some_iff.mp e1).1
    · exact (List.getElem?_eq_some_iff.mp e2).1
    · exact (List.getElem?_eq_some_iff.mp e3).1
    · exact Dens.lt t k q
theorem Dens.lt {st : Store} : ∀ {h : Nat} {fp : List Nat} {ws : List W} {ds : List D}, Dens st h fp ws ds → ∀ k ∈ fp, k < st.length
  | _, _, _, _, .nil h, k, q => (nomatch q)
  | _, _, _, _, .cons e t, k, q => (List.mem_append.mp q).elim (Den.lt e k) (Dens.lt t k)
end
theorem Dens.snoc {st : Store} {h : Nat} {w : W} {d : D} {f : List Nat} : ∀ {fp : List Nat} {ws : List W} {ds : List D}, Dens st h fp ws ds → Den st h f w d → Dens st h (fp ++ f) (ws ++ [w]) (ds ++ [d])
  | _, _, _, .nil _, e => by
    have := Dens.cons e (.nil h)
    rw [List.append_nil] at this
    exact this
  | _, _, _, .cons e0 t, e => by
    rw [List.append_assoc]
    exact .cons e0 (t.snoc e)
mutual
theorem Den.frame {st st' : Store} : ∀ {h : Nat} {fp : List Nat} {w : W} {d : D}, Den st h fp w d → (∀ n ∈ fp, st'[n]? = st[n]?) → Den st' h fp w d
  | _, _, _, _, .d h x, _ => .d h x
  | _, _, _, _, .part e1 e2 e3 t, q => .part ((q _ (by simp)).trans e1) ((q _ (by simp)).trans e2) ((q _ (by simp)).trans e3) (Dens.frame t fun n hn => q n (by simp [hn]))
theorem Dens.frame {st st' : Store} : ∀ {h : Nat} {fp : List Nat} {ws : List W} {ds : List D}, Dens st h fp ws ds → (∀ n ∈ fp, st'[n]? = st[n]?) → Dens st' h fp ws ds
  | _, _, _, _, .nil h, _ => .nil h
  | _, _, _, _, .cons e t, q => .cons (Den.frame e fun n hn => q n (by simp [hn])) (Dens.frame t fun n hn => q n (by simp [hn]))
end
theorem ne_in {a b : Nat} {l : List Nat} (h : ¬ a ∈ l) (h2 : b ∈ l) : a ≠ b := fun e => h (e ▸ h2)
theorem set_get {st : Store} {n m : Nat} {o : Option OO} (h : n ≠ m) : (st.set n o)[m]? = st[m]? := List.getElem?_set_ne h
/-- what freezing leaves -/
def Left (st st' : Store) (fp : List Nat) : Prop := st'.length = st.length ∧ ∀ n, ¬ n ∈ fp → st'[n]? = st[n]?
mutual
theorem Den.fz : ∀ {st : Store} {h : Nat} {fp : List Nat} {w : W} {d : D}, Den st h fp w d → fp.Nodup → ∀ k, 2 * h + 1 ≤ k → ∃ st', EV.fz k w st = some (d, st') ∧ Left st st' fp
  | st, _, _, _, _, .d h x, _, k, _ => ⟨st, fz_d k x st, rfl, fun _ _ => rfl⟩
  | st, _, _, _, _, .part (h := h) (m := m) (a := a) (b := b) (name := name) (rooms := rooms) (items := items) (rows := rows) (fp := fp) e1 e2 e3 t, nd, k, hk => by
    obtain ⟨k, rfl⟩ : ∃ k', k = k' + 2 := ⟨k - 2, by omega⟩
    obtain ⟨n1, nd⟩ := List.nodup_cons.mp nd
    obtain ⟨n2, nd⟩ := List.nodup_cons.mp nd
    obtain ⟨n3, nd⟩ := List.nodup_cons.mp nd
    simp only [List.mem_cons, not_or] at n1 n2 n3
    have q1 : (st.set m none)[a]? = some (some (.lst (sw rooms))) := (set_get n1.1).trans e2
    have q2 : ((st.set m none).set a none)[b]? = some (some (.lst items)) := (set_get n2.1).trans ((set_get n1.2.1).trans e3)
    have t2 : Dens (((st.set m none).set a none).set b none) h fp items rows := t.frame fun n hn => by
      rw [set_get (ne_in n3 hn), set_get (ne_in n2.2 hn), set_get (ne_in n1.2.2 hn)]
    obtain ⟨st', f1, f2, f3⟩ := Dens.fz t2 nd k (by omega)
    have z1 : EV.fz (k + 1) (.loc a) (st.set m none) = some (strs' rooms, (st.set m none).set a none) := by
      unfold EV.fz
      simp only [q1]
      rw [show sw rooms = (rooms.map D.str).map W.d by rw [List.map_map]; rfl, fzL_d]
      rfl
    have z2 : EV.fz (k + 1) (.loc b) ((st.set m none).set a none) = some (.lst rows, st') := by
      unfold EV.fz
      simp only [q2, f1]
    refine ⟨st', ?_, ?_, fun n hn => ?_⟩
    · show (match st[m]? with | some (some (.lst ws)) => _ | some (some (.dct ks ws)) => _ | some (some (.ins i ks ws)) => (match fzL (EV.fz (k + 1)) ws (st.set m none) with | some (ds, st1) => some (D.ins i ks ds, st1) | none => none) | _ => none) = _
      rw [e1]
      show (match fzL (EV.fz (k + 1)) [.d (.str name), .loc a, .loc b] (st.set m none) with | some (ds, st1) => some (D.ins 7 [5, 7, 8] ds, st1) | none => none) = _
      unfold fzL
      rw [fz_d]
      simp only
      unfold fzL
      rw [z1]
      simp only
      unfold fzL
      rw [z2]
      simp only
      rfl
    · rw [f2, List.length_set, List.length_set, List.length_set]
    · simp only [List.mem_cons, not_or] at hn
      rw [f3 n hn.2.2.2, set_get (Ne.symm hn.2.2.1), set_get (Ne.symm hn.2.1), set_get (Ne.symm hn.1)]
theorem Dens.fz : ∀ {st : Store} {h : Nat} {fp : List Nat} {ws : List W} {ds : List D}, Dens st h fp ws ds → fp.Nodup → ∀ k, 2 * h + 1 ≤ k → ∃ st', fzL (EV.fz k) ws st = some (ds, st') ∧ Left st st' fp
  | st, _, _, _, _, .nil h, _, k, _ => ⟨st, rfl, rfl, fun _ _ => rfl⟩
  | st, _, _, _, _, .cons (f1 := g1) (f2 := g2) (ws := ws) (d := d) (ds := ds) e t, nd, k, hk => by
    obtain ⟨nd1, nd2, nd3⟩ := List.nodup_append.mp nd
    obtain ⟨st1, f1, f2, f3⟩ := Den.fz e nd1 k hk
    obtain ⟨st2, g1', g2', g3'⟩ := Dens.fz (t.frame fun n hn => f3 n fun q => nd3 n q n hn rfl) nd2 k hk
    refine ⟨st2, ?_, by rw [g2', f2], fun n hn => ?_⟩
    · unfold fzL
      rw [f1]
      simp only
      rw [g1']
    · simp only [List.mem_append, not_or] at hn
      rw [g3' n hn.2, f3 n hn.1]
end
/-! the open parts -/
abbrev Fr := Str × List Str × List D
/-- the open parts from m on: their places ms, all places fp; h: how deep within -/
inductive Opn (st : Store) : Nat → List Nat → List Nat → Nat → List Fr → Prop
  | top {h m a b : Nat} {name : Str} {rooms : List Str} {items : List W} {rows : List D} {fp : List Nat} (e1 : st[m]? = some (some (ptO name a b))) (e2 : st[a]? = some (some (.lst (sw rooms)))) (e3 : st[b]? = some (some (.lst items))) (t : Dens st h fp items rows) :
      Opn st h [m] (m :: a :: b :: fp) m [(name, rooms, rows)]
  | more {h m a b m' : Nat} {name : Str} {rooms : List Str} {items : List W} {rows : List D} {fp fp' ms : List Nat} {frs : List Fr} (e1 : st[m]? = some (some (ptO name a b))) (e2 : st[a]? = some (some (.lst (sw rooms)))) (e3 : st[b]? = some (some (.lst (items ++ [.loc m'])))) (t : Dens st (h + 1) fp items rows)
      (o : Opn st h ms fp' m' frs) : Opn st (h + 1) (m :: ms) (m :: a :: b :: (fp ++ fp')) m ((name, rooms, rows) :: frs)
theorem Opn.frame {st st' : Store} : ∀ {h : Nat} {ms fp : List Nat} {m : Nat} {frs : List Fr}, Opn st h ms fp m frs → (∀ n ∈ fp, st'[n]? = st[n]?) → Opn st' h ms fp m frs
  | _, _, _, _, _, .top e1 e2 e3 t, q => .top ((q _ (by simp)).trans e1) ((q _ (by simp)).trans e2) ((q _ (by simp)).trans e3) (t.frame fun n hn => q n (by simp [hn]))
  | _, _, _, _, _, .more e1 e2 e3 t o, q => .more ((q _ (by simp)).trans e1) ((q _ (by simp)).trans e2) ((q _ (by simp)).trans e3) (t.frame fun n hn => q n (by simp [hn])) (o.frame fun n hn => q n (by simp [hn]))
theorem Opn.lt {st : Store} : ∀ {h : Nat} {ms fp : List Nat} {m : Nat} {frs : List Fr}, Opn st h ms fp m frs → ∀ k ∈ fp, k < st.length
  | _, _, _, _, _, .top e1 e2 e3 t, k, q => by
    simp only [List.mem_cons] at q
    rcases q with rfl | rfl | rfl | q
    · exact (List.getElem?_eq_some_iff.mp e1).1
    · exact (List.getElem?_eq_some_iff.mp e2).1
    · exact (List.getElem?_eq_some_iff.mp e3).1
    · exact Dens.lt t k q
  | _, _, _, _, _, .more e1 e2 e3 t o, k, q => by
    simp only [List.mem_cons, List.mem_append] at q
    rcases q with rfl | rfl | rfl | q | q
    · exact (List.getElem?_eq_some_iff.mp e1).1
    · exact (List.getElem?_eq_some_iff.mp e2).1
    · exact (List.getElem?_eq_some_iff.mp e3).1
    · exact Dens.lt t k q
    · exact o.lt k q
theorem Opn.head {st : Store} {h : Nat} {ms fp : List Nat} {m : Nat} {frs : List Fr} (o : Opn st h ms fp m frs) : ∃ r, ms = m :: r := by
  cases o with
  | top => exact ⟨[], rfl⟩
  | more => exact ⟨_, rfl⟩
theorem Opn.lens {st : Store} : ∀ {h : Nat} {ms fp : List Nat} {m : Nat} {frs : List Fr}, Opn st h ms fp m frs → ms.length = frs.length ∧ ms.length ≤ h + 1
  | _, _, _, _, _, .top _ _ _ _ => ⟨rfl, by simp⟩
  | _, _, _, _, _, .more _ _ _ _ o => by
    have := o.lens
    simp only [List.length_cons]
    omega
/-- the one that is open: its rows' place; what is put there -/
theorem Opn.last {st : Store} : ∀ {h : Nat} {ms fp : List Nat} {m : Nat} {frs : List Fr}, Opn st h ms fp m frs → fp.Nodup → ∃ (frs0 : List Fr) (name : Str) (rooms : List Str) (rows : List D) (mt a b : Nat) (items : List W) (ms0 : List Nat), frs = frs0 ++ [(name, rooms, rows)] ∧ ms = ms0 ++ [mt] ∧
      st[mt]? = some (some (ptO name a b)) ∧ st[b]? = some (some (.lst items)) ∧ b ∈ fp ∧ mt ∈ fp ∧ items.length = rows.length ∧ (∀ x, Opn (st.set b (some (.lst (items ++ [.d x])))) h ms fp m (frs0 ++ [(name, rooms, rows ++ [x])])) ∧
      (ms.length < h + 1 → ∀ (st1 : Store) (n a' b' : Nat) (name' : Str) (rooms' : List Str), (∀ k ∈ fp, st1[k]? = st[k]?) → (∀ k ∈ [n, a', b'], ¬ k ∈ fp) → st1[n]? = some (some (ptO name' a' b')) → st1[a']? = some (some (.lst (sw rooms'))) → st1[b']? = some (some (.lst [])) →
        Opn (st1.set b (some (.lst (items ++ [.loc n])))) h (ms ++ [n]) (fp ++ [n, a', b']) m (frs ++ [(name', rooms', [])]))
  | _, _, _, _, _, .top (h := h) (m := m) (a := a) (b := b) (name := name) (rooms := rooms) (items := items) (rows := rows) (fp := fp) e1 e2 e3 t, nd => by
    obtain ⟨n1, nd⟩ := List.nodup_cons.mp nd
    obtain ⟨n2, nd⟩ := List.nodup_cons.mp nd
    obtain ⟨n3, nd⟩ := List.nodup_cons.mp nd
    simp only [List.mem_cons, not_or] at n1 n2 n3
    have hb : b < st.length := (List.getElem?_eq_some_iff.mp e3).1
    refine ⟨[], name, rooms, rows, m, a, b, items, [], rfl, rfl, e1, e3, by simp, by simp, t.lens, fun x => ?_, fun hl st1 n a' b' name' rooms' k1 k2 c1 c2 c3 => ?_⟩
    · have t2 := (t.frame (st' := st.set b (some (.lst (items ++ [.d x])))) fun k hk => set_get (ne_in n3 hk)).snoc (.d h x)
      rw [List.append_nil] at t2
      exact .top ((set_get (Ne.symm n1.2.1)).trans e1) ((set_get (Ne.symm n2.1)).trans e2) (List.getElem?_set_self hb) t2
    · obtain ⟨h, rfl⟩ : ∃ h', h = h' + 1 := ⟨h - 1, by simp at hl; omega⟩
      have hb1 : b < st1.length := (List.getElem?_eq_some_iff.mp ((k1 b (by simp)).trans e3)).1
      have nb : ∀ k ∈ [n, a', b'], b ≠ k := fun k hk e => k2 k hk (by rw [← e]; simp)
      have t2 := t.frame (st' := st1.set b (some (.lst (items ++ [.loc n])))) fun k hk => (set_get (ne_in n3 hk)).trans (k1 k (by simp [hk]))
      have o2 : Opn (st1.set b (some (.lst (items ++ [.loc n])))) h [n] [n, a', b'] n [(name', rooms', [])] := .top ((set_get (nb n (by simp))).trans c1) ((set_get (nb a' (by simp))).trans c2) ((set_get (nb b' (by simp))).trans c3) (.nil h)
      exact .more ((set_get (Ne.symm n1.2.1)).trans ((k1 m (by simp)).trans e1)) ((set_get (Ne.symm n2.1)).trans ((k1 a (by simp)).trans e2)) (List.getElem?_set_self hb1) t2 o2
  | _, _, _, _, _, .more (h := h) (m := m) (a := a) (b := b) (m' := m') (name := name) (rooms := rooms) (items := items) (rows := rows) (fp := fp) (fp' := fp') (ms := ms) (frs := frs) e1 e2 e3 t o, nd => by
    obtain ⟨n1, nd⟩ := List.nodup_cons.mp nd
    obtain ⟨n2, nd⟩ := List.nodup_cons.mp nd
    obtain ⟨n3, nd⟩ := List.nodup_cons.mp nd
    obtain ⟨nd1, nd2, nd3⟩ := List.nodup_append.mp nd
    simp only [List.mem_cons, List.mem_append, not_or] at n1 n2 n3
    obtain ⟨frs0, name2, rooms2, rows2, mt, a2, b2, items2, ms0, rfl, rfl, q1, q2, q3, q4, q7, q5, q6⟩ := o.last nd2
    refine ⟨(name, rooms, rows) :: frs0, name2, rooms2, rows2, mt, a2, b2, items2, m :: ms0, rfl, rfl, q1, q2, by simp [q3], by simp [q4], q7, fun x => ?_, fun hl st1 n a' b' name' rooms' k1 k2 c1 c2 c3 => ?_⟩
    · exact .more ((set_get (Ne.symm (ne_in n1.2.2.2 q3))).trans e1) ((set_get (Ne.symm (ne_in n2.2.2 q3))).trans e2) ((set_get (Ne.symm (ne_in n3.2 q3))).trans e3) (t.frame fun k hk => set_get fun e => nd3 k hk b2 q3 e.symm) (q5 x)
    · have q6 := q6 (by simp at hl ⊢; omega) st1 n a' b' name' rooms' (fun k hk => k1 k (by simp [hk])) (fun k hk q => k2 k hk (by simp [q])) c1 c2 c3
      have := Opn.more (h := h) (st := st1.set b2 (some (.lst (items2 ++ [.loc n])))) ((set_get (Ne.symm (ne_in n1.2.2.2 q3))).trans ((k1 m (by simp)).trans e1)) ((set_get (Ne.symm (ne_in n2.2.2 q3))).trans ((k1 a (by simp)).trans e2)) ((set_get (Ne.symm (ne_in n3.2 q3))).trans ((k1 b (by simp)).trans e3)) (t.frame (st' := st1.set b2 (some (.lst (items2 ++ [.loc n])))) fun k hk => (set_get fun e => nd3 k hk b2 q3 e.symm).trans (k1 k (by simp [hk]))) q6
      simp only [List.cons_append, List.append_assoc] at this ⊢
      exact this
/-- the last one is closed -/
theorem Opn.close {st : Store} : ∀ {h : Nat} {ms fp : List Nat} {m : Nat} {frs : List Fr} {mt : Nat} {name : Str} {rooms : List Str} {rows : List D} {name2 : Str} {rooms2 : List Str} {rows2 : List D}, Opn st h (ms ++ [mt]) fp m (frs ++ [(name, rooms, rows), (name2, rooms2, rows2)]) → Opn st h ms fp m (frs ++ [(name, rooms, rows ++ [ptD name2 rooms2 rows2])]) := by
  intro h ms fp m frs
  induction frs generalizing h ms fp m with
  | nil =>
    intro mt name rooms rows name2 rooms2 rows2 o
    generalize e1 : ms ++ [mt] = ms1 at o
    generalize e2 : ([] ++ [(name, rooms, rows), (name2, rooms2, rows2)] : List Fr) = f1 at o
    cases o with
    | top => cases e2
    | more q1 q2 q3 t o2 =>
      cases e2
      generalize ez : ([(name2, rooms2, rows2)] : List Fr) = fz at o2
      cases o2 with
      | more _ _ _ _ o3 =>
        cases ez
        have := o3.lens
        have := o3.head
        obtain ⟨_, z⟩ := this
        subst z
        simp at *
      | top p1 p2 p3 t2 =>
        cases ez
        cases ms with
        | nil => cases e1
        | cons x r =>
          cases r with
          | cons y z => cases z <;> cases e1
          | nil =>
            cases e1
            exact .top q1 q2 q3 (t.snoc (.part p1 p2 p3 t2))
  | cons f0 frs ih =>
    intro mt name rooms rows name2 rooms2 rows2 o
    generalize e1 : ms ++ [mt] = ms1 at o
    generalize e2 : ((f0 :: frs) ++ [(name, rooms, rows), (name2, rooms2, rows2)] : List Fr) = f1 at o
    cases o with
    | top => cases frs <;> cases e2
    | more q1 q2 q3 t o2 =>
      cases ms with
      | nil =>
        cases e1
        have := o2.head
        obtain ⟨_, z⟩ := this
        cases z
      | cons x r =>
        cases e1
        cases e2
        exact .more q1 q2 q3 t (ih o2)
/-! own objects made -/
def mkOK (i np : Nat) (F : FF) (dws ws : List W) : EM W := fun s => match (if (.loc s.st.length :: (ws ++ dws)).length = np then F (.loc s.st.length :: (ws ++ dws)) (s.st ++ [some (.ins i [] [])]) else none) with
  | some (.ok (.d .non), st) => some (.ok (.loc s.st.length), ⟨s.env, st⟩)
  | some (.ex C ks es, st) => some (.ex C ks es, ⟨s.env, st⟩)
  | _ => none
section
variable {β : Type} {env : List (Option W)} {st st' : Store} {s : SS} {Q : Out β → SS → Prop} {k : W → EM β}
theorem rb_mkO {i np : Nat} {F : FF} {dws : List W} {m : EM (List W)} (h : Run (bnd m fun ws => bnd (mkOK i np F dws ws) k) s Q) : Run (bnd (mkO i np F dws m) k) s Q := by
  have e : mkO i np F dws m = bnd m (mkOK i np F dws) := rfl
  rw [e]
  exact rb_bnd h
theorem rl_mkOK {i np n : Nat} {F : FF} {dws ws : List W} (en : st.length = n) (hn : (W.loc n :: (ws ++ dws)).length = np) (e : ∃ w st1, F (.loc n :: (ws ++ dws)) (st ++ [some (.ins i [] [])]) = some (.ok w, st1) ∧ (w = .d .non ∧ st1 = st')) (h : Run (k (.loc n)) ⟨env, st'⟩ Q) : Run (bnd (mkOK i np F dws ws) k) ⟨env, st⟩ Q := by
  subst en
  obtain ⟨w, st1, e, rfl, rfl⟩ := e
  refine rb_eq ?_ h
  unfold mkOK
  rw [if_pos hn, e]
theorem rl_listTO {n : Nat} {ds : List D} (e : st.length = n) (e2 : st ++ [some (.lst (ds.map .d))] = st') (h : Run (k (.loc n)) ⟨env, st'⟩ Q) : Run (bnd (lft fun st => listC true st [.d (.lst ds)]) k) ⟨env, st⟩ Q := by
  subst e e2
  exact rb_lft rfl h
theorem rl_listLO {n m : Nat} {ws : List W} (e0 : st[m]? = some (some (.lst ws))) (e : st.length = n) (e2 : st ++ [some (.lst ws)] = st') (h : Run (k (.loc n)) ⟨env, st'⟩ Q) : Run (bnd (lft fun st => listC true st [.loc m]) k) ⟨env, st⟩ Q := by
  subst e e2
  refine rb_lft ?_ h
  show (match (match st[m]? with | some (some (.lst ws)) => some ws | _ => none) with | some ws => newL true ws st | none => _) = _
  rw [e0]
  rfl
end
theorem get_end {st : Store} {x : Option OO} {r : Store} : (st ++ (x :: r))[st.length]? = some x := by simp
theorem get_end1 {st : Store} {x y : Option OO} {r : Store} : (st ++ (x :: y :: r))[st.length + 1]? = some y := by
  rw [List.getElem?_append_right (by omega)]
  simp
theorem get_end2 {st : Store} {x y z : Option OO} {r : Store} : (st ++ (x :: y :: z :: r))[st.length + 2]? = some z := by
  rw [List.getElem?_append_right (by omega)]
  simp
theorem set_end {st : Store} {x y : Option OO} {r : Store} : (st ++ (x :: r)).set st.length y = st ++ (y :: r) := by
  rw [List.set_append_right _ _ (Nat.le_refl _), Nat.sub_self]
  rfl
theorem get_old {st r : Store} {n : Nat} {o : Option OO} (h : st[n]? = some o) : (st ++ r)[n]? = some o := by
  rw [List.getElem?_append_left (List.getElem?_eq_some_iff.mp h).1]
  exact h
theorem nd_ne {l : List Nat} (h : l.Nodup) (i j : Nat) (hij : i ≠ j) {a b : Nat} (ha : l[i]? = some a) (hb : l[j]? = some b) : a ≠ b := by
  rintro rfl
  obtain ⟨h1, e1⟩ := List.getElem?_eq_some_iff.mp ha
  obtain ⟨h2, e2⟩ := List.getElem?_eq_some_iff.mp hb
  exact hij ((List.getElem_inj h).mp (e1.trans e2.symm))
theorem nd_in {l r : List Nat} (h : (l ++ r).Nodup) {a b : Nat} (ha : a ∈ l) (hb : b ∈ r) : a ≠ b := fun e => (List.nodup_append.mp h).2.2 a ha b hb e
end EV
/-! EV24: own tuples, slices with a step, zip. -/
namespace L2
open PySem PySem.Spec PyProof.Rows
def pickL {α : Type} (xs : List α) (lo hi st : Option Int) : List α :=
  (sliceRange (sliceBounds lo hi st xs.length).1 (sliceBounds lo hi st xs.length).2.1 (sliceBounds lo hi st xs.length).2.2).filterMap (xs[·]?)
theorem Vals.pick {xs : List V} {us : List Value} (r : Vals xs us) : ∀ is : List Nat, Vals (is.filterMap (xs[·]?)) (is.filterMap (us[·]?))
  | [] => .nil
  | i :: is => by
    cases e : xs[i]? with
    | none =>
      have h : us[i]? = none := by
        rw [List.getElem?_eq_none_iff] at e ⊢
        have := r.length
        omega
      rw [List.filterMap_cons_none e, List.filterMap_cons_none h]
      exact Vals.pick r is
    | some x =>
      obtain ⟨u, h, ru⟩ := r.get e
      rw [List.filterMap_cons_some e, List.filterMap_cons_some h]
      exact .cons ru (Vals.pick r is)
def tSl3 (K : PySem.W.Frag) (te : TE) (tl th ts : TO) : TE := fun σ H Q => te σ H fun x H1 => tl σ H1 fun l H2 => th σ H2 fun u H3 => ts σ H3 fun k H4 => k ≠ some 0 ∧ ∃ a xs, x = .ref a ∧ SqL K H4 a xs ∧ ∀ p, H4 p = none → Q (.ref p) (upd H4 p (.lst (pickL xs l u k)))
theorem pe_slice3 {X : Cx} {e : Expr} {te : TE} {sx : Expr} {lo hi : Option Expr} {tl th ts : TO} {pos p2 : Pos} (he : PE X e te) (hl : PO X lo tl) (hu : PO X hi th) (hs : PO X (some sx) ts) : PE X (.Subscript e (.Slice lo hi (some sx) p2) pos) (tSl3 X.K te tl th ts) := by
  refine ⟨fun pins s σ H Q I h => ?_⟩
  refine Subscript_ (thn (he.run pins s σ H _ I h) fun v s1 ⟨x, H1, I1, r1, q1⟩ => ?_)
  refine wpAny_Slice (thn (hl.run pins s1 σ H1 _ I1 q1) fun vl s2 ⟨l, H2, I2, pl, q2⟩ => thn (hu.run pins s2 σ H2 _ I2 q2) fun vu s3 ⟨u, H3, I3, pu, q3⟩ => ?_)
  refine thn (hs.run pins s3 σ H3 _ I3 q3) fun vs s4 ⟨k, H4, I4, ps, q4⟩ => ?_
  obtain ⟨hk, a, xs, rfl, hx, q⟩ := q4
  cases r1
  have I5 : Inv X pins σ H4 { s4 with heap := s4.heap.push { cls := .type "slice", data := .fields #[vl, vu, vs] } } := I4.kept (t' := s4.toks) fun b ob q => Heap.get?_push_of_some _ q
  obtain ⟨its, r, ht, hz⟩ := I5.list hx
  have hlen := r.length
  show wpAny (model X.prog X.w) X.A (subscriptTail e (.Slice lo hi (some sx) p2) (.ref a) (.ref s4.heap.objs.size)) (EP X pins σ Q) X.xe { s4 with heap := s4.heap.push { cls := .type "slice", data := .fields #[vl, vu, vs] } }
  refine tail_any (ops := [.ref a, .ref s4.heap.objs.size]) ht.isList.typeIs (PySem.slot_list_getitem.lookup) ?_ (by with_unfolding_all rfl)
  refine wpAny_getItem_list_slice ht.isList (Heap.IsSliceOf.new _ vl vu vs) pl pu ps hk ?_ (by rw [List.size_toArray]; omega)
  refine ⟨.ref _, _, I5.laid (t' := s4.toks) (o := .lst (pickL xs l u k)) (fun b ob q => Heap.get?_push_of_some _ q) (Nat.le_refl _) ?_, rfl, q _ (I5.hok.fresh (Nat.le_refl _))⟩
  have e1 : slicePick its.toArray l u k = (pickL its l u k).toArray := by
    unfold slicePick pickL
    rw [List.size_toArray]
    simp
  rw [e1]
  have hv : Vals (pickL xs l u k) (pickL its l u k) := by
    unfold pickL
    rw [← hlen]
    exact Vals.pick r _
  have hz2 : (pickL its l u k).length ≤ its.length := by
    have := slicePick_size_le its.toArray l u k
    rw [e1] at this
    simpa using this
  exact ⟨by rw [hv.length]; omega, _, 0, hv, Heap.get?_push_size _ rfl⟩
end L2
namespace EV
open PySem PySem.Spec PyProof.Rows L2
section
variable {c : Kx} {X : Cx} {U : WX} {e : Expr} {es : List Expr} {p2 pos : Pos} {m : EM (List W)} {me : EM W}
def newT (ws : List W) (st : Store) : Option (W × Store) := if ws.length ≤ 16777216 then some (.loc st.length, st ++ [some (.tup ws)]) else none
def tupO (m : EM (List W)) : EM W := bnd m fun ws => lft (newT ws)
theorem ee_tupO {k} (h : EA c X U es m) : EE c X U (.Tuple es k pos) (tupO m) :=
  EE.mk1 h.K (pe_tup h.pa) fun ρ G s σ H Q hR w => ⟨ρ, G, s, hR, (Wp.bnd hR w).imp fun ws ρ1 G1 H1 s1 ⟨S1, R1, w1⟩ vs rvs => by
    obtain ⟨w, st', e, q⟩ := Wp.lft w1
    unfold newT at e
    split at e
    · rename_i hl
      cases e
      refine ⟨by rw [rvs.len, sizeLine_eq]; exact hl, fun p hp => ?_⟩
      obtain ⟨S, r'⟩ := new_own (p := (p, p)) (o := .tup ws) (H' := upd H1 p (.tup vs)) R1.rs hp hp (fun a u e => by rw [upd_ne (ne_of_none e hp)]; exact e) ⟨rfl, vs, upd_same, rvs⟩
      exact q _ G1 _ S ⟨r', R1.env.mono S.rho S.same, R1.len⟩ _ ⟨(p, p), by rw [← R1.rs.len, List.getElem?_append_right (Nat.le_refl _)]; simp, rfl⟩
    · cases e⟩
/-! slices with a step -/
def slice3A (st : Store) (x : W) (lo hi k : Option Int) : Option (W × Store) := if k = some 0 then none else match listW st x with
  | some ws => newL false (pickL ws lo hi k) st
  | none => none
def sl3E (m : EM W) (ml mh mk : EM (Option Int)) : EM W := bnd m fun x => bnd ml fun lo => bnd mh fun hi => bnd mk fun k => lft fun st => slice3A st x lo hi k
theorem rep_pickI {ρ : Rho} {G : Hp} {ws : List W} {vs : List V} (h : RepWs c ρ G ws vs) : ∀ is : List Nat, RepWs c ρ G (is.filterMap (ws[·]?)) (is.filterMap (vs[·]?))
  | [] => rfl
  | i :: is => by
    cases e : ws[i]? with
    | none =>
      have h2 : vs[i]? = none := by
        rw [List.getElem?_eq_none_iff] at e ⊢
        have := h.len
        omega
      rw [List.filterMap_cons_none e, List.filterMap_cons_none h2]
      exact rep_pickI h is
    | some x =>
      obtain ⟨u, h2, ru⟩ := h.get e
      rw [List.filterMap_cons_some e, List.filterMap_cons_some h2]
      exact ⟨u, _, rfl, ru, rep_pickI h is⟩
theorem rep_pick {ρ : Rho} {G : Hp} {ws : List W} {vs : List V} {lo hi k : Option Int} (h : RepWs c ρ G ws vs) : RepWs c ρ G (pickL ws lo hi k) (pickL vs lo hi k) := by
  unfold pickL
  rw [h.len]
  exact rep_pickI h _
theorem ee_slice3 {sx : Expr} {lo hi : Option Expr} {nl nh nk : EM (Option Int)} (h : EE c X U e me) (hl : EO c X U lo nl) (hh : EO c X U hi nh) (hk : EO c X U (some sx) nk) : EE c X U (.Subscript e (.Slice lo hi (some sx) p2) pos) (sl3E me nl nh nk) :=
  EE.mk1 h.K (pe_slice3 h.pe hl.po hh.po hk.po) fun ρ G s σ H Q hR w => ⟨ρ, G, s, hR, (Wp.bnd hR w).imp fun z ρ1 G1 H1 s1 ⟨S1, R1, w1⟩ v rv =>
    ⟨ρ1, G1, s1, R1, (Wp.bnd R1 w1).imp fun l ρ2 G2 H2 s2 ⟨S2, R2, w2⟩ => ⟨ρ2, G2, s2, R2, (Wp.bnd R2 w2).imp fun u ρ3 G3 H3 s3 ⟨S3, R3, w3⟩ => ⟨ρ3, G3, s3, R3, (Wp.bnd R3 w3).imp fun k ρ4 G4 H4 s4 ⟨S4, R4, w4⟩ => by
      obtain ⟨w, st', e, q⟩ := Wp.lft w4
      have rv4 : RepW c ρ4 G4 z v := ((rv.mono S2.rho S2.same).mono S3.rho S3.same).mono S4.rho S4.same
      rw [h.K]
      unfold slice3A at e
      split at e
      · cases e
      · rename_i hk0
        split at e
        · rename_i ws ew
          obtain ⟨a, vs, rfl, hv, hr⟩ := listW_ok R4.rs rv4 ew
          refine ⟨hk0, a, vs, rfl, hv, fun p hp => ?_⟩
          obtain ⟨ρ', G', S5, r5, rw5⟩ := newL_ok R4.rs (rep_pick (lo := l) (hi := u) (k := k) hr) e hp
          exact q ρ' G' _ S5 ⟨r5, R4.env.mono S5.rho S5.same, R4.len⟩ _ rw5
        · cases e⟩⟩⟩⟩
end
/-! running -/
section
variable {β : Type} {env env' : List (Option W)} {st st' : Store} {s : SS} {Q : Out β → SS → Prop} {k : W → EM β}
theorem rb_tupO {m : EM (List W)} (h : Run (bnd m fun ws => bnd (lft (newT ws)) k) s Q) : Run (bnd (tupO m) k) s Q := rb_bnd h
theorem rl_newT {ws : List W} {n : Nat} (hl : ws.length ≤ 16777216) (e : st.length = n) (e2 : st ++ [some (.tup ws)] = st') (h : Run (k (.loc n)) ⟨env, st'⟩ Q) : Run (bnd (lft (newT ws)) k) ⟨env, st⟩ Q := by
  subst e e2
  exact rb_lft (by unfold newT; rw [if_pos hl]) h
theorem rb_asgO {k : Unit → EM β} {is : List Nat} {n : Nat} {ws : List W} (e : st[n]? = some (some (.tup ws))) (hl : ws.length = is.length) (e2 : setAll is ws env = env') (h : Run (k ()) ⟨env', st⟩ Q) : Run (bnd (asg (.tup is) (.loc n)) k) ⟨env, st⟩ Q := by
  subst e2
  refine rb_eq ?_ h
  unfold asg
  simp only [e, hl, if_true]
theorem rl_ixTO {n : Nat} {ws : List W} {w : W} {i : Int} (e : st[n]? = some (some (.tup ws))) (e2 : atI ws i = some w) (h : Run (k w) ⟨env, st⟩ Q) : Run (bnd (lft fun st => ixA st (.loc n) (.d (.int i))) k) ⟨env, st⟩ Q := by
  refine rb_lft ?_ h
  show (match st[n]? with | some (some (.lst ws)) => _ | some (some (.tup ws)) => (match atI ws i with | some w => some (w, st) | none => none) | _ => none) = _
  rw [e]
  simp only [e2]
theorem rb_sl3 {m : EM W} {ml mh mk : EM (Option Int)} (h : Run (bnd m fun x => bnd ml fun lo => bnd mh fun hi => bnd mk fun q => bnd (lft fun st => slice3A st x lo hi q) k) s Q) : Run (bnd (sl3E m ml mh mk) k) s Q := by
  unfold sl3E
  rw [bnd_assoc]
  have e : (fun x => bnd (bnd ml fun lo => bnd mh fun hi => bnd mk fun q => lft fun st => slice3A st x lo hi q) k) = fun x => bnd ml fun lo => bnd mh fun hi => bnd mk fun q => bnd (lft fun st => slice3A st x lo hi q) k := by
    funext x
    rw [bnd_assoc]
    congr 1
    funext lo
    rw [bnd_assoc]
    congr 1
    funext hi
    rw [bnd_assoc]
  rw [e]
  exact h
theorem rl_sl3F {ds : List D} {lo hi q : Option Int} (hq : q ≠ some 0) (h : Run (k (.d (.lst (pickL ds lo hi q)))) ⟨env, st⟩ Q) : Run (bnd (lft fun st => slice3A st (.d (.fls ds)) lo hi q) k) ⟨env, st⟩ Q := by
  refine rb_lft ?_ h
  have e : pickL (ds.map W.d) lo hi q = (pickL ds lo hi q).map W.d := by
    unfold pickL
    rw [List.length_map, List.map_filterMap]
    congr 1
    funext i
    rw [List.getElem?_map]
  unfold slice3A
  rw [if_neg hq]
  show newL false (pickL (ds.map W.d) lo hi q) st = _
  rw [e]
  unfold newL
  simp only [Bool.false_eq_true, if_false]
  rw [allD_map]
def ziK (ds : List D) : EM (List D) := match ds with
  | [x, y] => match listD x, listD y with
    | some xs, some ys => pur (zipD xs ys)
    | _, _ => non
  | _ => non
theorem rb_zipE {k : List D → EM β} {m : EM (List W)} (h : Run (bnd m fun ws => bnd (treesK ws) fun ds => bnd (ziK ds) k) s Q) : Run (bnd (zipE m) k) s Q := by
  have e : zipE m = bnd (treesE m) ziK := rfl
  rw [e, treesE_eq, bnd_assoc, bnd_assoc]
  have e2 : (fun a => bnd (bnd (treesK a) ziK) k) = fun a => bnd (treesK a) fun ds => bnd (ziK ds) k := by
    funext a
    rw [bnd_assoc]
  first
    | (rw [e2]; exact h)
    | (rw [← bnd_assoc] at *; exact h)
theorem rl_ziK {k : List D → EM β} {xs ys : List D} (h : Run (k (zipD xs ys)) s Q) : Run (bnd (ziK [.lst xs, .lst ys]) k) s Q := h
end
end EV
/-! EV25: loops over own lists. -/
namespace EV
open PySem PySem.Spec PyProof.Rows L2
def lstO (st : Store) : W → Option (List W)
  | .loc n => match st[n]? with
    | some (some (.lst ws)) => some ws
    | _ => none
  | _ => none
theorem lstO_ok {c : Kx} {ρ : Rho} {G H : Hp} {st : Store} {w : W} {v : V} {ws : List W} (r : RS c ρ G H st) (rv : RepW c ρ G w v) (e : lstO st w = some ws) : ∃ a vs, v = .ref a ∧ SqL c.K H a vs ∧ RepWs c ρ G ws vs := by
  cases w with
  | d x => cases e
  | loc n =>
    unfold lstO at e
    cases ho : st[n]? with
    | none => simp only [ho] at e; cases e
    | some o =>
      cases o with
      | none => simp only [ho] at e; cases e
      | some o =>
        cases o with
        | lst ws' =>
          simp only [ho] at e
          cases e
          obtain ⟨p, hp, rfl⟩ := rv
          obtain ⟨_, _, _, vs, hH, hr⟩ := r.own n p _ hp ho
          exact ⟨p.1, vs, rfl, SqL.of hH, hr⟩
        | dct _ _ => simp only [ho] at e; cases e
        | ins _ _ _ => simp only [ho] at e; cases e
        | tup _ => simp only [ho] at e; cases e
/-- the i-th of an own list, and so on -/
def loopO (t : Tg) (body : EM Fl) (w : W) : Nat → Nat → EM Fl
  | 0, _ => non
  | n + 1, i => fun s => match lstO s.st w with
    | none => none
    | some ws => match ws[i]? with
      | none => pur .nx s
      | some x => bnd (bnd (asg t x) fun _ => body) (fun f => match f with
        | .nx => loopO t body w n (i + 1)
        | .cnt => loopO t body w n (i + 1)
        | .brk => pur .nx
        | .ret u => pur (.ret u)) s
def forO (n : Nat) (mi : EM W) (t : Tg) (body : EM Fl) : EM Fl := bnd mi fun w => loopO t body w n 0
section
variable {c : Kx} {X : Cx} {U : WX} {body : List Stmt} {m : EM Fl} {pos : Pos}
theorem es_forO {fuel : Nat} {tg iter : Expr} {t : Tg} {mi : EM W} (hp : PassesOwn (model X.prog X.w) X.A X.env X.xe) (hc : X.calm = true) (hi : EE c X U iter mi) (hg : EG c X tg t) (hb : ESs c X U body m) (hs : ∀ x, foldedSetIterable iter X.env x = pure x := by intro _; rfl) :
    ES c X U (.For tg iter body [] pos) (forO fuel mi t m) :=
  ⟨hi.K, PS.imp (ps_for hp hc (pi_list hi.pe) hg.pg hb.ps hs) fun D σ H ⟨ρ, G, s, hR, w⟩ => by
    refine ⟨ρ, G, s, hR, (Ws.bndE hR w).imp fun z ρ1 G1 H1 s1 ⟨S1, R1, w1⟩ v rv => ?_⟩
    rw [hi.K]
    cases fuel with
    | zero => exact w1.none rfl
    | succ fuel =>
      cases e0 : lstO s1.st z with
      | none => exact w1.none (by unfold loopO; simp only [e0])
      | some ws0 =>
        obtain ⟨a, vs0, rfl, hq0, hr0⟩ := lstO_ok R1.rs rv e0
        refine ⟨a, rfl, ⟨vs0, hq0⟩, fun i n σ H => ∃ ρ2 G2 s2, R c ρ2 G2 σ H s2 ∧ RepW c ρ2 G2 z (.ref a) ∧ Ws c U (loopO t m z n i) ρ2 G2 H s2 (kD c D), ⟨fuel + 1, ρ1, G1, s1, R1, rv, w1⟩, ?_⟩
        rintro i n σ2 H2 ⟨ρ2, G2, s2, R2, rv2, w2⟩
        cases n with
        | zero => exact w2.none rfl
        | succ n =>
          cases e2 : lstO s2.st z with
          | none => exact w2.none (by unfold loopO; simp only [e2])
          | some ws =>
            obtain ⟨a', vs, ea, hq, hr⟩ := lstO_ok R2.rs rv2 e2
            cases ea
            cases e3 : ws[i]? with
            | none =>
              have w3 : Ws c U (pur Fl.nx) ρ2 G2 H2 s2 (kD c D) := by
                unfold Ws at w2 ⊢
                have : loopO t m z (n + 1) i s2 = (pur Fl.nx : EM Fl) s2 := by
                  show (match lstO s2.st z with | none => none | some ws => _) = _
                  simp only [e2, e3]
                rw [this] at w2
                exact w2
              refine .inl ⟨⟨vs, hq, ?_⟩, Ws.pur R2 w3⟩
              rw [hr.len]
              exact List.getElem?_eq_none_iff.mp e3
            | some x =>
              obtain ⟨u, hu, ru⟩ := hr.get e3
              have w3 : Ws c U (bnd (asg t x) fun _ => bnd m fun f => match f with
                  | .nx => loopO t m z n (i + 1)
                  | .cnt => loopO t m z n (i + 1)
                  | .brk => pur .nx
                  | .ret u => pur (.ret u)) ρ2 G2 H2 s2 (kD c D) := by
                rw [← bnd_assoc]
                unfold Ws at w2 ⊢
                have : loopO t m z (n + 1) i s2 = (bnd (bnd (asg t x) fun _ => m) fun f => match f with
                  | .nx => loopO t m z n (i + 1)
                  | .cnt => loopO t m z n (i + 1)
                  | .brk => pur .nx
                  | .ret u => pur (.ret u)) s2 := by
                  show (match lstO s2.st z with | none => none | some ws => _) = _
                  simp only [e2, e3]
                rw [this] at w2
                exact w2
              refine .inr ⟨⟨vs, u, hq, hu⟩, fun σ H => ∃ ρ2 G2 s2, R c ρ2 G2 σ H s2 ∧ RepW c ρ2 G2 z (.ref a) ∧ Ws c U (loopO t m z n (i + 1)) ρ2 G2 H s2 (kD c D), fun σ' H' h => ⟨n, Nat.lt_succ_self n, h⟩, fun y H' hy => ?_⟩
              obtain ⟨eH, hy⟩ := hy
              subst eH
              have := hy vs hq
              rw [hu] at this
              cases this
              refine ws_asg R2 ru w3 fun σ4 s4 R4 _ _ w4 => ?_
              refine ⟨ρ2, G2, s4, R4, (Ws.bnd R4.rs.len w4).imp fun f ρ5 G5 σ5 H5 s5 ⟨S5, R5, w5⟩ => ?_⟩
              have rv5 : RepW c ρ5 G5 z (.ref a) := rv2.mono S5.rho S5.same
              cases f with
              | nx => exact ⟨ρ5, G5, s5, R5, rv5, w5⟩
              | cnt => exact ⟨ρ5, G5, s5, R5, rv5, w5⟩
              | brk => exact Ws.pur (U := U) R5 w5
              | ret w => exact fun v rv => Ws.pur (U := U) R5 w5 v rv⟩
end
/-! running -/
section
variable {β : Type} {env env' : List (Option W)} {st st' : Store} {s : SS} {Q : Out β → SS → Prop}
theorem rb_forO {k : Fl → EM β} {n : Nat} {mi : EM W} {t : Tg} {body : EM Fl} (h : Run (bnd mi fun w => bnd (loopO t body w n 0) k) s Q) : Run (bnd (forO n mi t body) k) s Q := rb_bnd h
theorem rl_loopO {k : Fl → EM β} {n i : Nat} {t : Tg} {body : EM Fl} {w x : W} {ws : List W} (e : lstO st w = some ws) (ei : ws[i]? = some x) (h : Run (bnd (asg t x) fun _ => bnd body pur) ⟨env, st⟩ (LoopQ (fun s => Run (bnd (loopO t body w n (i + 1)) k) s Q) k Q)) :
    Run (bnd (loopO t body w (n + 1) i) k) ⟨env, st⟩ Q := by
  have e2 : (bnd (asg t x) fun _ => bnd body pur) = bnd (asg t x) fun _ => body := by
    congr 1
    funext _ s
    unfold bnd
    cases body s with
    | none => rfl
    | some p => obtain ⟨o, s'⟩ := p; cases o <;> rfl
  rw [e2] at h
  obtain ⟨o, s1, e1, h1⟩ := h
  have ed : loopO t body w (n + 1) i ⟨env, st⟩ = (bnd (bnd (asg t x) fun _ => body) fun f => match f with
        | .nx => loopO t body w n (i + 1)
        | .cnt => loopO t body w n (i + 1)
        | .brk => pur .nx
        | .ret u => pur (.ret u)) ⟨env, st⟩ := by
    show (match lstO st w with | none => none | some ws => _) = _
    simp only [e, ei]
  have key : Run (bnd (bnd (bnd (asg t x) fun _ => body) fun f => match f with
        | .nx => loopO t body w n (i + 1)
        | .cnt => loopO t body w n (i + 1)
        | .brk => pur .nx
        | .ret u => pur (.ret u)) k) ⟨env, st⟩ Q := by
    refine rb_bnd ?_
    cases o with
    | ok y =>
      refine rb_eq e1 ?_
      cases y with
      | nx => exact h1
      | cnt => exact h1
      | brk => exact h1
      | ret w => exact h1
    | ex c ks vs => exact ⟨_, s1, bnd_ex e1, h1⟩
  obtain ⟨o2, s2, e3, q⟩ := key
  refine ⟨o2, s2, ?_, q⟩
  rw [← e3]
  unfold bnd
  rw [ed]
  rfl
theorem rl_loopOe {k : Fl → EM β} {n i : Nat} {t : Tg} {body : EM Fl} {w : W} {ws : List W} (e : lstO st w = some ws) (ei : ws[i]? = none) (h : Run (k .nx) ⟨env, st⟩ Q) : Run (bnd (loopO t body w (n + 1) i) k) ⟨env, st⟩ Q := by
  obtain ⟨o2, s2, e3, q⟩ := h
  refine ⟨o2, s2, ?_, q⟩
  rw [← e3]
  unfold bnd
  have : loopO t body w (n + 1) i ⟨env, st⟩ = some (.ok .nx, ⟨env, st⟩) := by
    show (match lstO st w with | none => none | some ws => _) = _
    simp only [e, ei]
    rfl
  rw [this]
end
end EV
/-! EV26: steps by instances. -/
namespace EV
open PySem L2
class At (env : List (Option W)) (i : Nat) (w : outParam W) : Prop where
  eq : env[i]? = some (some w)
instance at_0 {w : W} {r : List (Option W)} : At (some w :: r) 0 w := ⟨rfl⟩
instance at_s {x : Option W} {w : W} {r : List (Option W)} {i : Nat} [h : At r i w] : At (x :: r) (i + 1) w := ⟨h.eq⟩
class SetAt (env : List (Option W)) (i : Nat) (w : W) (env' : outParam (List (Option W))) : Prop where
  eq : env.set i (some w) = env'
instance set_0 {x : Option W} {w : W} {r : List (Option W)} : SetAt (x :: r) 0 w (some w :: r) := ⟨rfl⟩
instance set_s {x : Option W} {w : W} {r r' : List (Option W)} {i : Nat} [h : SetAt r i w r'] : SetAt (x :: r) (i + 1) w (x :: r') := ⟨congrArg (x :: ·) h.eq⟩
class St {α β : Type} (m : EM α) (k : α → EM β) (s : SS) (Q : Out β → SS → Prop) (P : outParam Prop) : Prop where
  run : P → Run (bnd m k) s Q
class Se {α : Type} (m : EM α) (s : SS) (Q : Out α → SS → Prop) (P : outParam Prop) : Prop where
  run : P → Run m s Q
section
variable {β : Type} {env env' : List (Option W)} {st : Store} {s : SS} {Q : Out β → SS → Prop} {k : W → EM β}
instance st_cst {d : D} : St (cst d) k s Q (Run (k (.d d)) s Q) := ⟨rb_cst⟩
instance st_var {i : Nat} {w : W} [h : At env i w] : St (var i) k ⟨env, st⟩ Q (Run (k w) ⟨env, st⟩ Q) := ⟨rb_var h.eq⟩
instance st_asg {k : Unit → EM β} {i : Nat} {w : W} [h : SetAt env i w env'] : St (asg (.name i) w) k ⟨env, st⟩ Q (Run (k ()) ⟨env', st⟩ Q) := ⟨rb_asg h.eq⟩
instance st_op2 {f : Store → W → W → Option (W × Store)} {ma mb : EM W} : St (op2 f ma mb) k s Q (Run (bnd ma fun x => bnd mb fun y => bnd (lft fun st => f st x y) k) s Q) := ⟨rb_op2⟩
instance st_op1 {f : Store → W → Option (W × Store)} {ma : EM W} : St (op1 f ma) k s Q (Run (bnd ma fun x => bnd (lft fun st => f st x) k) s Q) := ⟨rb_op1⟩
instance st_sq {k : Fl → EM β} {m r : EM Fl} : St (sq m r) k s Q (Run (bnd m fun f => bnd (sqK r f) k) s Q) := ⟨rb_sq⟩
instance st_sqN {k : Fl → EM β} {r : EM Fl} : St (sqK r .nx) k s Q (Run (bnd r k) s Q) := ⟨rb_sqN⟩
instance st_sqR {k : Fl → EM β} {r : EM Fl} {w : W} : St (sqK r (.ret w)) k s Q (Run (k (.ret w)) s Q) := ⟨rb_sqR⟩
instance st_asgS {k : Fl → EM β} {t : Tg} {m : EM W} : St (asgS t m) k s Q (Run (bnd m fun w => bnd (asg t w) fun _ => k .nx) s Q) := ⟨rb_asgS⟩
instance st_acons {k : List W → EM β} {m : EM W} {r : EM (List W)} : St (acons m r) k s Q (Run (bnd m fun w => bnd r fun ws => k (w :: ws)) s Q) := ⟨rb_acons⟩
instance st_anil {k : List W → EM β} : St anil k s Q (Run (k []) s Q) := ⟨rb_anil⟩
instance st_toB {k : Bool → EM β} {m : EM W} : St (toB m) k s Q (Run (bnd m fun w => bnd (toBK w) k) s Q) := ⟨rb_toB⟩
instance st_toBK {k : Bool → EM β} {b : Bool} : St (toBK (.d (.bl b))) k s Q (Run (k b) s Q) := ⟨rb_toBK⟩
instance st_ifE {α : Type} {k : α → EM β} {t : EM Bool} {ma mb : EM α} : St (ifE t ma mb) k s Q (Run (bnd t fun b => bnd (ite2 b ma mb) k) s Q) := ⟨rb_ifE⟩
instance st_callB {f : Store → List W → Option (W × Store)} {m : EM (List W)} : St (callB f m) k s Q (Run (bnd m fun ws => bnd (lft fun st => f st ws) k) s Q) := ⟨rb_callB⟩
instance st_callE {g : List W → EM W} {dws : List W} {m : EM (List W)} : St (callE g dws m) k s Q (Run (bnd m fun ws => bnd (g (ws ++ dws)) k) s Q) := ⟨rb_callE⟩
instance st_retS {k : Fl → EM β} {m : EM W} : St (retS m) k s Q (Run (bnd m fun w => k (.ret w)) s Q) := ⟨rb_retS⟩
instance st_pur {α : Type} {k : α → EM β} {a : α} : St (pur a) k s Q (Run (k a) s Q) := ⟨rb_pur⟩
instance st_iteT {α : Type} {k : α → EM β} {m1 m2 : EM α} : St (ite2 true m1 m2) k s Q (Run (bnd m1 k) s Q) := ⟨rb_iteT⟩
instance st_iteF {α : Type} {k : α → EM β} {m1 m2 : EM α} : St (ite2 false m1 m2) k s Q (Run (bnd m2 k) s Q) := ⟨rb_iteF⟩
instance st_iteNT {α : Type} {k : α → EM β} {m1 m2 : EM α} : St (ite2 (!true) m1 m2) k s Q (Run (bnd m2 k) s Q) := ⟨rb_iteNT⟩
instance st_iteNF {α : Type} {k : α → EM β} {m1 m2 : EM α} : St (ite2 (!false) m1 m2) k s Q (Run (bnd m1 k) s Q) := ⟨rb_iteNF⟩
instance st_lst {own : Bool} {m : EM (List W)} : St (lstE own m) k s Q (Run (bnd m fun ws => bnd (lstK own ws) k) s Q) := ⟨rb_lst⟩
instance st_slE {own : Bool} {m : EM W} {ml mh : EM (Option Int)} : St (slE own m ml mh) k s Q (Run (bnd m fun x => bnd ml fun lo => bnd mh fun hi => bnd (lft fun st => sliceA own st x lo hi) k) s Q) := ⟨rb_slE⟩
instance st_partN {k : Option Int → EM β} : St (partE none) k s Q (Run (k none) s Q) := ⟨rb_partN⟩
instance st_partS {k : Option Int → EM β} {m : EM W} : St (partE (some m)) k s Q (Run (bnd m fun w => bnd (partK w) k) s Q) := ⟨rb_partS⟩
instance st_partK {k : Option Int → EM β} {i : Int} : St (partK (.d (.int i))) k s Q (Run (k (some i)) s Q) := ⟨rb_partK⟩
instance st_exprS {k : Fl → EM β} {m : EM W} : St (exprS m) k s Q (Run (bnd m fun _ => k .nx) s Q) := ⟨rb_exprS⟩
instance st_forS {k : Fl → EM β} {mi : EM (List D)} {t : Tg} {body : EM Fl} : St (forS mi t body) k s Q (Run (bnd mi fun ds => bnd (loopS t body ds) k) s Q) := ⟨rb_forS⟩
instance st_items {k : List D → EM β} {m : EM W} : St (itemsE m) k s Q (Run (bnd m fun w => bnd (itK w) k) s Q) := ⟨rb_items⟩
instance st_itL {k : List D → EM β} {ds : List D} : St (itK (.d (.lst ds))) k s Q (Run (k ds) s Q) := ⟨rb_itL⟩
instance st_itF {k : List D → EM β} {ds : List D} : St (itK (.d (.fls ds))) k s Q (Run (k ds) s Q) := ⟨rb_itF⟩
instance st_itI {k : List D → EM β} {xs : List Int} : St (itK (.d (ints' xs))) k s Q (Run (k (xs.map .int)) s Q) := ⟨rb_itI⟩
instance st_itSs {k : List D → EM β} {xs : List Str} : St (itK (.d (strs' xs))) k s Q (Run (k (xs.map .str)) s Q) := ⟨rb_itSs⟩
instance st_itT {k : List D → EM β} {ds : List D} : St (itK (.d (.tup ds))) k s Q (Run (k ds) s Q) := ⟨rb_itT⟩
instance st_itS {k : List D → EM β} {z : Str} : St (itK (.d (.str z))) k s Q (Run (k (z.cps.toList.map fun c => .str (chr1 c))) s Q) := ⟨rb_itS⟩
instance st_range1 {k : List D → EM β} {m : EM (List W)} : St (range1E m) k s Q (Run (bnd m fun ws => bnd (rg1K ws) k) s Q) := ⟨rb_range1⟩
instance st_range2 {k : List D → EM β} {m : EM (List W)} : St (range2E m) k s Q (Run (bnd m fun ws => bnd (rg2K ws) k) s Q) := ⟨rb_range2⟩
instance st_ntB {k : Bool → EM β} {m : EM Bool} : St (ntB m) k s Q (Run (bnd m fun b => k (!b)) s Q) := ⟨rb_ntB⟩
instance st_anB {k : Bool → EM β} {m r : EM Bool} : St (anB m r) k s Q (Run (bnd m fun b => bnd (ite2 b r (pur false)) k) s Q) := ⟨rb_anB⟩
instance st_orB {k : Bool → EM β} {m r : EM Bool} : St (orB m r) k s Q (Run (bnd m fun b => bnd (ite2 b (pur true) r) k) s Q) := ⟨rb_orB⟩
instance st_anV {m r : EM W} : St (anV m r) k s Q (Run (bnd (toB m) fun b => bnd (ite2 b r (pur (.d (.bl false)))) k) s Q) := ⟨rb_anV⟩
instance st_orV {m r : EM W} : St (orV m r) k s Q (Run (bnd (toB m) fun b => bnd (ite2 b (pur (.d (.bl true))) r) k) s Q) := ⟨rb_orV⟩
instance st_ntV {m : EM W} : St (ntV m) k s Q (Run (bnd (toB m) fun b => k (.d (.bl (!b)))) s Q) := ⟨rb_ntV⟩
instance st_ofB {m : EM Bool} : St (ofB m) k s Q (Run (bnd m fun b => k (.d (.bl b))) s Q) := ⟨rb_ofB⟩
instance st_chain {f g : Store → W → W → Option (W × Store)} {ma mb mc : EM W} : St (chainE f g ma mb mc) k s Q (Run (bnd ma fun x => bnd mb fun y => bnd (lft fun st => f st x y) fun z => bnd (chK g mc y z) k) s Q) := ⟨rb_chain⟩
instance st_chK {g : Store → W → W → Option (W × Store)} {y : W} {mc : EM W} {b : Bool} : St (chK g mc y (.d (.bl b))) k s Q (Run (bnd (ite2 b (bnd mc fun w => lft fun st => g st y w) (pur (.d (.bl false)))) k) s Q) := ⟨rb_chK⟩
instance st_bm {T : String} {f : Store → W → List W → Option (W × Store)} {mo : EM W} {m : EM (List W)} : St (bmE T f mo m) k s Q (Run (bnd mo fun o => bnd (bmK T f m o) k) s Q) := ⟨rb_bm⟩
instance st_frz {m : EM W} : St (frz m) k s Q (Run (bnd m fun w => bnd (frzK w) k) s Q) := ⟨rb_frz⟩
instance st_frzD {d : D} : St (frzK (.d d)) k s Q (Run (k (.d d)) s Q) := ⟨rb_frzD⟩
instance st_compE {own : List Nat} {mi : EM (List D)} {t : Tg} {tt : EM Bool} {el : EM W} {ownr : Bool} : St (compE own mi t tt el ownr) k s Q (Run (bnd mi fun ds => bnd (compK own t tt el ownr ds) k) s Q) := ⟨rb_compE⟩
instance st_fld {i : Nat} {m : EM W} : St (fldE i m) k s Q (Run (bnd m fun w => bnd (fldK i w) k) s Q) := ⟨rb_fld⟩
instance st_mkP {i np : Nat} {F : FF} {dws : List W} {m : EM (List W)} : St (mkP i np F dws m) k s Q (Run (bnd (treesE m) fun ds => bnd (mkK i np F dws ds) k) s Q) := ⟨rb_mkP⟩
instance st_mkO {i np : Nat} {F : FF} {dws : List W} {m : EM (List W)} : St (mkO i np F dws m) k s Q (Run (bnd m fun ws => bnd (mkOK i np F dws ws) k) s Q) := ⟨rb_mkO⟩
instance st_setL {k : Fl → EM β} {mo mi me : EM W} : St (setL mo mi me) k s Q (Run (bnd me fun y => bnd mo fun o => bnd mi fun i => bnd (lft fun st => setLW st o i y) fun _ => k .nx) s Q) := ⟨rb_setL⟩
instance st_setX {k : Fl → EM β} {mo mi me : EM W} : St (setX mo mi me) k s Q (Run (bnd me fun y => bnd mo fun o => bnd mi fun i => bnd (lft fun st => putDW st o i y) fun _ => k .nx) s Q) := ⟨rb_setX⟩
instance st_sfld {k : Fl → EM β} {ok : List Nat} {i : Nat} {mo m : EM W} : St (sfldS ok i mo m) k s Q (Run (bnd m fun y => bnd mo fun w => bnd (sfK ok i y w) k) s Q) := ⟨rb_sfld⟩
instance st_get2 {mo mk mx : EM W} : St (get2E mo mk mx) k s Q (Run (bnd mo fun o => bnd (isDE o) fun _ => bnd mk fun x => bnd mx fun y => bnd (lookE o x y) k) s Q) := ⟨rb_get2⟩
instance st_get1 {mo mk : EM W} : St (get1E mo mk) k s Q (Run (bnd mo fun o => bnd (isDE o) fun _ => bnd mk fun x => bnd (lookE o x (.d .non)) k) s Q) := ⟨rb_get1⟩
instance st_meth {tbl : List (Nat × (List W → EM W))} {mo : EM W} {m : EM (List W)} : St (methE tbl mo m) k s Q (Run (bnd mo fun o => bnd (methK tbl m o) k) s Q) := ⟨rb_meth⟩
instance st_tup {m : EM (List W)} : St (tupE m) k s Q (Run (bnd (treesE m) fun ds => bnd (tupK ds) k) s Q) := ⟨rb_tup⟩
instance st_trees {k : List D → EM β} {m : EM (List W)} : St (treesE m) k s Q (Run (bnd m fun ws => bnd (treesK ws) k) s Q) := ⟨rb_trees⟩
instance st_bnd {α γ : Type} {k : α → EM β} {m : EM γ} {f : γ → EM α} : St (bnd m f) k s Q (Run (bnd m fun a => bnd (f a) k) s Q) := ⟨rb_bnd⟩
/-! known values -/
instance sl_addI {own : Bool} {i j : Int} : St (lft fun st => addA own st (.d (.int i)) (.d (.int j))) k ⟨env, st⟩ Q (Run (k (.d (.int (i + j)))) ⟨env, st⟩ Q) := ⟨rl_addI⟩
instance sl_sub {i j : Int} : St (lft fun st => subA st (.d (.int i)) (.d (.int j))) k ⟨env, st⟩ Q (Run (k (.d (.int (i - j)))) ⟨env, st⟩ Q) := ⟨rl_sub⟩
instance sl_neg {i : Int} : St (lft fun st => negA st (.d (.int i))) k ⟨env, st⟩ Q (Run (k (.d (.int (-i)))) ⟨env, st⟩ Q) := ⟨rl_neg⟩
instance sl_lt {i j : Int} : St (lft fun st => ltA st (.d (.int i)) (.d (.int j))) k ⟨env, st⟩ Q (Run (k (.d (.bl (decide (i < j))))) ⟨env, st⟩ Q) := ⟨rl_lt⟩
instance sl_le {i j : Int} : St (lft fun st => leA st (.d (.int i)) (.d (.int j))) k ⟨env, st⟩ Q (Run (k (.d (.bl (decide (i ≤ j))))) ⟨env, st⟩ Q) := ⟨rl_le⟩
instance sl_gt {i j : Int} : St (lft fun st => gtA st (.d (.int i)) (.d (.int j))) k ⟨env, st⟩ Q (Run (k (.d (.bl (decide (j < i))))) ⟨env, st⟩ Q) := ⟨rl_gt⟩
instance sl_ge {i j : Int} : St (lft fun st => geA st (.d (.int i)) (.d (.int j))) k ⟨env, st⟩ Q (Run (k (.d (.bl (decide (j ≤ i))))) ⟨env, st⟩ Q) := ⟨rl_ge⟩
instance sl_eqI {i j : Int} : St (lft fun st => eqA st (.d (.int i)) (.d (.int j))) k ⟨env, st⟩ Q (Run (k (.d (.bl (decide (i = j))))) ⟨env, st⟩ Q) := ⟨rl_eqI⟩
instance sl_neBl {a b : Bool} : St (lft fun st => neA st (.d (.bl a)) (.d (.bl b))) k ⟨env, st⟩ Q (Run (k (.d (.bl (!decide (a = b))))) ⟨env, st⟩ Q) := ⟨rl_neBl⟩
instance sl_eqBl {a b : Bool} : St (lft fun st => eqA st (.d (.bl a)) (.d (.bl b))) k ⟨env, st⟩ Q (Run (k (.d (.bl (decide (a = b))))) ⟨env, st⟩ Q) := ⟨rl_eqBl⟩
instance sl_eqS {i j : Str} : St (lft fun st => eqA st (.d (.str i)) (.d (.str j))) k ⟨env, st⟩ Q (Run (k (.d (.bl (decide (i = j))))) ⟨env, st⟩ Q) := ⟨rl_eqS⟩
instance sl_neI {i j : Int} : St (lft fun st => neA st (.d (.int i)) (.d (.int j))) k ⟨env, st⟩ Q (Run (k (.d (.bl (!decide (i = j))))) ⟨env, st⟩ Q) := ⟨rl_neI⟩
instance sl_neS {i j : Str} : St (lft fun st => neA st (.d (.str i)) (.d (.str j))) k ⟨env, st⟩ Q (Run (k (.d (.bl (!decide (i = j))))) ⟨env, st⟩ Q) := ⟨rl_neS⟩
instance sl_isBl {a b : Bool} : St (lft fun st => isBl st (.d (.bl a)) (.d (.bl b))) k ⟨env, st⟩ Q (Run (k (.d (.bl (decide (a = b))))) ⟨env, st⟩ Q) := ⟨rl_isBl⟩
instance sl_isnBl {a b : Bool} : St (lft fun st => isnBl st (.d (.bl a)) (.d (.bl b))) k ⟨env, st⟩ Q (Run (k (.d (.bl (!decide (a = b))))) ⟨env, st⟩ Q) := ⟨rl_isnBl⟩
instance sl_isN {x : W} : St (lft fun st => isN st x (.d .non)) k ⟨env, st⟩ Q (Run (k (.d (.bl (isNonB x)))) ⟨env, st⟩ Q) := ⟨rl_isN⟩
instance sl_isnN {x : W} : St (lft fun st => isnN st x (.d .non)) k ⟨env, st⟩ Q (Run (k (.d (.bl (!isNonB x)))) ⟨env, st⟩ Q) := ⟨rl_isnN⟩
instance sl_ninC {c : Nat} {z : Str} : St (lft fun st => ninA st (.d (.str (chr1 c))) (.d (.str z))) k ⟨env, st⟩ Q (Run (k (.d (.bl (!decide (c ∈ z.cps.toList))))) ⟨env, st⟩ Q) := ⟨rl_ninC⟩
instance sl_inC {c : Nat} {z : Str} : St (lft fun st => inA st (.d (.str (chr1 c))) (.d (.str z))) k ⟨env, st⟩ Q (Run (k (.d (.bl (decide (c ∈ z.cps.toList))))) ⟨env, st⟩ Q) := ⟨rl_inC⟩
instance sl_intB {b : Bool} : St (lft fun st => intW st [.d (.bl b)]) k ⟨env, st⟩ Q (Run (k (.d (.int (if b then 1 else 0)))) ⟨env, st⟩ Q) := ⟨rl_intB⟩
instance sl_lenL {ds : List D} : St (lft fun st => lenW st [.d (.lst ds)]) k ⟨env, st⟩ Q (Run (k (.d (.int ds.length))) ⟨env, st⟩ Q) := ⟨rl_lenL⟩
instance sl_lenF {ds : List D} : St (lft fun st => lenW st [.d (.fls ds)]) k ⟨env, st⟩ Q (Run (k (.d (.int ds.length))) ⟨env, st⟩ Q) := ⟨rl_lenF⟩
instance sl_lenT {ds : List D} : St (lft fun st => lenW st [.d (.tup ds)]) k ⟨env, st⟩ Q (Run (k (.d (.int ds.length))) ⟨env, st⟩ Q) := ⟨rl_lenT⟩
instance sl_lenSs {zs : List Str} : St (lft fun st => lenW st [.d (strs' zs)]) k ⟨env, st⟩ Q (Run (k (.d (.int zs.length))) ⟨env, st⟩ Q) := ⟨rl_lenSs⟩
instance sl_listSs {zs : List Str} : St (lft fun st => listC false st [.d (strs' zs)]) k ⟨env, st⟩ Q (Run (k (.d (strs' zs))) ⟨env, st⟩ Q) := ⟨rl_listSs⟩
instance sl_listF {ds : List D} : St (lft fun st => listC false st [.d (.lst ds)]) k ⟨env, st⟩ Q (Run (k (.d (.lst ds))) ⟨env, st⟩ Q) := ⟨rl_listF⟩
instance sl_slSs {zs : List Str} {lo hi : Option Int} : St (lft fun st => sliceA false st (.d (strs' zs)) lo hi) k ⟨env, st⟩ Q (Run (k (.d (strs' (cutW zs lo hi)))) ⟨env, st⟩ Q) := ⟨rl_slSs⟩
instance sl_slI {zs : List Int} {lo hi : Option Int} : St (lft fun st => sliceA false st (.d (ints' zs)) lo hi) k ⟨env, st⟩ Q (Run (k (.d (ints' (cutW zs lo hi)))) ⟨env, st⟩ Q) := ⟨rl_slI⟩
instance sl_slL {zs : List D} {lo hi : Option Int} : St (lft fun st => sliceA false st (.d (.lst zs)) lo hi) k ⟨env, st⟩ Q (Run (k (.d (.lst (cutW zs lo hi)))) ⟨env, st⟩ Q) := ⟨rl_slL⟩
instance sl_slF {zs : List D} {lo hi : Option Int} : St (lft fun st => sliceA false st (.d (.fls zs)) lo hi) k ⟨env, st⟩ Q (Run (k (.d (.lst (cutW zs lo hi)))) ⟨env, st⟩ Q) := ⟨rl_slF⟩
instance sl_find {a b : Str} : St (lft fun st => findW st (.d (.str a)) [.d (.str b)]) k ⟨env, st⟩ Q (Run (k (.d (.int (Txt.find a b)))) ⟨env, st⟩ Q) := ⟨rl_find⟩
instance sl_newKF : St (lft (newK false [] [])) k ⟨env, st⟩ Q (Run (k (.d (.dct [] []))) ⟨env, st⟩ Q) := ⟨rl_newKF⟩
instance sl_ixC0 {a : Str} {r : List Str} : St (lft fun st => ixA st (.d (strs' (a :: r))) (.d (.int 0))) k ⟨env, st⟩ Q (Run (k (.d (.str a))) ⟨env, st⟩ Q) := ⟨rl_ixC0⟩
instance sl_ixC1 {a b : Str} {r : List Str} : St (lft fun st => ixA st (.d (strs' (a :: b :: r))) (.d (.int 1))) k ⟨env, st⟩ Q (Run (k (.d (.str b))) ⟨env, st⟩ Q) := ⟨rl_ixC1⟩
instance sl_ixC2 {a b c : Str} {r : List Str} : St (lft fun st => ixA st (.d (strs' (a :: b :: c :: r))) (.d (.int 2))) k ⟨env, st⟩ Q (Run (k (.d (.str c))) ⟨env, st⟩ Q) := ⟨rl_ixC2⟩
/-! ends -/
instance se_lnx {N : SS → Prop} {k : Fl → EM β} : Se (pur .nx) s (LoopQ N k Q) (N s) := ⟨lq_nx⟩
instance se_lcnt {N : SS → Prop} {k : Fl → EM β} : Se (pur .cnt) s (LoopQ N k Q) (N s) := ⟨lq_cnt⟩
instance se_lbrk {N : SS → Prop} {k : Fl → EM β} : Se (pur .brk) s (LoopQ N k Q) (Run (k .nx) s Q) := ⟨lq_brk⟩
instance se_lret {N : SS → Prop} {k : Fl → EM β} {w : W} : Se (pur (.ret w)) s (LoopQ N k Q) (Run (k (.ret w)) s Q) := ⟨lq_ret⟩
instance se_cno {N : SS → Prop} {Y : W → SS → Prop} : Se (pur none) s (CompQ N Y) (N s) := ⟨cq_no⟩
instance se_cyes {N : SS → Prop} {Y : W → SS → Prop} {w : W} : Se (pur (some w)) s (CompQ N Y) (Y w s) := ⟨cq_yes⟩
instance se_rd {P : D → Prop} {d : D} : Se (pur (.ret (.d d))) s (RetP P) (P d) := ⟨rp_d⟩
instance se_rnx {P : D → Prop} : Se (pur .nx) s (RetP P) (P .non) := ⟨rp_nx⟩
instance se_ev {Y : W → Prop} {w : W} : Se (pur w) s (EvQ s Y) (Y w) := ⟨ev_ok⟩
instance se_jnx {P : SS → Prop} : Se (pur .nx) s (JoinQ P) (P s) := ⟨jq_nx⟩
instance se_val {α : Type} {a : α} {Y : α → Prop} : Se (pur a) s (ValQ s Y) (Y a) := ⟨vq⟩
instance se_fnx {P : W → Store → Prop} : Se (pur .nx) ⟨env, st⟩ (RetF P) (P (.d .non) st) := ⟨rf_nx⟩
instance se_fret {P : W → Store → Prop} {w : W} : Se (pur (.ret w)) ⟨env, st⟩ (RetF P) (P w st) := ⟨rf_ret⟩
/-! which kind of step it is -/
theorem gd_lft {α : Type} {f : Store → Option (α × Store)} {k : α → EM β} (h : Run (bnd (lft f) k) s Q) : Run (bnd (lft f) k) s Q := h
theorem gd_ite {α : Type} {b : Bool} {m1 m2 : EM α} {k : α → EM β} (h : Run (bnd (ite2 b m1 m2) k) s Q) : Run (bnd (ite2 b m1 m2) k) s Q := h
theorem gd_ix {x y : W} (h : Run (bnd (lft fun st => ixA st x y) k) s Q) : Run (bnd (lft fun st => ixA st x y) k) s Q := h
theorem gd_add {own : Bool} {x y : W} (h : Run (bnd (lft fun st => addA own st x y) k) s Q) : Run (bnd (lft fun st => addA own st x y) k) s Q := h
theorem gd_int {f : Int → Int → Option D} {x y : W} (h : Run (bnd (lft fun st => intF f st x y) k) s Q) : Run (bnd (lft fun st => intF f st x y) k) s Q := h
theorem gd_mul {own : Bool} {x y : W} (h : Run (bnd (lft fun st => mulA own st x y) k) s Q) : Run (bnd (lft fun st => mulA own st x y) k) s Q := h
end
end EV
namespace Sem
open PySem EV
def g_FIGURES : D := .str "0123456789"
def g_KEPT : D := .tup [.str "acts", .str "any", .str "be", .str "by", .str "calm", .str "done", .str "else", .str "end", .str "in", .str "let", .str "may", .str "must", .str "not", .str "part", .str "parties", .str "rest", .str "sore", .str "to", .str "whole"]
def g_LETTERS : D := .str "abcdefghijklmnopqrstuvwxyz"
def g_MARKS : D := .tup [.str "calm", .str "sore", .str "end"]
def g_MOST_ACTS : D := .int 6
def g_MOST_DEPTH : D := .int 6
def g_MOST_FIGURES : D := .int 20
def g_MOST_LETTERS : D := .int 8
def g_MOST_PARTIES : D := .int 4
def g_MOST_ROOMS : D := .int 12
def g_MOST_ROWS : D := .int 90
def q_Ban : List (Ty × Bool) := [(.bi "NoneType", false), (.bi "bool", false), (.bi "int", false), (.bi "str", false), (.bi "list", false), (.bi "tuple", false), (.bi "dict", false), (.cl 9, false), (.cl 10, false), (.cl 0, false), (.cl 1, false), (.cl 2, false), (.cl 3, false), (.cl 4, true), (.cl 5, false), (.cl 6, false), (.cl 7, false), (.cl 8, false), (.cl 20, false)]
def q_Duty : List (Ty × Bool) := [(.bi "NoneType", false), (.bi "bool", false), (.bi "int", false), (.bi "str", false), (.bi "list", false), (.bi "tuple", false), (.bi "dict", false), (.cl 9, false), (.cl 10, false), (.cl 0, false), (.cl 1, false), (.cl 2, true), (.cl 3, false), (.cl 4, false), (.cl 5, false), (.cl 6, false), (.cl 7, false), (.cl 8, false), (.cl 20, false)]
def q_Leave : List (Ty × Bool) := [(.bi "NoneType", false), (.bi "bool", false), (.bi "int", false), (.bi "str", false), (.bi "list", false), (.bi "tuple", false), (.bi "dict", false), (.cl 9, false), (.cl 10, false), (.cl 0, false), (.cl 1, false), (.cl 2, false), (.cl 3, true), (.cl 4, false), (.cl 5, true), (.cl 6, false), (.cl 7, false), (.cl 8, false), (.cl 20, false)]
def q_Let : List (Ty × Bool) := [(.bi "NoneType", false), (.bi "bool", false), (.bi "int", false), (.bi "str", false), (.bi "list", false), (.bi "tuple", false), (.bi "dict", false), (.cl 9, false), (.cl 10, false), (.cl 0, false), (.cl 1, false), (.cl 2, false), (.cl 3, false), (.cl 4, false), (.cl 5, false), (.cl 6, true), (.cl 7, false), (.cl 8, false), (.cl 20, false)]
def q_Pact : List (Ty × Bool) := [(.bi "NoneType", false), (.bi "bool", false), (.bi "int", false), (.bi "str", false), (.bi "list", false), (.bi "tuple", false), (.bi "dict", false), (.cl 9, false), (.cl 10, false), (.cl 0, false), (.cl 1, false), (.cl 2, false), (.cl 3, false), (.cl 4, false), (.cl 5, false), (.cl 6, false), (.cl 7, false), (.cl 8, true), (.cl 20, false)]
def q_Part : List (Ty × Bool) := [(.bi "NoneType", false), (.bi "bool", false), (.bi "int", false), (.bi "str", false), (.bi "list", false), (.bi "tuple", false), (.bi "dict", false), (.cl 9, false), (.cl 10, false), (.cl 0, false), (.cl 1, false), (.cl 2, false), (.cl 3, false), (.cl 4, false), (.cl 5, false), (.cl 6, false), (.cl 7, true), (.cl 8, false), (.cl 20, false)]
def q_Power : List (Ty × Bool) := [(.bi "NoneType", false), (.bi "bool", false), (.bi "int", false), (.bi "str", false), (.bi "list", false), (.bi "tuple", false), (.bi "dict", false), (.cl 9, false), (.cl 10, false), (.cl 0, false), (.cl 1, false), (.cl 2, false), (.cl 3, false), (.cl 4, false), (.cl 5, true), (.cl 6, false), (.cl 7, false), (.cl 8, false), (.cl 20, false)]
def q_bool : List (Ty × Bool) := [(.bi "NoneType", false), (.bi "bool", true), (.bi "int", false), (.bi "str", false), (.bi "list", false), (.bi "tuple", false), (.bi "dict", false)]
def q_int : List (Ty × Bool) := [(.bi "NoneType", false), (.bi "bool", true), (.bi "int", true), (.bi "str", false), (.bi "list", false), (.bi "tuple", false), (.bi "dict", false)]
def q_list : List (Ty × Bool) := [(.bi "NoneType", false), (.bi "bool", false), (.bi "int", false), (.bi "str", false), (.bi "list", true), (.bi "tuple", false), (.bi "dict", false)]
def q_tuple : List (Ty × Bool) := [(.bi "NoneType", false), (.bi "bool", false), (.bi "int", false), (.bi "str", false), (.bi "list", false), (.bi "tuple", true), (.bi "dict", false)]
def b_law_clause : EM Fl := (sq (ifE (toB (bnd (var 0) fun w => lft fun st => isiW q_Duty st [w, .d .non])) (sq (ifE (orB (ntB (toB (bnd (fldE 3 (var 0)) fun w => lft fun st => isiW q_int st [w, .d .non]))) (toB (bnd (fldE 3 (var 0)) fun w => lft fun st => isiW q_bool st [w, .d .non]))) (retS (tupE anil)) (pur .nx)) (retS (tupE (acons (cst (.str "must")) (acons (fldE 0 (var 0)) (acons (fldE 1 (var 0)) (acons (fldE 2 (var 0)) (acons (fldE 3 (var 0)) (acons (fldE 4 (var 0)) anil))))))))) (pur .nx)) (sq (ifE (toB (bnd (var 0) fun w => lft fun st => isiW q_Ban st [w, .d .non])) (retS (tupE (acons (cst (.str "ban")) (acons (fldE 0 (var 0)) (acons (fldE 1 (var 0)) (acons (fldE 2 (var 0)) (acons (fldE 4 (var 0)) anil))))))) (pur .nx)) (sq (ifE (toB (bnd (var 0) fun w => lft fun st => isiW q_Power st [w, .d .non])) (retS (tupE (acons (cst (.str "power")) (acons (fldE 0 (var 0)) (acons (fldE 1 (var 0)) (acons (fldE 2 (var 0)) (acons (fldE 4 (var 0)) anil))))))) (pur .nx)) (sq (ifE (toB (bnd (var 0) fun w => lft fun st => isiW q_Leave st [w, .d .non])) (retS (tupE (acons (cst (.str "may")) (acons (fldE 0 (var 0)) (acons (fldE 1 (var 0)) (acons (fldE 2 (var 0)) anil)))))) (pur .nx)) (retS (tupE anil))))))
def F_law_clause : FP := pureP (bodyF 1 b_law_clause)
def O_law_clause : FO := pureO (bodyF 1 b_law_clause)
def b_law_found (rr : FP) : EM Fl := (sq (ifE (ntB (toB (bnd (var 0) fun w => lft fun st => isiW q_list st [w, .d .non]))) (retS (lstE false (acons (tupE anil) anil))) (pur .nx)) (sq (asgS (.name 1) (lstE true anil)) (sq (forS (itemsE (var 0)) (.name 2) (ifE (toB (bnd (var 2) fun w => lft fun st => isiW q_Part st [w, .d .non])) (sq (exprS (bmE "list" appendW (var 1) (acons (tupE (acons (cst (.str "part")) (acons (fldE 5 (var 2)) (acons (fldE 7 (var 2)) anil)))) anil))) (sq (exprS (bmE "list" extendW (var 1) (acons (callE (gP 1 rr) [] (acons (fldE 8 (var 2)) anil)) anil))) (exprS (bmE "list" appendW (var 1) (acons (tupE (acons (cst (.str "done")) anil)) anil))))) (ifE (toB (bnd (var 2) fun w => lft fun st => isiW q_Let st [w, .d .non])) (exprS (bmE "list" appendW (var 1) (acons (tupE (acons (cst (.str "let")) (acons (fldE 5 (var 2)) (acons (fldE 6 (var 2)) anil)))) anil))) (exprS (bmE "list" appendW (var 1) (acons (callE (gP 1 F_law_clause) [] (acons (var 2) anil)) anil)))))) (retS (var 1)))))
def R_law_found : Nat → FP
  | 0 => fun _ => none
  | n + 1 => pureP (bodyF 3 (b_law_found (R_law_found n)))
def F_law_found : FP := R_law_found 8
def b_law_right : EM Fl := (sq (ifE (orB (ntB (toB (bnd (var 0) fun w => lft fun st => isiW q_Pact st [w, .d .non]))) (orB (ntB (toB (bnd (fldE 11 (var 0)) fun w => lft fun st => isiW q_Part st [w, .d .non]))) (toB (op2 neA (fldE 5 (fldE 11 (var 0))) (cst (.str "whole")))))) (retS (cst (.bl false))) (pur .nx)) (sq (ifE (orB (ntB (toB (bnd (fldE 7 (var 0)) fun w => lft fun st => isiW q_list st [w, .d .non]))) (toB (op2 neA (compE [3] (itemsE (fldE 7 (var 0))) (.name 3) (pur true) (bnd (var 3) fun w => lft fun st => isiW q_tuple st [w, .d .non]) false) (op2 (mulA false) (lstE false (acons (cst (.bl true)) anil)) (callB lenW (acons (op2 ixA (var 1) (cst (.int 2))) anil)))))) (retS (cst (.bl false))) (pur .nx)) (sq (ifE (orB (toB (op2 neA (fldE 9 (var 0)) (op2 ixA (var 1) (cst (.int 0))))) (orB (toB (op2 neA (fldE 10 (var 0)) (op2 ixA (var 1) (cst (.int 1))))) (orB (toB (op2 neA (fldE 7 (var 0)) (op2 ixA (var 1) (cst (.int 2))))) (toB (op2 neA (fldE 7 (fldE 11 (var 0))) (lstE false anil)))))) (retS (cst (.bl false))) (pur .nx)) (retS (op2 eqA (callE (gP 1 F_law_found) [] (acons (fldE 8 (fldE 11 (var 0))) anil)) (var 2))))))
def F_law_right : FP := pureP (bodyF 4 b_law_right)
def O_law_right : FO := pureO (bodyF 4 b_law_right)
def b_Pact__init : EM Fl := (sq (sfldS [8] 9 (var 0) (callB (listC true) (acons (var 1) anil))) (sq (sfldS [8] 10 (var 0) (callB (listC true) (acons (var 2) anil))) (sq (sfldS [8] 7 (var 0) (callB (listC true) (acons (var 3) anil))) (sfldS [8] 11 (var 0) (var 4)))))
def F_Pact__init : FP := pureP (bodyF 5 b_Pact__init)
def O_Pact__init : FO := pureO (bodyF 5 b_Pact__init)
def b_Reading_is_new : EM Fl := (sq (ifE (toB (op2 inD (var 2) (var 1))) (retS (cst (.bl false))) (pur .nx)) (sq (setX (var 1) (var 2) (cst (.bl true))) (retS (cst (.bl true)))))
def F_Reading_is_new : FP := pureP (bodyF 3 b_Reading_is_new)
def O_Reading_is_new : FO := pureO (bodyF 3 b_Reading_is_new)
def b_is_name : EM Fl := (sq (ifE (orB (ntB (toB (chainE leA leA (cst (.int 1)) (callB lenW (acons (var 0) anil)) (cst g_MOST_LETTERS)))) (toB (op2 inA (var 0) (cst g_KEPT)))) (retS (cst (.bl false))) (pur .nx)) (sq (forS (itemsE (var 0)) (.name 1) (ifE (toB (op2 ninA (var 1) (cst g_LETTERS))) (retS (cst (.bl false))) (pur .nx))) (retS (cst (.bl true)))))
def F_is_name : FP := pureP (bodyF 2 b_is_name)
def O_is_name : FO := pureO (bodyF 2 b_is_name)
def b_Clause__init : EM Fl := (sq (sfldS [1, 2, 3, 4, 5] 0 (var 0) (var 1)) (sq (sfldS [1, 2, 3, 4, 5] 1 (var 0) (var 2)) (sfldS [1, 2, 3, 4, 5] 2 (var 0) (var 3))))
def F_Clause__init : FP := pureP (bodyF 4 b_Clause__init)
def O_Clause__init : FO := pureO (bodyF 4 b_Clause__init)
def b_Power__init : EM Fl := (sq (exprS (callE (gF 4 (bodyF 4 b_Clause__init)) [] (acons (var 0) (acons (var 1) (acons (var 2) (acons (var 3) anil)))))) (sfldS [5] 4 (var 0) (var 4)))
def F_Power__init : FP := pureP (bodyF 5 b_Power__init)
def O_Power__init : FO := pureO (bodyF 5 b_Power__init)
def b_power_of : EM Fl := (sq (ifE (orB (toB (op2 neA (op2 ixA (var 0) (cst (.int 2))) (cst (.str "by")))) (orB (toB (op2 neA (op2 ixA (var 0) (cst (.int 4))) (cst (.str "to")))) (orB (ntB (toB (callE (gP 1 F_is_name) [] (acons (op2 ixA (var 0) (cst (.int 3))) anil)))) (ntB (toB (callE (gP 1 F_is_name) [] (acons (op2 ixA (var 0) (cst (.int 5))) anil))))))) (retS (cst .non)) (pur .nx)) (retS (mkP 5 5 (bodyF 5 b_Power__init) [] (acons (op2 ixA (var 0) (cst (.int 0))) (acons (op2 ixA (var 0) (cst (.int 1))) (acons (op2 ixA (var 0) (cst (.int 3))) (acons (op2 ixA (var 0) (cst (.int 5))) anil)))))))
def F_power_of : FP := pureP (bodyF 1 b_power_of)
def O_power_of : FO := pureO (bodyF 1 b_power_of)
def b_Ban__init : EM Fl := (sq (exprS (callE (gF 4 (bodyF 4 b_Clause__init)) [] (acons (var 0) (acons (var 1) (acons (var 2) (acons (var 3) anil)))))) (sfldS [4] 4 (var 0) (var 4)))
def F_Ban__init : FP := pureP (bodyF 5 b_Ban__init)
def O_Ban__init : FO := pureO (bodyF 5 b_Ban__init)
def b_ban_of : EM Fl := (sq (ifE (orB (toB (op2 neA (op2 ixA (var 0) (cst (.int 2))) (cst (.str "may")))) (orB (toB (op2 neA (op2 ixA (var 0) (cst (.int 3))) (cst (.str "not")))) (toB (op2 neA (op2 ixA (var 0) (cst (.int 5))) (cst (.str "else")))))) (retS (cst .non)) (pur .nx)) (sq (ifE (orB (ntB (toB (callE (gP 1 F_is_name) [] (acons (op2 ixA (var 0) (cst (.int 4))) anil)))) (ntB (toB (callE (gP 1 F_is_name) [] (acons (op2 ixA (var 0) (cst (.int 6))) anil))))) (retS (cst .non)) (pur .nx)) (retS (mkP 4 5 (bodyF 5 b_Ban__init) [] (acons (op2 ixA (var 0) (cst (.int 0))) (acons (op2 ixA (var 0) (cst (.int 1))) (acons (op2 ixA (var 0) (cst (.int 4))) (acons (op2 ixA (var 0) (cst (.int 6))) anil))))))))
def F_ban_of : FP := pureP (bodyF 1 b_ban_of)
def O_ban_of : FO := pureO (bodyF 1 b_ban_of)
def b_Duty__init : EM Fl := (sq (exprS (callE (gF 4 (bodyF 4 b_Clause__init)) [] (acons (var 0) (acons (var 1) (acons (var 2) (acons (var 3) anil)))))) (sq (sfldS [2] 3 (var 0) (var 4)) (sfldS [2] 4 (var 0) (var 5))))
def F_Duty__init : FP := pureP (bodyF 6 b_Duty__init)
def O_Duty__init : FO := pureO (bodyF 6 b_Duty__init)
def b_number_of : EM Fl := (sq (ifE (orB (ntB (toB (chainE leA leA (cst (.int 1)) (callB lenW (acons (var 0) anil)) (cst g_MOST_FIGURES)))) (toB (op2 eqA (op2 ixA (var 0) (cst (.int 0))) (cst (.str "0"))))) (retS (cst (.int 0))) (pur .nx)) (sq (forS (itemsE (var 0)) (.name 1) (ifE (toB (op2 ninA (var 1) (cst g_FIGURES))) (retS (cst (.int 0))) (pur .nx))) (retS (callB intW (acons (var 0) anil)))))
def F_number_of : FP := pureP (bodyF 2 b_number_of)
def O_number_of : FO := pureO (bodyF 2 b_number_of)
def b_duty_of : EM Fl := (sq (ifE (orB (toB (op2 neA (op2 ixA (var 0) (cst (.int 2))) (cst (.str "must")))) (orB (toB (op2 neA (op2 ixA (var 0) (cst (.int 4))) (cst (.str "by")))) (orB (toB (op2 neA (op2 ixA (var 0) (cst (.int 6))) (cst (.str "else")))) (toB (op2 eqA (op2 ixA (var 0) (cst (.int 1))) (cst (.str "any"))))))) (retS (cst .non)) (pur .nx)) (sq (ifE (orB (ntB (toB (callE (gP 1 F_is_name) [] (acons (op2 ixA (var 0) (cst (.int 3))) anil)))) (orB (toB (op2 eqA (callE (gP 1 F_number_of) [] (acons (op2 ixA (var 0) (cst (.int 5))) anil)) (cst (.int 0)))) (ntB (toB (callE (gP 1 F_is_name) [] (acons (op2 ixA (var 0) (cst (.int 7))) anil)))))) (retS (cst .non)) (pur .nx)) (retS (mkP 2 6 (bodyF 6 b_Duty__init) [] (acons (op2 ixA (var 0) (cst (.int 0))) (acons (op2 ixA (var 0) (cst (.int 1))) (acons (op2 ixA (var 0) (cst (.int 3))) (acons (callE (gP 1 F_number_of) [] (acons (op2 ixA (var 0) (cst (.int 5))) anil)) (acons (op2 ixA (var 0) (cst (.int 7))) anil)))))))))
def F_duty_of : FP := pureP (bodyF 1 b_duty_of)
def O_duty_of : FO := pureO (bodyF 1 b_duty_of)
def b_clause_of : EM Fl := (sq (asgS (.name 1) (bmE "str" (splitW false) (var 0) (acons (cst (.str " ")) anil))) (sq (ifE (orB (toB (op2 ltA (callB lenW (acons (var 1) anil)) (cst (.int 4)))) (orB (ntB (toB (callE (gP 1 F_is_name) [] (acons (op2 ixA (var 1) (cst (.int 0))) anil)))) (anB (toB (op2 neA (op2 ixA (var 1) (cst (.int 1))) (cst (.str "any")))) (ntB (toB (callE (gP 1 F_is_name) [] (acons (op2 ixA (var 1) (cst (.int 1))) anil))))))) (retS (cst .non)) (pur .nx)) (sq (ifE (toB (op2 eqA (callB lenW (acons (var 1) anil)) (cst (.int 8)))) (retS (callE (gP 1 F_duty_of) [] (acons (var 1) anil))) (pur .nx)) (sq (ifE (toB (op2 eqA (callB lenW (acons (var 1) anil)) (cst (.int 7)))) (retS (callE (gP 1 F_ban_of) [] (acons (var 1) anil))) (pur .nx)) (sq (ifE (toB (op2 eqA (callB lenW (acons (var 1) anil)) (cst (.int 6)))) (retS (callE (gP 1 F_power_of) [] (acons (var 1) anil))) (pur .nx)) (sq (ifE (anB (toB (op2 eqA (callB lenW (acons (var 1) anil)) (cst (.int 4)))) (anB (toB (op2 eqA (op2 ixA (var 1) (cst (.int 2))) (cst (.str "may")))) (toB (callE (gP 1 F_is_name) [] (acons (op2 ixA (var 1) (cst (.int 3))) anil))))) (retS (mkP 3 4 (bodyF 4 b_Clause__init) [] (acons (op2 ixA (var 1) (cst (.int 0))) (acons (op2 ixA (var 1) (cst (.int 1))) (acons (op2 ixA (var 1) (cst (.int 3))) anil))))) (pur .nx)) (retS (cst .non))))))))
def F_clause_of : FP := pureP (bodyF 2 b_clause_of)
def O_clause_of : FO := pureO (bodyF 2 b_clause_of)
def b_Let__init : EM Fl := (sq (sfldS [6] 5 (var 0) (var 1)) (sfldS [6] 6 (var 0) (var 2)))
def F_Let__init : FP := pureP (bodyF 3 b_Let__init)
def O_Let__init : FO := pureO (bodyF 3 b_Let__init)
def b_let_of : EM Fl := (sq (asgS (.name 1) (bmE "str" (splitW false) (var 0) (acons (cst (.str " ")) anil))) (sq (ifE (orB (toB (op2 neA (callB lenW (acons (var 1) anil)) (cst (.int 4)))) (orB (toB (op2 neA (op2 ixA (var 1) (cst (.int 0))) (cst (.str "let")))) (toB (op2 neA (op2 ixA (var 1) (cst (.int 2))) (cst (.str "be")))))) (retS (cst .non)) (pur .nx)) (sq (ifE (orB (ntB (toB (callE (gP 1 F_is_name) [] (acons (op2 ixA (var 1) (cst (.int 1))) anil)))) (ntB (toB (callE (gP 1 F_is_name) [] (acons (op2 ixA (var 1) (cst (.int 3))) anil))))) (retS (cst .non)) (pur .nx)) (retS (mkP 6 3 (bodyF 3 b_Let__init) [] (acons (op2 ixA (var 1) (cst (.int 1))) (acons (op2 ixA (var 1) (cst (.int 3))) anil)))))))
def F_let_of : FP := pureP (bodyF 2 b_let_of)
def O_let_of : FO := pureO (bodyF 2 b_let_of)
def b_Reading_take_part : EM Fl := (sq (ifE (orB (toB (op2 gtA (callB lenW (acons (fldE 16 (var 0)) anil)) (cst g_MOST_DEPTH))) (ntB (toB (methE [(20, fun ws => (gF 3 (bodyF 3 b_Reading_is_new)) (ws ++ []))] (var 0) (acons (fldE 18 (var 0)) (acons (fldE 5 (var 1)) anil)))))) (retS (cst (.bl false))) (pur .nx)) (sq (exprS (bmE "list" appendW (fldE 8 (op2 ixA (fldE 16 (var 0)) (op1 negA (cst (.int 1))))) (acons (var 1) anil))) (sq (exprS (bmE "list" appendW (fldE 16 (var 0)) (acons (var 1) anil))) (retS (cst (.bl true))))))
def F_Reading_take_part : FP := pureP (bodyF 2 b_Reading_take_part)
def O_Reading_take_part : FO := pureO (bodyF 2 b_Reading_take_part)
def b_Part__init : EM Fl := (sq (sfldS [7] 5 (var 0) (var 1)) (sq (sfldS [7] 7 (var 0) (callB (listC true) (acons (var 2) anil))) (sfldS [7] 8 (var 0) (callB (listC true) (acons (var 3) anil)))))
def F_Part__init : FP := pureP (bodyF 4 b_Part__init)
def O_Part__init : FO := pureO (bodyF 4 b_Part__init)
def b_names_of : EM Fl := (sq (asgS (.name 3) (bmE "str" (splitW false) (var 0) (acons (cst (.str " ")) anil))) (sq (ifE (orB (toB (op2 neA (op2 ixA (var 3) (cst (.int 0))) (var 1))) (toB (op2 gtA (op2 subA (callB lenW (acons (var 3) anil)) (cst (.int 1))) (var 2)))) (retS (lstE false anil)) (pur .nx)) (sq (forS (itemsE (slE false (var 3) (partE (some (cst (.int 1)))) (partE none))) (.name 4) (ifE (ntB (toB (callE (gP 1 F_is_name) [] (acons (var 4) anil)))) (retS (lstE false anil)) (pur .nx))) (retS (slE false (var 3) (partE (some (cst (.int 1)))) (partE none))))))
def F_names_of : FP := pureP (bodyF 5 b_names_of)
def O_names_of : FO := pureO (bodyF 5 b_names_of)
def b_part_of : EM Fl := (sq (asgS (.name 1) (bmE "str" (splitW false) (var 0) (acons (cst (.str " ")) anil))) (sq (ifE (orB (toB (op2 ltA (callB lenW (acons (var 1) anil)) (cst (.int 2)))) (orB (toB (op2 neA (op2 ixA (var 1) (cst (.int 0))) (cst (.str "part")))) (ntB (toB (callE (gP 1 F_is_name) [] (acons (op2 ixA (var 1) (cst (.int 1))) anil)))))) (retS (cst .non)) (pur .nx)) (sq (ifE (toB (op2 eqA (callB lenW (acons (var 1) anil)) (cst (.int 2)))) (retS (mkO 7 4 (bodyF 4 b_Part__init) [] (acons (op2 ixA (var 1) (cst (.int 1))) (acons (lstE false anil) (acons (lstE false anil) anil))))) (pur .nx)) (sq (asgS (.name 2) (callE (gP 3 F_names_of) [] (acons (bmE "str" joinW (cst (.str " ")) (acons (slE false (var 1) (partE (some (cst (.int 2)))) (partE none)) anil)) (acons (cst (.str "in")) (acons (cst g_MOST_ROOMS) anil))))) (sq (ifE (toB (op2 eqA (var 2) (lstE false anil))) (retS (cst .non)) (pur .nx)) (retS (mkO 7 4 (bodyF 4 b_Part__init) [] (acons (op2 ixA (var 1) (cst (.int 1))) (acons (var 2) (acons (lstE false anil) anil))))))))))
def F_part_of : FP := pureP (bodyF 3 b_part_of)
def O_part_of : FO := pureO (bodyF 3 b_part_of)
def b_Reading_take_done : EM Fl := (sq (ifE (toB (op2 eqA (callB lenW (acons (fldE 16 (var 0)) anil)) (cst (.int 1)))) (retS (cst (.bl false))) (pur .nx)) (sq (exprS (bmE "list" popW (fldE 16 (var 0)) anil)) (retS (cst (.bl true)))))
def F_Reading_take_done : FP := pureP (bodyF 1 b_Reading_take_done)
def O_Reading_take_done : FO := pureO (bodyF 1 b_Reading_take_done)
def b_Reading_take_row : EM Fl := (sq (ifE (toB (op2 eqA (var 1) (cst (.str "done")))) (retS (methE [(20, fun ws => (gF 1 (bodyF 1 b_Reading_take_done)) (ws ++ []))] (var 0) anil)) (pur .nx)) (sq (asgS (.name 2) (callE (gF 1 (bodyF 3 b_part_of)) [] (acons (var 1) anil))) (sq (ifE (toB (op2 isnN (var 2) (cst .non))) (retS (methE [(20, fun ws => (gF 2 (bodyF 2 b_Reading_take_part)) (ws ++ []))] (var 0) (acons (var 2) anil))) (pur .nx)) (sq (asgS (.name 3) (callE (gP 1 F_let_of) [] (acons (var 1) anil))) (sq (ifE (toB (op2 isN (var 3) (cst .non))) (sq (asgS (.name 3) (callE (gP 1 F_clause_of) [] (acons (var 1) anil))) (ifE (orB (toB (op2 isN (var 3) (cst .non))) (ntB (toB (methE [(20, fun ws => (gF 3 (bodyF 3 b_Reading_is_new)) (ws ++ []))] (var 0) (acons (fldE 18 (var 0)) (acons (fldE 0 (var 3)) anil)))))) (retS (cst (.bl false))) (pur .nx))) (pur .nx)) (sq (exprS (bmE "list" appendW (fldE 8 (op2 ixA (fldE 16 (var 0)) (op1 negA (cst (.int 1))))) (acons (var 3) anil))) (retS (cst (.bl true)))))))))
def F_Reading_take_row : FP := pureP (bodyF 4 b_Reading_take_row)
def O_Reading_take_row : FO := pureO (bodyF 4 b_Reading_take_row)
def b_Reading_take_room : EM Fl := (sq (ifE (orB (toB (op2 gtA (callB lenW (acons (fldE 16 (var 0)) anil)) (cst (.int 1)))) (orB (toB (op2 neA (fldE 8 (op2 ixA (fldE 16 (var 0)) (cst (.int 0)))) (lstE false anil))) (toB (op2 eqA (callB lenW (acons (fldE 7 (var 0)) anil)) (cst g_MOST_ROOMS))))) (retS (cst (.bl false))) (pur .nx)) (sq (exprS (bmE "list" appendW (fldE 7 (var 0)) (acons (var 1) anil))) (retS (methE [(20, fun ws => (gF 3 (bodyF 3 b_Reading_is_new)) (ws ++ []))] (var 0) (acons (fldE 17 (var 0)) (acons (op2 ixA (var 1) (cst (.int 1))) anil))))))
def F_Reading_take_room : FP := pureP (bodyF 2 b_Reading_take_room)
def O_Reading_take_room : FO := pureO (bodyF 2 b_Reading_take_room)
def b_room_of : EM Fl := (sq (asgS (.name 1) (bmE "str" (splitW false) (var 0) (acons (cst (.str " ")) anil))) (sq (ifE (orB (toB (op2 neA (callB lenW (acons (var 1) anil)) (cst (.int 2)))) (orB (toB (op2 ninA (op2 ixA (var 1) (cst (.int 0))) (cst g_MARKS))) (ntB (toB (callE (gP 1 F_is_name) [] (acons (op2 ixA (var 1) (cst (.int 1))) anil)))))) (retS (cst .non)) (pur .nx)) (retS (tupE (acons (op2 ixA (var 1) (cst (.int 0))) (acons (op2 ixA (var 1) (cst (.int 1))) anil))))))
def F_room_of : FP := pureP (bodyF 2 b_room_of)
def O_room_of : FO := pureO (bodyF 2 b_room_of)
def b_Reading_take_names : EM Fl := (sq (forS (itemsE (var 1)) (.name 3) (sq (ifE (ntB (toB (methE [(20, fun ws => (gF 3 (bodyF 3 b_Reading_is_new)) (ws ++ []))] (var 0) (acons (fldE 17 (var 0)) (acons (var 3) anil))))) (retS (cst (.bl false))) (pur .nx)) (exprS (bmE "list" appendW (var 2) (acons (var 3) anil))))) (retS (op2 neA (var 1) (lstE false anil))))
def F_Reading_take_names : FP := pureP (bodyF 4 b_Reading_take_names)
def O_Reading_take_names : FO := pureO (bodyF 4 b_Reading_take_names)
def b_Reading_take : EM Fl := (sq (ifE (toB (op2 eqA (var 1) (cst (.int 0)))) (retS (methE [(20, fun ws => (gF 3 (bodyF 4 b_Reading_take_names)) (ws ++ []))] (var 0) (acons (callE (gP 3 F_names_of) [] (acons (var 2) (acons (cst (.str "parties")) (acons (cst g_MOST_PARTIES) anil)))) (acons (fldE 9 (var 0)) anil)))) (pur .nx)) (sq (ifE (toB (op2 eqA (var 1) (cst (.int 1)))) (retS (methE [(20, fun ws => (gF 3 (bodyF 4 b_Reading_take_names)) (ws ++ []))] (var 0) (acons (callE (gP 3 F_names_of) [] (acons (var 2) (acons (cst (.str "acts")) (acons (cst g_MOST_ACTS) anil)))) (acons (fldE 10 (var 0)) anil)))) (pur .nx)) (sq (asgS (.name 3) (callE (gP 1 F_room_of) [] (acons (var 2) anil))) (sq (ifE (toB (op2 isnN (var 3) (cst .non))) (retS (methE [(20, fun ws => (gF 2 (bodyF 2 b_Reading_take_room)) (ws ++ []))] (var 0) (acons (var 3) anil))) (pur .nx)) (retS (anV (op2 neA (fldE 7 (var 0)) (lstE false anil)) (methE [(20, fun ws => (gF 2 (bodyF 4 b_Reading_take_row)) (ws ++ []))] (var 0) (acons (var 2) anil))))))))
def F_Reading_take : FP := pureP (bodyF 4 b_Reading_take)
def O_Reading_take : FO := pureO (bodyF 4 b_Reading_take)
def b_Reading__init : EM Fl := (sq (sfldS [20] 9 (var 0) (lstE true anil)) (sq (sfldS [20] 10 (var 0) (lstE true anil)) (sq (sfldS [20] 7 (var 0) (lstE true anil)) (sq (sfldS [20] 16 (var 0) (lstE true (acons (mkO 7 4 (bodyF 4 b_Part__init) [] (acons (cst (.str "whole")) (acons (lstE false anil) (acons (lstE false anil) anil)))) anil))) (sq (sfldS [20] 17 (var 0) (lft (newK true [] []))) (sfldS [20] 18 (var 0) (lft (newK true [] []))))))))
def F_Reading__init : FP := pureP (bodyF 1 b_Reading__init)
def O_Reading__init : FO := pureO (bodyF 1 b_Reading__init)
def b_read : EM Fl := (sq (asgS (.name 1) (bmE "str" (splitW false) (var 0) (acons (cst (.str "; ")) anil))) (sq (asgS (.name 2) (mkO 20 1 (bodyF 1 b_Reading__init) [] anil)) (sq (forS (enumE (acons (var 1) anil)) (.tup [3, 4]) (ifE (orB (toB (op2 eqA (var 3) (cst g_MOST_ROWS))) (ntB (toB (methE [(20, fun ws => (gF 3 (bodyF 4 b_Reading_take)) (ws ++ []))] (var 2) (acons (var 3) (acons (var 4) anil)))))) (raiseS 10 [12] (acons (var 3) anil)) (pur .nx))) (sq (ifE (orB (toB (op2 eqA (fldE 7 (var 2)) (lstE false anil))) (toB (op2 gtA (callB lenW (acons (fldE 16 (var 2)) anil)) (cst (.int 1))))) (raiseS 10 [12] (acons (callB lenW (acons (var 1) anil)) anil)) (pur .nx)) (retS (mkO 8 5 (bodyF 5 b_Pact__init) [] (acons (fldE 9 (var 2)) (acons (fldE 10 (var 2)) (acons (fldE 7 (var 2)) (acons (op2 ixA (fldE 16 (var 2)) (cst (.int 0))) anil))))))))))
def F_read : FP := pureP (bodyF 5 b_read)
def O_read : FO := pureO (bodyF 5 b_read)
def b_law_row : EM Fl := (sq (ifE (toB (op2 eqA (op2 ixA (var 0) (cst (.int 0))) (cst (.str "done")))) (retS (cst (.str "done"))) (pur .nx)) (sq (ifE (toB (op2 eqA (op2 ixA (var 0) (cst (.int 0))) (cst (.str "let")))) (retS (op2 (addA false) (op2 (addA false) (op2 (addA false) (cst (.str "let ")) (op2 ixA (var 0) (cst (.int 1)))) (cst (.str " be "))) (op2 ixA (var 0) (cst (.int 2))))) (pur .nx)) (sq (ifE (toB (op2 eqA (op2 ixA (var 0) (cst (.int 0))) (cst (.str "part")))) (retS (bmE "str" joinW (cst (.str " ")) (acons (op2 (addA false) (op2 (addA false) (lstE false (acons (cst (.str "part")) (acons (op2 ixA (var 0) (cst (.int 1))) anil))) (op2 (mulA false) (lstE false (acons (cst (.str "in")) anil)) (callB intW (acons (op2 neA (op2 ixA (var 0) (cst (.int 2))) (lstE false anil)) anil)))) (op2 ixA (var 0) (cst (.int 2)))) anil))) (pur .nx)) (sq (asgS (.name 1) (op2 (addA false) (op2 (addA false) (op2 (addA false) (op2 ixA (var 0) (cst (.int 1))) (cst (.str " "))) (op2 ixA (var 0) (cst (.int 2)))) (cst (.str " ")))) (sq (ifE (toB (op2 eqA (op2 ixA (var 0) (cst (.int 0))) (cst (.str "must")))) (sq (asgS (.name 1) (op2 (addA false) (op2 (addA false) (op2 (addA false) (var 1) (cst (.str "must "))) (op2 ixA (var 0) (cst (.int 3)))) (cst (.str " by ")))) (retS (op2 (addA false) (op2 (addA false) (op2 (addA false) (var 1) (callB strW (acons (op2 ixA (var 0) (cst (.int 4))) anil))) (cst (.str " else "))) (op2 ixA (var 0) (cst (.int 5)))))) (pur .nx)) (sq (ifE (toB (op2 eqA (op2 ixA (var 0) (cst (.int 0))) (cst (.str "may")))) (retS (op2 (addA false) (op2 (addA false) (var 1) (cst (.str "may "))) (op2 ixA (var 0) (cst (.int 3))))) (pur .nx)) (sq (ifE (toB (op2 eqA (op2 ixA (var 0) (cst (.int 0))) (cst (.str "ban")))) (retS (op2 (addA false) (op2 (addA false) (op2 (addA false) (op2 (addA false) (var 1) (cst (.str "may not "))) (op2 ixA (var 0) (cst (.int 3)))) (cst (.str " else "))) (op2 ixA (var 0) (cst (.int 4))))) (pur .nx)) (retS (op2 (addA false) (op2 (addA false) (op2 (addA false) (op2 (addA false) (var 1) (cst (.str "by "))) (op2 ixA (var 0) (cst (.int 3)))) (cst (.str " to "))) (op2 ixA (var 0) (cst (.int 4))))))))))))
def F_law_row : FP := pureP (bodyF 2 b_law_row)
def O_law_row : FO := pureO (bodyF 2 b_law_row)
def b_law_rows : EM Fl := (sq (asgS (.name 2) (lstE true (acons (op2 (addA false) (cst (.str "parties ")) (bmE "str" joinW (cst (.str " ")) (acons (op2 ixA (var 0) (cst (.int 0))) anil))) (acons (op2 (addA false) (cst (.str "acts ")) (bmE "str" joinW (cst (.str " ")) (acons (op2 ixA (var 0) (cst (.int 1))) anil))) anil)))) (sq (forS (itemsE (op2 ixA (var 0) (cst (.int 2)))) (.tup [3, 4]) (exprS (bmE "list" appendW (var 2) (acons (op2 (addA false) (op2 (addA false) (var 3) (cst (.str " "))) (var 4)) anil)))) (retS (op2 (addA false) (var 2) (compE [5] (itemsE (var 1)) (.name 5) (pur true) (callE (gP 1 F_law_row) [] (acons (var 5) anil)) false)))))
def F_law_rows : FP := pureP (bodyF 6 b_law_rows)
def O_law_rows : FO := pureO (bodyF 6 b_law_rows)
def b_law_mix : EM Fl := (sq (asgS (.name 2) (op2 (intF modI) (op2 (addA false) (op2 (intF modI) (var 0) (cst (.int 2147483629))) (op2 (mulA false) (cst (.int 104729)) (op2 (addA false) (var 1) (cst (.int 1))))) (cst (.int 2147483629)))) (retS (op2 (intF divI) (op2 (intF modI) (op2 (mulA false) (op2 (intF modI) (op2 (mulA false) (var 2) (var 2)) (cst (.int 2147483647))) (cst (.int 48271))) (cst (.int 2147483647))) (cst (.int 7)))))
def F_law_mix : FP := pureP (bodyF 3 b_law_mix)
def O_law_mix : FO := pureO (bodyF 3 b_law_mix)
def b_law_event : EM Fl := (sq (asgS (.name 4) (op2 (intF modI) (var 1) (cst (.int 9)))) (sq (asgS (.name 5) (compE [9] (range1E (acons (cst (.int 3)) anil)) (.name 9) (pur true) (op2 ixA (var 0) (op2 (intF modI) (callE (gP 2 F_law_mix) [] (acons (var 1) (acons (var 9) anil))) (cst (.int 40)))) false)) (sq (asgS (.name 6) (op2 ixA (var 5) (cst (.int 0)))) (sq (ifE (toB (op2 eqA (op2 (intF modI) (callE (gP 2 F_law_mix) [] (acons (var 1) (acons (cst (.int 3)) anil))) (cst (.int 3))) (cst (.int 0)))) (asgS (.name 6) (cst (.str "any"))) (pur .nx)) (sq (asgS (.name 7) (op2 (addA false) (cst (.int 1)) (op2 (intF modI) (callE (gP 2 F_law_mix) [] (acons (var 1) (acons (cst (.int 4)) anil))) (cst (.int 5))))) (sq (ifE (toB (op2 eqA (op2 (intF modI) (callE (gP 2 F_law_mix) [] (acons (var 1) (acons (cst (.int 5)) anil))) (cst (.int 3))) (cst (.int 0)))) (asgS (.name 7) (op2 (addA false) (cst (.int 1)) (op2 (intF modI) (op2 (mulA false) (var 1) (cst (.int 48271))) (op2 subA (op2 (intF powI) (cst (.int 10)) (cst (.int 20))) (cst (.int 1)))))) (pur .nx)) (sq (ifE (anB (orB (toB (op2 eqA (var 4) (cst (.int 0)))) (toB (op2 eqA (var 4) (cst (.int 8))))) (toB (op2 ltA (var 3) (cst (.int 6))))) (sq (asgS (.name 8) (op2 (intF modI) (callE (gP 2 F_law_mix) [] (acons (var 1) (acons (cst (.int 6)) anil))) (cst (.int 13)))) (retS (tupE (acons (cst (.str "part")) (acons (var 2) (acons (compE [9] (range1E (acons (var 8) anil)) (.name 9) (pur true) (op2 ixA (var 0) (op2 (intF modI) (callE (gP 2 F_law_mix) [] (acons (var 1) (acons (op2 (addA false) (cst (.int 7)) (var 9)) anil))) (cst (.int 40)))) false) anil)))))) (pur .nx)) (sq (ifE (anB (toB (op2 eqA (var 4) (cst (.int 1)))) (toB (op2 gtA (var 3) (cst (.int 0))))) (retS (tupE (acons (cst (.str "done")) anil))) (pur .nx)) (sq (ifE (toB (op2 ltA (var 4) (cst (.int 3)))) (retS (tupE (acons (cst (.str "let")) (acons (op2 ixA (var 5) (cst (.int 0))) (acons (op2 ixA (var 5) (cst (.int 1))) anil))))) (pur .nx)) (sq (ifE (toB (op2 ltA (var 4) (cst (.int 5)))) (retS (tupE (acons (cst (.str "must")) (acons (var 2) (acons (op2 ixA (var 5) (cst (.int 0))) (acons (op2 ixA (var 5) (cst (.int 1))) (acons (var 7) (acons (op2 ixA (var 5) (cst (.int 2))) anil)))))))) (pur .nx)) (sq (ifE (toB (op2 eqA (var 4) (cst (.int 5)))) (retS (tupE (acons (cst (.str "may")) (acons (var 2) (acons (var 6) (acons (op2 ixA (var 5) (cst (.int 1))) anil)))))) (pur .nx)) (sq (ifE (toB (op2 eqA (var 4) (cst (.int 6)))) (retS (tupE (acons (cst (.str "ban")) (acons (var 2) (acons (var 6) (acons (op2 ixA (var 5) (cst (.int 1))) (acons (op2 ixA (var 5) (cst (.int 2))) anil))))))) (pur .nx)) (retS (tupE (acons (cst (.str "power")) (acons (var 2) (acons (var 6) (acons (op2 ixA (var 5) (cst (.int 1))) (acons (op2 ixA (var 5) (cst (.int 2))) anil)))))))))))))))))))
def F_law_event : FP := pureP (bodyF 10 b_law_event)
def O_law_event : FO := pureO (bodyF 10 b_law_event)
def b_law_cell_at : EM Fl := (sq (ifE (toB (op2 ltA (var 1) (callB lenW (acons (var 0) anil)))) (retS (op2 (intF modI) (op2 ixA (var 0) (var 1)) (cst (.int 1000000000000000000000007)))) (pur .nx)) (retS (cst (.int 0))))
def F_law_cell_at : FP := pureP (bodyF 2 b_law_cell_at)
def O_law_cell_at : FO := pureO (bodyF 2 b_law_cell_at)
def b_law_events : EM Fl := (sq (asgS (.name 2) (op2 (mulA false) (op2 (intF modI) (callE (gP 2 F_law_cell_at) [] (acons (var 1) (acons (cst (.int 2)) anil))) (cst (.int 2))) (cst (.int 22)))) (sq (asgS (.name 3) (lstE true anil)) (sq (asgS (.name 4) (cst (.int 0))) (sq (forS (range1E (acons (callB lenW (acons (slE false (var 1) (partE (some (cst (.int 3)))) (partE (some (cst (.int 63))))) anil)) anil)) (.name 5) (sq (asgS (.name 6) (callE (gP 4 F_law_event) [] (acons (var 0) (acons (callE (gP 2 F_law_cell_at) [] (acons (var 1) (acons (op2 (addA false) (cst (.int 3)) (var 5)) anil))) (acons (op2 ixA (var 0) (op2 (addA false) (var 2) (var 5))) (acons (var 4) anil)))))) (sq (asgS (.name 4) (op2 subA (op2 (addA false) (var 4) (callB intW (acons (op2 eqA (op2 ixA (var 6) (cst (.int 0))) (cst (.str "part"))) anil))) (callB intW (acons (op2 eqA (op2 ixA (var 6) (cst (.int 0))) (cst (.str "done"))) anil)))) (exprS (bmE "list" appendW (var 3) (acons (var 6) anil)))))) (retS (op2 (addA false) (var 3) (op2 (mulA false) (lstE false (acons (tupE (acons (cst (.str "done")) anil)) anil)) (var 4))))))))
def F_law_events : FP := pureP (bodyF 7 b_law_events)
def O_law_events : FO := pureO (bodyF 7 b_law_events)
def b_law_header : EM Fl := (sq (asgS (.name 2) (slE false (var 0) (partE none) (partE (some (op2 (addA false) (cst (.int 1)) (op2 (intF modI) (var 1) (cst (.int 4)))))))) (sq (asgS (.name 3) (slE false (var 0) (partE (some (cst (.int 4)))) (partE (some (op2 (addA false) (cst (.int 5)) (op2 (intF modI) (op2 (intF divI) (var 1) (cst (.int 4))) (cst (.int 6)))))))) (sq (asgS (.name 4) (lstE true anil)) (sq (forS (range1E (acons (op2 (addA false) (cst (.int 1)) (op2 (intF modI) (op2 (intF divI) (var 1) (cst (.int 24))) (cst (.int 12)))) anil)) (.name 5) (exprS (bmE "list" appendW (var 4) (acons (tupE (acons (op2 ixA (lstE false (acons (cst (.str "calm")) (acons (cst (.str "sore")) (acons (cst (.str "end")) anil)))) (op2 (intF modI) (callE (gP 2 F_law_mix) [] (acons (var 1) (acons (var 5) anil))) (cst (.int 3)))) (acons (op2 ixA (var 0) (op2 (addA false) (cst (.int 10)) (var 5))) anil))) anil)))) (retS (tupE (acons (var 2) (acons (var 3) (acons (frz (var 4)) anil)))))))))
def F_law_header : FP := pureP (bodyF 6 b_law_header)
def O_law_header : FO := pureO (bodyF 6 b_law_header)
def b_law_name : EM Fl := (sq (asgS (.name 2) (cst (.str "abcdefghijklmnopqrstuvwxyz"))) (sq (ifE (anB (toB (op2 eqA (op2 (intF modI) (var 0) (cst (.int 12))) (cst (.int 5)))) (toB (op2 ltA (var 1) (cst (.int 8))))) (retS (op2 ixA (cst (.str "fgjkqvxz")) (var 1))) (pur .nx)) (sq (ifE (toB (op2 eqA (op2 (intF modI) (var 0) (cst (.int 12))) (cst (.int 7)))) (sq (asgS (.name 9) (lstE false (acons (cst (.str "part")) (acons (cst (.str "done")) (acons (cst (.str "let")) (acons (cst (.str "calm")) (acons (cst (.str "sore")) (acons (cst (.str "end")) (acons (cst (.str "acts")) (acons (cst (.str "any")) (acons (cst (.str "in")) (acons (cst (.str "else")) (acons (cst (.str "may")) (acons (cst (.str "not")) anil)))))))))))))) (retS (op2 (addA false) (op2 (addA false) (op2 ixA (var 9) (op2 (intF modI) (op2 (intF divI) (var 0) (cst (.int 12))) (cst (.int 12)))) (op2 ixA (cst (.str "fgjkqvxz")) (op2 (intF modI) (var 1) (cst (.int 8))))) (op2 ixA (var 2) (op2 (intF modI) (op2 (intF divI) (var 1) (cst (.int 8))) (cst (.int 26))))))) (pur .nx)) (sq (asgS (.name 3) (cst (.str ""))) (sq (ifE (anB (toB (op2 eqA (op2 (intF modI) (var 0) (cst (.int 3))) (cst (.int 1)))) (toB (op2 eqA (op2 (intF modI) (var 1) (cst (.int 2))) (cst (.int 1))))) (sq (asgS (.name 3) (op2 ixA (var 2) (op2 (intF modI) (op2 (intF divI) (var 0) (cst (.int 3))) (cst (.int 26))))) (asgS (.name 1) (op2 subA (var 1) (cst (.int 1))))) (pur .nx)) (sq (asgS (.name 4) (op2 (addA false) (cst (.int 2)) (op2 (intF modI) (op2 (intF divI) (var 0) (cst (.int 81))) (op2 subA (cst (.int 7)) (callB intW (acons (op2 eqA (op2 (intF modI) (var 0) (cst (.int 3))) (cst (.int 1))) anil)))))) (sq (asgS (.name 5) (op2 (intF modI) (op2 (intF divI) (var 0) (cst (.int 500))) (var 4))) (sq (asgS (.name 6) (op2 (intF modI) (op2 (addA false) (op2 (addA false) (var 5) (cst (.int 1))) (op2 (intF modI) (op2 (intF divI) (var 0) (cst (.int 3600))) (op2 subA (var 4) (cst (.int 1))))) (var 4))) (sq (asgS (.name 7) (cst (.str ""))) (sq (forS (range1E (acons (var 4) anil)) (.name 8) (sq (asgS (.name 10) (op2 ixA (var 2) (op2 (intF modI) (callE (gP 2 F_law_mix) [] (acons (var 0) (acons (var 8) anil))) (cst (.int 26))))) (sq (ifE (toB (op2 eqA (var 8) (var 5))) (asgS (.name 10) (op2 ixA (cst (.str "fgjkqvxz")) (op2 (intF modI) (var 1) (cst (.int 8))))) (pur .nx)) (sq (ifE (toB (op2 eqA (var 8) (var 6))) (asgS (.name 10) (op2 ixA (var 2) (op2 (intF modI) (op2 (addA false) (op2 (intF divI) (var 1) (cst (.int 8))) (op2 (intF divI) (var 0) (cst (.int 7)))) (cst (.int 26))))) (pur .nx)) (asgS (.name 7) (op2 (addA false) (var 7) (var 10))))))) (retS (op2 (addA false) (var 7) (var 3)))))))))))))
def F_law_name : FP := pureP (bodyF 11 b_law_name)
def O_law_name : FO := pureO (bodyF 11 b_law_name)
def b_law : EM Fl := (sq (asgS (.name 1) (compE [7] (range1E (acons (cst (.int 104)) anil)) (.name 7) (pur true) (callE (gP 2 F_law_name) [] (acons (callE (gP 2 F_law_mix) [] (acons (callE (gP 2 F_law_cell_at) [] (acons (var 0) (acons (cst (.int 1)) anil))) (acons (cst (.int 60)) anil))) (acons (var 7) anil))) false)) (sq (asgS (.name 2) (callE (gP 2 F_law_header) [] (acons (var 1) (acons (callE (gP 2 F_law_mix) [] (acons (callE (gP 2 F_law_cell_at) [] (acons (var 0) (acons (cst (.int 0)) anil))) (acons (cst (.int 61)) anil))) anil)))) (sq (asgS (.name 3) (callE (gP 2 F_law_events) [] (acons (var 1) (acons (var 0) anil)))) (sq (asgS (.name 4) (bmE "str" joinW (cst (.str "; ")) (acons (callE (gP 2 F_law_rows) [] (acons (var 2) (acons (var 3) anil))) anil))) (sq (asgS (.name 5) (callE (gP 1 F_read) [] (acons (var 4) anil))) (sq (ifE (ntB (toB (callE (gP 3 F_law_right) [] (acons (var 5) (acons (var 2) (acons (var 3) anil)))))) (retS (cst (.bl false))) (pur .nx)) (sq (asgS (.name 6) (callE (gP 1 F_read) [] (acons (op2 (addA false) (op2 (addA false) (op2 (addA false) (op2 (addA false) (op2 (addA false) (cst (.str "parties ")) (op2 ixA (var 1) (cst (.int 5)))) (cst (.str "; acts "))) (op2 ixA (var 1) (cst (.int 6)))) (cst (.str "; end "))) (op2 ixA (var 1) (cst (.int 7)))) anil))) (sq (ifE (ntB (toB (callE (gP 3 F_law_right) [] (acons (var 6) (acons (tupE (acons (lstE false (acons (op2 ixA (var 1) (cst (.int 5))) anil)) (acons (lstE false (acons (op2 ixA (var 1) (cst (.int 6))) anil)) (acons (lstE false (acons (tupE (acons (cst (.str "end")) (acons (op2 ixA (var 1) (cst (.int 7))) anil))) anil)) anil)))) (acons (lstE false anil) anil)))))) (retS (cst (.bl false))) (pur .nx)) (retS (anV (callE (gP 3 F_law_right) [] (acons (callE (gP 1 F_read) [] (acons (var 4) anil)) (acons (var 2) (acons (var 3) anil)))) (callE (gP 3 F_law_right) [] (acons (var 5) (acons (var 2) (acons (var 3) anil))))))))))))))
def F_law : FP := pureP (bodyF 8 b_law)
def O_law : FO := pureO (bodyF 8 b_law)
end Sem
namespace Math
open PySem EV Sem
local macro_rules | `(tactic| walk_at "go") => `(tactic| repeat (first
  | with_reducible refine St.run ?_
  | with_reducible refine Se.run ?_
  | (with_reducible refine gd_lft ?_; first 
        | (with_reducible refine gd_ix ?_; first 
        | with_reducible refine rl_ixI (by first | omega | (decide +kernel)) ?_ 
        | with_reducible refine rl_ixI' ?_ ?_ 
        | with_reducible refine rl_ixSk (by with_unfolding_all rfl) ?_ 
        | with_reducible refine rl_ixSs (by first | omega | (decide +kernel)) ?_ 
        | with_reducible refine rl_ixSs' ?_ ?_ 
        | with_reducible refine rl_ixZ (by omega) ?_ 
        | with_reducible refine rl_ixZ' ?_ ?_ 
        | with_reducible refine rl_ixT (by with_unfolding_all rfl) ?_ 
        | with_reducible refine rl_ixL (by with_unfolding_all rfl) ?_ 
        | with_reducible refine rl_ixO (by with_unfolding_all rfl) (by with_unfolding_all rfl) ?_) 
        | (with_reducible refine gd_add ?_; first 
        | with_reducible refine rl_addL (by decide) ?_ 
        | with_reducible refine rl_addS (by first | omega | (decide +kernel)) ?_ 
        | with_reducible refine rl_addS' ?_ ?_ 
        | with_reducible refine rl_addL' ?_ ?_) 
        | (with_reducible refine gd_int ?_; first 
        | with_reducible refine rl_mod (by decide) ?_ 
        | with_reducible refine rl_div (by decide) ?_ 
        | with_reducible refine rl_pow (by decide) ?_ 
        | with_reducible refine rl_mod (by first | omega | (decide +kernel)) ?_ 
        | with_reducible refine rl_div (by first | omega | (decide +kernel)) ?_ 
        | with_reducible refine rl_mod' ?_ ?_ 
        | with_reducible refine rl_div' ?_ ?_) 
        | (with_reducible refine gd_mul ?_; first 
        | with_reducible refine rl_mulI (Or.inr (by decide)) ?_ 
        | with_reducible refine rl_mulI (Or.inl (by decide)) ?_ 
        | with_reducible refine rl_mulI (by first | omega | (decide +kernel)) ?_ 
        | with_reducible refine rl_mulI' ?_ ?_ 
        | with_reducible refine rl_mulS' ?_ ?_) 
        | with_reducible refine rl_newF (by dsimp only [allD, Option.map] <;> exact rfl) ?_ 
        | with_reducible refine rl_append (by with_unfolding_all rfl) (by exact lt_len (by with_unfolding_all rfl)) (by dsimp only [List.set] <;> exact rfl) ?_ 
        | with_reducible refine rl_append' (by with_unfolding_all rfl) (by dsimp only [List.set] <;> exact rfl) ?_ ?_ 
        | with_reducible refine rl_splitR (by assumption) ?_ 
        | with_reducible refine rl_lenS (by first | omega | (decide +kernel)) ?_ 
        | with_reducible refine rl_lenS' ?_ ?_ 
        | with_reducible refine rl_slS (by first | omega | (decide +kernel)) ?_ 
        | with_reducible refine rl_slS' ?_ ?_ 
        | with_reducible refine rl_isi (by with_unfolding_all rfl) ?_ 
        | with_reducible refine rl_clear (by with_unfolding_all rfl) (by dsimp only [List.set] <;> exact rfl) ?_ 
        | with_reducible refine rl_inT ?_ 
        | with_reducible refine rl_inL ?_ 
        | with_reducible refine rl_ninT ?_ 
        | with_reducible refine rl_ninL ?_ 
        | with_reducible refine rl_newKO (by dsimp only [List.length_cons, List.length_nil, Nat.reduceAdd] <;> exact rfl) (by dsimp only [List.cons_append, List.nil_append] <;> exact rfl) ?_ 
        | with_reducible refine rl_dclear (by with_unfolding_all rfl) (by dsimp only [List.set] <;> exact rfl) ?_ 
        | with_reducible refine rl_newO (by dsimp only [List.length_cons, List.length_nil, Nat.reduceAdd] <;> exact rfl) (by dsimp only [List.cons_append, List.nil_append] <;> exact rfl) ?_)
  | (with_reducible refine gd_ite ?_; first 
        | with_reducible refine rb_iteDT rfl ?_ 
        | with_reducible refine rb_iteDnT rfl ?_ 
        | with_reducible refine rb_iteP (by decide) ?_ 
        | with_reducible refine rb_iteN (by decide) ?_)
  | with_reducible refine rb_asgT rfl (by dsimp only [setAll, List.map, List.set] <;> exact rfl) ?_
  | with_reducible refine rb_lstK (by exact Nat.le_of_ble_eq_true (by with_unfolding_all rfl)) ?_
  | with_reducible refine rb_bmK (by with_unfolding_all rfl) ?_
  | with_reducible refine rb_wip (by dsimp only [wipeO, List.set] <;> exact rfl) ?_
  | with_reducible refine rb_fldD (by with_unfolding_all rfl) ?_
  | with_reducible refine rb_fldK (by with_unfolding_all rfl) (by with_unfolding_all rfl) ?_
  | with_reducible refine rb_methK (by with_unfolding_all rfl) (by with_unfolding_all rfl) ?_
  | with_reducible refine rl_sfld (by with_unfolding_all rfl) (by with_unfolding_all rfl) (by dsimp [List.set, fput] <;> exact rfl) ?_
  | with_reducible refine rb_isD (by first | assumption | with_unfolding_all rfl) ?_
  | with_reducible refine rb_ren (by assumption) ?_
  | with_reducible refine rb_ren dct_sw ?_
  | with_reducible refine rb_treesK (by dsimp only [allD, Option.map] <;> exact rfl) ?_
  | with_reducible refine rb_tupK (by exact Nat.le_of_ble_eq_true (by with_unfolding_all rfl)) ?_
  | with_reducible refine rb_rg1 (by first | omega | (decide +kernel)) ?_
  | with_reducible refine rb_rg2 (by first | omega | (decide +kernel)) ?_
  | with_reducible refine rb_gPe (by dsimp only [allD, Option.map] <;> exact rfl) rfl (by assumption) ?_
  | with_reducible refine rb_gO (by dsimp only [allD, Option.map] <;> exact rfl) rfl (by assumption) (by dsimp only [List.length_cons, List.length_nil, Nat.reduceAdd] <;> exact rfl) (by dsimp only [List.cons_append, List.nil_append] <;> exact rfl) ?_))
local macro_rules | `(tactic| walk_at "len") => `(tactic| first
  | omega
  | (decide +kernel)
  | grind [L2.cutS_length, Str.length_append, chr1_len])
local macro_rules | `(tactic| walk_at "ok") => `(tactic| first
  | with_reducible assumption
  | ((with_reducible refine okS_app ?_ ?_) <;> walk_at "ok")
  | ((with_reducible refine okS_cut ?_) <;> walk_at "ok")
  | ((with_reducible refine okS_num ?_) <;> omega)
  | ((with_reducible refine okS_chr ?_) <;> omega)
  | (decide +kernel))
local macro_rules | `(tactic| walk_at "br") => `(tactic| first
  | with_reducible refine rb_iteDn (fun h1 => ?_) fun h1 => ?_
  | with_reducible refine rb_iteD (fun h1 => ?_) fun h1 => ?_
  | with_reducible refine rb_ite (fun h1 => ?_) fun h1 => ?_
  | refine rb_mkK rfl ?_)
local macro_rules | `(tactic| walk_at "known") => `(tactic| repeat' (first | (with_reducible refine rb_iteP rfl ?_; walk_at "go") | (with_reducible refine rb_iteN rfl ?_; walk_at "go")))
def keptL : List Str := ["acts", "any", "be", "by", "calm", "done", "else", "end", "in", "let", "may", "must", "not", "part", "parties", "rest", "sore", "to", "whole"]
/-- what a name is -/
def lettersL : List Nat := (Str.ofString "abcdefghijklmnopqrstuvwxyz").cps.toList
def nameB (z : Str) : Bool := decide ((1 ≤ (z.length : Int) ∧ (z.length : Int) ≤ 8) ∧ ¬ z ∈ keptL ∧ ∀ c ∈ z.cps.toList, c ∈ lettersL)
theorem letters_loop {z : Str} {x : Option W} {k : Fl → EM Fl} {Q : Out Fl → SS → Prop} {e : EM W} (he : ∀ c : Nat, Run (bnd e pur) ⟨[some (.d (.str z)), some (.d (.str (chr1 c)))], []⟩ (EvQ ⟨[some (.d (.str z)), some (.d (.str (chr1 c)))], []⟩ fun w => w = .d (.bl (!decide (c ∈ lettersL)))))
    (h1 : ∀ x, (∀ c ∈ z.cps.toList, c ∈ lettersL) → Run (k .nx) ⟨[some (.d (.str z)), x], []⟩ Q) (h2 : ∀ x, ¬ (∀ c ∈ z.cps.toList, c ∈ lettersL) → Run (k (.ret (.d (.bl false)))) ⟨[some (.d (.str z)), x], []⟩ Q) :
    Run (bnd (loopS (.name 1) (ifE (toB e) (retS (cst (.bl false))) (pur .nx)) (z.cps.toList.map fun c => .str (chr1 c))) k) ⟨[some (.d (.str z)), x], []⟩ Q := by
  refine rb_loop (f := fun c => .str (chr1 c)) (fun l s => (∃ x, s = ⟨[some (.d (.str z)), x], []⟩) ∧ ∃ r, z.cps.toList = r ++ l ∧ ∀ c ∈ r, c ∈ lettersL) ?_ ?_ _ _ ⟨⟨x, rfl⟩, [], rfl, fun _ h => nomatch h⟩
  · rintro a l s ⟨⟨x, rfl⟩, r, er, hr⟩
    walk_at "go"
    obtain ⟨o, s', e1, e2, h⟩ := run_bnd (he a)
    subst e2
    cases o with
    | ex _ _ _ => exact h.elim
    | ok w =>
      have h : w = _ := h
      subst h
      refine rb_eq e1 ?_
      walk_at "go"
      refine rb_iteDn (fun h => ?_) fun h => ?_
      · walk_at "go"
        exact h2 _ fun q => h (q a (by rw [er]; simp))
      · walk_at "go"
        refine ⟨⟨_, rfl⟩, r ++ [a], by rw [er]; simp, fun c hc => ?_⟩
        rcases List.mem_append.mp hc with hc | hc
        · exact hr c hc
        · rw [List.mem_singleton.mp hc]; exact h
  · rintro s ⟨⟨x, rfl⟩, r, er, hr⟩
    exact h1 x (by rw [er, List.append_nil]; exact hr)
theorem is_name_ok (z : Str) (hz : z.length ≤ 1000) : F_is_name [.str z] = some (.ok (.bl (nameB z))) := by
  unfold F_is_name
  refine fp_eq [some (.d (.str z)), none] rfl ?_
  unfold b_is_name
  rw [show g_KEPT = D.tup (keptL.map .str) from rfl]
  unfold g_MOST_LETTERS g_LETTERS
  walk_at "go"
  refine rb_iteD (fun h => ?_) fun h => ?_
  · walk_at "go"
    refine rb_iteDn (fun h2 => ?_) fun h2 => ?_
    · walk_at "go"
      exact congrArg D.bl (decide_eq_false fun q => h2 q.1.2).symm
    · walk_at "go"
      refine rb_iteD (fun h3 => ?_) fun h3 => ?_
      · walk_at "go"
        exact congrArg D.bl (decide_eq_false fun q => q.2.1 h3).symm
      · walk_at "go"
        refine letters_loop (fun c => ?_) (fun x h4 => ?_) fun x h4 => ?_
        · walk_at "go"
          rfl
        · walk_at "go"
          exact congrArg D.bl (decide_eq_true ⟨⟨h, h2⟩, h3, h4⟩).symm
        · walk_at "go"
          exact congrArg D.bl (decide_eq_false fun q => h4 q.2.2).symm
  · walk_at "go"
    refine congrArg D.bl (decide_eq_false ?_).symm
    rintro ⟨q, _⟩
    exact h q.1
def dv (cs : List Nat) : Nat := NumText.digitsVal cs
theorem dv_snoc (cs : List Nat) (c : Nat) : dv (cs ++ [c]) = dv cs * 10 + (c - 48) := by
  unfold dv NumText.digitsVal
  rw [List.foldl_append]
  rfl
def numB (z : Str) : Int := if (1 ≤ (z.length : Int) ∧ (z.length : Int) ≤ 20) ∧ z.cps.toList.getD 0 0 ≠ 48 ∧ ∀ c ∈ z.cps.toList, c ∈ figL then (dv z.cps.toList : Int) else 0
theorem rl_intS {β : Type} {env : List (Option W)} {st : Store} {Q : Out β → SS → Prop} {k : W → EM β} {z : Str} {n : Int} (hl : z.length ≤ 640) (e : intText? z = some n) (h : Run (k (.d (.int n))) ⟨env, st⟩ Q) : Run (bnd (lft fun st => intW st [.d (.str z)]) k) ⟨env, st⟩ Q :=
  rb_lft (by unfold intW; simp only [hl, if_true, e]) h
theorem zero1 : Str.ofString "0" = chr1 48 := by decide +kernel
theorem number_ok (z : Str) (hz : z.length ≤ 1000) : F_number_of [.str z] = some (.ok (.int (numB z))) := by
  unfold F_number_of
  refine fp_eq [some (.d (.str z)), none] rfl ?_
  unfold b_number_of
  unfold g_MOST_FIGURES g_FIGURES
  rw [zero1]
  walk_at "go"
  refine rb_iteD (fun h => ?_) fun h => ?_
  · walk_at "go"
    refine rb_iteDn (fun h2 => ?_) fun h2 => ?_
    · walk_at "go"
      exact congrArg D.int (if_neg (by rintro ⟨q, _⟩; exact h2 q.2)).symm
    · walk_at "go"
      refine rb_iteD (fun h3 => ?_) fun h3 => ?_
      · walk_at "go"
        refine congrArg D.int (if_neg ?_).symm
        rintro ⟨_, q, _⟩
        exact q (chr1_inj.mp h3)
      · walk_at "go"
        refine rb_loop (f := fun c => .str (chr1 c)) (fun l s => (∃ x, s = ⟨[some (.d (.str z)), x], []⟩) ∧ ∃ r, z.cps.toList = r ++ l ∧ ∀ c ∈ r, c ∈ figL) ?_ ?_ _ _ ⟨⟨_, rfl⟩, [], rfl, fun _ h => nomatch h⟩
        · rintro a l s ⟨⟨x, rfl⟩, r, er, hr⟩
          walk_at "go"
          refine rb_iteDn (fun h4 => ?_) fun h4 => ?_
          · walk_at "go"
            refine congrArg D.int (if_neg ?_).symm
            rintro ⟨_, _, q⟩
            exact h4 (q a (by rw [er]; simp))
          · walk_at "go"
            refine ⟨⟨_, rfl⟩, r ++ [a], by rw [er]; simp, fun c hc => ?_⟩
            rcases List.mem_append.mp hc with hc | hc
            · exact hr c hc
            · rw [List.mem_singleton.mp hc]; exact h4
        · rintro s ⟨⟨x, rfl⟩, r, er, hr⟩
          rw [List.append_nil] at er
          have hd : NumText.AllDigits z.cps.toList := fun c hc => (figL_iff c).mp (hr c (er ▸ hc))
          have hn : z.cps.toList ≠ [] := fun e => by
            have := congrArg List.length e
            rw [clen] at this
            simp at this
            omega
          have hv := intText_digits hd hn (by omega)
          walk_at "go"
          refine rl_intS (by omega) hv ?_
          walk_at "go"
          refine congrArg D.int (if_pos ⟨⟨h, h2⟩, fun q => h3 (chr1_inj.mpr q), ?_⟩).symm
          rw [er]
          exact hr
  · walk_at "go"
    refine congrArg D.int (if_neg ?_).symm
    rintro ⟨q, _⟩
    exact h q.1
local macro_rules | `(tactic| walk_at "br") => `(tactic| first
  | with_reducible refine rb_iteDn (fun h1 => ?_) fun h1 => ?_
  | with_reducible refine rb_iteD (fun h1 => ?_) fun h1 => ?_
  | with_reducible refine rb_ite (fun h1 => ?_) fun h1 => ?_
  | refine rb_mkK rfl ?_)
local macro_rules | `(tactic| walk_at "known") => `(tactic| repeat' (first | (with_reducible refine rb_iteP rfl ?_; walk_at "go") | (with_reducible refine rb_iteN rfl ?_; walk_at "go")))
local macro_rules | `(tactic| walk_at "brk") => `(tactic| repeat' (first | (with_reducible refine rb_iteP rfl ?_; walk_at "go") | (with_reducible refine rb_iteN rfl ?_; walk_at "go") | (walk_at "br" <;> walk_at "go")))
def whoB (z : Str) : Bool := decide (z = Str.ofString "any") || nameB z
def dutyD (a b c : Str) (n : Int) (d : Str) : D := .ins 2 [0, 1, 2, 3, 4] [.str a, .str b, .str c, .int n, .str d]
def leaveD (a b c : Str) : D := .ins 3 [0, 1, 2] [.str a, .str b, .str c]
def banD (a b c d : Str) : D := .ins 4 [0, 1, 2, 4] [.str a, .str b, .str c, .str d]
def powerD (a b c d : Str) : D := .ins 5 [0, 1, 2, 4] [.str a, .str b, .str c, .str d]
def letD (a b : Str) : D := .ins 6 [5, 6] [.str a, .str b]
def partD (a : Str) (rooms : List Str) (rows : List D) : D := .ins 7 [5, 7, 8] [.str a, strs' rooms, .lst rows]
def dutyB (b c d e f g h : Str) : Bool := decide (c = Str.ofString "must") && decide (e = Str.ofString "by") && decide (g = Str.ofString "else") && !decide (b = Str.ofString "any") && nameB d && !decide (numB f = 0) && nameB h
def banB (c d e f g : Str) : Bool := decide (c = Str.ofString "may") && decide (d = Str.ofString "not") && decide (f = Str.ofString "else") && nameB e && nameB g
def powerB (c d e f : Str) : Bool := decide (c = Str.ofString "by") && decide (e = Str.ofString "to") && nameB d && nameB f
section
variable {a b c d e f g h : Str}
theorem duty_ok (hd : d.length ≤ 100) (hf : f.length ≤ 100) (hh : h.length ≤ 100) : F_duty_of [strs' [a, b, c, d, e, f, g, h]] = some (.ok (if dutyB b c d e f g h then dutyD a b d (numB f) h else .non)) := by
  unfold F_duty_of
  refine fp_eq [some (.d (strs' [a, b, c, d, e, f, g, h]))] rfl ?_
  unfold b_duty_of
  have nd := is_name_ok d (by omega)
  have nh := is_name_ok h (by omega)
  have nf := number_ok f (by omega)
  walk_at "go"
  walk_at "brk"
  all_goals try simp_all [dutyB, dutyD]
  all_goals rfl
theorem ban_ok (hd : e.length ≤ 100) (hh : g.length ≤ 100) : F_ban_of [strs' [a, b, c, d, e, f, g]] = some (.ok (if banB c d e f g then banD a b e g else .non)) := by
  unfold F_ban_of
  refine fp_eq [some (.d (strs' [a, b, c, d, e, f, g]))] rfl ?_
  unfold b_ban_of
  have nd := is_name_ok e (by omega)
  have nh := is_name_ok g (by omega)
  walk_at "go"
  walk_at "brk"
  all_goals try simp_all [banB, banD]
  all_goals rfl
theorem power_ok (hd : d.length ≤ 100) (hh : f.length ≤ 100) : F_power_of [strs' [a, b, c, d, e, f]] = some (.ok (if powerB c d e f then powerD a b d f else .non)) := by
  unfold F_power_of
  refine fp_eq [some (.d (strs' [a, b, c, d, e, f]))] rfl ?_
  unfold b_power_of
  have nd := is_name_ok d (by omega)
  have nh := is_name_ok f (by omega)
  walk_at "go"
  walk_at "brk"
  all_goals try simp_all [powerB, powerD]
  all_goals rfl
end
/-- the clause that words tell -/
def clauseW : List Str → D
  | [a, b, c, d, e, f, g, h] => if nameB a && whoB b then (if dutyB b c d e f g h then dutyD a b d (numB f) h else .non) else .non
  | [a, b, c, d, e, f, g] => if nameB a && whoB b then (if banB c d e f g then banD a b e g else .non) else .non
  | [a, b, c, d, e, f] => if nameB a && whoB b then (if powerB c d e f then powerD a b d f else .non) else .non
  | [a, b, c, d] => if nameB a && whoB b then (if decide (c = Str.ofString "may") && nameB d then leaveD a b d else .non) else .non
  | _ => .non
theorem clause_ok {ws : List Str} (ok : okW ws) : F_clause_of [.str (rowJ ws)] = some (.ok (clauseW ws)) := by
  unfold F_clause_of
  refine fp_eq [some (.d (.str (rowJ ws))), none] rfl ?_
  unfold b_clause_of
  walk_at "go"
  have ol := fun w hw => (ok.2.2 w hw).1
  rcases ws with _ | ⟨a, _ | ⟨b, _ | ⟨c, _ | ⟨d, _ | ⟨e, _ | ⟨f, _ | ⟨g, _ | ⟨h, _ | ⟨i, ws⟩⟩⟩⟩⟩⟩⟩⟩⟩
  · exact absurd rfl ok.1
  all_goals clear ok
  · walk_at "go"
    refine rb_iteP rfl ?_
    walk_at "go"
    rfl
  · walk_at "go"
    refine rb_iteP rfl ?_
    walk_at "go"
    rfl
  · walk_at "go"
    refine rb_iteP rfl ?_
    walk_at "go"
    rfl
  · have na := is_name_ok a (Nat.le_trans (ol a (by simp)) (by decide))
    have nb := is_name_ok b (Nat.le_trans (ol b (by simp)) (by decide))
    have nd := is_name_ok d (Nat.le_trans (ol d (by simp)) (by decide))
    walk_at "go"
    walk_at "brk"
    all_goals try simp_all [clauseW, whoB, leaveD]
    all_goals rfl
  · have na := is_name_ok a (Nat.le_trans (ol a (by simp)) (by decide))
    have nb := is_name_ok b (Nat.le_trans (ol b (by simp)) (by decide))
    walk_at "go"
    walk_at "brk"
    all_goals simp_all [clauseW, whoB]
  · have na := is_name_ok a (Nat.le_trans (ol a (by simp)) (by decide))
    have nb := is_name_ok b (Nat.le_trans (ol b (by simp)) (by decide))
    have np := power_ok (a := a) (b := b) (c := c) (e := e) (ol d (by simp)) (ol f (by simp))
    walk_at "go"
    walk_at "brk"
    all_goals simp_all [clauseW, whoB]
  · have na := is_name_ok a (Nat.le_trans (ol a (by simp)) (by decide))
    have nb := is_name_ok b (Nat.le_trans (ol b (by simp)) (by decide))
    have np := ban_ok (a := a) (b := b) (c := c) (d := d) (f := f) (ol e (by simp)) (ol g (by simp))
    walk_at "go"
    walk_at "brk"
    all_goals simp_all [clauseW, whoB]
  · have na := is_name_ok a (Nat.le_trans (ol a (by simp)) (by decide))
    have nb := is_name_ok b (Nat.le_trans (ol b (by simp)) (by decide))
    have np := duty_ok (a := a) (b := b) (c := c) (e := e) (g := g) (ol d (by simp)) (ol f (by simp)) (ol h (by simp))
    walk_at "go"
    walk_at "brk"
    all_goals simp_all [clauseW, whoB]
  · have na := is_name_ok a (Nat.le_trans (ol a (by simp)) (by decide))
    have nb := is_name_ok b (Nat.le_trans (ol b (by simp)) (by decide))
    walk_at "go"
    walk_at "brk"
    all_goals first | rfl | (exfalso; simp only [List.length_cons] at *; omega) | simp [clauseW]
/-- the let that words tell -/
def letW : List Str → D
  | [a, b, c, d] => if (decide (a = Str.ofString "let") && decide (c = Str.ofString "be")) && (nameB b && nameB d) then letD b d else .non
  | _ => .non
theorem let_ok {ws : List Str} (ok : okW ws) : F_let_of [.str (rowJ ws)] = some (.ok (letW ws)) := by
  unfold F_let_of
  refine fp_eq [some (.d (.str (rowJ ws))), none] rfl ?_
  unfold b_let_of
  walk_at "go"
  have ol := fun w hw => (ok.2.2 w hw).1
  by_cases hl : ws.length = 4
  · obtain ⟨a, b, c, d, rfl⟩ : ∃ a b c d, ws = [a, b, c, d] := by
      rcases ws with _ | ⟨a, _ | ⟨b, _ | ⟨c, _ | ⟨d, _ | ⟨e, ws⟩⟩⟩⟩⟩
      all_goals first | (exact ⟨_, _, _, _, rfl⟩) | (exfalso; simp at hl)
    clear ok
    have nb := is_name_ok b (Nat.le_trans (ol b (by simp)) (by decide))
    have nd := is_name_ok d (Nat.le_trans (ol d (by simp)) (by decide))
    refine rb_iteN rfl ?_
    walk_at "go"
    walk_at "brk"
    all_goals try simp_all [letW, letD]
    all_goals rfl
  · refine rb_iteP (by rw [Bool.not_eq_true', decide_eq_false_iff_not]; omega) ?_
    walk_at "go"
    unfold letW
    split
    · exact absurd rfl hl
    · rfl
/-- the names of a row -/
def namesW : List Str → Str → Int → List Str
  | [], _, _ => []
  | w :: r, word, most => if w ≠ word ∨ most < r.length ∨ r.all nameB = false then [] else r
theorem namesW_c {w : Str} {r : List Str} {word : Str} {most : Int} : namesW (w :: r) word most = if w ≠ word ∨ most < r.length ∨ r.all nameB = false then [] else r := rfl
theorem names_run {ws : List Str} {word : Str} {most : Int} {Q : Out Fl → SS → Prop} (ok : okW ws)
    (hd : ∀ e, Q (.ok (.ret (.d (strs' (namesW ws word most))))) ⟨e, []⟩) :
    Run (bnd b_names_of pur) ⟨[some (.d (.str (rowJ ws))), some (.d (.str word)), some (.d (.int most)), none, none], []⟩ Q := by
  unfold b_names_of
  have ol := fun w hw => (ok.2.2 w hw).1
  rcases ws with _ | ⟨w, r⟩
  · exact absurd rfl ok.1
  walk_at "go"
  refine rb_iteDn (fun h1 => ?_) fun h1 => ?_
  · walk_at "go"
    have e : namesW (w :: r) word most = [] := by rw [namesW_c, if_pos (.inl h1)]
    rw [e] at hd
    exact run_pur (hd _)
  walk_at "go"
  have el : (((w :: r).length : Int) - 1) = r.length := by simp
  rw [el]
  refine rb_iteD (fun h2 => ?_) fun h2 => ?_
  · walk_at "go"
    have e : namesW (w :: r) word most = [] := by rw [namesW_c, if_pos (.inr (.inl h2))]
    rw [e] at hd
    exact run_pur (hd _)
  walk_at "go"
  have ec : cutW (w :: r) (some 1) none = r := cut_from (a := 1)
  rw [ec]
  refine rb_loop (f := D.str) (fun l s => (∃ x, s = ⟨[some (.d (.str (rowJ (w :: r)))), some (.d (.str word)), some (.d (.int most)), some (.d (strs' (w :: r))), x], []⟩) ∧ ∃ p, r = p ++ l ∧ p.all nameB = true) ?_ ?_ _ _ ⟨⟨_, rfl⟩, [], rfl, rfl⟩
  · rintro a l s ⟨⟨x, rfl⟩, p, er, hp⟩
    have na := is_name_ok a (Nat.le_trans (ol a (by rw [er]; simp)) (by decide))
    walk_at "go"
    refine rb_ite (fun h3 => ?_) fun h3 => ?_
    · walk_at "go"
      have h3 : nameB a = false := by simpa using h3
      have e : namesW (w :: r) word most = [] := by rw [namesW_c, if_pos (.inr (.inr (by rw [er, List.all_append, List.all_cons, h3]; simp)))]
      rw [e] at hd
      exact run_pur (hd _)
    · walk_at "go"
      have h3 : nameB a = true := by simpa using h3
      exact ⟨⟨_, rfl⟩, p ++ [a], by rw [er]; simp, by rw [List.all_append, hp]; simp [h3]⟩
  · rintro s ⟨⟨x, rfl⟩, p, er, hp⟩
    rw [List.append_nil] at er
    walk_at "go"
    rw [ec]
    have e : namesW (w :: r) word most = r := by
      rw [namesW_c, if_neg]
      rintro (q | q | q)
      · exact q h1
      · exact h2 q
      · rw [er, hp] at q
        cases q
    rw [e] at hd
    exact run_pur (hd _)
theorem names_ok {ws : List Str} (word : Str) (most : Int) (ok : okW ws) : F_names_of [.str (rowJ ws), .str word, .int most] = some (.ok (strs' (namesW ws word most))) := by
  unfold F_names_of
  refine fp_eq [some (.d (.str (rowJ ws))), some (.d (.str word)), some (.d (.int most)), none, none] rfl ?_
  exact names_run ok fun e => rfl
def marksL : List Str := ["calm", "sore", "end"]
/-- the room that words tell -/
def roomW : List Str → D
  | [a, b] => if decide (a ∈ marksL) && nameB b then .tup [.str a, .str b] else .non
  | _ => .non
theorem room_ok {ws : List Str} (ok : okW ws) : F_room_of [.str (rowJ ws)] = some (.ok (roomW ws)) := by
  unfold F_room_of
  refine fp_eq [some (.d (.str (rowJ ws))), none] rfl ?_
  unfold b_room_of
  rw [show g_MARKS = D.tup (marksL.map .str) from rfl]
  walk_at "go"
  have ol := fun w hw => (ok.2.2 w hw).1
  by_cases hl : ws.length = 2
  · obtain ⟨a, b, rfl⟩ : ∃ a b, ws = [a, b] := by
      rcases ws with _ | ⟨a, _ | ⟨b, _ | ⟨e, ws⟩⟩⟩
      all_goals first | (exact ⟨_, _, rfl⟩) | (exfalso; simp at hl)
    clear ok
    have nb := is_name_ok b (Nat.le_trans (ol b (by simp)) (by decide))
    refine rb_iteN rfl ?_
    walk_at "go"
    repeat' (walk_at "br" <;> walk_at "go")
    all_goals simp_all [roomW]
  · refine rb_iteP (by rw [Bool.not_eq_true', decide_eq_false_iff_not]; omega) ?_
    walk_at "go"
    unfold roomW
    split
    · exact absurd rfl hl
    · rfl
/-- the part that words open -/
def partW : List Str → D
  | [a, b] => if decide (a = Str.ofString "part") && nameB b then partD b [] [] else .non
  | a :: b :: c :: r => if (decide (a = Str.ofString "part") && nameB b) && !decide (namesW (c :: r) (Str.ofString "in") 12 = []) then partD b (namesW (c :: r) (Str.ofString "in") 12) [] else .non
  | _ => .non
/-- what a word is -/
inductive Tk where
  | any | name | num | kw (i : Nat) | bad
deriving DecidableEq
def kwI (z : Str) : Option Nat := keptL.findIdx? fun x => decide (x = z)
def tok (z : Str) : Tk := if z = Str.ofString "any" then .any else if nameB z then .name else match kwI z with
  | some i => .kw i
  | none => if numB z = 0 then .bad else .num
theorem kwI_some {z : Str} {i : Nat} (h : kwI z = some i) : keptL[i]? = some z := by
  unfold kwI at h
  obtain ⟨hi, h1, _⟩ := List.findIdx?_eq_some_iff_getElem.mp h
  have h1 : keptL[i] = z := by simpa using h1
  rw [List.getElem?_eq_getElem hi, h1]
theorem kwI_none {z : Str} (h : ¬ z ∈ keptL) : kwI z = none := by
  unfold kwI
  rw [List.findIdx?_eq_none_iff]
  intro x hx
  exact decide_eq_false fun e => h (e ▸ hx)
theorem name_kept {z : Str} (h : nameB z = true) : ¬ z ∈ keptL := (of_decide_eq_true h).2.1
theorem name_let {z : Str} (h : nameB z = true) : ∀ c ∈ z.cps.toList, c ∈ lettersL := (of_decide_eq_true h).2.2
theorem name_len {z : Str} (h : nameB z = true) : 1 ≤ z.length ∧ z.length ≤ 8 := by
  have := (of_decide_eq_true h).1
  omega
theorem any_kept : Str.ofString "any" ∈ keptL := by decide +kernel
theorem tok_name {z : Str} (h : nameB z = true) : tok z = .name := by
  unfold tok
  rw [if_neg (fun e : z = Str.ofString "any" => name_kept h (e ▸ any_kept)), if_pos h]
theorem letters_nofig : ∀ c ∈ lettersL, ¬ c ∈ figL := by decide +kernel
theorem letters_ok : ∀ c ∈ lettersL, c < 1114112 ∧ c ≠ 32 := by decide +kernel
theorem kept_num : ∀ z ∈ keptL, numB z = 0 := by decide +kernel
theorem num_kept {z : Str} (h : ¬ numB z = 0) : ¬ z ∈ keptL := fun e => h (kept_num z e)
theorem num_name {z : Str} (h : ¬ numB z = 0) : nameB z = false := by
  rw [Bool.eq_false_iff]
  intro hn
  unfold numB at h
  split at h
  · rename_i q
    obtain ⟨⟨h1, _⟩, _, h3⟩ := q
    have hl : 0 < z.cps.toList.length := by rw [clen]; omega
    have hm := List.getElem_mem hl
    exact letters_nofig _ (name_let hn _ hm) (h3 _ hm)
  · exact h rfl
theorem tok_num {z : Str} (h : ¬ numB z = 0) : tok z = .num := by
  unfold tok
  rw [if_neg (fun e : z = Str.ofString "any" => num_kept h (e ▸ any_kept)), if_neg (by rw [num_name h]; exact Bool.false_ne_true), kwI_none (num_kept h)]
  exact if_neg h
theorem tok_any : tok (Str.ofString "any") = .any := if_pos rfl
/-- alike words -/
theorem tok_inj {x y : Str} (h : tok x = tok y) (h2 : tok x = .any ∨ ∃ i, tok x = .kw i) : x = y := by
  have key : ∀ z, (tok z = .any → z = Str.ofString "any") ∧ ∀ i, tok z = .kw i → keptL[i]? = some z := by
    intro z
    unfold tok
    by_cases h1 : z = Str.ofString "any"
    · rw [if_pos h1]
      exact ⟨fun _ => h1, fun i e => (nomatch e)⟩
    · rw [if_neg h1]
      by_cases h2 : nameB z = true
      · rw [if_pos h2]
        exact ⟨fun e => (nomatch e), fun i e => (nomatch e)⟩
      · rw [if_neg h2]
        cases hk : kwI z with
        | some j =>
          refine ⟨fun e => (nomatch e), fun i e => ?_⟩
          cases e
          exact kwI_some hk
        | none =>
          simp only
          split
          · exact ⟨fun e => (nomatch e), fun i e => (nomatch e)⟩
          · exact ⟨fun e => (nomatch e), fun i e => (nomatch e)⟩
  rcases h2 with e | ⟨i, e⟩
  · rw [(key x).1 e, (key y).1 (h ▸ e)]
  · have e1 := (key x).2 i e
    have e2 := (key y).2 i (h ▸ e)
    rw [e1] at e2
    exact Option.some.inj e2
/-! forms -/
def formC : List Tk → Bool
  | [a, b, c, d, e, f, g, h] => decide (a = .name) && decide (b = .name) && decide (c = .kw 11) && decide (d = .name) && decide (e = .kw 3) && decide (f = .num) && decide (g = .kw 6) && decide (h = .name)
  | [a, b, c, d, e, f, g] => decide (a = .name) && decide (b = .any ∨ b = .name) && decide (c = .kw 10) && decide (d = .kw 12) && decide (e = .name) && decide (f = .kw 6) && decide (g = .name)
  | [a, b, c, d, e, f] => decide (a = .name) && decide (b = .any ∨ b = .name) && decide (c = .kw 3) && decide (d = .name) && decide (e = .kw 17) && decide (f = .name)
  | [a, b, c, d] => decide (a = .name) && decide (b = .any ∨ b = .name) && decide (c = .kw 10) && decide (d = .name)
  | _ => false
def formL : List Tk → Bool
  | [a, b, c, d] => decide (a = .kw 9) && decide (b = .name) && decide (c = .kw 2) && decide (d = .name)
  | _ => false
def formP : List Tk → Bool
  | [a, b] => decide (a = .kw 13) && decide (b = .name)
  | a :: b :: c :: r => decide (a = .kw 13) && decide (b = .name) && decide (c = .kw 8) && r.all (fun x => decide (x = .name)) && decide (1 ≤ r.length ∧ r.length ≤ 12)
  | _ => false
def formR : List Tk → Bool
  | [a, b] => decide (a = .kw 4 ∨ a = .kw 16 ∨ a = .kw 7) && decide (b = .name)
  | _ => false
theorem kt_must : tok (Str.ofString "must") = .kw 11 := by decide +kernel
theorem kt_by : tok (Str.ofString "by") = .kw 3 := by decide +kernel
theorem kt_else : tok (Str.ofString "else") = .kw 6 := by decide +kernel
theorem kt_may : tok (Str.ofString "may") = .kw 10 := by decide +kernel
theorem kt_not : tok (Str.ofString "not") = .kw 12 := by decide +kernel
theorem kt_to : tok (Str.ofString "to") = .kw 17 := by decide +kernel
theorem kt_let : tok (Str.ofString "let") = .kw 9 := by decide +kernel
theorem kt_be : tok (Str.ofString "be") = .kw 2 := by decide +kernel
theorem kt_part : tok (Str.ofString "part") = .kw 13 := by decide +kernel
theorem kt_in : tok (Str.ofString "in") = .kw 8 := by decide +kernel
theorem kt_marks : ∀ z ∈ marksL, tok z = .kw 4 ∨ tok z = .kw 16 ∨ tok z = .kw 7 := by decide +kernel
theorem tok_who {z : Str} (h : whoB z = true) : tok z = .any ∨ tok z = .name := by
  unfold whoB at h
  rw [Bool.or_eq_true, decide_eq_true_eq] at h
  rcases h with h | h
  · rw [h]; exact .inl tok_any
  · exact .inr (tok_name h)
theorem formC_no {ws : List Str} (h : formC (ws.map tok) = false) : clauseW ws = .non := by
  unfold clauseW
  split
  · rename_i a b c d e f g h'
    split
    · split
      · rename_i h1 h2
        exfalso
        simp only [Bool.and_eq_true, Bool.not_eq_true', decide_eq_true_eq, decide_eq_false_iff_not, dutyB] at h1 h2
        have hb : tok b = .name := (tok_who h1.2).resolve_left fun e => h2.1.1.1.2 (tok_inj (e.trans tok_any.symm) (.inl e))
        simp only [List.map_cons, List.map_nil, formC, tok_name h1.1, hb, h2.1.1.1.1.1.1, h2.1.1.1.1.1.2, h2.1.1.1.1.2, kt_must, kt_by, kt_else, tok_name h2.1.1.2, tok_num h2.1.2, tok_name h2.2] at h
        exact absurd h (by decide)
      · rfl
    · rfl
  · rename_i a b c d e f g
    split
    · split
      · rename_i h1 h2
        exfalso
        simp only [Bool.and_eq_true, decide_eq_true_eq, banB] at h1 h2
        simp only [List.map_cons, List.map_nil, formC, tok_name h1.1, h2.1.1.1.1, h2.1.1.1.2, h2.1.1.2, kt_may, kt_not, kt_else, tok_name h2.1.2, tok_name h2.2, tok_who h1.2] at h
        exact absurd h (by decide)
      · rfl
    · rfl
  · rename_i a b c d e f
    split
    · split
      · rename_i h1 h2
        exfalso
        simp only [Bool.and_eq_true, decide_eq_true_eq, powerB] at h1 h2
        simp only [List.map_cons, List.map_nil, formC, tok_name h1.1, h2.1.1.1, h2.1.1.2, kt_by, kt_to, tok_name h2.1.2, tok_name h2.2, tok_who h1.2] at h
        exact absurd h (by decide)
      · rfl
    · rfl
  · rename_i a b c d
    split
    · split
      · rename_i h1 h2
        exfalso
        simp only [Bool.and_eq_true, decide_eq_true_eq] at h1 h2
        simp only [List.map_cons, List.map_nil, formC, tok_name h1.1, h2.1, kt_may, tok_name h2.2, tok_who h1.2] at h
        exact absurd h (by decide)
      · rfl
    · rfl
  · rfl
theorem formL_no {ws : List Str} (h : formL (ws.map tok) = false) : letW ws = .non := by
  unfold letW
  split
  · rename_i a b c d
    split
    · rename_i h1
      exfalso
      simp only [Bool.and_eq_true, decide_eq_true_eq] at h1
      simp only [List.map_cons, List.map_nil, formL, h1.1.1, h1.1.2, kt_let, kt_be, tok_name h1.2.1, tok_name h1.2.2] at h
      exact absurd h (by decide)
    · rfl
  · rfl
theorem formR_no {ws : List Str} (h : formR (ws.map tok) = false) : roomW ws = .non := by
  unfold roomW
  split
  · rename_i a b
    split
    · rename_i h1
      exfalso
      simp only [Bool.and_eq_true, decide_eq_true_eq] at h1
      simp only [List.map_cons, List.map_nil, formR, kt_marks a h1.1, tok_name h1.2] at h
      exact absurd h (by decide)
    · rfl
  · rfl
theorem formP_no {ws : List Str} (h : formP (ws.map tok) = false) : partW ws = .non := by
  unfold partW
  split
  · rename_i a b
    split
    · rename_i h1
      exfalso
      simp only [Bool.and_eq_true, decide_eq_true_eq] at h1
      simp only [List.map_cons, List.map_nil, formP, h1.1, kt_part, tok_name h1.2] at h
      exact absurd h (by decide)
    · rfl
  · rename_i a b c r
    split
    · rename_i h1
      exfalso
      simp only [Bool.and_eq_true, Bool.not_eq_true', decide_eq_true_eq, decide_eq_false_iff_not] at h1
      obtain ⟨⟨h1, h2⟩, h3⟩ := h1
      rw [namesW_c] at h3
      by_cases q : c ≠ Str.ofString "in" ∨ (12 : Int) < r.length ∨ r.all nameB = false
      · rw [if_pos q] at h3
        exact h3 rfl
      · rw [if_neg q] at h3
        have q1 : c = Str.ofString "in" := Classical.byContradiction fun z => q (.inl z)
        have q2 : ¬ (12 : Int) < r.length := fun z => q (.inr (.inl z))
        have q3 : r.all nameB = true := by
          cases z : r.all nameB with
          | true => rfl
          | false => exact absurd (.inr (.inr z)) q
        have q4 : (r.map tok).all (fun x => decide (x = .name)) = true := by
          rw [List.all_map, List.all_eq_true]
          intro x hx
          exact decide_eq_true (tok_name (List.all_eq_true.mp q3 x hx))
        have q5 : 1 ≤ (r.map tok).length ∧ (r.map tok).length ≤ 12 := by
          rw [List.length_map]
          have := List.length_pos_iff.mpr h3
          omega
        simp only [List.map_cons, formP, h1, kt_part, tok_name h2, q1, kt_in, q4, decide_eq_true q5] at h
        exact absurd h (by decide)
    · rfl
  · rfl
def formA (ts : List Tk) : Bool := formC ts || formL ts || formP ts || formR ts
theorem formA_no {ws : List Str} (h : formA (ws.map tok) = false) : clauseW ws = .non ∧ letW ws = .non ∧ partW ws = .non ∧ roomW ws = .non := by
  unfold formA at h
  simp only [Bool.or_eq_false_iff] at h
  exact ⟨formC_no h.1.1.1, formL_no h.1.1.2, formP_no h.1.2, formR_no h.2⟩
/-! numbers -/
theorem numL_head (n : Nat) (h : 1 ≤ n) : (TL.numL n).getD 0 0 ≠ 48 := by
  induction n using Nat.strongRecOn with
  | _ n ih =>
    by_cases hn : n < 10
    · rw [TL.numL_lt hn]
      show 48 + n ≠ 48
      omega
    · rw [TL.numL_step (by omega)]
      have := ih (n / 10) (by omega) (by omega)
      have hne := TL.numL_ne (n / 10)
      cases e : TL.numL (n / 10) with
      | nil => exact absurd e hne
      | cons x r =>
        rw [e] at this
        exact this
theorem numB_str {i : Int} (h : 1 ≤ i ∧ i < 100000000000000000000) : numB (Str.ofString (toString i)) = i := by
  obtain ⟨n, rfl⟩ : ∃ n : Nat, i = n := ⟨i.toNat, by omega⟩
  have e : (Str.ofString (toString (n : Int))).cps.toList = TL.numL n := TL.tl_num n
  have hl : (Str.ofString (toString (n : Int))).length = (TL.numL n).length := by rw [← e]; rfl
  have h1 := TL.numL_len (n := n) (k := 20) (by decide) (by omega)
  have h2 := List.length_pos_iff.mpr (TL.numL_ne n)
  unfold numB
  rw [if_pos]
  · rw [e]
    exact congrArg (fun n : Nat => (n : Int)) (TL.numL_val n)
  · rw [e, hl]
    refine ⟨by omega, numL_head n (by omega), fun c hc => (figL_iff c).mpr ?_⟩
    have := TL.numL_digits n c hc
    omega
end Math
namespace Math
open PySem EV Sem
local macro_rules | `(tactic| walk_at "go") => `(tactic| repeat (first
  | with_reducible refine St.run ?_
  | with_reducible refine Se.run ?_
  | (with_reducible refine gd_lft ?_; first 
        | (with_reducible refine gd_ix ?_; first 
        | with_reducible refine rl_ixI (by first | omega | (decide +kernel)) ?_ 
        | with_reducible refine rl_ixI' ?_ ?_ 
        | with_reducible refine rl_ixSk (by with_unfolding_all rfl) ?_ 
        | with_reducible refine rl_ixSs (by first | omega | (decide +kernel)) ?_ 
        | with_reducible refine rl_ixSs' ?_ ?_ 
        | with_reducible refine rl_ixZ (by omega) ?_ 
        | with_reducible refine rl_ixZ' ?_ ?_ 
        | with_reducible refine rl_ixT (by with_unfolding_all rfl) ?_ 
        | with_reducible refine rl_ixL (by with_unfolding_all rfl) ?_ 
        | with_reducible refine rl_ixO (by with_unfolding_all rfl) (by with_unfolding_all rfl) ?_) 
        | (with_reducible refine gd_add ?_; first 
        | with_reducible refine rl_addL (by decide) ?_ 
        | with_reducible refine rl_addS (by first | omega | (decide +kernel)) ?_ 
        | with_reducible refine rl_addS' ?_ ?_ 
        | with_reducible refine rl_addL' ?_ ?_) 
        | (with_reducible refine gd_int ?_; first 
        | with_reducible refine rl_mod (by decide) ?_ 
        | with_reducible refine rl_div (by decide) ?_ 
        | with_reducible refine rl_pow (by decide) ?_ 
        | with_reducible refine rl_mod (by first | omega | (decide +kernel)) ?_ 
        | with_reducible refine rl_div (by first | omega | (decide +kernel)) ?_ 
        | with_reducible refine rl_mod' ?_ ?_ 
        | with_reducible refine rl_div' ?_ ?_) 
        | (with_reducible refine gd_mul ?_; first 
        | with_reducible refine rl_mulI (Or.inr (by decide)) ?_ 
        | with_reducible refine rl_mulI (Or.inl (by decide)) ?_ 
        | with_reducible refine rl_mulI (by first | omega | (decide +kernel)) ?_ 
        | with_reducible refine rl_mulI' ?_ ?_ 
        | with_reducible refine rl_mulS' ?_ ?_) 
        | with_reducible refine rl_newF (by dsimp only [allD, Option.map] <;> exact rfl) ?_ 
        | with_reducible refine rl_append (by with_unfolding_all rfl) (by exact lt_len (by with_unfolding_all rfl)) (by dsimp only [List.set] <;> exact rfl) ?_ 
        | with_reducible refine rl_append' (by with_unfolding_all rfl) (by dsimp only [List.set] <;> exact rfl) ?_ ?_ 
        | with_reducible refine rl_splitR (by assumption) ?_ 
        | with_reducible refine rl_lenS (by first | omega | (decide +kernel)) ?_ 
        | with_reducible refine rl_lenS' ?_ ?_ 
        | with_reducible refine rl_slS (by first | omega | (decide +kernel)) ?_ 
        | with_reducible refine rl_slS' ?_ ?_ 
        | with_reducible refine rl_isi (by with_unfolding_all rfl) ?_ 
        | with_reducible refine rl_clear (by with_unfolding_all rfl) (by dsimp only [List.set] <;> exact rfl) ?_ 
        | with_reducible refine rl_inT ?_ 
        | with_reducible refine rl_inL ?_ 
        | with_reducible refine rl_ninT ?_ 
        | with_reducible refine rl_ninL ?_ 
        | with_reducible refine rl_newKO (by dsimp only [List.length_cons, List.length_nil, Nat.reduceAdd] <;> exact rfl) (by dsimp only [List.cons_append, List.nil_append] <;> exact rfl) ?_ 
        | with_reducible refine rl_dclear (by with_unfolding_all rfl) (by dsimp only [List.set] <;> exact rfl) ?_ 
        | with_reducible refine rl_newO (by dsimp only [List.length_cons, List.length_nil, Nat.reduceAdd] <;> exact rfl) (by dsimp only [List.cons_append, List.nil_append] <;> exact rfl) ?_)
  | (with_reducible refine gd_ite ?_; first 
        | with_reducible refine rb_iteDT rfl ?_ 
        | with_reducible refine rb_iteDnT rfl ?_ 
        | with_reducible refine rb_iteP (by decide) ?_ 
        | with_reducible refine rb_iteN (by decide) ?_)
  | with_reducible refine rb_asgT rfl (by dsimp only [setAll, List.map, List.set] <;> exact rfl) ?_
  | with_reducible refine rb_lstK (by exact Nat.le_of_ble_eq_true (by with_unfolding_all rfl)) ?_
  | with_reducible refine rb_bmK (by with_unfolding_all rfl) ?_
  | with_reducible refine rb_wip (by dsimp only [wipeO, List.set] <;> exact rfl) ?_
  | with_reducible refine rb_fldD (by with_unfolding_all rfl) ?_
  | with_reducible refine rb_fldK (by with_unfolding_all rfl) (by with_unfolding_all rfl) ?_
  | with_reducible refine rb_methK (by with_unfolding_all rfl) (by with_unfolding_all rfl) ?_
  | with_reducible refine rl_sfld (by with_unfolding_all rfl) (by with_unfolding_all rfl) (by dsimp [List.set, fput] <;> exact rfl) ?_
  | with_reducible refine rb_isD (by first | assumption | with_unfolding_all rfl) ?_
  | with_reducible refine rb_ren (by assumption) ?_
  | with_reducible refine rb_ren dct_sw ?_
  | with_reducible refine rb_treesK (by dsimp only [allD, Option.map] <;> exact rfl) ?_
  | with_reducible refine rb_tupK (by exact Nat.le_of_ble_eq_true (by with_unfolding_all rfl)) ?_
  | with_reducible refine rb_rg1 (by first | omega | (decide +kernel)) ?_
  | with_reducible refine rb_rg2 (by first | omega | (decide +kernel)) ?_
  | with_reducible refine rb_gPe (by dsimp only [allD, Option.map] <;> exact rfl) rfl (by assumption) ?_
  | with_reducible refine rb_gO (by dsimp only [allD, Option.map] <;> exact rfl) rfl (by assumption) (by dsimp only [List.length_cons, List.length_nil, Nat.reduceAdd] <;> exact rfl) (by dsimp only [List.cons_append, List.nil_append] <;> exact rfl) ?_))
local macro_rules | `(tactic| walk_at "len") => `(tactic| first
  | omega
  | (decide +kernel)
  | grind [L2.cutS_length, Str.length_append, chr1_len])
local macro_rules | `(tactic| walk_at "ok") => `(tactic| first
  | with_reducible assumption
  | ((with_reducible refine okS_app ?_ ?_) <;> walk_at "ok")
  | ((with_reducible refine okS_cut ?_) <;> walk_at "ok")
  | ((with_reducible refine okS_num ?_) <;> omega)
  | ((with_reducible refine okS_chr ?_) <;> omega)
  | (decide +kernel))
local macro_rules | `(tactic| walk_at "br") => `(tactic| first
  | with_reducible refine rb_iteDn (fun h1 => ?_) fun h1 => ?_
  | with_reducible refine rb_iteD (fun h1 => ?_) fun h1 => ?_
  | with_reducible refine rb_ite (fun h1 => ?_) fun h1 => ?_
  | refine rb_mkK rfl ?_)
local macro_rules | `(tactic| walk_at "known") => `(tactic| repeat' (first | (with_reducible refine rb_iteP rfl ?_; walk_at "go") | (with_reducible refine rb_iteN rfl ?_; walk_at "go")))
theorem ins_at {st : Store} {r c : Nat} {ks : List Nat} {ws : List W} (e : st[r]? = some (some (.ins c ks ws))) : insW st (.loc r) = some (c, ks, ws) := by
  unfold insW
  simp only [e]
theorem cls_of {st : Store} {r c : Nat} {ks : List Nat} {ws : List W} (e : st[r]? = some (some (.ins c ks ws))) : clsOf st (.loc r) = some c := by
  unfold clsOf
  simp only [e]
theorem dct_at {st : Store} {n : Nat} {ks : List L2.Key} {ws : List W} (e : st[n]? = some (some (.dct ks ws))) : dctW st (.loc n) = some (ks, ws) := by
  unfold dctW
  simp only [e]
theorem lst_is {st : Store} {n : Nat} {ws : List W} (e : st[n]? = some (some (.lst ws))) : tyIs "list" st (.loc n) = true := by
  unfold tyIs
  simp only [e]
  rfl
theorem put_new {ks : List L2.Key} {ws : List W} {q : L2.Key} {y : W} (hl : ks.length = ws.length) (h : ¬ q ∈ ks) : putW ks ws q y = (ks ++ [q], ws ++ [y]) := by
  unfold putW putG
  rw [if_neg]
  · simp only [List.map_append, List.map_cons, List.map_nil]
    rw [List.map_fst_zip (by omega), List.map_snd_zip (by omega)]
  · rw [List.any_eq_true]
    rintro ⟨⟨k, w⟩, h1, h2⟩
    exact h (by rw [← of_decide_eq_true h2]; exact (List.of_mem_zip h1).1)
theorem is_new_ok {st : Store} {self : W} {n : Nat} {z : Str} {ks : List L2.Key} {ws : List W} (e : st[n]? = some (some (.dct ks ws))) (hl : ks.length = ws.length) (hb : ks.length < 16777216) :
    ∃ w st', bodyF 3 b_Reading_is_new [self, .loc n, .d (.str z)] st = some (.ok w, st') ∧ (w = .d (.bl (!decide ((Sum.inr z : L2.Key) ∈ ks))) ∧ st' = if (Sum.inr z : L2.Key) ∈ ks then st else st.set n (some (.dct (ks ++ [.inr z]) (ws ++ [.d (.bl true)])))) := by
  refine ff_run [some self, some (.loc n), some (.d (.str z))] rfl ?_
  unfold b_Reading_is_new
  walk_at "go"
  refine rl_inD (dct_at e) rfl ?_
  by_cases h : (Sum.inr z : L2.Key) ∈ ks
  · obtain ⟨w, hw⟩ := val_some hl h
    rw [hw]
    walk_at "go"
    walk_at "known"
    rw [if_pos h]
    exact ⟨by rw [decide_eq_true h]; rfl, rfl⟩
  · rw [val_none h]
    walk_at "go"
    walk_at "known"
    refine rl_putD e rfl hb rfl ?_
    walk_at "go"
    rw [if_neg h, put_new hl h]
    exact ⟨by rw [decide_eq_false h]; rfl, rfl⟩
/-- fresh names -/
def Fresh (ks : List L2.Key) (zs : List Str) : Prop := zs.Nodup ∧ ∀ z ∈ zs, ¬ (Sum.inr z : L2.Key) ∈ ks
def rdO (p a o s h l : Nat) : OO := .ins 20 [9, 10, 7, 16, 17, 18] [.loc p, .loc a, .loc o, .loc s, .loc h, .loc l]
theorem take_names_ok {st : Store} {r x p a o s h l : Nat} {ks : List L2.Key} {ws : List W} {cur zs : List Str} (er : st[r]? = some (some (rdO p a o s h l))) (ex : st[x]? = some (some (.lst (sw cur)))) (eh : st[h]? = some (some (.dct ks ws))) (hl : ks.length = ws.length)
    (hxh : x ≠ h) (hrx : r ≠ x) (hrh : r ≠ h) (hz : ∀ z ∈ zs, okS z) (b1 : ks.length + zs.length < 16777216) (b2 : cur.length + zs.length < 16777216) :
    ∃ w st', bodyF 4 b_Reading_take_names [.loc r, .d (strs' zs), .loc x] st = some (.ok w, st') ∧ ∃ b : Bool, w = .d (.bl b) ∧ (b = true ↔ zs ≠ [] ∧ Fresh ks zs) ∧
      (b = true → st'[x]? = some (some (.lst (sw (cur ++ zs)))) ∧ (∃ ws', st'[h]? = some (some (.dct (ks ++ zs.map .inr) ws')) ∧ (ks ++ zs.map (Sum.inr : Str → L2.Key)).length = ws'.length) ∧ st'.length = st.length ∧ ∀ k, k ≠ x → k ≠ h → st'[k]? = st[k]?) := by
  refine ff_run [some (.loc r), some (.d (strs' zs)), some (.loc x), none] rfl ?_
  unfold b_Reading_take_names
  walk_at "go"
  refine rb_loop (f := D.str) (fun l' s' => ∃ st1 y pre ws1, zs = pre ++ l' ∧ s' = ⟨[some (.loc r), some (.d (strs' zs)), some (.loc x), y], st1⟩ ∧ (∀ k, k ≠ x → k ≠ h → st1[k]? = st[k]?) ∧ st1[x]? = some (some (.lst (sw (cur ++ pre)))) ∧ st1[h]? = some (some (.dct (ks ++ pre.map .inr) ws1)) ∧ (ks ++ pre.map (Sum.inr : Str → L2.Key)).length = ws1.length ∧ Fresh ks pre ∧ st1.length = st.length) ?_ ?_ _ _ ⟨st, none, [], ws, rfl, rfl, fun _ _ _ => rfl, by rw [List.append_nil]; exact ex, by rw [List.map_nil, List.append_nil]; exact eh, by rw [List.map_nil, List.append_nil]; exact hl, ⟨.nil, fun _ h => nomatch h⟩, rfl⟩
  · rintro z l' s' ⟨st1, y, pre, ws1, ez, rfl, k1, k2, k3, k4, k5, k6⟩
    have er1 := (k1 r hrx hrh).trans er
    have bl : pre.length < zs.length := by rw [ez]; simp
    walk_at "go"
    refine rb_methK (cls_of er1) rfl ?_
    walk_at "go"
    refine rb_fldK (ins_at er1) rfl ?_
    walk_at "go"
    refine rb_gF rfl (is_new_ok k3 k4 (by rw [List.length_append, List.length_map]; omega)) ?_
    rintro w st2 ⟨rfl, rfl⟩
    by_cases hm : (Sum.inr z : L2.Key) ∈ ks ++ pre.map .inr
    · rw [if_pos hm, decide_eq_true hm]
      walk_at "go"
      walk_at "known"
      refine ⟨false, rfl, ⟨fun q => (nomatch q), fun q => ?_⟩, fun q => (nomatch q)⟩
      exfalso
      obtain ⟨_, q1, q2⟩ := q
      rcases List.mem_append.mp hm with hm | hm
      · exact q2 z (by rw [ez]; simp) hm
      · obtain ⟨z', hz', e⟩ := List.mem_map.mp hm
        cases e
        rw [ez] at q1
        exact (List.nodup_append.mp q1).2.2 z hz' z (by simp) rfl
    · rw [if_neg hm, decide_eq_false hm]
      have hh : h < st1.length := (List.getElem?_eq_some_iff.mp k3).1
      have hx : x < st1.length := (List.getElem?_eq_some_iff.mp k2).1
      have k2' := (set_get (o := some (.dct (ks ++ pre.map .inr ++ [.inr z]) (ws1 ++ [.d (.bl true)]))) (Ne.symm hxh)).trans k2
      walk_at "go"
      walk_at "known"
      refine rb_bmK (lst_is k2') ?_
      walk_at "go"
      refine rl_append k2' (by rw [sw_len, List.length_append]; omega) rfl ?_
      walk_at "go"
      refine ⟨_, _, pre ++ [z], ws1 ++ [.d (.bl true)], by rw [ez]; simp, rfl, fun k q1 q2 => ?_, ?_, ?_, by simp at k4 ⊢; omega, ⟨?_, fun z' hz' => ?_⟩, by simp [k6]⟩
      · rw [set_get (Ne.symm q1), set_get (Ne.symm q2)]
        exact k1 k q1 q2
      · rw [List.getElem?_set_self (by rw [List.length_set]; exact hx), sw_snoc, List.append_assoc]
      · rw [set_get hxh, List.getElem?_set_self hh]
        simp
      · refine List.nodup_append.mpr ⟨k5.1, by simp, fun a' ha' b' hb' e => hm ?_⟩
        have hb' : b' = z := by simpa using hb'
        subst hb' e
        exact List.mem_append_right _ (List.mem_map.mpr ⟨_, ha', rfl⟩)
      · rcases List.mem_append.mp hz' with q | q
        · exact k5.2 z' q
        · rw [List.mem_singleton.mp q]
          exact fun q => hm (List.mem_append_left _ q)
  · rintro s' ⟨st1, y, pre, ws1, ez, rfl, k1, k2, k3, k4, k5, k6⟩
    rw [List.append_nil] at ez
    subst ez
    walk_at "go"
    refine rl_neSs (ys := []) hz (fun _ h => nomatch h) ?_
    walk_at "go"
    refine ⟨!decide (zs = []), rfl, ⟨fun q => ⟨by simpa using q, k5⟩, fun q => by simpa using q.1⟩, fun _ => ⟨k2, ⟨ws1, k3, k4⟩, k6, k1⟩⟩
theorem part_init {st : Store} {b : Str} {rooms : List Str} : ∃ w st1, bodyF 4 b_Part__init (.loc st.length :: ([.d (.str b), .d (strs' rooms), .d (.lst [])] ++ [])) (st ++ [some (.ins 7 [] [])]) = some (.ok w, st1) ∧ (w = .d .non ∧ st1 = st ++ [some (ptO b (st.length + 1) (st.length + 2)), some (.lst (sw rooms)), some (.lst [])]) := by
  refine ff_run [some (.loc st.length), some (.d (.str b)), some (.d (strs' rooms)), some (.d (.lst []))] rfl ?_
  unfold b_Part__init
  walk_at "go"
  refine rl_sfld get_end rfl set_end ?_
  walk_at "go"
  refine rl_listTO (ds := rooms.map .str) (n := st.length + 1) (by simp) (List.append_assoc _ _ _) ?_
  walk_at "go"
  refine rl_sfld get_end rfl set_end ?_
  walk_at "go"
  refine rl_listTO (ds := []) (n := st.length + 2) (by simp) (List.append_assoc _ _ _) ?_
  walk_at "go"
  refine rl_sfld get_end rfl set_end ?_
  walk_at "go"
  refine ⟨rfl, ?_⟩
  have e : (rooms.map D.str).map W.d = sw rooms := by rw [List.map_map]; rfl
  rw [e]
  rfl
theorem part_deep {ws : List Str} {st : Store} (ok : okW ws) (hs : ∀ w ∈ ws, okS w) : ∃ w st', bodyF 3 b_part_of [.d (.str (rowJ ws))] st = some (.ok w, st') ∧
    ((partW ws = .non ∧ w = .d .non ∧ st' = st) ∨ ∃ name rooms, partW ws = partD name rooms [] ∧ nameB name = true ∧ w = .loc st.length ∧ st' = st ++ [some (ptO name (st.length + 1) (st.length + 2)), some (.lst (sw rooms)), some (.lst [])]) := by
  refine ff_run [some (.d (.str (rowJ ws))), none, none] rfl ?_
  unfold b_part_of
  rw [show g_MOST_ROOMS = D.int 12 from rfl]
  walk_at "go"
  have ol := fun w hw => (ok.2.2 w hw).1
  rcases ws with _ | ⟨a, _ | ⟨b, _ | ⟨c, r⟩⟩⟩
  · exact absurd rfl ok.1
  · refine rb_iteP rfl ?_
    walk_at "go"
    exact .inl ⟨rfl, rfl, rfl⟩
  · have nb := is_name_ok b (Nat.le_trans (ol b (by simp)) (by decide))
    clear ok
    refine rb_iteN rfl ?_
    walk_at "go"
    refine rb_iteDn (fun h1 => ?_) fun h1 => ?_
    · walk_at "go"
      exact .inl ⟨if_neg (by simp [h1]), rfl, rfl⟩
    walk_at "go"
    refine rb_ite (fun h2 => ?_) fun h2 => ?_
    · walk_at "go"
      exact .inl ⟨if_neg (by simp at h2; simp [h2]), rfl, rfl⟩
    have h2 : nameB b = true := by simpa using h2
    walk_at "go"
    try (refine rb_iteP rfl ?_; walk_at "go")
    refine rl_mkOK rfl rfl (part_init (rooms := [])) ?_
    walk_at "go"
    exact .inr ⟨b, [], if_pos (by simp [h1, h2]), h2, rfl, rfl⟩
  · have nb := is_name_ok b (Nat.le_trans (ol b (by simp)) (by decide))
    have ok2 : okW (c :: r) := ⟨by simp, by have := ok.2.1; simp at this ⊢; omega, fun w hw => ok.2.2 w (by simp at hw ⊢; exact .inr (.inr hw))⟩
    have nn := names_ok (Str.ofString "in") 12 ok2
    have ec : cutW (a :: b :: c :: r) (some 2) none = c :: r := cut_from (a := 2)
    refine rb_iteN (by rw [decide_eq_false_iff_not]; simp; omega) ?_
    walk_at "go"
    refine rb_iteDn (fun h1 => ?_) fun h1 => ?_
    · walk_at "go"
      exact .inl ⟨if_neg (by simp [h1]), rfl, rfl⟩
    walk_at "go"
    refine rb_ite (fun h2 => ?_) fun h2 => ?_
    · walk_at "go"
      exact .inl ⟨if_neg (by simp at h2; simp [h2]), rfl, rfl⟩
    have h2 : nameB b = true := by simpa using h2
    walk_at "go"
    refine rb_iteN (by rw [decide_eq_false_iff_not]; simp; omega) ?_
    walk_at "go"
    rw [ec]
    refine rl_joinR ok2 ?_
    walk_at "go"
    have hn : ∀ w ∈ namesW (c :: r) (Str.ofString "in") 12, okS w := fun w hw => by
      rw [namesW_c] at hw
      split at hw
      · cases hw
      · exact hs w (by simp; exact .inr (.inr (.inr hw)))
    refine rl_eqSs (ys := []) hn (fun _ h => nomatch h) ?_
    walk_at "go"
    refine rb_iteD (fun h3 => ?_) fun h3 => ?_
    · walk_at "go"
      exact .inl ⟨if_neg (by simp [h3]), rfl, rfl⟩
    · walk_at "go"
      refine rl_mkOK rfl rfl part_init ?_
      walk_at "go"
      exact .inr ⟨b, _, if_pos (by simp [h1, h2, h3]), h2, rfl, rfl⟩
/-- what has been told -/
structure Md where
  parties : List Str
  acts : List Str
  rooms : List D
  hdr : List L2.Key
  lab : List L2.Key
  frs : List Fr
structure Rd (st : Store) (r : Nat) (M : Md) (p a o s h l : Nat) (ms fp : List Nat) (m : Nat) : Prop where
  er : st[r]? = some (some (rdO p a o s h l))
  ep : st[p]? = some (some (.lst (sw M.parties)))
  ea : st[a]? = some (some (.lst (sw M.acts)))
  eo : st[o]? = some (some (.lst (M.rooms.map .d)))
  es : st[s]? = some (some (.lst (ms.map .loc)))
  eh : ∃ ws, st[h]? = some (some (.dct M.hdr ws)) ∧ M.hdr.length = ws.length
  el : ∃ ws, st[l]? = some (some (.dct M.lab ws)) ∧ M.lab.length = ws.length
  op : Opn st 6 ms fp m M.frs
  nd : ([r, p, a, o, s, h, l] ++ fp).Nodup
/-- how much has been told, at most -/
structure Bn (M : Md) (B : Nat) : Prop where
  b1 : M.parties.length ≤ B
  b2 : M.acts.length ≤ B
  b3 : M.rooms.length ≤ B
  b4 : M.hdr.length ≤ B
  b5 : M.lab.length ≤ B
  b6 : ∀ f ∈ M.frs, f.2.2.length ≤ B
section
variable {st : Store} {r p a o s h l m : Nat} {ms fp : List Nat} {M : Md}
theorem Rd.pre (R : Rd st r M p a o s h l ms fp m) : [r, p, a, o, s, h, l].Nodup := (List.nodup_append.mp R.nd).1
theorem Rd.fpn (R : Rd st r M p a o s h l ms fp m) : fp.Nodup := (List.nodup_append.mp R.nd).2.1
theorem take_done_ok (R : Rd st r M p a o s h l ms fp m) : ∃ w st', bodyF 1 b_Reading_take_done [.loc r] st = some (.ok w, st') ∧ ∃ b : Bool, w = .d (.bl b) ∧ (b = true ↔ ¬ M.frs.length = 1) ∧
    (b = true → ∃ (f0 : List Fr) (n1 : Str) (r1 : List Str) (d1 : List D) (n2 : Str) (r2 : List Str) (d2 : List D), M.frs = f0 ++ [(n1, r1, d1), (n2, r2, d2)] ∧ ∃ ms', Rd st' r { M with frs := f0 ++ [(n1, r1, d1 ++ [ptD n2 r2 d2])] } p a o s h l ms' fp m) := by
  refine ff_run [some (.loc r)] rfl ?_
  unfold b_Reading_take_done
  walk_at "go"
  refine rb_fldK (ins_at R.er) rfl ?_
  walk_at "go"
  refine rl_lenO R.es ?_
  rw [List.length_map]
  walk_at "go"
  have hl := R.op.lens
  refine rb_iteD (fun h1 => ?_) fun h1 => ?_
  · walk_at "go"
    exact ⟨false, rfl, ⟨fun q => (nomatch q), fun q => absurd (by omega) q⟩, fun q => (nomatch q)⟩
  · obtain ⟨frs0, name, rooms, rows, mt, a', b', items, ms0, e1, e2, _⟩ := R.op.last R.fpn
    have hm0 : ms0 ≠ [] := fun z => by rw [z] at e2; rw [e2] at h1; simp at h1
    have hf0 : frs0 ≠ [] := fun z => by
      rw [z] at e1
      have h3 := hl.1
      rw [e2, e1] at h3
      simp only [List.length_append, List.length_cons, List.length_nil] at h3
      exact hm0 (List.eq_nil_of_length_eq_zero (by omega))
    obtain ⟨f0, ⟨n1, r1, d1⟩, rfl⟩ : ∃ f0 x, frs0 = f0 ++ [x] := ⟨_, _, (List.dropLast_concat_getLast hf0).symm⟩
    have hs : s < st.length := (List.getElem?_eq_some_iff.mp R.es).1
    walk_at "go"
    refine rb_fldK (ins_at R.er) rfl ?_
    refine rb_bmK (lst_is R.es) ?_
    walk_at "go"
    refine rb_lft (a := .loc mt) (st' := st.set s (some (.lst (ms0.map .loc)))) ?_ ?_
    · unfold popW wrL
      simp only [R.es]
      rw [e2]
      simp
    walk_at "go"
    refine ⟨true, rfl, ⟨fun _ q => h1 (by omega), fun _ => rfl⟩, fun _ => ⟨f0, n1, r1, d1, name, rooms, rows, by rw [e1]; simp, ms0, ?_⟩⟩
    have fr : ∀ k, s ≠ k → (st.set s (some (.lst (ms0.map W.loc))))[k]? = st[k]? := fun k q => set_get q
    obtain ⟨hw, eh, eh2⟩ := R.eh
    obtain ⟨lw, el, el2⟩ := R.el
    have q0 := R.op.frame (st' := st.set s (some (.lst (ms0.map .loc)))) fun k hk => fr k (nd_in R.nd (by simp) hk)
    rw [e1, e2, List.append_assoc] at q0
    exact {
      er := (fr r (nd_ne R.pre 4 0 (by decide) rfl rfl)).trans R.er
      ep := (fr p (nd_ne R.pre 4 1 (by decide) rfl rfl)).trans R.ep
      ea := (fr a (nd_ne R.pre 4 2 (by decide) rfl rfl)).trans R.ea
      eo := (fr o (nd_ne R.pre 4 3 (by decide) rfl rfl)).trans R.eo
      es := List.getElem?_set_self hs
      eh := ⟨hw, (fr h (nd_ne R.pre 4 5 (by decide) rfl rfl)).trans eh, eh2⟩
      el := ⟨lw, (fr l (nd_ne R.pre 4 6 (by decide) rfl rfl)).trans el, el2⟩
      op := q0.close
      nd := R.nd }
theorem take_room_ok {mark name : Str} {B : Nat} (R : Rd st r M p a o s h l ms fp m) (hB : Bn M B) (hb : B < 10000) (h0 : ∀ n1 r1 d1, M.frs = [(n1, r1, d1)] → d1 = []) : ∃ w st', bodyF 2 b_Reading_take_room [.loc r, .d (.tup [.str mark, .str name])] st = some (.ok w, st') ∧ ∃ b : Bool, w = .d (.bl b) ∧
    (b = true ↔ M.frs.length = 1 ∧ ¬ M.rooms.length = 12 ∧ ¬ (Sum.inr name : L2.Key) ∈ M.hdr) ∧
    (b = true → Rd st' r { M with rooms := M.rooms ++ [.tup [.str mark, .str name]], hdr := M.hdr ++ [.inr name] } p a o s h l ms fp m) := by
  refine ff_run [some (.loc r), some (.d (.tup [.str mark, .str name]))] rfl ?_
  unfold b_Reading_take_room
  rw [show g_MOST_ROOMS = D.int 12 from rfl]
  walk_at "go"
  refine rb_fldK (ins_at R.er) rfl ?_
  walk_at "go"
  refine rl_lenO R.es ?_
  rw [List.length_map]
  walk_at "go"
  have hl := R.op.lens
  obtain ⟨mr, em⟩ := R.op.head
  refine rb_iteD (fun h1 => ?_) fun h1 => ?_
  · walk_at "go"
    exact ⟨false, rfl, ⟨fun q => (nomatch q), fun q => absurd q.1 (by omega)⟩, fun q => (nomatch q)⟩
  have hm1 : M.frs.length = 1 := by
    have : ms.length = mr.length + 1 := by rw [em]; rfl
    omega
  obtain ⟨⟨n1, r1, d1⟩, ef⟩ : ∃ f, M.frs = [f] := by
    match hq : M.frs, hm1 with
    | [f], _ => exact ⟨f, rfl⟩
  have hd1 := h0 n1 r1 d1 ef
  subst hd1
  obtain ⟨frs0, name', rooms', rows', mt, a', b', items, ms0, e1, e2, e3, e4, hbfp, hmfp, _⟩ := R.op.last R.fpn
  have hmr : mr = [] := by
    have : ms.length = mr.length + 1 := by rw [em]; rfl
    exact List.eq_nil_of_length_eq_zero (by omega)
  subst hmr
  have hmt : mt = m := by
    rw [em] at e2
    have := congrArg List.getLast? e2
    simpa using this.symm
  subst hmt
  have hit : items = [] := by
    have op := R.op
    rw [ef] at op
    cases op with
    | top q1 q2 q3 t =>
      have := t.lens
      rw [e3] at q1
      cases q1
      rw [e4] at q3
      cases q3
      exact List.eq_nil_of_length_eq_zero this
    | more _ _ _ _ o' =>
      obtain ⟨_, z⟩ := o'.head
      have := o'.lens
      rw [z] at this
      simp at this
  subst hit
  walk_at "go"
  refine rb_fldK (ins_at R.er) rfl ?_
  walk_at "go"
  refine rl_ixO R.es (by rw [em]; rfl) ?_
  walk_at "go"
  refine rb_fldK (ins_at e3) rfl ?_
  walk_at "go"
  refine rl_neO (ds := []) (n := 1) e4 rfl (okN_lst okNs_nil) (by decide) ?_
  walk_at "go"
  refine rb_fldK (ins_at R.er) rfl ?_
  walk_at "go"
  refine rl_lenO R.eo ?_
  rw [List.length_map]
  walk_at "go"
  refine rb_iteD (fun h2 => ?_) fun h2 => ?_
  · walk_at "go"
    exact ⟨false, rfl, ⟨fun q => (nomatch q), fun q => absurd q.2.1 (by omega)⟩, fun q => (nomatch q)⟩
  have ho : o < st.length := (List.getElem?_eq_some_iff.mp R.eo).1
  obtain ⟨hw, eh, eh2⟩ := R.eh
  obtain ⟨lw, el, el2⟩ := R.el
  have hh : h < st.length := (List.getElem?_eq_some_iff.mp eh).1
  have fr : ∀ {w : Option OO} k, o ≠ k → (st.set o w)[k]? = st[k]? := fun k q => set_get q
  have b3 := hB.b3
  have b4 := hB.b4
  walk_at "go"
  refine rb_fldK (ins_at R.er) rfl ?_
  refine rb_bmK (lst_is R.eo) ?_
  walk_at "go"
  refine rl_append R.eo (by rw [List.length_map]; omega) rfl ?_
  have er2 := (fr (w := some (.lst (M.rooms.map W.d ++ [.d (.tup [.str mark, .str name])]))) r (nd_ne R.pre 3 0 (by decide) rfl rfl)).trans R.er
  have eh3 := (fr (w := some (.lst (M.rooms.map W.d ++ [.d (.tup [.str mark, .str name])]))) h (nd_ne R.pre 3 5 (by decide) rfl rfl)).trans eh
  walk_at "go"
  refine rb_methK (cls_of er2) rfl ?_
  walk_at "go"
  refine rb_fldK (ins_at er2) rfl ?_
  walk_at "go"
  refine rb_gF rfl (is_new_ok eh3 eh2 (by omega)) ?_
  rintro w st2 ⟨rfl, rfl⟩
  by_cases hn : (Sum.inr name : L2.Key) ∈ M.hdr
  · rw [if_pos hn, decide_eq_true hn]
    walk_at "go"
    exact ⟨false, rfl, ⟨fun q => (nomatch q), fun q => absurd hn q.2.2⟩, fun q => (nomatch q)⟩
  · rw [if_neg hn, decide_eq_false hn]
    walk_at "go"
    refine ⟨true, rfl, ⟨fun _ => ⟨hm1, by omega, hn⟩, fun _ => rfl⟩, fun _ => ?_⟩
    have fr2 : ∀ {w w' : Option OO} k, o ≠ k → h ≠ k → ((st.set o w).set h w')[k]? = st[k]? := fun k q q' => (set_get q').trans (set_get q)
    exact {
      er := (fr2 r (nd_ne R.pre 3 0 (by decide) rfl rfl) (nd_ne R.pre 5 0 (by decide) rfl rfl)).trans R.er
      ep := (fr2 p (nd_ne R.pre 3 1 (by decide) rfl rfl) (nd_ne R.pre 5 1 (by decide) rfl rfl)).trans R.ep
      ea := (fr2 a (nd_ne R.pre 3 2 (by decide) rfl rfl) (nd_ne R.pre 5 2 (by decide) rfl rfl)).trans R.ea
      eo := (set_get (nd_ne R.pre 5 3 (by decide) rfl rfl)).trans ((List.getElem?_set_self ho).trans (by rw [List.map_append]; rfl))
      es := (fr2 s (nd_ne R.pre 3 4 (by decide) rfl rfl) (nd_ne R.pre 5 4 (by decide) rfl rfl)).trans R.es
      eh := ⟨_, List.getElem?_set_self (by rw [List.length_set]; exact hh), by simp [eh2]⟩
      el := ⟨lw, (fr2 l (nd_ne R.pre 3 6 (by decide) rfl rfl) (nd_ne R.pre 5 6 (by decide) rfl rfl)).trans el, el2⟩
      op := R.op.frame fun k hk => fr2 k (nd_in R.nd (by simp) hk) (nd_in R.nd (by simp) hk)
      nd := R.nd }
end
section
variable {st : Store} {r p a o s h l m : Nat} {ms fp : List Nat} {M : Md}
theorem Rd.ext (R : Rd st r M p a o s h l ms fp m) (xs : Store) : Rd (st ++ xs) r M p a o s h l ms fp m := by
  obtain ⟨hw, eh, eh2⟩ := R.eh
  obtain ⟨lw, el, el2⟩ := R.el
  exact ⟨get_old R.er, get_old R.ep, get_old R.ea, get_old R.eo, get_old R.es, ⟨hw, get_old eh, eh2⟩, ⟨lw, get_old el, el2⟩, R.op.frame fun k hk => by
    rw [List.getElem?_append_left (R.op.lt k hk)], R.nd⟩
theorem Rd.lts (R : Rd st r M p a o s h l ms fp m) : ∀ k ∈ [r, p, a, o, s, h, l] ++ fp, k < st.length := by
  intro k hk
  obtain ⟨hw, eh, eh2⟩ := R.eh
  obtain ⟨lw, el, el2⟩ := R.el
  rcases List.mem_append.mp hk with hk | hk
  · simp only [List.mem_cons, List.not_mem_nil, or_false] at hk
    rcases hk with rfl | rfl | rfl | rfl | rfl | rfl | rfl
    · exact (List.getElem?_eq_some_iff.mp R.er).1
    · exact (List.getElem?_eq_some_iff.mp R.ep).1
    · exact (List.getElem?_eq_some_iff.mp R.ea).1
    · exact (List.getElem?_eq_some_iff.mp R.eo).1
    · exact (List.getElem?_eq_some_iff.mp R.es).1
    · exact (List.getElem?_eq_some_iff.mp eh).1
    · exact (List.getElem?_eq_some_iff.mp el).1
  · exact R.op.lt k hk
theorem at_last {ms0 : List Nat} {mt : Nat} : L2.atI ((ms0 ++ [mt]).map W.loc) (-1) = some (.loc mt) := by
  unfold L2.atI
  have : L2.ixN ((ms0 ++ [mt]).map W.loc).length (-1) = some ms0.length := by
    unfold L2.ixN
    rw [if_neg (by decide), List.length_map, List.length_append]
    simp
    omega
  rw [this]
  simp
theorem take_part_ok {name : Str} {rooms : List Str} {B : Nat} (R : Rd st r M p a o s h l ms fp m) (hB : Bn M B) (hb : B < 10000) :
    ∃ w st', bodyF 2 b_Reading_take_part [.loc r, .loc st.length] (st ++ [some (ptO name (st.length + 1) (st.length + 2)), some (.lst (sw rooms)), some (.lst [])]) = some (.ok w, st') ∧ ∃ b : Bool, w = .d (.bl b) ∧
    (b = true ↔ M.frs.length ≤ 6 ∧ ¬ (Sum.inr name : L2.Key) ∈ M.lab) ∧
    (b = true → Rd st' r { M with lab := M.lab ++ [.inr name], frs := M.frs ++ [(name, rooms, [])] } p a o s h l (ms ++ [st.length]) (fp ++ [st.length, st.length + 1, st.length + 2]) m) := by
  refine ff_run [some (.loc r), some (.loc st.length)] rfl ?_
  unfold b_Reading_take_part
  rw [show g_MOST_DEPTH = D.int 6 from rfl]
  have R1 := R.ext [some (ptO name (st.length + 1) (st.length + 2)), some (.lst (sw rooms)), some (.lst [])]
  have hlts := R.lts
  have hlen : (st ++ [some (ptO name (st.length + 1) (st.length + 2)), some (OO.lst (sw rooms)), some (.lst [])]).length = st.length + 3 := by simp
  have g1 : (st ++ [some (ptO name (st.length + 1) (st.length + 2)), some (OO.lst (sw rooms)), some (.lst [])])[st.length]? = some (some (ptO name (st.length + 1) (st.length + 2))) := get_end
  have g2 : (st ++ [some (ptO name (st.length + 1) (st.length + 2)), some (OO.lst (sw rooms)), some (.lst [])])[st.length + 1]? = some (some (.lst (sw rooms))) := get_end1
  have g3 : (st ++ [some (ptO name (st.length + 1) (st.length + 2)), some (OO.lst (sw rooms)), some (.lst [])])[st.length + 2]? = some (some (.lst [])) := get_end2
  revert R1 hlen g1 g2 g3
  generalize st ++ [some (ptO name (st.length + 1) (st.length + 2)), some (OO.lst (sw rooms)), some (.lst [])] = st1
  intro R1 hlen g1 g2 g3
  have hl := R1.op.lens
  walk_at "go"
  refine rb_fldK (ins_at R1.er) rfl ?_
  walk_at "go"
  refine rl_lenO R1.es ?_
  rw [List.length_map]
  walk_at "go"
  refine rb_iteD (fun h1 => ?_) fun h1 => ?_
  · walk_at "go"
    exact ⟨false, rfl, ⟨fun q => (nomatch q), fun q => absurd q.1 (by omega)⟩, fun q => (nomatch q)⟩
  obtain ⟨hw, eh, eh2⟩ := R1.eh
  obtain ⟨lw, el, el2⟩ := R1.el
  have hll : l < st1.length := (List.getElem?_eq_some_iff.mp el).1
  have b5 := hB.b5
  walk_at "go"
  refine rb_methK (cls_of R1.er) rfl ?_
  walk_at "go"
  refine rb_fldK (ins_at R1.er) rfl ?_
  walk_at "go"
  refine rb_fldK (ins_at g1) rfl ?_
  walk_at "go"
  refine rb_gF rfl (is_new_ok el el2 (by omega)) ?_
  rintro w st2 ⟨rfl, rfl⟩
  by_cases hn : (Sum.inr name : L2.Key) ∈ M.lab
  · rw [if_pos hn, decide_eq_true hn]
    walk_at "go"
    walk_at "known"
    exact ⟨false, rfl, ⟨fun q => (nomatch q), fun q => absurd hn q.2⟩, fun q => (nomatch q)⟩
  rw [if_neg hn, decide_eq_false hn]
  have fl : ∀ k, l ≠ k → (st1.set l (some (.dct (M.lab ++ [.inr name]) (lw ++ [.d (.bl true)]))))[k]? = st1[k]? := fun k q => set_get q
  have efl : (st1.set l (some (OO.dct (M.lab ++ [.inr name]) (lw ++ [.d (.bl true)]))))[l]? = some (some (.dct (M.lab ++ [.inr name]) (lw ++ [.d (.bl true)]))) := List.getElem?_set_self hll
  have lenl : (st1.set l (some (OO.dct (M.lab ++ [.inr name]) (lw ++ [.d (.bl true)])))).length = st1.length := List.length_set
  revert fl efl lenl
  generalize st1.set l (some (OO.dct (M.lab ++ [.inr name]) (lw ++ [.d (.bl true)]))) = st2
  intro fl efl lenl
  obtain ⟨frs0, name', rooms', rows', mt, a', b', items, ms0, e1, e2, e3, e4, hbfp, hmfp, hit, hpush, hopen⟩ := R1.op.last R1.fpn
  have nin : ∀ k ∈ [st.length, st.length + 1, st.length + 2], ∀ j ∈ [r, p, a, o, s, h, l] ++ fp, j ≠ k := by
    intro k hk j hj e
    have := hlts j hj
    simp only [List.mem_cons, List.not_mem_nil, or_false] at hk
    omega
  have er2 := (fl r (nd_ne R.pre 6 0 (by decide) rfl rfl)).trans R1.er
  have es2 := (fl s (nd_ne R.pre 6 4 (by decide) rfl rfl)).trans R1.es
  have em2 := (fl mt (nd_in R.nd (by simp) hmfp)).trans e3
  have eb2 := (fl b' (nd_in R.nd (by simp) hbfp)).trans e4
  have b6 : rows'.length ≤ B := hB.b6 (name', rooms', rows') (by rw [e1]; simp)
  walk_at "go"
  walk_at "known"
  refine rb_fldK (ins_at er2) rfl ?_
  walk_at "go"
  refine rl_ixO es2 (by rw [e2]; exact at_last) ?_
  walk_at "go"
  refine rb_fldK (ins_at em2) rfl ?_
  refine rb_bmK (lst_is eb2) ?_
  walk_at "go"
  refine rl_append eb2 (by omega) rfl ?_
  have hb2 : b' < st2.length := (List.getElem?_eq_some_iff.mp eb2).1
  have hs2 : s < st2.length := (List.getElem?_eq_some_iff.mp es2).1
  have fb : ∀ {w : Option OO} k, b' ≠ k → (st2.set b' w)[k]? = st2[k]? := fun k q => set_get q
  have er3 := (fb (w := some (.lst (items ++ [.loc st.length]))) r (Ne.symm (nd_in R.nd (by simp) hbfp))).trans er2
  have es3 := (fb (w := some (.lst (items ++ [.loc st.length]))) s (Ne.symm (nd_in R.nd (by simp) hbfp))).trans es2
  walk_at "go"
  refine rb_fldK (ins_at er3) rfl ?_
  refine rb_bmK (lst_is es3) ?_
  walk_at "go"
  refine rl_append es3 (by rw [List.length_map]; omega) rfl ?_
  walk_at "go"
  refine ⟨true, rfl, ⟨fun _ => ⟨by omega, hn⟩, fun _ => rfl⟩, fun _ => ?_⟩
  have o2 := hopen (by omega) st2 st.length (st.length + 1) (st.length + 2) name rooms (fun k hk => fl k (nd_in R.nd (by simp) hk)) (fun k hk q => nin k hk k (List.mem_append_right _ q) rfl)
    ((fl _ (nin _ (by simp) l (by simp))).trans g1) ((fl _ (nin _ (by simp) l (by simp))).trans g2) ((fl _ (nin _ (by simp) l (by simp))).trans g3)
  have fr : ∀ {w w' : Option OO} k, b' ≠ k → s ≠ k → l ≠ k → ((st2.set b' w).set s w')[k]? = st1[k]? := fun k q1 q2 q3 => (set_get q2).trans ((set_get q1).trans (fl k q3))
  have nb : ∀ k ∈ [r, p, a, o, s, h, l], b' ≠ k := fun k hk => Ne.symm (nd_in R.nd hk hbfp)
  exact {
    er := (fr r (nb r (by simp)) (nd_ne R.pre 4 0 (by decide) rfl rfl) (nd_ne R.pre 6 0 (by decide) rfl rfl)).trans R1.er
    ep := (fr p (nb p (by simp)) (nd_ne R.pre 4 1 (by decide) rfl rfl) (nd_ne R.pre 6 1 (by decide) rfl rfl)).trans R1.ep
    ea := (fr a (nb a (by simp)) (nd_ne R.pre 4 2 (by decide) rfl rfl) (nd_ne R.pre 6 2 (by decide) rfl rfl)).trans R1.ea
    eo := (fr o (nb o (by simp)) (nd_ne R.pre 4 3 (by decide) rfl rfl) (nd_ne R.pre 6 3 (by decide) rfl rfl)).trans R1.eo
    es := (List.getElem?_set_self (by rw [List.length_set]; exact hs2)).trans (by rw [List.map_append]; rfl)
    eh := ⟨hw, (fr h (nb h (by simp)) (nd_ne R.pre 4 5 (by decide) rfl rfl) (nd_ne R.pre 6 5 (by decide) rfl rfl)).trans eh, eh2⟩
    el := ⟨lw ++ [.d (.bl true)], (set_get (nd_ne R.pre 4 6 (by decide) rfl rfl)).trans ((fb l (nb l (by simp))).trans efl), by simp [el2]⟩
    op := o2.frame fun k hk => set_get (by
      rcases List.mem_append.mp hk with hk | hk
      · exact nd_in R.nd (by simp) hk
      · exact nin k hk s (by simp))
    nd := by
      rw [← List.append_assoc]
      refine List.nodup_append.mpr ⟨R.nd, by simp, fun x hx y hy => nin y hy x hx⟩ }
/-- a row put where a part is open -/
theorem push_ok {x : D} {B : Nat} (R : Rd st r M p a o s h l ms fp m) (hB : Bn M B) (hb : B < 10000) : ∃ (f0 : List Fr) (n1 : Str) (r1 : List Str) (d1 : List D) (mt a' b' : Nat) (items : List W) (ms0 : List Nat), M.frs = f0 ++ [(n1, r1, d1)] ∧ ms = ms0 ++ [mt] ∧ st[mt]? = some (some (ptO n1 a' b')) ∧ st[b']? = some (some (.lst items)) ∧ items.length < 16777216 ∧
    Rd (st.set b' (some (.lst (items ++ [.d x])))) r { M with frs := f0 ++ [(n1, r1, d1 ++ [x])] } p a o s h l ms fp m := by
  obtain ⟨frs0, name', rooms', rows', mt, a', b', items, ms0, e1, e2, e3, e4, hbfp, hmfp, hit, hpush, _⟩ := R.op.last R.fpn
  have b6 : rows'.length ≤ B := hB.b6 (name', rooms', rows') (by rw [e1]; simp)
  refine ⟨frs0, name', rooms', rows', mt, a', b', items, ms0, e1, e2, e3, e4, by omega, ?_⟩
  have nb : ∀ k ∈ [r, p, a, o, s, h, l], b' ≠ k := fun k hk => Ne.symm (nd_in R.nd hk hbfp)
  obtain ⟨hw, eh, eh2⟩ := R.eh
  obtain ⟨lw, el, el2⟩ := R.el
  exact ⟨(set_get (nb r (by simp))).trans R.er, (set_get (nb p (by simp))).trans R.ep, (set_get (nb a (by simp))).trans R.ea, (set_get (nb o (by simp))).trans R.eo, (set_get (nb s (by simp))).trans R.es, ⟨hw, (set_get (nb h (by simp))).trans eh, eh2⟩, ⟨lw, (set_get (nb l (by simp))).trans el, el2⟩, hpush x, R.nd⟩
/-- a label told -/
theorem lab_ok {z : Str} {lw : List W} (R : Rd st r M p a o s h l ms fp m) (el : st[l]? = some (some (.dct M.lab lw))) : Rd (st.set l (some (.dct (M.lab ++ [.inr z]) (lw ++ [.d (.bl true)])))) r { M with lab := M.lab ++ [.inr z] } p a o s h l ms fp m := by
  obtain ⟨hw, eh, eh2⟩ := R.eh
  obtain ⟨lw', el', el2⟩ := R.el
  rw [el] at el'
  cases el'
  exact ⟨(set_get (nd_ne R.pre 6 0 (by decide) rfl rfl)).trans R.er, (set_get (nd_ne R.pre 6 1 (by decide) rfl rfl)).trans R.ep, (set_get (nd_ne R.pre 6 2 (by decide) rfl rfl)).trans R.ea, (set_get (nd_ne R.pre 6 3 (by decide) rfl rfl)).trans R.eo, (set_get (nd_ne R.pre 6 4 (by decide) rfl rfl)).trans R.es,
    ⟨hw, (set_get (nd_ne R.pre 6 5 (by decide) rfl rfl)).trans eh, eh2⟩, ⟨_, List.getElem?_set_self (List.getElem?_eq_some_iff.mp el).1, by simp [el2]⟩, R.op.frame fun k hk => set_get (nd_in R.nd (by simp) hk), R.nd⟩
end
theorem done_row {ws : List Str} (ok : okW ws) : rowJ ws = Str.ofString "done" ↔ ws = [Str.ofString "done"] := by
  have e : rowJ [Str.ofString "done"] = Str.ofString "done" := by decide +kernel
  constructor
  · intro h
    have ok2 : okW [Str.ofString "done"] := ⟨by simp, by simp, by decide +kernel⟩
    have h1 := split_row ok
    rw [h, ← e, split_row ok2] at h1
    exact h1.symm
  · rintro rfl
    exact e
/-- a clause's label is its row's first word -/
theorem clause_lab {ws : List Str} (h : ¬ clauseW ws = .non) : ∃ i ks rest a r, ws = a :: r ∧ clauseW ws = .ins i (0 :: ks) (.str a :: rest) := by
  revert h
  unfold clauseW
  split
  · split
    · split
      · exact fun _ => ⟨_, _, _, _, _, rfl, rfl⟩
      · exact fun q => absurd rfl q
    · exact fun q => absurd rfl q
  · split
    · split
      · exact fun _ => ⟨_, _, _, _, _, rfl, rfl⟩
      · exact fun q => absurd rfl q
    · exact fun q => absurd rfl q
  · split
    · split
      · exact fun _ => ⟨_, _, _, _, _, rfl, rfl⟩
      · exact fun q => absurd rfl q
    · exact fun q => absurd rfl q
  · split
    · split
      · exact fun _ => ⟨_, _, _, _, _, rfl, rfl⟩
      · exact fun q => absurd rfl q
    · exact fun q => absurd rfl q
  · exact fun q => absurd rfl q
theorem let_is {ws : List Str} : letW ws = .non ∨ ∃ x y, letW ws = letD x y := by
  unfold letW
  split
  · split
    · exact .inr ⟨_, _, rfl⟩
    · exact .inl rfl
  · exact .inl rfl
theorem room_is {ws : List Str} : roomW ws = .non ∨ ∃ x y, roomW ws = .tup [.str x, .str y] ∧ nameB y = true ∧ x ∈ marksL := by
  unfold roomW
  split
  · split
    · rename_i h
      rw [Bool.and_eq_true, decide_eq_true_eq] at h
      exact .inr ⟨_, _, rfl, h.2, h.1⟩
    · exact .inl rfl
  · exact .inl rfl
/-- what a row of the body does -/
inductive RowStep (M : Md) (ws : List Str) : Md → Prop
  | done {f0 : List Fr} {n1 n2 : Str} {r1 r2 : List Str} {d1 d2 : List D} (e : ws = [Str.ofString "done"]) (ef : M.frs = f0 ++ [(n1, r1, d1), (n2, r2, d2)]) : RowStep M ws { M with frs := f0 ++ [(n1, r1, d1 ++ [ptD n2 r2 d2])] }
  | part {name : Str} {rooms : List Str} (e : ¬ ws = [Str.ofString "done"]) (ep : partW ws = partD name rooms []) (h1 : M.frs.length ≤ 6) (h2 : ¬ (Sum.inr name : L2.Key) ∈ M.lab) : RowStep M ws { M with lab := M.lab ++ [.inr name], frs := M.frs ++ [(name, rooms, [])] }
  | lt {f0 : List Fr} {n1 : Str} {r1 : List Str} {d1 : List D} (e : ¬ ws = [Str.ofString "done"]) (ep : partW ws = .non) (el : ¬ letW ws = .non) (ef : M.frs = f0 ++ [(n1, r1, d1)]) : RowStep M ws { M with frs := f0 ++ [(n1, r1, d1 ++ [letW ws])] }
  | cl {f0 : List Fr} {n1 z : Str} {r1 zs : List Str} {d1 : List D} (e : ¬ ws = [Str.ofString "done"]) (ep : partW ws = .non) (el : letW ws = .non) (ec : ¬ clauseW ws = .non) (ez : ws = z :: zs) (h2 : ¬ (Sum.inr z : L2.Key) ∈ M.lab) (ef : M.frs = f0 ++ [(n1, r1, d1)]) :
      RowStep M ws { M with lab := M.lab ++ [.inr z], frs := f0 ++ [(n1, r1, d1 ++ [clauseW ws])] }
section
variable {st : Store} {r p a o s h l m : Nat} {ms fp : List Nat} {M : Md}
theorem partD_inj {n n' : Str} {r r' : List Str} {x x' : List D} (h : partD n r x = partD n' r' x') : n = n' := by
  unfold partD at h
  injection h with _ _ h
  injection h with h
  injection h
theorem part_ne {name : Str} {rooms : List Str} {rows : List D} : ¬ partD name rooms rows = .non := fun e => by cases e
theorem take_row_ok {ws : List Str} {B : Nat} (ok : okW ws) (hs : ∀ w ∈ ws, okS w) (R : Rd st r M p a o s h l ms fp m) (hB : Bn M B) (hb : B < 9000) :
    ∃ w st', bodyF 4 b_Reading_take_row [.loc r, .d (.str (rowJ ws))] st = some (.ok w, st') ∧ ∃ b : Bool, w = .d (.bl b) ∧ (b = true → ∃ M', RowStep M ws M' ∧ ∃ ms' fp', Rd st' r M' p a o s h l ms' fp' m) ∧ (b = false → ∀ M', ¬ RowStep M ws M') := by
  refine ff_run [some (.loc r), some (.d (.str (rowJ ws))), none, none] rfl ?_
  unfold b_Reading_take_row
  have hlet := let_ok ok
  have hcla := clause_ok ok
  walk_at "go"
  refine rb_iteD (fun h1 => ?_) fun h1 => ?_
  · have e := (done_row ok).mp h1
    walk_at "go"
    refine rb_methK (cls_of R.er) rfl ?_
    walk_at "go"
    refine rb_gF rfl (take_done_ok R) ?_
    rintro w st' ⟨b, rfl, hb1, hb2⟩
    walk_at "go"
    refine ⟨b, rfl, fun q => ?_, fun q M' hst => ?_⟩
    · obtain ⟨f0, n1, r1, d1, n2, r2, d2, ef, ms', R'⟩ := hb2 q
      exact ⟨_, .done e ef, ms', fp, R'⟩
    · subst q
      have : M.frs.length = 1 := Classical.byContradiction fun z => (nomatch hb1.mpr z)
      cases hst with
      | done _ ef => rw [ef] at this; simp at this
      | part e' => exact e' e
      | lt e' => exact e' e
      | cl e' => exact e' e
  have hnd : ¬ ws = [Str.ofString "done"] := fun q => h1 ((done_row ok).mpr q)
  walk_at "go"
  refine rb_gF rfl (part_deep ok hs) ?_
  rintro w st' (⟨hp, rfl, rfl⟩ | ⟨name, rooms, hp, hn, rfl, rfl⟩)
  rotate_left 1
  · walk_at "go"
    walk_at "known"
    have er1 := (R.ext [some (ptO name (st.length + 1) (st.length + 2)), some (.lst (sw rooms)), some (.lst [])]).er
    refine rb_methK (cls_of er1) rfl ?_
    walk_at "go"
    refine rb_gF rfl (take_part_ok R hB (by omega)) ?_
    rintro w st' ⟨b, rfl, hb1, hb2⟩
    walk_at "go"
    refine ⟨b, rfl, fun q => ?_, fun q M' hst => ?_⟩
    · obtain ⟨q1, q2⟩ := hb1.mp q
      exact ⟨_, .part hnd hp q1 q2, _, _, hb2 q⟩
    · subst q
      cases hst with
      | done e' => exact hnd e'
      | part _ ep q1 q2 =>
        rw [hp] at ep
        have e3 := partD_inj ep
        subst e3
        exact absurd (hb1.mpr ⟨q1, q2⟩) Bool.false_ne_true
      | lt _ ep => rw [hp] at ep; exact part_ne ep
      | cl _ ep => rw [hp] at ep; exact part_ne ep
  walk_at "go"
  walk_at "known"
  rcases let_is (ws := ws) with el | ⟨x, y, el⟩
  · rw [el]
    walk_at "known"
    by_cases ec : clauseW ws = .non
    · rw [ec]
      walk_at "known"
      refine ⟨false, rfl, fun q => (nomatch q), fun _ M' hst => ?_⟩
      cases hst with
      | done e' => exact hnd e'
      | part _ ep => rw [hp] at ep; exact part_ne ep.symm
      | lt _ _ el' => exact el' el
      | cl _ _ _ ec' => exact ec' ec
    obtain ⟨i, ks, rest, z, zs, ez, ecl⟩ := clause_lab ec
    obtain ⟨lw, elb, el2⟩ := R.el
    have b5 := hB.b5
    have hst : ∀ M', RowStep M ws M' → ¬ (Sum.inr z : L2.Key) ∈ M.lab := fun M' hst => by
      cases hst with
      | done e' => exact absurd e' hnd
      | part _ ep => rw [hp] at ep; exact absurd ep.symm part_ne
      | lt _ _ el' => exact absurd el el'
      | cl _ _ _ _ ez' h2 _ =>
        rw [ez] at ez'
        cases ez'
        exact h2
    have ecl0 := ecl
    rw [ecl]
    walk_at "known"
    refine rb_methK (cls_of R.er) rfl ?_
    walk_at "go"
    refine rb_fldK (ins_at R.er) rfl ?_
    walk_at "go"
    refine rb_gF rfl (is_new_ok elb el2 (by omega)) ?_
    rintro w st2 ⟨rfl, rfl⟩
    by_cases hn : (Sum.inr z : L2.Key) ∈ M.lab
    · rw [if_pos hn, decide_eq_true hn]
      walk_at "go"
      walk_at "known"
      exact ⟨false, rfl, fun q => (nomatch q), fun _ M' h' => hst M' h' hn⟩
    · rw [if_neg hn, decide_eq_false hn]
      have R2 := lab_ok (z := z) R elb
      have B2 : Bn { M with lab := M.lab ++ [.inr z] } (B + 1) := ⟨Nat.le_succ_of_le hB.b1, Nat.le_succ_of_le hB.b2, Nat.le_succ_of_le hB.b3, Nat.le_succ_of_le hB.b4, by simp; exact b5, fun f hf => Nat.le_succ_of_le (hB.b6 f hf)⟩
      obtain ⟨f0, n1, r1, d1, mt, a', b', items, ms0, ef, em, e3, e4, hit, R3⟩ := push_ok (x := clauseW ws) (B := B + 1) R2 B2 (by omega)
      walk_at "go"
      walk_at "known"
      refine rb_fldK (ins_at R2.er) rfl ?_
      walk_at "go"
      refine rl_ixO R2.es (by rw [em]; exact at_last) ?_
      walk_at "go"
      refine rb_fldK (ins_at e3) rfl ?_
      refine rb_bmK (lst_is e4) ?_
      walk_at "go"
      refine rl_append e4 hit rfl ?_
      walk_at "go"
      rw [ecl0] at R3
      have hrs := RowStep.cl (M := M) hnd hp el ec ez hn ef
      rw [ecl0] at hrs
      exact ⟨true, rfl, fun _ => ⟨_, hrs, _, _, R3⟩, fun q => (nomatch q)⟩
  · rw [el]
    obtain ⟨f0, n1, r1, d1, mt, a', b', items, ms0, ef, em, e3, e4, hit, R3⟩ := push_ok (x := letW ws) R hB (by omega)
    walk_at "known"
    refine rb_fldK (ins_at R.er) rfl ?_
    walk_at "go"
    refine rl_ixO R.es (by rw [em]; exact at_last) ?_
    walk_at "go"
    refine rb_fldK (ins_at e3) rfl ?_
    refine rb_bmK (lst_is e4) ?_
    walk_at "go"
    refine rl_append e4 hit rfl ?_
    walk_at "go"
    have hrs := RowStep.lt (M := M) hnd hp (by rw [el]; exact fun e => by cases e) ef
    rw [el] at R3 hrs
    exact ⟨true, rfl, fun _ => ⟨_, hrs, _, _, R3⟩, fun q => (nomatch q)⟩
end
end Math
namespace Math
open PySem EV Sem
local macro_rules | `(tactic| walk_at "go") => `(tactic| repeat (first
  | with_reducible refine St.run ?_
  | with_reducible refine Se.run ?_
  | (with_reducible refine gd_lft ?_; first 
        | (with_reducible refine gd_ix ?_; first 
        | with_reducible refine rl_ixI (by first | omega | (decide +kernel)) ?_ 
        | with_reducible refine rl_ixI' ?_ ?_ 
        | with_reducible refine rl_ixSk (by with_unfolding_all rfl) ?_ 
        | with_reducible refine rl_ixSs (by first | omega | (decide +kernel)) ?_ 
        | with_reducible refine rl_ixSs' ?_ ?_ 
        | with_reducible refine rl_ixZ (by omega) ?_ 
        | with_reducible refine rl_ixZ' ?_ ?_ 
        | with_reducible refine rl_ixT (by with_unfolding_all rfl) ?_ 
        | with_reducible refine rl_ixL (by with_unfolding_all rfl) ?_ 
        | with_reducible refine rl_ixO (by with_unfolding_all rfl) (by with_unfolding_all rfl) ?_) 
        | (with_reducible refine gd_add ?_; first 
        | with_reducible refine rl_addL (by decide) ?_ 
        | with_reducible refine rl_addS (by first | omega | (decide +kernel)) ?_ 
        | with_reducible refine rl_addS' ?_ ?_ 
        | with_reducible refine rl_addL' ?_ ?_) 
        | (with_reducible refine gd_int ?_; first 
        | with_reducible refine rl_mod (by decide) ?_ 
        | with_reducible refine rl_div (by decide) ?_ 
        | with_reducible refine rl_pow (by decide) ?_ 
        | with_reducible refine rl_mod (by first | omega | (decide +kernel)) ?_ 
        | with_reducible refine rl_div (by first | omega | (decide +kernel)) ?_ 
        | with_reducible refine rl_mod' ?_ ?_ 
        | with_reducible refine rl_div' ?_ ?_) 
        | (with_reducible refine gd_mul ?_; first 
        | with_reducible refine rl_mulI (Or.inr (by decide)) ?_ 
        | with_reducible refine rl_mulI (Or.inl (by decide)) ?_ 
        | with_reducible refine rl_mulI (by first | omega | (decide +kernel)) ?_ 
        | with_reducible refine rl_mulI' ?_ ?_ 
        | with_reducible refine rl_mulS' ?_ ?_) 
        | with_reducible refine rl_newF (by dsimp only [allD, Option.map] <;> exact rfl) ?_ 
        | with_reducible refine rl_append (by with_unfolding_all rfl) (by exact lt_len (by with_unfolding_all rfl)) (by dsimp only [List.set] <;> exact rfl) ?_ 
        | with_reducible refine rl_append' (by with_unfolding_all rfl) (by dsimp only [List.set] <;> exact rfl) ?_ ?_ 
        | with_reducible refine rl_splitR (by assumption) ?_ 
        | with_reducible refine rl_lenS (by first | omega | (decide +kernel)) ?_ 
        | with_reducible refine rl_lenS' ?_ ?_ 
        | with_reducible refine rl_slS (by first | omega | (decide +kernel)) ?_ 
        | with_reducible refine rl_slS' ?_ ?_ 
        | with_reducible refine rl_isi (by with_unfolding_all rfl) ?_ 
        | with_reducible refine rl_clear (by with_unfolding_all rfl) (by dsimp only [List.set] <;> exact rfl) ?_ 
        | with_reducible refine rl_inT ?_ 
        | with_reducible refine rl_inL ?_ 
        | with_reducible refine rl_ninT ?_ 
        | with_reducible refine rl_ninL ?_ 
        | with_reducible refine rl_newKO (by dsimp only [List.length_cons, List.length_nil, Nat.reduceAdd] <;> exact rfl) (by dsimp only [List.cons_append, List.nil_append] <;> exact rfl) ?_ 
        | with_reducible refine rl_dclear (by with_unfolding_all rfl) (by dsimp only [List.set] <;> exact rfl) ?_ 
        | with_reducible refine rl_newO (by dsimp only [List.length_cons, List.length_nil, Nat.reduceAdd] <;> exact rfl) (by dsimp only [List.cons_append, List.nil_append] <;> exact rfl) ?_)
  | (with_reducible refine gd_ite ?_; first 
        | with_reducible refine rb_iteDT rfl ?_ 
        | with_reducible refine rb_iteDnT rfl ?_ 
        | with_reducible refine rb_iteP (by decide) ?_ 
        | with_reducible refine rb_iteN (by decide) ?_)
  | with_reducible refine rb_asgT rfl (by dsimp only [setAll, List.map, List.set] <;> exact rfl) ?_
  | with_reducible refine rb_lstK (by exact Nat.le_of_ble_eq_true (by with_unfolding_all rfl)) ?_
  | with_reducible refine rb_bmK (by with_unfolding_all rfl) ?_
  | with_reducible refine rb_wip (by dsimp only [wipeO, List.set] <;> exact rfl) ?_
  | with_reducible refine rb_fldD (by with_unfolding_all rfl) ?_
  | with_reducible refine rb_fldK (by with_unfolding_all rfl) (by with_unfolding_all rfl) ?_
  | with_reducible refine rb_methK (by with_unfolding_all rfl) (by with_unfolding_all rfl) ?_
  | with_reducible refine rl_sfld (by with_unfolding_all rfl) (by with_unfolding_all rfl) (by dsimp [List.set, fput] <;> exact rfl) ?_
  | with_reducible refine rb_isD (by first | assumption | with_unfolding_all rfl) ?_
  | with_reducible refine rb_ren (by assumption) ?_
  | with_reducible refine rb_ren dct_sw ?_
  | with_reducible refine rb_treesK (by dsimp only [allD, Option.map] <;> exact rfl) ?_
  | with_reducible refine rb_tupK (by exact Nat.le_of_ble_eq_true (by with_unfolding_all rfl)) ?_
  | with_reducible refine rb_rg1 (by first | omega | (decide +kernel)) ?_
  | with_reducible refine rb_rg2 (by first | omega | (decide +kernel)) ?_
  | with_reducible refine rb_gPe (by dsimp only [allD, Option.map] <;> exact rfl) rfl (by assumption) ?_
  | with_reducible refine rb_gO (by dsimp only [allD, Option.map] <;> exact rfl) rfl (by assumption) (by dsimp only [List.length_cons, List.length_nil, Nat.reduceAdd] <;> exact rfl) (by dsimp only [List.cons_append, List.nil_append] <;> exact rfl) ?_))
local macro_rules | `(tactic| walk_at "len") => `(tactic| first
  | omega
  | (decide +kernel)
  | grind [L2.cutS_length, Str.length_append, chr1_len])
local macro_rules | `(tactic| walk_at "ok") => `(tactic| first
  | with_reducible assumption
  | ((with_reducible refine okS_app ?_ ?_) <;> walk_at "ok")
  | ((with_reducible refine okS_cut ?_) <;> walk_at "ok")
  | ((with_reducible refine okS_num ?_) <;> omega)
  | ((with_reducible refine okS_chr ?_) <;> omega)
  | (decide +kernel))
local macro_rules | `(tactic| walk_at "br") => `(tactic| first
  | with_reducible refine rb_iteDn (fun h1 => ?_) fun h1 => ?_
  | with_reducible refine rb_iteD (fun h1 => ?_) fun h1 => ?_
  | with_reducible refine rb_ite (fun h1 => ?_) fun h1 => ?_
  | refine rb_mkK rfl ?_)
local macro_rules | `(tactic| walk_at "known") => `(tactic| repeat' (first | (with_reducible refine rb_iteP rfl ?_; walk_at "go") | (with_reducible refine rb_iteN rfl ?_; walk_at "go")))
theorem eqB_nil {st : Store} {n m : Nat} {ws : List W} {ds : List D} (e : st[m]? = some (some (.lst ws))) (e2 : allD ws = some ds) (h : okN n (.lst ds)) (hn : n ≤ 64) : eqB st (.loc m) (.d (.lst [])) = some ds.isEmpty := by
  have o2 : okD (.lst []) = true := okD_of (okN_lst (n := 0) okNs_nil) (by decide)
  unfold eqB
  simp only [snap_lst e e2, snap_d, okD_of h hn, o2, Bool.and_self, if_true]
  cases ds <;> rfl
/-- a row of the text, by its number -/
inductive Take (M : Md) (n : Int) (ws : List Str) : Md → Prop
  | parties (e : n = 0) (h1 : ¬ namesW ws (Str.ofString "parties") 4 = []) (h2 : Fresh M.hdr (namesW ws (Str.ofString "parties") 4)) : Take M n ws { M with parties := M.parties ++ namesW ws (Str.ofString "parties") 4, hdr := M.hdr ++ (namesW ws (Str.ofString "parties") 4).map .inr }
  | acts (e : n = 1) (h1 : ¬ namesW ws (Str.ofString "acts") 6 = []) (h2 : Fresh M.hdr (namesW ws (Str.ofString "acts") 6)) : Take M n ws { M with acts := M.acts ++ namesW ws (Str.ofString "acts") 6, hdr := M.hdr ++ (namesW ws (Str.ofString "acts") 6).map .inr }
  | room {mark name : Str} (e : ¬ n = 0 ∧ ¬ n = 1) (er : roomW ws = .tup [.str mark, .str name]) (h1 : M.frs.length = 1) (h2 : ¬ M.rooms.length = 12) (h3 : ¬ (Sum.inr name : L2.Key) ∈ M.hdr) : Take M n ws { M with rooms := M.rooms ++ [.tup [.str mark, .str name]], hdr := M.hdr ++ [.inr name] }
  | row {M' : Md} (e : ¬ n = 0 ∧ ¬ n = 1) (er : roomW ws = .non) (h1 : ¬ M.rooms = []) (h2 : RowStep M ws M') : Take M n ws M'
section
variable {st : Store} {r p a o s h l m : Nat} {ms fp : List Nat} {M : Md}
theorem names_okS {ws : List Str} {word : Str} {most : Int} (hs : ∀ w ∈ ws, okS w) : ∀ w ∈ namesW ws word most, okS w := by
  cases ws with
  | nil => exact fun _ h => nomatch h
  | cons w r =>
    rw [namesW_c]
    split
    · exact fun _ h => nomatch h
    · exact fun x hx => hs x (List.mem_cons_of_mem _ hx)
theorem names_most {ws : List Str} {word : Str} {most : Int} (hm : 0 ≤ most) : ((namesW ws word most).length : Int) ≤ most := by
  cases ws with
  | nil => exact hm
  | cons w r =>
    rw [namesW_c]
    split
    · exact hm
    · rename_i q
      simp only [not_or] at q
      omega
theorem take_ok {ws : List Str} {n : Int} {B : Nat} (ok : okW ws) (hs : ∀ w ∈ ws, okS w) (R : Rd st r M p a o s h l ms fp m) (hB : Bn M B) (hb : B < 9000) (hro : okN 2 (.lst M.rooms)) (h0 : ¬ roomW ws = .non → ∀ n1 r1 d1, M.frs = [(n1, r1, d1)] → d1 = []) :
    ∃ w st', bodyF 4 b_Reading_take [.loc r, .d (.int n), .d (.str (rowJ ws))] st = some (.ok w, st') ∧ ∃ b : Bool, w = .d (.bl b) ∧ (b = true → ∃ M', Take M n ws M' ∧ ∃ ms' fp', Rd st' r M' p a o s h l ms' fp' m) ∧ (b = false → ∀ M', ¬ Take M n ws M') := by
  refine ff_run [some (.loc r), some (.d (.int n)), some (.d (.str (rowJ ws))), none] rfl ?_
  unfold b_Reading_take
  rw [show g_MOST_PARTIES = D.int 4 from rfl, show g_MOST_ACTS = D.int 6 from rfl]
  have hn0 := names_ok (Str.ofString "parties") 4 ok
  have hn1 := names_ok (Str.ofString "acts") 6 ok
  have hroom := room_ok ok
  have m0 := names_most (ws := ws) (word := Str.ofString "parties") (most := 4) (by decide)
  have m1 := names_most (ws := ws) (word := Str.ofString "acts") (most := 6) (by decide)
  have b1 := hB.b1
  have b2 := hB.b2
  have b4 := hB.b4
  obtain ⟨hw, eh, eh2⟩ := R.eh
  obtain ⟨lw, el, el2⟩ := R.el
  walk_at "go"
  refine rb_iteD (fun h1 => ?_) fun h1 => ?_
  · walk_at "go"
    refine rb_methK (cls_of R.er) rfl ?_
    walk_at "go"
    refine rb_fldK (ins_at R.er) rfl ?_
    walk_at "go"
    refine rb_gF rfl (take_names_ok R.er R.ep eh eh2 (nd_ne R.pre 1 5 (by decide) rfl rfl) (nd_ne R.pre 0 1 (by decide) rfl rfl) (nd_ne R.pre 0 5 (by decide) rfl rfl) (names_okS hs) (by omega) (by omega)) ?_
    rintro w st' ⟨b, rfl, hb1, hb2⟩
    walk_at "go"
    refine ⟨b, rfl, fun q => ?_, fun q M' hst => ?_⟩
    · obtain ⟨q1, ⟨ws', q2, q3⟩, _, q4⟩ := hb2 q
      obtain ⟨z1, z2⟩ := hb1.mp q
      have q4 : ∀ k, p ≠ k → h ≠ k → st'[k]? = st[k]? := fun k y1 y2 => q4 k y1.symm y2.symm
      exact ⟨_, .parties h1 z1 z2, ms, fp, (q4 r (nd_ne R.pre 1 0 (by decide) rfl rfl) (nd_ne R.pre 5 0 (by decide) rfl rfl)).trans R.er, q1, (q4 a (nd_ne R.pre 1 2 (by decide) rfl rfl) (nd_ne R.pre 5 2 (by decide) rfl rfl)).trans R.ea, (q4 o (nd_ne R.pre 1 3 (by decide) rfl rfl) (nd_ne R.pre 5 3 (by decide) rfl rfl)).trans R.eo,
        (q4 s (nd_ne R.pre 1 4 (by decide) rfl rfl) (nd_ne R.pre 5 4 (by decide) rfl rfl)).trans R.es, ⟨ws', q2, q3⟩, ⟨lw, (q4 l (nd_ne R.pre 1 6 (by decide) rfl rfl) (nd_ne R.pre 5 6 (by decide) rfl rfl)).trans el, el2⟩, R.op.frame fun k hk => q4 k (nd_in R.nd (by simp) hk) (nd_in R.nd (by simp) hk), R.nd⟩
    · subst q
      cases hst with
      | parties _ z1 z2 => exact absurd (hb1.mpr ⟨z1, z2⟩) Bool.false_ne_true
      | acts e' => omega
      | room e' => exact e'.1 h1
      | row e' => exact e'.1 h1
  walk_at "go"
  refine rb_iteD (fun h2 => ?_) fun h2 => ?_
  · walk_at "go"
    refine rb_methK (cls_of R.er) rfl ?_
    walk_at "go"
    refine rb_fldK (ins_at R.er) rfl ?_
    walk_at "go"
    refine rb_gF rfl (take_names_ok R.er R.ea eh eh2 (nd_ne R.pre 2 5 (by decide) rfl rfl) (nd_ne R.pre 0 2 (by decide) rfl rfl) (nd_ne R.pre 0 5 (by decide) rfl rfl) (names_okS hs) (by omega) (by omega)) ?_
    rintro w st' ⟨b, rfl, hb1, hb2⟩
    walk_at "go"
    refine ⟨b, rfl, fun q => ?_, fun q M' hst => ?_⟩
    · obtain ⟨q1, ⟨ws', q2, q3⟩, _, q4⟩ := hb2 q
      obtain ⟨z1, z2⟩ := hb1.mp q
      have q4 : ∀ k, a ≠ k → h ≠ k → st'[k]? = st[k]? := fun k y1 y2 => q4 k y1.symm y2.symm
      exact ⟨_, .acts h2 z1 z2, ms, fp, (q4 r (nd_ne R.pre 2 0 (by decide) rfl rfl) (nd_ne R.pre 5 0 (by decide) rfl rfl)).trans R.er, (q4 p (nd_ne R.pre 2 1 (by decide) rfl rfl) (nd_ne R.pre 5 1 (by decide) rfl rfl)).trans R.ep, q1, (q4 o (nd_ne R.pre 2 3 (by decide) rfl rfl) (nd_ne R.pre 5 3 (by decide) rfl rfl)).trans R.eo,
        (q4 s (nd_ne R.pre 2 4 (by decide) rfl rfl) (nd_ne R.pre 5 4 (by decide) rfl rfl)).trans R.es, ⟨ws', q2, q3⟩, ⟨lw, (q4 l (nd_ne R.pre 2 6 (by decide) rfl rfl) (nd_ne R.pre 5 6 (by decide) rfl rfl)).trans el, el2⟩, R.op.frame fun k hk => q4 k (nd_in R.nd (by simp) hk) (nd_in R.nd (by simp) hk), R.nd⟩
    · subst q
      cases hst with
      | acts _ z1 z2 => exact absurd (hb1.mpr ⟨z1, z2⟩) Bool.false_ne_true
      | parties e' => exact h1 e'
      | room e' => exact e'.2 h2
      | row e' => exact e'.2 h2
  walk_at "go"
  rcases room_is (ws := ws) with er | ⟨x, y, er, _⟩
  · rw [er]
    walk_at "known"
    refine rb_fldK (ins_at R.er) rfl ?_
    walk_at "go"
    refine rl_neB (eqB_nil R.eo (allD_map _) hro (by decide)) ?_
    walk_at "go"
    cases hrm : M.rooms with
    | nil =>
      walk_at "known"
      refine ⟨false, rfl, fun q => (nomatch q), fun _ M' hst => ?_⟩
      cases hst with
      | parties e' => exact h1 e'
      | acts e' => exact h2 e'
      | room _ er' => rw [er] at er'; cases er'
      | row _ _ h3 => exact h3 hrm
    | cons x xs =>
      walk_at "known"
      refine rb_methK (cls_of R.er) rfl ?_
      walk_at "go"
      refine rb_gF rfl (take_row_ok ok hs R hB hb) ?_
      rintro w st' ⟨b, rfl, hb1, hb2⟩
      walk_at "go"
      refine ⟨b, rfl, fun q => ?_, fun q M' hst => ?_⟩
      · obtain ⟨M', q1, q2⟩ := hb1 q
        exact ⟨M', .row ⟨h1, h2⟩ er (by rw [hrm]; exact fun e => nomatch e) q1, q2⟩
      · cases hst with
        | parties e' => exact h1 e'
        | acts e' => exact h2 e'
        | room _ er' => rw [er] at er'; cases er'
        | row _ _ _ h4 => exact hb2 q _ h4
  · have h0 := h0 (by rw [er]; exact fun e => nomatch e)
    rw [er]
    walk_at "known"
    refine rb_methK (cls_of R.er) rfl ?_
    walk_at "go"
    refine rb_gF rfl (take_room_ok R hB (by omega) h0) ?_
    rintro w st' ⟨b, rfl, hb1, hb2⟩
    walk_at "go"
    refine ⟨b, rfl, fun q => ?_, fun q M' hst => ?_⟩
    · obtain ⟨q1, q2, q3⟩ := hb1.mp q
      exact ⟨_, .room ⟨h1, h2⟩ er q1 q2 q3, _, _, hb2 q⟩
    · subst q
      cases hst with
      | parties e' => exact h1 e'
      | acts e' => exact h2 e'
      | room _ er' z1 z2 z3 =>
        rw [er] at er'
        cases er'
        exact absurd (hb1.mpr ⟨z1, z2, z3⟩) Bool.false_ne_true
      | row _ er' => rw [er] at er'; cases er'
end
theorem app_l (a b : Str) : (a ++ b).cps.toList = a.cps.toList ++ b.cps.toList := by
  show (a.cps ++ b.cps).toList = _
  simp
theorem append_two {α : Type} {f f' : List α} {x y x' y' : α} (h : f ++ [x, y] = f' ++ [x', y']) : f = f' ∧ x = x' ∧ y = y' := by
  have := List.append_inj' h rfl
  obtain ⟨h1, h2⟩ := this
  cases h2
  exact ⟨h1, rfl, rfl⟩
theorem append_one {α : Type} {f f' : List α} {x x' : α} (h : f ++ [x] = f' ++ [x']) : f = f' ∧ x = x' := by
  have := List.append_inj' h rfl
  obtain ⟨h1, h2⟩ := this
  cases h2
  exact ⟨h1, rfl⟩
theorem partD_inj2 {n n' : Str} {r r' : List Str} {x x' : List D} (h : partD n r x = partD n' r' x') : n = n' ∧ r = r' := by
  unfold partD at h
  injection h with _ _ h
  injection h with h1 h
  injection h with h2 h
  injection h1 with h1
  refine ⟨h1, ?_⟩
  unfold strs' at h2
  injection h2 with h2
  exact (List.map_inj_right (fun a b e => by injection e)).mp h2
theorem RowStep.det {M M1 M2 : Md} {ws : List Str} (h1 : RowStep M ws M1) (h2 : RowStep M ws M2) : M1 = M2 := by
  cases h1 with
  | done e ef =>
    cases h2 with
    | done e' ef' =>
      rw [ef] at ef'
      obtain ⟨rfl, q1, q2⟩ := append_two ef'
      cases q1
      cases q2
      rfl
    | part e' => exact absurd e e'
    | lt e' => exact absurd e e'
    | cl e' => exact absurd e e'
  | part e ep =>
    cases h2 with
    | done e' => exact absurd e' e
    | part _ ep' =>
      rw [ep] at ep'
      obtain ⟨rfl, rfl⟩ := partD_inj2 ep'
      rfl
    | lt _ ep' => rw [ep] at ep'; exact absurd ep' part_ne
    | cl _ ep' => rw [ep] at ep'; exact absurd ep' part_ne
  | lt e ep el ef =>
    cases h2 with
    | done e' => exact absurd e' e
    | part _ ep' => rw [ep] at ep'; exact absurd ep'.symm part_ne
    | lt _ _ _ ef' =>
      rw [ef] at ef'
      obtain ⟨rfl, q1⟩ := append_one ef'
      cases q1
      rfl
    | cl _ _ el' => exact absurd el' el
  | cl e ep el ec ez _ ef =>
    cases h2 with
    | done e' => exact absurd e' e
    | part _ ep' => rw [ep] at ep'; exact absurd ep'.symm part_ne
    | lt _ _ el' => exact absurd el el'
    | cl _ _ _ _ ez' _ ef' =>
      rw [ez] at ez'
      cases ez'
      rw [ef] at ef'
      obtain ⟨rfl, q1⟩ := append_one ef'
      cases q1
      rfl
theorem Take.det {M M1 M2 : Md} {n : Int} {ws : List Str} (h1 : Take M n ws M1) (h2 : Take M n ws M2) : M1 = M2 := by
  cases h1 with
  | parties e =>
    cases h2 with
    | parties => rfl
    | acts e' => omega
    | room e' => exact absurd e e'.1
    | row e' => exact absurd e e'.1
  | acts e =>
    cases h2 with
    | acts => rfl
    | parties e' => omega
    | room e' => exact absurd e e'.2
    | row e' => exact absurd e e'.2
  | room e er =>
    cases h2 with
    | parties e' => exact absurd e' e.1
    | acts e' => exact absurd e' e.2
    | room _ er' => rw [er] at er'; cases er'; rfl
    | row _ er' => rw [er] at er'; cases er'
  | row e er _ h =>
    cases h2 with
    | parties e' => exact absurd e' e.1
    | acts e' => exact absurd e' e.2
    | room _ er' => rw [er] at er'; cases er'
    | row _ _ _ h' => exact h.det h'
/-- rows, one after the other -/
inductive Takes (Me : Md) : Md → Nat → List (List Str) → Prop
  | nil (n : Nat) : Takes Me Me n []
  | cons {M M1 : Md} {n : Nat} {ws : List Str} {r : List (List Str)} (h : Take M n ws M1) (h0 : ¬ roomW ws = .non → ∀ n1 r1 d1, M.frs = [(n1, r1, d1)] → d1 = []) (t : Takes Me M1 (n + 1) r) : Takes Me M n (ws :: r)
theorem Take.bn {M M1 : Md} {n : Int} {ws : List Str} {B : Nat} (h : Take M n ws M1) (b : Bn M B) : Bn M1 (B + 20) := by
  obtain ⟨b1, b2, b3, b4, b5, b6⟩ := b
  have m0 := names_most (ws := ws) (word := Str.ofString "parties") (most := 4) (by decide)
  have m1 := names_most (ws := ws) (word := Str.ofString "acts") (most := 6) (by decide)
  have b6' : ∀ f ∈ M.frs, f.2.2.length ≤ B + 20 := fun f hf => by have := b6 f hf; omega
  cases h with
  | parties => exact ⟨by simp; omega, by dsimp only; omega, by dsimp only; omega, by simp; omega, by dsimp only; omega, b6'⟩
  | acts => exact ⟨by dsimp only; omega, by simp; omega, by dsimp only; omega, by simp; omega, by dsimp only; omega, b6'⟩
  | room => exact ⟨by dsimp only; omega, by dsimp only; omega, by simp; omega, by simp; omega, by dsimp only; omega, b6'⟩
  | row _ _ _ h =>
    cases h with
    | @done f0 n1 n2 r1 r2 d1 d2 _ ef =>
      refine ⟨by dsimp only; omega, by dsimp only; omega, by dsimp only; omega, by dsimp only; omega, by dsimp only; omega, fun f hf => ?_⟩
      rcases List.mem_append.mp hf with hf | hf
      · exact b6' f (by rw [ef]; simp [hf])
      · rw [List.mem_singleton.mp hf]
        have := b6 (n1, r1, d1) (by rw [ef]; simp)
        simp at this ⊢
        omega
    | part => exact ⟨by dsimp only; omega, by dsimp only; omega, by dsimp only; omega, by dsimp only; omega, by simp; omega, fun f hf => (List.mem_append.mp hf).elim (b6' f) fun q => by rw [List.mem_singleton.mp q]; simp⟩
    | @lt f0 n1 r1 d1 _ _ _ ef =>
      refine ⟨by dsimp only; omega, by dsimp only; omega, by dsimp only; omega, by dsimp only; omega, by dsimp only; omega, fun f hf => ?_⟩
      rcases List.mem_append.mp hf with hf | hf
      · exact b6' f (by rw [ef]; simp [hf])
      · rw [List.mem_singleton.mp hf]
        have := b6 (n1, r1, d1) (by rw [ef]; simp)
        simp at this ⊢
        omega
    | @cl f0 n1 z r1 zs d1 _ _ _ _ _ _ ef =>
      refine ⟨by dsimp only; omega, by dsimp only; omega, by dsimp only; omega, by dsimp only; omega, by simp; omega, fun f hf => ?_⟩
      rcases List.mem_append.mp hf with hf | hf
      · exact b6' f (by rw [ef]; simp [hf])
      · rw [List.mem_singleton.mp hf]
        have := b6 (n1, r1, d1) (by rw [ef]; simp)
        simp at this ⊢
        omega
/-- rooms are tuples of texts -/
def RoomsOk (M : Md) : Prop := ∀ d ∈ M.rooms, okN 1 d
theorem RoomsOk.lst {M : Md} (h : RoomsOk M) : okN 2 (.lst M.rooms) := okN_lst (okNs_all h)
theorem Take.rooms {M M1 : Md} {n : Int} {ws : List Str} (hs : ∀ w ∈ ws, okS w) (h : Take M n ws M1) (b : RoomsOk M) : RoomsOk M1 := by
  cases h with
  | parties => exact b
  | acts => exact b
  | room _ er =>
    intro d hd
    rcases List.mem_append.mp hd with hd | hd
    · exact b d hd
    · rw [List.mem_singleton.mp hd]
      unfold roomW at er
      split at er
      · split at er
        · cases er
          exact okN_tup (okNs_cons (okN_str (hs _ (by simp))) (okNs_cons (okN_str (hs _ (by simp))) okNs_nil))
        · cases er
      · cases er
  | row _ _ _ h => cases h <;> exact b
/-! the whole text -/
def enK : List D → EM (List D)
  | [x] => match listD x with
    | some xs => pur (enumD 0 xs)
    | none => non
  | _ => non
theorem rb_enumE {β : Type} {s : SS} {Q : Out β → SS → Prop} {k : List D → EM β} {m : EM (List W)} (h : Run (bnd m fun ws => bnd (treesK ws) fun ds => bnd (enK ds) k) s Q) : Run (bnd (enumE m) k) s Q := by
  have e : enumE m = bnd (treesE m) enK := by
    unfold enumE
    congr 1
  rw [e, treesE_eq, bnd_assoc, bnd_assoc]
  have e2 : (fun a => bnd (bnd (treesK a) enK) k) = fun a => bnd (treesK a) fun ds => bnd (enK ds) k := by
    funext a
    rw [bnd_assoc]
  first
    | exact h
    | (rw [← bnd_assoc] at *; exact h)
theorem rl_enK {β : Type} {s : SS} {Q : Out β → SS → Prop} {k : List D → EM β} {zs : List Str} (h : Run (k (enumD 0 (zs.map .str))) s Q) : Run (bnd (enK [strs' zs]) k) s Q := h
/-- rows that a text keeps apart -/
def okR (ws : List Str) : Prop := okW ws ∧ ∀ w ∈ ws, okS w ∧ ¬ 59 ∈ w.cps.toList
theorem mem_rowJ {c : Nat} : ∀ {ws : List Str}, c ∈ (rowJ ws).cps.toList → c = 32 ∨ ∃ w ∈ ws, c ∈ w.cps.toList := by
  have key : ∀ {ws : List Str}, c ∈ (Str.join (Str.ofString " ") ws).cps.toList → c = 32 ∨ ∃ w ∈ ws, c ∈ w.cps.toList := by
    intro ws
    induction ws with
    | nil => intro h; exact absurd h (by decide +revert)
    | cons x r ih =>
      cases r with
      | nil => intro h; exact .inr ⟨x, by simp, h⟩
      | cons y r =>
        intro h
        have e : Str.join (Str.ofString " ") (x :: y :: r) = x ++ Str.ofString " " ++ Str.join (Str.ofString " ") (y :: r) := rfl
        rw [e, app_l, app_l] at h
        rcases List.mem_append.mp h with h | h
        · rcases List.mem_append.mp h with h | h
          · exact .inr ⟨x, by simp, h⟩
          · exact .inl (by have e3 : (Str.ofString " ").cps.toList = [32] := by decide +kernel
                           rw [e3] at h
                           exact List.mem_singleton.mp h)
        · rcases ih h with q | ⟨w, hw, q⟩
          · exact .inl q
          · exact .inr ⟨w, List.mem_cons_of_mem _ hw, q⟩
  intro ws h
  have e2 : rowJ ws = Str.join (Str.ofString " ") ws := StrLaws.glued_eq_join _ _
  rw [e2] at h
  exact key h
def textJ (rows : List (List Str)) : Str := Txt.join (Str.ofString "; ") (rows.map rowJ)
theorem split_text {rows : List (List Str)} (h0 : rows ≠ []) (h : ∀ ws ∈ rows, okR ws) : Txt.split (textJ rows) (Str.ofString "; ") = rows.map rowJ :=
  TL.split_join (s := 59) (S := [32]) (by decide +kernel) (by decide +kernel) (fun e => h0 (List.map_eq_nil_iff.mp e)) fun p hp => by
    obtain ⟨ws, hw, rfl⟩ := List.mem_map.mp hp
    intro q
    rcases mem_rowJ q with e | ⟨w, h1, h2⟩
    · exact absurd e (by decide)
    · exact ((h ws hw).2 w h1).2 h2
theorem text_len {rows : List (List Str)} (h : ∀ ws ∈ rows, okR ws) (hl : rows.length ≤ 90) : (textJ rows).length ≤ 1000000 ∧ ((rows.map rowJ).map fun x => x.length).sum + (rows.map rowJ).length * 2 ≤ 16777216 := by
  have h1 : ∀ w ∈ rows.map rowJ, w.length ≤ 10100 := fun w hw => by
    obtain ⟨ws, hw', rfl⟩ := List.mem_map.mp hw
    exact rowJ_len (h ws hw').1
  have h2 := sum_le h1
  have h3 := StrLaws.join_length_le (Str.ofString "; ") (rows.map rowJ)
  have e : (Str.ofString "; ").length = 2 := rfl
  rw [e] at h3
  have e2 : textJ rows = Str.join (Str.ofString "; ") (rows.map rowJ) := StrLaws.glued_eq_join _ _
  rw [e2]
  rw [List.length_map] at h2 h3 ⊢
  omega
def md0 : Md := ⟨[], [], [], [], [], [(Str.ofString "whole", [], [])]⟩
def pactD (M : Md) (rows : List D) : D := .ins 8 [9, 10, 7, 11] [strs' M.parties, strs' M.acts, .lst M.rooms, ptD (Str.ofString "whole") [] rows]
def rdSt : Store := [some (rdO 1 2 3 7 8 9), some (.lst []), some (.lst []), some (.lst []), some (ptO (Str.ofString "whole") 5 6), some (.lst []), some (.lst []), some (.lst [.loc 4]), some (.dct [] []), some (.dct [] [])]
theorem read_init : ∃ w st1, bodyF 1 b_Reading__init (.loc 0 :: ([] ++ [])) ([] ++ [some (.ins 20 [] [])]) = some (.ok w, st1) ∧ (w = .d .non ∧ st1 = rdSt) := by
  refine ff_run [some (.loc 0)] rfl ?_
  unfold b_Reading__init
  walk_at "go"
  refine rl_mkOK rfl rfl (part_init (rooms := [])) ?_
  walk_at "go"
  exact ⟨rfl, rfl⟩
theorem rd_init : Rd rdSt 0 md0 1 2 3 7 8 9 [4] [4, 5, 6] 4 :=
  ⟨rfl, rfl, rfl, rfl, rfl, ⟨[], rfl, rfl⟩, ⟨[], rfl, rfl⟩, .top (items := []) rfl rfl rfl (.nil 6), by decide⟩
theorem left_lst {st : Store} {n k : Nat} {ws : List W} {ds : List D} (e : st[n]? = some (some (.lst ws))) (e2 : allD ws = some ds) : fz (k + 1) (.loc n) st = some (.lst ds, st.set n none) := by
  unfold fz
  rw [allD_eq e2] at e
  simp only [e, fzL_d]
theorem pact_init {st : Store} {p a o m : Nat} {ps as : List Str} {rs : List D} (ep : st[p]? = some (some (.lst (sw ps)))) (ea : st[a]? = some (some (.lst (sw as)))) (eo : st[o]? = some (some (.lst (rs.map .d)))) :
    ∃ w st1, bodyF 5 b_Pact__init (.loc st.length :: ([.loc p, .loc a, .loc o, .loc m] ++ [])) (st ++ [some (.ins 8 [] [])]) = some (.ok w, st1) ∧ (w = .d .non ∧ st1 = st ++ [some (.ins 8 [9, 10, 7, 11] [.loc (st.length + 1), .loc (st.length + 2), .loc (st.length + 3), .loc m]), some (.lst (sw ps)), some (.lst (sw as)), some (.lst (rs.map .d))]) := by
  refine ff_run [some (.loc st.length), some (.loc p), some (.loc a), some (.loc o), some (.loc m)] rfl ?_
  unfold b_Pact__init
  walk_at "go"
  refine rl_listLO (get_old ep) (n := st.length + 1) (by simp) (List.append_assoc _ _ _) ?_
  walk_at "go"
  refine rl_sfld get_end rfl set_end ?_
  walk_at "go"
  refine rl_listLO (get_old ea) (n := st.length + 2) (by simp) (List.append_assoc _ _ _) ?_
  walk_at "go"
  refine rl_sfld get_end rfl set_end ?_
  walk_at "go"
  refine rl_listLO (get_old eo) (n := st.length + 3) (by simp) (List.append_assoc _ _ _) ?_
  walk_at "go"
  refine rl_sfld get_end rfl set_end ?_
  walk_at "go"
  refine rl_sfld get_end rfl set_end ?_
  walk_at "go"
  exact ⟨rfl, rfl⟩
theorem pact_fz {st : Store} {m : Nat} {fp : List Nat} {ps as : List Str} {rs rows : List D} {name : Str} (hd : Den st 7 fp (.loc m) (ptD name [] rows)) (nd : fp.Nodup) :
    ∃ st', fz 20 (.loc st.length) (st ++ [some (.ins 8 [9, 10, 7, 11] [.loc (st.length + 1), .loc (st.length + 2), .loc (st.length + 3), .loc m]), some (.lst (sw ps)), some (.lst (sw as)), some (.lst (rs.map .d))]) = some (.ins 8 [9, 10, 7, 11] [strs' ps, strs' as, .lst rs, ptD name [] rows], st') := by
  have z0 : (st ++ [some (OO.ins 8 [9, 10, 7, 11] [.loc (st.length + 1), .loc (st.length + 2), .loc (st.length + 3), .loc m]), some (.lst (sw ps)), some (.lst (sw as)), some (.lst (rs.map .d))])[st.length]? = some (some (.ins 8 [9, 10, 7, 11] [.loc (st.length + 1), .loc (st.length + 2), .loc (st.length + 3), .loc m])) := get_end
  have s0 : (st ++ [some (OO.ins 8 [9, 10, 7, 11] [.loc (st.length + 1), .loc (st.length + 2), .loc (st.length + 3), .loc m]), some (.lst (sw ps)), some (.lst (sw as)), some (.lst (rs.map .d))]).set st.length none = st ++ [none, some (.lst (sw ps)), some (.lst (sw as)), some (.lst (rs.map .d))] := set_end
  have s1 : (st ++ [none, some (OO.lst (sw ps)), some (.lst (sw as)), some (.lst (rs.map .d))]).set (st.length + 1) none = st ++ [none, none, some (.lst (sw as)), some (.lst (rs.map .d))] := by
    rw [List.set_append_right _ _ (by omega)]
    simp
  have s2 : (st ++ [none, none, some (OO.lst (sw as)), some (.lst (rs.map .d))]).set (st.length + 2) none = st ++ [none, none, none, some (.lst (rs.map .d))] := by
    rw [List.set_append_right _ _ (by omega)]
    simp
  have s3 : (st ++ [none, none, none, some (OO.lst (rs.map .d))]).set (st.length + 3) none = st ++ [none, none, none, none] := by
    rw [List.set_append_right _ _ (by omega)]
    simp
  have g3 : (st ++ [none, none, none, some (OO.lst (rs.map .d))])[st.length + 3]? = some (some (.lst (rs.map .d))) := by
    rw [List.getElem?_append_right (by omega)]
    simp
  have f1 : fz 19 (.loc (st.length + 1)) (st ++ [none, some (OO.lst (sw ps)), some (.lst (sw as)), some (.lst (rs.map .d))]) = some (strs' ps, st ++ [none, none, some (.lst (sw as)), some (.lst (rs.map .d))]) := by
    rw [left_lst get_end1 (allD_sw ps), s1]
    rfl
  have f2 : fz 19 (.loc (st.length + 2)) (st ++ [none, none, some (OO.lst (sw as)), some (.lst (rs.map .d))]) = some (strs' as, st ++ [none, none, none, some (.lst (rs.map .d))]) := by
    rw [left_lst get_end2 (allD_sw as), s2]
    rfl
  have f3 : fz 19 (.loc (st.length + 3)) (st ++ [none, none, none, some (OO.lst (rs.map .d))]) = some (.lst rs, st ++ [none, none, none, none]) := by
    rw [left_lst g3 (allD_map rs), s3]
  obtain ⟨st', f4, _⟩ := Den.fz (hd.frame (st' := st ++ [none, none, none, none]) fun k hk => List.getElem?_append_left (hd.lt k hk)) nd 19 (by decide)
  refine ⟨st', ?_⟩
  show (match (st ++ _)[st.length]? with | some (some (.lst ws)) => _ | some (some (.dct ks ws)) => _ | some (some (.ins i ks ws)) => (match fzL (fz 19) ws ((st ++ _).set st.length none) with | some (ds, st1) => some (D.ins i ks ds, st1) | none => none) | _ => none) = _
  rw [z0, s0]
  show (match fzL (fz 19) [.loc (st.length + 1), .loc (st.length + 2), .loc (st.length + 3), .loc m] (st ++ [none, some (.lst (sw ps)), some (.lst (sw as)), some (.lst (rs.map .d))]) with | some (ds, st1) => some (D.ins 8 [9, 10, 7, 11] ds, st1) | none => none) = _
  unfold fzL
  rw [f1]
  simp only
  unfold fzL
  rw [f2]
  simp only
  unfold fzL
  rw [f3]
  simp only
  unfold fzL
  rw [f4]
  simp only
  rfl
theorem read_ok {rows : List (List Str)} {M : Md} {ds : List D} (h0 : rows ≠ []) (h : ∀ ws ∈ rows, okR ws) (hl : rows.length ≤ 90) (ht : Takes M md0 0 rows) (hr : ¬ M.rooms = []) (hf : M.frs = [(Str.ofString "whole", [], ds)]) : F_read [.str (textJ rows)] = some (.ok (pactD M ds)) := by
  unfold F_read
  refine fp_eq [some (.d (.str (textJ rows))), none, none, none, none] rfl ?_
  unfold b_read
  rw [show g_MOST_ROWS = D.int 90 from rfl]
  have htl := text_len h hl
  walk_at "go"
  refine rb_lft (a := .d (strs' (rows.map rowJ))) (st' := []) ?_ ?_
  · have e : (Str.ofString "; ").length = 2 := rfl
    unfold splitW
    simp only [e]
    rw [if_pos ⟨by decide, htl.1⟩, split_text h0 h]
    unfold newL strs'
    simp only [Bool.false_eq_true, if_false]
    have := allD_sw (rows.map rowJ)
    unfold sw at this
    rw [this]
  walk_at "go"
  refine rl_mkOK rfl rfl read_init ?_
  walk_at "go"
  refine rb_enumE ?_
  walk_at "go"
  refine rl_enK ?_
  refine rb_loopI (fun l s => ∃ (n : Nat) (rest : List (List Str)) (M1 : Md) (st : Store) (y3 y4 : Option W) (ms fp : List Nat), l = enumD n (rest.map fun ws => .str (rowJ ws)) ∧ n + rest.length = rows.length ∧ (∀ ws ∈ rest, okR ws) ∧ Takes M M1 n rest ∧ Bn M1 (20 * n) ∧ RoomsOk M1 ∧ Rd st 0 M1 1 2 3 7 8 9 ms fp 4 ∧ s = ⟨[some (.d (.str (textJ rows))), some (.d (strs' (rows.map rowJ))), some (.loc 0), y3, y4], st⟩)
    ⟨0, rows, md0, rdSt, none, none, [4], [4, 5, 6], by rw [List.map_map]; rfl, by omega, h, ht, ⟨by decide, by decide, by decide, by decide, by decide, fun f hf => by rw [List.mem_singleton.mp hf]; decide⟩, (fun d hd => (nomatch hd)), rd_init, rfl⟩ ?_ ?_
  · rintro d l s ⟨n, rest, M1, st, y3, y4, ms, fp, el, en, hrest, htk, hB, hro, R, rfl⟩
    cases rest with
    | nil => cases el
    | cons ws rest =>
      cases el
      cases htk with
      | cons hta hc htk =>
      have hw := hrest ws (by simp)
      have en : n + (rest.length + 1) = rows.length := en
      walk_at "go"
      refine rb_iteD (fun q => absurd q (by omega)) fun _ => ?_
      walk_at "go"
      refine rb_methK (cls_of R.er) rfl ?_
      walk_at "go"
      refine rb_gF rfl (take_ok hw.1 (fun w q => (hw.2 w q).1) R hB (by omega) hro.lst hc) ?_
      rintro w st' ⟨b, rfl, hb1, hb2⟩
      cases b with
      | false => exact absurd hta (hb2 rfl _)
      | true =>
        obtain ⟨M2, q1, ms', fp', R'⟩ := hb1 rfl
        have e2 := hta.det q1
        subst e2
        walk_at "go"
        refine ⟨n + 1, rest, _, st', _, _, ms', fp', rfl, by omega, fun ws q => hrest ws (by simp [q]), htk, ?_, hta.rooms (fun w q => (hw.2 w q).1) hro, R', rfl⟩
        have := hta.bn hB
        rw [Nat.mul_add]
        exact this
  · rintro s ⟨n, rest, M1, st, y3, y4, ms, fp, el, en, hrest, htk, hB, hro, R, rfl⟩
    cases rest with
    | cons ws rest => cases el
    | nil =>
      cases htk
      have hop := R.op.lens
      rw [hf] at hop
      obtain ⟨mr, em⟩ := R.op.head
      have hml : ms.length = 1 := hop.1
      have hmr : mr = [] := by
        rw [em] at hml
        exact List.eq_nil_of_length_eq_zero (by simpa using hml)
      subst hmr
      walk_at "go"
      refine rb_fldK (ins_at R.er) rfl ?_
      walk_at "go"
      refine rl_eqB (eqB_nil R.eo (allD_map _) hro.lst (by decide)) ?_
      have hne : M.rooms.isEmpty = false := by
        cases q : M.rooms with
        | nil => exact absurd q hr
        | cons _ _ => rfl
      rw [hne]
      walk_at "go"
      refine rb_fldK (ins_at R.er) rfl ?_
      walk_at "go"
      refine rl_lenO R.es ?_
      rw [List.length_map, hml]
      walk_at "go"
      refine rb_fldK (ins_at R.er) rfl ?_
      walk_at "go"
      refine rb_fldK (ins_at R.er) rfl ?_
      walk_at "go"
      refine rb_fldK (ins_at R.er) rfl ?_
      walk_at "go"
      refine rb_fldK (ins_at R.er) rfl ?_
      walk_at "go"
      refine rl_ixO R.es (by rw [em]; rfl) ?_
      walk_at "go"
      refine rl_mkOK rfl rfl (pact_init R.ep R.ea R.eo) ?_
      walk_at "go"
      have hden : Den st 7 fp (.loc 4) (ptD (Str.ofString "whole") [] ds) := by
        have op := R.op
        rw [hf] at op
        cases op with
        | top q1 q2 q3 t => exact .part q1 q2 q3 t
        | more _ _ _ _ o' =>
          have := o'.head
          obtain ⟨_, z⟩ := this
          have := o'.lens
          rw [z] at this
          simp at this
      obtain ⟨st', f⟩ := pact_fz (ps := M.parties) (as := M.acts) (rs := M.rooms) hden R.fpn
      exact run_pur ⟨_, st', f, rfl⟩
end Math
namespace Math
open PySem EV Sem
local macro_rules | `(tactic| walk_at "go") => `(tactic| repeat (first
  | with_reducible refine St.run ?_
  | with_reducible refine Se.run ?_
  | (with_reducible refine gd_lft ?_; first 
        | (with_reducible refine gd_ix ?_; first 
        | with_reducible refine rl_ixI (by first | omega | (decide +kernel)) ?_ 
        | with_reducible refine rl_ixI' ?_ ?_ 
        | with_reducible refine rl_ixSk (by with_unfolding_all rfl) ?_ 
        | with_reducible refine rl_ixSs (by first | omega | (decide +kernel)) ?_ 
        | with_reducible refine rl_ixSs' ?_ ?_ 
        | with_reducible refine rl_ixZ (by omega) ?_ 
        | with_reducible refine rl_ixZ' ?_ ?_ 
        | with_reducible refine rl_ixT (by with_unfolding_all rfl) ?_ 
        | with_reducible refine rl_ixL (by with_unfolding_all rfl) ?_ 
        | with_reducible refine rl_ixO (by with_unfolding_all rfl) (by with_unfolding_all rfl) ?_) 
        | (with_reducible refine gd_add ?_; first 
        | with_reducible refine rl_addL (by decide) ?_ 
        | with_reducible refine rl_addS (by first | omega | (decide +kernel)) ?_ 
        | with_reducible refine rl_addS' ?_ ?_ 
        | with_reducible refine rl_addL' ?_ ?_) 
        | (with_reducible refine gd_int ?_; first 
        | with_reducible refine rl_mod (by decide) ?_ 
        | with_reducible refine rl_div (by decide) ?_ 
        | with_reducible refine rl_pow (by decide) ?_ 
        | with_reducible refine rl_mod (by first | omega | (decide +kernel)) ?_ 
        | with_reducible refine rl_div (by first | omega | (decide +kernel)) ?_ 
        | with_reducible refine rl_mod' ?_ ?_ 
        | with_reducible refine rl_div' ?_ ?_) 
        | (with_reducible refine gd_mul ?_; first 
        | with_reducible refine rl_mulI (Or.inr (by decide)) ?_ 
        | with_reducible refine rl_mulI (Or.inl (by decide)) ?_ 
        | with_reducible refine rl_mulI (by first | omega | (decide +kernel)) ?_ 
        | with_reducible refine rl_mulI' ?_ ?_ 
        | with_reducible refine rl_mulS' ?_ ?_) 
        | with_reducible refine rl_newF (by dsimp only [allD, Option.map] <;> exact rfl) ?_ 
        | with_reducible refine rl_append (by with_unfolding_all rfl) (by exact lt_len (by with_unfolding_all rfl)) (by dsimp only [List.set] <;> exact rfl) ?_ 
        | with_reducible refine rl_append' (by with_unfolding_all rfl) (by dsimp only [List.set] <;> exact rfl) ?_ ?_ 
        | with_reducible refine rl_splitR (by assumption) ?_ 
        | with_reducible refine rl_lenS (by first | omega | (decide +kernel)) ?_ 
        | with_reducible refine rl_lenS' ?_ ?_ 
        | with_reducible refine rl_slS (by first | omega | (decide +kernel)) ?_ 
        | with_reducible refine rl_slS' ?_ ?_ 
        | with_reducible refine rl_isi (by with_unfolding_all rfl) ?_ 
        | with_reducible refine rl_clear (by with_unfolding_all rfl) (by dsimp only [List.set] <;> exact rfl) ?_ 
        | with_reducible refine rl_inT ?_ 
        | with_reducible refine rl_inL ?_ 
        | with_reducible refine rl_ninT ?_ 
        | with_reducible refine rl_ninL ?_ 
        | with_reducible refine rl_newKO (by dsimp only [List.length_cons, List.length_nil, Nat.reduceAdd] <;> exact rfl) (by dsimp only [List.cons_append, List.nil_append] <;> exact rfl) ?_ 
        | with_reducible refine rl_dclear (by with_unfolding_all rfl) (by dsimp only [List.set] <;> exact rfl) ?_ 
        | with_reducible refine rl_newO (by dsimp only [List.length_cons, List.length_nil, Nat.reduceAdd] <;> exact rfl) (by dsimp only [List.cons_append, List.nil_append] <;> exact rfl) ?_)
  | (with_reducible refine gd_ite ?_; first 
        | with_reducible refine rb_iteDT rfl ?_ 
        | with_reducible refine rb_iteDnT rfl ?_ 
        | with_reducible refine rb_iteP (by decide) ?_ 
        | with_reducible refine rb_iteN (by decide) ?_)
  | with_reducible refine rb_asgT rfl (by dsimp only [setAll, List.map, List.set] <;> exact rfl) ?_
  | with_reducible refine rb_lstK (by exact Nat.le_of_ble_eq_true (by with_unfolding_all rfl)) ?_
  | with_reducible refine rb_bmK (by with_unfolding_all rfl) ?_
  | with_reducible refine rb_wip (by dsimp only [wipeO, List.set] <;> exact rfl) ?_
  | with_reducible refine rb_fldD (by with_unfolding_all rfl) ?_
  | with_reducible refine rb_fldK (by with_unfolding_all rfl) (by with_unfolding_all rfl) ?_
  | with_reducible refine rb_methK (by with_unfolding_all rfl) (by with_unfolding_all rfl) ?_
  | with_reducible refine rl_sfld (by with_unfolding_all rfl) (by with_unfolding_all rfl) (by dsimp [List.set, fput] <;> exact rfl) ?_
  | with_reducible refine rb_isD (by first | assumption | with_unfolding_all rfl) ?_
  | with_reducible refine rb_ren (by assumption) ?_
  | with_reducible refine rb_ren dct_sw ?_
  | with_reducible refine rb_treesK (by dsimp only [allD, Option.map] <;> exact rfl) ?_
  | with_reducible refine rb_tupK (by exact Nat.le_of_ble_eq_true (by with_unfolding_all rfl)) ?_
  | with_reducible refine rb_rg1 (by first | omega | (decide +kernel)) ?_
  | with_reducible refine rb_rg2 (by first | omega | (decide +kernel)) ?_
  | with_reducible refine rb_gPe (by dsimp only [allD, Option.map] <;> exact rfl) rfl (by assumption) ?_
  | with_reducible refine rb_gO (by dsimp only [allD, Option.map] <;> exact rfl) rfl (by assumption) (by dsimp only [List.length_cons, List.length_nil, Nat.reduceAdd] <;> exact rfl) (by dsimp only [List.cons_append, List.nil_append] <;> exact rfl) ?_))
local macro_rules | `(tactic| walk_at "len") => `(tactic| first
  | omega
  | (decide +kernel)
  | grind [L2.cutS_length, Str.length_append, chr1_len])
local macro_rules | `(tactic| walk_at "ok") => `(tactic| first
  | with_reducible assumption
  | ((with_reducible refine okS_app ?_ ?_) <;> walk_at "ok")
  | ((with_reducible refine okS_cut ?_) <;> walk_at "ok")
  | ((with_reducible refine okS_num ?_) <;> omega)
  | ((with_reducible refine okS_chr ?_) <;> omega)
  | (decide +kernel))
local macro_rules | `(tactic| walk_at "br") => `(tactic| first
  | with_reducible refine rb_iteDn (fun h1 => ?_) fun h1 => ?_
  | with_reducible refine rb_iteD (fun h1 => ?_) fun h1 => ?_
  | with_reducible refine rb_ite (fun h1 => ?_) fun h1 => ?_
  | refine rb_mkK rfl ?_)
local macro_rules | `(tactic| walk_at "known") => `(tactic| repeat' (first | (with_reducible refine rb_iteP rfl ?_; walk_at "go") | (with_reducible refine rb_iteN rfl ?_; walk_at "go")))
theorem mix_ok (c k : Int) : ∃ n : Int, F_law_mix [.int c, .int k] = some (.ok (.int n)) ∧ 0 ≤ n ∧ n < 400000000 := by
  suffices h : ∃ d, F_law_mix [.int c, .int k] = some (.ok d) ∧ ∃ n : Int, d = .int n ∧ 0 ≤ n ∧ n < 400000000 by
    obtain ⟨d, h1, n, rfl, h2⟩ := h
    exact ⟨n, h1, h2⟩
  unfold F_law_mix
  refine fp_run [some (.d (.int c)), some (.d (.int k)), none] rfl ?_
  unfold b_law_mix
  walk_at "go"
  exact ⟨_, rfl, by omega⟩
theorem cell_ok (ns : List Int) (k : Int) (hk : 0 ≤ k) : ∃ n : Int, F_law_cell_at [.fls (ns.map .int), .int k] = some (.ok (.int n)) := by
  suffices h : ∃ d, F_law_cell_at [.fls (ns.map .int), .int k] = some (.ok d) ∧ ∃ n : Int, d = .int n by
    obtain ⟨d, h1, n, rfl⟩ := h
    exact ⟨n, h1⟩
  unfold F_law_cell_at
  refine fp_run [some (.d (.fls (ns.map .int))), some (.d (.int k))] rfl ?_
  unfold b_law_cell_at
  walk_at "go"
  refine rb_iteD (fun h => ?_) fun h => ?_
  · walk_at "go"
    rw [List.length_map] at h
    refine rl_ixF (d := .int (ns.getD k.toNat 0)) (by rw [atI_map, atI_get (d := 0) ⟨hk, by omega⟩]; rfl) ?_
    walk_at "go"
    exact ⟨_, rfl⟩
  · walk_at "go"
    exact ⟨_, rfl⟩
/-- the eight signs that no kept word has -/
def spc : List Nat := (Str.ofString "fgjkqvxz").cps.toList
theorem spc_kept : ∀ z ∈ keptL, ∀ c ∈ z.cps.toList, ¬ c ∈ spc := by decide +kernel
theorem spc_let : ∀ c ∈ spc, c ∈ lettersL := by decide +kernel
theorem name_of {z : Str} (h1 : 1 ≤ z.length ∧ z.length ≤ 8) (h2 : ∀ c ∈ z.cps.toList, c ∈ lettersL) (h3 : ∃ c ∈ z.cps.toList, c ∈ spc) : nameB z = true := by
  obtain ⟨c, h3, h4⟩ := h3
  exact decide_eq_true ⟨by omega, fun q => spc_kept z q c h3 h4, h2⟩
theorem let_at (i : Nat) (h : i < 26) : (Str.ofString "abcdefghijklmnopqrstuvwxyz").cps.toList.getD i 0 ∈ lettersL := by
  have : ∀ i < 26, (Str.ofString "abcdefghijklmnopqrstuvwxyz").cps.toList.getD i 0 ∈ lettersL := by decide +kernel
  exact this i h
theorem spc_at (i : Nat) (h : i < 8) : (Str.ofString "fgjkqvxz").cps.toList.getD i 0 ∈ spc := by
  have : ∀ i < 8, (Str.ofString "fgjkqvxz").cps.toList.getD i 0 ∈ spc := by decide +kernel
  exact this i h
def headL : List Str := ["part", "done", "let", "calm", "sore", "end", "acts", "any", "in", "else", "may", "not"]
theorem head_ok : ∀ i < 12, (headL.getD i (Str.ofString "")).length ≤ 4 ∧ ∀ c ∈ (headL.getD i (Str.ofString "")).cps.toList, c ∈ lettersL := by decide +kernel
/-- where the signs stand that tell names from one another, and which they are -/
def sizeN (cell : Int) : Int := 2 + cell / 81 % (7 - if decide (cell % 3 = 1) = true then 1 else 0)
def atN (cell : Int) : Nat := (cell / 500 % sizeN cell).toNat
def otN (cell : Int) : Nat := ((cell / 500 % sizeN cell + 1 + cell / 3600 % (sizeN cell - 1)) % sizeN cell).toNat
def hdN (cell : Int) : Nat := (headL.getD (cell / 12 % 12).toNat (Str.ofString "")).length
def abcL : List Nat := (Str.ofString "abcdefghijklmnopqrstuvwxyz").cps.toList
def NmA (k : Int) (z : Str) : Prop := z.length = 1 ∧ z.cps.toList[0]? = some (spc.getD k.toNat 0)
def NmB (cell k : Int) (z : Str) : Prop := z.cps.toList[hdN cell]? = some (spc.getD (k % 8).toNat 0) ∧ z.cps.toList[hdN cell + 1]? = some (abcL.getD (k / 8 % 26).toNat 0)
def NmC (cell k : Int) (z : Str) : Prop := ∃ k1 : Int, (k1 = if cell % 3 = 1 ∧ k % 2 = 1 then k - 1 else k) ∧ (z.length : Int) = sizeN cell + (if cell % 3 = 1 ∧ k % 2 = 1 then 1 else 0) ∧ z.cps.toList[atN cell]? = some (spc.getD (k1 % 8).toNat 0) ∧ z.cps.toList[otN cell]? = some (abcL.getD ((k1 / 8 + cell / 7) % 26).toNat 0)
def NameOf (cell k : Int) (z : Str) : Prop := nameB z = true ∧ if cell % 12 = 5 ∧ k < 8 then NmA k z else if cell % 12 = 7 then NmB cell k z else NmC cell k z
theorem app_list (a b : Str) : (a ++ b).cps.toList = a.cps.toList ++ b.cps.toList := by
  show (a.cps ++ b.cps).toList = _
  simp
theorem size_ok {cell : Int} (h : 0 ≤ cell) : 2 ≤ sizeN cell ∧ sizeN cell ≤ 8 ∧ (cell % 3 = 1 → sizeN cell ≤ 7) := by
  unfold sizeN
  by_cases h3 : cell % 3 = 1
  · rw [if_pos (decide_eq_true h3)]
    omega
  · rw [if_neg (by simpa using h3)]
    omega
theorem drop_range {n m a : Nat} {l : List Nat} (h : a :: l = (List.range n).drop m) : a = m ∧ m < n ∧ l = (List.range n).drop (m + 1) := by
  have hm : m < n := by
    have := congrArg List.length h
    rw [List.length_drop, List.length_range, List.length_cons] at this
    omega
  rw [List.drop_eq_getElem_cons (by rw [List.length_range]; exact hm)] at h
  obtain ⟨h1, h2⟩ := List.cons.inj h
  exact ⟨by rw [h1]; simp, hm, h2⟩
theorem name_ok (cell k : Int) (hc : 0 ≤ cell ∧ cell < 400000000) (hk : 0 ≤ k ∧ k < 104) : ∃ d, F_law_name [.int cell, .int k] = some (.ok d) ∧ ∃ z : Str, d = .str z ∧ NameOf cell k z := by
  unfold F_law_name
  refine fp_run [some (.d (.int cell)), some (.d (.int k)), none, none, none, none, none, none, none, none, none] rfl ?_
  unfold b_law_name
  have e8 : (Str.ofString "fgjkqvxz").length = 8 := by decide +kernel
  have e26 : (Str.ofString "abcdefghijklmnopqrstuvwxyz").length = 26 := by decide +kernel
  walk_at "go"
  refine rb_val (fun b => b = decide (cell % 12 = 5 ∧ k < 8)) ?_ ?_
  · refine rb_iteD (fun h => ?_) fun h => ?_
    · walk_at "go"
      exact Bool.eq_iff_iff.mpr (by simp [h])
    · walk_at "go"
      exact Bool.eq_iff_iff.mpr (by simp [h])
  intro b hb
  subst hb
  unfold NameOf
  refine rb_iteD (fun h1 => ?_) fun h1 => ?_
  · walk_at "go"
    simp only [if_pos h1]
    refine ⟨_, rfl, name_of ⟨Nat.le_refl 1, by rw [chr1_len]; decide⟩ (fun c h => ?_) ⟨_, List.mem_singleton.mpr rfl, spc_at _ (by omega)⟩, rfl, rfl⟩
    rw [List.mem_singleton.mp h]
    exact spc_let _ (spc_at _ (by omega))
  simp only [if_neg h1]
  walk_at "go"
  refine rb_iteD (fun h2 => ?_) fun h2 => ?_
  · walk_at "go"
    have hh := head_ok (cell / 12 % 12).toNat (by omega)
    refine rl_ixSs (xs := headL) ⟨by omega, by have : headL.length = 12 := rfl; omega⟩ ?_
    walk_at "go"
    have e := app_list (headL.getD (cell / 12 % 12).toNat (Str.ofString "")) (chr1 ((Str.ofString "fgjkqvxz").cps.toList.getD (k % 8).toNat 0))
    have e2 := app_list (headL.getD (cell / 12 % 12).toNat (Str.ofString "") ++ (chr1 ((Str.ofString "fgjkqvxz").cps.toList.getD (k % 8).toNat 0))) (chr1 ((Str.ofString "abcdefghijklmnopqrstuvwxyz").cps.toList.getD (k / 8 % 26).toNat 0))
    rw [e] at e2
    simp only [if_pos h2]
    refine ⟨_, rfl, name_of ?_ (fun c h => ?_) ?_, ?_, ?_⟩
    · rw [Str.length_append, Str.length_append, chr1_len, chr1_len]
      omega
    · rw [e2] at h
      rcases List.mem_append.mp h with h | h
      · rcases List.mem_append.mp h with h | h
        · exact hh.2 c h
        · rw [List.mem_singleton.mp h]
          exact spc_let _ (spc_at _ (by omega))
      · rw [List.mem_singleton.mp h]
        exact let_at _ (by omega)
    · exact ⟨_, by rw [e2]; exact List.mem_append_left _ (List.mem_append_right _ (List.mem_singleton.mpr rfl)), spc_at (k % 8).toNat (by omega)⟩
    · unfold hdN
      rw [e2, List.append_assoc]
      show (_ ++ _)[(headL.getD (cell / 12 % 12).toNat (Str.ofString "")).cps.toList.length]? = _
      rw [List.getElem?_append_right (Nat.le_refl _), Nat.sub_self]
      rfl
    · unfold hdN
      rw [e2, List.append_assoc]
      show (_ ++ _)[(headL.getD (cell / 12 % 12).toNat (Str.ofString "")).cps.toList.length + 1]? = _
      rw [List.getElem?_append_right (by omega), Nat.add_sub_cancel_left]
      rfl
    · rw [Str.length_append, chr1_len, chr1_len]
      omega
    · rw [chr1_len]
      omega
  walk_at "go"
  refine rb_val (fun b => b = decide (cell % 3 = 1 ∧ k % 2 = 1)) ?_ ?_
  · refine rb_iteD (fun h => ?_) fun h => ?_
    · walk_at "go"
      exact Bool.eq_iff_iff.mpr (by simp [h])
    · walk_at "go"
      exact Bool.eq_iff_iff.mpr (by simp [h])
  intro b hb
  subst hb
  have hs := size_ok hc.1
  have hX : 0 < 7 - (if decide (cell % 3 = 1) = true then (1 : Int) else 0) := by split <;> omega
  have ha := emod_at (i := cell / 500) (n := (sizeN cell).toNat) (by omega)
  have es : ((sizeN cell).toNat : Int) = sizeN cell := by omega
  rw [es] at ha
  have hb := emod_at (i := cell / 3600) (n := (sizeN cell - 1).toNat) (by omega)
  have es1 : ((sizeN cell - 1).toNat : Int) = sizeN cell - 1 := by omega
  rw [es1] at hb
  have hq := emod_at (i := cell / 500 % sizeN cell + 1 + cell / 3600 % (sizeN cell - 1)) (n := (sizeN cell).toNat) (by omega)
  rw [es] at hq
  have hne : ¬ cell / 500 % sizeN cell = (cell / 500 % sizeN cell + 1 + cell / 3600 % (sizeN cell - 1)) % sizeN cell := by
    by_cases q : cell / 500 % sizeN cell + 1 + cell / 3600 % (sizeN cell - 1) < sizeN cell
    · rw [Int.emod_eq_of_lt (by omega) q]
      omega
    · have e : cell / 500 % sizeN cell + 1 + cell / 3600 % (sizeN cell - 1) = (cell / 500 % sizeN cell + 1 + cell / 3600 % (sizeN cell - 1) - sizeN cell) + sizeN cell := by omega
      have e2 := Int.emod_eq_of_lt (a := cell / 500 % sizeN cell + 1 + cell / 3600 % (sizeN cell - 1) - sizeN cell) (b := sizeN cell) (by omega) (by omega)
      rw [e, Int.add_emod_right, e2]
      omega
  refine rb_join (fun s => ∃ (t : Str) (k1 : Int), ((t.length : Int) = (if cell % 3 = 1 ∧ k % 2 = 1 then 1 else 0) ∧ ∀ c ∈ t.cps.toList, c ∈ lettersL) ∧ (0 ≤ k1 ∧ k1 < 104) ∧ (k1 = if cell % 3 = 1 ∧ k % 2 = 1 then k - 1 else k) ∧ s = ⟨[some (.d (.int cell)), some (.d (.int k1)), some (.d (.str (Str.ofString "abcdefghijklmnopqrstuvwxyz"))), some (.d (.str t)), none, none, none, none, none, none, none], []⟩) ?_ ?_
  · refine rb_iteD (fun h => ?_) fun h => ?_
    · walk_at "go"
      refine ⟨_, _, ?_, ?_, ?_, rfl⟩
      rotate_left 1
      · omega
      rotate_left 1
      refine ⟨by rw [if_pos h]; rfl, fun c hc => ?_⟩
      · rw [List.mem_singleton.mp hc]
        exact let_at _ (by omega)
      rw [if_pos h]
    · walk_at "go"
      refine ⟨_, _, ⟨by rw [if_neg h]; rfl, fun c hc => absurd hc (by decide +revert)⟩, hk, ?_, rfl⟩
      rw [if_neg h]
  rintro s ⟨t, k1, ht, hk1, ekey, rfl⟩
  have eS : 2 + cell / 81 % (7 - if decide (cell % 3 = 1) = true then 1 else 0) = sizeN cell := rfl
  walk_at "go"
  rw [eS]
  unfold rngL
  have elen : (List.range (sizeN cell).toNat).length = (sizeN cell).toNat := List.length_range
  refine rb_loop (f := fun (i : Nat) => D.int (0 + (i : Int))) (fun l s => ∃ (z : Str) (y8 y10 : Option W), s = ⟨[some (.d (.int cell)), some (.d (.int k1)), some (.d (.str (Str.ofString "abcdefghijklmnopqrstuvwxyz"))), some (.d (.str t)), some (.d (.int (sizeN cell))), some (.d (.int (cell / 500 % sizeN cell))), some (.d (.int ((cell / 500 % sizeN cell + 1 + cell / 3600 % (sizeN cell - 1)) % sizeN cell))), some (.d (.str z)), y8, none, y10], []⟩ ∧
    l = (List.range (sizeN cell).toNat).drop z.length ∧ z.length ≤ (sizeN cell).toNat ∧ (∀ c ∈ z.cps.toList, c ∈ lettersL) ∧ ((cell / 500 % sizeN cell).toNat < z.length → z.cps.toList[(cell / 500 % sizeN cell).toNat]? = some (spc.getD (k1 % 8).toNat 0)) ∧ (otN cell < z.length → z.cps.toList[otN cell]? = some (abcL.getD ((k1 / 8 + cell / 7) % 26).toNat 0))) ?_ ?_ _ _ ⟨_, _, _, rfl, rfl, by show 0 ≤ _; omega, fun c hc => absurd hc (by decide +revert), fun q => absurd q (Nat.not_lt_zero _), fun q => absurd q (Nat.not_lt_zero _)⟩
  · rintro a l s ⟨z, y8, y10, rfl, el, hz, hzl, hza, hzo⟩
    obtain ⟨rfl, ha2, el⟩ := drop_range el
    obtain ⟨m, hm, hm0, hm1⟩ := mix_ok cell (0 + (z.length : Int))
    walk_at "go"
    refine rb_join (fun s => ∃ (c : Nat), c ∈ lettersL ∧ ((cell / 500 % sizeN cell).toNat = z.length → c = spc.getD (k1 % 8).toNat 0) ∧ s = ⟨[some (.d (.int cell)), some (.d (.int k1)), some (.d (.str (Str.ofString "abcdefghijklmnopqrstuvwxyz"))), some (.d (.str t)), some (.d (.int (sizeN cell))), some (.d (.int (cell / 500 % sizeN cell))), some (.d (.int ((cell / 500 % sizeN cell + 1 + cell / 3600 % (sizeN cell - 1)) % sizeN cell))), some (.d (.str z)), some (.d (.int (0 + (z.length : Int)))), none, some (.d (.str (chr1 c)))], []⟩) ?_ ?_
    · refine rb_iteD (fun h => ?_) fun h => ?_
      · walk_at "go"
        exact ⟨_, spc_let _ (spc_at _ (by omega)), fun _ => rfl, rfl⟩
      · walk_at "go"
        exact ⟨_, let_at _ (by omega), fun q => absurd q (by omega), rfl⟩
    rintro s ⟨c, hcl, hc2, rfl⟩
    walk_at "go"
    refine rb_join (fun s => ∃ (c : Nat), c ∈ lettersL ∧ ((cell / 500 % sizeN cell).toNat = z.length → c = spc.getD (k1 % 8).toNat 0) ∧ (otN cell = z.length → c = abcL.getD ((k1 / 8 + cell / 7) % 26).toNat 0) ∧ s = ⟨[some (.d (.int cell)), some (.d (.int k1)), some (.d (.str (Str.ofString "abcdefghijklmnopqrstuvwxyz"))), some (.d (.str t)), some (.d (.int (sizeN cell))), some (.d (.int (cell / 500 % sizeN cell))), some (.d (.int ((cell / 500 % sizeN cell + 1 + cell / 3600 % (sizeN cell - 1)) % sizeN cell))), some (.d (.str z)), some (.d (.int (0 + (z.length : Int)))), none, some (.d (.str (chr1 c)))], []⟩) ?_ ?_
    · refine rb_iteD (fun h => ?_) fun h => ?_
      · walk_at "go"
        exact ⟨_, let_at _ (by omega), fun q => absurd q (by omega), fun _ => rfl, rfl⟩
      · walk_at "go"
        exact ⟨_, hcl, hc2, fun q => absurd q (by unfold otN; omega), rfl⟩
    rintro s ⟨c, hcl, hc2, hc3, rfl⟩
    walk_at "go"
    · refine ⟨z ++ chr1 c, _, _, rfl, ?_, ?_, fun d hd => ?_, fun q => ?_, fun q => ?_⟩
      · rw [Str.length_append, chr1_len]
        exact el
      · rw [Str.length_append, chr1_len]
        omega
      · rw [app_list] at hd
        rcases List.mem_append.mp hd with h | h
        · exact hzl d h
        · rw [List.mem_singleton.mp h]; exact hcl
      · rw [app_list]
        rw [Str.length_append, chr1_len] at q
        by_cases q2 : (cell / 500 % sizeN cell).toNat < z.length
        · rw [List.getElem?_append_left q2]
          exact hza q2
        · have q3 : (cell / 500 % sizeN cell).toNat = z.length := by omega
          rw [List.getElem?_append_right (by rw [clen]; omega), hc2 q3, q3, clen, Nat.sub_self]
          rfl
      · rw [app_list]
        rw [Str.length_append, chr1_len] at q
        by_cases q2 : otN cell < z.length
        · rw [List.getElem?_append_left q2]
          exact hzo q2
        · have q3 : otN cell = z.length := by omega
          rw [List.getElem?_append_right (by rw [clen]; omega), hc3 q3, q3, clen, Nat.sub_self]
          rfl
    · rw [chr1_len]; omega
  · rintro s ⟨z, y8, y10, rfl, el, hz, hzl, hza, hzo⟩
    have hz2 : z.length = (sizeN cell).toNat := by
      have := congrArg List.length el
      rw [List.length_drop, List.length_range] at this
      simp at this
      omega
    have hza := hza (by omega)
    have hzo := hzo (by unfold otN; omega)
    have hzin : spc.getD (k1 % 8).toNat 0 ∈ z.cps.toList := List.mem_of_getElem? hza
    have ht1 : t.length ≤ 1 ∧ (¬ cell % 3 = 1 → t.length = 0) := by
      by_cases q : cell % 3 = 1 ∧ k % 2 = 1
      · have := ht.1
        rw [if_pos q] at this
        exact ⟨by omega, fun z => absurd q.1 z⟩
      · have := ht.1
        rw [if_neg q] at this
        exact ⟨by omega, fun _ => by omega⟩
    walk_at "go"
    simp only [if_neg h2]
    refine ⟨_, rfl, name_of ?_ (fun c hc => ?_) ⟨_, by rw [app_list]; exact List.mem_append_left _ hzin, spc_at _ (by omega)⟩, k1, ekey, ?_, ?_, ?_⟩
    · rw [Str.length_append]
      by_cases q : cell % 3 = 1
      · have := hs.2.2 q
        omega
      · have := ht1.2 q
        omega
    · rw [app_list] at hc
      rcases List.mem_append.mp hc with h | h
      · exact hzl c h
      · exact ht.2 c h
    · rw [Str.length_append, ← ht.1]
      omega
    · rw [app_list]
      unfold atN
      rw [List.getElem?_append_left (by rw [clen]; omega)]
      exact hza
    · rw [app_list, List.getElem?_append_left (by rw [clen]; unfold otN; omega)]
      exact hzo
theorem abc_inj : ∀ i < 26, ∀ j < 26, abcL.getD i 0 = abcL.getD j 0 → i = j := by decide +kernel
theorem spc_inj : ∀ i < 8, ∀ j < 8, spc.getD i 0 = spc.getD j 0 → i = j := by decide +kernel
/-- names differ -/
theorem names_differ {cell i j : Int} {y z : Str} (hc : 0 ≤ cell) (hi : 0 ≤ i ∧ i < 104) (hj : 0 ≤ j ∧ j < 104) (hy : NameOf cell i y) (hz : NameOf cell j z) (e : y = z) : i = j := by
  subst e
  obtain ⟨_, hy⟩ := hy
  obtain ⟨_, hz⟩ := hz
  have hs := size_ok hc
  by_cases a1 : cell % 12 = 5 ∧ i < 8
  · rw [if_pos a1] at hy
    by_cases a2 : cell % 12 = 5 ∧ j < 8
    · rw [if_pos a2] at hz
      have e := hy.2.symm.trans hz.2
      have := spc_inj i.toNat (by omega) j.toNat (by omega) (Option.some.inj e)
      omega
    · rw [if_neg a2, if_neg (by omega)] at hz
      obtain ⟨k1, _, hl, _⟩ := hz
      have := hy.1
      split at hl <;> omega
  · rw [if_neg a1] at hy
    by_cases a2 : cell % 12 = 5 ∧ j < 8
    · rw [if_neg (by omega)] at hy
      rw [if_pos a2] at hz
      obtain ⟨k1, _, hl, _⟩ := hy
      have := hz.1
      split at hl <;> omega
    · rw [if_neg a2] at hz
      by_cases b1 : cell % 12 = 7
      · rw [if_pos b1] at hy hz
        have e1 := spc_inj (i % 8).toNat (by omega) (j % 8).toNat (by omega) (Option.some.inj (hy.1.symm.trans hz.1))
        have e2 := abc_inj (i / 8 % 26).toNat (by omega) (j / 8 % 26).toNat (by omega) (Option.some.inj (hy.2.symm.trans hz.2))
        omega
      · rw [if_neg b1] at hy hz
        obtain ⟨k1, ek1, l1, p1, q1⟩ := hy
        obtain ⟨k2, ek2, l2, p2, q2⟩ := hz
        have ht : (cell % 3 = 1 ∧ i % 2 = 1) ↔ (cell % 3 = 1 ∧ j % 2 = 1) := by
          rw [l1] at l2
          by_cases t1 : cell % 3 = 1 ∧ i % 2 = 1
          · by_cases t2 : cell % 3 = 1 ∧ j % 2 = 1
            · exact ⟨fun _ => t2, fun _ => t1⟩
            · rw [if_pos t1, if_neg t2] at l2
              omega
          · by_cases t2 : cell % 3 = 1 ∧ j % 2 = 1
            · rw [if_neg t1, if_pos t2] at l2
              omega
            · exact ⟨fun q => absurd q t1, fun q => absurd q t2⟩
        have hk1 : 0 ≤ k1 ∧ k1 < 104 := by
          rw [ek1]
          split <;> omega
        have hk2 : 0 ≤ k2 ∧ k2 < 104 := by
          rw [ek2]
          split <;> omega
        have e1 := spc_inj (k1 % 8).toNat (by omega) (k2 % 8).toNat (by omega) (Option.some.inj (p1.symm.trans p2))
        have e2 := abc_inj ((k1 / 8 + cell / 7) % 26).toNat (by omega) ((k2 / 8 + cell / 7) % 26).toNat (by omega) (Option.some.inj (q1.symm.trans q2))
        have e3 : k1 = k2 := by omega
        by_cases t1 : cell % 3 = 1 ∧ i % 2 = 1
        · rw [if_pos t1] at ek1
          rw [if_pos (ht.mp t1)] at ek2
          omega
        · rw [if_neg t1] at ek1
          rw [if_neg fun q => t1 (ht.mpr q)] at ek2
          omega
end Math
namespace Math
open PySem EV Sem
local macro_rules | `(tactic| walk_at "go") => `(tactic| repeat (first
  | with_reducible refine St.run ?_
  | with_reducible refine Se.run ?_
  | (with_reducible refine gd_lft ?_; first 
        | (with_reducible refine gd_ix ?_; first 
        | with_reducible refine rl_ixI (by first | omega | (decide +kernel)) ?_ 
        | with_reducible refine rl_ixI' ?_ ?_ 
        | with_reducible refine rl_ixSk (by with_unfolding_all rfl) ?_ 
        | with_reducible refine rl_ixSs (by first | omega | (decide +kernel)) ?_ 
        | with_reducible refine rl_ixSs' ?_ ?_ 
        | with_reducible refine rl_ixZ (by omega) ?_ 
        | with_reducible refine rl_ixZ' ?_ ?_ 
        | with_reducible refine rl_ixT (by with_unfolding_all rfl) ?_ 
        | with_reducible refine rl_ixL (by with_unfolding_all rfl) ?_ 
        | with_reducible refine rl_ixO (by with_unfolding_all rfl) (by with_unfolding_all rfl) ?_) 
        | (with_reducible refine gd_add ?_; first 
        | with_reducible refine rl_addL (by decide) ?_ 
        | with_reducible refine rl_addS (by first | omega | (decide +kernel)) ?_ 
        | with_reducible refine rl_addS' ?_ ?_ 
        | with_reducible refine rl_addL' ?_ ?_) 
        | (with_reducible refine gd_int ?_; first 
        | with_reducible refine rl_mod (by decide) ?_ 
        | with_reducible refine rl_div (by decide) ?_ 
        | with_reducible refine rl_pow (by decide) ?_ 
        | with_reducible refine rl_mod (by first | omega | (decide +kernel)) ?_ 
        | with_reducible refine rl_div (by first | omega | (decide +kernel)) ?_ 
        | with_reducible refine rl_mod' ?_ ?_ 
        | with_reducible refine rl_div' ?_ ?_) 
        | (with_reducible refine gd_mul ?_; first 
        | with_reducible refine rl_mulI (Or.inr (by decide)) ?_ 
        | with_reducible refine rl_mulI (Or.inl (by decide)) ?_ 
        | with_reducible refine rl_mulI (by first | omega | (decide +kernel)) ?_ 
        | with_reducible refine rl_mulI' ?_ ?_ 
        | with_reducible refine rl_mulS' ?_ ?_) 
        | with_reducible refine rl_newF (by dsimp only [allD, Option.map] <;> exact rfl) ?_ 
        | with_reducible refine rl_append (by with_unfolding_all rfl) (by exact lt_len (by with_unfolding_all rfl)) (by dsimp only [List.set] <;> exact rfl) ?_ 
        | with_reducible refine rl_append' (by with_unfolding_all rfl) (by dsimp only [List.set] <;> exact rfl) ?_ ?_ 
        | with_reducible refine rl_splitR (by assumption) ?_ 
        | with_reducible refine rl_lenS (by first | omega | (decide +kernel)) ?_ 
        | with_reducible refine rl_lenS' ?_ ?_ 
        | with_reducible refine rl_slS (by first | omega | (decide +kernel)) ?_ 
        | with_reducible refine rl_slS' ?_ ?_ 
        | with_reducible refine rl_isi (by with_unfolding_all rfl) ?_ 
        | with_reducible refine rl_clear (by with_unfolding_all rfl) (by dsimp only [List.set] <;> exact rfl) ?_ 
        | with_reducible refine rl_inT ?_ 
        | with_reducible refine rl_inL ?_ 
        | with_reducible refine rl_ninT ?_ 
        | with_reducible refine rl_ninL ?_ 
        | with_reducible refine rl_newKO (by dsimp only [List.length_cons, List.length_nil, Nat.reduceAdd] <;> exact rfl) (by dsimp only [List.cons_append, List.nil_append] <;> exact rfl) ?_ 
        | with_reducible refine rl_dclear (by with_unfolding_all rfl) (by dsimp only [List.set] <;> exact rfl) ?_ 
        | with_reducible refine rl_newO (by dsimp only [List.length_cons, List.length_nil, Nat.reduceAdd] <;> exact rfl) (by dsimp only [List.cons_append, List.nil_append] <;> exact rfl) ?_)
  | (with_reducible refine gd_ite ?_; first 
        | with_reducible refine rb_iteDT rfl ?_ 
        | with_reducible refine rb_iteDnT rfl ?_ 
        | with_reducible refine rb_iteP (by decide) ?_ 
        | with_reducible refine rb_iteN (by decide) ?_)
  | with_reducible refine rb_asgT rfl (by dsimp only [setAll, List.map, List.set] <;> exact rfl) ?_
  | with_reducible refine rb_lstK (by exact Nat.le_of_ble_eq_true (by with_unfolding_all rfl)) ?_
  | with_reducible refine rb_bmK (by with_unfolding_all rfl) ?_
  | with_reducible refine rb_wip (by dsimp only [wipeO, List.set] <;> exact rfl) ?_
  | with_reducible refine rb_fldD (by with_unfolding_all rfl) ?_
  | with_reducible refine rb_fldK (by with_unfolding_all rfl) (by with_unfolding_all rfl) ?_
  | with_reducible refine rb_methK (by with_unfolding_all rfl) (by with_unfolding_all rfl) ?_
  | with_reducible refine rl_sfld (by with_unfolding_all rfl) (by with_unfolding_all rfl) (by dsimp [List.set, fput] <;> exact rfl) ?_
  | with_reducible refine rb_isD (by first | assumption | with_unfolding_all rfl) ?_
  | with_reducible refine rb_ren (by assumption) ?_
  | with_reducible refine rb_ren dct_sw ?_
  | with_reducible refine rb_treesK (by dsimp only [allD, Option.map] <;> exact rfl) ?_
  | with_reducible refine rb_tupK (by exact Nat.le_of_ble_eq_true (by with_unfolding_all rfl)) ?_
  | with_reducible refine rb_rg1 (by first | omega | (decide +kernel)) ?_
  | with_reducible refine rb_rg2 (by first | omega | (decide +kernel)) ?_
  | with_reducible refine rb_gPe (by dsimp only [allD, Option.map] <;> exact rfl) rfl (by assumption) ?_
  | with_reducible refine rb_gO (by dsimp only [allD, Option.map] <;> exact rfl) rfl (by assumption) (by dsimp only [List.length_cons, List.length_nil, Nat.reduceAdd] <;> exact rfl) (by dsimp only [List.cons_append, List.nil_append] <;> exact rfl) ?_))
local macro_rules | `(tactic| walk_at "len") => `(tactic| first
  | omega
  | (decide +kernel)
  | grind [L2.cutS_length, Str.length_append, chr1_len])
local macro_rules | `(tactic| walk_at "ok") => `(tactic| first
  | with_reducible assumption
  | ((with_reducible refine okS_app ?_ ?_) <;> walk_at "ok")
  | ((with_reducible refine okS_cut ?_) <;> walk_at "ok")
  | ((with_reducible refine okS_num ?_) <;> omega)
  | ((with_reducible refine okS_chr ?_) <;> omega)
  | (decide +kernel))
local macro_rules | `(tactic| walk_at "br") => `(tactic| first
  | with_reducible refine rb_iteDn (fun h1 => ?_) fun h1 => ?_
  | with_reducible refine rb_iteD (fun h1 => ?_) fun h1 => ?_
  | with_reducible refine rb_ite (fun h1 => ?_) fun h1 => ?_
  | refine rb_mkK rfl ?_)
local macro_rules | `(tactic| walk_at "known") => `(tactic| repeat' (first | (with_reducible refine rb_iteP rfl ?_; walk_at "go") | (with_reducible refine rb_iteN rfl ?_; walk_at "go")))
/-- an event -/
inductive Ev where
  | part (l : Str) (rs : List Str) | done | lt (a b : Str) | must (l w a : Str) (n : Int) (r : Str) | may (l w a : Str) | ban (l w a r : Str) | power (l w a r : Str)
def evD : Ev → D
  | .part l rs => .tup [.str "part", .str l, strs' rs]
  | .done => .tup [.str "done"]
  | .lt a b => .tup [.str "let", .str a, .str b]
  | .must l w a n r => .tup [.str "must", .str l, .str w, .str a, .int n, .str r]
  | .may l w a => .tup [.str "may", .str l, .str w, .str a]
  | .ban l w a r => .tup [.str "ban", .str l, .str w, .str a, .str r]
  | .power l w a r => .tup [.str "power", .str l, .str w, .str a, .str r]
def evW : Ev → List Str
  | .part l [] => [Str.ofString "part", l]
  | .part l (x :: rs) => Str.ofString "part" :: l :: Str.ofString "in" :: x :: rs
  | .done => [Str.ofString "done"]
  | .lt a b => [Str.ofString "let", a, Str.ofString "be", b]
  | .must l w a n r => [l, w, Str.ofString "must", a, Str.ofString "by", Str.ofString (toString n), Str.ofString "else", r]
  | .may l w a => [l, w, Str.ofString "may", a]
  | .ban l w a r => [l, w, Str.ofString "may", Str.ofString "not", a, Str.ofString "else", r]
  | .power l w a r => [l, w, Str.ofString "by", a, Str.ofString "to", r]
def evL : Ev → Option Str
  | .part l _ => some l
  | .done => none
  | .lt _ _ => none
  | .must l _ _ _ _ => some l
  | .may l _ _ => some l
  | .ban l _ _ _ => some l
  | .power l _ _ _ => some l
def EvOk : Ev → Prop
  | .part l rs => nameB l = true ∧ (∀ z ∈ rs, nameB z = true) ∧ rs.length ≤ 12
  | .done => True
  | .lt a b => nameB a = true ∧ nameB b = true
  | .must l w a n r => (nameB l = true ∧ nameB w = true ∧ nameB a = true ∧ nameB r = true) ∧ 1 ≤ n ∧ n < 100000000000000000000
  | .may l w a => nameB l = true ∧ whoB w = true ∧ nameB a = true
  | .ban l w a r => nameB l = true ∧ whoB w = true ∧ nameB a = true ∧ nameB r = true
  | .power l w a r => nameB l = true ∧ whoB w = true ∧ nameB a = true ∧ nameB r = true
/-! words of rows -/
def gw (z : Str) : Prop := (z.length ≤ 100 ∧ ¬ 32 ∈ z.cps.toList) ∧ okS z ∧ ¬ 59 ∈ z.cps.toList
instance {z : Str} : Decidable (gw z) := inferInstanceAs (Decidable (_ ∧ _))
theorem letters_59 : ∀ c ∈ lettersL, c ≠ 59 := by decide +kernel
theorem gw_name {z : Str} (h : nameB z = true) : gw z := ⟨⟨by have := name_len h; omega, fun q => (letters_ok _ (name_let h _ q)).2 rfl⟩, okS_iff.mpr fun c hc => (letters_ok _ (name_let h c hc)).1, fun q => letters_59 _ (name_let h _ q) rfl⟩
theorem gw_kept : ∀ z ∈ keptL, gw z := by decide +kernel
theorem gw_who {z : Str} (h : whoB z = true) : gw z := by
  unfold whoB at h
  rw [Bool.or_eq_true, decide_eq_true_eq] at h
  rcases h with h | h
  · rw [h]; exact gw_kept _ any_kept
  · exact gw_name h
theorem gw_num {i : Int} (h : 1 ≤ i ∧ i < 100000000000000000000) : gw (Str.ofString (toString i)) := by
  obtain ⟨n, rfl⟩ : ∃ n : Nat, i = n := ⟨i.toNat, by omega⟩
  have e : (Str.ofString (toString (n : Int))).cps.toList = TL.numL n := TL.tl_num n
  refine ⟨⟨by have := num_len (i := (n : Int)) (by omega); omega, fun q => ?_⟩, okS_num (by omega), fun q => ?_⟩
  · rw [e] at q
    exact TL.numL_free (by decide) q
  · rw [e] at q
    exact TL.numL_free (by decide) q
theorem okR_of {ws : List Str} (h0 : ws ≠ []) (h1 : ws.length ≤ 100) (h : ∀ w ∈ ws, gw w) : okR ws := ⟨⟨h0, h1, fun w hw => (h w hw).1⟩, fun w hw => (h w hw).2⟩
theorem gws_nil : ∀ w ∈ ([] : List Str), gw w := fun _ h => nomatch h
theorem gws {z : Str} {r : List Str} (h : gw z) (t : ∀ w ∈ r, gw w) : ∀ w ∈ z :: r, gw w := fun w hw => by
  rcases List.mem_cons.mp hw with e | e
  · rw [e]; exact h
  · exact t w e
theorem kk (z : Str) (h : z ∈ keptL) : gw z := gw_kept z h
theorem ev_okR {e : Ev} (h : EvOk e) : okR (evW e) := by
  cases e with
  | part l rs =>
    obtain ⟨h1, h2, h3⟩ := h
    cases rs with
    | nil => exact okR_of (by simp [evW]) (by simp [evW]) (gws (gw_kept _ (by decide +kernel)) (gws (gw_name h1) gws_nil))
    | cons x rs => exact okR_of (by simp [evW]) (by simp [evW] at h3 ⊢; omega) (gws (gw_kept _ (by decide +kernel)) (gws (gw_name h1) (gws (gw_kept _ (by decide +kernel)) fun w hw => gw_name (h2 w hw))))
  | done => exact okR_of (by simp [evW]) (by simp [evW]) (gws (gw_kept _ (by decide +kernel)) gws_nil)
  | lt a b => exact okR_of (by simp [evW]) (by simp [evW]) (gws (gw_kept _ (by decide +kernel)) (gws (gw_name h.1) (gws (gw_kept _ (by decide +kernel)) (gws (gw_name h.2) gws_nil))))
  | must l w a n r => exact okR_of (by simp [evW]) (by simp [evW]) (gws (gw_name h.1.1) (gws (gw_name h.1.2.1) (gws (gw_kept _ (by decide +kernel)) (gws (gw_name h.1.2.2.1) (gws (gw_kept _ (by decide +kernel)) (gws (gw_num h.2) (gws (gw_kept _ (by decide +kernel)) (gws (gw_name h.1.2.2.2) gws_nil))))))))
  | may l w a => exact okR_of (by simp [evW]) (by simp [evW]) (gws (gw_name h.1) (gws (gw_who h.2.1) (gws (gw_kept _ (by decide +kernel)) (gws (gw_name h.2.2) gws_nil))))
  | ban l w a r => exact okR_of (by simp [evW]) (by simp [evW]) (gws (gw_name h.1) (gws (gw_who h.2.1) (gws (gw_kept _ (by decide +kernel)) (gws (gw_kept _ (by decide +kernel)) (gws (gw_name h.2.2.1) (gws (gw_kept _ (by decide +kernel)) (gws (gw_name h.2.2.2) gws_nil)))))))
  | power l w a r => exact okR_of (by simp [evW]) (by simp [evW]) (gws (gw_name h.1) (gws (gw_who h.2.1) (gws (gw_kept _ (by decide +kernel)) (gws (gw_name h.2.2.1) (gws (gw_kept _ (by decide +kernel)) (gws (gw_name h.2.2.2) gws_nil))))))
/-! what the rows tell -/
/-- the tree of a let or a clause -/
def evT : Ev → D
  | .lt a b => letD a b
  | .must l w a n r => dutyD l w a n r
  | .may l w a => leaveD l w a
  | .ban l w a r => banD l w a r
  | .power l w a r => powerD l w a r
  | _ => .non
def isRow : Ev → Bool
  | .part _ _ => false
  | .done => false
  | _ => true
theorem who_tok {z : Str} {P : Tk → Prop} (h : whoB z = true) (h1 : P .any) (h2 : P .name) : P (tok z) := by
  rcases tok_who h with e | e <;> rw [e] <;> assumption
theorem ev_none {e : Ev} (h : EvOk e) : roomW (evW e) = .non ∧ (isRow e = true → partW (evW e) = .non) ∧ ((∀ a b, e ≠ .lt a b) → letW (evW e) = .non) := by
  cases e with
  | part l rs =>
    obtain ⟨h1, h2, h3⟩ := h
    cases rs with
    | nil => exact ⟨formR_no (by simp only [evW, List.map_cons, List.map_nil, kt_part, tok_name h1]; decide), fun q => (nomatch q), fun _ => rfl⟩
    | cons x rs =>
      refine ⟨rfl, fun q => (nomatch q), fun _ => ?_⟩
      cases rs with
      | nil =>
        show (if ((decide (Str.ofString "part" = Str.ofString "let") && decide (Str.ofString "in" = Str.ofString "be")) && (nameB l && nameB x)) = true then letD l x else .non) = _
        rw [decide_eq_false (by decide +kernel : ¬ Str.ofString "part" = Str.ofString "let")]
        rfl
      | cons y rs => rfl
  | done => exact ⟨rfl, fun q => (nomatch q), fun _ => rfl⟩
  | lt a b => exact ⟨rfl, fun _ => formP_no (by simp only [evW, List.map_cons, List.map_nil, kt_let]; rfl), fun q => absurd rfl (q a b)⟩
  | must l w a n r => exact ⟨rfl, fun _ => formP_no (by simp only [evW, List.map_cons, List.map_nil, tok_name h.1.1]; rfl), fun _ => rfl⟩
  | may l w a => exact ⟨rfl, fun _ => formP_no (by simp only [evW, List.map_cons, List.map_nil, tok_name h.1]; rfl), fun _ => formL_no (by simp only [evW, List.map_cons, List.map_nil, tok_name h.1]; rfl)⟩
  | ban l w a r => exact ⟨rfl, fun _ => formP_no (by simp only [evW, List.map_cons, List.map_nil, tok_name h.1]; rfl), fun _ => rfl⟩
  | power l w a r => exact ⟨rfl, fun _ => formP_no (by simp only [evW, List.map_cons, List.map_nil, tok_name h.1]; rfl), fun _ => rfl⟩
theorem ev_let {a b : Str} (h : EvOk (.lt a b)) : letW (evW (.lt a b)) = letD a b := if_pos (by simp [h.1, h.2])
theorem ev_part {l : Str} {rs : List Str} (h : EvOk (.part l rs)) : partW (evW (.part l rs)) = partD l rs [] := by
  obtain ⟨h1, h2, h3⟩ := h
  cases rs with
  | nil => exact if_pos (by simp [h1])
  | cons x rs =>
    have hnw : namesW (Str.ofString "in" :: x :: rs) (Str.ofString "in") 12 = x :: rs := by
      rw [namesW_c, if_neg]
      rintro (q | q | q)
      · exact q rfl
      · omega
      · rw [List.all_eq_true.mpr h2] at q
        cases q
    show (if ((decide (Str.ofString "part" = Str.ofString "part") && nameB l) && !decide (namesW (Str.ofString "in" :: x :: rs) (Str.ofString "in") 12 = [])) = true then partD l (namesW (Str.ofString "in" :: x :: rs) (Str.ofString "in") 12) [] else .non) = _
    rw [hnw, if_pos (by simp [h1])]
theorem ev_clause {e : Ev} (h : EvOk e) (hr : isRow e = true) (hl : ∀ a b, e ≠ .lt a b) : clauseW (evW e) = evT e := by
  cases e with
  | part l rs => cases hr
  | done => cases hr
  | lt a b => exact absurd rfl (hl a b)
  | must l w a n r =>
    have hn : 1 ≤ n ∧ n < 100000000000000000000 := h.2
    have hnum : ¬ numB (Str.ofString (toString n)) = 0 := by rw [numB_str hn]; omega
    have hany : ¬ w = Str.ofString "any" := fun e => name_kept h.1.2.1 (e ▸ any_kept)
    show (if (nameB l && whoB w) = true then (if dutyB w (Str.ofString "must") a (Str.ofString "by") (Str.ofString (toString n)) (Str.ofString "else") r = true then dutyD l w a (numB (Str.ofString (toString n))) r else .non) else .non) = _
    rw [if_pos (by simp [h.1.1, h.1.2.1, whoB]), if_pos (by unfold dutyB; rw [decide_eq_false hnum, decide_eq_false hany, h.1.2.2.1, h.1.2.2.2]; decide), numB_str h.2]
    rfl
  | may l w a =>
    show (if (nameB l && whoB w) = true then (if (decide (Str.ofString "may" = Str.ofString "may") && nameB a) = true then leaveD l w a else .non) else .non) = _
    rw [if_pos (by simp [h.1, h.2.1]), if_pos (by simp [h.2.2])]
    rfl
  | ban l w a r =>
    show (if (nameB l && whoB w) = true then (if banB (Str.ofString "may") (Str.ofString "not") a (Str.ofString "else") r = true then banD l w a r else .non) else .non) = _
    rw [if_pos (by simp [h.1, h.2.1]), if_pos (by simp [banB, h.2.2.1, h.2.2.2])]
    rfl
  | power l w a r =>
    show (if (nameB l && whoB w) = true then (if powerB (Str.ofString "by") a (Str.ofString "to") r = true then powerD l w a r else .non) else .non) = _
    rw [if_pos (by simp [h.1, h.2.1]), if_pos (by simp [powerB, h.2.2.1, h.2.2.2])]
    rfl
/-! rows told of trees -/
inductive Flat : Nat → List D → List Ev → Prop
  | nil (h : Nat) : Flat h [] []
  | row {h : Nat} {ds : List D} {es : List Ev} {e : Ev} (t : Flat h ds es) (ok : EvOk e) (r : isRow e = true) : Flat h (ds ++ [evT e]) (es ++ [e])
  | part {h : Nat} {ds rows : List D} {es ins : List Ev} {l : Str} {rs : List Str} (t : Flat (h + 1) ds es) (ok : EvOk (.part l rs)) (i : Flat h rows ins) : Flat (h + 1) (ds ++ [ptD l rs rows]) (es ++ (Ev.part l rs :: (ins ++ [Ev.done])))
/-- open parts, and the events so far; h: how deep the last may still be -/
inductive FlatF : Nat → List Fr → List Ev → Prop
  | one {rows : List D} {es : List Ev} (t : Flat 6 rows es) : FlatF 6 [(Str.ofString "whole", [], rows)] es
  | more {h : Nat} {frs : List Fr} {es ins : List Ev} {l : Str} {rs : List Str} {rows : List D} (t : FlatF (h + 1) frs es) (ok : EvOk (.part l rs)) (i : Flat h rows ins) : FlatF h (frs ++ [(l, rs, rows)]) (es ++ (Ev.part l rs :: ins))
theorem FlatF.last {h : Nat} {frs : List Fr} {es : List Ev} (t : FlatF h frs es) : ∃ f0 l rs rows, frs = f0 ++ [(l, rs, rows)] := by
  cases t with
  | one => exact ⟨[], _, _, _, rfl⟩
  | more => exact ⟨_, _, _, _, rfl⟩
theorem FlatF.len {h : Nat} {frs : List Fr} {es : List Ev} (t : FlatF h frs es) : frs.length + h = 7 := by
  induction t with
  | one => rfl
  | more _ _ _ ih => simp; omega
theorem FlatF.push {h : Nat} {f0 : List Fr} {l : Str} {rs : List Str} {rows : List D} {es : List Ev} {e : Ev} (t : FlatF h (f0 ++ [(l, rs, rows)]) es) (ok : EvOk e) (r : isRow e = true) : FlatF h (f0 ++ [(l, rs, rows ++ [evT e])]) (es ++ [e]) := by
  generalize ef : f0 ++ [(l, rs, rows)] = frs at t
  cases t with
  | one t =>
    have := append_one (f' := []) ef
    obtain ⟨rfl, q⟩ := this
    cases q
    exact .one (.row t ok r)
  | more t ok2 i =>
    obtain ⟨rfl, q⟩ := append_one ef
    cases q
    rw [List.append_assoc, List.cons_append]
    exact .more t ok2 (.row i ok r)
theorem FlatF.close {h : Nat} {f0 : List Fr} {n1 n2 : Str} {r1 r2 : List Str} {d1 d2 : List D} {es : List Ev} (t : FlatF h (f0 ++ [(n1, r1, d1), (n2, r2, d2)]) es) : FlatF (h + 1) (f0 ++ [(n1, r1, d1 ++ [ptD n2 r2 d2])]) (es ++ [Ev.done]) := by
  generalize ef : f0 ++ [(n1, r1, d1), (n2, r2, d2)] = frs at t
  cases t with
  | one => cases f0 with
    | nil => cases ef
    | cons x r => cases r <;> cases ef
  | more t ok i =>
    have e2 : f0 ++ [(n1, r1, d1), (n2, r2, d2)] = (f0 ++ [(n1, r1, d1)]) ++ [(n2, r2, d2)] := by simp
    rw [e2] at ef
    obtain ⟨rfl, q⟩ := append_one ef
    cases q
    generalize ef : f0 ++ [(n1, r1, d1)] = frs2 at t
    generalize eh : h + 1 = h2 at t
    cases t with
    | one t =>
      have := append_one (f' := []) ef
      obtain ⟨rfl, q⟩ := this
      cases q
      cases eh
      rw [List.append_assoc, List.cons_append]
      exact .one (.part t ok i)
    | more t ok2 i2 =>
      obtain ⟨rfl, q⟩ := append_one ef
      cases q
      subst eh
      rw [List.append_assoc, List.append_assoc]
      exact .more t ok2 (.part i2 ok i)
/-- from depth d the events lead back to the whole -/
def path : Nat → List Ev → Prop
  | d, [] => d = 0
  | d, .part _ _ :: r => d < 6 ∧ path (d + 1) r
  | d, .done :: r => 0 < d ∧ path (d - 1) r
  | d, _ :: r => path d r
def labs (es : List Ev) : List Str := es.filterMap evL
theorem labs_cons (e : Ev) (r : List Ev) : labs (e :: r) = (match evL e with | some z => z :: labs r | none => labs r) := by
  unfold labs
  cases q : evL e <;> simp [q]
theorem FlatF.whole {h : Nat} {frs : List Fr} {es : List Ev} (t : FlatF h frs es) (hl : frs.length = 1) : ∃ ds, frs = [(Str.ofString "whole", [], ds)] ∧ Flat 6 ds es := by
  cases t with
  | one t => exact ⟨_, rfl, t⟩
  | more t =>
    exfalso
    obtain ⟨f0, l, rs, rows, e⟩ := t.last
    rw [e] at hl
    simp at hl
theorem two_last {α : Type} {l : List α} (h : 2 ≤ l.length) : ∃ f0 x y, l = f0 ++ [x, y] := by
  have h1 : l ≠ [] := fun e => by rw [e] at h; simp at h
  have e1 := List.dropLast_concat_getLast h1
  have h2 : l.dropLast ≠ [] := fun e => by
    have := congrArg List.length e
    rw [List.length_dropLast] at this
    simp at this
    omega
  have e2 := List.dropLast_concat_getLast h2
  refine ⟨l.dropLast.dropLast, l.dropLast.getLast h2, l.getLast h1, ?_⟩
  have e3 : (l.dropLast.dropLast ++ [l.dropLast.getLast h2]) ++ [l.getLast h1] = l := by rw [e2, e1]
  rw [List.append_assoc] at e3
  exact e3.symm
theorem clause_step {e : Ev} {l : Str} (h : EvOk e) (hr : isRow e = true) (hl : ∀ a b, e ≠ .lt a b) (el : evL e = some l) : (∃ zs, evW e = l :: zs) ∧ ¬ evW e = [Str.ofString "done"] ∧ ¬ evT e = .non := by
  cases e with
  | part => cases hr
  | done => cases hr
  | lt a b => exact absurd rfl (hl a b)
  | must => cases el; exact ⟨⟨_, rfl⟩, fun q => by have := congrArg List.length q; simp [evW] at this, fun q => by cases q⟩
  | may => cases el; exact ⟨⟨_, rfl⟩, fun q => by have := congrArg List.length q; simp [evW] at this, fun q => by cases q⟩
  | ban => cases el; exact ⟨⟨_, rfl⟩, fun q => by have := congrArg List.length q; simp [evW] at this, fun q => by cases q⟩
  | power => cases el; exact ⟨⟨_, rfl⟩, fun q => by have := congrArg List.length q; simp [evW] at this, fun q => by cases q⟩
/-- one event's row -/
theorem ev_step {e : Ev} {M : Md} {n h d : Nat} {es0 : List Ev} (hok : EvOk e) (ht : FlatF h M.frs es0) (hd : M.frs.length = d + 1) (r : List Ev) (hp : path d (e :: r)) (hn : 2 ≤ n) (hr : ¬ M.rooms = []) (hf : ∀ z, evL e = some z → ¬ (Sum.inr z : L2.Key) ∈ M.lab) :
    ∃ M1 h1 d1, Take M n (evW e) M1 ∧ FlatF h1 M1.frs (es0 ++ [e]) ∧ M1.frs.length = d1 + 1 ∧ path d1 r ∧ M1.rooms = M.rooms ∧ M1.parties = M.parties ∧ M1.acts = M.acts ∧ M1.lab = M.lab ++ ((evL e).toList.map Sum.inr) := by
  have hno := ev_none hok
  have hlen := ht.len
  have nn : ¬ (n : Int) = 0 ∧ ¬ (n : Int) = 1 := ⟨by omega, by omega⟩
  have hrow : isRow e = true → (∀ a b, e ≠ .lt a b) → ∀ l, evL e = some l → path d r → ∃ M1 h1 d1, Take M n (evW e) M1 ∧ FlatF h1 M1.frs (es0 ++ [e]) ∧ M1.frs.length = d1 + 1 ∧ path d1 r ∧ M1.rooms = M.rooms ∧ M1.parties = M.parties ∧ M1.acts = M.acts ∧ M1.lab = M.lab ++ ((evL e).toList.map Sum.inr) := by
    intro h1 h2 l el hp
    obtain ⟨⟨zs, ez⟩, hnd, hne⟩ := clause_step hok h1 h2 el
    have hcl := ev_clause hok h1 h2
    obtain ⟨f0, n1, r1, d1, ef⟩ := ht.last
    have hrs := RowStep.cl (M := M) hnd (hno.2.1 h1) (hno.2.2 h2) (by rw [hcl]; exact hne) ez (hf l el) ef
    refine ⟨_, h, d, .row nn hno.1 hr hrs, ?_, ?_, hp, rfl, rfl, rfl, by rw [el]; rfl⟩
    · rw [hcl]
      rw [ef] at ht
      exact ht.push hok h1
    · rw [ef] at hd
      simp at hd ⊢
      exact hd
  cases e with
  | part l rs =>
    obtain ⟨p1, p2⟩ := hp
    obtain ⟨h', rfl⟩ : ∃ h', h = h' + 1 := ⟨h - 1, by omega⟩
    refine ⟨_, h', d + 1, .row nn hno.1 hr (.part (fun q => ?_) (ev_part hok) (by omega) (hf l rfl)), .more ht hok (.nil h'), by simp [hd], p2, rfl, rfl, rfl, rfl⟩
    have := congrArg List.length q
    cases rs <;> simp [evW] at this
  | done =>
    obtain ⟨p1, p2⟩ := hp
    obtain ⟨f0, ⟨n1, r1, d1⟩, ⟨n2, r2, d2⟩, ef⟩ := two_last (l := M.frs) (by omega)
    refine ⟨_, h + 1, d - 1, .row nn hno.1 hr (.done rfl ef), ?_, ?_, p2, rfl, rfl, rfl, (List.append_nil _).symm⟩
    · rw [ef] at ht
      exact ht.close
    · rw [ef] at hd
      simp at hd ⊢
      omega
  | lt a b =>
    obtain ⟨f0, n1, r1, d1, ef⟩ := ht.last
    have hlet := ev_let hok
    refine ⟨_, h, d, .row nn hno.1 hr (.lt (fun q => ?_) (hno.2.1 rfl) (by rw [hlet]; exact fun q => by cases q) ef), ?_, ?_, hp, rfl, rfl, rfl, (List.append_nil _).symm⟩
    · have := congrArg List.length q
      simp [evW] at this
    · rw [hlet]
      rw [ef] at ht
      exact ht.push hok rfl
    · rw [ef] at hd
      simp at hd ⊢
      exact hd
  | must l w a n' r' => exact hrow rfl (fun _ _ q => by cases q) l rfl hp
  | may l w a => exact hrow rfl (fun _ _ q => by cases q) l rfl hp
  | ban l w a r' => exact hrow rfl (fun _ _ q => by cases q) l rfl hp
  | power l w a r' => exact hrow rfl (fun _ _ q => by cases q) l rfl hp
theorem takes_body : ∀ (r : List Ev) (M : Md) (n h d : Nat) (es0 : List Ev), (∀ e ∈ r, EvOk e) → FlatF h M.frs es0 → M.frs.length = d + 1 → path d r → 2 ≤ n → ¬ M.rooms = [] → (labs r).Nodup → (∀ z ∈ labs r, ¬ (Sum.inr z : L2.Key) ∈ M.lab) →
    ∃ M', Takes M' M n (r.map evW) ∧ (∃ ds, M'.frs = [(Str.ofString "whole", [], ds)] ∧ Flat 6 ds (es0 ++ r)) ∧ M'.rooms = M.rooms ∧ M'.parties = M.parties ∧ M'.acts = M.acts
  | [], M, n, h, d, es0, hok, ht, hd, hp, hn, hr, hnd, hf => by
    have hp : d = 0 := hp
    subst hp
    rw [List.append_nil]
    exact ⟨M, .nil n, ht.whole hd, rfl, rfl, rfl⟩
  | e :: r, M, n, h, d, es0, hok, ht, hd, hp, hn, hr, hnd, hf => by
    have hlabs : labs (e :: r) = (evL e).toList ++ labs r := by
      rw [labs_cons]
      cases evL e <;> rfl
    rw [hlabs] at hnd hf
    obtain ⟨M1, h1, d1, s1, s2, s3, s4, s5, s6, s7, s8⟩ := ev_step (hok e (by simp)) ht hd r hp hn hr fun z hz => hf z (by rw [hz]; simp)
    obtain ⟨nd1, nd2, nd3⟩ := List.nodup_append.mp hnd
    obtain ⟨M', t1, ⟨ds, t2, t3⟩, t4, t5, t6⟩ := takes_body r M1 (n + 1) h1 d1 (es0 ++ [e]) (fun x hx => hok x (by simp [hx])) s2 s3 s4 (by omega) (by rw [s5]; exact hr) nd2 (fun z hz q => by
      rw [s8] at q
      rcases List.mem_append.mp q with q | q
      · exact hf z (List.mem_append_right _ hz) q
      · obtain ⟨z', h1', h2'⟩ := List.mem_map.mp q
        cases h2'
        exact nd3 _ h1' _ hz rfl)
    refine ⟨M', .cons s1 (fun q => absurd (ev_none (hok e (by simp))).1 q) t1, ⟨ds, t2, ?_⟩, t4.trans s5, t5.trans s6, t6.trans s7⟩
    rw [List.append_assoc] at t3
    exact t3
/-! back from the tree -/
section
variable {β : Type} {env : List (Option W)} {st st' : Store} {k : W → EM β} {Q : Out β → SS → Prop}
theorem rl_extendT {n : Nat} {ws : List W} {zs : List D} (e : st[n]? = some (some (.lst ws))) (e2 : st.set n (some (.lst (ws ++ zs.map .d))) = st') (h : Run (k (.d .non)) ⟨env, st'⟩ Q) (hl : ws.length + zs.length ≤ 16777216) : Run (bnd (lft fun st => extendW st (.loc n) [.d (.lst zs)]) k) ⟨env, st⟩ Q := by
  refine rb_lft ?_ h
  unfold extendW lst1W wrL
  simp only [e, List.length_map, hl, if_true]
  rw [e2]
end
section
variable {a b c d : Str} {n : Int}
theorem lc_duty : F_law_clause [dutyD a b c n d] = some (.ok (.tup [.str "must", .str a, .str b, .str c, .int n, .str d])) := by
  unfold F_law_clause
  refine fp_eq [some (.d (dutyD a b c n d))] rfl ?_
  unfold b_law_clause dutyD
  walk_at "go"
  walk_at "known"
  all_goals rfl
theorem lc_ban : F_law_clause [banD a b c d] = some (.ok (.tup [.str "ban", .str a, .str b, .str c, .str d])) := by
  unfold F_law_clause
  refine fp_eq [some (.d (banD a b c d))] rfl ?_
  unfold b_law_clause banD
  walk_at "go"
  walk_at "known"
  all_goals rfl
theorem lc_power : F_law_clause [powerD a b c d] = some (.ok (.tup [.str "power", .str a, .str b, .str c, .str d])) := by
  unfold F_law_clause
  refine fp_eq [some (.d (powerD a b c d))] rfl ?_
  unfold b_law_clause powerD
  walk_at "go"
  walk_at "known"
  all_goals rfl
theorem lc_leave : F_law_clause [leaveD a b c] = some (.ok (.tup [.str "may", .str a, .str b, .str c])) := by
  unfold F_law_clause
  refine fp_eq [some (.d (leaveD a b c))] rfl ?_
  unfold b_law_clause leaveD
  walk_at "go"
  walk_at "known"
  all_goals rfl
end
/-- one tree of a row of trees, with its events -/
inductive Item : Nat → D → List Ev → Prop
  | row {h : Nat} {e : Ev} (ok : EvOk e) (r : isRow e = true) : Item h (evT e) [e]
  | part {h : Nat} {rows : List D} {ins : List Ev} {l : Str} {rs : List Str} (ok : EvOk (.part l rs)) (i : Flat h rows ins) : Item (h + 1) (ptD l rs rows) (Ev.part l rs :: (ins ++ [Ev.done]))
theorem Flat.items {h : Nat} {ds : List D} {es : List Ev} (t : Flat h ds es) : ∃ ps : List (D × List Ev), ds = ps.map Prod.fst ∧ es = ps.flatMap Prod.snd ∧ ∀ p ∈ ps, Item h p.1 p.2 := by
  induction t with
  | nil => exact ⟨[], rfl, rfl, fun _ h => nomatch h⟩
  | row t ok r ih =>
    obtain ⟨ps, h1, h2, h3⟩ := ih
    refine ⟨ps ++ [(_, _)], by rw [h1]; simp; rfl, by rw [h2]; simp; rfl, fun p hp => ?_⟩
    rcases List.mem_append.mp hp with hp | hp
    · exact h3 p hp
    · rw [List.mem_singleton.mp hp]
      exact .row ok r
  | part t ok i ih _ =>
    obtain ⟨ps, h1, h2, h3⟩ := ih
    refine ⟨ps ++ [(_, _)], by rw [h1]; simp; rfl, by rw [h2]; simp; rfl, fun p hp => ?_⟩
    rcases List.mem_append.mp hp with hp | hp
    · exact h3 p hp
    · rw [List.mem_singleton.mp hp]
      exact .part ok i
theorem found_ok : ∀ (k h : Nat) (ds : List D) (es : List Ev), Flat h ds es → h < k → es.length ≤ 1000 → R_law_found k [.lst ds] = some (.ok (.lst (es.map evD)))
  | 0, _, _, _, _, hk, _ => absurd hk (Nat.not_lt_zero _)
  | k + 1, h, ds, es, t, hk, hl => by
    have ih := found_ok k
    unfold R_law_found
    refine fp_eq [some (.d (.lst ds)), none, none] rfl ?_
    unfold b_law_found
    walk_at "go"
    obtain ⟨ps, rfl, rfl, hps⟩ := t.items
    refine rb_loop (f := fun p : D × List Ev => p.1) (fun l s => ∃ (y : Option W) (r : List (D × List Ev)), s = ⟨[some (.d (.lst (ps.map Prod.fst))), some (.loc 0), y], [some (.lst (((r.flatMap Prod.snd).map evD).map .d))]⟩ ∧ ps = r ++ l) ?_ ?_ _ _ ⟨_, [], rfl, rfl⟩
    · rintro ⟨d, q⟩ l s ⟨y, r, rfl, er⟩
      have hi := hps (d, q) (by rw [er]; simp)
      have hlen : (r.flatMap Prod.snd).length + q.length ≤ 1000 := by
        rw [er] at hl
        simp at hl ⊢
        omega
      have er2 : ps = (r ++ [(d, q)]) ++ l := by rw [er]; simp
      have hend : ∀ y, ∃ (y' : Option W) (r' : List (D × List Ev)), (⟨[some (.d (.lst (ps.map Prod.fst))), some (.loc 0), y], [some (.lst (((r.flatMap Prod.snd ++ q).map evD).map .d))]⟩ : SS) = ⟨[some (.d (.lst (ps.map Prod.fst))), some (.loc 0), y'], [some (.lst (((r'.flatMap Prod.snd).map evD).map .d))]⟩ ∧ ps = r' ++ l := fun y => ⟨y, r ++ [(d, q)], by simp, er2⟩
      generalize r.flatMap Prod.snd = zs at hlen hend
      have hend2 : ∀ y, ∃ (y' : Option W) (r' : List (D × List Ev)), (⟨[some (.d (.lst (ps.map Prod.fst))), some (.loc 0), y], [some (.lst ((zs.map evD).map .d ++ (q.map evD).map .d))]⟩ : SS) = ⟨[some (.d (.lst (ps.map Prod.fst))), some (.loc 0), y'], [some (.lst (((r'.flatMap Prod.snd).map evD).map .d))]⟩ ∧ ps = r' ++ l := fun y => by
        have := hend y
        rw [List.map_append, List.map_append] at this
        exact this
      have hl2 : ((zs.map evD).map W.d).length < 16777216 := by simp; omega
      cases hi with
      | row ok r =>
        rename_i e
        cases e with
        | part => cases r
        | done => cases r
        | lt a b =>
          dsimp only [evT, letD]
          walk_at "go"
          walk_at "known"
          · exact hend2 _
          · exact hl2
        | must l w a n r' =>
          have hc := lc_duty (a := l) (b := w) (c := a) (n := n) (d := r')
          dsimp only [evT, dutyD]
          unfold dutyD at hc
          walk_at "go"
          walk_at "known"
          · exact hend2 _
          · exact hl2
        | may l w a =>
          have hc := lc_leave (a := l) (b := w) (c := a)
          dsimp only [evT, leaveD]
          unfold leaveD at hc
          walk_at "go"
          walk_at "known"
          · exact hend2 _
          · exact hl2
        | ban l w a r' =>
          have hc := lc_ban (a := l) (b := w) (c := a) (d := r')
          dsimp only [evT, banD]
          unfold banD at hc
          walk_at "go"
          walk_at "known"
          · exact hend2 _
          · exact hl2
        | power l w a r' =>
          have hc := lc_power (a := l) (b := w) (c := a) (d := r')
          dsimp only [evT, powerD]
          unfold powerD at hc
          walk_at "go"
          walk_at "known"
          · exact hend2 _
          · exact hl2
      | @part h' rows ins l' rs ok i =>
        have hc := ih h' rows ins i (by omega) (by simp at hlen; omega)
        dsimp only [ptD]
        walk_at "go"
        walk_at "known"
        rotate_left 1
        · exact hl2
        refine rl_extendT rfl (by dsimp only [List.set] <;> exact rfl) ?_ (by simp at hlen ⊢; omega)
        walk_at "go"
        · have := hend2 (some (.d (.ins 7 [5, 7, 8] [.str l', strs' rs, .lst rows])))
          rw [List.map_cons, List.map_cons, List.map_append, List.map_append] at this
          rw [List.append_assoc, List.append_assoc]
          exact this
        · simp at hlen ⊢
          omega
    · rintro s ⟨y, r, rfl, er⟩
      rw [List.append_nil] at er
      subst er
      walk_at "go"
      exact rp_lst rfl (allD_map _) rfl
/-! rows of words, told -/
theorem str_ext {a b : Str} (h : a.cps.toList = b.cps.toList) : a = b := by
  cases a
  cases b
  simp at h
  simp [h]
theorem rowJ_one (a : Str) : rowJ [a] = a := by
  unfold rowJ
  exact (StrLaws.glued_eq_join _ _).trans rfl
theorem rowJ_cons (a b : Str) (r : List Str) : rowJ (a :: b :: r) = a ++ (Str.ofString " " ++ rowJ (b :: r)) := by
  have e1 : rowJ (a :: b :: r) = Str.join (Str.ofString " ") (a :: b :: r) := StrLaws.glued_eq_join _ _
  have e2 : rowJ (b :: r) = Str.join (Str.ofString " ") (b :: r) := StrLaws.glued_eq_join _ _
  rw [e1, e2]
  refine str_ext ?_
  show (_ ++ _ ++ _ : Str).cps.toList = _
  simp only [app_list, List.append_assoc]
theorem lit_let : Str.ofString "let " = Str.ofString "let" ++ Str.ofString " " := by decide +kernel
theorem lit_be : Str.ofString " be " = Str.ofString " " ++ (Str.ofString "be" ++ Str.ofString " ") := by decide +kernel
theorem lit_must : Str.ofString "must " = Str.ofString "must" ++ Str.ofString " " := by decide +kernel
theorem lit_by : Str.ofString " by " = Str.ofString " " ++ (Str.ofString "by" ++ Str.ofString " ") := by decide +kernel
theorem lit_by1 : Str.ofString "by " = Str.ofString "by" ++ Str.ofString " " := by decide +kernel
theorem lit_to : Str.ofString " to " = Str.ofString " " ++ (Str.ofString "to" ++ Str.ofString " ") := by decide +kernel
theorem lit_else : Str.ofString " else " = Str.ofString " " ++ (Str.ofString "else" ++ Str.ofString " ") := by decide +kernel
theorem lit_may : Str.ofString "may " = Str.ofString "may" ++ Str.ofString " " := by decide +kernel
theorem lit_maynot : Str.ofString "may not " = Str.ofString "may" ++ (Str.ofString " " ++ (Str.ofString "not" ++ Str.ofString " ")) := by decide +kernel
theorem who_len {z : Str} (h : whoB z = true) : z.length ≤ 8 := by
  unfold whoB at h
  rw [Bool.or_eq_true, decide_eq_true_eq] at h
  rcases h with h | h
  · rw [h]; decide +kernel
  · exact (name_len h).2
section
variable {β : Type} {env : List (Option W)} {st st' : Store} {k : W → EM β} {Q : Out β → SS → Prop}
theorem rl_mulLT {ds : List D} {n : Int} (hl : ds.length ≤ 1000 ∧ n ≤ 1000 ∧ 0 ≤ n) (h : Run (k (.d (.lst (List.replicate n.toNat ds).flatten))) ⟨env, st⟩ Q) : Run (bnd (lft fun st => mulA false st (.d (.lst ds)) (.d (.int n))) k) ⟨env, st⟩ Q := by
  refine rb_lft ?_ h
  show mulL false st (.d (.lst ds)) (.d (.int n)) = _
  unfold mulL lst1W
  simp only [List.length_map, hl, if_true, and_self]
  have : ∀ m : Nat, (List.replicate m (ds.map W.d)).flatten = ((List.replicate m ds).flatten).map W.d := by
    intro m
    rw [List.map_flatten, List.map_replicate]
  rw [this]
  unfold newL
  simp only [Bool.false_eq_true, if_false]
  rw [allD_map]
end
theorem ll_all : (Str.ofString "let ").length = 4 ∧ (Str.ofString " be ").length = 4 ∧ (Str.ofString "must ").length = 5 ∧ (Str.ofString " by ").length = 4 ∧ (Str.ofString "by ").length = 3 ∧ (Str.ofString " to ").length = 4 ∧ (Str.ofString " else ").length = 6 ∧ (Str.ofString "may ").length = 4 ∧ (Str.ofString "may not ").length = 8 ∧ (Str.ofString " ").length = 1 ∧ (Str.ofString "let").length = 3 ∧ (Str.ofString "be").length = 2 ∧ (Str.ofString "done").length = 4 := by decide +kernel
local macro_rules | `(tactic| walk_at "ln") => `(tactic| (have hlits := ll_all; (try simp only [Str.length_append]); omega))
theorem law_row_ok {e : Ev} (h : EvOk e) : F_law_row [evD e] = some (.ok (.str (rowJ (evW e)))) := by
  unfold F_law_row
  cases e with
  | part l rs =>
    obtain ⟨h1, h2, h3⟩ := h
    refine fp_eq [some (.d (.tup [.str "part", .str l, strs' rs])), none] rfl ?_
    unfold b_law_row
    walk_at "go"
    walk_at "known"
    have hok : okW (evW (.part l rs)) := (ev_okR (e := .part l rs) ⟨h1, h2, h3⟩).1
    refine rl_neSs (ys := []) (fun z hz => (gw_name (h2 z hz)).2.1) (fun _ h => nomatch h) ?_
    walk_at "go"
    cases rs with
    | nil =>
      rw [decide_eq_true rfl]
      walk_at "go"
      refine rl_mulLT ⟨by decide, by decide, by decide⟩ ?_
      walk_at "go"
      · refine rl_joinR (zs := evW (.part l [])) hok ?_
        walk_at "go"
        rfl
      all_goals simp
    | cons x rs =>
      rw [decide_eq_false (List.cons_ne_nil _ _)]
      walk_at "go"
      refine rl_mulLT ⟨by decide, by decide, by decide⟩ ?_
      walk_at "go"
      · refine rl_addL' (es := (x :: rs).map .str) ?_ ?_
        · walk_at "go"
          refine rl_joinR (zs := evW (.part l (x :: rs))) hok ?_
          walk_at "go"
          rfl
        · simp
          simp at h3
          omega
      all_goals simp
      all_goals simp at h3
      all_goals omega
  | done =>
    refine fp_eq [some (.d (.tup [.str "done"])), none] rfl ?_
    unfold b_law_row
    walk_at "go"
    walk_at "known"
    exact congrArg D.str (rowJ_one _).symm
  | lt a b =>
    have a1 := name_len h.1
    have a2 := name_len h.2
    refine fp_eq [some (.d (.tup [.str "let", .str a, .str b])), none] rfl ?_
    unfold b_law_row
    walk_at "go"
    walk_at "known"
    · refine congrArg D.str ?_
      simp only [evW, rowJ_cons, rowJ_one, lit_let, lit_be]
      refine str_ext ?_
      simp only [app_list, List.append_assoc]
    all_goals walk_at "ln"
  | must l w a n r =>
    have a1 := name_len h.1.1
    have a2 := name_len h.1.2.1
    have a3 := name_len h.1.2.2.1
    have a4 := name_len h.1.2.2.2
    have a5 := h.2
    have a6 := num_len (i := n) (by omega)
    refine fp_eq [some (.d (.tup [.str "must", .str l, .str w, .str a, .int n, .str r])), none] rfl ?_
    unfold b_law_row
    walk_at "go"
    walk_at "known"
    · refine rl_str ⟨by omega, by omega⟩ ?_
      walk_at "go"
      · refine congrArg D.str ?_
        simp only [evW, rowJ_cons, rowJ_one, lit_must, lit_by, lit_else]
        refine str_ext ?_
        simp only [app_list, List.append_assoc]
      all_goals walk_at "ln"
    all_goals walk_at "ln"
  | may l w a =>
    have a1 := name_len h.1
    have a2 := who_len h.2.1
    have a3 := name_len h.2.2
    refine fp_eq [some (.d (.tup [.str "may", .str l, .str w, .str a])), none] rfl ?_
    unfold b_law_row
    walk_at "go"
    walk_at "known"
    · refine congrArg D.str ?_
      simp only [evW, rowJ_cons, rowJ_one, lit_may]
      refine str_ext ?_
      simp only [app_list, List.append_assoc]
    all_goals walk_at "ln"
  | ban l w a r =>
    have a1 := name_len h.1
    have a2 := who_len h.2.1
    have a3 := name_len h.2.2.1
    have a4 := name_len h.2.2.2
    refine fp_eq [some (.d (.tup [.str "ban", .str l, .str w, .str a, .str r])), none] rfl ?_
    unfold b_law_row
    walk_at "go"
    walk_at "known"
    · refine congrArg D.str ?_
      simp only [evW, rowJ_cons, rowJ_one, lit_maynot, lit_else]
      refine str_ext ?_
      simp only [app_list, List.append_assoc]
    all_goals walk_at "ln"
  | power l w a r =>
    have a1 := name_len h.1
    have a2 := who_len h.2.1
    have a3 := name_len h.2.2.1
    have a4 := name_len h.2.2.2
    refine fp_eq [some (.d (.tup [.str "power", .str l, .str w, .str a, .str r])), none] rfl ?_
    unfold b_law_row
    walk_at "go"
    walk_at "known"
    · refine congrArg D.str ?_
      simp only [evW, rowJ_cons, rowJ_one, lit_by1, lit_to]
      refine str_ext ?_
      simp only [app_list, List.append_assoc]
    all_goals walk_at "ln"
end Math
namespace Math
open PySem EV Sem
local macro_rules | `(tactic| walk_at "go") => `(tactic| repeat (first
  | with_reducible refine St.run ?_
  | with_reducible refine Se.run ?_
  | (with_reducible refine gd_lft ?_; first 
        | (with_reducible refine gd_ix ?_; first 
        | with_reducible refine rl_ixI (by first | omega | (decide +kernel)) ?_ 
        | with_reducible refine rl_ixI' ?_ ?_ 
        | with_reducible refine rl_ixSk (by with_unfolding_all rfl) ?_ 
        | with_reducible refine rl_ixSs (by first | omega | (decide +kernel)) ?_ 
        | with_reducible refine rl_ixSs' ?_ ?_ 
        | with_reducible refine rl_ixZ (by omega) ?_ 
        | with_reducible refine rl_ixZ' ?_ ?_ 
        | with_reducible refine rl_ixT (by with_unfolding_all rfl) ?_ 
        | with_reducible refine rl_ixL (by with_unfolding_all rfl) ?_ 
        | with_reducible refine rl_ixO (by with_unfolding_all rfl) (by with_unfolding_all rfl) ?_) 
        | (with_reducible refine gd_add ?_; first 
        | with_reducible refine rl_addL (by decide) ?_ 
        | with_reducible refine rl_addS (by first | omega | (decide +kernel)) ?_ 
        | with_reducible refine rl_addS' ?_ ?_ 
        | with_reducible refine rl_addL' ?_ ?_) 
        | (with_reducible refine gd_int ?_; first 
        | with_reducible refine rl_mod (by decide) ?_ 
        | with_reducible refine rl_div (by decide) ?_ 
        | with_reducible refine rl_pow (by decide) ?_ 
        | with_reducible refine rl_mod (by first | omega | (decide +kernel)) ?_ 
        | with_reducible refine rl_div (by first | omega | (decide +kernel)) ?_ 
        | with_reducible refine rl_mod' ?_ ?_ 
        | with_reducible refine rl_div' ?_ ?_) 
        | (with_reducible refine gd_mul ?_; first 
        | with_reducible refine rl_mulI (Or.inr (by decide)) ?_ 
        | with_reducible refine rl_mulI (Or.inl (by decide)) ?_ 
        | with_reducible refine rl_mulI (by first | omega | (decide +kernel)) ?_ 
        | with_reducible refine rl_mulI' ?_ ?_ 
        | with_reducible refine rl_mulS' ?_ ?_) 
        | with_reducible refine rl_newF (by dsimp only [allD, Option.map] <;> exact rfl) ?_ 
        | with_reducible refine rl_append (by with_unfolding_all rfl) (by exact lt_len (by with_unfolding_all rfl)) (by dsimp only [List.set] <;> exact rfl) ?_ 
        | with_reducible refine rl_append' (by with_unfolding_all rfl) (by dsimp only [List.set] <;> exact rfl) ?_ ?_ 
        | with_reducible refine rl_splitR (by assumption) ?_ 
        | with_reducible refine rl_lenS (by first | omega | (decide +kernel)) ?_ 
        | with_reducible refine rl_lenS' ?_ ?_ 
        | with_reducible refine rl_slS (by first | omega | (decide +kernel)) ?_ 
        | with_reducible refine rl_slS' ?_ ?_ 
        | with_reducible refine rl_isi (by with_unfolding_all rfl) ?_ 
        | with_reducible refine rl_clear (by with_unfolding_all rfl) (by dsimp only [List.set] <;> exact rfl) ?_ 
        | with_reducible refine rl_inT ?_ 
        | with_reducible refine rl_inL ?_ 
        | with_reducible refine rl_ninT ?_ 
        | with_reducible refine rl_ninL ?_ 
        | with_reducible refine rl_newKO (by dsimp only [List.length_cons, List.length_nil, Nat.reduceAdd] <;> exact rfl) (by dsimp only [List.cons_append, List.nil_append] <;> exact rfl) ?_ 
        | with_reducible refine rl_dclear (by with_unfolding_all rfl) (by dsimp only [List.set] <;> exact rfl) ?_ 
        | with_reducible refine rl_newO (by dsimp only [List.length_cons, List.length_nil, Nat.reduceAdd] <;> exact rfl) (by dsimp only [List.cons_append, List.nil_append] <;> exact rfl) ?_)
  | (with_reducible refine gd_ite ?_; first 
        | with_reducible refine rb_iteDT rfl ?_ 
        | with_reducible refine rb_iteDnT rfl ?_ 
        | with_reducible refine rb_iteP (by decide) ?_ 
        | with_reducible refine rb_iteN (by decide) ?_)
  | with_reducible refine rb_asgT rfl (by dsimp only [setAll, List.map, List.set] <;> exact rfl) ?_
  | with_reducible refine rb_lstK (by exact Nat.le_of_ble_eq_true (by with_unfolding_all rfl)) ?_
  | with_reducible refine rb_bmK (by with_unfolding_all rfl) ?_
  | with_reducible refine rb_wip (by dsimp only [wipeO, List.set] <;> exact rfl) ?_
  | with_reducible refine rb_fldD (by with_unfolding_all rfl) ?_
  | with_reducible refine rb_fldK (by with_unfolding_all rfl) (by with_unfolding_all rfl) ?_
  | with_reducible refine rb_methK (by with_unfolding_all rfl) (by with_unfolding_all rfl) ?_
  | with_reducible refine rl_sfld (by with_unfolding_all rfl) (by with_unfolding_all rfl) (by dsimp [List.set, fput] <;> exact rfl) ?_
  | with_reducible refine rb_isD (by first | assumption | with_unfolding_all rfl) ?_
  | with_reducible refine rb_ren (by assumption) ?_
  | with_reducible refine rb_ren dct_sw ?_
  | with_reducible refine rb_treesK (by dsimp only [allD, Option.map] <;> exact rfl) ?_
  | with_reducible refine rb_tupK (by exact Nat.le_of_ble_eq_true (by with_unfolding_all rfl)) ?_
  | with_reducible refine rb_rg1 (by first | omega | (decide +kernel)) ?_
  | with_reducible refine rb_rg2 (by first | omega | (decide +kernel)) ?_
  | with_reducible refine rb_gPe (by dsimp only [allD, Option.map] <;> exact rfl) rfl (by assumption) ?_
  | with_reducible refine rb_gO (by dsimp only [allD, Option.map] <;> exact rfl) rfl (by assumption) (by dsimp only [List.length_cons, List.length_nil, Nat.reduceAdd] <;> exact rfl) (by dsimp only [List.cons_append, List.nil_append] <;> exact rfl) ?_))
local macro_rules | `(tactic| walk_at "len") => `(tactic| first
  | omega
  | (decide +kernel)
  | grind [L2.cutS_length, Str.length_append, chr1_len])
local macro_rules | `(tactic| walk_at "ok") => `(tactic| first
  | with_reducible assumption
  | ((with_reducible refine okS_app ?_ ?_) <;> walk_at "ok")
  | ((with_reducible refine okS_cut ?_) <;> walk_at "ok")
  | ((with_reducible refine okS_num ?_) <;> omega)
  | ((with_reducible refine okS_chr ?_) <;> omega)
  | (decide +kernel))
local macro_rules | `(tactic| walk_at "br") => `(tactic| first
  | with_reducible refine rb_iteDn (fun h1 => ?_) fun h1 => ?_
  | with_reducible refine rb_iteD (fun h1 => ?_) fun h1 => ?_
  | with_reducible refine rb_ite (fun h1 => ?_) fun h1 => ?_
  | refine rb_mkK rfl ?_)
local macro_rules | `(tactic| walk_at "known") => `(tactic| repeat' (first | (with_reducible refine rb_iteP rfl ?_; walk_at "go") | (with_reducible refine rb_iteN rfl ?_; walk_at "go")))
/-! the law's events -/
theorem names_at {N : Nat} {ns : List Str} (hn : ns.length = N ∧ ∀ z ∈ ns, nameB z = true) (i : Nat) (hi : i < N) : nameB (ns.getD i (Str.ofString "")) = true := by
  rw [List.getD_eq_getElem?_getD, List.getElem?_eq_getElem (by omega)]
  exact hn.2 _ (List.getElem_mem _)
theorem namesOk {α : Type} {l : List α} {ws : List W} (h : All2 (fun _ w => ∃ z : Str, w = W.d (.str z) ∧ nameB z = true) l ws) : ∃ zs : List Str, ws = sw zs ∧ zs.length = l.length ∧ ∀ z ∈ zs, nameB z = true := by
  induction h with
  | nil => exact ⟨[], rfl, rfl, fun _ h => nomatch h⟩
  | cons h _ ih =>
    obtain ⟨c, rfl, hc⟩ := h
    obtain ⟨zs, rfl, e, h⟩ := ih
    exact ⟨c :: zs, rfl, congrArg (· + 1) e, fun z hz => (List.mem_cons.mp hz).elim (fun e => e ▸ hc) (h z)⟩
theorem namesOf {P : Nat → Str → Prop} : ∀ {l : List Nat} {ws : List W}, All2 (fun i w => ∃ z : Str, w = W.d (.str z) ∧ P i z) l ws → ∃ zs : List Str, ws = sw zs ∧ zs.length = l.length ∧ ∀ k, k < l.length → P (l.getD k 0) (zs.getD k (Str.ofString "")) := by
  intro l ws h
  induction h with
  | nil => exact ⟨[], rfl, rfl, fun k hk => absurd hk (Nat.not_lt_zero _)⟩
  | cons h _ ih =>
    obtain ⟨z, rfl, hz⟩ := h
    obtain ⟨zs, rfl, e, h⟩ := ih
    refine ⟨z :: zs, rfl, congrArg (· + 1) e, fun k hk => ?_⟩
    cases k with
    | zero => exact hz
    | succ k => exact h k (Nat.lt_of_succ_lt_succ hk)
def dep : Ev → Nat → Nat
  | .part _ _, d => d + 1
  | .done, d => d - 1
  | _, d => d
def fits : Ev → Nat → Prop
  | .part _ _, d => d < 6
  | .done, d => 0 < d
  | _, _ => True
theorem path_cons {d : Nat} {e : Ev} {r : List Ev} (h1 : fits e d) (h2 : path (dep e d) r) : path d (e :: r) := by
  cases e with
  | part => exact ⟨h1, h2⟩
  | done => exact ⟨h1, h2⟩
  | _ => exact h2
theorem three {zs : List Str} (h : zs.length = 3) : ∃ a b c, zs = [a, b, c] := by
  match zs, h with
  | [a, b, c], _ => exact ⟨a, b, c, rfl⟩
theorem event_ok {ns : List Str} (hns : ns.length = 104 ∧ ∀ z ∈ ns, nameB z = true) (cell : Int) (l : Str) (hl : nameB l = true) (d : Nat) :
    ∃ x, F_law_event [strs' ns, .int cell, .str l, .int d] = some (.ok x) ∧ ∃ e, x = evD e ∧ EvOk e ∧ (∀ z, evL e = some z → z = l) ∧ fits e d := by
  unfold F_law_event
  refine fp_run [some (.d (strs' ns)), some (.d (.int cell)), some (.d (.str l)), some (.d (.int d)), none, none, none, none, none, none] rfl ?_
  unfold b_law_event
  obtain ⟨n3, m3, b3⟩ := mix_ok cell 3
  obtain ⟨n4, m4, b4⟩ := mix_ok cell 4
  obtain ⟨n5, m5, b5⟩ := mix_ok cell 5
  obtain ⟨n6, m6, b6⟩ := mix_ok cell 6
  walk_at "go"
  unfold rngL
  refine rb_compS (f := fun (i : Nat) => D.int (0 + (i : Int))) (fun _ w => ∃ z, w = W.d (.str z) ∧ nameB z = true) (by dsimp only [List.set] <;> exact rfl) (by rw [List.length_range]; omega) ?_ ?_
  · intro a ha env1 e
    dsimp only [List.set] at e
    subst e
    obtain ⟨m, hm, _⟩ := mix_ok cell (0 + (a : Int))
    walk_at "go"
    exact ⟨_, rfl, names_at hns _ (by omega)⟩
  intro ws hws
  obtain ⟨zs, rfl, ezs, hz⟩ := namesOk hws
  have ezs : zs.length = 3 := ezs
  obtain ⟨s0, s1, s2, rfl⟩ := three ezs
  clear hws ezs
  have hs0 := hz s0 (by simp)
  have hs1 := hz s1 (by simp)
  have hs2 := hz s2 (by simp)
  have hw0 : whoB s0 = true := by unfold whoB; rw [hs0]; simp
  refine rl_newF (allD_sw [s0, s1, s2]) ?_
  walk_at "go"
  refine rb_join (fun s => ∃ w, whoB w = true ∧ s = ⟨[some (.d (strs' ns)), some (.d (.int cell)), some (.d (.str l)), some (.d (.int d)), some (.d (.int (cell % 9))), some (.d (strs' [s0, s1, s2])), some (.d (.str w)), none, none, none], []⟩) ?_ ?_
  · refine rb_iteD (fun h => ?_) fun h => ?_
    · walk_at "go"
      exact ⟨_, by decide +kernel, rfl⟩
    · walk_at "go"
      exact ⟨_, hw0, rfl⟩
  rintro s ⟨w, hw, rfl⟩
  walk_at "go"
  refine rb_join (fun s => ∃ n, (1 ≤ n ∧ n < 100000000000000000000) ∧ s = ⟨[some (.d (strs' ns)), some (.d (.int cell)), some (.d (.str l)), some (.d (.int d)), some (.d (.int (cell % 9))), some (.d (strs' [s0, s1, s2])), some (.d (.str w)), some (.d (.int n)), none, none], []⟩) ?_ ?_
  · refine rb_iteD (fun h => ?_) fun h => ?_
    · walk_at "go"
      have e20 : (10 : Int) ^ Int.toNat 20 - 1 = 99999999999999999999 := by decide +kernel
      rw [e20]
      exact ⟨_, by omega, rfl⟩
    · walk_at "go"
      exact ⟨_, by omega, rfl⟩
  rintro s ⟨n, hn, rfl⟩
  walk_at "go"
  refine rb_val (fun b => b = decide (cell % 9 = 0 ∨ cell % 9 = 8)) ?_ ?_
  · refine rb_iteD (fun h => ?_) fun h => ?_
    · walk_at "go"
      exact Bool.eq_iff_iff.mpr (by simp [h])
    · walk_at "go"
      exact Bool.eq_iff_iff.mpr (by simp [h])
  intro b hb
  subst hb
  refine rb_val (fun b => b = decide ((cell % 9 = 0 ∨ cell % 9 = 8) ∧ d < 6)) ?_ ?_
  · refine rb_iteD (fun h => ?_) fun h => ?_
    · walk_at "go"
      exact Bool.eq_iff_iff.mpr (by simp [h]; try omega)
    · walk_at "go"
      exact Bool.eq_iff_iff.mpr (by simp [h])
  intro b hb
  subst hb
  refine rb_iteD (fun h => ?_) fun h => ?_
  · walk_at "go"
    unfold rngL
    refine rb_compS (f := fun (i : Nat) => D.int (0 + (i : Int))) (fun _ w => ∃ z, w = W.d (.str z) ∧ nameB z = true) (by dsimp only [List.set] <;> exact rfl) (by rw [List.length_range]; omega) ?_ ?_
    · intro a ha env1 e
      dsimp only [List.set] at e
      subst e
      obtain ⟨m, hm, _⟩ := mix_ok cell (7 + (0 + (a : Int)))
      walk_at "go"
      exact ⟨_, rfl, names_at hns _ (by omega)⟩
    intro ws hws
    obtain ⟨zs, rfl, ezs, hz⟩ := namesOk hws
    rw [List.length_range] at ezs
    refine rl_newF (allD_sw zs) ?_
    walk_at "go"
    exact ⟨.part l zs, rfl, ⟨hl, hz, by omega⟩, fun z e => (Option.some.inj e).symm, h.2⟩
  walk_at "go"
  refine rb_val (fun b => b = decide (cell % 9 = 1 ∧ 0 < d)) ?_ ?_
  · refine rb_iteD (fun h => ?_) fun h => ?_
    · walk_at "go"
      exact Bool.eq_iff_iff.mpr (by simp [h]; try omega)
    · walk_at "go"
      exact Bool.eq_iff_iff.mpr (by simp [h])
  intro b hb
  subst hb
  refine rb_iteD (fun h => ?_) fun h => ?_
  · walk_at "go"
    exact ⟨.done, rfl, trivial, fun z e => (nomatch e), h.2⟩
  walk_at "go"
  refine rb_iteD (fun h => ?_) fun h => ?_
  · walk_at "go"
    exact ⟨.lt s0 s1, rfl, ⟨hs0, hs1⟩, fun z e => (nomatch e), trivial⟩
  walk_at "go"
  refine rb_iteD (fun h => ?_) fun h => ?_
  · walk_at "go"
    exact ⟨.must l s0 s1 n s2, rfl, ⟨⟨hl, hs0, hs1, hs2⟩, hn⟩, fun z e => (Option.some.inj e).symm, trivial⟩
  walk_at "go"
  refine rb_iteD (fun h => ?_) fun h => ?_
  · walk_at "go"
    exact ⟨.may l w s1, rfl, ⟨hl, hw, hs1⟩, fun z e => (Option.some.inj e).symm, trivial⟩
  walk_at "go"
  refine rb_iteD (fun h => ?_) fun h => ?_
  · walk_at "go"
    exact ⟨.ban l w s1 s2, rfl, ⟨hl, hw, hs1, hs2⟩, fun z e => (Option.some.inj e).symm, trivial⟩
  walk_at "go"
  exact ⟨.power l w s1 s2, rfl, ⟨hl, hw, hs1, hs2⟩, fun z e => (Option.some.inj e).symm, trivial⟩
section
variable {β : Type} {env : List (Option W)} {st st' : Store} {k : W → EM β} {Q : Out β → SS → Prop}
theorem rl_addOT {n : Nat} {ws : List W} {ds zs : List D} (e : st[n]? = some (some (.lst ws))) (e2 : allD ws = some ds) (h : Run (k (.d (.lst (ds ++ zs)))) ⟨env, st⟩ Q) (hl : ds.length + zs.length ≤ 16777216) : Run (bnd (lft fun st => addA false st (.loc n) (.d (.lst zs))) k) ⟨env, st⟩ Q := by
  refine rb_lft ?_ h
  have e3 := allD_eq e2
  subst e3
  show catL false st (.loc n) (.d (.lst zs)) = _
  unfold catL lst1W
  simp only [e, List.length_map, hl, if_true]
  rw [← List.map_append]
  unfold newL
  simp only [Bool.false_eq_true, if_false]
  rw [allD_map]
end
/-- events lead from a depth to another -/
def runs : Nat → List Ev → Nat → Prop
  | d, [], k => d = k
  | d, e :: r, k => fits e d ∧ runs (dep e d) r k
theorem runs_snoc : ∀ {d : Nat} {es : List Ev} {k : Nat} {e : Ev}, runs d es k → fits e k → runs d (es ++ [e]) (dep e k)
  | d, [], k, e, h, f => by
    cases h
    exact ⟨f, rfl⟩
  | d, x :: r, k, e, h, f => ⟨h.1, runs_snoc h.2 f⟩
theorem path_done : ∀ k : Nat, path k (List.replicate k Ev.done)
  | 0 => rfl
  | k + 1 => ⟨Nat.succ_pos k, path_done k⟩
theorem runs_path : ∀ {d : Nat} {es : List Ev} {k : Nat}, runs d es k → path d (es ++ List.replicate k Ev.done)
  | d, [], k, h => by
    cases h
    exact path_done _
  | d, x :: r, k, h => path_cons h.1 (runs_path h.2)
def hdE : Ev → Str
  | .part _ _ => Str.ofString "part"
  | .done => Str.ofString "done"
  | .lt _ _ => Str.ofString "let"
  | .must _ _ _ _ _ => Str.ofString "must"
  | .may _ _ _ => Str.ofString "may"
  | .ban _ _ _ _ => Str.ofString "ban"
  | .power _ _ _ _ => Str.ofString "power"
theorem evD_hd (e : Ev) : ∃ tl, evD e = .tup (.str (hdE e) :: tl) := by cases e <;> exact ⟨_, rfl⟩
theorem dep_z {z : Str} {k : Nat} (h1 : ¬ z = Str.ofString "part") (h2 : ¬ z = Str.ofString "done") : (k : Int) + (if decide (z = Str.ofString "part") = true then 1 else 0) - (if decide (z = Str.ofString "done") = true then 1 else 0) = (k : Nat) := by
  rw [decide_eq_false h1, decide_eq_false h2]
  simp
theorem dep_hd {e : Ev} {k : Nat} (f : fits e k) : (k : Int) + (if decide (hdE e = Str.ofString "part") = true then 1 else 0) - (if decide (hdE e = Str.ofString "done") = true then 1 else 0) = (dep e k : Nat) := by
  cases e with
  | part =>
    have h2 : ¬ Str.ofString "part" = Str.ofString "done" := by decide +kernel
    simp [hdE, dep, h2]
  | done =>
    have f : 0 < k := f
    have h1 : ¬ Str.ofString "done" = Str.ofString "part" := by decide +kernel
    simp [hdE, dep, h1]
    omega
  | lt => exact dep_z (z := Str.ofString "let") (by decide +kernel) (by decide +kernel)
  | must => exact dep_z (z := Str.ofString "must") (by decide +kernel) (by decide +kernel)
  | may => exact dep_z (z := Str.ofString "may") (by decide +kernel) (by decide +kernel)
  | ban => exact dep_z (z := Str.ofString "ban") (by decide +kernel) (by decide +kernel)
  | power => exact dep_z (z := Str.ofString "power") (by decide +kernel) (by decide +kernel)
theorem labs_app (a b : List Ev) : labs (a ++ b) = labs a ++ labs b := by unfold labs; exact List.filterMap_append
theorem labs_done (k : Nat) : labs (List.replicate k Ev.done) = [] := by
  induction k with
  | zero => rfl
  | succ k ih => rw [List.replicate_succ, labs_cons]; exact ih
theorem flat_rep {α : Type} (x : α) : ∀ k : Nat, (List.replicate k [x]).flatten = List.replicate k x
  | 0 => rfl
  | k + 1 => by rw [List.replicate_succ, List.replicate_succ, List.flatten_cons, flat_rep x k]; rfl
theorem cut_len {α : Type} (xs : List α) : (cutW xs (some 3) (some 63)).length ≤ 60 := by
  unfold cutW HT.sIx
  rw [List.length_take]
  simp only
  rw [if_neg (by decide), if_neg (by decide)]
  omega
structure Names (ns : List Str) : Prop where
  n : ns.length = 104 ∧ ∀ z ∈ ns, nameB z = true
  d : ∀ i j : Nat, i < 104 → j < 104 → ns.getD i (Str.ofString "") = ns.getD j (Str.ofString "") → i = j
theorem events_ok {ns : List Str} (hns : Names ns) (sc : List Int) : ∃ x, F_law_events [strs' ns, .fls (sc.map .int)] = some (.ok x) ∧ ∃ es : List Ev, x = .lst (es.map evD) ∧ (∀ e ∈ es, EvOk e) ∧ path 0 es ∧ (labs es).Nodup ∧ es.length ≤ 66 := by
  unfold F_law_events
  refine fp_run [some (.d (strs' ns)), some (.d (.fls (sc.map .int))), none, none, none, none, none] rfl ?_
  unfold b_law_events
  obtain ⟨c2, hc2⟩ := cell_ok sc 2 (by decide)
  walk_at "go"
  have hcl := cut_len (sc.map D.int)
  generalize (cutW (sc.map D.int) (some 3) (some 63)).length = m at hcl
  walk_at "go"
  unfold rngL
  have elen : (List.range (m : Int).toNat).length = m := by rw [List.length_range]; omega
  have eb : ∃ base : Nat, c2 % 2 * 22 = (base : Int) ∧ base ≤ 22 := ⟨(c2 % 2 * 22).toNat, by omega, by omega⟩
  obtain ⟨base, eb, hb⟩ := eb
  rw [eb]
  refine rb_loop (f := fun (i : Nat) => D.int (0 + (i : Int))) (fun l s => ∃ (es : List Ev) (d : Nat) (y5 y6 : Option W), s = ⟨[some (.d (strs' ns)), some (.d (.fls (sc.map .int))), some (.d (.int base)), some (.loc 0), some (.d (.int d)), y5, y6], [some (.lst ((es.map evD).map .d))]⟩ ∧ l = (List.range (m : Int).toNat).drop es.length ∧ es.length ≤ 60 ∧ d ≤ 6 ∧
    (∀ e ∈ es, EvOk e) ∧ runs 0 es d ∧ (labs es).Nodup ∧ ∀ z ∈ labs es, ∃ j < es.length, z = ns.getD (base + j) (Str.ofString "")) ?_ ?_ _ _ ⟨[], 0, _, _, rfl, rfl, Nat.zero_le _, Nat.zero_le _, fun _ h => (nomatch h), rfl, List.nodup_nil, fun _ h => (nomatch h)⟩
  · rintro a l s ⟨es, d, y5, y6, rfl, el, hl60, hd6, hok, hru, hnd, hla⟩
    obtain ⟨rfl, ha2, el⟩ := drop_range el
    obtain ⟨c, hc⟩ := cell_ok sc (3 + (0 + (es.length : Int))) (by omega)
    have en := hns.n.1
    walk_at "go"
    · refine rb_gP (by dsimp only [allD, Option.map] <;> exact rfl) rfl (event_ok hns.n c _ (names_at hns.n _ (by omega)) d) ?_
      rintro x ⟨e, rfl, he, hle, hfi⟩
      obtain ⟨tl, etl⟩ := evD_hd e
      have hdep := dep_hd hfi
      walk_at "go"
      rw [etl]
      have hat : L2.atI (D.str (hdE e) :: tl) 0 = some (D.str (hdE e)) := by
        rw [atI_get (d := .non) ⟨by decide, by simp⟩]
        rfl
      refine rl_ixT hat ?_
      walk_at "go"
      refine rl_ixT hat ?_
      walk_at "go"
      · rw [hdep, ← etl]
        have e1 : es.length + 1 = (es ++ [e]).length := by rw [List.length_append]; rfl
        refine ⟨es ++ [e], dep e d, some (.d (.int (0 + (es.length : Int)))), some (.d (evD e)), ?_, ?_, ?_, ?_, ?_, runs_snoc hru hfi, ?_, ?_⟩
        · rw [List.map_append, List.map_append]
          rfl
        · rw [← e1]
          exact el
        · rw [← e1]
          omega
        · cases e with
          | part => have hfi : d < 6 := hfi; show d + 1 ≤ 6; omega
          | done => show d - 1 ≤ 6; omega
          | _ => exact hd6
        · intro x hx
          rcases List.mem_append.mp hx with h | h
          · exact hok x h
          · rw [List.mem_singleton.mp h]; exact he
        · rw [labs_app]
          refine List.nodup_append.mpr ⟨hnd, ?_, ?_⟩
          · unfold labs
            cases q : evL e <;> simp [q]
          · intro y hy z hz q
            subst q
            obtain ⟨j, hj, ej⟩ := hla y hy
            have hz2 : evL e = some y := by
              unfold labs at hz
              cases q : evL e <;> simp [q] at hz
              rw [hz]
            have := hle y hz2
            rw [ej] at this
            have := hns.d _ _ (by omega) (by omega) this
            omega
        · intro z hz
          rw [labs_app] at hz
          rcases List.mem_append.mp hz with h | h
          · obtain ⟨j, hj, ej⟩ := hla z h
            exact ⟨j, by omega, ej⟩
          · have hz2 : evL e = some z := by
              unfold labs at h
              cases q : evL e <;> simp [q] at h
              rw [h]
            refine ⟨es.length, by omega, ?_⟩
            rw [hle z hz2]
            congr 1
            omega
      · rw [List.length_map, List.length_map]
        omega
  · rintro s ⟨es, d, y5, y6, rfl, el, hl60, hd6, hok, hru, hnd, hla⟩
    walk_at "go"
    refine rl_mulLT ⟨by decide, by omega, by omega⟩ ?_
    walk_at "go"
    refine rl_addOT rfl (allD_map _) ?_ ?_
    · walk_at "go"
      rw [flat_rep]
      refine ⟨es ++ List.replicate d Ev.done, ?_, fun e he => ?_, runs_path hru, ?_, ?_⟩
      · rw [List.map_append, List.map_replicate]
        rfl
      · rcases List.mem_append.mp he with h | h
        · exact hok e h
        · rw [List.eq_of_mem_replicate h]; trivial
      · rw [labs_app, labs_done, List.append_nil]
        exact hnd
      · rw [List.length_append, List.length_replicate]
        omega
    · rw [flat_rep, List.length_map, List.length_replicate]
      omega
/-! header -/
def roomD (r : Str × Str) : D := .tup [.str r.1, .str r.2]
structure Hdr (ps as : List Str) (rs : List (Str × Str)) : Prop where
  p : ps ≠ [] ∧ ps.length ≤ 4
  a : as ≠ [] ∧ as.length ≤ 6
  r : rs ≠ [] ∧ rs.length ≤ 12
  pn : ∀ z ∈ ps, nameB z = true
  an : ∀ z ∈ as, nameB z = true
  rn : ∀ r ∈ rs, r.1 ∈ marksL ∧ nameB r.2 = true
  nd : (ps ++ (as ++ rs.map Prod.snd)).Nodup
theorem cut_mid {α : Type} {xs : List α} {a b : Nat} (h : a ≤ b ∧ b ≤ xs.length) : cutW xs (some (a : Int)) (some (b : Int)) = (xs.drop a).take (b - a) := by
  unfold cutW HT.sIx
  simp only
  rw [if_neg (by omega), if_neg (by omega)]
  have e1 : min ((a : Int)).toNat xs.length = a := by omega
  have e2 : min ((b : Int)).toNat xs.length = b := by omega
  rw [e1, e2]
theorem Names.nodup {ns : List Str} (h : Names ns) : ns.Nodup := by
  unfold List.Nodup
  rw [List.pairwise_iff_getElem]
  intro i j hi hj hij e
  have en := h.n.1
  have := h.d i j (by omega) (by omega) (by
    rw [List.getD_eq_getElem?_getD, List.getD_eq_getElem?_getD, List.getElem?_eq_getElem hi, List.getElem?_eq_getElem hj]
    exact e)
  omega
theorem cuts_sub {α : Type} (ns : List α) {a b r : Nat} (ha : a ≤ 4) (hb : b ≤ 6) : (ns.take a ++ ((ns.drop 4).take b ++ (ns.drop 10).take r)).Sublist ns := by
  have h1 : (ns.take a).Sublist (ns.take 4) := by
    have : ns.take a = (ns.take 4).take a := by rw [List.take_take, Nat.min_eq_left ha]
    rw [this]
    exact List.take_sublist _ _
  have h2 : ((ns.drop 4).take b).Sublist ((ns.drop 4).take 6) := by
    have : (ns.drop 4).take b = ((ns.drop 4).take 6).take b := by rw [List.take_take, Nat.min_eq_left hb]
    rw [this]
    exact List.take_sublist _ _
  have h3 : ((ns.drop 10).take r).Sublist (ns.drop 10) := List.take_sublist _ _
  have e1 : ns.drop 10 = (ns.drop 4).drop 6 := by rw [List.drop_drop]
  have h4 : ((ns.drop 4).take b ++ (ns.drop 10).take r).Sublist (ns.drop 4) := by
    have := h2.append h3
    rw [e1, List.take_append_drop] at this
    rw [e1]
    exact this
  have := h1.append h4
  rw [List.take_append_drop] at this
  exact this
theorem header_ok {ns : List Str} (hns : Names ns) (c : Int) (hc : 0 ≤ c) : ∃ x, F_law_header [strs' ns, .int c] = some (.ok x) ∧ ∃ ps as rs, x = .tup [strs' ps, strs' as, .lst (rs.map roomD)] ∧ Hdr ps as rs := by
  unfold F_law_header
  refine fp_run [some (.d (strs' ns)), some (.d (.int c)), none, none, none, none] rfl ?_
  unfold b_law_header
  have en := hns.n.1
  obtain ⟨a, ea, ha⟩ : ∃ a : Nat, 1 + c % 4 = (a : Int) ∧ 1 ≤ a ∧ a ≤ 4 := ⟨(1 + c % 4).toNat, by omega, by omega⟩
  obtain ⟨b, eb, hb⟩ : ∃ b : Nat, 5 + c / 4 % 6 = (b : Int) ∧ 5 ≤ b ∧ b ≤ 10 := ⟨(5 + c / 4 % 6).toNat, by omega, by omega⟩
  obtain ⟨m, em, hm⟩ : ∃ m : Nat, 1 + c / 24 % 12 = (m : Int) ∧ 1 ≤ m ∧ m ≤ 12 := ⟨(1 + c / 24 % 12).toNat, by omega, by omega⟩
  walk_at "go"
  have e4 : cutW ns (some 4) (some (b : Int)) = (ns.drop 4).take (b - 4) := cut_mid (a := 4) (b := b) (by omega)
  rw [ea, eb, em, cut_upto (a := a) (by omega), e4]
  walk_at "go"
  unfold rngL
  have elen : (List.range (m : Int).toNat).length = m := by rw [List.length_range]; omega
  refine rb_loop (f := fun (i : Nat) => D.int (0 + (i : Int))) (fun l s => ∃ (rs : List (Str × Str)) (y5 : Option W), s = ⟨[some (.d (strs' ns)), some (.d (.int c)), some (.d (strs' (ns.take a))), some (.d (strs' ((ns.drop 4).take (b - 4)))), some (.loc 0), y5], [some (.lst ((rs.map roomD).map .d))]⟩ ∧ l = (List.range (m : Int).toNat).drop rs.length ∧ rs.length ≤ m ∧
    (∀ r ∈ rs, r.1 ∈ marksL ∧ nameB r.2 = true) ∧ rs.map Prod.snd = (ns.drop 10).take rs.length) ?_ ?_ _ _ ⟨[], _, rfl, rfl, Nat.zero_le _, fun _ h => (nomatch h), rfl⟩
  · rintro x l s ⟨rs, y5, rfl, el, hl, hok, hta⟩
    obtain ⟨rfl, ha2, el⟩ := drop_range el
    obtain ⟨n, hn, bn⟩ := mix_ok c (0 + (rs.length : Int))
    walk_at "go"
    refine rl_ixSs (xs := marksL) ⟨by omega, by have : marksL.length = 3 := rfl; omega⟩ ?_
    walk_at "go"
    · have e1 : ∀ r : Str × Str, rs.length + 1 = (rs ++ [r]).length := fun r => by rw [List.length_append]; rfl
      refine ⟨rs ++ [(marksL.getD (n % 3).toNat (Str.ofString ""), ns.getD (10 + (0 + (rs.length : Int))).toNat (Str.ofString ""))], some (.d (.int (0 + (rs.length : Int)))), ?_, ?_, ?_, ?_, ?_⟩
      · rw [List.map_append, List.map_append]
        rfl
      · rw [← e1]; exact el
      · rw [← e1]; omega
      · intro r hr
        rcases List.mem_append.mp hr with h | h
        · exact hok r h
        · rw [List.mem_singleton.mp h]
          have hmk : ∀ i < 3, marksL.getD i (Str.ofString "") ∈ marksL := by decide +kernel
          exact ⟨hmk _ (by omega), names_at hns.n _ (by omega)⟩
      · rw [List.map_append, ← e1, List.take_add_one, hta]
        congr 1
        rw [List.getElem?_drop, List.getElem?_eq_getElem (by omega)]
        have e2 : (10 + (0 + (rs.length : Int))).toNat = 10 + rs.length := by omega
        simp only [e2, List.map_cons, List.map_nil, List.getD_eq_getElem?_getD]
        rw [List.getElem?_eq_getElem (by omega)]
        rfl
    · rw [List.length_map, List.length_map]
      omega
  · rintro s ⟨rs, y5, rfl, el, hl, hok, hta⟩
    have hlen : rs.length = m := by
      have := congrArg List.length el
      rw [List.length_drop, elen] at this
      have : 0 = m - rs.length := this
      omega
    walk_at "go"
    refine rb_frzO rfl (allD_map _) rfl rfl ?_
    walk_at "go"
    refine ⟨_, _, _, rfl, ⟨fun e => ?_, ?_⟩, ⟨fun e => ?_, ?_⟩, ⟨fun e => ?_, by omega⟩, fun z hz => hns.n.2 z (List.mem_of_mem_take hz), fun z hz => hns.n.2 z (List.mem_of_mem_drop (List.mem_of_mem_take hz)), hok, ?_⟩
    · have := congrArg List.length e
      rw [List.length_take, en] at this
      have : min a 104 = 0 := this
      omega
    · rw [List.length_take]; omega
    · have := congrArg List.length e
      rw [List.length_take, List.length_drop, en] at this
      have : min (b - 4) (104 - 4) = 0 := this
      omega
    · rw [List.length_take]; omega
    · rw [e] at hlen
      have : 0 = m := hlen
      omega
    · rw [hta]
      exact (cuts_sub ns (by omega) (by omega)).nodup hns.nodup
/-! the whole text -/
def rowsW (ps as : List Str) (rs : List (Str × Str)) (es : List Ev) : List (List Str) := (Str.ofString "parties" :: ps) :: (Str.ofString "acts" :: as) :: (rs.map (fun r => [r.1, r.2]) ++ es.map evW)
theorem gw_strs {zs : List Str} (h : ∀ z ∈ zs, nameB z = true) : ∀ w ∈ zs, gw w := fun w hw => gw_name (h w hw)
theorem gw_mark : ∀ z ∈ marksL, gw z := by decide +kernel
theorem rows_okR {ps as : List Str} {rs : List (Str × Str)} {es : List Ev} (h : Hdr ps as rs) (he : ∀ e ∈ es, EvOk e) : ∀ ws ∈ rowsW ps as rs es, okR ws := by
  intro ws hws
  unfold rowsW at hws
  rcases List.mem_cons.mp hws with rfl | hws
  · have := h.p.2
    exact okR_of (List.cons_ne_nil _ _) (by simp; omega) (gws (gw_kept _ (by decide +kernel)) (gw_strs h.pn))
  rcases List.mem_cons.mp hws with rfl | hws
  · have := h.a.2
    exact okR_of (List.cons_ne_nil _ _) (by simp; omega) (gws (gw_kept _ (by decide +kernel)) (gw_strs h.an))
  rcases List.mem_append.mp hws with hws | hws
  · obtain ⟨r, hr, rfl⟩ := List.mem_map.mp hws
    have := h.rn r hr
    exact okR_of (List.cons_ne_nil _ _) (by simp) (gws (gw_mark _ this.1) (gws (gw_name this.2) gws_nil))
  · obtain ⟨e, h2, rfl⟩ := List.mem_map.mp hws
    exact ev_okR (he e h2)
theorem lit_par : Str.ofString "parties " = Str.ofString "parties" ++ Str.ofString " " := by decide +kernel
theorem lit_act : Str.ofString "acts " = Str.ofString "acts" ++ Str.ofString " " := by decide +kernel
theorem head_row {a a' : Str} {r : List Str} (e : a' = a ++ Str.ofString " ") (h : r ≠ []) : a' ++ rowJ r = rowJ (a :: r) := by
  cases r with
  | nil => exact absurd rfl h
  | cons b r =>
    rw [rowJ_cons, e]
    refine str_ext ?_
    simp only [app_list, List.append_assoc]
theorem row2J (a b : Str) : rowJ [a, b] = a ++ Str.ofString " " ++ b := by
  rw [rowJ_cons, rowJ_one]
  refine str_ext ?_
  simp only [app_list, List.append_assoc]
theorem rowsOf {es : List Ev} {ws : List W} (h : All2 (fun e w => w = W.d (.str (rowJ (evW e)))) es ws) : ws = sw (es.map fun e => rowJ (evW e)) := by
  induction h with
  | nil => rfl
  | cons h _ ih => rw [h, ih]; rfl
theorem mark_len : ∀ z ∈ marksL, z.length ≤ 4 := by decide +kernel
theorem law_rows_ok {ps as : List Str} {rs : List (Str × Str)} {es : List Ev} (h : Hdr ps as rs) (he : ∀ e ∈ es, EvOk e) (hl : es.length ≤ 66) : F_law_rows [.tup [strs' ps, strs' as, .lst (rs.map roomD)], .lst (es.map evD)] = some (.ok (strs' ((rowsW ps as rs es).map rowJ))) := by
  unfold F_law_rows
  refine fp_eq [some (.d (.tup [strs' ps, strs' as, .lst (rs.map roomD)])), some (.d (.lst (es.map evD))), none, none, none, none] rfl ?_
  unfold b_law_rows
  have hp := h.p.2
  have ha := h.a.2
  have hr := h.r.2
  have okp : okW ps := ⟨h.p.1, by omega, fun w hw => (gw_name (h.pn w hw)).1⟩
  have oka : okW as := ⟨h.a.1, by omega, fun w hw => (gw_name (h.an w hw)).1⟩
  have lp := rowJ_len okp
  have la := rowJ_len oka
  walk_at "go"
  refine rl_joinR okp ?_
  walk_at "go"
  rotate_left 1
  · have : (Str.ofString "parties ").length = 8 := by decide +kernel
    omega
  refine rl_joinR oka ?_
  walk_at "go"
  rotate_left 1
  · have : (Str.ofString "acts ").length = 5 := by decide +kernel
    omega
  rw [head_row lit_par h.p.1, head_row lit_act h.a.1]
  refine rb_loop (f := roomD) (fun l s => ∃ (q : List (Str × Str)) (y3 y4 : Option W), s = ⟨[some (.d (.tup [strs' ps, strs' as, .lst (rs.map roomD)])), some (.d (.lst (es.map evD))), some (.loc 0), y3, y4, none], [some (.lst (sw (rowJ (Str.ofString "parties" :: ps) :: rowJ (Str.ofString "acts" :: as) :: q.map fun r => rowJ [r.1, r.2])))]⟩ ∧ rs = q ++ l) ?_ ?_ _ _ ⟨[], _, _, rfl, rfl⟩
  · rintro ⟨mk, z⟩ l s ⟨q, y3, y4, rfl, er⟩
    have hrn := h.rn (mk, z) (by rw [er]; simp)
    have hm := mark_len _ hrn.1
    have hz := name_len hrn.2
    have hq : q.length ≤ 12 := by
      rw [er] at hr
      simp at hr
      omega
    unfold roomD
    walk_at "go"
    · refine ⟨q ++ [(mk, z)], some (.d (.str mk)), some (.d (.str z)), ?_, by rw [er]; simp⟩
      rw [← row2J]
      unfold sw
      simp only [List.map_append, List.map_cons, List.map_nil, List.cons_append]
    · unfold sw
      simp
      omega
    all_goals (have hlits := ll_all; (try simp only [Str.length_append]); simp only at hm hz; omega)
  · rintro s ⟨q, y3, y4, rfl, er⟩
    rw [List.append_nil] at er
    subst er
    walk_at "go"
    refine rb_compS (f := evD) (fun e w => w = W.d (.str (rowJ (evW e)))) (by dsimp only [List.set] <;> exact rfl) (by omega) ?_ ?_
    · intro e hm env1 e1
      dsimp only [List.set] at e1
      subst e1
      have := law_row_ok (he e hm)
      walk_at "go"
      rfl
    intro ws hws
    rw [rowsOf hws]
    refine rl_newF (allD_sw _) ?_
    refine rl_addOT rfl (allD_sw _) ?_ ?_
    · walk_at "go"
      unfold rowsW strs'
      simp only [List.map_append, List.map_cons, List.map_map, List.cons_append]
      rfl
    · simp
      omega
theorem Take.par {M : Md} {n : Int} {ws zs : List Str} (e : n = 0) (ez : namesW ws (Str.ofString "parties") 4 = zs) (h1 : ¬ zs = []) (h2 : Fresh M.hdr zs) : Take M n ws { M with parties := M.parties ++ zs, hdr := M.hdr ++ zs.map .inr } := by
  subst ez
  exact .parties e h1 h2
theorem Take.act {M : Md} {n : Int} {ws zs : List Str} (e : n = 1) (ez : namesW ws (Str.ofString "acts") 6 = zs) (h1 : ¬ zs = []) (h2 : Fresh M.hdr zs) : Take M n ws { M with acts := M.acts ++ zs, hdr := M.hdr ++ zs.map .inr } := by
  subst ez
  exact .acts e h1 h2
theorem namesW_ok {zs : List Str} {w : Str} {m : Int} (h : ∀ z ∈ zs, nameB z = true) (hl : (zs.length : Int) ≤ m) : namesW (w :: zs) w m = zs := by
  rw [namesW_c, if_neg]
  rintro (q | q | q)
  · exact q rfl
  · omega
  · rw [List.all_eq_true.mpr h] at q
    cases q
theorem inr_mem {zs : List Str} {z : Str} (h : (Sum.inr z : L2.Key) ∈ zs.map (Sum.inr : Str → L2.Key)) : z ∈ zs := by
  obtain ⟨y, h1, h2⟩ := List.mem_map.mp h
  cases h2
  exact h1
theorem takes_rooms : ∀ (rs : List (Str × Str)) (M : Md) (n : Nat), 2 ≤ n → M.frs = [(Str.ofString "whole", [], [])] → M.rooms.length + rs.length ≤ 12 → (∀ r ∈ rs, r.1 ∈ marksL ∧ nameB r.2 = true) → (rs.map Prod.snd).Nodup → (∀ z ∈ rs.map Prod.snd, ¬ (Sum.inr z : L2.Key) ∈ M.hdr) →
    ∃ M1, (∀ Me rest, Takes Me M1 (n + rs.length) rest → Takes Me M n (rs.map (fun r => [r.1, r.2]) ++ rest)) ∧ M1.frs = M.frs ∧ M1.rooms = M.rooms ++ rs.map roomD ∧ M1.parties = M.parties ∧ M1.acts = M.acts ∧ M1.lab = M.lab
  | [], M, n, hn, hf, hl, hok, hnd, hh => ⟨M, fun _ _ t => t, rfl, (List.append_nil _).symm, rfl, rfl, rfl⟩
  | r :: rs, M, n, hn, hf, hl, hok, hnd, hh => by
    have hr := hok r (by simp)
    have hw : roomW [r.1, r.2] = .tup [.str r.1, .str r.2] := if_pos (by simp [hr.1, hr.2])
    have ht : Take M n [r.1, r.2] { M with rooms := M.rooms ++ [.tup [.str r.1, .str r.2]], hdr := M.hdr ++ [.inr r.2] } := .room ⟨by omega, by omega⟩ hw (by rw [hf]; rfl) (fun e => by simp at hl; omega) (hh _ (by simp))
    obtain ⟨nd1, nd2⟩ := List.nodup_cons.mp (show (r.2 :: rs.map Prod.snd).Nodup from hnd)
    obtain ⟨M1, h1, h2, h3, h4, h5, h6⟩ := takes_rooms rs { M with rooms := M.rooms ++ [.tup [.str r.1, .str r.2]], hdr := M.hdr ++ [.inr r.2] } (n + 1) (by omega) hf (by simp at hl ⊢; omega) (fun x hx => hok x (by simp [hx])) nd2 (fun z hz q => by
      rcases List.mem_append.mp q with q | q
      · exact hh z (List.mem_cons_of_mem _ hz) q
      · have := Sum.inr.inj (List.mem_singleton.mp q)
        exact nd1 (this ▸ hz))
    refine ⟨M1, fun Me rest t => .cons ht (fun _ n1 r1 d1 e => ?_) (h1 Me rest ?_), h2, ?_, h4, h5, h6⟩
    · rw [hf] at e
      cases e
      rfl
    · have e : n + (r :: rs).length = n + 1 + rs.length := by simp; omega
      rw [e] at t
      exact t
    · rw [h3]
      simp [roomD]
theorem text_reads {ps as : List Str} {rs : List (Str × Str)} {es : List Ev} (h : Hdr ps as rs) (he : ∀ e ∈ es, EvOk e) (hp : path 0 es) (hn : (labs es).Nodup) (hl : es.length ≤ 66) :
    ∃ ds, F_read [.str (textJ (rowsW ps as rs es))] = some (.ok (.ins 8 [9, 10, 7, 11] [strs' ps, strs' as, .lst (rs.map roomD), ptD (Str.ofString "whole") [] ds])) ∧ Flat 6 ds es := by
  obtain ⟨d1, d2, d3⟩ := List.nodup_append.mp h.nd
  obtain ⟨d4, d5, d6⟩ := List.nodup_append.mp d2
  have hr := h.r.2
  have t0 : Take md0 (0 : Nat) (Str.ofString "parties" :: ps) { md0 with parties := md0.parties ++ ps, hdr := md0.hdr ++ ps.map .inr } := Take.par rfl (namesW_ok h.pn (by have := h.p.2; omega)) h.p.1 ⟨d1, fun z _ q => (nomatch q)⟩
  have t1 : Take { md0 with parties := md0.parties ++ ps, hdr := md0.hdr ++ ps.map .inr } (1 : Nat) (Str.ofString "acts" :: as) { md0 with parties := md0.parties ++ ps, acts := md0.acts ++ as, hdr := (md0.hdr ++ ps.map .inr) ++ as.map .inr } := Take.act rfl (namesW_ok h.an (by have := h.a.2; omega)) h.a.1 ⟨d4, fun z hz q => d3 z (inr_mem q) z (List.mem_append_left _ hz) rfl⟩
  obtain ⟨M1, h1, h2, h3, h4, h5, h6⟩ := takes_rooms rs { md0 with parties := md0.parties ++ ps, acts := md0.acts ++ as, hdr := (md0.hdr ++ ps.map .inr) ++ as.map .inr } 2 (by decide) rfl (by show 0 + _ ≤ 12; omega) h.rn d5 (fun z hz q => by
    rcases List.mem_append.mp q with q | q
    · exact d3 z (inr_mem q) z (List.mem_append_right _ hz) rfl
    · exact d6 z (inr_mem q) z hz rfl)
  have hrooms : M1.rooms = rs.map roomD := h3
  have hrn : ¬ M1.rooms = [] := by
    rw [hrooms]
    intro e
    exact h.r.1 (List.map_eq_nil_iff.mp e)
  have hf1 : M1.frs = [(Str.ofString "whole", [], [])] := h2
  obtain ⟨M', b1, ⟨ds, b2, b3⟩, b4, b5, b6⟩ := takes_body es M1 (2 + rs.length) 6 0 [] he (by rw [hf1]; exact .one (.nil 6)) (by rw [hf1]; rfl) hp (by omega) hrn hn (fun z _ q => by rw [h6] at q; cases q)
  have htakes : Takes M' md0 0 (rowsW ps as rs es) := .cons t0 (fun _ n1 r1 d1 e => by cases e; rfl) (.cons t1 (fun _ n1 r1 d1 e => by cases e; rfl) (h1 M' _ b1))
  have hrd := read_ok (rows := rowsW ps as rs es) (List.cons_ne_nil _ _) (rows_okR h he) (by unfold rowsW; simp; omega) htakes (by rw [b4]; exact hrn) b2
  refine ⟨ds, ?_, b3⟩
  rw [hrd]
  unfold pactD
  rw [b5, b6, b4, h4, h5, hrooms]
  rfl
section
variable {β : Type} {env : List (Option W)} {st : Store} {k : W → EM β} {Q : Out β → SS → Prop}
theorem rl_joinT {rows : List (List Str)} (hk : ∀ ws ∈ rows, okR ws) (hl : rows.length ≤ 90) (h : Run (k (.d (.str (textJ rows)))) ⟨env, st⟩ Q) : Run (bnd (lft fun st => joinW st (.d (.str (Str.ofString "; "))) [.d (strs' (rows.map rowJ))]) k) ⟨env, st⟩ Q := by
  refine rb_lft ?_ h
  have := (text_len hk hl).2
  unfold joinW strs'
  simp only [snap_d, strsD_map]
  have e : (Str.ofString "; ").length = 2 := rfl
  rw [e, if_pos this]
  rfl
end
theorem textJ_one (a : List Str) : textJ [a] = rowJ a := by
  unfold textJ
  exact (StrLaws.glued_eq_join _ _).trans rfl
theorem textJ_cons (a b : List Str) (r : List (List Str)) : textJ (a :: b :: r) = rowJ a ++ (Str.ofString "; " ++ textJ (b :: r)) := by
  have e1 : textJ (a :: b :: r) = Str.join (Str.ofString "; ") ((a :: b :: r).map rowJ) := StrLaws.glued_eq_join _ _
  have e2 : textJ (b :: r) = Str.join (Str.ofString "; ") ((b :: r).map rowJ) := StrLaws.glued_eq_join _ _
  rw [e1, e2]
  refine str_ext ?_
  show (_ ++ _ ++ _ : Str).cps.toList = _
  simp only [app_list, List.append_assoc]
end Math
namespace Math
open PySem EV Sem
local macro_rules | `(tactic| walk_at "go") => `(tactic| repeat (first
  | with_reducible refine St.run ?_
  | with_reducible refine Se.run ?_
  | (with_reducible refine gd_lft ?_; first 
        | (with_reducible refine gd_ix ?_; first 
        | with_reducible refine rl_ixI (by first | omega | (decide +kernel)) ?_ 
        | with_reducible refine rl_ixI' ?_ ?_ 
        | with_reducible refine rl_ixSk (by with_unfolding_all rfl) ?_ 
        | with_reducible refine rl_ixSs (by first | omega | (decide +kernel)) ?_ 
        | with_reducible refine rl_ixSs' ?_ ?_ 
        | with_reducible refine rl_ixZ (by omega) ?_ 
        | with_reducible refine rl_ixZ' ?_ ?_ 
        | with_reducible refine rl_ixT (by with_unfolding_all rfl) ?_ 
        | with_reducible refine rl_ixL (by with_unfolding_all rfl) ?_ 
        | with_reducible refine rl_ixO (by with_unfolding_all rfl) (by with_unfolding_all rfl) ?_) 
        | (with_reducible refine gd_add ?_; first 
        | with_reducible refine rl_addL (by decide) ?_ 
        | with_reducible refine rl_addS (by first | omega | (decide +kernel)) ?_ 
        | with_reducible refine rl_addS' ?_ ?_ 
        | with_reducible refine rl_addL' ?_ ?_) 
        | (with_reducible refine gd_int ?_; first 
        | with_reducible refine rl_mod (by decide) ?_ 
        | with_reducible refine rl_div (by decide) ?_ 
        | with_reducible refine rl_pow (by decide) ?_ 
        | with_reducible refine rl_mod (by first | omega | (decide +kernel)) ?_ 
        | with_reducible refine rl_div (by first | omega | (decide +kernel)) ?_ 
        | with_reducible refine rl_mod' ?_ ?_ 
        | with_reducible refine rl_div' ?_ ?_) 
        | (with_reducible refine gd_mul ?_; first 
        | with_reducible refine rl_mulI (Or.inr (by decide)) ?_ 
        | with_reducible refine rl_mulI (Or.inl (by decide)) ?_ 
        | with_reducible refine rl_mulI (by first | omega | (decide +kernel)) ?_ 
        | with_reducible refine rl_mulI' ?_ ?_ 
        | with_reducible refine rl_mulS' ?_ ?_) 
        | with_reducible refine rl_newF (by dsimp only [allD, Option.map] <;> exact rfl) ?_ 
        | with_reducible refine rl_append (by with_unfolding_all rfl) (by exact lt_len (by with_unfolding_all rfl)) (by dsimp only [List.set] <;> exact rfl) ?_ 
        | with_reducible refine rl_append' (by with_unfolding_all rfl) (by dsimp only [List.set] <;> exact rfl) ?_ ?_ 
        | with_reducible refine rl_splitR (by assumption) ?_ 
        | with_reducible refine rl_lenS (by first | omega | (decide +kernel)) ?_ 
        | with_reducible refine rl_lenS' ?_ ?_ 
        | with_reducible refine rl_slS (by first | omega | (decide +kernel)) ?_ 
        | with_reducible refine rl_slS' ?_ ?_ 
        | with_reducible refine rl_isi (by with_unfolding_all rfl) ?_ 
        | with_reducible refine rl_clear (by with_unfolding_all rfl) (by dsimp only [List.set] <;> exact rfl) ?_ 
        | with_reducible refine rl_inT ?_ 
        | with_reducible refine rl_inL ?_ 
        | with_reducible refine rl_ninT ?_ 
        | with_reducible refine rl_ninL ?_ 
        | with_reducible refine rl_newKO (by dsimp only [List.length_cons, List.length_nil, Nat.reduceAdd] <;> exact rfl) (by dsimp only [List.cons_append, List.nil_append] <;> exact rfl) ?_ 
        | with_reducible refine rl_dclear (by with_unfolding_all rfl) (by dsimp only [List.set] <;> exact rfl) ?_ 
        | with_reducible refine rl_newO (by dsimp only [List.length_cons, List.length_nil, Nat.reduceAdd] <;> exact rfl) (by dsimp only [List.cons_append, List.nil_append] <;> exact rfl) ?_)
  | (with_reducible refine gd_ite ?_; first 
        | with_reducible refine rb_iteDT rfl ?_ 
        | with_reducible refine rb_iteDnT rfl ?_ 
        | with_reducible refine rb_iteP (by decide) ?_ 
        | with_reducible refine rb_iteN (by decide) ?_)
  | with_reducible refine rb_asgT rfl (by dsimp only [setAll, List.map, List.set] <;> exact rfl) ?_
  | with_reducible refine rb_lstK (by exact Nat.le_of_ble_eq_true (by with_unfolding_all rfl)) ?_
  | with_reducible refine rb_bmK (by with_unfolding_all rfl) ?_
  | with_reducible refine rb_wip (by dsimp only [wipeO, List.set] <;> exact rfl) ?_
  | with_reducible refine rb_fldD (by with_unfolding_all rfl) ?_
  | with_reducible refine rb_fldK (by with_unfolding_all rfl) (by with_unfolding_all rfl) ?_
  | with_reducible refine rb_methK (by with_unfolding_all rfl) (by with_unfolding_all rfl) ?_
  | with_reducible refine rl_sfld (by with_unfolding_all rfl) (by with_unfolding_all rfl) (by dsimp [List.set, fput] <;> exact rfl) ?_
  | with_reducible refine rb_isD (by first | assumption | with_unfolding_all rfl) ?_
  | with_reducible refine rb_ren (by assumption) ?_
  | with_reducible refine rb_ren dct_sw ?_
  | with_reducible refine rb_treesK (by dsimp only [allD, Option.map] <;> exact rfl) ?_
  | with_reducible refine rb_tupK (by exact Nat.le_of_ble_eq_true (by with_unfolding_all rfl)) ?_
  | with_reducible refine rb_rg1 (by first | omega | (decide +kernel)) ?_
  | with_reducible refine rb_rg2 (by first | omega | (decide +kernel)) ?_
  | with_reducible refine rb_gPe (by dsimp only [allD, Option.map] <;> exact rfl) rfl (by assumption) ?_
  | with_reducible refine rb_gO (by dsimp only [allD, Option.map] <;> exact rfl) rfl (by assumption) (by dsimp only [List.length_cons, List.length_nil, Nat.reduceAdd] <;> exact rfl) (by dsimp only [List.cons_append, List.nil_append] <;> exact rfl) ?_))
local macro_rules | `(tactic| walk_at "len") => `(tactic| first
  | omega
  | (decide +kernel)
  | grind [L2.cutS_length, Str.length_append, chr1_len])
local macro_rules | `(tactic| walk_at "ok") => `(tactic| first
  | with_reducible assumption
  | ((with_reducible refine okS_app ?_ ?_) <;> walk_at "ok")
  | ((with_reducible refine okS_cut ?_) <;> walk_at "ok")
  | ((with_reducible refine okS_num ?_) <;> omega)
  | ((with_reducible refine okS_chr ?_) <;> omega)
  | (decide +kernel))
local macro_rules | `(tactic| walk_at "br") => `(tactic| first
  | with_reducible refine rb_iteDn (fun h1 => ?_) fun h1 => ?_
  | with_reducible refine rb_iteD (fun h1 => ?_) fun h1 => ?_
  | with_reducible refine rb_ite (fun h1 => ?_) fun h1 => ?_
  | refine rb_mkK rfl ?_)
local macro_rules | `(tactic| walk_at "known") => `(tactic| repeat' (first | (with_reducible refine rb_iteP rfl ?_; walk_at "go") | (with_reducible refine rb_iteN rfl ?_; walk_at "go")))
theorem evD_ok {e : Ev} (h : EvOk e) : okN 2 (evD e) := by
  have s : ∀ {z : Str}, nameB z = true → okN 1 (.str z) := fun h => okN_str (gw_name h).2.1
  have w : ∀ {z : Str}, whoB z = true → okN 1 (.str z) := fun h => okN_str (gw_who h).2.1
  have l : ∀ {z : Str}, okS z → okN 1 (.str z) := fun h => okN_str h
  cases e with
  | part a rs => exact okN_tup (okNs_cons (l (by decide +kernel)) (okNs_cons (s h.1) (okNs_cons (okN_strs fun z hz => (gw_name (h.2.1 z hz)).2.1) okNs_nil)))
  | done => exact okN_tup (okNs_cons (l (by decide +kernel)) okNs_nil)
  | lt a b => exact okN_tup (okNs_cons (l (by decide +kernel)) (okNs_cons (s h.1) (okNs_cons (s h.2) okNs_nil)))
  | must a b c n d => exact okN_tup (okNs_cons (l (by decide +kernel)) (okNs_cons (s h.1.1) (okNs_cons (s h.1.2.1) (okNs_cons (s h.1.2.2.1) (okNs_cons okN_int (okNs_cons (s h.1.2.2.2) okNs_nil))))))
  | may a b c => exact okN_tup (okNs_cons (l (by decide +kernel)) (okNs_cons (s h.1) (okNs_cons (w h.2.1) (okNs_cons (s h.2.2) okNs_nil))))
  | ban a b c d => exact okN_tup (okNs_cons (l (by decide +kernel)) (okNs_cons (s h.1) (okNs_cons (w h.2.1) (okNs_cons (s h.2.2.1) (okNs_cons (s h.2.2.2) okNs_nil)))))
  | power a b c d => exact okN_tup (okNs_cons (l (by decide +kernel)) (okNs_cons (s h.1) (okNs_cons (w h.2.1) (okNs_cons (s h.2.2.1) (okNs_cons (s h.2.2.2) okNs_nil)))))
theorem bools {rs : List (Str × Str)} {ws : List W} (h : All2 (fun _ w => w = W.d (.bl true)) rs ws) : ws = (List.replicate rs.length (D.bl true)).map W.d := by
  induction h with
  | nil => rfl
  | cons h _ ih => rw [h, ih]; rfl
theorem law_right_ok {ps as : List Str} {rs : List (Str × Str)} {es : List Ev} {ds : List D} (h : Hdr ps as rs) (he : ∀ e ∈ es, EvOk e) (hl : es.length ≤ 66) (hf : Flat 6 ds es) :
    F_law_right [.ins 8 [9, 10, 7, 11] [strs' ps, strs' as, .lst (rs.map roomD), ptD (Str.ofString "whole") [] ds], .tup [strs' ps, strs' as, .lst (rs.map roomD)], .lst (es.map evD)] = some (.ok (.bl true)) := by
  unfold F_law_right
  refine fp_eq [some (.d (.ins 8 [9, 10, 7, 11] [strs' ps, strs' as, .lst (rs.map roomD), ptD (Str.ofString "whole") [] ds])), some (.d (.tup [strs' ps, strs' as, .lst (rs.map roomD)])), some (.d (.lst (es.map evD))), none] rfl ?_
  unfold b_law_right ptD
  have hfound : F_law_found [.lst ds] = _ := found_ok 8 6 ds es hf (by decide) (by omega)
  have hr := h.r.2
  walk_at "go"
  walk_at "known"
  refine rb_compS (f := roomD) (fun _ w => w = W.d (.bl true)) (by dsimp only [List.set] <;> exact rfl) (by omega) ?_ ?_
  · intro r hm env1 e1
    dsimp only [List.set] at e1
    subst e1
    unfold roomD
    walk_at "go"
    rfl
  intro ws hws
  rw [bools hws]
  refine rl_newF (allD_map _) ?_
  walk_at "go"
  refine rl_mulLT ⟨by decide, by rw [List.length_map]; omega, by omega⟩ ?_
  rw [List.length_map, flat_rep, Int.toNat_natCast]
  refine rl_neL (n := 2) (okN_lst (okNs_all fun d hd => by rw [List.eq_of_mem_replicate hd]; exact okN_bl)) (by decide) ?_
  walk_at "go"
  refine rl_neL (okN_strs (n := 0) fun z hz => (gw_name (h.pn z hz)).2.1) (by decide) ?_
  walk_at "go"
  refine rl_neL (okN_strs (n := 0) fun z hz => (gw_name (h.an z hz)).2.1) (by decide) ?_
  walk_at "go"
  refine rl_neL (n := 2) (okN_lst (okNs_all fun d hd => by
    obtain ⟨r, hr, rfl⟩ := List.mem_map.mp hd
    have := h.rn r hr
    exact okN_tup (okNs_cons (okN_str (gw_mark _ this.1).2.1) (okNs_cons (okN_str (gw_name this.2).2.1) okNs_nil)))) (by decide) ?_
  walk_at "go"
  refine rl_neL (n := 1) (d := .lst []) (okN_lst okNs_nil) (by decide) ?_
  walk_at "go"
  refine rl_eqL (n := 3) (okN_lst (okNs_all fun d hd => by
    obtain ⟨e, hm, rfl⟩ := List.mem_map.mp hd
    exact evD_ok (he e hm))) (by decide) ?_
  walk_at "go"
  rfl
theorem lit_act2 : Str.ofString "; acts " = Str.ofString "; " ++ (Str.ofString "acts" ++ Str.ofString " ") := by decide +kernel
theorem lit_end2 : Str.ofString "; end " = Str.ofString "; " ++ (Str.ofString "end" ++ Str.ofString " ") := by decide +kernel
theorem small_text (a b c : Str) : Str.ofString "parties " ++ a ++ Str.ofString "; acts " ++ b ++ Str.ofString "; end " ++ c = textJ (rowsW [a] [b] [(Str.ofString "end", c)] []) := by
  unfold rowsW
  simp only [List.map_cons, List.map_nil, List.append_nil, textJ_cons, textJ_one, rowJ_cons, rowJ_one, lit_par, lit_act2, lit_end2]
  refine str_ext ?_
  simp only [app_list, List.append_assoc]
theorem law_true (ns : List Int) (hl : ns.length ≤ 63) : F_law [.fls (ns.map .int)] = some (.ok (.bl true)) := by
  unfold F_law
  refine fp_eq [some (.d (.fls (ns.map .int))), none, none, none, none, none, none, none] rfl ?_
  unfold b_law
  obtain ⟨c0, hc0⟩ := cell_ok ns 0 (by decide)
  obtain ⟨c1, hc1⟩ := cell_ok ns 1 (by decide)
  obtain ⟨m, hm, bm⟩ := mix_ok c1 60
  obtain ⟨m2, hm2, bm2⟩ := mix_ok c0 61
  walk_at "go"
  unfold rngL
  refine rb_compS (f := fun (i : Nat) => D.int (0 + (i : Int))) (fun i w => ∃ z, w = W.d (.str z) ∧ NameOf m (0 + (i : Int)) z) (by dsimp only [List.set] <;> exact rfl) (by decide) ?_ ?_
  · intro a ha env1 e
    dsimp only [List.set] at e
    subst e
    have ha := List.mem_range.mp ha
    have ha : a < 104 := ha
    walk_at "go"
    refine rb_gP (by dsimp only [allD, Option.map] <;> exact rfl) rfl (name_ok m (0 + (a : Int)) bm (by omega)) ?_
    rintro d ⟨z, rfl, hz⟩
    walk_at "go"
    exact ⟨z, rfl, hz⟩
  intro ws hws
  obtain ⟨names, rfl, en, hn⟩ := namesOf (P := fun i z => NameOf m (0 + (i : Int)) z) hws
  have en : names.length = 104 := en
  have hn : ∀ k : Nat, k < 104 → NameOf m (0 + (k : Int)) (names.getD k (Str.ofString "")) := fun k hk => by
    have := hn k hk
    have e : (List.range (Int.toNat 104)).getD k 0 = k := by
      rw [List.getD_eq_getElem?_getD, List.getElem?_range (by exact hk)]
      rfl
    rw [e] at this
    exact this
  have hN : Names names := ⟨⟨en, fun z hz => by
    obtain ⟨i, hi, rfl⟩ := List.getElem_of_mem hz
    have := (hn i (by omega)).1
    rw [List.getD_eq_getElem?_getD, List.getElem?_eq_getElem hi] at this
    exact this⟩, fun i j hi hj e => by
    have := names_differ bm.1 (by omega) (by omega) (hn i hi) (hn j hj) e
    omega⟩
  clear hws hn
  refine rl_newF (allD_sw names) ?_
  rw [show D.lst (List.map D.str names) = strs' names from rfl]
  walk_at "go"
  refine rb_gP (by dsimp only [allD, Option.map] <;> exact rfl) rfl (header_ok hN m2 bm2.1) ?_
  rintro x ⟨ps, as, rs, rfl, hh⟩
  walk_at "go"
  refine rb_gP (by dsimp only [allD, Option.map] <;> exact rfl) rfl (events_ok hN ns) ?_
  rintro x ⟨es, rfl, he, hp, hnd, hel⟩
  have hrows := law_rows_ok hh he hel
  have hokR := rows_okR hh he
  have hr := hh.r.2
  have hlen : (rowsW ps as rs es).length ≤ 90 := by unfold rowsW; simp; omega
  obtain ⟨ds, hread, hflat⟩ := text_reads hh he hp hnd hel
  have hright := law_right_ok hh he hel hflat
  walk_at "go"
  refine rl_joinT hokR hlen ?_
  have a5 := names_at hN.n (Int.toNat 5) (by decide)
  have a6 := names_at hN.n (Int.toNat 6) (by decide)
  have a7 := names_at hN.n (Int.toNat 7) (by decide)
  have l5 := (name_len a5).2
  have l6 := (name_len a6).2
  have l7 := (name_len a7).2
  have d56 : ¬ names.getD (Int.toNat 5) (Str.ofString "") = names.getD (Int.toNat 6) (Str.ofString "") := fun e => absurd (hN.d 5 6 (by decide) (by decide) e) (by decide)
  have d57 : ¬ names.getD (Int.toNat 5) (Str.ofString "") = names.getD (Int.toNat 7) (Str.ofString "") := fun e => absurd (hN.d 5 7 (by decide) (by decide) e) (by decide)
  have d67 : ¬ names.getD (Int.toNat 6) (Str.ofString "") = names.getD (Int.toNat 7) (Str.ofString "") := fun e => absurd (hN.d 6 7 (by decide) (by decide) e) (by decide)
  have ll2 : (Str.ofString "parties ").length = 8 ∧ (Str.ofString "; acts ").length = 7 ∧ (Str.ofString "; end ").length = 6 := by decide +kernel
  have hh2 : Hdr [names.getD (Int.toNat 5) (Str.ofString "")] [names.getD (Int.toNat 6) (Str.ofString "")] [(Str.ofString "end", names.getD (Int.toNat 7) (Str.ofString ""))] := ⟨⟨by simp, by simp⟩, ⟨by simp, by simp⟩, ⟨by simp, by simp⟩, fun z hz => by rw [List.mem_singleton.mp hz]; exact a5, fun z hz => by rw [List.mem_singleton.mp hz]; exact a6, fun r hr => by rw [List.mem_singleton.mp hr]; exact ⟨(by decide +kernel : Str.ofString "end" ∈ marksL), a7⟩, by
    refine List.nodup_cons.mpr ⟨?_, List.nodup_cons.mpr ⟨?_, List.nodup_cons.mpr ⟨List.not_mem_nil, List.nodup_nil⟩⟩⟩
    · intro q
      rcases List.mem_cons.mp q with q | q
      · exact d56 q
      · exact d57 (List.mem_singleton.mp q)
    · intro q
      exact d67 (List.mem_singleton.mp q)⟩
  obtain ⟨ds2, hread2, hflat2⟩ := text_reads (es := []) hh2 (fun _ h => nomatch h) rfl List.nodup_nil (by decide)
  have hright2 := law_right_ok (es := []) hh2 (fun _ h => nomatch h) (by decide) hflat2
  rw [← small_text] at hread2
  unfold strs' roomD at hread2 hright2
  simp only [List.map_cons, List.map_nil] at hread2 hright2
  walk_at "go"
  · rfl
  all_goals (simp only [Str.length_append]; omega)
end Math
namespace Walk
open PySem PySem.Spec PyProof.Rows L2 EV Sem
def topS (i : Nat) : Stmt := PySem.Challenge.pw_pactway_k23_read.main.body.getD i (.Pass ⟨0, 0, 0, 0⟩)
abbrev s_NoText__init : Stmt := (inClass (topS 3) 0)
abbrev n_NoText__init : List Str := ["self", "row"]
theorem sc_NoText__init : FnScope n_NoText__init ["self", "row"] (defScope s_NoText__init) := ⟨rfl, rfl, rfl, by decide +kernel, rfl, by decide +kernel, by decide +kernel⟩
abbrev s_Clause__init : Stmt := (inClass (topS 6) 0)
abbrev n_Clause__init : List Str := ["self", "label", "who", "act"]
theorem sc_Clause__init : FnScope n_Clause__init ["self", "label", "who", "act"] (defScope s_Clause__init) := ⟨rfl, rfl, rfl, by decide +kernel, rfl, by decide +kernel, by decide +kernel⟩
abbrev s_Duty__init : Stmt := (inClass (topS 7) 0)
abbrev n_Duty__init : List Str := ["self", "label", "who", "act", "turns", "room"]
theorem sc_Duty__init : FnScope n_Duty__init ["self", "label", "who", "act", "turns", "room"] (defScope s_Duty__init) := ⟨rfl, rfl, rfl, by decide +kernel, rfl, by decide +kernel, by decide +kernel⟩
abbrev s_Ban__init : Stmt := (inClass (topS 9) 0)
abbrev n_Ban__init : List Str := ["self", "label", "who", "act", "room"]
theorem sc_Ban__init : FnScope n_Ban__init ["self", "label", "who", "act", "room"] (defScope s_Ban__init) := ⟨rfl, rfl, rfl, by decide +kernel, rfl, by decide +kernel, by decide +kernel⟩
abbrev s_Power__init : Stmt := (inClass (topS 10) 0)
abbrev n_Power__init : List Str := ["self", "label", "who", "act", "room"]
theorem sc_Power__init : FnScope n_Power__init ["self", "label", "who", "act", "room"] (defScope s_Power__init) := ⟨rfl, rfl, rfl, by decide +kernel, rfl, by decide +kernel, by decide +kernel⟩
abbrev s_Let__init : Stmt := (inClass (topS 12) 0)
abbrev n_Let__init : List Str := ["self", "name", "value"]
theorem sc_Let__init : FnScope n_Let__init ["self", "name", "value"] (defScope s_Let__init) := ⟨rfl, rfl, rfl, by decide +kernel, rfl, by decide +kernel, by decide +kernel⟩
abbrev s_Part__init : Stmt := (inClass (topS 13) 0)
abbrev n_Part__init : List Str := ["self", "name", "rooms", "rows"]
theorem sc_Part__init : FnScope n_Part__init ["self", "name", "rooms", "rows"] (defScope s_Part__init) := ⟨rfl, rfl, rfl, by decide +kernel, rfl, by decide +kernel, by decide +kernel⟩
abbrev s_Pact__init : Stmt := (inClass (topS 14) 0)
abbrev n_Pact__init : List Str := ["self", "parties", "acts", "rooms", "whole"]
theorem sc_Pact__init : FnScope n_Pact__init ["self", "parties", "acts", "rooms", "whole"] (defScope s_Pact__init) := ⟨rfl, rfl, rfl, by decide +kernel, rfl, by decide +kernel, by decide +kernel⟩
abbrev s_is_name : Stmt := (topS 21)
abbrev n_is_name : List Str := ["word", "letter"]
theorem sc_is_name : FnScope n_is_name ["word"] (defScope s_is_name) := ⟨rfl, rfl, rfl, by decide +kernel, rfl, by decide +kernel, by decide +kernel⟩
abbrev s_number_of : Stmt := (topS 22)
abbrev n_number_of : List Str := ["word", "sign"]
theorem sc_number_of : FnScope n_number_of ["word"] (defScope s_number_of) := ⟨rfl, rfl, rfl, by decide +kernel, rfl, by decide +kernel, by decide +kernel⟩
abbrev s_duty_of : Stmt := (topS 26)
abbrev n_duty_of : List Str := ["words"]
theorem sc_duty_of : FnScope n_duty_of ["words"] (defScope s_duty_of) := ⟨rfl, rfl, rfl, by decide +kernel, rfl, by decide +kernel, by decide +kernel⟩
abbrev s_ban_of : Stmt := (topS 27)
abbrev n_ban_of : List Str := ["words"]
theorem sc_ban_of : FnScope n_ban_of ["words"] (defScope s_ban_of) := ⟨rfl, rfl, rfl, by decide +kernel, rfl, by decide +kernel, by decide +kernel⟩
abbrev s_power_of : Stmt := (topS 28)
abbrev n_power_of : List Str := ["words"]
theorem sc_power_of : FnScope n_power_of ["words"] (defScope s_power_of) := ⟨rfl, rfl, rfl, by decide +kernel, rfl, by decide +kernel, by decide +kernel⟩
abbrev s_clause_of : Stmt := (topS 29)
abbrev n_clause_of : List Str := ["row", "words"]
theorem sc_clause_of : FnScope n_clause_of ["row"] (defScope s_clause_of) := ⟨rfl, rfl, rfl, by decide +kernel, rfl, by decide +kernel, by decide +kernel⟩
abbrev s_let_of : Stmt := (topS 30)
abbrev n_let_of : List Str := ["row", "words"]
theorem sc_let_of : FnScope n_let_of ["row"] (defScope s_let_of) := ⟨rfl, rfl, rfl, by decide +kernel, rfl, by decide +kernel, by decide +kernel⟩
abbrev s_names_of : Stmt := (topS 31)
abbrev n_names_of : List Str := ["row", "word", "most", "words", "name"]
theorem sc_names_of : FnScope n_names_of ["row", "word", "most"] (defScope s_names_of) := ⟨rfl, rfl, rfl, by decide +kernel, rfl, by decide +kernel, by decide +kernel⟩
abbrev s_part_of : Stmt := (topS 32)
abbrev n_part_of : List Str := ["row", "words", "rooms"]
theorem sc_part_of : FnScope n_part_of ["row"] (defScope s_part_of) := ⟨rfl, rfl, rfl, by decide +kernel, rfl, by decide +kernel, by decide +kernel⟩
abbrev s_room_of : Stmt := (topS 33)
abbrev n_room_of : List Str := ["row", "words"]
theorem sc_room_of : FnScope n_room_of ["row"] (defScope s_room_of) := ⟨rfl, rfl, rfl, by decide +kernel, rfl, by decide +kernel, by decide +kernel⟩
abbrev s_Reading__init : Stmt := (inClass (topS 39) 0)
abbrev n_Reading__init : List Str := ["self"]
theorem sc_Reading__init : FnScope n_Reading__init ["self"] (defScope s_Reading__init) := ⟨rfl, rfl, rfl, by decide +kernel, rfl, by decide +kernel, by decide +kernel⟩
abbrev s_Reading_is_new : Stmt := (inClass (topS 39) 1)
abbrev n_Reading_is_new : List Str := ["self", "names", "name"]
theorem sc_Reading_is_new : FnScope n_Reading_is_new ["self", "names", "name"] (defScope s_Reading_is_new) := ⟨rfl, rfl, rfl, by decide +kernel, rfl, by decide +kernel, by decide +kernel⟩
abbrev s_Reading_take_names : Stmt := (inClass (topS 39) 2)
abbrev n_Reading_take_names : List Str := ["self", "found", "into", "name"]
theorem sc_Reading_take_names : FnScope n_Reading_take_names ["self", "found", "into"] (defScope s_Reading_take_names) := ⟨rfl, rfl, rfl, by decide +kernel, rfl, by decide +kernel, by decide +kernel⟩
abbrev s_Reading_take_room : Stmt := (inClass (topS 39) 3)
abbrev n_Reading_take_room : List Str := ["self", "room"]
theorem sc_Reading_take_room : FnScope n_Reading_take_room ["self", "room"] (defScope s_Reading_take_room) := ⟨rfl, rfl, rfl, by decide +kernel, rfl, by decide +kernel, by decide +kernel⟩
abbrev s_Reading_take_part : Stmt := (inClass (topS 39) 4)
abbrev n_Reading_take_part : List Str := ["self", "part"]
theorem sc_Reading_take_part : FnScope n_Reading_take_part ["self", "part"] (defScope s_Reading_take_part) := ⟨rfl, rfl, rfl, by decide +kernel, rfl, by decide +kernel, by decide +kernel⟩
abbrev s_Reading_take_done : Stmt := (inClass (topS 39) 5)
abbrev n_Reading_take_done : List Str := ["self"]
theorem sc_Reading_take_done : FnScope n_Reading_take_done ["self"] (defScope s_Reading_take_done) := ⟨rfl, rfl, rfl, by decide +kernel, rfl, by decide +kernel, by decide +kernel⟩
abbrev s_Reading_take_row : Stmt := (inClass (topS 39) 6)
abbrev n_Reading_take_row : List Str := ["self", "row", "part", "told"]
theorem sc_Reading_take_row : FnScope n_Reading_take_row ["self", "row"] (defScope s_Reading_take_row) := ⟨rfl, rfl, rfl, by decide +kernel, rfl, by decide +kernel, by decide +kernel⟩
abbrev s_Reading_take : Stmt := (inClass (topS 39) 7)
abbrev n_Reading_take : List Str := ["self", "number", "row", "room"]
theorem sc_Reading_take : FnScope n_Reading_take ["self", "number", "row"] (defScope s_Reading_take) := ⟨rfl, rfl, rfl, by decide +kernel, rfl, by decide +kernel, by decide +kernel⟩
abbrev s_read : Stmt := (topS 40)
abbrev n_read : List Str := ["text", "rows", "reading", "number", "row"]
theorem sc_read : FnScope n_read ["text"] (defScope s_read) := ⟨rfl, rfl, rfl, by decide +kernel, rfl, by decide +kernel, by decide +kernel⟩
abbrev s_law_cell_at : Stmt := (topS 42)
abbrev n_law_cell_at : List Str := ["_law_script", "_law_k"]
theorem sc_law_cell_at : FnScope n_law_cell_at ["_law_script", "_law_k"] (defScope s_law_cell_at) := ⟨rfl, rfl, rfl, by decide +kernel, rfl, by decide +kernel, by decide +kernel⟩
abbrev s_law_mix : Stmt := (topS 43)
abbrev n_law_mix : List Str := ["_law_cell", "_law_k", "_law_number"]
theorem sc_law_mix : FnScope n_law_mix ["_law_cell", "_law_k"] (defScope s_law_mix) := ⟨rfl, rfl, rfl, by decide +kernel, rfl, by decide +kernel, by decide +kernel⟩
abbrev s_law_name : Stmt := (topS 44)
abbrev n_law_name : List Str := ["_law_cell", "_law_k", "_law_letters", "_law_tail", "_law_size", "_law_at", "_law_other", "_law_name_here", "_law_j", "_law_heads", "_law_letter"]
theorem sc_law_name : FnScope n_law_name ["_law_cell", "_law_k"] (defScope s_law_name) := ⟨rfl, rfl, rfl, by decide +kernel, rfl, by decide +kernel, by decide +kernel⟩
abbrev s_law_event : Stmt := (topS 45)
abbrev n_law_event : List Str := ["_law_names", "_law_cell", "_law_label", "_law_depth", "_law_what", "_law_some", "_law_who", "_law_number", "_law_many", "_law_j"]
theorem sc_law_event : FnScope n_law_event ["_law_names", "_law_cell", "_law_label", "_law_depth"] (defScope s_law_event) := ⟨rfl, rfl, rfl, by decide +kernel, rfl, by decide +kernel, by decide +kernel⟩
abbrev s_law_events : Stmt := (topS 46)
abbrev n_law_events : List Str := ["_law_names", "_law_script", "_law_base", "_law_events_here", "_law_depth", "_law_number", "_law_event_here"]
theorem sc_law_events : FnScope n_law_events ["_law_names", "_law_script"] (defScope s_law_events) := ⟨rfl, rfl, rfl, by decide +kernel, rfl, by decide +kernel, by decide +kernel⟩
abbrev s_law_header : Stmt := (topS 47)
abbrev n_law_header : List Str := ["_law_names", "_law_cell", "_law_parties", "_law_acts", "_law_rooms", "_law_k"]
theorem sc_law_header : FnScope n_law_header ["_law_names", "_law_cell"] (defScope s_law_header) := ⟨rfl, rfl, rfl, by decide +kernel, rfl, by decide +kernel, by decide +kernel⟩
abbrev s_law_row : Stmt := (topS 48)
abbrev n_law_row : List Str := ["_law_event_here", "_law_head"]
theorem sc_law_row : FnScope n_law_row ["_law_event_here"] (defScope s_law_row) := ⟨rfl, rfl, rfl, by decide +kernel, rfl, by decide +kernel, by decide +kernel⟩
abbrev s_law_rows : Stmt := (topS 49)
abbrev n_law_rows : List Str := ["_law_header_here", "_law_events_here", "_law_rows_here", "_law_mark", "_law_name_here", "_law_event_here"]
theorem sc_law_rows : FnScope n_law_rows ["_law_header_here", "_law_events_here"] (defScope s_law_rows) := ⟨rfl, rfl, rfl, by decide +kernel, rfl, by decide +kernel, by decide +kernel⟩
abbrev s_law_clause : Stmt := (topS 50)
abbrev n_law_clause : List Str := ["_law_row_here"]
theorem sc_law_clause : FnScope n_law_clause ["_law_row_here"] (defScope s_law_clause) := ⟨rfl, rfl, rfl, by decide +kernel, rfl, by decide +kernel, by decide +kernel⟩
abbrev s_law_found : Stmt := (topS 51)
abbrev n_law_found : List Str := ["_law_rows_here", "_law_found_here", "_law_row_here"]
theorem sc_law_found : FnScope n_law_found ["_law_rows_here"] (defScope s_law_found) := ⟨rfl, rfl, rfl, by decide +kernel, rfl, by decide +kernel, by decide +kernel⟩
abbrev s_law_right : Stmt := (topS 52)
abbrev n_law_right : List Str := ["_law_pact", "_law_header_here", "_law_events_here", "_law_room"]
theorem sc_law_right : FnScope n_law_right ["_law_pact", "_law_header_here", "_law_events_here"] (defScope s_law_right) := ⟨rfl, rfl, rfl, by decide +kernel, rfl, by decide +kernel, by decide +kernel⟩
abbrev s_law : Stmt := (topS 53)
abbrev n_law : List Str := ["_law_script", "_law_names", "_law_header_here", "_law_events_here", "_law_text", "_law_first", "_law_other", "_law_k"]
theorem sc_law : FnScope n_law ["_law_script"] (defScope s_law) := ⟨rfl, rfl, rfl, by decide +kernel, rfl, by decide +kernel, by decide +kernel⟩
structure Txt (c : Kx) (mg : Str → Option Value) (c_PactError c_NoText c_Row c_Clause c_Duty c_Leave c_Ban c_Power c_Let c_Part c_Pact c_Reading a_NoText__init a_Clause__init a_Duty__init a_Ban__init a_Power__init a_Let__init a_Part__init a_Pact__init a_is_name a_number_of a_duty_of a_ban_of a_power_of a_clause_of a_let_of a_names_of a_part_of a_room_of a_Reading__init a_Reading_is_new a_Reading_take_names a_Reading_take_room a_Reading_take_part a_Reading_take_done a_Reading_take_row a_Reading_take a_read a_law_cell_at a_law_mix a_law_name a_law_event a_law_events a_law_header a_law_row a_law_rows a_law_clause a_law_found a_law_right a_law : Addr) : Prop where
  d_NoText__init : DefAt c.K "__init__" "NoText.__init__" s_NoText__init a_NoText__init ["self", "row"]
  d_Clause__init : DefAt c.K "__init__" "Clause.__init__" s_Clause__init a_Clause__init ["self", "label", "who", "act"]
  d_Duty__init : DefAt c.K "__init__" "Duty.__init__" s_Duty__init a_Duty__init ["self", "label", "who", "act", "turns", "room"]
  d_Ban__init : DefAt c.K "__init__" "Ban.__init__" s_Ban__init a_Ban__init ["self", "label", "who", "act", "room"]
  d_Power__init : DefAt c.K "__init__" "Power.__init__" s_Power__init a_Power__init ["self", "label", "who", "act", "room"]
  d_Let__init : DefAt c.K "__init__" "Let.__init__" s_Let__init a_Let__init ["self", "name", "value"]
  d_Part__init : DefAt c.K "__init__" "Part.__init__" s_Part__init a_Part__init ["self", "name", "rooms", "rows"]
  d_Pact__init : DefAt c.K "__init__" "Pact.__init__" s_Pact__init a_Pact__init ["self", "parties", "acts", "rooms", "whole"]
  d_is_name : DefAt c.K "is_name" "is_name" s_is_name a_is_name ["word"]
  m_is_name : mg "is_name" = some (.ref a_is_name)
  d_number_of : DefAt c.K "number_of" "number_of" s_number_of a_number_of ["word"]
  m_number_of : mg "number_of" = some (.ref a_number_of)
  d_duty_of : DefAt c.K "duty_of" "duty_of" s_duty_of a_duty_of ["words"]
  m_duty_of : mg "duty_of" = some (.ref a_duty_of)
  d_ban_of : DefAt c.K "ban_of" "ban_of" s_ban_of a_ban_of ["words"]
  m_ban_of : mg "ban_of" = some (.ref a_ban_of)
  d_power_of : DefAt c.K "power_of" "power_of" s_power_of a_power_of ["words"]
  m_power_of : mg "power_of" = some (.ref a_power_of)
  d_clause_of : DefAt c.K "clause_of" "clause_of" s_clause_of a_clause_of ["row"]
  m_clause_of : mg "clause_of" = some (.ref a_clause_of)
  d_let_of : DefAt c.K "let_of" "let_of" s_let_of a_let_of ["row"]
  m_let_of : mg "let_of" = some (.ref a_let_of)
  d_names_of : DefAt c.K "names_of" "names_of" s_names_of a_names_of ["row", "word", "most"]
  m_names_of : mg "names_of" = some (.ref a_names_of)
  d_part_of : DefAt c.K "part_of" "part_of" s_part_of a_part_of ["row"]
  m_part_of : mg "part_of" = some (.ref a_part_of)
  d_room_of : DefAt c.K "room_of" "room_of" s_room_of a_room_of ["row"]
  m_room_of : mg "room_of" = some (.ref a_room_of)
  d_Reading__init : DefAt c.K "__init__" "Reading.__init__" s_Reading__init a_Reading__init ["self"]
  d_Reading_is_new : DefAt c.K "is_new" "Reading.is_new" s_Reading_is_new a_Reading_is_new ["self", "names", "name"]
  d_Reading_take_names : DefAt c.K "take_names" "Reading.take_names" s_Reading_take_names a_Reading_take_names ["self", "found", "into"]
  d_Reading_take_room : DefAt c.K "take_room" "Reading.take_room" s_Reading_take_room a_Reading_take_room ["self", "room"]
  d_Reading_take_part : DefAt c.K "take_part" "Reading.take_part" s_Reading_take_part a_Reading_take_part ["self", "part"]
  d_Reading_take_done : DefAt c.K "take_done" "Reading.take_done" s_Reading_take_done a_Reading_take_done ["self"]
  d_Reading_take_row : DefAt c.K "take_row" "Reading.take_row" s_Reading_take_row a_Reading_take_row ["self", "row"]
  d_Reading_take : DefAt c.K "take" "Reading.take" s_Reading_take a_Reading_take ["self", "number", "row"]
  d_read : DefAt c.K "read" "read" s_read a_read ["text"]
  m_read : mg "read" = some (.ref a_read)
  d_law_cell_at : DefAt c.K "_law_cell_at" "_law_cell_at" s_law_cell_at a_law_cell_at ["_law_script", "_law_k"]
  m_law_cell_at : mg "_law_cell_at" = some (.ref a_law_cell_at)
  d_law_mix : DefAt c.K "_law_mix" "_law_mix" s_law_mix a_law_mix ["_law_cell", "_law_k"]
  m_law_mix : mg "_law_mix" = some (.ref a_law_mix)
  d_law_name : DefAt c.K "_law_name" "_law_name" s_law_name a_law_name ["_law_cell", "_law_k"]
  m_law_name : mg "_law_name" = some (.ref a_law_name)
  d_law_event : DefAt c.K "_law_event" "_law_event" s_law_event a_law_event ["_law_names", "_law_cell", "_law_label", "_law_depth"]
  m_law_event : mg "_law_event" = some (.ref a_law_event)
  d_law_events : DefAt c.K "_law_events" "_law_events" s_law_events a_law_events ["_law_names", "_law_script"]
  m_law_events : mg "_law_events" = some (.ref a_law_events)
  d_law_header : DefAt c.K "_law_header" "_law_header" s_law_header a_law_header ["_law_names", "_law_cell"]
  m_law_header : mg "_law_header" = some (.ref a_law_header)
  d_law_row : DefAt c.K "_law_row" "_law_row" s_law_row a_law_row ["_law_event_here"]
  m_law_row : mg "_law_row" = some (.ref a_law_row)
  d_law_rows : DefAt c.K "_law_rows" "_law_rows" s_law_rows a_law_rows ["_law_header_here", "_law_events_here"]
  m_law_rows : mg "_law_rows" = some (.ref a_law_rows)
  d_law_clause : DefAt c.K "_law_clause" "_law_clause" s_law_clause a_law_clause ["_law_row_here"]
  m_law_clause : mg "_law_clause" = some (.ref a_law_clause)
  d_law_found : DefAt c.K "_law_found" "_law_found" s_law_found a_law_found ["_law_rows_here"]
  m_law_found : mg "_law_found" = some (.ref a_law_found)
  d_law_right : DefAt c.K "_law_right" "_law_right" s_law_right a_law_right ["_law_pact", "_law_header_here", "_law_events_here"]
  m_law_right : mg "_law_right" = some (.ref a_law_right)
  d_law : DefAt c.K "law" "law" s_law a_law ["_law_script"]
  m_law : mg "law" = some (.ref a_law)
  g_FIGURES : GlobD c mg "FIGURES" g_FIGURES
  g_KEPT : GlobD c mg "KEPT" g_KEPT
  g_LETTERS : GlobD c mg "LETTERS" g_LETTERS
  g_MARKS : GlobD c mg "MARKS" g_MARKS
  g_MOST_ACTS : GlobD c mg "MOST_ACTS" g_MOST_ACTS
  g_MOST_DEPTH : GlobD c mg "MOST_DEPTH" g_MOST_DEPTH
  g_MOST_FIGURES : GlobD c mg "MOST_FIGURES" g_MOST_FIGURES
  g_MOST_LETTERS : GlobD c mg "MOST_LETTERS" g_MOST_LETTERS
  g_MOST_PARTIES : GlobD c mg "MOST_PARTIES" g_MOST_PARTIES
  g_MOST_ROOMS : GlobD c mg "MOST_ROOMS" g_MOST_ROOMS
  g_MOST_ROWS : GlobD c mg "MOST_ROWS" g_MOST_ROWS
  b_bool : mg "bool" = none
  b_enumerate : mg "enumerate" = none
  b_int : mg "int" = none
  b_isinstance : mg "isinstance" = none
  b_len : mg "len" = none
  b_list : mg "list" = none
  b_range : mg "range" = none
  b_str : mg "str" = none
  b_tuple : mg "tuple" = none
  fn12 : c.fn[12]? = some ("row" : Str)
  ct_NoText : c.ct[10]? = some c_NoText
  na_row_10 : NaL c "row" [(10, c_NoText)]
  fn2 : c.fn[2]? = some ("act" : Str)
  ct_Clause : c.ct[1]? = some c_Clause
  ct_Duty : c.ct[2]? = some c_Duty
  ct_Leave : c.ct[3]? = some c_Leave
  ct_Ban : c.ct[4]? = some c_Ban
  ct_Power : c.ct[5]? = some c_Power
  na_act_1_2_3_4_5 : NaL c "act" [(1, c_Clause), (2, c_Duty), (3, c_Leave), (4, c_Ban), (5, c_Power)]
  fn1 : c.fn[1]? = some ("who" : Str)
  na_who_1_2_3_4_5 : NaL c "who" [(1, c_Clause), (2, c_Duty), (3, c_Leave), (4, c_Ban), (5, c_Power)]
  fn0 : c.fn[0]? = some ("label" : Str)
  na_label_1_2_3_4_5 : NaL c "label" [(1, c_Clause), (2, c_Duty), (3, c_Leave), (4, c_Ban), (5, c_Power)]
  fn4 : c.fn[4]? = some ("room" : Str)
  na_room_2 : NaL c "room" [(2, c_Duty)]
  fn3 : c.fn[3]? = some ("turns" : Str)
  na_turns_2 : NaL c "turns" [(2, c_Duty)]
  mc_Clause : mg "Clause" = some (.ref c_Clause)
  cf_Clause_Clause__init : CFun c.K c_Clause "__init__" a_Clause__init
  na_room_4 : NaL c "room" [(4, c_Ban)]
  na_room_5 : NaL c "room" [(5, c_Power)]
  mc_Leave : mg "Leave" = some (.ref c_Leave)
  cf_Leave_Clause__init : CFun c.K c_Leave "__init__" a_Clause__init
  fn6 : c.fn[6]? = some ("value" : Str)
  ct_Let : c.ct[6]? = some c_Let
  na_value_6 : NaL c "value" [(6, c_Let)]
  fn5 : c.fn[5]? = some ("name" : Str)
  na_name_6 : NaL c "name" [(6, c_Let)]
  fn8 : c.fn[8]? = some ("rows" : Str)
  ct_Part : c.ct[7]? = some c_Part
  na_rows_7 : NaL c "rows" [(7, c_Part)]
  fn7 : c.fn[7]? = some ("rooms" : Str)
  na_rooms_7 : NaL c "rooms" [(7, c_Part)]
  na_name_7 : NaL c "name" [(7, c_Part)]
  fn11 : c.fn[11]? = some ("whole" : Str)
  ct_Pact : c.ct[8]? = some c_Pact
  na_whole_8 : NaL c "whole" [(8, c_Pact)]
  na_rooms_8 : NaL c "rooms" [(8, c_Pact)]
  fn10 : c.fn[10]? = some ("acts" : Str)
  na_acts_8 : NaL c "acts" [(8, c_Pact)]
  fn9 : c.fn[9]? = some ("parties" : Str)
  na_parties_8 : NaL c "parties" [(8, c_Pact)]
  mc_Duty : mg "Duty" = some (.ref c_Duty)
  cl_Duty : Cls c.K c_Duty
  mk_Duty : Mk c.K c_Duty a_Duty__init
  mc_Ban : mg "Ban" = some (.ref c_Ban)
  cl_Ban : Cls c.K c_Ban
  mk_Ban : Mk c.K c_Ban a_Ban__init
  mc_Power : mg "Power" = some (.ref c_Power)
  cl_Power : Cls c.K c_Power
  mk_Power : Mk c.K c_Power a_Power__init
  cl_Leave : Cls c.K c_Leave
  mk_Leave : Mk c.K c_Leave a_Clause__init
  mc_Let : mg "Let" = some (.ref c_Let)
  cl_Let : Cls c.K c_Let
  mk_Let : Mk c.K c_Let a_Let__init
  mc_Part : mg "Part" = some (.ref c_Part)
  cl_Part : Cls c.K c_Part
  mk_Part : Mk c.K c_Part a_Part__init
  fn18 : c.fn[18]? = some ("labels" : Str)
  ct_Reading : c.ct[20]? = some c_Reading
  na_labels_20 : NaL c "labels" [(20, c_Reading)]
  fn17 : c.fn[17]? = some ("header" : Str)
  na_header_20 : NaL c "header" [(20, c_Reading)]
  fn16 : c.fn[16]? = some ("stack" : Str)
  na_stack_20 : NaL c "stack" [(20, c_Reading)]
  na_rooms_20 : NaL c "rooms" [(20, c_Reading)]
  na_acts_20 : NaL c "acts" [(20, c_Reading)]
  na_parties_20 : NaL c "parties" [(20, c_Reading)]
  mt_Reading_Reading_is_new : Meth c.K c_Reading "is_new" a_Reading_is_new
  mt_Reading_Reading_take_part : Meth c.K c_Reading "take_part" a_Reading_take_part
  mt_Reading_Reading_take_done : Meth c.K c_Reading "take_done" a_Reading_take_done
  mt_Reading_Reading_take_row : Meth c.K c_Reading "take_row" a_Reading_take_row
  mt_Reading_Reading_take_room : Meth c.K c_Reading "take_room" a_Reading_take_room
  mt_Reading_Reading_take_names : Meth c.K c_Reading "take_names" a_Reading_take_names
  mc_Pact : mg "Pact" = some (.ref c_Pact)
  cl_Pact : Cls c.K c_Pact
  mk_Pact : Mk c.K c_Pact a_Pact__init
  nx_NoText_row : PySem.W.findIn c.K (.ref c_NoText) "row" = some none
  ox_NoText : OexC c.K c_NoText
  ie_NoText : PySem.W.findIn c.K (.ref c_NoText) "__init__" = some (some (.ref a_NoText__init))
  tI_NoText__init : PySem.W.typeIn c.K (.ref a_NoText__init) = some (.type "function")
  mc_NoText : mg "NoText" = some (.ref c_NoText)
  mt_Reading_Reading_take : Meth c.K c_Reading "take" a_Reading_take
  mc_Reading : mg "Reading" = some (.ref c_Reading)
  cl_Reading : Cls c.K c_Reading
  mk_Reading : Mk c.K c_Reading a_Reading__init
  q_Leave : ∀ t b, q_Leave.lookup t = some b → TyFact c (.ref c_Leave) t b
  q_Power : ∀ t b, q_Power.lookup t = some b → TyFact c (.ref c_Power) t b
  q_Ban : ∀ t b, q_Ban.lookup t = some b → TyFact c (.ref c_Ban) t b
  q_Duty : ∀ t b, q_Duty.lookup t = some b → TyFact c (.ref c_Duty) t b
  q_Part : ∀ t b, q_Part.lookup t = some b → TyFact c (.ref c_Part) t b
  q_Let : ∀ t b, q_Let.lookup t = some b → TyFact c (.ref c_Let) t b
  q_Pact : ∀ t b, q_Pact.lookup t = some b → TyFact c (.ref c_Pact) t b
  q_bool : ∀ t b, q_bool.lookup t = some b → TyFact c (.type "bool") t b
  q_int : ∀ t b, q_int.lookup t = some b → TyFact c (.type "int") t b
  q_list : ∀ t b, q_list.lookup t = some b → TyFact c (.type "list") t b
  q_tuple : ∀ t b, q_tuple.lookup t = some b → TyFact c (.type "tuple") t b
section
variable {P : Program} {w : World} {mg : Str → Option Value} {base : Heap} {c : Kx} {c_PactError c_NoText c_Row c_Clause c_Duty c_Leave c_Ban c_Power c_Let c_Part c_Pact c_Reading a_NoText__init a_Clause__init a_Duty__init a_Ban__init a_Power__init a_Let__init a_Part__init a_Pact__init a_is_name a_number_of a_duty_of a_ban_of a_power_of a_clause_of a_let_of a_names_of a_part_of a_room_of a_Reading__init a_Reading_is_new a_Reading_take_names a_Reading_take_room a_Reading_take_part a_Reading_take_done a_Reading_take_row a_Reading_take a_read a_law_cell_at a_law_mix a_law_name a_law_event a_law_events a_law_header a_law_row a_law_rows a_law_clause a_law_found a_law_right a_law : Addr}
theorem fs_law_clause (T : Txt c mg c_PactError c_NoText c_Row c_Clause c_Duty c_Leave c_Ban c_Power c_Let c_Part c_Pact c_Reading a_NoText__init a_Clause__init a_Duty__init a_Ban__init a_Power__init a_Let__init a_Part__init a_Pact__init a_is_name a_number_of a_duty_of a_ban_of a_power_of a_clause_of a_let_of a_names_of a_part_of a_room_of a_Reading__init a_Reading_is_new a_Reading_take_names a_Reading_take_room a_Reading_take_part a_Reading_take_done a_Reading_take_row a_Reading_take a_read a_law_cell_at a_law_mix a_law_name a_law_event a_law_events a_law_header a_law_row a_law_rows a_law_clause a_law_found a_law_right a_law) : FnS P w c.K mg base 1 a_law_clause (spF c 1 (bodyF 1 b_law_clause)) [] :=
  FnS.of T.d_law_clause sc_law_clause (by decide) fun cdv A outer s H E hr => (ess_cons (es_if (et_val (ee_isi (d2 := .ref c_Duty) (.own c_Duty) T.q_Duty ref_only (by rfl) T.b_isinstance (ee_var 0 rfl (pv 0)) (ee_glob (d := .ref c_Duty) (v := .ref c_Duty) rfl (by rfl) T.mc_Duty rfl (fun _ => .ref _)))) (ess_cons (es_if ((ew_or (et_not (et_val (ee_isi (d2 := .ty "int") (.ty "int") T.q_int ty_only (by rfl) T.b_isinstance (ee_fld (i := 3) T.fn3 (ee_var 0 rfl (pv 0))) (ee_bltn rfl (by rfl) T.b_int (by decide +kernel) (v := .ty "int") rfl (fun _ => .ty "int"))))) (ew_or1 (et_val (ee_isi (d2 := .ty "bool") (.ty "bool") T.q_bool ty_only (by rfl) T.b_isinstance (ee_fld (i := 3) T.fn3 (ee_var 0 rfl (pv 0))) (ee_bltn rfl (by rfl) T.b_bool (by decide +kernel) (v := .ty "bool") rfl (fun _ => .ty "bool"))))))).et (ess_one (es_ret (ee_tup (ea_nil rfl)))) (ess_nil rfl)) (ess_one (es_ret (ee_tup (ea_cons (ee_str rfl) (ea_cons (ee_fld (i := 0) T.fn0 (ee_var 0 rfl (pv 0))) (ea_cons (ee_fld (i := 1) T.fn1 (ee_var 0 rfl (pv 0))) (ea_cons (ee_fld (i := 2) T.fn2 (ee_var 0 rfl (pv 0))) (ea_cons (ee_fld (i := 3) T.fn3 (ee_var 0 rfl (pv 0))) (ea_cons (ee_fld (i := 4) T.fn4 (ee_var 0 rfl (pv 0))) (ea_nil rfl))))))))))) (ess_nil rfl)) (ess_cons (es_if (et_val (ee_isi (d2 := .ref c_Ban) (.own c_Ban) T.q_Ban ref_only (by rfl) T.b_isinstance (ee_var 0 rfl (pv 0)) (ee_glob (d := .ref c_Ban) (v := .ref c_Ban) rfl (by rfl) T.mc_Ban rfl (fun _ => .ref _)))) (ess_one (es_ret (ee_tup (ea_cons (ee_str rfl) (ea_cons (ee_fld (i := 0) T.fn0 (ee_var 0 rfl (pv 0))) (ea_cons (ee_fld (i := 1) T.fn1 (ee_var 0 rfl (pv 0))) (ea_cons (ee_fld (i := 2) T.fn2 (ee_var 0 rfl (pv 0))) (ea_cons (ee_fld (i := 4) T.fn4 (ee_var 0 rfl (pv 0))) (ea_nil rfl))))))))) (ess_nil rfl)) (ess_cons (es_if (et_val (ee_isi (d2 := .ref c_Power) (.own c_Power) T.q_Power ref_only (by rfl) T.b_isinstance (ee_var 0 rfl (pv 0)) (ee_glob (d := .ref c_Power) (v := .ref c_Power) rfl (by rfl) T.mc_Power rfl (fun _ => .ref _)))) (ess_one (es_ret (ee_tup (ea_cons (ee_str rfl) (ea_cons (ee_fld (i := 0) T.fn0 (ee_var 0 rfl (pv 0))) (ea_cons (ee_fld (i := 1) T.fn1 (ee_var 0 rfl (pv 0))) (ea_cons (ee_fld (i := 2) T.fn2 (ee_var 0 rfl (pv 0))) (ea_cons (ee_fld (i := 4) T.fn4 (ee_var 0 rfl (pv 0))) (ea_nil rfl))))))))) (ess_nil rfl)) (ess_cons (es_if (et_val (ee_isi (d2 := .ref c_Leave) (.own c_Leave) T.q_Leave ref_only (by rfl) T.b_isinstance (ee_var 0 rfl (pv 0)) (ee_glob (d := .ref c_Leave) (v := .ref c_Leave) rfl (by rfl) T.mc_Leave rfl (fun _ => .ref _)))) (ess_one (es_ret (ee_tup (ea_cons (ee_str rfl) (ea_cons (ee_fld (i := 0) T.fn0 (ee_var 0 rfl (pv 0))) (ea_cons (ee_fld (i := 1) T.fn1 (ee_var 0 rfl (pv 0))) (ea_cons (ee_fld (i := 2) T.fn2 (ee_var 0 rfl (pv 0))) (ea_nil rfl)))))))) (ess_nil rfl)) (ess_one (es_ret (ee_tup (ea_nil rfl))))))))
theorem fr_law_found (T : Txt c mg c_PactError c_NoText c_Row c_Clause c_Duty c_Leave c_Ban c_Power c_Let c_Part c_Pact c_Reading a_NoText__init a_Clause__init a_Duty__init a_Ban__init a_Power__init a_Let__init a_Part__init a_Pact__init a_is_name a_number_of a_duty_of a_ban_of a_power_of a_clause_of a_let_of a_names_of a_part_of a_room_of a_Reading__init a_Reading_is_new a_Reading_take_names a_Reading_take_room a_Reading_take_part a_Reading_take_done a_Reading_take_row a_Reading_take a_read a_law_cell_at a_law_mix a_law_name a_law_event a_law_events a_law_header a_law_row a_law_rows a_law_clause a_law_found a_law_right a_law) : ∀ n, FnS P w c.K mg base (2 + n) a_law_found (spP c 1 (R_law_found n)) []
  | 0 => (fn_none T.d_law_found sc_law_found).mono (Nat.le_add_left _ _)
  | n + 1 => have ih := fr_law_found T n
    (FnS.of (k := 2 + n) T.d_law_found sc_law_found (by decide) fun cdv A outer s H E hr => (ess_cons (es_if (et_not (et_val (ee_isi (d2 := .ty "list") (.ty "list") T.q_list ty_only (by rfl) T.b_isinstance (ee_var 0 rfl (pv 0)) (ee_bltn rfl (by rfl) T.b_list (by decide +kernel) (v := .ty "list") rfl (fun _ => .ty "list"))))) (ess_one (es_ret (ee_lst (own := false) (ea_cons (ee_tup (ea_nil rfl)) (ea_nil rfl))))) (ess_nil rfl)) (ess_cons (es_asg (ee_lst (own := true) (ea_nil rfl)) (eg_name (pg_name (i := 1) sc_law_found.nd rfl (by first | exact Or.inl rfl | exact Or.inr rfl)))) (ess_cons (es_for (passes_of rfl) rfl (ei_seq (ee_var 0 rfl (pv 0))) (eg_name (pg_name (i := 2) sc_law_found.nd rfl (by first | exact Or.inl rfl | exact Or.inr rfl))) (ess_one (es_if (et_val (ee_isi (d2 := .ref c_Part) (.own c_Part) T.q_Part ref_only (by rfl) T.b_isinstance (ee_var 2 rfl (pv 2)) (ee_glob (d := .ref c_Part) (v := .ref c_Part) rfl (by rfl) T.mc_Part rfl (fun _ => .ref _)))) (ess_cons (es_expr (ee_bm sm_append PySem.F.plainAttrs_list PySem.F.slot_list_append PySem.F.type_list_append mt_append (ee_var 1 rfl (pv 1)) (ea_cons (ee_tup (ea_cons (ee_str rfl) (ea_cons (ee_fld (i := 5) T.fn5 (ee_var 2 rfl (pv 2))) (ea_cons (ee_fld (i := 7) T.fn7 (ee_var 2 rfl (pv 2))) (ea_nil rfl))))) (ea_nil rfl)))) (ess_cons (es_expr (ee_bm sm_extend PySem.F.plainAttrs_list PySem.F.slot_list_extend PySem.F.type_list_extend mt_extend (ee_var 1 rfl (pv 1)) (ea_cons (ee_call spA_P DefOk.nil (ih.mono (Nat.le_refl _)) (hr.mono (by omega)) (takes_of rfl rfl rfl rfl) (by rfl) T.m_law_found (ea_cons (ee_fld (i := 8) T.fn8 (ee_var 2 rfl (pv 2))) (ea_nil rfl))) (ea_nil rfl)))) (ess_one (es_expr (ee_bm sm_append PySem.F.plainAttrs_list PySem.F.slot_list_append PySem.F.type_list_append mt_append (ee_var 1 rfl (pv 1)) (ea_cons (ee_tup (ea_cons (ee_str rfl) (ea_nil rfl))) (ea_nil rfl))))))) (ess_one (es_if (et_val (ee_isi (d2 := .ref c_Let) (.own c_Let) T.q_Let ref_only (by rfl) T.b_isinstance (ee_var 2 rfl (pv 2)) (ee_glob (d := .ref c_Let) (v := .ref c_Let) rfl (by rfl) T.mc_Let rfl (fun _ => .ref _)))) (ess_one (es_expr (ee_bm sm_append PySem.F.plainAttrs_list PySem.F.slot_list_append PySem.F.type_list_append mt_append (ee_var 1 rfl (pv 1)) (ea_cons (ee_tup (ea_cons (ee_str rfl) (ea_cons (ee_fld (i := 5) T.fn5 (ee_var 2 rfl (pv 2))) (ea_cons (ee_fld (i := 6) T.fn6 (ee_var 2 rfl (pv 2))) (ea_nil rfl))))) (ea_nil rfl))))) (ess_one (es_expr (ee_bm sm_append PySem.F.plainAttrs_list PySem.F.slot_list_append PySem.F.type_list_append mt_append (ee_var 1 rfl (pv 1)) (ea_cons (ee_call spA_P DefOk.nil ((fs_law_clause T).P.mono (Nat.le_refl _)) (hr.mono (by omega)) (takes_of rfl rfl rfl rfl) (by rfl) T.m_law_clause (ea_cons (ee_var 2 rfl (pv 2)) (ea_nil rfl))) (ea_nil rfl)))))))))) (ess_one (es_ret (ee_var 1 rfl (pv 1)))))))).P
theorem fs_law_right (T : Txt c mg c_PactError c_NoText c_Row c_Clause c_Duty c_Leave c_Ban c_Power c_Let c_Part c_Pact c_Reading a_NoText__init a_Clause__init a_Duty__init a_Ban__init a_Power__init a_Let__init a_Part__init a_Pact__init a_is_name a_number_of a_duty_of a_ban_of a_power_of a_clause_of a_let_of a_names_of a_part_of a_room_of a_Reading__init a_Reading_is_new a_Reading_take_names a_Reading_take_room a_Reading_take_part a_Reading_take_done a_Reading_take_row a_Reading_take a_read a_law_cell_at a_law_mix a_law_name a_law_event a_law_events a_law_header a_law_row a_law_rows a_law_clause a_law_found a_law_right a_law) : FnS P w c.K mg base 11 a_law_right (spF c 3 (bodyF 4 b_law_right)) [] :=
  FnS.of T.d_law_right sc_law_right (by decide) fun cdv A outer s H E hr => (ess_cons (es_if ((ew_or (et_not (et_val (ee_isi (d2 := .ref c_Pact) (.own c_Pact) T.q_Pact ref_only (by rfl) T.b_isinstance (ee_var 0 rfl (pv 0)) (ee_glob (d := .ref c_Pact) (v := .ref c_Pact) rfl (by rfl) T.mc_Pact rfl (fun _ => .ref _))))) (ew_or (et_not (et_val (ee_isi (d2 := .ref c_Part) (.own c_Part) T.q_Part ref_only (by rfl) T.b_isinstance (ee_fld (i := 11) T.fn11 (ee_var 0 rfl (pv 0))) (ee_glob (d := .ref c_Part) (v := .ref c_Part) rfl (by rfl) T.mc_Part rfl (fun _ => .ref _))))) (ew_or1 (et_cmp (op_neA hr.units) (nomark _) s2_neA (ee_fld (i := 5) T.fn5 (ee_fld (i := 11) T.fn11 (ee_var 0 rfl (pv 0)))) (ee_str rfl)))))).et (ess_one (es_ret (ee_bl rfl))) (ess_nil rfl)) (ess_cons (es_if ((ew_or (et_not (et_val (ee_isi (d2 := .ty "list") (.ty "list") T.q_list ty_only (by rfl) T.b_isinstance (ee_fld (i := 7) T.fn7 (ee_var 0 rfl (pv 0))) (ee_bltn rfl (by rfl) T.b_list (by decide +kernel) (v := .ty "list") rfl (fun _ => .ty "list"))))) (ew_or1 (et_cmp (op_neA hr.units) (nomark _) s2_neA (ee_lc (ownr := false) (own := [("_law_room", 3)]) rfl sc_law_right.nd (ei_seq (ee_fld (i := 7) T.fn7 (ee_var 0 rfl (pv 0)))) (blkOk_by (own := [("_law_room", 3)]) (N := n_law_right) (sc := defScope s_law_right) (by decide +kernel)) (by decide) (fun _ _ _ _ _ => (eg_name (pg_name (i := 3) sc_law_right.nd rfl (by first | exact Or.inl rfl | exact Or.inr rfl)))) (fun _ _ _ _ _ => ets_nil) (fun _ _ _ _ _ => (ee_isi (d2 := .ty "tuple") (.ty "tuple") T.q_tuple ty_only (by rfl) T.b_isinstance (ee_var 3 rfl (pv 3)) (ee_bltn rfl (by rfl) T.b_tuple (by decide +kernel) (v := .ty "tuple") rfl (fun _ => .ty "tuple"))))) (ee_op op_mulA (s2_mulA false) (ee_lst (own := false) (ea_cons (ee_bl rfl) (ea_nil rfl))) (ee_cb call_len sn_len (by rfl) T.b_len (by decide +kernel) (ea_cons (ee_ix (ee_var 1 rfl (pv 1)) (ee_int rfl) (fun _ _ => rfl)) (ea_nil rfl)))))))).et (ess_one (es_ret (ee_bl rfl))) (ess_nil rfl)) (ess_cons (es_if ((ew_or (et_cmp (op_neA hr.units) (nomark _) s2_neA (ee_fld (i := 9) T.fn9 (ee_var 0 rfl (pv 0))) (ee_ix (ee_var 1 rfl (pv 1)) (ee_int rfl) (fun _ _ => rfl))) (ew_or (et_cmp (op_neA hr.units) (nomark _) s2_neA (ee_fld (i := 10) T.fn10 (ee_var 0 rfl (pv 0))) (ee_ix (ee_var 1 rfl (pv 1)) (ee_int rfl) (fun _ _ => rfl))) (ew_or (et_cmp (op_neA hr.units) (nomark _) s2_neA (ee_fld (i := 7) T.fn7 (ee_var 0 rfl (pv 0))) (ee_ix (ee_var 1 rfl (pv 1)) (ee_int rfl) (fun _ _ => rfl))) (ew_or1 (et_cmp (op_neA hr.units) (nomark _) s2_neA (ee_fld (i := 7) T.fn7 (ee_fld (i := 11) T.fn11 (ee_var 0 rfl (pv 0)))) (ee_lst (own := false) (ea_nil rfl)))))))).et (ess_one (es_ret (ee_bl rfl))) (ess_nil rfl)) (ess_one (es_ret (ee_cmp (op_eqA hr.units) (nomark _) s2_eqA (ee_call spA_P DefOk.nil ((fr_law_found T 8).mono (Nat.le_refl _)) (hr.mono (by decide)) (takes_of rfl rfl rfl rfl) (by rfl) T.m_law_found (ea_cons (ee_fld (i := 8) T.fn8 (ee_fld (i := 11) T.fn11 (ee_var 0 rfl (pv 0)))) (ea_nil rfl))) (ee_var 2 rfl (pv 2))))))))
theorem fs_Pact__init (T : Txt c mg c_PactError c_NoText c_Row c_Clause c_Duty c_Leave c_Ban c_Power c_Let c_Part c_Pact c_Reading a_NoText__init a_Clause__init a_Duty__init a_Ban__init a_Power__init a_Let__init a_Part__init a_Pact__init a_is_name a_number_of a_duty_of a_ban_of a_power_of a_clause_of a_let_of a_names_of a_part_of a_room_of a_Reading__init a_Reading_is_new a_Reading_take_names a_Reading_take_room a_Reading_take_part a_Reading_take_done a_Reading_take_row a_Reading_take a_read a_law_cell_at a_law_mix a_law_name a_law_event a_law_events a_law_header a_law_row a_law_rows a_law_clause a_law_found a_law_right a_law) : FnS P w c.K mg base 1 a_Pact__init (spF c 5 (bodyF 5 b_Pact__init)) [] :=
  FnS.of T.d_Pact__init sc_Pact__init (by decide) fun cdv A outer s H E hr => (ess_cons (es_sfld (ok := [8]) (i := 9) T.fn9 (NaL.ok T.na_parties_8) (ee_var 0 rfl (pv 0)) (ee_cty call_list_of (sn_list true) (by rfl) T.b_list (by decide +kernel) (ea_cons (ee_var 1 rfl (pv 1)) (ea_nil rfl)))) (ess_cons (es_sfld (ok := [8]) (i := 10) T.fn10 (NaL.ok T.na_acts_8) (ee_var 0 rfl (pv 0)) (ee_cty call_list_of (sn_list true) (by rfl) T.b_list (by decide +kernel) (ea_cons (ee_var 2 rfl (pv 2)) (ea_nil rfl)))) (ess_cons (es_sfld (ok := [8]) (i := 7) T.fn7 (NaL.ok T.na_rooms_8) (ee_var 0 rfl (pv 0)) (ee_cty call_list_of (sn_list true) (by rfl) T.b_list (by decide +kernel) (ea_cons (ee_var 3 rfl (pv 3)) (ea_nil rfl)))) (ess_one (es_sfld (ok := [8]) (i := 11) T.fn11 (NaL.ok T.na_whole_8) (ee_var 0 rfl (pv 0)) (ee_var 4 rfl (pv 4)))))))
theorem fx_NoText__init (T : Txt c mg c_PactError c_NoText c_Row c_Clause c_Duty c_Leave c_Ban c_Power c_Let c_Part c_Pact c_Reading a_NoText__init a_Clause__init a_Duty__init a_Ban__init a_Power__init a_Let__init a_Part__init a_Pact__init a_is_name a_number_of a_duty_of a_ban_of a_power_of a_clause_of a_let_of a_names_of a_part_of a_room_of a_Reading__init a_Reading_is_new a_Reading_take_names a_Reading_take_room a_Reading_take_part a_Reading_take_done a_Reading_take_row a_Reading_take a_read a_law_cell_at a_law_mix a_law_name a_law_event a_law_events a_law_header a_law_row a_law_rows a_law_clause a_law_found a_law_right a_law) : FnS P w c.K mg base 1 a_NoText__init (spX1 c_NoText "row") [] :=
  fn_x1 T.d_NoText__init sc_NoText__init T.ox_NoText T.nx_NoText_row rfl fun cdv A outer s H E => pss_one (ps_ost (pv 0) (pv 1))
theorem fs_Reading_is_new (T : Txt c mg c_PactError c_NoText c_Row c_Clause c_Duty c_Leave c_Ban c_Power c_Let c_Part c_Pact c_Reading a_NoText__init a_Clause__init a_Duty__init a_Ban__init a_Power__init a_Let__init a_Part__init a_Pact__init a_is_name a_number_of a_duty_of a_ban_of a_power_of a_clause_of a_let_of a_names_of a_part_of a_room_of a_Reading__init a_Reading_is_new a_Reading_take_names a_Reading_take_room a_Reading_take_part a_Reading_take_done a_Reading_take_row a_Reading_take a_read a_law_cell_at a_law_mix a_law_name a_law_event a_law_events a_law_header a_law_row a_law_rows a_law_clause a_law_found a_law_right a_law) : FnS P w c.K mg base 1 a_Reading_is_new (spF c 3 (bodyF 3 b_Reading_is_new)) [] :=
  FnS.of T.d_Reading_is_new sc_Reading_is_new (by decide) fun cdv A outer s H E hr => (ess_cons (es_if (et_cmp (op_inD2 (room65 hr)) rfl s2_inD (ee_var 2 rfl (pv 2)) (ee_var 1 rfl (pv 1))) (ess_one (es_ret (ee_bl rfl))) (ess_nil rfl)) (ess_cons (es_setX (room1 hr) (ee_bl rfl) (ee_var 1 rfl (pv 1)) (ee_var 2 rfl (pv 2))) (ess_one (es_ret (ee_bl rfl)))))
theorem fs_is_name (T : Txt c mg c_PactError c_NoText c_Row c_Clause c_Duty c_Leave c_Ban c_Power c_Let c_Part c_Pact c_Reading a_NoText__init a_Clause__init a_Duty__init a_Ban__init a_Power__init a_Let__init a_Part__init a_Pact__init a_is_name a_number_of a_duty_of a_ban_of a_power_of a_clause_of a_let_of a_names_of a_part_of a_room_of a_Reading__init a_Reading_is_new a_Reading_take_names a_Reading_take_room a_Reading_take_part a_Reading_take_done a_Reading_take_row a_Reading_take a_read a_law_cell_at a_law_mix a_law_name a_law_event a_law_events a_law_header a_law_row a_law_rows a_law_clause a_law_found a_law_right a_law) : FnS P w c.K mg base 1 a_is_name (spF c 1 (bodyF 2 b_is_name)) [] :=
  FnS.of T.d_is_name sc_is_name (by decide) fun cdv A outer s H E hr => (ess_cons (es_if ((ew_or (et_not (et_chain op_le op_le s2_le s2_le (ee_int rfl) (ee_cb call_len sn_len (by rfl) T.b_len (by decide +kernel) (ea_cons (ee_var 0 rfl (pv 0)) (ea_nil rfl))) (ee_globD (z := g_MOST_LETTERS) rfl (by rfl) T.g_MOST_LETTERS))) (ew_or1 (et_cmp (op_inA (room65 hr)) rfl s2_inA (ee_var 0 rfl (pv 0)) (ee_globD (z := g_KEPT) rfl (by rfl) T.g_KEPT))))).et (ess_one (es_ret (ee_bl rfl))) (ess_nil rfl)) (ess_cons (es_for (passes_of rfl) rfl (ei_seq (ee_var 0 rfl (pv 0))) (eg_name (pg_name (i := 1) sc_is_name.nd rfl (by first | exact Or.inl rfl | exact Or.inr rfl))) (ess_one (es_if (et_cmp (op_ninA (room65 hr)) rfl s2_ninA (ee_var 1 rfl (pv 1)) (ee_globD (z := g_LETTERS) rfl (by rfl) T.g_LETTERS)) (ess_one (es_ret (ee_bl rfl))) (ess_nil rfl)))) (ess_one (es_ret (ee_bl rfl)))))
theorem fs_Clause__init (T : Txt c mg c_PactError c_NoText c_Row c_Clause c_Duty c_Leave c_Ban c_Power c_Let c_Part c_Pact c_Reading a_NoText__init a_Clause__init a_Duty__init a_Ban__init a_Power__init a_Let__init a_Part__init a_Pact__init a_is_name a_number_of a_duty_of a_ban_of a_power_of a_clause_of a_let_of a_names_of a_part_of a_room_of a_Reading__init a_Reading_is_new a_Reading_take_names a_Reading_take_room a_Reading_take_part a_Reading_take_done a_Reading_take_row a_Reading_take a_read a_law_cell_at a_law_mix a_law_name a_law_event a_law_events a_law_header a_law_row a_law_rows a_law_clause a_law_found a_law_right a_law) : FnS P w c.K mg base 1 a_Clause__init (spF c 4 (bodyF 4 b_Clause__init)) [] :=
  FnS.of T.d_Clause__init sc_Clause__init (by decide) fun cdv A outer s H E hr => (ess_cons (es_sfld (ok := [1, 2, 3, 4, 5]) (i := 0) T.fn0 (NaL.ok T.na_label_1_2_3_4_5) (ee_var 0 rfl (pv 0)) (ee_var 1 rfl (pv 1))) (ess_cons (es_sfld (ok := [1, 2, 3, 4, 5]) (i := 1) T.fn1 (NaL.ok T.na_who_1_2_3_4_5) (ee_var 0 rfl (pv 0)) (ee_var 2 rfl (pv 2))) (ess_one (es_sfld (ok := [1, 2, 3, 4, 5]) (i := 2) T.fn2 (NaL.ok T.na_act_1_2_3_4_5) (ee_var 0 rfl (pv 0)) (ee_var 3 rfl (pv 3))))))
theorem fs_Power__init (T : Txt c mg c_PactError c_NoText c_Row c_Clause c_Duty c_Leave c_Ban c_Power c_Let c_Part c_Pact c_Reading a_NoText__init a_Clause__init a_Duty__init a_Ban__init a_Power__init a_Let__init a_Part__init a_Pact__init a_is_name a_number_of a_duty_of a_ban_of a_power_of a_clause_of a_let_of a_names_of a_part_of a_room_of a_Reading__init a_Reading_is_new a_Reading_take_names a_Reading_take_room a_Reading_take_part a_Reading_take_done a_Reading_take_row a_Reading_take a_read a_law_cell_at a_law_mix a_law_name a_law_event a_law_events a_law_header a_law_row a_law_rows a_law_clause a_law_found a_law_right a_law) : FnS P w c.K mg base 2 a_Power__init (spF c 5 (bodyF 5 b_Power__init)) [] :=
  FnS.of T.d_Power__init sc_Power__init (by decide) fun cdv A outer s H E hr => (ess_cons (es_expr (ee_cfun spA_F DefOk.nil ((fs_Clause__init T).mono (Nat.le_refl _)) (hr.mono (by decide)) (takes_of rfl rfl rfl rfl) (by rfl) T.mc_Leave T.cf_Leave_Clause__init (ea_cons (ee_var 0 rfl (pv 0)) (ea_cons (ee_var 1 rfl (pv 1)) (ea_cons (ee_var 2 rfl (pv 2)) (ea_cons (ee_var 3 rfl (pv 3)) (ea_nil rfl))))))) (ess_one (es_sfld (ok := [5]) (i := 4) T.fn4 (NaL.ok T.na_room_5) (ee_var 0 rfl (pv 0)) (ee_var 4 rfl (pv 4)))))
theorem fs_power_of (T : Txt c mg c_PactError c_NoText c_Row c_Clause c_Duty c_Leave c_Ban c_Power c_Let c_Part c_Pact c_Reading a_NoText__init a_Clause__init a_Duty__init a_Ban__init a_Power__init a_Let__init a_Part__init a_Pact__init a_is_name a_number_of a_duty_of a_ban_of a_power_of a_clause_of a_let_of a_names_of a_part_of a_room_of a_Reading__init a_Reading_is_new a_Reading_take_names a_Reading_take_room a_Reading_take_part a_Reading_take_done a_Reading_take_row a_Reading_take a_read a_law_cell_at a_law_mix a_law_name a_law_event a_law_events a_law_header a_law_row a_law_rows a_law_clause a_law_found a_law_right a_law) : FnS P w c.K mg base 4 a_power_of (spF c 1 (bodyF 1 b_power_of)) [] :=
  FnS.of T.d_power_of sc_power_of (by decide) fun cdv A outer s H E hr => (ess_cons (es_if ((ew_or (et_cmp (op_neA hr.units) (nomark _) s2_neA (ee_ix (ee_var 0 rfl (pv 0)) (ee_int rfl) (fun _ _ => rfl)) (ee_str rfl)) (ew_or (et_cmp (op_neA hr.units) (nomark _) s2_neA (ee_ix (ee_var 0 rfl (pv 0)) (ee_int rfl) (fun _ _ => rfl)) (ee_str rfl)) (ew_or (et_not (et_val (ee_call spA_P DefOk.nil ((fs_is_name T).P.mono (Nat.le_refl _)) (hr.mono (by decide)) (takes_of rfl rfl rfl rfl) (by rfl) T.m_is_name (ea_cons (ee_ix (ee_var 0 rfl (pv 0)) (ee_int rfl) (fun _ _ => rfl)) (ea_nil rfl))))) (ew_or1 (et_not (et_val (ee_call spA_P DefOk.nil ((fs_is_name T).P.mono (Nat.le_refl _)) (hr.mono (by decide)) (takes_of rfl rfl rfl rfl) (by rfl) T.m_is_name (ea_cons (ee_ix (ee_var 0 rfl (pv 0)) (ee_int rfl) (fun _ _ => rfl)) (ea_nil rfl)))))))))).et (ess_one (es_ret (ee_non rfl))) (ess_nil rfl)) (ess_one (es_ret (ee_mkP DefOk.nil T.ct_Power T.cl_Power T.mk_Power ((fs_Power__init T).mono (Nat.le_refl _)) (hr.mono (by decide)) (takes_of rfl rfl rfl rfl) (by rfl) T.mc_Power (ea_cons (ee_ix (ee_var 0 rfl (pv 0)) (ee_int rfl) (fun _ _ => rfl)) (ea_cons (ee_ix (ee_var 0 rfl (pv 0)) (ee_int rfl) (fun _ _ => rfl)) (ea_cons (ee_ix (ee_var 0 rfl (pv 0)) (ee_int rfl) (fun _ _ => rfl)) (ea_cons (ee_ix (ee_var 0 rfl (pv 0)) (ee_int rfl) (fun _ _ => rfl)) (ea_nil rfl)))))))))
theorem fs_Ban__init (T : Txt c mg c_PactError c_NoText c_Row c_Clause c_Duty c_Leave c_Ban c_Power c_Let c_Part c_Pact c_Reading a_NoText__init a_Clause__init a_Duty__init a_Ban__init a_Power__init a_Let__init a_Part__init a_Pact__init a_is_name a_number_of a_duty_of a_ban_of a_power_of a_clause_of a_let_of a_names_of a_part_of a_room_of a_Reading__init a_Reading_is_new a_Reading_take_names a_Reading_take_room a_Reading_take_part a_Reading_take_done a_Reading_take_row a_Reading_take a_read a_law_cell_at a_law_mix a_law_name a_law_event a_law_events a_law_header a_law_row a_law_rows a_law_clause a_law_found a_law_right a_law) : FnS P w c.K mg base 2 a_Ban__init (spF c 5 (bodyF 5 b_Ban__init)) [] :=
  FnS.of T.d_Ban__init sc_Ban__init (by decide) fun cdv A outer s H E hr => (ess_cons (es_expr (ee_cfun spA_F DefOk.nil ((fs_Clause__init T).mono (Nat.le_refl _)) (hr.mono (by decide)) (takes_of rfl rfl rfl rfl) (by rfl) T.mc_Clause T.cf_Clause_Clause__init (ea_cons (ee_var 0 rfl (pv 0)) (ea_cons (ee_var 1 rfl (pv 1)) (ea_cons (ee_var 2 rfl (pv 2)) (ea_cons (ee_var 3 rfl (pv 3)) (ea_nil rfl))))))) (ess_one (es_sfld (ok := [4]) (i := 4) T.fn4 (NaL.ok T.na_room_4) (ee_var 0 rfl (pv 0)) (ee_var 4 rfl (pv 4)))))
theorem fs_ban_of (T : Txt c mg c_PactError c_NoText c_Row c_Clause c_Duty c_Leave c_Ban c_Power c_Let c_Part c_Pact c_Reading a_NoText__init a_Clause__init a_Duty__init a_Ban__init a_Power__init a_Let__init a_Part__init a_Pact__init a_is_name a_number_of a_duty_of a_ban_of a_power_of a_clause_of a_let_of a_names_of a_part_of a_room_of a_Reading__init a_Reading_is_new a_Reading_take_names a_Reading_take_room a_Reading_take_part a_Reading_take_done a_Reading_take_row a_Reading_take a_read a_law_cell_at a_law_mix a_law_name a_law_event a_law_events a_law_header a_law_row a_law_rows a_law_clause a_law_found a_law_right a_law) : FnS P w c.K mg base 4 a_ban_of (spF c 1 (bodyF 1 b_ban_of)) [] :=
  FnS.of T.d_ban_of sc_ban_of (by decide) fun cdv A outer s H E hr => (ess_cons (es_if ((ew_or (et_cmp (op_neA hr.units) (nomark _) s2_neA (ee_ix (ee_var 0 rfl (pv 0)) (ee_int rfl) (fun _ _ => rfl)) (ee_str rfl)) (ew_or (et_cmp (op_neA hr.units) (nomark _) s2_neA (ee_ix (ee_var 0 rfl (pv 0)) (ee_int rfl) (fun _ _ => rfl)) (ee_str rfl)) (ew_or1 (et_cmp (op_neA hr.units) (nomark _) s2_neA (ee_ix (ee_var 0 rfl (pv 0)) (ee_int rfl) (fun _ _ => rfl)) (ee_str rfl)))))).et (ess_one (es_ret (ee_non rfl))) (ess_nil rfl)) (ess_cons (es_if ((ew_or (et_not (et_val (ee_call spA_P DefOk.nil ((fs_is_name T).P.mono (Nat.le_refl _)) (hr.mono (by decide)) (takes_of rfl rfl rfl rfl) (by rfl) T.m_is_name (ea_cons (ee_ix (ee_var 0 rfl (pv 0)) (ee_int rfl) (fun _ _ => rfl)) (ea_nil rfl))))) (ew_or1 (et_not (et_val (ee_call spA_P DefOk.nil ((fs_is_name T).P.mono (Nat.le_refl _)) (hr.mono (by decide)) (takes_of rfl rfl rfl rfl) (by rfl) T.m_is_name (ea_cons (ee_ix (ee_var 0 rfl (pv 0)) (ee_int rfl) (fun _ _ => rfl)) (ea_nil rfl)))))))).et (ess_one (es_ret (ee_non rfl))) (ess_nil rfl)) (ess_one (es_ret (ee_mkP DefOk.nil T.ct_Ban T.cl_Ban T.mk_Ban ((fs_Ban__init T).mono (Nat.le_refl _)) (hr.mono (by decide)) (takes_of rfl rfl rfl rfl) (by rfl) T.mc_Ban (ea_cons (ee_ix (ee_var 0 rfl (pv 0)) (ee_int rfl) (fun _ _ => rfl)) (ea_cons (ee_ix (ee_var 0 rfl (pv 0)) (ee_int rfl) (fun _ _ => rfl)) (ea_cons (ee_ix (ee_var 0 rfl (pv 0)) (ee_int rfl) (fun _ _ => rfl)) (ea_cons (ee_ix (ee_var 0 rfl (pv 0)) (ee_int rfl) (fun _ _ => rfl)) (ea_nil rfl))))))))))
theorem fs_Duty__init (T : Txt c mg c_PactError c_NoText c_Row c_Clause c_Duty c_Leave c_Ban c_Power c_Let c_Part c_Pact c_Reading a_NoText__init a_Clause__init a_Duty__init a_Ban__init a_Power__init a_Let__init a_Part__init a_Pact__init a_is_name a_number_of a_duty_of a_ban_of a_power_of a_clause_of a_let_of a_names_of a_part_of a_room_of a_Reading__init a_Reading_is_new a_Reading_take_names a_Reading_take_room a_Reading_take_part a_Reading_take_done a_Reading_take_row a_Reading_take a_read a_law_cell_at a_law_mix a_law_name a_law_event a_law_events a_law_header a_law_row a_law_rows a_law_clause a_law_found a_law_right a_law) : FnS P w c.K mg base 2 a_Duty__init (spF c 6 (bodyF 6 b_Duty__init)) [] :=
  FnS.of T.d_Duty__init sc_Duty__init (by decide) fun cdv A outer s H E hr => (ess_cons (es_expr (ee_cfun spA_F DefOk.nil ((fs_Clause__init T).mono (Nat.le_refl _)) (hr.mono (by decide)) (takes_of rfl rfl rfl rfl) (by rfl) T.mc_Clause T.cf_Clause_Clause__init (ea_cons (ee_var 0 rfl (pv 0)) (ea_cons (ee_var 1 rfl (pv 1)) (ea_cons (ee_var 2 rfl (pv 2)) (ea_cons (ee_var 3 rfl (pv 3)) (ea_nil rfl))))))) (ess_cons (es_sfld (ok := [2]) (i := 3) T.fn3 (NaL.ok T.na_turns_2) (ee_var 0 rfl (pv 0)) (ee_var 4 rfl (pv 4))) (ess_one (es_sfld (ok := [2]) (i := 4) T.fn4 (NaL.ok T.na_room_2) (ee_var 0 rfl (pv 0)) (ee_var 5 rfl (pv 5))))))
theorem fs_number_of (T : Txt c mg c_PactError c_NoText c_Row c_Clause c_Duty c_Leave c_Ban c_Power c_Let c_Part c_Pact c_Reading a_NoText__init a_Clause__init a_Duty__init a_Ban__init a_Power__init a_Let__init a_Part__init a_Pact__init a_is_name a_number_of a_duty_of a_ban_of a_power_of a_clause_of a_let_of a_names_of a_part_of a_room_of a_Reading__init a_Reading_is_new a_Reading_take_names a_Reading_take_room a_Reading_take_part a_Reading_take_done a_Reading_take_row a_Reading_take a_read a_law_cell_at a_law_mix a_law_name a_law_event a_law_events a_law_header a_law_row a_law_rows a_law_clause a_law_found a_law_right a_law) : FnS P w c.K mg base 1 a_number_of (spF c 1 (bodyF 2 b_number_of)) [] :=
  FnS.of T.d_number_of sc_number_of (by decide) fun cdv A outer s H E hr => (ess_cons (es_if ((ew_or (et_not (et_chain op_le op_le s2_le s2_le (ee_int rfl) (ee_cb call_len sn_len (by rfl) T.b_len (by decide +kernel) (ea_cons (ee_var 0 rfl (pv 0)) (ea_nil rfl))) (ee_globD (z := g_MOST_FIGURES) rfl (by rfl) T.g_MOST_FIGURES))) (ew_or1 (et_cmp (op_eqA hr.units) (nomark _) s2_eqA (ee_ix (ee_var 0 rfl (pv 0)) (ee_int rfl) (fun _ _ => rfl)) (ee_str rfl))))).et (ess_one (es_ret (ee_int rfl))) (ess_nil rfl)) (ess_cons (es_for (passes_of rfl) rfl (ei_seq (ee_var 0 rfl (pv 0))) (eg_name (pg_name (i := 1) sc_number_of.nd rfl (by first | exact Or.inl rfl | exact Or.inr rfl))) (ess_one (es_if (et_cmp (op_ninA (room65 hr)) rfl s2_ninA (ee_var 1 rfl (pv 1)) (ee_globD (z := g_FIGURES) rfl (by rfl) T.g_FIGURES)) (ess_one (es_ret (ee_int rfl))) (ess_nil rfl)))) (ess_one (es_ret (ee_cty call_intA sn_int (by rfl) T.b_int (by decide +kernel) (ea_cons (ee_var 0 rfl (pv 0)) (ea_nil rfl)))))))
theorem fs_duty_of (T : Txt c mg c_PactError c_NoText c_Row c_Clause c_Duty c_Leave c_Ban c_Power c_Let c_Part c_Pact c_Reading a_NoText__init a_Clause__init a_Duty__init a_Ban__init a_Power__init a_Let__init a_Part__init a_Pact__init a_is_name a_number_of a_duty_of a_ban_of a_power_of a_clause_of a_let_of a_names_of a_part_of a_room_of a_Reading__init a_Reading_is_new a_Reading_take_names a_Reading_take_room a_Reading_take_part a_Reading_take_done a_Reading_take_row a_Reading_take a_read a_law_cell_at a_law_mix a_law_name a_law_event a_law_events a_law_header a_law_row a_law_rows a_law_clause a_law_found a_law_right a_law) : FnS P w c.K mg base 4 a_duty_of (spF c 1 (bodyF 1 b_duty_of)) [] :=
  FnS.of T.d_duty_of sc_duty_of (by decide) fun cdv A outer s H E hr => (ess_cons (es_if ((ew_or (et_cmp (op_neA hr.units) (nomark _) s2_neA (ee_ix (ee_var 0 rfl (pv 0)) (ee_int rfl) (fun _ _ => rfl)) (ee_str rfl)) (ew_or (et_cmp (op_neA hr.units) (nomark _) s2_neA (ee_ix (ee_var 0 rfl (pv 0)) (ee_int rfl) (fun _ _ => rfl)) (ee_str rfl)) (ew_or (et_cmp (op_neA hr.units) (nomark _) s2_neA (ee_ix (ee_var 0 rfl (pv 0)) (ee_int rfl) (fun _ _ => rfl)) (ee_str rfl)) (ew_or1 (et_cmp (op_eqA hr.units) (nomark _) s2_eqA (ee_ix (ee_var 0 rfl (pv 0)) (ee_int rfl) (fun _ _ => rfl)) (ee_str rfl))))))).et (ess_one (es_ret (ee_non rfl))) (ess_nil rfl)) (ess_cons (es_if ((ew_or (et_not (et_val (ee_call spA_P DefOk.nil ((fs_is_name T).P.mono (Nat.le_refl _)) (hr.mono (by decide)) (takes_of rfl rfl rfl rfl) (by rfl) T.m_is_name (ea_cons (ee_ix (ee_var 0 rfl (pv 0)) (ee_int rfl) (fun _ _ => rfl)) (ea_nil rfl))))) (ew_or (et_cmp (op_eqA hr.units) (nomark _) s2_eqA (ee_call spA_P DefOk.nil ((fs_number_of T).P.mono (Nat.le_refl _)) (hr.mono (by decide)) (takes_of rfl rfl rfl rfl) (by rfl) T.m_number_of (ea_cons (ee_ix (ee_var 0 rfl (pv 0)) (ee_int rfl) (fun _ _ => rfl)) (ea_nil rfl))) (ee_int rfl)) (ew_or1 (et_not (et_val (ee_call spA_P DefOk.nil ((fs_is_name T).P.mono (Nat.le_refl _)) (hr.mono (by decide)) (takes_of rfl rfl rfl rfl) (by rfl) T.m_is_name (ea_cons (ee_ix (ee_var 0 rfl (pv 0)) (ee_int rfl) (fun _ _ => rfl)) (ea_nil rfl))))))))).et (ess_one (es_ret (ee_non rfl))) (ess_nil rfl)) (ess_one (es_ret (ee_mkP DefOk.nil T.ct_Duty T.cl_Duty T.mk_Duty ((fs_Duty__init T).mono (Nat.le_refl _)) (hr.mono (by decide)) (takes_of rfl rfl rfl rfl) (by rfl) T.mc_Duty (ea_cons (ee_ix (ee_var 0 rfl (pv 0)) (ee_int rfl) (fun _ _ => rfl)) (ea_cons (ee_ix (ee_var 0 rfl (pv 0)) (ee_int rfl) (fun _ _ => rfl)) (ea_cons (ee_ix (ee_var 0 rfl (pv 0)) (ee_int rfl) (fun _ _ => rfl)) (ea_cons (ee_call spA_P DefOk.nil ((fs_number_of T).P.mono (Nat.le_refl _)) (hr.mono (by decide)) (takes_of rfl rfl rfl rfl) (by rfl) T.m_number_of (ea_cons (ee_ix (ee_var 0 rfl (pv 0)) (ee_int rfl) (fun _ _ => rfl)) (ea_nil rfl))) (ea_cons (ee_ix (ee_var 0 rfl (pv 0)) (ee_int rfl) (fun _ _ => rfl)) (ea_nil rfl)))))))))))
theorem fs_clause_of (T : Txt c mg c_PactError c_NoText c_Row c_Clause c_Duty c_Leave c_Ban c_Power c_Let c_Part c_Pact c_Reading a_NoText__init a_Clause__init a_Duty__init a_Ban__init a_Power__init a_Let__init a_Part__init a_Pact__init a_is_name a_number_of a_duty_of a_ban_of a_power_of a_clause_of a_let_of a_names_of a_part_of a_room_of a_Reading__init a_Reading_is_new a_Reading_take_names a_Reading_take_room a_Reading_take_part a_Reading_take_done a_Reading_take_row a_Reading_take a_read a_law_cell_at a_law_mix a_law_name a_law_event a_law_events a_law_header a_law_row a_law_rows a_law_clause a_law_found a_law_right a_law) : FnS P w c.K mg base 5 a_clause_of (spF c 1 (bodyF 2 b_clause_of)) [] :=
  FnS.of T.d_clause_of sc_clause_of (by decide) fun cdv A outer s H E hr => (ess_cons (es_asg (ee_bm (sm_split false) PySem.F.plainAttrs_str PySem.F.slot_str_split PySem.F.type_str_split mt_split (ee_var 0 rfl (pv 0)) (ea_cons (ee_str rfl) (ea_nil rfl))) (eg_name (pg_name (i := 1) sc_clause_of.nd rfl (by first | exact Or.inl rfl | exact Or.inr rfl)))) (ess_cons (es_if ((ew_or (et_cmp op_lt (nomark _) s2_lt (ee_cb call_len sn_len (by rfl) T.b_len (by decide +kernel) (ea_cons (ee_var 1 rfl (pv 1)) (ea_nil rfl))) (ee_int rfl)) (ew_or (et_not (et_val (ee_call spA_P DefOk.nil ((fs_is_name T).P.mono (Nat.le_refl _)) (hr.mono (by decide)) (takes_of rfl rfl rfl rfl) (by rfl) T.m_is_name (ea_cons (ee_ix (ee_var 1 rfl (pv 1)) (ee_int rfl) (fun _ _ => rfl)) (ea_nil rfl))))) (ew_or1 ((ew_and (et_cmp (op_neA hr.units) (nomark _) s2_neA (ee_ix (ee_var 1 rfl (pv 1)) (ee_int rfl) (fun _ _ => rfl)) (ee_str rfl)) (ew_and1 (et_not (et_val (ee_call spA_P DefOk.nil ((fs_is_name T).P.mono (Nat.le_refl _)) (hr.mono (by decide)) (takes_of rfl rfl rfl rfl) (by rfl) T.m_is_name (ea_cons (ee_ix (ee_var 1 rfl (pv 1)) (ee_int rfl) (fun _ _ => rfl)) (ea_nil rfl)))))))).et)))).et (ess_one (es_ret (ee_non rfl))) (ess_nil rfl)) (ess_cons (es_if (et_cmp (op_eqA hr.units) (nomark _) s2_eqA (ee_cb call_len sn_len (by rfl) T.b_len (by decide +kernel) (ea_cons (ee_var 1 rfl (pv 1)) (ea_nil rfl))) (ee_int rfl)) (ess_one (es_ret (ee_call spA_P DefOk.nil ((fs_duty_of T).P.mono (Nat.le_refl _)) (hr.mono (by decide)) (takes_of rfl rfl rfl rfl) (by rfl) T.m_duty_of (ea_cons (ee_var 1 rfl (pv 1)) (ea_nil rfl))))) (ess_nil rfl)) (ess_cons (es_if (et_cmp (op_eqA hr.units) (nomark _) s2_eqA (ee_cb call_len sn_len (by rfl) T.b_len (by decide +kernel) (ea_cons (ee_var 1 rfl (pv 1)) (ea_nil rfl))) (ee_int rfl)) (ess_one (es_ret (ee_call spA_P DefOk.nil ((fs_ban_of T).P.mono (Nat.le_refl _)) (hr.mono (by decide)) (takes_of rfl rfl rfl rfl) (by rfl) T.m_ban_of (ea_cons (ee_var 1 rfl (pv 1)) (ea_nil rfl))))) (ess_nil rfl)) (ess_cons (es_if (et_cmp (op_eqA hr.units) (nomark _) s2_eqA (ee_cb call_len sn_len (by rfl) T.b_len (by decide +kernel) (ea_cons (ee_var 1 rfl (pv 1)) (ea_nil rfl))) (ee_int rfl)) (ess_one (es_ret (ee_call spA_P DefOk.nil ((fs_power_of T).P.mono (Nat.le_refl _)) (hr.mono (by decide)) (takes_of rfl rfl rfl rfl) (by rfl) T.m_power_of (ea_cons (ee_var 1 rfl (pv 1)) (ea_nil rfl))))) (ess_nil rfl)) (ess_cons (es_if ((ew_and (et_cmp (op_eqA hr.units) (nomark _) s2_eqA (ee_cb call_len sn_len (by rfl) T.b_len (by decide +kernel) (ea_cons (ee_var 1 rfl (pv 1)) (ea_nil rfl))) (ee_int rfl)) (ew_and (et_cmp (op_eqA hr.units) (nomark _) s2_eqA (ee_ix (ee_var 1 rfl (pv 1)) (ee_int rfl) (fun _ _ => rfl)) (ee_str rfl)) (ew_and1 (et_val (ee_call spA_P DefOk.nil ((fs_is_name T).P.mono (Nat.le_refl _)) (hr.mono (by decide)) (takes_of rfl rfl rfl rfl) (by rfl) T.m_is_name (ea_cons (ee_ix (ee_var 1 rfl (pv 1)) (ee_int rfl) (fun _ _ => rfl)) (ea_nil rfl)))))))).et (ess_one (es_ret (ee_mkP DefOk.nil T.ct_Leave T.cl_Leave T.mk_Leave ((fs_Clause__init T).mono (Nat.le_refl _)) (hr.mono (by decide)) (takes_of rfl rfl rfl rfl) (by rfl) T.mc_Leave (ea_cons (ee_ix (ee_var 1 rfl (pv 1)) (ee_int rfl) (fun _ _ => rfl)) (ea_cons (ee_ix (ee_var 1 rfl (pv 1)) (ee_int rfl) (fun _ _ => rfl)) (ea_cons (ee_ix (ee_var 1 rfl (pv 1)) (ee_int rfl) (fun _ _ => rfl)) (ea_nil rfl))))))) (ess_nil rfl)) (ess_one (es_ret (ee_non rfl)))))))))
theorem fs_Let__init (T : Txt c mg c_PactError c_NoText c_Row c_Clause c_Duty c_Leave c_Ban c_Power c_Let c_Part c_Pact c_Reading a_NoText__init a_Clause__init a_Duty__init a_Ban__init a_Power__init a_Let__init a_Part__init a_Pact__init a_is_name a_number_of a_duty_of a_ban_of a_power_of a_clause_of a_let_of a_names_of a_part_of a_room_of a_Reading__init a_Reading_is_new a_Reading_take_names a_Reading_take_room a_Reading_take_part a_Reading_take_done a_Reading_take_row a_Reading_take a_read a_law_cell_at a_law_mix a_law_name a_law_event a_law_events a_law_header a_law_row a_law_rows a_law_clause a_law_found a_law_right a_law) : FnS P w c.K mg base 1 a_Let__init (spF c 3 (bodyF 3 b_Let__init)) [] :=
  FnS.of T.d_Let__init sc_Let__init (by decide) fun cdv A outer s H E hr => (ess_cons (es_sfld (ok := [6]) (i := 5) T.fn5 (NaL.ok T.na_name_6) (ee_var 0 rfl (pv 0)) (ee_var 1 rfl (pv 1))) (ess_one (es_sfld (ok := [6]) (i := 6) T.fn6 (NaL.ok T.na_value_6) (ee_var 0 rfl (pv 0)) (ee_var 2 rfl (pv 2)))))
theorem fs_let_of (T : Txt c mg c_PactError c_NoText c_Row c_Clause c_Duty c_Leave c_Ban c_Power c_Let c_Part c_Pact c_Reading a_NoText__init a_Clause__init a_Duty__init a_Ban__init a_Power__init a_Let__init a_Part__init a_Pact__init a_is_name a_number_of a_duty_of a_ban_of a_power_of a_clause_of a_let_of a_names_of a_part_of a_room_of a_Reading__init a_Reading_is_new a_Reading_take_names a_Reading_take_room a_Reading_take_part a_Reading_take_done a_Reading_take_row a_Reading_take a_read a_law_cell_at a_law_mix a_law_name a_law_event a_law_events a_law_header a_law_row a_law_rows a_law_clause a_law_found a_law_right a_law) : FnS P w c.K mg base 3 a_let_of (spF c 1 (bodyF 2 b_let_of)) [] :=
  FnS.of T.d_let_of sc_let_of (by decide) fun cdv A outer s H E hr => (ess_cons (es_asg (ee_bm (sm_split false) PySem.F.plainAttrs_str PySem.F.slot_str_split PySem.F.type_str_split mt_split (ee_var 0 rfl (pv 0)) (ea_cons (ee_str rfl) (ea_nil rfl))) (eg_name (pg_name (i := 1) sc_let_of.nd rfl (by first | exact Or.inl rfl | exact Or.inr rfl)))) (ess_cons (es_if ((ew_or (et_cmp (op_neA hr.units) (nomark _) s2_neA (ee_cb call_len sn_len (by rfl) T.b_len (by decide +kernel) (ea_cons (ee_var 1 rfl (pv 1)) (ea_nil rfl))) (ee_int rfl)) (ew_or (et_cmp (op_neA hr.units) (nomark _) s2_neA (ee_ix (ee_var 1 rfl (pv 1)) (ee_int rfl) (fun _ _ => rfl)) (ee_str rfl)) (ew_or1 (et_cmp (op_neA hr.units) (nomark _) s2_neA (ee_ix (ee_var 1 rfl (pv 1)) (ee_int rfl) (fun _ _ => rfl)) (ee_str rfl)))))).et (ess_one (es_ret (ee_non rfl))) (ess_nil rfl)) (ess_cons (es_if ((ew_or (et_not (et_val (ee_call spA_P DefOk.nil ((fs_is_name T).P.mono (Nat.le_refl _)) (hr.mono (by decide)) (takes_of rfl rfl rfl rfl) (by rfl) T.m_is_name (ea_cons (ee_ix (ee_var 1 rfl (pv 1)) (ee_int rfl) (fun _ _ => rfl)) (ea_nil rfl))))) (ew_or1 (et_not (et_val (ee_call spA_P DefOk.nil ((fs_is_name T).P.mono (Nat.le_refl _)) (hr.mono (by decide)) (takes_of rfl rfl rfl rfl) (by rfl) T.m_is_name (ea_cons (ee_ix (ee_var 1 rfl (pv 1)) (ee_int rfl) (fun _ _ => rfl)) (ea_nil rfl)))))))).et (ess_one (es_ret (ee_non rfl))) (ess_nil rfl)) (ess_one (es_ret (ee_mkP DefOk.nil T.ct_Let T.cl_Let T.mk_Let ((fs_Let__init T).mono (Nat.le_refl _)) (hr.mono (by decide)) (takes_of rfl rfl rfl rfl) (by rfl) T.mc_Let (ea_cons (ee_ix (ee_var 1 rfl (pv 1)) (ee_int rfl) (fun _ _ => rfl)) (ea_cons (ee_ix (ee_var 1 rfl (pv 1)) (ee_int rfl) (fun _ _ => rfl)) (ea_nil rfl)))))))))
theorem fs_Reading_take_part (T : Txt c mg c_PactError c_NoText c_Row c_Clause c_Duty c_Leave c_Ban c_Power c_Let c_Part c_Pact c_Reading a_NoText__init a_Clause__init a_Duty__init a_Ban__init a_Power__init a_Let__init a_Part__init a_Pact__init a_is_name a_number_of a_duty_of a_ban_of a_power_of a_clause_of a_let_of a_names_of a_part_of a_room_of a_Reading__init a_Reading_is_new a_Reading_take_names a_Reading_take_room a_Reading_take_part a_Reading_take_done a_Reading_take_row a_Reading_take a_read a_law_cell_at a_law_mix a_law_name a_law_event a_law_events a_law_header a_law_row a_law_rows a_law_clause a_law_found a_law_right a_law) : FnS P w c.K mg base 2 a_Reading_take_part (spF c 2 (bodyF 2 b_Reading_take_part)) [] :=
  FnS.of T.d_Reading_take_part sc_Reading_take_part (by decide) fun cdv A outer s H E hr => (ess_cons (es_if ((ew_or (et_cmp op_gt (nomark _) s2_gt (ee_cb call_len sn_len (by rfl) T.b_len (by decide +kernel) (ea_cons (ee_fld (i := 16) T.fn16 (ee_var 0 rfl (pv 0))) (ea_nil rfl))) (ee_globD (z := g_MOST_DEPTH) rfl (by rfl) T.g_MOST_DEPTH)) (ew_or1 (et_not (et_val (ee_meth (MeL.ok (tbl := [(20, fun ws => (gF 3 (bodyF 3 b_Reading_is_new)) (ws ++ []))]) ⟨MethOk.of T.ct_Reading T.mt_Reading_Reading_is_new ((fs_Reading_is_new T).mono (Nat.le_refl _)) (hr.mono (by decide)) spA_F DefOk.nil, trivial⟩) (takes_of rfl rfl rfl rfl) (ee_var 0 rfl (pv 0)) (ea_cons (ee_fld (i := 18) T.fn18 (ee_var 0 rfl (pv 0))) (ea_cons (ee_fld (i := 5) T.fn5 (ee_var 1 rfl (pv 1))) (ea_nil rfl))))))))).et (ess_one (es_ret (ee_bl rfl))) (ess_nil rfl)) (ess_cons (es_expr (ee_bm sm_append PySem.F.plainAttrs_list PySem.F.slot_list_append PySem.F.type_list_append mt_append (ee_fld (i := 8) T.fn8 (ee_ix (ee_fld (i := 16) T.fn16 (ee_var 0 rfl (pv 0))) (ee_neg (ee_int rfl)) (fun _ _ => rfl))) (ea_cons (ee_var 1 rfl (pv 1)) (ea_nil rfl)))) (ess_cons (es_expr (ee_bm sm_append PySem.F.plainAttrs_list PySem.F.slot_list_append PySem.F.type_list_append mt_append (ee_fld (i := 16) T.fn16 (ee_var 0 rfl (pv 0))) (ea_cons (ee_var 1 rfl (pv 1)) (ea_nil rfl)))) (ess_one (es_ret (ee_bl rfl))))))
theorem fs_Part__init (T : Txt c mg c_PactError c_NoText c_Row c_Clause c_Duty c_Leave c_Ban c_Power c_Let c_Part c_Pact c_Reading a_NoText__init a_Clause__init a_Duty__init a_Ban__init a_Power__init a_Let__init a_Part__init a_Pact__init a_is_name a_number_of a_duty_of a_ban_of a_power_of a_clause_of a_let_of a_names_of a_part_of a_room_of a_Reading__init a_Reading_is_new a_Reading_take_names a_Reading_take_room a_Reading_take_part a_Reading_take_done a_Reading_take_row a_Reading_take a_read a_law_cell_at a_law_mix a_law_name a_law_event a_law_events a_law_header a_law_row a_law_rows a_law_clause a_law_found a_law_right a_law) : FnS P w c.K mg base 1 a_Part__init (spF c 4 (bodyF 4 b_Part__init)) [] :=
  FnS.of T.d_Part__init sc_Part__init (by decide) fun cdv A outer s H E hr => (ess_cons (es_sfld (ok := [7]) (i := 5) T.fn5 (NaL.ok T.na_name_7) (ee_var 0 rfl (pv 0)) (ee_var 1 rfl (pv 1))) (ess_cons (es_sfld (ok := [7]) (i := 7) T.fn7 (NaL.ok T.na_rooms_7) (ee_var 0 rfl (pv 0)) (ee_cty call_list_of (sn_list true) (by rfl) T.b_list (by decide +kernel) (ea_cons (ee_var 2 rfl (pv 2)) (ea_nil rfl)))) (ess_one (es_sfld (ok := [7]) (i := 8) T.fn8 (NaL.ok T.na_rows_7) (ee_var 0 rfl (pv 0)) (ee_cty call_list_of (sn_list true) (by rfl) T.b_list (by decide +kernel) (ea_cons (ee_var 3 rfl (pv 3)) (ea_nil rfl)))))))
theorem fs_names_of (T : Txt c mg c_PactError c_NoText c_Row c_Clause c_Duty c_Leave c_Ban c_Power c_Let c_Part c_Pact c_Reading a_NoText__init a_Clause__init a_Duty__init a_Ban__init a_Power__init a_Let__init a_Part__init a_Pact__init a_is_name a_number_of a_duty_of a_ban_of a_power_of a_clause_of a_let_of a_names_of a_part_of a_room_of a_Reading__init a_Reading_is_new a_Reading_take_names a_Reading_take_room a_Reading_take_part a_Reading_take_done a_Reading_take_row a_Reading_take a_read a_law_cell_at a_law_mix a_law_name a_law_event a_law_events a_law_header a_law_row a_law_rows a_law_clause a_law_found a_law_right a_law) : FnS P w c.K mg base 2 a_names_of (spF c 3 (bodyF 5 b_names_of)) [] :=
  FnS.of T.d_names_of sc_names_of (by decide) fun cdv A outer s H E hr => (ess_cons (es_asg (ee_bm (sm_split false) PySem.F.plainAttrs_str PySem.F.slot_str_split PySem.F.type_str_split mt_split (ee_var 0 rfl (pv 0)) (ea_cons (ee_str rfl) (ea_nil rfl))) (eg_name (pg_name (i := 3) sc_names_of.nd rfl (by first | exact Or.inl rfl | exact Or.inr rfl)))) (ess_cons (es_if ((ew_or (et_cmp (op_neA hr.units) (nomark _) s2_neA (ee_ix (ee_var 3 rfl (pv 3)) (ee_int rfl) (fun _ _ => rfl)) (ee_var 1 rfl (pv 1))) (ew_or1 (et_cmp op_gt (nomark _) s2_gt (ee_op op_sub s2_sub (ee_cb call_len sn_len (by rfl) T.b_len (by decide +kernel) (ea_cons (ee_var 3 rfl (pv 3)) (ea_nil rfl))) (ee_int rfl)) (ee_var 2 rfl (pv 2)))))).et (ess_one (es_ret (ee_lst (own := false) (ea_nil rfl)))) (ess_nil rfl)) (ess_cons (es_for (passes_of rfl) rfl (ei_seq (ee_slice (own := false) (ee_var 3 rfl (pv 3)) (eo_some (ee_int rfl)) eo_none)) (eg_name (pg_name (i := 4) sc_names_of.nd rfl (by first | exact Or.inl rfl | exact Or.inr rfl))) (ess_one (es_if (et_not (et_val (ee_call spA_P DefOk.nil ((fs_is_name T).P.mono (Nat.le_refl _)) (hr.mono (by decide)) (takes_of rfl rfl rfl rfl) (by rfl) T.m_is_name (ea_cons (ee_var 4 rfl (pv 4)) (ea_nil rfl))))) (ess_one (es_ret (ee_lst (own := false) (ea_nil rfl)))) (ess_nil rfl)))) (ess_one (es_ret (ee_slice (own := false) (ee_var 3 rfl (pv 3)) (eo_some (ee_int rfl)) eo_none))))))
theorem fs_part_of (T : Txt c mg c_PactError c_NoText c_Row c_Clause c_Duty c_Leave c_Ban c_Power c_Let c_Part c_Pact c_Reading a_NoText__init a_Clause__init a_Duty__init a_Ban__init a_Power__init a_Let__init a_Part__init a_Pact__init a_is_name a_number_of a_duty_of a_ban_of a_power_of a_clause_of a_let_of a_names_of a_part_of a_room_of a_Reading__init a_Reading_is_new a_Reading_take_names a_Reading_take_room a_Reading_take_part a_Reading_take_done a_Reading_take_row a_Reading_take a_read a_law_cell_at a_law_mix a_law_name a_law_event a_law_events a_law_header a_law_row a_law_rows a_law_clause a_law_found a_law_right a_law) : FnS P w c.K mg base 3 a_part_of (spF c 1 (bodyF 3 b_part_of)) [] :=
  FnS.of T.d_part_of sc_part_of (by decide) fun cdv A outer s H E hr => (ess_cons (es_asg (ee_bm (sm_split false) PySem.F.plainAttrs_str PySem.F.slot_str_split PySem.F.type_str_split mt_split (ee_var 0 rfl (pv 0)) (ea_cons (ee_str rfl) (ea_nil rfl))) (eg_name (pg_name (i := 1) sc_part_of.nd rfl (by first | exact Or.inl rfl | exact Or.inr rfl)))) (ess_cons (es_if ((ew_or (et_cmp op_lt (nomark _) s2_lt (ee_cb call_len sn_len (by rfl) T.b_len (by decide +kernel) (ea_cons (ee_var 1 rfl (pv 1)) (ea_nil rfl))) (ee_int rfl)) (ew_or (et_cmp (op_neA hr.units) (nomark _) s2_neA (ee_ix (ee_var 1 rfl (pv 1)) (ee_int rfl) (fun _ _ => rfl)) (ee_str rfl)) (ew_or1 (et_not (et_val (ee_call spA_P DefOk.nil ((fs_is_name T).P.mono (Nat.le_refl _)) (hr.mono (by decide)) (takes_of rfl rfl rfl rfl) (by rfl) T.m_is_name (ea_cons (ee_ix (ee_var 1 rfl (pv 1)) (ee_int rfl) (fun _ _ => rfl)) (ea_nil rfl))))))))).et (ess_one (es_ret (ee_non rfl))) (ess_nil rfl)) (ess_cons (es_if (et_cmp (op_eqA hr.units) (nomark _) s2_eqA (ee_cb call_len sn_len (by rfl) T.b_len (by decide +kernel) (ea_cons (ee_var 1 rfl (pv 1)) (ea_nil rfl))) (ee_int rfl)) (ess_one (es_ret (ee_mkO DefOk.nil T.ct_Part T.cl_Part T.mk_Part ((fs_Part__init T).mono (Nat.le_refl _)) (hr.mono (by decide)) (takes_of rfl rfl rfl rfl) (by rfl) T.mc_Part (ea_cons (ee_ix (ee_var 1 rfl (pv 1)) (ee_int rfl) (fun _ _ => rfl)) (ea_cons (ee_lst (own := false) (ea_nil rfl)) (ea_cons (ee_lst (own := false) (ea_nil rfl)) (ea_nil rfl))))))) (ess_nil rfl)) (ess_cons (es_asg (ee_call spA_P DefOk.nil ((fs_names_of T).P.mono (Nat.le_refl _)) (hr.mono (by decide)) (takes_of rfl rfl rfl rfl) (by rfl) T.m_names_of (ea_cons (ee_bm sm_join PySem.F.plainAttrs_str PySem.F.slot_str_join PySem.F.type_str_join mt_join (ee_str rfl) (ea_cons (ee_slice (own := false) (ee_var 1 rfl (pv 1)) (eo_some (ee_int rfl)) eo_none) (ea_nil rfl))) (ea_cons (ee_str rfl) (ea_cons (ee_globD (z := g_MOST_ROOMS) rfl (by rfl) T.g_MOST_ROOMS) (ea_nil rfl))))) (eg_name (pg_name (i := 2) sc_part_of.nd rfl (by first | exact Or.inl rfl | exact Or.inr rfl)))) (ess_cons (es_if (et_cmp (op_eqA hr.units) (nomark _) s2_eqA (ee_var 2 rfl (pv 2)) (ee_lst (own := false) (ea_nil rfl))) (ess_one (es_ret (ee_non rfl))) (ess_nil rfl)) (ess_one (es_ret (ee_mkO DefOk.nil T.ct_Part T.cl_Part T.mk_Part ((fs_Part__init T).mono (Nat.le_refl _)) (hr.mono (by decide)) (takes_of rfl rfl rfl rfl) (by rfl) T.mc_Part (ea_cons (ee_ix (ee_var 1 rfl (pv 1)) (ee_int rfl) (fun _ _ => rfl)) (ea_cons (ee_var 2 rfl (pv 2)) (ea_cons (ee_lst (own := false) (ea_nil rfl)) (ea_nil rfl))))))))))))
theorem fs_Reading_take_done (T : Txt c mg c_PactError c_NoText c_Row c_Clause c_Duty c_Leave c_Ban c_Power c_Let c_Part c_Pact c_Reading a_NoText__init a_Clause__init a_Duty__init a_Ban__init a_Power__init a_Let__init a_Part__init a_Pact__init a_is_name a_number_of a_duty_of a_ban_of a_power_of a_clause_of a_let_of a_names_of a_part_of a_room_of a_Reading__init a_Reading_is_new a_Reading_take_names a_Reading_take_room a_Reading_take_part a_Reading_take_done a_Reading_take_row a_Reading_take a_read a_law_cell_at a_law_mix a_law_name a_law_event a_law_events a_law_header a_law_row a_law_rows a_law_clause a_law_found a_law_right a_law) : FnS P w c.K mg base 1 a_Reading_take_done (spF c 1 (bodyF 1 b_Reading_take_done)) [] :=
  FnS.of T.d_Reading_take_done sc_Reading_take_done (by decide) fun cdv A outer s H E hr => (ess_cons (es_if (et_cmp (op_eqA hr.units) (nomark _) s2_eqA (ee_cb call_len sn_len (by rfl) T.b_len (by decide +kernel) (ea_cons (ee_fld (i := 16) T.fn16 (ee_var 0 rfl (pv 0))) (ea_nil rfl))) (ee_int rfl)) (ess_one (es_ret (ee_bl rfl))) (ess_nil rfl)) (ess_cons (es_expr (ee_bm0 sm_pop PySem.F.plainAttrs_list PySem.F.slot_list_pop PySem.F.type_list_pop mt_pop (ee_fld (i := 16) T.fn16 (ee_var 0 rfl (pv 0))))) (ess_one (es_ret (ee_bl rfl)))))
theorem fs_Reading_take_row (T : Txt c mg c_PactError c_NoText c_Row c_Clause c_Duty c_Leave c_Ban c_Power c_Let c_Part c_Pact c_Reading a_NoText__init a_Clause__init a_Duty__init a_Ban__init a_Power__init a_Let__init a_Part__init a_Pact__init a_is_name a_number_of a_duty_of a_ban_of a_power_of a_clause_of a_let_of a_names_of a_part_of a_room_of a_Reading__init a_Reading_is_new a_Reading_take_names a_Reading_take_room a_Reading_take_part a_Reading_take_done a_Reading_take_row a_Reading_take a_read a_law_cell_at a_law_mix a_law_name a_law_event a_law_events a_law_header a_law_row a_law_rows a_law_clause a_law_found a_law_right a_law) : FnS P w c.K mg base 6 a_Reading_take_row (spF c 2 (bodyF 4 b_Reading_take_row)) [] :=
  FnS.of T.d_Reading_take_row sc_Reading_take_row (by decide) fun cdv A outer s H E hr => (ess_cons (es_if (et_cmp (op_eqA hr.units) (nomark _) s2_eqA (ee_var 1 rfl (pv 1)) (ee_str rfl)) (ess_one (es_ret (ee_meth0 (MeL.ok (tbl := [(20, fun ws => (gF 1 (bodyF 1 b_Reading_take_done)) (ws ++ []))]) ⟨MethOk.of T.ct_Reading T.mt_Reading_Reading_take_done ((fs_Reading_take_done T).mono (Nat.le_refl _)) (hr.mono (by decide)) spA_F DefOk.nil, trivial⟩) (takes_of rfl rfl rfl rfl) (ee_var 0 rfl (pv 0))))) (ess_nil rfl)) (ess_cons (es_asg (ee_call spA_F DefOk.nil ((fs_part_of T).mono (Nat.le_refl _)) (hr.mono (by decide)) (takes_of rfl rfl rfl rfl) (by rfl) T.m_part_of (ea_cons (ee_var 1 rfl (pv 1)) (ea_nil rfl))) (eg_name (pg_name (i := 2) sc_Reading_take_row.nd rfl (by first | exact Or.inl rfl | exact Or.inr rfl)))) (ess_cons (es_if (et_cmp op_notN (nomark _) s2_isnN (ee_var 2 rfl (pv 2)) (ee_non rfl)) (ess_one (es_ret (ee_meth (MeL.ok (tbl := [(20, fun ws => (gF 2 (bodyF 2 b_Reading_take_part)) (ws ++ []))]) ⟨MethOk.of T.ct_Reading T.mt_Reading_Reading_take_part ((fs_Reading_take_part T).mono (Nat.le_refl _)) (hr.mono (by decide)) spA_F DefOk.nil, trivial⟩) (takes_of rfl rfl rfl rfl) (ee_var 0 rfl (pv 0)) (ea_cons (ee_var 2 rfl (pv 2)) (ea_nil rfl))))) (ess_nil rfl)) (ess_cons (es_asg (ee_call spA_P DefOk.nil ((fs_let_of T).P.mono (Nat.le_refl _)) (hr.mono (by decide)) (takes_of rfl rfl rfl rfl) (by rfl) T.m_let_of (ea_cons (ee_var 1 rfl (pv 1)) (ea_nil rfl))) (eg_name (pg_name (i := 3) sc_Reading_take_row.nd rfl (by first | exact Or.inl rfl | exact Or.inr rfl)))) (ess_cons (es_if (et_cmp op_isN (nomark _) s2_isN (ee_var 3 rfl (pv 3)) (ee_non rfl)) (ess_cons (es_asg (ee_call spA_P DefOk.nil ((fs_clause_of T).P.mono (Nat.le_refl _)) (hr.mono (by decide)) (takes_of rfl rfl rfl rfl) (by rfl) T.m_clause_of (ea_cons (ee_var 1 rfl (pv 1)) (ea_nil rfl))) (eg_name (pg_name (i := 3) sc_Reading_take_row.nd rfl (by first | exact Or.inl rfl | exact Or.inr rfl)))) (ess_one (es_if ((ew_or (et_cmp op_isN (nomark _) s2_isN (ee_var 3 rfl (pv 3)) (ee_non rfl)) (ew_or1 (et_not (et_val (ee_meth (MeL.ok (tbl := [(20, fun ws => (gF 3 (bodyF 3 b_Reading_is_new)) (ws ++ []))]) ⟨MethOk.of T.ct_Reading T.mt_Reading_Reading_is_new ((fs_Reading_is_new T).mono (Nat.le_refl _)) (hr.mono (by decide)) spA_F DefOk.nil, trivial⟩) (takes_of rfl rfl rfl rfl) (ee_var 0 rfl (pv 0)) (ea_cons (ee_fld (i := 18) T.fn18 (ee_var 0 rfl (pv 0))) (ea_cons (ee_fld (i := 0) T.fn0 (ee_var 3 rfl (pv 3))) (ea_nil rfl))))))))).et (ess_one (es_ret (ee_bl rfl))) (ess_nil rfl)))) (ess_nil rfl)) (ess_cons (es_expr (ee_bm sm_append PySem.F.plainAttrs_list PySem.F.slot_list_append PySem.F.type_list_append mt_append (ee_fld (i := 8) T.fn8 (ee_ix (ee_fld (i := 16) T.fn16 (ee_var 0 rfl (pv 0))) (ee_neg (ee_int rfl)) (fun _ _ => rfl))) (ea_cons (ee_var 3 rfl (pv 3)) (ea_nil rfl)))) (ess_one (es_ret (ee_bl rfl)))))))))
theorem fs_Reading_take_room (T : Txt c mg c_PactError c_NoText c_Row c_Clause c_Duty c_Leave c_Ban c_Power c_Let c_Part c_Pact c_Reading a_NoText__init a_Clause__init a_Duty__init a_Ban__init a_Power__init a_Let__init a_Part__init a_Pact__init a_is_name a_number_of a_duty_of a_ban_of a_power_of a_clause_of a_let_of a_names_of a_part_of a_room_of a_Reading__init a_Reading_is_new a_Reading_take_names a_Reading_take_room a_Reading_take_part a_Reading_take_done a_Reading_take_row a_Reading_take a_read a_law_cell_at a_law_mix a_law_name a_law_event a_law_events a_law_header a_law_row a_law_rows a_law_clause a_law_found a_law_right a_law) : FnS P w c.K mg base 2 a_Reading_take_room (spF c 2 (bodyF 2 b_Reading_take_room)) [] :=
  FnS.of T.d_Reading_take_room sc_Reading_take_room (by decide) fun cdv A outer s H E hr => (ess_cons (es_if ((ew_or (et_cmp op_gt (nomark _) s2_gt (ee_cb call_len sn_len (by rfl) T.b_len (by decide +kernel) (ea_cons (ee_fld (i := 16) T.fn16 (ee_var 0 rfl (pv 0))) (ea_nil rfl))) (ee_int rfl)) (ew_or (et_cmp (op_neA hr.units) (nomark _) s2_neA (ee_fld (i := 8) T.fn8 (ee_ix (ee_fld (i := 16) T.fn16 (ee_var 0 rfl (pv 0))) (ee_int rfl) (fun _ _ => rfl))) (ee_lst (own := false) (ea_nil rfl))) (ew_or1 (et_cmp (op_eqA hr.units) (nomark _) s2_eqA (ee_cb call_len sn_len (by rfl) T.b_len (by decide +kernel) (ea_cons (ee_fld (i := 7) T.fn7 (ee_var 0 rfl (pv 0))) (ea_nil rfl))) (ee_globD (z := g_MOST_ROOMS) rfl (by rfl) T.g_MOST_ROOMS)))))).et (ess_one (es_ret (ee_bl rfl))) (ess_nil rfl)) (ess_cons (es_expr (ee_bm sm_append PySem.F.plainAttrs_list PySem.F.slot_list_append PySem.F.type_list_append mt_append (ee_fld (i := 7) T.fn7 (ee_var 0 rfl (pv 0))) (ea_cons (ee_var 1 rfl (pv 1)) (ea_nil rfl)))) (ess_one (es_ret (ee_meth (MeL.ok (tbl := [(20, fun ws => (gF 3 (bodyF 3 b_Reading_is_new)) (ws ++ []))]) ⟨MethOk.of T.ct_Reading T.mt_Reading_Reading_is_new ((fs_Reading_is_new T).mono (Nat.le_refl _)) (hr.mono (by decide)) spA_F DefOk.nil, trivial⟩) (takes_of rfl rfl rfl rfl) (ee_var 0 rfl (pv 0)) (ea_cons (ee_fld (i := 17) T.fn17 (ee_var 0 rfl (pv 0))) (ea_cons (ee_ix (ee_var 1 rfl (pv 1)) (ee_int rfl) (fun _ _ => rfl)) (ea_nil rfl))))))))
theorem fs_room_of (T : Txt c mg c_PactError c_NoText c_Row c_Clause c_Duty c_Leave c_Ban c_Power c_Let c_Part c_Pact c_Reading a_NoText__init a_Clause__init a_Duty__init a_Ban__init a_Power__init a_Let__init a_Part__init a_Pact__init a_is_name a_number_of a_duty_of a_ban_of a_power_of a_clause_of a_let_of a_names_of a_part_of a_room_of a_Reading__init a_Reading_is_new a_Reading_take_names a_Reading_take_room a_Reading_take_part a_Reading_take_done a_Reading_take_row a_Reading_take a_read a_law_cell_at a_law_mix a_law_name a_law_event a_law_events a_law_header a_law_row a_law_rows a_law_clause a_law_found a_law_right a_law) : FnS P w c.K mg base 2 a_room_of (spF c 1 (bodyF 2 b_room_of)) [] :=
  FnS.of T.d_room_of sc_room_of (by decide) fun cdv A outer s H E hr => (ess_cons (es_asg (ee_bm (sm_split false) PySem.F.plainAttrs_str PySem.F.slot_str_split PySem.F.type_str_split mt_split (ee_var 0 rfl (pv 0)) (ea_cons (ee_str rfl) (ea_nil rfl))) (eg_name (pg_name (i := 1) sc_room_of.nd rfl (by first | exact Or.inl rfl | exact Or.inr rfl)))) (ess_cons (es_if ((ew_or (et_cmp (op_neA hr.units) (nomark _) s2_neA (ee_cb call_len sn_len (by rfl) T.b_len (by decide +kernel) (ea_cons (ee_var 1 rfl (pv 1)) (ea_nil rfl))) (ee_int rfl)) (ew_or (et_cmp (op_ninA (room65 hr)) rfl s2_ninA (ee_ix (ee_var 1 rfl (pv 1)) (ee_int rfl) (fun _ _ => rfl)) (ee_globD (z := g_MARKS) rfl (by rfl) T.g_MARKS)) (ew_or1 (et_not (et_val (ee_call spA_P DefOk.nil ((fs_is_name T).P.mono (Nat.le_refl _)) (hr.mono (by decide)) (takes_of rfl rfl rfl rfl) (by rfl) T.m_is_name (ea_cons (ee_ix (ee_var 1 rfl (pv 1)) (ee_int rfl) (fun _ _ => rfl)) (ea_nil rfl))))))))).et (ess_one (es_ret (ee_non rfl))) (ess_nil rfl)) (ess_one (es_ret (ee_tup (ea_cons (ee_ix (ee_var 1 rfl (pv 1)) (ee_int rfl) (fun _ _ => rfl)) (ea_cons (ee_ix (ee_var 1 rfl (pv 1)) (ee_int rfl) (fun _ _ => rfl)) (ea_nil rfl))))))))
theorem fs_Reading_take_names (T : Txt c mg c_PactError c_NoText c_Row c_Clause c_Duty c_Leave c_Ban c_Power c_Let c_Part c_Pact c_Reading a_NoText__init a_Clause__init a_Duty__init a_Ban__init a_Power__init a_Let__init a_Part__init a_Pact__init a_is_name a_number_of a_duty_of a_ban_of a_power_of a_clause_of a_let_of a_names_of a_part_of a_room_of a_Reading__init a_Reading_is_new a_Reading_take_names a_Reading_take_room a_Reading_take_part a_Reading_take_done a_Reading_take_row a_Reading_take a_read a_law_cell_at a_law_mix a_law_name a_law_event a_law_events a_law_header a_law_row a_law_rows a_law_clause a_law_found a_law_right a_law) : FnS P w c.K mg base 2 a_Reading_take_names (spF c 3 (bodyF 4 b_Reading_take_names)) [] :=
  FnS.of T.d_Reading_take_names sc_Reading_take_names (by decide) fun cdv A outer s H E hr => (ess_cons (es_for (passes_of rfl) rfl (ei_seq (ee_var 1 rfl (pv 1))) (eg_name (pg_name (i := 3) sc_Reading_take_names.nd rfl (by first | exact Or.inl rfl | exact Or.inr rfl))) (ess_cons (es_if (et_not (et_val (ee_meth (MeL.ok (tbl := [(20, fun ws => (gF 3 (bodyF 3 b_Reading_is_new)) (ws ++ []))]) ⟨MethOk.of T.ct_Reading T.mt_Reading_Reading_is_new ((fs_Reading_is_new T).mono (Nat.le_refl _)) (hr.mono (by decide)) spA_F DefOk.nil, trivial⟩) (takes_of rfl rfl rfl rfl) (ee_var 0 rfl (pv 0)) (ea_cons (ee_fld (i := 17) T.fn17 (ee_var 0 rfl (pv 0))) (ea_cons (ee_var 3 rfl (pv 3)) (ea_nil rfl)))))) (ess_one (es_ret (ee_bl rfl))) (ess_nil rfl)) (ess_one (es_expr (ee_bm sm_append PySem.F.plainAttrs_list PySem.F.slot_list_append PySem.F.type_list_append mt_append (ee_var 2 rfl (pv 2)) (ea_cons (ee_var 3 rfl (pv 3)) (ea_nil rfl))))))) (ess_one (es_ret (ee_cmp (op_neA hr.units) (nomark _) s2_neA (ee_var 1 rfl (pv 1)) (ee_lst (own := false) (ea_nil rfl))))))
theorem fs_Reading_take (T : Txt c mg c_PactError c_NoText c_Row c_Clause c_Duty c_Leave c_Ban c_Power c_Let c_Part c_Pact c_Reading a_NoText__init a_Clause__init a_Duty__init a_Ban__init a_Power__init a_Let__init a_Part__init a_Pact__init a_is_name a_number_of a_duty_of a_ban_of a_power_of a_clause_of a_let_of a_names_of a_part_of a_room_of a_Reading__init a_Reading_is_new a_Reading_take_names a_Reading_take_room a_Reading_take_part a_Reading_take_done a_Reading_take_row a_Reading_take a_read a_law_cell_at a_law_mix a_law_name a_law_event a_law_events a_law_header a_law_row a_law_rows a_law_clause a_law_found a_law_right a_law) : FnS P w c.K mg base 7 a_Reading_take (spF c 3 (bodyF 4 b_Reading_take)) [] :=
  FnS.of T.d_Reading_take sc_Reading_take (by decide) fun cdv A outer s H E hr => (ess_cons (es_if (et_cmp (op_eqA hr.units) (nomark _) s2_eqA (ee_var 1 rfl (pv 1)) (ee_int rfl)) (ess_one (es_ret (ee_meth (MeL.ok (tbl := [(20, fun ws => (gF 3 (bodyF 4 b_Reading_take_names)) (ws ++ []))]) ⟨MethOk.of T.ct_Reading T.mt_Reading_Reading_take_names ((fs_Reading_take_names T).mono (Nat.le_refl _)) (hr.mono (by decide)) spA_F DefOk.nil, trivial⟩) (takes_of rfl rfl rfl rfl) (ee_var 0 rfl (pv 0)) (ea_cons (ee_call spA_P DefOk.nil ((fs_names_of T).P.mono (Nat.le_refl _)) (hr.mono (by decide)) (takes_of rfl rfl rfl rfl) (by rfl) T.m_names_of (ea_cons (ee_var 2 rfl (pv 2)) (ea_cons (ee_str rfl) (ea_cons (ee_globD (z := g_MOST_PARTIES) rfl (by rfl) T.g_MOST_PARTIES) (ea_nil rfl))))) (ea_cons (ee_fld (i := 9) T.fn9 (ee_var 0 rfl (pv 0))) (ea_nil rfl)))))) (ess_nil rfl)) (ess_cons (es_if (et_cmp (op_eqA hr.units) (nomark _) s2_eqA (ee_var 1 rfl (pv 1)) (ee_int rfl)) (ess_one (es_ret (ee_meth (MeL.ok (tbl := [(20, fun ws => (gF 3 (bodyF 4 b_Reading_take_names)) (ws ++ []))]) ⟨MethOk.of T.ct_Reading T.mt_Reading_Reading_take_names ((fs_Reading_take_names T).mono (Nat.le_refl _)) (hr.mono (by decide)) spA_F DefOk.nil, trivial⟩) (takes_of rfl rfl rfl rfl) (ee_var 0 rfl (pv 0)) (ea_cons (ee_call spA_P DefOk.nil ((fs_names_of T).P.mono (Nat.le_refl _)) (hr.mono (by decide)) (takes_of rfl rfl rfl rfl) (by rfl) T.m_names_of (ea_cons (ee_var 2 rfl (pv 2)) (ea_cons (ee_str rfl) (ea_cons (ee_globD (z := g_MOST_ACTS) rfl (by rfl) T.g_MOST_ACTS) (ea_nil rfl))))) (ea_cons (ee_fld (i := 10) T.fn10 (ee_var 0 rfl (pv 0))) (ea_nil rfl)))))) (ess_nil rfl)) (ess_cons (es_asg (ee_call spA_P DefOk.nil ((fs_room_of T).P.mono (Nat.le_refl _)) (hr.mono (by decide)) (takes_of rfl rfl rfl rfl) (by rfl) T.m_room_of (ea_cons (ee_var 2 rfl (pv 2)) (ea_nil rfl))) (eg_name (pg_name (i := 3) sc_Reading_take.nd rfl (by first | exact Or.inl rfl | exact Or.inr rfl)))) (ess_cons (es_if (et_cmp op_notN (nomark _) s2_isnN (ee_var 3 rfl (pv 3)) (ee_non rfl)) (ess_one (es_ret (ee_meth (MeL.ok (tbl := [(20, fun ws => (gF 2 (bodyF 2 b_Reading_take_room)) (ws ++ []))]) ⟨MethOk.of T.ct_Reading T.mt_Reading_Reading_take_room ((fs_Reading_take_room T).mono (Nat.le_refl _)) (hr.mono (by decide)) spA_F DefOk.nil, trivial⟩) (takes_of rfl rfl rfl rfl) (ee_var 0 rfl (pv 0)) (ea_cons (ee_var 3 rfl (pv 3)) (ea_nil rfl))))) (ess_nil rfl)) (ess_one (es_ret (ee_and (ee_cmp (op_neA hr.units) (nomark _) s2_neA (ee_fld (i := 7) T.fn7 (ee_var 0 rfl (pv 0))) (ee_lst (own := false) (ea_nil rfl))) (ee_one (ee_meth (MeL.ok (tbl := [(20, fun ws => (gF 2 (bodyF 4 b_Reading_take_row)) (ws ++ []))]) ⟨MethOk.of T.ct_Reading T.mt_Reading_Reading_take_row ((fs_Reading_take_row T).mono (Nat.le_refl _)) (hr.mono (by decide)) spA_F DefOk.nil, trivial⟩) (takes_of rfl rfl rfl rfl) (ee_var 0 rfl (pv 0)) (ea_cons (ee_var 2 rfl (pv 2)) (ea_nil rfl)))))))))))
theorem fs_Reading__init (T : Txt c mg c_PactError c_NoText c_Row c_Clause c_Duty c_Leave c_Ban c_Power c_Let c_Part c_Pact c_Reading a_NoText__init a_Clause__init a_Duty__init a_Ban__init a_Power__init a_Let__init a_Part__init a_Pact__init a_is_name a_number_of a_duty_of a_ban_of a_power_of a_clause_of a_let_of a_names_of a_part_of a_room_of a_Reading__init a_Reading_is_new a_Reading_take_names a_Reading_take_room a_Reading_take_part a_Reading_take_done a_Reading_take_row a_Reading_take a_read a_law_cell_at a_law_mix a_law_name a_law_event a_law_events a_law_header a_law_row a_law_rows a_law_clause a_law_found a_law_right a_law) : FnS P w c.K mg base 3 a_Reading__init (spF c 1 (bodyF 1 b_Reading__init)) [] :=
  FnS.of T.d_Reading__init sc_Reading__init (by decide) fun cdv A outer s H E hr => (ess_cons (es_sfld (ok := [20]) (i := 9) T.fn9 (NaL.ok T.na_parties_20) (ee_var 0 rfl (pv 0)) (ee_lst (own := true) (ea_nil rfl))) (ess_cons (es_sfld (ok := [20]) (i := 10) T.fn10 (NaL.ok T.na_acts_20) (ee_var 0 rfl (pv 0)) (ee_lst (own := true) (ea_nil rfl))) (ess_cons (es_sfld (ok := [20]) (i := 7) T.fn7 (NaL.ok T.na_rooms_20) (ee_var 0 rfl (pv 0)) (ee_lst (own := true) (ea_nil rfl))) (ess_cons (es_sfld (ok := [20]) (i := 16) T.fn16 (NaL.ok T.na_stack_20) (ee_var 0 rfl (pv 0)) (ee_lst (own := true) (ea_cons (ee_mkO DefOk.nil T.ct_Part T.cl_Part T.mk_Part ((fs_Part__init T).mono (Nat.le_refl _)) (hr.mono (by decide)) (takes_of rfl rfl rfl rfl) (by rfl) T.mc_Part (ea_cons (ee_str rfl) (ea_cons (ee_lst (own := false) (ea_nil rfl)) (ea_cons (ee_lst (own := false) (ea_nil rfl)) (ea_nil rfl))))) (ea_nil rfl)))) (ess_cons (es_sfld (ok := [20]) (i := 17) T.fn17 (NaL.ok T.na_header_20) (ee_var 0 rfl (pv 0)) (ee_dnew (own := true) rfl)) (ess_one (es_sfld (ok := [20]) (i := 18) T.fn18 (NaL.ok T.na_labels_20) (ee_var 0 rfl (pv 0)) (ee_dnew (own := true) rfl))))))))
theorem fs_read (T : Txt c mg c_PactError c_NoText c_Row c_Clause c_Duty c_Leave c_Ban c_Power c_Let c_Part c_Pact c_Reading a_NoText__init a_Clause__init a_Duty__init a_Ban__init a_Power__init a_Let__init a_Part__init a_Pact__init a_is_name a_number_of a_duty_of a_ban_of a_power_of a_clause_of a_let_of a_names_of a_part_of a_room_of a_Reading__init a_Reading_is_new a_Reading_take_names a_Reading_take_room a_Reading_take_part a_Reading_take_done a_Reading_take_row a_Reading_take a_read a_law_cell_at a_law_mix a_law_name a_law_event a_law_events a_law_header a_law_row a_law_rows a_law_clause a_law_found a_law_right a_law) : FnS P w c.K mg base 8 a_read (spF c 1 (bodyF 5 b_read)) [] :=
  FnS.of T.d_read sc_read (by decide) fun cdv A outer s H E hr => (ess_cons (es_asg (ee_bm (sm_split false) PySem.F.plainAttrs_str PySem.F.slot_str_split PySem.F.type_str_split mt_split (ee_var 0 rfl (pv 0)) (ea_cons (ee_str rfl) (ea_nil rfl))) (eg_name (pg_name (i := 1) sc_read.nd rfl (by first | exact Or.inl rfl | exact Or.inr rfl)))) (ess_cons (es_asg (ee_mkO0 rfl DefOk.nil T.ct_Reading T.cl_Reading T.mk_Reading ((fs_Reading__init T).mono (Nat.le_refl _)) (hr.mono (by decide)) (takes_of rfl rfl rfl rfl) (by rfl) T.mc_Reading) (eg_name (pg_name (i := 2) sc_read.nd rfl (by first | exact Or.inl rfl | exact Or.inr rfl)))) (ess_cons (es_for (passes_of rfl) rfl (ei_enum (by rfl) T.b_enumerate (ea_cons (ee_var 1 rfl (pv 1)) (ea_nil rfl))) (eg_tup (is := [3, 4]) rfl rfl (pgs_cons (pg_name (i := 3) sc_read.nd rfl (by first | exact Or.inl rfl | exact Or.inr rfl)) (pgs_cons (pg_name (i := 4) sc_read.nd rfl (by first | exact Or.inl rfl | exact Or.inr rfl)) pgs_nil))) (ess_one (es_if ((ew_or (et_cmp (op_eqA hr.units) (nomark _) s2_eqA (ee_var 3 rfl (pv 3)) (ee_globD (z := g_MOST_ROWS) rfl (by rfl) T.g_MOST_ROWS)) (ew_or1 (et_not (et_val (ee_meth (MeL.ok (tbl := [(20, fun ws => (gF 3 (bodyF 4 b_Reading_take)) (ws ++ []))]) ⟨MethOk.of T.ct_Reading T.mt_Reading_Reading_take ((fs_Reading_take T).mono (Nat.le_refl _)) (hr.mono (by decide)) spA_F DefOk.nil, trivial⟩) (takes_of rfl rfl rfl rfl) (ee_var 2 rfl (pv 2)) (ea_cons (ee_var 3 rfl (pv 3)) (ea_cons (ee_var 4 rfl (pv 4)) (ea_nil rfl))))))))).et (ess_one (es_raise1 rfl (takes_of rfl rfl rfl rfl) T.ct_NoText T.fn12 T.ox_NoText T.ie_NoText T.tI_NoText__init ((fx_NoText__init T).mono (Nat.le_refl _)) (hr.mono (by decide)) (by rfl) T.mc_NoText (ea_cons (ee_var 3 rfl (pv 3)) (ea_nil rfl)))) (ess_nil rfl)))) (ess_cons (es_if ((ew_or (et_cmp (op_eqA hr.units) (nomark _) s2_eqA (ee_fld (i := 7) T.fn7 (ee_var 2 rfl (pv 2))) (ee_lst (own := false) (ea_nil rfl))) (ew_or1 (et_cmp op_gt (nomark _) s2_gt (ee_cb call_len sn_len (by rfl) T.b_len (by decide +kernel) (ea_cons (ee_fld (i := 16) T.fn16 (ee_var 2 rfl (pv 2))) (ea_nil rfl))) (ee_int rfl))))).et (ess_one (es_raise1 rfl (takes_of rfl rfl rfl rfl) T.ct_NoText T.fn12 T.ox_NoText T.ie_NoText T.tI_NoText__init ((fx_NoText__init T).mono (Nat.le_refl _)) (hr.mono (by decide)) (by rfl) T.mc_NoText (ea_cons (ee_cb call_len sn_len (by rfl) T.b_len (by decide +kernel) (ea_cons (ee_var 1 rfl (pv 1)) (ea_nil rfl))) (ea_nil rfl)))) (ess_nil rfl)) (ess_one (es_ret (ee_mkO DefOk.nil T.ct_Pact T.cl_Pact T.mk_Pact ((fs_Pact__init T).mono (Nat.le_refl _)) (hr.mono (by decide)) (takes_of rfl rfl rfl rfl) (by rfl) T.mc_Pact (ea_cons (ee_fld (i := 9) T.fn9 (ee_var 2 rfl (pv 2))) (ea_cons (ee_fld (i := 10) T.fn10 (ee_var 2 rfl (pv 2))) (ea_cons (ee_fld (i := 7) T.fn7 (ee_var 2 rfl (pv 2))) (ea_cons (ee_ix (ee_fld (i := 16) T.fn16 (ee_var 2 rfl (pv 2))) (ee_int rfl) (fun _ _ => rfl)) (ea_nil rfl))))))))))))
theorem fs_law_row (T : Txt c mg c_PactError c_NoText c_Row c_Clause c_Duty c_Leave c_Ban c_Power c_Let c_Part c_Pact c_Reading a_NoText__init a_Clause__init a_Duty__init a_Ban__init a_Power__init a_Let__init a_Part__init a_Pact__init a_is_name a_number_of a_duty_of a_ban_of a_power_of a_clause_of a_let_of a_names_of a_part_of a_room_of a_Reading__init a_Reading_is_new a_Reading_take_names a_Reading_take_room a_Reading_take_part a_Reading_take_done a_Reading_take_row a_Reading_take a_read a_law_cell_at a_law_mix a_law_name a_law_event a_law_events a_law_header a_law_row a_law_rows a_law_clause a_law_found a_law_right a_law) : FnS P w c.K mg base 1 a_law_row (spF c 1 (bodyF 2 b_law_row)) [] :=
  FnS.of T.d_law_row sc_law_row (by decide) fun cdv A outer s H E hr => (ess_cons (es_if (et_cmp (op_eqA hr.units) (nomark _) s2_eqA (ee_ix (ee_var 0 rfl (pv 0)) (ee_int rfl) (fun _ _ => rfl)) (ee_str rfl)) (ess_one (es_ret (ee_str rfl))) (ess_nil rfl)) (ess_cons (es_if (et_cmp (op_eqA hr.units) (nomark _) s2_eqA (ee_ix (ee_var 0 rfl (pv 0)) (ee_int rfl) (fun _ _ => rfl)) (ee_str rfl)) (ess_one (es_ret (ee_op op_addA (s2_addA false) (ee_op op_addA (s2_addA false) (ee_op op_addA (s2_addA false) (ee_str rfl) (ee_ix (ee_var 0 rfl (pv 0)) (ee_int rfl) (fun _ _ => rfl))) (ee_str rfl)) (ee_ix (ee_var 0 rfl (pv 0)) (ee_int rfl) (fun _ _ => rfl))))) (ess_nil rfl)) (ess_cons (es_if (et_cmp (op_eqA hr.units) (nomark _) s2_eqA (ee_ix (ee_var 0 rfl (pv 0)) (ee_int rfl) (fun _ _ => rfl)) (ee_str rfl)) (ess_one (es_ret (ee_bm sm_join PySem.F.plainAttrs_str PySem.F.slot_str_join PySem.F.type_str_join mt_join (ee_str rfl) (ea_cons (ee_op op_addA (s2_addA false) (ee_op op_addA (s2_addA false) (ee_lst (own := false) (ea_cons (ee_str rfl) (ea_cons (ee_ix (ee_var 0 rfl (pv 0)) (ee_int rfl) (fun _ _ => rfl)) (ea_nil rfl)))) (ee_op op_mulA (s2_mulA false) (ee_lst (own := false) (ea_cons (ee_str rfl) (ea_nil rfl))) (ee_cty call_intA sn_int (by rfl) T.b_int (by decide +kernel) (ea_cons (ee_cmp (op_neA hr.units) (nomark _) s2_neA (ee_ix (ee_var 0 rfl (pv 0)) (ee_int rfl) (fun _ _ => rfl)) (ee_lst (own := false) (ea_nil rfl))) (ea_nil rfl))))) (ee_ix (ee_var 0 rfl (pv 0)) (ee_int rfl) (fun _ _ => rfl))) (ea_nil rfl))))) (ess_nil rfl)) (ess_cons (es_asg (ee_op op_addA (s2_addA false) (ee_op op_addA (s2_addA false) (ee_op op_addA (s2_addA false) (ee_ix (ee_var 0 rfl (pv 0)) (ee_int rfl) (fun _ _ => rfl)) (ee_str rfl)) (ee_ix (ee_var 0 rfl (pv 0)) (ee_int rfl) (fun _ _ => rfl))) (ee_str rfl)) (eg_name (pg_name (i := 1) sc_law_row.nd rfl (by first | exact Or.inl rfl | exact Or.inr rfl)))) (ess_cons (es_if (et_cmp (op_eqA hr.units) (nomark _) s2_eqA (ee_ix (ee_var 0 rfl (pv 0)) (ee_int rfl) (fun _ _ => rfl)) (ee_str rfl)) (ess_cons (es_asg (ee_op op_addA (s2_addA false) (ee_op op_addA (s2_addA false) (ee_op op_addA (s2_addA false) (ee_var 1 rfl (pv 1)) (ee_str rfl)) (ee_ix (ee_var 0 rfl (pv 0)) (ee_int rfl) (fun _ _ => rfl))) (ee_str rfl)) (eg_name (pg_name (i := 1) sc_law_row.nd rfl (by first | exact Or.inl rfl | exact Or.inr rfl)))) (ess_one (es_ret (ee_op op_addA (s2_addA false) (ee_op op_addA (s2_addA false) (ee_op op_addA (s2_addA false) (ee_var 1 rfl (pv 1)) (ee_cty call_str_int sn_str (by rfl) T.b_str (by decide +kernel) (ea_cons (ee_ix (ee_var 0 rfl (pv 0)) (ee_int rfl) (fun _ _ => rfl)) (ea_nil rfl)))) (ee_str rfl)) (ee_ix (ee_var 0 rfl (pv 0)) (ee_int rfl) (fun _ _ => rfl)))))) (ess_nil rfl)) (ess_cons (es_if (et_cmp (op_eqA hr.units) (nomark _) s2_eqA (ee_ix (ee_var 0 rfl (pv 0)) (ee_int rfl) (fun _ _ => rfl)) (ee_str rfl)) (ess_one (es_ret (ee_op op_addA (s2_addA false) (ee_op op_addA (s2_addA false) (ee_var 1 rfl (pv 1)) (ee_str rfl)) (ee_ix (ee_var 0 rfl (pv 0)) (ee_int rfl) (fun _ _ => rfl))))) (ess_nil rfl)) (ess_cons (es_if (et_cmp (op_eqA hr.units) (nomark _) s2_eqA (ee_ix (ee_var 0 rfl (pv 0)) (ee_int rfl) (fun _ _ => rfl)) (ee_str rfl)) (ess_one (es_ret (ee_op op_addA (s2_addA false) (ee_op op_addA (s2_addA false) (ee_op op_addA (s2_addA false) (ee_op op_addA (s2_addA false) (ee_var 1 rfl (pv 1)) (ee_str rfl)) (ee_ix (ee_var 0 rfl (pv 0)) (ee_int rfl) (fun _ _ => rfl))) (ee_str rfl)) (ee_ix (ee_var 0 rfl (pv 0)) (ee_int rfl) (fun _ _ => rfl))))) (ess_nil rfl)) (ess_one (es_ret (ee_op op_addA (s2_addA false) (ee_op op_addA (s2_addA false) (ee_op op_addA (s2_addA false) (ee_op op_addA (s2_addA false) (ee_var 1 rfl (pv 1)) (ee_str rfl)) (ee_ix (ee_var 0 rfl (pv 0)) (ee_int rfl) (fun _ _ => rfl))) (ee_str rfl)) (ee_ix (ee_var 0 rfl (pv 0)) (ee_int rfl) (fun _ _ => rfl))))))))))))
theorem fs_law_rows (T : Txt c mg c_PactError c_NoText c_Row c_Clause c_Duty c_Leave c_Ban c_Power c_Let c_Part c_Pact c_Reading a_NoText__init a_Clause__init a_Duty__init a_Ban__init a_Power__init a_Let__init a_Part__init a_Pact__init a_is_name a_number_of a_duty_of a_ban_of a_power_of a_clause_of a_let_of a_names_of a_part_of a_room_of a_Reading__init a_Reading_is_new a_Reading_take_names a_Reading_take_room a_Reading_take_part a_Reading_take_done a_Reading_take_row a_Reading_take a_read a_law_cell_at a_law_mix a_law_name a_law_event a_law_events a_law_header a_law_row a_law_rows a_law_clause a_law_found a_law_right a_law) : FnS P w c.K mg base 2 a_law_rows (spF c 2 (bodyF 6 b_law_rows)) [] :=
  FnS.of T.d_law_rows sc_law_rows (by decide) fun cdv A outer s H E hr => (ess_cons (es_asg (ee_lst (own := true) (ea_cons (ee_op op_addA (s2_addA false) (ee_str rfl) (ee_bm sm_join PySem.F.plainAttrs_str PySem.F.slot_str_join PySem.F.type_str_join mt_join (ee_str rfl) (ea_cons (ee_ix (ee_var 0 rfl (pv 0)) (ee_int rfl) (fun _ _ => rfl)) (ea_nil rfl)))) (ea_cons (ee_op op_addA (s2_addA false) (ee_str rfl) (ee_bm sm_join PySem.F.plainAttrs_str PySem.F.slot_str_join PySem.F.type_str_join mt_join (ee_str rfl) (ea_cons (ee_ix (ee_var 0 rfl (pv 0)) (ee_int rfl) (fun _ _ => rfl)) (ea_nil rfl)))) (ea_nil rfl)))) (eg_name (pg_name (i := 2) sc_law_rows.nd rfl (by first | exact Or.inl rfl | exact Or.inr rfl)))) (ess_cons (es_for (passes_of rfl) rfl (ei_seq (ee_ix (ee_var 0 rfl (pv 0)) (ee_int rfl) (fun _ _ => rfl))) (eg_tup (is := [3, 4]) rfl rfl (pgs_cons (pg_name (i := 3) sc_law_rows.nd rfl (by first | exact Or.inl rfl | exact Or.inr rfl)) (pgs_cons (pg_name (i := 4) sc_law_rows.nd rfl (by first | exact Or.inl rfl | exact Or.inr rfl)) pgs_nil))) (ess_one (es_expr (ee_bm sm_append PySem.F.plainAttrs_list PySem.F.slot_list_append PySem.F.type_list_append mt_append (ee_var 2 rfl (pv 2)) (ea_cons (ee_op op_addA (s2_addA false) (ee_op op_addA (s2_addA false) (ee_var 3 rfl (pv 3)) (ee_str rfl)) (ee_var 4 rfl (pv 4))) (ea_nil rfl)))))) (ess_one (es_ret (ee_op op_addA (s2_addA false) (ee_var 2 rfl (pv 2)) (ee_lc (ownr := false) (own := [("_law_event_here", 5)]) rfl sc_law_rows.nd (ei_seq (ee_var 1 rfl (pv 1))) (blkOk_by (own := [("_law_event_here", 5)]) (N := n_law_rows) (sc := defScope s_law_rows) (by decide +kernel)) (by decide) (fun _ _ _ _ _ => (eg_name (pg_name (i := 5) sc_law_rows.nd rfl (by first | exact Or.inl rfl | exact Or.inr rfl)))) (fun _ _ _ _ _ => ets_nil) (fun _ _ _ _ _ => (ee_call spA_P DefOk.nil ((fs_law_row T).P.mono (Nat.le_refl _)) (hr.mono (by decide)) takes0 (by rfl) T.m_law_row (ea_cons (ee_var 5 rfl (pv 5)) (ea_nil rfl))))))))))
theorem fs_law_mix (T : Txt c mg c_PactError c_NoText c_Row c_Clause c_Duty c_Leave c_Ban c_Power c_Let c_Part c_Pact c_Reading a_NoText__init a_Clause__init a_Duty__init a_Ban__init a_Power__init a_Let__init a_Part__init a_Pact__init a_is_name a_number_of a_duty_of a_ban_of a_power_of a_clause_of a_let_of a_names_of a_part_of a_room_of a_Reading__init a_Reading_is_new a_Reading_take_names a_Reading_take_room a_Reading_take_part a_Reading_take_done a_Reading_take_row a_Reading_take a_read a_law_cell_at a_law_mix a_law_name a_law_event a_law_events a_law_header a_law_row a_law_rows a_law_clause a_law_found a_law_right a_law) : FnS P w c.K mg base 1 a_law_mix (spF c 2 (bodyF 3 b_law_mix)) [] :=
  FnS.of T.d_law_mix sc_law_mix (by decide) fun cdv A outer s H E hr => (ess_cons (es_asg (ee_op op_mod s2_mod (ee_op op_addA (s2_addA false) (ee_op op_mod s2_mod (ee_var 0 rfl (pv 0)) (ee_int rfl)) (ee_op op_mulA (s2_mulA false) (ee_int rfl) (ee_op op_addA (s2_addA false) (ee_var 1 rfl (pv 1)) (ee_int rfl)))) (ee_int rfl)) (eg_name (pg_name (i := 2) sc_law_mix.nd rfl (by first | exact Or.inl rfl | exact Or.inr rfl)))) (ess_one (es_ret (ee_op op_fdivW s2_div (ee_op op_mod s2_mod (ee_op op_mulA (s2_mulA false) (ee_op op_mod s2_mod (ee_op op_mulA (s2_mulA false) (ee_var 2 rfl (pv 2)) (ee_var 2 rfl (pv 2))) (ee_int rfl)) (ee_int rfl)) (ee_int rfl)) (ee_int rfl)))))
theorem fs_law_event (T : Txt c mg c_PactError c_NoText c_Row c_Clause c_Duty c_Leave c_Ban c_Power c_Let c_Part c_Pact c_Reading a_NoText__init a_Clause__init a_Duty__init a_Ban__init a_Power__init a_Let__init a_Part__init a_Pact__init a_is_name a_number_of a_duty_of a_ban_of a_power_of a_clause_of a_let_of a_names_of a_part_of a_room_of a_Reading__init a_Reading_is_new a_Reading_take_names a_Reading_take_room a_Reading_take_part a_Reading_take_done a_Reading_take_row a_Reading_take a_read a_law_cell_at a_law_mix a_law_name a_law_event a_law_events a_law_header a_law_row a_law_rows a_law_clause a_law_found a_law_right a_law) : FnS P w c.K mg base 2 a_law_event (spF c 4 (bodyF 10 b_law_event)) [] :=
  FnS.of T.d_law_event sc_law_event (by decide) fun cdv A outer s H E hr => (ess_cons (es_asg (ee_op op_mod s2_mod (ee_var 1 rfl (pv 1)) (ee_int rfl)) (eg_name (pg_name (i := 4) sc_law_event.nd rfl (by first | exact Or.inl rfl | exact Or.inr rfl)))) (ess_cons (es_lc (i := 5) (ownr := false) (own := [("_law_j", 9)]) rfl sc_law_event.nd (ei_range1 (by rfl) T.b_range (ea_cons (ee_int rfl) (ea_nil rfl))) (blkOk_by (own := [("_law_j", 9)]) (N := n_law_event) (sc := defScope s_law_event) (by decide +kernel)) (by decide) (fun _ _ _ _ _ => (eg_name (pg_name (i := 9) sc_law_event.nd rfl (by first | exact Or.inl rfl | exact Or.inr rfl)))) (fun _ _ _ _ _ => ets_nil) (fun _ _ _ _ _ => (ee_ix (ee_var 0 rfl (pv 0)) (ee_op op_mod s2_mod (ee_call spA_P DefOk.nil ((fs_law_mix T).P.mono (Nat.le_refl _)) (hr.mono (by decide)) takes0 (by rfl) T.m_law_mix (ea_cons (ee_var 1 rfl (pv 1)) (ea_cons (ee_var 9 rfl (pv 9)) (ea_nil rfl)))) (ee_int rfl)) (fun _ _ => rfl))) rfl rfl (sw_true rfl rfl rfl (by decide +kernel))) (ess_cons (es_asg (ee_ix (ee_var 5 rfl (pv 5)) (ee_int rfl) (fun _ _ => rfl)) (eg_name (pg_name (i := 6) sc_law_event.nd rfl (by first | exact Or.inl rfl | exact Or.inr rfl)))) (ess_cons (es_if (et_cmp (op_eqA hr.units) (nomark _) s2_eqA (ee_op op_mod s2_mod (ee_call spA_P DefOk.nil ((fs_law_mix T).P.mono (Nat.le_refl _)) (hr.mono (by decide)) (takes_of rfl rfl rfl rfl) (by rfl) T.m_law_mix (ea_cons (ee_var 1 rfl (pv 1)) (ea_cons (ee_int rfl) (ea_nil rfl)))) (ee_int rfl)) (ee_int rfl)) (ess_one (es_asg (ee_str rfl) (eg_name (pg_name (i := 6) sc_law_event.nd rfl (by first | exact Or.inl rfl | exact Or.inr rfl))))) (ess_nil rfl)) (ess_cons (es_asg (ee_op op_addA (s2_addA false) (ee_int rfl) (ee_op op_mod s2_mod (ee_call spA_P DefOk.nil ((fs_law_mix T).P.mono (Nat.le_refl _)) (hr.mono (by decide)) (takes_of rfl rfl rfl rfl) (by rfl) T.m_law_mix (ea_cons (ee_var 1 rfl (pv 1)) (ea_cons (ee_int rfl) (ea_nil rfl)))) (ee_int rfl))) (eg_name (pg_name (i := 7) sc_law_event.nd rfl (by first | exact Or.inl rfl | exact Or.inr rfl)))) (ess_cons (es_if (et_cmp (op_eqA hr.units) (nomark _) s2_eqA (ee_op op_mod s2_mod (ee_call spA_P DefOk.nil ((fs_law_mix T).P.mono (Nat.le_refl _)) (hr.mono (by decide)) (takes_of rfl rfl rfl rfl) (by rfl) T.m_law_mix (ea_cons (ee_var 1 rfl (pv 1)) (ea_cons (ee_int rfl) (ea_nil rfl)))) (ee_int rfl)) (ee_int rfl)) (ess_one (es_asg (ee_op op_addA (s2_addA false) (ee_int rfl) (ee_op op_mod s2_mod (ee_op op_mulA (s2_mulA false) (ee_var 1 rfl (pv 1)) (ee_int rfl)) (ee_op op_sub s2_sub (ee_op op_pow s2_pow (ee_int rfl) (ee_int rfl)) (ee_int rfl)))) (eg_name (pg_name (i := 7) sc_law_event.nd rfl (by first | exact Or.inl rfl | exact Or.inr rfl))))) (ess_nil rfl)) (ess_cons (es_if ((ew_and ((ew_or (et_cmp (op_eqA hr.units) (nomark _) s2_eqA (ee_var 4 rfl (pv 4)) (ee_int rfl)) (ew_or1 (et_cmp (op_eqA hr.units) (nomark _) s2_eqA (ee_var 4 rfl (pv 4)) (ee_int rfl))))).et (ew_and1 (et_cmp op_lt (nomark _) s2_lt (ee_var 3 rfl (pv 3)) (ee_int rfl))))).et (ess_cons (es_asg (ee_op op_mod s2_mod (ee_call spA_P DefOk.nil ((fs_law_mix T).P.mono (Nat.le_refl _)) (hr.mono (by decide)) (takes_of rfl rfl rfl rfl) (by rfl) T.m_law_mix (ea_cons (ee_var 1 rfl (pv 1)) (ea_cons (ee_int rfl) (ea_nil rfl)))) (ee_int rfl)) (eg_name (pg_name (i := 8) sc_law_event.nd rfl (by first | exact Or.inl rfl | exact Or.inr rfl)))) (ess_one (es_ret (ee_tup (ea_cons (ee_str rfl) (ea_cons (ee_var 2 rfl (pv 2)) (ea_cons (ee_lc (ownr := false) (own := [("_law_j", 9)]) rfl sc_law_event.nd (ei_range1 (by rfl) T.b_range (ea_cons (ee_var 8 rfl (pv 8)) (ea_nil rfl))) (blkOk_by (own := [("_law_j", 9)]) (N := n_law_event) (sc := defScope s_law_event) (by decide +kernel)) (by decide) (fun _ _ _ _ _ => (eg_name (pg_name (i := 9) sc_law_event.nd rfl (by first | exact Or.inl rfl | exact Or.inr rfl)))) (fun _ _ _ _ _ => ets_nil) (fun _ _ _ _ _ => (ee_ix (ee_var 0 rfl (pv 0)) (ee_op op_mod s2_mod (ee_call spA_P DefOk.nil ((fs_law_mix T).P.mono (Nat.le_refl _)) (hr.mono (by decide)) takes0 (by rfl) T.m_law_mix (ea_cons (ee_var 1 rfl (pv 1)) (ea_cons (ee_op op_addA (s2_addA false) (ee_int rfl) (ee_var 9 rfl (pv 9))) (ea_nil rfl)))) (ee_int rfl)) (fun _ _ => rfl)))) (ea_nil rfl)))))))) (ess_nil rfl)) (ess_cons (es_if ((ew_and (et_cmp (op_eqA hr.units) (nomark _) s2_eqA (ee_var 4 rfl (pv 4)) (ee_int rfl)) (ew_and1 (et_cmp op_gt (nomark _) s2_gt (ee_var 3 rfl (pv 3)) (ee_int rfl))))).et (ess_one (es_ret (ee_tup (ea_cons (ee_str rfl) (ea_nil rfl))))) (ess_nil rfl)) (ess_cons (es_if (et_cmp op_lt (nomark _) s2_lt (ee_var 4 rfl (pv 4)) (ee_int rfl)) (ess_one (es_ret (ee_tup (ea_cons (ee_str rfl) (ea_cons (ee_ix (ee_var 5 rfl (pv 5)) (ee_int rfl) (fun _ _ => rfl)) (ea_cons (ee_ix (ee_var 5 rfl (pv 5)) (ee_int rfl) (fun _ _ => rfl)) (ea_nil rfl))))))) (ess_nil rfl)) (ess_cons (es_if (et_cmp op_lt (nomark _) s2_lt (ee_var 4 rfl (pv 4)) (ee_int rfl)) (ess_one (es_ret (ee_tup (ea_cons (ee_str rfl) (ea_cons (ee_var 2 rfl (pv 2)) (ea_cons (ee_ix (ee_var 5 rfl (pv 5)) (ee_int rfl) (fun _ _ => rfl)) (ea_cons (ee_ix (ee_var 5 rfl (pv 5)) (ee_int rfl) (fun _ _ => rfl)) (ea_cons (ee_var 7 rfl (pv 7)) (ea_cons (ee_ix (ee_var 5 rfl (pv 5)) (ee_int rfl) (fun _ _ => rfl)) (ea_nil rfl)))))))))) (ess_nil rfl)) (ess_cons (es_if (et_cmp (op_eqA hr.units) (nomark _) s2_eqA (ee_var 4 rfl (pv 4)) (ee_int rfl)) (ess_one (es_ret (ee_tup (ea_cons (ee_str rfl) (ea_cons (ee_var 2 rfl (pv 2)) (ea_cons (ee_var 6 rfl (pv 6)) (ea_cons (ee_ix (ee_var 5 rfl (pv 5)) (ee_int rfl) (fun _ _ => rfl)) (ea_nil rfl)))))))) (ess_nil rfl)) (ess_cons (es_if (et_cmp (op_eqA hr.units) (nomark _) s2_eqA (ee_var 4 rfl (pv 4)) (ee_int rfl)) (ess_one (es_ret (ee_tup (ea_cons (ee_str rfl) (ea_cons (ee_var 2 rfl (pv 2)) (ea_cons (ee_var 6 rfl (pv 6)) (ea_cons (ee_ix (ee_var 5 rfl (pv 5)) (ee_int rfl) (fun _ _ => rfl)) (ea_cons (ee_ix (ee_var 5 rfl (pv 5)) (ee_int rfl) (fun _ _ => rfl)) (ea_nil rfl))))))))) (ess_nil rfl)) (ess_one (es_ret (ee_tup (ea_cons (ee_str rfl) (ea_cons (ee_var 2 rfl (pv 2)) (ea_cons (ee_var 6 rfl (pv 6)) (ea_cons (ee_ix (ee_var 5 rfl (pv 5)) (ee_int rfl) (fun _ _ => rfl)) (ea_cons (ee_ix (ee_var 5 rfl (pv 5)) (ee_int rfl) (fun _ _ => rfl)) (ea_nil rfl)))))))))))))))))))))
theorem fs_law_cell_at (T : Txt c mg c_PactError c_NoText c_Row c_Clause c_Duty c_Leave c_Ban c_Power c_Let c_Part c_Pact c_Reading a_NoText__init a_Clause__init a_Duty__init a_Ban__init a_Power__init a_Let__init a_Part__init a_Pact__init a_is_name a_number_of a_duty_of a_ban_of a_power_of a_clause_of a_let_of a_names_of a_part_of a_room_of a_Reading__init a_Reading_is_new a_Reading_take_names a_Reading_take_room a_Reading_take_part a_Reading_take_done a_Reading_take_row a_Reading_take a_read a_law_cell_at a_law_mix a_law_name a_law_event a_law_events a_law_header a_law_row a_law_rows a_law_clause a_law_found a_law_right a_law) : FnS P w c.K mg base 1 a_law_cell_at (spF c 2 (bodyF 2 b_law_cell_at)) [] :=
  FnS.of T.d_law_cell_at sc_law_cell_at (by decide) fun cdv A outer s H E hr => (ess_cons (es_if (et_cmp op_lt (nomark _) s2_lt (ee_var 1 rfl (pv 1)) (ee_cb call_len sn_len (by rfl) T.b_len (by decide +kernel) (ea_cons (ee_var 0 rfl (pv 0)) (ea_nil rfl)))) (ess_one (es_ret (ee_op op_mod s2_mod (ee_ix (ee_var 0 rfl (pv 0)) (ee_var 1 rfl (pv 1)) (fun _ _ => rfl)) (ee_int rfl)))) (ess_nil rfl)) (ess_one (es_ret (ee_int rfl))))
theorem fs_law_events (T : Txt c mg c_PactError c_NoText c_Row c_Clause c_Duty c_Leave c_Ban c_Power c_Let c_Part c_Pact c_Reading a_NoText__init a_Clause__init a_Duty__init a_Ban__init a_Power__init a_Let__init a_Part__init a_Pact__init a_is_name a_number_of a_duty_of a_ban_of a_power_of a_clause_of a_let_of a_names_of a_part_of a_room_of a_Reading__init a_Reading_is_new a_Reading_take_names a_Reading_take_room a_Reading_take_part a_Reading_take_done a_Reading_take_row a_Reading_take a_read a_law_cell_at a_law_mix a_law_name a_law_event a_law_events a_law_header a_law_row a_law_rows a_law_clause a_law_found a_law_right a_law) : FnS P w c.K mg base 3 a_law_events (spF c 2 (bodyF 7 b_law_events)) [] :=
  FnS.of T.d_law_events sc_law_events (by decide) fun cdv A outer s H E hr => (ess_cons (es_asg (ee_op op_mulA (s2_mulA false) (ee_op op_mod s2_mod (ee_call spA_P DefOk.nil ((fs_law_cell_at T).P.mono (Nat.le_refl _)) (hr.mono (by decide)) (takes_of rfl rfl rfl rfl) (by rfl) T.m_law_cell_at (ea_cons (ee_var 1 rfl (pv 1)) (ea_cons (ee_int rfl) (ea_nil rfl)))) (ee_int rfl)) (ee_int rfl)) (eg_name (pg_name (i := 2) sc_law_events.nd rfl (by first | exact Or.inl rfl | exact Or.inr rfl)))) (ess_cons (es_asg (ee_lst (own := true) (ea_nil rfl)) (eg_name (pg_name (i := 3) sc_law_events.nd rfl (by first | exact Or.inl rfl | exact Or.inr rfl)))) (ess_cons (es_asg (ee_int rfl) (eg_name (pg_name (i := 4) sc_law_events.nd rfl (by first | exact Or.inl rfl | exact Or.inr rfl)))) (ess_cons (es_for (passes_of rfl) rfl (ei_range1 (by rfl) T.b_range (ea_cons (ee_cb call_len sn_len (by rfl) T.b_len (by decide +kernel) (ea_cons (ee_slice (own := false) (ee_var 1 rfl (pv 1)) (eo_some (ee_int rfl)) (eo_some (ee_int rfl))) (ea_nil rfl))) (ea_nil rfl))) (eg_name (pg_name (i := 5) sc_law_events.nd rfl (by first | exact Or.inl rfl | exact Or.inr rfl))) (ess_cons (es_asg (ee_call spA_P DefOk.nil ((fs_law_event T).P.mono (Nat.le_refl _)) (hr.mono (by decide)) (takes_of rfl rfl rfl rfl) (by rfl) T.m_law_event (ea_cons (ee_var 0 rfl (pv 0)) (ea_cons (ee_call spA_P DefOk.nil ((fs_law_cell_at T).P.mono (Nat.le_refl _)) (hr.mono (by decide)) (takes_of rfl rfl rfl rfl) (by rfl) T.m_law_cell_at (ea_cons (ee_var 1 rfl (pv 1)) (ea_cons (ee_op op_addA (s2_addA false) (ee_int rfl) (ee_var 5 rfl (pv 5))) (ea_nil rfl)))) (ea_cons (ee_ix (ee_var 0 rfl (pv 0)) (ee_op op_addA (s2_addA false) (ee_var 2 rfl (pv 2)) (ee_var 5 rfl (pv 5))) (fun _ _ => rfl)) (ea_cons (ee_var 4 rfl (pv 4)) (ea_nil rfl)))))) (eg_name (pg_name (i := 6) sc_law_events.nd rfl (by first | exact Or.inl rfl | exact Or.inr rfl)))) (ess_cons (es_asg (ee_op op_sub s2_sub (ee_op op_addA (s2_addA false) (ee_var 4 rfl (pv 4)) (ee_cty call_intA sn_int (by rfl) T.b_int (by decide +kernel) (ea_cons (ee_cmp (op_eqA hr.units) (nomark _) s2_eqA (ee_ix (ee_var 6 rfl (pv 6)) (ee_int rfl) (fun _ _ => rfl)) (ee_str rfl)) (ea_nil rfl)))) (ee_cty call_intA sn_int (by rfl) T.b_int (by decide +kernel) (ea_cons (ee_cmp (op_eqA hr.units) (nomark _) s2_eqA (ee_ix (ee_var 6 rfl (pv 6)) (ee_int rfl) (fun _ _ => rfl)) (ee_str rfl)) (ea_nil rfl)))) (eg_name (pg_name (i := 4) sc_law_events.nd rfl (by first | exact Or.inl rfl | exact Or.inr rfl)))) (ess_one (es_expr (ee_bm sm_append PySem.F.plainAttrs_list PySem.F.slot_list_append PySem.F.type_list_append mt_append (ee_var 3 rfl (pv 3)) (ea_cons (ee_var 6 rfl (pv 6)) (ea_nil rfl)))))))) (ess_one (es_ret (ee_op op_addA (s2_addA false) (ee_var 3 rfl (pv 3)) (ee_op op_mulA (s2_mulA false) (ee_lst (own := false) (ea_cons (ee_tup (ea_cons (ee_str rfl) (ea_nil rfl))) (ea_nil rfl))) (ee_var 4 rfl (pv 4))))))))))
theorem fs_law_header (T : Txt c mg c_PactError c_NoText c_Row c_Clause c_Duty c_Leave c_Ban c_Power c_Let c_Part c_Pact c_Reading a_NoText__init a_Clause__init a_Duty__init a_Ban__init a_Power__init a_Let__init a_Part__init a_Pact__init a_is_name a_number_of a_duty_of a_ban_of a_power_of a_clause_of a_let_of a_names_of a_part_of a_room_of a_Reading__init a_Reading_is_new a_Reading_take_names a_Reading_take_room a_Reading_take_part a_Reading_take_done a_Reading_take_row a_Reading_take a_read a_law_cell_at a_law_mix a_law_name a_law_event a_law_events a_law_header a_law_row a_law_rows a_law_clause a_law_found a_law_right a_law) : FnS P w c.K mg base 2 a_law_header (spF c 2 (bodyF 6 b_law_header)) [] :=
  FnS.of T.d_law_header sc_law_header (by decide) fun cdv A outer s H E hr => (ess_cons (es_asg (ee_slice (own := false) (ee_var 0 rfl (pv 0)) eo_none (eo_some (ee_op op_addA (s2_addA false) (ee_int rfl) (ee_op op_mod s2_mod (ee_var 1 rfl (pv 1)) (ee_int rfl))))) (eg_name (pg_name (i := 2) sc_law_header.nd rfl (by first | exact Or.inl rfl | exact Or.inr rfl)))) (ess_cons (es_asg (ee_slice (own := false) (ee_var 0 rfl (pv 0)) (eo_some (ee_int rfl)) (eo_some (ee_op op_addA (s2_addA false) (ee_int rfl) (ee_op op_mod s2_mod (ee_op op_fdivW s2_div (ee_var 1 rfl (pv 1)) (ee_int rfl)) (ee_int rfl))))) (eg_name (pg_name (i := 3) sc_law_header.nd rfl (by first | exact Or.inl rfl | exact Or.inr rfl)))) (ess_cons (es_asg (ee_lst (own := true) (ea_nil rfl)) (eg_name (pg_name (i := 4) sc_law_header.nd rfl (by first | exact Or.inl rfl | exact Or.inr rfl)))) (ess_cons (es_for (passes_of rfl) rfl (ei_range1 (by rfl) T.b_range (ea_cons (ee_op op_addA (s2_addA false) (ee_int rfl) (ee_op op_mod s2_mod (ee_op op_fdivW s2_div (ee_var 1 rfl (pv 1)) (ee_int rfl)) (ee_int rfl))) (ea_nil rfl))) (eg_name (pg_name (i := 5) sc_law_header.nd rfl (by first | exact Or.inl rfl | exact Or.inr rfl))) (ess_one (es_expr (ee_bm sm_append PySem.F.plainAttrs_list PySem.F.slot_list_append PySem.F.type_list_append mt_append (ee_var 4 rfl (pv 4)) (ea_cons (ee_tup (ea_cons (ee_ix (ee_lst (own := false) (ea_cons (ee_str rfl) (ea_cons (ee_str rfl) (ea_cons (ee_str rfl) (ea_nil rfl))))) (ee_op op_mod s2_mod (ee_call spA_P DefOk.nil ((fs_law_mix T).P.mono (Nat.le_refl _)) (hr.mono (by decide)) (takes_of rfl rfl rfl rfl) (by rfl) T.m_law_mix (ea_cons (ee_var 1 rfl (pv 1)) (ea_cons (ee_var 5 rfl (pv 5)) (ea_nil rfl)))) (ee_int rfl)) (fun _ _ => rfl)) (ea_cons (ee_ix (ee_var 0 rfl (pv 0)) (ee_op op_addA (s2_addA false) (ee_int rfl) (ee_var 5 rfl (pv 5))) (fun _ _ => rfl)) (ea_nil rfl)))) (ea_nil rfl)))))) (ess_one (es_ret (ee_tup (ea_cons (ee_var 2 rfl (pv 2)) (ea_cons (ee_var 3 rfl (pv 3)) (ea_cons (ee_frz (ee_var 4 rfl (pv 4))) (ea_nil rfl)))))))))))
theorem fs_law_name (T : Txt c mg c_PactError c_NoText c_Row c_Clause c_Duty c_Leave c_Ban c_Power c_Let c_Part c_Pact c_Reading a_NoText__init a_Clause__init a_Duty__init a_Ban__init a_Power__init a_Let__init a_Part__init a_Pact__init a_is_name a_number_of a_duty_of a_ban_of a_power_of a_clause_of a_let_of a_names_of a_part_of a_room_of a_Reading__init a_Reading_is_new a_Reading_take_names a_Reading_take_room a_Reading_take_part a_Reading_take_done a_Reading_take_row a_Reading_take a_read a_law_cell_at a_law_mix a_law_name a_law_event a_law_events a_law_header a_law_row a_law_rows a_law_clause a_law_found a_law_right a_law) : FnS P w c.K mg base 2 a_law_name (spF c 2 (bodyF 11 b_law_name)) [] :=
  FnS.of T.d_law_name sc_law_name (by decide) fun cdv A outer s H E hr => (ess_cons (es_asg (ee_str rfl) (eg_name (pg_name (i := 2) sc_law_name.nd rfl (by first | exact Or.inl rfl | exact Or.inr rfl)))) (ess_cons (es_if ((ew_and (et_cmp (op_eqA hr.units) (nomark _) s2_eqA (ee_op op_mod s2_mod (ee_var 0 rfl (pv 0)) (ee_int rfl)) (ee_int rfl)) (ew_and1 (et_cmp op_lt (nomark _) s2_lt (ee_var 1 rfl (pv 1)) (ee_int rfl))))).et (ess_one (es_ret (ee_ix (ee_str rfl) (ee_var 1 rfl (pv 1)) (fun _ _ => rfl)))) (ess_nil rfl)) (ess_cons (es_if (et_cmp (op_eqA hr.units) (nomark _) s2_eqA (ee_op op_mod s2_mod (ee_var 0 rfl (pv 0)) (ee_int rfl)) (ee_int rfl)) (ess_cons (es_asg (ee_lst (own := false) (ea_cons (ee_str rfl) (ea_cons (ee_str rfl) (ea_cons (ee_str rfl) (ea_cons (ee_str rfl) (ea_cons (ee_str rfl) (ea_cons (ee_str rfl) (ea_cons (ee_str rfl) (ea_cons (ee_str rfl) (ea_cons (ee_str rfl) (ea_cons (ee_str rfl) (ea_cons (ee_str rfl) (ea_cons (ee_str rfl) (ea_nil rfl)))))))))))))) (eg_name (pg_name (i := 9) sc_law_name.nd rfl (by first | exact Or.inl rfl | exact Or.inr rfl)))) (ess_one (es_ret (ee_op op_addA (s2_addA false) (ee_op op_addA (s2_addA false) (ee_ix (ee_var 9 rfl (pv 9)) (ee_op op_mod s2_mod (ee_op op_fdivW s2_div (ee_var 0 rfl (pv 0)) (ee_int rfl)) (ee_int rfl)) (fun _ _ => rfl)) (ee_ix (ee_str rfl) (ee_op op_mod s2_mod (ee_var 1 rfl (pv 1)) (ee_int rfl)) (fun _ _ => rfl))) (ee_ix (ee_var 2 rfl (pv 2)) (ee_op op_mod s2_mod (ee_op op_fdivW s2_div (ee_var 1 rfl (pv 1)) (ee_int rfl)) (ee_int rfl)) (fun _ _ => rfl)))))) (ess_nil rfl)) (ess_cons (es_asg (ee_str rfl) (eg_name (pg_name (i := 3) sc_law_name.nd rfl (by first | exact Or.inl rfl | exact Or.inr rfl)))) (ess_cons (es_if ((ew_and (et_cmp (op_eqA hr.units) (nomark _) s2_eqA (ee_op op_mod s2_mod (ee_var 0 rfl (pv 0)) (ee_int rfl)) (ee_int rfl)) (ew_and1 (et_cmp (op_eqA hr.units) (nomark _) s2_eqA (ee_op op_mod s2_mod (ee_var 1 rfl (pv 1)) (ee_int rfl)) (ee_int rfl))))).et (ess_cons (es_asg (ee_ix (ee_var 2 rfl (pv 2)) (ee_op op_mod s2_mod (ee_op op_fdivW s2_div (ee_var 0 rfl (pv 0)) (ee_int rfl)) (ee_int rfl)) (fun _ _ => rfl)) (eg_name (pg_name (i := 3) sc_law_name.nd rfl (by first | exact Or.inl rfl | exact Or.inr rfl)))) (ess_one (es_asg (ee_op op_sub s2_sub (ee_var 1 rfl (pv 1)) (ee_int rfl)) (eg_name (pg_name (i := 1) sc_law_name.nd rfl (by first | exact Or.inl rfl | exact Or.inr rfl)))))) (ess_nil rfl)) (ess_cons (es_asg (ee_op op_addA (s2_addA false) (ee_int rfl) (ee_op op_mod s2_mod (ee_op op_fdivW s2_div (ee_var 0 rfl (pv 0)) (ee_int rfl)) (ee_op op_sub s2_sub (ee_int rfl) (ee_cty call_intA sn_int (by rfl) T.b_int (by decide +kernel) (ea_cons (ee_cmp (op_eqA hr.units) (nomark _) s2_eqA (ee_op op_mod s2_mod (ee_var 0 rfl (pv 0)) (ee_int rfl)) (ee_int rfl)) (ea_nil rfl)))))) (eg_name (pg_name (i := 4) sc_law_name.nd rfl (by first | exact Or.inl rfl | exact Or.inr rfl)))) (ess_cons (es_asg (ee_op op_mod s2_mod (ee_op op_fdivW s2_div (ee_var 0 rfl (pv 0)) (ee_int rfl)) (ee_var 4 rfl (pv 4))) (eg_name (pg_name (i := 5) sc_law_name.nd rfl (by first | exact Or.inl rfl | exact Or.inr rfl)))) (ess_cons (es_asg (ee_op op_mod s2_mod (ee_op op_addA (s2_addA false) (ee_op op_addA (s2_addA false) (ee_var 5 rfl (pv 5)) (ee_int rfl)) (ee_op op_mod s2_mod (ee_op op_fdivW s2_div (ee_var 0 rfl (pv 0)) (ee_int rfl)) (ee_op op_sub s2_sub (ee_var 4 rfl (pv 4)) (ee_int rfl)))) (ee_var 4 rfl (pv 4))) (eg_name (pg_name (i := 6) sc_law_name.nd rfl (by first | exact Or.inl rfl | exact Or.inr rfl)))) (ess_cons (es_asg (ee_str rfl) (eg_name (pg_name (i := 7) sc_law_name.nd rfl (by first | exact Or.inl rfl | exact Or.inr rfl)))) (ess_cons (es_for (passes_of rfl) rfl (ei_range1 (by rfl) T.b_range (ea_cons (ee_var 4 rfl (pv 4)) (ea_nil rfl))) (eg_name (pg_name (i := 8) sc_law_name.nd rfl (by first | exact Or.inl rfl | exact Or.inr rfl))) (ess_cons (es_asg (ee_ix (ee_var 2 rfl (pv 2)) (ee_op op_mod s2_mod (ee_call spA_P DefOk.nil ((fs_law_mix T).P.mono (Nat.le_refl _)) (hr.mono (by decide)) (takes_of rfl rfl rfl rfl) (by rfl) T.m_law_mix (ea_cons (ee_var 0 rfl (pv 0)) (ea_cons (ee_var 8 rfl (pv 8)) (ea_nil rfl)))) (ee_int rfl)) (fun _ _ => rfl)) (eg_name (pg_name (i := 10) sc_law_name.nd rfl (by first | exact Or.inl rfl | exact Or.inr rfl)))) (ess_cons (es_if (et_cmp (op_eqA hr.units) (nomark _) s2_eqA (ee_var 8 rfl (pv 8)) (ee_var 5 rfl (pv 5))) (ess_one (es_asg (ee_ix (ee_str rfl) (ee_op op_mod s2_mod (ee_var 1 rfl (pv 1)) (ee_int rfl)) (fun _ _ => rfl)) (eg_name (pg_name (i := 10) sc_law_name.nd rfl (by first | exact Or.inl rfl | exact Or.inr rfl))))) (ess_nil rfl)) (ess_cons (es_if (et_cmp (op_eqA hr.units) (nomark _) s2_eqA (ee_var 8 rfl (pv 8)) (ee_var 6 rfl (pv 6))) (ess_one (es_asg (ee_ix (ee_var 2 rfl (pv 2)) (ee_op op_mod s2_mod (ee_op op_addA (s2_addA false) (ee_op op_fdivW s2_div (ee_var 1 rfl (pv 1)) (ee_int rfl)) (ee_op op_fdivW s2_div (ee_var 0 rfl (pv 0)) (ee_int rfl))) (ee_int rfl)) (fun _ _ => rfl)) (eg_name (pg_name (i := 10) sc_law_name.nd rfl (by first | exact Or.inl rfl | exact Or.inr rfl))))) (ess_nil rfl)) (ess_one (es_asg (ee_op op_addA (s2_addA false) (ee_var 7 rfl (pv 7)) (ee_var 10 rfl (pv 10))) (eg_name (pg_name (i := 7) sc_law_name.nd rfl (by first | exact Or.inl rfl | exact Or.inr rfl))))))))) (ess_one (es_ret (ee_op op_addA (s2_addA false) (ee_var 7 rfl (pv 7)) (ee_var 3 rfl (pv 3)))))))))))))))
theorem fs_law (T : Txt c mg c_PactError c_NoText c_Row c_Clause c_Duty c_Leave c_Ban c_Power c_Let c_Part c_Pact c_Reading a_NoText__init a_Clause__init a_Duty__init a_Ban__init a_Power__init a_Let__init a_Part__init a_Pact__init a_is_name a_number_of a_duty_of a_ban_of a_power_of a_clause_of a_let_of a_names_of a_part_of a_room_of a_Reading__init a_Reading_is_new a_Reading_take_names a_Reading_take_room a_Reading_take_part a_Reading_take_done a_Reading_take_row a_Reading_take a_read a_law_cell_at a_law_mix a_law_name a_law_event a_law_events a_law_header a_law_row a_law_rows a_law_clause a_law_found a_law_right a_law) : FnS P w c.K mg base 12 a_law (spF c 1 (bodyF 8 b_law)) [] :=
  FnS.of T.d_law sc_law (by decide) fun cdv A outer s H E hr => (ess_cons (es_lc (i := 1) (ownr := false) (own := [("_law_k", 7)]) rfl sc_law.nd (ei_range1 (by rfl) T.b_range (ea_cons (ee_int rfl) (ea_nil rfl))) (blkOk_by (own := [("_law_k", 7)]) (N := n_law) (sc := defScope s_law) (by decide +kernel)) (by decide) (fun _ _ _ _ _ => (eg_name (pg_name (i := 7) sc_law.nd rfl (by first | exact Or.inl rfl | exact Or.inr rfl)))) (fun _ _ _ _ _ => ets_nil) (fun _ _ _ _ _ => (ee_call spA_P DefOk.nil ((fs_law_name T).P.mono (Nat.le_refl _)) (hr.mono (by decide)) takes0 (by rfl) T.m_law_name (ea_cons (ee_call spA_P DefOk.nil ((fs_law_mix T).P.mono (Nat.le_refl _)) (hr.mono (by decide)) takes0 (by rfl) T.m_law_mix (ea_cons (ee_call spA_P DefOk.nil ((fs_law_cell_at T).P.mono (Nat.le_refl _)) (hr.mono (by decide)) takes0 (by rfl) T.m_law_cell_at (ea_cons (ee_var 0 rfl (pv 0)) (ea_cons (ee_int rfl) (ea_nil rfl)))) (ea_cons (ee_int rfl) (ea_nil rfl)))) (ea_cons (ee_var 7 rfl (pv 7)) (ea_nil rfl))))) rfl rfl (sw_true rfl rfl rfl (by decide +kernel))) (ess_cons (es_asg (ee_call spA_P DefOk.nil ((fs_law_header T).P.mono (Nat.le_refl _)) (hr.mono (by decide)) (takes_of rfl rfl rfl rfl) (by rfl) T.m_law_header (ea_cons (ee_var 1 rfl (pv 1)) (ea_cons (ee_call spA_P DefOk.nil ((fs_law_mix T).P.mono (Nat.le_refl _)) (hr.mono (by decide)) (takes_of rfl rfl rfl rfl) (by rfl) T.m_law_mix (ea_cons (ee_call spA_P DefOk.nil ((fs_law_cell_at T).P.mono (Nat.le_refl _)) (hr.mono (by decide)) (takes_of rfl rfl rfl rfl) (by rfl) T.m_law_cell_at (ea_cons (ee_var 0 rfl (pv 0)) (ea_cons (ee_int rfl) (ea_nil rfl)))) (ea_cons (ee_int rfl) (ea_nil rfl)))) (ea_nil rfl)))) (eg_name (pg_name (i := 2) sc_law.nd rfl (by first | exact Or.inl rfl | exact Or.inr rfl)))) (ess_cons (es_asg (ee_call spA_P DefOk.nil ((fs_law_events T).P.mono (Nat.le_refl _)) (hr.mono (by decide)) (takes_of rfl rfl rfl rfl) (by rfl) T.m_law_events (ea_cons (ee_var 1 rfl (pv 1)) (ea_cons (ee_var 0 rfl (pv 0)) (ea_nil rfl)))) (eg_name (pg_name (i := 3) sc_law.nd rfl (by first | exact Or.inl rfl | exact Or.inr rfl)))) (ess_cons (es_asg (ee_bm sm_join PySem.F.plainAttrs_str PySem.F.slot_str_join PySem.F.type_str_join mt_join (ee_str rfl) (ea_cons (ee_call spA_P DefOk.nil ((fs_law_rows T).P.mono (Nat.le_refl _)) (hr.mono (by decide)) (takes_of rfl rfl rfl rfl) (by rfl) T.m_law_rows (ea_cons (ee_var 2 rfl (pv 2)) (ea_cons (ee_var 3 rfl (pv 3)) (ea_nil rfl)))) (ea_nil rfl))) (eg_name (pg_name (i := 4) sc_law.nd rfl (by first | exact Or.inl rfl | exact Or.inr rfl)))) (ess_cons (es_asg (ee_call spA_P DefOk.nil ((fs_read T).P.mono (Nat.le_refl _)) (hr.mono (by decide)) (takes_of rfl rfl rfl rfl) (by rfl) T.m_read (ea_cons (ee_var 4 rfl (pv 4)) (ea_nil rfl))) (eg_name (pg_name (i := 5) sc_law.nd rfl (by first | exact Or.inl rfl | exact Or.inr rfl)))) (ess_cons (es_if (et_not (et_val (ee_call spA_P DefOk.nil ((fs_law_right T).P.mono (Nat.le_refl _)) (hr.mono (by decide)) (takes_of rfl rfl rfl rfl) (by rfl) T.m_law_right (ea_cons (ee_var 5 rfl (pv 5)) (ea_cons (ee_var 2 rfl (pv 2)) (ea_cons (ee_var 3 rfl (pv 3)) (ea_nil rfl))))))) (ess_one (es_ret (ee_bl rfl))) (ess_nil rfl)) (ess_cons (es_asg (ee_call spA_P DefOk.nil ((fs_read T).P.mono (Nat.le_refl _)) (hr.mono (by decide)) (takes_of rfl rfl rfl rfl) (by rfl) T.m_read (ea_cons (ee_op op_addA (s2_addA false) (ee_op op_addA (s2_addA false) (ee_op op_addA (s2_addA false) (ee_op op_addA (s2_addA false) (ee_op op_addA (s2_addA false) (ee_str rfl) (ee_ix (ee_var 1 rfl (pv 1)) (ee_int rfl) (fun _ _ => rfl))) (ee_str rfl)) (ee_ix (ee_var 1 rfl (pv 1)) (ee_int rfl) (fun _ _ => rfl))) (ee_str rfl)) (ee_ix (ee_var 1 rfl (pv 1)) (ee_int rfl) (fun _ _ => rfl))) (ea_nil rfl))) (eg_name (pg_name (i := 6) sc_law.nd rfl (by first | exact Or.inl rfl | exact Or.inr rfl)))) (ess_cons (es_if (et_not (et_val (ee_call spA_P DefOk.nil ((fs_law_right T).P.mono (Nat.le_refl _)) (hr.mono (by decide)) (takes_of rfl rfl rfl rfl) (by rfl) T.m_law_right (ea_cons (ee_var 6 rfl (pv 6)) (ea_cons (ee_tup (ea_cons (ee_lst (own := false) (ea_cons (ee_ix (ee_var 1 rfl (pv 1)) (ee_int rfl) (fun _ _ => rfl)) (ea_nil rfl))) (ea_cons (ee_lst (own := false) (ea_cons (ee_ix (ee_var 1 rfl (pv 1)) (ee_int rfl) (fun _ _ => rfl)) (ea_nil rfl))) (ea_cons (ee_lst (own := false) (ea_cons (ee_tup (ea_cons (ee_str rfl) (ea_cons (ee_ix (ee_var 1 rfl (pv 1)) (ee_int rfl) (fun _ _ => rfl)) (ea_nil rfl)))) (ea_nil rfl))) (ea_nil rfl))))) (ea_cons (ee_lst (own := false) (ea_nil rfl)) (ea_nil rfl))))))) (ess_one (es_ret (ee_bl rfl))) (ess_nil rfl)) (ess_one (es_ret (ee_and (ee_call spA_P DefOk.nil ((fs_law_right T).P.mono (Nat.le_refl _)) (hr.mono (by decide)) (takes_of rfl rfl rfl rfl) (by rfl) T.m_law_right (ea_cons (ee_call spA_P DefOk.nil ((fs_read T).P.mono (Nat.le_refl _)) (hr.mono (by decide)) (takes_of rfl rfl rfl rfl) (by rfl) T.m_read (ea_cons (ee_var 4 rfl (pv 4)) (ea_nil rfl))) (ea_cons (ee_var 2 rfl (pv 2)) (ea_cons (ee_var 3 rfl (pv 3)) (ea_nil rfl))))) (ee_one (ee_call spA_P DefOk.nil ((fs_law_right T).P.mono (Nat.le_refl _)) (hr.mono (by decide)) (takes_of rfl rfl rfl rfl) (by rfl) T.m_law_right (ea_cons (ee_var 5 rfl (pv 5)) (ea_cons (ee_var 2 rfl (pv 2)) (ea_cons (ee_var 3 rfl (pv 3)) (ea_nil rfl)))))))))))))))))
end
theorem all_mk {l : PySem.W.OpenLaw} {w : World} {K : PySem.W.Frag} {h : Heap} {mg : Str → Option Value} {fa : Addr} {c_PactError c_NoText c_Row c_Clause c_Duty c_Leave c_Ban c_Power c_Let c_Part c_Pact c_Reading a_NoText__init a_Clause__init a_Duty__init a_Ban__init a_Power__init a_Let__init a_Part__init a_Pact__init a_is_name a_number_of a_duty_of a_ban_of a_power_of a_clause_of a_let_of a_names_of a_part_of a_room_of a_Reading__init a_Reading_is_new a_Reading_take_names a_Reading_take_room a_Reading_take_part a_Reading_take_done a_Reading_take_row a_Reading_take a_read a_law_cell_at a_law_mix a_law_name a_law_event a_law_events a_law_header a_law_row a_law_rows a_law_clause a_law_found a_law_right a_law : Addr} {fo_NoText__init fkV_NoText__init fdc_NoText__init fpm_NoText__init fcd_NoText__init fct_NoText__init : Value} {fod_NoText__init fan_NoText__init : Option Addr} {fsl_NoText__init : Array (Option Value)} {fo_Clause__init fkV_Clause__init fdc_Clause__init fpm_Clause__init fcd_Clause__init fct_Clause__init : Value} {fod_Clause__init fan_Clause__init : Option Addr} {fsl_Clause__init : Array (Option Value)} {fo_Duty__init fkV_Duty__init fdc_Duty__init fpm_Duty__init fcd_Duty__init fct_Duty__init : Value} {fod_Duty__init fan_Duty__init : Option Addr} {fsl_Duty__init : Array (Option Value)} {fo_Ban__init fkV_Ban__init fdc_Ban__init fpm_Ban__init fcd_Ban__init fct_Ban__init : Value} {fod_Ban__init fan_Ban__init : Option Addr} {fsl_Ban__init : Array (Option Value)} {fo_Power__init fkV_Power__init fdc_Power__init fpm_Power__init fcd_Power__init fct_Power__init : Value} {fod_Power__init fan_Power__init : Option Addr} {fsl_Power__init : Array (Option Value)} {fo_Let__init fkV_Let__init fdc_Let__init fpm_Let__init fcd_Let__init fct_Let__init : Value} {fod_Let__init fan_Let__init : Option Addr} {fsl_Let__init : Array (Option Value)} {fo_Part__init fkV_Part__init fdc_Part__init fpm_Part__init fcd_Part__init fct_Part__init : Value} {fod_Part__init fan_Part__init : Option Addr} {fsl_Part__init : Array (Option Value)} {fo_Pact__init fkV_Pact__init fdc_Pact__init fpm_Pact__init fcd_Pact__init fct_Pact__init : Value} {fod_Pact__init fan_Pact__init : Option Addr} {fsl_Pact__init : Array (Option Value)} {fo_is_name fkV_is_name fdc_is_name fpm_is_name fcd_is_name fct_is_name : Value} {fod_is_name fan_is_name : Option Addr} {fsl_is_name : Array (Option Value)} {fo_number_of fkV_number_of fdc_number_of fpm_number_of fcd_number_of fct_number_of : Value} {fod_number_of fan_number_of : Option Addr} {fsl_number_of : Array (Option Value)} {fo_duty_of fkV_duty_of fdc_duty_of fpm_duty_of fcd_duty_of fct_duty_of : Value} {fod_duty_of fan_duty_of : Option Addr} {fsl_duty_of : Array (Option Value)} {fo_ban_of fkV_ban_of fdc_ban_of fpm_ban_of fcd_ban_of fct_ban_of : Value} {fod_ban_of fan_ban_of : Option Addr} {fsl_ban_of : Array (Option Value)} {fo_power_of fkV_power_of fdc_power_of fpm_power_of fcd_power_of fct_power_of : Value} {fod_power_of fan_power_of : Option Addr} {fsl_power_of : Array (Option Value)} {fo_clause_of fkV_clause_of fdc_clause_of fpm_clause_of fcd_clause_of fct_clause_of : Value} {fod_clause_of fan_clause_of : Option Addr} {fsl_clause_of : Array (Option Value)} {fo_let_of fkV_let_of fdc_let_of fpm_let_of fcd_let_of fct_let_of : Value} {fod_let_of fan_let_of : Option Addr} {fsl_let_of : Array (Option Value)} {fo_names_of fkV_names_of fdc_names_of fpm_names_of fcd_names_of fct_names_of : Value} {fod_names_of fan_names_of : Option Addr} {fsl_names_of : Array (Option Value)} {fo_part_of fkV_part_of fdc_part_of fpm_part_of fcd_part_of fct_part_of : Value} {fod_part_of fan_part_of : Option Addr} {fsl_part_of : Array (Option Value)} {fo_room_of fkV_room_of fdc_room_of fpm_room_of fcd_room_of fct_room_of : Value} {fod_room_of fan_room_of : Option Addr} {fsl_room_of : Array (Option Value)} {fo_Reading__init fkV_Reading__init fdc_Reading__init fpm_Reading__init fcd_Reading__init fct_Reading__init : Value} {fod_Reading__init fan_Reading__init : Option Addr} {fsl_Reading__init : Array (Option Value)} {fo_Reading_is_new fkV_Reading_is_new fdc_Reading_is_new fpm_Reading_is_new fcd_Reading_is_new fct_Reading_is_new : Value} {fod_Reading_is_new fan_Reading_is_new : Option Addr} {fsl_Reading_is_new : Array (Option Value)} {fo_Reading_take_names fkV_Reading_take_names fdc_Reading_take_names fpm_Reading_take_names fcd_Reading_take_names fct_Reading_take_names : Value} {fod_Reading_take_names fan_Reading_take_names : Option Addr} {fsl_Reading_take_names : Array (Option Value)} {fo_Reading_take_room fkV_Reading_take_room fdc_Reading_take_room fpm_Reading_take_room fcd_Reading_take_room fct_Reading_take_room : Value} {fod_Reading_take_room fan_Reading_take_room : Option Addr} {fsl_Reading_take_room : Array (Option Value)} {fo_Reading_take_part fkV_Reading_take_part fdc_Reading_take_part fpm_Reading_take_part fcd_Reading_take_part fct_Reading_take_part : Value} {fod_Reading_take_part fan_Reading_take_part : Option Addr} {fsl_Reading_take_part : Array (Option Value)} {fo_Reading_take_done fkV_Reading_take_done fdc_Reading_take_done fpm_Reading_take_done fcd_Reading_take_done fct_Reading_take_done : Value} {fod_Reading_take_done fan_Reading_take_done : Option Addr} {fsl_Reading_take_done : Array (Option Value)} {fo_Reading_take_row fkV_Reading_take_row fdc_Reading_take_row fpm_Reading_take_row fcd_Reading_take_row fct_Reading_take_row : Value} {fod_Reading_take_row fan_Reading_take_row : Option Addr} {fsl_Reading_take_row : Array (Option Value)} {fo_Reading_take fkV_Reading_take fdc_Reading_take fpm_Reading_take fcd_Reading_take fct_Reading_take : Value} {fod_Reading_take fan_Reading_take : Option Addr} {fsl_Reading_take : Array (Option Value)} {fo_read fkV_read fdc_read fpm_read fcd_read fct_read : Value} {fod_read fan_read : Option Addr} {fsl_read : Array (Option Value)} {fo_law_cell_at fkV_law_cell_at fdc_law_cell_at fpm_law_cell_at fcd_law_cell_at fct_law_cell_at : Value} {fod_law_cell_at fan_law_cell_at : Option Addr} {fsl_law_cell_at : Array (Option Value)} {fo_law_mix fkV_law_mix fdc_law_mix fpm_law_mix fcd_law_mix fct_law_mix : Value} {fod_law_mix fan_law_mix : Option Addr} {fsl_law_mix : Array (Option Value)} {fo_law_name fkV_law_name fdc_law_name fpm_law_name fcd_law_name fct_law_name : Value} {fod_law_name fan_law_name : Option Addr} {fsl_law_name : Array (Option Value)} {fo_law_event fkV_law_event fdc_law_event fpm_law_event fcd_law_event fct_law_event : Value} {fod_law_event fan_law_event : Option Addr} {fsl_law_event : Array (Option Value)} {fo_law_events fkV_law_events fdc_law_events fpm_law_events fcd_law_events fct_law_events : Value} {fod_law_events fan_law_events : Option Addr} {fsl_law_events : Array (Option Value)} {fo_law_header fkV_law_header fdc_law_header fpm_law_header fcd_law_header fct_law_header : Value} {fod_law_header fan_law_header : Option Addr} {fsl_law_header : Array (Option Value)} {fo_law_row fkV_law_row fdc_law_row fpm_law_row fcd_law_row fct_law_row : Value} {fod_law_row fan_law_row : Option Addr} {fsl_law_row : Array (Option Value)} {fo_law_rows fkV_law_rows fdc_law_rows fpm_law_rows fcd_law_rows fct_law_rows : Value} {fod_law_rows fan_law_rows : Option Addr} {fsl_law_rows : Array (Option Value)} {fo_law_clause fkV_law_clause fdc_law_clause fpm_law_clause fcd_law_clause fct_law_clause : Value} {fod_law_clause fan_law_clause : Option Addr} {fsl_law_clause : Array (Option Value)} {fo_law_found fkV_law_found fdc_law_found fpm_law_found fcd_law_found fct_law_found : Value} {fod_law_found fan_law_found : Option Addr} {fsl_law_found : Array (Option Value)} {fo_law_right fkV_law_right fdc_law_right fpm_law_right fcd_law_right fct_law_right : Value} {fod_law_right fan_law_right : Option Addr} {fsl_law_right : Array (Option Value)} {fo_law fkV_law fdc_law fpm_law fcd_law fct_law : Value} {fod_law fan_law : Option Addr} {fsl_law : Array (Option Value)} {gt_FIGURES : Tok} {ga_KEPT : Addr} {god_KEPT : Option Addr} {gi_KEPT : Array Value} {gn_KEPT : Nat} {gs_KEPT : Array (Option Value)} {gt_LETTERS : Tok} {ga_MARKS : Addr} {god_MARKS : Option Addr} {gi_MARKS : Array Value} {gn_MARKS : Nat} {gs_MARKS : Array (Option Value)} {gt_MOST_ACTS : Tok} {gt_MOST_DEPTH : Tok} {gt_MOST_FIGURES : Tok} {gt_MOST_LETTERS : Tok} {gt_MOST_PARTIES : Tok} {gt_MOST_ROOMS : Tok} {gt_MOST_ROWS : Tok} {xn_NoText xq_NoText : _} {xN_NoText : _} {xb_NoText : _} {xm_NoText : _} {xs_NoText : _} {xu_NoText : _} {xa_NoText : _} {xc_NoText : _} {xd_NoText : _} {x0_NoText x1_NoText x2_NoText x3_NoText x5_NoText : _} (hgood : ∀ ns : List Int, ns.length ≤ 63 → F_law [.fls (ns.map .int)] = some (.ok (.bl true))) (X : K.In h) (G : h.Ns mainGlobals mg) (hfa : mg "law" = some (.ref fa))
    (cn_PactError : PySem.W.nsIn K mainGlobals "PactError" = some (some (.ref c_PactError)))
    (cn_NoText : PySem.W.nsIn K mainGlobals "NoText" = some (some (.ref c_NoText)))
    (cn_Row : PySem.W.nsIn K mainGlobals "Row" = some (some (.ref c_Row)))
    (cn_Clause : PySem.W.nsIn K mainGlobals "Clause" = some (some (.ref c_Clause)))
    (cn_Duty : PySem.W.nsIn K mainGlobals "Duty" = some (some (.ref c_Duty)))
    (cn_Leave : PySem.W.nsIn K mainGlobals "Leave" = some (some (.ref c_Leave)))
    (cn_Ban : PySem.W.nsIn K mainGlobals "Ban" = some (some (.ref c_Ban)))
    (cn_Power : PySem.W.nsIn K mainGlobals "Power" = some (some (.ref c_Power)))
    (cn_Let : PySem.W.nsIn K mainGlobals "Let" = some (some (.ref c_Let)))
    (cn_Part : PySem.W.nsIn K mainGlobals "Part" = some (some (.ref c_Part)))
    (cn_Pact : PySem.W.nsIn K mainGlobals "Pact" = some (some (.ref c_Pact)))
    (cn_Reading : PySem.W.nsIn K mainGlobals "Reading" = some (some (.ref c_Reading)))
    (f_NoText__init : PySem.W.findIn K (.ref c_NoText) "__init__" = some (some (.ref a_NoText__init)))
    (l_NoText__init : K.lookup a_NoText__init = some ⟨fo_NoText__init, fod_NoText__init, .func (PySem.W.fnOf "__init__" "NoText.__init__" (defArgs s_NoText__init) (defBody s_NoText__init) (defScope s_NoText__init) .none fkV_NoText__init fdc_NoText__init fpm_NoText__init fan_NoText__init fcd_NoText__init fct_NoText__init), fsl_NoText__init⟩)
    (k_NoText__init : PySem.W.codeIn K fcd_NoText__init "NoText.__init__" = true)
    (p_NoText__init : PySem.W.keepIn K (.ref a_NoText__init) = true)
    (f_Clause__init : PySem.W.findIn K (.ref c_Clause) "__init__" = some (some (.ref a_Clause__init)))
    (l_Clause__init : K.lookup a_Clause__init = some ⟨fo_Clause__init, fod_Clause__init, .func (PySem.W.fnOf "__init__" "Clause.__init__" (defArgs s_Clause__init) (defBody s_Clause__init) (defScope s_Clause__init) .none fkV_Clause__init fdc_Clause__init fpm_Clause__init fan_Clause__init fcd_Clause__init fct_Clause__init), fsl_Clause__init⟩)
    (k_Clause__init : PySem.W.codeIn K fcd_Clause__init "Clause.__init__" = true)
    (p_Clause__init : PySem.W.keepIn K (.ref a_Clause__init) = true)
    (f_Duty__init : PySem.W.findIn K (.ref c_Duty) "__init__" = some (some (.ref a_Duty__init)))
    (l_Duty__init : K.lookup a_Duty__init = some ⟨fo_Duty__init, fod_Duty__init, .func (PySem.W.fnOf "__init__" "Duty.__init__" (defArgs s_Duty__init) (defBody s_Duty__init) (defScope s_Duty__init) .none fkV_Duty__init fdc_Duty__init fpm_Duty__init fan_Duty__init fcd_Duty__init fct_Duty__init), fsl_Duty__init⟩)
    (k_Duty__init : PySem.W.codeIn K fcd_Duty__init "Duty.__init__" = true)
    (p_Duty__init : PySem.W.keepIn K (.ref a_Duty__init) = true)
    (f_Ban__init : PySem.W.findIn K (.ref c_Ban) "__init__" = some (some (.ref a_Ban__init)))
    (l_Ban__init : K.lookup a_Ban__init = some ⟨fo_Ban__init, fod_Ban__init, .func (PySem.W.fnOf "__init__" "Ban.__init__" (defArgs s_Ban__init) (defBody s_Ban__init) (defScope s_Ban__init) .none fkV_Ban__init fdc_Ban__init fpm_Ban__init fan_Ban__init fcd_Ban__init fct_Ban__init), fsl_Ban__init⟩)
    (k_Ban__init : PySem.W.codeIn K fcd_Ban__init "Ban.__init__" = true)
    (p_Ban__init : PySem.W.keepIn K (.ref a_Ban__init) = true)
    (f_Power__init : PySem.W.findIn K (.ref c_Power) "__init__" = some (some (.ref a_Power__init)))
    (l_Power__init : K.lookup a_Power__init = some ⟨fo_Power__init, fod_Power__init, .func (PySem.W.fnOf "__init__" "Power.__init__" (defArgs s_Power__init) (defBody s_Power__init) (defScope s_Power__init) .none fkV_Power__init fdc_Power__init fpm_Power__init fan_Power__init fcd_Power__init fct_Power__init), fsl_Power__init⟩)
    (k_Power__init : PySem.W.codeIn K fcd_Power__init "Power.__init__" = true)
    (p_Power__init : PySem.W.keepIn K (.ref a_Power__init) = true)
    (f_Let__init : PySem.W.findIn K (.ref c_Let) "__init__" = some (some (.ref a_Let__init)))
    (l_Let__init : K.lookup a_Let__init = some ⟨fo_Let__init, fod_Let__init, .func (PySem.W.fnOf "__init__" "Let.__init__" (defArgs s_Let__init) (defBody s_Let__init) (defScope s_Let__init) .none fkV_Let__init fdc_Let__init fpm_Let__init fan_Let__init fcd_Let__init fct_Let__init), fsl_Let__init⟩)
    (k_Let__init : PySem.W.codeIn K fcd_Let__init "Let.__init__" = true)
    (p_Let__init : PySem.W.keepIn K (.ref a_Let__init) = true)
    (f_Part__init : PySem.W.findIn K (.ref c_Part) "__init__" = some (some (.ref a_Part__init)))
    (l_Part__init : K.lookup a_Part__init = some ⟨fo_Part__init, fod_Part__init, .func (PySem.W.fnOf "__init__" "Part.__init__" (defArgs s_Part__init) (defBody s_Part__init) (defScope s_Part__init) .none fkV_Part__init fdc_Part__init fpm_Part__init fan_Part__init fcd_Part__init fct_Part__init), fsl_Part__init⟩)
    (k_Part__init : PySem.W.codeIn K fcd_Part__init "Part.__init__" = true)
    (p_Part__init : PySem.W.keepIn K (.ref a_Part__init) = true)
    (f_Pact__init : PySem.W.findIn K (.ref c_Pact) "__init__" = some (some (.ref a_Pact__init)))
    (l_Pact__init : K.lookup a_Pact__init = some ⟨fo_Pact__init, fod_Pact__init, .func (PySem.W.fnOf "__init__" "Pact.__init__" (defArgs s_Pact__init) (defBody s_Pact__init) (defScope s_Pact__init) .none fkV_Pact__init fdc_Pact__init fpm_Pact__init fan_Pact__init fcd_Pact__init fct_Pact__init), fsl_Pact__init⟩)
    (k_Pact__init : PySem.W.codeIn K fcd_Pact__init "Pact.__init__" = true)
    (p_Pact__init : PySem.W.keepIn K (.ref a_Pact__init) = true)
    (f_is_name : PySem.W.nsIn K mainGlobals "is_name" = some (some (.ref a_is_name)))
    (l_is_name : K.lookup a_is_name = some ⟨fo_is_name, fod_is_name, .func (PySem.W.fnOf "is_name" "is_name" (defArgs s_is_name) (defBody s_is_name) (defScope s_is_name) .none fkV_is_name fdc_is_name fpm_is_name fan_is_name fcd_is_name fct_is_name), fsl_is_name⟩)
    (k_is_name : PySem.W.codeIn K fcd_is_name "is_name" = true)
    (p_is_name : PySem.W.keepIn K (.ref a_is_name) = true)
    (f_number_of : PySem.W.nsIn K mainGlobals "number_of" = some (some (.ref a_number_of)))
    (l_number_of : K.lookup a_number_of = some ⟨fo_number_of, fod_number_of, .func (PySem.W.fnOf "number_of" "number_of" (defArgs s_number_of) (defBody s_number_of) (defScope s_number_of) .none fkV_number_of fdc_number_of fpm_number_of fan_number_of fcd_number_of fct_number_of), fsl_number_of⟩)
    (k_number_of : PySem.W.codeIn K fcd_number_of "number_of" = true)
    (p_number_of : PySem.W.keepIn K (.ref a_number_of) = true)
    (f_duty_of : PySem.W.nsIn K mainGlobals "duty_of" = some (some (.ref a_duty_of)))
    (l_duty_of : K.lookup a_duty_of = some ⟨fo_duty_of, fod_duty_of, .func (PySem.W.fnOf "duty_of" "duty_of" (defArgs s_duty_of) (defBody s_duty_of) (defScope s_duty_of) .none fkV_duty_of fdc_duty_of fpm_duty_of fan_duty_of fcd_duty_of fct_duty_of), fsl_duty_of⟩)
    (k_duty_of : PySem.W.codeIn K fcd_duty_of "duty_of" = true)
    (p_duty_of : PySem.W.keepIn K (.ref a_duty_of) = true)
    (f_ban_of : PySem.W.nsIn K mainGlobals "ban_of" = some (some (.ref a_ban_of)))
    (l_ban_of : K.lookup a_ban_of = some ⟨fo_ban_of, fod_ban_of, .func (PySem.W.fnOf "ban_of" "ban_of" (defArgs s_ban_of) (defBody s_ban_of) (defScope s_ban_of) .none fkV_ban_of fdc_ban_of fpm_ban_of fan_ban_of fcd_ban_of fct_ban_of), fsl_ban_of⟩)
    (k_ban_of : PySem.W.codeIn K fcd_ban_of "ban_of" = true)
    (p_ban_of : PySem.W.keepIn K (.ref a_ban_of) = true)
    (f_power_of : PySem.W.nsIn K mainGlobals "power_of" = some (some (.ref a_power_of)))
    (l_power_of : K.lookup a_power_of = some ⟨fo_power_of, fod_power_of, .func (PySem.W.fnOf "power_of" "power_of" (defArgs s_power_of) (defBody s_power_of) (defScope s_power_of) .none fkV_power_of fdc_power_of fpm_power_of fan_power_of fcd_power_of fct_power_of), fsl_power_of⟩)
    (k_power_of : PySem.W.codeIn K fcd_power_of "power_of" = true)
    (p_power_of : PySem.W.keepIn K (.ref a_power_of) = true)
    (f_clause_of : PySem.W.nsIn K mainGlobals "clause_of" = some (some (.ref a_clause_of)))
    (l_clause_of : K.lookup a_clause_of = some ⟨fo_clause_of, fod_clause_of, .func (PySem.W.fnOf "clause_of" "clause_of" (defArgs s_clause_of) (defBody s_clause_of) (defScope s_clause_of) .none fkV_clause_of fdc_clause_of fpm_clause_of fan_clause_of fcd_clause_of fct_clause_of), fsl_clause_of⟩)
    (k_clause_of : PySem.W.codeIn K fcd_clause_of "clause_of" = true)
    (p_clause_of : PySem.W.keepIn K (.ref a_clause_of) = true)
    (f_let_of : PySem.W.nsIn K mainGlobals "let_of" = some (some (.ref a_let_of)))
    (l_let_of : K.lookup a_let_of = some ⟨fo_let_of, fod_let_of, .func (PySem.W.fnOf "let_of" "let_of" (defArgs s_let_of) (defBody s_let_of) (defScope s_let_of) .none fkV_let_of fdc_let_of fpm_let_of fan_let_of fcd_let_of fct_let_of), fsl_let_of⟩)
    (k_let_of : PySem.W.codeIn K fcd_let_of "let_of" = true)
    (p_let_of : PySem.W.keepIn K (.ref a_let_of) = true)
    (f_names_of : PySem.W.nsIn K mainGlobals "names_of" = some (some (.ref a_names_of)))
    (l_names_of : K.lookup a_names_of = some ⟨fo_names_of, fod_names_of, .func (PySem.W.fnOf "names_of" "names_of" (defArgs s_names_of) (defBody s_names_of) (defScope s_names_of) .none fkV_names_of fdc_names_of fpm_names_of fan_names_of fcd_names_of fct_names_of), fsl_names_of⟩)
    (k_names_of : PySem.W.codeIn K fcd_names_of "names_of" = true)
    (p_names_of : PySem.W.keepIn K (.ref a_names_of) = true)
    (f_part_of : PySem.W.nsIn K mainGlobals "part_of" = some (some (.ref a_part_of)))
    (l_part_of : K.lookup a_part_of = some ⟨fo_part_of, fod_part_of, .func (PySem.W.fnOf "part_of" "part_of" (defArgs s_part_of) (defBody s_part_of) (defScope s_part_of) .none fkV_part_of fdc_part_of fpm_part_of fan_part_of fcd_part_of fct_part_of), fsl_part_of⟩)
    (k_part_of : PySem.W.codeIn K fcd_part_of "part_of" = true)
    (p_part_of : PySem.W.keepIn K (.ref a_part_of) = true)
    (f_room_of : PySem.W.nsIn K mainGlobals "room_of" = some (some (.ref a_room_of)))
    (l_room_of : K.lookup a_room_of = some ⟨fo_room_of, fod_room_of, .func (PySem.W.fnOf "room_of" "room_of" (defArgs s_room_of) (defBody s_room_of) (defScope s_room_of) .none fkV_room_of fdc_room_of fpm_room_of fan_room_of fcd_room_of fct_room_of), fsl_room_of⟩)
    (k_room_of : PySem.W.codeIn K fcd_room_of "room_of" = true)
    (p_room_of : PySem.W.keepIn K (.ref a_room_of) = true)
    (f_Reading__init : PySem.W.findIn K (.ref c_Reading) "__init__" = some (some (.ref a_Reading__init)))
    (l_Reading__init : K.lookup a_Reading__init = some ⟨fo_Reading__init, fod_Reading__init, .func (PySem.W.fnOf "__init__" "Reading.__init__" (defArgs s_Reading__init) (defBody s_Reading__init) (defScope s_Reading__init) .none fkV_Reading__init fdc_Reading__init fpm_Reading__init fan_Reading__init fcd_Reading__init fct_Reading__init), fsl_Reading__init⟩)
    (k_Reading__init : PySem.W.codeIn K fcd_Reading__init "Reading.__init__" = true)
    (p_Reading__init : PySem.W.keepIn K (.ref a_Reading__init) = true)
    (f_Reading_is_new : PySem.W.findIn K (.ref c_Reading) "is_new" = some (some (.ref a_Reading_is_new)))
    (l_Reading_is_new : K.lookup a_Reading_is_new = some ⟨fo_Reading_is_new, fod_Reading_is_new, .func (PySem.W.fnOf "is_new" "Reading.is_new" (defArgs s_Reading_is_new) (defBody s_Reading_is_new) (defScope s_Reading_is_new) .none fkV_Reading_is_new fdc_Reading_is_new fpm_Reading_is_new fan_Reading_is_new fcd_Reading_is_new fct_Reading_is_new), fsl_Reading_is_new⟩)
    (k_Reading_is_new : PySem.W.codeIn K fcd_Reading_is_new "Reading.is_new" = true)
    (p_Reading_is_new : PySem.W.keepIn K (.ref a_Reading_is_new) = true)
    (f_Reading_take_names : PySem.W.findIn K (.ref c_Reading) "take_names" = some (some (.ref a_Reading_take_names)))
    (l_Reading_take_names : K.lookup a_Reading_take_names = some ⟨fo_Reading_take_names, fod_Reading_take_names, .func (PySem.W.fnOf "take_names" "Reading.take_names" (defArgs s_Reading_take_names) (defBody s_Reading_take_names) (defScope s_Reading_take_names) .none fkV_Reading_take_names fdc_Reading_take_names fpm_Reading_take_names fan_Reading_take_names fcd_Reading_take_names fct_Reading_take_names), fsl_Reading_take_names⟩)
    (k_Reading_take_names : PySem.W.codeIn K fcd_Reading_take_names "Reading.take_names" = true)
    (p_Reading_take_names : PySem.W.keepIn K (.ref a_Reading_take_names) = true)
    (f_Reading_take_room : PySem.W.findIn K (.ref c_Reading) "take_room" = some (some (.ref a_Reading_take_room)))
    (l_Reading_take_room : K.lookup a_Reading_take_room = some ⟨fo_Reading_take_room, fod_Reading_take_room, .func (PySem.W.fnOf "take_room" "Reading.take_room" (defArgs s_Reading_take_room) (defBody s_Reading_take_room) (defScope s_Reading_take_room) .none fkV_Reading_take_room fdc_Reading_take_room fpm_Reading_take_room fan_Reading_take_room fcd_Reading_take_room fct_Reading_take_room), fsl_Reading_take_room⟩)
    (k_Reading_take_room : PySem.W.codeIn K fcd_Reading_take_room "Reading.take_room" = true)
    (p_Reading_take_room : PySem.W.keepIn K (.ref a_Reading_take_room) = true)
    (f_Reading_take_part : PySem.W.findIn K (.ref c_Reading) "take_part" = some (some (.ref a_Reading_take_part)))
    (l_Reading_take_part : K.lookup a_Reading_take_part = some ⟨fo_Reading_take_part, fod_Reading_take_part, .func (PySem.W.fnOf "take_part" "Reading.take_part" (defArgs s_Reading_take_part) (defBody s_Reading_take_part) (defScope s_Reading_take_part) .none fkV_Reading_take_part fdc_Reading_take_part fpm_Reading_take_part fan_Reading_take_part fcd_Reading_take_part fct_Reading_take_part), fsl_Reading_take_part⟩)
    (k_Reading_take_part : PySem.W.codeIn K fcd_Reading_take_part "Reading.take_part" = true)
    (p_Reading_take_part : PySem.W.keepIn K (.ref a_Reading_take_part) = true)
    (f_Reading_take_done : PySem.W.findIn K (.ref c_Reading) "take_done" = some (some (.ref a_Reading_take_done)))
    (l_Reading_take_done : K.lookup a_Reading_take_done = some ⟨fo_Reading_take_done, fod_Reading_take_done, .func (PySem.W.fnOf "take_done" "Reading.take_done" (defArgs s_Reading_take_done) (defBody s_Reading_take_done) (defScope s_Reading_take_done) .none fkV_Reading_take_done fdc_Reading_take_done fpm_Reading_take_done fan_Reading_take_done fcd_Reading_take_done fct_Reading_take_done), fsl_Reading_take_done⟩)
    (k_Reading_take_done : PySem.W.codeIn K fcd_Reading_take_done "Reading.take_done" = true)
    (p_Reading_take_done : PySem.W.keepIn K (.ref a_Reading_take_done) = true)
    (f_Reading_take_row : PySem.W.findIn K (.ref c_Reading) "take_row" = some (some (.ref a_Reading_take_row)))
    (l_Reading_take_row : K.lookup a_Reading_take_row = some ⟨fo_Reading_take_row, fod_Reading_take_row, .func (PySem.W.fnOf "take_row" "Reading.take_row" (defArgs s_Reading_take_row) (defBody s_Reading_take_row) (defScope s_Reading_take_row) .none fkV_Reading_take_row fdc_Reading_take_row fpm_Reading_take_row fan_Reading_take_row fcd_Reading_take_row fct_Reading_take_row), fsl_Reading_take_row⟩)
    (k_Reading_take_row : PySem.W.codeIn K fcd_Reading_take_row "Reading.take_row" = true)
    (p_Reading_take_row : PySem.W.keepIn K (.ref a_Reading_take_row) = true)
    (f_Reading_take : PySem.W.findIn K (.ref c_Reading) "take" = some (some (.ref a_Reading_take)))
    (l_Reading_take : K.lookup a_Reading_take = some ⟨fo_Reading_take, fod_Reading_take, .func (PySem.W.fnOf "take" "Reading.take" (defArgs s_Reading_take) (defBody s_Reading_take) (defScope s_Reading_take) .none fkV_Reading_take fdc_Reading_take fpm_Reading_take fan_Reading_take fcd_Reading_take fct_Reading_take), fsl_Reading_take⟩)
    (k_Reading_take : PySem.W.codeIn K fcd_Reading_take "Reading.take" = true)
    (p_Reading_take : PySem.W.keepIn K (.ref a_Reading_take) = true)
    (f_read : PySem.W.nsIn K mainGlobals "read" = some (some (.ref a_read)))
    (l_read : K.lookup a_read = some ⟨fo_read, fod_read, .func (PySem.W.fnOf "read" "read" (defArgs s_read) (defBody s_read) (defScope s_read) .none fkV_read fdc_read fpm_read fan_read fcd_read fct_read), fsl_read⟩)
    (k_read : PySem.W.codeIn K fcd_read "read" = true)
    (p_read : PySem.W.keepIn K (.ref a_read) = true)
    (f_law_cell_at : PySem.W.nsIn K mainGlobals "_law_cell_at" = some (some (.ref a_law_cell_at)))
    (l_law_cell_at : K.lookup a_law_cell_at = some ⟨fo_law_cell_at, fod_law_cell_at, .func (PySem.W.fnOf "_law_cell_at" "_law_cell_at" (defArgs s_law_cell_at) (defBody s_law_cell_at) (defScope s_law_cell_at) .none fkV_law_cell_at fdc_law_cell_at fpm_law_cell_at fan_law_cell_at fcd_law_cell_at fct_law_cell_at), fsl_law_cell_at⟩)
    (k_law_cell_at : PySem.W.codeIn K fcd_law_cell_at "_law_cell_at" = true)
    (p_law_cell_at : PySem.W.keepIn K (.ref a_law_cell_at) = true)
    (f_law_mix : PySem.W.nsIn K mainGlobals "_law_mix" = some (some (.ref a_law_mix)))
    (l_law_mix : K.lookup a_law_mix = some ⟨fo_law_mix, fod_law_mix, .func (PySem.W.fnOf "_law_mix" "_law_mix" (defArgs s_law_mix) (defBody s_law_mix) (defScope s_law_mix) .none fkV_law_mix fdc_law_mix fpm_law_mix fan_law_mix fcd_law_mix fct_law_mix), fsl_law_mix⟩)
    (k_law_mix : PySem.W.codeIn K fcd_law_mix "_law_mix" = true)
    (p_law_mix : PySem.W.keepIn K (.ref a_law_mix) = true)
    (f_law_name : PySem.W.nsIn K mainGlobals "_law_name" = some (some (.ref a_law_name)))
    (l_law_name : K.lookup a_law_name = some ⟨fo_law_name, fod_law_name, .func (PySem.W.fnOf "_law_name" "_law_name" (defArgs s_law_name) (defBody s_law_name) (defScope s_law_name) .none fkV_law_name fdc_law_name fpm_law_name fan_law_name fcd_law_name fct_law_name), fsl_law_name⟩)
    (k_law_name : PySem.W.codeIn K fcd_law_name "_law_name" = true)
    (p_law_name : PySem.W.keepIn K (.ref a_law_name) = true)
    (f_law_event : PySem.W.nsIn K mainGlobals "_law_event" = some (some (.ref a_law_event)))
    (l_law_event : K.lookup a_law_event = some ⟨fo_law_event, fod_law_event, .func (PySem.W.fnOf "_law_event" "_law_event" (defArgs s_law_event) (defBody s_law_event) (defScope s_law_event) .none fkV_law_event fdc_law_event fpm_law_event fan_law_event fcd_law_event fct_law_event), fsl_law_event⟩)
    (k_law_event : PySem.W.codeIn K fcd_law_event "_law_event" = true)
    (p_law_event : PySem.W.keepIn K (.ref a_law_event) = true)
    (f_law_events : PySem.W.nsIn K mainGlobals "_law_events" = some (some (.ref a_law_events)))
    (l_law_events : K.lookup a_law_events = some ⟨fo_law_events, fod_law_events, .func (PySem.W.fnOf "_law_events" "_law_events" (defArgs s_law_events) (defBody s_law_events) (defScope s_law_events) .none fkV_law_events fdc_law_events fpm_law_events fan_law_events fcd_law_events fct_law_events), fsl_law_events⟩)
    (k_law_events : PySem.W.codeIn K fcd_law_events "_law_events" = true)
    (p_law_events : PySem.W.keepIn K (.ref a_law_events) = true)
    (f_law_header : PySem.W.nsIn K mainGlobals "_law_header" = some (some (.ref a_law_header)))
    (l_law_header : K.lookup a_law_header = some ⟨fo_law_header, fod_law_header, .func (PySem.W.fnOf "_law_header" "_law_header" (defArgs s_law_header) (defBody s_law_header) (defScope s_law_header) .none fkV_law_header fdc_law_header fpm_law_header fan_law_header fcd_law_header fct_law_header), fsl_law_header⟩)
    (k_law_header : PySem.W.codeIn K fcd_law_header "_law_header" = true)
    (p_law_header : PySem.W.keepIn K (.ref a_law_header) = true)
    (f_law_row : PySem.W.nsIn K mainGlobals "_law_row" = some (some (.ref a_law_row)))
    (l_law_row : K.lookup a_law_row = some ⟨fo_law_row, fod_law_row, .func (PySem.W.fnOf "_law_row" "_law_row" (defArgs s_law_row) (defBody s_law_row) (defScope s_law_row) .none fkV_law_row fdc_law_row fpm_law_row fan_law_row fcd_law_row fct_law_row), fsl_law_row⟩)
    (k_law_row : PySem.W.codeIn K fcd_law_row "_law_row" = true)
    (p_law_row : PySem.W.keepIn K (.ref a_law_row) = true)
    (f_law_rows : PySem.W.nsIn K mainGlobals "_law_rows" = some (some (.ref a_law_rows)))
    (l_law_rows : K.lookup a_law_rows = some ⟨fo_law_rows, fod_law_rows, .func (PySem.W.fnOf "_law_rows" "_law_rows" (defArgs s_law_rows) (defBody s_law_rows) (defScope s_law_rows) .none fkV_law_rows fdc_law_rows fpm_law_rows fan_law_rows fcd_law_rows fct_law_rows), fsl_law_rows⟩)
    (k_law_rows : PySem.W.codeIn K fcd_law_rows "_law_rows" = true)
    (p_law_rows : PySem.W.keepIn K (.ref a_law_rows) = true)
    (f_law_clause : PySem.W.nsIn K mainGlobals "_law_clause" = some (some (.ref a_law_clause)))
    (l_law_clause : K.lookup a_law_clause = some ⟨fo_law_clause, fod_law_clause, .func (PySem.W.fnOf "_law_clause" "_law_clause" (defArgs s_law_clause) (defBody s_law_clause) (defScope s_law_clause) .none fkV_law_clause fdc_law_clause fpm_law_clause fan_law_clause fcd_law_clause fct_law_clause), fsl_law_clause⟩)
    (k_law_clause : PySem.W.codeIn K fcd_law_clause "_law_clause" = true)
    (p_law_clause : PySem.W.keepIn K (.ref a_law_clause) = true)
    (f_law_found : PySem.W.nsIn K mainGlobals "_law_found" = some (some (.ref a_law_found)))
    (l_law_found : K.lookup a_law_found = some ⟨fo_law_found, fod_law_found, .func (PySem.W.fnOf "_law_found" "_law_found" (defArgs s_law_found) (defBody s_law_found) (defScope s_law_found) .none fkV_law_found fdc_law_found fpm_law_found fan_law_found fcd_law_found fct_law_found), fsl_law_found⟩)
    (k_law_found : PySem.W.codeIn K fcd_law_found "_law_found" = true)
    (p_law_found : PySem.W.keepIn K (.ref a_law_found) = true)
    (f_law_right : PySem.W.nsIn K mainGlobals "_law_right" = some (some (.ref a_law_right)))
    (l_law_right : K.lookup a_law_right = some ⟨fo_law_right, fod_law_right, .func (PySem.W.fnOf "_law_right" "_law_right" (defArgs s_law_right) (defBody s_law_right) (defScope s_law_right) .none fkV_law_right fdc_law_right fpm_law_right fan_law_right fcd_law_right fct_law_right), fsl_law_right⟩)
    (k_law_right : PySem.W.codeIn K fcd_law_right "_law_right" = true)
    (p_law_right : PySem.W.keepIn K (.ref a_law_right) = true)
    (f_law : PySem.W.nsIn K mainGlobals "law" = some (some (.ref a_law)))
    (l_law : K.lookup a_law = some ⟨fo_law, fod_law, .func (PySem.W.fnOf "law" "law" (defArgs s_law) (defBody s_law) (defScope s_law) .none fkV_law fdc_law fpm_law fan_law fcd_law fct_law), fsl_law⟩)
    (k_law : PySem.W.codeIn K fcd_law "law" = true)
    (p_law : PySem.W.keepIn K (.ref a_law) = true)
    (g_FIGURES : PySem.W.nsIn K mainGlobals "FIGURES" = some (some (.str "0123456789" gt_FIGURES)))
    (g_KEPT : PySem.W.nsIn K mainGlobals "KEPT" = some (some (.ref ga_KEPT)))
    (gl_KEPT : K.lookup ga_KEPT = some ⟨.type "tuple", god_KEPT, .seq gi_KEPT gn_KEPT, gs_KEPT⟩)
    (gv_KEPT : atomsV gi_KEPT.toList = some [.str "acts", .str "any", .str "be", .str "by", .str "calm", .str "done", .str "else", .str "end", .str "in", .str "let", .str "may", .str "must", .str "not", .str "part", .str "parties", .str "rest", .str "sore", .str "to", .str "whole"])
    (g_LETTERS : PySem.W.nsIn K mainGlobals "LETTERS" = some (some (.str "abcdefghijklmnopqrstuvwxyz" gt_LETTERS)))
    (g_MARKS : PySem.W.nsIn K mainGlobals "MARKS" = some (some (.ref ga_MARKS)))
    (gl_MARKS : K.lookup ga_MARKS = some ⟨.type "tuple", god_MARKS, .seq gi_MARKS gn_MARKS, gs_MARKS⟩)
    (gv_MARKS : atomsV gi_MARKS.toList = some [.str "calm", .str "sore", .str "end"])
    (g_MOST_ACTS : PySem.W.nsIn K mainGlobals "MOST_ACTS" = some (some (.int 6 gt_MOST_ACTS)))
    (g_MOST_DEPTH : PySem.W.nsIn K mainGlobals "MOST_DEPTH" = some (some (.int 6 gt_MOST_DEPTH)))
    (g_MOST_FIGURES : PySem.W.nsIn K mainGlobals "MOST_FIGURES" = some (some (.int 20 gt_MOST_FIGURES)))
    (g_MOST_LETTERS : PySem.W.nsIn K mainGlobals "MOST_LETTERS" = some (some (.int 8 gt_MOST_LETTERS)))
    (g_MOST_PARTIES : PySem.W.nsIn K mainGlobals "MOST_PARTIES" = some (some (.int 4 gt_MOST_PARTIES)))
    (g_MOST_ROOMS : PySem.W.nsIn K mainGlobals "MOST_ROOMS" = some (some (.int 12 gt_MOST_ROOMS)))
    (g_MOST_ROWS : PySem.W.nsIn K mainGlobals "MOST_ROWS" = some (some (.int 90 gt_MOST_ROWS)))
    (b_bool : PySem.W.nsIn K mainGlobals "bool" = some none)
    (b_enumerate : PySem.W.nsIn K mainGlobals "enumerate" = some none)
    (b_int : PySem.W.nsIn K mainGlobals "int" = some none)
    (b_isinstance : PySem.W.nsIn K mainGlobals "isinstance" = some none)
    (b_len : PySem.W.nsIn K mainGlobals "len" = some none)
    (b_list : PySem.W.nsIn K mainGlobals "list" = some none)
    (b_range : PySem.W.nsIn K mainGlobals "range" = some none)
    (b_str : PySem.W.nsIn K mainGlobals "str" = some none)
    (b_tuple : PySem.W.nsIn K mainGlobals "tuple" = some none)
    (no_NoText_row : PySem.W.findIn K (.ref c_NoText) "row" = some none)
    (no_Clause_act : PySem.W.findIn K (.ref c_Clause) "act" = some none)
    (no_Duty_act : PySem.W.findIn K (.ref c_Duty) "act" = some none)
    (no_Leave_act : PySem.W.findIn K (.ref c_Leave) "act" = some none)
    (no_Ban_act : PySem.W.findIn K (.ref c_Ban) "act" = some none)
    (no_Power_act : PySem.W.findIn K (.ref c_Power) "act" = some none)
    (no_Clause_who : PySem.W.findIn K (.ref c_Clause) "who" = some none)
    (no_Duty_who : PySem.W.findIn K (.ref c_Duty) "who" = some none)
    (no_Leave_who : PySem.W.findIn K (.ref c_Leave) "who" = some none)
    (no_Ban_who : PySem.W.findIn K (.ref c_Ban) "who" = some none)
    (no_Power_who : PySem.W.findIn K (.ref c_Power) "who" = some none)
    (no_Clause_label : PySem.W.findIn K (.ref c_Clause) "label" = some none)
    (no_Duty_label : PySem.W.findIn K (.ref c_Duty) "label" = some none)
    (no_Leave_label : PySem.W.findIn K (.ref c_Leave) "label" = some none)
    (no_Ban_label : PySem.W.findIn K (.ref c_Ban) "label" = some none)
    (no_Power_label : PySem.W.findIn K (.ref c_Power) "label" = some none)
    (no_Duty_room : PySem.W.findIn K (.ref c_Duty) "room" = some none)
    (no_Duty_turns : PySem.W.findIn K (.ref c_Duty) "turns" = some none)
    (cr_Clause : PySem.W.readsIn K c_Clause (.type "type") = true)
    (cg_Clause : PySem.W.specialIn K (.ref c_Clause) "__getattribute__" = some (some (.builtin "type.__getattribute__")))
    (cv_Clause_Clause__init : PySem.W.findCls K (.ref c_Clause) (.type "type") "__init__" = some (.val (.ref a_Clause__init)))
    (no_Ban_room : PySem.W.findIn K (.ref c_Ban) "room" = some none)
    (no_Power_room : PySem.W.findIn K (.ref c_Power) "room" = some none)
    (cr_Leave : PySem.W.readsIn K c_Leave (.type "type") = true)
    (cg_Leave : PySem.W.specialIn K (.ref c_Leave) "__getattribute__" = some (some (.builtin "type.__getattribute__")))
    (cv_Leave_Clause__init : PySem.W.findCls K (.ref c_Leave) (.type "type") "__init__" = some (.val (.ref a_Clause__init)))
    (no_Let_value : PySem.W.findIn K (.ref c_Let) "value" = some none)
    (no_Let_name : PySem.W.findIn K (.ref c_Let) "name" = some none)
    (no_Part_rows : PySem.W.findIn K (.ref c_Part) "rows" = some none)
    (no_Part_rooms : PySem.W.findIn K (.ref c_Part) "rooms" = some none)
    (no_Part_name : PySem.W.findIn K (.ref c_Part) "name" = some none)
    (no_Pact_whole : PySem.W.findIn K (.ref c_Pact) "whole" = some none)
    (no_Pact_rooms : PySem.W.findIn K (.ref c_Pact) "rooms" = some none)
    (no_Pact_acts : PySem.W.findIn K (.ref c_Pact) "acts" = some none)
    (no_Pact_parties : PySem.W.findIn K (.ref c_Pact) "parties" = some none)
    (cp_Duty : PySem.W.plainGet K c_Duty Str.empty = true)
    (ch_Duty : PySem.W.hasDictIn K c_Duty = true)
    (co_Duty : PySem.W.plainOver K c_Duty = true)
    (cs_Duty : PySem.W.findIn K (.ref c_Duty) "__setattr__" = some (some (.builtin "object.__setattr__")))
    (ck_Duty : PySem.W.makesIn K c_Duty = true)
    (i_Duty__init : PySem.W.isFn K (.ref a_Duty__init) = true)
    (cx_Duty : PySem.W.keepIn K (.ref c_Duty) = true)
    (cp_Ban : PySem.W.plainGet K c_Ban Str.empty = true)
    (ch_Ban : PySem.W.hasDictIn K c_Ban = true)
    (co_Ban : PySem.W.plainOver K c_Ban = true)
    (cs_Ban : PySem.W.findIn K (.ref c_Ban) "__setattr__" = some (some (.builtin "object.__setattr__")))
    (ck_Ban : PySem.W.makesIn K c_Ban = true)
    (i_Ban__init : PySem.W.isFn K (.ref a_Ban__init) = true)
    (cx_Ban : PySem.W.keepIn K (.ref c_Ban) = true)
    (cp_Power : PySem.W.plainGet K c_Power Str.empty = true)
    (ch_Power : PySem.W.hasDictIn K c_Power = true)
    (co_Power : PySem.W.plainOver K c_Power = true)
    (cs_Power : PySem.W.findIn K (.ref c_Power) "__setattr__" = some (some (.builtin "object.__setattr__")))
    (ck_Power : PySem.W.makesIn K c_Power = true)
    (i_Power__init : PySem.W.isFn K (.ref a_Power__init) = true)
    (cx_Power : PySem.W.keepIn K (.ref c_Power) = true)
    (cp_Leave : PySem.W.plainGet K c_Leave Str.empty = true)
    (ch_Leave : PySem.W.hasDictIn K c_Leave = true)
    (co_Leave : PySem.W.plainOver K c_Leave = true)
    (cs_Leave : PySem.W.findIn K (.ref c_Leave) "__setattr__" = some (some (.builtin "object.__setattr__")))
    (ck_Leave : PySem.W.makesIn K c_Leave = true)
    (me_Leave_Clause__init : PySem.W.findIn K (.ref c_Leave) "__init__" = some (some (.ref a_Clause__init)))
    (i_Clause__init : PySem.W.isFn K (.ref a_Clause__init) = true)
    (cx_Leave : PySem.W.keepIn K (.ref c_Leave) = true)
    (cp_Let : PySem.W.plainGet K c_Let Str.empty = true)
    (ch_Let : PySem.W.hasDictIn K c_Let = true)
    (co_Let : PySem.W.plainOver K c_Let = true)
    (cs_Let : PySem.W.findIn K (.ref c_Let) "__setattr__" = some (some (.builtin "object.__setattr__")))
    (ck_Let : PySem.W.makesIn K c_Let = true)
    (i_Let__init : PySem.W.isFn K (.ref a_Let__init) = true)
    (cx_Let : PySem.W.keepIn K (.ref c_Let) = true)
    (cp_Part : PySem.W.plainGet K c_Part Str.empty = true)
    (ch_Part : PySem.W.hasDictIn K c_Part = true)
    (co_Part : PySem.W.plainOver K c_Part = true)
    (cs_Part : PySem.W.findIn K (.ref c_Part) "__setattr__" = some (some (.builtin "object.__setattr__")))
    (ck_Part : PySem.W.makesIn K c_Part = true)
    (i_Part__init : PySem.W.isFn K (.ref a_Part__init) = true)
    (cx_Part : PySem.W.keepIn K (.ref c_Part) = true)
    (no_Reading_labels : PySem.W.findIn K (.ref c_Reading) "labels" = some none)
    (no_Reading_header : PySem.W.findIn K (.ref c_Reading) "header" = some none)
    (no_Reading_stack : PySem.W.findIn K (.ref c_Reading) "stack" = some none)
    (no_Reading_rooms : PySem.W.findIn K (.ref c_Reading) "rooms" = some none)
    (no_Reading_acts : PySem.W.findIn K (.ref c_Reading) "acts" = some none)
    (no_Reading_parties : PySem.W.findIn K (.ref c_Reading) "parties" = some none)
    (i_Reading_is_new : PySem.W.isFn K (.ref a_Reading_is_new) = true)
    (i_Reading_take_part : PySem.W.isFn K (.ref a_Reading_take_part) = true)
    (i_Reading_take_done : PySem.W.isFn K (.ref a_Reading_take_done) = true)
    (i_Reading_take_row : PySem.W.isFn K (.ref a_Reading_take_row) = true)
    (i_Reading_take_room : PySem.W.isFn K (.ref a_Reading_take_room) = true)
    (i_Reading_take_names : PySem.W.isFn K (.ref a_Reading_take_names) = true)
    (cp_Pact : PySem.W.plainGet K c_Pact Str.empty = true)
    (ch_Pact : PySem.W.hasDictIn K c_Pact = true)
    (co_Pact : PySem.W.plainOver K c_Pact = true)
    (cs_Pact : PySem.W.findIn K (.ref c_Pact) "__setattr__" = some (some (.builtin "object.__setattr__")))
    (ck_Pact : PySem.W.makesIn K c_Pact = true)
    (i_Pact__init : PySem.W.isFn K (.ref a_Pact__init) = true)
    (cx_Pact : PySem.W.keepIn K (.ref c_Pact) = true)
    (lx_NoText : K.lookup c_NoText = some (excClassObj xn_NoText xq_NoText c_NoText xN_NoText xb_NoText xm_NoText true xs_NoText xu_NoText xa_NoText xc_NoText xd_NoText x0_NoText x1_NoText x2_NoText x3_NoText x5_NoText "ValueError.__new__"))
    (rx_NoText : PySem.HandSPX.refsVE xm_NoText = true)
    (sx_NoText : PySem.W.findIn K (.ref c_NoText) "__setattr__" = some (some (.builtin "object.__setattr__")))
    (ex_NoText : PySem.W.subIn K (.ref c_NoText) (.type "BaseException") = some true)
    (tx_NoText : PySem.W.typeIn K (.ref c_NoText) = some (.type "type"))
    (cx_NoText : PySem.W.keepIn K (.ref c_NoText) = true)
    (ti_NoText__init : PySem.W.typeIn K (.ref a_NoText__init) = some (.type "function"))
    (i_Reading_take : PySem.W.isFn K (.ref a_Reading_take) = true)
    (cp_Reading : PySem.W.plainGet K c_Reading Str.empty = true)
    (ch_Reading : PySem.W.hasDictIn K c_Reading = true)
    (co_Reading : PySem.W.plainOver K c_Reading = true)
    (cs_Reading : PySem.W.findIn K (.ref c_Reading) "__setattr__" = some (some (.builtin "object.__setattr__")))
    (ck_Reading : PySem.W.makesIn K c_Reading = true)
    (i_Reading__init : PySem.W.isFn K (.ref a_Reading__init) = true)
    (cx_Reading : PySem.W.keepIn K (.ref c_Reading) = true)
    (sg : PySem.W.specialIn K (.builtin "object.__class__") "__get__" = some (some (.builtin "getset_descriptor.__get__")))
    (st : PySem.W.takesIn K (.builtin "object.__class__") = some true)
    (ix_Leave : PySem.W.isClsIn K c_Leave = true)
    (iy_Leave : PySem.W.typeIn K (.ref c_Leave) = some (.type "type"))
    (sb_Leave_Leave : PySem.W.subIn K (.ref c_Leave) (.ref c_Leave) = some true)
    (kb_Leave_NoneType : PySem.W.subIn K (.type "NoneType") (.ref c_Leave) = some false)
    (kb_Leave_bool : PySem.W.subIn K (.type "bool") (.ref c_Leave) = some false)
    (kb_Leave_int : PySem.W.subIn K (.type "int") (.ref c_Leave) = some false)
    (kb_Leave_str : PySem.W.subIn K (.type "str") (.ref c_Leave) = some false)
    (kb_Leave_list : PySem.W.subIn K (.type "list") (.ref c_Leave) = some false)
    (kb_Leave_tuple : PySem.W.subIn K (.type "tuple") (.ref c_Leave) = some false)
    (kb_Leave_dict : PySem.W.subIn K (.type "dict") (.ref c_Leave) = some false)
    (in_PactError : PySem.W.findIn K (.ref c_PactError) "__class__" = some (some (.builtin "object.__class__")))
    (io_PactError : PySem.W.mroIn K c_PactError (.type "object") = some true)
    (sb_Leave_PactError : PySem.W.subIn K (.ref c_PactError) (.ref c_Leave) = some false)
    (in_NoText : PySem.W.findIn K (.ref c_NoText) "__class__" = some (some (.builtin "object.__class__")))
    (io_NoText : PySem.W.mroIn K c_NoText (.type "object") = some true)
    (sb_Leave_NoText : PySem.W.subIn K (.ref c_NoText) (.ref c_Leave) = some false)
    (in_Row : PySem.W.findIn K (.ref c_Row) "__class__" = some (some (.builtin "object.__class__")))
    (io_Row : PySem.W.mroIn K c_Row (.type "object") = some true)
    (sb_Leave_Row : PySem.W.subIn K (.ref c_Row) (.ref c_Leave) = some false)
    (in_Clause : PySem.W.findIn K (.ref c_Clause) "__class__" = some (some (.builtin "object.__class__")))
    (io_Clause : PySem.W.mroIn K c_Clause (.type "object") = some true)
    (sb_Leave_Clause : PySem.W.subIn K (.ref c_Clause) (.ref c_Leave) = some false)
    (in_Duty : PySem.W.findIn K (.ref c_Duty) "__class__" = some (some (.builtin "object.__class__")))
    (io_Duty : PySem.W.mroIn K c_Duty (.type "object") = some true)
    (sb_Leave_Duty : PySem.W.subIn K (.ref c_Duty) (.ref c_Leave) = some false)
    (in_Leave : PySem.W.findIn K (.ref c_Leave) "__class__" = some (some (.builtin "object.__class__")))
    (io_Leave : PySem.W.mroIn K c_Leave (.type "object") = some true)
    (in_Ban : PySem.W.findIn K (.ref c_Ban) "__class__" = some (some (.builtin "object.__class__")))
    (io_Ban : PySem.W.mroIn K c_Ban (.type "object") = some true)
    (sb_Leave_Ban : PySem.W.subIn K (.ref c_Ban) (.ref c_Leave) = some false)
    (in_Power : PySem.W.findIn K (.ref c_Power) "__class__" = some (some (.builtin "object.__class__")))
    (io_Power : PySem.W.mroIn K c_Power (.type "object") = some true)
    (sb_Leave_Power : PySem.W.subIn K (.ref c_Power) (.ref c_Leave) = some true)
    (in_Let : PySem.W.findIn K (.ref c_Let) "__class__" = some (some (.builtin "object.__class__")))
    (io_Let : PySem.W.mroIn K c_Let (.type "object") = some true)
    (sb_Leave_Let : PySem.W.subIn K (.ref c_Let) (.ref c_Leave) = some false)
    (in_Part : PySem.W.findIn K (.ref c_Part) "__class__" = some (some (.builtin "object.__class__")))
    (io_Part : PySem.W.mroIn K c_Part (.type "object") = some true)
    (sb_Leave_Part : PySem.W.subIn K (.ref c_Part) (.ref c_Leave) = some false)
    (in_Pact : PySem.W.findIn K (.ref c_Pact) "__class__" = some (some (.builtin "object.__class__")))
    (io_Pact : PySem.W.mroIn K c_Pact (.type "object") = some true)
    (sb_Leave_Pact : PySem.W.subIn K (.ref c_Pact) (.ref c_Leave) = some false)
    (in_Reading : PySem.W.findIn K (.ref c_Reading) "__class__" = some (some (.builtin "object.__class__")))
    (io_Reading : PySem.W.mroIn K c_Reading (.type "object") = some true)
    (sb_Leave_Reading : PySem.W.subIn K (.ref c_Reading) (.ref c_Leave) = some false)
    (ix_Power : PySem.W.isClsIn K c_Power = true)
    (iy_Power : PySem.W.typeIn K (.ref c_Power) = some (.type "type"))
    (sb_Power_Power : PySem.W.subIn K (.ref c_Power) (.ref c_Power) = some true)
    (kb_Power_NoneType : PySem.W.subIn K (.type "NoneType") (.ref c_Power) = some false)
    (kb_Power_bool : PySem.W.subIn K (.type "bool") (.ref c_Power) = some false)
    (kb_Power_int : PySem.W.subIn K (.type "int") (.ref c_Power) = some false)
    (kb_Power_str : PySem.W.subIn K (.type "str") (.ref c_Power) = some false)
    (kb_Power_list : PySem.W.subIn K (.type "list") (.ref c_Power) = some false)
    (kb_Power_tuple : PySem.W.subIn K (.type "tuple") (.ref c_Power) = some false)
    (kb_Power_dict : PySem.W.subIn K (.type "dict") (.ref c_Power) = some false)
    (sb_Power_PactError : PySem.W.subIn K (.ref c_PactError) (.ref c_Power) = some false)
    (sb_Power_NoText : PySem.W.subIn K (.ref c_NoText) (.ref c_Power) = some false)
    (sb_Power_Row : PySem.W.subIn K (.ref c_Row) (.ref c_Power) = some false)
    (sb_Power_Clause : PySem.W.subIn K (.ref c_Clause) (.ref c_Power) = some false)
    (sb_Power_Duty : PySem.W.subIn K (.ref c_Duty) (.ref c_Power) = some false)
    (sb_Power_Leave : PySem.W.subIn K (.ref c_Leave) (.ref c_Power) = some false)
    (sb_Power_Ban : PySem.W.subIn K (.ref c_Ban) (.ref c_Power) = some false)
    (sb_Power_Let : PySem.W.subIn K (.ref c_Let) (.ref c_Power) = some false)
    (sb_Power_Part : PySem.W.subIn K (.ref c_Part) (.ref c_Power) = some false)
    (sb_Power_Pact : PySem.W.subIn K (.ref c_Pact) (.ref c_Power) = some false)
    (sb_Power_Reading : PySem.W.subIn K (.ref c_Reading) (.ref c_Power) = some false)
    (ix_Ban : PySem.W.isClsIn K c_Ban = true)
    (iy_Ban : PySem.W.typeIn K (.ref c_Ban) = some (.type "type"))
    (sb_Ban_Ban : PySem.W.subIn K (.ref c_Ban) (.ref c_Ban) = some true)
    (kb_Ban_NoneType : PySem.W.subIn K (.type "NoneType") (.ref c_Ban) = some false)
    (kb_Ban_bool : PySem.W.subIn K (.type "bool") (.ref c_Ban) = some false)
    (kb_Ban_int : PySem.W.subIn K (.type "int") (.ref c_Ban) = some false)
    (kb_Ban_str : PySem.W.subIn K (.type "str") (.ref c_Ban) = some false)
    (kb_Ban_list : PySem.W.subIn K (.type "list") (.ref c_Ban) = some false)
    (kb_Ban_tuple : PySem.W.subIn K (.type "tuple") (.ref c_Ban) = some false)
    (kb_Ban_dict : PySem.W.subIn K (.type "dict") (.ref c_Ban) = some false)
    (sb_Ban_PactError : PySem.W.subIn K (.ref c_PactError) (.ref c_Ban) = some false)
    (sb_Ban_NoText : PySem.W.subIn K (.ref c_NoText) (.ref c_Ban) = some false)
    (sb_Ban_Row : PySem.W.subIn K (.ref c_Row) (.ref c_Ban) = some false)
    (sb_Ban_Clause : PySem.W.subIn K (.ref c_Clause) (.ref c_Ban) = some false)
    (sb_Ban_Duty : PySem.W.subIn K (.ref c_Duty) (.ref c_Ban) = some false)
    (sb_Ban_Leave : PySem.W.subIn K (.ref c_Leave) (.ref c_Ban) = some false)
    (sb_Ban_Power : PySem.W.subIn K (.ref c_Power) (.ref c_Ban) = some false)
    (sb_Ban_Let : PySem.W.subIn K (.ref c_Let) (.ref c_Ban) = some false)
    (sb_Ban_Part : PySem.W.subIn K (.ref c_Part) (.ref c_Ban) = some false)
    (sb_Ban_Pact : PySem.W.subIn K (.ref c_Pact) (.ref c_Ban) = some false)
    (sb_Ban_Reading : PySem.W.subIn K (.ref c_Reading) (.ref c_Ban) = some false)
    (ix_Duty : PySem.W.isClsIn K c_Duty = true)
    (iy_Duty : PySem.W.typeIn K (.ref c_Duty) = some (.type "type"))
    (sb_Duty_Duty : PySem.W.subIn K (.ref c_Duty) (.ref c_Duty) = some true)
    (kb_Duty_NoneType : PySem.W.subIn K (.type "NoneType") (.ref c_Duty) = some false)
    (kb_Duty_bool : PySem.W.subIn K (.type "bool") (.ref c_Duty) = some false)
    (kb_Duty_int : PySem.W.subIn K (.type "int") (.ref c_Duty) = some false)
    (kb_Duty_str : PySem.W.subIn K (.type "str") (.ref c_Duty) = some false)
    (kb_Duty_list : PySem.W.subIn K (.type "list") (.ref c_Duty) = some false)
    (kb_Duty_tuple : PySem.W.subIn K (.type "tuple") (.ref c_Duty) = some false)
    (kb_Duty_dict : PySem.W.subIn K (.type "dict") (.ref c_Duty) = some false)
    (sb_Duty_PactError : PySem.W.subIn K (.ref c_PactError) (.ref c_Duty) = some false)
    (sb_Duty_NoText : PySem.W.subIn K (.ref c_NoText) (.ref c_Duty) = some false)
    (sb_Duty_Row : PySem.W.subIn K (.ref c_Row) (.ref c_Duty) = some false)
    (sb_Duty_Clause : PySem.W.subIn K (.ref c_Clause) (.ref c_Duty) = some false)
    (sb_Duty_Leave : PySem.W.subIn K (.ref c_Leave) (.ref c_Duty) = some false)
    (sb_Duty_Ban : PySem.W.subIn K (.ref c_Ban) (.ref c_Duty) = some false)
    (sb_Duty_Power : PySem.W.subIn K (.ref c_Power) (.ref c_Duty) = some false)
    (sb_Duty_Let : PySem.W.subIn K (.ref c_Let) (.ref c_Duty) = some false)
    (sb_Duty_Part : PySem.W.subIn K (.ref c_Part) (.ref c_Duty) = some false)
    (sb_Duty_Pact : PySem.W.subIn K (.ref c_Pact) (.ref c_Duty) = some false)
    (sb_Duty_Reading : PySem.W.subIn K (.ref c_Reading) (.ref c_Duty) = some false)
    (ix_Part : PySem.W.isClsIn K c_Part = true)
    (iy_Part : PySem.W.typeIn K (.ref c_Part) = some (.type "type"))
    (sb_Part_Part : PySem.W.subIn K (.ref c_Part) (.ref c_Part) = some true)
    (kb_Part_NoneType : PySem.W.subIn K (.type "NoneType") (.ref c_Part) = some false)
    (kb_Part_bool : PySem.W.subIn K (.type "bool") (.ref c_Part) = some false)
    (kb_Part_int : PySem.W.subIn K (.type "int") (.ref c_Part) = some false)
    (kb_Part_str : PySem.W.subIn K (.type "str") (.ref c_Part) = some false)
    (kb_Part_list : PySem.W.subIn K (.type "list") (.ref c_Part) = some false)
    (kb_Part_tuple : PySem.W.subIn K (.type "tuple") (.ref c_Part) = some false)
    (kb_Part_dict : PySem.W.subIn K (.type "dict") (.ref c_Part) = some false)
    (sb_Part_PactError : PySem.W.subIn K (.ref c_PactError) (.ref c_Part) = some false)
    (sb_Part_NoText : PySem.W.subIn K (.ref c_NoText) (.ref c_Part) = some false)
    (sb_Part_Row : PySem.W.subIn K (.ref c_Row) (.ref c_Part) = some false)
    (sb_Part_Clause : PySem.W.subIn K (.ref c_Clause) (.ref c_Part) = some false)
    (sb_Part_Duty : PySem.W.subIn K (.ref c_Duty) (.ref c_Part) = some false)
    (sb_Part_Leave : PySem.W.subIn K (.ref c_Leave) (.ref c_Part) = some false)
    (sb_Part_Ban : PySem.W.subIn K (.ref c_Ban) (.ref c_Part) = some false)
    (sb_Part_Power : PySem.W.subIn K (.ref c_Power) (.ref c_Part) = some false)
    (sb_Part_Let : PySem.W.subIn K (.ref c_Let) (.ref c_Part) = some false)
    (sb_Part_Pact : PySem.W.subIn K (.ref c_Pact) (.ref c_Part) = some false)
    (sb_Part_Reading : PySem.W.subIn K (.ref c_Reading) (.ref c_Part) = some false)
    (ix_Let : PySem.W.isClsIn K c_Let = true)
    (iy_Let : PySem.W.typeIn K (.ref c_Let) = some (.type "type"))
    (sb_Let_Let : PySem.W.subIn K (.ref c_Let) (.ref c_Let) = some true)
    (kb_Let_NoneType : PySem.W.subIn K (.type "NoneType") (.ref c_Let) = some false)
    (kb_Let_bool : PySem.W.subIn K (.type "bool") (.ref c_Let) = some false)
    (kb_Let_int : PySem.W.subIn K (.type "int") (.ref c_Let) = some false)
    (kb_Let_str : PySem.W.subIn K (.type "str") (.ref c_Let) = some false)
    (kb_Let_list : PySem.W.subIn K (.type "list") (.ref c_Let) = some false)
    (kb_Let_tuple : PySem.W.subIn K (.type "tuple") (.ref c_Let) = some false)
    (kb_Let_dict : PySem.W.subIn K (.type "dict") (.ref c_Let) = some false)
    (sb_Let_PactError : PySem.W.subIn K (.ref c_PactError) (.ref c_Let) = some false)
    (sb_Let_NoText : PySem.W.subIn K (.ref c_NoText) (.ref c_Let) = some false)
    (sb_Let_Row : PySem.W.subIn K (.ref c_Row) (.ref c_Let) = some false)
    (sb_Let_Clause : PySem.W.subIn K (.ref c_Clause) (.ref c_Let) = some false)
    (sb_Let_Duty : PySem.W.subIn K (.ref c_Duty) (.ref c_Let) = some false)
    (sb_Let_Leave : PySem.W.subIn K (.ref c_Leave) (.ref c_Let) = some false)
    (sb_Let_Ban : PySem.W.subIn K (.ref c_Ban) (.ref c_Let) = some false)
    (sb_Let_Power : PySem.W.subIn K (.ref c_Power) (.ref c_Let) = some false)
    (sb_Let_Part : PySem.W.subIn K (.ref c_Part) (.ref c_Let) = some false)
    (sb_Let_Pact : PySem.W.subIn K (.ref c_Pact) (.ref c_Let) = some false)
    (sb_Let_Reading : PySem.W.subIn K (.ref c_Reading) (.ref c_Let) = some false)
    (ix_Pact : PySem.W.isClsIn K c_Pact = true)
    (iy_Pact : PySem.W.typeIn K (.ref c_Pact) = some (.type "type"))
    (sb_Pact_Pact : PySem.W.subIn K (.ref c_Pact) (.ref c_Pact) = some true)
    (kb_Pact_NoneType : PySem.W.subIn K (.type "NoneType") (.ref c_Pact) = some false)
    (kb_Pact_bool : PySem.W.subIn K (.type "bool") (.ref c_Pact) = some false)
    (kb_Pact_int : PySem.W.subIn K (.type "int") (.ref c_Pact) = some false)
    (kb_Pact_str : PySem.W.subIn K (.type "str") (.ref c_Pact) = some false)
    (kb_Pact_list : PySem.W.subIn K (.type "list") (.ref c_Pact) = some false)
    (kb_Pact_tuple : PySem.W.subIn K (.type "tuple") (.ref c_Pact) = some false)
    (kb_Pact_dict : PySem.W.subIn K (.type "dict") (.ref c_Pact) = some false)
    (sb_Pact_PactError : PySem.W.subIn K (.ref c_PactError) (.ref c_Pact) = some false)
    (sb_Pact_NoText : PySem.W.subIn K (.ref c_NoText) (.ref c_Pact) = some false)
    (sb_Pact_Row : PySem.W.subIn K (.ref c_Row) (.ref c_Pact) = some false)
    (sb_Pact_Clause : PySem.W.subIn K (.ref c_Clause) (.ref c_Pact) = some false)
    (sb_Pact_Duty : PySem.W.subIn K (.ref c_Duty) (.ref c_Pact) = some false)
    (sb_Pact_Leave : PySem.W.subIn K (.ref c_Leave) (.ref c_Pact) = some false)
    (sb_Pact_Ban : PySem.W.subIn K (.ref c_Ban) (.ref c_Pact) = some false)
    (sb_Pact_Power : PySem.W.subIn K (.ref c_Power) (.ref c_Pact) = some false)
    (sb_Pact_Let : PySem.W.subIn K (.ref c_Let) (.ref c_Pact) = some false)
    (sb_Pact_Part : PySem.W.subIn K (.ref c_Part) (.ref c_Pact) = some false)
    (sb_Pact_Reading : PySem.W.subIn K (.ref c_Reading) (.ref c_Pact) = some false)
    : ∃ fd : FuncData, (∀ (s : Shared) (v : Value), BindsTo s fd ⟨[v], []⟩ [("_law_script", v)]) ∧ ∀ base : Heap, K.In base → base.Ns mainGlobals mg → FnOk l.prog w K mg base (L2.CX l.prog w) 12 fa fd ["_law_script"] (spLawK K) := by
  have e := hfa.symm.trans (PySem.W.mg_of X G f_law)
  cases e
  have D_NoText__init := fun_mk (st := s_NoText__init) l_NoText__init k_NoText__init p_NoText__init
  have B_NoText__init := D_NoText__init.binds (ps := ["self", "row"]) fun _ _ _ _ _ _ us hl => match us, hl with | [_, _], _ => rfl
  have D_Clause__init := fun_mk (st := s_Clause__init) l_Clause__init k_Clause__init p_Clause__init
  have B_Clause__init := D_Clause__init.binds (ps := ["self", "label", "who", "act"]) fun _ _ _ _ _ _ us hl => match us, hl with | [_, _, _, _], _ => rfl
  have D_Duty__init := fun_mk (st := s_Duty__init) l_Duty__init k_Duty__init p_Duty__init
  have B_Duty__init := D_Duty__init.binds (ps := ["self", "label", "who", "act", "turns", "room"]) fun _ _ _ _ _ _ us hl => match us, hl with | [_, _, _, _, _, _], _ => rfl
  have D_Ban__init := fun_mk (st := s_Ban__init) l_Ban__init k_Ban__init p_Ban__init
  have B_Ban__init := D_Ban__init.binds (ps := ["self", "label", "who", "act", "room"]) fun _ _ _ _ _ _ us hl => match us, hl with | [_, _, _, _, _], _ => rfl
  have D_Power__init := fun_mk (st := s_Power__init) l_Power__init k_Power__init p_Power__init
  have B_Power__init := D_Power__init.binds (ps := ["self", "label", "who", "act", "room"]) fun _ _ _ _ _ _ us hl => match us, hl with | [_, _, _, _, _], _ => rfl
  have D_Let__init := fun_mk (st := s_Let__init) l_Let__init k_Let__init p_Let__init
  have B_Let__init := D_Let__init.binds (ps := ["self", "name", "value"]) fun _ _ _ _ _ _ us hl => match us, hl with | [_, _, _], _ => rfl
  have D_Part__init := fun_mk (st := s_Part__init) l_Part__init k_Part__init p_Part__init
  have B_Part__init := D_Part__init.binds (ps := ["self", "name", "rooms", "rows"]) fun _ _ _ _ _ _ us hl => match us, hl with | [_, _, _, _], _ => rfl
  have D_Pact__init := fun_mk (st := s_Pact__init) l_Pact__init k_Pact__init p_Pact__init
  have B_Pact__init := D_Pact__init.binds (ps := ["self", "parties", "acts", "rooms", "whole"]) fun _ _ _ _ _ _ us hl => match us, hl with | [_, _, _, _, _], _ => rfl
  have D_is_name := fun_mk (st := s_is_name) l_is_name k_is_name p_is_name
  have B_is_name := D_is_name.binds (ps := ["word"]) fun _ _ _ _ _ _ us hl => match us, hl with | [_], _ => rfl
  have D_number_of := fun_mk (st := s_number_of) l_number_of k_number_of p_number_of
  have B_number_of := D_number_of.binds (ps := ["word"]) fun _ _ _ _ _ _ us hl => match us, hl with | [_], _ => rfl
  have D_duty_of := fun_mk (st := s_duty_of) l_duty_of k_duty_of p_duty_of
  have B_duty_of := D_duty_of.binds (ps := ["words"]) fun _ _ _ _ _ _ us hl => match us, hl with | [_], _ => rfl
  have D_ban_of := fun_mk (st := s_ban_of) l_ban_of k_ban_of p_ban_of
  have B_ban_of := D_ban_of.binds (ps := ["words"]) fun _ _ _ _ _ _ us hl => match us, hl with | [_], _ => rfl
  have D_power_of := fun_mk (st := s_power_of) l_power_of k_power_of p_power_of
  have B_power_of := D_power_of.binds (ps := ["words"]) fun _ _ _ _ _ _ us hl => match us, hl with | [_], _ => rfl
  have D_clause_of := fun_mk (st := s_clause_of) l_clause_of k_clause_of p_clause_of
  have B_clause_of := D_clause_of.binds (ps := ["row"]) fun _ _ _ _ _ _ us hl => match us, hl with | [_], _ => rfl
  have D_let_of := fun_mk (st := s_let_of) l_let_of k_let_of p_let_of
  have B_let_of := D_let_of.binds (ps := ["row"]) fun _ _ _ _ _ _ us hl => match us, hl with | [_], _ => rfl
  have D_names_of := fun_mk (st := s_names_of) l_names_of k_names_of p_names_of
  have B_names_of := D_names_of.binds (ps := ["row", "word", "most"]) fun _ _ _ _ _ _ us hl => match us, hl with | [_, _, _], _ => rfl
  have D_part_of := fun_mk (st := s_part_of) l_part_of k_part_of p_part_of
  have B_part_of := D_part_of.binds (ps := ["row"]) fun _ _ _ _ _ _ us hl => match us, hl with | [_], _ => rfl
  have D_room_of := fun_mk (st := s_room_of) l_room_of k_room_of p_room_of
  have B_room_of := D_room_of.binds (ps := ["row"]) fun _ _ _ _ _ _ us hl => match us, hl with | [_], _ => rfl
  have D_Reading__init := fun_mk (st := s_Reading__init) l_Reading__init k_Reading__init p_Reading__init
  have B_Reading__init := D_Reading__init.binds (ps := ["self"]) fun _ _ _ _ _ _ us hl => match us, hl with | [_], _ => rfl
  have D_Reading_is_new := fun_mk (st := s_Reading_is_new) l_Reading_is_new k_Reading_is_new p_Reading_is_new
  have B_Reading_is_new := D_Reading_is_new.binds (ps := ["self", "names", "name"]) fun _ _ _ _ _ _ us hl => match us, hl with | [_, _, _], _ => rfl
  have D_Reading_take_names := fun_mk (st := s_Reading_take_names) l_Reading_take_names k_Reading_take_names p_Reading_take_names
  have B_Reading_take_names := D_Reading_take_names.binds (ps := ["self", "found", "into"]) fun _ _ _ _ _ _ us hl => match us, hl with | [_, _, _], _ => rfl
  have D_Reading_take_room := fun_mk (st := s_Reading_take_room) l_Reading_take_room k_Reading_take_room p_Reading_take_room
  have B_Reading_take_room := D_Reading_take_room.binds (ps := ["self", "room"]) fun _ _ _ _ _ _ us hl => match us, hl with | [_, _], _ => rfl
  have D_Reading_take_part := fun_mk (st := s_Reading_take_part) l_Reading_take_part k_Reading_take_part p_Reading_take_part
  have B_Reading_take_part := D_Reading_take_part.binds (ps := ["self", "part"]) fun _ _ _ _ _ _ us hl => match us, hl with | [_, _], _ => rfl
  have D_Reading_take_done := fun_mk (st := s_Reading_take_done) l_Reading_take_done k_Reading_take_done p_Reading_take_done
  have B_Reading_take_done := D_Reading_take_done.binds (ps := ["self"]) fun _ _ _ _ _ _ us hl => match us, hl with | [_], _ => rfl
  have D_Reading_take_row := fun_mk (st := s_Reading_take_row) l_Reading_take_row k_Reading_take_row p_Reading_take_row
  have B_Reading_take_row := D_Reading_take_row.binds (ps := ["self", "row"]) fun _ _ _ _ _ _ us hl => match us, hl with | [_, _], _ => rfl
  have D_Reading_take := fun_mk (st := s_Reading_take) l_Reading_take k_Reading_take p_Reading_take
  have B_Reading_take := D_Reading_take.binds (ps := ["self", "number", "row"]) fun _ _ _ _ _ _ us hl => match us, hl with | [_, _, _], _ => rfl
  have D_read := fun_mk (st := s_read) l_read k_read p_read
  have B_read := D_read.binds (ps := ["text"]) fun _ _ _ _ _ _ us hl => match us, hl with | [_], _ => rfl
  have D_law_cell_at := fun_mk (st := s_law_cell_at) l_law_cell_at k_law_cell_at p_law_cell_at
  have B_law_cell_at := D_law_cell_at.binds (ps := ["_law_script", "_law_k"]) fun _ _ _ _ _ _ us hl => match us, hl with | [_, _], _ => rfl
  have D_law_mix := fun_mk (st := s_law_mix) l_law_mix k_law_mix p_law_mix
  have B_law_mix := D_law_mix.binds (ps := ["_law_cell", "_law_k"]) fun _ _ _ _ _ _ us hl => match us, hl with | [_, _], _ => rfl
  have D_law_name := fun_mk (st := s_law_name) l_law_name k_law_name p_law_name
  have B_law_name := D_law_name.binds (ps := ["_law_cell", "_law_k"]) fun _ _ _ _ _ _ us hl => match us, hl with | [_, _], _ => rfl
  have D_law_event := fun_mk (st := s_law_event) l_law_event k_law_event p_law_event
  have B_law_event := D_law_event.binds (ps := ["_law_names", "_law_cell", "_law_label", "_law_depth"]) fun _ _ _ _ _ _ us hl => match us, hl with | [_, _, _, _], _ => rfl
  have D_law_events := fun_mk (st := s_law_events) l_law_events k_law_events p_law_events
  have B_law_events := D_law_events.binds (ps := ["_law_names", "_law_script"]) fun _ _ _ _ _ _ us hl => match us, hl with | [_, _], _ => rfl
  have D_law_header := fun_mk (st := s_law_header) l_law_header k_law_header p_law_header
  have B_law_header := D_law_header.binds (ps := ["_law_names", "_law_cell"]) fun _ _ _ _ _ _ us hl => match us, hl with | [_, _], _ => rfl
  have D_law_row := fun_mk (st := s_law_row) l_law_row k_law_row p_law_row
  have B_law_row := D_law_row.binds (ps := ["_law_event_here"]) fun _ _ _ _ _ _ us hl => match us, hl with | [_], _ => rfl
  have D_law_rows := fun_mk (st := s_law_rows) l_law_rows k_law_rows p_law_rows
  have B_law_rows := D_law_rows.binds (ps := ["_law_header_here", "_law_events_here"]) fun _ _ _ _ _ _ us hl => match us, hl with | [_, _], _ => rfl
  have D_law_clause := fun_mk (st := s_law_clause) l_law_clause k_law_clause p_law_clause
  have B_law_clause := D_law_clause.binds (ps := ["_law_row_here"]) fun _ _ _ _ _ _ us hl => match us, hl with | [_], _ => rfl
  have D_law_found := fun_mk (st := s_law_found) l_law_found k_law_found p_law_found
  have B_law_found := D_law_found.binds (ps := ["_law_rows_here"]) fun _ _ _ _ _ _ us hl => match us, hl with | [_], _ => rfl
  have D_law_right := fun_mk (st := s_law_right) l_law_right k_law_right p_law_right
  have B_law_right := D_law_right.binds (ps := ["_law_pact", "_law_header_here", "_law_events_here"]) fun _ _ _ _ _ _ us hl => match us, hl with | [_, _, _], _ => rfl
  have D_law := fun_mk (st := s_law) l_law k_law p_law
  have B_law := D_law.binds (ps := ["_law_script"]) fun _ _ _ _ _ _ us hl => match us, hl with | [_], _ => rfl
  have T : Txt (⟨K, [c_Row, c_Clause, c_Duty, c_Leave, c_Ban, c_Power, c_Let, c_Part, c_Pact, c_PactError, c_NoText, 0, 0, 0, 0, 0, 0, 0, 0, 0, c_Reading, 0, 0, 0, 0, 0, 0, 0, 0, 0, 0, 0], [("label" : Str), ("who" : Str), ("act" : Str), ("turns" : Str), ("room" : Str), ("name" : Str), ("value" : Str), ("rooms" : Str), ("rows" : Str), ("parties" : Str), ("acts" : Str), ("whole" : Str), ("row" : Str), ("word" : Str), ("what" : Str), ("turn" : Str), ("stack" : Str), ("header" : Str), ("labels" : Str), ("pact" : Str), ("names" : Str), ("kinds" : Str), ("start" : Str), ("marks" : Str), ("duties" : Str), ("table" : Str), ("one" : Str), ("other" : Str), ("clause" : Str), ("kept" : Str), ("present_stand" : Str), ("course_now" : Str), ("house" : Str), ("entries" : Str), ("order" : Str), ("idle" : Str), ("stand" : Str)], by decide +kernel⟩ : Kx) mg c_PactError c_NoText c_Row c_Clause c_Duty c_Leave c_Ban c_Power c_Let c_Part c_Pact c_Reading a_NoText__init a_Clause__init a_Duty__init a_Ban__init a_Power__init a_Let__init a_Part__init a_Pact__init a_is_name a_number_of a_duty_of a_ban_of a_power_of a_clause_of a_let_of a_names_of a_part_of a_room_of a_Reading__init a_Reading_is_new a_Reading_take_names a_Reading_take_room a_Reading_take_part a_Reading_take_done a_Reading_take_row a_Reading_take a_read a_law_cell_at a_law_mix a_law_name a_law_event a_law_events a_law_header a_law_row a_law_rows a_law_clause a_law_found a_law_right fa := {
    d_NoText__init := ⟨_, D_NoText__init, B_NoText__init⟩
    d_Clause__init := ⟨_, D_Clause__init, B_Clause__init⟩
    d_Duty__init := ⟨_, D_Duty__init, B_Duty__init⟩
    d_Ban__init := ⟨_, D_Ban__init, B_Ban__init⟩
    d_Power__init := ⟨_, D_Power__init, B_Power__init⟩
    d_Let__init := ⟨_, D_Let__init, B_Let__init⟩
    d_Part__init := ⟨_, D_Part__init, B_Part__init⟩
    d_Pact__init := ⟨_, D_Pact__init, B_Pact__init⟩
    d_is_name := ⟨_, D_is_name, B_is_name⟩
    m_is_name := PySem.W.mg_of X G f_is_name
    d_number_of := ⟨_, D_number_of, B_number_of⟩
    m_number_of := PySem.W.mg_of X G f_number_of
    d_duty_of := ⟨_, D_duty_of, B_duty_of⟩
    m_duty_of := PySem.W.mg_of X G f_duty_of
    d_ban_of := ⟨_, D_ban_of, B_ban_of⟩
    m_ban_of := PySem.W.mg_of X G f_ban_of
    d_power_of := ⟨_, D_power_of, B_power_of⟩
    m_power_of := PySem.W.mg_of X G f_power_of
    d_clause_of := ⟨_, D_clause_of, B_clause_of⟩
    m_clause_of := PySem.W.mg_of X G f_clause_of
    d_let_of := ⟨_, D_let_of, B_let_of⟩
    m_let_of := PySem.W.mg_of X G f_let_of
    d_names_of := ⟨_, D_names_of, B_names_of⟩
    m_names_of := PySem.W.mg_of X G f_names_of
    d_part_of := ⟨_, D_part_of, B_part_of⟩
    m_part_of := PySem.W.mg_of X G f_part_of
    d_room_of := ⟨_, D_room_of, B_room_of⟩
    m_room_of := PySem.W.mg_of X G f_room_of
    d_Reading__init := ⟨_, D_Reading__init, B_Reading__init⟩
    d_Reading_is_new := ⟨_, D_Reading_is_new, B_Reading_is_new⟩
    d_Reading_take_names := ⟨_, D_Reading_take_names, B_Reading_take_names⟩
    d_Reading_take_room := ⟨_, D_Reading_take_room, B_Reading_take_room⟩
    d_Reading_take_part := ⟨_, D_Reading_take_part, B_Reading_take_part⟩
    d_Reading_take_done := ⟨_, D_Reading_take_done, B_Reading_take_done⟩
    d_Reading_take_row := ⟨_, D_Reading_take_row, B_Reading_take_row⟩
    d_Reading_take := ⟨_, D_Reading_take, B_Reading_take⟩
    d_read := ⟨_, D_read, B_read⟩
    m_read := PySem.W.mg_of X G f_read
    d_law_cell_at := ⟨_, D_law_cell_at, B_law_cell_at⟩
    m_law_cell_at := PySem.W.mg_of X G f_law_cell_at
    d_law_mix := ⟨_, D_law_mix, B_law_mix⟩
    m_law_mix := PySem.W.mg_of X G f_law_mix
    d_law_name := ⟨_, D_law_name, B_law_name⟩
    m_law_name := PySem.W.mg_of X G f_law_name
    d_law_event := ⟨_, D_law_event, B_law_event⟩
    m_law_event := PySem.W.mg_of X G f_law_event
    d_law_events := ⟨_, D_law_events, B_law_events⟩
    m_law_events := PySem.W.mg_of X G f_law_events
    d_law_header := ⟨_, D_law_header, B_law_header⟩
    m_law_header := PySem.W.mg_of X G f_law_header
    d_law_row := ⟨_, D_law_row, B_law_row⟩
    m_law_row := PySem.W.mg_of X G f_law_row
    d_law_rows := ⟨_, D_law_rows, B_law_rows⟩
    m_law_rows := PySem.W.mg_of X G f_law_rows
    d_law_clause := ⟨_, D_law_clause, B_law_clause⟩
    m_law_clause := PySem.W.mg_of X G f_law_clause
    d_law_found := ⟨_, D_law_found, B_law_found⟩
    m_law_found := PySem.W.mg_of X G f_law_found
    d_law_right := ⟨_, D_law_right, B_law_right⟩
    m_law_right := PySem.W.mg_of X G f_law_right
    d_law := ⟨_, D_law, B_law⟩
    m_law := PySem.W.mg_of X G f_law
    g_FIGURES := GlobD.str (PySem.W.mg_of X G g_FIGURES)
    g_KEPT := GlobD.tup (PySem.W.mg_of X G g_KEPT) gl_KEPT gv_KEPT (by decide)
    g_LETTERS := GlobD.str (PySem.W.mg_of X G g_LETTERS)
    g_MARKS := GlobD.tup (PySem.W.mg_of X G g_MARKS) gl_MARKS gv_MARKS (by decide)
    g_MOST_ACTS := GlobD.int (PySem.W.mg_of X G g_MOST_ACTS)
    g_MOST_DEPTH := GlobD.int (PySem.W.mg_of X G g_MOST_DEPTH)
    g_MOST_FIGURES := GlobD.int (PySem.W.mg_of X G g_MOST_FIGURES)
    g_MOST_LETTERS := GlobD.int (PySem.W.mg_of X G g_MOST_LETTERS)
    g_MOST_PARTIES := GlobD.int (PySem.W.mg_of X G g_MOST_PARTIES)
    g_MOST_ROOMS := GlobD.int (PySem.W.mg_of X G g_MOST_ROOMS)
    g_MOST_ROWS := GlobD.int (PySem.W.mg_of X G g_MOST_ROWS)
    b_bool := PySem.W.mg_none_of X G b_bool
    b_enumerate := PySem.W.mg_none_of X G b_enumerate
    b_int := PySem.W.mg_none_of X G b_int
    b_isinstance := PySem.W.mg_none_of X G b_isinstance
    b_len := PySem.W.mg_none_of X G b_len
    b_list := PySem.W.mg_none_of X G b_list
    b_range := PySem.W.mg_none_of X G b_range
    b_str := PySem.W.mg_none_of X G b_str
    b_tuple := PySem.W.mg_none_of X G b_tuple
    fn12 := rfl
    ct_NoText := rfl
    na_row_10 := ⟨⟨rfl, no_NoText_row⟩, trivial⟩
    fn2 := rfl
    ct_Clause := rfl
    ct_Duty := rfl
    ct_Leave := rfl
    ct_Ban := rfl
    ct_Power := rfl
    na_act_1_2_3_4_5 := ⟨⟨rfl, no_Clause_act⟩, ⟨rfl, no_Duty_act⟩, ⟨rfl, no_Leave_act⟩, ⟨rfl, no_Ban_act⟩, ⟨rfl, no_Power_act⟩, trivial⟩
    fn1 := rfl
    na_who_1_2_3_4_5 := ⟨⟨rfl, no_Clause_who⟩, ⟨rfl, no_Duty_who⟩, ⟨rfl, no_Leave_who⟩, ⟨rfl, no_Ban_who⟩, ⟨rfl, no_Power_who⟩, trivial⟩
    fn0 := rfl
    na_label_1_2_3_4_5 := ⟨⟨rfl, no_Clause_label⟩, ⟨rfl, no_Duty_label⟩, ⟨rfl, no_Leave_label⟩, ⟨rfl, no_Ban_label⟩, ⟨rfl, no_Power_label⟩, trivial⟩
    fn4 := rfl
    na_room_2 := ⟨⟨rfl, no_Duty_room⟩, trivial⟩
    fn3 := rfl
    na_turns_2 := ⟨⟨rfl, no_Duty_turns⟩, trivial⟩
    mc_Clause := PySem.W.mg_of X G cn_Clause
    cf_Clause_Clause__init := ⟨_, ⟨cr_Clause, cg_Clause⟩, cv_Clause_Clause__init⟩
    na_room_4 := ⟨⟨rfl, no_Ban_room⟩, trivial⟩
    na_room_5 := ⟨⟨rfl, no_Power_room⟩, trivial⟩
    mc_Leave := PySem.W.mg_of X G cn_Leave
    cf_Leave_Clause__init := ⟨_, ⟨cr_Leave, cg_Leave⟩, cv_Leave_Clause__init⟩
    fn6 := rfl
    ct_Let := rfl
    na_value_6 := ⟨⟨rfl, no_Let_value⟩, trivial⟩
    fn5 := rfl
    na_name_6 := ⟨⟨rfl, no_Let_name⟩, trivial⟩
    fn8 := rfl
    ct_Part := rfl
    na_rows_7 := ⟨⟨rfl, no_Part_rows⟩, trivial⟩
    fn7 := rfl
    na_rooms_7 := ⟨⟨rfl, no_Part_rooms⟩, trivial⟩
    na_name_7 := ⟨⟨rfl, no_Part_name⟩, trivial⟩
    fn11 := rfl
    ct_Pact := rfl
    na_whole_8 := ⟨⟨rfl, no_Pact_whole⟩, trivial⟩
    na_rooms_8 := ⟨⟨rfl, no_Pact_rooms⟩, trivial⟩
    fn10 := rfl
    na_acts_8 := ⟨⟨rfl, no_Pact_acts⟩, trivial⟩
    fn9 := rfl
    na_parties_8 := ⟨⟨rfl, no_Pact_parties⟩, trivial⟩
    mc_Duty := PySem.W.mg_of X G cn_Duty
    cl_Duty := ⟨cp_Duty, ch_Duty, co_Duty, cs_Duty⟩
    mk_Duty := ⟨ck_Duty, f_Duty__init, i_Duty__init, cx_Duty⟩
    mc_Ban := PySem.W.mg_of X G cn_Ban
    cl_Ban := ⟨cp_Ban, ch_Ban, co_Ban, cs_Ban⟩
    mk_Ban := ⟨ck_Ban, f_Ban__init, i_Ban__init, cx_Ban⟩
    mc_Power := PySem.W.mg_of X G cn_Power
    cl_Power := ⟨cp_Power, ch_Power, co_Power, cs_Power⟩
    mk_Power := ⟨ck_Power, f_Power__init, i_Power__init, cx_Power⟩
    cl_Leave := ⟨cp_Leave, ch_Leave, co_Leave, cs_Leave⟩
    mk_Leave := ⟨ck_Leave, me_Leave_Clause__init, i_Clause__init, cx_Leave⟩
    mc_Let := PySem.W.mg_of X G cn_Let
    cl_Let := ⟨cp_Let, ch_Let, co_Let, cs_Let⟩
    mk_Let := ⟨ck_Let, f_Let__init, i_Let__init, cx_Let⟩
    mc_Part := PySem.W.mg_of X G cn_Part
    cl_Part := ⟨cp_Part, ch_Part, co_Part, cs_Part⟩
    mk_Part := ⟨ck_Part, f_Part__init, i_Part__init, cx_Part⟩
    fn18 := rfl
    ct_Reading := rfl
    na_labels_20 := ⟨⟨rfl, no_Reading_labels⟩, trivial⟩
    fn17 := rfl
    na_header_20 := ⟨⟨rfl, no_Reading_header⟩, trivial⟩
    fn16 := rfl
    na_stack_20 := ⟨⟨rfl, no_Reading_stack⟩, trivial⟩
    na_rooms_20 := ⟨⟨rfl, no_Reading_rooms⟩, trivial⟩
    na_acts_20 := ⟨⟨rfl, no_Reading_acts⟩, trivial⟩
    na_parties_20 := ⟨⟨rfl, no_Reading_parties⟩, trivial⟩
    mt_Reading_Reading_is_new := ⟨f_Reading_is_new, i_Reading_is_new, p_Reading_is_new⟩
    mt_Reading_Reading_take_part := ⟨f_Reading_take_part, i_Reading_take_part, p_Reading_take_part⟩
    mt_Reading_Reading_take_done := ⟨f_Reading_take_done, i_Reading_take_done, p_Reading_take_done⟩
    mt_Reading_Reading_take_row := ⟨f_Reading_take_row, i_Reading_take_row, p_Reading_take_row⟩
    mt_Reading_Reading_take_room := ⟨f_Reading_take_room, i_Reading_take_room, p_Reading_take_room⟩
    mt_Reading_Reading_take_names := ⟨f_Reading_take_names, i_Reading_take_names, p_Reading_take_names⟩
    mc_Pact := PySem.W.mg_of X G cn_Pact
    cl_Pact := ⟨cp_Pact, ch_Pact, co_Pact, cs_Pact⟩
    mk_Pact := ⟨ck_Pact, f_Pact__init, i_Pact__init, cx_Pact⟩
    nx_NoText_row := no_NoText_row
    ox_NoText := ⟨⟨_, _, _, _, _, _, _, _, _, _, _, _, _, _, _, lx_NoText, rx_NoText⟩, sx_NoText, ex_NoText, tx_NoText, cx_NoText⟩
    ie_NoText := f_NoText__init
    tI_NoText__init := ti_NoText__init
    mc_NoText := PySem.W.mg_of X G cn_NoText
    mt_Reading_Reading_take := ⟨f_Reading_take, i_Reading_take, p_Reading_take⟩
    mc_Reading := PySem.W.mg_of X G cn_Reading
    cl_Reading := ⟨cp_Reading, ch_Reading, co_Reading, cs_Reading⟩
    mk_Reading := ⟨ck_Reading, f_Reading__init, i_Reading__init, cx_Reading⟩
    q_Leave := TyL.ok ⟨kit_own ix_Leave iy_Leave sb_Leave_Leave kb_Leave_NoneType, kit_own ix_Leave iy_Leave sb_Leave_Leave kb_Leave_bool, kit_own ix_Leave iy_Leave sb_Leave_Leave kb_Leave_int, kit_own ix_Leave iy_Leave sb_Leave_Leave kb_Leave_str, kit_own ix_Leave iy_Leave sb_Leave_Leave kb_Leave_list, kit_own ix_Leave iy_Leave sb_Leave_Leave kb_Leave_tuple, kit_own ix_Leave iy_Leave sb_Leave_Leave kb_Leave_dict, TyFact.ofCl rfl ⟨in_PactError, sg, st, io_PactError⟩ (kit_own ix_Leave iy_Leave sb_Leave_Leave sb_Leave_PactError), TyFact.ofCl rfl ⟨in_NoText, sg, st, io_NoText⟩ (kit_own ix_Leave iy_Leave sb_Leave_Leave sb_Leave_NoText), TyFact.ofCl rfl ⟨in_Row, sg, st, io_Row⟩ (kit_own ix_Leave iy_Leave sb_Leave_Leave sb_Leave_Row), TyFact.ofCl rfl ⟨in_Clause, sg, st, io_Clause⟩ (kit_own ix_Leave iy_Leave sb_Leave_Leave sb_Leave_Clause), TyFact.ofCl rfl ⟨in_Duty, sg, st, io_Duty⟩ (kit_own ix_Leave iy_Leave sb_Leave_Leave sb_Leave_Duty), TyFact.ofCl rfl ⟨in_Leave, sg, st, io_Leave⟩ (kit_own ix_Leave iy_Leave sb_Leave_Leave sb_Leave_Leave), TyFact.ofCl rfl ⟨in_Ban, sg, st, io_Ban⟩ (kit_own ix_Leave iy_Leave sb_Leave_Leave sb_Leave_Ban), TyFact.ofCl rfl ⟨in_Power, sg, st, io_Power⟩ (kit_own ix_Leave iy_Leave sb_Leave_Leave sb_Leave_Power), TyFact.ofCl rfl ⟨in_Let, sg, st, io_Let⟩ (kit_own ix_Leave iy_Leave sb_Leave_Leave sb_Leave_Let), TyFact.ofCl rfl ⟨in_Part, sg, st, io_Part⟩ (kit_own ix_Leave iy_Leave sb_Leave_Leave sb_Leave_Part), TyFact.ofCl rfl ⟨in_Pact, sg, st, io_Pact⟩ (kit_own ix_Leave iy_Leave sb_Leave_Leave sb_Leave_Pact), TyFact.ofCl rfl ⟨in_Reading, sg, st, io_Reading⟩ (kit_own ix_Leave iy_Leave sb_Leave_Leave sb_Leave_Reading), trivial⟩
    q_Power := TyL.ok ⟨kit_own ix_Power iy_Power sb_Power_Power kb_Power_NoneType, kit_own ix_Power iy_Power sb_Power_Power kb_Power_bool, kit_own ix_Power iy_Power sb_Power_Power kb_Power_int, kit_own ix_Power iy_Power sb_Power_Power kb_Power_str, kit_own ix_Power iy_Power sb_Power_Power kb_Power_list, kit_own ix_Power iy_Power sb_Power_Power kb_Power_tuple, kit_own ix_Power iy_Power sb_Power_Power kb_Power_dict, TyFact.ofCl rfl ⟨in_PactError, sg, st, io_PactError⟩ (kit_own ix_Power iy_Power sb_Power_Power sb_Power_PactError), TyFact.ofCl rfl ⟨in_NoText, sg, st, io_NoText⟩ (kit_own ix_Power iy_Power sb_Power_Power sb_Power_NoText), TyFact.ofCl rfl ⟨in_Row, sg, st, io_Row⟩ (kit_own ix_Power iy_Power sb_Power_Power sb_Power_Row), TyFact.ofCl rfl ⟨in_Clause, sg, st, io_Clause⟩ (kit_own ix_Power iy_Power sb_Power_Power sb_Power_Clause), TyFact.ofCl rfl ⟨in_Duty, sg, st, io_Duty⟩ (kit_own ix_Power iy_Power sb_Power_Power sb_Power_Duty), TyFact.ofCl rfl ⟨in_Leave, sg, st, io_Leave⟩ (kit_own ix_Power iy_Power sb_Power_Power sb_Power_Leave), TyFact.ofCl rfl ⟨in_Ban, sg, st, io_Ban⟩ (kit_own ix_Power iy_Power sb_Power_Power sb_Power_Ban), TyFact.ofCl rfl ⟨in_Power, sg, st, io_Power⟩ (kit_own ix_Power iy_Power sb_Power_Power sb_Power_Power), TyFact.ofCl rfl ⟨in_Let, sg, st, io_Let⟩ (kit_own ix_Power iy_Power sb_Power_Power sb_Power_Let), TyFact.ofCl rfl ⟨in_Part, sg, st, io_Part⟩ (kit_own ix_Power iy_Power sb_Power_Power sb_Power_Part), TyFact.ofCl rfl ⟨in_Pact, sg, st, io_Pact⟩ (kit_own ix_Power iy_Power sb_Power_Power sb_Power_Pact), TyFact.ofCl rfl ⟨in_Reading, sg, st, io_Reading⟩ (kit_own ix_Power iy_Power sb_Power_Power sb_Power_Reading), trivial⟩
    q_Ban := TyL.ok ⟨kit_own ix_Ban iy_Ban sb_Ban_Ban kb_Ban_NoneType, kit_own ix_Ban iy_Ban sb_Ban_Ban kb_Ban_bool, kit_own ix_Ban iy_Ban sb_Ban_Ban kb_Ban_int, kit_own ix_Ban iy_Ban sb_Ban_Ban kb_Ban_str, kit_own ix_Ban iy_Ban sb_Ban_Ban kb_Ban_list, kit_own ix_Ban iy_Ban sb_Ban_Ban kb_Ban_tuple, kit_own ix_Ban iy_Ban sb_Ban_Ban kb_Ban_dict, TyFact.ofCl rfl ⟨in_PactError, sg, st, io_PactError⟩ (kit_own ix_Ban iy_Ban sb_Ban_Ban sb_Ban_PactError), TyFact.ofCl rfl ⟨in_NoText, sg, st, io_NoText⟩ (kit_own ix_Ban iy_Ban sb_Ban_Ban sb_Ban_NoText), TyFact.ofCl rfl ⟨in_Row, sg, st, io_Row⟩ (kit_own ix_Ban iy_Ban sb_Ban_Ban sb_Ban_Row), TyFact.ofCl rfl ⟨in_Clause, sg, st, io_Clause⟩ (kit_own ix_Ban iy_Ban sb_Ban_Ban sb_Ban_Clause), TyFact.ofCl rfl ⟨in_Duty, sg, st, io_Duty⟩ (kit_own ix_Ban iy_Ban sb_Ban_Ban sb_Ban_Duty), TyFact.ofCl rfl ⟨in_Leave, sg, st, io_Leave⟩ (kit_own ix_Ban iy_Ban sb_Ban_Ban sb_Ban_Leave), TyFact.ofCl rfl ⟨in_Ban, sg, st, io_Ban⟩ (kit_own ix_Ban iy_Ban sb_Ban_Ban sb_Ban_Ban), TyFact.ofCl rfl ⟨in_Power, sg, st, io_Power⟩ (kit_own ix_Ban iy_Ban sb_Ban_Ban sb_Ban_Power), TyFact.ofCl rfl ⟨in_Let, sg, st, io_Let⟩ (kit_own ix_Ban iy_Ban sb_Ban_Ban sb_Ban_Let), TyFact.ofCl rfl ⟨in_Part, sg, st, io_Part⟩ (kit_own ix_Ban iy_Ban sb_Ban_Ban sb_Ban_Part), TyFact.ofCl rfl ⟨in_Pact, sg, st, io_Pact⟩ (kit_own ix_Ban iy_Ban sb_Ban_Ban sb_Ban_Pact), TyFact.ofCl rfl ⟨in_Reading, sg, st, io_Reading⟩ (kit_own ix_Ban iy_Ban sb_Ban_Ban sb_Ban_Reading), trivial⟩
    q_Duty := TyL.ok ⟨kit_own ix_Duty iy_Duty sb_Duty_Duty kb_Duty_NoneType, kit_own ix_Duty iy_Duty sb_Duty_Duty kb_Duty_bool, kit_own ix_Duty iy_Duty sb_Duty_Duty kb_Duty_int, kit_own ix_Duty iy_Duty sb_Duty_Duty kb_Duty_str, kit_own ix_Duty iy_Duty sb_Duty_Duty kb_Duty_list, kit_own ix_Duty iy_Duty sb_Duty_Duty kb_Duty_tuple, kit_own ix_Duty iy_Duty sb_Duty_Duty kb_Duty_dict, TyFact.ofCl rfl ⟨in_PactError, sg, st, io_PactError⟩ (kit_own ix_Duty iy_Duty sb_Duty_Duty sb_Duty_PactError), TyFact.ofCl rfl ⟨in_NoText, sg, st, io_NoText⟩ (kit_own ix_Duty iy_Duty sb_Duty_Duty sb_Duty_NoText), TyFact.ofCl rfl ⟨in_Row, sg, st, io_Row⟩ (kit_own ix_Duty iy_Duty sb_Duty_Duty sb_Duty_Row), TyFact.ofCl rfl ⟨in_Clause, sg, st, io_Clause⟩ (kit_own ix_Duty iy_Duty sb_Duty_Duty sb_Duty_Clause), TyFact.ofCl rfl ⟨in_Duty, sg, st, io_Duty⟩ (kit_own ix_Duty iy_Duty sb_Duty_Duty sb_Duty_Duty), TyFact.ofCl rfl ⟨in_Leave, sg, st, io_Leave⟩ (kit_own ix_Duty iy_Duty sb_Duty_Duty sb_Duty_Leave), TyFact.ofCl rfl ⟨in_Ban, sg, st, io_Ban⟩ (kit_own ix_Duty iy_Duty sb_Duty_Duty sb_Duty_Ban), TyFact.ofCl rfl ⟨in_Power, sg, st, io_Power⟩ (kit_own ix_Duty iy_Duty sb_Duty_Duty sb_Duty_Power), TyFact.ofCl rfl ⟨in_Let, sg, st, io_Let⟩ (kit_own ix_Duty iy_Duty sb_Duty_Duty sb_Duty_Let), TyFact.ofCl rfl ⟨in_Part, sg, st, io_Part⟩ (kit_own ix_Duty iy_Duty sb_Duty_Duty sb_Duty_Part), TyFact.ofCl rfl ⟨in_Pact, sg, st, io_Pact⟩ (kit_own ix_Duty iy_Duty sb_Duty_Duty sb_Duty_Pact), TyFact.ofCl rfl ⟨in_Reading, sg, st, io_Reading⟩ (kit_own ix_Duty iy_Duty sb_Duty_Duty sb_Duty_Reading), trivial⟩
    q_Part := TyL.ok ⟨kit_own ix_Part iy_Part sb_Part_Part kb_Part_NoneType, kit_own ix_Part iy_Part sb_Part_Part kb_Part_bool, kit_own ix_Part iy_Part sb_Part_Part kb_Part_int, kit_own ix_Part iy_Part sb_Part_Part kb_Part_str, kit_own ix_Part iy_Part sb_Part_Part kb_Part_list, kit_own ix_Part iy_Part sb_Part_Part kb_Part_tuple, kit_own ix_Part iy_Part sb_Part_Part kb_Part_dict, TyFact.ofCl rfl ⟨in_PactError, sg, st, io_PactError⟩ (kit_own ix_Part iy_Part sb_Part_Part sb_Part_PactError), TyFact.ofCl rfl ⟨in_NoText, sg, st, io_NoText⟩ (kit_own ix_Part iy_Part sb_Part_Part sb_Part_NoText), TyFact.ofCl rfl ⟨in_Row, sg, st, io_Row⟩ (kit_own ix_Part iy_Part sb_Part_Part sb_Part_Row), TyFact.ofCl rfl ⟨in_Clause, sg, st, io_Clause⟩ (kit_own ix_Part iy_Part sb_Part_Part sb_Part_Clause), TyFact.ofCl rfl ⟨in_Duty, sg, st, io_Duty⟩ (kit_own ix_Part iy_Part sb_Part_Part sb_Part_Duty), TyFact.ofCl rfl ⟨in_Leave, sg, st, io_Leave⟩ (kit_own ix_Part iy_Part sb_Part_Part sb_Part_Leave), TyFact.ofCl rfl ⟨in_Ban, sg, st, io_Ban⟩ (kit_own ix_Part iy_Part sb_Part_Part sb_Part_Ban), TyFact.ofCl rfl ⟨in_Power, sg, st, io_Power⟩ (kit_own ix_Part iy_Part sb_Part_Part sb_Part_Power), TyFact.ofCl rfl ⟨in_Let, sg, st, io_Let⟩ (kit_own ix_Part iy_Part sb_Part_Part sb_Part_Let), TyFact.ofCl rfl ⟨in_Part, sg, st, io_Part⟩ (kit_own ix_Part iy_Part sb_Part_Part sb_Part_Part), TyFact.ofCl rfl ⟨in_Pact, sg, st, io_Pact⟩ (kit_own ix_Part iy_Part sb_Part_Part sb_Part_Pact), TyFact.ofCl rfl ⟨in_Reading, sg, st, io_Reading⟩ (kit_own ix_Part iy_Part sb_Part_Part sb_Part_Reading), trivial⟩
    q_Let := TyL.ok ⟨kit_own ix_Let iy_Let sb_Let_Let kb_Let_NoneType, kit_own ix_Let iy_Let sb_Let_Let kb_Let_bool, kit_own ix_Let iy_Let sb_Let_Let kb_Let_int, kit_own ix_Let iy_Let sb_Let_Let kb_Let_str, kit_own ix_Let iy_Let sb_Let_Let kb_Let_list, kit_own ix_Let iy_Let sb_Let_Let kb_Let_tuple, kit_own ix_Let iy_Let sb_Let_Let kb_Let_dict, TyFact.ofCl rfl ⟨in_PactError, sg, st, io_PactError⟩ (kit_own ix_Let iy_Let sb_Let_Let sb_Let_PactError), TyFact.ofCl rfl ⟨in_NoText, sg, st, io_NoText⟩ (kit_own ix_Let iy_Let sb_Let_Let sb_Let_NoText), TyFact.ofCl rfl ⟨in_Row, sg, st, io_Row⟩ (kit_own ix_Let iy_Let sb_Let_Let sb_Let_Row), TyFact.ofCl rfl ⟨in_Clause, sg, st, io_Clause⟩ (kit_own ix_Let iy_Let sb_Let_Let sb_Let_Clause), TyFact.ofCl rfl ⟨in_Duty, sg, st, io_Duty⟩ (kit_own ix_Let iy_Let sb_Let_Let sb_Let_Duty), TyFact.ofCl rfl ⟨in_Leave, sg, st, io_Leave⟩ (kit_own ix_Let iy_Let sb_Let_Let sb_Let_Leave), TyFact.ofCl rfl ⟨in_Ban, sg, st, io_Ban⟩ (kit_own ix_Let iy_Let sb_Let_Let sb_Let_Ban), TyFact.ofCl rfl ⟨in_Power, sg, st, io_Power⟩ (kit_own ix_Let iy_Let sb_Let_Let sb_Let_Power), TyFact.ofCl rfl ⟨in_Let, sg, st, io_Let⟩ (kit_own ix_Let iy_Let sb_Let_Let sb_Let_Let), TyFact.ofCl rfl ⟨in_Part, sg, st, io_Part⟩ (kit_own ix_Let iy_Let sb_Let_Let sb_Let_Part), TyFact.ofCl rfl ⟨in_Pact, sg, st, io_Pact⟩ (kit_own ix_Let iy_Let sb_Let_Let sb_Let_Pact), TyFact.ofCl rfl ⟨in_Reading, sg, st, io_Reading⟩ (kit_own ix_Let iy_Let sb_Let_Let sb_Let_Reading), trivial⟩
    q_Pact := TyL.ok ⟨kit_own ix_Pact iy_Pact sb_Pact_Pact kb_Pact_NoneType, kit_own ix_Pact iy_Pact sb_Pact_Pact kb_Pact_bool, kit_own ix_Pact iy_Pact sb_Pact_Pact kb_Pact_int, kit_own ix_Pact iy_Pact sb_Pact_Pact kb_Pact_str, kit_own ix_Pact iy_Pact sb_Pact_Pact kb_Pact_list, kit_own ix_Pact iy_Pact sb_Pact_Pact kb_Pact_tuple, kit_own ix_Pact iy_Pact sb_Pact_Pact kb_Pact_dict, TyFact.ofCl rfl ⟨in_PactError, sg, st, io_PactError⟩ (kit_own ix_Pact iy_Pact sb_Pact_Pact sb_Pact_PactError), TyFact.ofCl rfl ⟨in_NoText, sg, st, io_NoText⟩ (kit_own ix_Pact iy_Pact sb_Pact_Pact sb_Pact_NoText), TyFact.ofCl rfl ⟨in_Row, sg, st, io_Row⟩ (kit_own ix_Pact iy_Pact sb_Pact_Pact sb_Pact_Row), TyFact.ofCl rfl ⟨in_Clause, sg, st, io_Clause⟩ (kit_own ix_Pact iy_Pact sb_Pact_Pact sb_Pact_Clause), TyFact.ofCl rfl ⟨in_Duty, sg, st, io_Duty⟩ (kit_own ix_Pact iy_Pact sb_Pact_Pact sb_Pact_Duty), TyFact.ofCl rfl ⟨in_Leave, sg, st, io_Leave⟩ (kit_own ix_Pact iy_Pact sb_Pact_Pact sb_Pact_Leave), TyFact.ofCl rfl ⟨in_Ban, sg, st, io_Ban⟩ (kit_own ix_Pact iy_Pact sb_Pact_Pact sb_Pact_Ban), TyFact.ofCl rfl ⟨in_Power, sg, st, io_Power⟩ (kit_own ix_Pact iy_Pact sb_Pact_Pact sb_Pact_Power), TyFact.ofCl rfl ⟨in_Let, sg, st, io_Let⟩ (kit_own ix_Pact iy_Pact sb_Pact_Pact sb_Pact_Let), TyFact.ofCl rfl ⟨in_Part, sg, st, io_Part⟩ (kit_own ix_Pact iy_Pact sb_Pact_Pact sb_Pact_Part), TyFact.ofCl rfl ⟨in_Pact, sg, st, io_Pact⟩ (kit_own ix_Pact iy_Pact sb_Pact_Pact sb_Pact_Pact), TyFact.ofCl rfl ⟨in_Reading, sg, st, io_Reading⟩ (kit_own ix_Pact iy_Pact sb_Pact_Pact sb_Pact_Reading), trivial⟩
    q_bool := tyq (by decide +kernel)
    q_int := tyq (by decide +kernel)
    q_list := tyq (by decide +kernel)
    q_tuple := tyq (by decide +kernel)
  }
  refine ⟨PySem.W.fnOf "law" "law" (defArgs s_law) (defBody s_law) (defScope s_law) .none fkV_law fdc_law fpm_law fan_law fcd_law fct_law, fun s v => .of_eq rfl, fun base _ _ => ?_⟩
  have F := fn_full (c := (⟨K, [c_Row, c_Clause, c_Duty, c_Leave, c_Ban, c_Power, c_Let, c_Part, c_Pact, c_PactError, c_NoText, 0, 0, 0, 0, 0, 0, 0, 0, 0, c_Reading, 0, 0, 0, 0, 0, 0, 0, 0, 0, 0, 0], [("label" : Str), ("who" : Str), ("act" : Str), ("turns" : Str), ("room" : Str), ("name" : Str), ("value" : Str), ("rooms" : Str), ("rows" : Str), ("parties" : Str), ("acts" : Str), ("whole" : Str), ("row" : Str), ("word" : Str), ("what" : Str), ("turn" : Str), ("stack" : Str), ("header" : Str), ("labels" : Str), ("pact" : Str), ("names" : Str), ("kinds" : Str), ("start" : Str), ("marks" : Str), ("duties" : Str), ("table" : Str), ("one" : Str), ("other" : Str), ("clause" : Str), ("kept" : Str), ("present_stand" : Str), ("course_now" : Str), ("house" : Str), ("entries" : Str), ("order" : Str), ("idle" : Str), ("stand" : Str)], by decide +kernel⟩ : Kx)) (P := l.prog) (w := w) (mg := mg) (base := base) D_law sc_law (by decide) (k := 11) fun cdv A outer s H E hr => (ess_cons (es_lc (i := 1) (ownr := false) (own := [("_law_k", 7)]) rfl sc_law.nd (ei_range1 (by rfl) T.b_range (ea_cons (ee_int rfl) (ea_nil rfl))) (blkOk_by (own := [("_law_k", 7)]) (N := n_law) (sc := defScope s_law) (by decide +kernel)) (by decide) (fun _ _ _ _ _ => (eg_name (pg_name (i := 7) sc_law.nd rfl (by first | exact Or.inl rfl | exact Or.inr rfl)))) (fun _ _ _ _ _ => ets_nil) (fun _ _ _ _ _ => (ee_call spA_P DefOk.nil ((fs_law_name T).P.mono (Nat.le_refl _)) (hr.mono (by decide)) takes0 (by rfl) T.m_law_name (ea_cons (ee_call spA_P DefOk.nil ((fs_law_mix T).P.mono (Nat.le_refl _)) (hr.mono (by decide)) takes0 (by rfl) T.m_law_mix (ea_cons (ee_call spA_P DefOk.nil ((fs_law_cell_at T).P.mono (Nat.le_refl _)) (hr.mono (by decide)) takes0 (by rfl) T.m_law_cell_at (ea_cons (ee_var 0 rfl (pv 0)) (ea_cons (ee_int rfl) (ea_nil rfl)))) (ea_cons (ee_int rfl) (ea_nil rfl)))) (ea_cons (ee_var 7 rfl (pv 7)) (ea_nil rfl))))) rfl rfl (sw_true rfl rfl rfl (by decide +kernel))) (ess_cons (es_asg (ee_call spA_P DefOk.nil ((fs_law_header T).P.mono (Nat.le_refl _)) (hr.mono (by decide)) (takes_of rfl rfl rfl rfl) (by rfl) T.m_law_header (ea_cons (ee_var 1 rfl (pv 1)) (ea_cons (ee_call spA_P DefOk.nil ((fs_law_mix T).P.mono (Nat.le_refl _)) (hr.mono (by decide)) (takes_of rfl rfl rfl rfl) (by rfl) T.m_law_mix (ea_cons (ee_call spA_P DefOk.nil ((fs_law_cell_at T).P.mono (Nat.le_refl _)) (hr.mono (by decide)) (takes_of rfl rfl rfl rfl) (by rfl) T.m_law_cell_at (ea_cons (ee_var 0 rfl (pv 0)) (ea_cons (ee_int rfl) (ea_nil rfl)))) (ea_cons (ee_int rfl) (ea_nil rfl)))) (ea_nil rfl)))) (eg_name (pg_name (i := 2) sc_law.nd rfl (by first | exact Or.inl rfl | exact Or.inr rfl)))) (ess_cons (es_asg (ee_call spA_P DefOk.nil ((fs_law_events T).P.mono (Nat.le_refl _)) (hr.mono (by decide)) (takes_of rfl rfl rfl rfl) (by rfl) T.m_law_events (ea_cons (ee_var 1 rfl (pv 1)) (ea_cons (ee_var 0 rfl (pv 0)) (ea_nil rfl)))) (eg_name (pg_name (i := 3) sc_law.nd rfl (by first | exact Or.inl rfl | exact Or.inr rfl)))) (ess_cons (es_asg (ee_bm sm_join PySem.F.plainAttrs_str PySem.F.slot_str_join PySem.F.type_str_join mt_join (ee_str rfl) (ea_cons (ee_call spA_P DefOk.nil ((fs_law_rows T).P.mono (Nat.le_refl _)) (hr.mono (by decide)) (takes_of rfl rfl rfl rfl) (by rfl) T.m_law_rows (ea_cons (ee_var 2 rfl (pv 2)) (ea_cons (ee_var 3 rfl (pv 3)) (ea_nil rfl)))) (ea_nil rfl))) (eg_name (pg_name (i := 4) sc_law.nd rfl (by first | exact Or.inl rfl | exact Or.inr rfl)))) (ess_cons (es_asg (ee_call spA_P DefOk.nil ((fs_read T).P.mono (Nat.le_refl _)) (hr.mono (by decide)) (takes_of rfl rfl rfl rfl) (by rfl) T.m_read (ea_cons (ee_var 4 rfl (pv 4)) (ea_nil rfl))) (eg_name (pg_name (i := 5) sc_law.nd rfl (by first | exact Or.inl rfl | exact Or.inr rfl)))) (ess_cons (es_if (et_not (et_val (ee_call spA_P DefOk.nil ((fs_law_right T).P.mono (Nat.le_refl _)) (hr.mono (by decide)) (takes_of rfl rfl rfl rfl) (by rfl) T.m_law_right (ea_cons (ee_var 5 rfl (pv 5)) (ea_cons (ee_var 2 rfl (pv 2)) (ea_cons (ee_var 3 rfl (pv 3)) (ea_nil rfl))))))) (ess_one (es_ret (ee_bl rfl))) (ess_nil rfl)) (ess_cons (es_asg (ee_call spA_P DefOk.nil ((fs_read T).P.mono (Nat.le_refl _)) (hr.mono (by decide)) (takes_of rfl rfl rfl rfl) (by rfl) T.m_read (ea_cons (ee_op op_addA (s2_addA false) (ee_op op_addA (s2_addA false) (ee_op op_addA (s2_addA false) (ee_op op_addA (s2_addA false) (ee_op op_addA (s2_addA false) (ee_str rfl) (ee_ix (ee_var 1 rfl (pv 1)) (ee_int rfl) (fun _ _ => rfl))) (ee_str rfl)) (ee_ix (ee_var 1 rfl (pv 1)) (ee_int rfl) (fun _ _ => rfl))) (ee_str rfl)) (ee_ix (ee_var 1 rfl (pv 1)) (ee_int rfl) (fun _ _ => rfl))) (ea_nil rfl))) (eg_name (pg_name (i := 6) sc_law.nd rfl (by first | exact Or.inl rfl | exact Or.inr rfl)))) (ess_cons (es_if (et_not (et_val (ee_call spA_P DefOk.nil ((fs_law_right T).P.mono (Nat.le_refl _)) (hr.mono (by decide)) (takes_of rfl rfl rfl rfl) (by rfl) T.m_law_right (ea_cons (ee_var 6 rfl (pv 6)) (ea_cons (ee_tup (ea_cons (ee_lst (own := false) (ea_cons (ee_ix (ee_var 1 rfl (pv 1)) (ee_int rfl) (fun _ _ => rfl)) (ea_nil rfl))) (ea_cons (ee_lst (own := false) (ea_cons (ee_ix (ee_var 1 rfl (pv 1)) (ee_int rfl) (fun _ _ => rfl)) (ea_nil rfl))) (ea_cons (ee_lst (own := false) (ea_cons (ee_tup (ea_cons (ee_str rfl) (ea_cons (ee_ix (ee_var 1 rfl (pv 1)) (ee_int rfl) (fun _ _ => rfl)) (ea_nil rfl)))) (ea_nil rfl))) (ea_nil rfl))))) (ea_cons (ee_lst (own := false) (ea_nil rfl)) (ea_nil rfl))))))) (ess_one (es_ret (ee_bl rfl))) (ess_nil rfl)) (ess_one (es_ret (ee_and (ee_call spA_P DefOk.nil ((fs_law_right T).P.mono (Nat.le_refl _)) (hr.mono (by decide)) (takes_of rfl rfl rfl rfl) (by rfl) T.m_law_right (ea_cons (ee_call spA_P DefOk.nil ((fs_read T).P.mono (Nat.le_refl _)) (hr.mono (by decide)) (takes_of rfl rfl rfl rfl) (by rfl) T.m_read (ea_cons (ee_var 4 rfl (pv 4)) (ea_nil rfl))) (ea_cons (ee_var 2 rfl (pv 2)) (ea_cons (ee_var 3 rfl (pv 3)) (ea_nil rfl))))) (ee_one (ee_call spA_P DefOk.nil ((fs_law_right T).P.mono (Nat.le_refl _)) (hr.mono (by decide)) (takes_of rfl rfl rfl rfl) (by rfl) T.m_law_right (ea_cons (ee_var 5 rfl (pv 5)) (ea_cons (ee_var 2 rfl (pv 2)) (ea_cons (ee_var 3 rfl (pv 3)) (ea_nil rfl)))))))))))))))))
  exact F.imp fun vs H Q E q => spP_of (law_sp hgood q)
theorem walk {l : PySem.W.OpenLaw} {q : Program} {loose : List Str} {XP : (Str → Option Value) → Heap → Prop} {YP : World → Heap → Prop} {d : DefRec} {K : Params → PySem.W.Frag} (hgood : ∀ ns : List Int, ns.length ≤ 63 → F_law [.fls (ns.map .int)] = some (.ok (.bl true))) (hn : l.most = some 63) (hdf : d.params.defaults = [])
    (hY : ∀ (w : World) (h : Heap), YP w h → (K w.params).In h)
    (F : ∀ (w : World) (mg : Str → Option Value) (fa : Addr) (h : Heap), (K w.params).In h → h.Ns mainGlobals mg → mg d.name = some (.ref fa) →
      ∃ fd : FuncData, (∀ (s : Shared) (u : Value), BindsTo s fd ⟨[u], []⟩ [("_law_script", u)]) ∧ ∀ base : Heap, (K w.params).In base → base.Ns mainGlobals mg → FnOk l.prog w (K w.params) mg base (L2.CX l.prog w) 12 fa fd ["_law_script"] (spLawK (K w.params))) :
    PySem.W.WalkO q loose XP YP l.row.toRowW d [] (fun f vs => PySem.call f vs) :=
  L2.walk_of (n := 63) (k := 12) (x := "_law_script") (CX := fun w => L2.CX l.prog w) (sp := fun w => spLawK (K w.params)) hn (by decide) hdf ⟨rfl, by decide, by decide⟩ hY F (fun w H a ns hl _ hS => ⟨a, ns, rfl, hS, hl, fun _ => rfl⟩) fun _ _ _ _ _ z => cx_none z
end Walk
open PySem PySem.W PyProof.Rows in
set_option maxRecDepth 100000 in
set_option maxHeartbeats 0 in
theorem PySem.Challenge.cw_pactway_k23_read_holds : PySem.Challenge.rw_pactway_k23_read.Holds := by
  w_on; o_law; k_head; (case hw => w_witness2)
  k_fill
  refine Walk.walk (l := PySem.Challenge.rw_pactway_k23_read) Math.law_true rfl rfl (fun w h Y => PySem.W.kIn_of Y) ?F
  case F =>
    intro w mg fa h KX G hmg
    refine' Walk.all_mk Math.law_true KX G hmg ?cn_PactError ?cn_NoText ?cn_Row ?cn_Clause ?cn_Duty ?cn_Leave ?cn_Ban ?cn_Power ?cn_Let ?cn_Part ?cn_Pact ?cn_Reading ?f_NoText__init ?l_NoText__init ?k_NoText__init ?p_NoText__init ?f_Clause__init ?l_Clause__init ?k_Clause__init ?p_Clause__init ?f_Duty__init ?l_Duty__init ?k_Duty__init ?p_Duty__init ?f_Ban__init ?l_Ban__init ?k_Ban__init ?p_Ban__init ?f_Power__init ?l_Power__init ?k_Power__init ?p_Power__init ?f_Let__init ?l_Let__init ?k_Let__init ?p_Let__init ?f_Part__init ?l_Part__init ?k_Part__init ?p_Part__init ?f_Pact__init ?l_Pact__init ?k_Pact__init ?p_Pact__init ?f_is_name ?l_is_name ?k_is_name ?p_is_name ?f_number_of ?l_number_of ?k_number_of ?p_number_of ?f_duty_of ?l_duty_of ?k_duty_of ?p_duty_of ?f_ban_of ?l_ban_of ?k_ban_of ?p_ban_of ?f_power_of ?l_power_of ?k_power_of ?p_power_of ?f_clause_of ?l_clause_of ?k_clause_of ?p_clause_of ?f_let_of ?l_let_of ?k_let_of ?p_let_of ?f_names_of ?l_names_of ?k_names_of ?p_names_of ?f_part_of ?l_part_of ?k_part_of ?p_part_of ?f_room_of ?l_room_of ?k_room_of ?p_room_of ?f_Reading__init ?l_Reading__init ?k_Reading__init ?p_Reading__init ?f_Reading_is_new ?l_Reading_is_new ?k_Reading_is_new ?p_Reading_is_new ?f_Reading_take_names ?l_Reading_take_names ?k_Reading_take_names ?p_Reading_take_names ?f_Reading_take_room ?l_Reading_take_room ?k_Reading_take_room ?p_Reading_take_room ?f_Reading_take_part ?l_Reading_take_part ?k_Reading_take_part ?p_Reading_take_part ?f_Reading_take_done ?l_Reading_take_done ?k_Reading_take_done ?p_Reading_take_done ?f_Reading_take_row ?l_Reading_take_row ?k_Reading_take_row ?p_Reading_take_row ?f_Reading_take ?l_Reading_take ?k_Reading_take ?p_Reading_take ?f_read ?l_read ?k_read ?p_read ?f_law_cell_at ?l_law_cell_at ?k_law_cell_at ?p_law_cell_at ?f_law_mix ?l_law_mix ?k_law_mix ?p_law_mix ?f_law_name ?l_law_name ?k_law_name ?p_law_name ?f_law_event ?l_law_event ?k_law_event ?p_law_event ?f_law_events ?l_law_events ?k_law_events ?p_law_events ?f_law_header ?l_law_header ?k_law_header ?p_law_header ?f_law_row ?l_law_row ?k_law_row ?p_law_row ?f_law_rows ?l_law_rows ?k_law_rows ?p_law_rows ?f_law_clause ?l_law_clause ?k_law_clause ?p_law_clause ?f_law_found ?l_law_found ?k_law_found ?p_law_found ?f_law_right ?l_law_right ?k_law_right ?p_law_right ?f_law ?l_law ?k_law ?p_law ?g_FIGURES ?g_KEPT ?gl_KEPT ?gv_KEPT ?g_LETTERS ?g_MARKS ?gl_MARKS ?gv_MARKS ?g_MOST_ACTS ?g_MOST_DEPTH ?g_MOST_FIGURES ?g_MOST_LETTERS ?g_MOST_PARTIES ?g_MOST_ROOMS ?g_MOST_ROWS ?b_bool ?b_enumerate ?b_int ?b_isinstance ?b_len ?b_list ?b_range ?b_str ?b_tuple ?no_NoText_row ?no_Clause_act ?no_Duty_act ?no_Leave_act ?no_Ban_act ?no_Power_act ?no_Clause_who ?no_Duty_who ?no_Leave_who ?no_Ban_who ?no_Power_who ?no_Clause_label ?no_Duty_label ?no_Leave_label ?no_Ban_label ?no_Power_label ?no_Duty_room ?no_Duty_turns ?cr_Clause ?cg_Clause ?cv_Clause_Clause__init ?no_Ban_room ?no_Power_room ?cr_Leave ?cg_Leave ?cv_Leave_Clause__init ?no_Let_value ?no_Let_name ?no_Part_rows ?no_Part_rooms ?no_Part_name ?no_Pact_whole ?no_Pact_rooms ?no_Pact_acts ?no_Pact_parties ?cp_Duty ?ch_Duty ?co_Duty ?cs_Duty ?ck_Duty ?i_Duty__init ?cx_Duty ?cp_Ban ?ch_Ban ?co_Ban ?cs_Ban ?ck_Ban ?i_Ban__init ?cx_Ban ?cp_Power ?ch_Power ?co_Power ?cs_Power ?ck_Power ?i_Power__init ?cx_Power ?cp_Leave ?ch_Leave ?co_Leave ?cs_Leave ?ck_Leave ?me_Leave_Clause__init ?i_Clause__init ?cx_Leave ?cp_Let ?ch_Let ?co_Let ?cs_Let ?ck_Let ?i_Let__init ?cx_Let ?cp_Part ?ch_Part ?co_Part ?cs_Part ?ck_Part ?i_Part__init ?cx_Part ?no_Reading_labels ?no_Reading_header ?no_Reading_stack ?no_Reading_rooms ?no_Reading_acts ?no_Reading_parties ?i_Reading_is_new ?i_Reading_take_part ?i_Reading_take_done ?i_Reading_take_row ?i_Reading_take_room ?i_Reading_take_names ?cp_Pact ?ch_Pact ?co_Pact ?cs_Pact ?ck_Pact ?i_Pact__init ?cx_Pact ?lx_NoText ?rx_NoText ?sx_NoText ?ex_NoText ?tx_NoText ?cx_NoText ?ti_NoText__init ?i_Reading_take ?cp_Reading ?ch_Reading ?co_Reading ?cs_Reading ?ck_Reading ?i_Reading__init ?cx_Reading ?sg ?st ?ix_Leave ?iy_Leave ?sb_Leave_Leave ?kb_Leave_NoneType ?kb_Leave_bool ?kb_Leave_int ?kb_Leave_str ?kb_Leave_list ?kb_Leave_tuple ?kb_Leave_dict ?in_PactError ?io_PactError ?sb_Leave_PactError ?in_NoText ?io_NoText ?sb_Leave_NoText ?in_Row ?io_Row ?sb_Leave_Row ?in_Clause ?io_Clause ?sb_Leave_Clause ?in_Duty ?io_Duty ?sb_Leave_Duty ?in_Leave ?io_Leave ?in_Ban ?io_Ban ?sb_Leave_Ban ?in_Power ?io_Power ?sb_Leave_Power ?in_Let ?io_Let ?sb_Leave_Let ?in_Part ?io_Part ?sb_Leave_Part ?in_Pact ?io_Pact ?sb_Leave_Pact ?in_Reading ?io_Reading ?sb_Leave_Reading ?ix_Power ?iy_Power ?sb_Power_Power ?kb_Power_NoneType ?kb_Power_bool ?kb_Power_int ?kb_Power_str ?kb_Power_list ?kb_Power_tuple ?kb_Power_dict ?sb_Power_PactError ?sb_Power_NoText ?sb_Power_Row ?sb_Power_Clause ?sb_Power_Duty ?sb_Power_Leave ?sb_Power_Ban ?sb_Power_Let ?sb_Power_Part ?sb_Power_Pact ?sb_Power_Reading ?ix_Ban ?iy_Ban ?sb_Ban_Ban ?kb_Ban_NoneType ?kb_Ban_bool ?kb_Ban_int ?kb_Ban_str ?kb_Ban_list ?kb_Ban_tuple ?kb_Ban_dict ?sb_Ban_PactError ?sb_Ban_NoText ?sb_Ban_Row ?sb_Ban_Clause ?sb_Ban_Duty ?sb_Ban_Leave ?sb_Ban_Power ?sb_Ban_Let ?sb_Ban_Part ?sb_Ban_Pact ?sb_Ban_Reading ?ix_Duty ?iy_Duty ?sb_Duty_Duty ?kb_Duty_NoneType ?kb_Duty_bool ?kb_Duty_int ?kb_Duty_str ?kb_Duty_list ?kb_Duty_tuple ?kb_Duty_dict ?sb_Duty_PactError ?sb_Duty_NoText ?sb_Duty_Row ?sb_Duty_Clause ?sb_Duty_Leave ?sb_Duty_Ban ?sb_Duty_Power ?sb_Duty_Let ?sb_Duty_Part ?sb_Duty_Pact ?sb_Duty_Reading ?ix_Part ?iy_Part ?sb_Part_Part ?kb_Part_NoneType ?kb_Part_bool ?kb_Part_int ?kb_Part_str ?kb_Part_list ?kb_Part_tuple ?kb_Part_dict ?sb_Part_PactError ?sb_Part_NoText ?sb_Part_Row ?sb_Part_Clause ?sb_Part_Duty ?sb_Part_Leave ?sb_Part_Ban ?sb_Part_Power ?sb_Part_Let ?sb_Part_Pact ?sb_Part_Reading ?ix_Let ?iy_Let ?sb_Let_Let ?kb_Let_NoneType ?kb_Let_bool ?kb_Let_int ?kb_Let_str ?kb_Let_list ?kb_Let_tuple ?kb_Let_dict ?sb_Let_PactError ?sb_Let_NoText ?sb_Let_Row ?sb_Let_Clause ?sb_Let_Duty ?sb_Let_Leave ?sb_Let_Ban ?sb_Let_Power ?sb_Let_Part ?sb_Let_Pact ?sb_Let_Reading ?ix_Pact ?iy_Pact ?sb_Pact_Pact ?kb_Pact_NoneType ?kb_Pact_bool ?kb_Pact_int ?kb_Pact_str ?kb_Pact_list ?kb_Pact_tuple ?kb_Pact_dict ?sb_Pact_PactError ?sb_Pact_NoText ?sb_Pact_Row ?sb_Pact_Clause ?sb_Pact_Duty ?sb_Pact_Leave ?sb_Pact_Ban ?sb_Pact_Power ?sb_Pact_Let ?sb_Pact_Part ?sb_Pact_Reading
    (case cn_PactError => k_is)
    (case cn_NoText => k_is)
    (case cn_Row => k_is)
    (case cn_Clause => k_is)
    (case cn_Duty => k_is)
    (case cn_Leave => k_is)
    (case cn_Ban => k_is)
    (case cn_Power => k_is)
    (case cn_Let => k_is)
    (case cn_Part => k_is)
    (case cn_Pact => k_is)
    (case cn_Reading => k_is)
    (case f_NoText__init => k_is)
    (case l_NoText__init => k_is)
    (case k_NoText__init => k_is)
    (case p_NoText__init => k_is)
    (case f_Clause__init => k_is)
    (case l_Clause__init => k_is)
    (case k_Clause__init => k_is)
    (case p_Clause__init => k_is)
    (case f_Duty__init => k_is)
    (case l_Duty__init => k_is)
    (case k_Duty__init => k_is)
    (case p_Duty__init => k_is)
    (case f_Ban__init => k_is)
    (case l_Ban__init => k_is)
    (case k_Ban__init => k_is)
    (case p_Ban__init => k_is)
    (case f_Power__init => k_is)
    (case l_Power__init => k_is)
    (case k_Power__init => k_is)
    (case p_Power__init => k_is)
    (case f_Let__init => k_is)
    (case l_Let__init => k_is)
    (case k_Let__init => k_is)
    (case p_Let__init => k_is)
    (case f_Part__init => k_is)
    (case l_Part__init => k_is)
    (case k_Part__init => k_is)
    (case p_Part__init => k_is)
    (case f_Pact__init => k_is)
    (case l_Pact__init => k_is)
    (case k_Pact__init => k_is)
    (case p_Pact__init => k_is)
    (case f_is_name => k_is)
    (case l_is_name => k_is)
    (case k_is_name => k_is)
    (case p_is_name => k_is)
    (case f_number_of => k_is)
    (case l_number_of => k_is)
    (case k_number_of => k_is)
    (case p_number_of => k_is)
    (case f_duty_of => k_is)
    (case l_duty_of => k_is)
    (case k_duty_of => k_is)
    (case p_duty_of => k_is)
    (case f_ban_of => k_is)
    (case l_ban_of => k_is)
    (case k_ban_of => k_is)
    (case p_ban_of => k_is)
    (case f_power_of => k_is)
    (case l_power_of => k_is)
    (case k_power_of => k_is)
    (case p_power_of => k_is)
    (case f_clause_of => k_is)
    (case l_clause_of => k_is)
    (case k_clause_of => k_is)
    (case p_clause_of => k_is)
    (case f_let_of => k_is)
    (case l_let_of => k_is)
    (case k_let_of => k_is)
    (case p_let_of => k_is)
    (case f_names_of => k_is)
    (case l_names_of => k_is)
    (case k_names_of => k_is)
    (case p_names_of => k_is)
    (case f_part_of => k_is)
    (case l_part_of => k_is)
    (case k_part_of => k_is)
    (case p_part_of => k_is)
    (case f_room_of => k_is)
    (case l_room_of => k_is)
    (case k_room_of => k_is)
    (case p_room_of => k_is)
    (case f_Reading__init => k_is)
    (case l_Reading__init => k_is)
    (case k_Reading__init => k_is)
    (case p_Reading__init => k_is)
    (case f_Reading_is_new => k_is)
    (case l_Reading_is_new => k_is)
    (case k_Reading_is_new => k_is)
    (case p_Reading_is_new => k_is)
    (case f_Reading_take_names => k_is)
    (case l_Reading_take_names => k_is)
    (case k_Reading_take_names => k_is)
    (case p_Reading_take_names => k_is)
    (case f_Reading_take_room => k_is)
    (case l_Reading_take_room => k_is)
    (case k_Reading_take_room => k_is)
    (case p_Reading_take_room => k_is)
    (case f_Reading_take_part => k_is)
    (case l_Reading_take_part => k_is)
    (case k_Reading_take_part => k_is)
    (case p_Reading_take_part => k_is)
    (case f_Reading_take_done => k_is)
    (case l_Reading_take_done => k_is)
    (case k_Reading_take_done => k_is)
    (case p_Reading_take_done => k_is)
    (case f_Reading_take_row => k_is)
    (case l_Reading_take_row => k_is)
    (case k_Reading_take_row => k_is)
    (case p_Reading_take_row => k_is)
    (case f_Reading_take => k_is)
    (case l_Reading_take => k_is)
    (case k_Reading_take => k_is)
    (case p_Reading_take => k_is)
    (case f_read => k_is)
    (case l_read => k_is)
    (case k_read => k_is)
    (case p_read => k_is)
    (case f_law_cell_at => k_is)
    (case l_law_cell_at => k_is)
    (case k_law_cell_at => k_is)
    (case p_law_cell_at => k_is)
    (case f_law_mix => k_is)
    (case l_law_mix => k_is)
    (case k_law_mix => k_is)
    (case p_law_mix => k_is)
    (case f_law_name => k_is)
    (case l_law_name => k_is)
    (case k_law_name => k_is)
    (case p_law_name => k_is)
    (case f_law_event => k_is)
    (case l_law_event => k_is)
    (case k_law_event => k_is)
    (case p_law_event => k_is)
    (case f_law_events => k_is)
    (case l_law_events => k_is)
    (case k_law_events => k_is)
    (case p_law_events => k_is)
    (case f_law_header => k_is)
    (case l_law_header => k_is)
    (case k_law_header => k_is)
    (case p_law_header => k_is)
    (case f_law_row => k_is)
    (case l_law_row => k_is)
    (case k_law_row => k_is)
    (case p_law_row => k_is)
    (case f_law_rows => k_is)
    (case l_law_rows => k_is)
    (case k_law_rows => k_is)
    (case p_law_rows => k_is)
    (case f_law_clause => k_is)
    (case l_law_clause => k_is)
    (case k_law_clause => k_is)
    (case p_law_clause => k_is)
    (case f_law_found => k_is)
    (case l_law_found => k_is)
    (case k_law_found => k_is)
    (case p_law_found => k_is)
    (case f_law_right => k_is)
    (case l_law_right => k_is)
    (case k_law_right => k_is)
    (case p_law_right => k_is)
    (case f_law => k_is)
    (case l_law => k_is)
    (case k_law => k_is)
    (case p_law => k_is)
    (case g_FIGURES => k_is)
    (case g_KEPT => k_is)
    (case gl_KEPT => k_is)
    (case gv_KEPT => rfl)
    (case g_LETTERS => k_is)
    (case g_MARKS => k_is)
    (case gl_MARKS => k_is)
    (case gv_MARKS => rfl)
    (case g_MOST_ACTS => k_is)
    (case g_MOST_DEPTH => k_is)
    (case g_MOST_FIGURES => k_is)
    (case g_MOST_LETTERS => k_is)
    (case g_MOST_PARTIES => k_is)
    (case g_MOST_ROOMS => k_is)
    (case g_MOST_ROWS => k_is)
    (case b_bool => k_is)
    (case b_enumerate => k_is)
    (case b_int => k_is)
    (case b_isinstance => k_is)
    (case b_len => k_is)
    (case b_list => k_is)
    (case b_range => k_is)
    (case b_str => k_is)
    (case b_tuple => k_is)
    (case no_NoText_row => k_is)
    (case no_Clause_act => k_is)
    (case no_Duty_act => k_is)
    (case no_Leave_act => k_is)
    (case no_Ban_act => k_is)
    (case no_Power_act => k_is)
    (case no_Clause_who => k_is)
    (case no_Duty_who => k_is)
    (case no_Leave_who => k_is)
    (case no_Ban_who => k_is)
    (case no_Power_who => k_is)
    (case no_Clause_label => k_is)
    (case no_Duty_label => k_is)
    (case no_Leave_label => k_is)
    (case no_Ban_label => k_is)
    (case no_Power_label => k_is)
    (case no_Duty_room => k_is)
    (case no_Duty_turns => k_is)
    (case cr_Clause => k_is)
    (case cg_Clause => k_is)
    (case cv_Clause_Clause__init => k_is)
    (case no_Ban_room => k_is)
    (case no_Power_room => k_is)
    (case cr_Leave => k_is)
    (case cg_Leave => k_is)
    (case cv_Leave_Clause__init => k_is)
    (case no_Let_value => k_is)
    (case no_Let_name => k_is)
    (case no_Part_rows => k_is)
    (case no_Part_rooms => k_is)
    (case no_Part_name => k_is)
    (case no_Pact_whole => k_is)
    (case no_Pact_rooms => k_is)
    (case no_Pact_acts => k_is)
    (case no_Pact_parties => k_is)
    (case cp_Duty => k_is)
    (case ch_Duty => k_is)
    (case co_Duty => k_is)
    (case cs_Duty => k_is)
    (case ck_Duty => k_is)
    (case i_Duty__init => k_is)
    (case cx_Duty => k_is)
    (case cp_Ban => k_is)
    (case ch_Ban => k_is)
    (case co_Ban => k_is)
    (case cs_Ban => k_is)
    (case ck_Ban => k_is)
    (case i_Ban__init => k_is)
    (case cx_Ban => k_is)
    (case cp_Power => k_is)
    (case ch_Power => k_is)
    (case co_Power => k_is)
    (case cs_Power => k_is)
    (case ck_Power => k_is)
    (case i_Power__init => k_is)
    (case cx_Power => k_is)
    (case cp_Leave => k_is)
    (case ch_Leave => k_is)
    (case co_Leave => k_is)
    (case cs_Leave => k_is)
    (case ck_Leave => k_is)
    (case me_Leave_Clause__init => k_is)
    (case i_Clause__init => k_is)
    (case cx_Leave => k_is)
    (case cp_Let => k_is)
    (case ch_Let => k_is)
    (case co_Let => k_is)
    (case cs_Let => k_is)
    (case ck_Let => k_is)
    (case i_Let__init => k_is)
    (case cx_Let => k_is)
    (case cp_Part => k_is)
    (case ch_Part => k_is)
    (case co_Part => k_is)
    (case cs_Part => k_is)
    (case ck_Part => k_is)
    (case i_Part__init => k_is)
    (case cx_Part => k_is)
    (case no_Reading_labels => k_is)
    (case no_Reading_header => k_is)
    (case no_Reading_stack => k_is)
    (case no_Reading_rooms => k_is)
    (case no_Reading_acts => k_is)
    (case no_Reading_parties => k_is)
    (case i_Reading_is_new => k_is)
    (case i_Reading_take_part => k_is)
    (case i_Reading_take_done => k_is)
    (case i_Reading_take_row => k_is)
    (case i_Reading_take_room => k_is)
    (case i_Reading_take_names => k_is)
    (case cp_Pact => k_is)
    (case ch_Pact => k_is)
    (case co_Pact => k_is)
    (case cs_Pact => k_is)
    (case ck_Pact => k_is)
    (case i_Pact__init => k_is)
    (case cx_Pact => k_is)
    (case lx_NoText => k_is)
    (case rx_NoText => decide +kernel)
    (case sx_NoText => k_is)
    (case ex_NoText => k_is)
    (case tx_NoText => k_is)
    (case cx_NoText => k_is)
    (case ti_NoText__init => k_is)
    (case i_Reading_take => k_is)
    (case cp_Reading => k_is)
    (case ch_Reading => k_is)
    (case co_Reading => k_is)
    (case cs_Reading => k_is)
    (case ck_Reading => k_is)
    (case i_Reading__init => k_is)
    (case cx_Reading => k_is)
    (case sg => k_is)
    (case st => k_is)
    (case ix_Leave => k_is)
    (case iy_Leave => k_is)
    (case sb_Leave_Leave => k_is)
    (case kb_Leave_NoneType => k_is)
    (case kb_Leave_bool => k_is)
    (case kb_Leave_int => k_is)
    (case kb_Leave_str => k_is)
    (case kb_Leave_list => k_is)
    (case kb_Leave_tuple => k_is)
    (case kb_Leave_dict => k_is)
    (case in_PactError => k_is)
    (case io_PactError => k_is)
    (case sb_Leave_PactError => k_is)
    (case in_NoText => k_is)
    (case io_NoText => k_is)
    (case sb_Leave_NoText => k_is)
    (case in_Row => k_is)
    (case io_Row => k_is)
    (case sb_Leave_Row => k_is)
    (case in_Clause => k_is)
    (case io_Clause => k_is)
    (case sb_Leave_Clause => k_is)
    (case in_Duty => k_is)
    (case io_Duty => k_is)
    (case sb_Leave_Duty => k_is)
    (case in_Leave => k_is)
    (case io_Leave => k_is)
    (case in_Ban => k_is)
    (case io_Ban => k_is)
    (case sb_Leave_Ban => k_is)
    (case in_Power => k_is)
    (case io_Power => k_is)
    (case sb_Leave_Power => k_is)
    (case in_Let => k_is)
    (case io_Let => k_is)
    (case sb_Leave_Let => k_is)
    (case in_Part => k_is)
    (case io_Part => k_is)
    (case sb_Leave_Part => k_is)
    (case in_Pact => k_is)
    (case io_Pact => k_is)
    (case sb_Leave_Pact => k_is)
    (case in_Reading => k_is)
    (case io_Reading => k_is)
    (case sb_Leave_Reading => k_is)
    (case ix_Power => k_is)
    (case iy_Power => k_is)
    (case sb_Power_Power => k_is)
    (case kb_Power_NoneType => k_is)
    (case kb_Power_bool => k_is)
    (case kb_Power_int => k_is)
    (case kb_Power_str => k_is)
    (case kb_Power_list => k_is)
    (case kb_Power_tuple => k_is)
    (case kb_Power_dict => k_is)
    (case sb_Power_PactError => k_is)
    (case sb_Power_NoText => k_is)
    (case sb_Power_Row => k_is)
    (case sb_Power_Clause => k_is)
    (case sb_Power_Duty => k_is)
    (case sb_Power_Leave => k_is)
    (case sb_Power_Ban => k_is)
    (case sb_Power_Let => k_is)
    (case sb_Power_Part => k_is)
    (case sb_Power_Pact => k_is)
    (case sb_Power_Reading => k_is)
    (case ix_Ban => k_is)
    (case iy_Ban => k_is)
    (case sb_Ban_Ban => k_is)
    (case kb_Ban_NoneType => k_is)
    (case kb_Ban_bool => k_is)
    (case kb_Ban_int => k_is)
    (case kb_Ban_str => k_is)
    (case kb_Ban_list => k_is)
    (case kb_Ban_tuple => k_is)
    (case kb_Ban_dict => k_is)
    (case sb_Ban_PactError => k_is)
    (case sb_Ban_NoText => k_is)
    (case sb_Ban_Row => k_is)
    (case sb_Ban_Clause => k_is)
    (case sb_Ban_Duty => k_is)
    (case sb_Ban_Leave => k_is)
    (case sb_Ban_Power => k_is)
    (case sb_Ban_Let => k_is)
    (case sb_Ban_Part => k_is)
    (case sb_Ban_Pact => k_is)
    (case sb_Ban_Reading => k_is)
    (case ix_Duty => k_is)
    (case iy_Duty => k_is)
    (case sb_Duty_Duty => k_is)
    (case kb_Duty_NoneType => k_is)
    (case kb_Duty_bool => k_is)
    (case kb_Duty_int => k_is)
    (case kb_Duty_str => k_is)
    (case kb_Duty_list => k_is)
    (case kb_Duty_tuple => k_is)
    (case kb_Duty_dict => k_is)
    (case sb_Duty_PactError => k_is)
    (case sb_Duty_NoText => k_is)
    (case sb_Duty_Row => k_is)
    (case sb_Duty_Clause => k_is)
    (case sb_Duty_Leave => k_is)
    (case sb_Duty_Ban => k_is)
    (case sb_Duty_Power => k_is)
    (case sb_Duty_Let => k_is)
    (case sb_Duty_Part => k_is)
    (case sb_Duty_Pact => k_is)
    (case sb_Duty_Reading => k_is)
    (case ix_Part => k_is)
    (case iy_Part => k_is)
    (case sb_Part_Part => k_is)
    (case kb_Part_NoneType => k_is)
    (case kb_Part_bool => k_is)
    (case kb_Part_int => k_is)
    (case kb_Part_str => k_is)
    (case kb_Part_list => k_is)
    (case kb_Part_tuple => k_is)
    (case kb_Part_dict => k_is)
    (case sb_Part_PactError => k_is)
    (case sb_Part_NoText => k_is)
    (case sb_Part_Row => k_is)
    (case sb_Part_Clause => k_is)
    (case sb_Part_Duty => k_is)
    (case sb_Part_Leave => k_is)
    (case sb_Part_Ban => k_is)
    (case sb_Part_Power => k_is)
    (case sb_Part_Let => k_is)
    (case sb_Part_Pact => k_is)
    (case sb_Part_Reading => k_is)
    (case ix_Let => k_is)
    (case iy_Let => k_is)
    (case sb_Let_Let => k_is)
    (case kb_Let_NoneType => k_is)
    (case kb_Let_bool => k_is)
    (case kb_Let_int => k_is)
    (case kb_Let_str => k_is)
    (case kb_Let_list => k_is)
    (case kb_Let_tuple => k_is)
    (case kb_Let_dict => k_is)
    (case sb_Let_PactError => k_is)
    (case sb_Let_NoText => k_is)
    (case sb_Let_Row => k_is)
    (case sb_Let_Clause => k_is)
    (case sb_Let_Duty => k_is)
    (case sb_Let_Leave => k_is)
    (case sb_Let_Ban => k_is)
    (case sb_Let_Power => k_is)
    (case sb_Let_Part => k_is)
    (case sb_Let_Pact => k_is)
    (case sb_Let_Reading => k_is)
    (case ix_Pact => k_is)
    (case iy_Pact => k_is)
    (case sb_Pact_Pact => k_is)
    (case kb_Pact_NoneType => k_is)
    (case kb_Pact_bool => k_is)
    (case kb_Pact_int => k_is)
    (case kb_Pact_str => k_is)
    (case kb_Pact_list => k_is)
    (case kb_Pact_tuple => k_is)
    (case kb_Pact_dict => k_is)
    (case sb_Pact_PactError => k_is)
    (case sb_Pact_NoText => k_is)
    (case sb_Pact_Row => k_is)
    (case sb_Pact_Clause => k_is)
    (case sb_Pact_Duty => k_is)
    (case sb_Pact_Leave => k_is)
    (case sb_Pact_Ban => k_is)
    (case sb_Pact_Power => k_is)
    (case sb_Pact_Let => k_is)
    (case sb_Pact_Part => k_is)
    (case sb_Pact_Reading => k_is)
