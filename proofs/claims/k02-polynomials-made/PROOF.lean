import PyProof.Rows.All
import Wide.All
import OpenK.AllK
import Wide.FinOn
import HandS.Base
import HandS.Call
import HandS.List
import HandS.Comp
import HandS.Dict
import HandS.Iter
import HandS.Exc
import HandS.ExcOwn
import HandS.Words
import HandS.Walk
import HandS.Style
import HandS.WordsExc
import HandS.CallSlots
import HandS.Defaults
import HandS.Wide
import HandS.TupLe
import HandS.TupAny
import HandS.IsInst
import HandS.Small
import HandS.HeadHook2
import HandS.ExcIs
import HandS.HeadHook4
import KE.KTupSum
import HandS.HeadEnd
import HandS.Zip
import HandS.Rev
import HandS.TupMul
import HandS.TupSets
import HandS.Conv
import HandS.Codes
import HandS.SortOrd
import KE.GoesEnum
import HandS.ExcInit
import HandS.SortKw
import HandS.Strs
import HandS.Text
import PyProof.StrBlock2
import HandS.ExcValue
import HandS.More
import HandS.HeadWalk
import HandS.Head0
import HandS.Head1
import HandS.Head2
import KE.KStateDown
import Lean
import PySem.Challenge.RW_keptbyturns_k02_polynomials_made
set_option Elab.async false
set_option linter.all false
set_option maxRecDepth 100000
set_option maxHeartbeats 1000000
/-! PM0: data trees, what they denote in an abstract heap. -/
namespace PM
open PySem PySem.Spec L2
open PyProof.Rows hiding St

/-- data -/
inductive D where
  | non | bl (b : Bool) | int (i : Int) | str (s : Str)
  | tup (xs : List D) | lst (xs : List D)
  | pw (is : List Int)
  | dT (ks : List (List Key)) (vs : List D) | dK (ks : List Key) (vs : List D)
  | ins (c : Str) (ns : List Str) (vs : List D)
  | exn (c : Str) (f : List D)
  | pool

/-- the written part and where each class stands -/
structure Wd where
  K : PySem.W.Frag
  cl : Str → Addr

/-- an exception object of the class at C at a -/
def ExH (C : Addr) (d : Option Addr) (a : Addr) : HO := .ext fun h => ∃ (oe : Obj) (vs : Array Value), h.get? a = some oe ∧ Zc (.ref C) d oe ∧ oe.data = .fields vs

/-- what its number at j may be -/
def okP (j i : Int) : Prop := if j = 0 then 0 ≤ i else 0 ≤ i ∧ i < 9223372036854775808
/-- a list of two numbers, none below 0, that is changed by those who draw from it -/
def PoolH (a : Addr) : HO := .ext fun h => ∃ x y : Int, okP 0 x ∧ okP 1 y ∧ ∃ (its : List Value) (n : Nat), Vals [.int x, .int y] its ∧ h.get? a = some { cls := .type "list", data := .seq its.toArray n }

def isMut : HO → Bool
  | .lst _ => true
  | .dT _ => true
  | .dK _ => true
  | .ins _ _ _ => true
  | _ => false

/-- a list that may be read, and is none of those that change: a tracked one, or one of the written part -/
def LB (K : PySem.W.Frag) (H : Hp) (B : Addr → Prop) (a : Addr) (vs : List V) : Prop := (¬ B a ∧ Rd H a (.lst vs)) ∨ SqL K (fun _ => none) a vs
theorem LB.sq {K : PySem.W.Frag} {H : Hp} {B : Addr → Prop} {a : Addr} {vs : List V} (h : LB K H B a vs) : SqL K H a vs := by
  rcases h with ⟨_, h⟩ | (h | ⟨o, h⟩) | h
  · exact .inl h
  · cases h
  · cases h
  · exact .inr h
theorem LB.of {K : PySem.W.Frag} {H : Hp} {B : Addr → Prop} {a : Addr} {vs : List V} (nb : ¬ B a) (h : SqL K H a vs) : LB K H B a vs := h.elim (fun h => .inl ⟨nb, h⟩) fun h => .inr (.inr h)
mutual
def Den (Z : Wd) (H : Hp) (B : Addr → Prop) : D → V → Prop
  | .non, v => v = .non
  | .bl b, v => v = .bl b
  | .int i, v => v = .int i
  | .str s, v => v = .str s
  | .tup ds, v => ∃ a vs, v = .ref a ∧ SqT Z.K H a vs ∧ DenL Z H B ds vs
  | .pw is, v => ∃ a, v = .ref a ∧ H a = some (.tup (is.map V.int))
  | .lst ds, v => ∃ a vs, v = .ref a ∧ LB Z.K H B a vs ∧ DenL Z H B ds vs
  | .dT ks ds, v => ∃ a kvs, v = .ref a ∧ ¬ B a ∧ H a = some (.dT kvs) ∧ kvs.map (·.1) = ks ∧ DenL Z H B ds (kvs.map (·.2))
  | .dK ks ds, v => ∃ a kvs, v = .ref a ∧ ¬ B a ∧ H a = some (.dK kvs) ∧ kvs.map (·.1) = ks ∧ DenL Z H B ds (kvs.map (·.2))
  | .ins c ns ds, v => ∃ a dx fs, v = .ref a ∧ ¬ B a ∧ H a = some (.ins (Z.cl c) dx fs) ∧ fs.map (·.1) = ns ∧ DenL Z H B ds (fs.map (·.2))
  | .exn c f, v => ∃ a, v = .ref a ∧ ((f = [] ∧ H a = some (ExH (Z.cl c) none a)) ∨ ∃ dd w, H a = some (ExH (Z.cl c) (some dd) a) ∧ H dd = some (.xd [(("number" : Str), w)]) ∧ DenL Z H B f [w])
  | .pool, v => ∃ a, v = .ref a ∧ H a = some (PoolH a)
def DenL (Z : Wd) (H : Hp) (B : Addr → Prop) : List D → List V → Prop
  | [], vs => vs = []
  | d :: ds, vs => ∃ v r, vs = v :: r ∧ Den Z H B d v ∧ DenL Z H B ds r
end

/-- H' keeps what H has, but for the changing objects of B -/
def Kp (B : Addr → Prop) (H H' : Hp) : Prop := ∀ a o, H a = some o → (¬ B a ∨ isMut o = false) → H' a = some o
/-- H' keeps all of H -/
def Ex (H H' : Hp) : Prop := ∀ a o, H a = some o → H' a = some o
theorem Ex.refl (H : Hp) : Ex H H := fun _ _ h => h
theorem Ex.trans {H H1 H2 : Hp} (a : Ex H H1) (b : Ex H1 H2) : Ex H H2 := fun x o h => b x o (a x o h)
theorem Ex.new {H : Hp} {p : Addr} {o : HO} (h : H p = none) : Ex H (upd H p o) := fun a u e => by
  rw [upd_ne (ne_of_none e h)]
  exact e
theorem Ex.kp {B : Addr → Prop} {H H' : Hp} (e : Ex H H') : Kp B H H' := fun a o h _ => e a o h
theorem Ex.free {H H' : Hp} (e : Ex H H') {p : Addr} (h : H' p = none) : H p = none := by
  cases h1 : H p with
  | none => rfl
  | some o => rw [e p o h1] at h; cases h
theorem Kp.refl {B : Addr → Prop} {H : Hp} : Kp B H H := fun _ _ h _ => h
theorem Kp.trans {B : Addr → Prop} {H H1 H2 : Hp} (a : Kp B H H1) (b : Kp B H1 H2) : Kp B H H2 := fun x o h q => b x o (a x o h q) q

theorem kp_t {Z : Wd} {B : Addr → Prop} {H H' : Hp} (k : Kp B H H') {a : Addr} {vs : List V} (h : SqT Z.K H a vs) : SqT Z.K H' a vs := by
  rcases h with (h | ⟨o, h⟩) | h
  · exact .inl (.inl (k a _ h (.inr rfl)))
  · exact .inl (.inr ⟨o, k a _ h (.inr rfl)⟩)
  · exact .inr h
theorem kp_l {B : Addr → Prop} {H H' : Hp} (k : Kp B H H') {a : Addr} {vs : List V} (nb : ¬ B a) (h : Rd H a (.lst vs)) : Rd H' a (.lst vs) := by
  rcases h with h | ⟨o, h⟩
  · exact .inl (k a _ h (.inl nb))
  · exact .inr ⟨o, k a _ h (.inl nb)⟩

section
variable {Z : Wd} {H H' : Hp} {B B' : Addr → Prop}
mutual
theorem Den.kp (k : Kp B H H') (hb : ∀ a, B' a → B a) : ∀ (d : D) (v : V), Den Z H B d v → Den Z H' B' d v
  | .non, v, h => by unfold Den at h ⊢; exact h
  | .bl b, v, h => by unfold Den at h ⊢; exact h
  | .int i, v, h => by unfold Den at h ⊢; exact h
  | .str s, v, h => by unfold Den at h ⊢; exact h
  | .tup ds, v, h => by
    unfold Den at h ⊢
    obtain ⟨a, vs, e, q, r⟩ := h
    exact ⟨a, vs, e, kp_t k q, DenL.kp k hb ds vs r⟩
  | .pw is, v, h => by
    unfold Den at h ⊢
    obtain ⟨a, e, q⟩ := h
    exact ⟨a, e, k a _ q (.inr rfl)⟩
  | .lst ds, v, h => by
    unfold Den at h ⊢
    obtain ⟨a, vs, e, q, r⟩ := h
    exact ⟨a, vs, e, q.imp (fun q => ⟨fun z => q.1 (hb a z), kp_l k q.1 q.2⟩) id, DenL.kp k hb ds vs r⟩
  | .dT ks ds, v, h => by
    unfold Den at h ⊢
    obtain ⟨a, kvs, e, nb, q, m, r⟩ := h
    exact ⟨a, kvs, e, fun z => nb (hb a z), k a _ q (.inl nb), m, DenL.kp k hb ds _ r⟩
  | .dK ks ds, v, h => by
    unfold Den at h ⊢
    obtain ⟨a, kvs, e, nb, q, m, r⟩ := h
    exact ⟨a, kvs, e, fun z => nb (hb a z), k a _ q (.inl nb), m, DenL.kp k hb ds _ r⟩
  | .ins c ns ds, v, h => by
    unfold Den at h ⊢
    obtain ⟨a, dx, fs, e, nb, q, m, r⟩ := h
    exact ⟨a, dx, fs, e, fun z => nb (hb a z), k a _ q (.inl nb), m, DenL.kp k hb ds _ r⟩
  | .exn c f, v, h => by
    unfold Den at h ⊢
    obtain ⟨a, e, ⟨f0, q⟩ | ⟨dd, w, q1, q2, r⟩⟩ := h
    · exact ⟨a, e, .inl ⟨f0, k a _ q (.inr rfl)⟩⟩
    · exact ⟨a, e, .inr ⟨dd, w, k a _ q1 (.inr rfl), k dd _ q2 (.inr rfl), DenL.kp k hb f _ r⟩⟩
  | .pool, v, h => by
    unfold Den at h ⊢
    obtain ⟨a, e, q⟩ := h
    exact ⟨a, e, k a _ q (.inr rfl)⟩
theorem DenL.kp (k : Kp B H H') (hb : ∀ a, B' a → B a) : ∀ (ds : List D) (vs : List V), DenL Z H B ds vs → DenL Z H' B' ds vs
  | [], vs, h => by unfold DenL at h ⊢; exact h
  | d :: ds, vs, h => by
    unfold DenL at h ⊢
    obtain ⟨v, r, e, h1, h2⟩ := h
    exact ⟨v, r, e, Den.kp k hb d v h1, DenL.kp k hb ds r h2⟩
end
theorem Den.ex (e : Ex H H') {d : D} {v : V} (h : Den Z H B d v) : Den Z H' B d v := h.kp e.kp (fun _ z => z)
theorem DenL.ex (e : Ex H H') {d : List D} {v : List V} (h : DenL Z H B d v) : DenL Z H' B d v := h.kp e.kp (fun _ z => z)
theorem Den.less (hb : ∀ a, B' a → B a) {d : D} {v : V} (h : Den Z H B d v) : Den Z H B' d v := h.kp Kp.refl hb
theorem DenL.less (hb : ∀ a, B' a → B a) {d : List D} {v : List V} (h : DenL Z H B d v) : DenL Z H B' d v := h.kp Kp.refl hb
end

/-! nothing that changes is within -/
mutual
def flat : D → Bool
  | .tup ds => flatL ds
  | .lst _ => false
  | .dT _ _ => false
  | .dK _ _ => false
  | .ins _ _ _ => false
  | .exn _ f => flatL f
  | _ => true
def flatL : List D → Bool
  | [] => true
  | d :: ds => flat d && flatL ds
end
section
variable {Z : Wd} {H : Hp} {B B' : Addr → Prop}
mutual
theorem Den.flat : ∀ (d : D) (v : V), flat d = true → Den Z H B d v → Den Z H B' d v
  | .non, v, _, h => by unfold Den at h ⊢; exact h
  | .bl b, v, _, h => by unfold Den at h ⊢; exact h
  | .int i, v, _, h => by unfold Den at h ⊢; exact h
  | .str s, v, _, h => by unfold Den at h ⊢; exact h
  | .tup ds, v, f, h => by
    unfold Den at h ⊢
    obtain ⟨a, vs, e, q, r⟩ := h
    exact ⟨a, vs, e, q, DenL.flat ds vs (by unfold PM.flat at f; exact f) r⟩
  | .pw is, v, _, h => by unfold Den at h ⊢; exact h
  | .lst ds, v, f, h => by unfold PM.flat at f; cases f
  | .dT ks ds, v, f, h => by unfold PM.flat at f; cases f
  | .dK ks ds, v, f, h => by unfold PM.flat at f; cases f
  | .ins c ns ds, v, f, h => by unfold PM.flat at f; cases f
  | .exn c f, v, fl, h => by
    unfold Den at h ⊢
    obtain ⟨a, e, ⟨f0, q⟩ | ⟨dd, w, q1, q2, r⟩⟩ := h
    · exact ⟨a, e, .inl ⟨f0, q⟩⟩
    · exact ⟨a, e, .inr ⟨dd, w, q1, q2, DenL.flat f _ (by unfold PM.flat at fl; exact fl) r⟩⟩
  | .pool, v, _, h => by unfold Den at h ⊢; exact h
theorem DenL.flat : ∀ (ds : List D) (vs : List V), flatL ds = true → DenL Z H B ds vs → DenL Z H B' ds vs
  | [], vs, _, h => by unfold DenL at h ⊢; exact h
  | d :: ds, vs, f, h => by
    unfold DenL at h ⊢
    obtain ⟨v, r, e, h1, h2⟩ := h
    unfold flatL at f
    rw [Bool.and_eq_true] at f
    exact ⟨v, r, e, Den.flat d v f.1 h1, DenL.flat ds r f.2 h2⟩
end
theorem DenL.length : ∀ {ds : List D} {vs : List V}, DenL Z H B ds vs → vs.length = ds.length
  | [], vs, h => by unfold DenL at h; rw [h]; rfl
  | d :: ds, vs, h => by
    unfold DenL at h
    obtain ⟨v, r, e, _, h2⟩ := h
    rw [e, List.length_cons, List.length_cons, DenL.length h2]
theorem DenL.get : ∀ {ds : List D} {vs : List V} {i : Nat} {d : D}, DenL Z H B ds vs → ds[i]? = some d → ∃ v, vs[i]? = some v ∧ Den Z H B d v
  | [], vs, i, d, _, e => by simp at e
  | d :: ds, vs, 0, d', h, e => by
    unfold DenL at h
    obtain ⟨v, r, e', h1, _⟩ := h
    subst e'
    have : d = d' := by simpa using e
    subst this
    exact ⟨v, rfl, h1⟩
  | d :: ds, vs, i + 1, d', h, e => by
    unfold DenL at h
    obtain ⟨v, r, e', _, h2⟩ := h
    subst e'
    obtain ⟨w, q1, q2⟩ := DenL.get (i := i) (d := d') h2 (by simpa using e)
    exact ⟨w, by simpa using q1, q2⟩
theorem DenL.at : ∀ {ds : List D} {vs : List V} {i : Nat} {v : V}, DenL Z H B ds vs → vs[i]? = some v → ∃ d, ds[i]? = some d ∧ Den Z H B d v := fun {ds vs i v} h e => by
  have hl := h.length
  have hi : i < ds.length := by rw [← hl]; exact (List.getElem?_eq_some_iff.mp e).1
  obtain ⟨w, q1, q2⟩ := h.get (List.getElem?_eq_getElem hi)
  rw [e] at q1
  cases q1
  exact ⟨_, List.getElem?_eq_getElem hi, q2⟩
theorem DenL.nil : DenL Z H B [] [] := by unfold DenL; rfl
theorem DenL.cons {d : D} {ds : List D} {v : V} {vs : List V} (h : Den Z H B d v) (t : DenL Z H B ds vs) : DenL Z H B (d :: ds) (v :: vs) := by
  unfold DenL; exact ⟨v, vs, rfl, h, t⟩
theorem DenL.append : ∀ {ds es : List D} {vs ws : List V}, DenL Z H B ds vs → DenL Z H B es ws → DenL Z H B (ds ++ es) (vs ++ ws)
  | [], es, vs, ws, h, g => by unfold DenL at h; subst h; exact g
  | d :: ds, es, vs, ws, h, g => by
    unfold DenL at h
    obtain ⟨v, r, e, h1, h2⟩ := h
    subst e
    exact .cons h1 (DenL.append h2 g)
theorem DenL.take : ∀ {ds : List D} {vs : List V} (n : Nat), DenL Z H B ds vs → DenL Z H B (ds.take n) (vs.take n)
  | ds, vs, 0, h => by simp; exact .nil
  | [], vs, n + 1, h => by unfold DenL at h; subst h; exact .nil
  | d :: ds, vs, n + 1, h => by
    unfold DenL at h
    obtain ⟨v, r, e, h1, h2⟩ := h
    subst e
    exact .cons h1 (DenL.take n h2)
theorem DenL.drop : ∀ {ds : List D} {vs : List V} (n : Nat), DenL Z H B ds vs → DenL Z H B (ds.drop n) (vs.drop n)
  | ds, vs, 0, h => by simpa using h
  | [], vs, n + 1, h => by unfold DenL at h; subst h; exact .nil
  | d :: ds, vs, n + 1, h => by
    unfold DenL at h
    obtain ⟨v, r, e, h1, h2⟩ := h
    subst e
    exact DenL.drop n h2
theorem DenL.set : ∀ {ds : List D} {vs : List V} (n : Nat) {d : D} {v : V}, DenL Z H B ds vs → Den Z H B d v → DenL Z H B (ds.set n d) (vs.set n v)
  | [], vs, n, d, v, h, g => by unfold DenL at h; subst h; exact .nil
  | e :: ds, vs, 0, d, v, h, g => by
    unfold DenL at h
    obtain ⟨w, r, e', h1, h2⟩ := h
    subst e'
    exact .cons g h2
  | e :: ds, vs, n + 1, d, v, h, g => by
    unfold DenL at h
    obtain ⟨w, r, e', h1, h2⟩ := h
    subst e'
    exact .cons h1 (DenL.set n h2 g)
end

theorem rd_ne {H : Hp} {a p : Addr} {u : HO} (h : Rd H a u) (hp : H p = none) : a ≠ p := fun e => by
  subst e
  rcases h with h | ⟨o, h⟩ <;> rw [hp] at h <;> cases h
section
variable {Z : Wd} {H : Hp} {B : Addr → Prop} {p : Addr}
mutual
theorem Den.add (hp : H p = none) : ∀ (d : D) (v : V), Den Z H B d v → Den Z H (fun a => B a ∨ a = p) d v
  | .non, v, h => by unfold Den at h ⊢; exact h
  | .bl b, v, h => by unfold Den at h ⊢; exact h
  | .int i, v, h => by unfold Den at h ⊢; exact h
  | .str s, v, h => by unfold Den at h ⊢; exact h
  | .tup ds, v, h => by
    unfold Den at h ⊢
    obtain ⟨a, vs, e, q, r⟩ := h
    exact ⟨a, vs, e, q, DenL.add hp ds vs r⟩
  | .pw is, v, h => by unfold Den at h ⊢; exact h
  | .lst ds, v, h => by
    unfold Den at h ⊢
    obtain ⟨a, vs, e, q, r⟩ := h
    exact ⟨a, vs, e, q.imp (fun q => ⟨fun z => z.elim q.1 (rd_ne q.2 hp), q.2⟩) id, DenL.add hp ds vs r⟩
  | .dT ks ds, v, h => by
    unfold Den at h ⊢
    obtain ⟨a, kvs, e, nb, q, m, r⟩ := h
    exact ⟨a, kvs, e, fun z => z.elim nb (ne_of_none q hp), q, m, DenL.add hp ds _ r⟩
  | .dK ks ds, v, h => by
    unfold Den at h ⊢
    obtain ⟨a, kvs, e, nb, q, m, r⟩ := h
    exact ⟨a, kvs, e, fun z => z.elim nb (ne_of_none q hp), q, m, DenL.add hp ds _ r⟩
  | .ins c ns ds, v, h => by
    unfold Den at h ⊢
    obtain ⟨a, dx, fs, e, nb, q, m, r⟩ := h
    exact ⟨a, dx, fs, e, fun z => z.elim nb (ne_of_none q hp), q, m, DenL.add hp ds _ r⟩
  | .exn c f, v, h => by
    unfold Den at h ⊢
    obtain ⟨a, e, ⟨f0, q⟩ | ⟨dd, w, q1, q2, r⟩⟩ := h
    · exact ⟨a, e, .inl ⟨f0, q⟩⟩
    · exact ⟨a, e, .inr ⟨dd, w, q1, q2, DenL.add hp f _ r⟩⟩
  | .pool, v, h => by unfold Den at h ⊢; exact h
theorem DenL.add (hp : H p = none) : ∀ (ds : List D) (vs : List V), DenL Z H B ds vs → DenL Z H (fun a => B a ∨ a = p) ds vs
  | [], vs, h => by unfold DenL at h ⊢; exact h
  | d :: ds, vs, h => by
    unfold DenL at h ⊢
    obtain ⟨v, r, e, h1, h2⟩ := h
    exact ⟨v, r, e, Den.add hp d v h1, DenL.add hp ds r h2⟩
end
end

section
variable {Z : Wd} {H : Hp} {B B' : Addr → Prop}
theorem rd_some {a : Addr} {u : HO} (h : Rd H a u) : H a ≠ none := fun e => by
  rcases h with h | ⟨o, h⟩ <;> rw [e] at h <;> cases h
mutual
theorem Den.grow (hb : ∀ a, B' a → B a ∨ H a = none) : ∀ (d : D) (v : V), Den Z H B d v → Den Z H B' d v
  | .non, v, h => by unfold Den at h ⊢; exact h
  | .bl b, v, h => by unfold Den at h ⊢; exact h
  | .int i, v, h => by unfold Den at h ⊢; exact h
  | .str s, v, h => by unfold Den at h ⊢; exact h
  | .tup ds, v, h => by
    unfold Den at h ⊢
    obtain ⟨a, vs, e, q, r⟩ := h
    exact ⟨a, vs, e, q, DenL.grow hb ds vs r⟩
  | .pw is, v, h => by unfold Den at h ⊢; exact h
  | .lst ds, v, h => by
    unfold Den at h ⊢
    obtain ⟨a, vs, e, q, r⟩ := h
    exact ⟨a, vs, e, q.imp (fun q => ⟨fun z => (hb a z).elim q.1 (rd_some q.2), q.2⟩) id, DenL.grow hb ds vs r⟩
  | .dT ks ds, v, h => by
    unfold Den at h ⊢
    obtain ⟨a, kvs, e, nb, q, m, r⟩ := h
    exact ⟨a, kvs, e, fun z => (hb a z).elim nb (fun y => by rw [q] at y; cases y), q, m, DenL.grow hb ds _ r⟩
  | .dK ks ds, v, h => by
    unfold Den at h ⊢
    obtain ⟨a, kvs, e, nb, q, m, r⟩ := h
    exact ⟨a, kvs, e, fun z => (hb a z).elim nb (fun y => by rw [q] at y; cases y), q, m, DenL.grow hb ds _ r⟩
  | .ins c ns ds, v, h => by
    unfold Den at h ⊢
    obtain ⟨a, dx, fs, e, nb, q, m, r⟩ := h
    exact ⟨a, dx, fs, e, fun z => (hb a z).elim nb (fun y => by rw [q] at y; cases y), q, m, DenL.grow hb ds _ r⟩
  | .exn c f, v, h => by
    unfold Den at h ⊢
    obtain ⟨a, e, ⟨f0, q⟩ | ⟨dd, w, q1, q2, r⟩⟩ := h
    · exact ⟨a, e, .inl ⟨f0, q⟩⟩
    · exact ⟨a, e, .inr ⟨dd, w, q1, q2, DenL.grow hb f _ r⟩⟩
  | .pool, v, h => by unfold Den at h ⊢; exact h
theorem DenL.grow (hb : ∀ a, B' a → B a ∨ H a = none) : ∀ (ds : List D) (vs : List V), DenL Z H B ds vs → DenL Z H B' ds vs
  | [], vs, h => by unfold DenL at h ⊢; exact h
  | d :: ds, vs, h => by
    unfold DenL at h ⊢
    obtain ⟨v, r, e, h1, h2⟩ := h
    exact ⟨v, r, e, Den.grow hb d v h1, DenL.grow hb ds r h2⟩
end
end
/-- the one reference is p: a list, a dict, its parts denote -/
def OwnAt (Z : Wd) (H : Hp) (B : Addr → Prop) (p : Addr) : D → Prop
  | .lst ds => ∃ vs, H p = some (.lst vs) ∧ DenL Z H B ds vs
  | .dT ks ds => ∃ kvs, H p = some (.dT kvs) ∧ kvs.map (·.1) = ks ∧ DenL Z H B ds (kvs.map (·.2))
  | .dK ks ds => ∃ kvs, H p = some (.dK kvs) ∧ kvs.map (·.1) = ks ∧ DenL Z H B ds (kvs.map (·.2))
  | _ => False
section
variable {Z : Wd} {H H' : Hp} {B B' : Addr → Prop} {p : Addr} {d : D}
theorem OwnAt.kp (k : Kp B H H') (hp : H' p = H p) (hb : ∀ a, B' a → B a) (h : OwnAt Z H B p d) : OwnAt Z H' B' p d := by
  cases d with
  | lst ds =>
    obtain ⟨vs, e, r⟩ := h
    exact ⟨vs, hp.trans e, r.kp k hb⟩
  | dT ks ds =>
    obtain ⟨kvs, e, m, r⟩ := h
    exact ⟨kvs, hp.trans e, m, r.kp k hb⟩
  | dK ks ds =>
    obtain ⟨kvs, e, m, r⟩ := h
    exact ⟨kvs, hp.trans e, m, r.kp k hb⟩
  | _ => exact False.elim h
theorem OwnAt.some (h : OwnAt Z H B p d) : ∃ o, H p = some o ∧ isMut o = true := by
  cases d with
  | lst ds => obtain ⟨vs, e, r⟩ := h; exact ⟨_, e, rfl⟩
  | dT ks ds => obtain ⟨kvs, e, m, r⟩ := h; exact ⟨_, e, rfl⟩
  | dK ks ds => obtain ⟨kvs, e, m, r⟩ := h; exact ⟨_, e, rfl⟩
  | _ => exact False.elim h
theorem OwnAt.ex (e : Ex H H') (h : OwnAt Z H B p d) : OwnAt Z H' B p d := by
  obtain ⟨o, q, _⟩ := h.some
  exact h.kp e.kp ((e p o q).trans q.symm) fun _ z => z
theorem OwnAt.less (hb : ∀ a, B' a → B a) (h : OwnAt Z H B p d) : OwnAt Z H B' p d := h.kp Kp.refl rfl hb
/-- frozen -/
theorem OwnAt.den (h : OwnAt Z H B p d) (nb : ¬ B' p) (hb : ∀ a, B' a → B a) : Den Z H B' d (.ref p) := by
  cases d with
  | lst ds => obtain ⟨vs, e, r⟩ := h; unfold Den; exact ⟨p, vs, rfl, .inl ⟨nb, .inl e⟩, r.less hb⟩
  | dT ks ds => obtain ⟨kvs, e, m, r⟩ := h; unfold Den; exact ⟨p, kvs, rfl, nb, e, m, r.less hb⟩
  | dK ks ds => obtain ⟨kvs, e, m, r⟩ := h; unfold Den; exact ⟨p, kvs, rfl, nb, e, m, r.less hb⟩
  | _ => exact False.elim h
end
theorem OwnAt.grow {Z : Wd} {H : Hp} {B B' : Addr → Prop} {p : Addr} {d : D} (hb : ∀ a, B' a → B a ∨ H a = none) (h : OwnAt Z H B p d) : OwnAt Z H B' p d := by
  cases d with
  | lst ds => obtain ⟨vs, e, r⟩ := h; exact ⟨vs, e, r.grow hb⟩
  | dT ks ds => obtain ⟨kvs, e, m, r⟩ := h; exact ⟨kvs, e, m, r.grow hb⟩
  | dK ks ds => obtain ⟨kvs, e, m, r⟩ := h; exact ⟨kvs, e, m, r.grow hb⟩
  | _ => exact False.elim h
/-- several, each at its own place, all of those that may change -/
def OwnL (Z : Wd) (H : Hp) (B : Addr → Prop) : List Addr → List D → Prop
  | [], [] => True
  | q :: qs, d :: ds => B q ∧ OwnAt Z H B q d ∧ OwnL Z H B qs ds
  | _, _ => False
section
variable {Z : Wd} {H H' : Hp} {B B' : Addr → Prop}
theorem OwnL.imp : ∀ {qs : List Addr} {ds : List D}, OwnL Z H B qs ds → (∀ q d, q ∈ qs → B q → OwnAt Z H B q d → B' q ∧ OwnAt Z H' B' q d) → OwnL Z H' B' qs ds
  | [], [], _, _ => trivial
  | q :: qs, d :: ds, h, k => ⟨(k q d List.mem_cons_self h.1 h.2.1).1, (k q d List.mem_cons_self h.1 h.2.1).2, OwnL.imp h.2.2 fun q d hq => k q d (List.mem_cons_of_mem _ hq)⟩
  | [], _ :: _, h, _ => h.elim
  | _ :: _, [], h, _ => h.elim
theorem OwnL.ex (e : Ex H H') {qs : List Addr} {ds : List D} (h : OwnL Z H B qs ds) : OwnL Z H' B qs ds := h.imp fun _ _ _ b o => ⟨b, o.ex e⟩
theorem OwnL.all : ∀ {qs : List Addr} {ds : List D}, OwnL Z H B qs ds → ∀ q ∈ qs, B q ∧ ∃ d, OwnAt Z H B q d
  | [], [], _, q, hq => by cases hq
  | a :: qs, d :: ds, h, q, hq => by
    rcases List.mem_cons.mp hq with rfl | hq
    · exact ⟨h.1, d, h.2.1⟩
    · exact OwnL.all h.2.2 q hq
  | [], _ :: _, h, _, _ => h.elim
  | _ :: _, [], h, _, _ => h.elim
theorem OwnL.len : ∀ {qs : List Addr} {ds : List D}, OwnL Z H B qs ds → qs.length = ds.length
  | [], [], _ => rfl
  | a :: qs, d :: ds, h => by rw [List.length_cons, List.length_cons, OwnL.len h.2.2]
  | [], _ :: _, h => h.elim
  | _ :: _, [], h => h.elim
theorem OwnL.get : ∀ {qs : List Addr} {ds : List D} {k : Nat} {d : D}, OwnL Z H B qs ds → ds[k]? = some d → ∃ q, qs[k]? = some q ∧ B q ∧ OwnAt Z H B q d
  | [], [], _, _, _, e => by simp at e
  | a :: qs, d :: ds, 0, d', h, e => by
    have : d = d' := by simpa using e
    subst this
    exact ⟨a, rfl, h.1, h.2.1⟩
  | a :: qs, d :: ds, k + 1, d', h, e => by
    obtain ⟨q, e1, e2⟩ := OwnL.get (k := k) (d := d') h.2.2 (by simpa using e)
    exact ⟨q, by simpa using e1, e2⟩
  | [], _ :: _, _, _, h, _ => h.elim
  | _ :: _, [], _, _, h, _ => h.elim
theorem OwnL.den : ∀ {qs : List Addr} {ds : List D}, OwnL Z H B qs ds → (∀ q ∈ qs, ¬ B' q) → (∀ a, B' a → B a) → DenL Z H B' ds (qs.map V.ref)
  | [], [], _, _, _ => .nil
  | a :: qs, d :: ds, h, nb, hb => .cons (h.2.1.den (nb a List.mem_cons_self) hb) (OwnL.den h.2.2 (fun q hq => nb q (List.mem_cons_of_mem _ hq)) hb)
  | [], _ :: _, h, _, _ => h.elim
  | _ :: _, [], h, _, _ => h.elim
theorem OwnL.set : ∀ {qs : List Addr} {ds : List D} {k : Nat} {q : Addr} {d : D}, OwnL Z H B qs ds → qs[k]? = some q → (∀ r e, r ∈ qs → r ≠ q → OwnAt Z H B r e → OwnAt Z H' B r e) → OwnAt Z H' B q d → qs.Nodup → OwnL Z H' B qs (ds.set k d)
  | [], [], _, _, _, _, e, _, _, _ => by simp at e
  | a :: qs, d :: ds, 0, q, d', h, e, kk, o, nd => by
    have : a = q := by simpa using e
    subst this
    rw [List.nodup_cons] at nd
    exact ⟨h.1, o, h.2.2.imp fun r e hr b o => ⟨b, kk r e (List.mem_cons_of_mem _ hr) (fun z => nd.1 (z ▸ hr)) o⟩⟩
  | a :: qs, d :: ds, k + 1, q, d', h, e, kk, o, nd => by
    rw [List.nodup_cons] at nd
    have e : qs[k]? = some q := by simpa using e
    exact ⟨h.1, kk a d List.mem_cons_self (fun z => nd.1 (by rw [z]; exact List.mem_of_getElem? e)) h.2.1, OwnL.set h.2.2 e (fun r e hr => kk r e (List.mem_cons_of_mem _ hr)) o nd.2⟩
  | [], _ :: _, _, _, _, h, _, _, _, _ => h.elim
  | _ :: _, [], _, _, _, h, _, _, _, _ => h.elim
theorem OwnL.snoc : ∀ {qs : List Addr} {ds : List D} {q : Addr} {d : D}, OwnL Z H B qs ds → B q → OwnAt Z H B q d → OwnL Z H B (qs ++ [q]) (ds ++ [d])
  | [], [], _, _, _, b, o => ⟨b, o, trivial⟩
  | a :: qs, d :: ds, _, _, h, b, o => ⟨h.1, h.2.1, OwnL.snoc h.2.2 b o⟩
  | [], _ :: _, _, _, h, _, _ => h.elim
  | _ :: _, [], _, _, h, _, _ => h.elim
end
/-- for reading: it denotes, or it is the owned one at its place -/
def RdD (Z : Wd) (H : Hp) (B : Addr → Prop) (d : D) (v : V) : Prop := Den Z H B d v ∨ ∃ p, v = .ref p ∧ OwnAt Z H B p d
theorem RdD.ex {Z : Wd} {H H' : Hp} {B : Addr → Prop} {d : D} {v : V} (e : Ex H H') (h : RdD Z H B d v) : RdD Z H' B d v := by
  rcases h with h | ⟨p, q, h⟩
  · exact .inl (h.ex e)
  · exact .inr ⟨p, q, h.ex e⟩
/-- all that is read denotes with nothing left out -/
theorem RdD.all {Z : Wd} {H : Hp} {B : Addr → Prop} {d : D} {v : V} (h : RdD Z H B d v) : Den Z H (fun _ => False) d v := by
  rcases h with h | ⟨p, q, h⟩
  · exact h.less fun _ z => z.elim
  · subst q; exact h.den (fun z => z) fun _ z => z.elim
end PM

set_option Elab.async false
set_option linter.all false
set_option maxRecDepth 100000
set_option maxHeartbeats 1000000
/-! PM1: the small language and what it computes. -/
namespace PM
open PySem PySem.Spec L2
open PyProof.Rows hiding St

/-- a result that hangs on numbers drawn: k i for each i with P i -/
inductive T (α : Type) where
  | pure (a : α)
  | pick (P : Int → Prop) (k : Int → T α)
def T.bind {α β : Type} : T α → (α → T β) → T β
  | .pure a, f => f a
  | .pick m k, f => .pick m fun i => (k i).bind f
def T.all {α : Type} (P : α → Prop) : T α → Prop
  | .pure a => P a
  | .pick m k => ∀ i, m i → (k i).all P
theorem T.all_bind {α β : Type} {P : β → Prop} {f : α → T β} : ∀ {t : T α}, (t.bind f).all P ↔ t.all fun a => (f a).all P
  | .pure a => Iff.rfl
  | .pick m k => ⟨fun h i h1 => T.all_bind.mp (h i h1), fun h i h1 => T.all_bind.mpr (h i h1)⟩
theorem T.mono {α : Type} {P P' : α → Prop} (k : ∀ a, P a → P' a) : ∀ {t : T α}, t.all P → t.all P'
  | .pure a, h => k a h
  | .pick m f, h => fun i h1 => T.mono k (h i h1)
theorem T.both {α : Type} {P P' : α → Prop} : ∀ {t : T α}, t.all P → t.all P' → t.all fun a => P a ∧ P' a
  | .pure a, h, g => ⟨h, g⟩
  | .pick m f, h, g => fun i h1 => T.both (h i h1) (g i h1)
theorem T.any {α : Type} {P : α → Prop} (k : ∀ a, P a) : ∀ {t : T α}, t.all P
  | .pure a => k a
  | .pick m f => fun i h1 => T.any k
theorem T.bind_bind {α β γ : Type} {f : α → T β} {g : β → T γ} : ∀ {t : T α}, (t.bind f).bind g = t.bind fun a => (f a).bind g
  | .pure a => rfl
  | .pick m k => by show T.pick m _ = T.pick m _; congr 1; funext i; exact T.bind_bind
theorem T.bind_pure {α : Type} : ∀ {t : T α}, t.bind .pure = t
  | .pure a => rfl
  | .pick m k => by show T.pick m _ = T.pick m _; congr 1; funext i; exact T.bind_pure

/-- a slot's own list or dict, or the k-th of a slot's list of such -/
inductive Plc where
  | slot (i : Nat) | part (i k : Nat)
/-- what an expression, or a call, comes to: a value; a new list or dict; the list or dict of a slot itself; an exception -/
inductive R where
  | ok (d : D) | fresh (d : D) | own (l : Plc) | exn (c : Str) (f : List D) | bad
inductive RT where
  | ok (b : Bool) | exn (c : Str) (f : List D) | bad
/-- several; o: whether a slot's own is among them -/
inductive RL where
  | ok (ds : List D) (o : Bool) | exn (c : Str) (f : List D) | bad
inductive Sl where
  | emp | val (d : D) | own (d : D) | own2 (ds : List D)
abbrev Nv := List Sl
def Sl.ownD : Option Sl → Option D
  | some (.own d) => some d
  | _ => none
def Sl.own2D : Option Sl → Option (List D)
  | some (.own2 ds) => some ds
  | _ => none
@[simp] theorem Sl.ownD_own (d : D) : Sl.ownD (some (.own d)) = some d := rfl
@[simp] theorem Sl.ownD_val (d : D) : Sl.ownD (some (.val d)) = none := rfl
@[simp] theorem Sl.ownD_own2 (d : List D) : Sl.ownD (some (.own2 d)) = none := rfl
@[simp] theorem Sl.ownD_emp : Sl.ownD (some .emp) = none := rfl
@[simp] theorem Sl.own2D_own (d : D) : Sl.own2D (some (.own d)) = none := rfl
@[simp] theorem Sl.own2D_val (d : D) : Sl.own2D (some (.val d)) = none := rfl
@[simp] theorem Sl.own2D_own2 (d : List D) : Sl.own2D (some (.own2 d)) = some d := rfl
@[simp] theorem Sl.own2D_emp : Sl.own2D (some .emp) = none := rfl
def Nv.ownOf (n : Nv) : Plc → Option D
  | .slot i => Sl.ownD n[i]?
  | .part i k => (Sl.own2D n[i]?).bind fun ds => ds[k]?
def Nv.setOwn (n : Nv) (d : D) : Plc → Nv
  | .slot i => n.set i (.own d)
  | .part i k => match Sl.own2D n[i]? with
    | some ds => n.set i (.own2 (ds.set k d))
    | none => n
/-- for reading -/
def R.rdK (n : Nv) (k : D → T R) (r : R) : T R := match r with
  | .ok d => k d
  | .fresh d => k d
  | .own i => match n.ownOf i with
    | some d => k d
    | none => .pure .bad
  | .exn c f => .pure (.exn c f)
  | .bad => .pure .bad
def T.rd (t : T R) (n : Nv) (k : D → T R) : T R := t.bind (R.rdK n k)
def R.rdTK (n : Nv) (k : D → T RT) (r : R) : T RT := match r with
  | .ok d => k d
  | .fresh d => k d
  | .own i => match n.ownOf i with
    | some d => k d
    | none => .pure .bad
  | .exn c f => .pure (.exn c f)
  | .bad => .pure .bad
def T.rdT (t : T R) (n : Nv) (k : D → T RT) : T RT := t.bind (R.rdTK n k)
/-- one more in front -/
def RL.cons (d : D) (o' : Bool) : RL → RL
  | .ok ds o => .ok (d :: ds) (o || o')
  | .exn c f => .exn c f
  | .bad => .bad
def T.consL (d : D) (o' : Bool) (l : T RL) : T RL := l.bind fun l => .pure (l.cons d o')
def R.argK (n : Nv) (k : T RL) (r : R) : T RL := match r with
  | .ok d => T.consL d false k
  | .fresh d => T.consL d false k
  | .own i => match n.ownOf i with
    | some d => T.consL d true k
    | none => .pure .bad
  | .exn c f => .pure (.exn c f)
  | .bad => .pure .bad
def T.arg (t : T R) (n : Nv) (k : T RL) : T RL := t.bind (R.argK n k)
def RT.k (t : RT) (k : Bool → T R) : T R := match t with
  | .ok b => k b
  | .exn c f => .pure (.exn c f)
  | .bad => .pure .bad
def RT.kT (t : RT) (k : Bool → T RT) : T RT := match t with
  | .ok b => k b
  | .exn c f => .pure (.exn c f)
  | .bad => .pure .bad
def T.k (t : T RT) (k : Bool → T R) : T R := t.bind fun t => t.k k
def T.kT (t : T RT) (k : Bool → T RT) : T RT := t.bind fun t => t.kT k
/-- a result that holds none of the owned -/
def R.flatten : R → R
  | .ok d => if flat d = true then .ok d else .bad
  | .fresh (.lst ds) => if flatL ds = true then .fresh (.lst ds) else .bad
  | .exn c f => if flatL f = true then .exn c f else .bad
  | _ => .bad
/-- a def's result: no slot of its own -/
def R.call (r : R) : R := match r with
  | .own _ => .bad
  | r => r
/-- an operation's result: it raises nothing -/
def R.op (r : R) : R := match r with
  | .ok d => .ok d
  | .fresh d => .fresh d
  | _ => .bad
/-- an operation's results -/
def T.ops (t : T R) : T R := t.bind fun r => .pure r.op
def T.calls (t : T R) : T R := t.bind fun r => .pure r.call
def T.flats (t : T R) : T R := t.bind fun r => .pure r.flatten
def RL.call (φ : List D → T R) (l : RL) : T R := match l with
  | .ok ds false => (φ ds).calls
  | .ok ds true => (φ ds).flats
  | .exn c f => .pure (.exn c f)
  | .bad => .pure .bad
def T.call (l : T RL) (φ : List D → T R) : T R := l.bind (RL.call φ)
/-- the parts of a display -/
def RL.disp (k : List D → T R) (l : RL) : T R := match l with
  | .ok ds false => k ds
  | .ok _ true => .pure .bad
  | .exn c f => .pure (.exn c f)
  | .bad => .pure .bad
def T.disp (l : T RL) (k : List D → T R) : T R := l.bind (RL.disp k)
/-- a part of a slice -/
def R.part (b : Bool) (k : Option Int → T R) (r : R) : T R := match r with
  | .ok (.int i) => if b = true then .pure .bad else k (some i)
  | .ok .non => if b = true then k none else .pure .bad
  | .exn c f => .pure (.exn c f)
  | _ => .pure .bad
def T.part (b : Bool) (t : T R) (k : Option Int → T R) : T R := t.bind (R.part b k)

inductive Tg where
  | nm (i : Nat)
  | tp (ts : List Tg)
mutual
def bindT : Tg → D → Nv → Option Nv
  | .nm i, d, n => some (n.set i (.val d))
  | .tp ts, .tup ds, n => bindTs ts ds n
  | .tp ts, .lst ds, n => bindTs ts ds n
  | .tp _, _, _ => none
def bindTs : List Tg → List D → Nv → Option Nv
  | [], [], n => some n
  | t :: ts, d :: ds, n => match bindT t d n with
    | some n' => bindTs ts ds n'
    | none => none
  | _, _, _ => none
end
/-! the slots that it stores -/
mutual
def slotsT : Tg → List Nat
  | .nm i => [i]
  | .tp ts => slotsL ts
def slotsL : List Tg → List Nat
  | [] => []
  | t :: ts => slotsT t ++ slotsL ts
end

/-- what is walked: a value itself, a call of a built-in by its name, a method -/
inductive IK where
  | ex | cl (x : Str) (n : Nat) | mt (m : Str)

/-- xs[::k] -/
def cutS {α : Type} (xs : List α) (k : Int) : List α := (sliceRange (sliceBounds none none (some k) xs.length).1 (sliceBounds none none (some k) xs.length).2.1 (sliceBounds none none (some k) xs.length).2.2).filterMap (xs[·]?)
def ssD (k : Int) : D → R
  | .lst ds => if k ≠ 0 ∧ (cutS ds k).length < 1000000 then .fresh (.lst (cutS ds k)) else .bad
  | _ => .bad
inductive E where
  | v (i : Nat)
  | c (d : D)
  | g (x : Str) (d : D)
  | bin (op : Operator) (f : D → D → R) (a b : E)
  | un (op : UnaryOp) (f : D → R) (a : E)
  | cmp (op : CmpOp) (f : D → D → R) (a b : E)
  | chain (op op' : CmpOp) (f g : D → D → R) (a b c : E)
  | and (a b : E)
  | or (a b : E)
  | not (a : E)
  | ite (c a b : E)
  | tup (es : List E)
  | pwt (es : List E)
  | lst (es : List E)
  | dnew (d : D)
  | ix (f : D → D → T R) (a b : E)
  | sl (f : D → Option Int → Option Int → R) (a lo hi : E)
  | call (x : Str) (φ : List D → T R) (es : List E)
  | meth (m : Str) (φ : D → Option (List D → R)) (o : E) (es : List E)
  | fld (m : Str) (φ : D → R) (o : E)
  | isi (f : D → R) (a : E) (cs : List Str) (many : Bool)
  | gen (m : Scope → Expr → Option (List Expr)) (φ : List D → T R) (es : List E)
  | lc (t : Tg) (k : IK) (φ : List D → Option (List D)) (es : List E) (ifs elt : E) (own : List (Str × Nat))
  | pt (i : Nat) (k : E)
  | ss (k : Int) (a : E)

def isTrueC : E → Bool
  | .c (.bl true) => true
  | _ => false
def isNonC : E → Bool
  | .c .non => true
  | _ => false
/-- truth -/
def truth : D → RT
  | .non => .ok false
  | .bl b => .ok b
  | .int i => .ok (i != 0)
  | .tup ds => .ok (!ds.isEmpty)
  | .lst ds => .ok (!ds.isEmpty)
  | _ => .bad
/-- the two values that a test may have -/
def R.bool (r : R) : RT := match r with
  | .ok (.bl b) => .ok b
  | .exn c f => .exn c f
  | _ => .bad
def T.bk (t : T R) (k : Bool → T R) : T R := t.bind fun r => r.bool.k k
inductive RC where
  | skip | keep (d : D) | bad
def lcL0 (f : D → T RC) : List D → T (Option (List D))
  | [] => .pure (some [])
  | d :: ds => (f d).bind fun r => match r with
    | .keep x => (lcL0 f ds).bind fun o => match o with
      | some xs => .pure (some (x :: xs))
      | none => .pure none
    | .skip => lcL0 f ds
    | .bad => .pure none
/-- each item's part; not to be unfolded by itself -/
@[irreducible] def lcL (f : D → T RC) (ds : List D) : T (Option (List D)) := lcL0 f ds
theorem lcL_nil (f : D → T RC) : lcL f [] = .pure (some []) := by unfold lcL; rfl
theorem lcL_cons (f : D → T RC) (d : D) (ds : List D) : lcL f (d :: ds) = (f d).bind fun r => match r with
    | .keep x => (lcL f ds).bind fun o => match o with
      | some xs => .pure (some (x :: xs))
      | none => .pure none
    | .skip => lcL f ds
    | .bad => .pure none := by unfold lcL; rfl
def wipeN (n : Nv) : List Nat → Nv
  | [] => n
  | i :: r => wipeN (n.set i .emp) r
def R.keep : R → RC
  | .ok d => .keep d
  | .fresh d => .keep d
  | _ => .bad
def RT.keep (k : T R) (t : RT) : T RC := match t with
  | .ok true => k.bind fun r => .pure r.keep
  | .ok false => .pure .skip
  | _ => .pure .bad
def T.keep (t : T RT) (k : T R) : T RC := t.bind (RT.keep k)
def lineMax : Nat := 16777216
def turn (t : Tg) (n : Nv) (c : Nv → T RT) (e : Nv → T R) (d : D) : T RC := match bindT t d n with
  | some n' => (c n').keep (e n')
  | none => .pure .bad
def R.ofList : Option (List D) → R
  | some xs => .fresh (.lst xs)
  | none => .bad
def RL.lc (φ : List D → Option (List D)) (f : D → T RC) (l : RL) : T R := match l with
  | .ok ds o => match φ ds with
    | some items => if (!(o && !flatL items) && decide (items.length ≤ lineMax)) = true then (lcL f items).bind fun x => .pure (R.ofList x) else .pure .bad
    | none => .pure .bad
  | .exn c f => .pure (.exn c f)
  | .bad => .pure .bad
def T.lc (l : T RL) (φ : List D → Option (List D)) (f : D → T RC) : T R := l.bind (RL.lc φ f)
def Sl.truth : Option Sl → RT
  | some (.val d) => PM.truth d
  | some (.own d) => PM.truth d
  | _ => .bad
def Sl.get (i : Nat) : Option Sl → R
  | some (.val d) => .ok d
  | some (.own _) => .own (.slot i)
  | _ => .bad
def truthT (d : D) : T RT := .pure (truth d)
def intsOf : List D → Option (List Int)
  | [] => some []
  | .int i :: ds => match intsOf ds with
    | some is => some (i :: is)
    | none => none
  | _ => none
/-- a new tuple of ints -/
def pwR (ds : List D) : R := match intsOf ds with
  | some is => .ok (.pw is)
  | none => .bad

/-- one of a list of lists that change -/
def ptR (ds : List D) (i : Nat) : D → R
  | .int j => if 0 ≤ j ∧ j < ds.length then .own (.part i j.toNat) else .bad
  | _ => .bad
def ptK (n : Nv) (i : Nat) (t : T R) : T R := match Sl.own2D n[i]? with
  | some ds => t.rd n fun y => .pure (ptR ds i y)
  | none => .pure .bad
/-- a method's call, the receiver read -/
def T.methK (f : Option (List D → R)) (l : T RL) : T R := match f with
  | some f => l.disp fun ds => .pure (f ds).call
  | none => .pure .bad
mutual
def ev : E → Nv → T R
  | .v i, n => .pure (Sl.get i n[i]?)
  | .c d, _ => .pure (.ok d)
  | .g _ d, _ => .pure (.ok d)
  | .bin _ f a b, n => (ev a n).rd n fun x => (ev b n).rd n fun y => .pure (f x y).op
  | .un _ f a, n => (ev a n).rd n fun x => .pure (f x).op
  | .cmp _ f a b, n => (ev a n).rd n fun x => (ev b n).rd n fun y => .pure (f x y).op
  | .chain _ _ f g a b c, n => (ev a n).rd n fun x => (ev b n).rd n fun y => (f x y).op.bool.k fun t => if t = true then (ev c n).rd n fun z => .pure (g y z).op else .pure (.ok (.bl false))
  | .and a b, n => (ev a n).bk fun t => if t = true then (ev b n) else .pure (.ok (.bl false))
  | .or a b, n => (ev a n).bk fun t => if t = true then .pure (.ok (.bl true)) else (ev b n)
  | .not a, n => (ev a n).bk fun t => .pure (.ok (.bl (!t)))
  | .ite c a b, n => (evT c n).k fun t => if t = true then ev a n else ev b n
  | .tup es, n => (evs es n).disp fun ds => .pure (.ok (.tup ds))
  | .pwt es, n => (evs es n).disp fun ds => .pure (pwR ds)
  | .lst es, n => (evs es n).disp fun ds => .pure (.fresh (.lst ds))
  | .dnew d, _ => .pure (.fresh d)
  | .ix f a b, n => (ev a n).rd n fun x => (ev b n).rd n fun y => (f x y).ops
  | .sl f a lo hi, n => (ev a n).rd n fun x => T.part (isNonC lo) (ev lo n) fun i => T.part (isNonC hi) (ev hi n) fun j => .pure (f x i j).op
  | .call _ φ es, n => (evs es n).call φ
  | .meth _ φ o es, n => (ev o n).rd n fun x => T.methK (φ x) (evs es n)
  | .fld _ φ o, n => (ev o n).rd n fun x => .pure (φ x).op
  | .isi f a _ _, n => (ev a n).rd n fun x => .pure (f x).op
  | .gen _ φ es, n => (evs es n).call φ
  | .lc t _ φ es ifs elt own, n => (evs es n).lc φ (turn t (wipeN n (own.map (·.2))) (fun n' => evT ifs n') (fun n' => ev elt n'))
  | .pt i k, n => ptK n i (ev k n)
  | .ss k a, n => (ev a n).rd n fun x => .pure (ssD k x).op
def evT : E → Nv → T RT
  | .and a b, n => (evT a n).kT fun t => if t = true then evT b n else .pure (.ok false)
  | .or a b, n => (evT a n).kT fun t => if t = true then .pure (.ok true) else evT b n
  | .not a, n => (evT a n).kT fun t => .pure (.ok (!t))
  | .cmp _ f a b, n => (ev a n).rdT n fun x => (ev b n).rdT n fun y => .pure (f x y).op.bool
  | .chain _ _ f g a b c, n => (ev a n).rdT n fun x => (ev b n).rdT n fun y => (f x y).op.bool.kT fun t => if t = true then (ev c n).rdT n fun z => .pure (g y z).op.bool else .pure (.ok false)
  | .v i, n => .pure (Sl.truth n[i]?)
  | .c d, _ => .pure (truth d)
  | .call _ φ es, n => ((evs es n).call φ).rdT n truthT
  | .isi f a _ _, n => (ev a n).rdT n fun x => .pure (f x).op.bool
  | .gen _ φ es, n => ((evs es n).call φ).rdT n truthT
  | .meth _ φ o es, n => ((ev o n).rd n fun x => T.methK (φ x) (evs es n)).rdT n truthT
  | .bin _ f a b, n => ((ev a n).rd n fun x => (ev b n).rd n fun y => .pure (f x y).op).rdT n truthT
  | .ix f a b, n => ((ev a n).rd n fun x => (ev b n).rd n fun y => (f x y).ops).rdT n truthT
  | _, _ => .pure .bad
def evs : List E → Nv → T RL
  | [], _ => .pure (.ok [] false)
  | e :: es, n => (ev e n).arg n (evs es n)
end

/-- a statement's end -/
inductive RS where
  | next (n : Nv) | ret (r : R) | brk (n : Nv) | cont (n : Nv) | exn (n : Nv) (c : Str) (f : List D) | bad

inductive S where
  | set (i : Nat) (e : E)
  | tgt (ts : List Tg) (e : E)
  | par (i j : Nat) (a b : E)
  | mut (i : Nat) (m : Str) (φ : D → Option (List D → Option D)) (es : List E)
  | seti (i : Nat) (f : D → D → D → Option D) (k e : E)
  | gens (m : List Str → Scope → Stmt → Option (List Expr)) (ψ : Nv → RL → T RS) (es : List E)
  | setp (i : Nat) (k e : E)
  | expr (e : E)
  | ifs (c : E) (a b : List S)
  | whl (fuel : Nv → Nat) (c : E) (body : List S)
  | for_ (t : Tg) (k : IK) (φ : List D → Option (List D)) (es : List E) (body : List S)
  | ret (e : E)
  | retN
  | raise (x : Str) (es : List E) (f : List D → Option (List D))
  | pass
  | brk
  | cont
  | tryx (body : List S) (x : Str) (sub : Str → Option Bool) (i j : Nat)
  | frz (i : Nat)
  | mv (i j : Nat)
  | mut2 (i : Nat) (k : E) (m : Str) (φ : D → Option (List D → Option D)) (es : List E)
  | seti2 (i : Nat) (k : E) (f : D → D → D → Option D) (j e : E)
  | set2 (i : Nat) (t : Tg) (k : IK) (φ : List D → Option (List D)) (es : List E) (elt : E) (own : List (Str × Nat))

/-- a value is stored at a name -/
def R.store (n : Nv) (i : Nat) (r : R) : RS := match r with
  | .ok d => .next (n.set i (.val d))
  | .fresh d => .next (n.set i (.own d))
  | .exn c f => .exn n c f
  | _ => .bad
def T.store (t : T R) (n : Nv) (i : Nat) : T RS := t.bind fun r => .pure (r.store n i)
/-- a value to be kept: not a slot's own -/
def R.val (n : Nv) (k : D → T RS) (r : R) : T RS := match r with
  | .ok d => k d
  | .fresh d => k d
  | .exn c f => .pure (.exn n c f)
  | _ => .pure .bad
def T.val (t : T R) (n : Nv) (k : D → T RS) : T RS := t.bind (R.val n k)
def RL.vals (n : Nv) (k : List D → T RS) (l : RL) : T RS := match l with
  | .ok ds false => k ds
  | .ok _ true => .pure .bad
  | .exn c f => .pure (.exn n c f)
  | .bad => .pure .bad
def T.vals (n : Nv) (l : T RL) (k : List D → T RS) : T RS := l.bind (RL.vals n k)
def RT.s (n : Nv) (k : Bool → T RS) (t : RT) : T RS := match t with
  | .ok b => k b
  | .exn c f => .pure (.exn n c f)
  | .bad => .pure .bad
def T.s (n : Nv) (t : T RT) (k : Bool → T RS) : T RS := t.bind (RT.s n k)
def R.ret (n : Nv) (r : R) : RS := match r with
  | .ok d => .ret (.ok d)
  | .fresh d => .ret (.fresh d)
  | .own i => match n.ownOf i with
    | some d => .ret (.fresh d)
    | none => .bad
  | .exn c f => .exn n c f
  | .bad => .bad
def T.ret (t : T R) (n : Nv) : T RS := t.bind fun r => .pure (r.ret n)
def whileL0 (c : Nv → T RT) (b : Nv → T RS) : Nat → Nv → T RS
  | 0, _ => .pure .bad
  | k + 1, n => (c n).bind fun t => match t with
    | .ok true => (b n).bind fun r => match r with
      | .next n' => whileL0 c b k n'
      | .cont n' => whileL0 c b k n'
      | .brk n' => .pure (.next n')
      | r => .pure r
    | .ok false => .pure (.next n)
    | .exn c f => .pure (.exn n c f)
    | .bad => .pure .bad
@[irreducible] def whileL (c : Nv → T RT) (b : Nv → T RS) (k : Nat) (n : Nv) : T RS := whileL0 c b k n
theorem whileL_z (c : Nv → T RT) (b : Nv → T RS) (n : Nv) : whileL c b 0 n = .pure .bad := by unfold whileL; rfl
theorem whileL_s (c : Nv → T RT) (b : Nv → T RS) (k : Nat) (n : Nv) : whileL c b (k + 1) n = (c n).bind fun t => match t with
    | .ok true => (b n).bind fun r => match r with
      | .next n' => whileL c b k n'
      | .cont n' => whileL c b k n'
      | .brk n' => .pure (.next n')
      | r => .pure r
    | .ok false => .pure (.next n)
    | .exn c f => .pure (.exn n c f)
    | .bad => .pure .bad := by unfold whileL; rfl
def forL0 (b : D → Nv → T RS) : List D → Nv → T RS
  | [], n => .pure (.next n)
  | d :: ds, n => (b d n).bind fun r => match r with
    | .next n' => forL0 b ds n'
    | .cont n' => forL0 b ds n'
    | .brk n' => .pure (.next n')
    | r => .pure r
@[irreducible] def forL (b : D → Nv → T RS) (ds : List D) (n : Nv) : T RS := forL0 b ds n
theorem forL_nil (b : D → Nv → T RS) (n : Nv) : forL b [] n = .pure (.next n) := by unfold forL; rfl
theorem forL_cons (b : D → Nv → T RS) (d : D) (ds : List D) (n : Nv) : forL b (d :: ds) n = (b d n).bind fun r => match r with
    | .next n' => forL b ds n'
    | .cont n' => forL b ds n'
    | .brk n' => .pure (.next n')
    | r => .pure r := by unfold forL; rfl
def RS.seqK (k : Nv → T RS) (r : RS) : T RS := match r with
  | .next n => k n
  | r => .pure r
def T.seq (t : T RS) (k : Nv → T RS) : T RS := t.bind (RS.seqK k)

def bindK (ts : List Tg) (n : Nv) (d : D) : T RS := match bindT (.tp ts) d n with
  | some n' => .pure (.next n')
  | none => .pure .bad
def T.mutL (l : T RL) (n : Nv) (L : Plc) (φ : D → Option (List D → Option D)) : T RS := match n.ownOf L with
  | some d => (match φ d with
    | some f => T.vals n l fun ds => match f ds with
      | some d' => .pure (.next (n.setOwn d' L))
      | none => .pure .bad
    | none => .pure .bad)
  | none => .pure .bad
def T.mut (l : T RL) (n : Nv) (i : Nat) (φ : D → Option (List D → Option D)) : T RS := match n.ownOf (.slot i) with
  | some d => (match φ d with
    | some f => T.vals n l fun ds => match f ds with
      | some d' => .pure (.next (n.set i (.own d')))
      | none => .pure .bad
    | none => .pure .bad)
  | none => .pure .bad
def setiL (n : Nv) (L : Plc) (f : D → D → D → Option D) (x y : D) : T RS := match n.ownOf L with
  | some d => match f d y x with
    | some d' => .pure (.next (n.setOwn d' L))
    | none => .pure .bad
  | none => .pure .bad
def setiK (n : Nv) (i : Nat) (f : D → D → D → Option D) (x y : D) : T RS := match n.ownOf (.slot i) with
  | some d => match f d y x with
    | some d' => .pure (.next (n.set i (.own d')))
    | none => .pure .bad
  | none => .pure .bad
def ownK (n : Nv) (i : Nat) (r : T RS) : T RS := match n.ownOf (.slot i) with
  | some _ => r
  | none => .pure .bad
/-- where a part stands, then the rest -/
def R.locK (n : Nv) (k : Plc → T RS) (r : R) : T RS := match r with
  | .own L => k L
  | .exn c f => .pure (.exn n c f)
  | _ => .pure .bad
def T.loc (t : T R) (n : Nv) (k : Plc → T RS) : T RS := t.bind (R.locK n k)
def R.keepO : R → RC
  | .fresh d => .keep d
  | _ => .bad
def turnO (t : Tg) (n : Nv) (e : Nv → T R) (d : D) : T RC := match bindT t d n with
  | some n' => (e n').bind fun r => .pure r.keepO
  | none => .pure .bad
def RS.of2 (n : Nv) (i : Nat) : Option (List D) → RS
  | some xs => .next (n.set i (.own2 xs))
  | none => .bad
def RL.lc2 (n : Nv) (i : Nat) (φ : List D → Option (List D)) (f : D → T RC) (l : RL) : T RS := match l with
  | .ok ds o => match φ ds with
    | some items => if (!(o && !flatL items) && decide (items.length ≤ lineMax)) = true then (lcL f items).bind fun x => .pure (RS.of2 n i x) else .pure .bad
    | none => .pure .bad
  | .exn c f => .pure (.exn n c f)
  | .bad => .pure .bad
def T.lc2 (l : T RL) (n : Nv) (i : Nat) (φ : List D → Option (List D)) (f : D → T RC) : T RS := l.bind (RL.lc2 n i φ f)
/-- a number of those that are drawn from is stored -/
def setpK (n : Nv) : D → D → T RS
  | .int v, .int j => if (j = 0 ∨ j = 1) ∧ 0 ≤ v ∧ (j = 1 → v < 9223372036854775808) then .pure (.next n) else .pure .bad
  | _, _ => .pure .bad
def poolK (n : Nv) (i : Nat) (r : T RS) : T RS := match n[i]? with
  | some (.val .pool) => r
  | _ => .pure .bad
def R.drop (n : Nv) (r : R) : RS := match r with
  | .exn c f => .exn n c f
  | .bad => .bad
  | _ => .next n
def T.drop (t : T R) (n : Nv) : T RS := t.bind fun r => .pure (r.drop n)
def turnS (t : Tg) (b : Nv → T RS) (d : D) (n : Nv) : T RS := match bindT t d n with
  | some n' => b n'
  | none => .pure .bad
def T.for_ (l : T RL) (n : Nv) (φ : List D → Option (List D)) (b : D → Nv → T RS) : T RS := T.vals n l fun ds => match φ ds with
  | some items => forL b items n
  | none => .pure .bad
def raiseK (n : Nv) (x : Str) : Option (List D) → T RS
  | some fs => .pure (.exn n x fs)
  | none => .pure .bad
/-- except x as i: j = i -/
def RS.tryK (sub : Str → Option Bool) (i j : Nat) (r : RS) : RS := match r with
  | .exn n c f => match sub c with
    | some true => if i = j then .bad else .next ((n.set j (.val (.exn c f))).set i .emp)
    | some false => .exn n c f
    | none => .bad
  | r => r
def T.tryK (t : T RS) (sub : Str → Option Bool) (i j : Nat) : T RS := t.bind fun r => .pure (r.tryK sub i j)
def frzK (n : Nv) (i : Nat) : RS := match n.ownOf (.slot i) with
  | some d => .next (n.set i (.val d))
  | none => match Sl.own2D n[i]? with
    | some ds => .next (n.set i (.val (.lst ds)))
    | none => .next n
def mvK (n : Nv) (i j : Nat) : RS := match n.ownOf (.slot j) with
  | some d => .next ((n.set j .emp).set i (.own d))
  | none => .bad

mutual
def ex : S → Nv → T RS
  | .set i e, n => (ev e n).store n i
  | .tgt ts e, n => (ev e n).val n (bindK ts n)
  | .par i j a b, n => (ev a n).val n fun x => (ev b n).val n fun y => .pure (.next ((n.set i (.val x)).set j (.val y)))
  | .mut i _ φ es, n => (evs es n).mut n i φ
  | .seti i f k e, n => (ev e n).val n fun x => ownK n i ((ev k n).val n fun y => setiK n i f x y)
  | .gens _ ψ es, n => (evs es n).bind (ψ n)
  | .setp i k e, n => (ev e n).val n fun x => poolK n i ((ev k n).val n fun y => setpK n x y)
  | .expr e, n => (ev e n).drop n
  | .ifs c a b, n => T.s n (evT c n) fun t => if t = true then exs a n else exs b n
  | .whl fuel c body, n => whileL (fun n' => evT c n') (fun n' => exs body n') (fuel n) n
  | .for_ t _ φ es body, n => (evs es n).for_ n φ (turnS t (fun n' => exs body n'))
  | .ret e, n => (ev e n).ret n
  | .retN, _ => .pure (.ret (.ok .non))
  | .raise x es f, n => T.vals n (evs es n) fun ds => raiseK n x (f ds)
  | .pass, n => .pure (.next n)
  | .brk, n => .pure (.brk n)
  | .cont, n => .pure (.cont n)
  | .tryx body _ sub i j, n => (exs body n).tryK sub i j
  | .frz i, n => .pure (frzK n i)
  | .mv i j, n => .pure (mvK n i j)
  | .mut2 i k _ φ es, n => (ev (.pt i k) n).loc n fun L => (evs es n).mutL n L φ
  | .seti2 i k f j e, n => (ev e n).val n fun x => (ev (.pt i k) n).loc n fun L => (ev j n).val n fun y => setiL n L f x y
  | .set2 i t _ φ es elt own, n => (evs es n).lc2 n i φ (turnO t (wipeN n (own.map (·.2))) (fun n' => ev elt n'))
def exs : List S → Nv → T RS
  | [], n => .pure (.next n)
  | s :: ss, n => (ex s n).seq fun n' => exs ss n'
end

/-- a def: its parameters' number, its names' number, its body -/
def startN (k : Nat) (ds : List D) : Nv := ds.map .val ++ List.replicate (k - ds.length) .emp
/-- a def's end -/
def RS.out : RS → R
  | .next _ => .ok .non
  | .ret (.ok d) => .ok d
  | .ret (.fresh d) => .fresh d
  | .exn _ c f => .exn c f
  | _ => .bad
/-- a def by data: its parameters' number, its names' number, its body -/
def runF (p k : Nat) (body : List S) (ds : List D) : T R := if ds.length = p then (exs body (startN k ds)).bind fun r => .pure r.out else .pure .bad
end PM

set_option Elab.async false
set_option linter.all false
set_option maxRecDepth 100000
set_option maxHeartbeats 2000000
/-! PM2: what is wanted behind what an expression comes to; readings; the laws of their parts. -/
namespace PM
open PySem PySem.Spec L2
open PyProof.Rows hiding St

theorem intsOf_den {Z : Wd} {H : Hp} {B : Addr → Prop} : ∀ {ds : List D} {is : List Int} {vs : List V}, intsOf ds = some is → DenL Z H B ds vs → vs = is.map V.int
  | [], is, vs, e, h => by unfold intsOf at e; cases e; unfold DenL at h; exact h
  | d :: ds, is, vs, e, h => by
    cases d with
    | int i =>
      unfold intsOf at e
      cases e1 : intsOf ds with
      | none => rw [e1] at e; cases e
      | some js =>
        rw [e1] at e
        cases e
        unfold DenL at h
        obtain ⟨v, r, rfl, h1, h2⟩ := h
        unfold Den at h1
        rw [h1, intsOf_den e1 h2]
        rfl
    | _ => unfold intsOf at e; cases e
abbrev WE := Value → Option Addr → Hp → Prop
abbrev WE0 : WE := fun _ _ _ => False
/-- the slots denote; B: all that may change -/
structure RelB (Z : Wd) (n : Nv) (σ : St) (H : Hp) (B : Addr → Prop) : Prop where
  val : ∀ (i : Nat) (d : D), n[i]? = some (.val d) → ∃ v, σ[i]? = some (some v) ∧ Den Z H B d v
  own : ∀ (i : Nat) (d : D), n[i]? = some (.own d) → ∃ p, σ[i]? = some (some (.ref p)) ∧ B p ∧ OwnAt Z H B p d
  bt : ∀ a, B a → ∃ o, H a = some o ∧ isMut o = true
  len : σ.length = n.length
  own2 : ∀ (i : Nat) (ds : List D), n[i]? = some (.own2 ds) → ∃ (p : Addr) (qs : List Addr), σ[i]? = some (some (.ref p)) ∧ B p ∧ H p = some (.lst (qs.map V.ref)) ∧ (p :: qs).Nodup ∧ OwnL Z H B qs ds
/-- a place -/
def At (σ : St) (H : Hp) : Plc → Addr → Prop
  | .slot i, p => σ[i]? = some (some (.ref p))
  | .part i k, p => ∃ (a : Addr) (qs : List Addr), σ[i]? = some (some (.ref a)) ∧ H a = some (.lst (qs.map V.ref)) ∧ qs[k]? = some p
theorem refs_inj {a b : List Addr} (h : a.map V.ref = b.map V.ref) : a = b := (List.map_inj_right fun x y z => by cases z; rfl).mp h
theorem At.uniq {σ : St} {H : Hp} {l : Plc} {p q : Addr} (h : At σ H l p) (g : At σ H l q) : p = q := by
  cases l with
  | slot i =>
    have h : σ[i]? = some (some (.ref p)) := h
    have g : σ[i]? = some (some (.ref q)) := g
    rw [h] at g
    cases g; rfl
  | part i k =>
    obtain ⟨a, qs, h1, h2, h3⟩ := h
    obtain ⟨b, rs, g1, g2, g3⟩ := g
    rw [h1] at g1
    cases g1
    rw [h2] at g2
    have e := refs_inj (show qs.map V.ref = rs.map V.ref by injection g2 with g2; injection g2)
    subst e
    rw [h3] at g3
    cases g3; rfl
theorem own_eq {n : Nv} {i : Nat} {d : D} : Sl.ownD n[i]? = some d ↔ n[i]? = some (.own d) := by
  cases h : n[i]? with
  | none => constructor <;> intro z <;> cases z
  | some s => cases s <;> constructor <;> intro z <;> cases z <;> rfl
theorem own2_eq {n : Nv} {i : Nat} {d : List D} : Sl.own2D n[i]? = some d ↔ n[i]? = some (.own2 d) := by
  cases h : n[i]? with
  | none => constructor <;> intro z <;> cases z
  | some s => cases s <;> constructor <;> intro z <;> cases z <;> rfl
theorem RelB.at_ {Z : Wd} {n : Nv} {σ : St} {H : Hp} {B : Addr → Prop} (r : RelB Z n σ H B) {l : Plc} {d : D} (h : n.ownOf l = some d) : ∃ p, At σ H l p ∧ B p ∧ OwnAt Z H B p d := by
  cases l with
  | slot i => exact r.own i d (own_eq.mp h)
  | part i k =>
    have h : (Sl.own2D n[i]?).bind (fun ds => ds[k]?) = some d := h
    cases e : Sl.own2D n[i]? with
    | none => rw [e] at h; cases h
    | some ds =>
      rw [e] at h
      obtain ⟨p, qs, h1, h2, h3, h4, h5⟩ := r.own2 i ds (own2_eq.mp e)
      obtain ⟨q, g1, g2, g3⟩ := h5.get h
      exact ⟨q, ⟨p, qs, h1, h3, g1⟩, g2, g3⟩
def ExnD (Z : Wd) (f : List D) (cd : Option Addr) (H : Hp) (B : Addr → Prop) : Prop :=
  (f = [] ∧ cd = none) ∨ ∃ dd w, cd = some dd ∧ H dd = some (.xd [(("number" : Str), w)]) ∧ DenL Z H B f [w]
def PostX (Z : Wd) (W : WE) (c : Str) (f : List D) (H : Hp) (B : Addr → Prop) : Prop := ∀ H' cd, Ex H H' → ExnD Z f cd H' B → W (.ref (Z.cl c)) cd H'
/-- of a call, an operation -/
def PostF1 (Z : Wd) (W : WE) (H : Hp) (B : Addr → Prop) (Q : VK) (r : R) : Prop := match r with
  | .ok d => ∀ v H', Ex H H' → Den Z H' B d v → Q v H'
  | .fresh d => ∀ p H', H p = none → Ex H H' → OwnAt Z H' (fun a => B a ∨ a = p) p d → Q (.ref p) H'
  | .own _ => False
  | .exn c f => PostX Z W c f H B
  | .bad => False
def PostE1 (Z : Wd) (W : WE) (σ : St) (H : Hp) (B : Addr → Prop) (Q : VK) (r : R) : Prop := match r with
  | .ok d => ∀ v H', Ex H H' → Den Z H' B d v → Q v H'
  | .fresh d => ∀ p H', H p = none → Ex H H' → OwnAt Z H' (fun a => B a ∨ a = p) p d → Q (.ref p) H'
  | .own l => ∀ p H', Ex H H' → At σ H' l p → Q (.ref p) H'
  | .exn c f => PostX Z W c f H B
  | .bad => False
def PostT1 (Z : Wd) (W : WE) (H : Hp) (B : Addr → Prop) (Q : Bool → Hp → Prop) (t : RT) : Prop := match t with
  | .ok b => ∀ H', Ex H H' → Q b H'
  | .exn c f => PostX Z W c f H B
  | .bad => False
def PostL1 (Z : Wd) (W : WE) (H : Hp) (B : Addr → Prop) (Q : List V → Hp → Prop) (l : RL) : Prop := match l with
  | .ok ds false => ∀ vs H', Ex H H' → DenL Z H' B ds vs → Q vs H'
  | .ok ds true => ∀ vs H', Ex H H' → DenL Z H' (fun _ => False) ds vs → Q vs H'
  | .exn c f => PostX Z W c f H B
  | .bad => False
def PostF (Z : Wd) (W : WE) (r : T R) (H : Hp) (B : Addr → Prop) (Q : VK) : Prop := r.all (PostF1 Z W H B Q)
def PostE (Z : Wd) (W : WE) (r : T R) (σ : St) (H : Hp) (B : Addr → Prop) (Q : VK) : Prop := r.all (PostE1 Z W σ H B Q)
def PostT (Z : Wd) (W : WE) (r : T RT) (H : Hp) (B : Addr → Prop) (Q : Bool → Hp → Prop) : Prop := r.all (PostT1 Z W H B Q)
def PostL (Z : Wd) (W : WE) (r : T RL) (H : Hp) (B : Addr → Prop) (Q : List V → Hp → Prop) : Prop := r.all (PostL1 Z W H B Q)

section
variable {Z : Wd} {W : WE} {n : Nv} {σ : St} {H H' : Hp} {B : Addr → Prop} {Q Q' : VK} {r : T R}
theorem RelB.ex (e : Ex H H') (h : RelB Z n σ H B) : RelB Z n σ H' B :=
  ⟨fun i d q => let ⟨v, a, b⟩ := h.val i d q; ⟨v, a, b.ex e⟩, fun i d q => let ⟨p, a, b, c⟩ := h.own i d q; ⟨p, a, b, c.ex e⟩, fun a q => let ⟨o, z, m⟩ := h.bt a q; ⟨o, e a o z, m⟩, h.len, fun i ds q => let ⟨p, qs, a, b, c, d, f⟩ := h.own2 i ds q; ⟨p, qs, a, b, e p _ c, d, f.ex e⟩⟩
theorem PostX.ex {c : Str} {f : List D} (e : Ex H H') (h : PostX Z W c f H B) : PostX Z W c f H' B := fun H2 cd e2 q => h H2 cd (e.trans e2) q
theorem PostF1.ex {r : R} (e : Ex H H') (h : PostF1 Z W H B Q r) : PostF1 Z W H' B Q r := by
  cases r with
  | ok d => exact fun v H2 e2 q => h v H2 (e.trans e2) q
  | fresh d => exact fun p H2 hp e2 q => h p H2 (e.free hp) (e.trans e2) q
  | own i => exact h
  | exn c f => exact PostX.ex e h
  | bad => exact h
theorem PostE1.ex {r : R} (e : Ex H H') (h : PostE1 Z W σ H B Q r) : PostE1 Z W σ H' B Q r := by
  cases r with
  | ok d => exact fun v H2 e2 q => h v H2 (e.trans e2) q
  | fresh d => exact fun p H2 hp e2 q => h p H2 (e.free hp) (e.trans e2) q
  | own i => exact fun p H2 e2 q => h p H2 (e.trans e2) q
  | exn c f => exact PostX.ex e h
  | bad => exact h
theorem PostT1.ex {t : RT} {Q : Bool → Hp → Prop} (e : Ex H H') (h : PostT1 Z W H B Q t) : PostT1 Z W H' B Q t := by
  cases t with
  | ok b => exact fun H3 e3 => h H3 (e.trans e3)
  | exn c f => exact PostX.ex e h
  | bad => exact h
theorem PostL1.ex {l : RL} {QL : List V → Hp → Prop} (e : Ex H H') (h : PostL1 Z W H B QL l) : PostL1 Z W H' B QL l := by
  cases l with
  | ok ds o => cases o with
    | false => exact fun v H2 e2 q => h v H2 (e.trans e2) q
    | true => exact fun v H2 e2 q => h v H2 (e.trans e2) q
  | exn c f => exact PostX.ex e h
  | bad => exact h
theorem PostF.ex (e : Ex H H') (h : PostF Z W r H B Q) : PostF Z W r H' B Q := T.mono (fun _ => PostF1.ex e) h
theorem PostE.ex (e : Ex H H') (h : PostE Z W r σ H B Q) : PostE Z W r σ H' B Q := T.mono (fun _ => PostE1.ex e) h
theorem PostT.ex {t : T RT} {Q : Bool → Hp → Prop} (e : Ex H H') (h : PostT Z W t H B Q) : PostT Z W t H' B Q := T.mono (fun _ => PostT1.ex e) h
theorem PostL.ex {l : T RL} {QL : List V → Hp → Prop} (e : Ex H H') (h : PostL Z W l H B QL) : PostL Z W l H' B QL := T.mono (fun _ => PostL1.ex e) h
theorem PostE1.mono {r : R} (h : PostE1 Z W σ H B Q r) (k : ∀ v H', Ex H H' → Q v H' → Q' v H') : PostE1 Z W σ H B Q' r := by
  cases r with
  | ok d => exact fun v H2 e2 q => k v H2 e2 (h v H2 e2 q)
  | fresh d => exact fun p H2 hp e2 q => k _ H2 e2 (h p H2 hp e2 q)
  | own i => exact fun p H2 e2 q => k _ H2 e2 (h p H2 e2 q)
  | exn c f => exact h
  | bad => exact h
theorem PostE.mono (h : PostE Z W r σ H B Q) (k : ∀ v H', Ex H H' → Q v H' → Q' v H') : PostE Z W r σ H B Q' := T.mono (fun _ h => PostE1.mono h k) h
theorem PostE.bind {α : Type} {t : T α} {f : α → T R} {P : α → Prop} (h : PostE Z W (t.bind f) σ H B Q) (k : ∀ a, PostE Z W (f a) σ H B Q → P a) : t.all P := T.mono k (T.all_bind.mp h)
theorem PostT.bind {α : Type} {t : T α} {f : α → T RT} {QT : Bool → Hp → Prop} {P : α → Prop} (h : PostT Z W (t.bind f) H B QT) (k : ∀ a, PostT Z W (f a) H B QT → P a) : t.all P := T.mono k (T.all_bind.mp h)
theorem PostL.bind {α : Type} {t : T α} {f : α → T RL} {QT : List V → Hp → Prop} {P : α → Prop} (h : PostL Z W (t.bind f) H B QT) (k : ∀ a, PostL Z W (f a) H B QT → P a) : t.all P := T.mono k (T.all_bind.mp h)
/-- reading an operand, then the rest -/
theorem post_rd {k : D → T R} (rel : RelB Z n σ H B) (h : PostE Z W (r.rd n k) σ H B Q)
    (K : ∀ v H' d, Ex H H' → RdD Z H' B d v → RelB Z n σ H' B → PostE Z W (k d) σ H' B Q → Q' v H') : PostE Z W r σ H B Q' := by
  refine PostE.bind h fun r h => ?_
  cases r with
  | ok d => exact fun v H2 e2 q => K v H2 d e2 (.inl q) (rel.ex e2) (PostE.ex e2 h)
  | fresh d => exact fun p H2 hp e2 q => K _ H2 d e2 (.inr ⟨p, rfl, q.less fun a z => .inl z⟩) (rel.ex e2) (PostE.ex e2 h)
  | own i =>
    intro p H2 e2 q
    unfold R.rdK at h
    cases e : n.ownOf i with
    | none => simp only [e] at h; exact h.elim
    | some d =>
      simp only [e] at h
      obtain ⟨p', hp, hb, ho⟩ := (rel.ex e2).at_ e
      cases hp.uniq q
      exact K _ H2 d e2 (.inr ⟨_, rfl, ho⟩) (rel.ex e2) (PostE.ex e2 h)
  | exn c f => exact h
  | bad => exact h
theorem post_rdT {k : D → T RT} {QT : Bool → Hp → Prop} (rel : RelB Z n σ H B) (h : PostT Z W (r.rdT n k) H B QT)
    (K : ∀ v H' d, Ex H H' → RdD Z H' B d v → RelB Z n σ H' B → PostT Z W (k d) H' B QT → Q' v H') : PostE Z W r σ H B Q' := by
  refine PostT.bind h fun r h => ?_
  cases r with
  | ok d => exact fun v H2 e2 q => K v H2 d e2 (.inl q) (rel.ex e2) (PostT.ex e2 h)
  | fresh d => exact fun p H2 hp e2 q => K _ H2 d e2 (.inr ⟨p, rfl, q.less fun a z => .inl z⟩) (rel.ex e2) (PostT.ex e2 h)
  | own i =>
    intro p H2 e2 q
    unfold R.rdTK at h
    cases e : n.ownOf i with
    | none => simp only [e] at h; exact h.elim
    | some d =>
      simp only [e] at h
      obtain ⟨p', hp, hb, ho⟩ := (rel.ex e2).at_ e
      cases hp.uniq q
      exact K _ H2 d e2 (.inr ⟨_, rfl, ho⟩) (rel.ex e2) (PostT.ex e2 h)
  | exn c f => exact h
  | bad => exact h
theorem PostF.post (h : PostE Z W r.calls σ H B Q) : PostF Z W r H B Q := by
  refine PostE.bind h fun r h => ?_
  cases r with
  | own i => exact (show False from h)
  | ok d => exact h
  | fresh d => exact h
  | exn c f => exact h
  | bad => exact h
theorem PostF.call1 {r : R} (h : PostE Z W (.pure r.call) σ H B Q) : PostF Z W (.pure r) H B Q := by
  cases r with
  | own i => exact (show False from h)
  | ok d => exact h
  | fresh d => exact h
  | exn c f => exact h
  | bad => exact h
theorem PostF.ops {r : R} (h : PostE Z W (.pure r.op) σ H B Q) : PostF Z WE0 (.pure r) H B Q := by
  cases r with
  | own i => exact False.elim (show False from h)
  | ok d => exact h
  | fresh d => exact h
  | exn c f => exact False.elim (show False from h)
  | bad => exact h
theorem PostF.opsT {r : T R} (h : PostE Z W r.ops σ H B Q) : PostF Z WE0 r H B Q := by
  refine PostE.bind h fun r h => ?_
  cases r with
  | own i => exact False.elim (show False from h)
  | ok d => exact h
  | fresh d => exact h
  | exn c f => exact False.elim (show False from h)
  | bad => exact h
/-- one of two truth values -/
theorem post_bool1 {t : R} {k : Bool → T R} (h : PostE Z W (t.bool.k k) σ H B Q)
    (K : ∀ b H', Ex H H' → PostE Z W (k b) σ H' B Q → Q' (.bl b) H') : PostE Z W (.pure t) σ H B Q' := by
  cases t with
  | ok d =>
    cases d with
    | bl b =>
      intro v H2 e2 q
      unfold Den at q
      subst q
      exact K b H2 e2 (PostE.ex e2 h)
    | _ => exact False.elim h
  | exn c f => exact h
  | _ => exact False.elim h
theorem post_bool {t : T R} {k : Bool → T R} (h : PostE Z W (t.bk k) σ H B Q)
    (K : ∀ b H', Ex H H' → PostE Z W (k b) σ H' B Q → Q' (.bl b) H') : PostE Z W t σ H B Q' := PostE.bind h fun _ h => post_bool1 h K
theorem post_boolT {t : R} {k : Bool → T RT} {QT : Bool → Hp → Prop} (h : PostT Z W (t.bool.kT k) H B QT)
    (K : ∀ b H', Ex H H' → PostT Z W (k b) H' B QT → Q' (.bl b) H') : PostE Z W (.pure t) σ H B Q' := by
  cases t with
  | ok d =>
    cases d with
    | bl b =>
      intro v H2 e2 q
      unfold Den at q
      subst q
      exact K b H2 e2 (PostT.ex e2 h)
    | _ => exact False.elim h
  | exn c f => exact h
  | _ => exact False.elim h
theorem post_t {t : T RT} {k : Bool → T R} {QT : Bool → Hp → Prop} (h : PostE Z W (t.k k) σ H B Q)
    (K : ∀ b H', Ex H H' → PostE Z W (k b) σ H' B Q → QT b H') : PostT Z W t H B QT := by
  refine PostE.bind h fun t h => ?_
  cases t with
  | ok b => exact fun H2 e2 => K b H2 e2 (PostE.ex e2 h)
  | exn c f => exact h
  | bad => exact h
theorem post_tT {t : T RT} {k : Bool → T RT} {Q2 QT : Bool → Hp → Prop} (h : PostT Z W (t.kT k) H B Q2)
    (K : ∀ b H', Ex H H' → PostT Z W (k b) H' B Q2 → QT b H') : PostT Z W t H B QT := by
  refine PostT.bind h fun t h => ?_
  cases t with
  | ok b => exact fun H2 e2 => K b H2 e2 (PostT.ex e2 h)
  | exn c f => exact h
  | bad => exact h
end
end PM

set_option Elab.async false
set_option linter.all false
set_option maxRecDepth 100000
set_option maxHeartbeats 4000000
/-! PM3: the match of the small language with the text, what a link asks, soundness of expressions. -/
namespace PM
open PySem PySem.Spec L2
open PyProof.Rows hiding St

def rD2 (Z : Wd) (f : D → D → R) : R2 := fun x y H Q => ∃ (B : Addr → Prop) (d e : D), (∀ a, B a → ∃ o, H a = some o ∧ isMut o = true) ∧ RdD Z H B d x ∧ RdD Z H B e y ∧ PostF Z WE0 (.pure (f d e)) H B Q
def rD2T (Z : Wd) (f : D → D → T R) : R2 := fun x y H Q => ∃ (B : Addr → Prop) (d e : D), (∀ a, B a → ∃ o, H a = some o ∧ isMut o = true) ∧ RdD Z H B d x ∧ RdD Z H B e y ∧ PostF Z WE0 (f d e) H B Q
def rD1 (Z : Wd) (f : D → R) : V → Hp → VK → Prop := fun x H Q => ∃ (B : Addr → Prop) (d : D), (∀ a, B a → ∃ o, H a = some o ∧ isMut o = true) ∧ RdD Z H B d x ∧ PostF Z WE0 (.pure (f d)) H B Q
def rDS (Z : Wd) (f : D → Option Int → Option Int → R) : V → Option Int → Option Int → Hp → VK → Prop := fun x i j H Q => ∃ (B : Addr → Prop) (d : D), (∀ a, B a → ∃ o, H a = some o ∧ isMut o = true) ∧ RdD Z H B d x ∧ PostF Z WE0 (.pure (f d i j)) H B Q
/-- a call by data -/
def tCD (Z : Wd) (W : WX) (φ : List D → T R) (t : TA) : TE := fun σ H Q => t σ H fun vs H1 => ∃ (B : Addr → Prop) (ds : List D), (∀ a, B a → ∃ o, H1 a = some o ∧ isMut o = true) ∧ DenL Z H1 B ds vs ∧ PostF Z (fun c d H' => W c d σ H') (φ ds) H1 B Q
def tMD (Z : Wd) (W : WX) (φ : D → Option (List D → R)) (to : TE) (t : TA) : TE := fun σ H Q => to σ H fun x H1 => ∃ (B : Addr → Prop) (d : D) (f : List D → R), (∀ a, B a → ∃ o, H1 a = some o ∧ isMut o = true) ∧ RdD Z H1 B d x ∧ φ d = some f ∧
  t σ H1 fun vs H2 => ∃ (ds : List D), Ex H1 H2 ∧ DenL Z H2 B ds vs ∧ PostF Z (fun c d H' => W c d σ H') (.pure (f ds)) H2 B Q
def tFD (Z : Wd) (φ : D → R) (to : TE) : TE := fun σ H Q => to σ H fun x H1 => rD1 Z φ x H1 Q
/-- an iterator gives these -/
def WalkD (Z : Wd) (J : It) (items : List D) (H : Hp) (B : Addr → Prop) : Prop := ∀ B1 : Addr → Prop, (∀ a, B1 a → B a ∨ H a = none) →
  ∃ (G : Hp → Prop) (Y : Nat → Hp → V → Hp → Prop), Walk J items.length G Y ∧ (∀ H', Kp B1 H H' → G H') ∧ ∀ i x H1 H2, Kp B1 H H1 → i < items.length → Y i H1 x H2 → Ex H1 H2 ∧ ∃ d, items[i]? = some d ∧ Den Z H2 B1 d x
def tID (Z : Wd) (φ : List D → Option (List D)) (t : TA) : TI := fun σ H Rr => t σ H fun vs H1 => ∃ (B : Addr → Prop) (ds items : List D), DenL Z H1 B ds vs ∧ φ ds = some items ∧ ∀ J H2, Ex H1 H2 → WalkD Z J items H2 B → Rr J H2

/-- where a text stands: what a link may lean on -/
structure Cn where
  P : Program
  w : World
  K : PySem.W.Frag
  mg : Str → Option Value
  base : Heap
  lv : Nat
  cl : Str → Addr
structure Cn.At (C : Cn) (X : Cx) : Prop where
  p : X.prog = C.P
  w : X.w = C.w
  k : X.K = C.K
  g : X.mg = C.mg
  b : X.base = C.base
  calm : X.calm = true
  room : Room C.lv X.A
  gd : X.A.guards = some []
abbrev Cn.Z (C : Cn) : Wd := ⟨C.K, C.cl⟩

def plainN (x : Str) : Bool := !(x == ("__debug__" : Str)) && !(x == ("__classdict__" : Str))
def visB (sc : Scope) (x : Str) : Bool := match sc.names.lookup x with
  | some .local => true
  | some .cell => true
  | some .free => true
  | _ => false
def glB (sc : Scope) (x : Str) : Bool := decide (sc.names.lookup x = some .globalImplicit)
theorem vis_of {sc : Scope} {x : Str} (h : visB sc x = true) : Vis sc x := by
  unfold visB at h
  unfold Vis
  cases e : sc.names.lookup x with
  | none => rw [e] at h; cases h
  | some k => cases k <;> simp [e] at h ⊢
def constB : D → Const → Bool
  | .non, .none => true
  | .bl b, .bool c => b == c
  | .int i, .int j => i == j
  | .str x, .str y => decide (x = y)
  | _, _ => false
def notStar : Expr → Bool
  | .Starred _ _ => false
  | _ => true
def notSlice : Expr → Bool
  | .Slice _ _ _ _ => false
  | _ => true
def notSet : Expr → Bool
  | .Set _ _ _ => false
  | _ => true
def isTup : Expr → Bool
  | .Tuple _ _ _ => true
  | _ => false
def plainO : Expr → Bool
  | .Name _ _ => true
  | .Constant _ _ _ => true
  | .Subscript _ _ _ => true
  | .Attribute _ _ _ => true
  | _ => false
def nameIs (x : Str) : Expr → Bool
  | .Name y _ => decide (x = y)
  | _ => false
def namesAre : List Str → List Expr → Bool
  | [], [] => true
  | x :: xs, e :: es => nameIs x e && namesAre xs es
  | _, _ => false
mutual
def okT (N : List Str) (sc : Scope) (fn : Str → Bool) : Tg → Expr → Bool
  | .nm i, e => match e with
    | .Name x _ => decide (N[i]? = some x) && (decide (sc.names.lookup x = some .local) || (decide (sc.names.lookup x = some .cell) && fn x))
    | _ => false
  | .tp ts, e => match e with
    | .Tuple es _ _ => okTs N sc fn ts es
    | _ => false
def okTs (N : List Str) (sc : Scope) (fn : Str → Bool) : List Tg → List Expr → Bool
  | [], es => match es with
    | [] => true
    | _ => false
  | t :: ts, es => match es with
    | e :: es => okT N sc fn t e && okTs N sc fn ts es
    | [] => false
end
def genX : Expr → Bool
  | .Call _ _ _ _ => true
  | .JoinedStr _ _ => true
  | .Dict _ _ _ => true
  | .Attribute _ _ _ => true
  | .Subscript _ _ _ => true
  | _ => false
mutual
def okE (N : List Str) (sc : Scope) : E → Expr → Bool
  | .v i, e => match e with
    | .Name x _ => decide (N[i]? = some x) && visB sc x && plainN x
    | _ => false
  | .c d, e => match e with
    | .Constant k _ _ => constB d k
    | _ => false
  | .g x _, e => match e with
    | .Name y _ => decide (x = y) && glB sc x && plainN x
    | _ => false
  | .bin op _ a b, e => match e with
    | .BinOp ea op' eb _ => decide (op = op') && okE N sc a ea && okE N sc b eb
    | _ => false
  | .un op _ a, e => match e with
    | .UnaryOp op' ea _ => decide (op = op') && okE N sc a ea
    | _ => false
  | .cmp op _ a b, e => match e with
    | .Compare ea [op'] [eb] _ => decide (op = op') && notSet eb && okE N sc a ea && okE N sc b eb
    | _ => false
  | .chain op1 op2 _ _ a b c, e => match e with
    | .Compare ea [o1, o2] [eb, ec] _ => decide (op1 = o1) && decide (op2 = o2) && notSet ec && okE N sc a ea && okE N sc b eb && okE N sc c ec
    | _ => false
  | .and a b, e => match e with
    | .BoolOp .And [ea, eb] _ => okE N sc a ea && okE N sc b eb
    | .BoolOp .And (ea :: eb :: ec :: r) p => okE N sc a ea && okE N sc b (.BoolOp .And (eb :: ec :: r) p)
    | _ => false
  | .or a b, e => match e with
    | .BoolOp .Or [ea, eb] _ => okE N sc a ea && okE N sc b eb
    | .BoolOp .Or (ea :: eb :: ec :: r) p => okE N sc a ea && okE N sc b (.BoolOp .Or (eb :: ec :: r) p)
    | _ => false
  | .not a, e => match e with
    | .UnaryOp .Not ea _ => okE N sc a ea
    | _ => false
  | .ite c a b, e => match e with
    | .IfExp ec ea eb _ => okE N sc c ec && okE N sc a ea && okE N sc b eb
    | _ => false
  | .tup es, e => match e with
    | .Tuple xs _ _ => decide (es.length ≤ 1000) && okEs N sc es xs
    | _ => false
  | .pwt es, e => match e with
    | .Tuple xs _ _ => decide (es.length ≤ 1000) && okEs N sc es xs
    | _ => false
  | .lst es, e => match e with
    | .List xs _ => decide (es.length ≤ 1000) && okEs N sc es xs
    | _ => false
  | .dnew d, e => match d, e with
    | .dT [] [], .Dict [] [] _ => true
    | .dK [] [], .Dict [] [] _ => true
    | _, _ => false
  | .ix _ a b, e => match e with
    | .Subscript ea eb _ => notSlice eb && okE N sc a ea && okE N sc b eb
    | _ => false
  | .sl _ a lo hi, e => match e with
    | .Subscript ea (.Slice l h none _) _ => okE N sc a ea && (match l with
      | none => isNonC lo
      | some el => !isNonC lo && okE N sc lo el) && (match h with
      | none => isNonC hi
      | some eh => !isNonC hi && okE N sc hi eh)
    | _ => false
  | .call x _ es, e => match e with
    | .Call (.Name y _) xs [] _ => decide (x = y) && glB sc x && plainN x && decide (x ≠ "__name__") && okEs N sc es xs
    | _ => false
  | .meth m _ o es, e => match e with
    | .Call (.Attribute eo y ap) xs [] cp => decide (m = y) && plainO eo && decide ((ap.endLine == cp.line) = true ∧ xs.length ≤ 20) && okE N sc o eo && okEs N sc es xs
    | _ => false
  | .fld m _ o, e => match e with
    | .Attribute eo y _ => decide (m = y) && plainO eo && okE N sc o eo
    | _ => false
  | .gen m _ es, e => genX e && (match m sc e with
    | some xs => okEs N sc es xs
    | none => false)
  | .isi _ a cs many, e => match e with
    | .Call (.Name y _) [ea, ec] [] _ => decide (y = "isinstance") && glB sc y && okE N sc a ea && cs.all (fun x => glB sc x && plainN x && decide (x ≠ "__name__")) && (match many with
      | true => (match ec with
        | .Tuple xs _ _ => namesAre cs xs
        | _ => false)
      | false => namesAre cs [ec])
    | _ => false
  | .lc t k _ es ifs elt own, e => match e with
    | .ListComp ee [⟨tg, iter, is, 0⟩] scope _ => notSet iter && blkC N sc scope own && okT N (relS scope sc) (fun x => scope.names.lookup x == some .cell) t tg &&
        (slotsT t).all (fun i => decide (i ∈ own.map (·.2))) && (match is with
        | [] => isTrueC ifs
        | [ei] => !isTrueC ifs && okE N (relS scope sc) ifs ei
        | _ => false) && okE N (relS scope sc) elt ee && (match k with
        | .ex => okEs N sc es [iter]
        | .cl x n => (match iter with
          | .Call (.Name y _) xs [] _ => decide (x = y) && glB sc x && plainN x && decide (x ≠ "__name__" ∧ xs.length = n) && (isTup tg || decide (x = "range")) && okEs N sc es xs
          | _ => false)
        | .mt m => (match iter with
          | .Call (.Attribute eo y ap) [] [] cp => decide (m = y) && isTup tg && decide ((ap.endLine == cp.line) = true) && plainO eo && okEs N sc es [eo]
          | _ => false))
    | _ => false
  | .ss k a, e => match e with
    | .Subscript ea (.Slice none none (some (.UnaryOp .USub (.Constant (.int i) _ _) _)) _) _ => decide (k = -i) && okE N sc a ea
    | .Subscript ea (.Slice none none (some (.Constant (.int i) _ _)) _) _ => decide (k = i) && okE N sc a ea
    | _ => false
  | .pt i k, e => match e with
    | .Subscript (.Name x _) ek _ => decide (N[i]? = some x) && visB sc x && plainN x && notSlice ek && okE N sc k ek
    | _ => false
def okEs (N : List Str) (sc : Scope) : List E → List Expr → Bool
  | [], es => match es with
    | [] => true
    | _ => false
  | e :: es, xs => match xs with
    | x :: xs => okE N sc e x && okEs N sc es xs
    | [] => false
end
end PM

set_option Elab.async false
set_option linter.all false
set_option maxRecDepth 100000
set_option maxHeartbeats 4000000
/-! PM4: what a link asks; soundness of expressions but comprehensions. -/
namespace PM
open PySem PySem.Spec L2
open PyProof.Rows hiding St

def BinOk (C : Cn) (op : Operator) (f : D → D → R) : Prop := ∀ X, C.At X → OpR X (binaryOp op) (rD2 C.Z f)
def UnOk (C : Cn) (op : UnaryOp) (f : D → R) : Prop := ∀ X, C.At X → UnR X (unaryOp op) (rD1 C.Z f)
def CmpOk (C : Cn) (op : CmpOp) (f : D → D → R) : Prop := ∀ X, C.At X → OpR X (compareOp op) (rD2 C.Z f)
def IxOk (C : Cn) (f : D → D → T R) : Prop := ∀ X, C.At X → IxR X (rD2T C.Z f)
def SlOk (C : Cn) (f : D → Option Int → Option Int → R) : Prop := ∀ X, C.At X → SlR X (rDS C.Z f)
def GlobOk (C : Cn) (x : Str) (d : D) : Prop := ∃ u v, C.mg x = some u ∧ RelV v u ∧ ∀ H B, Den C.Z H B d v
def CallOk (C : Cn) (x : Str) (φ : List D → T R) : Prop := ∀ (X : Cx) (W : WX), C.At X → Takes X W → Gl X x → ∀ (p pos : Pos) (es : List Expr) (t : TA), es.all notStar = true → PA X es t → PE X (.Call (.Name x p) es [] pos) (tCD C.Z W φ t)
def MethOk (C : Cn) (m : Str) (φ : D → Option (List D → R)) : Prop := ∀ (X : Cx) (W : WX), C.At X → Takes X W → ∀ (eo : Expr) (ap cp : Pos) (es : List Expr) (to : TE) (t : TA), plainO eo = true → (ap.endLine == cp.line) = true → es.all notStar = true → es.length ≤ 20 → PE X eo to → PA X es t →
  PE X (.Call (.Attribute eo m ap) es [] cp) (tMD C.Z W φ to t)
def FldOk (C : Cn) (m : Str) (φ : D → R) : Prop := ∀ (X : Cx), C.At X → ∀ (eo : Expr) (ap : Pos) (to : TE), plainO eo = true → PE X eo to → PE X (.Attribute eo m ap) (tFD C.Z φ to)
def IsiOk (C : Cn) (f : D → R) (cs : List Str) (many : Bool) : Prop := ∀ (X : Cx), C.At X → Gl X "isinstance" → (∀ c ∈ cs, Gl X c) → ∀ (ea ec : Expr) (p pos : Pos) (ta : TE), notStar ea = true → PE X ea ta →
  (match many with
    | true => ∃ xs k q, ec = .Tuple xs k q ∧ namesAre cs xs = true
    | false => namesAre cs [ec] = true) → PE X (.Call (.Name "isinstance" p) [ea, ec] [] pos) (tFD C.Z f ta)
def ItEx (C : Cn) (φ : List D → Option (List D)) : Prop := ∀ (X : Cx) (tg iter : Expr) (te : TE), C.At X → PE X iter te →
  PI X tg iter (fun σ H Rr => te σ H fun v H1 => ∃ (B : Addr → Prop) (d : D) (items : List D), Den C.Z H1 B d v ∧ φ [d] = some items ∧ ∀ J H2, Ex H1 H2 → WalkD C.Z J items H2 B → Rr J H2)
def ItCl (C : Cn) (x : Str) (n : Nat) (φ : List D → Option (List D)) : Prop := ∀ (X : Cx) (tg : Expr), C.At X → Gl X x → (isTup tg = true ∨ x = "range") → ∀ (p pos : Pos) (xs : List Expr) (t : TA), xs.length = n → xs.all notStar = true → PA X xs t →
  PI X tg (.Call (.Name x p) xs [] pos) (tID C.Z φ t)
def ItMt (C : Cn) (m : Str) (φ : List D → Option (List D)) : Prop := ∀ (X : Cx) (tg : Expr), C.At X → isTup tg = true → ∀ (eo : Expr) (ap cp : Pos) (te : TE), plainO eo = true → (ap.endLine == cp.line) = true → PE X eo te →
  PI X tg (.Call (.Attribute eo m ap) [] [] cp) (fun σ H Rr => te σ H fun v H1 => ∃ (B : Addr → Prop) (d : D) (items : List D), Den C.Z H1 B d v ∧ φ [d] = some items ∧ ∀ J H2, Ex H1 H2 → WalkD C.Z J items H2 B → Rr J H2)
def ItOk (C : Cn) (φ : List D → Option (List D)) : IK → Prop
  | .ex => ItEx C φ
  | .cl x n => ItCl C x n φ
  | .mt m => ItMt C m φ

/-- any other expression, parted by m -/
def GenOk (C : Cn) (m : Scope → Expr → Option (List Expr)) (φ : List D → T R) : Prop := ∀ (X : Cx) (W : WX), C.At X → Takes X W → ∀ (e : Expr) (xs : List Expr) (t : TA), m X.env.scope e = some xs → xs.all notStar = true → PA X xs t → PE X e (tCD C.Z W φ t)
mutual
def LkE (C : Cn) : E → Prop
  | .v _ => True
  | .c _ => True
  | .g x d => GlobOk C x d
  | .bin op f a b => BinOk C op f ∧ LkE C a ∧ LkE C b
  | .un op f a => UnOk C op f ∧ LkE C a
  | .cmp op f a b => CmpOk C op f ∧ LkE C a ∧ LkE C b
  | .chain op op' f g a b c => CmpOk C op f ∧ CmpOk C op' g ∧ LkE C a ∧ LkE C b ∧ LkE C c
  | .and a b => LkE C a ∧ LkE C b
  | .or a b => LkE C a ∧ LkE C b
  | .not a => LkE C a
  | .ite c a b => LkE C c ∧ LkE C a ∧ LkE C b
  | .tup es => LkEs C es
  | .pwt es => LkEs C es
  | .lst es => LkEs C es
  | .dnew _ => True
  | .ix f a b => IxOk C f ∧ LkE C a ∧ LkE C b
  | .sl f a lo hi => SlOk C f ∧ LkE C a ∧ LkE C lo ∧ LkE C hi
  | .call x φ es => CallOk C x φ ∧ LkEs C es
  | .meth m φ o es => MethOk C m φ ∧ LkE C o ∧ LkEs C es
  | .fld m φ o => FldOk C m φ ∧ LkE C o
  | .isi f a cs many => IsiOk C f cs many ∧ LkE C a
  | .gen m φ es => GenOk C m φ ∧ LkEs C es
  | .lc _ k φ es ifs elt _ => ItOk C φ k ∧ LkEs C es ∧ LkE C ifs ∧ LkE C elt
  | .pt _ k => LkE C k
  | .ss _ a => LkE C a
def LkEs (C : Cn) : List E → Prop
  | [] => True
  | e :: es => LkE C e ∧ LkEs C es
end

def tE (Z : Wd) (W : WX) (e : E) : TE := fun σ H Q => ∃ n B, RelB Z n σ H B ∧ PostE Z (fun c d H' => W c d σ H') (ev e n) σ H B Q
def tT (Z : Wd) (W : WX) (e : E) : TT := fun σ H Q => ∃ n B, RelB Z n σ H B ∧ PostT Z (fun c d H' => W c d σ H') (evT e n) H B Q
def tA (Z : Wd) (W : WX) (es : List E) : TA := fun σ H Q => ∃ n B, RelB Z n σ H B ∧ PostL Z (fun c d H' => W c d σ H') (evs es n) H B Q

theorem pe_weak {X : Cx} {e : Expr} {t t' : TE} (h : PE X e t) (w : ∀ σ H Q, t' σ H Q → t σ H Q) : PE X e t' := ⟨fun pins s σ H Q I q => h.run pins s σ H Q I (w σ H Q q)⟩
theorem pt_weak {X : Cx} {e : Expr} {t t' : TT} (h : PT X e t) (w : ∀ σ H Q, t' σ H Q → t σ H Q) : PT X e t' := ⟨fun pins s σ H Q I q => h.run pins s σ H Q I (w σ H Q q)⟩
theorem pw_weak {X : Cx} {e : Expr} {t t' : TT} (h : PW X e t) (w : ∀ σ H Q, t' σ H Q → t σ H Q) : PW X e t' := ⟨fun wh pins s σ H Q I q => h.run wh pins s σ H Q I (w σ H Q q)⟩
theorem pa_weak {X : Cx} {e : List Expr} {t t' : TA} (h : PA X e t) (w : ∀ σ H Q, t' σ H Q → t σ H Q) : PA X e t' := ⟨fun pos pins s σ H Q I q => h.run pos pins s σ H Q I (w σ H Q q)⟩

theorem star_cons {e : Expr} {es : List Expr} {env : Env} (h : notStar e = true) : starEach (e :: es) env = (false, eval e env) :: starEach es env := by
  cases e <;> first | rfl | (exact absurd h Bool.false_ne_true)
theorem star_any {pos : Pos} {env : Env} : ∀ {es : List Expr}, es.all notStar = true → (backTo pos (starEach es env)).any (·.1) = false
  | [], _ => rfl
  | e :: es, h => by
    rw [List.all_cons, Bool.and_eq_true] at h
    rw [star_cons h.1]
    have ih := star_any (pos := pos) (env := env) h.2
    unfold backTo at ih ⊢
    rw [List.map_cons, List.any_cons, ih]
    rfl
theorem ok_star {N : List Str} {sc : Scope} {e : E} {x : Expr} (h : okE N sc e x = true) : notStar x = true := by
  cases x with
  | Starred v p => cases e <;> first | exact h | (unfold okE at h; exact h) | (unfold okE at h; split at h <;> first | exact h | (rename_i q; cases q))
  | _ => rfl
theorem oks_star {N : List Str} {sc : Scope} : ∀ {es : List E} {xs : List Expr}, okEs N sc es xs = true → xs.all notStar = true
  | [], [], _ => rfl
  | [], x :: xs, h => by simp [okEs] at h
  | e :: es, [], h => by simp [okEs] at h
  | e :: es, x :: xs, h => by
    unfold okEs at h
    rw [Bool.and_eq_true] at h
    rw [List.all_cons, ok_star h.1, oks_star h.2]
    rfl
theorem ok_slice {N : List Str} {sc : Scope} {e : E} {x : Expr} (h : notSlice x = true) : PlainIx x := by
  intro o i
  cases x <;> first | rfl | (exact absurd h Bool.false_ne_true)
theorem behind_of {op : CmpOp} {x : Expr} (h : notSet x = true) : behindInMarks op x = false := by
  cases x <;> first | rfl | (exact absurd h Bool.false_ne_true)
def lenIs (m : Nat) (l : RL) : Prop := ∀ ds o, l = .ok ds o → ds.length = m
theorem evs_len : ∀ {es : List E} {n : Nv}, (evs es n).all (lenIs es.length)
  | [], n => by unfold evs; intro ds o h; cases h; rfl
  | e :: es, n => by
    have ih := evs_len (es := es) (n := n)
    unfold evs
    show T.all _ (T.bind _ _)
    rw [T.all_bind]
    refine T.any fun r => ?_
    have cn : ∀ d o', (T.consL d o' (evs es n)).all (lenIs (e :: es).length) := fun d o' => by
      show T.all _ (T.bind _ _)
      rw [T.all_bind]
      refine T.mono (fun l hl => ?_) ih
      intro ds o h
      cases l with
      | ok ds' o'' =>
        cases h
        rw [List.length_cons, List.length_cons, hl _ _ rfl]
      | exn c f => cases h
      | bad => cases h
    cases r with
    | ok d => exact cn d _
    | fresh d => exact cn d _
    | own i =>
      unfold R.argK
      dsimp only
      cases n.ownOf i with
      | none => intro ds o h; cases h
      | some d => exact cn d _
    | exn c f => intro ds o h; cases h
    | bad => intro ds o h; cases h

section
variable {Z : Wd} {W : WE} {n : Nv} {σ : St} {H H' : Hp} {B : Addr → Prop} {Q Q' : VK} {r : T R} {l : T RL}
/-- a display's parts -/
theorem post_disp {m : Nat} {k : List D → T R} {QL : List V → Hp → Prop} (hl : l.all (lenIs m)) (h : PostE Z W (l.disp k) σ H B Q)
    (K : ∀ vs H' ds, Ex H H' → ds.length = m → DenL Z H' B ds vs → PostE Z W (k ds) σ H' B Q → QL vs H') : PostL Z W l H B QL := by
  refine T.mono (fun l h => ?_) (T.both hl (T.all_bind.mp h))
  obtain ⟨hl, h⟩ := h
  cases l with
  | ok ds o => cases o with
    | false => exact fun vs H2 e2 q => K vs H2 ds e2 (hl _ _ rfl) q (PostE.ex e2 h)
    | true => exact False.elim h
  | exn c f => exact h
  | bad => exact h
/-- a call's arguments -/
theorem post_call {φ : List D → T R} {QL : List V → Hp → Prop} (rel : RelB Z n σ H B) (h : PostE Z W (l.call φ) σ H B Q)
    (K : ∀ vs H' ds B', Ex H H' → (∀ a, B' a → ∃ o, H' a = some o ∧ isMut o = true) → DenL Z H' B' ds vs → PostF Z W (φ ds) H' B' Q → QL vs H') : PostL Z W l H B QL := by
  refine PostE.bind h fun l h => ?_
  cases l with
  | ok ds o => cases o with
    | false => exact fun vs H2 e2 q => K vs H2 ds B e2 (rel.ex e2).bt q (PostF.post (PostE.ex e2 h))
    | true =>
      intro vs H2 e2 q
      refine K vs H2 ds (fun _ => False) e2 (fun a z => z.elim) q ?_
      have h : PostE Z W (φ ds).flats σ H2 B Q := PostE.ex e2 h
      refine PostE.bind h fun r h => ?_
      cases r with
      | ok d =>
        simp only [R.flatten] at h
        by_cases c : flat d = true
        · rw [if_pos c] at h
          exact fun v H3 e3 q3 => h v H3 e3 (Den.flat d v c q3)
        · rw [if_neg c] at h
          exact False.elim h
      | fresh d =>
        cases d with
        | lst ds' =>
          simp only [R.flatten] at h
          by_cases c : flatL ds' = true
          · rw [if_pos c] at h
            intro p H3 hp e3 q3
            obtain ⟨vs', q4, q5⟩ := q3
            exact h p H3 hp e3 ⟨vs', q4, DenL.flat ds' vs' c q5⟩
          · rw [if_neg c] at h
            exact False.elim h
        | _ => exact False.elim h
      | own i => exact False.elim h
      | exn c f =>
        simp only [R.flatten] at h
        by_cases cc : flatL f = true
        · rw [if_pos cc] at h
          intro H3 cd e3 q3
          refine h H3 cd e3 ?_
          rcases q3 with q3 | ⟨dd, w, q4, q5, q6⟩
          · exact .inl q3
          · exact .inr ⟨dd, w, q4, q5, DenL.flat f _ cc q6⟩
        · rw [if_neg cc] at h
          exact False.elim h
      | bad => exact False.elim h
  | exn c f => exact h
  | bad => exact h
theorem post_part {b : Bool} {k : Option Int → T R} (h : PostE Z W (T.part b r k) σ H B Q)
    (K : ∀ v H', Ex H H' → (∃ i, b = false ∧ v = .int i ∧ PostE Z W (k (some i)) σ H' B Q) ∨ (b = true ∧ v = .non ∧ PostE Z W (k none) σ H' B Q) → Q' v H') : PostE Z W r σ H B Q' := by
  refine PostE.bind h fun r h => ?_
  cases r with
  | ok d =>
    cases d with
    | int i =>
      intro v H2 e2 q
      unfold Den at q
      cases b with
      | true => exact False.elim h
      | false => exact K v H2 e2 (.inl ⟨i, rfl, q, PostE.ex e2 h⟩)
    | non =>
      intro v H2 e2 q
      unfold Den at q
      cases b with
      | true => exact K v H2 e2 (.inr ⟨rfl, q, PostE.ex e2 h⟩)
      | false => exact False.elim h
    | _ => exact False.elim h
  | exn c f => exact h
  | _ => exact False.elim h
/-- the head of an argument list -/
theorem post_arg {k : T RL} {QL : List V → Hp → Prop} (rel : RelB Z n σ H B) (h : PostL Z W (r.arg n k) H B QL)
    (K : ∀ v H', Ex H H' → PostL Z W k H' B (fun vs H2 => QL (v :: vs) H2) → Q' v H') : PostE Z W r σ H B Q' := by
  have step : ∀ d v H2 o', Ex H H2 → (Den Z H2 B d v ∨ (o' = true ∧ Den Z H2 (fun _ => False) d v)) → PostL Z W (T.consL d o' k) H2 B QL → PostL Z W k H2 B (fun vs H2 => QL (v :: vs) H2) := by
    intro d v H2 o' e2 q hk
    refine PostL.bind hk fun k hk => ?_
    cases k with
    | ok ds o =>
      cases o with
      | true =>
        intro vs H3 e3 q3
        have q' : Den Z H2 (fun _ => False) d v := q.elim (fun z => z.less fun _ z => z.elim) fun z => z.2
        exact hk (v :: vs) H3 e3 (.cons (q'.ex e3) q3)
      | false =>
        cases o' with
        | true =>
          intro vs H3 e3 q3
          have q' : Den Z H2 (fun _ => False) d v := q.elim (fun z => z.less fun _ z => z.elim) fun z => z.2
          exact hk (v :: vs) H3 e3 (.cons (q'.ex e3) (q3.less fun _ z => z.elim))
        | false =>
          intro vs H3 e3 q3
          rcases q with q | ⟨z, _⟩
          · exact hk (v :: vs) H3 e3 (.cons (q.ex e3) q3)
          · cases z
    | exn c f => exact hk
    | bad => exact hk
  refine PostL.bind h fun r h => ?_
  cases r with
  | ok d =>
    intro v H2 e2 q
    exact K v H2 e2 (step d v H2 false e2 (.inl q) (PostL.ex e2 h))
  | fresh d =>
    intro p H2 hp e2 q
    have hb : ¬ B p := fun z => by
      obtain ⟨o, z, _⟩ := rel.bt p z
      rw [hp] at z
      cases z
    exact K _ H2 e2 (step d _ H2 false e2 (.inl (q.den hb fun a z => .inl z)) (PostL.ex e2 h))
  | own i =>
    intro p H2 e2 q
    unfold R.argK at h
    cases e : n.ownOf i with
    | none => simp only [e] at h; exact h.elim
    | some d =>
      simp only [e] at h
      obtain ⟨p', hp, hb, ho⟩ := (rel.ex e2).at_ e
      cases hp.uniq q
      exact K _ H2 e2 (step d _ H2 true e2 (.inr ⟨rfl, ho.den (fun z => z) fun _ z => z.elim⟩) (PostL.ex e2 h))
  | exn c f => exact h
  | bad => exact h
end
end PM

set_option Elab.async false
set_option linter.all false
set_option maxRecDepth 100000
set_option maxHeartbeats 4000000
/-! PM5: targets, what is walked, comprehensions. -/
namespace PM
open PySem PySem.Spec L2
open PyProof.Rows hiding St

/-! ### a list unpacked -/
section
variable {prog : Program} {w : World} {A : Around} {E : Value → Shared → Prop} {s : Shared}
theorem draw_lst {it l : Addr} {xs : Array Value} (ne : l ≠ it) : ∀ (n i : Nat) (s : Shared) (Q : List Value → Shared → Prop), s.heap.IsListIter it l i → s.heap.IsList l xs → i + n ≤ xs.size →
    (∀ g, g.IsListIter it l (i + n) → Heap.SameBut it s.heap g → Q ((xs.toList.drop i).take n) { s with heap := g }) → wpAny (model prog w) A (draw (.ref it) n) Q E s
  | 0, i, s, Q, hi, _, _, q => wpAny_pure (by simpa using q s.heap hi (Heap.SameBut.refl ..))
  | n + 1, i, s, Q, hi, hl, le, q => by
    have lt : i < xs.size := by omega
    show wpAny _ _ (pyNext (.ref it) >>= _) Q E s
    refine wpAny_bind (wpAny_pyNext_list_item hi hl (x := xs[i]) (by simp [lt]) fun g1 i1 s1 => ?_)
    refine wpAny_bind (wpAny_holding (draw_lst ne n (i + 1) _ _ i1 (hl.extBut s1.extBut ne) (by omega) fun g2 i2 s2 => wpAny_pure ?_))
    have z := q g2 (by rw [show i + (n + 1) = i + 1 + n by omega]; exact i2) (s1.trans s2)
    rw [show xs.toList.drop i = xs[i] :: xs.toList.drop (i + 1) by simp [List.drop_eq_getElem_cons, lt], List.take_succ_cons] at z
    exact z
theorem unpack_lst {t : Addr} {xs : Array Value} {Q : List Value → Shared → Prop} (hh : A.handled = none) (hl : s.heap.IsList t xs)
    (q : ∀ g, Heap.ExtBut s.heap.objs.size s.heap g → Q xs.toList { s with heap := g }) : wpAny (model prog w) A (unpackItems (.ref t) xs.size none) Q E s := by
  have ne : t ≠ s.heap.objs.size := by obtain ⟨o, ho, _⟩ := hl; exact Nat.ne_of_lt (Heap.lt_size ho)
  unfold unpackItems notIterableAtAll
  refine wpAny_bind (wpAny_bind (wpAny_specialOf hl.typeIs slot_list_iter.lookup ?_))
  refine wpAny_pure ?_
  simp only [Bool.false_eq_true, if_false]
  refine wpAny_bind (wpAny_holding (wpAny_pyIter_list hl ?_))
  refine wpAny_bind (wpAny_holding (draw_lst ne xs.size 0 _ _ ⟨_, Heap.get?_push_size _ rfl, rfl, rfl⟩ (hl.push _) (by omega) fun g i1 s1 => ?_))
  rw [show List.take xs.size (List.drop 0 xs.toList) = xs.toList by rw [List.drop_zero]; exact List.take_of_length_le (by simp), if_neg (by simp)]
  refine wpAny_bind (wpAny_holding (wpAny_pyNext_list_end hh i1 ((hl.push _).extBut s1.extBut ne) (by simp) fun g2 e2 => ?_))
  simp only [Option.isSome_none, Bool.false_eq_true, if_false]
  exact wpAny_pure (q g2 fun b o hb e => e2 b o hb (s1.extBut b o hb (Heap.get?_push_of_some _ e)))
theorem assign_lst {env : Env} {es : List Expr} {k : Nat} {pos : Pos} {t : Addr} {xs : Array Value} {Q : Unit → Shared → Prop} (hh : A.handled = none) (hl : s.heap.IsList t xs)
    (hn : (assignEach es env).length = xs.size) (hs : (assignEach es env).findIdx? (·.1) = none)
    (h : ∀ g, Heap.ExtBut s.heap.objs.size s.heap g → wpAny (model prog w) A (assignInOrder ((assignEach es env).map (·.2)) xs.toList) Q E { s with heap := g }) :
    wpAny (model prog w) A (assign (.Tuple es k pos) env (.ref t)) Q E s := by
  rw [assign_Tuple]
  refine wpAny_bind (wpAny_standAt ?_)
  unfold unpack
  rw [hn, hs]
  exact wpAny_bind (wpAny_holding (unpack_lst hh hl h))
end
/-- (a, b, ..) = a tuple or a list of that length -/
def gTupA (K : PySem.W.Frag) (n : Nat) (t : TGs) : TG := fun v σ H Q => ∃ a xs, v = .ref a ∧ (SqT K H a xs ∨ SqL K H a xs) ∧ xs.length = n ∧ t xs σ H Q
theorem pg_tupA {X : Cx} {es : List Expr} {k : Nat} {t : TGs} {n : Nat} {pos : Pos} (hc : X.calm = true) (h : PGs X es t)
    (hn : (assignEach es X.env).length = n) (hst : (assignEach es X.env).findIdx? (·.1) = none) : PG X (.Tuple es k pos) (gTupA X.K n t) := by
  refine ⟨fun pins s σ H v u Q I r hw => ?_⟩
  obtain ⟨a, xs, rfl, hq, hl, hw⟩ := hw
  rcases hq with hq | hq
  · exact (pg_tup hc h hn hst).run pins s σ H _ u Q I r ⟨a, xs, rfl, hq, hl, hw⟩
  · cases r
    obtain ⟨its, rv, ⟨o, m, ho, h1, _, h2⟩, _⟩ := I.list hq
    refine assign_lst (xs := its.toArray) (I.ok.hd hc) ⟨o, ho, h1, m, h2⟩ (by simp [hn, ← hl, rv.length]) hst fun g hx => ?_
    have J : Inv X pins σ H { s with heap := g } := I.kept (t' := s.toks) fun b o e => hx b o (Nat.ne_of_lt (Heap.lt_size e)) e
    exact h.run pins _ σ H xs _ Q J (by simpa using rv) hw
/-! ### targets -/
mutual
def gT (K : PySem.W.Frag) : Tg → TG
  | .nm i => gName i
  | .tp ts => gTupA K ts.length (gTs K ts)
def gTs (K : PySem.W.Frag) : List Tg → TGs
  | [] => gNil
  | t :: ts => gCons (gT K t) (gTs K ts)
end
/-- some slots have new values -/
structure Chg (Z : Wd) (H : Hp) (B : Addr → Prop) (l : List Nat) (n : Nv) (σ : L2.St) (n' : Nv) (σ' : L2.St) : Prop where
  ls : σ'.length = σ.length
  ln : n'.length = n.length
  out : ∀ i, i ∉ l → σ'[i]? = σ[i]? ∧ n'[i]? = n[i]?
  inn : ∀ i ∈ l, i < n.length → ∃ d v, n'[i]? = some (.val d) ∧ σ'[i]? = some (some v) ∧ Den Z H B d v
theorem Chg.rel {Z : Wd} {H : Hp} {B : Addr → Prop} {l : List Nat} {n n' : Nv} {σ σ' : L2.St} (c : Chg Z H B l n σ n' σ') (r : RelB Z n σ H B) : RelB Z n' σ' H B := by
  refine ⟨fun i d e => ?_, fun i d e => ?_, r.bt, c.ls.trans (r.len.trans c.ln.symm), fun i d e => ?_⟩
  · by_cases h : i ∈ l
    · have hi : i < n.length := by rw [← c.ln]; exact (List.getElem?_eq_some_iff.mp e).1
      obtain ⟨d', v, e1, e2, e3⟩ := c.inn i h hi
      rw [e] at e1
      cases e1
      exact ⟨v, e2, e3⟩
    · obtain ⟨e1, e2⟩ := c.out i h
      rw [e2] at e
      obtain ⟨v, q1, q2⟩ := r.val i d e
      exact ⟨v, e1.trans q1, q2⟩
  · by_cases h : i ∈ l
    · have hi : i < n.length := by rw [← c.ln]; exact (List.getElem?_eq_some_iff.mp e).1
      obtain ⟨d', v, e1, e2, e3⟩ := c.inn i h hi
      rw [e] at e1
      cases e1
    · obtain ⟨e1, e2⟩ := c.out i h
      rw [e2] at e
      obtain ⟨p, q1, q2⟩ := r.own i d e
      exact ⟨p, e1.trans q1, q2⟩
  · by_cases h : i ∈ l
    · have hi : i < n.length := by rw [← c.ln]; exact (List.getElem?_eq_some_iff.mp e).1
      obtain ⟨d', v, e1, e2, e3⟩ := c.inn i h hi
      rw [e] at e1
      cases e1
    · obtain ⟨e1, e2⟩ := c.out i h
      rw [e2] at e
      obtain ⟨p, qs, q1, q2⟩ := r.own2 i d e
      exact ⟨p, qs, e1.trans q1, q2⟩
theorem Chg.refl {Z : Wd} {H : Hp} {B : Addr → Prop} {n : Nv} {σ : L2.St} : Chg Z H B [] n σ n σ := ⟨rfl, rfl, fun _ _ => ⟨rfl, rfl⟩, fun _ h => nomatch h⟩
theorem Chg.trans {Z : Wd} {H : Hp} {B : Addr → Prop} {l l' : List Nat} {n n1 n2 : Nv} {σ σ1 σ2 : L2.St} (a : Chg Z H B l n σ n1 σ1) (b : Chg Z H B l' n1 σ1 n2 σ2) : Chg Z H B (l ++ l') n σ n2 σ2 := by
  refine ⟨b.ls.trans a.ls, b.ln.trans a.ln, fun i hi => ?_, fun i hi hn => ?_⟩
  · obtain ⟨h1, h2⟩ : i ∉ l ∧ i ∉ l' := ⟨fun z => hi (List.mem_append_left _ z), fun z => hi (List.mem_append_right _ z)⟩
    exact ⟨(b.out i h2).1.trans (a.out i h1).1, (b.out i h2).2.trans (a.out i h1).2⟩
  · by_cases h2 : i ∈ l'
    · exact b.inn i h2 (by rw [a.ln]; exact hn)
    · obtain ⟨q1, q2⟩ := b.out i h2
      rcases List.mem_append.mp hi with h1 | h1
      · obtain ⟨d, v, e1, e2, e3⟩ := a.inn i h1 hn
        exact ⟨d, v, q2.trans e1, q1.trans e2, e3⟩
      · exact absurd h1 h2
mutual
theorem gT_ok {Z : Wd} {H : Hp} {B : Addr → Prop} : ∀ (t : Tg) (d : D) (n n' : Nv) (σ : L2.St) (v : V) (Q : L2.St → Hp → Prop), bindT t d n = some n' → Den Z H B d v → σ.length = n.length →
    (∀ σ', Chg Z H B (slotsT t) n σ n' σ' → Q σ' H) → gT Z.K t v σ H Q
  | .nm i, d, n, n', σ, v, Q, h, hd, hl, k => by
    unfold bindT at h
    cases h
    unfold gT
    refine k _ ⟨by simp, by simp, fun j hj => ?_, fun j hj hn => ?_⟩
    · have : i ≠ j := fun z => hj (by unfold slotsT; simp [z])
      exact ⟨List.getElem?_set_ne this, List.getElem?_set_ne this⟩
    · have : j = i := by unfold slotsT at hj; simpa using hj
      subst this
      exact ⟨d, v, List.getElem?_set_self hn, List.getElem?_set_self (by rw [hl]; exact hn), hd⟩
  | .tp ts, d, n, n', σ, v, Q, h, hd, hl, k => by
    cases d with
    | tup ds =>
      unfold bindT at h
      unfold Den at hd
      obtain ⟨a, vs, e, q, r⟩ := hd
      unfold gT
      refine ⟨a, vs, e, .inl q, ?_, ?_⟩
      · rw [r.length]
        exact gTs_len ts ds n n' h
      · exact gTs_ok ts ds n n' σ vs Q h r hl (by unfold slotsT at k; exact k)
    | lst ds =>
      unfold bindT at h
      unfold Den at hd
      obtain ⟨a, vs, e, q, r⟩ := hd
      unfold gT
      refine ⟨a, vs, e, .inr q.sq, ?_, ?_⟩
      · rw [r.length]
        exact gTs_len ts ds n n' h
      · exact gTs_ok ts ds n n' σ vs Q h r hl (by unfold slotsT at k; exact k)
    | _ => unfold bindT at h; cases h
theorem gTs_len : ∀ (ts : List Tg) (ds : List D) (n n' : Nv), bindTs ts ds n = some n' → ds.length = ts.length
  | [], [], _, _, _ => rfl
  | [], d :: ds, _, _, h => by unfold bindTs at h; cases h
  | t :: ts, [], _, _, h => by unfold bindTs at h; cases h
  | t :: ts, d :: ds, n, n', h => by
    unfold bindTs at h
    cases e : bindT t d n with
    | none => rw [e] at h; cases h
    | some n1 =>
      rw [e] at h
      rw [List.length_cons, List.length_cons, gTs_len ts ds n1 n' h]
theorem gTs_ok {Z : Wd} {H : Hp} {B : Addr → Prop} : ∀ (ts : List Tg) (ds : List D) (n n' : Nv) (σ : L2.St) (vs : List V) (Q : L2.St → Hp → Prop), bindTs ts ds n = some n' → DenL Z H B ds vs → σ.length = n.length →
    (∀ σ', Chg Z H B (slotsL ts) n σ n' σ' → Q σ' H) → gTs Z.K ts vs σ H Q
  | [], [], n, n', σ, vs, Q, h, hd, hl, k => by
    unfold bindTs at h
    cases h
    unfold DenL at hd
    subst hd
    unfold gTs
    exact ⟨rfl, k σ (by unfold slotsL; exact Chg.refl)⟩
  | [], d :: ds, n, n', σ, vs, Q, h, _, _, _ => by unfold bindTs at h; cases h
  | t :: ts, [], n, n', σ, vs, Q, h, _, _, _ => by unfold bindTs at h; cases h
  | t :: ts, d :: ds, n, n', σ, vs, Q, h, hd, hl, k => by
    unfold bindTs at h
    cases e : bindT t d n with
    | none => rw [e] at h; cases h
    | some n1 =>
      rw [e] at h
      unfold DenL at hd
      obtain ⟨v, r, e1, h1, h2⟩ := hd
      unfold gTs
      refine ⟨v, r, e1, gT_ok t d n n1 σ v _ e h1 hl fun σ1 c1 => ?_⟩
      refine gTs_ok ts ds n1 n' σ1 r Q h h2 (by rw [c1.ls, c1.ln]; exact hl) fun σ2 c2 => k σ2 ?_
      unfold slotsL
      exact c1.trans c2
end
theorem assign_cons {e : Expr} {es : List Expr} {env : Env} (h : notStar e = true) : assignEach (e :: es) env = (false, assign e env) :: assignEach es env := by
  cases e <;> first | rfl | (exact absurd h Bool.false_ne_true)
theorem okT_star {N : List Str} {sc : Scope} {fn : Str → Bool} {t : Tg} {x : Expr} (h : okT N sc fn t x = true) : notStar x = true := by
  cases x with
  | Starred v p => cases t <;> (unfold okT at h; exact h)
  | _ => rfl
mutual
theorem pg_ok {X : Cx} (hc : X.calm = true) (hN : X.N.Nodup) : ∀ (t : Tg) (e : Expr), okT X.N X.env.scope X.fn t e = true → PG X e (gT X.K t)
  | .nm i, e, h => by
    unfold okT at h
    cases e with
    | Name x p =>
      simp only [Bool.and_eq_true, Bool.or_eq_true, decide_eq_true_eq] at h
      obtain ⟨h1, h2⟩ := h
      unfold gT
      rcases h2 with h2 | ⟨h2, h3⟩
      · exact pg_name hN h1 (.inl h2) (.inr h2)
      · exact pg_name hN h1 (.inr h2) (.inl h3)
    | _ => cases h
  | .tp ts, e, h => by
    unfold okT at h
    cases e with
    | Tuple es k p =>
      have h : okTs X.N X.env.scope X.fn ts es = true := h
      obtain ⟨h1, h2, h3⟩ := pgs_ok hc hN ts es h
      unfold gT
      exact pg_tupA hc h1 h2 h3
    | _ => cases h
theorem pgs_ok {X : Cx} (hc : X.calm = true) (hN : X.N.Nodup) : ∀ (ts : List Tg) (es : List Expr), okTs X.N X.env.scope X.fn ts es = true → PGs X es (gTs X.K ts) ∧ (assignEach es X.env).length = ts.length ∧ (assignEach es X.env).findIdx? (·.1) = none
  | [], [], _ => by unfold gTs; exact ⟨pgs_nil, rfl, rfl⟩
  | [], e :: es, h => by unfold okTs at h; cases h
  | t :: ts, [], h => by unfold okTs at h; cases h
  | t :: ts, e :: es, h => by
    unfold okTs at h
    rw [Bool.and_eq_true] at h
    obtain ⟨h1, h2, h3⟩ := pgs_ok hc hN ts es h.2
    have hs := okT_star h.1
    unfold gTs
    refine ⟨pgs_cons (pg_ok hc hN t e h.1) h1 (by rw [assign_cons hs]; rfl), ?_, ?_⟩
    · rw [assign_cons hs, List.length_cons, List.length_cons, h2]
    · rw [assign_cons hs, List.findIdx?_cons]
      show (if false = true then some 0 else Option.map (fun i => i + 1) (List.findIdx? (fun x => x.fst) (assignEach es X.env))) = none
      rw [if_neg Bool.false_ne_true, h3]
      rfl
end

/-! ### wiping -/
theorem wipeN_len : ∀ (l : List Nat) (n : Nv), (wipeN n l).length = n.length
  | [], n => rfl
  | i :: r, n => by unfold wipeN; rw [wipeN_len r]; simp
theorem wipe_get : ∀ (l : List Nat) (σ : L2.St) (i : Nat), (wipe σ l)[i]? = if i ∈ l ∧ i < σ.length then some none else σ[i]?
  | [], σ, i => by simp [wipe]
  | j :: r, σ, i => by
    unfold wipe
    by_cases hj : i = j
    · subst hj
      by_cases hl : i < σ.length
      · rw [List.getElem?_set_self (by rw [wipe_length]; exact hl), if_pos ⟨List.mem_cons_self, hl⟩]
      · rw [if_neg (fun z => hl z.2), List.getElem?_eq_none (by simpa [wipe_length] using hl), List.getElem?_eq_none (by simpa using hl)]
    · rw [List.getElem?_set_ne (Ne.symm hj), wipe_get r]
      by_cases hr : i ∈ r ∧ i < σ.length
      · rw [if_pos hr, if_pos ⟨List.mem_cons_of_mem _ hr.1, hr.2⟩]
      · rw [if_neg hr, if_neg]
        rintro ⟨h1, h2⟩
        rcases List.mem_cons.mp h1 with z | z
        · exact hj z
        · exact hr ⟨z, h2⟩
theorem wipeN_get : ∀ (l : List Nat) (n : Nv) (i : Nat), (wipeN n l)[i]? = if i ∈ l ∧ i < n.length then some .emp else n[i]?
  | [], n, i => by simp [wipeN]
  | j :: r, n, i => by
    unfold wipeN
    rw [wipeN_get r]
    by_cases hr : i ∈ r ∧ i < n.length
    · rw [if_pos ⟨hr.1, by simpa using hr.2⟩, if_pos ⟨List.mem_cons_of_mem _ hr.1, hr.2⟩]
    · rw [if_neg (by simpa using hr)]
      by_cases hj : i = j
      · subst hj
        by_cases hl : i < n.length
        · rw [List.getElem?_set_self hl, if_pos ⟨List.mem_cons_self, hl⟩]
        · rw [if_neg (fun z => hl z.2), List.getElem?_eq_none (by simpa using hl), List.getElem?_eq_none (by simpa using hl)]
      · rw [List.getElem?_set_ne (Ne.symm hj)]
        by_cases hl : i < n.length
        · rw [if_neg]
          rintro ⟨h1, h2⟩
          rcases List.mem_cons.mp h1 with z | z
          · exact hj z
          · exact hr ⟨z, h2⟩
        · rw [if_neg (fun z => hl z.2)]
theorem rel_wipe {Z : Wd} {n : Nv} {σ : L2.St} {H : Hp} {B : Addr → Prop} (l : List Nat) (r : RelB Z n σ H B) : RelB Z (wipeN n l) (wipe σ l) H B := by
  refine ⟨fun i d e => ?_, fun i d e => ?_, r.bt, by rw [wipe_length, wipeN_len]; exact r.len, fun i d e => ?_⟩
  · rw [wipeN_get] at e
    by_cases h : i ∈ l ∧ i < n.length
    · rw [if_pos h] at e; cases e
    · rw [if_neg h] at e
      obtain ⟨v, q1, q2⟩ := r.val i d e
      refine ⟨v, ?_, q2⟩
      rw [wipe_get, if_neg (by rw [r.len]; exact h)]
      exact q1
  · rw [wipeN_get] at e
    by_cases h : i ∈ l ∧ i < n.length
    · rw [if_pos h] at e; cases e
    · rw [if_neg h] at e
      obtain ⟨p, q1, q2⟩ := r.own i d e
      refine ⟨p, ?_, q2⟩
      rw [wipe_get, if_neg (by rw [r.len]; exact h)]
      exact q1
  · rw [wipeN_get] at e
    by_cases h : i ∈ l ∧ i < n.length
    · rw [if_pos h] at e; cases e
    · rw [if_neg h] at e
      obtain ⟨p, qs, q1, q2⟩ := r.own2 i d e
      refine ⟨p, qs, ?_, q2⟩
      rw [wipe_get, if_neg (by rw [r.len]; exact h)]
      exact q1
theorem wipe_back {σ σ' : L2.St} {l : List Nat} (hl : σ'.length = σ.length) (h : ∀ i, i ∉ l → σ'[i]? = (wipe σ l)[i]?) : wipe σ' l = wipe σ l := by
  apply List.ext_getElem?
  intro i
  rw [wipe_get, wipe_get]
  by_cases hi : i ∈ l ∧ i < σ.length
  · rw [if_pos (by rw [hl]; exact hi), if_pos hi]
  · rw [if_neg (by rw [hl]; exact hi), if_neg hi]
    by_cases hm : i ∈ l
    · have : ¬ i < σ.length := fun z => hi ⟨hm, z⟩
      rw [List.getElem?_eq_none (by rw [hl]; omega), List.getElem?_eq_none (by omega)]
    · rw [h i hm, wipe_get, if_neg (fun z => hm z.1)]
end PM

set_option Elab.async false
set_option linter.all false
set_option maxRecDepth 100000
set_option maxHeartbeats 4000000
/-! PM6: comprehensions; soundness of expressions. -/
namespace PM
open PySem PySem.Spec L2
open PyProof.Rows hiding St

abbrev WX0 : WX := fun _ _ _ _ => False
def PostI1 (Z : Wd) (W : WE) (φ : List D → Option (List D)) (H : Hp) (B : Addr → Prop) (Rr : It → Hp → Prop) (l : RL) : Prop := match l with
  | .ok ds o => ∃ items, φ ds = some items ∧ ∀ J H', Ex H H' → WalkD Z J items H' (if o = true then (fun _ => False) else B) → Rr J H'
  | .exn c f => PostX Z W c f H B
  | .bad => False
def PostI (Z : Wd) (W : WE) (φ : List D → Option (List D)) (l : T RL) (H : Hp) (B : Addr → Prop) (Rr : It → Hp → Prop) : Prop := l.all (PostI1 Z W φ H B Rr)
def tI (Z : Wd) (W : WX) (φ : List D → Option (List D)) (es : List E) : TI := fun σ H Rr => ∃ n B, RelB Z n σ H B ∧ PostI Z (fun c d H' => W c d σ H') φ (evs es n) H B Rr
theorem pi_weak {X : Cx} {tg e : Expr} {t t' : TI} (h : PI X tg e t) (w : ∀ σ H Q, t' σ H Q → t σ H Q) : PI X tg e t' := ⟨fun pins s σ H Q I q => h.run pins s σ H Q I (w σ H Q q)⟩
theorem set_of {iter : Expr} {env : Env} (h : notSet iter = true) : ∀ x, foldedSetIterable iter env x = pure x := by
  intro x
  cases iter <;> first | rfl | (exact absurd h Bool.false_ne_true)
/-- from a list's post to an iterator's -/
theorem posti {Z : Wd} {W : WE} {φ : List D → Option (List D)} {m : Nat} {l : T RL} {H : Hp} {B : Addr → Prop} {Rr : It → Hp → Prop} {QL : List V → Hp → Prop} (hl : l.all (lenIs m)) (h : PostI Z W φ l H B Rr)
    (K : ∀ vs H' ds B' items, Ex H H' → DenL Z H' B' ds vs → ds.length = m → φ ds = some items → (∀ J H2, Ex H' H2 → WalkD Z J items H2 B' → Rr J H2) → QL vs H') : PostL Z W l H B QL := by
  refine T.mono (fun l h => ?_) (T.both hl h)
  obtain ⟨hl, h⟩ := h
  cases l with
  | ok ds o =>
    obtain ⟨items, e, k⟩ := h
    cases o with
    | false => exact fun vs H2 e2 q => K vs H2 ds B items e2 q (hl _ _ rfl) e fun J H3 e3 w => k J H3 (e2.trans e3) w
    | true => exact fun vs H2 e2 q => K vs H2 ds (fun _ => False) items e2 q (hl _ _ rfl) e fun J H3 e3 w => k J H3 (e2.trans e3) w
  | exn c f => exact h
  | bad => exact h
theorem pi_cl {C : Cn} {X : Cx} {W : WX} (A : C.At X) {x : Str} {φ : List D → Option (List D)} {es : List E} {tg : Expr} {p pos : Pos} {xs : List Expr} {nn : Nat} (h : ItCl C x nn φ) (hg : Gl X x) (ht : isTup tg = true ∨ x = "range") (hn : xs.length = nn) (hs : xs.all notStar = true)
    (ha : PA X xs (tA C.Z W es)) : PI X tg (.Call (.Name x p) xs [] pos) (tI C.Z W φ es) := by
  refine pi_weak (h X tg A hg ht p pos xs _ hn hs ha) fun σ H Rr ⟨n, B, rel, post⟩ => ⟨n, B, rel, ?_⟩
  exact posti evs_len post fun vs H' ds B' items e q _ ei k => ⟨B', ds, items, q, ei, k⟩
theorem pe_of_pa1 {Z : Wd} {W : WE} {n : Nv} {σ : L2.St} {H : Hp} {B : Addr → Prop} {e : E} {Q : VK} (rel : RelB Z n σ H B) (h : PostL Z W (evs [e] n) H B (fun vs H1 => ∃ v, vs = [v] ∧ Q v H1)) : PostE Z W (ev e n) σ H B Q := by
  unfold evs at h
  refine post_arg rel h fun v H' e' q => ?_
  unfold evs at q
  obtain ⟨v', e1, q⟩ := q [] H' (Ex.refl _) .nil
  cases e1
  exact q
theorem pi_ex {C : Cn} {X : Cx} {W : WX} (A : C.At X) {φ : List D → Option (List D)} {e : E} {tg iter : Expr} (h : ItEx C φ) (he : PE X iter (tE C.Z W e)) : PI X tg iter (tI C.Z W φ [e]) := by
  refine pi_weak (h X tg iter _ A he) fun σ H Rr ⟨n, B, rel, post⟩ => ⟨n, B, rel, ?_⟩
  refine pe_of_pa1 rel (posti evs_len post fun vs H' ds B' items ex q hl ei k => ?_)
  obtain ⟨d, rfl⟩ : ∃ d, ds = [d] := by
    cases ds with
    | nil => simp at hl
    | cons d r => cases r with
      | nil => exact ⟨d, rfl⟩
      | cons _ _ => simp at hl
  unfold DenL at q
  obtain ⟨v, r, e1, q1, q2⟩ := q
  unfold DenL at q2
  subst q2
  exact ⟨v, e1, B', d, items, q1, ei, k⟩
theorem pi_mt {C : Cn} {X : Cx} {W : WX} (A : C.At X) {m : Str} {φ : List D → Option (List D)} {e : E} {tg eo : Expr} {ap cp : Pos} (h : ItMt C m φ) (ht : isTup tg = true) (hp : plainO eo = true) (hl : (ap.endLine == cp.line) = true) (he : PE X eo (tE C.Z W e)) :
    PI X tg (.Call (.Attribute eo m ap) [] [] cp) (tI C.Z W φ [e]) := by
  refine pi_weak (h X tg A ht eo ap cp _ hp hl he) fun σ H Rr ⟨n, B, rel, post⟩ => ⟨n, B, rel, ?_⟩
  refine pe_of_pa1 rel (posti evs_len post fun vs H' ds B' items ex q hl ei k => ?_)
  obtain ⟨d, rfl⟩ : ∃ d, ds = [d] := by
    cases ds with
    | nil => simp at hl
    | cons d r => cases r with
      | nil => exact ⟨d, rfl⟩
      | cons _ _ => simp at hl
  unfold DenL at q
  obtain ⟨v, r, e1, q1, q2⟩ := q
  unfold DenL at q2
  subst q2
  exact ⟨v, e1, B', d, items, q1, ei, k⟩

/-! ### comprehensions -/
theorem flatL_get : ∀ {ds : List D} {i : Nat} {d : D}, flatL ds = true → ds[i]? = some d → flat d = true
  | [], i, d, _, e => by simp at e
  | d :: ds, 0, d', h, e => by
    unfold flatL at h
    rw [Bool.and_eq_true] at h
    have : d = d' := by simpa using e
    subst this
    exact h.1
  | d :: ds, i + 1, d', h, e => by
    unfold flatL at h
    rw [Bool.and_eq_true] at h
    exact flatL_get h.2 (by simpa using e)
theorem lineMax_eq : lineMax = sizeLine := by rw [sizeLine_eq]; rfl

/-- the reading of a comprehension -/
theorem lc_read {Z : Wd} {W : WX} {t : Tg} {φ : List D → Option (List D)} {es : List E} {k : IK} {ifs elt : E} {own : List (Str × Nat)} (hsl : ∀ i ∈ slotsT t, i ∈ own.map (·.2)) {σ : L2.St} {H : Hp} {Q : VK}
    (h : tE Z W (.lc t k φ es ifs elt own) σ H Q) : tLc (tI Z W φ es) (gT Z.K t) (tT Z WX0 ifs) (tE Z WX0 elt) (own.map (·.2)) σ H Q := by
  obtain ⟨n, B, rel, post⟩ := h
  refine ⟨n, B, rel, ?_⟩
  unfold ev at post
  generalize hf : turn t (wipeN n (own.map (·.2))) (fun n' => evT ifs n') (fun n' => ev elt n') = f at post
  refine PostE.bind post fun l post => ?_
  cases l with
  | bad => exact False.elim post
  | exn c f' => exact post
  | ok ds o =>
    unfold RL.lc at post
    dsimp only at post
    cases ei : φ ds with
    | none => rw [ei] at post; exact False.elim post
    | some items =>
      rw [ei] at post
      dsimp only at post
      by_cases c : (!(o && !flatL items) && decide (items.length ≤ lineMax)) = true
      · rw [if_pos c] at post
        rw [Bool.and_eq_true, decide_eq_true_eq] at c
        obtain ⟨c1, c2⟩ := c
        refine ⟨items, ei, fun J H1 e1 wk Dn hD => ?_⟩
        have hDH := e1.free hD
        have post : (lcL f items).all fun o => PostE1 Z (fun c d H' => W c d σ H') σ H B Q (R.ofList o) := T.all_bind.mp post
        · -- one way
          have relw : RelB Z (wipeN n (own.map (·.2))) (wipe σ (own.map (·.2))) H1 B := (rel_wipe _ rel).ex e1
          have hBD : ¬ B Dn := fun z => by
            obtain ⟨o', z, _⟩ := relw.bt Dn z
            rw [hD] at z; cases z
          -- what changes from here: B and the new list
          obtain ⟨G, Y, w, hG, hY⟩ := wk (if o = true then (fun a => a = Dn) else (fun a => B a ∨ a = Dn)) (fun a z => by
            cases o with
            | true => exact .inr (by have z : a = Dn := z; rw [z]; exact hD)
            | false =>
              have z : B a ∨ a = Dn := z
              exact z.imp (fun q => q) fun q => by rw [q]; exact hD)
          have eN : Ex H1 (upd H1 Dn (.lst [])) := Ex.new hD
          -- the state between two turns
          refine lc_it w (fun i H' => ∃ (acc : List V) (da : List D) (rest : List D), H' Dn = some (.lst acc) ∧ Ex H1 H' ∧ DenL Z H' (fun a => B a ∨ a = Dn) da acc ∧ acc.length ≤ i ∧ rest = da ∧ (lcL f (items.drop i)).all fun o => PostE1 Z (fun c d H' => W c d σ H') σ H B Q (R.ofList (o.map (da ++ ·))))
            ⟨[], [], [], upd_same, eN, .nil, Nat.le_refl _, rfl, by
              refine T.mono (fun o ho => ?_) post
              cases o with
              | none => exact ho
              | some r => exact ho⟩ (fun i H' _ p => ?_) (fun i x H' H2 hi p y => ?_) (fun H' p => ?_)
          · obtain ⟨acc, da, rest, q1, q2, _⟩ := p
            exact hG H' q2.kp
          · obtain ⟨acc, da, rest, q1, q2, q3, q4, q5, q6⟩ := p
            obtain ⟨e2, d, ed, hd⟩ := hY i x H' H2 q2.kp hi y
            have e12 := q2.trans e2
            have hD2 : H2 Dn = some (.lst acc) := e2 _ _ q1
            -- the item denotes with all that changes
            have hd2 : Den Z H2 (fun a => B a ∨ a = Dn) d x := by
              cases o with
              | false => exact hd
              | true =>
                have fl : flat d = true := flatL_get (ds := items) (by simpa using c1) ed
                exact Den.flat d x fl hd
            have rel2 : RelB Z (wipeN n (own.map (·.2))) (wipe σ (own.map (·.2))) H2 (fun a => B a ∨ a = Dn) := by
              refine ⟨fun j d' ej => ?_, fun j d' ej => ?_, fun a z => ?_, relw.len, fun j d' ej => ?_⟩
              · obtain ⟨v, z1, z2⟩ := relw.val j d' ej
                exact ⟨v, z1, (Den.add hD d' v z2).ex e12⟩
              · obtain ⟨p, z1, z2, z3⟩ := relw.own j d' ej
                refine ⟨p, z1, .inl z2, ?_⟩
                have z4 : OwnAt Z H1 (fun a => B a ∨ a = Dn) p d' := by
                  cases d' with
                  | lst ds' => obtain ⟨vs, u1, u2⟩ := z3; exact ⟨vs, u1, DenL.add hD _ _ u2⟩
                  | dT ks ds' => obtain ⟨vs, u1, u3, u2⟩ := z3; exact ⟨vs, u1, u3, DenL.add hD _ _ u2⟩
                  | dK ks ds' => obtain ⟨vs, u1, u3, u2⟩ := z3; exact ⟨vs, u1, u3, DenL.add hD _ _ u2⟩
                  | _ => exact False.elim z3
                exact z4.ex e12
              · rcases z with z | z
                · obtain ⟨o', z', m⟩ := relw.bt a z
                  exact ⟨o', e12 a o' z', m⟩
                · subst z; exact ⟨_, hD2, rfl⟩
              · obtain ⟨p, qs, z1, z2, z3, z4, z5⟩ := relw.own2 j d' ej
                exact ⟨p, qs, z1, .inl z2, e12 p _ z3, z4, z5.imp fun q d _ b o => ⟨.inl b, (OwnAt.grow (B' := fun a => B a ∨ a = Dn) (fun a z => z.imp (fun q => q) fun q => by rw [q]; exact hD) o).ex e12⟩⟩
            -- what the turn comes to
            have hsp : items.drop i = d :: items.drop (i + 1) := by
              obtain ⟨h1, h2⟩ := List.getElem?_eq_some_iff.mp ed
              rw [List.drop_eq_getElem_cons h1, h2]
            subst q5
            rw [hsp] at q6
            rw [lcL_cons] at q6
            have q6 := T.all_bind.mp q6
            have ef : f d = turn t (wipeN n (own.map (·.2))) (fun n' => evT ifs n') (fun n' => ev elt n') d := by rw [hf]
            unfold turn at ef
            cases eb : bindT t d (wipeN n (own.map (·.2))) with
            | none =>
              rw [eb] at ef
              rw [ef] at q6
              exact False.elim q6
            | some n' =>
              rw [eb] at ef
              dsimp only at ef
              rw [ef] at q6
              refine gT_ok t d _ n' _ x _ eb hd2 relw.len fun σ' cg => ?_
              have reln := cg.rel rel2
              refine ⟨wipe_back (by rw [cg.ls, wipe_length]) (fun j hj => (cg.out j fun z => hj (hsl j z)).1), ?_⟩
              refine ⟨n', _, reln, ?_⟩
              refine T.mono (fun tt q6 => ?_) (T.all_bind.mp q6)
              cases tt with
              | bad => exact False.elim q6
              | exn c f' => exact False.elim q6
              | ok b =>
                intro H3 e3
                cases b with
                | false =>
                  show ∃ acc da rest, H3 Dn = some (.lst acc) ∧ _
                  exact ⟨acc, rest, rest, e3 _ _ hD2, e12.trans e3, (q3.ex e2).ex e3, Nat.le_succ_of_le q4, rfl, q6⟩
                | true =>
                  have q6 := T.all_bind.mp q6
                  have fin : ∀ (y : V) (H4 : Hp) (dy : D), Ex H3 H4 → Den Z H4 (fun a => B a ∨ a = Dn) dy y → (T.bind (lcL f (items.drop (i + 1))) (fun o => match o with
                      | some xs => .pure (some (dy :: xs))
                      | none => .pure none)).all (fun o => PostE1 Z (fun c d H' => W c d σ H') σ H B Q (R.ofList (o.map (rest ++ ·)))) → ∃ acc, H4 Dn = some (.lst acc) ∧ acc.length < sizeLine ∧ ∃ (acc' : List V) (da' : List D) (rest' : List D),
                      (upd H4 Dn (.lst (acc ++ [y]))) Dn = some (.lst acc') ∧ Ex H1 (upd H4 Dn (.lst (acc ++ [y]))) ∧ DenL Z (upd H4 Dn (.lst (acc ++ [y]))) (fun a => B a ∨ a = Dn) da' acc' ∧ acc'.length ≤ i + 1 ∧ rest' = da' ∧ (lcL f (items.drop (i + 1))).all fun o => PostE1 Z (fun c d H' => W c d σ H') σ H B Q (R.ofList (o.map (da' ++ ·))) := by
                    intro y H4 dy e4 hy ek
                    have e24 := e3.trans e4
                    have hD4 : H4 Dn = some (.lst acc) := e24 _ _ hD2
                    have kp : Kp (fun a => B a ∨ a = Dn) H4 (upd H4 Dn (.lst (acc ++ [y]))) := fun a u ha hm => by
                      have ne : a ≠ Dn := fun z => by
                        subst z
                        rcases hm with hm | hm
                        · exact hm (.inr rfl)
                        · rw [hD4] at ha; cases ha; cases hm
                      rw [upd_ne ne]; exact ha
                    refine ⟨acc, hD4, ?_, acc ++ [y], rest ++ [dy], _, upd_same, ?_, ?_, ?_, rfl, ?_⟩
                    · rw [← lineMax_eq]; omega
                    · intro a u ha
                      have ne : a ≠ Dn := ne_of_none ha hD
                      rw [upd_ne ne]
                      exact e24 _ _ (e12 _ _ ha)
                    · exact DenL.append (((q3.ex e2).ex e24).kp kp fun _ z => z) (.cons (hy.kp kp fun _ z => z) .nil)
                    · rw [List.length_append, List.length_singleton]; omega
                    · refine T.mono (fun o ho => ?_) (T.all_bind.mp ek)
                      cases o with
                      | none => exact ho
                      | some r =>
                        show PostE1 _ _ _ _ _ _ (R.ofList (some ((rest ++ [dy]) ++ r)))
                        rw [List.append_assoc]
                        exact ho
                  show tE Z WX0 elt σ' H3 _
                  refine ⟨n', _, reln.ex e3, ?_⟩
                  refine T.mono (fun re q6 => ?_) q6
                  cases re with
                  | ok dy => exact fun y H4 e4 hy => fin y H4 dy e4 hy q6
                  | fresh dy =>
                    intro p H4 hp e4 hy
                    refine fin _ H4 dy e4 (hy.den (fun z => ?_) fun a z => .inl z) q6
                    obtain ⟨o', z, _⟩ := (reln.ex e3).bt p z
                    rw [hp] at z; cases z
                  | own j => exact False.elim q6
                  | exn c f' => exact False.elim q6
                  | bad => exact False.elim q6
          · obtain ⟨acc, da, rest, q1, q2, q3, q4, q5, q6⟩ := p
            have : items.drop items.length = [] := List.drop_length
            rw [this] at q6
            rw [lcL_nil] at q6
            have q6 : PostE1 Z (fun c d H' => W c d σ H') σ H B Q (R.ofList (some (da ++ []))) := q6
            rw [List.append_nil] at q6
            exact q6 Dn H' hDH (e1.trans q2) ⟨acc, q1, q3⟩
      · rw [if_neg c] at post
        exact False.elim post
end PM

set_option Elab.async false
set_option linter.all false
set_option maxRecDepth 100000
set_option maxHeartbeats 8000000
/-! PM6s: slices with a step, of lists. -/
namespace PM
open PySem PySem.Spec L2
open PyProof.Rows hiding St

theorem rd_lst0 {Z : Wd} {H : Hp} {B : Addr → Prop} {ds : List D} {x : V} (q : RdD Z H B (.lst ds) x) : ∃ a vs, x = .ref a ∧ SqL Z.K H a vs ∧ DenL Z H B ds vs := by
  rcases q with q | ⟨p, rfl, vs, h1, h2⟩
  · unfold Den at q
    obtain ⟨a, vs, h1, h2, h3⟩ := q
    exact ⟨a, vs, h1, h2.sq, h3⟩
  · exact ⟨p, vs, rfl, .inl (.inl h1), h2⟩
theorem cut_denL {Z : Wd} {H : Hp} {B : Addr → Prop} {ds : List D} {vs : List V} (h : DenL Z H B ds vs) : ∀ L : List Nat, DenL Z H B (L.filterMap (ds[·]?)) (L.filterMap (vs[·]?))
  | [] => DenL.nil
  | i :: L => by
    rw [List.filterMap_cons, List.filterMap_cons]
    cases e : ds[i]? with
    | none =>
      have : vs[i]? = none := by
        rw [List.getElem?_eq_none_iff] at e ⊢
        rw [h.length]; exact e
      rw [this]
      exact cut_denL h L
    | some d =>
      obtain ⟨v, e1, e2⟩ := h.get e
      rw [e1]
      exact (DenL.cons e2 (cut_denL h L))
theorem cutS_den {Z : Wd} {H : Hp} {B : Addr → Prop} {ds : List D} {vs : List V} (k : Int) (h : DenL Z H B ds vs) : DenL Z H B (cutS ds k) (cutS vs k) := by
  unfold cutS
  rw [h.length]
  exact cut_denL h _
theorem cut_vals {vs : List V} {us : List Value} (h : Vals vs us) : ∀ L : List Nat, Vals (L.filterMap (vs[·]?)) (L.filterMap (us[·]?))
  | [] => .nil
  | i :: L => by
    have key : ∀ {vs : List V} {us : List Value}, Vals vs us → ∀ i : Nat, (vs[i]? = none ∧ us[i]? = none) ∨ ∃ v u, vs[i]? = some v ∧ us[i]? = some u ∧ RelV v u := by
      intro vs us h
      induction h with
      | nil => intro i; exact .inl ⟨rfl, rfl⟩
      | cons r t ih =>
        intro i
        cases i with
        | zero => exact .inr ⟨_, _, rfl, rfl, r⟩
        | succ i => exact ih i
    rw [List.filterMap_cons, List.filterMap_cons]
    rcases key h i with ⟨e1, e2⟩ | ⟨v, u, e1, e2, r⟩
    · rw [e1, e2]
      exact cut_vals h L
    · rw [e1, e2]
      exact .cons r (cut_vals h L)
theorem cutS_vals {vs : List V} {us : List Value} (k : Int) (h : Vals vs us) : Vals (cutS vs k) (cutS us k) := by
  unfold cutS
  rw [h.length]
  exact cut_vals h _
theorem pick_cutS (us : List Value) (k : Int) : slicePick us.toArray none none (some k) = (cutS us k).toArray := by
  unfold slicePick cutS
  rw [List.size_toArray]
  congr 2
  funext i
  exact List.getElem?_toArray ..
def tStep (K : PySem.W.Frag) (k : Int) (te : TE) : TE := fun σ H Q => te σ H fun x H1 => ∃ a xs, x = .ref a ∧ k ≠ 0 ∧ SqL K H1 a xs ∧ (cutS xs k).length < 1000000 ∧ ∀ p, H1 p = none → Q (.ref p) (upd H1 p (.lst (cutS xs k)))
theorem pe_step {X : Cx} {e st : Expr} {te : TE} {to : TO} {k : Int} {p3 pos : Pos} (he : PE X e te) (hst : PO X (some st) to) (hq : ∀ σ H (Q : Option Int → Hp → Prop), Q (some k) H → to σ H Q) : PE X (.Subscript e (.Slice none none (some st) p3) pos) (tStep X.K k te) := by
  refine ⟨fun pins s σ H Q I h => ?_⟩
  refine Subscript_ (thn (he.run pins s σ H _ I h) fun v s1 ⟨x, H1, I1, r1, q1⟩ => ?_)
  obtain ⟨a, xs, ex, k0, hx, hz1, q⟩ := q1
  subst ex
  cases r1
  refine wpAny_Slice (thn (po_none.run pins s1 σ H1 (fun o H2 => o = none ∧ H2 = H1) I1 ⟨rfl, rfl⟩) fun vl s2 ⟨l, H2, I2, pl, el, e2⟩ => ?_)
  subst el e2
  refine thn (po_none.run pins s2 σ H2 (fun o H3 => o = none ∧ H3 = H2) I2 ⟨rfl, rfl⟩) fun vu s3 ⟨u, H3, I3, pu, eu, e3⟩ => ?_
  subst eu e3
  refine thn (hst.run pins s3 σ H3 (fun o H4 => o = some k ∧ H4 = H3) I3 (hq _ _ _ ⟨rfl, rfl⟩)) fun vs s4 ⟨o, H4, I4, ps, eo, e4⟩ => ?_
  subst eo e4
  have I5 : Inv X pins σ H4 { s4 with heap := s4.heap.push { cls := .type "slice", data := .fields #[vl, vu, vs] } } := I4.kept (t' := s4.toks) fun b ob q => Heap.get?_push_of_some _ q
  obtain ⟨its, r, ht, hz⟩ := I5.list hx
  have hlen := r.length
  show wpAny (model X.prog X.w) X.A (subscriptTail e (.Slice none none (some st) p3) (.ref a) (.ref s4.heap.objs.size)) (EP X pins σ Q) X.xe { s4 with heap := s4.heap.push { cls := .type "slice", data := .fields #[vl, vu, vs] } }
  refine tail_any (ops := [.ref a, .ref s4.heap.objs.size]) ht.isList.typeIs (PySem.slot_list_getitem.lookup) ?_ (by with_unfolding_all rfl)
  refine wpAny_getItem_list_slice ht.isList (Heap.IsSliceOf.new _ vl vu vs) pl pu ps (fun z => k0 (Option.some.inj z)) ?_ (by rw [List.size_toArray]; omega)
  rw [pick_cutS]
  refine ⟨.ref _, _, I5.laid (t' := s4.toks) (o := .lst (cutS xs k)) (fun b ob q => Heap.get?_push_of_some _ q) (Nat.le_refl _) ?_, rfl, q _ (I5.hok.fresh (Nat.le_refl _))⟩
  exact ⟨by rw [sizeLine_eq]; omega, _, 0, cutS_vals k r, Heap.get?_push_size _ rfl⟩
end PM

set_option Elab.async false
set_option linter.all false
set_option maxRecDepth 100000
set_option maxHeartbeats 8000000
/-! PM7: soundness of expressions. -/
namespace PM
open PySem PySem.Spec L2
open PyProof.Rows hiding St

theorem gl_of {X : Cx} {x : Str} (h : glB X.env.scope x = true) : Gl X x := by
  unfold glB at h
  have h := of_decide_eq_true h
  exact h
theorem plain1 {x : Str} (h : plainN x = true) : (x == ("__debug__" : Str)) = false := by
  unfold plainN at h
  rw [Bool.and_eq_true] at h
  simpa using h.1
theorem plain2 {x : Str} (h : plainN x = true) : (x == ("__classdict__" : Str)) = false := by
  unfold plainN at h
  rw [Bool.and_eq_true] at h
  simpa using h.2
theorem isTrue_plain_of {x : Expr} {env : Env} (h : (match x with
    | .UnaryOp .Not _ _ => false
    | .BoolOp _ _ _ => false
    | .IfExp _ _ _ _ => false
    | .Compare _ _ _ _ => false
    | _ => true) = true) (whole : Sem Value) : isTrue x env whole = (do let v ← whole; standAt x.pos; holding [v] (truthy v)) := by
  cases x with
  | UnaryOp op e p => cases op <;> first | rfl | (exact absurd h Bool.false_ne_true)
  | BoolOp _ _ _ => exact absurd h Bool.false_ne_true
  | IfExp _ _ _ _ => exact absurd h Bool.false_ne_true
  | Compare _ _ _ _ => exact absurd h Bool.false_ne_true
  | _ => rfl
theorem isTrue_gen {x : Expr} {env : Env} (h : genX x = true) (whole : Sem Value) : isTrue x env whole = (do let v ← whole; standAt x.pos; holding [v] (truthy v)) := by
  cases x <;> first | (exact absurd h Bool.false_ne_true) | exact isTrue_plain_of rfl whole
theorem op_bool {r : R} : r.call.bool = r.bool := by cases r <;> rfl

/-- a value's truth, by data -/
theorem tru_of {Z : Wd} {H : Hp} {B : Addr → Prop} {d : D} {v : V} {b : Bool} (r : RdD Z H B d v) (h : truth d = .ok b) : TruV Z.K v H b := by
  have h0 := r.all
  cases d with
  | non => unfold Den at h0; subst h0; cases h; rfl
  | bl c => unfold Den at h0; subst h0; cases h; rfl
  | int i => unfold Den at h0; subst h0; cases h; rfl
  | str s => cases h
  | tup ds =>
    unfold Den at h0
    obtain ⟨a, vs, e, q, rr⟩ := h0
    subst e
    cases h
    refine .inr (.inl ⟨vs, q, ?_⟩)
    cases ds with
    | nil => unfold DenL at rr; subst rr; rfl
    | cons d ds => unfold DenL at rr; obtain ⟨v, r, e, _⟩ := rr; subst e; rfl
  | lst ds =>
    unfold Den at h0
    obtain ⟨a, vs, e, q, rr⟩ := h0
    subst e
    cases h
    refine .inl ⟨vs, q.sq, ?_⟩
    cases ds with
    | nil => unfold DenL at rr; subst rr; rfl
    | cons d ds => unfold DenL at rr; obtain ⟨v, r, e, _⟩ := rr; subst e; rfl
  | _ => cases h
/-- a test by the truth of what comes -/
theorem truth_post {Z : Wd} {W : WE} {n : Nv} {σ : L2.St} {H : Hp} {B : Addr → Prop} {r : T R} {Q : Bool → Hp → Prop} (rel : RelB Z n σ H B) (h : PostT Z W (r.rdT n truthT) H B Q) :
    PostE Z W r σ H B (fun x H' => ∃ k, TruV Z.K x H' k ∧ Q k H') := by
  refine post_rdT rel h fun v H' d e q rel' hp => ?_
  unfold truthT at hp
  cases et : truth d with
  | ok b => rw [et] at hp; exact ⟨b, tru_of q et, hp H' (Ex.refl _)⟩
  | exn c f => cases d <;> cases et
  | bad => rw [et] at hp; exact False.elim hp

/-- what a test's two ways are -/
def isBoolOp : Expr → Bool
  | .BoolOp _ _ _ => true
  | _ => false
theorem postT_bool {Z : Wd} {W : WE} {r : R} {H : Hp} {B : Addr → Prop} {Q : Bool → Hp → Prop} (h : PostT Z W (.pure r.op.bool) H B Q) : PostF Z WE0 (.pure r) H B (fun x H' => ∃ k, x = .bl k ∧ Q k H') := by
  cases r with
  | ok d =>
    cases d with
    | bl b =>
      intro v H' e q
      unfold Den at q
      exact ⟨b, q, h H' e⟩
    | _ => exact False.elim h
  | fresh d => exact False.elim h
  | _ => exact False.elim h

theorem bad_test {Z : Wd} {X : Cx} {W : WX} {x : Expr} {e : E} (h : ∀ n, evT e n = .pure .bad) : PT X x (tT Z W e) ∧ (isBoolOp x = true → PW X x (tT Z W e)) :=
  ⟨⟨fun pins s σ H Q I ⟨n, B, rel, post⟩ => by rw [h] at post; exact False.elim post⟩, fun _ => ⟨fun wh pins s σ H Q I ⟨n, B, rel, post⟩ => by rw [h] at post; exact False.elim post⟩⟩

section
mutual
theorem sE (C : Cn) : ∀ (e : E) (X : Cx) (W : WX) (x : Expr), C.At X → X.N.Nodup → Takes X W → LkE C e → okE X.N X.env.scope e x = true → PE X x (tE C.Z W e)
  | .v i, X, W, x, A, hN, tk, lk, h => by
    unfold okE at h
    cases x with
    | Name y p =>
      simp only [Bool.and_eq_true, decide_eq_true_eq] at h
      obtain ⟨⟨h1, h2⟩, h3⟩ := h
      refine pe_weak (pe_var h1 (vis_of h2) (plain1 h3) (plain2 h3)) fun σ H Q ⟨n, B, rel, post⟩ => ?_
      unfold ev at post
      cases e : n[i]? with
      | none => rw [e] at post; exact False.elim post
      | some s =>
        rw [e] at post
        cases s with
        | emp => exact False.elim post
        | val d =>
          obtain ⟨v, q1, q2⟩ := rel.val i d e
          exact ⟨v, q1, post v H (Ex.refl _) q2⟩
        | own d =>
          obtain ⟨p, q1, q2, q3⟩ := rel.own i d e
          exact ⟨_, q1, post p H (Ex.refl _) q1⟩
        | own2 d => exact False.elim post
    | _ => cases h
  | .c d, X, W, x, A, hN, tk, lk, h => by
    unfold okE at h
    cases x with
    | Constant k j p =>
      have h : constB d k = true := h
      have fin : ∀ v, (∀ H B, Den C.Z H B d v) → PE X (.Constant k j p) (tC v) → PE X (.Constant k j p) (tE C.Z W (.c d)) := fun v hv hp =>
        pe_weak hp fun σ H Q ⟨n, B, rel, post⟩ => by
          unfold ev at post
          exact post v H (Ex.refl _) (hv H B)
      cases d with
      | non => cases k <;> first | exact fin .non (fun _ _ => by unfold Den; rfl) pe_non | cases h
      | bl b =>
        cases k with
        | bool b' =>
          have e : b = b' := by unfold constB at h; exact beq_iff_eq.mp h
          subst e
          exact fin (.bl b) (fun _ _ => by unfold Den; rfl) pe_bl
        | _ => cases h
      | int i =>
        cases k with
        | int j' =>
          have e : i = j' := by unfold constB at h; exact beq_iff_eq.mp h
          subst e
          exact fin (.int i) (fun _ _ => by unfold Den; rfl) pe_int
        | _ => cases h
      | str s =>
        cases k with
        | str s' =>
          have e : s = s' := by unfold constB at h; exact of_decide_eq_true h
          subst e
          exact fin (.str s) (fun _ _ => by unfold Den; rfl) pe_str
        | _ => cases h
      | _ => cases k <;> cases h
    | _ => cases h
  | .g y d, X, W, x, A, hN, tk, lk, h => by
    unfold okE at h
    cases x with
    | Name z p =>
      simp only [Bool.and_eq_true, decide_eq_true_eq] at h
      obtain ⟨⟨h1, h2⟩, h3⟩ := h
      subst h1
      unfold LkE at lk
      obtain ⟨u, v, q1, q2, q3⟩ := lk
      refine pe_weak (pe_glob (gl_of h2) (by rw [A.g]; exact q1) q2 (plain1 h3)) fun σ H Q ⟨n, B, rel, post⟩ => ?_
      unfold ev at post
      exact post v H (Ex.refl _) (q3 H B)
    | _ => cases h
  | .bin op f a b, X, W, x, A, hN, tk, lk, h => by
    unfold okE at h
    cases x with
    | BinOp ea op' eb p =>
      simp only [Bool.and_eq_true, decide_eq_true_eq] at h
      obtain ⟨⟨h1, h2⟩, h3⟩ := h
      subst h1
      unfold LkE at lk
      refine pe_weak (pe_op (lk.1 X A) (sE C a X W ea A hN tk lk.2.1 h2) (sE C b X W eb A hN tk lk.2.2 h3)) fun σ H Q ⟨n, B, rel, post⟩ => ?_
      unfold ev at post
      refine ⟨n, B, rel, post_rd rel post fun v H1 d e1 q1 rel1 h1 => ⟨n, B, rel1, post_rd rel1 h1 fun u H2 d2 e2 q2 rel2 h2 => ?_⟩⟩
      exact ⟨B, d, d2, rel2.bt, q1.ex e2, q2, PostF.ops h2⟩
    | _ => cases h
  | .un op f a, X, W, x, A, hN, tk, lk, h => by
    unfold okE at h
    cases x with
    | UnaryOp op' ea p =>
      simp only [Bool.and_eq_true, decide_eq_true_eq] at h
      obtain ⟨h1, h2⟩ := h
      subst h1
      unfold LkE at lk
      refine pe_weak (pe_un (lk.1 X A) (sE C a X W ea A hN tk lk.2 h2)) fun σ H Q ⟨n, B, rel, post⟩ => ?_
      unfold ev at post
      refine ⟨n, B, rel, post_rd rel post fun v H1 d e1 q1 rel1 h1 => ?_⟩
      exact ⟨B, d, rel1.bt, q1, PostF.ops h1⟩
    | _ => cases h
  | .cmp op f a b, X, W, x, A, hN, tk, lk, h => by
    unfold okE at h
    split at h
    · rename_i ea op' eb p
      simp only [Bool.and_eq_true, decide_eq_true_eq] at h
      obtain ⟨⟨⟨h1, h0⟩, h2⟩, h3⟩ := h
      subst h1
      unfold LkE at lk
      refine pe_weak (pe_cmpR (lk.1 X A) (sE C a X W ea A hN tk lk.2.1 h2) (sE C b X W eb A hN tk lk.2.2 h3) (behind_of h0)) fun σ H Q ⟨n, B, rel, post⟩ => ?_
      unfold ev at post
      refine ⟨n, B, rel, post_rd rel post fun v H1 d e1 q1 rel1 h1 => ⟨n, B, rel1, post_rd rel1 h1 fun u H2 d2 e2 q2 rel2 h2 => ?_⟩⟩
      exact ⟨B, d, d2, rel2.bt, q1.ex e2, q2, PostF.ops h2⟩
    · cases h
  | .chain op1 op2 f g a b c, X, W, x, A, hN, tk, lk, h => by
    unfold okE at h
    split at h
    · rename_i ea o1 o2 eb ec p
      simp only [Bool.and_eq_true, decide_eq_true_eq] at h
      obtain ⟨⟨⟨⟨⟨h1, h0⟩, hs⟩, h2⟩, h3⟩, h4⟩ := h
      subst h1 h0
      unfold LkE at lk
      refine pe_weak (pe_chain (lk.1 X A) (lk.2.1 X A) (sE C a X W ea A hN tk lk.2.2.1 h2) (sE C b X W eb A hN tk lk.2.2.2.1 h3) (sE C c X W ec A hN tk lk.2.2.2.2 h4) (by show behindInMarks op2 ec = false; exact behind_of hs)) fun σ H Q ⟨n, B, rel, post⟩ => ?_
      unfold ev at post
      refine ⟨n, B, rel, post_rd rel post fun v H1 d e1 q1 rel1 h1 => ⟨n, B, rel1, post_rd rel1 h1 fun u H2 d2 e2 q2 rel2 h2 => ?_⟩⟩
      refine ⟨B, d, d2, rel2.bt, q1.ex e2, q2, ?_⟩
      refine PostF.ops (W := fun c d H' => W c d σ H') (σ := σ) ?_
      refine post_bool1 h2 fun bb H3 e3 h3 => ⟨bb, rfl, ?_⟩
      cases bb with
      | true =>
        refine iteT ⟨n, B, rel2.ex e3, post_rd (rel2.ex e3) h3 fun w H4 d3 e4 q4 rel4 h4 => ?_⟩
        exact ⟨B, d2, d3, rel4.bt, (q2.ex e3).ex e4, q4, PostF.ops h4⟩
      | false => exact iteF (h3 _ H3 (Ex.refl _) (by unfold Den; rfl))
    · cases h
  | .and a b, X, W, x, A, hN, tk, lk, h => by
    unfold LkE at lk
    have red : ∀ (ea : Expr) (rest : List Expr) (p : Pos) (tb : TE), (rest ≠ [] → True) → PE X ea (tE C.Z W a) → (PE X (.BoolOp .And rest p) (tE C.Z W b)) → (rest = [] → False) → PE X (.BoolOp .And (ea :: rest) p) (tE C.Z W (.and a b)) := by
      intro ea rest p tb _ pa pb hne
      cases rest with
      | nil => exact (hne rfl).elim
      | cons r0 rs =>
        refine pe_weak (pe_and pa pb) fun σ H Q ⟨n, B, rel, post⟩ => ?_
        unfold ev at post
        refine ⟨n, B, rel, post_bool post fun bb H1 e1 h1 => ⟨bb, rfl, ?_⟩⟩
        cases bb with
        | true => exact iteT ⟨n, B, rel.ex e1, h1⟩
        | false => exact iteF (h1 _ H1 (Ex.refl _) (by unfold Den; rfl))
    unfold okE at h
    split at h
    · rename_i ea eb p
      simp only [Bool.and_eq_true] at h
      exact red ea [eb] p (fun _ _ _ => True) (fun _ => trivial) (sE C a X W ea A hN tk lk.1 h.1) (pe_one (sE C b X W eb A hN tk lk.2 h.2)) (fun z => by cases z)
    · rename_i ea eb ec r p
      simp only [Bool.and_eq_true] at h
      exact red ea (eb :: ec :: r) p (fun _ _ _ => True) (fun _ => trivial) (sE C a X W ea A hN tk lk.1 h.1) (sE C b X W _ A hN tk lk.2 h.2) (fun z => by cases z)
    · cases h
  | .or a b, X, W, x, A, hN, tk, lk, h => by
    unfold LkE at lk
    have red : ∀ (ea : Expr) (rest : List Expr) (p : Pos), PE X ea (tE C.Z W a) → (PE X (.BoolOp .Or rest p) (tE C.Z W b)) → (rest = [] → False) → PE X (.BoolOp .Or (ea :: rest) p) (tE C.Z W (.or a b)) := by
      intro ea rest p pa pb hne
      cases rest with
      | nil => exact (hne rfl).elim
      | cons r0 rs =>
        refine pe_weak (pe_or pa pb) fun σ H Q ⟨n, B, rel, post⟩ => ?_
        unfold ev at post
        refine ⟨n, B, rel, post_bool post fun bb H1 e1 h1 => ⟨bb, rfl, ?_⟩⟩
        cases bb with
        | false => exact iteF ⟨n, B, rel.ex e1, h1⟩
        | true => exact iteT (h1 _ H1 (Ex.refl _) (by unfold Den; rfl))
    unfold okE at h
    split at h
    · rename_i ea eb p
      simp only [Bool.and_eq_true] at h
      exact red ea [eb] p (sE C a X W ea A hN tk lk.1 h.1) (pe_one (sE C b X W eb A hN tk lk.2 h.2)) (fun z => by cases z)
    · rename_i ea eb ec r p
      simp only [Bool.and_eq_true] at h
      exact red ea (eb :: ec :: r) p (sE C a X W ea A hN tk lk.1 h.1) (sE C b X W _ A hN tk lk.2 h.2) (fun z => by cases z)
    · cases h
  | .not a, X, W, x, A, hN, tk, lk, h => by
    unfold LkE at lk
    unfold okE at h
    split at h
    · rename_i ea p
      refine pe_weak (pe_not (sE C a X W ea A hN tk lk h)) fun σ H Q ⟨n, B, rel, post⟩ => ?_
      unfold ev at post
      refine ⟨n, B, rel, post_bool post fun bb H1 e1 h1 => ⟨bb, rfl, h1 _ H1 (Ex.refl _) (by unfold Den; rfl)⟩⟩
    · cases h
  | .ite c a b, X, W, x, A, hN, tk, lk, h => by
    unfold LkE at lk
    unfold okE at h
    split at h
    · rename_i ec ea eb p
      simp only [Bool.and_eq_true] at h
      obtain ⟨⟨h1, h2⟩, h3⟩ := h
      refine pe_weak (pe_ifExp (sT C c X W ec A hN tk lk.1 h1).1 (sE C a X W ea A hN tk lk.2.1 h2) (sE C b X W eb A hN tk lk.2.2 h3)) fun σ H Q ⟨n, B, rel, post⟩ => ?_
      unfold ev at post
      refine ⟨n, B, rel, post_t post fun bb H1 e1 h1 => ?_⟩
      cases bb with
      | true => exact iteT ⟨n, B, rel.ex e1, h1⟩
      | false => exact iteF ⟨n, B, rel.ex e1, h1⟩
    · cases h
  | .tup es, X, W, x, A, hN, tk, lk, h => by
    unfold LkE at lk
    unfold okE at h
    split at h
    · rename_i xs k p
      simp only [Bool.and_eq_true, decide_eq_true_eq] at h
      refine pe_weak (pe_tup (sEs C es X W xs A hN tk lk h.2)) fun σ H Q ⟨n, B, rel, post⟩ => ?_
      unfold ev at post
      refine ⟨n, B, rel, post_disp evs_len post fun vs H1 ds e1 e2 q h1 => ⟨?_, fun p hp => ?_⟩⟩
      · have e3 := q.length
        have e4 : sizeLine = 16777216 := sizeLine_eq
        omega
      · exact h1 _ _ (Ex.new hp) (by unfold Den; exact ⟨p, vs, rfl, SqT.of upd_same, q.ex (Ex.new hp)⟩)
    · cases h
  | .pwt es, X, W, x, A, hN, tk, lk, h => by
    unfold LkE at lk
    unfold okE at h
    split at h
    · rename_i xs k p
      simp only [Bool.and_eq_true, decide_eq_true_eq] at h
      refine pe_weak (pe_tup (sEs C es X W xs A hN tk lk h.2)) fun σ H Q ⟨n, B, rel, post⟩ => ?_
      unfold ev at post
      refine ⟨n, B, rel, post_disp evs_len post fun vs H1 ds e1 e2 q h1 => ⟨?_, fun p hp => ?_⟩⟩
      · have e3 := q.length
        have e4 : sizeLine = 16777216 := sizeLine_eq
        omega
      · have h1 : PostE1 C.Z (fun c d H' => W c d σ H') σ H1 B Q (pwR ds) := h1
        unfold pwR at h1
        cases ei : intsOf ds with
        | none => rw [ei] at h1; exact False.elim h1
        | some is =>
          rw [ei] at h1
          have z := intsOf_den ei q
          subst z
          exact h1 _ _ (Ex.new hp) (by unfold Den; exact ⟨p, rfl, upd_same⟩)
    · cases h
  | .lst es, X, W, x, A, hN, tk, lk, h => by
    unfold LkE at lk
    unfold okE at h
    split at h
    · rename_i xs p
      simp only [Bool.and_eq_true, decide_eq_true_eq] at h
      refine pe_weak (pe_lst (sEs C es X W xs A hN tk lk h.2)) fun σ H Q ⟨n, B, rel, post⟩ => ?_
      unfold ev at post
      refine ⟨n, B, rel, post_disp evs_len post fun vs H1 ds e1 e2 q h1 => ⟨?_, fun p hp => ?_⟩⟩
      · have e3 := q.length
        have e4 : sizeLine = 16777216 := sizeLine_eq
        omega
      · exact h1 p _ hp (Ex.new hp) ⟨vs, upd_same, (DenL.add hp _ _ q).ex (Ex.new hp)⟩
    · cases h
  | .dnew d, X, W, x, A, hN, tk, lk, h => by
    unfold okE at h
    split at h
    · refine pe_weak pe_dnewT fun σ H Q ⟨n, B, rel, post⟩ p hp => ?_
      unfold ev at post
      exact post p _ hp (Ex.new hp) ⟨[], upd_same, rfl, .nil⟩
    · refine pe_weak pe_dnewK fun σ H Q ⟨n, B, rel, post⟩ p hp => ?_
      unfold ev at post
      exact post p _ hp (Ex.new hp) ⟨[], upd_same, rfl, .nil⟩
    · cases h
  | .ix f a b, X, W, x, A, hN, tk, lk, h => by
    unfold LkE at lk
    unfold okE at h
    split at h
    · rename_i ea eb p
      simp only [Bool.and_eq_true] at h
      obtain ⟨⟨h1, h2⟩, h3⟩ := h
      refine pe_weak (pe_ix (lk.1 X A) (sE C a X W ea A hN tk lk.2.1 h2) (sE C b X W eb A hN tk lk.2.2 h3) (ok_slice (N := X.N) (sc := X.env.scope) (e := b) h1)) fun σ H Q ⟨n, B, rel, post⟩ => ?_
      unfold ev at post
      refine ⟨n, B, rel, post_rd rel post fun v H1 d e1 q1 rel1 h1 => ⟨n, B, rel1, post_rd rel1 h1 fun u H2 d2 e2 q2 rel2 h2 => ?_⟩⟩
      exact ⟨B, d, d2, rel2.bt, q1.ex e2, q2, PostF.opsT h2⟩
    · cases h
  | .sl f a lo hi, X, W, x, A, hN, tk, lk, h => by
    unfold LkE at lk
    unfold okE at h
    split at h
    · rename_i ea l hh p2 p
      simp only [Bool.and_eq_true] at h
      obtain ⟨⟨h1, h2⟩, h3⟩ := h
      -- a part
      have part : ∀ (o : Option Expr) (eo : E), (∀ el, o = some el → PE X el (tE C.Z W eo)) → (match o with
          | none => isNonC eo
          | some el => !isNonC eo && okE X.N X.env.scope eo el) = true → ∃ t, PO X o t ∧ ∀ σ H Q n B k, RelB C.Z n σ H B → PostE C.Z (fun c d H' => W c d σ H') ((ev eo n).part (isNonC eo) k) σ H B Q →
            ∀ QO : Option Int → Hp → Prop, (∀ j H1, Ex H H1 → PostE C.Z (fun c d H' => W c d σ H') (k j) σ H1 B Q → QO j H1) → t σ H QO := by
        intro o eo pe hk
        cases o with
        | none =>
          refine ⟨_, po_none, fun σ H Q n B k rel post QO K => ?_⟩
          have e0 : eo = .c .non := by
            cases eo with
            | c d => cases d with
              | non => rfl
              | _ => cases hk
            | _ => cases hk
          subst e0
          unfold ev at post
          exact K none H (Ex.refl _) post
        | some el =>
          have hk : (!isNonC eo && okE X.N X.env.scope eo el) = true := hk
          rw [Bool.and_eq_true, Bool.not_eq_true'] at hk
          refine ⟨_, po_some (pe el rfl), fun σ H Q n B k rel post QO K => ?_⟩
          refine ⟨n, B, rel, post_part post fun v H2 e2 q => ?_⟩
          rcases q with ⟨i, _, q1, q2⟩ | ⟨q0, _⟩
          · exact ⟨i, q1, K _ H2 e2 q2⟩
          · rw [hk.1] at q0; cases q0
      obtain ⟨t1, p1, r1⟩ := part l lo (fun el _ => by
        subst_vars
        rw [Bool.and_eq_true] at h2
        exact sE C lo X W el A hN tk lk.2.2.1 h2.2) h2
      obtain ⟨t2, p2, r2⟩ := part hh hi (fun el _ => by
        subst_vars
        rw [Bool.and_eq_true] at h3
        exact sE C hi X W el A hN tk lk.2.2.2 h3.2) h3
      refine pe_weak (pe_slice (lk.1 X A) (sE C a X W ea A hN tk lk.2.1 h1) p1 p2) fun σ H Q ⟨n, B, rel, post⟩ => ?_
      unfold ev at post
      refine ⟨n, B, rel, post_rd rel post fun v H1 d e1 q1 rel1 h1 => ?_⟩
      refine r1 σ H1 Q n B _ rel1 h1 _ fun i H2 e2 h2 => ?_
      refine r2 σ H2 Q n B _ (rel1.ex e2) h2 _ fun j H3 e3 h3 => ?_
      exact ⟨B, d, ((rel1.ex e2).ex e3).bt, (q1.ex e2).ex e3, PostF.ops h3⟩
    · cases h
  | .call y φ es, X, W, x, A, hN, tk, lk, h => by
    unfold LkE at lk
    unfold okE at h
    split at h
    · rename_i z p xs pos
      simp only [Bool.and_eq_true, decide_eq_true_eq] at h
      obtain ⟨⟨⟨⟨h1, h2⟩, h3⟩, h4⟩, h5⟩ := h
      subst h1
      refine pe_weak (lk.1 X W A tk (gl_of h2) p pos xs _ (oks_star h5) (sEs C es X W xs A hN tk lk.2 h5)) fun σ H Q ⟨n, B, rel, post⟩ => ?_
      unfold ev at post
      refine ⟨n, B, rel, post_call rel post fun vs H1 ds B' e1 bt q h1 => ⟨B', ds, bt, q, h1⟩⟩
    · cases h
  | .gen m φ es, X, W, x, A, hN, tk, lk, h => by
    unfold LkE at lk
    unfold okE at h
    rw [Bool.and_eq_true] at h
    obtain ⟨_, h⟩ := h
    split at h
    · rename_i xs em
      refine pe_weak (lk.1 X W A tk x xs _ em (oks_star h) (sEs C es X W xs A hN tk lk.2 h)) fun σ H Q ⟨n, B, rel, post⟩ => ?_
      unfold ev at post
      refine ⟨n, B, rel, post_call rel post fun vs H1 ds B' e1 bt q h1 => ⟨B', ds, bt, q, h1⟩⟩
    · cases h
  | .meth m φ o es, X, W, x, A, hN, tk, lk, h => by
    unfold LkE at lk
    unfold okE at h
    split at h
    · rename_i eo y ap xs cp
      simp only [Bool.and_eq_true, decide_eq_true_eq] at h
      obtain ⟨⟨⟨⟨h1, h2⟩, h3⟩, h4⟩, h5⟩ := h
      subst h1
      refine pe_weak (lk.1 X W A tk eo ap cp xs _ _ h2 h3.1 (oks_star h5) h3.2 (sE C o X W eo A hN tk lk.2.1 h4) (sEs C es X W xs A hN tk lk.2.2 h5)) fun σ H Q ⟨n, B, rel, post⟩ => ?_
      unfold ev at post
      refine ⟨n, B, rel, post_rd rel post fun v H1 d e1 q1 rel1 h1 => ?_⟩
      unfold T.methK at h1
      cases ef : φ d with
      | none => rw [ef] at h1; exact False.elim h1
      | some f =>
        rw [ef] at h1
        refine ⟨B, d, f, rel1.bt, q1, ef, n, B, rel1, post_disp evs_len h1 fun vs H2 ds e2 _ q2 h2 => ⟨ds, e2, q2, PostF.call1 h2⟩⟩
    · cases h
  | .fld m φ o, X, W, x, A, hN, tk, lk, h => by
    unfold LkE at lk
    unfold okE at h
    split at h
    · rename_i eo y ap
      simp only [Bool.and_eq_true, decide_eq_true_eq] at h
      obtain ⟨⟨h1, h2⟩, h3⟩ := h
      subst h1
      refine pe_weak (lk.1 X A eo ap _ h2 (sE C o X W eo A hN tk lk.2 h3)) fun σ H Q ⟨n, B, rel, post⟩ => ?_
      unfold ev at post
      exact ⟨n, B, rel, post_rd rel post fun v H1 d e1 q1 rel1 h1 => ⟨B, d, rel1.bt, q1, PostF.ops h1⟩⟩
    · cases h
  | .isi f a cs many, X, W, x, A, hN, tk, lk, h => by
    unfold LkE at lk
    unfold okE at h
    split at h
    · rename_i y p ea ec pos
      simp only [Bool.and_eq_true, decide_eq_true_eq] at h
      obtain ⟨⟨⟨⟨h1, h2⟩, h3⟩, h4⟩, h5⟩ := h
      subst h1
      have hcs : ∀ c ∈ cs, Gl X c := fun c hc => by
        have z := List.all_eq_true.mp h4 c hc
        simp only [Bool.and_eq_true] at z
        exact gl_of z.1.1
      refine pe_weak (lk.1 X A (gl_of h2) hcs ea ec p pos _ (ok_star h3) (sE C a X W ea A hN tk lk.2 h3) ?_) fun σ H Q ⟨n, B, rel, post⟩ => ?_
      · cases many with
        | false => exact h5
        | true =>
          dsimp only at h5 ⊢
          split at h5
          · rename_i xs k q
            exact ⟨xs, k, q, rfl, h5⟩
          · cases h5
      · unfold ev at post
        exact ⟨n, B, rel, post_rd rel post fun v H1 d e1 q1 rel1 h1 => ⟨B, d, rel1.bt, q1, PostF.ops h1⟩⟩
    · cases h
  | .lc t k φ es ifs elt own, X, W, x, A, hN, tk, lk, h => by
    unfold LkE at lk
    obtain ⟨lk1, lk2, lk3, lk4⟩ := lk
    unfold okE at h
    split at h
    · rename_i ee tg iter is scope pos
      simp only [Bool.and_eq_true] at h
      obtain ⟨⟨⟨⟨⟨⟨h1, h2⟩, h3⟩, h4⟩, h5⟩, h6⟩, h7⟩ := h
      have Ab : ∀ (s : Shared) (H : Hp) (C' : Addr) (cl : List (Str × Addr)) (fp : List Addr), C.At (X.blk s H scope (compEnvC scope cl C' X.env) fp) := fun _ _ _ _ _ => ⟨A.p, A.w, A.k, A.g, A.b, A.calm, A.room, A.gd⟩
      have hi : PI X tg iter (tI C.Z W φ es) := by
        cases k with
        | ex =>
          have h7 : okEs X.N X.env.scope es [iter] = true := h7
          cases es with
          | nil => unfold okEs at h7; cases h7
          | cons e0 r =>
            cases r with
            | nil =>
              unfold okEs at h7
              rw [Bool.and_eq_true] at h7
              unfold LkEs at lk2
              exact pi_ex A lk1 (sE C e0 X W iter A hN tk lk2.1 h7.1)
            | cons e1 r =>
              unfold okEs at h7
              rw [Bool.and_eq_true] at h7
              have z := h7.2
              unfold okEs at z
              cases z
        | cl y nn =>
          try dsimp only at h7
          split at h7
          · rename_i z p xs pos'
            simp only [Bool.and_eq_true, decide_eq_true_eq, Bool.or_eq_true] at h7
            obtain ⟨⟨⟨⟨⟨g1, g2⟩, g3⟩, g4⟩, g5⟩, g6⟩ := h7
            subst g1
            exact pi_cl A lk1 (gl_of g2) g5 g4.2 (oks_star g6) (sEs C es X W xs A hN tk lk2 g6)
          · cases h7
        | mt m =>
          try dsimp only at h7
          split at h7
          · rename_i eo y ap cp
            simp only [Bool.and_eq_true, decide_eq_true_eq] at h7
            obtain ⟨⟨⟨⟨g1, g2⟩, g3⟩, g4⟩, g5⟩ := h7
            subst g1
            cases es with
            | nil => unfold okEs at g5; cases g5
            | cons e0 r =>
              cases r with
              | nil =>
                unfold okEs at g5
                rw [Bool.and_eq_true] at g5
                unfold LkEs at lk2
                exact pi_mt A lk1 g2 g4 g3 (sE C e0 X W eo A hN tk lk2.1 g5.1)
              | cons e1 r =>
                unfold okEs at g5
                rw [Bool.and_eq_true] at g5
                have z := g5.2
                unfold okEs at z
                cases z
          · cases h7
      refine pe_weak (pe_lc (own := own) A.calm hN hi (blkOk_by h2) (g := gT C.K t) (tt := tT C.Z WX0 ifs) (te := tE C.Z WX0 elt) (fun s H C' cl fp => ?_) (fun s H C' cl fp => ?_) (fun s H C' cl fp => ?_) (set_of h1)) fun σ H Q hq => ?_
      · have z := pg_ok (X := X.blk s H scope (compEnvC scope cl C' X.env) fp) A.calm hN t tg h3
        have ek : (X.blk s H scope (compEnvC scope cl C' X.env) fp).K = C.K := A.k
        rw [ek] at z
        exact z
      · try dsimp only at h5
        split at h5
        · have e0 : ifs = .c (.bl true) := by
            cases ifs with
            | c d => cases d with
              | bl b => cases b with
                | true => rfl
                | false => cases h5
              | _ => cases h5
            | _ => cases h5
          subst e0
          refine ⟨fun pins s σ H Q I hq => pts_nil.run pins s σ H Q I ?_⟩
          obtain ⟨n, B, rel, post⟩ := hq
          unfold evT at post
          exact post H (Ex.refl _)
        · rename_i ei
          rw [Bool.and_eq_true] at h5
          exact pts_one (sT C ifs _ WX0 ei (Ab s H C' cl fp) hN takes0 lk3 h5.2).1
        · cases h5
      · exact sE C elt _ WX0 ee (Ab s H C' cl fp) hN takes0 lk4 h6
      · exact lc_read (Z := C.Z) (fun i hi => by
          have z := List.all_eq_true.mp h4 i hi
          exact of_decide_eq_true z) hq
    · cases h
  | .ss k a, X, W, x, A, hN, tk, lk, h => by
    unfold LkE at lk
    unfold okE at h
    have go : ∀ (ea : Expr) (st : Expr) (tI : TO) (p2 p : Pos), okE X.N X.env.scope a ea = true → PO X (some st) tI → (∀ σ H (Q : Option Int → Hp → Prop), Q (some k) H → tI σ H Q) → PE X (.Subscript ea (.Slice none none (some st) p2) p) (tE C.Z W (.ss k a)) := by
      intro ea st tI p2 p h1 hst hq
      refine pe_weak (pe_step (k := k) (sE C a X W ea A hN tk (by first | exact lk | exact lk.1) h1) hst hq) fun σ H Q ⟨n, B, rel, post⟩ => ?_
      unfold ev at post
      refine ⟨n, B, rel, post_rd rel post fun v H1 d e1 q1 rel1 h1 => ?_⟩
      cases d with
      | lst ds =>
        have h2 : PostF C.Z WE0 (.pure (ssD k (.lst ds))) H1 B Q := PostF.ops h1
        by_cases c : k ≠ 0 ∧ (cutS ds k).length < 1000000
        · have e0 : ssD k (.lst ds) = .fresh (.lst (cutS ds k)) := if_pos c
          rw [e0] at h2
          obtain ⟨b, vs, g1, g2, g3⟩ := rd_lst0 q1
          have g4 := cutS_den k g3
          refine ⟨b, vs, g1, c.1, by rw [A.k]; exact g2, by rw [g4.length]; exact c.2, fun p hp => ?_⟩
          exact (show PostF1 C.Z WE0 H1 B Q (R.fresh (.lst (cutS ds k))) from h2) p _ hp (Ex.new hp) ⟨_, upd_same, (DenL.add hp _ _ g4).ex (Ex.new hp)⟩
        · have e0 : ssD k (.lst ds) = .bad := if_neg c
          rw [e0] at h2
          exact False.elim h2
      | _ => exact False.elim h1
    split at h
    · rename_i ea i kd p1 p2 p3 p
      simp only [Bool.and_eq_true, decide_eq_true_eq] at h
      obtain ⟨rfl, h2⟩ := h
      exact go ea _ _ _ _ h2 (po_some (pe_un un_neg pe_int)) fun σ H Q q => ⟨i, rfl, -i, rfl, q⟩
    · rename_i ea i kd p1 p3 p
      simp only [Bool.and_eq_true, decide_eq_true_eq] at h
      obtain ⟨rfl, h2⟩ := h
      exact go ea _ _ _ _ h2 (po_some pe_int) fun σ H Q q => ⟨k, rfl, q⟩
    · cases h
  | .pt i k, X, W, x, A, hN, tk, lk, h => by
    unfold LkE at lk
    unfold okE at h
    split at h
    · rename_i y p ek pos
      simp only [Bool.and_eq_true, decide_eq_true_eq] at h
      obtain ⟨⟨⟨⟨h1, h2⟩, h3⟩, h4⟩, h5⟩ := h
      refine pe_weak (pe_ix ix_list (pe_var h1 (vis_of h2) (plain1 h3) (plain2 h3)) (sE C k X W ek A hN tk lk h5) (ok_slice (N := X.N) (sc := X.env.scope) (e := k) h4)) fun σ H Q ⟨n, B, rel, post⟩ => ?_
      unfold ev ptK at post
      cases e2 : Sl.own2D n[i]? with
      | none => rw [e2] at post; exact False.elim post
      | some ds =>
        rw [e2] at post
        dsimp only at post
        obtain ⟨a, qs, z1, z2, z3, z4, z5⟩ := rel.own2 i ds (own2_eq.mp e2)
        refine ⟨.ref a, z1, n, B, rel, post_rd rel post fun u H1 d e1 q1 rel1 h1 => ?_⟩
        unfold ptR at h1
        cases d with
        | int j =>
          have u0 := q1.all
          unfold Den at u0
          subst u0
          dsimp only at h1
          by_cases c : 0 ≤ j ∧ j < ds.length
          · rw [if_pos c] at h1
            have hl := z5.len
            have hj : j.toNat < qs.length := by omega
            refine ⟨a, qs.map V.ref, j, .ref qs[j.toNat], rfl, rfl, .inl (.inl (e1 a _ z3)), ?_, h1 _ H1 (Ex.refl _) ⟨a, qs, z1, e1 a _ z3, List.getElem?_eq_getElem hj⟩⟩
            unfold atI ixN
            rw [List.length_map, if_pos c.1, if_pos (by omega)]
            show (qs.map V.ref)[j.toNat]? = _
            rw [List.getElem?_map, List.getElem?_eq_getElem hj]
            rfl
          · rw [if_neg c] at h1; exact False.elim h1
        | _ => exact False.elim h1
    · cases h
theorem sT (C : Cn) : ∀ (e : E) (X : Cx) (W : WX) (x : Expr), C.At X → X.N.Nodup → Takes X W → LkE C e → okE X.N X.env.scope e x = true → PT X x (tT C.Z W e) ∧ (isBoolOp x = true → PW X x (tT C.Z W e))
  | .and a b, X, W, x, A, hN, tk, lk, h => by
    unfold LkE at lk
    have red : ∀ (ea eb : Expr) (rest : List Expr) (p : Pos), PT X ea (tT C.Z W a) → PW X (.BoolOp .And (eb :: rest) p) (tT C.Z W b) → PW X (.BoolOp .And (ea :: eb :: rest) p) (tT C.Z W (.and a b)) := by
      intro ea eb rest p pa pb
      refine pw_weak (pw_and pa pb) fun σ H Q ⟨n, B, rel, post⟩ => ?_
      unfold evT at post
      refine ⟨n, B, rel, post_tT post fun bb H1 e1 h1 => ?_⟩
      cases bb with
      | true => exact iteT ⟨n, B, rel.ex e1, h1⟩
      | false => exact iteF (h1 H1 (Ex.refl _))
    unfold okE at h
    split at h
    · rename_i ea eb p
      simp only [Bool.and_eq_true] at h
      have z := red ea eb [] p (sT C a X W ea A hN tk lk.1 h.1).1 (pw_and1 (sT C b X W eb A hN tk lk.2 h.2).1)
      exact ⟨z.pt, fun _ => z⟩
    · rename_i ea eb ec r p
      simp only [Bool.and_eq_true] at h
      have z := red ea eb (ec :: r) p (sT C a X W ea A hN tk lk.1 h.1).1 ((sT C b X W _ A hN tk lk.2 h.2).2 rfl)
      exact ⟨z.pt, fun _ => z⟩
    · cases h
  | .or a b, X, W, x, A, hN, tk, lk, h => by
    unfold LkE at lk
    have red : ∀ (ea eb : Expr) (rest : List Expr) (p : Pos), PT X ea (tT C.Z W a) → PW X (.BoolOp .Or (eb :: rest) p) (tT C.Z W b) → PW X (.BoolOp .Or (ea :: eb :: rest) p) (tT C.Z W (.or a b)) := by
      intro ea eb rest p pa pb
      refine pw_weak (pw_or pa pb) fun σ H Q ⟨n, B, rel, post⟩ => ?_
      unfold evT at post
      refine ⟨n, B, rel, post_tT post fun bb H1 e1 h1 => ?_⟩
      cases bb with
      | true => exact iteT (h1 H1 (Ex.refl _))
      | false => exact iteF ⟨n, B, rel.ex e1, h1⟩
    unfold okE at h
    split at h
    · rename_i ea eb p
      simp only [Bool.and_eq_true] at h
      have z := red ea eb [] p (sT C a X W ea A hN tk lk.1 h.1).1 (pw_or1 (sT C b X W eb A hN tk lk.2 h.2).1)
      exact ⟨z.pt, fun _ => z⟩
    · rename_i ea eb ec r p
      simp only [Bool.and_eq_true] at h
      have z := red ea eb (ec :: r) p (sT C a X W ea A hN tk lk.1 h.1).1 ((sT C b X W _ A hN tk lk.2 h.2).2 rfl)
      exact ⟨z.pt, fun _ => z⟩
    · cases h
  | .not a, X, W, x, A, hN, tk, lk, h => by
    unfold LkE at lk
    unfold okE at h
    split at h
    · rename_i ea p
      refine ⟨pt_weak (pt_not (sT C a X W ea A hN tk lk h).1) fun σ H Q ⟨n, B, rel, post⟩ => ?_, fun z => by cases z⟩
      unfold evT at post
      exact ⟨n, B, rel, post_tT post fun bb H1 e1 h1 => h1 H1 (Ex.refl _)⟩
    · cases h
  | .cmp op f a b, X, W, x, A, hN, tk, lk, h => by
    unfold okE at h
    split at h
    · rename_i ea op' eb p
      simp only [Bool.and_eq_true, decide_eq_true_eq] at h
      obtain ⟨⟨⟨h1, h0⟩, h2⟩, h3⟩ := h
      subst h1
      unfold LkE at lk
      refine ⟨pt_weak (pt_cmpR (lk.1 X A) (sE C a X W ea A hN tk lk.2.1 h2) (sE C b X W eb A hN tk lk.2.2 h3) (behind_of h0)) fun σ H Q ⟨n, B, rel, post⟩ => ?_, fun z => by cases z⟩
      unfold evT at post
      refine ⟨n, B, rel, post_rdT rel post fun v H1 d e1 q1 rel1 h1 => ⟨n, B, rel1, post_rdT rel1 h1 fun u H2 d2 e2 q2 rel2 h2 => ?_⟩⟩
      exact ⟨B, d, d2, rel2.bt, q1.ex e2, q2, postT_bool h2⟩
    · cases h
  | .chain op1 op2 f g a b c, X, W, x, A, hN, tk, lk, h => by
    unfold okE at h
    split at h
    · rename_i ea o1 o2 eb ec p
      simp only [Bool.and_eq_true, decide_eq_true_eq] at h
      obtain ⟨⟨⟨⟨⟨h1, h0⟩, hs⟩, h2⟩, h3⟩, h4⟩ := h
      subst h1 h0
      unfold LkE at lk
      refine ⟨pt_weak (pt_chain (lk.1 X A) (lk.2.1 X A) (sE C a X W ea A hN tk lk.2.2.1 h2) (sE C b X W eb A hN tk lk.2.2.2.1 h3) (sE C c X W ec A hN tk lk.2.2.2.2 h4) (by show behindInMarks op2 ec = false; exact behind_of hs)) fun σ H Q ⟨n, B, rel, post⟩ => ?_, fun z => by cases z⟩
      unfold evT at post
      refine ⟨n, B, rel, post_rdT rel post fun v H1 d e1 q1 rel1 h1 => ⟨n, B, rel1, post_rdT rel1 h1 fun u H2 d2 e2 q2 rel2 h2 => ?_⟩⟩
      refine ⟨B, d, d2, rel2.bt, q1.ex e2, q2, ?_⟩
      refine PostF.ops (W := fun c d H' => W c d σ H') (σ := σ) ?_
      refine post_boolT h2 fun bb H3 e3 h3 => ⟨bb, rfl, ?_⟩
      cases bb with
      | true =>
        refine iteT ⟨n, B, rel2.ex e3, post_rdT (rel2.ex e3) h3 fun w H4 d3 e4 q4 rel4 h4 => ?_⟩
        exact ⟨B, d2, d3, rel4.bt, (q2.ex e3).ex e4, q4, postT_bool h4⟩
      | false => exact iteF ⟨false, rfl, h3 H3 (Ex.refl _)⟩
    · cases h
  | .v i, X, W, x, A, hN, tk, lk, h => by
    have hp := sE C (.v i) X W x A hN tk lk h
    unfold okE at h
    cases x with
    | Name y p =>
      refine ⟨pt_weak (pt_truth hp (isTrue_plain_of rfl)) fun σ H Q ⟨n, B, rel, post⟩ => ?_, fun z => by cases z⟩
      refine ⟨n, B, rel, ?_⟩
      rw [A.k]
      refine truth_post rel ?_
      unfold evT at post
      unfold ev
      cases e : n[i]? with
      | none => rw [e] at post; exact False.elim post
      | some s =>
        rw [e] at post
        cases s with
        | emp => exact False.elim post
        | val d => exact post
        | own d =>
          show PostT C.Z _ (R.rdTK n truthT (R.own (.slot i))) H B Q
          unfold R.rdTK Nv.ownOf
          simp only [e]
          exact post
        | own2 d => exact False.elim post
    | _ => cases h
  | .c d, X, W, x, A, hN, tk, lk, h => by
    have hp := sE C (.c d) X W x A hN tk lk h
    unfold okE at h
    cases x with
    | Constant k j p =>
      refine ⟨pt_weak (pt_truth hp (isTrue_plain_of rfl)) fun σ H Q ⟨n, B, rel, post⟩ => ?_, fun z => by cases z⟩
      refine ⟨n, B, rel, ?_⟩
      rw [A.k]
      refine truth_post rel ?_
      unfold evT at post
      unfold ev
      exact post
    | _ => cases h
  | .gen m φ es, X, W, x, A, hN, tk, lk, h => by
    have hp := sE C (.gen m φ es) X W x A hN tk lk h
    unfold okE at h
    rw [Bool.and_eq_true] at h
    refine ⟨pt_weak (pt_truth hp (isTrue_gen h.1)) fun σ H Q ⟨n, B, rel, post⟩ => ?_, fun z => by
      cases x <;> first | (exact absurd h.1 Bool.false_ne_true) | (exact absurd z Bool.false_ne_true)⟩
    refine ⟨n, B, rel, ?_⟩
    rw [A.k]
    refine truth_post rel ?_
    unfold evT at post
    unfold ev
    exact post
  | .call y φ es, X, W, x, A, hN, tk, lk, h => by
    have hp := sE C (.call y φ es) X W x A hN tk lk h
    unfold okE at h
    split at h
    · refine ⟨pt_weak (pt_truth hp (isTrue_plain_of rfl)) fun σ H Q ⟨n, B, rel, post⟩ => ?_, fun z => by cases z⟩
      refine ⟨n, B, rel, ?_⟩
      rw [A.k]
      refine truth_post rel ?_
      unfold evT at post
      unfold ev
      exact post
    · cases h
  | .isi f a cs many, X, W, x, A, hN, tk, lk, h => by
    unfold LkE at lk
    unfold okE at h
    split at h
    · rename_i y p ea ec pos
      simp only [Bool.and_eq_true, decide_eq_true_eq] at h
      obtain ⟨⟨⟨⟨h1, h2⟩, h3⟩, h4⟩, h5⟩ := h
      subst h1
      have hcs : ∀ c ∈ cs, Gl X c := fun c hc => by
        have z := List.all_eq_true.mp h4 c hc
        simp only [Bool.and_eq_true] at z
        exact gl_of z.1.1
      have hp : PE X (.Call (.Name "isinstance" p) [ea, ec] [] pos) (tFD C.Z f (tE C.Z W a)) := by
        refine lk.1 X A (gl_of h2) hcs ea ec p pos _ (ok_star h3) (sE C a X W ea A hN tk lk.2 h3) ?_
        cases many with
        | false => exact h5
        | true =>
          dsimp only at h5 ⊢
          split at h5
          · rename_i xs k q
            exact ⟨xs, k, q, rfl, h5⟩
          · cases h5
      refine ⟨pt_weak (pt_val hp (isTrue_plain_of rfl)) fun σ H Q ⟨n, B, rel, post⟩ => ?_, fun z => by cases z⟩
      unfold evT at post
      exact ⟨n, B, rel, post_rdT rel post fun v H1 d e1 q1 rel1 h1 => ⟨B, d, rel1.bt, q1, postT_bool h1⟩⟩
    · cases h
  | .meth m φ o es, X, W, x, A, hN, tk, lk, h => by
    have hp := sE C (.meth m φ o es) X W x A hN tk lk h
    unfold okE at h
    split at h
    · refine ⟨pt_weak (pt_truth hp (isTrue_plain_of rfl)) fun σ H Q ⟨n, B, rel, post⟩ => ?_, fun z => by cases z⟩
      refine ⟨n, B, rel, ?_⟩
      rw [A.k]
      refine truth_post rel ?_
      unfold evT at post
      unfold ev
      exact post
    · cases h
  | .bin op f a b, X, W, x, A, hN, tk, lk, h => by
    have hp := sE C (.bin op f a b) X W x A hN tk lk h
    unfold okE at h
    split at h
    · refine ⟨pt_weak (pt_truth hp (isTrue_plain_of rfl)) fun σ H Q ⟨n, B, rel, post⟩ => ?_, fun z => by cases z⟩
      refine ⟨n, B, rel, ?_⟩
      rw [A.k]
      refine truth_post rel ?_
      unfold evT at post
      unfold ev
      exact post
    · cases h
  | .ix f a b, X, W, x, A, hN, tk, lk, h => by
    have hp := sE C (.ix f a b) X W x A hN tk lk h
    unfold okE at h
    split at h
    · refine ⟨pt_weak (pt_truth hp (isTrue_plain_of rfl)) fun σ H Q ⟨n, B, rel, post⟩ => ?_, fun z => by cases z⟩
      refine ⟨n, B, rel, ?_⟩
      rw [A.k]
      refine truth_post rel ?_
      unfold evT at post
      unfold ev
      exact post
    · cases h
  | .g _ _, _, _, _, _, _, _, _, _ => bad_test fun n => by unfold evT; rfl
  | .un _ _ _, _, _, _, _, _, _, _, _ => bad_test fun n => by unfold evT; rfl
  | .ite _ _ _, _, _, _, _, _, _, _, _ => bad_test fun n => by unfold evT; rfl
  | .tup _, _, _, _, _, _, _, _, _ => bad_test fun n => by unfold evT; rfl
  | .pwt _, _, _, _, _, _, _, _, _ => bad_test fun n => by unfold evT; rfl
  | .lst _, _, _, _, _, _, _, _, _ => bad_test fun n => by unfold evT; rfl
  | .dnew _, _, _, _, _, _, _, _, _ => bad_test fun n => by unfold evT; rfl
  | .sl _ _ _ _, _, _, _, _, _, _, _, _ => bad_test fun n => by unfold evT; rfl
  | .fld _ _ _, _, _, _, _, _, _, _, _ => bad_test fun n => by unfold evT; rfl
  | .lc _ _ _ _ _ _ _, _, _, _, _, _, _, _, _ => bad_test fun n => by unfold evT; rfl
  | .pt _ _, _, _, _, _, _, _, _, _ => bad_test fun n => by unfold evT; rfl
  | .ss _ _, _, _, _, _, _, _, _, _ => bad_test fun n => by unfold evT; rfl
theorem sEs (C : Cn) : ∀ (es : List E) (X : Cx) (W : WX) (xs : List Expr), C.At X → X.N.Nodup → Takes X W → LkEs C es → okEs X.N X.env.scope es xs = true → PA X xs (tA C.Z W es)
  | [], X, W, xs, A, hN, tk, lk, h => by
    unfold okEs at h
    cases xs with
    | nil =>
      refine pa_weak pa_nil fun σ H Q ⟨n, B, rel, post⟩ => ?_
      unfold evs at post
      exact post [] H (Ex.refl _) .nil
    | cons _ _ => cases h
  | e :: es, X, W, xs, A, hN, tk, lk, h => by
    unfold okEs at h
    cases xs with
    | nil => cases h
    | cons x xs =>
      have h : (okE X.N X.env.scope e x && okEs X.N X.env.scope es xs) = true := h
      rw [Bool.and_eq_true] at h
      unfold LkEs at lk
      refine pa_weak (pa_cons (sE C e X W x A hN tk lk.1 h.1) (sEs C es X W xs A hN tk lk.2 h.2) (star_cons (ok_star h.1))) fun σ H Q ⟨n, B, rel, post⟩ => ?_
      unfold evs at post
      exact ⟨n, B, rel, post_arg rel post fun v H1 e1 h1 => ⟨n, B, rel.ex e1, h1⟩⟩
end
end
end PM

set_option Elab.async false
set_option linter.all false
set_option maxRecDepth 100000
set_option maxHeartbeats 4000000
/-! PM8: statements: what is wanted, the match with the text, links. -/
namespace PM
open PySem PySem.Spec L2
open PyProof.Rows hiding St

/-- a slot holds an object of its own here -/
def Hs (n : Nv) (σ : L2.St) (H : Hp) (i : Nat) (a : Addr) : Prop :=
  (∃ d, n[i]? = some (.own d) ∧ σ[i]? = some (some (.ref a))) ∨ ∃ (ds : List D) (p : Addr) (qs : List Addr), n[i]? = some (.own2 ds) ∧ σ[i]? = some (some (.ref p)) ∧ H p = some (.lst (qs.map V.ref)) ∧ a ∈ p :: qs
theorem Hs.same {n n' : Nv} {σ σ' : L2.St} {H H' : Hp} {i : Nat} {a : Addr} (hn : n'[i]? = n[i]?) (hs : σ'[i]? = σ[i]?) (hH : ∀ ds p, n[i]? = some (.own2 ds) → σ[i]? = some (some (.ref p)) → H' p = H p) (h : Hs n' σ' H' i a) : Hs n σ H i a := by
  rcases h with ⟨d, h1, h2⟩ | ⟨ds, p, qs, h1, h2, h3, h4⟩
  · exact .inl ⟨d, hn ▸ h1, hs ▸ h2⟩
  · rw [hn] at h1
    rw [hs] at h2
    exact .inr ⟨ds, p, qs, h1, h2, (hH ds p h1 h2).symm.trans h3, h4⟩
theorem Hs.ex {Z : Wd} {n n' : Nv} {σ σ' : L2.St} {H H' : Hp} {B : Addr → Prop} {i : Nat} {a : Addr} (r : RelB Z n σ H B) (e : Ex H H') (hn : n'[i]? = n[i]?) (hs : σ'[i]? = σ[i]?) (h : Hs n' σ' H' i a) : Hs n σ H i a :=
  h.same hn hs fun ds p h1 h2 => by
    obtain ⟨p', qs, z1, z2, z3, _⟩ := r.own2 i ds h1
    rw [h2] at z1
    cases z1
    rw [z3]
    exact e _ _ z3
theorem Hs.B {Z : Wd} {n : Nv} {σ : L2.St} {H : Hp} {B : Addr → Prop} {i : Nat} {a : Addr} (r : RelB Z n σ H B) (h : Hs n σ H i a) : B a := by
  rcases h with ⟨d, h1, h2⟩ | ⟨ds, p, qs, h1, h2, h3, h4⟩
  · obtain ⟨p, z1, z2, _⟩ := r.own i d h1
    rw [h2] at z1
    cases z1
    exact z2
  · obtain ⟨p', qs', z1, z2, z3, _, z5⟩ := r.own2 i ds h1
    rw [h2] at z1
    cases z1
    rw [h3] at z3
    have e := refs_inj (show qs.map V.ref = qs'.map V.ref by injection z3 with z3; injection z3)
    subst e
    rcases List.mem_cons.mp h4 with z | z
    · rw [z]; exact z2
    · exact (z5.all a z).1
theorem Hs.at_ {Z : Wd} {n : Nv} {σ : L2.St} {H : Hp} {B : Addr → Prop} {l : Plc} {d : D} {a : Addr} (r : RelB Z n σ H B) (e : n.ownOf l = some d) (h : At σ H l a) : ∃ i, Hs n σ H i a := by
  cases l with
  | slot i => exact ⟨i, .inl ⟨d, own_eq.mp e, h⟩⟩
  | part i k =>
    have e : (Sl.own2D n[i]?).bind (fun ds => ds[k]?) = some d := e
    cases e' : Sl.own2D n[i]? with
    | none => rw [e'] at e; cases e
    | some ds =>
      obtain ⟨p, qs, h1, h2, h3⟩ := h
      exact ⟨i, .inr ⟨ds, p, qs, own2_eq.mp e', h1, h2, List.mem_cons_of_mem _ (List.mem_of_getElem? h3)⟩⟩
/-- the slots denote; the owned ones are new since H0, each at its own place; O: what the callers may change -/
structure RelS (Z : Wd) (n : Nv) (σ : L2.St) (H : Hp) (B O : Addr → Prop) (H0 : Hp) : Prop where
  rel : RelB Z n σ H B
  ob : ∀ a, O a → B a
  fr : ∀ (i : Nat) (a : Addr), Hs n σ H i a → H0 a = none
  inj : ∀ (i j : Nat) (a : Addr), Hs n σ H i a → Hs n σ H j a → i = j
  ex : Ex H0 H
  ot : ∀ a, O a → ∃ o, H0 a = some o
  bs : ∀ a, B a → O a ∨ H0 a = none
def PostS1 (Z : Wd) (W : WX) (O : Addr → Prop) (H0 : Hp) (D : Ends) (r : RS) : Prop := match r with
  | .next n => ∀ σ H B, RelS Z n σ H B O H0 → D.nx σ H
  | .brk n => ∀ σ H B, RelS Z n σ H B O H0 → D.bk σ H
  | .cont n => ∀ σ H B, RelS Z n σ H B O H0 → D.ct σ H
  | .ret (.ok d) => ∀ v H, Ex H0 H → Den Z H O d v → D.rt v H
  | .ret (.fresh d) => ∀ p H, H0 p = none → Ex H0 H → OwnAt Z H (fun a => O a ∨ a = p) p d → D.rt (.ref p) H
  | .ret _ => False
  | .exn n c f => ∀ σ H B cd, RelS Z n σ H B O H0 → ExnD Z f cd H B → W (.ref (Z.cl c)) cd σ H
  | .bad => False
def PostS (Z : Wd) (W : WX) (r : T RS) (O : Addr → Prop) (H0 : Hp) (D : Ends) : Prop := r.all (PostS1 Z W O H0 D)

section
variable {Z : Wd} {W : WX} {n n' : Nv} {σ σ' : L2.St} {H H' H0 : Hp} {B O : Addr → Prop} {D : Ends}
theorem RelS.heap (e : Ex H H') (r : RelS Z n σ H B O H0) : RelS Z n σ H' B O H0 := ⟨r.rel.ex e, r.ob, fun i a h => r.fr i a (h.ex r.rel e rfl rfl), fun i j a h g => r.inj i j a (h.ex r.rel e rfl rfl) (g.ex r.rel e rfl rfl), r.ex.trans e, r.ot, r.bs⟩
theorem RelS.chg {l : List Nat} (c : Chg Z H B l n σ n' σ') (r : RelS Z n σ H B O H0) : RelS Z n' σ' H B O H0 := by
  have back : ∀ (i : Nat) (a : Addr), Hs n' σ' H i a → Hs n σ H i a := fun i a h => by
    by_cases hi : i ∈ l
    · have il : i < n.length := by
        rw [← c.ln]
        rcases h with ⟨d, h1, _⟩ | ⟨ds, p, qs, h1, _⟩ <;> exact (List.getElem?_eq_some_iff.mp h1).1
      obtain ⟨d', v', q1, _⟩ := c.inn i hi il
      rcases h with ⟨d, h1, _⟩ | ⟨ds, p, qs, h1, _⟩ <;> (rw [q1] at h1; cases h1)
    · obtain ⟨q1, q2⟩ := c.out i hi
      exact h.same q2 q1 fun _ _ _ _ => rfl
  exact ⟨c.rel r.rel, r.ob, fun i a h => r.fr i a (back i a h), fun i j a h g => r.inj i j a (back i a h) (back j a g), r.ex, r.ot, r.bs⟩
theorem chg_set {i : Nat} {d : PM.D} {v : V} (hl : σ.length = n.length) (h : Den Z H B d v) : Chg Z H B [i] n σ (n.set i (.val d)) (σ.set i (some v)) := by
  refine ⟨by simp, by simp, fun j hj => ?_, fun j hj hn => ?_⟩
  · have : i ≠ j := fun z => hj (by simp [z])
    exact ⟨List.getElem?_set_ne this, List.getElem?_set_ne this⟩
  · have : j = i := by simpa using hj
    subst this
    exact ⟨d, v, List.getElem?_set_self hn, List.getElem?_set_self (by rw [hl]; exact hn), h⟩
/-- how the slots stand when slot i is given anew and new objects are made -/
theorem RelB.set {i : Nat} {s : Sl} {v : Option V} {N : Addr → Prop} (r : RelB Z n σ H B) (e : Ex H H') (hN : ∀ a, N a → H a = none) (hM : ∀ a, N a → ∃ o, H' a = some o ∧ isMut o = true)
    (h1 : ∀ d, s = .val d → ∃ u, v = some u ∧ Den Z H' (fun a => B a ∨ N a) d u) (h2 : ∀ d, s = .own d → ∃ p, v = some (.ref p) ∧ (B p ∨ N p) ∧ OwnAt Z H' (fun a => B a ∨ N a) p d)
    (h3 : ∀ ds, s = .own2 ds → ∃ (p : Addr) (qs : List Addr), v = some (.ref p) ∧ (B p ∨ N p) ∧ H' p = some (.lst (qs.map V.ref)) ∧ (p :: qs).Nodup ∧ OwnL Z H' (fun a => B a ∨ N a) qs ds) :
    RelB Z (n.set i s) (σ.set i v) H' (fun a => B a ∨ N a) := by
  have grow : ∀ a, (fun a => B a ∨ N a) a → B a ∨ H a = none := fun a z => z.imp id (hN a)
  have cs : ∀ (j : Nat) (t : Sl), (n.set i s)[j]? = some t → (i = j ∧ t = s ∧ (σ.set i v)[j]? = some v) ∨ (n[j]? = some t ∧ (σ.set i v)[j]? = σ[j]?) := fun j t ej => by
    by_cases hj : i = j
    · subst hj
      have hl : i < n.length := by simpa using (List.getElem?_eq_some_iff.mp ej).1
      rw [List.getElem?_set_self hl] at ej
      cases ej
      exact .inl ⟨rfl, rfl, List.getElem?_set_self (by rw [r.len]; exact hl)⟩
    · rw [List.getElem?_set_ne hj] at ej
      exact .inr ⟨ej, List.getElem?_set_ne hj⟩
  refine ⟨fun j d ej => ?_, fun j d ej => ?_, fun a z => ?_, by simpa using r.len, fun j d ej => ?_⟩
  · rcases cs j _ ej with ⟨_, es, ev⟩ | ⟨en, ev⟩
    · obtain ⟨u, hu, hd⟩ := h1 d es.symm
      exact ⟨u, by rw [ev, hu], hd⟩
    · obtain ⟨u, a1, a2⟩ := r.val j d en
      exact ⟨u, by rw [ev]; exact a1, (Den.grow grow d u a2).ex e⟩
  · rcases cs j _ ej with ⟨_, es, ev⟩ | ⟨en, ev⟩
    · obtain ⟨u, hu, hd⟩ := h2 d es.symm
      exact ⟨u, by rw [ev, hu], hd⟩
    · obtain ⟨p, a1, a2, a3⟩ := r.own j d en
      exact ⟨p, by rw [ev]; exact a1, .inl a2, (OwnAt.grow grow a3).ex e⟩
  · rcases z with z | z
    · obtain ⟨o', z', m⟩ := r.bt a z
      exact ⟨o', e a o' z', m⟩
    · exact hM a z
  · rcases cs j _ ej with ⟨_, es, ev⟩ | ⟨en, ev⟩
    · obtain ⟨p, qs, hu, hd⟩ := h3 d es.symm
      exact ⟨p, qs, by rw [ev, hu], hd⟩
    · obtain ⟨p, qs, a1, a2, a3, a4, a5⟩ := r.own2 j d en
      exact ⟨p, qs, by rw [ev]; exact a1, .inl a2, e _ _ a3, a4, a5.imp fun q d _ b o => ⟨.inl b, (OwnAt.grow grow o).ex e⟩⟩
/-- .. and each object at its own place -/
theorem RelS.set {i : Nat} {s : Sl} {v : Option V} {N : Addr → Prop} (r : RelS Z n σ H B O H0) (e : Ex H H') (hN : ∀ a, N a → H a = none) (hM : ∀ a, N a → ∃ o, H' a = some o ∧ isMut o = true)
    (h1 : ∀ d, s = .val d → ∃ u, v = some u ∧ Den Z H' (fun a => B a ∨ N a) d u) (h2 : ∀ d, s = .own d → ∃ p, v = some (.ref p) ∧ (B p ∨ N p) ∧ OwnAt Z H' (fun a => B a ∨ N a) p d)
    (h3 : ∀ ds, s = .own2 ds → ∃ (p : Addr) (qs : List Addr), v = some (.ref p) ∧ (B p ∨ N p) ∧ H' p = some (.lst (qs.map V.ref)) ∧ (p :: qs).Nodup ∧ OwnL Z H' (fun a => B a ∨ N a) qs ds)
    (own : ∀ a, Hs (n.set i s) (σ.set i v) H' i a → H0 a = none ∧ ∀ j, i ≠ j → ¬ Hs n σ H j a) : RelS Z (n.set i s) (σ.set i v) H' (fun a => B a ∨ N a) O H0 := by
  have back : ∀ (j : Nat) (a : Addr), i ≠ j → Hs (n.set i s) (σ.set i v) H' j a → Hs n σ H j a := fun j a hj h => h.ex r.rel e (List.getElem?_set_ne hj) (List.getElem?_set_ne hj)
  refine ⟨r.rel.set e hN hM h1 h2 h3, fun a z => .inl (r.ob a z), fun j a h => ?_, fun j k a h g => ?_, r.ex.trans e, r.ot, fun a z => z.elim (r.bs a) fun z => .inr (r.ex.free (hN a z))⟩
  · by_cases hj : i = j
    · subst hj; exact (own a h).1
    · exact r.fr j a (back j a hj h)
  · by_cases hj : i = j
    · subst hj
      by_cases hk : i = k
      · exact hk
      · exact absurd (back k a hk g) ((own a h).2 k hk)
    · by_cases hk : i = k
      · subst hk
        exact absurd (back j a hj h) ((own a g).2 j hj)
      · exact r.inj j k a (back j a hj h) (back k a hk g)
theorem RelS.cast {B' : Addr → Prop} (r : RelS Z n σ H B O H0) (e : ∀ a, B a ↔ B' a) : RelS Z n σ H B' O H0 := by
  have : B = B' := funext fun a => propext (e a)
  rw [← this]; exact r
theorem hs_set {i : Nat} {s : Sl} {v : Option V} {a : Addr} (h : Hs (n.set i s) (σ.set i v) H i a) : (∃ d, s = .own d ∧ v = some (.ref a)) ∨ ∃ (ds : List PM.D) (p : Addr) (qs : List Addr), s = .own2 ds ∧ v = some (.ref p) ∧ H p = some (.lst (qs.map V.ref)) ∧ a ∈ p :: qs := by
  rcases h with ⟨d, h1, h2⟩ | ⟨ds, p, qs, h1, h2, h3, h4⟩
  · have l1 : i < n.length := by simpa using (List.getElem?_eq_some_iff.mp h1).1
    have l2 : i < σ.length := by simpa using (List.getElem?_eq_some_iff.mp h2).1
    rw [List.getElem?_set_self l1] at h1
    rw [List.getElem?_set_self l2] at h2
    exact .inl ⟨d, Option.some.inj h1, Option.some.inj h2⟩
  · have l1 : i < n.length := by simpa using (List.getElem?_eq_some_iff.mp h1).1
    have l2 : i < σ.length := by simpa using (List.getElem?_eq_some_iff.mp h2).1
    rw [List.getElem?_set_self l1] at h1
    rw [List.getElem?_set_self l2] at h2
    exact .inr ⟨ds, p, qs, Option.some.inj h1, Option.some.inj h2, h3, h4⟩
theorem RelS.not_hs (r : RelS Z n σ H B O H0) {a : Addr} (h : H a = none) (j : Nat) : ¬ Hs n σ H j a := fun z => by
  obtain ⟨o, q, _⟩ := r.rel.bt a (z.B r.rel)
  rw [h] at q; cases q
/-- a new object is put at a slot -/
theorem RelS.fresh {i : Nat} {d : PM.D} {p : Addr} (r : RelS Z n σ H B O H0) (hp : H p = none) (e : Ex H H') (h : OwnAt Z H' (fun a => B a ∨ a = p) p d) :
    RelS Z (n.set i (.own d)) (σ.set i (some (.ref p))) H' (fun a => B a ∨ a = p) O H0 := by
  refine r.set (N := fun a => a = p) e (fun a z => by rw [z]; exact hp) (fun a z => by rw [z]; exact h.some) (fun d z => by cases z) (fun d' z => ?_) (fun d z => by cases z) fun a z => ?_
  · cases z; exact ⟨p, rfl, .inr rfl, h⟩
  · rcases hs_set z with ⟨d', _, e2⟩ | ⟨_, _, _, e1, _⟩
    · cases e2
      exact ⟨r.ex.free hp, fun j _ => r.not_hs hp j⟩
    · cases e1
/-- new objects, put at a slot together -/
theorem RelS.fresh2 {i : Nat} {ds : List PM.D} {p : Addr} {qs : List Addr} (r : RelS Z n σ H B O H0) (hp : ∀ a ∈ p :: qs, H a = none) (nd : (p :: qs).Nodup) (e : Ex H H') (hl : H' p = some (.lst (qs.map V.ref))) (h : OwnL Z H' (fun a => B a ∨ a ∈ p :: qs) qs ds) :
    RelS Z (n.set i (.own2 ds)) (σ.set i (some (.ref p))) H' (fun a => B a ∨ a ∈ p :: qs) O H0 := by
  refine r.set (N := fun a => a ∈ p :: qs) e hp (fun a z => ?_) (fun d z => by cases z) (fun d z => by cases z) (fun d' z => ?_) fun a z => ?_
  · rcases List.mem_cons.mp z with z | z
    · rw [z]; exact ⟨_, hl, rfl⟩
    · obtain ⟨_, d, o⟩ := h.all a z
      exact o.some
  · cases z; exact ⟨p, qs, rfl, .inr List.mem_cons_self, hl, nd, h⟩
  · rcases hs_set z with ⟨d', e1, e2⟩ | ⟨ds', p', qs', e1, e2, e3, e4⟩
    · cases e1
    · cases e2
      rw [hl] at e3
      have e5 := refs_inj (show qs.map V.ref = qs'.map V.ref by injection e3 with e3; injection e3)
      subst e5
      exact ⟨r.ex.free (hp a e4), fun j _ => r.not_hs (hp a e4) j⟩
/-- an owned object, at no slot now, is put at one -/
theorem RelS.put {i : Nat} {d : PM.D} {p : Addr} (r : RelS Z n σ H B O H0) (np : ∀ (j : Nat), ¬ Hs n σ H j p) (hB : B p) (h : OwnAt Z H B p d) (h0 : H0 p = none) :
    RelS Z (n.set i (.own d)) (σ.set i (some (.ref p))) H B O H0 := by
  refine RelS.cast (r.set (N := fun _ => False) (Ex.refl _) (fun a z => z.elim) (fun a z => z.elim) (fun d z => by cases z) (fun d' z => ?_) (fun d z => by cases z) fun a z => ?_) fun a => ⟨fun z => z.elim id fun z => z.elim, .inl⟩
  · cases z; exact ⟨p, rfl, .inl hB, h.less fun a z => z.elim id fun z => z.elim⟩
  · rcases hs_set z with ⟨d', _, e2⟩ | ⟨_, _, _, e1, _⟩
    · cases e2
      exact ⟨h0, fun j _ => np j⟩
    · cases e1
/-- an owned object has changed -/
theorem RelS.changedL {l : Plc} {d d' : PM.D} {p : Addr} (r : RelS Z n σ H B O H0) (hi : n.ownOf l = some d) (hp : At σ H l p) (hk : ∀ a, a ≠ p → H' a = H a) (h : OwnAt Z H' B p d') :
    RelS Z (n.setOwn d' l) σ H' B O H0 := by
  obtain ⟨p', q1, q2, q3⟩ := r.rel.at_ hi
  cases hp.uniq q1
  obtain ⟨i0, hs0⟩ := Hs.at_ r.rel hi hp
  have h0 : H0 p = none := r.fr i0 p hs0
  have kp : Kp B H H' := fun a o ha hm => by
    have ne : a ≠ p := fun z => by
      subst z
      obtain ⟨o', z1, z2⟩ := q3.some
      rw [ha] at z1; cases z1
      rcases hm with hm | hm
      · exact hm q2
      · rw [z2] at hm; cases hm
    rw [hk a ne]; exact ha
  -- where the slots' lists stand nothing changed
  have hd : ∀ (j : Nat) (ds : List PM.D) (q : Addr), n[j]? = some (.own2 ds) → σ[j]? = some (some (.ref q)) → H' q = H q := fun j ds q e1 e2 => by
    refine hk q fun z => ?_
    subst z
    obtain ⟨b, qs, a1, a2, a3, a4, a5⟩ := r.rel.own2 j ds e1
    rw [e2] at a1
    cases a1
    have hj : Hs n σ H j q := .inr ⟨ds, q, qs, e1, e2, a3, List.mem_cons_self⟩
    have ij := r.inj i0 j q hs0 hj
    subst ij
    cases l with
    | slot i =>
      have hi := own_eq.mp hi
      have ii := r.inj i i0 q (.inl ⟨d, hi, hp⟩) hs0
      subst ii
      rw [hi] at e1; cases e1
    | part i k =>
      have hi' : (Sl.own2D n[i]?).bind (fun ds => ds[k]?) = some d := hi
      cases e' : Sl.own2D n[i]? with
      | none => rw [e'] at hi'; cases hi'
      | some es =>
        obtain ⟨b, rs, b1, b2, b3⟩ := hp
        have hb : Hs n σ H i q := .inr ⟨es, b, rs, own2_eq.mp e', b1, b2, List.mem_cons_of_mem _ (List.mem_of_getElem? b3)⟩
        have ii := r.inj i i0 q hb hs0
        subst ii
        rw [e2] at b1
        cases b1
        rw [a3] at b2
        have e5 := refs_inj (show qs.map V.ref = rs.map V.ref by injection b2 with b2; injection b2)
        subst e5
        rw [List.nodup_cons] at a4
        exact a4.1 (List.mem_of_getElem? b3)
  have oth : ∀ r0 e0, r0 ≠ p → OwnAt Z H B r0 e0 → OwnAt Z H' B r0 e0 := fun r0 e0 ne o => o.kp kp (hk r0 ne) fun _ z => z
  -- each slot of n' is a slot of n
  have cs : ∀ (j : Nat) (t : Sl), (n.setOwn d' l)[j]? = some t → (n[j]? = some t ∧ (∀ d, t = .own d → σ[j]? ≠ some (some (.ref p))) ∧ ∀ ds, t = .own2 ds → ¬ Hs n σ H j p) ∨
      (∃ i, l = .slot i ∧ j = i ∧ t = .own d') ∨ ∃ i k ds, l = .part i k ∧ j = i ∧ n[i]? = some (.own2 ds) ∧ t = .own2 (ds.set k d') := fun j t ej => by
    cases l with
    | slot i =>
      have ej : (n.set i (.own d'))[j]? = some t := ej
      have hi := own_eq.mp hi
      by_cases hj : i = j
      · subst hj
        have hl : i < n.length := (List.getElem?_eq_some_iff.mp hi).1
        rw [List.getElem?_set_self hl] at ej
        cases ej
        exact .inr (.inl ⟨i, rfl, rfl, rfl⟩)
      · rw [List.getElem?_set_ne hj] at ej
        refine .inl ⟨ej, fun d1 z y => hj (r.inj i j p (.inl ⟨d, hi, hp⟩) (.inl ⟨d1, z ▸ ej, y⟩)), fun ds _ y => hj (r.inj i j p (.inl ⟨d, hi, hp⟩) y)⟩
    | part i k =>
      have hi' : (Sl.own2D n[i]?).bind (fun ds => ds[k]?) = some d := hi
      cases e' : Sl.own2D n[i]? with
      | none => rw [e'] at hi'; cases hi'
      | some es =>
        have en := own2_eq.mp e'
        have ej : (match Sl.own2D n[i]? with | some ds => n.set i (.own2 (ds.set k d')) | none => n)[j]? = some t := ej
        rw [e'] at ej
        dsimp only at ej
        obtain ⟨b, rs, b1, b2, b3⟩ := hp
        have hb : Hs n σ H i p := .inr ⟨es, b, rs, en, b1, b2, List.mem_cons_of_mem _ (List.mem_of_getElem? b3)⟩
        by_cases hj : i = j
        · subst hj
          have hl : i < n.length := (List.getElem?_eq_some_iff.mp en).1
          rw [List.getElem?_set_self hl] at ej
          cases ej
          exact .inr (.inr ⟨i, k, es, rfl, rfl, en, rfl⟩)
        · rw [List.getElem?_set_ne hj] at ej
          refine .inl ⟨ej, fun d1 z y => hj (r.inj i j p hb (.inl ⟨d1, z ▸ ej, y⟩)), fun ds _ y => hj (r.inj i j p hb y)⟩
  have back : ∀ (j : Nat) (a : Addr), Hs (n.setOwn d' l) σ H' j a → Hs n σ H j a := fun j a h => by
    rcases h with ⟨d1, h1, h2⟩ | ⟨ds, q, qs, h1, h2, h3, h4⟩
    · rcases cs j _ h1 with ⟨z, _⟩ | ⟨i, rfl, rfl, _⟩ | ⟨i, k, ds, _, _, _, z⟩
      · exact .inl ⟨d1, z, h2⟩
      · exact .inl ⟨d, own_eq.mp hi, h2⟩
      · cases z
    · rcases cs j _ h1 with ⟨z, _⟩ | ⟨i, _, _, z⟩ | ⟨i, k, es, rfl, rfl, z, _⟩
      · exact .inr ⟨ds, q, qs, z, h2, (hd j ds q z h2).symm.trans h3, h4⟩
      · cases z
      · exact .inr ⟨es, q, qs, z, h2, (hd j es q z h2).symm.trans h3, h4⟩
  have hlen : (n.setOwn d' l).length = n.length := by
    cases l with
    | slot i => exact List.length_set
    | part i k =>
      show (match Sl.own2D n[i]? with | some ds => n.set i (.own2 (ds.set k d')) | none => n).length = _
      cases Sl.own2D n[i]? with
      | none => rfl
      | some ds => exact List.length_set
  refine ⟨⟨fun j e ej => ?_, fun j e ej => ?_, fun a z => ?_, by rw [hlen]; exact r.rel.len, fun j e ej => ?_⟩, r.ob, fun j a z => r.fr j a (back j a z), fun j k a z y => r.inj j k a (back j a z) (back k a y), fun a o ha => ?_, r.ot, r.bs⟩
  · rcases cs j _ ej with ⟨z, _⟩ | ⟨i, _, _, z⟩ | ⟨i, k, ds, _, _, _, z⟩
    · obtain ⟨v, a1, a2⟩ := r.rel.val j e z
      exact ⟨v, a1, a2.kp kp fun _ z => z⟩
    · cases z
    · cases z
  · rcases cs j _ ej with ⟨z, y, _⟩ | ⟨i, rfl, rfl, z⟩ | ⟨i, k, ds, _, _, _, z⟩
    · obtain ⟨q, a1, a2, a3⟩ := r.rel.own j e z
      exact ⟨q, a1, a2, oth q e (fun w => y e rfl (by rw [a1, w])) a3⟩
    · cases z
      exact ⟨p, hp, q2, h⟩
    · cases z
  · by_cases hap : a = p
    · subst hap
      exact h.some
    · obtain ⟨o, z1, m⟩ := r.rel.bt a z
      exact ⟨o, (hk a hap).trans z1, m⟩
  · rcases cs j _ ej with ⟨z, _, y⟩ | ⟨i, _, _, z⟩ | ⟨i, k, ds, rfl, rfl, z, w⟩
    · obtain ⟨q, qs, a1, a2, a3, a4, a5⟩ := r.rel.own2 j e z
      refine ⟨q, qs, a1, a2, (hd j e q z a1).trans a3, a4, a5.imp fun r0 e0 hr b o => ⟨b, oth r0 e0 (fun w => y e rfl ?_) o⟩⟩
      subst w
      exact .inr ⟨e, q, qs, z, a1, a3, List.mem_cons_of_mem _ hr⟩
    · cases z
    · cases w
      obtain ⟨q, qs, a1, a2, a3, a4, a5⟩ := r.rel.own2 j ds z
      obtain ⟨b, rs, b1, b2, b3⟩ := hp
      rw [a1] at b1
      cases b1
      rw [a3] at b2
      have e5 := refs_inj (show qs.map V.ref = rs.map V.ref by injection b2 with b2; injection b2)
      subst e5
      exact ⟨q, qs, a1, a2, (hd j ds q z a1).trans a3, a4, a5.set b3 (fun r0 e0 _ ne o => oth r0 e0 ne o) h (List.nodup_cons.mp a4).2⟩
  · have ne : a ≠ p := fun z => by subst z; rw [h0] at ha; cases ha
    rw [hk a ne]; exact r.ex a o ha
theorem RelS.changed {i : Nat} {d d' : PM.D} {p : Addr} (r : RelS Z n σ H B O H0) (hi : n[i]? = some (.own d)) (hp : σ[i]? = some (some (.ref p))) (hk : ∀ a, a ≠ p → H' a = H a) (h : OwnAt Z H' B p d') :
    RelS Z (n.set i (.own d')) σ H' B O H0 := r.changedL (l := .slot i) (own_eq.mpr hi) hp hk h
/-- what a slot has is left as it is from now on -/
theorem RelS.frozenG {i : Nat} {d : PM.D} {N : Addr → Prop} (r : RelS Z n σ H B O H0) (hN : ∀ a, N a → Hs n σ H i a) (hd : ∃ v, σ[i]? = some (some v) ∧ Den Z H (fun a => B a ∧ ¬ N a) d v) (hall : ∀ a, Hs n σ H i a → N a) : RelS Z (n.set i (.val d)) σ H (fun a => B a ∧ ¬ N a) O H0 := by
  obtain ⟨v, hv, hd⟩ := hd
  have cs : ∀ (j : Nat) (t : Sl), (n.set i (.val d))[j]? = some t → (i = j ∧ t = .val d) ∨ (i ≠ j ∧ n[j]? = some t) := fun j t ej => by
    by_cases hj : i = j
    · subst hj
      have hl : i < n.length := by simpa using (List.getElem?_eq_some_iff.mp ej).1
      rw [List.getElem?_set_self hl] at ej
      exact .inl ⟨rfl, (Option.some.inj ej).symm⟩
    · rw [List.getElem?_set_ne hj] at ej
      exact .inr ⟨hj, ej⟩
  have back : ∀ (j : Nat) (a : Addr), Hs (n.set i (.val d)) σ H j a → i ≠ j ∧ Hs n σ H j a := fun j a h => by
    rcases h with ⟨d1, h1, h2⟩ | ⟨ds, q, qs, h1, h2⟩
    · rcases cs j _ h1 with ⟨_, z⟩ | ⟨ne, z⟩
      · cases z
      · exact ⟨ne, .inl ⟨d1, z, h2⟩⟩
    · rcases cs j _ h1 with ⟨_, z⟩ | ⟨ne, z⟩
      · cases z
      · exact ⟨ne, .inr ⟨ds, q, qs, z, h2⟩⟩
  have keep : ∀ (j : Nat) (a : Addr), i ≠ j → Hs n σ H j a → B a ∧ ¬ N a := fun j a ne h => ⟨h.B r.rel, fun z => ne (r.inj i j a (hN a z) h)⟩
  refine ⟨⟨fun j e ej => ?_, fun j e ej => ?_, fun a z => r.rel.bt a z.1, by simpa using r.rel.len, fun j e ej => ?_⟩, fun a z => ⟨r.ob a z, fun y => ?_⟩, fun j a h => r.fr j a (back j a h).2, fun j k a h g => r.inj j k a (back j a h).2 (back k a g).2, r.ex, r.ot, fun a z => r.bs a z.1⟩
  · rcases cs j _ ej with ⟨rfl, z⟩ | ⟨ne, z⟩
    · cases z
      exact ⟨v, hv, hd⟩
    · obtain ⟨v, a1, a2⟩ := r.rel.val j e z
      exact ⟨v, a1, a2.less fun a z => z.1⟩
  · rcases cs j _ ej with ⟨rfl, z⟩ | ⟨ne, z⟩
    · cases z
    · obtain ⟨q, a1, a2, a3⟩ := r.rel.own j e z
      exact ⟨q, a1, keep j q ne (.inl ⟨e, z, a1⟩), a3.less fun a z => z.1⟩
  · rcases cs j _ ej with ⟨rfl, z⟩ | ⟨ne, z⟩
    · cases z
    · obtain ⟨q, qs, a1, a2, a3, a4, a5⟩ := r.rel.own2 j e z
      exact ⟨q, qs, a1, keep j q ne (.inr ⟨e, q, qs, z, a1, a3, List.mem_cons_self⟩), a3, a4, a5.imp fun r0 e0 hr b o => ⟨keep j r0 ne (.inr ⟨e, q, qs, z, a1, a3, List.mem_cons_of_mem _ hr⟩), o.less fun a z => z.1⟩⟩
  · obtain ⟨o, z1⟩ := r.ot a z
    rw [r.fr i a (hN a y)] at z1; cases z1
theorem RelS.frozen {i : Nat} {d : PM.D} (r : RelS Z n σ H B O H0) (hi : n[i]? = some (.own d)) : ∃ B', RelS Z (n.set i (.val d)) σ H B' O H0 := by
  obtain ⟨p, q1, q2, q3⟩ := r.rel.own i d hi
  refine ⟨_, r.frozenG (N := fun a => a = p) (fun a z => by rw [z]; exact .inl ⟨d, hi, q1⟩) ⟨_, q1, q3.den (fun z => z.2 rfl) fun a z => z.1⟩ fun a z => ?_⟩
  rcases z with ⟨d', z1, z2⟩ | ⟨ds, _, _, z1, _⟩
  · rw [q1] at z2; cases z2; rfl
  · rw [hi] at z1; cases z1
theorem RelS.frozen2 {i : Nat} {ds : List PM.D} (r : RelS Z n σ H B O H0) (hi : n[i]? = some (.own2 ds)) : ∃ B', RelS Z (n.set i (.val (.lst ds))) σ H B' O H0 := by
  obtain ⟨p, qs, q1, q2, q3, q4, q5⟩ := r.rel.own2 i ds hi
  refine ⟨_, r.frozenG (N := fun a => a ∈ p :: qs) (fun a z => .inr ⟨ds, p, qs, hi, q1, q3, z⟩) ⟨_, q1, ?_⟩ fun a z => ?_⟩
  · unfold Den
    exact ⟨p, qs.map V.ref, rfl, .inl ⟨fun z => z.2 List.mem_cons_self, .inl q3⟩, q5.den (fun q hq z => z.2 (List.mem_cons_of_mem _ hq)) fun a z => z.1⟩
  · rcases z with ⟨d', z1, z2⟩ | ⟨ds, p', qs', z1, z2, z3, z4⟩
    · rw [hi] at z1; cases z1
    · rw [q1] at z2
      cases z2
      rw [q3] at z3
      have e5 := refs_inj (show qs.map V.ref = qs'.map V.ref by injection z3 with z3; injection z3)
      subst e5
      exact z4
/-- a slot is emptied -/
theorem RelS.off {i : Nat} {v : Option V} (r : RelS Z n σ H B O H0) : RelS Z (n.set i .emp) (σ.set i v) H B O H0 := by
  refine RelS.cast (r.set (N := fun _ => False) (Ex.refl _) (fun a z => z.elim) (fun a z => z.elim) (fun d z => by cases z) (fun d' z => by cases z) (fun d z => by cases z) fun a z => ?_) fun a => ⟨fun z => z.elim id fun z => z.elim, .inl⟩
  rcases hs_set z with ⟨d', e1, _⟩ | ⟨_, _, _, e1, _⟩ <;> cases e1
end
end PM

set_option Elab.async false
set_option linter.all false
set_option maxRecDepth 100000
set_option maxHeartbeats 4000000
/-! PM9: try: .. except X as e: name = e, the exception held as a thing. -/
namespace L2
open PySem PySem.Spec
open PyProof.Rows hiding St

/-- a thing that is new since the entry is tracked from now on -/
theorem Inv.track {X : Cx} {pins : List (Addr × Obj)} {σ : St} {H : Hp} {s : Shared} {a : Addr} {φ : Heap → Prop} (I : Inv X pins σ H s) (n0 : X.s_0.heap.get? a = none) (na : H a = none) (nL : a ≠ X.env.locals) (nc : ∀ x c, X.env.cells.lookup x = some c → c ≠ a)
    (np : ∀ p ∈ X.pn ++ pins, p.1 ≠ a) (new : ObjOk X.prog X.w (upd H a (.ext φ)) s.heap a (.ext φ)) : Inv X pins σ (upd H a (.ext φ)) s := by
  have ne0 : ∀ b o, X.s_0.heap.get? b = some o → b ≠ a := fun b o e z => by subst z; rw [n0] at e; cases e
  refine ⟨I.ok, I.os, I.bare, ⟨fun b o e n hb hx => I.base.keep b o e n hb hx, fun b o e n hb hx => I.base.slot b o e n hb hx, fun b o e n hx => ?_, fun b o e hx => I.base.there b o e hx, fun b xs e => ?_, fun b o u e => ?_, fun b ps e => ?_⟩, I.loc, I.cell, ?_, fun x c e => ?_, fun p hp => ?_, fun b o e => ?_, I.len⟩
  · rw [upd_ne (ne0 b o e)]; exact I.base.free b o e n hx
  · have z := I.base.tups b xs e
    rw [upd_ne (ne_of_none z na)]; exact z
  · have z := I.base.frzs b o u e
    rw [upd_ne (ne_of_none z na)]; exact z
  · obtain ⟨m, z⟩ := I.base.tbls b ps e
    exact ⟨m, by rw [upd_ne (ne_of_none z na)]; exact z⟩
  · rw [upd_ne (Ne.symm nL)]; exact I.free
  · rw [upd_ne (nc x c e)]; exact I.freeC x c e
  · obtain ⟨z1, z2, z3⟩ := I.pin p hp
    exact ⟨z1, by rw [upd_ne (np p hp)]; exact z2, z3⟩
  · by_cases hb : b = a
    · subst hb
      rw [upd_same] at e
      cases e
      exact new
    · rw [upd_ne hb] at e
      exact (I.hok b o e).stay (fun _ _ _ q => q) (fun c q => by rw [upd_ne (ne_of_none q na)]; exact q) fun c xs q => by rw [upd_ne (ne_of_none q na)]; exact q
/-- a thing that is tracked is known otherwise from now on -/
theorem Inv.swap {X : Cx} {pins : List (Addr × Obj)} {σ : St} {H : Hp} {s : Shared} {p : Addr} {o o' : HO} (I : Inv X pins σ H s) (hp : H p = some o) (n1 : ∀ xs, o ≠ .tup xs) (n2 : ∀ b u, o ≠ .frz b u) (n3 : ∀ ps, o ≠ .tbl ps) (n4 : ∀ b, o ≠ .own b)
    (new : ObjOk X.prog X.w (upd H p o') s.heap p o') : Inv X pins σ (upd H p o') s := by
  have ne : ∀ b, H b = none → b ≠ p := fun b e z => by subst z; rw [hp] at e; cases e
  refine ⟨I.ok, I.os, I.bare, ⟨I.base.keep, I.base.slot, fun b u e n hx => ?_, I.base.there, fun b xs e => ?_, fun b u v e => ?_, fun b ps e => ?_⟩, I.loc, I.cell, ?_, fun x c e => ?_, fun q hq => ?_, fun b u e => ?_, I.len⟩
  · have z := I.base.free b u e n hx
    rw [upd_ne (ne b z)]; exact z
  · have z := I.base.tups b xs e
    rw [upd_ne (fun y => by subst y; rw [hp] at z; cases z; exact n1 _ rfl)]; exact z
  · have z := I.base.frzs b u v e
    rw [upd_ne (fun y => by subst y; rw [hp] at z; cases z; exact n2 _ _ rfl)]; exact z
  · obtain ⟨m, z⟩ := I.base.tbls b ps e
    exact ⟨m, by rw [upd_ne (fun y => by subst y; rw [hp] at z; cases z; exact n3 _ rfl)]; exact z⟩
  · rw [upd_ne (ne _ I.free)]; exact I.free
  · rw [upd_ne (ne _ (I.freeC x c e))]; exact I.freeC x c e
  · obtain ⟨z1, z2, z3⟩ := I.pin q hq
    exact ⟨z1, by rw [upd_ne (ne _ z2)]; exact z2, z3⟩
  · by_cases hb : b = p
    · subst hb
      rw [upd_same] at e
      cases e
      exact new
    · rw [upd_ne hb] at e
      refine (I.hok b u e).stay (fun _ _ _ q => q) (fun c q => ?_) fun c xs q => ?_
      · rw [upd_ne (fun y => by subst y; rw [hp] at q; cases q; exact n4 _ rfl)]; exact q
      · rw [upd_ne (fun y => by subst y; rw [hp] at q; cases q; exact n1 _ rfl)]; exact q
end L2
namespace PM
open PySem PySem.Spec L2
open PyProof.Rows hiding St
theorem upd_id {H : Hp} {p : Addr} {o u : HO} (h : H p = some o) : upd (upd H p u) p o = H := by
  funext a
  by_cases e : a = p
  · subst e; rw [upd_same, h]
  · rw [upd_ne e, upd_ne e]
section
variable {X : Cx} {pins : List (Addr × Obj)} {σ : L2.St} {H : Hp} {s : Shared} {p : Addr}
/-- what is drawn from is a list of two -/
theorem Inv.unseal (I : Inv X pins σ H s) (hp : H p = some (PoolH p)) : ∃ x y : Int, okP 0 x ∧ okP 1 y ∧ Inv X pins σ (upd H p (.lst [.int x, .int y])) s := by
  obtain ⟨⟨x, y, hx, hy, its, n, r, e⟩, _, _⟩ := I.hok p _ hp
  exact ⟨x, y, hx, hy, Inv.swap I hp (fun _ z => by cases z) (fun _ _ z => by cases z) (fun _ z => by cases z) (fun _ z => by cases z) ⟨by rw [sizeLine_eq]; show 2 ≤ 16777216; omega, its, n, r, e⟩⟩
theorem Inv.seal {x y : Int} (I : Inv X pins σ H s) (hp : H p = some (.lst [.int x, .int y])) (hx : okP 0 x) (hy : okP 1 y) : Inv X pins σ (upd H p (PoolH p)) s := by
  obtain ⟨_, its, n, r, e⟩ := I.hok p _ hp
  refine Inv.swap I hp (fun _ z => by cases z) (fun _ _ z => by cases z) (fun _ z => by cases z) (fun _ z => by cases z) ⟨⟨x, y, hx, hy, its, n, r, e⟩, ⟨_, e⟩, fun h1 h2 ⟨x, y, hx, hy, its, n, r, e⟩ k => ⟨x, y, hx, hy, its, n, r, k _ e⟩⟩
/-- one of the two is read -/
theorem ix_pool : IxR X (fun x y H Q => ∃ p j, x = .ref p ∧ H p = some (PoolH p) ∧ y = .int j ∧ (j = 0 ∨ j = 1) ∧ ∀ i : Int, okP j i → Q (.int i) H) := by
  intro value slice pins s σ H x y v u Q I rx ry h hs
  obtain ⟨p, j, rfl, hp, rfl, hj, q⟩ := h
  obtain ⟨a, b, ha, hb, I1⟩ := Inv.unseal I hp
  refine wpAny_mono (ix_list value slice pins s σ _ _ _ v u (fun w H' => ∃ i : Int, okP j i ∧ w = .int i ∧ H' = upd H p (.lst [.int a, .int b])) I1 rx ry ⟨p, [.int a, .int b], j, if j = 0 then .int a else .int b, rfl, rfl, .inl (.inl upd_same), ?_, ?_⟩ hs) (fun w s' hw => ?_) fun _ _ x => x
  · rcases hj with rfl | rfl <;> rfl
  · rcases hj with rfl | rfl
    · exact ⟨a, ha, rfl, rfl⟩
    · exact ⟨b, hb, rfl, rfl⟩
  · obtain ⟨w', H', I2, r, i, hi, rfl, rfl⟩ := hw
    have I3 := Inv.seal I2 upd_same ha hb
    rw [upd_id hp] at I3
    exact ⟨.int i, H, I3, r, q i hi⟩
/-- one of the two is stored -/
def rSetP : TSet := fun o i v H Q => ∃ p j k, o = .ref p ∧ H p = some (PoolH p) ∧ i = .int j ∧ (j = 0 ∨ j = 1) ∧ v = .int k ∧ okP j k ∧ Q H
theorem set_pool : PSet X rSetP := by
  intro pins s σ H o i v ov iv u Q I ro ri rv h
  obtain ⟨p, j, k, rfl, hp, rfl, hj, rfl, hk, q⟩ := h
  obtain ⟨a, b, ha, hb, I1⟩ := Inv.unseal I hp
  refine wpAny_mono (set_list pins s σ _ _ _ _ ov iv u (fun H' => ∃ a b : Int, okP 0 a ∧ okP 1 b ∧ H' = upd H p (.lst [.int a, .int b])) I1 ro ri rv ⟨p, [.int a, .int b], j, j.toNat, rfl, rfl, upd_same, ?_, ?_⟩) (fun w s' hw => ?_) fun _ _ x => x
  · rcases hj with rfl | rfl <;> rfl
  · rcases hj with rfl | rfl
    · exact ⟨k, b, hk, hb, by rw [upd_upd]; rfl⟩
    · exact ⟨a, k, ha, hk, by rw [upd_upd]; rfl⟩
  · obtain ⟨H', I2, a', b', ha', hb', rfl⟩ := hw
    have I3 := Inv.seal I2 upd_same ha' hb'
    rw [upd_id hp] at I3
    exact ⟨H, I3, q⟩
end
end PM
namespace PM
open PySem PySem.Spec L2
open PyProof.Rows hiding St

/-- what the clause wishes: slot i is the clause's name, slot j the one stored -/
def wHeld (K : PySem.W.Frag) (c : Value) (i j : Nat) (Wout : WX) (D : Ends) : WX := fun cls d σ H =>
  ∃ b, PySem.W.exmOne K cls c = some b ∧ (b = true → ∃ E, cls = .ref E ∧ ∀ a, H a = none → D.nx (((σ.set i (some (.ref a))).set j (some (.ref a))).set i none) (upd H a (ExH E d a))) ∧ (b = false → Wout cls d σ H)

section
variable {X : Cx} {x n y : Str} {c : Value} {i j : Nat} {body : List Stmt} {np pos pos' py pn2 pa : Pos} {tb : WX → TS} {Wout : WX}
theorem ps_try_held (hs : X.stack = X.env :: X.outer) (hf : X.env.frame = some X.env.locals) (hex : X.ex = []) (hN : X.N.Nodup) (hi : X.N[i]? = some n) (hj : X.N[j]? = some y) (hij : i ≠ j) (hln : X.env.kindOf n = some .local) (hly : X.env.kindOf y = some .local)
    (hd1 : (n == ("__debug__" : Str)) = false) (hd2 : (n == ("__classdict__" : Str)) = false) (hc : Names X x c) (tk : Takes X Wout)
    (hb : ∀ (W : WX) (pn : List (Addr × Obj)) (xe : Value → Shared → Prop), Takes (X.tr pn xe) W → PassesOwn (model X.prog X.w) X.A X.env xe → PSs (X.tr pn xe) body (tb W)) :
    PS X (.Try body [.ExceptHandler (some (.Name x np)) (some n) [.Assign [.Name y py] (.Name n pn2) pa] pos'] [] [] pos) (fun D σ H => tb (wHeld X.K c i j Wout D) D σ H) := by
  refine ⟨fun pins s σ H D I h => ?_⟩
  have ok := I.ok
  have hfr : X.A.frames = some (X.env :: X.outer) := by rw [ok.frames, hs]
  have hloc : Loc X.env.scope n := .inl hln
  refine wpAny_Try_except ?_
  refine wpAny_mono ((hb (wHeld X.K c i j Wout D) (X.pn ++ pins) (fun e s₁ => wpAny (model X.prog X.w) X.A (noteFrame e X.env) (fun _ s₂ => wpAny (model X.prog X.w) X.A (setFlight e none) (fun _ s₃ =>
    wpAny (model X.prog X.w) X.A (handleBy e X.env [.ExceptHandler (some (.Name x np)) (some n) [.Assign [.Name y py] (.Name n pn2) pa] pos']) (SP X pins D) X.xe s₃) X.xe s₂) X.xe s₁) (fun u s' xx => ?_) PassesOwn.looking).run [] s σ H D (I.toTry _) h) (fun f s1 hsp => ?_) (fun e s1 he => he)
  · obtain ⟨a, B, sI, pins', σ', H', cls, d, rfl, J', nb, up, sky, na, os, ag, b, hb1, hyes, hno⟩ := xx
    have J : Inv X pins σ' H' sI := J'.ofTry ok
    have sky' : Sky B (X.env :: X.outer) a (Zc cls d) X.env.locals s'.heap := by rw [← hs]; exact sky
    show wpAny (model X.prog X.w) X.A (noteFrame (.ref a) X.env) _ _ _
    refine Sky.land Zc.steady hfr hf sky' fun h3 fl3 up3 => ?_
    have J3 : Inv X pins σ' H' { s' with heap := h3 } := J.landed nb fl3.1 (up.trans up3) os ag
    obtain ⟨oe3, vs3, he3, hz3, hd3⟩ := fl3.there
    have notFr : ∀ {h : Heap} {o : Obj} {vs : Array Value}, h.FunFrames B (X.env :: X.outer) → h.get? a = some o → o.data = .fields vs → a ∉ frs (X.env :: X.outer) := fun {h o vs} ff e dd hm => by
      obtain ⟨_, o', e', hnf⟩ := ff.mem hm
      rw [e] at e'; cases e'
      exact hnf _ dd
    have nfr := notFr fl3.2.2.1 he3 hd3
    have nL : a ≠ X.env.locals := fun z => nfr (List.mem_filterMap.mpr ⟨X.env, List.mem_cons_self, by rw [hf, z]⟩)
    have nF : a ∉ X.fs := fun hm => by
      obtain ⟨e, he, q⟩ := List.mem_filterMap.mp hm
      exact nfr (List.mem_filterMap.mpr ⟨e, List.mem_cons_of_mem _ he, q⟩)
    have Ba : B.get? a = none := fl3.2.1
    -- what stands in sI is not the exception
    have nI : ∀ b o, sI.heap.get? b = some o → b ≠ a := fun b o e z => by
      subst z
      have q := nb b o e (by rw [hs]; exact nfr)
      rw [Ba] at q; cases q
    have n0 : X.s_0.heap.get? a = none := by
      cases e : X.s_0.heap.get? a with
      | none => rfl
      | some o =>
        obtain ⟨o', z⟩ := J.base.there a o e (by rw [hex]; exact fun z => nomatch z)
        exact absurd rfl (nI a o' z)
    have nc : ∀ x' c', X.env.cells.lookup x' = some c' → c' ≠ a := fun x' c' e => by
      obtain ⟨v, o, ho, _⟩ := J.cell x' c' e
      exact nI c' o ho
    have npin : ∀ p ∈ X.pn ++ pins, p.1 ≠ a := fun p hp => nI _ _ (J.pin p hp).1
    have S3 := J3.suite he3 hd3 na nL nF
    refine wpAny_handleBy_cons (codeAny_handlers_test ?_) (by intro q; cases q)
    have LT : PySem.W.Looks (model X.prog X.w) h3 (typeOf (.ref a)) cls := fun A Q E s k q => wpAny_typeOf_ref (k _ _ he3) (by rw [hz3.1]; exact q)
    have LM := PySem.W.exm_one (M := model X.prog X.w) (J3.kIn) LT hb1
    have test : ∀ {Q : Value → Shared → Prop} {E : Value → Shared → Prop}, Q c { s' with heap := h3 } → wpAny (model X.prog X.w) (X.A.mark (some (.ref a))) (eval (.Name x np) X.env) Q E { s' with heap := h3 } := fun {Q E} q => by
      obtain ⟨hg, hdbg, hm | ⟨hm, hv, hnn⟩⟩ := hc
      · exact ld_glob (X := X.suite a ((a, oe3) :: (X.pn ++ pins))) S3 hg hm q hdbg
      · exact ld_blt (X := X.suite a ((a, oe3) :: (X.pn ++ pins))) S3 hg hm hv q hnn hdbg
    refine test (LM.here ?_)
    cases b with
    | true =>
      refine codeAny_handlers_suite_as ?_
      refine HandSPX.lands_againZ fl3 fun h4 fl4 up4 => ?_
      have J4 : Inv X pins σ' H' { s' with heap := h4 } := J.landed nb fl4.1 ((up.trans up3).trans up4) os ag
      obtain ⟨oe4, vs4, he4, hz4, hd4⟩ := fl4.there
      have S4 := J4.suite he4 hd4 na nL nF
      obtain ⟨E, hE, hnx⟩ := hyes rfl
      refine store_ok (X := X.suite a ((a, oe4) :: (X.pn ++ pins))) (v := .ref a) S4 hN hi hloc rfl (fun s5 S5 => ?_) (.inr hln)
      -- name = e
      have st : PSs (X.suite a ((a, oe4) :: (X.pn ++ pins))) [.Assign [.Name y py] (.Name n pn2) pa] (tAsg (tVar i) (gName j)) :=
        pss_one (ps_set (X := X.suite a ((a, oe4) :: (X.pn ++ pins))) hN hj (.inl hly) (pe_var (X := X.suite a ((a, oe4) :: (X.pn ++ pins))) hi (.inl hln) hd1 hd2) rfl (.inr hly))
      have hil : i < σ'.length := by
        rw [J.len]; exact (List.getElem?_eq_some_iff.mp hi).1
      refine wpAny_mono (st.run [] s5 _ H' { nx := fun σ6 H6 => σ6 = (σ'.set i (some (.ref a))).set j (some (.ref a)) ∧ H6 = H', rt := fun _ _ => False } S5 ⟨.ref a, List.getElem?_set_self hil, rfl, rfl⟩) (fun f s6 hsp => ?_) (fun _ _ z => False.elim z)
      cases f with
      | next =>
        obtain ⟨σ6, H6, S6, e6, e7⟩ := hsp
        subst e6 e7
        refine gone_ok (X := X.suite a ((a, oe4) :: (X.pn ++ pins))) S6 hN hi hln fun s7 S7 => ?_
        have J7 : Inv X pins _ H6 s7 := S7.unsuite ok
        obtain ⟨z1, z2, _⟩ := S7.pin (a, oe4) (List.mem_append_left _ List.mem_cons_self)
        refine ⟨_, _, J7.track n0 na nL nc npin ?_, hnx a na⟩
        exact ⟨⟨oe4, vs4, z1, by rw [← hE]; exact hz4, hd4⟩, ⟨oe4, z1⟩, fun h1 h2 ⟨o, v, q1, q2, q3⟩ k => ⟨o, v, k o q1, q2, q3⟩⟩
      | brk => obtain ⟨_, _, _, q⟩ := hsp; exact False.elim q
      | cont => obtain ⟨_, _, _, q⟩ := hsp; exact False.elim q
      | ret u => obtain ⟨_, _, _, _, _, q⟩ := hsp; exact False.elim q
    | false =>
      show wpAny _ X.A (handleBy (.ref a) X.env []) _ _ _
      refine wpAny_handleBy_nil ?_
      obtain ⟨k1, k2, k3, oe, vs, T, oT, ts', he, hz, hd, h1, hr⟩ := id fl3
      unfold PySem.passOn
      refine wpAny_bind (wpAny_field he hd h1 ?_)
      rw [if_neg (show ¬ ((Value.ref T == Value.none) = true) from by simp)]
      have fin : wpAny (model X.prog X.w) X.A (setFlight (.ref a) X.env.frame) (fun _ s4 => wpAny (model X.prog X.w) X.A (throw (.ref a) : Sem Flow) (SP X pins D) X.xe s4) X.xe { s' with heap := h3 } := by
        rw [hf]
        refine HandSPX.setFlight_upZ fl3 fun h4 hh4 up4 => wpAny_throw (tk _ _ ?_)
        exact ⟨a, B, sI, pins, σ', H', cls, d, rfl, J, nb, (up.trans up3).trans up4, .inr (.inr (by rw [hs]; exact hh4)), na, os, ag, hno rfl⟩
      first
        | exact wpAny_bind (wpAny_pure (wpAny_bind fin))
        | exact wpAny_bind fin
  · cases f with
    | next =>
      obtain ⟨σ', H', J', q⟩ := hsp
      exact wpAny_execs_nil ⟨σ', H', J'.ofTry ok, q⟩
    | brk =>
      obtain ⟨σ', H', J', q⟩ := hsp
      exact ⟨σ', H', J'.ofTry ok, q⟩
    | cont =>
      obtain ⟨σ', H', J', q⟩ := hsp
      exact ⟨σ', H', J'.ofTry ok, q⟩
    | ret u =>
      obtain ⟨v, σ', H', J', r, q⟩ := hsp
      exact ⟨v, σ', H', J'.ofTry ok, r, q⟩
end
end PM

set_option Elab.async false
set_option linter.all false
set_option maxRecDepth 100000
set_option maxHeartbeats 8000000
/-! PM10: the match of statements, links, the parts of a comprehension once more. -/
namespace PM
open PySem PySem.Spec L2
open PyProof.Rows hiding St

def locB (sc : Scope) (x : Str) : Bool := decide (sc.names.lookup x = some .local)
def locC (sc : Scope) (x : Str) : Bool := decide (sc.names.lookup x = some .local) || decide (sc.names.lookup x = some .cell)
def notComp : Expr → Bool
  | .ListComp _ _ _ _ => false
  | .SetComp _ _ _ _ => false
  | .DictComp _ _ _ _ _ => false
  | _ => true
def notTupE : Expr → Bool
  | .Tuple _ _ _ => false
  | _ => true
def notName : Expr → Bool
  | .Name _ _ => false
  | _ => true
def swB (sc : Scope) (y : Str) (py : Pos) : Expr → Bool
  | .ListComp _ _ scope pos => decide (sc.names.lookup y = some .local) && (py.line == pos.line) && !(scope.names.any fun (n, k) => n == y && (k == .local || k == .cell))
  | _ => false
/-- what is walked by a for, a comprehension -/
def okI (N : List Str) (sc : Scope) (k : IK) (es : List E) (tg iter : Expr) : Bool := match k with
  | .ex => okEs N sc es [iter]
  | .cl x n => (match iter with
    | .Call (.Name y _) xs [] _ => decide (x = y) && glB sc x && plainN x && decide (x ≠ "__name__" ∧ xs.length = n) && (isTup tg || decide (x = "range")) && okEs N sc es xs
    | _ => false)
  | .mt m => (match iter with
    | .Call (.Attribute eo y ap) [] [] cp => decide (m = y) && isTup tg && decide ((ap.endLine == cp.line) = true) && plainO eo && okEs N sc es [eo]
    | _ => false)
mutual
def okS (N : List Str) (sc : Scope) : S → Stmt → Bool
  | .set i e, st => match st with
    | .Assign [.Name x px] ex _ => decide (N[i]? = some x) && locC sc x && okE N sc e ex
    | _ => false
  | .tgt ts e, st => match st with
    | .Assign [tg] ex _ => okT N sc (fun _ => true) (.tp ts) tg && isTup tg && notTupE ex && okE N sc e ex
    | _ => false
  | .par i j a b, st => match st with
    | .Assign [.Tuple [.Name x px, .Name y py] _ _] (.Tuple [ea, eb] _ _) _ => decide (N[i]? = some x) && decide (N[j]? = some y) && decide (i ≠ j) && locB sc x && locB sc y && decide (x ≠ y) && (px.line == py.line) &&
        !(foldedForSure 8 ea && foldedForSure 8 eb) && !(constantsAlone 8 ea && constantsAlone 8 eb) && okE N sc a ea && okE N sc b eb
    | _ => false
  | .mut i m _ es, st => match st with
    | .Expr (.Call (.Attribute (.Name x _) y ap) xs [] cp) _ => decide (N[i]? = some x) && visB sc x && plainN x && decide (m = y) && decide ((ap.endLine == cp.line) = true ∧ xs.length ≤ 20) && okEs N sc es xs
    | _ => false
  | .seti i _ k e, st => match st with
    | .Assign [.Subscript (.Name x _) ek _] ex _ => decide (N[i]? = some x) && visB sc x && plainN x && notSlice ek && notComp ex && okE N sc k ek && okE N sc e ex
    | _ => false
  | .gens m _ es, st => match m N sc st with
    | some xs => okEs N sc es xs
    | none => false
  | .setp i k e, st => match st with
    | .Assign [.Subscript (.Name x _) ek _] ex _ => decide (N[i]? = some x) && visB sc x && plainN x && notSlice ek && notComp ex && okE N sc k ek && okE N sc e ex
    | _ => false
  | .expr e, st => match st with
    | .Expr ex _ => notComp ex && okE N sc e ex
    | _ => false
  | .ifs c a b, st => match st with
    | .If ec sa sb _ => okE N sc c ec && okSs N sc a sa && okSs N sc b sb
    | _ => false
  | .whl _ c body, st => match st with
    | .While ec sb [] _ => okE N sc c ec && okSs N sc body sb
    | _ => false
  | .for_ t k _ es body, st => match st with
    | .For tg iter sb [] _ => notSet iter && okT N sc (fun _ => true) t tg && okI N sc k es tg iter && okSs N sc body sb
    | _ => false
  | .ret e, st => match st with
    | .Return (some ex) _ => okE N sc e ex
    | _ => false
  | .retN, st => match st with
    | .Return none _ => true
    | _ => false
  | .raise x es _, st => match st with
    | .Raise (some (.Call (.Name y _) xs [] _)) none _ => decide (x = y) && glB sc x && plainN x && okEs N sc es xs
    | _ => false
  | .pass, st => match st with
    | .Pass _ => true
    | _ => false
  | .brk, st => match st with
    | .Break _ => true
    | _ => false
  | .cont, st => match st with
    | .Continue _ => true
    | _ => false
  | .tryx body x _ i j, st => match st with
    | .Try sb [.ExceptHandler (some (.Name y _)) (some n) [.Assign [.Name z _] (.Name n2 _) _] _] [] [] _ => decide (x = y) && glB sc x && plainN x && decide (n2 = n) && decide (N[i]? = some n) && decide (N[j]? = some z) && decide (i ≠ j) && locB sc n && locB sc z && plainN n && okSs N sc body sb
    | _ => false
  | .frz _, _ => false
  | .mv i j, st => match st with
    | .Assign [.Name x _] (.Name y _) _ => decide (N[i]? = some x) && locC sc x && decide (N[j]? = some y) && visB sc y && plainN y
    | _ => false
  | .mut2 i k m _ es, st => match st with
    | .Expr (.Call (.Attribute eo y ap) xs [] cp) _ => decide (m = y) && plainO eo && decide ((ap.endLine == cp.line) = true ∧ xs.length ≤ 20) && okE N sc (.pt i k) eo && okEs N sc es xs
    | _ => false
  | .seti2 i k _ j e, st => match st with
    | .Assign [.Subscript eo ek _] ex _ => notSlice ek && notComp ex && okE N sc (.pt i k) eo && okE N sc j ek && okE N sc e ex
    | _ => false
  | .set2 i t k φ es elt own, st => match st with
    | .Assign [.Name x px] ex _ => decide (N[i]? = some x) && locC sc x && okE N sc (.lc t k φ es (.c (.bl true)) elt own) ex
    | _ => false
def okSs (N : List Str) (sc : Scope) : List S → List Stmt → Bool
  | [], sts => match sts with
    | [] => true
    | _ => false
  | .frz _ :: ss, sts => okSs N sc ss sts
  | s :: ss, sts => match sts with
    | st :: sts => okS N sc s st && okSs N sc ss sts
    | [] => false
end

/-- an owned object changed by a method -/
def tMut (Z : Wd) (φ : D → Option (List D → Option D)) (to : TE) (t : TA) : TE := fun σ H Q => to σ H fun x H1 => ∃ (p : Addr) (B : Addr → Prop) (d : D) (f : List D → Option D), x = .ref p ∧ B p ∧ OwnAt Z H1 B p d ∧ φ d = some f ∧
  t σ H1 fun vs H2 => ∃ (ds : List D) (d' : D), Ex H1 H2 ∧ DenL Z H2 B ds vs ∧ f ds = some d' ∧ ∀ v H3, (∀ a, a ≠ p → H3 a = H2 a) → OwnAt Z H3 B p d' → Q v H3
def MutOk (C : Cn) (m : Str) (φ : D → Option (List D → Option D)) : Prop := ∀ (X : Cx), C.At X → ∀ (eo : Expr) (ap cp : Pos) (es : List Expr) (to : TE) (t : TA), plainO eo = true → (ap.endLine == cp.line) = true → es.all notStar = true → es.length ≤ 20 → PE X eo to → PA X es t →
  PE X (.Call (.Attribute eo m ap) es [] cp) (tMut C.Z φ to t)
def rSetD3 (Z : Wd) (f : D → D → D → Option D) : TSet := fun o i v H Q => ∃ (p : Addr) (B : Addr → Prop) (d k e d' : D), o = .ref p ∧ B p ∧ OwnAt Z H B p d ∧ Den Z H B k i ∧ Den Z H B e v ∧ f d k e = some d' ∧ ∀ H', (∀ a, a ≠ p → H' a = H a) → OwnAt Z H' B p d' → Q H'
def SetOk (C : Cn) (f : D → D → D → Option D) : Prop := ∀ (X : Cx), C.At X → PSet X (rSetD3 C.Z f)
def RaiseOk (C : Cn) (x : Str) (f : List D → Option (List D)) : Prop := ∀ (X : Cx), C.At X → Gl X x → ∀ (p pos : Pos) (es : List Expr) (t : TA), es.all notStar = true → PA X es t →
  PMk X (.Call (.Name x p) es [] pos) (fun σ H Q => t σ H fun vs H1 => ∃ (B : Addr → Prop) (ds fs : List D), DenL C.Z H1 B ds vs ∧ f ds = some fs ∧ ∀ H2 cd, Ex H1 H2 → ExnD C.Z fs cd H2 B → Q (.ref (C.cl x)) cd H2)
def TryOk (C : Cn) (x : Str) (sub : Str → Option Bool) : Prop := C.mg x = some (.ref (C.cl x)) ∧ ∀ c b, sub c = some b → PySem.W.exmOne C.K (.ref (C.cl c)) (.ref (C.cl x)) = some b

/-- a def's own context -/
structure DefX (X : Cx) : Prop where
  kind : X.env.scope.kind = .function
  fn : X.fn = fun _ => true
  stk : X.stack = X.env :: X.outer
  frm : X.env.frame = some X.env.locals
  ex : X.ex = []

/-- any other statement, parted by m -/
def GenS (C : Cn) (m : List Str → Scope → Stmt → Option (List Expr)) (ψ : Nv → RL → T RS) : Prop := ∀ (X : Cx) (W : WX), C.At X → DefX X → X.N.Nodup → Takes X W → PassesOwn (model X.prog X.w) X.A X.env X.xe → ∀ (st : Stmt) (xs : List Expr) (es : List E), m X.N X.env.scope st = some xs → xs.all notStar = true → PA X xs (tA C.Z W es) → PS X st (fun D σ H => ∃ n B O H0, RelS C.Z n σ H B O H0 ∧ PostS C.Z W (ex (.gens m ψ es) n) O H0 D)
mutual
def LkS (C : Cn) : S → Prop
  | .set _ e => LkE C e
  | .tgt _ e => LkE C e
  | .par _ _ a b => LkE C a ∧ LkE C b
  | .mut _ m φ es => MutOk C m φ ∧ LkEs C es
  | .seti _ f k e => SetOk C f ∧ LkE C k ∧ LkE C e
  | .gens m ψ es => GenS C m ψ ∧ LkEs C es
  | .setp _ k e => LkE C k ∧ LkE C e
  | .expr e => LkE C e
  | .ifs c a b => LkE C c ∧ LkSs C a ∧ LkSs C b
  | .whl _ c body => LkE C c ∧ LkSs C body
  | .for_ _ k φ es body => ItOk C φ k ∧ LkEs C es ∧ LkSs C body
  | .ret e => LkE C e
  | .retN => True
  | .raise x es f => RaiseOk C x f ∧ LkEs C es
  | .pass => True
  | .brk => True
  | .cont => True
  | .tryx body x sub _ _ => TryOk C x sub ∧ LkSs C body
  | .frz _ => True
  | .mv _ _ => True
  | .mut2 _ k m φ es => MutOk C m φ ∧ LkE C k ∧ LkEs C es
  | .seti2 _ k f j e => SetOk C f ∧ LkE C k ∧ LkE C j ∧ LkE C e
  | .set2 _ _ k φ es elt _ => ItOk C φ k ∧ LkEs C es ∧ LkE C elt
def LkSs (C : Cn) : List S → Prop
  | [] => True
  | s :: ss => LkS C s ∧ LkSs C ss
end

theorem pi_ok {C : Cn} {X : Cx} {W : WX} {k : IK} {φ : List D → Option (List D)} {es : List E} {tg iter : Expr} (A : C.At X) (hN : X.N.Nodup) (tk : Takes X W) (lk1 : ItOk C φ k) (lk2 : LkEs C es) (h7 : okI X.N X.env.scope k es tg iter = true) : PI X tg iter (tI C.Z W φ es) := by
  cases k with
  | ex =>
    have h7 : okEs X.N X.env.scope es [iter] = true := h7
    cases es with
    | nil => unfold okEs at h7; cases h7
    | cons e0 r =>
      cases r with
      | nil =>
        unfold okEs at h7
        rw [Bool.and_eq_true] at h7
        unfold LkEs at lk2
        exact pi_ex A lk1 (sE C e0 X W iter A hN tk lk2.1 h7.1)
      | cons e1 r =>
        unfold okEs at h7
        rw [Bool.and_eq_true] at h7
        have z := h7.2
        unfold okEs at z
        cases z
  | cl y nn =>
    unfold okI at h7
    dsimp only at h7
    split at h7
    · rename_i z p xs pos'
      simp only [Bool.and_eq_true, decide_eq_true_eq, Bool.or_eq_true] at h7
      obtain ⟨⟨⟨⟨⟨g1, g2⟩, g3⟩, g4⟩, g5⟩, g6⟩ := h7
      subst g1
      exact pi_cl A lk1 (gl_of g2) g5 g4.2 (oks_star g6) (sEs C es X W xs A hN tk lk2 g6)
    · cases h7
  | mt m =>
    unfold okI at h7
    dsimp only at h7
    split at h7
    · rename_i eo y ap cp
      simp only [Bool.and_eq_true, decide_eq_true_eq] at h7
      obtain ⟨⟨⟨⟨g1, g2⟩, g3⟩, g4⟩, g5⟩ := h7
      subst g1
      cases es with
      | nil => unfold okEs at g5; cases g5
      | cons e0 r =>
        cases r with
        | nil =>
          unfold okEs at g5
          rw [Bool.and_eq_true] at g5
          unfold LkEs at lk2
          exact pi_mt A lk1 g2 g4 g3 (sE C e0 X W eo A hN tk lk2.1 g5.1)
        | cons e1 r =>
          unfold okEs at g5
          rw [Bool.and_eq_true] at g5
          have z := g5.2
          unfold okEs at z
          cases z
    · cases h7

/-- name = [..], the name's own line: the store is exchanged with the comprehension's end -/
theorem set_lc {C : Cn} {X : Cx} {W : WX} {t : Tg} {k : IK} {φ : List D → Option (List D)} {es : List E} {ifs elt : E} {own : List (Str × Nat)} {i : Nat} {y : Str} {py spos : Pos} {x : Expr} (A : C.At X) (hN : X.N.Nodup) (tk : Takes X W)
    (lk : LkE C (.lc t k φ es ifs elt own)) (h : okE X.N X.env.scope (.lc t k φ es ifs elt own) x = true) (hy : X.N[i]? = some y) (hyl : X.env.scope.names.lookup y = some .local)
    (hsw : swapsWith x (some (.Name y py)) spos.line X.env = pure true) : PS X (.Assign [.Name y py] x spos) (tAsg (tE C.Z W (.lc t k φ es ifs elt own)) (gName i)) := by
  unfold LkE at lk
  obtain ⟨lk1, lk2, lk3, lk4⟩ := lk
  unfold okE at h
  split at h
  · rename_i ee tg iter is scope pos
    simp only [Bool.and_eq_true] at h
    obtain ⟨⟨⟨⟨⟨⟨h1, h2⟩, h3⟩, h4⟩, h5⟩, h6⟩, h7⟩ := h
    have Ab : ∀ (s : Shared) (H : Hp) (C' : Addr) (cl : List (Str × Addr)) (fp : List Addr), C.At (X.blk s H scope (compEnvC scope cl C' X.env) fp) := fun _ _ _ _ _ => ⟨A.p, A.w, A.k, A.g, A.b, A.calm, A.room, A.gd⟩
    have hi : PI X tg iter (tI C.Z W φ es) := pi_ok A hN tk lk1 lk2 h7
    have base := ps_setLc (i := i) (y := y) (py := py) (spos := spos) (own := own) A.calm hN hy hyl hsw hi (blkOk_by h2) (g := gT C.K t) (tt := tT C.Z WX0 ifs) (te := tE C.Z WX0 elt) (fun s H C' cl fp => by
        have z := pg_ok (X := X.blk s H scope (compEnvC scope cl C' X.env) fp) A.calm hN t tg h3
        have ek : (X.blk s H scope (compEnvC scope cl C' X.env) fp).K = C.K := A.k
        rw [ek] at z
        exact z) (fun s H C' cl fp => by
        try dsimp only at h5
        split at h5
        · have e0 : ifs = .c (.bl true) := by
            cases ifs with
            | c d => cases d with
              | bl b => cases b with
                | true => rfl
                | false => cases h5
              | _ => cases h5
            | _ => cases h5
          subst e0
          refine ⟨fun pins s σ H Q I hq => pts_nil.run pins s σ H Q I ?_⟩
          obtain ⟨n, B, rel, post⟩ := hq
          unfold evT at post
          exact post H (Ex.refl _)
        · rename_i ei
          rw [Bool.and_eq_true] at h5
          exact pts_one (sT C ifs _ WX0 ei (Ab s H C' cl fp) hN takes0 lk3 h5.2).1
        · cases h5) (fun s H C' cl fp => sE C elt _ WX0 ee (Ab s H C' cl fp) hN takes0 lk4 h6) (set_of h1)
    refine ⟨fun pins s σ H D I hq => base.run pins s σ H D I ?_⟩
    exact lc_read (Z := C.Z) (fun i hi => by
      have z := List.all_eq_true.mp h4 i hi
      exact of_decide_eq_true z) hq
  · cases h
theorem sw_of {N : List Str} {sc : Scope} {e : E} {x : Expr} {env : Env} {y : Str} {py : Pos} {l : Nat} (hk : env.scope.kind = .function) (h : okE N sc e x = true) : swapsWith x (some (.Name y py)) l env = pure (swB env.scope y py x) := by
  cases x with
  | ListComp elt gs scope pos =>
    have hb : env.blockKind = .function := by unfold Env.blockKind; rw [hk]; rfl
    have e2 : env.kindOf y = env.scope.names.lookup y := rfl
    unfold swapsWith swB
    simp only [hb, e2, Expr.pos]
    congr 1
    by_cases c : env.scope.names.lookup y = some .local
    · rw [c]; simp
    · have : (env.scope.names.lookup y == some NameKind.local) = false := by simpa using c
      rw [this, decide_eq_false c]; rfl
  | SetComp _ _ _ _ => cases e <;> first | (unfold okE at h; exact absurd h Bool.false_ne_true) | (unfold okE at h; cases h; done) | (unfold okE at h; split at h <;> first | (rename_i q; cases q; done) | (cases h; done))
  | DictComp _ _ _ _ _ => cases e <;> first | (unfold okE at h; exact absurd h Bool.false_ne_true) | (unfold okE at h; cases h; done) | (unfold okE at h; split at h <;> first | (rename_i q; cases q; done) | (cases h; done))
  | _ => rfl
theorem sw_none {x : Expr} {tg : Option Expr} {l : Nat} {env : Env} (h : notComp x = true) : swapsWith x tg l env = pure false := by
  cases x <;> first | rfl | (exact absurd h Bool.false_ne_true)
theorem sw_tup {x tg : Expr} {l : Nat} {env : Env} (h : isTup tg = true) : swapsWith x (some tg) l env = pure false := by
  cases tg <;> first | (exact absurd h Bool.false_ne_true) | (cases x <;> rfl)
theorem lc_of_sw {sc sc' : Scope} {N : List Str} {y : Str} {py : Pos} {e : E} {x : Expr} (h : swB sc y py x = true) (ho : okE N sc' e x = true) : ∃ t k φ es ifs elt own, e = .lc t k φ es ifs elt own := by
  cases x with
  | ListComp _ _ _ _ => cases e with
    | lc t k φ es ifs elt own => exact ⟨t, k, φ, es, ifs, elt, own, rfl⟩
    | gen _ _ _ => unfold okE at ho; exact absurd ho Bool.false_ne_true
    | _ => first | (unfold okE at ho; cases ho; done) | (unfold okE at ho; split at ho <;> first | (rename_i q; cases q; done) | (cases ho; done))
  | _ => cases h
theorem par_stores {x y : Str} {px py kt pt k2 pt2} {a b : Expr} {env : Env} (hk : env.scope.kind = .function) (hx : env.scope.names.lookup x = some .local) (hy : env.scope.names.lookup y = some .local) (hxy : x ≠ y) (hl : (px.line == py.line) = true)
    (sa : notStar a = true) (sb : notStar b = true) (hf : (foldedForSure 8 a && foldedForSure 8 b) = false) (hc : (constantsAlone 8 a && constantsAlone 8 b) = false) :
    swappedStores [.Tuple [.Name x px, .Name y py] kt pt] (.Tuple [a, b] k2 pt2) env = pure (some [x, y]) := by
  have hb : env.blockKind = .function := by unfold Env.blockKind; rw [hk]; rfl
  have kx : env.kindOf x = some .local := hx
  have ky : env.kindOf y = some .local := hy
  have hl' : py.line = px.line := (beq_iff_eq.mp hl).symm
  have st : ∀ e, notStar e = true → (match e with | .Starred .. => true | _ => false) = false := fun e he => by cases e <;> first | rfl | (exact absurd he Bool.false_ne_true)
  have hyx : (y == x) = false := by simpa using Ne.symm hxy
  unfold swappedStores
  simp only [hb, List.any_cons, List.any_nil, st a sa, st b sb, List.all_cons, List.all_nil, Bool.and_true, hf, hc]
  simp [kx, ky, hl', Expr.pos, List.eraseDups_cons, hyx]
  intro h
  rcases h with h | h
  · cases a <;> first | (cases h; done) | (exact absurd sa Bool.false_ne_true)
  · cases b <;> first | (cases h; done) | (exact absurd sb Bool.false_ne_true)
end PM

set_option Elab.async false
set_option linter.all false
set_option maxRecDepth 100000
set_option maxHeartbeats 8000000
/-! PM11: soundness of statements; a def keeps what its small text computes. -/
namespace PM
open PySem PySem.Spec L2
open PyProof.Rows hiding St

def tS (Z : Wd) (W : WX) (s : S) : TS := fun D σ H => ∃ n B O H0, RelS Z n σ H B O H0 ∧ PostS Z W (ex s n) O H0 D
def tSs (Z : Wd) (W : WX) (ss : List S) : TS := fun D σ H => ∃ n B O H0, RelS Z n σ H B O H0 ∧ PostS Z W (exs ss n) O H0 D
theorem ps_weak {X : Cx} {s : Stmt} {t t' : TS} (h : PS X s t) (w : ∀ D σ H, t' D σ H → t D σ H) : PS X s t' := ⟨fun pins s σ H D I q => h.run pins s σ H D I (w D σ H q)⟩
theorem pss_weak {X : Cx} {s : List Stmt} {t t' : TS} (h : PSs X s t) (w : ∀ D σ H, t' D σ H → t D σ H) : PSs X s t' := ⟨fun pins s σ H D I q => h.run pins s σ H D I (w D σ H q)⟩
section
variable {Z : Wd} {W : WX} {n : Nv} {σ : L2.St} {H H' H0 : Hp} {B O : Addr → Prop} {D : Ends} {Q : VK} {r : T R}
theorem PostS1.mono {r : RS} {D' : Ends} (h : PostS1 Z W O H0 D r) (k1 : ∀ σ H, D.nx σ H → D'.nx σ H) (k2 : ∀ σ H, D.bk σ H → D'.bk σ H) (k3 : ∀ σ H, D.ct σ H → D'.ct σ H) (k4 : ∀ v H, D.rt v H → D'.rt v H) : PostS1 Z W O H0 D' r := by
  cases r with
  | next n => exact fun σ H B q => k1 _ _ (h σ H B q)
  | brk n => exact fun σ H B q => k2 _ _ (h σ H B q)
  | cont n => exact fun σ H B q => k3 _ _ (h σ H B q)
  | ret r => cases r with
    | ok d => exact fun v H e q => k4 _ _ (h v H e q)
    | fresh d => exact fun p H hp e q => k4 _ _ (h p H hp e q)
    | _ => exact False.elim h
  | exn n c f => exact h
  | bad => exact h
theorem PostS.mono {r : T RS} {D' : Ends} (h : PostS Z W r O H0 D) (k1 : ∀ σ H, D.nx σ H → D'.nx σ H) (k2 : ∀ σ H, D.bk σ H → D'.bk σ H) (k3 : ∀ σ H, D.ct σ H → D'.ct σ H) (k4 : ∀ v H, D.rt v H → D'.rt v H) : PostS Z W r O H0 D' := T.mono (fun _ h => PostS1.mono h k1 k2 k3 k4) h
theorem PostS.bind {α : Type} {t : T α} {f : α → T RS} {P : α → Prop} (h : PostS Z W (t.bind f) O H0 D) (k : ∀ a, PostS Z W (f a) O H0 D → P a) : t.all P := T.mono k (T.all_bind.mp h)
/-- an exception of an expression -/
theorem postX_of {c : Str} {f : List PM.D} (r : RelS Z n σ H B O H0) (h : PostS Z W (.pure (.exn n c f)) O H0 D) : PostX Z (fun c d H' => W c d σ H') c f H B := fun H' cd e q => h σ H' B cd (r.heap e) q
/-- a value that is kept -/
theorem post_val {k : PM.D → T RS} (r' : RelS Z n σ H B O H0) (h : PostS Z W (r.val n k) O H0 D) (K : ∀ v H' d, Ex H H' → Den Z H' B d v → RelS Z n σ H' B O H0 → PostS Z W (k d) O H0 D → Q v H') : PostE Z (fun c d H' => W c d σ H') r σ H B Q := by
  refine PostS.bind h fun r h => ?_
  cases r with
  | ok d => exact fun v H2 e2 q => K v H2 d e2 q (r'.heap e2) h
  | fresh d =>
    intro p H2 hp e2 q
    refine K _ H2 d e2 (q.den (fun z => ?_) fun a z => .inl z) (r'.heap e2) h
    obtain ⟨o, z, _⟩ := r'.rel.bt p z
    rw [hp] at z; cases z
  | own i => exact False.elim h
  | exn c f => exact postX_of r' h
  | bad => exact False.elim h
theorem post_vals {l : T RL} {k : List PM.D → T RS} {QL : List V → Hp → Prop} (r' : RelS Z n σ H B O H0) (h : PostS Z W (T.vals n l k) O H0 D) (K : ∀ vs H' ds, Ex H H' → DenL Z H' B ds vs → RelS Z n σ H' B O H0 → PostS Z W (k ds) O H0 D → QL vs H') : PostL Z (fun c d H' => W c d σ H') l H B QL := by
  refine PostS.bind h fun l h => ?_
  cases l with
  | ok ds o => cases o with
    | false => exact fun vs H2 e2 q => K vs H2 ds e2 q (r'.heap e2) h
    | true => exact False.elim h
  | exn c f => exact postX_of r' h
  | bad => exact False.elim h
theorem post_test {t : T RT} {k : Bool → T RS} {QT : Bool → Hp → Prop} (r' : RelS Z n σ H B O H0) (h : PostS Z W (T.s n t k) O H0 D) (K : ∀ b H', Ex H H' → RelS Z n σ H' B O H0 → PostS Z W (k b) O H0 D → QT b H') : PostT Z (fun c d H' => W c d σ H') t H B QT := by
  refine PostS.bind h fun t h => ?_
  cases t with
  | ok b => exact fun H2 e2 => K b H2 e2 (r'.heap e2) h
  | exn c f => exact postX_of r' h
  | bad => exact False.elim h
theorem post_store {i : Nat} (r' : RelS Z n σ H B O H0) (h : PostS Z W (r.store n i) O H0 D) : PostE Z (fun c d H' => W c d σ H') r σ H B (fun x H1 => D.nx (σ.set i (some x)) H1) := by
  refine PostS.bind h fun r h => ?_
  cases r with
  | ok d => exact fun v H2 e2 q => h _ H2 B ((r'.heap e2).chg (chg_set r'.rel.len q))
  | fresh d => exact fun p H2 hp e2 q => h _ H2 _ (r'.fresh hp e2 q)
  | own i => exact False.elim h
  | exn c f => exact postX_of r' h
  | bad => exact False.elim h
theorem post_ret (r' : RelS Z n σ H B O H0) (h : PostS Z W (r.ret n) O H0 D) : PostE Z (fun c d H' => W c d σ H') r σ H B D.rt := by
  refine PostS.bind h fun r h => ?_
  cases r with
  | ok d => exact fun v H2 e2 q => h v H2 (r'.ex.trans e2) (q.less r'.ob)
  | fresh d => exact fun p H2 hp e2 q => h p H2 (r'.ex.free hp) (r'.ex.trans e2) (q.less fun a z => z.imp (r'.ob a) id)
  | own i =>
    intro p H2 e2 q
    unfold R.ret at h
    cases e : n.ownOf i with
    | none => simp only [e] at h; exact False.elim h
    | some d =>
      simp only [e] at h
      obtain ⟨p', hp, hb, ho⟩ := (r'.rel.ex e2).at_ e
      cases hp.uniq q
      obtain ⟨i0, hh⟩ := Hs.at_ (r'.rel.ex e2) e hp
      exact h _ H2 ((r'.heap e2).fr i0 _ hh) (r'.ex.trans e2) (ho.less fun a z => z.elim (r'.ob a) fun z => by subst z; exact hb)
  | exn c f => exact postX_of r' h
  | bad => exact False.elim h
theorem ownOf_some {i : Nat} {d : PM.D} (h : n.ownOf (.slot i) = some d) : n[i]? = some (.own d) := own_eq.mp h
/-- a place in a list of lists that change -/
theorem post_loc {k : Plc → T RS} (r' : RelS Z n σ H B O H0) (h : PostS Z W (r.loc n k) O H0 D) (K : ∀ p H' L, Ex H H' → At σ H' L p → RelS Z n σ H' B O H0 → PostS Z W (k L) O H0 D → Q (.ref p) H') : PostE Z (fun c d H' => W c d σ H') r σ H B Q := by
  refine PostS.bind h fun r h => ?_
  cases r with
  | own L => exact fun p H2 e2 q => K p H2 L e2 q (r'.heap e2) h
  | exn c f => exact postX_of r' h
  | _ => exact False.elim h
/-- many turns of a for: the base heap H0 of the turns keeps what is walked -/
theorem for_post {b : PM.D → Nv → T RS} : ∀ {ds : List PM.D} {n : Nv}, PostS Z W (forL b ds n) O H0 D → ∀ {d : PM.D} {r : List PM.D}, ds = d :: r → PostS Z W (b d n) O H0 ⟨fun σ H => ∃ n' B', RelS Z n' σ H B' O H0 ∧ PostS Z W (forL b r n') O H0 D, D.rt, D.nx, fun σ H => ∃ n' B', RelS Z n' σ H B' O H0 ∧ PostS Z W (forL b r n') O H0 D⟩ := by
  intro ds n h d r e
  subst e
  rw [forL_cons] at h
  refine PostS.bind h fun rr h => ?_
  cases rr with
  | next n' => exact fun σ H B q => ⟨n', B, q, h⟩
  | cont n' => exact fun σ H B q => ⟨n', B, q, h⟩
  | brk n' => exact fun σ H B q => h σ H B q
  | ret r =>
    cases r with
    | ok d => exact h
    | fresh d => exact h
    | _ => exact False.elim h
  | exn n c f => exact h
  | bad => exact False.elim h
def lessH (p : Addr → Bool) (H : Hp) : Hp := fun a => if p a = true then none else H a
/-- the base of a loop: what is there but the owned -/
theorem rebase (r : RelS Z n σ H B O H0) : ∃ H1, RelS Z n σ H B O H1 ∧ Ex H0 H1 ∧ (∀ a o, H a = some o → ¬ B a → H1 a = some o) ∧ (∀ a o, H a = some o → isMut o = false → H1 a = some o) ∧ (∀ a, H1 a = none → B a ∨ H a = none) := by
  -- forget the owned
  have cl : ∃ p : Addr → Bool, ∀ a, p a = true ↔ (B a ∧ ¬ O a) := by
    refine ⟨fun a => (Classical.propDecidable (B a ∧ ¬ O a)).decide, fun a => ?_⟩
    exact @decide_eq_true_iff _ (Classical.propDecidable _)
  obtain ⟨p, hp⟩ := cl
  have pB : ∀ a, p a = true → B a ∧ (∃ o, H a = some o ∧ isMut o = true) ∧ H0 a = none := fun a ha => by
    obtain ⟨h1, h2⟩ := (hp a).mp ha
    exact ⟨h1, r.rel.bt a h1, (r.bs a h1).resolve_left h2⟩
  have ys : ∀ a, p a = true → lessH p H a = none := fun a c => if_pos c
  have no : ∀ a, ¬ p a = true → lessH p H a = H a := fun a c => if_neg c
  refine ⟨lessH p H, ⟨r.rel, r.ob, fun i q hs => ?_, r.inj, fun a o h => ?_, fun a h => ?_, fun a h => ?_⟩, fun a o h => ?_, fun a o h nb => ?_, fun a o h nm => ?_, fun a h => ?_⟩
  · refine ys q ((hp q).mpr ⟨hs.B r.rel, fun z => ?_⟩)
    obtain ⟨o, z⟩ := r.ot q z
    rw [r.fr i q hs] at z; cases z
  · by_cases c : p a = true
    · rw [ys a c] at h; cases h
    · rw [no a c] at h; exact h
  · obtain ⟨o, z⟩ := r.ot a h
    refine ⟨o, ?_⟩
    rw [no a fun c => ((hp a).mp c).2 h]; exact r.ex a o z
  · by_cases c : O a
    · exact .inl c
    · exact .inr (ys a ((hp a).mpr ⟨h, c⟩))
  · have c : ¬ p a = true := fun c => by
      have := (pB a c).2.2
      rw [h] at this; cases this
    rw [no a c]; exact r.ex a o h
  · rw [no a fun c => nb (pB a c).1]; exact h
  · have c : ¬ p a = true := fun c => by
      obtain ⟨o', z1, z2⟩ := (pB a c).2.1
      rw [h] at z1; cases z1
      rw [nm] at z2; cases z2
    rw [no a c]; exact h
  · by_cases c : p a = true
    · exact .inl (pB a c).1
    · rw [no a c] at h; exact .inr h
theorem RelS.base {H1 : Hp} (r : RelS Z n σ H B O H1) (e : Ex H0 H1) (ot : ∀ a, O a → ∃ o, H0 a = some o) : RelS Z n σ H B O H0 :=
  ⟨r.rel, r.ob, fun i a h => e.free (r.fr i a h), r.inj, e.trans r.ex, ot, fun a z => (r.bs a z).imp id fun z => e.free z⟩
theorem PostS1.base {r : RS} {H1 : Hp} (e : Ex H0 H1) (ot : ∀ a, O a → ∃ o, H0 a = some o) (h : PostS1 Z W O H0 D r) : PostS1 Z W O H1 D r := by
  cases r with
  | next n => exact fun σ H B q => h σ H B (q.base e ot)
  | brk n => exact fun σ H B q => h σ H B (q.base e ot)
  | cont n => exact fun σ H B q => h σ H B (q.base e ot)
  | ret r => cases r with
    | ok d => exact fun v H e' q => h v H (e.trans e') q
    | fresh d => exact fun p H hp e' q => h p H (e.free hp) (e.trans e') q
    | _ => exact False.elim h
  | exn n c f => exact fun σ H B cd q => h σ H B cd (q.base e ot)
  | bad => exact False.elim h
theorem PostS.base {r : T RS} {H1 : Hp} (e : Ex H0 H1) (ot : ∀ a, O a → ∃ o, H0 a = some o) (h : PostS Z W r O H0 D) : PostS Z W r O H1 D := T.mono (fun _ h => PostS1.base e ot h) h
end
/-- a row of lists made by a comprehension -/
theorem lc2_read {Z : Wd} {W : WX} {i : Nat} {t : Tg} {φ : List D → Option (List D)} {es : List E} {k : IK} {elt : E} {own : List (Str × Nat)} (hsl : ∀ i ∈ slotsT t, i ∈ own.map (·.2)) {σ : L2.St} {H : Hp} {D : Ends}
    (h : tS Z W (.set2 i t k φ es elt own) D σ H) : tLc (tI Z W φ es) (gT Z.K t) tYes (tE Z WX0 elt) (own.map (·.2)) σ H (fun x H1 => D.nx (σ.set i (some x)) H1) := by
  obtain ⟨n, B, O, H0, r, post⟩ := h
  refine ⟨n, B, r.rel, ?_⟩
  unfold ex at post
  generalize hf : turnO t (wipeN n (own.map (·.2))) (fun n' => ev elt n') = f at post
  refine PostS.bind post fun l post => ?_
  cases l with
  | bad => exact False.elim post
  | exn c f' => exact postX_of r post
  | ok ds o =>
    unfold RL.lc2 at post
    dsimp only at post
    cases ei : φ ds with
    | none => rw [ei] at post; exact False.elim post
    | some items =>
      rw [ei] at post
      dsimp only at post
      by_cases c : (!(o && !flatL items) && decide (items.length ≤ lineMax)) = true
      · rw [if_pos c] at post
        rw [Bool.and_eq_true, decide_eq_true_eq] at c
        obtain ⟨c1, c2⟩ := c
        refine ⟨items, ei, fun J H1 e1 wk Dn hD => ?_⟩
        have r1 := r.heap e1
        have relw : RelB Z (wipeN n (own.map (·.2))) (wipe σ (own.map (·.2))) H1 B := (rel_wipe _ r.rel).ex e1
        have hBD : ¬ B Dn := fun z => by
          obtain ⟨o', z, _⟩ := relw.bt Dn z
          rw [hD] at z; cases z
        obtain ⟨G, Y, w, hG, hY⟩ := wk (fun a => (o = false ∧ B a) ∨ H1 a = none) (fun a z => by
          rcases z with ⟨z, y⟩ | z
          · rw [if_neg (by rw [z]; exact Bool.false_ne_true)]; exact .inl y
          · exact .inr z)
        have post := T.all_bind.mp post
        -- the state between two turns: qs the new lists
        refine lc_it w (fun j H' => ∃ (qs : List Addr) (da : List PM.D), H' Dn = some (.lst (qs.map V.ref)) ∧ Ex H1 H' ∧ (∀ a ∈ Dn :: qs, H1 a = none) ∧ (Dn :: qs).Nodup ∧ OwnL Z H' (fun a => B a ∨ a ∈ Dn :: qs) qs da ∧ qs.length ≤ j ∧ (lcL f (items.drop j)).all fun o => PostS1 Z W O H0 D (RS.of2 n i (o.map (da ++ ·))))
          ⟨[], [], upd_same, Ex.new hD, by simpa using hD, by simp, trivial, Nat.le_refl _, by
            refine T.mono (fun o ho => ?_) post
            cases o with
            | none => exact ho
            | some r => exact ho⟩ (fun j H' _ p => ?_) (fun j x H' H2 hj p y => ?_) (fun H' p => ?_)
        · obtain ⟨qs, da, q1, q2, _⟩ := p
          exact hG H' q2.kp
        · obtain ⟨qs, da, q1, q2, q3, q4, q5, q6, q7⟩ := p
          obtain ⟨e2, d, ed, hd⟩ := hY j x H' H2 q2.kp hj y
          have e12 := q2.trans e2
          have grow : ∀ a, (fun a => B a ∨ a ∈ Dn :: qs) a → B a ∨ H1 a = none := fun a z => z.imp id (q3 a)
          -- the item denotes with all that changes
          have hd2 : Den Z H2 (fun a => B a ∨ a ∈ Dn :: qs) d x := by
            cases o with
            | false => exact hd.less fun a z => (grow a z).imp (fun z => ⟨rfl, z⟩) id
            | true =>
              have fl : flat d = true := flatL_get (ds := items) (by simpa using c1) ed
              exact Den.flat d x fl hd
          have rel2 : RelB Z (wipeN n (own.map (·.2))) (wipe σ (own.map (·.2))) H2 (fun a => B a ∨ a ∈ Dn :: qs) := by
            refine ⟨fun j d' ej => ?_, fun j d' ej => ?_, fun a z => ?_, relw.len, fun j d' ej => ?_⟩
            · obtain ⟨v, z1, z2⟩ := relw.val j d' ej
              exact ⟨v, z1, (Den.grow grow d' v z2).ex e12⟩
            · obtain ⟨p, z1, z2, z3⟩ := relw.own j d' ej
              exact ⟨p, z1, .inl z2, (OwnAt.grow grow z3).ex e12⟩
            · rcases z with z | z
              · obtain ⟨o', z', m⟩ := relw.bt a z
                exact ⟨o', e12 a o' z', m⟩
              · rcases List.mem_cons.mp z with z | z
                · rw [z]; exact ⟨_, e2 _ _ q1, rfl⟩
                · obtain ⟨_, d0, o0⟩ := (q5.ex e2).all a z
                  exact o0.some
            · obtain ⟨p, ps, z1, z2, z3, z4, z5⟩ := relw.own2 j d' ej
              exact ⟨p, ps, z1, .inl z2, e12 p _ z3, z4, z5.imp fun q d _ b o => ⟨.inl b, (OwnAt.grow grow o).ex e12⟩⟩
          have hsp : items.drop j = d :: items.drop (j + 1) := by
            obtain ⟨h1, h2⟩ := List.getElem?_eq_some_iff.mp ed
            rw [List.drop_eq_getElem_cons h1, h2]
          rw [hsp] at q7
          rw [lcL_cons] at q7
          have q7 := T.all_bind.mp q7
          have ef : f d = turnO t (wipeN n (own.map (·.2))) (fun n' => ev elt n') d := by rw [hf]
          unfold turnO at ef
          cases eb : bindT t d (wipeN n (own.map (·.2))) with
          | none =>
            rw [eb] at ef
            rw [ef] at q7
            exact False.elim q7
          | some n' =>
            rw [eb] at ef
            dsimp only at ef
            rw [ef] at q7
            refine gT_ok t d _ n' _ x _ eb hd2 relw.len fun σ' cg => ?_
            have reln := cg.rel rel2
            refine ⟨wipe_back (by rw [cg.ls, wipe_length]) (fun j hj => (cg.out j fun z => hj (hsl j z)).1), ?_⟩
            show tE Z WX0 elt σ' H2 _
            refine ⟨n', _, reln, ?_⟩
            refine T.mono (fun re q7 => ?_) (T.all_bind.mp q7)
            cases re with
            | fresh dy =>
              intro p H4 hp e4 hy
              have q7 := T.all_bind.mp q7
              have hD4 : H4 Dn = some (.lst (qs.map V.ref)) := e4 _ _ (e2 _ _ q1)
              have hp1 : H1 p = none := (e12).free hp
              have npq : p ∉ Dn :: qs := fun z => by
                obtain ⟨o', z', _⟩ := reln.bt p (.inr z)
                rw [hp] at z'; cases z'
              have npD : p ≠ Dn := fun z => npq (by rw [z]; exact List.mem_cons_self)
              rw [List.nodup_cons] at q4
              -- the list's own change
              have kp : Kp (fun a => B a ∨ a ∈ Dn :: (qs ++ [p])) H4 (upd H4 Dn (.lst ((qs ++ [p]).map V.ref))) := fun a u ha hm => by
                have ne : a ≠ Dn := fun z => by
                  subst z
                  rcases hm with hm | hm
                  · exact hm (.inr List.mem_cons_self)
                  · rw [hD4] at ha; cases ha; cases hm
                rw [upd_ne ne]; exact ha
              have lift : ∀ (r0 : Addr) (d0 : PM.D) (B1 : Addr → Prop), r0 ≠ Dn → (∀ a, B1 a → B a ∨ a ∈ Dn :: (qs ++ [p])) → (∀ a, (B a ∨ a ∈ Dn :: (qs ++ [p])) → B1 a ∨ H4 a = none) → OwnAt Z H4 B1 r0 d0 → OwnAt Z (upd H4 Dn (.lst ((qs ++ [p]).map V.ref))) (fun a => B a ∨ a ∈ Dn :: (qs ++ [p])) r0 d0 := fun r0 d0 B1 ne h1 h2 o0 => (OwnAt.grow h2 o0).kp kp (upd_ne ne) fun _ z => z
              refine ⟨qs.map V.ref, hD4, ?_, qs ++ [p], da ++ [dy], ?_, ?_, ?_, ?_, ?_, ?_, ?_⟩
              · rw [← lineMax_eq, List.length_map]; omega
              · rw [List.map_append]; exact upd_same
              · intro a u ha
                have ne : a ≠ Dn := ne_of_none ha hD
                rw [upd_ne ne]
                exact e4 _ _ (e12 _ _ ha)
              · intro a ha
                rcases List.mem_cons.mp ha with z | z
                · rw [z]; exact hD
                · rcases List.mem_append.mp z with z | z
                  · exact q3 a (List.mem_cons_of_mem _ z)
                  · rw [List.mem_singleton.mp z]; exact hp1
              · rw [List.nodup_cons]
                refine ⟨fun z => ?_, List.nodup_append.mpr ⟨q4.2, by simp, fun a ha b hb z => ?_⟩⟩
                · rcases List.mem_append.mp z with z | z
                  · exact q4.1 z
                  · exact npD (List.mem_singleton.mp z).symm
                · rw [List.mem_singleton.mp hb] at z
                  subst z
                  exact npq (List.mem_cons_of_mem _ ha)
              · rw [show (.lst (qs.map V.ref ++ [V.ref p]) : HO) = .lst ((qs ++ [p]).map V.ref) by rw [List.map_append]; rfl]
                refine OwnL.snoc ((q5.ex e2).imp fun r0 d0 hr b o0 => ⟨?_, ?_⟩) (.inr (List.mem_cons_of_mem _ (List.mem_append_right _ (List.mem_singleton.mpr rfl)))) ?_
                · rcases b with b | b
                  · exact .inl b
                  · exact .inr (List.mem_cons_of_mem _ (List.mem_append_left _ hr))
                · refine lift r0 d0 (fun a => B a ∨ a ∈ Dn :: (qs ++ [p])) (fun z => q4.1 (z ▸ hr)) (fun a z => z) (fun a z => .inl z) ((OwnAt.grow (fun a z => ?_) o0).ex e4)
                  rcases z with z | z
                  · exact .inl (.inl z)
                  · rcases List.mem_cons.mp z with z | z
                    · rw [z]; exact .inl (.inr List.mem_cons_self)
                    · rcases List.mem_append.mp z with z | z
                      · exact .inl (.inr (List.mem_cons_of_mem _ z))
                      · rw [List.mem_singleton.mp z]; exact .inr hp
                · refine lift p dy _ npD (fun a z => ?_) (fun a z => ?_) hy
                  · rcases z with z | z
                    · rcases z with z | z
                      · exact .inl z
                      · rcases List.mem_cons.mp z with z | z
                        · rw [z]; exact .inr List.mem_cons_self
                        · exact .inr (List.mem_cons_of_mem _ (List.mem_append_left _ z))
                    · rw [z]; exact .inr (List.mem_cons_of_mem _ (List.mem_append_right _ (List.mem_singleton.mpr rfl)))
                  · rcases z with z | z
                    · exact .inl (.inl (.inl z))
                    · rcases List.mem_cons.mp z with z | z
                      · rw [z]; exact .inl (.inl (.inr List.mem_cons_self))
                      · rcases List.mem_append.mp z with z | z
                        · exact .inl (.inl (.inr (List.mem_cons_of_mem _ z)))
                        · exact .inl (.inr (List.mem_singleton.mp z))
              · rw [List.length_append, List.length_singleton]; omega
              · refine T.mono (fun o ho => ?_) q7
                cases o with
                | none => exact ho
                | some rr =>
                  show PostS1 _ _ _ _ _ (RS.of2 n i (some ((da ++ [dy]) ++ rr)))
                  rw [List.append_assoc]
                  exact ho
            | _ => exact False.elim q7
        · obtain ⟨qs, da, q1, q2, q3, q4, q5, q6, q7⟩ := p
          have : items.drop items.length = [] := List.drop_length
          rw [this] at q7
          rw [lcL_nil] at q7
          have q7 : PostS1 Z W O H0 D (RS.of2 n i (some (da ++ []))) := q7
          rw [List.append_nil] at q7
          exact q7 _ _ _ (r1.fresh2 q3 q4 q2 q1 q5)
      · rw [if_neg c] at post
        exact False.elim post
/-- a for -/
theorem for_read {Z : Wd} {W : WX} {t : Tg} {k : IK} {φ : List D → Option (List D)} {es : List E} {body : List S} {D : Ends} {σ : L2.St} {H : Hp} (h : tS Z W (.for_ t k φ es body) D σ H) : tFor (tI Z W φ es) (gT Z.K t) (tSs Z W body) D σ H := by
  obtain ⟨n, B, O, H0, r, post⟩ := h
  unfold ex T.for_ at post
  refine ⟨n, B, r.rel, ?_⟩
  refine PostS.bind post fun l post => ?_
  cases l with
  | bad => exact False.elim post
  | exn c f => exact postX_of r post
  | ok ds o =>
    cases o with
    | true => exact False.elim post
    | false =>
      unfold RL.vals at post
      dsimp only at post
      cases ei : φ ds with
      | none => simp only [ei] at post; exact False.elim post
      | some items =>
        simp only [ei] at post
        refine ⟨items, ei, fun J H1 e1 wk => ?_⟩
        have r1 := r.heap e1
        obtain ⟨Hb, rb, eb0, kb, kt, kn⟩ := rebase r1
        have wk : WalkD Z J items H1 B := wk
        obtain ⟨G, Y, w, hG, hY⟩ := wk (fun a => B a ∨ H1 a = none) fun a z => z
        have post' := PostS.base eb0 r.ot post
        -- what the base has is what is walked
        have kp : ∀ H', Ex Hb H' → Kp (fun a => B a ∨ H1 a = none) H1 H' := fun H' e a o ha hm => by
          rcases hm with hm | hm
          · exact e a o (kb a o ha fun z => hm (.inl z))
          · exact e a o (kt a o ha hm)
        generalize hf : turnS t (fun n' => exs body n') = f at post'
        refine for_it w (fun i σ' H' => ∃ n' B', RelS Z n' σ' H' B' O Hb ∧ PostS Z W (forL f (items.drop i) n') O Hb D) ⟨n, B, rb, post'⟩ (fun i σ' H' _ p => ?_) (fun i x σ' H' H2 hi p y => ?_) (fun σ' H' p => ?_)
        · obtain ⟨n', B', q1, q2⟩ := p
          exact hG H' (kp H' q1.ex)
        · obtain ⟨n', B', q1, q2⟩ := p
          obtain ⟨e2, d, ed, hd⟩ := hY i x H' H2 (kp H' q1.ex) hi y
          have hsp : items.drop i = d :: items.drop (i + 1) := by
            obtain ⟨h1, h2⟩ := List.getElem?_eq_some_iff.mp ed
            rw [List.drop_eq_getElem_cons h1, h2]
          have st := for_post q2 hsp
          have q3 := q1.heap e2
          -- the item denotes with the owned of now: what B' has besides is new, or was B's
          have hd' : Den Z H2 B' d x := hd.less fun a z => (q1.bs a z).elim (fun z => .inl (r1.ob a z)) (kn a)
          have ef : f d n' = (match bindT t d n' with
              | some n2 => exs body n2
              | none => .pure .bad) := by rw [← hf]; rfl
          rw [ef] at st
          cases eb : bindT t d n' with
          | none => rw [eb] at st; exact False.elim st
          | some n2 =>
            rw [eb] at st
            refine gT_ok t d n' n2 σ' x _ eb hd' q3.rel.len fun σ2 cg => ?_
            refine ⟨n2, B', O, Hb, q3.chg cg, ?_⟩
            refine PostS.mono st (fun σ3 H3 z => ?_) (fun σ3 H3 z => z) (fun σ3 H3 z => ?_) (fun v H3 z => z)
            · obtain ⟨n3, B3, z1, z2⟩ := z
              exact ⟨n3, B3, z1, z2⟩
            · obtain ⟨n3, B3, z1, z2⟩ := z
              exact ⟨n3, B3, z1, z2⟩
        · obtain ⟨n', B', q1, q2⟩ := p
          have : items.drop items.length = [] := List.drop_length
          rw [this, forL_nil] at q2
          exact q2 σ' H' B' q1
end PM

set_option Elab.async false
set_option linter.all false
set_option maxRecDepth 100000
set_option maxHeartbeats 8000000
/-! PM12: soundness of statements; a def keeps what its small text computes. -/
namespace PM
open PySem PySem.Spec L2
open PyProof.Rows hiding St

section
variable {Z : Wd} {W : WX}
theorem while_read {fuel : Nv → Nat} {c : E} {body : List S} {D : Ends} {σ : L2.St} {H : Hp} (h : tS Z W (.whl fuel c body) D σ H) : tWhile (tT Z W c) (tSs Z W body) D σ H := by
  obtain ⟨n, B, O, H0, r, post⟩ := h
  unfold ex at post
  refine ⟨fun m σ' H' => ∃ n' B', RelS Z n' σ' H' B' O H0 ∧ PostS Z W (whileL (fun n' => evT c n') (fun n' => exs body n') m n') O H0 D, ⟨fuel n, n, B, r, post⟩, ?_⟩
  rintro m σ1 H1 ⟨n1, B1, r1, p1⟩
  cases m with
  | zero => rw [whileL_z] at p1; exact False.elim p1
  | succ m =>
    rw [whileL_s] at p1
    refine ⟨n1, B1, r1.rel, ?_⟩
    refine PostS.bind p1 fun tt p1 => ?_
    cases tt with
    | bad => exact False.elim p1
    | exn x f => exact postX_of r1 p1
    | ok b =>
      intro H2 e2
      have r2 := r1.heap e2
      cases b with
      | false =>
        exact iteF (p1 σ1 H2 B1 r2)
      | true =>
        refine iteT ⟨fun σ' H' => ∃ n' B', RelS Z n' σ' H' B' O H0 ∧ PostS Z W (whileL (fun n' => evT c n') (fun n' => exs body n') m n') O H0 D, fun σ' H' ⟨n', B', q1, q2⟩ => ⟨m, Nat.lt_succ_self m, n', B', q1, q2⟩, n1, B1, O, H0, r2, ?_⟩
        refine PostS.bind p1 fun rr p1 => ?_
        cases rr with
        | next n' => exact fun σ H B q => ⟨n', B, q, p1⟩
        | cont n' => exact fun σ H B q => ⟨n', B, q, p1⟩
        | brk n' => exact fun σ H B q => p1 σ H B q
        | ret r => cases r with
          | ok d => exact p1
          | fresh d => exact p1
          | _ => exact False.elim p1
        | exn n' x f => exact p1
        | bad => exact False.elim p1
theorem seq_read {s : S} {ss : List S} {D : Ends} {σ : L2.St} {H : Hp} (h : tSs Z W (s :: ss) D σ H) : tSeq (tS Z W s) (tSs Z W ss) D σ H := by
  obtain ⟨n, B, O, H0, r, post⟩ := h
  unfold exs at post
  refine ⟨n, B, O, H0, r, ?_⟩
  refine PostS.bind post fun rr post => ?_
  cases rr with
  | next n' => exact fun σ H B q => ⟨n', B, O, H0, q, post⟩
  | brk n' => exact post
  | cont n' => exact post
  | ret r => cases r <;> exact post
  | exn n' c f => exact post
  | bad => exact post
end

theorem at_ex {σ : L2.St} {H H' : Hp} {L : Plc} {p : Addr} (e : Ex H H') (h : At σ H L p) : At σ H' L p := by
  cases L with
  | slot i => exact h
  | part i k =>
    obtain ⟨a, qs, h1, h2, h3⟩ := h
    exact ⟨a, qs, h1, e _ _ h2, h3⟩
theorem tr_def {X : Cx} {pn : List (Addr × Obj)} {xe : Value → Shared → Prop} (h : DefX X) : DefX (X.tr pn xe) := ⟨h.kind, h.fn, h.stk, h.frm, h.ex⟩
theorem tr_at {C : Cn} {X : Cx} {pn : List (Addr × Obj)} {xe : Value → Shared → Prop} (h : C.At X) : C.At (X.tr pn xe) := ⟨h.p, h.w, h.k, h.g, h.b, h.calm, h.room, h.gd⟩

mutual
theorem sS (C : Cn) : ∀ (s : S) (X : Cx) (W : WX) (st : Stmt), C.At X → DefX X → X.N.Nodup → Takes X W → PassesOwn (model X.prog X.w) X.A X.env X.xe → LkS C s → okS X.N X.env.scope s st = true → PS X st (tS C.Z W s)
  | .set i e, X, W, st, A, dx, hN, tk, po, lk, h => by
    unfold LkS at lk
    unfold okS at h
    split at h
    · rename_i x px ex0 pos
      simp only [Bool.and_eq_true, decide_eq_true_eq] at h
      obtain ⟨⟨h1, h2⟩, h3⟩ := h
      unfold locC at h2
      simp only [Bool.or_eq_true, decide_eq_true_eq] at h2
      have fin : ∀ D σ H, tS C.Z W (.set i e) D σ H → tAsg (tE C.Z W e) (gName i) D σ H := fun D σ H ⟨n, B, O, H0, r, post⟩ => by
        unfold ex at post
        exact ⟨n, B, r.rel, post_store r post⟩
      cases sw : swB X.env.scope x px ex0 with
      | false => exact ps_weak (ps_set hN h1 h2 (sE C e X W ex0 A hN tk lk h3) (by rw [sw_of dx.kind h3, sw]) (.inl (by rw [dx.fn]))) fin
      | true =>
        obtain ⟨t, k, φ, es, ifs, elt, own, rfl⟩ := lc_of_sw sw h3
        have hl : X.env.scope.names.lookup x = some .local := by
          cases ex0 with
          | ListComp _ _ _ _ =>
            unfold swB at sw
            simp only [Bool.and_eq_true, decide_eq_true_eq] at sw
            exact sw.1.1
          | _ => cases sw
        exact ps_weak (set_lc A hN tk lk h3 h1 hl (by rw [sw_of dx.kind h3, sw])) fin
    · cases h
  | .tgt ts e, X, W, st, A, dx, hN, tk, po, lk, h => by
    unfold LkS at lk
    unfold okS at h
    split at h
    · rename_i tg ex0 pos
      simp only [Bool.and_eq_true] at h
      obtain ⟨⟨⟨h1, h2⟩, h4⟩, h5⟩ := h
      have pg := pg_ok (X := X) A.calm hN (.tp ts) tg (by rw [dx.fn]; exact h1)
      rw [A.k] at pg
      have hst : notStar tg = true := okT_star h1
      refine ps_weak (ps_asg (sE C e X W ex0 A hN tk lk h5) pg (by show swapsWith ex0 (some tg) _ _ = _; exact sw_tup h2) ?_ (by rw [assign_cons hst]; rfl)) fun D σ H ⟨n, B, O, H0, r, post⟩ => ?_
      · cases ex0 with
        | Tuple _ _ _ => cases h4
        | _ => cases tg <;> rfl
      · unfold ex at post
        refine ⟨n, B, r.rel, post_val r post fun v H1 d e1 hd r1 h1 => ?_⟩
        unfold bindK at h1
        cases eb : bindT (.tp ts) d n with
        | none => rw [eb] at h1; exact False.elim h1
        | some n' =>
          rw [eb] at h1
          exact gT_ok (.tp ts) d n n' σ v _ eb hd r1.rel.len fun σ' cg => h1 σ' H1 B (r1.chg cg)
    · cases h
  | .par i j a b, X, W, st, A, dx, hN, tk, po, lk, h => by
    unfold LkS at lk
    unfold okS at h
    split at h
    · rename_i x px y py kt pt ea eb k2 pt2 pos
      simp only [Bool.and_eq_true, decide_eq_true_eq, Bool.not_eq_true'] at h
      obtain ⟨⟨⟨⟨⟨⟨⟨⟨⟨⟨h1, h2⟩, h3⟩, h4⟩, h5⟩, h6⟩, h7⟩, h8⟩, h9⟩, h10⟩, h11⟩ := h
      have hx : X.env.scope.names.lookup x = some .local := of_decide_eq_true h4
      have hy : X.env.scope.names.lookup y = some .local := of_decide_eq_true h5
      have pa : PA X [ea, eb] (tCons (tE C.Z W a) (tCons (tE C.Z W b) tNil)) := pa_cons (sE C a X W ea A hN tk lk.1 h10) (pa_cons (sE C b X W eb A hN tk lk.2 h11) pa_nil (star_cons (ok_star h11))) (star_cons (ok_star h10))
      refine ps_weak (ps_par A.calm hN h1 h2 h3 hx hy pa (par_stores dx.kind hx hy h6 h7 (ok_star h10) (ok_star h11) h8 h9)) fun D σ H ⟨n, B, O, H0, r, post⟩ => ?_
      unfold ex at post
      refine ⟨n, B, r.rel, post_val r post fun v H1 d1 e1 q1 r1 h1 => ⟨n, B, r1.rel, post_val r1 h1 fun w H2 d2 e2 q2 r2 h2 => ⟨v, w, rfl, ?_⟩⟩⟩
      refine h2 _ H2 B ?_
      have c1 := r2.chg (chg_set (i := i) r2.rel.len (q1.ex e2))
      exact c1.chg (chg_set (i := j) c1.rel.len q2)
    · cases h
  | .mut i m φ es, X, W, st, A, dx, hN, tk, po, lk, h => by
    unfold LkS at lk
    unfold okS at h
    split at h
    · rename_i x p y ap xs cp pos
      simp only [Bool.and_eq_true, decide_eq_true_eq] at h
      obtain ⟨⟨⟨⟨⟨h1, h2⟩, h3⟩, h4⟩, h5⟩, h6⟩ := h
      subst h4
      have pe := lk.1 X A (.Name x p) ap cp xs _ _ rfl h5.1 (oks_star h6) h5.2 (pe_var h1 (vis_of h2) (plain1 h3) (plain2 h3)) (sEs C es X W xs A hN tk lk.2 h6)
      refine ps_weak (ps_expr pe (sw_none rfl)) fun D σ H ⟨n, B, O, H0, r, post⟩ => ?_
      unfold ex T.mut at post
      cases eo : n.ownOf (.slot i) with
      | none => rw [eo] at post; exact False.elim post
      | some d =>
        rw [eo] at post
        have ei := ownOf_some eo
        obtain ⟨q, q1, q2, q3⟩ := r.rel.own i d ei
        dsimp only at post
        cases eφ : φ d with
        | none => rw [eφ] at post; exact False.elim post
        | some f =>
          rw [eφ] at post
          refine ⟨_, q1, q, B, d, f, rfl, q2, q3, eφ, n, B, r.rel, post_vals r post fun vs H1 ds e1 hd r1 h1 => ?_⟩
          cases ef : f ds with
          | none => rw [ef] at h1; exact False.elim h1
          | some d' =>
            rw [ef] at h1
            exact ⟨ds, d', e1, hd, ef, fun v H3 hk ho => h1 σ H3 B (r1.changed ei q1 hk ho)⟩
    · cases h
  | .gens m ψ es, X, W, st, A, dx, hN, tk, po, lk, h => by
    unfold LkS at lk
    unfold okS at h
    split at h
    · rename_i xs em
      exact lk.1 X W A dx hN tk po st xs es em (oks_star h) (sEs C es X W xs A hN tk lk.2 h)
    · cases h
  | .seti i f k e, X, W, st, A, dx, hN, tk, po, lk, h => by
    unfold LkS at lk
    unfold okS at h
    split at h
    · rename_i x p ek ps ex0 pos
      simp only [Bool.and_eq_true, decide_eq_true_eq] at h
      obtain ⟨⟨⟨⟨⟨⟨h1, h2⟩, h3⟩, h4⟩, h5⟩, h6⟩, h7⟩ := h
      have pg : PG X (.Subscript (.Name x p) ek ps) (gSub (tVar i) (tE C.Z W k) (rSetD3 C.Z f)) := pg_sub (pe_var h1 (vis_of h2) (plain1 h3) (plain2 h3)) (sE C k X W ek A hN tk lk.2.1 h6) (lk.1 X A) (fun v => by
        cases ek <;> first | rfl | (exact absurd h4 Bool.false_ne_true))
      refine ps_weak (ps_asg (sE C e X W ex0 A hN tk lk.2.2 h7) pg (by show swapsWith ex0 (some (.Subscript (.Name x p) ek ps)) pos.line X.env = pure false; exact sw_none h5) (by cases ex0 <;> rfl)) fun D σ H ⟨n, B, O, H0, r, post⟩ => ?_
      unfold ex at post
      refine ⟨n, B, r.rel, post_val r post fun v H1 dx' e1 hv r1 h1 => ?_⟩
      unfold ownK at h1
      cases eo : n.ownOf (.slot i) with
      | none => rw [eo] at h1; exact False.elim h1
      | some d =>
        rw [eo] at h1
        have ei := ownOf_some eo
        obtain ⟨q, q1, q2, q3⟩ := r1.rel.own i d ei
        refine ⟨_, q1, n, B, r1.rel, post_val r1 h1 fun y H2 dk e2 hk r2 h2 => ?_⟩
        unfold setiK at h2
        rw [eo] at h2
        dsimp only at h2
        cases ef : f d dk dx' with
        | none => rw [ef] at h2; exact False.elim h2
        | some d' =>
          rw [ef] at h2
          exact ⟨q, B, d, dk, dx', d', rfl, q2, q3.ex e2, hk, hv.ex e2, ef, fun H3 hk3 ho => h2 σ H3 B (r2.changed ei q1 hk3 ho)⟩
    · cases h
  | .setp i k e, X, W, st, A, dx, hN, tk, po, lk, h => by
    unfold LkS at lk
    unfold okS at h
    split at h
    · rename_i x p ek ps ex0 pos
      simp only [Bool.and_eq_true, decide_eq_true_eq] at h
      obtain ⟨⟨⟨⟨⟨⟨h1, h2⟩, h3⟩, h4⟩, h5⟩, h6⟩, h7⟩ := h
      have pg : PG X (.Subscript (.Name x p) ek ps) (gSub (tVar i) (tE C.Z W k) rSetP) := pg_sub (pe_var h1 (vis_of h2) (plain1 h3) (plain2 h3)) (sE C k X W ek A hN tk lk.1 h6) set_pool (fun v => by
        cases ek <;> first | rfl | (exact absurd h4 Bool.false_ne_true))
      refine ps_weak (ps_asg (sE C e X W ex0 A hN tk lk.2 h7) pg (by show swapsWith ex0 (some (.Subscript (.Name x p) ek ps)) pos.line X.env = pure false; exact sw_none h5) (by cases ex0 <;> rfl)) fun D σ H ⟨n, B, O, H0, r, post⟩ => ?_
      unfold ex at post
      refine ⟨n, B, r.rel, post_val r post fun v H1 dx' e1 hv r1 h1 => ?_⟩
      unfold poolK at h1
      split at h1
      · rename_i ei
        obtain ⟨w, q1, q2⟩ := r1.rel.val i _ ei
        refine ⟨w, q1, n, B, r1.rel, post_val r1 h1 fun y H2 dk e2 hk r2 h2 => ?_⟩
        have q2 := q2.ex e2
        have hv := hv.ex e2
        cases dx' with
        | int a =>
          cases dk with
          | int j =>
            have h2 : PostS C.Z W (if (j = 0 ∨ j = 1) ∧ 0 ≤ a ∧ (j = 1 → a < 9223372036854775808) then .pure (.next n) else .pure .bad) O H0 D := h2
            by_cases c : (j = 0 ∨ j = 1) ∧ 0 ≤ a ∧ (j = 1 → a < 9223372036854775808)
            · rw [if_pos c] at h2
              unfold Den at q2 hv hk
              obtain ⟨pp, rfl, hp⟩ := q2
              subst hv
              subst hk
              have ck : okP j a := by
                unfold okP
                obtain ⟨c1, c2, c3⟩ := c
                split
                · exact c2
                · rename_i nz
                  exact ⟨c2, c3 (c1.resolve_left nz)⟩
              exact ⟨pp, j, a, rfl, hp, rfl, c.1, rfl, ck, h2 σ H2 B r2⟩
            · rw [if_neg c] at h2; exact False.elim h2
          | _ => exact False.elim h2
        | _ => exact False.elim h2
      · exact False.elim h1
    · cases h
  | .expr e, X, W, st, A, dx, hN, tk, po, lk, h => by
    unfold LkS at lk
    unfold okS at h
    split at h
    · rename_i ex0 pos
      simp only [Bool.and_eq_true] at h
      refine ps_weak (ps_expr (sE C e X W ex0 A hN tk lk h.2) (sw_none h.1)) fun D σ H ⟨n, B, O, H0, r, post⟩ => ?_
      unfold ex at post
      refine ⟨n, B, r.rel, ?_⟩
      refine PostS.bind post fun re post => ?_
      cases re with
      | ok d => exact fun v H1 e1 _ => post σ H1 B (r.heap e1)
      | fresh d => exact fun p H1 _ e1 _ => post σ H1 B (r.heap e1)
      | own j => exact fun p H1 e1 _ => post σ H1 B (r.heap e1)
      | exn c f => exact postX_of r post
      | bad => exact False.elim post
    · cases h
  | .ifs c a b, X, W, st, A, dx, hN, tk, po, lk, h => by
    unfold LkS at lk
    unfold okS at h
    split at h
    · rename_i ec sa sb pos
      simp only [Bool.and_eq_true] at h
      refine ps_weak (ps_if (sT C c X W ec A hN tk lk.1 h.1.1).1 (sSs C a X W sa A dx hN tk po lk.2.1 h.1.2) (sSs C b X W sb A dx hN tk po lk.2.2 h.2)) fun D σ H ⟨n, B, O, H0, r, post⟩ => ?_
      unfold ex at post
      refine ⟨n, B, r.rel, post_test r post fun bb H1 e1 r1 h1 => ?_⟩
      cases bb with
      | true => exact iteT ⟨n, B, O, H0, r1, h1⟩
      | false => exact iteF ⟨n, B, O, H0, r1, h1⟩
    · cases h
  | .whl fuel c body, X, W, st, A, dx, hN, tk, po, lk, h => by
    unfold LkS at lk
    unfold okS at h
    split at h
    · rename_i ec sb pos
      simp only [Bool.and_eq_true] at h
      exact ps_weak (ps_while po (sT C c X W ec A hN tk lk.1 h.1).1 (sSs C body X W sb A dx hN tk po lk.2 h.2)) fun D σ H q => while_read q
    · cases h
  | .for_ t k φ es body, X, W, st, A, dx, hN, tk, po, lk, h => by
    unfold LkS at lk
    unfold okS at h
    split at h
    · rename_i tg iter sb pos
      simp only [Bool.and_eq_true] at h
      obtain ⟨⟨⟨h1, h2⟩, h3⟩, h4⟩ := h
      have pg := pg_ok (X := X) A.calm hN t tg (by rw [dx.fn]; exact h2)
      rw [A.k] at pg
      exact ps_weak (ps_for po A.calm (pi_ok (W := W) A hN tk lk.1 lk.2.1 h3) pg (sSs C body X W sb A dx hN tk po lk.2.2 h4) (set_of h1)) fun D σ H q => for_read (k := k) q
    · cases h
  | .ret e, X, W, st, A, dx, hN, tk, po, lk, h => by
    unfold LkS at lk
    unfold okS at h
    split at h
    · rename_i ex0 pos
      refine ps_weak (ps_ret (sE C e X W ex0 A hN tk lk h)) fun D σ H ⟨n, B, O, H0, r, post⟩ => ?_
      unfold ex at post
      exact ⟨n, B, r.rel, post_ret r post⟩
    · cases h
  | .retN, X, W, st, A, dx, hN, tk, po, lk, h => by
    unfold okS at h
    split at h
    · refine ps_weak ps_retN fun D σ H ⟨n, B, O, H0, r, post⟩ => ?_
      unfold ex at post
      exact post .non H r.ex (by unfold Den; rfl)
    · cases h
  | .raise x es f, X, W, st, A, dx, hN, tk, po, lk, h => by
    unfold LkS at lk
    unfold okS at h
    split at h
    · rename_i y p xs pos pos'
      simp only [Bool.and_eq_true, decide_eq_true_eq] at h
      obtain ⟨⟨⟨h1, h2⟩, h3⟩, h4⟩ := h
      subst h1
      refine ps_weak (ps_raise A.calm tk (lk.1 X A (gl_of h2) p pos xs _ (oks_star h4) (sEs C es X W xs A hN tk lk.2 h4))) fun D σ H ⟨n, B, O, H0, r, post⟩ => ?_
      unfold ex at post
      refine ⟨n, B, r.rel, post_vals r post fun vs H1 ds e1 hd r1 h1 => ?_⟩
      unfold raiseK at h1
      cases ef : f ds with
      | none => rw [ef] at h1; exact False.elim h1
      | some fs =>
        rw [ef] at h1
        exact ⟨B, ds, fs, hd, ef, fun H2 cd e2 hx => h1 σ H2 B cd (r1.heap e2) hx⟩
    · cases h
  | .pass, X, W, st, A, dx, hN, tk, po, lk, h => by
    unfold okS at h
    split at h
    · refine ps_weak ps_pass fun D σ H ⟨n, B, O, H0, r, post⟩ => ?_
      unfold ex at post
      exact post σ H B r
    · cases h
  | .brk, X, W, st, A, dx, hN, tk, po, lk, h => by
    unfold okS at h
    split at h
    · refine ps_weak ps_break fun D σ H ⟨n, B, O, H0, r, post⟩ => ?_
      unfold ex at post
      exact post σ H B r
    · cases h
  | .cont, X, W, st, A, dx, hN, tk, po, lk, h => by
    unfold okS at h
    split at h
    · refine ps_weak ps_continue fun D σ H ⟨n, B, O, H0, r, post⟩ => ?_
      unfold ex at post
      exact post σ H B r
    · cases h
  | .tryx body x sub i j, X, W, st, A, dx, hN, tk, po, lk, h => by
    unfold LkS at lk
    unfold okS at h
    split at h
    · rename_i sb y p1 n0 z p2 n2 p3 p4 p5 p6
      simp only [Bool.and_eq_true, decide_eq_true_eq] at h
      obtain ⟨⟨⟨⟨⟨⟨⟨⟨⟨⟨h1, h2⟩, h3⟩, h4⟩, h5⟩, h6⟩, h7⟩, h8⟩, h9⟩, h10⟩, h11⟩ := h
      subst h1
      subst h4
      have hx : X.env.scope.names.lookup n2 = some .local := of_decide_eq_true h8
      have hz : X.env.scope.names.lookup z = some .local := of_decide_eq_true h9
      have nm : Names X x (.ref (C.cl x)) := ⟨gl_of h2, plain1 h3, .inl (by rw [A.g]; exact lk.1.1)⟩
      refine ps_weak (ps_try_held (tb := fun W' => tSs C.Z W' body) dx.stk dx.frm dx.ex hN h5 h6 h7 hx hz (plain1 h10) (plain2 h10) nm tk (fun W' pn xe tk' po' => sSs C body (X.tr pn xe) W' sb (tr_at A) (tr_def dx) hN tk' po' lk.2 h11)) fun D σ H ⟨n, B, O, H0, r, post⟩ => ?_
      unfold ex at post
      refine ⟨n, B, O, H0, r, ?_⟩
      refine PostS.bind post fun rr post => ?_
      cases rr with
      | exn n' c f =>
        unfold RS.tryK at post
        dsimp only at post
        cases es : sub c with
        | none => rw [es] at post; exact False.elim post
        | some b =>
          rw [es] at post
          refine fun σ1 H1 B1 cd r1 hx1 => ⟨b, by rw [A.k]; exact lk.1.2 c b es, fun hb => ?_, fun hb => ?_⟩
          · subst hb
            refine ⟨C.cl c, rfl, fun a ha => ?_⟩
            have post : PostS1 C.Z W O H0 D (if i = j then .bad else .next ((n'.set j (.val (.exn c f))).set i .emp)) := post
            rw [if_neg h7] at post
            refine post _ _ B1 ?_
            have e1 : Ex H1 (upd H1 a (ExH (C.cl c) cd a)) := Ex.new ha
            have r2 := r1.heap e1
            -- the exception denotes
            have hd : Den C.Z (upd H1 a (ExH (C.cl c) cd a)) B1 (.exn c f) (.ref a) := by
              unfold Den
              refine ⟨a, rfl, ?_⟩
              rcases hx1 with ⟨z1, z2⟩ | ⟨dd, w, z1, z2, z3⟩
              · subst z2
                exact .inl ⟨z1, upd_same⟩
              · subst z1
                exact .inr ⟨dd, w, upd_same, e1 _ _ z2, z3.ex e1⟩
            have r3 := r2.chg (chg_set (i := j) r2.rel.len hd)
            have r4 := r3.off (i := i) (v := none)
            have eσ : ((σ1.set i (some (.ref a))).set j (some (.ref a))).set i none = (σ1.set j (some (.ref a))).set i none := by
              rw [List.set_comm _ _ h7, List.set_set]
            rw [eσ]
            exact r4
          · subst hb
            exact post σ1 H1 B1 cd r1 hx1
      | next n' => exact post
      | brk n' => exact post
      | cont n' => exact post
      | ret r => cases r <;> exact post
      | bad => exact post
    · cases h
  | .frz i, X, W, st, A, dx, hN, tk, po, lk, h => by
    unfold okS at h
    cases h
  | .mv i j, X, W, st, A, dx, hN, tk, po, lk, h => by
    unfold okS at h
    split at h
    · rename_i x px y py pos
      simp only [Bool.and_eq_true, decide_eq_true_eq] at h
      obtain ⟨⟨⟨⟨h1, h2⟩, h3⟩, h4⟩, h5⟩ := h
      unfold locC at h2
      simp only [Bool.or_eq_true, decide_eq_true_eq] at h2
      refine ps_weak (ps_set hN h1 h2 (pe_var h3 (vis_of h4) (plain1 h5) (plain2 h5)) rfl (.inl (by rw [dx.fn]))) fun D σ H ⟨n, B, O, H0, r, post⟩ => ?_
      unfold ex mvK at post
      cases eo : n.ownOf (.slot j) with
      | none => rw [eo] at post; exact False.elim post
      | some d =>
        rw [eo] at post
        have ej := ownOf_some eo
        obtain ⟨q, q1, q2, q3⟩ := r.rel.own j d ej
        refine ⟨_, q1, post _ H B ?_⟩
        have hjl : j < σ.length := (List.getElem?_eq_some_iff.mp q1).1
        have r1 := r.off (i := j) (v := some (.ref q))
        have eσ : σ.set j (some (.ref q)) = σ := by
          apply List.ext_getElem?
          intro k
          by_cases hk : j = k
          · subst hk; rw [List.getElem?_set_self hjl]; exact q1.symm
          · rw [List.getElem?_set_ne hk]
        rw [eσ] at r1
        have hsj : Hs n σ H j q := .inl ⟨d, ej, q1⟩
        refine r1.put (fun k hk => ?_) q2 q3 (r.fr j q hsj)
        by_cases hk0 : j = k
        · subst hk0
          have hjn : j < n.length := by rw [← r.rel.len]; exact hjl
          rcases hk with ⟨d', ek, _⟩ | ⟨_, _, _, ek, _⟩ <;> (rw [List.getElem?_set_self hjn] at ek; cases ek)
        · exact hk0 (r.inj j k q hsj (hk.same (List.getElem?_set_ne hk0) rfl fun _ _ _ _ => rfl))
    · cases h
  | .mut2 i k m φ es, X, W, st, A, dx, hN, tk, po, lk, h => by
    unfold LkS at lk
    unfold okS at h
    split at h
    · rename_i eo y ap xs cp pos
      simp only [Bool.and_eq_true, decide_eq_true_eq] at h
      obtain ⟨⟨⟨⟨h1, h2⟩, h3⟩, h4⟩, h5⟩ := h
      subst h1
      have pe := lk.1 X A eo ap cp xs _ _ h2 h3.1 (oks_star h5) h3.2 (sE C (.pt i k) X W eo A hN tk (by unfold LkE; exact lk.2.1) h4) (sEs C es X W xs A hN tk lk.2.2 h5)
      refine ps_weak (ps_expr pe (sw_none rfl)) fun D σ H ⟨n, B, O, H0, r, post⟩ => ?_
      unfold ex at post
      refine ⟨n, B, r.rel, post_loc r post fun q H1 L e1 q1 r1 h1 => ?_⟩
      unfold T.mutL at h1
      cases eo : n.ownOf L with
      | none => rw [eo] at h1; exact False.elim h1
      | some d =>
        rw [eo] at h1
        obtain ⟨q', z1, q2, q3⟩ := r1.rel.at_ eo
        cases q1.uniq z1
        dsimp only at h1
        cases eφ : φ d with
        | none => rw [eφ] at h1; exact False.elim h1
        | some f =>
          rw [eφ] at h1
          refine ⟨q, B, d, f, rfl, q2, q3, eφ, n, B, r1.rel, post_vals r1 h1 fun vs H2 ds e2 hd r2 h2 => ?_⟩
          cases ef : f ds with
          | none => rw [ef] at h2; exact False.elim h2
          | some d' =>
            rw [ef] at h2
            obtain ⟨q'', z2, _, _⟩ := r2.rel.at_ eo
            have ha2 : At σ H2 L q := by
              have := at_ex e2 q1
              exact this
            exact ⟨ds, d', e2, hd, ef, fun v H3 hk ho => h2 σ H3 B (r2.changedL eo ha2 hk ho)⟩
    · cases h
  | .seti2 i k f j e, X, W, st, A, dx, hN, tk, po, lk, h => by
    unfold LkS at lk
    unfold okS at h
    split at h
    · rename_i eo ek ps ex0 pos
      simp only [Bool.and_eq_true] at h
      obtain ⟨⟨⟨⟨h1, h2⟩, h3⟩, h4⟩, h5⟩ := h
      have pg : PG X (.Subscript eo ek ps) (gSub (tE C.Z W (.pt i k)) (tE C.Z W j) (rSetD3 C.Z f)) := pg_sub (sE C (.pt i k) X W eo A hN tk (by unfold LkE; exact lk.2.1) h3) (sE C j X W ek A hN tk lk.2.2.1 h4) (lk.1 X A) (fun v => by
        cases ek <;> first | rfl | (exact absurd h1 Bool.false_ne_true))
      refine ps_weak (ps_asg (sE C e X W ex0 A hN tk lk.2.2.2 h5) pg (by show swapsWith ex0 (some (.Subscript eo ek ps)) pos.line X.env = pure false; exact sw_none h2) (by cases ex0 <;> rfl)) fun D σ H ⟨n, B, O, H0, r, post⟩ => ?_
      unfold ex at post
      refine ⟨n, B, r.rel, post_val r post fun v H1 dx' e1 hv r1 h1 => ?_⟩
      refine ⟨n, B, r1.rel, post_loc r1 h1 fun q H2 L e2 q1 r2 h2 => ?_⟩
      refine ⟨n, B, r2.rel, post_val r2 h2 fun y H3 dk e3 hk r3 h3 => ?_⟩
      unfold setiL at h3
      cases eo : n.ownOf L with
      | none => rw [eo] at h3; exact False.elim h3
      | some d =>
        rw [eo] at h3
        dsimp only at h3
        obtain ⟨q', z1, q2, q3⟩ := r2.rel.at_ eo
        cases q1.uniq z1
        cases ef : f d dk dx' with
        | none => rw [ef] at h3; exact False.elim h3
        | some d' =>
          rw [ef] at h3
          exact ⟨q, B, d, dk, dx', d', rfl, q2, q3.ex e3, hk, (hv.ex e2).ex e3, ef, fun H4 hk4 ho => h3 σ H4 B (r3.changedL eo (at_ex e3 q1) hk4 ho)⟩
    · cases h
  | .set2 i t k φ es elt own, X, W, st, A, dx, hN, tk, po, lk, h => by
    unfold LkS at lk
    unfold okS at h
    split at h
    · rename_i x px ex0 pos
      simp only [Bool.and_eq_true, decide_eq_true_eq] at h
      obtain ⟨⟨h1, h2⟩, h3⟩ := h
      unfold locC at h2
      simp only [Bool.or_eq_true, decide_eq_true_eq] at h2
      have lkE : LkE C (.lc t k φ es (.c (.bl true)) elt own) := by
        unfold LkE
        exact ⟨lk.1, lk.2.1, by unfold LkE; trivial, lk.2.2⟩
      have h30 := h3
      have hsw := sw_of (py := px) (l := pos.line) (y := x) dx.kind h3
      unfold okE at h3
      split at h3
      · rename_i ee tg iter is scope pos'
        simp only [Bool.and_eq_true] at h3
        obtain ⟨⟨⟨⟨⟨⟨g1, g2⟩, g3⟩, g4⟩, g5⟩, g6⟩, g7⟩ := h3
        have e0 : is = [] := by
          try dsimp only at g5
          split at g5
          · rfl
          · rw [Bool.and_eq_true] at g5
            have := g5.1
            simp [isTrueC] at this
          · cases g5
        subst e0
        have Ab : ∀ (s : Shared) (H : Hp) (C' : Addr) (cl : List (Str × Addr)) (fp : List Addr), C.At (X.blk s H scope (compEnvC scope cl C' X.env) fp) := fun _ _ _ _ _ => ⟨A.p, A.w, A.k, A.g, A.b, A.calm, A.room, A.gd⟩
        have hi : PI X tg iter (tI C.Z W φ es) := pi_ok A hN tk lk.1 lk.2.1 g7
        have hg : ∀ (s : Shared) (H : Hp) (C' : Addr) (cl : List (Str × Addr)) (fp : List Addr), PG (X.blk s H scope (compEnvC scope cl C' X.env) fp) tg (gT C.K t) := fun s H C' cl fp => by
          have z := pg_ok (X := X.blk s H scope (compEnvC scope cl C' X.env) fp) A.calm hN t tg g3
          have ek : (X.blk s H scope (compEnvC scope cl C' X.env) fp).K = C.K := A.k
          rw [ek] at z
          exact z
        have he : ∀ (s : Shared) (H : Hp) (C' : Addr) (cl : List (Str × Addr)) (fp : List Addr), PE (X.blk s H scope (compEnvC scope cl C' X.env) fp) ee (tE C.Z WX0 elt) := fun s H C' cl fp => sE C elt _ WX0 ee (Ab s H C' cl fp) hN takes0 lk.2.2 g6
        have fin : ∀ D σ H, tS C.Z W (.set2 i t k φ es elt own) D σ H → tAsg (tLc (tI C.Z W φ es) (gT C.K t) tYes (tE C.Z WX0 elt) (own.map (·.2))) (gName i) D σ H := fun D σ H q => lc2_read (k := k) (fun i hi => by
          have z := List.all_eq_true.mp g4 i hi
          exact of_decide_eq_true z) q
        cases sw : swB X.env.scope x px (.ListComp ee [⟨tg, iter, [], 0⟩] scope pos') with
        | false => exact ps_weak (ps_set hN h1 h2 (pe_lc (own := own) A.calm hN hi (blkOk_by g2) hg (fun s H C' cl fp => pts_nil) he (set_of g1)) (by rw [hsw, sw]) (.inl (by rw [dx.fn]))) fin
        | true =>
          have hl : X.env.scope.names.lookup x = some .local := by
            unfold swB at sw
            simp only [Bool.and_eq_true, decide_eq_true_eq] at sw
            exact sw.1.1
          exact ps_weak (ps_setLc (i := i) (y := x) (py := px) (spos := pos) (own := own) A.calm hN h1 hl (by rw [hsw, sw]) hi (blkOk_by g2) hg (fun s H C' cl fp => pts_nil) he (set_of g1)) fin
      · cases h3
    · cases h
theorem sSs (C : Cn) : ∀ (ss : List S) (X : Cx) (W : WX) (sts : List Stmt), C.At X → DefX X → X.N.Nodup → Takes X W → PassesOwn (model X.prog X.w) X.A X.env X.xe → LkSs C ss → okSs X.N X.env.scope ss sts = true → PSs X sts (tSs C.Z W ss)
  | [], X, W, sts, A, dx, hN, tk, po, lk, h => by
    unfold okSs at h
    cases sts with
    | nil =>
      refine pss_weak pss_nil fun D σ H ⟨n, B, O, H0, r, post⟩ => ?_
      unfold exs at post
      exact post σ H B r
    | cons _ _ => cases h
  | s :: ss, X, W, sts, A, dx, hN, tk, po, lk, h => by
    unfold LkSs at lk
    by_cases hf : ∃ i, s = .frz i
    · obtain ⟨i, rfl⟩ := hf
      unfold okSs at h
      refine pss_weak (sSs C ss X W sts A dx hN tk po lk.2 h) fun D σ H ⟨n, B, O, H0, r, post⟩ => ?_
      unfold exs ex frzK at post
      cases eo : n.ownOf (.slot i) with
      | none =>
        rw [eo] at post
        dsimp only at post
        cases e2 : Sl.own2D n[i]? with
        | none => rw [e2] at post; exact ⟨n, B, O, H0, r, post⟩
        | some ds =>
          rw [e2] at post
          obtain ⟨B', r'⟩ := r.frozen2 (own2_eq.mp e2)
          exact ⟨_, B', O, H0, r', post⟩
      | some d =>
        rw [eo] at post
        obtain ⟨B', r'⟩ := r.frozen (ownOf_some eo)
        exact ⟨_, B', O, H0, r', post⟩
    · have hh : ∃ st sts', sts = st :: sts' ∧ okS X.N X.env.scope s st = true ∧ okSs X.N X.env.scope ss sts' = true := by
        cases s with
        | frz i => exact absurd ⟨i, rfl⟩ hf
        | _ =>
          unfold okSs at h
          cases sts with
          | nil => cases h
          | cons st sts' =>
            dsimp only at h
            rw [Bool.and_eq_true] at h
            exact ⟨st, sts', rfl, h.1, h.2⟩
      obtain ⟨st, sts', rfl, h1, h2⟩ := hh
      exact pss_weak (pss_cons (sS C s X W st A dx hN tk po lk.1 h1) (sSs C ss X W sts' A dx hN tk po lk.2 h2)) fun D σ H q => seq_read q
end
end PM

set_option Elab.async false
set_option linter.all false
set_option maxRecDepth 100000
set_option maxHeartbeats 8000000
/-! PM13: a def, and its call. -/
namespace PM
open PySem PySem.Spec L2
open PyProof.Rows hiding St

/-- what a def does, by data -/
def spF (Z : Wd) (φ : List D → T R) : Sp := fun vs H Q E => ∃ (B : Addr → Prop) (ds : List D), (∀ a, B a → ∃ o, H a = some o ∧ isMut o = true) ∧ DenL Z H B ds vs ∧ PostF Z (fun c d H' => E c d H') (φ ds) H B Q

theorem start_rel {Z : Wd} {H : Hp} {B : Addr → Prop} {N : List Str} : ∀ {ds : List D} {vs : List V}, (∀ a, B a → ∃ o, H a = some o ∧ isMut o = true) → DenL Z H B ds vs → RelS Z (startN N.length ds) (L2.start N vs) H B B H := by
  intro ds vs hb hd
  have hl : vs.length = ds.length := hd.length
  have cs : ∀ (i : Nat) (s : Sl), (startN N.length ds)[i]? = some s → s = .emp ∨ ∃ d v, s = .val d ∧ ds[i]? = some d ∧ vs[i]? = some v ∧ (L2.start N vs)[i]? = some (some v) ∧ Den Z H B d v := by
    intro i s e
    unfold startN at e
    by_cases hi : i < ds.length
    · right
      rw [List.getElem?_append_left (by simpa using hi), List.getElem?_map, List.getElem?_eq_getElem hi] at e
      have e : some (Sl.val ds[i]) = some s := e
      cases e
      have hv : i < vs.length := by rw [hl]; exact hi
      refine ⟨ds[i], vs[i], rfl, List.getElem?_eq_getElem hi, List.getElem?_eq_getElem hv, ?_, ?_⟩
      · unfold L2.start
        rw [List.getElem?_append_left (by simpa using hv), List.getElem?_map, List.getElem?_eq_getElem hv]
        rfl
      · obtain ⟨v, q1, q2⟩ := hd.get (List.getElem?_eq_getElem hi)
        rw [List.getElem?_eq_getElem hv] at q1
        cases q1
        exact q2
    · left
      rw [List.getElem?_append_right (by simpa using Nat.le_of_not_lt hi)] at e
      have := List.mem_of_getElem? e
      exact (List.mem_replicate.mp this).2
  have no : ∀ (i : Nat) (d : D), (startN N.length ds)[i]? ≠ some (.own d) := fun i d e => by
    rcases cs i _ e with z | ⟨d', v, z, _⟩ <;> cases z
  have no2 : ∀ (i : Nat) (d : List D), (startN N.length ds)[i]? ≠ some (.own2 d) := fun i d e => by
    rcases cs i _ e with z | ⟨d', v, z, _⟩ <;> cases z
  have nh : ∀ (i : Nat) (a : Addr), ¬ Hs (startN N.length ds) (L2.start N vs) H i a := fun i a z => by
    rcases z with ⟨d, z, _⟩ | ⟨ds, _, _, z, _⟩
    · exact no i d z
    · exact no2 i ds z
  refine ⟨⟨fun i d e => ?_, fun i d e => absurd e (no i d), hb, ?_, fun i d e => absurd e (no2 i d)⟩, fun a z => z, fun i a z => absurd z (nh i a), fun i j a z _ => absurd z (nh i a), Ex.refl _, fun a z => let ⟨o, q, _⟩ := hb a z; ⟨o, q⟩, fun a z => .inl z⟩
  · rcases cs i _ e with z | ⟨d', v, z, _, _, q, r⟩
    · cases z
    · cases z
      exact ⟨v, q, r⟩
  · unfold L2.start startN
    simp [hl]

theorem fin_read {Z : Wd} {E : XK} {r : RS} {H : Hp} {B : Addr → Prop} {Q : VK} (h : PostF1 Z (fun c d H' => E c d H') H B Q r.out) : PostS1 Z (fun c d _ H' => E c d H') B H { nx := fun _ H' => Q .non H', rt := Q } r := by
  cases r with
  | next n =>
    intro σ H' B' r
    exact h .non H' r.ex (by unfold Den; rfl)
  | brk n => exact False.elim h
  | cont n => exact False.elim h
  | ret r =>
    cases r with
    | ok d => exact fun v H' e q => h v H' e q
    | fresh d => exact fun p H' hp e q => h p H' hp e q
    | own i => exact False.elim h
    | exn c f => exact False.elim h
    | bad => exact False.elim h
  | exn n c f =>
    intro σ H' B' cd r q
    refine h H' cd r.ex ?_
    rcases q with q | ⟨dd, w, q1, q2, q3⟩
    · exact .inl q
    · exact .inr ⟨dd, w, q1, q2, q3.less r.ob⟩
  | bad => exact False.elim h

theorem spF_len {Z : Wd} {p k : Nat} {body : List S} {vs : List V} {H : Hp} {Q : VK} {E : XK} (h : spF Z (runF p k body) vs H Q E) : vs.length = p := by
  obtain ⟨B, ds, hb, hd, post⟩ := h
  unfold runF at post
  by_cases c : ds.length = p
  · rw [← c]; exact hd.length
  · rw [if_neg c] at post; exact False.elim post

/-- what a def promises where nothing is being shown -/
structure FnOkG (P : Program) (w : World) (K : PySem.W.Frag) (mg : Str → Option Value) (base : Heap) (k : Nat) (f : Addr) (fd : FuncData) (ps : List Str) (sp : Sp) : Prop where
  len : ∀ vs H Q E, sp vs H Q E → vs.length = ps.length
  run : ∀ (A : Around) (outer : List Env) (s : Shared) (H : Hp) (args : Args) (us : List Value) (vs : List V) (Q : VK) (E : XK), Room k A → A.guards = some [] → Env0 P w K mg base A outer s H → BindsTo s fd args (ps.zip us) →
    Vals vs us → sp vs H Q E → codeAny (model P w) A (.call (.ref f) args) (CR (L2.CX P w) outer P w H s Q E) s
section
variable {P : Program} {w : World} {K : PySem.W.Frag} {mg : Str → Option Value} {base : Heap} {j k : Nat} {f : Addr} {fd : FuncData} {ps N : List Str} {sp sp' : Sp}
theorem FnOkG.mono (F : FnOkG P w K mg base j f fd ps sp) (h : j ≤ k) : FnOkG P w K mg base k f fd ps sp := ⟨F.len, fun A outer s H args us vs Q E hr => F.run A outer s H args us vs Q E (hr.mono h)⟩
theorem FnOkG.imp (F : FnOkG P w K mg base k f fd ps sp) (h : ∀ vs H Q E, sp' vs H Q E → sp vs H Q E) : FnOkG P w K mg base k f fd ps sp' :=
  ⟨fun vs H Q E q => F.len _ _ _ _ (h vs H Q E q), fun A outer s H args us vs Q E hr hg e0 hb hv q => F.run A outer s H args us vs Q E hr hg e0 hb hv (h vs H Q E q)⟩
theorem FnOkG.of (F : FnOk P w K mg base (L2.CX P w) k f fd ps sp) : FnOkG P w K mg base k f fd ps sp := ⟨F.len, fun A outer s H args us vs Q E hr _ => F.run A outer s H args us vs Q E hr⟩
/-- a def by its body, where nothing is being shown -/
theorem fnG_of {name qual : Str} {params : Arguments} {sts : List Stmt} {scope : Scope} {dvs : List V} {kws : List (Str × V)} (F : FunD K name qual params sts scope dvs kws f fd) (S : FnScope N ps scope) (len : ∀ vs H Q E, sp vs H Q E → vs.length = ps.length)
    (hb : ∀ (cdv : Value) (A : Around) (outer : List Env) (s : Shared) (H : Hp) (vs : List V) (Q : VK) (E : XK), Room k (A.deeper (envOfC qual scope s.heap.objs.size f cdv)) → (A.deeper (envOfC qual scope s.heap.objs.size f cdv)).guards = some [] → sp vs H Q E →
      ∃ t, PSs (cxOf (L2.CX P w) P w K mg base N qual scope f cdv A outer s H E) sts t ∧ t { nx := fun _ H' => Q .non H', rt := Q } (L2.start N vs) H) : FnOkG P w K mg base (k + 1) f fd ps sp := by
  obtain ⟨_, _, _, _, _, _, _, cdv, _, _, rfl, found, code, _, _⟩ := F.ex
  refine ⟨len, fun A outer s0 H args us vs Q E room gd e0 bound rel wish => ?_⟩
  have old : ∀ b o, base.get? b = some o → s0.heap.get? b = some o := fun b o e => (e0.bs b o e).1
  have inK : K.In s0.heap := e0.mod.kin.keeps old
  refine codeAny_call_function room.depth (inK _ _ found) rfl S.co S.gen rfl (PySem.W.codeRec_of inK code) (bound _ _ _ _ (wpAny_newFunctionEnv_cells S.kind (fun p hp => (S.par p.1 (List.of_mem_zip hp).1).imp id fun z => ⟨z, PySem.W.cellsFrom_some _ _ _ (.inl z)⟩) fun env he s1 laid => ?_))
  subst he
  obtain ⟨t, body, due⟩ := hb cdv A outer s0 H vs Q E (room.deeper _) gd wish
  have I := inv_start (CX := L2.CX P w) (E := E) S room.hd e0 (len vs H Q E wish) rel laid
  refine ⟨(e0.mod.nolimit.keeps old).keeps laid.toInCall.keep, codeAny_func (wpAny_mono (body.run [] s1 _ H _ I due) (fun fl s2 z => ?_) fun _ _ z => z)⟩
  cases fl with
  | next => exact let ⟨_, H2, J, q⟩ := z; ⟨.non, H2, J.os, J.bare, J.base, J.hok, rfl, q⟩
  | ret u => exact let ⟨y, _, H2, J, r, q⟩ := z; ⟨y, H2, J.os, J.bare, J.base, J.hok, r, q⟩
  | brk => exact let ⟨_, _, _, q⟩ := z; q.elim
  | cont => exact let ⟨_, _, _, q⟩ := z; q.elim
end
theorem run_fnG {X : Cx} {k : Nat} {f : Addr} {fd : FuncData} {ps : List Str} {sp : Sp} {dvs : List V} {ds : List Value} {E : L2.St → XK} {pins : List (Addr × Obj)} {σ : L2.St} {H : Hp} {s : Shared} {Q : VK} {us : List Value} {vs : List V} (F : FnOkG X.prog X.w X.K X.mg X.base k f fd ps sp) (hr : Room k X.A)
    (hg : X.A.guards = some []) (hb : Binds X.K fd ps ds) (hd : Vals dvs ds) (hx : PassesAt (L2.CX X.prog X.w) X σ (E σ)) (I : Inv X pins σ H s) (r : Vals vs us) (h : sp (vs ++ dvs) H Q (E σ)) : wpAny (model X.prog X.w) X.A (call (.ref f) us) (EP X pins σ Q) X.xe s := by
  have both := r.append hd
  have n : (us ++ ds).length = ps.length := both.length ▸ F.len _ _ _ _ h
  refine wpAny_call (codeAny_mono (F.run X.A X.stack s H ⟨us, []⟩ _ _ Q (E σ) hr hg I.env0 (hb s us I.kIn n) both h) fun z s2 hz => ?_)
  match z, hz with
  | .error e, hz => exact hx pins H s e s2 I hz
  | .ok (.ret u), hz => exact I.after hz
  | .ok .next, hz => exact False.elim hz
  | .ok .brk, hz => exact False.elim hz
  | .ok .cont, hz => exact False.elim hz

section
variable {P : Program} {w : World} {K : PySem.W.Frag} {mg : Str → Option Value} {base : Heap} {lv : Nat} {cl : Str → Addr}
theorem body_ok {N ps : List Str} {body : List S} {sts : List Stmt} {qual : Str} {scope : Scope} {f : Addr} {cdv : Value} {A : Around} {outer : List Env} {s : Shared} {H : Hp} {vs : List V} {Q : VK} {E : XK} (S : FnScope N ps scope)
    (lk : LkSs ⟨P, w, K, mg, base, lv, cl⟩ body) (ok : okSs N scope body sts = true) (hr : Room lv (A.deeper (envOfC qual scope s.heap.objs.size f cdv))) (hg : (A.deeper (envOfC qual scope s.heap.objs.size f cdv)).guards = some [])
    (h : spF ⟨K, cl⟩ (runF ps.length N.length body) vs H Q E) : ∃ t, PSs (cxOf (L2.CX P w) P w K mg base N qual scope f cdv A outer s H E) sts t ∧ t { nx := fun _ H' => Q .non H', rt := Q } (L2.start N vs) H := by
  refine ⟨_, sSs ⟨P, w, K, mg, base, lv, cl⟩ body _ (fun cls d _ H => E cls d H) sts ⟨rfl, rfl, rfl, rfl, rfl, rfl, hr, hg⟩ ⟨S.kind, rfl, rfl, rfl, rfl⟩ S.nd (takes_of rfl rfl rfl rfl) (passes_of rfl) lk ok, ?_⟩
  obtain ⟨B, ds, hb, hd, post⟩ := h
  refine ⟨startN N.length ds, B, B, H, start_rel hb hd, ?_⟩
  unfold runF at post
  by_cases c : ds.length = ps.length
  · rw [if_pos c] at post
    exact T.mono (fun _ h => fin_read h) (T.all_bind.mp post)
  · rw [if_neg c] at post; exact False.elim post
theorem fn_okD {x qual : Str} {params : Arguments} {sts : List Stmt} {scope : Scope} {dvs : List V} {kws : List (Str × V)} {f : Addr} {fd : FuncData} {N ps : List Str} {body : List S} (F : FunD K x qual params sts scope dvs kws f fd) (S : FnScope N ps scope)
    (lk : LkSs ⟨P, w, K, mg, base, lv, cl⟩ body) (ok : okSs N scope body sts = true) : FnOkG P w K mg base (lv + 1) f fd ps (spF ⟨K, cl⟩ (runF ps.length N.length body)) :=
  fnG_of F S (fun vs H Q E h => spF_len h) fun cdv A outer s H vs Q E hr hg h => body_ok S lk ok hr hg h
/-- a nicer word of what it does -/
theorem fn_as {f : Addr} {fd : FuncData} {ps : List Str} {φ φ' : List D → T R} (F : FnOkG P w K mg base lv f fd ps (spF ⟨K, cl⟩ φ)) (h : ∀ ds (P : R → Prop), ¬ P .bad → (φ' ds).all P → (φ ds).all P) :
    FnOkG P w K mg base lv f fd ps (spF ⟨K, cl⟩ φ') := F.imp fun vs H Q E ⟨B, ds, hb, hd, post⟩ => ⟨B, ds, hb, hd, h ds _ (fun z => z) post⟩
/-- .. its call -/
theorem call_ok {x : Str} {f : Addr} {fd : FuncData} {ps : List Str} {dvs : List V} {ds : List Value} {φ : List D → T R} {dds : List D} (F : FnOkG P w K mg base lv f fd ps (spF ⟨K, cl⟩ φ)) (hm : mg x = some (.ref f)) (hk : PySem.W.keepIn K (.ref f) = true)
    (hb : Binds K fd ps ds) (hd : Vals dvs ds) (hdd : ∀ H B, DenL ⟨K, cl⟩ H B dds dvs) (hdb : (x == ("__debug__" : Str)) = false) : CallOk ⟨P, w, K, mg, base, lv, cl⟩ x (fun es => φ (es ++ dds)) := by
  intro X W At tk gl p pos es t hs ha
  obtain ⟨h1, h2, h3, h4, h5, calm, room, gd⟩ := At
  dsimp only at h1 h2 h3 h4 h5 room
  subst h1; subst h2; subst h3; subst h4; subst h5
  cases es with
  | cons e es =>
    rw [List.all_cons, Bool.and_eq_true] at hs
    refine ⟨fun pins s σ H Q I h => ?_⟩
    refine wpAny_Call_Name_kw (ld_glob I gl hm ?_ hdb)
    refine PySem.W.callWith_K (h₀ := X.base) I.ok.mod.kin hk (thn (ha.run pos pins s σ H _ I h) fun us s1 ⟨vs, H1, I1, r, q⟩ => ⟨I1.kIn, ?_⟩) (star_cons hs.1) (star_any hs.2)
    refine run_fnG F room gd hb hd (passAt tk σ) I1 r ?_
    obtain ⟨B, ds', hb', hd', post⟩ := q
    exact ⟨B, ds' ++ dds, hb', hd'.append (hdd _ _), post⟩
  | nil =>
    refine ⟨fun pins s σ H Q I h => ?_⟩
    refine wpAny_Call_Name_kw (ld_glob I gl hm ?_ hdb)
    intro Γ pp hΓ
    obtain ⟨vs, H1, I1, r, q⟩ := ha.run pos pins s σ H _ I h Γ pp hΓ
    cases r
    refine PySem.W.callWith_K0 I.kIn hk (run_fnG (us := []) (vs := []) F room gd hb hd (passAt tk σ) I1 .nil ?_) Γ pp hΓ
    obtain ⟨B, ds', hb', hd', post⟩ := q
    exact ⟨B, ds' ++ dds, hb', hd'.append (hdd _ _), post⟩
end
end PM

set_option Elab.async false
set_option linter.all false
set_option maxRecDepth 100000
set_option maxHeartbeats 4000000
/-! PM14: operators. -/
namespace PM
open PySem PySem.Spec L2
open PyProof.Rows hiding St

/-- the first that is not bad -/
def orF (f g : D → D → R) : D → D → R := fun d e => match f d e with
  | .bad => g d e
  | r => r
def orF1 (f g : D → R) : D → R := fun d => match f d with
  | .bad => g d
  | r => r
section
variable {C : Cn} {f g : D → D → R}
theorem rD2_or {Z : Wd} {x y : V} {H : Hp} {Q : VK} (h : rD2 Z (orF f g) x y H Q) : rD2 Z f x y H Q ∨ rD2 Z g x y H Q := by
  obtain ⟨B, d, e, bt, q1, q2, post⟩ := h
  have post : PostF1 Z WE0 H B Q (orF f g d e) := post
  unfold orF at post
  cases c : f d e with
  | bad => rw [c] at post; exact .inr ⟨B, d, e, bt, q1, q2, post⟩
  | ok r => rw [c] at post; exact .inl ⟨B, d, e, bt, q1, q2, by rw [c]; exact post⟩
  | fresh r => rw [c] at post; exact .inl ⟨B, d, e, bt, q1, q2, by rw [c]; exact post⟩
  | own r => rw [c] at post; exact False.elim post
  | exn c' r => rw [c] at post; exact .inl ⟨B, d, e, bt, q1, q2, by rw [c]; exact post⟩
theorem opr_or {X : Cx} {op : Value → Value → Sem Value} {Z : Wd} (hf : OpR X op (rD2 Z f)) (hg : OpR X op (rD2 Z g)) : OpR X op (rD2 Z (orF f g)) := fun pins s σ H x y v u Q I rx ry h =>
  (rD2_or h).elim (hf pins s σ H x y v u Q I rx ry) (hg pins s σ H x y v u Q I rx ry)
theorem BinOk.or {op : Operator} (hf : BinOk C op f) (hg : BinOk C op g) : BinOk C op (orF f g) := fun X A => opr_or (hf X A) (hg X A)
theorem CmpOk.or {op : CmpOp} (hf : CmpOk C op f) (hg : CmpOk C op g) : CmpOk C op (orF f g) := fun X A => opr_or (hf X A) (hg X A)
end
/-- ints in, a value of no parts out -/
def iop (C : Int → Int → Bool) (g : Int → Int → D) : D → D → R
  | .int i, .int j => if C i j = true then .ok (g i j) else .bad
  | _, _ => .bad
theorem opr_iop {X : Cx} {Z : Wd} {op : Value → Value → Sem Value} {P : Int → Int → Prop} {C : Int → Int → Bool} {g : Int → Int → D} {gv : Int → Int → V} (h : OpR X op (rI P gv)) (hC : ∀ i j, C i j = true → P i j) (hg : ∀ i j H B, Den Z H B (g i j) (gv i j)) : OpR X op (rD2 Z (iop C g)) := by
  intro pins s σ H x y v u Q I rx ry q
  obtain ⟨B, d, e, bt, q1, q2, post⟩ := q
  have post : PostF1 Z WE0 H B Q (iop C g d e) := post
  cases d with
  | int i =>
    cases e with
    | int j =>
      have post : PostF1 Z WE0 H B Q (if C i j = true then .ok (g i j) else .bad) := post
      by_cases c : C i j = true
      · rw [if_pos c] at post
        have z1 := q1.all
        have z2 := q2.all
        unfold Den at z1 z2
        exact h pins s σ H x y v u Q I rx ry ⟨i, j, z1, z2, hC i j c, post _ H (Ex.refl _) (hg i j H B)⟩
      · rw [if_neg c] at post; exact False.elim post
    | _ => exact False.elim post
  | _ => exact False.elim post
theorem den_int {Z : Wd} {i : Int} {H : Hp} {B : Addr → Prop} : Den Z H B (.int i) (.int i) := by unfold Den; rfl
theorem den_bl {Z : Wd} {i : Bool} {H : Hp} {B : Addr → Prop} : Den Z H B (.bl i) (.bl i) := by unfold Den; rfl
theorem den_str {Z : Wd} {i : Str} {H : Hp} {B : Addr → Prop} : Den Z H B (.str i) (.str i) := by unfold Den; rfl
theorem den_non {Z : Wd} {H : Hp} {B : Addr → Prop} : Den Z H B .non .non := by unfold Den; rfl
theorem opI0_to {X : Cx} {op : Value → Value → Sem Value} {g : Int → Int → V} (h : OpR X op (rI0 g)) : OpR X op (rI (fun _ _ => True) g) := fun pins s σ H x y v u Q I rx ry ⟨i, j, a, b, _, q⟩ => h pins s σ H x y v u Q I rx ry ⟨i, j, a, b, q⟩
def yes2 : Int → Int → Bool := fun _ _ => true

def addI : D → D → R := iop yes2 fun i j => .int (i + j)
def subI : D → D → R := iop yes2 fun i j => .int (i - j)
def mulB (i j : Int) : Bool := decide (i.natAbs < 18446744073709551616) || decide (j.natAbs < 18446744073709551616) || decide (i.natAbs.log2 + j.natAbs.log2 < 1000000)
def mulI : D → D → R := iop mulB fun i j => .int (i * j)
def divB (_ j : Int) : Bool := decide (j ≠ 0) && decide (j.natAbs.log2 < 9000)
def divI : D → D → R := iop divB fun i j => .int (i.fdiv j)
def modB (_ j : Int) : Bool := decide (j ≠ 0)
def modI : D → D → R := iop modB fun i j => .int (i.fmod j)
def powB (i j : Int) : Bool := decide (0 ≤ j) && decide (j ≤ 1000) && decide (i.natAbs < 18446744073709551616)
def powI : D → D → R := iop powB fun i j => .int (i ^ j.toNat)
def ltI : D → D → R := iop yes2 fun i j => .bl (decide (i < j))
def leI : D → D → R := iop yes2 fun i j => .bl (decide (i ≤ j))
def gtI : D → D → R := iop yes2 fun i j => .bl (decide (j < i))
def geI : D → D → R := iop yes2 fun i j => .bl (decide (j ≤ i))
section
variable {C : Cn}
theorem bin_addI : BinOk C .Add addI := fun X A => opr_iop (opI0_to op_add) (fun _ _ _ => trivial) fun _ _ _ _ => den_int
theorem bin_subI : BinOk C .Sub subI := fun X A => opr_iop (opI0_to op_sub) (fun _ _ _ => trivial) fun _ _ _ _ => den_int
theorem mulB_ok {i j : Int} (h : mulB i j = true) : CMul i j ∨ CMulW i j := by
  unfold mulB at h
  simp only [Bool.or_eq_true, decide_eq_true_eq] at h
  rcases h with (h | h) | h
  · exact .inl (.inl ⟨by omega, by omega⟩)
  · exact .inl (.inr ⟨by omega, by omega⟩)
  · exact .inr h
theorem bin_mulI : BinOk C .Mult mulI := fun X A => opr_iop (P := fun i j => CMul i j ∨ CMulW i j) (fun pins s σ H x y v u Q I rx ry ⟨i, j, a, b, c, q⟩ => c.elim (fun c => op_mul pins s σ H x y v u Q I rx ry ⟨i, j, a, b, c, q⟩) fun c => op_mulW pins s σ H x y v u Q I rx ry ⟨i, j, a, b, c, q⟩) (fun _ _ c => mulB_ok c) fun _ _ _ _ => den_int
theorem op_divF {X : Cx} : OpR X (binaryOp .FloorDiv) (rI (fun _ j => j ≠ 0 ∧ j.natAbs.log2 < 9000) fun i j => .int (i.fdiv j)) := opI fun i j _ _ _ _ _ hc q => floordiv_int hc.1 q (.inl (PyProof.noPylong_of_log2 hc.2))
theorem bin_divI : BinOk C .FloorDiv divI := fun X A => opr_iop op_divF (fun _ _ c => by
  unfold divB at c
  rw [Bool.and_eq_true, decide_eq_true_eq, decide_eq_true_eq] at c
  exact c) fun _ _ _ _ => den_int
theorem bin_modI : BinOk C .Mod modI := fun X A => opr_iop op_modN (fun _ _ c => of_decide_eq_true c) fun _ _ _ _ => den_int
theorem bin_powI : BinOk C .Pow powI := fun X A => opr_iop op_pow (fun _ _ c => by
  unfold powB at c
  simp only [Bool.and_eq_true, decide_eq_true_eq] at c
  exact ⟨c.1.1, by omega, c.2⟩) fun _ _ _ _ => den_int
theorem cmp_ltI : CmpOk C .Lt ltI := fun X A => opr_iop (opI0_to op_lt) (fun _ _ _ => trivial) fun _ _ _ _ => den_bl
theorem cmp_leI : CmpOk C .LtE leI := fun X A => opr_iop (opI0_to op_le) (fun _ _ _ => trivial) fun _ _ _ _ => den_bl
theorem cmp_gtI : CmpOk C .Gt gtI := fun X A => opr_iop (opI0_to op_gt) (fun _ _ _ => trivial) fun _ _ _ _ => den_bl
theorem cmp_geI : CmpOk C .GtE geI := fun X A => opr_iop (opI0_to op_ge) (fun _ _ _ => trivial) fun _ _ _ _ => den_bl
def negI : D → R
  | .int i => .ok (.int (-i))
  | _ => .bad
theorem un_negI : UnOk C .USub negI := fun X A pins s σ H x v Q I rx q => by
  obtain ⟨B, d, bt, q1, post⟩ := q
  have post : PostF1 C.Z WE0 H B Q (negI d) := post
  cases d with
  | int i =>
    have z1 := q1.all
    unfold Den at z1
    exact un_neg pins s σ H x v Q I rx ⟨i, z1, post _ H (Ex.refl _) den_int⟩
  | _ => exact False.elim post
end

/-! == and != by data -/
mutual
def toP : D → Option PyData
  | .non => some .none
  | .bl b => some (.bool b)
  | .int i => some (.int i)
  | .str s => some (.str s)
  | .tup ds => match toPs ds with
    | some ps => some (.tuple ps)
    | none => none
  | .pw is => some (.tuple (is.map .int))
  | .lst ds => match toPs ds with
    | some ps => some (.list ps)
    | none => none
  | _ => none
def toPs : List D → Option (List PyData)
  | [] => some []
  | d :: ds => match toP d with
    | some p => match toPs ds with
      | some ps => some (p :: ps)
      | none => none
    | none => none
end
theorem ints_dp {K : PySem.W.Frag} {H : Hp} : ∀ (is : List Int), DpAll K H (is.map V.int) (is.map PyData.int)
  | [] => .nil
  | i :: is => .cons (.int i) (ints_dp is)
mutual
theorem toP_dp {Z : Wd} {H : Hp} {B : Addr → Prop} : ∀ (d : D) (v : V) (p : PyData), toP d = some p → Den Z H B d v → Dp Z.K H v p
  | .non, v, p, e, h => by unfold toP at e; cases e; unfold Den at h; subst h; exact .non
  | .bl b, v, p, e, h => by unfold toP at e; cases e; unfold Den at h; subst h; exact .bl b
  | .int i, v, p, e, h => by unfold toP at e; cases e; unfold Den at h; subst h; exact .int i
  | .str s, v, p, e, h => by unfold toP at e; cases e; unfold Den at h; subst h; exact .str s
  | .tup ds, v, p, e, h => by
    unfold toP at e
    cases e1 : toPs ds with
    | none => rw [e1] at e; cases e
    | some ps =>
      rw [e1] at e
      cases e
      unfold Den at h
      obtain ⟨a, vs, rfl, q, r⟩ := h
      exact .tup q (toPs_dp ds vs ps e1 r)
  | .pw is, v, p, e, h => by
    unfold toP at e
    cases e
    unfold Den at h
    obtain ⟨a, rfl, q⟩ := h
    exact .tup (.inl (.inl q)) (ints_dp is)
  | .lst ds, v, p, e, h => by
    unfold toP at e
    cases e1 : toPs ds with
    | none => rw [e1] at e; cases e
    | some ps =>
      rw [e1] at e
      cases e
      unfold Den at h
      obtain ⟨a, vs, rfl, q, r⟩ := h
      exact .lst q.sq (toPs_dp ds vs ps e1 r)
  | .dT _ _, v, p, e, h => by unfold toP at e; cases e
  | .dK _ _, v, p, e, h => by unfold toP at e; cases e
  | .ins _ _ _, v, p, e, h => by unfold toP at e; cases e
  | .exn _ _, v, p, e, h => by unfold toP at e; cases e
  | .pool, v, p, e, h => by unfold toP at e; cases e
theorem toPs_dp {Z : Wd} {H : Hp} {B : Addr → Prop} : ∀ (ds : List D) (vs : List V) (ps : List PyData), toPs ds = some ps → DenL Z H B ds vs → DpAll Z.K H vs ps
  | [], vs, ps, e, h => by unfold toPs at e; cases e; unfold DenL at h; subst h; exact .nil
  | d :: ds, vs, ps, e, h => by
    unfold toPs at e
    cases e1 : toP d with
    | none => rw [e1] at e; cases e
    | some p =>
      rw [e1] at e
      cases e2 : toPs ds with
      | none => rw [e2] at e; cases e
      | some ps' =>
        rw [e2] at e
        cases e
        unfold DenL at h
        obtain ⟨v, r, rfl, h1, h2⟩ := h
        exact .cons (toP_dp d v p e1 h1) (toPs_dp ds r ps' e2 h2)
end
def eqG (b : Bool) : D → D → R := fun d e => match toP d, toP e with
  | some p, some q => if (SeqAt.shaped p && SeqAt.shaped q) = true then .ok (.bl (if b = true then PyData.eqv p q else !PyData.eqv p q)) else .bad
  | _, _ => .bad
def eqD : D → D → R := eqG true
def neD : D → D → R := eqG false
theorem opr_eqG {X : Cx} {Z : Wd} {b : Bool} {op : Value → Value → Sem Value} (hk : X.K = Z.K) (h : OpR X op (fun x y H Q => ∃ d e, Dp X.K H x d ∧ Dp X.K H y e ∧ SeqAt.shaped d = true ∧ SeqAt.shaped e = true ∧ Q (.bl (if b = true then PyData.eqv d e else !PyData.eqv d e)) H)) : OpR X op (rD2 Z (eqG b)) := by
  intro pins s σ H x y v u Q I rx ry q
  obtain ⟨B, d, e, bt, q1, q2, post⟩ := q
  have post : PostF1 Z WE0 H B Q (eqG b d e) := post
  unfold eqG at post
  split at post
  · rename_i p q e1 e2
    by_cases c : (SeqAt.shaped p && SeqAt.shaped q) = true
    · rw [if_pos c] at post
      rw [Bool.and_eq_true] at c
      exact h pins s σ H x y v u Q I rx ry ⟨p, q, by rw [hk]; exact toP_dp d x p e1 q1.all, by rw [hk]; exact toP_dp e y q e2 q2.all, c.1, c.2, post _ H (Ex.refl _) den_bl⟩
    · rw [if_neg c] at post; exact False.elim post
  · exact False.elim post
theorem cmp_eqD {C : Cn} : CmpOk C .Eq eqD := fun X A => opr_eqG A.k (op_eqD (by have := A.room.units; omega))
theorem cmp_neD {C : Cn} : CmpOk C .NotEq neD := fun X A => opr_eqG A.k (op_neD (by have := A.room.units; omega))
end PM

set_option Elab.async false
set_option linter.all false
set_option maxRecDepth 100000
set_option maxHeartbeats 4000000
/-! PM15: indices, built-ins by name, isinstance. -/
namespace PM
open PySem PySem.Spec L2
open PyProof.Rows hiding St

/-! ### parts -/
def atD (ds : List D) (i : Int) : R := match atI ds i with
  | some d => .ok d
  | none => .bad
/-- an item: of a list, a tuple; a number of those that are drawn from -/
def ixD : D → D → T R
  | .lst ds, .int i => .pure (atD ds i)
  | .tup ds, .int i => .pure (atD ds i)
  | .pw is, .int i => .pure (match atI is i with
    | some k => .ok (.int k)
    | none => .bad)
  | .pool, .int i => if i = 0 ∨ i = 1 then .pick (okP i) fun k => .pure (.ok (.int k)) else .pure .bad
  | _, _ => .pure .bad
theorem atI_den {Z : Wd} {H : Hp} {B : Addr → Prop} {ds : List D} {vs : List V} {i : Int} {d : D} (h : DenL Z H B ds vs) (e : atI ds i = some d) : ∃ v, atI vs i = some v ∧ Den Z H B d v := by
  unfold atI at e ⊢
  rw [h.length]
  cases ek : ixN ds.length i with
  | none => rw [ek] at e; cases e
  | some k =>
    rw [ek] at e
    obtain ⟨v, q1, q2⟩ := h.get (show ds[k]? = some d from e)
    exact ⟨v, q1, q2⟩
theorem ix_ixD {C : Cn} : IxOk C ixD := by
  intro X A value slice pins s σ H x y v u Q I rx ry q hs
  obtain ⟨B, d, e, bt, q1, q2, post⟩ := q
  have z2 := q2.all
  cases e with
  | int i =>
    unfold Den at z2
    cases d with
    | lst ds =>
      have post : PostF1 C.Z WE0 H B Q (atD ds i) := post
      unfold atD at post
      cases ea : atI ds i with
      | none => rw [ea] at post; exact False.elim post
      | some d =>
        rw [ea] at post
        obtain ⟨a, vs, h1, h2, h3⟩ : ∃ a vs, x = .ref a ∧ SqL C.K H a vs ∧ DenL C.Z H B ds vs := by
          rcases q1 with q1 | ⟨p, rfl, vs, h1, h2⟩
          · unfold Den at q1
            obtain ⟨a, vs, h1, h2, h3⟩ := q1
            exact ⟨a, vs, h1, h2.sq, h3⟩
          · exact ⟨p, vs, rfl, .inl (.inl h1), h2⟩
        obtain ⟨w, w1, w2⟩ := atI_den h3 ea
        exact ix_list value slice pins s σ H x y v u Q I rx ry ⟨a, vs, i, w, h1, z2, by rw [A.k]; exact h2, w1, post w H (Ex.refl _) w2⟩ hs
    | tup ds =>
      have post : PostF1 C.Z WE0 H B Q (atD ds i) := post
      unfold atD at post
      cases ea : atI ds i with
      | none => rw [ea] at post; exact False.elim post
      | some d =>
        rw [ea] at post
        rcases q1 with q1 | ⟨p, rfl, q1⟩
        · unfold Den at q1
          obtain ⟨a, vs, h1, h2, h3⟩ := q1
          obtain ⟨w, w1, w2⟩ := atI_den h3 ea
          exact ix_tup value slice pins s σ H x y v u Q I rx ry ⟨a, vs, i, w, h1, z2, by rw [A.k]; exact h2, w1, post w H (Ex.refl _) w2⟩ hs
        · exact False.elim q1
    | pw is =>
      have post : PostF1 C.Z WE0 H B Q (match atI is i with
        | some k => .ok (.int k)
        | none => .bad) := post
      cases ea : atI is i with
      | none => rw [ea] at post; exact False.elim post
      | some k =>
        rw [ea] at post
        have q1 := q1.all
        unfold Den at q1
        obtain ⟨a, h1, h2⟩ := q1
        have w1 : atI (is.map V.int) i = some (.int k) := by
          unfold atI at ea ⊢
          rw [List.length_map]
          cases ek : ixN is.length i with
          | none => rw [ek] at ea; cases ea
          | some j =>
            rw [ek] at ea
            rw [Option.bind_some, List.getElem?_map]
            rw [Option.bind_some] at ea
            rw [ea] <;> rfl
        exact ix_tup value slice pins s σ H x y v u Q I rx ry ⟨a, _, i, _, h1, z2, .inl (.inl h2), w1, post _ H (Ex.refl _) den_int⟩ hs
    | pool =>
      have z1 := q1.all
      unfold Den at z1
      obtain ⟨a, h1, h2⟩ := z1
      by_cases c : i = 0 ∨ i = 1
      · have post : PostF C.Z WE0 (if i = 0 ∨ i = 1 then .pick (okP i) fun k => .pure (.ok (.int k)) else .pure .bad) H B Q := post
        rw [if_pos c] at post
        exact ix_pool value slice pins s σ H x y v u Q I rx ry ⟨a, i, h1, h2, z2, c, fun k hk => post k hk _ H (Ex.refl _) den_int⟩ hs
      · have post : PostF C.Z WE0 (if i = 0 ∨ i = 1 then .pick (okP i) fun k => .pure (.ok (.int k)) else .pure .bad) H B Q := post
        rw [if_neg c] at post
        exact False.elim post
    | _ => exact False.elim post
  | _ => cases d <;> exact False.elim post

/-! ### built-ins by name -/
def rC (Z : Wd) (f : List D → R) : List V → Hp → VK → Prop := fun vs H Q => ∃ (B : Addr → Prop) (ds : List D), (∀ a, B a → ∃ o, H a = some o ∧ isMut o = true) ∧ DenL Z H B ds vs ∧ PostF1 Z WE0 H B Q (f ds)
def opc (f : List D → R) : List D → T R := fun ds => .pure (f ds).op
theorem opc_post {Z : Wd} {W : WE} {f : List D → R} {ds : List D} {H : Hp} {B : Addr → Prop} {Q : VK} (h : PostF Z W (opc f ds) H B Q) : PostF1 Z WE0 H B Q (f ds) := by
  have h : PostF1 Z W H B Q (f ds).op := h
  cases e : f ds with
  | ok d => rw [e] at h; exact h
  | fresh d => rw [e] at h; exact h
  | own i => rw [e] at h; exact h
  | exn c f => rw [e] at h; exact False.elim h
  | bad => rw [e] at h; exact h
section
variable {C : Cn} {x : Str} {f : List D → R}
theorem callB {id : String} (h : ∀ X, C.At X → CallR X (.builtin id) (rC C.Z f)) (hm : C.mg x = none) (hv : bootBuiltins x = some (.builtin id)) (h0 : f [] = .bad) (hn : x ≠ "__name__" := by decide) (hdb : (x == ("__debug__" : Str)) = false := by decide) : CallOk C x (opc f) := by
  intro X W A tk gl p pos es t hs ha
  refine ⟨fun pins s σ H Q I hq => ?_⟩
  cases es with
  | nil =>
    intro Γ pp hΓ
    obtain ⟨vs, H1, I1, r, B, ds, bt, hd, post⟩ := ha.run pos pins s σ H _ I hq Γ pp hΓ
    cases r
    have := hd.length
    cases ds with
    | nil => have z := opc_post post; rw [h0] at z; exact False.elim z
    | cons _ _ => cases this
  | cons e es =>
    rw [List.all_cons, Bool.and_eq_true] at hs
    refine wpAny_Call_Name_kw (ld_blt I gl (by rw [A.g]; exact hm) hv ?_ hn hdb)
    refine PyProof.Rows.callWith_builtin1 (thn (ha.run pos pins s σ H _ I hq) fun us s1 ⟨vs, H1, I1, r1, B, ds, bt, hd, post⟩ => ?_) (star_cons hs.1) (star_any hs.2)
    exact h X A pins s1 σ H1 vs us Q I1 r1 ⟨B, ds, bt, hd, opc_post post⟩
theorem callT {id : String} (h : ∀ X, C.At X → CallR X (.type id) (rC C.Z f)) (hm : C.mg x = none) (hv : bootBuiltins x = some (.type id)) (h0 : f [] = .bad) (hn : x ≠ "__name__" := by decide) (hdb : (x == ("__debug__" : Str)) = false := by decide) : CallOk C x (opc f) := by
  intro X W A tk gl p pos es t hs ha
  refine ⟨fun pins s σ H Q I hq => ?_⟩
  cases es with
  | nil =>
    intro Γ pp hΓ
    obtain ⟨vs, H1, I1, r, B, ds, bt, hd, post⟩ := ha.run pos pins s σ H _ I hq Γ pp hΓ
    cases r
    have := hd.length
    cases ds with
    | nil => have z := opc_post post; rw [h0] at z; exact False.elim z
    | cons _ _ => cases this
  | cons e es =>
    rw [List.all_cons, Bool.and_eq_true] at hs
    refine wpAny_Call_Name_kw (ld_blt I gl (by rw [A.g]; exact hm) hv ?_ hn hdb)
    refine PyProof.Rows.callWith_type1 (thn (ha.run pos pins s σ H _ I hq) fun us s1 ⟨vs, H1, I1, r1, B, ds, bt, hd, post⟩ => ?_) (star_cons hs.1) (star_any hs.2)
    exact h X A pins s1 σ H1 vs us Q I1 r1 ⟨B, ds, bt, hd, opc_post post⟩
end
def lenD : List D → R
  | [.lst ds] => .ok (.int ds.length)
  | [.tup ds] => .ok (.int ds.length)
  | [.pw is] => .ok (.int is.length)
  | [.str s] => if s.length ≤ lineMax then .ok (.int s.length) else .bad
  | _ => .bad
def absD : List D → R
  | [.int i] => .ok (.int (if i < 0 then -i else i))
  | _ => .bad
def maxD : List D → R
  | [.int i, .int j] => .ok (.int (if j > i then j else i))
  | _ => .bad
def minD : List D → R
  | [.int i, .int j] => .ok (.int (if j < i then j else i))
  | _ => .bad
def intD : List D → R
  | [.int i] => .ok (.int i)
  | [.bl k] => .ok (.int (if k then 1 else 0))
  | _ => .bad
def boolD : List D → R
  | [.int i] => .ok (.bl (i != 0))
  | [.bl k] => .ok (.bl k)
  | _ => .bad
def strD : List D → R
  | [.int i] => if i.natAbs.log2 < 1920 then .ok (.str (toString i)) else .bad
  | _ => .bad
section
variable {Z : Wd} {H : Hp} {B : Addr → Prop} {ds : List D} {vs : List V}
theorem den1 {d : D} (h : DenL Z H B [d] vs) : ∃ v, vs = [v] ∧ Den Z H B d v := by
  unfold DenL at h
  obtain ⟨v, r, rfl, h1, h2⟩ := h
  unfold DenL at h2
  subst h2
  exact ⟨v, rfl, h1⟩
theorem den2 {d e : D} (h : DenL Z H B [d, e] vs) : ∃ v w, vs = [v, w] ∧ Den Z H B d v ∧ Den Z H B e w := by
  unfold DenL at h
  obtain ⟨v, r, rfl, h1, h2⟩ := h
  obtain ⟨w, rfl, h3⟩ := den1 h2
  exact ⟨v, w, rfl, h1, h3⟩
end
theorem cr_ints1 {X : Cx} {Z : Wd} {u : Value} {f : List D → R} {r : List V → Hp → VK → Prop} (h : CallR X u r)
    (k : ∀ vs H B Q ds, DenL Z H B ds vs → PostF1 Z WE0 H B Q (f ds) → r vs H Q) : CallR X u (rC Z f) := fun pins s σ H xs us Q I rv ⟨B, ds, bt, hd, post⟩ => h pins s σ H xs us Q I rv (k xs H B Q ds hd post)
section
variable {C : Cn}
theorem call_absD (hm : C.mg "abs" = none) : CallOk C "abs" (opc absD) := callB (fun X A => cr_ints1 call_abs fun vs H B Q ds hd post => by
  unfold absD at post
  split at post
  · obtain ⟨v, rfl, h⟩ := den1 hd
    unfold Den at h
    exact ⟨_, by rw [h], post _ H (Ex.refl _) den_int⟩
  · exact False.elim post) hm PyProof.Rows.boot_abs rfl
theorem call_maxD (hm : C.mg "max" = none) : CallOk C "max" (opc maxD) := callB (fun X A => cr_ints1 (call_max2 A.calm) fun vs H B Q ds hd post => by
  unfold maxD at post
  split at post
  · obtain ⟨v, w, rfl, h, g⟩ := den2 hd
    unfold Den at h g
    exact ⟨_, _, by rw [h, g], post _ H (Ex.refl _) den_int⟩
  · exact False.elim post) hm PyProof.Rows.boot_max rfl
theorem call_minD (hm : C.mg "min" = none) : CallOk C "min" (opc minD) := callB (fun X A => cr_ints1 (call_min2 A.calm) fun vs H B Q ds hd post => by
  unfold minD at post
  split at post
  · obtain ⟨v, w, rfl, h, g⟩ := den2 hd
    unfold Den at h g
    exact ⟨_, _, by rw [h, g], post _ H (Ex.refl _) den_int⟩
  · exact False.elim post) hm PyProof.Rows.boot_min rfl
theorem call_intD (hm : C.mg "int" = none) : CallOk C "int" (opc intD) := callT (fun X A => cr_ints1 call_int1 fun vs H B Q ds hd post => by
  unfold intD at post
  split at post
  · obtain ⟨v, rfl, h⟩ := den1 hd
    unfold Den at h
    exact .inl ⟨_, by rw [h], post _ H (Ex.refl _) den_int⟩
  · obtain ⟨v, rfl, h⟩ := den1 hd
    unfold Den at h
    exact .inr ⟨_, by rw [h], post _ H (Ex.refl _) den_int⟩
  · exact False.elim post) hm PyProof.Rows.boot_int rfl
theorem call_boolD (hm : C.mg "bool" = none) : CallOk C "bool" (opc boolD) := callT (fun X A => cr_ints1 call_bool1 fun vs H B Q ds hd post => by
  unfold boolD at post
  split at post
  · obtain ⟨v, rfl, h⟩ := den1 hd
    unfold Den at h
    exact .inl ⟨_, by rw [h], post _ H (Ex.refl _) den_bl⟩
  · obtain ⟨v, rfl, h⟩ := den1 hd
    unfold Den at h
    exact .inr ⟨_, by rw [h], post _ H (Ex.refl _) den_bl⟩
  · exact False.elim post) hm PyProof.Rows.boot_bool rfl
theorem call_strD (hm : C.mg "str" = none) : CallOk C "str" (opc strD) := callT (fun X A => cr_ints1 call_str_int fun vs H B Q ds hd post => by
  unfold strD at post
  split at post
  · rename_i i
    obtain ⟨v, rfl, h⟩ := den1 hd
    unfold Den at h
    by_cases c : i.natAbs.log2 < 1920
    · rw [if_pos c] at post
      exact ⟨i, by rw [h], c, post _ H (Ex.refl _) den_str⟩
    · rw [if_neg c] at post; exact False.elim post
  · exact False.elim post) hm PyProof.Rows.boot_str rfl
theorem call_lenD (hm : C.mg "len" = none) : CallOk C "len" (opc lenD) := callB (fun X A => cr_ints1 call_len fun vs H B Q ds hd post => by
  unfold lenD at post
  split at post
  · obtain ⟨v, rfl, h⟩ := den1 hd
    unfold Den at h
    obtain ⟨a, ws, rfl, h1, h2⟩ := h
    refine ⟨_, _, rfl, .inl ⟨ws, by rw [A.k]; exact h1.sq, rfl⟩, ?_⟩
    rw [h2.length]
    exact post _ H (Ex.refl _) den_int
  · obtain ⟨v, rfl, h⟩ := den1 hd
    unfold Den at h
    obtain ⟨a, ws, rfl, h1, h2⟩ := h
    refine ⟨_, _, rfl, .inr ⟨ws, by rw [A.k]; exact h1, rfl⟩, ?_⟩
    rw [h2.length]
    exact post _ H (Ex.refl _) den_int
  · obtain ⟨v, rfl, h⟩ := den1 hd
    unfold Den at h
    obtain ⟨a, rfl, h1⟩ := h
    refine ⟨_, _, rfl, .inr ⟨_, .inl (.inl h1), rfl⟩, ?_⟩
    rw [List.length_map]
    exact post _ H (Ex.refl _) den_int
  · rename_i x
    obtain ⟨v, rfl, h⟩ := den1 hd
    unfold Den at h
    by_cases c : x.length ≤ lineMax
    · rw [if_pos c] at post
      rw [lineMax_eq] at c
      exact ⟨.str x, x.length, by rw [h], ⟨c, rfl⟩, post _ H (Ex.refl _) den_int⟩
    · rw [if_neg c] at post; exact False.elim post
  · exact False.elim post) hm boot_len rfl
end
end PM

set_option Elab.async false
set_option linter.all false
set_option maxRecDepth 100000
set_option maxHeartbeats 2000000
/-! PM16: a pool's def; isinstance; lists and texts joined. -/
namespace PM
open PySem PySem.Spec L2
open PyProof.Rows hiding St

/-- a new list of two numbers is drawn from -/
def sealR : R → R
  | .fresh (.lst [.int a, .int b]) => if 0 ≤ a ∧ 0 ≤ b ∧ b < 9223372036854775808 then .ok .pool else .bad
  | _ => .bad
def sealF (φ : List D → T R) : List D → T R := fun ds => (φ ds).bind fun r => .pure (sealR r)
section
variable {P : Program} {w : World} {K : PySem.W.Frag} {mg : Str → Option Value} {base : Heap} {lv : Nat} {cl : Str → Addr} {f : Addr} {fd : FuncData} {ps : List Str} {φ : List D → T R}
theorem hok_swap {H : Hp} {h : Heap} {p : Addr} {o o' : HO} (x : HOk P w H h) (hp : H p = some o) (n1 : ∀ xs, o ≠ .tup xs) (n4 : ∀ b, o ≠ .own b) (new : ObjOk P w (upd H p o') h p o') : HOk P w (upd H p o') h := fun b u e => by
  by_cases hb : b = p
  · subst hb
    rw [upd_same] at e
    cases e
    exact new
  · rw [upd_ne hb] at e
    refine (x b u e).stay (fun _ _ _ q => q) (fun c q => ?_) fun c xs q => ?_
    · rw [upd_ne (fun y => by subst y; rw [hp] at q; cases q; exact n4 _ rfl)]; exact q
    · rw [upd_ne (fun y => by subst y; rw [hp] at q; cases q; exact n1 _ rfl)]; exact q
theorem fn_pool (F : FnOkG P w K mg base lv f fd ps (spF ⟨K, cl⟩ φ)) : FnOkG P w K mg base lv f fd ps (spF ⟨K, cl⟩ (sealF φ)) := by
  have key : ∀ vs H Q E, spF ⟨K, cl⟩ (sealF φ) vs H Q E → spF ⟨K, cl⟩ φ vs H (fun v H' => ∃ p a b, v = .ref p ∧ okP 0 a ∧ okP 1 b ∧ H p = none ∧ H' p = some (.lst [.int a, .int b]) ∧ Q v (upd H' p (PoolH p))) E := by
    intro vs H Q E ⟨B, ds, bt, hd, post⟩
    refine ⟨B, ds, bt, hd, PostF.bindF post⟩
  refine ⟨fun vs H Q E q => F.len _ _ _ _ (key vs H Q E q), fun A outer s H args us vs Q E hr hg he hb hv hs => ?_⟩
  refine codeAny_mono (F.run A outer s H args us vs _ E hr hg he hb hv (key vs H Q E hs)) fun r s' hq => ?_
  cases r with
  | error e => exact hq
  | ok fl =>
    cases fl with
    | ret u =>
      obtain ⟨v, H', os, bare, un, hok, rv, p, a, b, rfl, ha, hb, hp, hp', q⟩ := hq
      obtain ⟨_, its, n, r, e⟩ := hok p _ hp'
      refine ⟨.ref p, upd H' p (PoolH p), os, bare, ⟨un.keep, un.slot, fun c o h1 h2 h3 => ?_, un.there, fun c xs e => ?_, fun c o u e => ?_, fun c ps e => ?_⟩, ?_, rv, q⟩
      · have z := un.free c o h1 h2 h3
        rw [upd_ne (fun y => by subst y; rw [hp'] at z; cases z)]; exact z
      · have z := un.tups c xs e
        rw [upd_ne (fun y => by subst y; rw [hp'] at z; cases z)]; exact z
      · have z := un.frzs c o u e
        rw [upd_ne (fun y => by subst y; rw [hp'] at z; cases z)]; exact z
      · obtain ⟨m, z⟩ := un.tbls c ps e
        exact ⟨m, by rw [upd_ne (fun y => by subst y; rw [hp'] at z; cases z)]; exact z⟩
      · exact hok_swap hok hp' (fun _ z => by cases z) (fun _ z => by cases z) ⟨⟨a, b, ha, hb, its, n, r, e⟩, ⟨_, e⟩, fun h1 h2 ⟨x, y, hx, hy, its, n, r, e⟩ k => ⟨x, y, hx, hy, its, n, r, k _ e⟩⟩
    | next => exact hq
    | brk => exact hq
    | cont => exact hq
where
  PostF.bindF {Z : Wd} {E : XK} {H : Hp} {B : Addr → Prop} {Q : VK} {t : T R} (h : PostF Z (fun c d H' => E c d H') (t.bind fun r => .pure (sealR r)) H B Q) :
      PostF Z (fun c d H' => E c d H') t H B (fun v H' => ∃ p a b, v = .ref p ∧ okP 0 a ∧ okP 1 b ∧ H p = none ∧ H' p = some (.lst [.int a, .int b]) ∧ Q v (upd H' p (PoolH p))) := by
    refine T.mono (fun r h => ?_) (T.all_bind.mp h)
    have h : PostF1 Z (fun c d H' => E c d H') H B Q (sealR r) := h
    unfold sealR at h
    split at h
    · rename_i a b _
      by_cases c : 0 ≤ a ∧ 0 ≤ b ∧ b < 9223372036854775808
      · rw [if_pos c] at h
        intro p H' hp e q
        obtain ⟨vs, q1, q2⟩ := q
        obtain ⟨v, u, rfl, q3, q4⟩ := den2 q2
        unfold Den at q3 q4
        subst q3
        subst q4
        refine ⟨p, a, b, rfl, c.1, c.2, hp, q1, h _ _ (fun x o z => ?_) (by unfold Den; exact ⟨p, rfl, upd_same⟩)⟩
        rw [upd_ne (ne_of_none z hp)]; exact e x o z
      · rw [if_neg c] at h; exact False.elim h
    · exact False.elim h
end

/-! ### isinstance, built-in types -/
def tyN : D → Option String
  | .non => some "NoneType"
  | .bl _ => some "bool"
  | .int _ => some "int"
  | .str _ => some "str"
  | .tup _ => some "tuple"
  | .pw _ => some "tuple"
  | .lst _ => some "list"
  | .dT _ _ => some "dict"
  | .dK _ _ => some "dict"
  | _ => none
theorem tyN_ok {Z : Wd} {H : Hp} {B : Addr → Prop} {d : D} {v : V} {T : String} (h : tyN d = some T) (q : Den Z H B d v) : TyX Z.K H v (.type T) := by
  cases d with
  | non => cases h; unfold Den at q; subst q; exact .base .non
  | bl b => cases h; unfold Den at q; subst q; exact .base (.bl b)
  | int i => cases h; unfold Den at q; subst q; exact .base (.int i)
  | str s => cases h; unfold Den at q; subst q; exact .base (.str s)
  | tup ds =>
    cases h; unfold Den at q
    obtain ⟨a, vs, rfl, q, _⟩ := q
    rcases q with (q | ⟨o, q⟩) | ⟨o, its, n, q1, q2, _⟩
    · exact .base (.tup q)
    · exact .fTuple q
    · exact .kTuple q1 q2
  | pw is =>
    cases h; unfold Den at q
    obtain ⟨a, rfl, q⟩ := q
    exact .base (.tup q)
  | lst ds =>
    cases h; unfold Den at q
    obtain ⟨a, vs, rfl, q, _⟩ := q
    rcases q.sq with (q | ⟨o, q⟩) | ⟨o, its, n, q1, q2, _⟩
    · exact .base (.lst q)
    · exact .base (.frz q)
    · exact .kList q1 q2
  | dT ks ds =>
    cases h; unfold Den at q
    obtain ⟨a, vs, rfl, _, q, _⟩ := q
    exact .base (.dT q)
  | dK ks ds =>
    cases h; unfold Den at q
    obtain ⟨a, vs, rfl, _, q, _⟩ := q
    exact .base (.dK q)
  | _ => cases h
/-- isinstance(x, c), c a built-in type -/
def isiD (c : String) : D → R := fun d => match tyN d with
  | some t => match kitB t c with
    | some b => .ok (.bl b)
    | none => .bad
  | none => .bad
end PM

set_option Elab.async false
set_option linter.all false
set_option maxRecDepth 100000
set_option maxHeartbeats 2000000
/-! PM17: what is walked. -/
namespace PM
open PySem PySem.Spec L2
open PyProof.Rows hiding St

/-- a reading, weakened -/
def clE (t : TE) : TE := fun σ H Q => ∃ Q0, t σ H Q0 ∧ ∀ v H1, Q0 v H1 → Q v H1
def clA (t : TA) : TA := fun σ H Q => ∃ Q0, t σ H Q0 ∧ ∀ v H1, Q0 v H1 → Q v H1
section
variable {X : Cx}
theorem pe_cl {e : Expr} {t : TE} (h : PE X e t) : PE X e (clE t) := ⟨fun pins s σ H Q I ⟨Q0, q, k⟩ => wpAny_mono (h.run pins s σ H Q0 I q) (fun _ _ ⟨v, H1, I1, r, z⟩ => ⟨v, H1, I1, r, k v H1 z⟩) fun _ _ x => x⟩
theorem pa_cl {es : List Expr} {t : TA} (h : PA X es t) : PA X es (clA t) := ⟨fun pos pins s σ H Q I ⟨Q0, q, k⟩ => wpAny_mono (h.run pos pins s σ H Q0 I q) (fun _ _ ⟨v, H1, I1, r, z⟩ => ⟨v, H1, I1, r, k v H1 z⟩) fun _ _ x => x⟩
end
section
variable {Z : Wd} {H : Hp} {B : Addr → Prop}
mutual
theorem Den.addN : ∀ (d : D) (v : V), Den Z H B d v → Den Z H (fun a => B a ∨ H a = none) d v
  | .non, v, h => by unfold Den at h ⊢; exact h
  | .bl b, v, h => by unfold Den at h ⊢; exact h
  | .int i, v, h => by unfold Den at h ⊢; exact h
  | .str s, v, h => by unfold Den at h ⊢; exact h
  | .tup ds, v, h => by
    unfold Den at h ⊢
    obtain ⟨a, vs, e, q, r⟩ := h
    exact ⟨a, vs, e, q, DenL.addN ds vs r⟩
  | .pw is, v, h => by unfold Den at h ⊢; exact h
  | .lst ds, v, h => by
    unfold Den at h ⊢
    obtain ⟨a, vs, e, q, r⟩ := h
    exact ⟨a, vs, e, q.imp (fun q => ⟨fun z => z.elim q.1 (fun z => by rcases q.2 with y | ⟨o, y⟩ <;> rw [z] at y <;> cases y), q.2⟩) id, DenL.addN ds vs r⟩
  | .dT ks ds, v, h => by
    unfold Den at h ⊢
    obtain ⟨a, kvs, e, nb, q, m, r⟩ := h
    exact ⟨a, kvs, e, fun z => z.elim nb (fun z => by rw [z] at q; cases q), q, m, DenL.addN ds _ r⟩
  | .dK ks ds, v, h => by
    unfold Den at h ⊢
    obtain ⟨a, kvs, e, nb, q, m, r⟩ := h
    exact ⟨a, kvs, e, fun z => z.elim nb (fun z => by rw [z] at q; cases q), q, m, DenL.addN ds _ r⟩
  | .ins c ns ds, v, h => by
    unfold Den at h ⊢
    obtain ⟨a, dx, fs, e, nb, q, m, r⟩ := h
    exact ⟨a, dx, fs, e, fun z => z.elim nb (fun z => by rw [z] at q; cases q), q, m, DenL.addN ds _ r⟩
  | .exn c f, v, h => by
    unfold Den at h ⊢
    obtain ⟨a, e, ⟨f0, q⟩ | ⟨dd, w, q1, q2, r⟩⟩ := h
    · exact ⟨a, e, .inl ⟨f0, q⟩⟩
    · exact ⟨a, e, .inr ⟨dd, w, q1, q2, DenL.addN f _ r⟩⟩
  | .pool, v, h => by unfold Den at h ⊢; exact h
theorem DenL.addN : ∀ (ds : List D) (vs : List V), DenL Z H B ds vs → DenL Z H (fun a => B a ∨ H a = none) ds vs
  | [], vs, h => by unfold DenL at h ⊢; exact h
  | d :: ds, vs, h => by
    unfold DenL at h ⊢
    obtain ⟨v, r, e, h1, h2⟩ := h
    exact ⟨v, r, e, Den.addN d v h1, DenL.addN ds r h2⟩
end
end
def itLst : List D → Option (List D)
  | [.lst ds] => some ds
  | _ => none
def itTup : List D → Option (List D)
  | [.tup ds] => some ds
  | _ => none
theorem walkD_at {Z : Wd} {J : It} {ds : List D} {vs : List V} {H : Hp} {B : Addr → Prop} {G : Hp → Prop} (w : Walk J vs.length G (YAt vs)) (hd : DenL Z H B ds vs) (hB : ∀ (B1 : Addr → Prop), (∀ a, B1 a → B a ∨ H a = none) → DenL Z H B1 ds vs ∧ ∀ H', Kp B1 H H' → G H') : WalkD Z J ds H B := by
  intro B1 hB1
  obtain ⟨h1, h2⟩ := hB B1 hB1
  refine ⟨G, YAt vs, by rw [← hd.length]; exact w, h2, fun i x H1 H2 k hi y => ?_⟩
  obtain ⟨rfl, hx⟩ := y
  obtain ⟨d, q1, q2⟩ := (h1.kp k fun _ z => z).at hx
  exact ⟨Ex.refl _, d, q1, q2⟩
/-- what denotes without B does so without what is new besides -/
theorem den_new {Z : Wd} {H : Hp} {B B1 : Addr → Prop} (hB : ∀ a, B1 a → B a ∨ H a = none) : (∀ (d : D) (v : V), Den Z H B d v → Den Z H B1 d v) ∧ ∀ (ds : List D) (vs : List V), DenL Z H B ds vs → DenL Z H B1 ds vs := by
  have key : ∀ (d : D) (v : V), Den Z H B d v → Den Z H (fun a => B a ∨ H a = none) d v := fun d v h => Den.addN d v h
  exact ⟨fun d v h => (key d v h).less hB, fun ds vs h => (DenL.addN ds vs h).less hB⟩
theorem LB.new {K : PySem.W.Frag} {H H' : Hp} {B B1 : Addr → Prop} {a : Addr} {vs : List V} (hB : ∀ a, B1 a → B a ∨ H a = none) (k : Kp B1 H H') (h : LB K H B a vs) : SqL K H' a vs := by
  rcases h with ⟨nb, h⟩ | h
  · refine .inl (kp_l k (fun z => ?_) h)
    rcases hB a z with z | z
    · exact nb z
    · rcases h with y | ⟨o, y⟩ <;> rw [z] at y <;> cases y
  · exact (LB.sq (H := H') (B := B1) (.inr h))
section
variable {C : Cn}
theorem it_lst : ItEx C itLst := by
  intro X tg iter te A he
  refine pi_weak (pi_list (pe_cl he)) fun σ H Rr h => ⟨_, h, fun v H1 ⟨B, d, items, q, e, k⟩ => ?_⟩
  cases d with
  | lst ds =>
    cases e
    unfold Den at q
    obtain ⟨a, vs, rfl, q1, q2⟩ := q
    exact ⟨a, rfl, ⟨vs, by rw [A.k]; exact q1.sq⟩, k _ H1 (Ex.refl _) (walkD_at walk_list q2 fun B1 hB => ⟨(den_new hB).2 _ _ q2, fun H' kp => by rw [A.k]; exact q1.new hB kp⟩)⟩
  | _ => cases e
theorem it_tup : ItEx C itTup := by
  intro X tg iter te A he
  refine pi_weak (pi_tup (pe_cl he)) fun σ H Rr h => ⟨_, h, fun v H1 ⟨B, d, items, q, e, k⟩ => ?_⟩
  cases d with
  | tup ds =>
    cases e
    unfold Den at q
    obtain ⟨a, vs, rfl, q1, q2⟩ := q
    exact ⟨a, rfl, ⟨vs, by rw [A.k]; exact q1⟩, k _ H1 (Ex.refl _) (walkD_at walk_tup q2 fun B1 hB => ⟨(den_new hB).2 _ _ q2, fun H' kp => by rw [A.k]; exact kp_t kp q1⟩)⟩
  | _ => cases e
/-- range(n), range(m, n): told by choice: so that no checker counts the great number down -/
noncomputable def rngB (i : Int) : Bool := @decide (-4611686018427387904 ≤ i ∧ i < 4611686018427387904) (Classical.propDecidable _)
def intsD (lo : Int) (n : Nat) : List D := (List.range n).map fun (k : Nat) => .int (lo + k)
noncomputable def itRng1 : List D → Option (List D)
  | [.int n] => if rngB n = true then some (intsD 0 n.toNat) else none
  | _ => none
noncomputable def itRng2 : List D → Option (List D)
  | [.int m, .int n] => if (rngB m && rngB n) = true then some (intsD m (n - m).toNat) else none
  | _ => none
theorem rngB_ok {i : Int} (h : rngB i = true) : -(2 ^ 62) ≤ i ∧ i < 2 ^ 62 := by
  unfold rngB at h
  have h := @of_decide_eq_true _ (Classical.propDecidable _) h
  exact ⟨by omega, by omega⟩
theorem walkD_rng {Z : Wd} {lo : Int} {n : Nat} {H : Hp} {B : Addr → Prop} : WalkD Z (Itr lo n) (intsD lo n) H B := by
  intro B1 hB1
  have hl : (intsD lo n).length = n := by unfold intsD; simp
  refine ⟨_, _, by rw [hl]; exact walk_range, fun _ _ => trivial, fun i x H1 H2 k hi y => ?_⟩
  obtain ⟨rfl, rfl⟩ := y
  rw [hl] at hi
  refine ⟨Ex.refl _, .int (lo + i), ?_, den_int⟩
  unfold intsD
  rw [List.getElem?_map, List.getElem?_range hi]
  rfl
theorem it_rng1 (hm : C.mg "range" = none) : ItCl C "range" 1 itRng1 := by
  intro X tg A gl ht p pos xs t hn hs ha
  have hm' : X.mg "range" = none := by rw [A.g]; exact hm
  obtain ⟨a, rfl⟩ : ∃ a, xs = [a] := List.length_eq_one_iff.mp hn
  simp only [List.all_cons, List.all_nil, Bool.and_true] at hs
  refine pi_weak (pi_range1 gl hm' (pa_cl ha) (star_cons hs)) fun σ H Rr h => ⟨_, h, fun vs H1 ⟨B, ds, items, q, e, k⟩ => ?_⟩
  unfold itRng1 at e
  split at e
  · rename_i n
    obtain ⟨v, rfl, h1⟩ := den1 q
    unfold Den at h1
    subst h1
    by_cases c : rngB n = true
    · rw [if_pos c] at e
      cases e
      exact ⟨n, rfl, (rngB_ok c).1, (rngB_ok c).2, k _ H1 (Ex.refl _) walkD_rng⟩
    · rw [if_neg c] at e; cases e
  · cases e
theorem it_rng2 (hm : C.mg "range" = none) : ItCl C "range" 2 itRng2 := by
  intro X tg A gl ht p pos xs t hn hs ha
  have hm' : X.mg "range" = none := by rw [A.g]; exact hm
  obtain ⟨a, b, rfl⟩ : ∃ a b, xs = [a, b] := by
    match xs, hn with
    | [a, b], _ => exact ⟨a, b, rfl⟩
  simp only [List.all_cons, List.all_nil, Bool.and_true, Bool.and_eq_true] at hs
  refine pi_weak (pi_range2 gl hm' (pa_cl ha) (by rw [star_cons hs.1, star_cons hs.2]; rfl) (star_cons hs.2)) fun σ H Rr h => ⟨_, h, fun vs H1 ⟨B, ds, items, q, e, k⟩ => ?_⟩
  unfold itRng2 at e
  split at e
  · rename_i m n
    obtain ⟨v, w, rfl, h1, h2⟩ := den2 q
    unfold Den at h1 h2
    subst h1
    subst h2
    by_cases c : (rngB m && rngB n) = true
    · rw [if_pos c] at e
      cases e
      rw [Bool.and_eq_true] at c
      have c1 := rngB_ok c.1
      have c2 := rngB_ok c.2
      exact ⟨m, n, rfl, ⟨c1.1, c1.2, c2.1, c2.2⟩, k _ H1 (Ex.refl _) walkD_rng⟩
    · rw [if_neg c] at e; cases e
  · cases e
end
end PM

set_option Elab.async false
set_option linter.all false
set_option maxRecDepth 100000
set_option maxHeartbeats 2000000
/-! PM18: isinstance. -/
namespace PM
open PySem PySem.Spec L2
open PyProof.Rows hiding St
section
variable {C : Cn}
theorem isi1 {c : Str} {T : String} (hm : C.mg "isinstance" = none) (hc : C.mg c = none) (hv : bootBuiltins c = some (.type T)) (hn : c ≠ "__name__" := by decide) (hd : (c == ("__debug__" : Str)) = false := by decide) : IsiOk C (isiD T) [c] false := by
  intro X A gl gls ea ec p pos ta ns he hcs
  have hm' : X.mg "isinstance" = none := by rw [A.g]; exact hm
  have hc' : X.mg c = none := by rw [A.g]; exact hc
  obtain ⟨q, rfl⟩ : ∃ q, ec = .Name c q := by
    have hcs : (nameIs c ec && namesAre [] []) = true := hcs
    rw [Bool.and_eq_true] at hcs
    cases ec with
    | Name y q =>
      have z : c = y := of_decide_eq_true hcs.1
      exact ⟨q, by rw [z]⟩
    | _ => exact absurd hcs.1 Bool.false_ne_true
  have pc : PE X (.Name c q) (tC (.ty T)) := pe_bltn (gls c (List.mem_cons_self ..)) hc' hv rfl hn hd
  refine pe_weak (pe_callB call_isi gl hm' PyProof.Rows.boot_isinstance (pa_cons (pe_cl he) (pa_cons pc pa_nil) (star_cons ns)) (by decide) (by decide) (star_cons ns)) fun σ H Q h => ⟨_, h, fun x H1 ⟨B, d, bt, q1, post⟩ => ?_⟩
  have post : PostF1 C.Z WE0 H1 B Q (isiD T d) := post
  unfold isiD at post
  cases e1 : tyN d with
  | none => rw [e1] at post; exact False.elim post
  | some t =>
    rw [e1] at post
    dsimp only at post
    cases e2 : kitB t T with
    | none => rw [e2] at post; exact False.elim post
    | some b =>
      rw [e2] at post
      exact ⟨x, .ty T, .type t, .type T, b, rfl, .ty T, by rw [A.k]; exact tyN_ok e1 q1.all, kit_ty e2, post _ H1 (Ex.refl _) den_bl⟩
end
end PM

set_option Elab.async false
set_option linter.all false
set_option maxRecDepth 100000
set_option maxHeartbeats 2000000
/-! PM19: list + list. -/
namespace PM
open PySem PySem.Spec L2
open PyProof.Rows hiding St
/-- list + list, of any kind -/
def rCatQ (K : PySem.W.Frag) : R2 := fun x y H Q => ∃ l b xs zs, x = .ref l ∧ y = .ref b ∧ SqL K H l xs ∧ SqL K H b zs ∧ xs.length + zs.length ≤ sizeLine ∧ ∀ p, H p = none → Q (.ref p) (upd H p (.lst (xs ++ zs)))
theorem op_catQ {X : Cx} : OpR X (binaryOp .Add) (rCatQ X.K) := by
  intro pins s σ H x y v u Q I rx ry h
  obtain ⟨l, b, xs, zs, rfl, rfl, hH, hB, hz, q⟩ := h
  cases rx
  cases ry
  obtain ⟨its, r, ⟨⟨cls, dd, data, sl⟩, n, ho, hc, _, hd⟩, _⟩ := I.list hH
  obtain ⟨its2, r2, ⟨⟨cls2, dd2, data2, sl2⟩, n2, ho2, hc2, _, hd2⟩, _⟩ := I.list hB
  simp only at hc hd hc2 hd2
  subst hc hd hc2 hd2
  have hl := r.length
  have hl2 := r2.length
  have ea : its.toArray ++ its2.toArray = (its ++ its2).toArray := by simp
  refine concat_meets ⟨_, ho, rfl⟩ ⟨_, ho2, rfl⟩ noFill_list_add seq_list_add PySem.F.slot_list_add PySem.F.entry_list_add (PySem.F.args_list_add_2 _ _) (list_addW l b its.toArray its2.toArray n n2 dd dd2 sl sl2 (by rw [List.size_toArray, List.size_toArray]; omega)) ⟨ho, ho2, ?_⟩
  rw [ea]
  exact ⟨.ref _, _, I.lnew (t' := s.toks) (r.append r2) (by rw [List.length_append]; omega), rfl, q _ I.fresh⟩
def addL : D → D → R
  | .lst a, .lst b => if a.length + b.length ≤ lineMax then .fresh (.lst (a ++ b)) else .bad
  | _, _ => .bad
theorem rd_lst {Z : Wd} {H : Hp} {B : Addr → Prop} {ds : List D} {x : V} (q : RdD Z H B (.lst ds) x) : ∃ a vs, x = .ref a ∧ SqL Z.K H a vs ∧ DenL Z H B ds vs := by
  rcases q with q | ⟨p, rfl, vs, h1, h2⟩
  · unfold Den at q
    obtain ⟨a, vs, h1, h2, h3⟩ := q
    exact ⟨a, vs, h1, h2.sq, h3⟩
  · exact ⟨p, vs, rfl, .inl (.inl h1), h2⟩
theorem bin_addL {C : Cn} : BinOk C .Add addL := by
  intro X A pins s σ H x y v u Q I rx ry q
  obtain ⟨B, d, e, bt, q1, q2, post⟩ := q
  cases d with
  | lst a =>
    cases e with
    | lst b =>
      have post : PostF1 C.Z WE0 H B Q (if a.length + b.length ≤ lineMax then .fresh (.lst (a ++ b)) else .bad) := post
      by_cases c : a.length + b.length ≤ lineMax
      · rw [if_pos c] at post
        obtain ⟨l, vs, h1, h2, h3⟩ := rd_lst q1
        obtain ⟨m, ws, g1, g2, g3⟩ := rd_lst q2
        rw [lineMax_eq] at c
        refine op_catQ pins s σ H x y v u Q I rx ry ⟨l, m, vs, ws, h1, g1, by rw [A.k]; exact h2, by rw [A.k]; exact g2, by rw [h3.length, g3.length]; exact c, fun p hp => ?_⟩
        exact post p _ hp (Ex.new hp) ⟨vs ++ ws, upd_same, (DenL.add hp _ _ (h3.append g3)).ex (Ex.new hp)⟩
      · rw [if_neg c] at post; exact False.elim post
    | _ => exact False.elim (show False from post)
  | _ => exact False.elim (show False from post)
end PM

set_option Elab.async false
set_option linter.all false
set_option maxRecDepth 100000
set_option maxHeartbeats 2000000
/-! PM20: raise, except. -/
namespace PM
open PySem PySem.Spec L2
open PyProof.Rows hiding St
/-- what is handed to an exception class of no own __init__ is not kept -/
def rzD : List D → Option (List D)
  | [.str _] => some []
  | _ => none
section
variable {C : Cn}
theorem raise_own {x : Str} (gC : C.mg x = some (.ref (C.cl x))) (q : PySem.W.excIn C.K (C.cl x) He.veBase "ValueError.__new__" = true) (kC : PySem.W.keepIn C.K (.ref (C.cl x)) = true)
    (s1 : PySem.W.subIn C.K (.ref (C.cl x)) (.type "BaseException") = some true) (s2 : PySem.W.typeIn C.K (.ref (C.cl x)) = some (.type "type")) (hdb : (x == ("__debug__" : Str)) = false := by decide) : RaiseOk C x rzD := by
  intro X A gl p pos es t hs ha
  cases es with
  | nil =>
    intro pins s σ H Q I h
    intro Γ pp hΓ
    obtain ⟨vs, H1, I1, r, B, ds, fs, hd, e, k⟩ := ha.run pos pins s σ H _ I h Γ pp hΓ
    cases r
    have := hd.length
    cases ds with
    | nil => cases e
    | cons _ _ => cases this
  | cons e es =>
    rw [List.all_cons, Bool.and_eq_true] at hs
    have h0 := pmk_ownA (X := X) (C := C.cl x) (p := p) (pos := pos) PySem.F.excBase_ValueError (by rw [A.k]; exact q) (by rw [A.g]; exact gC) (by rw [A.k]; exact kC) (raises_own (by rw [A.k]; exact s1) (by rw [A.k]; exact s2)) gl (pa_cl ha) hdb (star_cons hs.1) (star_any hs.2)
    intro pins s σ H Q I h
    refine h0 pins s σ H Q I ⟨_, h, fun vs H1 ⟨B, ds, fs, hd, e, k⟩ => ?_⟩
    unfold rzD at e
    split at e
    · cases e
      obtain ⟨v, rfl, _⟩ := den1 hd
      exact ⟨by show 1 ≤ sizeLine; rw [sizeLine_eq]; omega, k H1 none (Ex.refl _) (.inl ⟨rfl, rfl⟩)⟩
    · cases e
end
end PM

set_option Elab.async false
set_option linter.all false
set_option maxRecDepth 100000
set_option maxHeartbeats 4000000
/-! PM21: isinstance of an exception that is held, with a number or without. -/
namespace PM.XI
open PySem PySem.Spec PySem.Calls PyProof.Rows PySem.W
section
variable {prog : Program} {w : World} {A : Around} {E : Value → Shared → Prop} {s : Shared} {K : Frag} {x D : Addr} {ox : Obj} {oD : Option Obj}
theorem findObj_dataA {C : Addr} {name : Str} {a g : Value} (c : (clsIn K C).isSome = true) (f : findIn K (.ref C) name = some (some a))
    (r : specialIn K a "__get__" = some (some g)) (t : takesIn K a = some true) : findObj K C oD name = some (.bind g a) := by
  obtain ⟨cd, c⟩ := Option.isSome_iff_exists.mp c
  unfold findObj
  rw [c, Option.bind_some, f, Option.bind_some]; simp [r, t]
theorem kin_any {Q : Option Value → Shared → Prop} (T : L2.ExcC K D) (X : K.In s.heap) (I : InstAt s.heap x ox D oD) (h : Q (some (.ref D)) { s with toks := s.toks + 1 }) : wpAny (model prog w) A (getAttr? (.ref x) "__class__") Q E s := by
  obtain ⟨hga, hgt, hsub, hdct, ha, hn, htk, hm⟩ := T
  (have hf : findObj K D oD "__class__" = some (.bind (.builtin "getset_descriptor.__get__") (.builtin "object.__class__")) := findObj_dataA (by obtain ⟨cd, hc, _⟩ := any_some hdct; rw [hc]; rfl) ha hn htk); (obtain ⟨hp, g, d, t, os⟩ := s)
  (have l0 := I.type (M := model prog w)); (have l1 := looks_findIn (M := model prog w) X hga)
  (have l2 := looks_findIn (M := model prog w) X hgt); (have l3 := looks_find (M := model prog w) X I hf)
  (have sub : Looks (model prog w) hp (isInstance (.ref x) (.type "BaseException")) true := l0.andThen (looks_subIn X hsub)); (have y0 : (false && onTheHeap (Value.builtin "BaseException.__getattribute__")) = false := rfl)
  (have y2 : (Value.builtin "BaseException.__getattribute__" == Value.builtin "object.__getattribute__") = false := by decide +kernel); (have y1 : (onTheHeap (Value.ref D) && Value.builtin "BaseException.__getattribute__" == Value.builtin "object.__getattribute__") = false := by rw [y2]; rfl)
  (unfold getAttr? getAttrBy? getAttrBy); (refine wpAny_bind (wpAny_mkText (wpAny_bind (wpAny_attempt (wpAny_holding (wpAny_bind (l0.at (wpAny_bind (l1.at ?_)))))))))
  (show wpAny _ _ (if (onTheHeap (Value.ref D) && Value.builtin "BaseException.__getattribute__" == Value.builtin "object.__getattribute__") = true then _ else _) _ _ _); (rw [y1, if_neg Bool.false_ne_true])
  (unfold getAttrByItsOwn hookBefore); (refine wpAny_bind ?_)
  (rw [if_pos (show onTheHeap (Value.ref D) = true from rfl)]); (refine l2.at ?_)
  (refine wpAny_bind (wpAny_attempt (wpAny_holding ?_))); (unfold callGetattribute)
  (rw [y0, if_neg Bool.false_ne_true]); (unfold boundAndCalled)
  (rw [PySem.F.excAttr_ValueError.ga.bind (.ref x)]); (refine wpAny_bind (wpAny_pure ?_))
  (show wpAny _ _ (call (.builtin "BaseException.__getattribute__") [.ref x, .str "__class__" t]) _ _ _); (refine wpAny_call (codeAny_call_builtin PySem.F.excAttr_ValueError.ga.plain PySem.F.entry_bexc_ga ?_))
  (refine @check_slot (model prog w) _ _ ⟨hp, g, d, t + 1, os⟩ "BaseException.__getattribute__" "BaseException" "__getattribute__" (.ref x) [.str "__class__" t] [] _ (by decide +kernel) (by decide +kernel) sub (PySem.F.args_bexc_ga (.ref x) (.str "__class__" t)) ?_); (unfold Builtin.«object.__getattribute__»)
  (refine wpAny_bind (wpAny_of_eq (a := ((Value.ref x : Value), [Value.str "__class__" t])) (by first | rfl | (simp only [slotArgs]; rfl)) ?_)); (refine wpAny_bind (wpAny_pure (wpAny_bind (l0.at (wpAny_bind (l3.at ?_))))))
  (show wpAny _ _ (holding [Value.builtin "object.__class__"] (call (.builtin "getset_descriptor.__get__") [.builtin "object.__class__", .ref x, .ref D]) >>= ret) _ _ _); (refine wpAny_bind (wpAny_holding (wpAny_call (class_get (s := ⟨hp, g, d, t + 1, os⟩) (ox := ox) (od := oD) X I hm ?_))))
  (refine wpAny_pure ?_); (show wpAny _ _ (handedOut (.ref D)) _ _ _)
  rw [handedOut_of (v := .ref D) rfl]
  first | exact wpAny_pure (wpAny_pure h) | exact wpAny_pure h | exact wpAny_pure (wpAny_bind (wpAny_pure (wpAny_pure h)))
theorem kitx_any (T : L2.ExcC K D) : KitX K (.ref x) (.ref D) (fun h => InstAt h x ox D oD) := by
  refine ⟨fun _ _ _ I => I.type, fun _ _ X _ => ?_, fun h tp dd its n sl X htp => ?_, fun X I k => kin_any T X I k⟩
  · obtain ⟨c, hc, _⟩ := any_some T.hd
    unfold clsIn at hc
    split at hc
    · rename_i ho
      intro A1 Q1 E1 s1 k q
      unfold isType loadHead
      exact wpAny_bind (wpAny_loadPart (k _ _ (X _ _ ho)) (wpAny_pure q))
    · cases hc
  · obtain ⟨c, hc, _⟩ := any_some T.hd
    refine Bool.eq_false_iff.mpr fun q => ?_
    have e : D = tp := Value.ref.inj (beq_iff_eq.mp q)
    subst e
    unfold clsIn at hc
    split at hc
    · rename_i ho
      cases (X _ _ ho).symm.trans htp
    · cases hc
end
end PM.XI
namespace PM
open PySem PySem.Spec L2
open PyProof.Rows hiding St
def rIsX (K : PySem.W.Frag) (D : Addr) : List V → Hp → VK → Prop := fun xs H Q => ∃ (a : Addr) (dd : Option Addr) (c : V) (cv : Value) (b : Bool), xs = [.ref a, c] ∧ H a = some (ExH D dd a) ∧ (∀ d, dd = some d → ∃ fs, H d = some (.xd fs)) ∧ (∀ u, RelV c u → u = cv) ∧ PySem.W.kitOne K (.ref D) cv = some b ∧ Q (.bl b) H
theorem call_isX {X : Cx} {D : Addr} (C : ExcC X.K D) : CallR X (.builtin "isinstance") (rIsX X.K D) := by
  intro pins s σ H xs us Q I r h
  obtain ⟨a, dd, c, cv, b, rfl, hx, hd, hcv, e, q⟩ := h
  cases r with
  | cons rx rr =>
    cases rr with
    | cons rt rr =>
      cases rr
      cases rx
      have ec := hcv _ rt
      subst ec
      obtain ⟨⟨oe, vs, hget, hz, hv⟩, _, _⟩ := I.hok a _ hx
      obtain ⟨oD, J⟩ : ∃ oD, PySem.W.InstAt s.heap a oe D oD := by
        obtain ⟨oc, od, oda, osl⟩ := oe
        obtain ⟨h1, h2⟩ := hz
        dsimp only at h1 h2 hv
        subst h1 h2 hv
        cases od with
        | none => exact ⟨none, hget, rfl, rfl, trivial⟩
        | some d =>
          obtain ⟨fs, hfs⟩ := hd d rfl
          have hy : ObjOk X.prog X.w H s.heap d (.xd fs) := I.hok d _ hfs
          obtain ⟨mA, ⟨o, _, _, ho, _⟩, _⟩ := hy
          exact ⟨some o, hget, rfl, rfl, ho⟩
      exact PySem.W.kia_one (XI.kitx_any C) I.kIn J e (fun z => nomatch z) fun tk => ⟨.bl b, H, I.kept (t' := tk) fun _ _ z => z, rfl, q⟩
end PM

set_option Elab.async false
set_option linter.all false
set_option maxRecDepth 100000
set_option maxHeartbeats 2000000
/-! PM22: more facts that a head tells: an exception class as isinstance asks it, classes' kinship. -/
namespace PM
open PySem PySem.Spec L2
open PyProof.Rows hiding St
def excB (K : PySem.W.Frag) (D : Addr) : Bool :=
  He.eqO (PySem.W.findIn K (.ref D) "__getattribute__") (some (some (.builtin "BaseException.__getattribute__"))) && (He.eqO (PySem.W.findIn K (.ref D) "__getattr__") (some none) && (decide (PySem.W.subIn K (.ref D) (.type "BaseException") = some true) && (PySem.W.hasDictIn K D &&
  (He.eqO (PySem.W.findIn K (.ref D) "__class__") (some (some (.builtin "object.__class__"))) && (He.eqO (PySem.W.specialIn K (.builtin "object.__class__") "__get__") (some (some (.builtin "getset_descriptor.__get__"))) &&
  (decide (PySem.W.takesIn K (.builtin "object.__class__") = some true) && decide (PySem.W.mroIn K D (.type "object") = some true)))))))
theorem excB_ok {K : PySem.W.Frag} {D : Addr} (h : excB K D = true) : ExcC K D := by
  unfold excB at h
  simp only [Bool.and_eq_true, decide_eq_true_eq] at h
  obtain ⟨h1, h2, h3, h4, h5, h6, h7, h8⟩ := h
  exact ⟨He.eqO_ok h1, He.eqO_ok h2, h3, h4, He.eqO_ok h5, He.eqO_ok h6, h7, h8⟩
/-- isinstance's answer for an instance of the class named x, asked for the class named y -/
def kinB (K : PySem.W.Frag) (x y : Str) (b : Bool) : Bool := decide (PySem.W.kitOne K (.ref (He.ga K x)) (.ref (He.ga K y)) = some b)
theorem kinB_ok {K : PySem.W.Frag} {x y : Str} {b : Bool} (h : kinB K x y b = true) : PySem.W.kitOne K (.ref (He.ga K x)) (.ref (He.ga K y)) = some b := of_decide_eq_true h
def kinT (K : PySem.W.Frag) (x : Str) (t : String) (b : Bool) : Bool := decide (PySem.W.kitOne K (.ref (He.ga K x)) (.type t) = some b)
theorem kinT_ok {K : PySem.W.Frag} {x : Str} {t : String} {b : Bool} (h : kinT K x t b = true) : PySem.W.kitOne K (.ref (He.ga K x)) (.type t) = some b := of_decide_eq_true h
end PM

set_option Elab.async false
set_option linter.all false
set_option maxRecDepth 100000
set_option maxHeartbeats 2000000
/-! PM23: isinstance in general, one class. -/
namespace PM
open PySem PySem.Spec L2
open PyProof.Rows hiding St
/-- a class by its name: a built-in type, an own one -/
structure ClsAt (C : Cn) (c : Str) (v : V) (u : Value) : Prop where
  cv : ClsV v u
  pe : ∀ (X : Cx) (q : Pos), C.At X → Gl X c → PE X (.Name c q) (tC v)
/-- what isinstance answers of data -/
def KinOk (C : Cn) (u : Value) (d : D) (b : Bool) : Prop := (∃ t, tyN d = some t ∧ PySem.W.kitOne C.K (.type t) u = some b) ∨ ∃ cn fs, d = .exn cn fs ∧ ExcC C.K (C.cl cn) ∧ PySem.W.kitOne C.K (.ref (C.cl cn)) u = some b
def isiR (f : D → Option Bool) : D → R := fun d => match f d with
  | some b => .ok (.bl b)
  | none => .bad
section
variable {C : Cn}
theorem clsAt_ty {c : Str} {T : String} (hc : C.mg c = none) (hv : bootBuiltins c = some (.type T)) (hn : c ≠ "__name__" := by decide) (hd : (c == ("__debug__" : Str)) = false := by decide) : ClsAt C c (.ty T) (.type T) :=
  ⟨.ty T, fun X q A gl => pe_bltn gl (by rw [A.g]; exact hc) hv rfl hn hd⟩
theorem clsAt_own {c : Str} {a : Addr} (hc : C.mg c = some (.ref a)) (hd : (c == ("__debug__" : Str)) = false := by decide) : ClsAt C c (.ref a) (.ref a) :=
  ⟨.own a, fun X q A gl => pe_glob gl (by rw [A.g]; exact hc) rfl hd⟩
theorem isiX {c : Str} {v : V} {u : Value} {f : D → Option Bool} (hm : C.mg "isinstance" = none) (hc : ClsAt C c v u) (hf : ∀ d b, f d = some b → KinOk C u d b) : IsiOk C (isiR f) [c] false := by
  intro X A gl gls ea ec p pos ta ns he hcs
  have hm' : X.mg "isinstance" = none := by rw [A.g]; exact hm
  obtain ⟨q, rfl⟩ : ∃ q, ec = .Name c q := by
    have hcs : (nameIs c ec && namesAre [] []) = true := hcs
    rw [Bool.and_eq_true] at hcs
    cases ec with
    | Name y q =>
      have z : c = y := of_decide_eq_true hcs.1
      exact ⟨q, by rw [z]⟩
    | _ => exact absurd hcs.1 Bool.false_ne_true
  have pc : PE X (.Name c q) (tC v) := hc.pe X q A (gls c (List.mem_cons_self ..))
  have cr : CallR X (.builtin "isinstance") (fun xs H Q => rIsi X.K xs H Q ∨ ∃ D, ExcC X.K D ∧ rIsX X.K D xs H Q) := fun pins s σ H xs us Q I r h => h.elim (call_isi pins s σ H xs us Q I r) fun ⟨D, e, h⟩ => call_isX e pins s σ H xs us Q I r h
  refine pe_weak (pe_callB cr gl hm' PyProof.Rows.boot_isinstance (pa_cons (pe_cl he) (pa_cons pc pa_nil) (star_cons ns)) (by decide) (by decide) (star_cons ns)) fun σ H Q h => ⟨_, h, fun x H1 ⟨B, d, bt, q1, post⟩ => ?_⟩
  have post : PostF1 C.Z WE0 H1 B Q (isiR f d) := post
  unfold isiR at post
  cases e1 : f d with
  | none => rw [e1] at post; exact False.elim post
  | some b =>
    rw [e1] at post
    have fin := post _ H1 (Ex.refl _) den_bl
    rcases hf d b e1 with ⟨t, e2, e3⟩ | ⟨cn, fs, rfl, e2, e3⟩
    · exact .inl ⟨x, v, .type t, u, b, rfl, hc.cv, by rw [A.k]; exact tyN_ok e2 q1.all, by rw [A.k]; exact e3, fin⟩
    · have z := q1.all
      unfold Den at z
      obtain ⟨a, rfl, ⟨_, z⟩ | ⟨dd, w, z, z2, _⟩⟩ := z
      · exact .inr ⟨C.cl cn, by rw [A.k]; exact e2, a, none, v, u, b, rfl, z, (fun _ e => nomatch e), fun w r => hc.cv.eq r, by rw [A.k]; exact e3, fin⟩
      · exact .inr ⟨C.cl cn, by rw [A.k]; exact e2, a, some dd, v, u, b, rfl, z, (fun d e => by cases e; exact ⟨_, z2⟩), fun w r => hc.cv.eq r, by rw [A.k]; exact e3, fin⟩
end
end PM

set_option Elab.async false
set_option linter.all false
set_option maxRecDepth 100000
set_option maxHeartbeats 2000000
/-! PM24: sum; the fact that an except clause asks. -/
namespace PM
open PySem PySem.Spec L2
open PyProof.Rows hiding St
def sumD : List D → R
  | [.lst ds] => match intsOf ds with
    | some is => .ok (.int is.sum)
    | none => .bad
  | [.pw is] => .ok (.int is.sum)
  | _ => .bad
def rSumT (K : PySem.W.Frag) : List V → Hp → VK → Prop := fun vs H Q => ∃ (a : Addr) (ns : List Int), vs = [V.ref a] ∧ SqT K H a (ns.map V.int) ∧ Q (.int ns.sum) H
theorem cr_sumT {X : Cx} (hc : X.calm = true) : CallR X (.builtin "sum") (rSumT X.K) := by
  intro pins s σ H vs us Q I r h
  obtain ⟨a, ns, rfl, hs, q⟩ := h
  obtain ⟨its, rv, hl, _⟩ := I.tuple hs
  rw [Vals.ref1 r]
  obtain ⟨xs, e⟩ := rv.ints.allInts.items
  have hn : numsOf (intItems xs).toList = ns := by rw [← e]; exact rv.ints.numsOf
  rw [nums_intItems] at hn
  have hl : s.heap.IsTuple a its.toArray := hl
  rw [e] at hl
  refine PySem.W.ktm_sumG (I.ok.hd hc) hl fun h' tk t' hk => ?_
  rw [preSum_eq, List.take_of_length_le (by simp), hn]
  exact ⟨.int _, H, I.kept hk, ⟨_, rfl⟩, q⟩
theorem cr_sumD {X : Cx} {Z : Wd} (hc : X.calm = true) (hk : X.K = Z.K) : CallR X (.builtin "sum") (rC Z sumD) := by
  intro pins s σ H xs us Q I rv ⟨B, ds, bt, hd, post⟩
  unfold sumD at post
  split at post
  · rename_i es
    cases e : intsOf es with
    | none => rw [e] at post; exact False.elim post
    | some is =>
      rw [e] at post
      obtain ⟨v, rfl, h⟩ := den1 hd
      unfold Den at h
      obtain ⟨a, ws, rfl, h1, h2⟩ := h
      have z := intsOf_den e h2
      subst z
      exact cr_sum hc pins s σ H _ us Q I rv ⟨a, is, rfl, by rw [hk]; exact h1.sq, post _ H (Ex.refl _) den_int⟩
  · obtain ⟨v, rfl, h⟩ := den1 hd
    unfold Den at h
    obtain ⟨a, rfl, h1⟩ := h
    exact cr_sumT hc pins s σ H _ us Q I rv ⟨a, _, rfl, .inl (.inl h1), post _ H (Ex.refl _) den_int⟩
  · exact False.elim post
theorem call_sumD {C : Cn} (hm : C.mg "sum" = none) : CallOk C "sum" (opc sumD) := callB (fun X A => cr_sumD A.calm A.k) hm PyProof.Rows.boot_sum rfl
end PM

set_option Elab.async false
set_option linter.all false
set_option maxRecDepth 100000
set_option maxHeartbeats 2000000
/-! PM25: operators for all kinds of data; isinstance with several classes. -/
namespace PM
open PySem PySem.Spec L2
open PyProof.Rows hiding St

theorem rd_tup {Z : Wd} {H : Hp} {B : Addr → Prop} {ds : List D} {x : V} (q : RdD Z H B (.tup ds) x) : ∃ a vs, x = .ref a ∧ SqT Z.K H a vs ∧ DenL Z H B ds vs := by
  rcases q with q | ⟨p, rfl, q⟩
  · unfold Den at q
    exact q
  · exact False.elim q
theorem den_tup {Z : Wd} {H : Hp} {B : Addr → Prop} {ds : List D} {a : Addr} {vs : List V} (h : SqT Z.K H a vs) (r : DenL Z H B ds vs) : Den Z H B (.tup ds) (.ref a) := by
  unfold Den
  exact ⟨a, vs, rfl, h, r⟩
theorem den_tupN {Z : Wd} {H : Hp} {B : Addr → Prop} {ds : List D} {p : Addr} {vs : List V} (hp : H p = none) (r : DenL Z H B ds vs) : Den Z (upd H p (.tup vs)) B (.tup ds) (.ref p) :=
  den_tup (.inl (.inl upd_same)) (r.ex (Ex.new hp))
theorem rd_flat {Z : Wd} {H : Hp} {B : Addr → Prop} {x : V} {d : D} (h : RdD Z H B d x) (hd : ∀ v B', Den Z H B' d v → v = x → True) : True := trivial
theorem rd_den {Z : Wd} {H : Hp} {B : Addr → Prop} {x : V} {d : D} (h : RdD Z H B d x) (nl : ∀ p, ¬ OwnAt Z H B p d) : Den Z H B d x := by
  rcases h with h | ⟨p, _, h⟩
  · exact h
  · exact (nl p h).elim

/-! ### + -/
def addT : D → D → R
  | .tup a, .tup b => if a.length + b.length ≤ lineMax then .ok (.tup (a ++ b)) else .bad
  | _, _ => .bad
def addS : D → D → R
  | .str a, .str b => if a.length + b.length ≤ lineMax then .ok (.str (a ++ b)) else .bad
  | _, _ => .bad
section
variable {C : Cn}
theorem bin_addT : BinOk C .Add addT := by
  intro X A pins s σ H x y v u Q I rx ry q
  obtain ⟨B, d, e, bt, q1, q2, post⟩ := q
  cases d with
  | tup a =>
    cases e with
    | tup b =>
      have post : PostF1 C.Z WE0 H B Q (if a.length + b.length ≤ lineMax then .ok (.tup (a ++ b)) else .bad) := post
      by_cases c : a.length + b.length ≤ lineMax
      · rw [if_pos c] at post
        obtain ⟨l, vs, h1, h2, h3⟩ := rd_tup q1
        obtain ⟨m, ws, g1, g2, g3⟩ := rd_tup q2
        rw [lineMax_eq] at c
        refine op_catA pins s σ H x y v u Q I rx ry ⟨l, m, vs, ws, h1, g1, by rw [A.k]; exact h2, by rw [A.k]; exact g2, by rw [h3.length, g3.length]; exact c, fun e => ?_, fun _ e => ?_, fun _ _ p hp => ?_⟩
        · have : a = [] := List.eq_nil_of_length_eq_zero (by rw [← h3.length, e]; rfl)
          subst this
          exact post _ H (Ex.refl _) (den_tup g2 g3)
        · have : b = [] := List.eq_nil_of_length_eq_zero (by rw [← g3.length, e]; rfl)
          subst this
          rw [List.append_nil] at post
          exact post _ H (Ex.refl _) (den_tup h2 h3)
        · exact post _ _ (Ex.new hp) (den_tupN hp (h3.append g3))
      · rw [if_neg c] at post; exact False.elim post
    | _ => exact False.elim (show False from post)
  | _ => exact False.elim (show False from post)
theorem bin_addS : BinOk C .Add addS := by
  intro X A pins s σ H x y v u Q I rx ry q
  obtain ⟨B, d, e, bt, q1, q2, post⟩ := q
  cases d with
  | str a =>
    cases e with
    | str b =>
      have post : PostF1 C.Z WE0 H B Q (if a.length + b.length ≤ lineMax then .ok (.str (a ++ b)) else .bad) := post
      by_cases c : a.length + b.length ≤ lineMax
      · rw [if_pos c] at post
        have z1 := q1.all
        have z2 := q2.all
        unfold Den at z1 z2
        rw [lineMax_eq] at c
        exact op_add_str pins s σ H x y v u Q I rx ry ⟨a, b, z1, z2, c, post _ H (Ex.refl _) den_str⟩
      · rw [if_neg c] at post; exact False.elim post
    | _ => exact False.elim (show False from post)
  | _ => exact False.elim (show False from post)
end
def addW : D → D → R
  | .pw a, .pw b => if a.length + b.length ≤ lineMax then .ok (.pw (a ++ b)) else .bad
  | _, _ => .bad
theorem rd_pw {Z : Wd} {H : Hp} {B : Addr → Prop} {is : List Int} {x : V} (q : RdD Z H B (.pw is) x) : ∃ a, x = .ref a ∧ H a = some (.tup (is.map V.int)) := by
  rcases q with q | ⟨p, rfl, q⟩
  · unfold Den at q
    exact q
  · exact False.elim q
theorem den_pw {Z : Wd} {H : Hp} {B : Addr → Prop} {is : List Int} {a : Addr} (h : H a = some (.tup (is.map V.int))) : Den Z H B (.pw is) (.ref a) := by
  unfold Den
  exact ⟨a, rfl, h⟩
theorem bin_addW {C : Cn} : BinOk C .Add addW := by
  intro X A pins s σ H x y v u Q I rx ry q
  obtain ⟨B, d, e, bt, q1, q2, post⟩ := q
  cases d with
  | pw a =>
    cases e with
    | pw b =>
      have post : PostF1 C.Z WE0 H B Q (if a.length + b.length ≤ lineMax then .ok (.pw (a ++ b)) else .bad) := post
      by_cases c : a.length + b.length ≤ lineMax
      · rw [if_pos c] at post
        obtain ⟨l, h1, h2⟩ := rd_pw q1
        obtain ⟨m, g1, g2⟩ := rd_pw q2
        rw [lineMax_eq] at c
        refine op_catA pins s σ H x y v u Q I rx ry ⟨l, m, _, _, h1, g1, .inl (.inl h2), .inl (.inl g2), by rw [List.length_map, List.length_map]; exact c, fun e => ?_, fun _ e => ?_, fun _ _ p hp => ?_⟩
        · have : a = [] := List.map_eq_nil_iff.mp e
          subst this
          exact post _ H (Ex.refl _) (den_pw g2)
        · have : b = [] := List.map_eq_nil_iff.mp e
          subst this
          rw [List.append_nil] at post
          exact post _ H (Ex.refl _) (den_pw h2)
        · exact post _ _ (Ex.new hp) (den_pw (by rw [List.map_append]; exact upd_same))
      · rw [if_neg c] at post; exact False.elim post
    | _ => exact False.elim (show False from post)
  | _ => exact False.elim (show False from post)
def uAdd : D → D → R := orF addI (orF addL (orF addT (orF addW addS)))
theorem bin_uAdd {C : Cn} : BinOk C .Add uAdd := bin_addI.or (bin_addL.or (bin_addT.or (bin_addW.or bin_addS)))
@[simp] theorem uAdd_int (a b : Int) : uAdd (.int a) (.int b) = .ok (.int (a + b)) := rfl
theorem uAdd_lst (a b : List D) : uAdd (.lst a) (.lst b) = if a.length + b.length ≤ lineMax then .fresh (.lst (a ++ b)) else .bad := by
  unfold uAdd orF addI iop addL addT addS addW
  dsimp only
  split <;> simp_all
theorem uAdd_tup (a b : List D) : uAdd (.tup a) (.tup b) = if a.length + b.length ≤ lineMax then .ok (.tup (a ++ b)) else .bad := by
  unfold uAdd orF addI iop addL addT addS addW
  dsimp only
  split <;> simp_all
theorem uAdd_pw (a b : List Int) : uAdd (.pw a) (.pw b) = if a.length + b.length ≤ lineMax then .ok (.pw (a ++ b)) else .bad := by
  unfold uAdd orF addI iop addL addT addS addW
  dsimp only
  split <;> simp_all
theorem uAdd_str (a b : Str) : uAdd (.str a) (.str b) = if a.length + b.length ≤ lineMax then .ok (.str (a ++ b)) else .bad := by
  unfold uAdd orF addI iop addL addT addS addW
  dsimp only

/-! ### < of tuples of ints -/
def ltT : D → D → R
  | .tup a, .tup b => match intsOf a, intsOf b with
    | some i, some j => .ok (.bl (HT.lexLt i j))
    | _, _ => .bad
  | _, _ => .bad
section
variable {C : Cn}
theorem cmp_ltT : CmpOk C .Lt ltT := by
  intro X A pins s σ H x y v u Q I rx ry q
  obtain ⟨B, d, e, bt, q1, q2, post⟩ := q
  cases d with
  | tup a =>
    cases e with
    | tup b =>
      have post : PostF1 C.Z WE0 H B Q (match intsOf a, intsOf b with
        | some i, some j => .ok (.bl (HT.lexLt i j))
        | _, _ => .bad) := post
      cases e1 : intsOf a with
      | none => rw [e1] at post; exact False.elim post
      | some i =>
        cases e2 : intsOf b with
        | none => rw [e1, e2] at post; exact False.elim post
        | some j =>
          rw [e1, e2] at post
          obtain ⟨l, vs, h1, h2, h3⟩ := rd_tup q1
          obtain ⟨m, ws, g1, g2, g3⟩ := rd_tup q2
          have z1 := intsOf_den e1 h3
          have z2 := intsOf_den e2 g3
          subst z1 z2
          exact op_ltT (by have := A.room.un; show X.A.units < cLine; omega) pins s σ H x y v u Q I rx ry ⟨l, m, i, j, h1, g1, by rw [A.k]; exact h2, by rw [A.k]; exact g2, post _ H (Ex.refl _) den_bl⟩
    | _ => exact False.elim (show False from post)
  | _ => exact False.elim (show False from post)
end
def ltW : D → D → R
  | .pw i, .pw j => .ok (.bl (HT.lexLt i j))
  | _, _ => .bad
theorem cmp_ltW {C : Cn} : CmpOk C .Lt ltW := by
  intro X A pins s σ H x y v u Q I rx ry q
  obtain ⟨B, d, e, bt, q1, q2, post⟩ := q
  cases d with
  | pw i =>
    cases e with
    | pw j =>
      have post : PostF1 C.Z WE0 H B Q (.ok (.bl (HT.lexLt i j))) := post
      obtain ⟨l, h1, h2⟩ := rd_pw q1
      obtain ⟨m, g1, g2⟩ := rd_pw q2
      exact op_ltT (by have := A.room.un; show X.A.units < cLine; omega) pins s σ H x y v u Q I rx ry ⟨l, m, i, j, h1, g1, .inl (.inl h2), .inl (.inl g2), post _ H (Ex.refl _) den_bl⟩
    | _ => exact False.elim (show False from post)
  | _ => exact False.elim (show False from post)
def uLt : D → D → R := orF ltI (orF ltT ltW)
theorem cmp_uLt {C : Cn} : CmpOk C .Lt uLt := cmp_ltI.or (cmp_ltT.or cmp_ltW)
@[simp] theorem uLt_pw (i j : List Int) : uLt (.pw i) (.pw j) = .ok (.bl (HT.lexLt i j)) := rfl
@[simp] theorem uLt_int (a b : Int) : uLt (.int a) (.int b) = .ok (.bl (decide (a < b))) := rfl
theorem uLt_tup (a b : List D) (i j : List Int) (h1 : intsOf a = some i) (h2 : intsOf b = some j) : uLt (.tup a) (.tup b) = .ok (.bl (HT.lexLt i j)) := by
  unfold uLt orF ltI iop ltT
  dsimp only
  rw [h1, h2]
abbrev uLe : D → D → R := leI
abbrev uGt : D → D → R := gtI
abbrev uGe : D → D → R := geI
@[simp] theorem leI_int (a b : Int) : leI (.int a) (.int b) = .ok (.bl (decide (a ≤ b))) := rfl
@[simp] theorem gtI_int (a b : Int) : gtI (.int a) (.int b) = .ok (.bl (decide (b < a))) := rfl
@[simp] theorem geI_int (a b : Int) : geI (.int a) (.int b) = .ok (.bl (decide (b ≤ a))) := rfl
@[simp] theorem subI_int (a b : Int) : subI (.int a) (.int b) = .ok (.int (a - b)) := rfl
@[simp] theorem negI_int (a : Int) : negI (.int a) = .ok (.int (-a)) := rfl
theorem divI_int (a b : Int) : divI (.int a) (.int b) = if divB a b = true then .ok (.int (a.fdiv b)) else .bad := rfl
theorem modI_int (a b : Int) : modI (.int a) (.int b) = if modB a b = true then .ok (.int (a.fmod b)) else .bad := rfl
theorem powI_int (a b : Int) : powI (.int a) (.int b) = if powB a b = true then .ok (.int (a ^ b.toNat)) else .bad := rfl

/-! ### is, is not -/
def isB (n : Bool) : D → D → R
  | .bl a, .bl b => .ok (.bl (if n = true then !decide (a = b) else decide (a = b)))
  | d, .non => match d with
    | .non => .ok (.bl (!n))
    | .bl _ => .ok (.bl n)
    | .int _ => .ok (.bl n)
    | .str _ => .ok (.bl n)
    | .tup _ => .ok (.bl n)
    | .pw _ => .ok (.bl n)
    | .lst _ => .ok (.bl n)
    | .exn _ _ => .ok (.bl n)
    | .dT _ _ => .ok (.bl n)
    | .dK _ _ => .ok (.bl n)
    | _ => .bad
  | _, _ => .bad
def isD : D → D → R := isB false
def nisD : D → D → R := isB true
section
variable {C : Cn}
theorem isB_den {H : Hp} {B : Addr → Prop} {d : D} {b : Bool} {x : V} {n : Bool} (q : Den C.Z H B d x) (e : isB n d .non = .ok (.bl b)) : b = if n = true then !decide (x = .non) else decide (x = .non) := by
  cases n <;> cases d <;> first
    | (cases e; done)
    | (cases e; unfold Den at q; subst q; rfl)
    | (cases e; unfold Den at q; obtain ⟨a, rfl, _⟩ := q; rfl)
    | (cases e; unfold Den at q; obtain ⟨a, _, rfl, _⟩ := q; rfl)
    | (cases e; unfold Den at q; obtain ⟨a, _, _, rfl, _⟩ := q; rfl)
theorem isB_cases {n : Bool} {d e : D} {Z : Wd} {H : Hp} {B : Addr → Prop} {Q : VK} (post : PostF1 Z WE0 H B Q (isB n d e)) : (∃ a b, d = .bl a ∧ e = .bl b ∧ Q (.bl (if n = true then !decide (a = b) else decide (a = b))) H) ∨ ∃ b, e = .non ∧ isB n d .non = .ok (.bl b) ∧ Q (.bl b) H := by
  cases e with
  | non =>
    right
    cases d <;> first | exact ⟨_, rfl, rfl, post _ H (Ex.refl _) den_bl⟩ | exact False.elim post
  | bl b =>
    left
    cases d <;> first | exact ⟨_, _, rfl, rfl, post _ H (Ex.refl _) den_bl⟩ | exact False.elim post
  | _ => exact False.elim (by cases d <;> exact post)
theorem cmp_isD : CmpOk C .Is isD := by
  intro X A pins s σ H x y v u Q I rx ry q
  obtain ⟨B, d, e, bt, q1, q2, post⟩ := q
  have z2 := q2.all
  rcases isB_cases (n := false) (show PostF1 C.Z WE0 H B Q (isB false d e) from post) with ⟨a, b, rfl, rfl, q⟩ | ⟨b, rfl, e1, q⟩
  · have z1 := q1.all
    unfold Den at z1 z2
    exact op_isBl pins s σ H x y v u Q I rx ry ⟨a, b, z1, z2, q⟩
  · unfold Den at z2
    have z := isB_den q1.all e1
    exact op_isN pins s σ H x y v u Q I rx ry ⟨z2, by rw [z] at q; exact q⟩
theorem cmp_nisD : CmpOk C .IsNot nisD := by
  intro X A pins s σ H x y v u Q I rx ry q
  obtain ⟨B, d, e, bt, q1, q2, post⟩ := q
  have z2 := q2.all
  rcases isB_cases (n := true) (show PostF1 C.Z WE0 H B Q (isB true d e) from post) with ⟨a, b, rfl, rfl, q⟩ | ⟨b, rfl, e1, q⟩
  · have z1 := q1.all
    unfold Den at z1 z2
    exact op_notBl pins s σ H x y v u Q I rx ry ⟨a, b, z1, z2, q⟩
  · unfold Den at z2
    have z := isB_den q1.all e1
    exact op_notN pins s σ H x y v u Q I rx ry ⟨z2, by rw [z] at q; exact q⟩
end

/-! ### slices -/
def cutD (xs : List D) (lo hi : Option Int) : List D := (xs.drop (HT.sIx xs.length 0 lo)).take (HT.sIx xs.length xs.length hi - HT.sIx xs.length 0 lo)
def cutI (xs : List Int) (lo hi : Option Int) : List Int := (xs.drop (HT.sIx xs.length 0 lo)).take (HT.sIx xs.length xs.length hi - HT.sIx xs.length 0 lo)
def slD : D → Option Int → Option Int → R
  | .lst ds, lo, hi => .fresh (.lst (cutD ds lo hi))
  | .tup ds, lo, hi => .ok (.tup (cutD ds lo hi))
  | .pw is, lo, hi => .ok (.pw (cutI is lo hi))
  | _, _, _ => .bad
abbrev slU := slD
theorem cut_den {Z : Wd} {H : Hp} {B : Addr → Prop} {ds : List D} {vs : List V} (lo hi : Option Int) (h : DenL Z H B ds vs) : DenL Z H B (cutD ds lo hi) (cutV vs lo hi) := by
  unfold cutD cutV
  rw [h.length]
  exact (h.drop _).take _
theorem sl_slD {C : Cn} : SlOk C slD := by
  intro X A pins s σ H x v vl vu lo hi sl Q I rx hs pl pu q
  obtain ⟨B, d, bt, q1, post⟩ := q
  cases d with
  | lst ds =>
    have post : PostF1 C.Z WE0 H B Q (.fresh (.lst (cutD ds lo hi))) := post
    obtain ⟨a, vs, h1, h2, h3⟩ := rd_lst q1
    refine sl_list pins s σ H x v vl vu lo hi sl Q I rx hs pl pu ⟨a, vs, h1, by rw [A.k]; exact h2, fun p hp => ?_⟩
    exact post p _ hp (Ex.new hp) ⟨_, upd_same, (DenL.add hp _ _ (cut_den lo hi h3)).ex (Ex.new hp)⟩
  | tup ds =>
    have post : PostF1 C.Z WE0 H B Q (.ok (.tup (cutD ds lo hi))) := post
    obtain ⟨a, vs, h1, h2, h3⟩ := rd_tup q1
    refine sl_tupA pins s σ H x v vl vu lo hi sl Q I rx hs pl pu ⟨a, vs, h1, by rw [A.k]; exact h2, fun w => ?_, fun _ p hp => ?_⟩
    · refine post _ H (Ex.refl _) (den_tup h2 ?_)
      rw [h3.length] at w
      have e : cutD ds lo hi = ds := by
        unfold cutD
        rw [w.1, w.2, List.drop_zero, Nat.sub_zero, List.take_length]
      rw [e]; exact h3
    · exact post _ _ (Ex.new hp) (den_tupN hp (cut_den lo hi h3))
  | pw is =>
    have post : PostF1 C.Z WE0 H B Q (.ok (.pw (cutI is lo hi))) := post
    obtain ⟨a, h1, h2⟩ := rd_pw q1
    have ec : cutV (is.map V.int) lo hi = (cutI is lo hi).map V.int := by
      unfold cutV cutI
      rw [List.length_map, List.map_take, List.map_drop]
    refine sl_tupA pins s σ H x v vl vu lo hi sl Q I rx hs pl pu ⟨a, is.map V.int, h1, .inl (.inl h2), fun w => ?_, fun _ p hp => ?_⟩
    · refine post _ H (Ex.refl _) (den_pw ?_)
      rw [List.length_map] at w
      have e : cutI is lo hi = is := by
        unfold cutI
        rw [w.1, w.2, List.drop_zero, Nat.sub_zero, List.take_length]
      rw [e]; exact h2
    · exact post _ _ (Ex.new hp) (den_pw (by rw [ec]; exact upd_same))
  | _ => exact False.elim (show False from post)

/-! ### isinstance -/
def bltTys : List (Str × String) := [("int", "int"), ("bool", "bool"), ("str", "str"), ("tuple", "tuple"), ("list", "list"), ("dict", "dict")]
def exnN : D → Option Str
  | .exn c _ => some c
  | _ => none
/-- exc: the exception classes of the text, all of them KeepError's but itself -/
def kinD (exc : List Str) (d : D) (c : Str) : Option Bool :=
  if c ∈ exc then (match exnN d with
    | some x => if x ∈ exc then some (decide (c = x ∨ c = "KeepError")) else none
    | none => (tyN d).map fun _ => false)
  else match bltTys.lookup c with
    | some t => (tyN d).bind fun a => kitB a t
    | none => if c = "ValueError" then (exnN d).bind fun x => if x ∈ exc then some true else none else none
def anyK (f : Str → Option Bool) : List Str → Option Bool
  | [] => some false
  | c :: cs => match f c with
    | some true => some true
    | some false => anyK f cs
    | none => none
def isiK (exc : List Str) (cs : List Str) : D → R := isiR fun d => anyK (kinD exc d) cs
/-- what a head must tell -/
structure ExcFx (C : Cn) (exc : List Str) : Prop where
  glo : ∀ x ∈ exc, C.mg x = some (.ref (C.cl x))
  db : ∀ x ∈ exc, (x == ("__debug__" : Str)) = false
  ex : ∀ x ∈ exc, ExcC C.K (C.cl x)
  kin : ∀ x ∈ exc, ∀ y ∈ exc, PySem.W.kitOne C.K (.ref (C.cl x)) (.ref (C.cl y)) = some (decide (y = x ∨ y = "KeepError"))
  ve : ∀ x ∈ exc, PySem.W.kitOne C.K (.ref (C.cl x)) (.type "ValueError") = some true
  bl : ∀ x ∈ exc, ∀ t ∈ ["NoneType", "bool", "int", "str", "tuple", "list", "dict"], PySem.W.kitOne C.K (.type t) (.ref (C.cl x)) = some false
section
variable {C : Cn} {exc : List Str}
theorem tyN_mem {d : D} {t : String} (h : tyN d = some t) : t ∈ ["NoneType", "bool", "int", "str", "tuple", "list", "dict"] := by
  cases d <;> simp [tyN] at h <;> subst h <;> decide
theorem exnN_eq {d : D} {c : Str} (h : exnN d = some c) : ∃ f, d = .exn c f := by
  cases d with
  | exn x f => cases h; exact ⟨f, rfl⟩
  | _ => cases h
/-- a class by its name, what isinstance answers for it -/
def ClsN (C : Cn) (exc : List Str) (c : Str) (v : V) (u : Value) : Prop := ClsAt C c v u ∧ ∀ d b, kinD exc d c = some b → KinOk C u d b
def bltN (c : Str) : Option String := match bltTys.lookup c with
  | some t => some t
  | none => if c = "ValueError" then some "ValueError" else none
theorem bltN_boot {c : Str} {t : String} (h : bltN c = some t) : bootBuiltins c = some (.type t) ∧ c ≠ "__name__" ∧ (c == ("__debug__" : Str)) = false := by
  unfold bltN at h
  cases e : bltTys.lookup c with
  | none =>
    rw [e] at h
    dsimp only at h
    split at h
    · rename_i q
      cases h
      subst q
      exact ⟨by decide +kernel, by decide, by decide⟩
    · cases h
  | some b =>
    rw [e] at h
    cases h
    have key : ∀ p ∈ bltTys, bootBuiltins p.1 = some (.type p.2) ∧ p.1 ≠ "__name__" ∧ (p.1 == ("__debug__" : Str)) = false := by decide +kernel
    have m := PySem.mem_of_lookup e
    exact key _ m
theorem cls_own (F : ExcFx C exc) {c : Str} (hx : c ∈ exc) : ClsN C exc c (.ref (C.cl c)) (.ref (C.cl c)) := by
  refine ⟨clsAt_own (F.glo c hx) (F.db c hx), fun d b e => ?_⟩
  unfold kinD at e
  rw [if_pos hx] at e
  cases e1 : exnN d with
  | none =>
    rw [e1] at e
    cases e2 : tyN d with
    | none => rw [e2] at e; cases e
    | some t =>
      rw [e2] at e
      cases e
      exact .inl ⟨t, e2, F.bl c hx t (tyN_mem e2)⟩
  | some x =>
    rw [e1] at e
    dsimp only at e
    split at e
    · rename_i h9
      cases e
      obtain ⟨f, hf⟩ := exnN_eq e1
      exact .inr ⟨x, f, hf, F.ex x h9, F.kin x h9 c hx⟩
    · cases e
theorem cls_blt (F : ExcFx C exc) {c : Str} {t : String} (hx : c ∉ exc) (hm : C.mg c = none) (hb : bltN c = some t) : ClsN C exc c (.ty t) (.type t) := by
  obtain ⟨h1, h2, h3⟩ := bltN_boot hb
  refine ⟨clsAt_ty hm h1 h2 h3, fun d b e => ?_⟩
  unfold kinD at e
  rw [if_neg hx] at e
  unfold bltN at hb
  cases e1 : bltTys.lookup c with
  | some t' =>
    rw [e1] at e hb
    cases hb
    cases e2 : tyN d with
    | none => rw [e2] at e; cases e
    | some a =>
      rw [e2] at e
      exact .inl ⟨a, e2, kit_ty e⟩
  | none =>
    rw [e1] at e hb
    dsimp only at e hb
    by_cases q : c = "ValueError"
    · rw [if_pos q] at e hb
      cases hb
      cases e2 : exnN d with
      | none => rw [e2] at e; cases e
      | some x =>
        rw [e2, Option.bind_some] at e
        split at e
        · rename_i h9
          cases e
          obtain ⟨f, hf⟩ := exnN_eq e2
          exact .inr ⟨x, f, hf, F.ex x h9, F.ve x h9⟩
        · cases e
    · rw [if_neg q] at hb; cases hb
theorem isi_one (F : ExcFx C exc) {c : Str} (hm : C.mg "isinstance" = none) (h : c ∈ exc ∨ (c ∉ exc ∧ C.mg c = none ∧ ∃ t, bltN c = some t)) : IsiOk C (isiK exc [c]) [c] false := by
  obtain ⟨v, u, h1, h2⟩ : ∃ v u, ClsN C exc c v u := by
    rcases h with h | ⟨h, g, t, e⟩
    · exact ⟨_, _, cls_own F h⟩
    · exact ⟨_, _, cls_blt F h g e⟩
  refine isiX hm h1 fun d b e => h2 d b ?_
  unfold anyK at e
  cases q : kinD exc d c with
  | none => rw [q] at e; cases e
  | some r =>
    rw [q] at e
    cases r with
    | true => exact e
    | false => exact e
/-- several classes, as an argument's tuple -/
theorem pa_cls {X : Cx} : ∀ {cs : List Str} {xs : List Expr} {vs : List V} {us : List Value}, (∀ (i : Nat) c v u, cs[i]? = some c → vs[i]? = some v → us[i]? = some u → ∀ q, PE X (.Name c q) (tC v)) → vs.length = cs.length → us.length = cs.length → namesAre cs xs = true → PA X xs (fun _ H Q => Q vs H)
  | [], [], vs, us, _, hl, _, _ => by
    cases List.eq_nil_of_length_eq_zero hl
    exact pa_nil
  | [], _ :: _, _, _, _, _, _, h => by cases h
  | c :: cs, [], _, _, _, _, _, h => by cases h
  | c :: cs, x :: xs, vs, us, hp, hl, hl2, h => by
    have h : (nameIs c x && namesAre cs xs) = true := h
    rw [Bool.and_eq_true] at h
    match vs, us, hl, hl2, hp with
    | v :: vs, u :: us, hl, hl2, hp =>
      obtain ⟨q, rfl⟩ : ∃ q, x = .Name c q := by
        cases x with
        | Name y q => exact ⟨q, by rw [of_decide_eq_true h.1]⟩
        | _ => exact absurd h.1 Bool.false_ne_true
      exact pa_cons (hp 0 c v u rfl rfl rfl q) (pa_cls (vs := vs) (us := us) (fun i c v u a b d => hp (i + 1) c v u (by simpa using a) (by simpa using b) (by simpa using d)) (Nat.succ.inj hl) (Nat.succ.inj hl2) h.2)
theorem kit_many {K : PySem.W.Frag} {t : Value} {f : Str → Option Bool} : ∀ {cs : List Str} {us : List Value} {b : Bool}, (∀ (i : Nat) c u b, cs[i]? = some c → us[i]? = some u → f c = some b → PySem.W.kitOne K t u = some b) → us.length = cs.length → anyK f cs = some b → PySem.W.kitAny K t us = some b
  | [], us, b, _, hl, h => by
    cases List.eq_nil_of_length_eq_zero hl
    exact h
  | c :: cs, us, b, hf, hl, h => by
    match us, hl, hf with
    | u :: us, hl, hf =>
      unfold anyK at h
      cases e : f c with
      | none => rw [e] at h; cases h
      | some r =>
        rw [e] at h
        refine kitAny_cons (hf 0 c u r rfl rfl e) (fun hr => ?_) fun hr => ?_
        · subst hr
          exact kit_many (fun i c u b a d => hf (i + 1) c u b (by simpa using a) (by simpa using d)) (Nat.succ.inj hl) h
        · subst hr
          cases h
          rfl
/-- isinstance(e, (c1, ..)), e an exception -/
def rIsXT (K : PySem.W.Frag) (D : Addr) : List V → Hp → VK → Prop := fun xs H Q => ∃ (a tp : Addr) (dd : Option Addr) (cs : List V) (us : List Value) (b : Bool), xs = [.ref a, .ref tp] ∧ H a = some (ExH D dd a) ∧ (∀ d, dd = some d → ∃ fs, H d = some (.xd fs)) ∧ H tp = some (.tup cs) ∧ Paired ClsV cs us ∧ PySem.W.kitAny K (.ref D) us = some b ∧ Q (.bl b) H
theorem call_isXT {X : Cx} {D : Addr} (C : ExcC X.K D) : CallR X (.builtin "isinstance") (rIsXT X.K D) := by
  intro pins s σ H xs us Q I r h
  obtain ⟨a, tp, dd, cs, ws, b, rfl, hx, hd, hT, k, e, q⟩ := h
  obtain ⟨u1, u2, rfl, r1, r2⟩ := vals2 r
  cases (show u2 = Value.ref tp from r2)
  cases (show u1 = Value.ref a from r1)
  obtain ⟨_, its, rv, o, h1, h2, n, h3⟩ := (show ObjOk X.prog X.w H s.heap tp (.tup cs) from I.hok tp _ hT)
  have e3 := ClsV.all k rv
  subst e3
  obtain ⟨oc, od, dt, sl⟩ := o
  simp only at h2 h3
  subst h2 h3
  obtain ⟨⟨oe, vs, hget, hz, hv⟩, _, _⟩ := I.hok a _ hx
  obtain ⟨oD, J⟩ : ∃ oD, PySem.W.InstAt s.heap a oe D oD := by
    obtain ⟨oc, od, oda, osl⟩ := oe
    obtain ⟨g1, g2⟩ := hz
    dsimp only at g1 g2 hv
    subst g1 g2 hv
    cases od with
    | none => exact ⟨none, hget, rfl, rfl, trivial⟩
    | some d =>
      obtain ⟨fs, hfs⟩ := hd d rfl
      obtain ⟨mA, ⟨o, _, _, ho, _⟩, _⟩ := (show ObjOk X.prog X.w H s.heap d (.xd fs) from I.hok d _ hfs)
      exact ⟨some o, hget, rfl, rfl, ho⟩
  exact PySem.W.kia_tup (XI.kitx_any C) I.kIn J h1 e (fun z => nomatch z) fun tk => ⟨.bl b, H, I.tok tk, rfl, q⟩
theorem isi_many (F : ExcFx C exc) {cs : List Str} (hm : C.mg "isinstance" = none) (h : ∀ c ∈ cs, c ∈ exc ∨ (c ∉ exc ∧ C.mg c = none ∧ ∃ t, bltN c = some t)) (hs : cs.length ≤ 1000) (hne : cs ≠ []) : IsiOk C (isiK exc cs) cs true := by
  have key : ∀ l : List Str, (∀ c ∈ l, c ∈ exc ∨ (c ∉ exc ∧ C.mg c = none ∧ ∃ t, bltN c = some t)) → ∃ (vs : List V) (us : List Value), vs.length = l.length ∧ us.length = l.length ∧ Paired ClsV vs us ∧ ∀ (i : Nat) c v u, l[i]? = some c → vs[i]? = some v → us[i]? = some u → ClsN C exc c v u := by
    intro l
    induction l with
    | nil => exact fun _ => ⟨[], [], rfl, rfl, .nil, fun i c v u a => by simp at a⟩
    | cons c l ih =>
      intro hl
      obtain ⟨vs, us, l1, l2, p, q⟩ := ih fun c hc => hl c (List.mem_cons_of_mem _ hc)
      obtain ⟨v, u, hc⟩ : ∃ v u, ClsN C exc c v u := by
        rcases hl c List.mem_cons_self with h | ⟨h, g, t, e⟩
        · exact ⟨_, _, cls_own F h⟩
        · exact ⟨_, _, cls_blt F h g e⟩
      refine ⟨v :: vs, u :: us, by rw [List.length_cons, List.length_cons, l1], by rw [List.length_cons, List.length_cons, l2], .cons hc.1.cv p, fun i c' v' u' a b d => ?_⟩
      cases i with
      | zero =>
        cases (show some c = some c' from a)
        cases (show some v = some v' from b)
        cases (show some u = some u' from d)
        exact hc
      | succ i => exact q i c' v' u' (by simpa using a) (by simpa using b) (by simpa using d)
  obtain ⟨vs, us, l1, l2, pr, hN⟩ := key cs h
  intro X A gl gls ea ec p pos ta ns he hcs
  have hm' : X.mg "isinstance" = none := by rw [A.g]; exact hm
  obtain ⟨xs, kx, qx, rfl, hnm⟩ := hcs
  have pc : PE X (.Tuple xs kx qx) (tTup fun _ H Q => Q vs H) := pe_tup (pa_cls (fun i c v u a b d q => (hN i c v u a b d).1.pe X q A (gls c (List.mem_of_getElem? a))) l1 l2 hnm)
  have cr : CallR X (.builtin "isinstance") (fun xs H Q => rIsiT X.K xs H Q ∨ ∃ D, ExcC X.K D ∧ rIsXT X.K D xs H Q) := fun pins s σ H xs us Q I r h => h.elim (call_isiT pins s σ H xs us Q I r) fun ⟨D, e, h⟩ => call_isXT e pins s σ H xs us Q I r h
  refine pe_weak (pe_callB cr gl hm' PyProof.Rows.boot_isinstance (pa_cons (pe_cl he) (pa_cons pc pa_nil) (star_cons ns)) (by decide) (by decide) (star_cons ns)) fun σ H Q hq => ⟨_, hq, fun x H1 ⟨B, d, bt, q1, post⟩ => ?_⟩
  have post : PostF1 C.Z WE0 H1 B Q (isiR (fun d => anyK (kinD exc d) cs) d) := post
  unfold isiR at post
  dsimp only at post
  cases e1 : anyK (kinD exc d) cs with
  | none => rw [e1] at post; exact False.elim post
  | some b =>
    rw [e1] at post
    refine ⟨by rw [l1, sizeLine_eq]; omega, fun tp hp => ?_⟩
    have fin := post _ _ (Ex.new (o := .tup vs) hp) den_bl
    have q2 := q1.ex (Ex.new (o := .tup vs) hp)
    cases e2 : exnN d with
    | none =>
      cases cs with
      | nil => exact absurd rfl hne
      | cons c0 cs =>
        have ht : ∃ t, tyN d = some t := by
          unfold anyK at e1
          cases e3 : kinD exc d c0 with
          | none => rw [e3] at e1; cases e1
          | some r =>
            cases e4 : tyN d with
            | some t => exact ⟨t, rfl⟩
            | none =>
              unfold kinD at e3
              rw [e2, e4] at e3
              split at e3
              · cases e3
              · split at e3
                · cases e3
                · split at e3 <;> cases e3
        obtain ⟨t, et⟩ := ht
        refine .inl ⟨x, tp, vs, .type t, us, b, rfl, upd_same, pr, by rw [A.k]; exact tyN_ok et q2.all, ?_, fin⟩
        rw [A.k]
        refine kit_many (fun i c u b' a d' e5 => ?_) l2 e1
        have hi : i < vs.length := by rw [l1]; exact (List.getElem?_eq_some_iff.mp a).1
        rcases (hN i c vs[i] u a (List.getElem?_eq_getElem hi) d').2 d b' e5 with ⟨t2, e6, e7⟩ | ⟨cn, _, rfl, _⟩
        · rw [et] at e6; cases e6; exact e7
        · cases e2
    | some cn =>
      obtain ⟨fs, ed⟩ := exnN_eq e2
      subst ed
      have z := q2.all
      unfold Den at z
      obtain ⟨a, rfl, z⟩ := z
      obtain ⟨dd, z, zd⟩ : ∃ dd : Option Addr, (upd H1 tp (.tup vs)) a = some (ExH (C.cl cn) dd a) ∧ ∀ d, dd = some d → ∃ fs, (upd H1 tp (.tup vs)) d = some (.xd fs) := by
        rcases z with ⟨_, z⟩ | ⟨dd, w, z, z2, _⟩
        · exact ⟨none, z, fun _ e => nomatch e⟩
        · exact ⟨some dd, z, fun d e => by cases e; exact ⟨_, z2⟩⟩
      cases cs with
      | nil => exact absurd rfl hne
      | cons c0 cs =>
        have hx : ExcC C.K (C.cl cn) := by
          unfold anyK at e1
          cases e3 : kinD exc (.exn cn fs) c0 with
          | none => rw [e3] at e1; cases e1
          | some r =>
            have h0 : 0 < vs.length := by rw [l1]; exact Nat.succ_pos _
            have h02 : 0 < us.length := by rw [l2]; exact Nat.succ_pos _
            rcases (hN 0 c0 vs[0] us[0] rfl (List.getElem?_eq_getElem h0) (List.getElem?_eq_getElem h02)).2 _ r e3 with ⟨t2, e6, _⟩ | ⟨cn', _, e8, e9, _⟩
            · cases e6
            · cases e8; exact e9
        refine .inr ⟨C.cl cn, by rw [A.k]; exact hx, a, tp, dd, vs, us, b, rfl, z, zd, upd_same, pr, ?_, fin⟩
        rw [A.k]
        refine kit_many (fun i c u b' a d' e5 => ?_) l2 e1
        have hi : i < vs.length := by rw [l1]; exact (List.getElem?_eq_some_iff.mp a).1
        rcases (hN i c vs[i] u a (List.getElem?_eq_getElem hi) d').2 _ b' e5 with ⟨t2, e6, e7⟩ | ⟨cn', _, e8, _, e9⟩
        · cases e6
        · cases e8; exact e9
end
end PM

set_option Elab.async false
set_option linter.all false
set_option maxRecDepth 100000
set_option maxHeartbeats 2000000
/-! PM26: what a head tells, at once; defs with what they do; the end of a law. -/
namespace PM
open PySem PySem.Spec L2
open PyProof.Rows hiding St

def tyNames : List String := ["NoneType", "bool", "int", "str", "tuple", "list", "dict"]
/-- glo: global defs; free: built-in names; exc: exception classes, ini: those of them with an __init__; ints, tups: constants -/
structure TopD where
  glo : List Str := []
  free : List Str := []
  exc : List Str := []
  ini : List Str := []
  cints : List (Str × Int) := []
  ctups : List (Str × List Int) := []
  cstrs : List (Str × Str) := []
def TopD.ok (t : TopD) (K : PySem.W.Frag) : Bool :=
  t.glo.all (fun x => (He.Fa.glo x).ok K) && (t.free.all (fun x => (He.Fa.free x).ok K) && (t.exc.all (fun x => (He.Fa.glo x).ok K && (!(x == ("__debug__" : Str)) && (excB K (He.ga K x) && (kinT K x "ValueError" true && tyNames.all fun n => decide (PySem.W.kitOne K (.type n) (.ref (He.ga K x)) = some false)))))
   && (t.exc.all (fun x => t.exc.all fun y => kinB K x y (decide (y = x ∨ y = "KeepError")) && (He.Fa.exm x y (decide (y = x ∨ y = "KeepError"))).ok K)
   && (t.exc.all (fun x => decide (x ∈ t.ini) || (He.Fa.exc x).ok K) && (t.cints.all (fun p => (He.Fa.int p.1 p.2).ok K) && (t.ctups.all (fun p => (He.Fa.glo p.1).ok K && He.tupB K p.1 (p.2.map .int)) && t.cstrs.all fun p => (He.Fa.str p.1 p.2).ok K))))))
structure TopOk (t : TopD) (K : PySem.W.Frag) (mg : Str → Option Value) : Prop where
  glo : ∀ x ∈ t.glo, mg x = some (.ref (He.ga K x))
  free : ∀ x ∈ t.free, mg x = none
  exg : ∀ x ∈ t.exc, mg x = some (.ref (He.ga K x))
  edb : ∀ x ∈ t.exc, (x == ("__debug__" : Str)) = false
  ex : ∀ x ∈ t.exc, ExcC K (He.ga K x)
  ve : ∀ x ∈ t.exc, PySem.W.kitOne K (.ref (He.ga K x)) (.type "ValueError") = some true
  bl : ∀ x ∈ t.exc, ∀ n ∈ tyNames, PySem.W.kitOne K (.type n) (.ref (He.ga K x)) = some false
  kin : ∀ x ∈ t.exc, ∀ y ∈ t.exc, PySem.W.kitOne K (.ref (He.ga K x)) (.ref (He.ga K y)) = some (decide (y = x ∨ y = "KeepError"))
  exm : ∀ x ∈ t.exc, ∀ y ∈ t.exc, PySem.W.exmOne K (.ref (He.ga K x)) (.ref (He.ga K y)) = some (decide (y = x ∨ y = "KeepError"))
  exmk : ∀ x ∈ t.exc, x ∉ t.ini → PySem.W.excIn K (He.ga K x) He.veBase "ValueError.__new__" = true ∧ PySem.W.keepIn K (.ref (He.ga K x)) = true ∧ PySem.W.subIn K (.ref (He.ga K x)) (.type "BaseException") = some true ∧ PySem.W.typeIn K (.ref (He.ga K x)) = some (.type "type")
  cints : ∀ p ∈ t.cints, ∃ k, mg p.1 = some (.int p.2 k)
  ctups : ∀ p ∈ t.ctups, mg p.1 = some (.ref (He.ga K p.1)) ∧ ∀ H, SqT K H (He.ga K p.1) ((p.2.map He.Dv.int).map (He.Dv.v K))
  cstrs : ∀ p ∈ t.cstrs, ∃ k, mg p.1 = some (.str p.2 k)
theorem topOk {t : TopD} {K : PySem.W.Frag} {h : Heap} {mg : Str → Option Value} (X : K.In h) (G : h.Ns mainGlobals mg) (c : t.ok K = true) : TopOk t K mg := by
  unfold TopD.ok at c
  simp only [Bool.and_eq_true, List.all_eq_true] at c
  obtain ⟨c1, c2, c3, c4, c5, c6, c7, c8⟩ := c
  refine ⟨fun x hx => He.glo_ok X G (c1 x hx), fun x hx => He.free_ok X G (c2 x hx), fun x hx => He.glo_ok X G (c3 x hx).1, fun x hx => by simpa using (c3 x hx).2.1, fun x hx => excB_ok (c3 x hx).2.2.1, fun x hx => kinT_ok (c3 x hx).2.2.2.1, fun x hx n hn => of_decide_eq_true ((c3 x hx).2.2.2.2 n hn), fun x hx y hy => kinB_ok (c4 x hx y hy).1, fun x hx y hy => He.exm_ok (c4 x hx y hy).2, fun x hx hi => ?_, fun p hp => He.int_ok X G (c6 p hp), fun p hp => ⟨He.glo_ok X G (c7 p hp).1, fun H => He.tupB_ok (c7 p hp).2 H⟩, fun p hp => He.str_ok X G (c8 p hp)⟩
  have z := c5 x hx
  rw [Bool.or_eq_true, decide_eq_true_eq] at z
  exact He.exc_ok (z.resolve_left hi)

/-- where a def is read -/
abbrev cnOf (P : Program) (w : World) (K : PySem.W.Frag) (mg : Str → Option Value) (base : Heap) (lv : Nat) : Cn := ⟨P, w, K, mg, base, lv, He.ga K⟩
section
variable {P : Program} {w : World} {K : PySem.W.Frag} {mg : Str → Option Value} {base : Heap} {t : TopD} {lv : Nat}
theorem TopOk.fx (T : TopOk t K mg) : ExcFx (cnOf P w K mg base lv) t.exc := ⟨T.exg, T.edb, T.ex, T.kin, T.ve, T.bl⟩
theorem TopOk.isi1 (T : TopOk t K mg) {c : Str} (hm : ("isinstance" : Str) ∈ t.free) (h : c ∈ t.exc ∨ (c ∉ t.exc ∧ c ∈ t.free ∧ (bltN c).isSome = true)) : IsiOk (cnOf P w K mg base lv) (isiK t.exc [c]) [c] false :=
  isi_one T.fx (T.free _ hm) (h.imp id fun h => ⟨h.1, T.free _ h.2.1, Option.isSome_iff_exists.mp h.2.2⟩)
theorem TopOk.isiN (T : TopOk t K mg) {cs : List Str} (hm : ("isinstance" : Str) ∈ t.free) (h : ∀ c ∈ cs, c ∈ t.exc ∨ (c ∉ t.exc ∧ c ∈ t.free ∧ (bltN c).isSome = true)) (hs : cs.length ≤ 1000) (hn : cs ≠ []) : IsiOk (cnOf P w K mg base lv) (isiK t.exc cs) cs true :=
  isi_many T.fx (T.free _ hm) (fun c hc => (h c hc).imp id fun h => ⟨h.1, T.free _ h.2.1, Option.isSome_iff_exists.mp h.2.2⟩) hs hn
def subK (exc : List Str) (x : Str) : Str → Option Bool := fun c => if c ∈ exc then some (decide (x = c ∨ x = "KeepError")) else none
theorem TopOk.try_ (T : TopOk t K mg) {x : Str} (hx : x ∈ t.exc) : TryOk (cnOf P w K mg base lv) x (subK t.exc x) := by
  refine ⟨T.exg x hx, fun c b e => ?_⟩
  unfold subK at e
  split at e
  · rename_i hc
    cases e
    exact T.exm c hc x hx
  · cases e
theorem TopOk.raise_ (T : TopOk t K mg) {x : Str} (hx : x ∈ t.exc) (hi : x ∉ t.ini) : RaiseOk (cnOf P w K mg base lv) x rzD := by
  obtain ⟨h1, h2, h3, h4⟩ := T.exmk x hx hi
  exact raise_own (C := cnOf P w K mg base lv) (T.exg x hx) h1 h2 h3 h4 (T.edb x hx)
theorem TopOk.gInt (T : TopOk t K mg) {x : Str} {i : Int} (h : (x, i) ∈ t.cints) : GlobOk (cnOf P w K mg base lv) x (.int i) := by
  obtain ⟨k, e⟩ := T.cints _ h
  exact ⟨_, .int i, e, ⟨k, rfl⟩, fun H B => den_int⟩
theorem TopOk.gStr (T : TopOk t K mg) {x z : Str} (h : (x, z) ∈ t.cstrs) : GlobOk (cnOf P w K mg base lv) x (.str z) := by
  obtain ⟨k, e⟩ := T.cstrs _ h
  exact ⟨_, .str z, e, ⟨k, rfl⟩, fun H B => den_str⟩
theorem den_ints {Z : Wd} {H : Hp} {B : Addr → Prop} {K : PySem.W.Frag} : ∀ (is : List Int), DenL Z H B (is.map .int) ((is.map He.Dv.int).map (He.Dv.v K))
  | [] => .nil
  | i :: is => .cons den_int (den_ints is)
theorem TopOk.gTup (T : TopOk t K mg) {x : Str} {is : List Int} (h : (x, is) ∈ t.ctups) : GlobOk (cnOf P w K mg base lv) x (.tup (is.map .int)) := by
  obtain ⟨e, q⟩ := T.ctups _ h
  exact ⟨_, .ref _, e, rfl, fun H B => den_tup (q H) (den_ints is)⟩

/-- a def of the text, as its callers use it -/
def Good (P : Program) (w : World) (K : PySem.W.Frag) (mg : Str → Option Value) (base : Heap) (lv : Nat) (x : Str) (ps : List Str) (φ : List D → T R) : Prop :=
  ∃ (f : Addr) (fd : FuncData), mg x = some (.ref f) ∧ PySem.W.keepIn K (.ref f) = true ∧ Binds K fd ps [] ∧ (x == ("__debug__" : Str)) = false ∧ (∃ oc od osl, K.lookup f = some ⟨oc, od, .func fd, osl⟩) ∧ FnOkG P w K mg base lv f fd ps (spF ⟨K, He.ga K⟩ φ)
variable {x : Str} {ps : List Str} {φ φ' : List D → T R}
theorem Good.call (g : Good P w K mg base lv x ps φ) {lv' : Nat} (h : lv ≤ lv') : CallOk (cnOf P w K mg base lv') x φ := by
  obtain ⟨f, fd, h1, h2, h3, h4, _, h5⟩ := g
  have z := call_ok (cl := He.ga K) (dds := []) (h5.mono h) h1 h2 h3 .nil (fun _ _ => .nil) h4
  have e : (fun es => φ (es ++ [])) = φ := funext fun es => by rw [List.append_nil]
  rw [e] at z
  exact z
theorem Good.as (g : Good P w K mg base lv x ps φ) (h : ∀ ds (P : R → Prop), ¬ P .bad → (φ' ds).all P → (φ ds).all P) : Good P w K mg base lv x ps φ' := by
  obtain ⟨f, fd, h1, h2, h3, h4, h6, h5⟩ := g
  exact ⟨f, fd, h1, h2, h3, h4, h6, fn_as h5 h⟩
theorem Good.pool (g : Good P w K mg base lv x ps φ) : Good P w K mg base lv x ps (sealF φ) := by
  obtain ⟨f, fd, h1, h2, h3, h4, h6, h5⟩ := g
  exact ⟨f, fd, h1, h2, h3, h4, h6, fn_pool h5⟩
theorem good_of {d : He.DefD} {fd : FuncData} {N : List Str} {body : List S} (F : FunD K d.name d.qual d.params d.body d.scope (d.dvs K) (d.kws K) (He.fAd K d.at_) fd) (hd : d.dfl = []) (hk : d.kwd = []) (hx : mg x = some (.ref (He.fAd K d.at_)))
    (hb : ∀ (kV doc pm : Value) (an : Option Addr) (cdv ct : Value) (us : List Value), us.length = ps.length → bindArgs (PySem.W.fnOf d.name d.qual d.params d.body d.scope .none kV doc pm an cdv ct) ⟨us, []⟩ = pure (ps.zip us))
    (hdb : (x == ("__debug__" : Str)) = false) (S : FnScope N ps d.scope) (lk : LkSs (cnOf P w K mg base lv) body) (ok : okSs N d.scope body d.body = true) : Good P w K mg base (lv + 1) x ps (runF ps.length N.length body) := by
  have F' := F
  unfold He.DefD.dvs He.DefD.kws at F'
  rw [hd, hk] at F'
  exact ⟨_, fd, hx, F.kp, FunD.bindsN F' hb, hdb, (by
    obtain ⟨oc, od, _, _, _, _, _, _, _, osl, e, l, _⟩ := F.ex
    exact ⟨oc, od, osl, l⟩), fn_okD F S lk ok⟩
end

/-! ### what a def does, by its arguments' form -/
open Classical in
noncomputable def Fn {α : Type} (enc : α → List D) (pre : α → Prop) (out : α → T R) : List D → T R := fun ds => if h : ∃ a, enc a = ds ∧ pre a then out h.choose else .pure .bad
theorem Fn_eq {α : Type} {enc : α → List D} {pre : α → Prop} {out : α → T R} (inj : ∀ a b, enc a = enc b → a = b) {a : α} (h : pre a) : Fn enc pre out (enc a) = out a := by
  have ex : ∃ b, enc b = enc a ∧ pre b := ⟨a, rfl, h⟩
  unfold Fn
  rw [dif_pos ex, inj _ _ ex.choose_spec.1]
theorem Fn_as {α : Type} {enc : α → List D} {pre : α → Prop} {out : α → T R} {φ : List D → T R} (h : ∀ a, pre a → ∀ P : R → Prop, ¬ P .bad → (out a).all P → (φ (enc a)).all P) : ∀ ds (P : R → Prop), ¬ P .bad → (Fn enc pre out ds).all P → (φ ds).all P := by
  intro ds P hP q
  unfold Fn at q
  by_cases ex : ∃ a, enc a = ds ∧ pre a
  · rw [dif_pos ex] at q
    have e := ex.choose_spec
    rw [← e.1]
    exact h _ e.2 P hP q
  · rw [dif_neg ex] at q
    exact absurd q hP

/-! ### evaluation, step by step -/
section
variable {α β : Type} {n : Nv}
@[simp] theorem T.bind_p (a : α) (f : α → T β) : (T.pure a).bind f = f a := rfl
@[simp] theorem T.bind_pick (Q : Int → Prop) (k : Int → T α) (f : α → T β) : (T.pick Q k).bind f = .pick Q fun i => (k i).bind f := rfl
@[simp] theorem T.all_p (a : α) (Q : α → Prop) : (T.pure a).all Q = Q a := rfl
@[simp] theorem T.all_pick (Q : Int → Prop) (k : Int → T α) (P : α → Prop) : (T.pick Q k).all P = ∀ i, Q i → (k i).all P := rfl
@[simp] theorem ev_v (i : Nat) : ev (.v i) n = .pure (Sl.get i n[i]?) := by rw [ev] <;> rfl
@[simp] theorem ev_c (d : D) : ev (.c d) n = .pure (.ok d) := by rw [ev] <;> rfl
@[simp] theorem ev_g (x : Str) (d : D) : ev (.g x d) n = .pure (.ok d) := by rw [ev] <;> rfl
@[simp] theorem ev_bin (op) (f) (a b : E) : ev (.bin op f a b) n = (ev a n).bind (R.rdK n fun x => (ev b n).bind (R.rdK n fun y => .pure (f x y).op)) := by rw [ev] <;> rfl
@[simp] theorem ev_un (op) (f) (a : E) : ev (.un op f a) n = (ev a n).bind (R.rdK n fun x => .pure (f x).op) := by rw [ev] <;> rfl
@[simp] theorem ev_cmp (op) (f) (a b : E) : ev (.cmp op f a b) n = (ev a n).bind (R.rdK n fun x => (ev b n).bind (R.rdK n fun y => .pure (f x y).op)) := by rw [ev] <;> rfl
@[simp] theorem ev_chain (op op') (f g) (a b c : E) : ev (.chain op op' f g a b c) n = (ev a n).bind (R.rdK n fun x => (ev b n).bind (R.rdK n fun y => (f x y).op.bool.k fun t => if t = true then (ev c n).bind (R.rdK n fun z => .pure (g y z).op) else .pure (.ok (.bl false)))) := by rw [ev] <;> rfl
@[simp] theorem ev_and (a b : E) : ev (.and a b) n = (ev a n).bind fun r => r.bool.k fun t => if t = true then (ev b n) else .pure (.ok (.bl false)) := by rw [ev] <;> rfl
@[simp] theorem ev_or (a b : E) : ev (.or a b) n = (ev a n).bind fun r => r.bool.k fun t => if t = true then .pure (.ok (.bl true)) else (ev b n) := by rw [ev] <;> rfl
@[simp] theorem ev_not (a : E) : ev (.not a) n = (ev a n).bind fun r => r.bool.k fun t => .pure (.ok (.bl (!t))) := by rw [ev] <;> rfl
@[simp] theorem ev_ite (c a b : E) : ev (.ite c a b) n = (evT c n).bind fun r => r.k fun t => if t = true then ev a n else ev b n := by rw [ev] <;> rfl
@[simp] theorem ev_tup (es) : ev (.tup es) n = (evs es n).bind (RL.disp fun ds => .pure (.ok (.tup ds))) := by rw [ev] <;> rfl
@[simp] theorem ev_pwt (es) : ev (.pwt es) n = (evs es n).bind (RL.disp fun ds => .pure (pwR ds)) := by rw [ev] <;> rfl
@[simp] theorem ev_lst (es) : ev (.lst es) n = (evs es n).bind (RL.disp fun ds => .pure (.fresh (.lst ds))) := by rw [ev] <;> rfl
@[simp] theorem ev_dnew (d) : ev (.dnew d) n = .pure (.fresh d) := by rw [ev] <;> rfl
@[simp] theorem ev_ix (f) (a b : E) : ev (.ix f a b) n = (ev a n).bind (R.rdK n fun x => (ev b n).bind (R.rdK n fun y => (f x y).ops)) := by rw [ev] <;> rfl
@[simp] theorem ev_sl (f) (a lo hi : E) : ev (.sl f a lo hi) n = (ev a n).bind (R.rdK n fun x => (ev lo n).bind (R.part (isNonC lo) fun i => (ev hi n).bind (R.part (isNonC hi) fun j => .pure (f x i j).op))) := by rw [ev] <;> rfl
@[simp] theorem ev_call (x φ es) : ev (.call x φ es) n = (evs es n).bind (RL.call φ) := by rw [ev] <;> rfl
@[simp] theorem ev_meth (m φ o es) : ev (.meth m φ o es) n = (ev o n).bind (R.rdK n fun x => T.methK (φ x) (evs es n)) := by rw [ev] <;> rfl
@[simp] theorem ev_fld (m φ o) : ev (.fld m φ o) n = (ev o n).bind (R.rdK n fun x => .pure (φ x).op) := by rw [ev] <;> rfl
@[simp] theorem ev_gen (m φ es) : ev (.gen m φ es) n = (evs es n).bind (RL.call φ) := by rw [ev] <;> rfl
@[simp] theorem ev_isi (f a cs many) : ev (.isi f a cs many) n = (ev a n).bind (R.rdK n fun x => .pure (f x).op) := by rw [ev] <;> rfl
@[simp] theorem ev_lc (t k φ es ifs elt own) : ev (.lc t k φ es ifs elt own) n = (evs es n).bind (RL.lc φ (turn t (wipeN n (own.map (·.2))) (fun n' => evT ifs n') (fun n' => ev elt n'))) := by rw [ev] <;> rfl
@[simp] theorem evT_and (a b : E) : evT (.and a b) n = (evT a n).bind fun r => r.kT fun t => if t = true then evT b n else .pure (.ok false) := by rw [evT] <;> rfl
@[simp] theorem evT_or (a b : E) : evT (.or a b) n = (evT a n).bind fun r => r.kT fun t => if t = true then .pure (.ok true) else evT b n := by rw [evT] <;> rfl
@[simp] theorem evT_not (a : E) : evT (.not a) n = (evT a n).bind fun r => r.kT fun t => .pure (.ok (!t)) := by rw [evT] <;> rfl
@[simp] theorem evT_cmp (op f) (a b : E) : evT (.cmp op f a b) n = (ev a n).bind (R.rdTK n fun x => (ev b n).bind (R.rdTK n fun y => .pure (f x y).op.bool)) := by rw [evT] <;> rfl
@[simp] theorem evT_chain (op op' f g) (a b c : E) : evT (.chain op op' f g a b c) n = (ev a n).bind (R.rdTK n fun x => (ev b n).bind (R.rdTK n fun y => (f x y).op.bool.kT fun t => if t = true then (ev c n).bind (R.rdTK n fun z => .pure (g y z).op.bool) else .pure (.ok false))) := by rw [evT] <;> rfl
@[simp] theorem evT_v (i : Nat) : evT (.v i) n = .pure (Sl.truth n[i]?) := by rw [evT] <;> rfl
@[simp] theorem evT_c (d : D) : evT (.c d) n = .pure (truth d) := by rw [evT] <;> rfl
@[simp] theorem evT_call (x φ es) : evT (.call x φ es) n = ((evs es n).bind (RL.call φ)).bind (R.rdTK n truthT) := by rw [evT] <;> rfl
@[simp] theorem evT_gen (m φ es) : evT (.gen m φ es) n = ((evs es n).bind (RL.call φ)).bind (R.rdTK n truthT) := by rw [evT] <;> rfl
@[simp] theorem evT_isi (f a cs many) : evT (.isi f a cs many) n = (ev a n).bind (R.rdTK n fun x => .pure (f x).op.bool) := by rw [evT] <;> rfl
@[simp] theorem evT_meth (m φ o es) : evT (.meth m φ o es) n = ((ev o n).bind (R.rdK n fun x => T.methK (φ x) (evs es n))).bind (R.rdTK n truthT) := by rw [evT] <;> rfl
@[simp] theorem evT_bin (op f) (a b : E) : evT (.bin op f a b) n = ((ev a n).bind (R.rdK n fun x => (ev b n).bind (R.rdK n fun y => .pure (f x y).op))).bind (R.rdTK n truthT) := by rw [evT] <;> rfl
@[simp] theorem evT_ix (f) (a b : E) : evT (.ix f a b) n = ((ev a n).bind (R.rdK n fun x => (ev b n).bind (R.rdK n fun y => (f x y).ops))).bind (R.rdTK n truthT) := by rw [evT] <;> rfl
@[simp] theorem evs_nil : evs [] n = .pure (.ok [] false) := by rw [evs] <;> rfl
@[simp] theorem evs_cons (e es) : evs (e :: es) n = (ev e n).bind (R.argK n (evs es n)) := by rw [evs] <;> rfl
@[simp] theorem exs_nil : exs [] n = .pure (.next n) := by rw [exs] <;> rfl
@[simp] theorem exs_cons (s ss) : exs (s :: ss) n = (ex s n).bind (RS.seqK fun n' => exs ss n') := by rw [exs] <;> rfl
@[simp] theorem ex_set (i e) : ex (.set i e) n = (ev e n).bind fun r => .pure (r.store n i) := by rw [ex] <;> rfl
@[simp] theorem ex_tgt (ts e) : ex (.tgt ts e) n = (ev e n).bind (R.val n (bindK ts n)) := by rw [ex] <;> rfl
@[simp] theorem ex_par (i j a b) : ex (.par i j a b) n = (ev a n).bind (R.val n fun x => (ev b n).bind (R.val n fun y => .pure (.next ((n.set i (.val x)).set j (.val y))))) := by rw [ex] <;> rfl
@[simp] theorem ex_mut (i m φ es) : ex (.mut i m φ es) n = (evs es n).mut n i φ := by rw [ex] <;> rfl
@[simp] theorem ex_gens (m ψ es) : ex (.gens m ψ es) n = (evs es n).bind (ψ n) := by rw [ex] <;> rfl
@[simp] theorem ex_seti (i f k e) : ex (.seti i f k e) n = (ev e n).bind (R.val n fun x => ownK n i ((ev k n).bind (R.val n fun y => setiK n i f x y))) := by rw [ex] <;> rfl
@[simp] theorem ex_setp (i k e) : ex (.setp i k e) n = (ev e n).bind (R.val n fun x => poolK n i ((ev k n).bind (R.val n fun y => setpK n x y))) := by rw [ex] <;> rfl
@[simp] theorem ex_expr (e) : ex (.expr e) n = (ev e n).bind fun r => .pure (r.drop n) := by rw [ex] <;> rfl
@[simp] theorem ex_ifs (c a b) : ex (.ifs c a b) n = (evT c n).bind (RT.s n fun t => if t = true then exs a n else exs b n) := by rw [ex] <;> rfl
@[simp] theorem ex_whl (f c b) : ex (.whl f c b) n = whileL (fun n' => evT c n') (fun n' => exs b n') (f n) n := by rw [ex] <;> rfl
@[simp] theorem ex_for (t k φ es b) : ex (.for_ t k φ es b) n = (evs es n).bind (RL.vals n fun ds => match φ ds with | some items => forL (turnS t fun n' => exs b n') items n | none => .pure .bad) := by rw [ex] <;> rfl
@[simp] theorem ex_ret (e) : ex (.ret e) n = (ev e n).bind fun r => .pure (r.ret n) := by rw [ex] <;> rfl
@[simp] theorem ex_retN : ex .retN n = .pure (.ret (.ok .non)) := by rw [ex] <;> rfl
@[simp] theorem ex_raise (x es f) : ex (.raise x es f) n = (evs es n).bind (RL.vals n fun ds => raiseK n x (f ds)) := by rw [ex] <;> rfl
@[simp] theorem ex_pass : ex .pass n = .pure (.next n) := by rw [ex] <;> rfl
@[simp] theorem ex_brk : ex .brk n = .pure (.brk n) := by rw [ex] <;> rfl
@[simp] theorem ex_cont : ex .cont n = .pure (.cont n) := by rw [ex] <;> rfl
@[simp] theorem ex_try (b x sub i j) : ex (.tryx b x sub i j) n = (exs b n).bind fun r => .pure (r.tryK sub i j) := by rw [ex] <;> rfl
@[simp] theorem ex_frz (i) : ex (.frz i) n = .pure (frzK n i) := by rw [ex] <;> rfl
@[simp] theorem ex_mv (i j) : ex (.mv i j) n = .pure (mvK n i j) := by rw [ex] <;> rfl
@[simp] theorem ev_ss (k a) : ev (.ss k a) n = (ev a n).bind (R.rdK n fun x => .pure (ssD k x).op) := by rw [ev] <;> rfl
@[simp] theorem ev_pt (i k) : ev (.pt i k) n = ptK n i (ev k n) := by rw [ev] <;> rfl
@[simp] theorem ex_mut2 (i k m φ es) : ex (.mut2 i k m φ es) n = (ptK n i (ev k n)).bind (R.locK n fun L => (evs es n).mutL n L φ) := by rw [ex, ev] <;> rfl
@[simp] theorem ex_seti2 (i k f j e) : ex (.seti2 i k f j e) n = (ev e n).bind (R.val n fun x => (ptK n i (ev k n)).bind (R.locK n fun L => (ev j n).bind (R.val n fun y => setiL n L f x y))) := by rw [ex, ev] <;> rfl
@[simp] theorem ex_set2 (i t k φ es elt own) : ex (.set2 i t k φ es elt own) n = (evs es n).bind (RL.lc2 n i φ (turnO t (wipeN n (own.map (·.2))) (fun n' => ev elt n'))) := by rw [ex] <;> rfl
@[simp] theorem methK_some (f : List D → R) (l : T RL) : T.methK (some f) l = l.bind (RL.disp fun ds => .pure (f ds).call) := rfl
variable (k : D → T R) (kT : D → T RT) (d : D)
@[simp] theorem rdK_ok : R.rdK n k (.ok d) = k d := rfl
@[simp] theorem rdK_fr : R.rdK n k (.fresh d) = k d := rfl
@[simp] theorem rdK_ex (c f) : R.rdK n k (.exn c f) = .pure (.exn c f) := rfl
@[simp] theorem rdTK_ok : R.rdTK n kT (.ok d) = kT d := rfl
@[simp] theorem rdTK_fr : R.rdTK n kT (.fresh d) = kT d := rfl
@[simp] theorem rdTK_ex (c f) : R.rdTK n kT (.exn c f) = .pure (.exn c f) := rfl
@[simp] theorem argK_ok (t) : R.argK n t (.ok d) = t.bind fun l => .pure (l.cons d false) := rfl
@[simp] theorem argK_fr (t) : R.argK n t (.fresh d) = t.bind fun l => .pure (l.cons d false) := rfl
@[simp] theorem argK_ex (t c f) : R.argK n t (.exn c f) = .pure (.exn c f) := rfl
@[simp] theorem consL_ok (ds : List D) (o o' : Bool) : (RL.ok ds o).cons d o' = .ok (d :: ds) (o || o') := rfl
@[simp] theorem disp_ok (ds : List D) (kk) : RL.disp kk (.ok ds false) = kk ds := rfl
@[simp] theorem call_okf (ds : List D) (φ) : RL.call φ (.ok ds false) = (φ ds).bind fun r => .pure r.call := rfl
@[simp] theorem call_okt (ds : List D) (φ) : RL.call φ (.ok ds true) = (φ ds).bind fun r => .pure r.flatten := rfl
@[simp] theorem ops_def (t : T R) : t.ops = t.bind fun r => .pure r.op := rfl
@[simp] theorem Rcall_ok : (R.ok d).call = .ok d := rfl
@[simp] theorem Rcall_fr : (R.fresh d).call = .fresh d := rfl
@[simp] theorem Rcall_ex (c f) : (R.exn c f).call = .exn c f := rfl
@[simp] theorem Rop_ok : (R.ok d).op = .ok d := rfl
@[simp] theorem Rop_fr : (R.fresh d).op = .fresh d := rfl
@[simp] theorem Rop_bad : (R.bad).op = .bad := rfl
@[simp] theorem Rbool_bl (b : Bool) : (R.ok (.bl b)).bool = .ok b := rfl
@[simp] theorem RTk_ok (b : Bool) (kk : Bool → T R) : (RT.ok b).k kk = kk b := rfl
@[simp] theorem RTkT_ok (b : Bool) (kk : Bool → T RT) : (RT.ok b).kT kk = kk b := rfl
@[simp] theorem RTs_ok (b : Bool) (kk : Bool → T RS) : RT.s n kk (.ok b) = kk b := rfl
@[simp] theorem RTs_ex (c f) (kk : Bool → T RS) : RT.s n kk (.exn c f) = .pure (.exn n c f) := rfl
@[simp] theorem store_ok (i : Nat) : (R.ok d).store n i = .next (n.set i (.val d)) := rfl
@[simp] theorem store_fr (i : Nat) : (R.fresh d).store n i = .next (n.set i (.own d)) := rfl
@[simp] theorem store_ex (i : Nat) (c f) : (R.exn c f).store n i = .exn n c f := rfl
@[simp] theorem val_ok (kk) : R.val n kk (.ok d) = kk d := rfl
@[simp] theorem val_fr (kk) : R.val n kk (.fresh d) = kk d := rfl
@[simp] theorem val_ex (kk c f) : R.val n kk (.exn c f) = .pure (.exn n c f) := rfl
@[simp] theorem vals_ok (ds kk) : RL.vals n kk (.ok ds false) = kk ds := rfl
@[simp] theorem drop_ok : (R.ok d).drop n = .next n := rfl
@[simp] theorem drop_fr : (R.fresh d).drop n = .next n := rfl
@[simp] theorem drop_ex (c f) : (R.exn c f).drop n = .exn n c f := rfl
@[simp] theorem ret_ok : (R.ok d).ret n = .ret (.ok d) := rfl
@[simp] theorem ret_fr : (R.fresh d).ret n = .ret (.fresh d) := rfl
@[simp] theorem ret_ex (c f) : (R.exn c f).ret n = .exn n c f := rfl
@[simp] theorem seq_next (kk : Nv → T RS) (m : Nv) : RS.seqK kk (.next m) = kk m := rfl
@[simp] theorem seq_ret (kk : Nv → T RS) (r : R) : RS.seqK kk (.ret r) = .pure (.ret r) := rfl
@[simp] theorem seq_exn (kk : Nv → T RS) (m c f) : RS.seqK kk (.exn m c f) = .pure (.exn m c f) := rfl
@[simp] theorem seq_brk (kk : Nv → T RS) (m : Nv) : RS.seqK kk (.brk m) = .pure (.brk m) := rfl
@[simp] theorem seq_cont (kk : Nv → T RS) (m : Nv) : RS.seqK kk (.cont m) = .pure (.cont m) := rfl
@[simp] theorem get_val (i : Nat) : Sl.get i (some (.val d)) = .ok d := rfl
@[simp] theorem get_own (i : Nat) : Sl.get i (some (.own d)) = .own (.slot i) := rfl
@[simp] theorem locK_own (kk : Plc → T RS) (L : Plc) : R.locK n kk (.own L) = kk L := rfl
@[simp] theorem truth_val : Sl.truth (some (.val d)) = truth d := rfl
@[simp] theorem truth_own : Sl.truth (some (.own d)) = truth d := rfl
@[simp] theorem truth_bl (b : Bool) : truth (.bl b) = .ok b := rfl
@[simp] theorem truth_int (i : Int) : truth (.int i) = .ok (i != 0) := rfl
@[simp] theorem truthT_def : truthT d = .pure (truth d) := rfl
@[simp] theorem out_next (m : Nv) : (RS.next m).out = .ok .non := rfl
@[simp] theorem out_ret : (RS.ret (.ok d)).out = .ok d := rfl
@[simp] theorem out_retf : (RS.ret (.fresh d)).out = .fresh d := rfl
@[simp] theorem out_exn (m c f) : (RS.exn m c f).out = .exn c f := rfl
@[simp] theorem part_int (i : Int) (kk : Option Int → T R) : R.part false kk (.ok (.int i)) = kk (some i) := rfl
@[simp] theorem part_non (kk : Option Int → T R) : R.part true kk (.ok .non) = kk none := rfl
@[simp] theorem isNonC_non : isNonC (.c .non) = true := rfl
@[simp] theorem isNonC_int (i : Int) : isNonC (.c (.int i)) = false := rfl
@[simp] theorem isNonC_v (i : Nat) : isNonC (.v i) = false := rfl
@[simp] theorem isNonC_bin (op f a b) : isNonC (.bin op f a b) = false := rfl
theorem run_eq {p kk : Nat} {body : List S} {ds : List D} (h : ds.length = p) : runF p kk body ds = (exs body (startN kk ds)).bind fun r => .pure r.out := by
  unfold runF
  rw [if_pos h]
@[simp] theorem opc_def (f : List D → R) (ds : List D) : opc f ds = .pure (f ds).op := rfl
@[simp] theorem startN_def (ds : List D) (kk : Nat) : startN kk ds = ds.map .val ++ List.replicate (kk - ds.length) .emp := rfl
end
theorem atD_0 (a : D) (r : List D) : atD (a :: r) 0 = .ok a := by
  unfold atD atI ixN
  simp
theorem ixN_nat {n k : Nat} (h : k < n) : ixN n (k : Int) = some k := by
  unfold ixN
  rw [if_pos (Int.natCast_nonneg k), if_pos (by omega)]
  simp
theorem atD_nat {ds : List D} {k : Nat} {d : D} (h : ds[k]? = some d) : atD ds (k : Int) = .ok d := by
  unfold atD atI
  rw [ixN_nat (List.getElem?_eq_some_iff.mp h).1]
  simp [h]
theorem atD_1 (a b : D) (r : List D) : atD (a :: b :: r) 1 = .ok b := atD_nat (k := 1) rfl
theorem atD_2 (a b c : D) (r : List D) : atD (a :: b :: c :: r) 2 = .ok c := atD_nat (k := 2) rfl
end PM

set_option Elab.async false
set_option linter.all false
set_option maxRecDepth 100000
set_option maxHeartbeats 2000000
/-! PM27: == of plain data is equality. -/
namespace PM
open PySem PySem.Spec L2
open PyProof.Rows hiding St

mutual
/-- no truth value within, at most k deep -/
def pl0 : Nat → D → Bool
  | _, .non => true
  | _, .int _ => true
  | _, .str s => PyData.canLay0 (.str s)
  | k, .tup ds => match k with
    | 0 => false
    | k + 1 => plL0 k ds
  | k, .lst ds => match k with
    | 0 => false
    | k + 1 => plL0 k ds
  | _, _ => false
def plL0 : Nat → List D → Bool
  | _, [] => true
  | k, d :: ds => pl0 k d && plL0 k ds
end
mutual
theorem pl0_to : ∀ (k : Nat) (d : D), pl0 k d = true → ∃ p, toP d = some p ∧ p.canLay0 = true ∧ p.depth ≤ k
  | k, .non, _ => ⟨_, rfl, rfl, by rw [PyData.depth]; exact Nat.zero_le _⟩
  | k, .int i, _ => ⟨_, rfl, rfl, by rw [PyData.depth]; exact Nat.zero_le _⟩
  | k, .str s, h => ⟨_, rfl, by unfold pl0 at h; exact h, by rw [PyData.depth]; exact Nat.zero_le _⟩
  | 0, .tup ds, h => by unfold pl0 at h; cases h
  | 0, .lst ds, h => by unfold pl0 at h; cases h
  | k + 1, .tup ds, h => by
    unfold pl0 at h
    obtain ⟨ps, e, c, l⟩ := plL0_to k ds h
    exact ⟨.tuple ps, by unfold toP; rw [e], by rw [PyData.canLay0]; exact c, by rw [PyData.depth]; omega⟩
  | k + 1, .lst ds, h => by
    unfold pl0 at h
    obtain ⟨ps, e, c, l⟩ := plL0_to k ds h
    exact ⟨.list ps, by unfold toP; rw [e], by rw [PyData.canLay0]; exact c, by rw [PyData.depth]; omega⟩
  | _, .bl _, h => by unfold pl0 at h; cases h
  | _, .dT _ _, h => by unfold pl0 at h; cases h
  | _, .dK _ _, h => by unfold pl0 at h; cases h
  | _, .ins _ _ _, h => by unfold pl0 at h; cases h
  | _, .exn _ _, h => by unfold pl0 at h; cases h
  | _, .pool, h => by unfold pl0 at h; cases h
  | _, .pw _, h => by unfold pl0 at h; cases h
theorem plL0_to : ∀ (k : Nat) (ds : List D), plL0 k ds = true → ∃ ps, toPs ds = some ps ∧ PyData.canLayAll0 ps = true ∧ PyData.depthAll ps ≤ k
  | k, [], _ => ⟨[], rfl, rfl, by rw [PyData.depthAll]; exact Nat.zero_le _⟩
  | k, d :: ds, h => by
    unfold plL0 at h
    rw [Bool.and_eq_true] at h
    obtain ⟨p, e1, c1, l1⟩ := pl0_to k d h.1
    obtain ⟨ps, e2, c2, l2⟩ := plL0_to k ds h.2
    exact ⟨p :: ps, by unfold toPs; rw [e1, e2], by rw [PyData.canLayAll0, c1, c2]; rfl, by rw [PyData.depthAll]; omega⟩
end
open Classical in
mutual
theorem eqv_pl : ∀ (k : Nat) (d e : D) (p q : PyData), pl0 k d = true → pl0 k e = true → toP d = some p → toP e = some q → PyData.eqv p q = decide (d = e)
  | k, .non, e, p, q, h, g, e1, e2 => by
    cases e1
    cases e <;> first
      | (unfold pl0 at g; cases g; done)
      | (cases e2; simp [PyData.eqv])
      | (unfold toP at e2; split at e2 <;> first | (cases e2; done) | (cases e2; simp [PyData.eqv]))
  | k, .int i, e, p, q, h, g, e1, e2 => by
    cases e1
    cases e <;> first
      | (unfold pl0 at g; cases g; done)
      | (cases e2; simp [PyData.eqv]; done)
      | (cases e2; simp [PyData.eqv]; rfl)
      | (unfold toP at e2; split at e2 <;> first | (cases e2; done) | (cases e2; simp [PyData.eqv]))
  | k, .str s, e, p, q, h, g, e1, e2 => by
    cases e1
    cases e <;> first
      | (unfold pl0 at g; cases g; done)
      | (cases e2; simp [PyData.eqv]; done)
      | (cases e2; simp [PyData.eqv]; rfl)
      | (unfold toP at e2; split at e2 <;> first | (cases e2; done) | (cases e2; simp [PyData.eqv]))
  | 0, .tup ds, _, _, _, h, _, _, _ => by unfold pl0 at h; cases h
  | 0, .lst ds, _, _, _, h, _, _, _ => by unfold pl0 at h; cases h
  | k + 1, .tup ds, e, p, q, h, g, e1, e2 => by
    unfold pl0 at h
    unfold toP at e1
    cases e3 : toPs ds with
    | none => rw [e3] at e1; cases e1
    | some ps =>
      rw [e3] at e1
      cases e1
      cases e with
      | tup es =>
        unfold pl0 at g
        unfold toP at e2
        cases e4 : toPs es with
        | none => rw [e4] at e2; cases e2
        | some qs =>
          rw [e4] at e2
          cases e2
          rw [PyData.eqv, eqvL_pl k ds es ps qs h g e3 e4]
          simp
      | lst es =>
        unfold toP at e2
        split at e2 <;> cases e2
        simp [PyData.eqv]
      | _ => first
        | (unfold pl0 at g; cases g; done)
        | (cases e2; simp [PyData.eqv])
  | k + 1, .lst ds, e, p, q, h, g, e1, e2 => by
    unfold pl0 at h
    unfold toP at e1
    cases e3 : toPs ds with
    | none => rw [e3] at e1; cases e1
    | some ps =>
      rw [e3] at e1
      cases e1
      cases e with
      | lst es =>
        unfold pl0 at g
        unfold toP at e2
        cases e4 : toPs es with
        | none => rw [e4] at e2; cases e2
        | some qs =>
          rw [e4] at e2
          cases e2
          rw [PyData.eqv, eqvL_pl k ds es ps qs h g e3 e4]
          simp
      | tup es =>
        unfold toP at e2
        split at e2 <;> cases e2
        simp [PyData.eqv]
      | _ => first
        | (unfold pl0 at g; cases g; done)
        | (cases e2; simp [PyData.eqv])
  | _, .bl _, _, _, _, h, _, _, _ => by unfold pl0 at h; cases h
  | _, .dT _ _, _, _, _, h, _, _, _ => by unfold pl0 at h; cases h
  | _, .dK _ _, _, _, _, h, _, _, _ => by unfold pl0 at h; cases h
  | _, .ins _ _ _, _, _, _, h, _, _, _ => by unfold pl0 at h; cases h
  | _, .exn _ _, _, _, _, h, _, _, _ => by unfold pl0 at h; cases h
  | _, .pool, _, _, _, h, _, _, _ => by unfold pl0 at h; cases h
  | _, .pw _, _, _, _, h, _, _, _ => by unfold pl0 at h; cases h
theorem eqvL_pl : ∀ (k : Nat) (ds es : List D) (ps qs : List PyData), plL0 k ds = true → plL0 k es = true → toPs ds = some ps → toPs es = some qs → PyData.eqvAll ps qs = decide (ds = es)
  | k, [], [], ps, qs, _, _, e1, e2 => by cases e1; cases e2; simp [PyData.eqvAll]
  | k, [], e :: es, ps, qs, _, g, e1, e2 => by
    cases e1
    unfold plL0 at g
    rw [Bool.and_eq_true] at g
    obtain ⟨p, e3, _, _⟩ := pl0_to k e g.1
    obtain ⟨ps, e4, _, _⟩ := plL0_to k es g.2
    unfold toPs at e2
    rw [e3, e4] at e2
    cases e2
    simp [PyData.eqvAll]
  | k, d :: ds, [], ps, qs, h, _, e1, e2 => by
    cases e2
    unfold plL0 at h
    rw [Bool.and_eq_true] at h
    obtain ⟨p, e3, _, _⟩ := pl0_to k d h.1
    obtain ⟨ps, e4, _, _⟩ := plL0_to k ds h.2
    unfold toPs at e1
    rw [e3, e4] at e1
    cases e1
    simp [PyData.eqvAll]
  | k, d :: ds, e :: es, ps, qs, h, g, e1, e2 => by
    unfold plL0 at h g
    rw [Bool.and_eq_true] at h g
    obtain ⟨p, e3, _, _⟩ := pl0_to k d h.1
    obtain ⟨ps', e4, _, _⟩ := plL0_to k ds h.2
    obtain ⟨q, e5, _, _⟩ := pl0_to k e g.1
    obtain ⟨qs', e6, _, _⟩ := plL0_to k es g.2
    unfold toPs at e1 e2
    rw [e3, e4] at e1
    rw [e5, e6] at e2
    cases e1
    cases e2
    rw [PyData.eqvAll, eqv_pl k d e p q h.1 g.1 e3 e5, eqvL_pl k ds es ps' qs' h.2 g.2 e4 e6]
    simp
end
/-! powers as tuples -/
mutual
def er : D → D
  | .pw is => .tup (is.map .int)
  | .tup ds => .tup (erL ds)
  | .lst ds => .lst (erL ds)
  | .non => .non
  | .bl b => .bl b
  | .int i => .int i
  | .str s => .str s
  | .dT k v => .dT k v
  | .dK k v => .dK k v
  | .ins c n v => .ins c n v
  | .exn c f => .exn c f
  | .pool => .pool
def erL : List D → List D
  | [] => []
  | d :: ds => er d :: erL ds
end
theorem erL_map : ∀ (ds : List D), erL ds = ds.map er
  | [] => by rw [erL]; rfl
  | d :: ds => by rw [erL, erL_map ds]; rfl
theorem toPs_ints : ∀ (is : List Int), toPs (is.map .int) = some (is.map .int)
  | [] => by rw [List.map_nil, toPs]; rfl
  | i :: is => by rw [List.map_cons, toPs, toP, toPs_ints is]; rfl
mutual
theorem toP_er : ∀ (d : D), toP (er d) = toP d
  | .pw is => by rw [er, toP, toP, toPs_ints is]
  | .tup ds => by rw [er, toP, toP, toPs_er ds]
  | .lst ds => by rw [er, toP, toP, toPs_er ds]
  | .non => by rw [er]
  | .bl _ => by rw [er]
  | .int _ => by rw [er]
  | .str _ => by rw [er]
  | .dT _ _ => by rw [er]
  | .dK _ _ => by rw [er]
  | .ins _ _ _ => by rw [er]
  | .exn _ _ => by rw [er]
  | .pool => by rw [er]
theorem toPs_er : ∀ (ds : List D), toPs (erL ds) = toPs ds
  | [] => by rw [erL]
  | d :: ds => by rw [erL, toPs, toPs, toP_er d, toPs_er ds]
end
/-- no truth value within, at most k deep -/
def pl (k : Nat) (d : D) : Bool := pl0 k (er d)
open Classical in
theorem eqG_pl {b : Bool} {d e : D} (h : pl 60 d = true) (g : pl 60 e = true) : eqG b d e = .ok (.bl (if b = true then decide (er d = er e) else !decide (er d = er e))) := by
  obtain ⟨p, e1, c1, l1⟩ := pl0_to 60 _ h
  obtain ⟨q, e2, c2, l2⟩ := pl0_to 60 _ g
  have s1 : SeqAt.shaped p = true := by unfold SeqAt.shaped; rw [c1, decide_eq_true (by omega)]; rfl
  have s2 : SeqAt.shaped q = true := by unfold SeqAt.shaped; rw [c2, decide_eq_true (by omega)]; rfl
  unfold eqG
  rw [← toP_er d, ← toP_er e, e1, e2]
  dsimp only
  rw [s1, s2, eqv_pl 60 _ _ p q h g e1 e2]
  rfl
open Classical in
theorem eqD_pl {d e : D} (h : pl 60 d = true) (g : pl 60 e = true) : eqD d e = .ok (.bl (decide (er d = er e))) := eqG_pl h g
open Classical in
theorem neD_pl {d e : D} (h : pl 60 d = true) (g : pl 60 e = true) : neD d e = .ok (.bl (!decide (er d = er e))) := eqG_pl h g
@[simp] theorem eqD_int (a b : Int) : eqD (.int a) (.int b) = .ok (.bl (decide (a = b))) := by
  rw [eqD_pl rfl rfl]
  simp [er]
@[simp] theorem neD_int (a b : Int) : neD (.int a) (.int b) = .ok (.bl (!decide (a = b))) := by
  rw [neD_pl rfl rfl]
  simp [er]
@[simp] theorem eqD_bl (a b : Bool) : eqD (.bl a) (.bl b) = .ok (.bl (decide (a = b))) := by
  cases a <;> cases b <;> rfl
@[simp] theorem neD_bl (a b : Bool) : neD (.bl a) (.bl b) = .ok (.bl (!decide (a = b))) := by
  cases a <;> cases b <;> rfl
end PM

set_option Elab.async false
set_option linter.all false
set_option maxRecDepth 100000
set_option maxHeartbeats 2000000
/-! PM28: loops by their word. -/
namespace PM
open PySem PySem.Spec L2
open PyProof.Rows hiding St

/-- behind a turn: on, or out -/
def turnEnd (I : Nv → Prop) (Q : RS → Prop) : RS → Prop
  | .next n => I n
  | .cont n => I n
  | .brk n => Q (.next n)
  | r => Q r
@[simp] theorem turnEnd_next (I Q n) : turnEnd I Q (.next n) = I n := rfl
@[simp] theorem turnEnd_cont (I Q n) : turnEnd I Q (.cont n) = I n := rfl
@[simp] theorem turnEnd_brk (I Q n) : turnEnd I Q (.brk n) = Q (.next n) := rfl
@[simp] theorem turnEnd_ret (I Q n) : turnEnd I Q (.ret n) = Q (.ret n) := rfl
@[simp] theorem turnEnd_exn (I Q n c f) : turnEnd I Q (.exn n c f) = Q (.exn n c f) := rfl
@[simp] theorem turnEnd_bad (I Q) : turnEnd I Q .bad = Q .bad := rfl
theorem forL_at {b : D → Nv → T RS} {Q : RS → Prop} (I : Nat → Nv → Prop) : ∀ (items : List D) (n : Nv) (j : Nat), (∀ (k : Nat) (d : D) (n : Nv), items[k]? = some d → I (j + k) n → (b d n).all (turnEnd (I (j + k + 1)) Q)) → (∀ n, I (j + items.length) n → Q (.next n)) → I j n → (forL b items n).all Q
  | [], n, j, _, h, i => by
    rw [forL_nil]
    exact h n i
  | d :: ds, n, j, hs, h, i => by
    rw [forL_cons, T.all_bind]
    refine T.mono (fun r hr => ?_) (hs 0 d n rfl i)
    have go : ∀ m, I (j + 1) m → (forL b ds m).all Q := fun m hm => forL_at I ds m (j + 1) (fun k d' n' e q => by
      have z := hs (k + 1) d' n' (by simpa using e) (by rw [show j + (k + 1) = j + 1 + k by omega]; exact q)
      rw [show j + (k + 1) + 1 = j + 1 + k + 1 by omega] at z
      exact z) (fun n q => h n (by rw [List.length_cons, show j + (ds.length + 1) = j + 1 + ds.length by omega]; exact q)) hm
    cases r with
    | next m => exact go m hr
    | cont m => exact go m hr
    | brk m => exact hr
    | ret r => exact hr
    | exn m c f => exact hr
    | bad => exact hr
/-- a for, by a word of how many turns are done -/
theorem forL_idx {b : D → Nv → T RS} {Q : RS → Prop} (I : Nat → Nv → Prop) {items : List D} {n : Nv} (start : I 0 n) (step : ∀ (k : Nat) (d : D) (n : Nv), items[k]? = some d → I k n → (b d n).all (turnEnd (I (k + 1)) Q)) (done : ∀ n, I items.length n → Q (.next n)) : (forL b items n).all Q :=
  forL_at I items n 0 (fun k d n e q => by rw [Nat.zero_add] at q ⊢; exact step k d n e q) (fun n q => done n (by rw [Nat.zero_add] at q; exact q)) start
/-- .. by a word that is the same at each turn -/
theorem forL_inv {b : D → Nv → T RS} {Q : RS → Prop} (I : Nv → Prop) {items : List D} {n : Nv} (start : I n) (step : ∀ (d : D) (n : Nv), d ∈ items → I n → (b d n).all (turnEnd I Q)) (done : ∀ n, I n → Q (.next n)) : (forL b items n).all Q :=
  forL_idx (fun _ => I) start (fun _ d n e q => step d n (List.mem_of_getElem? e) q) done
theorem T.mono' {α : Type} {P P' : α → Prop} {t : T α} (h : t.all P) (k : ∀ a, P a → P' a) : t.all P' := T.mono k h
/-- a comprehension whose elements are told -/
theorem lcL_map {f : D → T RC} {g : D → D} : ∀ {ds : List D}, (∀ d ∈ ds, f d = .pure (.keep (g d))) → lcL f ds = .pure (some (ds.map g))
  | [], _ => lcL_nil f
  | d :: ds, h => by
    rw [lcL_cons]
    rw [h d List.mem_cons_self]
    simp only [T.bind_p]
    rw [lcL_map fun d hd => h d (List.mem_cons_of_mem _ hd)]
    rfl
/-- .. with an if -/
theorem lcL_filterMap {f : D → T RC} {g : D → Option D} : ∀ {ds : List D}, (∀ d ∈ ds, f d = .pure (match g d with | some x => .keep x | none => .skip)) → lcL f ds = .pure (some (ds.filterMap g))
  | [], _ => lcL_nil f
  | d :: ds, h => by
    rw [lcL_cons]
    rw [h d List.mem_cons_self]
    simp only [T.bind_p]
    have ih := lcL_filterMap fun d hd => h d (List.mem_cons_of_mem _ hd)
    cases e : g d with
    | none =>
      simp only [e, List.filterMap_cons, ih]
    | some x =>
      simp only [e, List.filterMap_cons, ih]
      rfl
/-- .. by a relation, where numbers are drawn -/
theorem lcL_all {f : D → T RC} {P : List D → Prop} (I : Nat → List D → Prop) : ∀ (ds : List D) (j : Nat) (acc : List D), (∀ (k : Nat) (d : D) (xs : List D), ds[k]? = some d → I (j + k) xs → (f d).all fun r => match r with | .keep x => I (j + k + 1) (xs ++ [x]) | .skip => I (j + k + 1) xs | .bad => False) →
    (∀ xs, I (j + ds.length) xs → P xs) → I j acc → (lcL f ds).all fun o => match o with | some xs => P (acc ++ xs) | none => False
  | [], j, acc, _, h, i => by
    rw [lcL_nil]
    simpa using h acc i
  | d :: ds, j, acc, hs, h, i => by
    rw [lcL_cons, T.all_bind]
    refine T.mono (fun r hr => ?_) (hs 0 d acc rfl i)
    have go : ∀ acc', I (j + 1) acc' → (lcL f ds).all fun o => match o with | some xs => P (acc' ++ xs) | none => False := fun acc' hm => lcL_all I ds (j + 1) acc' (fun k d' n' e q => by
      have z := hs (k + 1) d' n' (by simpa using e) (by rw [show j + (k + 1) = j + 1 + k by omega]; exact q)
      rw [show j + (k + 1) + 1 = j + 1 + k + 1 by omega] at z
      exact z) (fun n q => h n (by rw [List.length_cons, show j + (ds.length + 1) = j + 1 + ds.length by omega]; exact q)) hm
    cases r with
    | keep x =>
      have z := go (acc ++ [x]) hr
      dsimp only
      rw [T.all_bind]
      refine T.mono (fun o ho => ?_) z
      cases o with
      | none => exact ho
      | some xs => simpa using ho
    | skip => exact go acc hr
    | bad => exact hr.elim
end PM

set_option Elab.async false
set_option linter.all false
set_option maxRecDepth 100000
set_option maxHeartbeats 2000000
/-! PM29: what is walked: a list or a tuple, enumerate, zip, reversed. -/
namespace PM
open PySem PySem.Spec L2
open PyProof.Rows hiding St

section
variable {X : Cx} {tg : Expr}
/-- a list | a tuple -/
def iSeq (K : PySem.W.Frag) (t : TE) : TI := fun σ H R => t σ H fun x H1 => ∃ (a : Addr) (vs : List V), x = .ref a ∧ ((SqL K H1 a vs ∧ R (Itl K a) H1) ∨ (SqT K H1 a vs ∧ R (Itt K a) H1))
theorem pi_seq {l : Expr} {t : TE} (hl : PE X l t) : PI X tg l (iSeq X.K t) := ⟨fun pins s σ H R I h => thn (hl.run pins s σ H _ I h) fun v s1 ⟨x, H1, I1, r1, a, vs, e, q⟩ => by
  subst e
  have ev : v = .ref a := r1
  subst ev
  have fp : ∀ b ∈ [s1.heap.objs.size], FpOk X pins H1 b ∧ b < (s1.heap.objs.size + 1) → True := fun _ _ _ => trivial
  rcases q with ⟨hq, q⟩ | ⟨hq, q⟩
  · obtain ⟨its, rv, p, hz⟩ := I1.list hq
    refine wpAny_pyIter_list p.isList ⟨s1.heap.objs.size, [s1.heap.objs.size], _, _, H1, rfl, I1.kept (t' := s1.toks) (fun b o z => Heap.get?_push_of_some _ z), turn_list a _, ⟨_, Heap.get?_push_size _ rfl, rfl, rfl⟩, fun b hb => ?_, q⟩
    rw [List.mem_singleton.mp hb]; exact I1.fpOk (Nat.le_refl _) (I1.hok.fresh (Nat.le_refl _))
  · obtain ⟨its, rv, p, hz⟩ := I1.tuple hq
    refine wpAny_pyIter_tuple (show s1.heap.IsTuple a its.toArray from p) ⟨s1.heap.objs.size, [s1.heap.objs.size], _, _, H1, rfl, I1.kept (t' := s1.toks) (fun b o z => Heap.get?_push_of_some _ z), turn_tuple a _, ⟨_, Heap.get?_push_size _ rfl, rfl, rfl⟩, fun b hb => ?_, q⟩
    rw [List.mem_singleton.mp hb]; exact I1.fpOk (Nat.le_refl _) (I1.hok.fresh (Nat.le_refl _))⟩
end
theorem den_ints2 {Z : Wd} {H : Hp} {B : Addr → Prop} : ∀ (ns : List Int), DenL Z H B (ns.map .int) (ns.map V.int)
  | [] => .nil
  | n :: ns => .cons den_int (den_ints2 ns)
def itU : List D → Option (List D)
  | [.lst ds] => some ds
  | [.tup ds] => some ds
  | [.pw is] => some (is.map .int)
  | _ => none
section
variable {C : Cn}
theorem it_itU : ItEx C itU := by
  intro X tg iter te A he
  refine pi_weak (pi_seq (pe_cl he)) fun σ H Rr h => ⟨_, h, fun v H1 ⟨B, d, items, q, e, k⟩ => ?_⟩
  cases d with
  | lst ds =>
    cases e
    unfold Den at q
    obtain ⟨a, vs, rfl, q1, q2⟩ := q
    exact ⟨a, vs, rfl, .inl ⟨by rw [A.k]; exact q1.sq, k _ H1 (Ex.refl _) (walkD_at walk_list q2 fun B1 hB => ⟨(den_new hB).2 _ _ q2, fun H' kp => by rw [A.k]; exact q1.new hB kp⟩)⟩⟩
  | tup ds =>
    cases e
    unfold Den at q
    obtain ⟨a, vs, rfl, q1, q2⟩ := q
    exact ⟨a, vs, rfl, .inr ⟨by rw [A.k]; exact q1, k _ H1 (Ex.refl _) (walkD_at walk_tup q2 fun B1 hB => ⟨(den_new hB).2 _ _ q2, fun H' kp => by rw [A.k]; exact kp_t kp q1⟩)⟩⟩
  | pw is =>
    cases e
    unfold Den at q
    obtain ⟨a, rfl, q1⟩ := q
    exact ⟨a, _, rfl, .inr ⟨.inl (.inl q1), k _ H1 (Ex.refl _) (walkD_at walk_tup (den_ints2 is) fun B1 hB => ⟨den_ints2 is, fun H' kp => .inl (.inl (kp a _ q1 (.inr rfl)))⟩)⟩⟩
  | _ => cases e
/-- pairs -/
def pairsD (xs ys : List D) : List D := List.zipWith (fun x y => .tup [x, y]) xs ys
theorem walkD_pair {Z : Wd} {J : It} {xs ys : List D} {fx fy : Nat → Option V} {H : Hp} {B : Addr → Prop} {G : Hp → Prop} {n : Nat} (hn : n = min xs.length ys.length) (w : Walk J n G (YPair fx fy))
    (hB : ∀ (B1 : Addr → Prop), (∀ a, B1 a → B a ∨ H a = none) → (∀ H', Kp B1 H H' → G H') ∧ ∀ i H', i < n → Kp B1 H H' → (∀ v, fx i = some v → ∃ d, xs[i]? = some d ∧ Den Z H' B1 d v) ∧ ∀ v, fy i = some v → ∃ d, ys[i]? = some d ∧ Den Z H' B1 d v) : WalkD Z J (pairsD xs ys) H B := by
  intro B1 hB1
  obtain ⟨h1, h2⟩ := hB B1 hB1
  have hl : (pairsD xs ys).length = n := by unfold pairsD; rw [List.length_zipWith, hn]
  refine ⟨G, YPair fx fy, by rw [hl]; exact w, h1, fun i v Ha Hb k hi y => ?_⟩
  obtain ⟨T, x, y, rfl, hT, rfl, e1, e2⟩ := y
  obtain ⟨g1, g2⟩ := h2 i Ha (by rw [hl] at hi; exact hi) k
  obtain ⟨dx, x1, x2⟩ := g1 x e1
  obtain ⟨dy, y1, y2⟩ := g2 y e2
  refine ⟨Ex.new hT, .tup [dx, dy], ?_, den_tupN hT (.cons x2 (.cons y2 .nil))⟩
  unfold pairsD
  rw [List.getElem?_zipWith, x1, y1]
def itEnum1 : List D → Option (List D)
  | [.lst ds] => some (pairsD (intsD 0 ds.length) ds)
  | _ => none
theorem intsD_get {lo : Int} {n i : Nat} (h : i < n) : (intsD lo n)[i]? = some (.int (lo + i)) := by
  unfold intsD
  rw [List.getElem?_map, List.getElem?_range h]
  rfl
theorem intsD_len {lo : Int} {n : Nat} : (intsD lo n).length = n := by
  unfold intsD
  simp
theorem it_enum1 (hm : C.mg "enumerate" = none) : ItCl C "enumerate" 1 itEnum1 := by
  intro X tg A gl ht p pos xs t hn hs ha
  have hm' : X.mg "enumerate" = none := by rw [A.g]; exact hm
  obtain ⟨a, rfl⟩ : ∃ a, xs = [a] := List.length_eq_one_iff.mp hn
  simp only [List.all_cons, List.all_nil, Bool.and_true] at hs
  have ht' : isTup tg = true := ht.resolve_right (by decide)
  cases tg with
  | Tuple elts kk tpos =>
    refine pi_weak (pi_enum gl hm' (pa_cl ha) (star_cons hs)) fun σ H Rr h => ⟨_, h, fun vs H1 ⟨B, ds, items, q, e, k⟩ => ?_⟩
    unfold itEnum1 at e
    split at e
    · rename_i es
      cases e
      obtain ⟨v, rfl, h1⟩ := den1 q
      unfold Den at h1
      obtain ⟨b, ws, rfl, q1, q2⟩ := h1
      refine ⟨b, ws, rfl, by rw [A.k]; exact q1.sq, k _ H1 (Ex.refl _) (walkD_pair (n := ws.length) (by rw [intsD_len, Nat.min_self, q2.length]) walk_enum fun B1 hB => ⟨fun H' kp => by rw [A.k]; exact q1.new hB kp, fun i H' hi kp => ⟨fun v hv => ?_, fun v hv => ?_⟩⟩)⟩
      · cases hv
        refine ⟨_, intsD_get (by rw [← q2.length]; exact hi), ?_⟩
        rw [Int.zero_add]
        exact den_int
      · obtain ⟨d, z1, z2⟩ := ((den_new hB).2 _ _ q2).at hv
        exact ⟨d, z1, z2.kp kp fun _ z => z⟩
    · cases e
  | _ => cases ht'
theorem walk_zipT {K : PySem.W.Frag} {a b : Addr} {us vs : List V} {n : Nat} (hn : n = min us.length vs.length) : Walk (RZ.ItzT K a b) n (fun H => SqT K H a us ∧ SqT K H b vs) (YPair (fun i => us[i]?) (fun i => vs[i]?)) where
  goes := fun i H hi q => ⟨us, vs, us[i]'(by omega), vs[i]'(by omega), q.1, q.2, List.getElem?_eq_getElem _, List.getElem?_eq_getElem _⟩
  stops := fun H q => ⟨us, vs, q.1, q.2, by omega⟩
  yields := fun i H v H' hi q y => by
    obtain ⟨T, x, z, g1, g2, g3, g4, g5⟩ := y
    refine ⟨T, x, z, g1, g2, g3, g4 us q.1, g5 vs q.2⟩
/-- zip of two lists, of two tuples -/
def itZip2 : List D → Option (List D)
  | [.lst ds, .lst es] => some (pairsD ds es)
  | [.tup ds, .tup es] => some (pairsD ds es)
  | [.pw as, .pw bs] => some (pairsD (as.map .int) (bs.map .int))
  | _ => none
theorem it_zip2 (hm : C.mg "zip" = none) : ItCl C "zip" 2 itZip2 := by
  intro X tg A gl ht p pos xs t hn hs ha
  have hm' : X.mg "zip" = none := by rw [A.g]; exact hm
  obtain ⟨a, b, rfl⟩ : ∃ a b, xs = [a, b] := by
    match xs, hn with
    | [a, b], _ => exact ⟨a, b, rfl⟩
  simp only [List.all_cons, List.all_nil, Bool.and_true, Bool.and_eq_true] at hs
  have ht' : isTup tg = true := ht.resolve_right (by decide)
  cases tg with
  | Tuple elts kk tpos =>
    refine pi_weak (RZ.pi_zipA gl hm' (pa_cl ha) (star_cons hs.1) (star_any (by simp [hs.2]))) fun σ H Rr h => ⟨_, h, fun vs H1 ⟨B, ds, items, q, e, k⟩ => ?_⟩
    unfold itZip2 at e
    split at e
    · rename_i es fs
      cases e
      obtain ⟨v, w, rfl, h1, h2⟩ := den2 q
      unfold Den at h1 h2
      obtain ⟨b1, ws, rfl, q1, q2⟩ := h1
      obtain ⟨b2, us, rfl, q3, q4⟩ := h2
      refine ⟨b1, b2, ws, us, rfl, .inl ⟨by rw [A.k]; exact q1.sq, by rw [A.k]; exact q3.sq, k _ H1 (Ex.refl _) (walkD_pair (n := min ws.length us.length) (by rw [q2.length, q4.length]) (walk_zip rfl) fun B1 hB => ⟨fun H' kp => by rw [A.k]; exact ⟨q1.new hB kp, q3.new hB kp⟩, fun i H' hi kp => ⟨fun v hv => ?_, fun v hv => ?_⟩⟩)⟩⟩
      · obtain ⟨d, z1, z2⟩ := ((den_new hB).2 _ _ q2).at hv
        exact ⟨d, z1, z2.kp kp fun _ z => z⟩
      · obtain ⟨d, z1, z2⟩ := ((den_new hB).2 _ _ q4).at hv
        exact ⟨d, z1, z2.kp kp fun _ z => z⟩
    · rename_i es fs
      cases e
      obtain ⟨v, w, rfl, h1, h2⟩ := den2 q
      unfold Den at h1 h2
      obtain ⟨b1, ws, rfl, q1, q2⟩ := h1
      obtain ⟨b2, us, rfl, q3, q4⟩ := h2
      refine ⟨b1, b2, ws, us, rfl, .inr ⟨by rw [A.k]; exact q1, by rw [A.k]; exact q3, k _ H1 (Ex.refl _) (walkD_pair (n := min ws.length us.length) (by rw [q2.length, q4.length]) (walk_zipT rfl) fun B1 hB => ⟨fun H' kp => by rw [A.k]; exact ⟨kp_t kp q1, kp_t kp q3⟩, fun i H' hi kp => ⟨fun v hv => ?_, fun v hv => ?_⟩⟩)⟩⟩
      · obtain ⟨d, z1, z2⟩ := ((den_new hB).2 _ _ q2).at hv
        exact ⟨d, z1, z2.kp kp fun _ z => z⟩
      · obtain ⟨d, z1, z2⟩ := ((den_new hB).2 _ _ q4).at hv
        exact ⟨d, z1, z2.kp kp fun _ z => z⟩
    · rename_i as bs
      cases e
      obtain ⟨v, w, rfl, h1, h2⟩ := den2 q
      unfold Den at h1 h2
      obtain ⟨b1, rfl, q1⟩ := h1
      obtain ⟨b2, rfl, q3⟩ := h2
      refine ⟨b1, b2, as.map V.int, bs.map V.int, rfl, .inr ⟨by rw [A.k]; exact .inl (.inl q1), by rw [A.k]; exact .inl (.inl q3), k _ H1 (Ex.refl _) (walkD_pair (n := min (as.map V.int).length (bs.map V.int).length) (by simp) (walk_zipT rfl) fun B1 hB => ⟨fun H' kp => by rw [A.k]; exact ⟨.inl (.inl (kp b1 _ q1 (.inr rfl))), .inl (.inl (kp b2 _ q3 (.inr rfl)))⟩, fun i H' hi kp => ⟨fun v hv => ?_, fun v hv => ?_⟩⟩)⟩⟩
      · obtain ⟨d, z1, z2⟩ := (den_ints2 as).at hv
        exact ⟨d, z1, z2⟩
      · obtain ⟨d, z1, z2⟩ := (den_ints2 bs).at hv
        exact ⟨d, z1, z2⟩
    · cases e
  | _ => cases ht'
end
end PM

set_option Elab.async false
set_option linter.all false
set_option maxRecDepth 100000
set_option maxHeartbeats 2000000
/-! PM30: dicts by powers, methods that change, tuple, list, all. -/
namespace PM
open PySem PySem.Spec L2
open PyProof.Rows hiding St

theorem kp_one {B : Addr → Prop} {H H' : Hp} {p : Addr} (hp : ∃ o, H p = some o ∧ isMut o = true) (hb : B p) (hk : ∀ a, a ≠ p → H' a = H a) : Kp B H H' := fun a o e q => by
  by_cases c : a = p
  · subst c
    obtain ⟨o', e', m⟩ := hp
    rw [e] at e'
    cases e'
    rcases q with q | q
    · exact absurd hb q
    · rw [m] at q; cases q
  · rw [hk a c]; exact e
theorem base_of {eo : Expr} {m : Str} {env : Env} (h : plainO eo = true) : attributeBase eo m env (eval eo env) = eval eo env := by
  cases eo <;> first | rfl | (exact absurd h Bool.false_ne_true)
theorem few_of {e : Expr} {es : List Expr} {pos : Pos} {env : Env} (h : (e :: es).all notStar = true) (hl : (e :: es).length ≤ 20) :
    ((backTo pos (starEach (e :: es) env)).all (fun x => !x.1) && (backToKw pos (keywordEach [] env)).all (fun x => x.1.isSome) && decide ((e :: es).length + ([] : List Keyword).length + (if ([] : List Keyword).isEmpty then 0 else 1) < 30)) = true := by
  have z := star_any (pos := pos) (env := env) h
  have a : (backTo pos (starEach (e :: es) env)).all (fun x => !x.1) = true := by
    rw [List.all_eq_true]
    intro x hx
    have := List.any_eq_false.mp z x hx
    simpa using this
  have b : (backToKw pos (keywordEach [] env)).all (fun x => x.1.isSome) = true := by rfl
  rw [a, b]
  simp only [Bool.true_and, decide_eq_true_eq]
  have : (if ([] : List Keyword).isEmpty then 0 else 1) = 0 := rfl
  rw [this, List.length_nil]
  omega
/-- a method that changes an owned list -/
def rMut (Z : Wd) (φ : List D → List D → Option (List D)) : V → List V → Hp → VK → Prop := fun x vs H Q => ∃ (p : Addr) (B : Addr → Prop) (xs ds d' : List D), x = .ref p ∧ B p ∧ OwnAt Z H B p (.lst xs) ∧ DenL Z H B ds vs ∧ φ xs ds = some d' ∧ ∀ v H3, (∀ a, a ≠ p → H3 a = H a) → OwnAt Z H3 B p (.lst d') → Q v H3
def lstM (φ : List D → List D → Option (List D)) : D → Option (List D → Option D)
  | .lst xs => some fun ds => (φ xs ds).map .lst
  | _ => none
theorem lstM_some {φ : List D → List D → Option (List D)} {d : D} {f : List D → Option D} (h : lstM φ d = some f) : ∃ xs, d = .lst xs ∧ f = fun ds => (φ xs ds).map .lst := by
  cases d with
  | lst xs => cases h; exact ⟨xs, rfl, rfl⟩
  | _ => cases h
theorem mut_of {C : Cn} {m : Str} {id : String} {φ : List D → List D → Option (List D)} (pa : PlainAttrs "list") (slot : Slot "list" m id) (hty : typeOf (.builtin id) = pure (.type "method_descriptor")) (hm : ∀ X, C.At X → MtR X id (rMut C.Z φ)) : MutOk C m (lstM φ) := by
  intro X A eo ap cp es to t po hl hs hn ho ha
  have own : ∀ {H : Hp} {B : Addr → Prop} {p : Addr} {xs : List D}, OwnAt C.Z H B p (.lst xs) → tyV X.K "list" (.ref p) H := fun {H B p xs} ⟨vs, h, _⟩ => .inl ⟨rfl, vs, .inl (.inl h)⟩
  cases es with
  | nil =>
    refine ⟨fun pins s σ H Q I h => wpAny_Call_method0_late (base_of po) hl (thn (ho.run pins s σ H _ I h) fun v s1 ⟨x, H1, I1, r1, p, B, d, f, ex, hb, hd, ef, q⟩ => ?_)⟩
    obtain ⟨xs, rfl, rfl⟩ := lstM_some ef
    subst ex
    obtain ⟨t1, t2⟩ := tyV_is I1 r1 (own hd)
    refine ⟨"list", id, pa, slot, hty, t1, t2, Calls.callWith_builtin rfl (PySem.evalArgs_none ?_)⟩
    intro Γ pp hΓ
    obtain ⟨vs, H2, I2, r2, ds, d', e2, hd2, ed, k⟩ := ha.run cp pins s1 σ H1 _ I1 q Γ pp hΓ
    cases r2
    have ed : (φ xs ds).map D.lst = some d' := ed
    cases eq : φ xs ds with
    | none => rw [eq] at ed; cases ed
    | some ys =>
      rw [eq] at ed
      cases ed
      exact hm X A pins s1 σ H2 _ [] v [] Q I2 r1 .nil ⟨p, B, xs, ds, ys, rfl, hb, hd.ex e2, hd2, eq, k⟩ Γ pp hΓ
  | cons e es =>
    rw [List.all_cons, Bool.and_eq_true] at hs
    refine pe_weak (pe_bm pa slot hty (hm X A) (pe_cl ho) (pa_cl ha) (base_of po) (few_of (by rw [List.all_cons, hs.1, hs.2]; rfl) hn) hl (star_cons hs.1) (star_any hs.2)) fun σ H Q h => ⟨_, h, fun x H1 ⟨p, B, d, f, e1, hb, hd, ef, q⟩ => ?_⟩
    obtain ⟨xs, rfl, rfl⟩ := lstM_some ef
    subst e1
    refine ⟨own hd, _, q, fun vs H2 ⟨ds, d', e2, hd2, ed, k⟩ => ?_⟩
    have ed : (φ xs ds).map D.lst = some d' := ed
    cases eq : φ xs ds with
    | none => rw [eq] at ed; cases ed
    | some ys =>
      rw [eq] at ed
      cases ed
      exact ⟨p, B, xs, ds, ys, rfl, hb, hd.ex e2, hd2, eq, k⟩
def appL : List D → List D → Option (List D)
  | xs, [d] => if xs.length < lineMax then some (xs ++ [d]) else none
  | _, _ => none
def appD := lstM appL
theorem mut_appD {C : Cn} : MutOk C "append" appD := mut_of PySem.F.plainAttrs_list PySem.F.slot_list_append PySem.F.type_list_append fun X A pins s σ H x vs v us Q I rx rv h => by
  obtain ⟨p, B, xs, ds, d', rfl, hb, ⟨ws, h1, h2⟩, hd, e, k⟩ := h
  unfold appL at e
  split at e
  · rename_i d
    by_cases c : xs.length < lineMax
    · rw [if_pos c] at e
      cases e
      obtain ⟨y, rfl, hy⟩ := den1 hd
      rw [lineMax_eq, ← h2.length] at c
      have ne : ∀ a, a ≠ p → upd H p (.lst (ws ++ [y])) a = H a := fun a ha => upd_ne ha
      refine mt_append pins s σ H _ _ v us Q I rx rv ⟨p, ws, y, rfl, rfl, h1, c, k .non _ ne ⟨ws ++ [y], upd_same, ?_⟩⟩
      have kp := kp_one (B := B) ⟨_, h1, rfl⟩ hb ne
      exact (h2.append (.cons hy .nil)).kp kp fun _ z => z
    · rw [if_neg c] at e; cases e
  · cases e

/-! ### dicts by powers -/
def keyW (is : List Int) : List Key := is.map Sum.inl
theorem keyW_kV (is : List Int) : (keyW is).map kV = is.map V.int := by
  unfold keyW
  rw [List.map_map]
  rfl
theorem keyW_inj {a b : List Int} (h : keyW a = keyW b) : a = b := by
  unfold keyW at h
  exact (List.map_inj_right fun x y z => by cases z; rfl).mp h
def valD (ks : List (List Key)) (vs : List D) (k : List Key) : Option D := ((ks.zip vs).find? fun p => decide (p.1 = k)).map (·.2)
theorem val_den {Z : Wd} {H : Hp} {B : Addr → Prop} {k : List Key} : ∀ {kvs : List (List Key × V)} {vs : List D}, DenL Z H B vs (kvs.map (·.2)) → (valV kvs k = none ∧ valD (kvs.map (·.1)) vs k = none) ∨ ∃ v d, valV kvs k = some v ∧ valD (kvs.map (·.1)) vs k = some d ∧ Den Z H B d v
  | [], vs, h => by
    have := h.length
    cases vs with
    | nil => exact .inl ⟨rfl, rfl⟩
    | cons _ _ => cases this
  | (k', v) :: r, vs, h => by
    cases vs with
    | nil => have := h.length; cases this
    | cons d ds =>
      unfold DenL at h
      obtain ⟨v', r', e, h1, h2⟩ := h
      cases e
      by_cases c : k' = k
      · right
        exact ⟨v, d, valV_pos c, by simp [valD, c], h1⟩
      · rcases val_den (k := k) h2 with ⟨g1, g2⟩ | ⟨w, x, g1, g2, g3⟩
        · left
          refine ⟨by rw [valV_neg (p := (k', v)) c]; exact g1, ?_⟩
          unfold valD at g2 ⊢
          rw [List.map_cons, List.zip_cons_cons, List.find?_cons]
          simp only [c, decide_false]
          exact g2
        · right
          refine ⟨w, x, by rw [valV_neg (p := (k', v)) c]; exact g1, ?_, g3⟩
          unfold valD at g2 ⊢
          rw [List.map_cons, List.zip_cons_cons, List.find?_cons]
          simp only [c, decide_false]
          exact g2
theorem rd_dT {Z : Wd} {H : Hp} {B : Addr → Prop} {ks : List (List Key)} {vs : List D} {x : V} (q : RdD Z H B (.dT ks vs) x) : ∃ a kvs, x = .ref a ∧ H a = some (.dT kvs) ∧ kvs.map (·.1) = ks ∧ DenL Z H B vs (kvs.map (·.2)) := by
  rcases q with q | ⟨p, rfl, kvs, h1, h2, h3⟩
  · unfold Den at q
    obtain ⟨a, kvs, h1, _, h2, h3, h4⟩ := q
    exact ⟨a, kvs, h1, h2, h3, h4⟩
  · exact ⟨p, kvs, rfl, h1, h2, h3⟩
/-- key in dict; item in list -/
def inB (n : Bool) : D → D → R
  | .pw is, .dT ks vs => .ok (.bl (if n = true then !(valD ks vs (keyW is)).isSome else (valD ks vs (keyW is)).isSome))
  | _, _ => .bad
def inD := inB false
def ninD := inB true
section
variable {C : Cn}
theorem cmp_inB {n : Bool} {op : CmpOp} (h : ∀ (X : Cx) (pins : List (Addr × Obj)) (s : Shared) (σ : L2.St) (H : Hp) (a : Addr) (y : V) (u : Value) (o : Option V) (Q : Value → Shared → Prop), C.At X → Inv X pins σ H s → DGet H a y o → RelV y u → (∀ s', Inv X pins σ H s' → Q (.bool (if n = true then !o.isSome else o.isSome)) s') → wpAny (model X.prog X.w) X.A (compareOp op u (.ref a)) Q X.xe s) : CmpOk C op (inB n) := by
  intro X A pins s σ H x y v u Q I rx ry q
  obtain ⟨B, d, e, bt, q1, q2, post⟩ := q
  cases d with
  | pw is =>
    cases e with
    | dT ks vs =>
      have post : PostF1 C.Z WE0 H B Q (.ok (.bl (if n = true then !(valD ks vs (keyW is)).isSome else (valD ks vs (keyW is)).isSome))) := post
      obtain ⟨l, h1, h2⟩ := rd_pw q1
      obtain ⟨a, kvs, rfl, g2, g3, g4⟩ := rd_dT q2
      subst g3
      cases (show u = Value.ref a from ry)
      subst h1
      have g : DGet H a (.ref l) (valV kvs (keyW is)) := DGet.t g2 (by rw [keyW_kV]; exact h2)
      refine h X pins s σ H a _ v _ _ A I g rx fun s' I' => ?_
      have e : (valV kvs (keyW is)).isSome = (valD (kvs.map (·.1)) vs (keyW is)).isSome := by
        rcases val_den (k := keyW is) g4 with ⟨z1, z2⟩ | ⟨_, _, z1, z2, _⟩ <;> rw [z1, z2] <;> rfl
      rw [e]
      exact ⟨.bl _, H, I', rfl, post _ H (Ex.refl _) den_bl⟩
    | _ => exact False.elim (show False from post)
  | _ => exact False.elim (show False from by cases e <;> exact post)
theorem units_ok {X : Cx} (A : C.At X) : X.A.units + 1 < cLine := by have := A.room.un; omega
theorem cmp_inD : CmpOk C .In inD := cmp_inB (n := false) fun X pins s σ H a y u o Q A I g r h => d_in (units_ok A) I g r h
theorem cmp_ninD : CmpOk C .NotIn ninD := cmp_inB (n := true) fun X pins s σ H a y u o Q A I g r h => d_notIn (units_ok A) I g r h
/-- an item, by its place, by its key -/
def ixKey (ks : List (List Key)) (vs : List D) (is : List Int) : R := match valD ks vs (keyW is) with
  | some v => .ok v
  | none => .bad
def ixU : D → D → T R := fun d e => match d, e with
  | .dT ks vs, .pw is => .pure (ixKey ks vs is)
  | d, e => ixD d e
@[simp] theorem ixU_lst (ds : List D) (i : Int) : ixU (.lst ds) (.int i) = .pure (atD ds i) := rfl
@[simp] theorem ixU_tup (ds : List D) (i : Int) : ixU (.tup ds) (.int i) = .pure (atD ds i) := rfl
@[simp] theorem ixU_pw (is : List Int) (i : Int) : ixU (.pw is) (.int i) = .pure (match atI is i with | some k => .ok (.int k) | none => .bad) := rfl
@[simp] theorem ixU_p0 : ixU .pool (.int 0) = .pick (okP 0) fun k => .pure (.ok (.int k)) := rfl
@[simp] theorem ixU_p1 : ixU .pool (.int 1) = .pick (okP 1) fun k => .pure (.ok (.int k)) := rfl
@[simp] theorem ixU_dT (ks : List (List Key)) (vs : List D) (is : List Int) : ixU (.dT ks vs) (.pw is) = .pure (ixKey ks vs is) := rfl
theorem ix_ixU : IxOk C ixU := by
  intro X A value slice pins s σ H x y v u Q I rx ry q hs
  obtain ⟨B, d, e, bt, q1, q2, post⟩ := q
  have back : PostF C.Z WE0 (ixD d e) H B Q → wpAny (model X.prog X.w) X.A (subscriptTail value slice v u) (EP X pins σ Q) X.xe s := fun post => ix_ixD X A value slice pins s σ H x y v u Q I rx ry ⟨B, d, e, bt, q1, q2, post⟩ hs
  cases d with
  | dT ks vs =>
    cases e with
    | pw is =>
      have post : PostF1 C.Z WE0 H B Q (ixKey ks vs is) := post
      unfold ixKey at post
      obtain ⟨a, kvs, rfl, g2, g3, g4⟩ := rd_dT q1
      obtain ⟨l, h1, h2⟩ := rd_pw q2
      subst g3 h1
      cases (show v = Value.ref a from rx)
      rcases val_den (k := keyW is) g4 with ⟨z1, z2⟩ | ⟨w, dd, z1, z2, z3⟩
      · rw [z2] at post; exact False.elim post
      · rw [z2] at post
        have g : DGet H a (.ref l) (some w) := by
          rw [← z1]
          exact DGet.t g2 (by rw [keyW_kV]; exact h2)
        have fin := post w H (Ex.refl _) z3
        have step : wpAny (model X.prog X.w) X.A (getItem (.ref a) u) (EP X pins σ Q) X.xe s := d_getItem (units_ok A) I g ry fun w' s3 I3 rw' => ⟨w, H, I3, rw', fin⟩
        exact tail_any (dict_typeIs I g) PySem.F.slot_dict_getitem.lookup step hs
    | _ => exact back post
  | _ => exact back (by cases e <;> exact post)

/-! ### d.get -/
def dicM (φ : List (List Key) → List D → List D → R) : D → Option (List D → R)
  | .dT ks vs => some (φ ks vs)
  | _ => none
def getL (ks : List (List Key)) (vs : List D) : List D → R
  | [.pw is, d] => .ok ((valD ks vs (keyW is)).getD d)
  | _ => .bad
def m_get := dicM getL
theorem meth_get : MethOk C "get" m_get := by
  intro X W A tk eo ap cp es to t po hl hs hn ho ha
  cases es with
  | nil =>
    refine ⟨fun pins s σ H Q I h => wpAny_Call_method0_late (base_of po) hl (thn (ho.run pins s σ H _ I h) fun v s1 ⟨x, H1, I1, r1, B, d, f, bt, hd, ef, q⟩ => ?_)⟩
    cases d with
    | dT ks vs =>
      cases ef
      obtain ⟨a, kvs, rfl, g2, g3, g4⟩ := rd_dT hd
      obtain ⟨t1, t2⟩ := tyV_is I1 r1 (T := "dict") (.inr (.inr (.inl ⟨rfl, .inr ⟨kvs, g2⟩⟩)))
      refine ⟨"dict", _, PySem.F.plainAttrs_dict, PySem.F.slot_dict_get, PySem.F.type_dict_get, t1, t2, Calls.callWith_builtin rfl (PySem.evalArgs_none ?_)⟩
      intro Γ pp hΓ
      obtain ⟨us, H2, I2, r2, ds, e2, hd2, post⟩ := ha.run cp pins s1 σ H1 _ I1 q Γ pp hΓ
      cases r2
      have := hd2.length
      cases ds with
      | nil => exact False.elim (show False from post)
      | cons _ _ => cases this
    | _ => cases ef
  | cons e es =>
    rw [List.all_cons, Bool.and_eq_true] at hs
    refine pe_weak (pe_bm PySem.F.plainAttrs_dict PySem.F.slot_dict_get PySem.F.type_dict_get (r := fun x vs H Q => ∃ a y z o, x = .ref a ∧ vs = [y, z] ∧ DGet H a y o ∧ Q (o.getD z) H) (fun pins s σ H x vs v us Q I rx rv h => ?_) (pe_cl ho) (pa_cl ha) (base_of po) (few_of (by rw [List.all_cons, hs.1, hs.2]; rfl) hn) hl (star_cons hs.1) (star_any hs.2)) fun σ H Q h => ⟨_, h, fun x H1 ⟨B, d, f, bt, hd, ef, q⟩ => ?_⟩
    · obtain ⟨a, y, z, o, rfl, rfl, g, q⟩ := h
      obtain ⟨u1, u2, rfl, r1, r2⟩ := vals2 rv
      cases (show v = Value.ref a from rx)
      exact d_get2 (units_ok A) I g r1 r2 fun w' s4 I4 rw' => ⟨_, H, I4, rw', q⟩
    · cases d with
      | dT ks vs =>
        cases ef
        obtain ⟨a, kvs, rfl, g2, g3, g4⟩ := rd_dT hd
        refine ⟨.inr (.inr (.inl ⟨rfl, .inr ⟨kvs, g2⟩⟩)), _, q, fun us H2 ⟨ds, e2, hd2, post⟩ => ?_⟩
        have post : PostF1 C.Z (fun c d H' => W c d σ H') H2 B Q (getL ks vs ds) := post
        unfold getL at post
        split at post
        · rename_i is d0 hz
          obtain ⟨y, z, rfl, h1, h2⟩ := den2 hd2
          unfold Den at h1
          obtain ⟨l, rfl, hl'⟩ := h1
          have g4' := g4.ex e2
          have g : DGet H2 a (.ref l) (valV kvs (keyW is)) := DGet.t (e2 a _ g2) (by rw [keyW_kV]; exact hl')
          refine ⟨a, .ref l, z, _, rfl, rfl, g, ?_⟩
          subst g3
          rcases val_den (k := keyW is) g4' with ⟨z1, z2⟩ | ⟨w, dd, z1, z2, z3⟩
          · rw [z2] at post; rw [z1]; exact post z H2 (Ex.refl _) h2
          · rw [z2] at post; rw [z1]; exact post w H2 (Ex.refl _) z3
        · exact False.elim post
      | _ => cases ef

/-! ### d[k] = v, l[i] = v -/
open Classical in
noncomputable def putD (ks : List (List Key)) (vs : List D) (k : List Key) (v : D) : List (List Key) × List D :=
  if k ∈ ks then (ks, List.zipWith (fun k' v' => if k' = k then v else v') ks vs) else (ks ++ [k], vs ++ [v])
theorem putK_in {k : List Key} {v : V} {Z : Wd} {H : Hp} {B : Addr → Prop} {d : D} (hv : Den Z H B d v) : ∀ {kvs : List (List Key × V)} {vs : List D}, DenL Z H B vs (kvs.map (·.2)) →
    DenL Z H B (List.zipWith (fun k' v' => if k' = k then d else v') (kvs.map (·.1)) vs) ((kvs.map fun kv => if kv.1 = k then (kv.1, v) else kv).map (·.2))
  | [], vs, h => by
    have := h.length
    cases vs with
    | nil => exact .nil
    | cons _ _ => cases this
  | (k', w) :: r, vs, h => by
    cases vs with
    | nil => have := h.length; cases this
    | cons e es =>
      unfold DenL at h
      obtain ⟨v', r', e', h1, h2⟩ := h
      cases e'
      by_cases c : k' = k
      · simp only [List.map_cons, List.zipWith_cons_cons, c, if_true]
        exact .cons hv (putK_in hv h2)
      · simp only [List.map_cons, List.zipWith_cons_cons, c, if_false]
        exact .cons h1 (putK_in hv h2)
theorem put_den {k : List Key} {v : V} {Z : Wd} {H : Hp} {B : Addr → Prop} {d : D} {kvs : List (List Key × V)} {vs : List D} (hv : Den Z H B d v) (h : DenL Z H B vs (kvs.map (·.2))) :
    (putK kvs k v).map (·.1) = (putD (kvs.map (·.1)) vs k d).1 ∧ DenL Z H B (putD (kvs.map (·.1)) vs k d).2 ((putK kvs k v).map (·.2)) := by
  unfold putK putD
  by_cases c : k ∈ kvs.map (·.1)
  · have c' : (kvs.any fun kv => decide (kv.1 = k)) = true := by
      obtain ⟨p, hp, e⟩ := List.mem_map.mp c
      exact List.any_eq_true.mpr ⟨p, hp, by simpa using e⟩
    rw [if_pos c, if_pos c']
    refine ⟨?_, putK_in hv h⟩
    rw [List.map_map]
    refine List.map_congr_left fun p _ => ?_
    show (if p.1 = k then (p.1, v) else p).1 = p.1
    split <;> rfl
  · have c' : ¬ (kvs.any fun kv => decide (kv.1 = k)) = true := fun z => c (by
      obtain ⟨p, hp, e⟩ := List.any_eq_true.mp z
      exact List.mem_map.mpr ⟨p, hp, by simpa using e⟩)
    rw [if_neg c, if_neg c']
    refine ⟨by simp, ?_⟩
    rw [List.map_append]
    exact h.append (.cons hv .nil)
noncomputable def setD : D → D → D → Option D
  | .lst ds, .int i, v => match ixN ds.length i with
    | some j => some (.lst (ds.set j v))
    | none => none
  | .dT ks vs, .pw is, v => if ks.length < lineMax then some (.dT (putD ks vs (keyW is) v).1 (putD ks vs (keyW is) v).2) else none
  | _, _, _ => none
theorem set_setD : SetOk C setD := by
  intro X A pins s σ H o i v ov iv u Q I ro ri rv h
  obtain ⟨p, B, d, k, e, d', rfl, hb, hd, hk, he, ef, q⟩ := h
  unfold setD at ef
  split at ef
  · rename_i ds j
    unfold Den at hk
    subst hk
    obtain ⟨ws, h1, h2⟩ := hd
    cases ej : ixN ds.length j with
    | none => rw [ej] at ef; cases ef
    | some m =>
      rw [ej] at ef
      cases ef
      have ne : ∀ a, a ≠ p → upd H p (.lst (ws.set m v)) a = H a := fun a ha => upd_ne ha
      refine set_list pins s σ H _ _ _ ov iv u Q I ro ri rv ⟨p, ws, j, m, rfl, rfl, h1, by rw [h2.length]; exact ej, q _ ne ⟨ws.set m v, upd_same, ?_⟩⟩
      exact (h2.set m he).kp (kp_one (B := B) ⟨_, h1, rfl⟩ hb ne) fun _ z => z
  · rename_i ks vs is
    unfold Den at hk
    obtain ⟨l, rfl, hl⟩ := hk
    obtain ⟨kvs, h1, h2, h3⟩ := hd
    subst h2
    by_cases c : (kvs.map (·.1)).length < lineMax
    · rw [if_pos c] at ef
      cases ef
      rw [List.length_map, lineMax_eq] at c
      cases (show ov = Value.ref p from ro)
      have ne : ∀ a, a ≠ p → upd H p (.dT (putK kvs (keyW is) v)) a = H a := fun a ha => upd_ne ha
      have kp := kp_one (B := B) ⟨_, h1, rfl⟩ hb ne
      obtain ⟨z1, z2⟩ := put_den (k := keyW is) he h3
      refine d_setItem (units_ok A) I (DPut.t h1 (by rw [keyW_kV]; exact hl) c) ri rv fun s4 I4 => ⟨_, I4, q _ ne ⟨_, upd_same, z1, z2.kp kp fun _ z => z⟩⟩
    · rw [if_neg c] at ef; cases ef
  · cases ef

/-! ### tuple, list, all -/
def tupleD : List D → R
  | [.lst ds] => (match ds with
    | [] => .ok (.tup [])
    | d :: r => (match intsOf (d :: r) with
      | some is => .ok (.pw is)
      | none => .ok (.tup (d :: r))))
  | [.tup ds] => .ok (.tup ds)
  | [.pw is] => .ok (.pw is)
  | _ => .bad
theorem call_tupleD (hm : C.mg "tuple" = none) : CallOk C "tuple" (opc tupleD) := callT (fun X A => cr_ints1 call_tuple_of fun vs H B Q ds hd post => by
  unfold tupleD at post
  split at post
  · rename_i es
    obtain ⟨v, rfl, h⟩ := den1 hd
    unfold Den at h
    obtain ⟨a, ws, rfl, h1, h2⟩ := h
    refine ⟨a, ws, rfl, .inl ⟨by rw [A.k]; exact h1.sq, fun p hp => ?_⟩⟩
    split at post
    · have e := h2.length
      cases ws with
      | nil => exact post _ _ (Ex.new hp) (den_tupN hp .nil)
      | cons _ _ => cases e
    · rename_i d r
      cases ei : intsOf (d :: r) with
      | some is =>
        rw [ei] at post
        have z := intsOf_den ei h2
        subst z
        exact post _ _ (Ex.new hp) (den_pw upd_same)
      | none =>
        rw [ei] at post
        exact post _ _ (Ex.new hp) (den_tupN hp h2)
  · obtain ⟨v, rfl, h⟩ := den1 hd
    unfold Den at h
    obtain ⟨a, ws, rfl, h1, h2⟩ := h
    exact ⟨a, ws, rfl, .inr ⟨by rw [A.k]; exact h1, post _ H (Ex.refl _) (den_tup h1 h2)⟩⟩
  · obtain ⟨v, rfl, h⟩ := den1 hd
    unfold Den at h
    obtain ⟨a, rfl, h1⟩ := h
    exact ⟨a, _, rfl, .inr ⟨.inl (.inl h1), post _ H (Ex.refl _) (den_pw h1)⟩⟩
  · exact False.elim post) hm PyProof.Rows.boot_tuple rfl
def listD : List D → R
  | [.lst ds] => .fresh (.lst ds)
  | [.tup ds] => .fresh (.lst ds)
  | [.pw is] => .fresh (.lst (is.map .int))
  | _ => .bad
theorem call_listD (hm : C.mg "list" = none) : CallOk C "list" (opc listD) := callT (fun X A => cr_ints1 call_list_of fun vs H B Q ds hd post => by
  unfold listD at post
  split at post
  · obtain ⟨v, rfl, h⟩ := den1 hd
    unfold Den at h
    obtain ⟨a, ws, rfl, h1, h2⟩ := h
    exact ⟨a, ws, rfl, .inl (by rw [A.k]; exact h1.sq), fun p hp => post p _ hp (Ex.new hp) ⟨_, upd_same, (DenL.add hp _ _ h2).ex (Ex.new hp)⟩⟩
  · obtain ⟨v, rfl, h⟩ := den1 hd
    unfold Den at h
    obtain ⟨a, ws, rfl, h1, h2⟩ := h
    exact ⟨a, ws, rfl, .inr (by rw [A.k]; exact h1), fun p hp => post p _ hp (Ex.new hp) ⟨_, upd_same, (DenL.add hp _ _ h2).ex (Ex.new hp)⟩⟩
  · obtain ⟨v, rfl, h⟩ := den1 hd
    unfold Den at h
    obtain ⟨a, rfl, h1⟩ := h
    exact ⟨a, _, rfl, .inr (.inl (.inl h1)), fun p hp => post p _ hp (Ex.new hp) ⟨_, upd_same, den_ints2 _⟩⟩
  · exact False.elim post) hm PyProof.Rows.boot_list rfl
def boolsOf : List D → Option (List Bool)
  | [] => some []
  | .bl b :: ds => match boolsOf ds with
    | some bs => some (b :: bs)
    | none => none
  | _ => none
theorem boolsOf_den {Z : Wd} {H : Hp} {B : Addr → Prop} : ∀ {ds : List D} {bs : List Bool} {vs : List V}, boolsOf ds = some bs → DenL Z H B ds vs → vs = bs.map V.bl
  | [], bs, vs, e, h => by unfold boolsOf at e; cases e; unfold DenL at h; exact h
  | d :: ds, bs, vs, e, h => by
    cases d with
    | bl b =>
      unfold boolsOf at e
      cases e1 : boolsOf ds with
      | none => rw [e1] at e; cases e
      | some cs =>
        rw [e1] at e
        cases e
        unfold DenL at h
        obtain ⟨v, r, rfl, h1, h2⟩ := h
        unfold Den at h1
        rw [h1, boolsOf_den e1 h2]
        rfl
    | _ => unfold boolsOf at e; cases e
def allD : List D → R
  | [.lst ds] => match boolsOf ds with
    | some bs => .ok (.bl (bs.all id))
    | none => .bad
  | _ => .bad
theorem call_allD (hm : C.mg "all" = none) : CallOk C "all" (opc allD) := callB (fun X A => cr_ints1 (cr_all A.calm) fun vs H B Q ds hd post => by
  unfold allD at post
  split at post
  · rename_i es
    cases e : boolsOf es with
    | none => rw [e] at post; exact False.elim post
    | some bs =>
      rw [e] at post
      obtain ⟨v, rfl, h⟩ := den1 hd
      unfold Den at h
      obtain ⟨a, ws, rfl, h1, h2⟩ := h
      have z := boolsOf_den e h2
      subst z
      exact ⟨a, bs, rfl, by rw [A.k]; exact h1.sq, post _ H (Ex.refl _) den_bl⟩
  · exact False.elim post) hm PyProof.Rows.boot_all rfl
end
end PM

set_option Elab.async false
set_option linter.all false
set_option maxRecDepth 100000
set_option maxHeartbeats 2000000
/-! PM31: sorted(a dict by powers). -/
namespace PM
open PySem PySem.Spec L2
open PyProof.Rows hiding St

def rSortDT : List V → Hp → VK → Prop := fun vs H Q => ∃ (a : Addr) (kvs : List (List Key × V)) (iss : List (List Int)) (d : Nat) (B : Int), vs = [.ref a] ∧ H a = some (.dT kvs) ∧ kvs.map (·.1) = iss.map keyW ∧ iss.length < 1000000 ∧ 1 ≤ d ∧ (∀ is ∈ iss, is.length = d ∧ TS.Bd B is) ∧
  ∀ (L : List (Addr × List Int)) (p : Addr), (L.map (·.2)).Perm iss → L.Pairwise (fun q r => TS.code B q.2 ≤ TS.code B r.2) → (∀ q ∈ L, H q.1 = some (.tup (q.2.map V.int))) → H p = none → Q (.ref p) (upd H p (.lst (L.map fun q => V.ref q.1)))
/-- the keys' tuples with what they hold -/
theorem keys_rows {H : Hp} : ∀ {kvs : List (List Key × V)} {ks : List (List Key × Addr × Value)} {iss : List (List Int)}, KT H kvs ks → kvs.map (·.1) = iss.map keyW → ∃ L : List (Addr × List Int), ks.map (fun x => x.2.1) = L.map (·.1) ∧ L.map (·.2) = iss ∧ ∀ q ∈ L, H q.1 = some (.tup (q.2.map V.int))
  | [], ks, iss, r, e => by
    cases r
    cases iss with
    | nil => exact ⟨[], rfl, rfl, fun q hq => by cases hq⟩
    | cons _ _ => cases e
  | p :: kvs, ks, iss, r, e => by
    cases r with
    | @cons _ x _ xs h t =>
      cases iss with
      | nil => cases e
      | cons is iss =>
        rw [List.map_cons, List.map_cons] at e
        injection e with e1 e2
        obtain ⟨L, h1, h2, h3⟩ := keys_rows t e2
        refine ⟨(x.2.1, is) :: L, by rw [List.map_cons, List.map_cons, h1], by rw [List.map_cons, h2], fun q hq => ?_⟩
        rcases List.mem_cons.mp hq with z | z
        · rw [z]
          have := h.2.1
          rw [e1, keyW_kV] at this
          exact this
        · exact h3 q z
theorem perm_refs : ∀ {out : List Value} {L : List (Addr × List Int)}, out.Perm (L.map fun q => Value.ref q.1) → ∃ L' : List (Addr × List Int), L'.Perm L ∧ out = L'.map fun q => Value.ref q.1
  | [], L, h => by
    have : L = [] := List.map_eq_nil_iff.mp h.symm.eq_nil
    subst this
    exact ⟨[], List.Perm.refl _, rfl⟩
  | v :: vs, L, h => by
    have hm : v ∈ L.map fun q => Value.ref q.1 := h.mem_iff.mp List.mem_cons_self
    obtain ⟨q, hq, e⟩ := List.mem_map.mp hm
    obtain ⟨l1, l2, rfl⟩ := List.append_of_mem hq
    have pm : vs.Perm ((l1 ++ l2).map fun q => Value.ref q.1) := by
      have z : (v :: vs).Perm (v :: ((l1 ++ l2).map fun q => Value.ref q.1)) := by
        refine h.trans ?_
        rw [← e, List.map_append, List.map_cons, List.map_append]
        exact List.perm_middle
      exact z.cons_inv
    obtain ⟨L', g1, g2⟩ := perm_refs pm
    exact ⟨q :: L', (List.Perm.cons q g1).trans List.perm_middle.symm, by rw [List.map_cons, ← g2, e]⟩
section
variable {prog : Program} {w : World} {A : Around} {E : Value → Shared → Prop} {s : Shared}
def ltC (B : Int) (h : Heap) (u v : Value) : Bool := decide (TS.code B (TS.intsOf h u) < TS.code B (TS.intsOf h v))
theorem swo_C (B : Int) (h : Heap) : SrtO.Swo (ltC B h) := by
  refine ⟨fun x y q => ?_, fun x y z q1 q2 => ?_⟩
  · have a := of_decide_eq_true q
    exact decide_eq_false (by omega)
  · have a := of_decide_eq_false q1
    have b := of_decide_eq_false q2
    exact decide_eq_false (by omega)
theorem tups_sortable {a : Addr} {vs : List Value} {d : Nat} {B : Int} (hd : 1 ≤ d) (h2 : 2 ≤ vs.length) (x : TS.TupsOk s.heap d B vs) (ha : ∀ o, s.heap.get? a = some o → o.cls ≠ .type "tuple") : SrtO.SortableO prog w A s a vs (ltC B s.heap) := by
  intro h' keep
  have x' : TS.TupsOk h' d B vs := x.keeps fun b o e c => keep b o (fun z => by subst z; exact ha o e c) e
  obtain ⟨fs, k, hl, hi⟩ := TS.firsts_of hd vs x'
  refine ⟨tuples' true, fun Q E hq => ?_, fun p q hm hm' => ?_⟩
  · refine PySem.W.kat_kind (T := .type "int") k (by omega) (fun f hf => ?_) (by rfl) ?_
    · obtain ⟨n, t, rfl⟩ := hi f hf
      exact PySem.W.Looks.of_pure rfl
    · have e : (Value.type "int" != Value.type "tuple") = true := by first | decide +kernel | rfl | decide
      rw [e]
      exact hq
  · show wpAny (model prog w) A (keyLt' (tuples' true) p.1 q.1) (fun r s' => s' = _ ∧ r = ltC B s.heap p.1 q.1) (fun _ _ => False) _
    obtain ⟨ns, tp, lp, bp⟩ := x' _ hm
    obtain ⟨ms, tq, lq, bq⟩ := x' _ hm'
    obtain ⟨ns0, tp0, _⟩ := x _ hm
    obtain ⟨ms0, tq0, _⟩ := x _ hm'
    have kt : ∀ b o, s.heap.get? b = some o → o.cls = .type "tuple" → h'.get? b = some o := fun b o e c => keep b o (fun z => by subst z; exact ha o e c) e
    have en : ns0 = ns := (tp0.keeps kt).ints.symm.trans tp.ints
    have em : ms0 = ms := (tq0.keeps kt).ints.symm.trans tq.ints
    have er : ltC B s.heap p.1 q.1 = decide (TS.code B ns < TS.code B ms) := by
      unfold ltC
      rw [tp0.ints, tq0.ints, en, em]
    rw [er]
    obtain ⟨a1, xs, e1, ⟨o, ho, hc, n, hdt⟩, i⟩ := tp
    obtain ⟨a2, ys, e2, ⟨o', ho', hc', n', hdt'⟩, i'⟩ := tq
    rw [e1, e2]
    refine PySem.W.kat_lt ho hdt ho' hdt' ?_
    have sz : decide (xs.size < ys.size) = false := by
      have l1 := i.length
      have l2 := i'.length
      rw [Array.length_toList] at l1 l2
      exact decide_eq_false (by omega)
    rw [sz]
    exact TS.lex_ints 0 i i' (by omega) bp bq ⟨rfl, rfl⟩
/-- xs.sort(), tuples of ints, any number of them -/
theorem call_sort_many {a : Addr} {vs : List Value} {n d : Nat} {B : Int} {Q : Value → Shared → Prop} (ho : s.heap.get? a = some (seqObj "list" vs.toArray n)) (hz : vs.length ≤ sizeLine) (hd : 1 ≤ d) (x : TS.TupsOk s.heap d B vs)
    (h : ∀ out : Array Value, out.toList.Perm vs → out.toList.Pairwise (fun u v => TS.code B (TS.intsOf s.heap u) ≤ TS.code B (TS.intsOf s.heap v)) → Q .none { s with heap := PyProof.Rows.sortedHeap s.heap a vs out }) :
    wpAny (model prog w) A (call (.builtin "list.sort") [.ref a]) Q E s := by
  refine wpAny_call_entry PyProof.Rows.slot_list_sort ⟨_, ho, rfl⟩ PyProof.Rows.entry_list_sort
    (SrtO.list_sort_ord (swo_C B s.heap) ho hz (fun h2 => tups_sortable hd h2 x fun o e c => ?_) fun out h1 h2 => ⟨.none, rfl, ?_⟩) (PyProof.Rows.args_list_sort _)
  · rw [ho] at e
    have e' : seqObj "list" vs.toArray n = o := Option.some.inj e
    rw [← e'] at c
    have c' : Value.type "list" = Value.type "tuple" := c
    injection c' with c''
    exact absurd c'' (by decide)
  · refine h out.toArray (by rw [List.toList_toArray]; exact h2.perm) ?_
    rw [List.toList_toArray]
    exact h1.imp fun {u v} q => by
      have := of_decide_eq_false (p := TS.code B (TS.intsOf s.heap v) < TS.code B (TS.intsOf s.heap u)) q
      omega
end
section
variable {X : Cx}
theorem cr_sortedDT (hc : X.calm = true) : CallR X (.builtin "sorted") rSortDT := by
  intro pins s σ H vs us Q I r h
  obtain ⟨a, kvs, iss, d, B, rfl, ha, hk, h64, hd, hB, q⟩ := h
  obtain ⟨u, rfl, rx⟩ := vals1 r
  cases (show u = Value.ref a from rx)
  obtain ⟨z, hs, ks, pr, o, es, ep, ho, hx, hdt, he, hn⟩ := (show ObjOk X.prog X.w H s.heap a (.dT kvs) from I.hok a _ ha)
  have l1 : es.size = ks.length := size_of_entries he
  have l2 : kvs.length = ks.length := Paired.length pr
  obtain ⟨L, hL1, hL2, hL3⟩ := keys_rows pr hk
  have l3 : ks.length = L.length := by have := congrArg List.length hL1; simpa using this
  have l4 : L.length = iss.length := by rw [← hL2, List.length_map]
  refine Calls.call_function_entry PyProof.Rows.kind_sorted PyProof.Rows.plain_sorted PyProof.Rows.entry_sorted (PyProof.Rows.args_sorted1 _) (by
    unfold Builtin.«sorted»
    refine wpAny_bind (m := checkCount "sorted" 1 1 _) (wpAny_pure (wpAny_bind (PySem.W.kdu_collect (A := X.A.in1) (kdl_raw hs hx hdt) (I.ok.hd hc) ho (by rw [sizeLine_eq]; omega) fun h' tk acc kp it => ?_)))
    have ea : acc.toList = L.map fun q => Value.ref q.1 := by
      have hl : acc.toList.length = ks.length := by rw [Array.length_toList, it.1]; exact l1
      have e0 : (L.map fun q => Value.ref q.1) = (ks.map fun x => x.2.1).map Value.ref := by rw [hL1, List.map_map]; rfl
      rw [e0]
      refine List.ext_getElem? fun j => ?_
      rw [List.map_map, List.getElem?_map]
      cases hj : acc.toList[j]? with
      | none => rw [List.getElem?_eq_none (by have := List.getElem?_eq_none_iff.mp hj; omega)]; rfl
      | some v =>
        obtain ⟨en, hen, hv⟩ := it.2 j v (by rw [← Array.getElem?_toList]; exact hj)
        have qe := entry_at he j
        rw [hen] at qe
        cases hb : ks[j]? with
        | none => rw [hb] at qe; cases qe
        | some b =>
          rw [hb] at qe
          cases qe
          rw [hv]
          rfl
    have hal : acc.toList.length < 1000000 := by rw [ea, List.length_map, l4]; exact h64
    have I1 : Inv X pins σ H { s with heap := h', toks := tk } := I.kept kp
    have rows : ∀ q ∈ L, TS.TupInts (h'.push (seqObj "list" acc.toList.toArray 0)) (.ref q.1) q.2 := fun q hq => tupInts_of (P := X.prog) (w := X.w) (isT_keep (I1.isT (.inl (.inl (hL3 q hq)))) fun b u e => Heap.get?_push_of_some _ e)
    have tups : TS.TupsOk (h'.push (seqObj "list" acc.toList.toArray 0)) d B acc.toList := fun v hv => by
      rw [ea] at hv
      obtain ⟨q, hq, rfl⟩ := List.mem_map.mp hv
      have hm : q.2 ∈ iss := by rw [← hL2]; exact List.mem_map.mpr ⟨q, hq, rfl⟩
      exact ⟨q.2, rows q hq, (hB _ hm).1, (hB _ hm).2⟩
    have hoL : (h'.push (seqObj "list" acc.toList.toArray 0)).get? h'.objs.size = some (seqObj "list" acc.toList.toArray 0) := Heap.get?_push_size _ rfl
    refine wpAny_bind (wpAny_newList (wpAny_bind (wpAny_holding (call_sort_many (s := { s with heap := h'.push (seqObj "list" acc.toList.toArray 0), toks := tk }) hoL (by rw [sizeLine_eq]; omega) hd tups fun out a1 a2 => ?_))) (by rw [sizeLine_eq]; omega))
    rw [ea] at a1
    obtain ⟨L', g1, g2⟩ := perm_refs a1
    obtain ⟨c, hcc⟩ := sortedHeap_at (vs := acc.toList) (out := out) hoL
    have sub : ∀ q ∈ L', q ∈ L := fun q hq => g1.mem_iff.mp hq
    have pw : L'.Pairwise (fun q r => TS.code B q.2 ≤ TS.code B r.2) := by
      rw [g2] at a2
      refine List.Pairwise.imp_of_mem (fun {q r} hq hr hle => ?_) (List.pairwise_map.mp a2)
      have f1 := (rows q (sub q hq)).ints
      have f2 := (rows r (sub r hr)).ints
      dsimp only at f1 f2 hle
      rw [← f1, ← f2]; exact hle
    have hlen : (L'.map fun q => V.ref q.1).length ≤ sizeLine := by rw [List.length_map, g1.length_eq, l4, sizeLine_eq]; omega
    have hv : Vals (L'.map fun q => V.ref q.1) out.toList := by rw [g2]; exact vals_of_refs L'
    refine wpAny_pure ⟨_, rfl, .ref h'.objs.size, upd H h'.objs.size (.lst (L'.map fun q => V.ref q.1)), I1.laid (t' := tk) (fun b u e => ?_) (Nat.le_refl _) (show ObjOk X.prog X.w _ _ _ (.lst (L'.map fun q => V.ref q.1)) from ⟨hlen, out.toList, c, hv, hcc⟩), rfl, q L' _ (by rw [← hL2]; exact g1.map _) pw (fun q hq => hL3 q (sub q hq)) (I1.hok.fresh (Nat.le_refl _))⟩
    have hb : b < h'.objs.size := Heap.lt_size e
    rw [PyProof.Rows.sortedHeap_old (Nat.ne_of_lt hb) (by rw [size_push']; exact Nat.lt_succ_of_lt hb)]
    exact Heap.get?_push_of_some _ e)
end

/-! ### by data -/
theorem lex_code {B : Int} : ∀ {a b : List Int}, a.length = b.length → TS.Bd B a → TS.Bd B b → (HT.lexLt a b = true ↔ TS.code B a < TS.code B b)
  | [], [], _, _, _ => by
    constructor
    · intro h; cases h
    · intro h; exact absurd h (Int.lt_irrefl _)
  | [], _ :: _, h, _, _ => by cases h
  | _ :: _, [], h, _, _ => by cases h
  | x :: a, y :: b, h, ha, hb => by
    have hl : a.length = b.length := Nat.succ.inj h
    have ha' : TS.Bd B a := fun m hm => ha m (List.mem_cons_of_mem _ hm)
    have hb' : TS.Bd B b := fun m hm => hb m (List.mem_cons_of_mem _ hm)
    rw [HT.lexLt_cons]
    by_cases c : x = y
    · subst c
      rw [if_pos rfl, TS.code_same hl]
      exact lex_code hl ha' hb'
    · rw [if_neg c, decide_eq_true_eq]
      constructor
      · intro q
        exact TS.code_lt hl ha' hb' q
      · intro q
        rcases Int.lt_trichotomy x y with z | z | z
        · exact z
        · exact absurd z c
        · have := TS.code_lt hl.symm hb' ha' z
          omega
theorem lex_irr : ∀ (a : List Int), HT.lexLt a a = false
  | [] => rfl
  | x :: a => by rw [HT.lexLt_cons, if_pos rfl]; exact lex_irr a
theorem lex_asym : ∀ (a b : List Int), HT.lexLt a b = true → HT.lexLt b a = false
  | [], [], h => by cases h
  | [], _ :: _, _ => rfl
  | _ :: _, [], h => by cases h
  | x :: a, y :: b, h => by
    rw [HT.lexLt_cons] at h ⊢
    by_cases c : x = y
    · rw [if_pos c] at h
      rw [if_pos c.symm]
      exact lex_asym a b h
    · rw [if_neg c, decide_eq_true_eq] at h
      rw [if_neg (Ne.symm c)]
      simp
      omega
theorem lex_tri : ∀ (a b : List Int), a.length = b.length → a ≠ b → HT.lexLt a b = false → HT.lexLt b a = true
  | [], [], _, h, _ => absurd rfl h
  | [], _ :: _, h, _, _ => by cases h
  | _ :: _, [], h, _, _ => by cases h
  | x :: a, y :: b, h, hn, q => by
    rw [HT.lexLt_cons] at q ⊢
    by_cases c : x = y
    · rw [if_pos c] at q
      rw [if_pos c.symm]
      exact lex_tri a b (Nat.succ.inj h) (fun z => hn (by rw [c, z])) q
    · rw [if_neg c] at q
      rw [if_neg (Ne.symm c)]
      simp at q ⊢
      omega
/-- rising, no two alike -/
def Rising (l : List (List Int)) : Prop := l.Pairwise fun a b => HT.lexLt a b = true
theorem rising_uniq : ∀ {l m : List (List Int)}, Rising l → Rising m → l.Perm m → l = m
  | [], m, _, _, p => (p.symm.eq_nil).symm
  | a :: l, [], _, _, p => by cases p.eq_nil
  | a :: l, b :: m, hl, hm, p => by
    unfold Rising at hl hm
    rw [List.pairwise_cons] at hl hm
    have e : a = b := by
      have h1 : a ∈ b :: m := p.mem_iff.mp List.mem_cons_self
      have h2 : b ∈ a :: l := p.mem_iff.mpr List.mem_cons_self
      rcases List.mem_cons.mp h1 with z | z
      · exact z
      · rcases List.mem_cons.mp h2 with y | y
        · exact y.symm
        · have q1 := hm.1 a z
          have q2 := hl.1 b y
          rw [lex_asym _ _ q1] at q2
          cases q2
    subst e
    rw [rising_uniq hl.2 hm.2 p.cons_inv]
open Classical in
/-- the rising row of these -/
noncomputable def sortW (l : List (List Int)) : List (List Int) := if h : ∃ r, r.Perm l ∧ Rising r then h.choose else []
theorem sortW_eq {l r : List (List Int)} (p : r.Perm l) (h : Rising r) : sortW l = r := by
  have ex : ∃ r, r.Perm l ∧ Rising r := ⟨r, p, h⟩
  unfold sortW
  rw [dif_pos ex]
  exact rising_uniq ex.choose_spec.2 h (ex.choose_spec.1.trans p.symm)
def wOf : List Key → Option (List Int)
  | [] => some []
  | .inl i :: r => match wOf r with
    | some is => some (i :: is)
    | none => none
  | _ => none
def wsOf : List (List Key) → Option (List (List Int))
  | [] => some []
  | k :: r => match wOf k with
    | some is => match wsOf r with
      | some iss => some (is :: iss)
      | none => none
    | none => none
theorem wOf_key : ∀ {k : List Key} {is : List Int}, wOf k = some is → k = keyW is
  | [], is, h => by cases h; rfl
  | .inl i :: r, is, h => by
    unfold wOf at h
    cases e : wOf r with
    | none => rw [e] at h; cases h
    | some js =>
      rw [e] at h
      cases h
      rw [wOf_key e]
      rfl
  | .inr _ :: r, is, h => by unfold wOf at h; cases h
theorem wOf_keyW : ∀ (is : List Int), wOf (keyW is) = some is
  | [] => rfl
  | i :: is => by
    show (match wOf (keyW is) with | some is => some (i :: is) | none => none) = _
    rw [wOf_keyW is]
theorem wsOf_keys : ∀ {ks : List (List Key)} {iss : List (List Int)}, wsOf ks = some iss → ks = iss.map keyW
  | [], iss, h => by cases h; rfl
  | k :: r, iss, h => by
    unfold wsOf at h
    cases e1 : wOf k with
    | none => rw [e1] at h; cases h
    | some is =>
      rw [e1] at h
      dsimp only at h
      cases e2 : wsOf r with
      | none => rw [e2] at h; cases h
      | some js =>
        rw [e2] at h
        cases h
        rw [wOf_key e1, wsOf_keys e2]
        rfl
theorem wsOf_keyW : ∀ (iss : List (List Int)), wsOf (iss.map keyW) = some iss
  | [] => rfl
  | i :: is => by
    rw [List.map_cons, wsOf, wOf_keyW]
    dsimp only
    rw [wsOf_keyW is]
/-- powers of as many unknowns, none below 0, no two alike -/
def PwOk (iss : List (List Int)) : Prop := iss.length < 1000000 ∧ iss.Nodup ∧ ∃ d, 1 ≤ d ∧ ∀ is ∈ iss, is.length = d ∧ ∀ i ∈ is, 0 ≤ i
open Classical in
noncomputable def sortedD : List D → R
  | [.dT ks _] => match wsOf ks with
    | some iss => if PwOk iss then .fresh (.lst ((sortW iss).map .pw)) else .bad
    | none => .bad
  | _ => .bad
theorem bound_ex (iss : List (List Int)) : ∃ B : Int, ∀ is ∈ iss, ∀ i ∈ is, i < B := by
  induction iss with
  | nil => exact ⟨0, fun is h => by cases h⟩
  | cons is iss ih =>
    obtain ⟨B, h⟩ := ih
    obtain ⟨B', h'⟩ : ∃ B : Int, ∀ i ∈ is, i < B := by
      clear h
      induction is with
      | nil => exact ⟨0, fun i h => by cases h⟩
      | cons i is ih =>
        obtain ⟨B, h⟩ := ih
        refine ⟨max B (i + 1), fun j hj => ?_⟩
        rcases List.mem_cons.mp hj with z | z
        · omega
        · have := h j z; omega
    refine ⟨max B B', fun js hj j hm => ?_⟩
    rcases List.mem_cons.mp hj with z | z
    · subst z; have := h' j hm; omega
    · have := h js z j hm; omega
section
variable {C : Cn}
theorem call_sortedD (hm : C.mg "sorted" = none) : CallOk C "sorted" (opc sortedD) := callB (fun X A => cr_ints1 (cr_sortedDT A.calm) fun vs H B Q ds hd post => by
  unfold sortedD at post
  split at post
  · rename_i ks vs'
    obtain ⟨v, rfl, h⟩ := den1 hd
    unfold Den at h
    obtain ⟨a, kvs, rfl, _, h2, h3, h4⟩ := h
    cases e : wsOf ks with
    | none => rw [e] at post; exact False.elim post
    | some iss =>
      rw [e] at post
      dsimp only at post
      by_cases c : PwOk iss
      · rw [if_pos c] at post
        obtain ⟨c1, c2, d, c3, c4⟩ := c
        obtain ⟨Bb, hb⟩ := bound_ex iss
        have bd : ∀ is ∈ iss, TS.Bd Bb is := fun is his i hi => ⟨(c4 is his).2 i hi, hb is his i hi⟩
        refine ⟨a, kvs, iss, d, Bb, rfl, h2, by rw [h3, wsOf_keys e], c1, c3, fun is his => ⟨(c4 is his).1, bd is his⟩, fun L p pm pw hL hp => ?_⟩
        have nd : (L.map (·.2)).Nodup := pm.nodup_iff.mpr c2
        have mem : ∀ q ∈ L, q.2 ∈ iss := fun q hq => pm.mem_iff.mp (List.mem_map.mpr ⟨q, hq, rfl⟩)
        have rise : Rising (L.map (·.2)) := by
          unfold Rising
          rw [List.pairwise_map]
          have nd' := List.pairwise_map.mp nd
          refine List.Pairwise.imp_of_mem (fun {q r} hq hr z => ?_) (pw.and nd')
          have l1 := (c4 _ (mem q hq)).1
          have l2 := (c4 _ (mem r hr)).1
          cases lt : HT.lexLt q.2 r.2 with
          | true => rfl
          | false =>
            have g := lex_tri _ _ (l1.trans l2.symm) z.2 lt
            rw [lex_code (l2.trans l1.symm) (bd _ (mem r hr)) (bd _ (mem q hq))] at g
            have := z.1
            omega
        rw [sortW_eq pm rise] at post
        refine post p _ hp (Ex.new hp) ⟨_, upd_same, ?_⟩
        have key : ∀ (M : List (Addr × List Int)), (∀ q ∈ M, H q.1 = some (.tup (q.2.map V.int))) → DenL C.Z (upd H p (.lst (L.map fun q => V.ref q.1))) (fun a => B a ∨ a = p) ((M.map (·.2)).map .pw) (M.map fun q => V.ref q.1) := by
          intro M
          induction M with
          | nil => exact fun _ => .nil
          | cons q M ih =>
            intro hM
            exact .cons (den_pw (by rw [upd_ne (ne_of_none (hM q List.mem_cons_self) hp)]; exact hM q List.mem_cons_self)) (ih fun r hr => hM r (List.mem_cons_of_mem _ hr))
        exact key L hL
      · rw [if_neg c] at post; exact False.elim post
  · exact False.elim post) hm PyProof.Rows.boot_sorted rfl
end
end PM

set_option Elab.async false
set_option linter.all false
set_option maxRecDepth 100000
set_option maxHeartbeats 2000000
/-! PM32: powers * int. -/
namespace PM
open PySem PySem.Spec L2
open PyProof.Rows hiding St

theorem tuple_mul_one (l : Addr) (items : Array Value) (n : Nat) (dd : Option Addr) (sl : Array (Option Value)) (u : Tok) :
    Meets (Builtin.«tuple.__mul__» ⟨[.ref l, .int 1 u], []⟩) (fun _ R s => s.heap.get? l = some { cls := .type "tuple", dict := dd, data := .seq items n, slots := sl } ∧ R (.ok (.ret (Value.ref l))) s) :=
  .of_wp fun prog w A R s h => by
    obtain ⟨hp, g, d, tk, os⟩ := s
    obtain ⟨hl, h⟩ := h
    have f1 := AutoSeq1.idx_int
    wp_walk using wpAny_loadPart' hl
    exact ⟨_, rfl, h⟩
def mulT1 (K : PySem.W.Frag) : R2 := fun x y H Q => ∃ l xs, x = .ref l ∧ y = .int 1 ∧ SqT K H l xs ∧ Q (.ref l) H
theorem op_mulT1 {X : Cx} : OpR X (binaryOp .Mult) (mulT1 X.K) := by
  intro pins s σ H x y v u Q I rx ry h
  obtain ⟨l, xs, rfl, rfl, hT, q⟩ := h
  cases (show v = Value.ref l from rx)
  obtain ⟨t, rfl⟩ := (show ∃ t, u = Value.int 1 t from ry)
  obtain ⟨its, r, ⟨⟨cls, dd, data, sl⟩, ho, hc, n, hd⟩, hs⟩ := I.tuple hT
  simp only at hc hd
  subst hc hd
  have fin : EP X pins σ Q (.ref l) s := ⟨.ref l, H, I, rfl, q⟩
  exact wpAny_binaryOp_repeat_ref (T := "tuple") (U := "int") (by decide) ⟨_, ho, rfl⟩ (fun s' => typeIs_int s' 1 t) noFill_tuple_mul F.fills_int_mul F.slot_int_rmul repeat_tuple F.slot_int_index.lookup (call_meets F.slot_int_rmul (typeIs_int s 1 t) F.entry_int_rmul (F.args_int_rmul_2 _ _) (int_rmul_tuple 1 t l its.toArray n dd sl) ⟨ho, rfl, ⟨_, ho, rfl⟩, call_meets F.slot_tuple_mul ⟨_, ho, rfl⟩ F.entry_tuple_mul (F.args_tuple_mul_2 _ _) (tuple_mul_one l its.toArray n dd sl t) ⟨ho, fin⟩⟩)
theorem tuple_mulZ (l : Addr) (items : Array Value) (n : Nat) (dd : Option Addr) (sl : Array (Option Value)) (x : Int) (u : Tok) (c0 : (decide (x < -(2 ^ 63)) || decide (x ≥ 2 ^ 63)) = false) (c1 : (items.isEmpty || x == 1) = false) (c2 : (decide (x ≤ 0) || items.isEmpty) = true) :
    Meets (Builtin.«tuple.__mul__» ⟨[.ref l, .int x u], []⟩) (fun _ R s => s.heap.get? l = some { cls := .type "tuple", dict := dd, data := .seq items n, slots := sl } ∧
      R (.ok (.ret (Value.ref s.heap.objs.size))) { s with heap := s.heap.push { cls := Value.type "tuple", data := Data.seq #[] }, toks := s.toks }) :=
  .of_wp fun prog w A R s h => by
    obtain ⟨hp, g, d, tk, os⟩ := s
    obtain ⟨hl, h⟩ := h
    have f1 := AutoSeq1.idx_int
    wp_walk using wpAny_loadPart' hl
    repeat (first
      | (refine wpAny_ite_false (decide_eq_false (by rw [c0]; exact Bool.false_ne_true)) ?_; wp_walk using wpAny_loadPart' hl)
      | (refine wpAny_ite_false (decide_eq_false (by rw [c1]; exact Bool.false_ne_true)) ?_; wp_walk using wpAny_loadPart' hl)
      | (refine wpAny_ite_true (decide_eq_true c2) ?_; wp_walk using wpAny_loadPart' hl))
    exact ⟨_, rfl, h⟩
def mulT0 (K : PySem.W.Frag) : R2 := fun x y H Q => ∃ l k xs, x = .ref l ∧ y = .int k ∧ SqT K H l xs ∧ xs ≠ [] ∧ -1000 ≤ k ∧ k ≤ 0 ∧ ∀ p, H p = none → Q (.ref p) (upd H p (.tup []))
theorem op_mulT0 {X : Cx} : OpR X (binaryOp .Mult) (mulT0 X.K) := by
  intro pins s σ H x y v u Q I rx ry h
  obtain ⟨l, k, xs, rfl, rfl, hT, hne, h1, h2, q⟩ := h
  cases (show v = Value.ref l from rx)
  obtain ⟨t, rfl⟩ := (show ∃ t, u = Value.int k t from ry)
  obtain ⟨its, r, ⟨⟨cls, dd, data, sl⟩, ho, hc, n, hd⟩, hs⟩ := I.tuple hT
  simp only at hc hd
  subst hc hd
  have hn : its ≠ [] := fun e => hne (by
    have := r.length
    rw [e] at this
    exact List.eq_nil_of_length_eq_zero this)
  have hi : its.toArray.isEmpty = false := by
    cases its with
    | nil => exact absurd rfl hn
    | cons a b => rfl
  have c0 : (decide (k < -(2 ^ 63)) || decide (k ≥ 2 ^ 63)) = false := by
    rw [decide_eq_false (by omega), decide_eq_false (by omega)] <;> rfl
  have c1 : (its.toArray.isEmpty || k == 1) = false := by
    rw [hi, Bool.false_or]
    exact beq_eq_false_iff_ne.mpr (by omega)
  have c2 : (decide (k ≤ 0) || its.toArray.isEmpty) = true := by
    rw [decide_eq_true h2]; rfl
  refine wpAny_binaryOp_repeat_ref (T := "tuple") (U := "int") (by decide) ⟨_, ho, rfl⟩ (fun s' => typeIs_int s' k t) noFill_tuple_mul F.fills_int_mul F.slot_int_rmul repeat_tuple F.slot_int_index.lookup (call_meets F.slot_int_rmul (typeIs_int s k t) F.entry_int_rmul (F.args_int_rmul_2 _ _) (int_rmul_tuple k t l its.toArray n dd sl) ⟨ho, rfl, ⟨_, ho, rfl⟩, call_meets F.slot_tuple_mul ⟨_, ho, rfl⟩ F.entry_tuple_mul (F.args_tuple_mul_2 _ _) (tuple_mulZ l its.toArray n dd sl k t c0 c1 c2) ⟨ho, ?_⟩⟩)
  refine ⟨.ref s.heap.objs.size, _, I.laid (t' := s.toks) (o := .tup []) (fun b ob q => Heap.get?_push_of_some _ q) (Nat.le_refl _) ?_, rfl, q _ (I.hok.fresh (Nat.le_refl _))⟩
  exact ⟨by rw [sizeLine_eq]; exact Nat.zero_le _, [], .nil, IsTup.new _ _⟩
def mulW : D → D → R
  | .pw is, .int k => if is ≠ [] ∧ is.length ≤ 1000 ∧ -1000 ≤ k ∧ k ≤ 1000 then .ok (.pw (List.replicate k.toNat is).flatten) else .bad
  | _, _ => .bad
theorem bin_mulW {C : Cn} : BinOk C .Mult mulW := by
  intro X A pins s σ H x y v u Q I rx ry q
  obtain ⟨B, d, e, bt, q1, q2, post⟩ := q
  cases d with
  | pw is =>
    cases e with
    | int k =>
      have post : PostF1 C.Z WE0 H B Q (if is ≠ [] ∧ is.length ≤ 1000 ∧ -1000 ≤ k ∧ k ≤ 1000 then .ok (.pw (List.replicate k.toNat is).flatten) else .bad) := post
      by_cases c : is ≠ [] ∧ is.length ≤ 1000 ∧ -1000 ≤ k ∧ k ≤ 1000
      · rw [if_pos c] at post
        obtain ⟨c1, c2, c3, c4⟩ := c
        obtain ⟨l, h1, h2⟩ := rd_pw q1
        have z2 := q2.all
        unfold Den at z2
        by_cases k0 : k ≤ 0
        · have e : (List.replicate k.toNat is).flatten = [] := by
            rw [show k.toNat = 0 by omega]; rfl
          rw [e] at post
          refine op_mulT0 pins s σ H x y v u Q I rx ry ⟨l, k, is.map V.int, h1, z2, .inl (.inl h2), fun z => c1 (List.map_eq_nil_iff.mp z), c3, k0, fun p hp => ?_⟩
          exact post _ _ (Ex.new hp) (den_pw (by rw [upd_same]; rfl))
        by_cases k1 : k = 1
        · subst k1
          have e : (List.replicate (1 : Int).toNat is).flatten = is := by simp
          rw [e] at post
          exact op_mulT1 pins s σ H x y v u Q I rx ry ⟨l, _, h1, z2, .inl (.inl h2), post _ H (Ex.refl _) (den_pw h2)⟩
        · refine op_repT pins s σ H x y v u Q I rx ry ⟨l, k, is.map V.int, h1, z2, .inl (.inl h2), fun z => c1 (List.map_eq_nil_iff.mp z), by omega, c4, by rw [List.length_map]; exact c2, fun p hp => ?_⟩
          refine post _ _ (Ex.new hp) (den_pw ?_)
          rw [upd_same, List.map_flatten, List.map_replicate]
      · rw [if_neg c] at post; exact False.elim post
    | _ => exact False.elim (show False from post)
  | _ => exact False.elim (show False from post)
theorem int_rmul_listW (a : Int) (t : Tok) (l : Addr) (items : Array Value) (n : Nat) (dd : Option Addr) (sl : Array (Option Value)) :
    Meets (Builtin.«int.__rmul__» ⟨[.int a t, .ref l], []⟩) (fun _ R s => s.heap.get? l = some { cls := .type "list", dict := dd, data := .seq items n, slots := sl } ∧ R (.ok (.ret Value.notImplemented)) s) :=
  .of_wp fun prog w A R s h => by obtain ⟨hp, g, d, tk, os⟩ := s; obtain ⟨hl, h⟩ := h; wp_walk using wpAny_loadPart' hl; exact ⟨_, rfl, h⟩
theorem list_mulW (l : Addr) (items : Array Value) (n : Nat) (dd : Option Addr) (sl : Array (Option Value)) (x : Int) (u : Tok) (hc0 : ¬(!Builtin.List.listFitsIndex x) = true) (hc1 : ¬items.size * x.toNat > (2 ^ 63 - 1) / 8) (hc2 : ¬Builtin.List.listTooLong (items.size * x.toNat) = true) :
    Meets (Builtin.«list.__mul__» ⟨[.ref l, .int x u], []⟩) (fun _ R s => s.heap.get? l = some { cls := .type "list", dict := dd, data := .seq items n, slots := sl } ∧ R (.ok (.ret (Value.ref s.heap.objs.size))) { s with heap := s.heap.push { cls := Value.type "list", data := Data.seq (List.foldl (fun x1 x2 => x1 ++ x2) #[] (List.replicate (if items.isEmpty = true then 0 else x.toNat) items)) }, toks := s.toks }) :=
  .of_wp fun prog w A R s h => by
    obtain ⟨hp, g, d, tk, os⟩ := s; obtain ⟨hl, h⟩ := h
    have hsz := AutoListH.joined_fits hc2
    have f1 := AutoSeq1.idx_int
    wp_walk using wpAny_loadPart' hl
    refine wpAny_ite_false (decide_eq_false (Nat.not_lt.mpr hsz)) ?_
    wp_walk using wpAny_loadPart' hl
    exact ⟨_, rfl, h⟩
def mulLr (K : PySem.W.Frag) : R2 := fun x y H Q => ∃ l k xs, x = .ref l ∧ y = .int k ∧ SqL K H l xs ∧ -1000 ≤ k ∧ k ≤ 1000 ∧ xs.length ≤ 900 ∧ ∀ p, H p = none → Q (.ref p) (upd H p (.lst (List.replicate k.toNat xs).flatten))
theorem op_mulL {X : Cx} : OpR X (binaryOp .Mult) (mulLr X.K) := by
  intro pins s σ H x y v u Q I rx ry h
  obtain ⟨l, k, xs, rfl, rfl, hT, h1, h2, hz, q⟩ := h
  cases (show v = Value.ref l from rx)
  obtain ⟨t, rfl⟩ := (show ∃ t, u = Value.int k t from ry)
  obtain ⟨its, r, ⟨⟨cls, dd, data, sl⟩, n, ho, hc, _, hd⟩, _⟩ := I.list hT
  simp only at hc hd
  subst hc hd
  have hl : its.length = xs.length := r.length.symm
  have le9 : xs.length * k.toNat ≤ 900 * 1000 := Nat.mul_le_mul hz (by omega)
  have hsz : its.toArray.size * k.toNat ≤ 900 * 1000 := by rw [List.size_toArray, hl]; exact le9
  have hlen : its.toArray.size * k.toNat ≤ sizeLine := by rw [sizeLine_eq]; omega
  have hcap : ¬ its.toArray.size * k.toNat > (2 ^ 63 - 1) / 8 := by omega
  have hfit : ¬ (!Builtin.List.listFitsIndex k) = true := by
    rw [fitsIndex_both (by omega) (by omega)]
    exact Bool.false_ne_true
  have hlong : ¬ Builtin.List.listTooLong (its.toArray.size * k.toNat) = true := by
    rw [notLongL hlen]
    exact Bool.false_ne_true
  have hnew : List.foldl (fun x1 x2 => x1 ++ x2) #[] (List.replicate (if its.toArray.isEmpty = true then 0 else k.toNat) its.toArray) = (List.replicate k.toNat its).flatten.toArray := by
    have f0 : ∀ m : Nat, List.foldl (fun x1 x2 => x1 ++ x2) #[] (List.replicate m its.toArray) = (List.replicate m its).flatten.toArray := fun m => by
      have := foldl_rep its m []
      rw [List.nil_append] at this
      exact this
    rw [f0]
    cases its with
    | nil => simp
    | cons a r' => rw [if_neg (by simp)]
  refine wpAny_binaryOp_repeat_ref (T := "list") (U := "int") (by decide) ⟨_, ho, rfl⟩ (fun s' => typeIs_int s' k t) noFill_list_mul F.fills_int_mul F.slot_int_rmul repeat_list F.slot_int_index.lookup
    (call_meets F.slot_int_rmul (typeIs_int s k t) F.entry_int_rmul (F.args_int_rmul_2 _ _) (int_rmul_listW k t l its.toArray n dd sl)
      ⟨ho, rfl, ⟨_, ho, rfl⟩, call_meets F.slot_list_mul ⟨_, ho, rfl⟩ F.entry_list_mul (F.args_list_mul_2 _ _) (list_mulW l its.toArray n dd sl k t hfit hcap hlong) ⟨ho, ?_⟩⟩)
  rw [hnew]
  exact ⟨.ref _, _, I.lnew (t' := s.toks) (r.rep k.toNat) (by rw [PyProof.Rows.lm_len_rep_flat, Nat.mul_comm, sizeLine_eq]; omega), rfl, q _ I.fresh⟩
theorem DenL.rep {Z : Wd} {H : Hp} {B : Addr → Prop} {ds : List D} {vs : List V} (h : DenL Z H B ds vs) : ∀ m : Nat, DenL Z H B (List.replicate m ds).flatten (List.replicate m vs).flatten
  | 0 => DenL.nil
  | m + 1 => by
    rw [List.replicate_succ, List.replicate_succ, List.flatten_cons, List.flatten_cons]
    exact DenL.append h (DenL.rep h m)
def mulL : D → D → R
  | .lst ds, .int k => if ds.length ≤ 900 ∧ -1000 ≤ k ∧ k ≤ 1000 then .fresh (.lst (List.replicate k.toNat ds).flatten) else .bad
  | _, _ => .bad
theorem bin_mulL {C : Cn} : BinOk C .Mult mulL := by
  intro X A pins s σ H x y v u Q I rx ry q
  obtain ⟨B, d, e, bt, q1, q2, post⟩ := q
  cases d with
  | lst ds =>
    cases e with
    | int k =>
      have post : PostF1 C.Z WE0 H B Q (if ds.length ≤ 900 ∧ -1000 ≤ k ∧ k ≤ 1000 then .fresh (.lst (List.replicate k.toNat ds).flatten) else .bad) := post
      by_cases c : ds.length ≤ 900 ∧ -1000 ≤ k ∧ k ≤ 1000
      · rw [if_pos c] at post
        obtain ⟨c1, c2, c3⟩ := c
        obtain ⟨l, vs, h1, h2, h3⟩ := rd_lst q1
        have z2 := q2.all
        unfold Den at z2
        refine op_mulL pins s σ H x y v u Q I rx ry ⟨l, k, vs, h1, z2, by rw [A.k]; exact h2, c2, c3, by rw [h3.length]; exact c1, fun p hp => ?_⟩
        exact (show PostF1 C.Z WE0 H B Q (.fresh (.lst (List.replicate k.toNat ds).flatten)) from post) p _ hp (Ex.new hp) ⟨_, upd_same, (DenL.add hp _ _ (h3.rep _)).ex (Ex.new hp)⟩
      · rw [if_neg c] at post; exact False.elim post
    | _ => exact False.elim (show False from post)
  | _ => exact False.elim (show False from post)
def uMul : D → D → R := orF mulI (orF mulW mulL)
theorem bin_uMul {C : Cn} : BinOk C .Mult uMul := bin_mulI.or (bin_mulW.or bin_mulL)
theorem uMul_int {a b : Int} (h : mulB a b = true) : uMul (.int a) (.int b) = .ok (.int (a * b)) := by
  have e : mulI (.int a) (.int b) = .ok (.int (a * b)) := by
    show (if mulB a b = true then R.ok (.int (a * b)) else .bad) = _
    rw [if_pos h]
  unfold uMul orF
  rw [e]
theorem uMul_pw {is : List Int} {k : Int} (h1 : is ≠ []) (h2 : is.length ≤ 1000) (h3 : -1000 ≤ k) (h4 : k ≤ 1000) : uMul (.pw is) (.int k) = .ok (.pw (List.replicate k.toNat is).flatten) := by
  have e : mulW (.pw is) (.int k) = .ok (.pw (List.replicate k.toNat is).flatten) := if_pos ⟨h1, h2, h3, h4⟩
  show orF mulW mulL _ _ = _
  unfold orF
  rw [e]
theorem uMul_lst {ds : List D} {k : Int} (h1 : ds.length ≤ 900) (h2 : -1000 ≤ k) (h3 : k ≤ 1000) : uMul (.lst ds) (.int k) = .fresh (.lst (List.replicate k.toNat ds).flatten) := by
  have e : mulL (.lst ds) (.int k) = .fresh (.lst (List.replicate k.toNat ds).flatten) := if_pos ⟨h1, h2, h3⟩
  exact e
end PM

set_option Elab.async false
set_option linter.all false
set_option maxRecDepth 100000
set_option maxHeartbeats 2000000
/-! PM33: enumerate of a tuple; zip of a list and a tuple, either way. -/
namespace PM
open PySem PySem.Spec L2
open PyProof.Rows hiding St

/-- k: a tuple, else a list -/
def SqX (K : PySem.W.Frag) (k : Bool) (H : Hp) (a : Addr) (xs : List V) : Prop := if k = true then SqT K H a xs else SqL K H a xs
def IsSq (k : Bool) (h : Heap) (a : Addr) (its : Array Value) : Prop := if k = true then h.IsTuple a its else h.IsList a its
def IsSqI (k : Bool) (h : Heap) (it a : Addr) (i : Nat) : Prop := if k = true then h.IsTupleIter it a i else h.IsListIter it a i
def sqIt (k : Bool) (a : Addr) : Obj := if k = true then { cls := .type "tuple_iterator", data := .fields #[.ref a, .int 0 0] } else { cls := .type "list_iterator", data := .fields #[.ref a, .int 0 0] }
theorem begins_sq (k : Bool) (a : Addr) (its : Array Value) : Begins (.ref a) (sqIt k a) fun h => IsSq k h a its := by
  cases k
  · exact begins_list a its
  · exact begins_tuple a its
theorem draws_sq {prog : Program} {w : World} {A : Around} (hh : A.handled = none) (k : Bool) (it a : Addr) (hne : a ≠ it) (its : Array Value) :
    Draws prog w A it [it, a] its.size (fun i v => its[i]? = some v) (fun i h => IsSqI k h it a i ∧ IsSq k h a its) := by
  cases k
  · exact Draws.list hh it a hne its
  · exact Draws.tuple hh it a hne its
theorem sqI_obj {k : Bool} {h : Heap} {it a : Addr} {i : Nat} (x : IsSqI k h it a i) : ∃ o, h.get? it = some o ∧ ∀ v, o.data ≠ .cell v := by
  cases k
  · obtain ⟨o, e, _, d⟩ := x; exact ⟨o, e, fun v z => by rw [d] at z; cases z⟩
  · obtain ⟨o, e, _, d⟩ := x; exact ⟨o, e, fun v z => by rw [d] at z; cases z⟩
theorem sqI_at {k : Bool} {h h' : Heap} {it a : Addr} {i : Nat} (x : IsSqI k h it a i) (f : ∀ o, h.get? it = some o → h'.get? it = some o) : IsSqI k h' it a i := by
  cases k
  · exact Heap.IsListIter.at x f
  · exact Heap.IsTupleIter.at x f
theorem sqI_new {k : Bool} {h : Heap} {it a : Addr} (e : h.get? it = some (sqIt k a)) : IsSqI k h it a 0 := by
  cases k
  · exact ⟨_, e, rfl, rfl⟩
  · exact ⟨_, e, rfl, rfl⟩
theorem sq_get {X : Cx} {pins : List (Addr × Obj)} {σ : L2.St} {H : Hp} {s : Shared} {k : Bool} {a : Addr} {xs : List V} (I : Inv X pins σ H s) (h : SqX X.K k H a xs) : ∃ its, Vals xs its ∧ IsSq k s.heap a its.toArray ∧ a < s.heap.objs.size := by
  cases k
  · obtain ⟨its, rv, p, _⟩ := I.list h
    exact ⟨its, rv, p.isList, p.lt⟩
  · obtain ⟨its, rv, p, _⟩ := I.tuple h
    obtain ⟨o, ho, _⟩ := id p
    exact ⟨its, rv, p, Heap.lt_size ho⟩
theorem sq_inj {X : Cx} {pins : List (Addr × Obj)} {σ : L2.St} {H : Hp} {s : Shared} {k : Bool} {a : Addr} {xs ys : List V} (I : Inv X pins σ H s) (h : SqX X.K k H a xs) (g : SqX X.K k H a ys) : xs = ys := by
  cases k
  · exact I.list_inj h g
  · exact I.tuple_inj h g

/-! ### zip -/
def ItZX (K : PySem.W.Frag) (k l : Bool) (a b : Addr) : It :=
  ⟨fun i H => ∃ (xs ys : List V) (x y : V), SqX K k H a xs ∧ SqX K l H b ys ∧ xs[i]? = some x ∧ ys[i]? = some y,
    fun i H v H' => ∃ T x y, v = .ref T ∧ H T = none ∧ H' = upd H T (.tup [x, y]) ∧ (∀ xs, SqX K k H a xs → xs[i]? = some x) ∧ ∀ ys, SqX K l H b ys → ys[i]? = some y,
    fun i H => ∃ xs ys : List V, SqX K k H a xs ∧ SqX K l H b ys ∧ i = min xs.length ys.length⟩
theorem five {α : Type} {c z t u v w : α} (h : c ∈ [z, t, u, v, w]) : c = z ∨ c = t ∨ c = u ∨ c = v ∨ c = w := by simpa using h
theorem sep_of {z TI TO i1 i2 a b : Addr} (D : ZipApart z TI TO i1 i2 a b) : ZipSep2 z TI TO i1 i2 [i1, a] [i2, b] :=
  ⟨D.TIz, D.TOz, D.TITO, D.TIi1, by simp, by simp [D.i1z.symm, D.l1z.symm], by simp [D.TOi1, D.l1TO.symm], D.TIi2, by simp, by simp [D.i2z.symm, D.l2z.symm], by simp [D.TOi2, D.l2TO.symm], by simp [D.i12, D.l2i1.symm], by simp [D.i12.symm, D.l1i2.symm]⟩
theorem turn_zipX {P : Program} {w : World} {K : PySem.W.Frag} {es : List Expr} {kk : Nat} {tp : Pos} {k l : Bool} {a b z TI TO i1 i2 : Addr} (D : ZipApart z TI TO i1 i2 a b) :
    Turn P w K (.Tuple es kk tp) (ItZX K k l a b) [z, TI, TO, i1, i2] z (fun i h => IsZip h z TI TO .none ∧ IsPair h TI (.ref i1) (.ref i2) ∧ (∃ x y, IsPair h TO x y) ∧ IsSqI k h i1 a i ∧ IsSqI l h i2 b i) where
  mem := List.mem_cons_self
  obj := fun i h st c hc => by
    obtain ⟨g1, g2, ⟨x, y, g3⟩, g4, g5⟩ := st
    rcases five hc with q | q | q | q | q <;> subst q
    · exact ⟨_, g1, fun v q => by cases q⟩
    · exact ⟨_, g2, fun v q => by cases q⟩
    · exact ⟨_, g3, fun v q => by cases q⟩
    · exact sqI_obj g4
    · exact sqI_obj g5
  keep := fun i h h' st kp => by
    obtain ⟨g1, g2, ⟨x, y, g3⟩, g4, g5⟩ := st
    exact ⟨kp _ (by simp) _ g1, kp _ (by simp) _ g2, ⟨x, y, kp _ (by simp) _ g3⟩, sqI_at g4 (kp _ (by simp)), sqI_at g5 (kp _ (by simp))⟩
  item := by
    intro X hP hw hK hc i pins s σ H E I hf st hg
    subst hP hw hK
    obtain ⟨g1, g2, ⟨x0, y0, g3⟩, g4, g5⟩ := st
    obtain ⟨xs, ys, x, y, qx, qy, ex, ey⟩ := hg
    obtain ⟨us, ru, pu, lu⟩ := sq_get I qx
    obtain ⟨vs, rv, pv, lv⟩ := sq_get I qy
    obtain ⟨u, eu, hu⟩ := ru.get ex
    obtain ⟨v, ev, hv⟩ := rv.get ey
    have hu' : us.toArray[i]? = some u := by simpa using eu
    have hv' : vs.toArray[i]? = some v := by simpa using ev
    have hh : X.A.in1.handled = none := I.ok.hd hc
    have iu : i < us.toArray.size := (Array.getElem?_eq_some_iff.mp hu').1
    have iv : i < vs.toArray.size := (Array.getElem?_eq_some_iff.mp hv').1
    refine wpAny_pyNext_zipD2_item (sep_of D) (draws_sq hh k i1 a D.l1i1 us.toArray) (draws_sq hh l i2 b D.l2i2 vs.toArray) g1 g2 g3 ⟨g4, pu⟩ ⟨g5, pv⟩ iu iv fun u1 v1 h' tk e1 e2 n1 n2 n3 n4 n5 _ kp => ?_
    cases hu'.symm.trans e1
    cases hv'.symm.trans e2
    have zl := Heap.lt_size g1
    refine ⟨_, rfl, wpAny_letOwnedTupleGo_zip (s := { s with heap := h', toks := tk }) n1 fun h2 n6 sb => ?_⟩
    have nT : h2.get? s.heap.objs.size = some { cls := .type "tuple", data := .seq #[u, v] } := (sb.2 _ (Nat.ne_of_gt zl)).trans n5
    have ob : ObjOk X.prog X.w (upd H s.heap.objs.size (.tup [x, y])) h2 s.heap.objs.size (.tup [x, y]) :=
      ⟨by rw [sizeLine_eq]; show 2 ≤ 16777216; omega, [u, v], .cons hu (.cons hv .nil), ⟨_, nT, rfl, _, rfl⟩⟩
    have I2 := I.turnedNew (t' := tk) (ch := [z, TI, TO, i1, i2]) (fun c o nm q => (sb.2 c fun q' => nm (by rw [q']; simp)).trans (kp c o (fun q' => nm (by rw [q']; simp)) (fun q' => nm (by rw [q']; simp)) (fun q' => nm (by rw [q']; simp)) (fun q' => nm (by rw [q']; simp)) q)) hf (Nat.le_refl _) ob
    refine ⟨.ref s.heap.objs.size, _, I2, rfl, ⟨_, x, y, rfl, I.hok.fresh (Nat.le_refl _), rfl, fun zs hz => by rw [sq_inj I hz qx]; exact ex, fun zs hz => by rw [sq_inj I hz qy]; exact ey⟩, ⟨n6, ?_, ⟨u, v, ?_⟩, ?_, ?_⟩, fun c hcm => ?_⟩
    · exact (sb.2 _ D.TIz).trans (kp _ _ D.TIz D.TITO D.TIi1 D.TIi2 g2)
    · exact (sb.2 _ D.TOz).trans n2
    · exact sqI_at n3.1 fun o q => (sb.2 _ D.i1z).trans q
    · exact sqI_at n4.1 fun o q => (sb.2 _ D.i2z).trans q
    · have cl : c < s.heap.objs.size := by
        rcases five hcm with q | q | q | q | q <;> subst q
        · exact zl
        · exact Heap.lt_size g2
        · exact Heap.lt_size g3
        · obtain ⟨_, q, _⟩ := sqI_obj g4; exact Heap.lt_size q
        · obtain ⟨_, q, _⟩ := sqI_obj g5; exact Heap.lt_size q
      rw [upd_ne (Nat.ne_of_lt cl)]
      exact (hf c hcm).1
  done := by
    intro X hP hw hK hc i pins s σ H E I hf st hg
    subst hP hw hK
    obtain ⟨g1, g2, ⟨x0, y0, g3⟩, g4, g5⟩ := st
    obtain ⟨xs, ys, qx, qy, ei⟩ := hg
    obtain ⟨us, ru, pu, lu⟩ := sq_get I qx
    obtain ⟨vs, rv, pv, lv⟩ := sq_get I qy
    have hh : X.A.in1.handled = none := I.ok.hd hc
    have e1 := ru.length
    have e2 := rv.length
    refine wpAny_pyNext_zipD2_end (sep_of D) (draws_sq hh k i1 a D.l1i1 us.toArray) (draws_sq hh l i2 b D.l2i2 vs.toArray) g1 g2 g3 ⟨g4, pu⟩ ⟨g5, pv⟩ (by simp; omega) (by simp; omega) (by simp; omega) fun h' tk kp => ⟨rfl, I.turnedL (t' := tk) (ch := [z, TI, TO, i1, i2]) (fun c o nm q =>
      kp c o (fun q' => nm (by rw [q']; simp)) (fun q' => nm (by rw [q']; simp)) (fun q' => nm (by rw [q']; simp)) (fun q' => nm (by rw [q']; simp)) q) hf⟩
  self := fun A i s Q E st h => wpAny_pyIter_zip st.1 h
def iZipX (K : PySem.W.Frag) (ta : TA) : TI := fun σ H R => ta σ H fun vs H1 => ∃ k l a b xs ys, vs = [.ref a, .ref b] ∧ SqX K k H1 a xs ∧ SqX K l H1 b ys ∧ R (ItZX K k l a b) H1
theorem pi_zipX {X : Cx} {e e2 : Expr} {ta : TA} {p pos tp : Pos} {es : List Expr} {kk : Nat} (hg : Gl X "zip") (hm : X.mg "zip" = none) (ha : PA X [e, e2] ta)
    (hs : starEach [e, e2] X.env = (false, eval e X.env) :: starEach [e2] X.env) (hpl : (backTo pos (starEach [e2] X.env)).any (·.1) = false) : PI X (.Tuple es kk tp) (.Call (.Name "zip" p) [e, e2] [] pos) (iZipX X.K ta) := ⟨fun pins s σ H R I h => by
  refine Call_ (ld_blt I hg hm PyProof.Rows.boot_zip (PyProof.Rows.callWith_type1 (thn (ha.run pos pins s σ H _ I h) fun us s1 ⟨vs, H1, I1, r1, q1⟩ => ?_) hs hpl))
  obtain ⟨k, l, a, b, xs, ys, rfl, qx, qy, q⟩ := q1
  obtain ⟨va, vb, rfl, ra, rb⟩ := vals2 r1
  cases (show va = Value.ref a from ra)
  cases (show vb = Value.ref b from rb)
  obtain ⟨is1, _, p1, l1⟩ := sq_get I1 qx
  obtain ⟨is2, _, p2, l2⟩ := sq_get I1 qy
  refine zip_begins2 (begins_sq k a is1.toArray) (begins_sq l b is2.toArray) p1 p2 fun h' z1 z2 z3 z4 z5 z6 kp => wpAny_pyIter_zip z1 ?_
  have I2 : Inv X pins σ H1 { s1 with heap := h' } := I1.kept (t' := s1.toks) kp
  refine ⟨_, _, _, _, H1, rfl, I2, turn_zipX (k := k) (l := l) (PySem.W.ktu_apart s1.heap.objs.size a b l1 l2), ⟨z1, z2, ⟨_, _, z3⟩, sqI_new z4, sqI_new z5⟩, fun c hcm => ?_, q⟩
  have hle : s1.heap.objs.size ≤ c := by rcases five hcm with z | z | z | z | z <;> (rw [z]; first | exact Nat.le_refl _ | exact Nat.le_add_right _ _)
  exact I1.fpOk hle (I1.hok.fresh hle)⟩

/-! ### enumerate of a tuple -/
def ItEX (K : PySem.W.Frag) (a : Addr) : It :=
  ⟨fun i H => ∃ (xs : List V) (x : V), SqT K H a xs ∧ xs[i]? = some x, fun i H v H' => ∃ T x, v = .ref T ∧ H T = none ∧ H' = upd H T (.tup [.int (i : Nat), x]) ∧ ∀ xs, SqT K H a xs → xs[i]? = some x, fun i H => ∃ xs : List V, SqT K H a xs ∧ i = xs.length⟩
theorem enumerate_tuple {prog : Program} {w : World} {A : Around} {E : Value → Shared → Prop} {s : Shared} {a : Addr} {its : Array Value} {Q : Value → Shared → Prop} (hL : s.heap.IsTuple a its)
    (h : ∀ h', IsEnum h' (s.heap.objs.size + 1) s.heap.objs.size 0 .none → h'.IsTupleIter s.heap.objs.size a 0 → (∀ b o, s.heap.get? b = some o → h'.get? b = some o) → Q (.ref (s.heap.objs.size + 1)) { s with heap := h' }) :
    wpAny (model prog w) A (call (.type "enumerate") [.ref a]) Q E s := by
  have M : Meets (Builtin.«enumerate.__new__» ⟨[.type "enumerate", .ref a], []⟩) (fun _ R s => s.heap.IsTuple a its ∧
      R (.ok (.ret (.ref (s.heap.push (sqIt true a)).objs.size))) { s with heap := (s.heap.push (sqIt true a)).push { cls := .type "enumerate", data := .fields #[.none, .bool false, .ref s.heap.objs.size, rawInt 0, .none, .none] } }) :=
    .of_wp fun prog w A R s hh => by
      obtain ⟨hp, g, d, tk, os⟩ := s
      obtain ⟨ht, hh⟩ := hh
      have sb := sub_enumerate
      have go : ∀ {A' : Around} {E' : Value → Shared → Prop} {Q' : Value → Shared → Prop}, Q' (.ref hp.objs.size) ⟨hp.push (sqIt true a), g, d, tk, os⟩ → wpAny (model prog w) A' (pyIter (.ref a)) Q' E' ⟨hp, g, d, tk, os⟩ := fun q => (begins_tuple a its).iter prog w _ _ ⟨hp, g, d, tk, os⟩ _ ht q
      wp_walk using go
      refine wpAny_stack_any fun st => wpAny_pure ?_
      split
      · rename_i c _ _ _ _ _
        cases (c == Value.type "enumerate") <;> (wp_walk using go; exact ⟨_, rfl, hh⟩)
      · wp_walk using go
        exact ⟨_, rfl, hh⟩
  refine callType_new F.called_enumerate (by decide) (F.typeCall_enumerate_1 _) (F.newCall_enumerate_1 _) (fun obj => F.args_object_init_2 obj _) F.entry_enumerate_new M ⟨hL, ?_⟩
  have zs : (s.heap.push (sqIt true a)).objs.size = s.heap.objs.size + 1 := Heap.size_push ..
  have ge := Heap.get?_push_size (s.heap.push (sqIt true a)) (o := { cls := .type "enumerate", data := .fields #[.none, .bool false, .ref s.heap.objs.size, rawInt 0, .none, .none] }) rfl
  rw [zs] at ge
  show _ ∧ _
  rw [zs]
  exact ⟨⟨_, ge, rfl⟩, h _ ge ⟨_, Heap.get?_push_of_some _ (Heap.get?_push_size _ rfl), rfl, rfl⟩ fun b o x => Heap.get?_push_of_some _ (Heap.get?_push_of_some _ x)⟩
theorem turn_enumX {P : Program} {w : World} {K : PySem.W.Frag} {es : List Expr} {kk : Nat} {tp : Pos} (a e it : Addr) :
    Turn P w K (.Tuple es kk tp) (ItEX K a) [e, it] e (fun i h => (∃ old, IsEnum h e it ((i : Nat) : Int) old) ∧ IsSqI true h it a i ∧ e ≠ it ∧ a ≠ it ∧ e ≠ a) where
  mem := List.mem_cons_self
  obj := fun i h st b hb => by
    obtain ⟨⟨old, g1⟩, g2, _⟩ := st
    rcases (show b = e ∨ b = it by simpa using hb) with q | q <;> subst q
    · exact ⟨_, g1, fun v q => by cases q⟩
    · exact sqI_obj g2
  keep := fun i h h' st kp => let ⟨⟨old, g1⟩, g2, g3⟩ := st; ⟨⟨old, kp _ (by simp) _ g1⟩, sqI_at g2 (kp _ (by simp)), g3⟩
  item := by
    intro X hP hw hK hc i pins s σ H E I hf st hg
    subst hP hw hK
    obtain ⟨⟨old, g1⟩, g2, g3, g4, g5⟩ := st
    obtain ⟨xs, x, qx, ex⟩ := hg
    obtain ⟨us, ru, pu, lu⟩ := sq_get (k := true) I qx
    obtain ⟨u, eu, hu⟩ := ru.get ex
    have hu' : us.toArray[i]? = some u := by simpa using eu
    have hh : X.A.in1.handled = none := I.ok.hd hc
    have el := Heap.lt_size g1
    refine wpAny_pyNext_enum_itemC (draws_sq hh true it a g4 us.toArray) g1 ⟨g2, pu⟩ (Array.getElem?_eq_some_iff.mp hu').1 g3 (by simp [g3, g5]) fun u1 h' tk e1 n1 n2 n3 _ kp => ?_
    cases hu'.symm.trans e1
    refine ⟨_, rfl, wpAny_letOwnedTupleGo_enum (s := { s with heap := h', toks := tk + 1 }) n1 fun h2 n6 sb => ?_⟩
    have nT : h2.get? s.heap.objs.size = some { cls := .type "tuple", data := .seq #[.int i tk, u] } := (sb.2 _ (Nat.ne_of_gt el)).trans n3
    have ob : ObjOk X.prog X.w (upd H s.heap.objs.size (.tup [.int (i : Nat), x])) h2 s.heap.objs.size (.tup [.int (i : Nat), x]) :=
      ⟨by rw [sizeLine_eq]; show 2 ≤ 16777216; omega, [.int i tk, u], .cons ⟨_, rfl⟩ (.cons hu .nil), ⟨_, nT, rfl, _, rfl⟩⟩
    have I2 := I.turnedNew (t' := tk + 1) (ch := [e, it]) (fun c o nm q => (sb.2 c fun q' => nm (by rw [q']; simp)).trans (kp c o (fun q' => nm (by rw [q']; simp)) (fun q' => nm (by rw [q']; simp)) q)) hf (Nat.le_refl _) ob
    refine ⟨.ref s.heap.objs.size, _, I2, rfl, ⟨_, x, rfl, I.hok.fresh (Nat.le_refl _), rfl, fun zs hz => by rw [I.tuple_inj hz qx]; exact ex⟩, ⟨⟨u, ?_⟩, sqI_at n2.1 fun o q => (sb.2 it g3.symm).trans q, g3, g4, g5⟩, fun c hcm => ?_⟩
    · rw [show ((i + 1 : Nat) : Int) = (i : Int) + 1 by omega]; exact n6
    · have cl : c < s.heap.objs.size := by
        rcases (show c = e ∨ c = it by simpa using hcm) with q | q <;> subst q
        · exact el
        · obtain ⟨_, q, _⟩ := sqI_obj g2; exact Heap.lt_size q
      rw [upd_ne (Nat.ne_of_lt cl)]
      exact (hf c hcm).1
  done := by
    intro X hP hw hK hc i pins s σ H E I hf st hg
    subst hP hw hK
    obtain ⟨⟨old, g1⟩, g2, g3, g4, g5⟩ := st
    obtain ⟨xs, qx, ei⟩ := hg
    obtain ⟨us, ru, pu, lu⟩ := sq_get (k := true) I qx
    have hh : X.A.in1.handled = none := I.ok.hd hc
    have e1 := ru.length
    have es : us.toArray.size = i := by simp; omega
    have D := draws_sq (prog := X.prog) (w := X.w) hh true it a g4 us.toArray
    rw [es] at D
    refine wpAny_pyNext_enum_endD D g1 ⟨g2, pu⟩ fun h' kp => ⟨rfl, I.turnedL (t' := s.toks) (ch := [e, it]) (fun c o nm q => kp c o (fun q' => nm (by rw [q']; simp)) q) hf⟩
  self := fun A i s Q E st h => let ⟨⟨_, g1⟩, _⟩ := st; wpAny_pyIter_enum g1 h
def iEnumX (K : PySem.W.Frag) (ta : TA) : TI := fun σ H R => ta σ H fun vs H1 => ∃ a xs, vs = [.ref a] ∧ ((SqL K H1 a xs ∧ R (Ite K a) H1) ∨ (SqT K H1 a xs ∧ R (ItEX K a) H1))
theorem pi_enumX {X : Cx} {e : Expr} {ta : TA} {p pos tp : Pos} {es : List Expr} {kk : Nat} (hg : Gl X "enumerate") (hm : X.mg "enumerate" = none) (ha : PA X [e] ta) (hs : starEach [e] X.env = [(false, eval e X.env)]) :
    PI X (.Tuple es kk tp) (.Call (.Name "enumerate" p) [e] [] pos) (iEnumX X.K ta) := ⟨fun pins s σ H R I h => by
  refine Call_ (ld_blt I hg hm boot_enumerate (PyProof.Rows.callWith_type1 (thn (ha.run pos pins s σ H _ I h) fun us s1 ⟨vs, H1, I1, r1, q1⟩ => ?_) hs rfl))
  obtain ⟨a, xs, rfl, q1⟩ := q1
  obtain ⟨va, rfl, ra⟩ := vals1 r1
  cases (show va = Value.ref a from ra)
  have fp : ∀ b ∈ [s1.heap.objs.size + 1, s1.heap.objs.size], FpOk X pins H1 b := fun b hb => by
    have hle : s1.heap.objs.size ≤ b := by
      rcases (show b = s1.heap.objs.size + 1 ∨ b = s1.heap.objs.size by simpa using hb) with z | z <;> (rw [z]; first | exact Nat.le_refl _ | exact Nat.le_add_right _ _)
    exact I1.fpOk hle (I1.hok.fresh hle)
  rcases q1 with ⟨qx, q⟩ | ⟨qx, q⟩
  · obtain ⟨its, _, p1, _⟩ := I1.list qx
    exact call_enumerate_list p1.isList fun h' he hit _ kp => wpAny_pyIter_enum he ⟨_, _, _, _, H1, rfl, I1.kept (t' := s1.toks) kp, turn_enum a _ _, ⟨⟨.none, he⟩, hit, Nat.succ_ne_self _⟩, fp, q⟩
  · obtain ⟨its, _, p1, l1⟩ := sq_get (k := true) I1 qx
    exact enumerate_tuple p1 fun h' he hit kp => wpAny_pyIter_enum he ⟨_, _, _, _, H1, rfl, I1.kept (t' := s1.toks) kp, turn_enumX a _ _, ⟨⟨.none, he⟩, hit, Nat.succ_ne_self _, Nat.ne_of_lt l1, Nat.ne_of_gt (Nat.lt_succ_of_lt l1)⟩, fp, q⟩⟩

/-! ### by data -/
def seqD : D → Option (List D)
  | .lst ds => some ds
  | .tup ds => some ds
  | .pw is => some (is.map .int)
  | _ => none
def itZipX : List D → Option (List D)
  | [d, e] => match seqD d, seqD e with
    | some xs, some ys => some (pairsD xs ys)
    | _, _ => none
  | _ => none
def itEnumX : List D → Option (List D)
  | [d] => match seqD d with
    | some xs => some (pairsD (intsD 0 xs.length) xs)
    | none => none
  | _ => none
theorem den_seq {Z : Wd} {H : Hp} {B : Addr → Prop} {d : D} {v : V} {xs : List D} (h : Den Z H B d v) (e : seqD d = some xs) : ∃ (k : Bool) (a : Addr) (vs : List V), v = .ref a ∧ SqX Z.K k H a vs ∧ DenL Z H B xs vs ∧
    ∀ B1 : Addr → Prop, (∀ a, B1 a → B a ∨ H a = none) → DenL Z H B1 xs vs ∧ ∀ H', Kp B1 H H' → SqX Z.K k H' a vs := by
  cases d with
  | lst ds =>
    cases e
    unfold Den at h
    obtain ⟨a, vs, rfl, q1, q2⟩ := h
    exact ⟨false, a, vs, rfl, q1.sq, q2, fun B1 hB => ⟨(den_new hB).2 _ _ q2, fun H' kp => q1.new hB kp⟩⟩
  | tup ds =>
    cases e
    unfold Den at h
    obtain ⟨a, vs, rfl, q1, q2⟩ := h
    exact ⟨true, a, vs, rfl, q1, q2, fun B1 hB => ⟨(den_new hB).2 _ _ q2, fun H' kp => kp_t kp q1⟩⟩
  | pw is =>
    cases e
    unfold Den at h
    obtain ⟨a, rfl, q1⟩ := h
    exact ⟨true, a, _, rfl, .inl (.inl q1), den_ints2 is, fun B1 hB => ⟨den_ints2 is, fun H' kp => .inl (.inl (kp a _ q1 (.inr rfl)))⟩⟩
  | _ => cases e
theorem walk_zipX {K : PySem.W.Frag} {k l : Bool} {a b : Addr} {us vs : List V} {n : Nat} (hn : n = min us.length vs.length) : Walk (ItZX K k l a b) n (fun H => SqX K k H a us ∧ SqX K l H b vs) (YPair (fun i => us[i]?) (fun i => vs[i]?)) where
  goes := fun i H hi q => ⟨us, vs, us[i]'(by omega), vs[i]'(by omega), q.1, q.2, List.getElem?_eq_getElem _, List.getElem?_eq_getElem _⟩
  stops := fun H q => ⟨us, vs, q.1, q.2, hn⟩
  yields := fun i H v H' hi q ⟨T, x, z, g1, g2, g3, g4, g5⟩ => ⟨T, x, z, g1, g2, g3, g4 us q.1, g5 vs q.2⟩
theorem walk_enumX {K : PySem.W.Frag} {a : Addr} {us : List V} : Walk (ItEX K a) us.length (fun H => SqT K H a us) (YPair (fun i => some (.int (i : Nat))) (fun i => us[i]?)) where
  goes := fun i H hi q => ⟨us, us[i], q, List.getElem?_eq_getElem hi⟩
  stops := fun H q => ⟨us, q, rfl⟩
  yields := fun i H v H' hi q ⟨T, x, g1, g2, g3, g4⟩ => ⟨T, .int (i : Nat), x, g1, g2, g3, rfl, g4 us q⟩
section
variable {C : Cn}
theorem it_zipX (hm : C.mg "zip" = none) : ItCl C "zip" 2 itZipX := by
  intro X tg A gl ht p pos xs t hn hs ha
  have hm' : X.mg "zip" = none := by rw [A.g]; exact hm
  obtain ⟨a, b, rfl⟩ : ∃ a b, xs = [a, b] := by
    match xs, hn with
    | [a, b], _ => exact ⟨a, b, rfl⟩
  simp only [List.all_cons, List.all_nil, Bool.and_true, Bool.and_eq_true] at hs
  have ht' : isTup tg = true := ht.resolve_right (by decide)
  cases tg with
  | Tuple elts kk tpos =>
    refine pi_weak (pi_zipX gl hm' (pa_cl ha) (star_cons hs.1) (star_any (by simp [hs.2]))) fun σ H Rr h => ⟨_, h, fun vs H1 ⟨B, ds, items, q, e, k⟩ => ?_⟩
    unfold itZipX at e
    split at e
    · rename_i d1 d2
      cases e1 : seqD d1 with
      | none => rw [e1] at e; cases e
      | some x1 =>
        cases e2 : seqD d2 with
        | none => rw [e1, e2] at e; cases e
        | some x2 =>
          rw [e1, e2] at e
          cases e
          obtain ⟨v, w, rfl, h1, h2⟩ := den2 q
          obtain ⟨k1, a1, us, rfl, s1, n1, g1⟩ := den_seq h1 e1
          obtain ⟨k2, a2, ws, rfl, s2, n2, g2⟩ := den_seq h2 e2
          refine ⟨k1, k2, a1, a2, us, ws, rfl, by rw [A.k]; exact s1, by rw [A.k]; exact s2, k _ H1 (Ex.refl _) (walkD_pair (n := min us.length ws.length) (by rw [n1.length, n2.length]) (walk_zipX rfl) fun B1 hB => ⟨fun H' kp => by rw [A.k]; exact ⟨(g1 B1 hB).2 H' kp, (g2 B1 hB).2 H' kp⟩, fun i H' hi kp => ⟨fun v hv => ?_, fun v hv => ?_⟩⟩)⟩
          · obtain ⟨d, z1, z2⟩ := (g1 B1 hB).1.at hv
            exact ⟨d, z1, z2.kp kp fun _ z => z⟩
          · obtain ⟨d, z1, z2⟩ := (g2 B1 hB).1.at hv
            exact ⟨d, z1, z2.kp kp fun _ z => z⟩
    · cases e
  | _ => cases ht'
theorem it_enumX (hm : C.mg "enumerate" = none) : ItCl C "enumerate" 1 itEnumX := by
  intro X tg A gl ht p pos xs t hn hs ha
  have hm' : X.mg "enumerate" = none := by rw [A.g]; exact hm
  obtain ⟨a, rfl⟩ : ∃ a, xs = [a] := List.length_eq_one_iff.mp hn
  simp only [List.all_cons, List.all_nil, Bool.and_true] at hs
  have ht' : isTup tg = true := ht.resolve_right (by decide)
  cases tg with
  | Tuple elts kk tpos =>
    refine pi_weak (pi_enumX gl hm' (pa_cl ha) (star_cons hs)) fun σ H Rr h => ⟨_, h, fun vs H1 ⟨B, ds, items, q, e, k⟩ => ?_⟩
    unfold itEnumX at e
    split at e
    · rename_i d1
      cases e1 : seqD d1 with
      | none => rw [e1] at e; cases e
      | some x1 =>
        rw [e1] at e
        cases e
        obtain ⟨v, rfl, h1⟩ := den1 q
        obtain ⟨k1, a1, us, rfl, s1, n1, g1⟩ := den_seq h1 e1
        have first : ∀ i v, i < us.length → some (V.int (i : Nat)) = some v → ∀ (H' : Hp) (B1 : Addr → Prop), ∃ d, (intsD 0 x1.length)[i]? = some d ∧ Den C.Z H' B1 d v := fun i v hi hv H' B1 => by
          cases hv
          refine ⟨_, intsD_get (by rw [← n1.length]; exact hi), ?_⟩
          rw [Int.zero_add]
          exact den_int
        cases k1 with
        | false =>
          refine ⟨a1, us, rfl, .inl ⟨by rw [A.k]; exact s1, k _ H1 (Ex.refl _) (walkD_pair (n := us.length) (by rw [intsD_len, Nat.min_self, n1.length]) walk_enum fun B1 hB => ⟨fun H' kp => by rw [A.k]; exact (g1 B1 hB).2 H' kp, fun i H' hi kp => ⟨fun v hv => first i v hi hv H' B1, fun v hv => ?_⟩⟩)⟩⟩
          obtain ⟨d, z1, z2⟩ := (g1 B1 hB).1.at hv
          exact ⟨d, z1, z2.kp kp fun _ z => z⟩
        | true =>
          refine ⟨a1, us, rfl, .inr ⟨by rw [A.k]; exact s1, k _ H1 (Ex.refl _) (walkD_pair (n := us.length) (by rw [intsD_len, Nat.min_self, n1.length]) walk_enumX fun B1 hB => ⟨fun H' kp => by rw [A.k]; exact (g1 B1 hB).2 H' kp, fun i H' hi kp => ⟨fun v hv => first i v hi hv H' B1, fun v hv => ?_⟩⟩)⟩⟩
          obtain ⟨d, z1, z2⟩ := (g1 B1 hB).1.at hv
          exact ⟨d, z1, z2.kp kp fun _ z => z⟩
    · cases e
  | _ => cases ht'
end
end PM

set_option Elab.async false
set_option linter.all false
set_option maxRecDepth 100000
set_option exponentiation.threshold 10000
set_option maxHeartbeats 2000000
/-! RT: the program's fractions. -/
namespace PM
open PySem PySem.Spec L2
open PyProof.Rows hiding St

section
variable (a b c d e : D) (k : Nat) (body : List S)
@[simp] theorem run0 : runF 0 k body [] = (exs body (startN k [])).bind fun r => .pure r.out := rfl
@[simp] theorem run1 : runF 1 k body [a] = (exs body (startN k [a])).bind fun r => .pure r.out := rfl
@[simp] theorem run2 : runF 2 k body [a, b] = (exs body (startN k [a, b])).bind fun r => .pure r.out := rfl
@[simp] theorem run3 : runF 3 k body [a, b, c] = (exs body (startN k [a, b, c])).bind fun r => .pure r.out := rfl
@[simp] theorem run4 : runF 4 k body [a, b, c, d] = (exs body (startN k [a, b, c, d])).bind fun r => .pure r.out := rfl
@[simp] theorem run5 : runF 5 k body [a, b, c, d, e] = (exs body (startN k [a, b, c, d, e])).bind fun r => .pure r.out := rfl
end
/-- isinstance with built-in types alone -/
abbrev isiB : List Str → D → R := isiK []
def kd (d : D) : Bool := (tyN d).isSome
def isW : D → Bool
  | .int _ => true
  | _ => false
def isBl : D → Bool
  | .bl _ => true
  | _ => false
def isTp : D → Bool
  | .tup _ => true
  | .pw _ => true
  | _ => false
def isLs : D → Bool
  | .lst _ => true
  | _ => false
@[simp] theorem isiB_int (d : D) : isiB ["int"] d = if kd d = true then .ok (.bl (isW d || isBl d)) else .bad := by cases d <;> rfl
@[simp] theorem isiB_bool (d : D) : isiB ["bool"] d = if kd d = true then .ok (.bl (isBl d)) else .bad := by cases d <;> rfl
@[simp] theorem isiB_tuple (d : D) : isiB ["tuple"] d = if kd d = true then .ok (.bl (isTp d)) else .bad := by cases d <;> rfl
@[simp] theorem isiB_list (d : D) : isiB ["list"] d = if kd d = true then .ok (.bl (isLs d)) else .bad := by cases d <;> rfl
@[simp] theorem kd_int (i : Int) : kd (.int i) = true := rfl
@[simp] theorem kd_bl (i : Bool) : kd (.bl i) = true := rfl
@[simp] theorem kd_tup (i) : kd (.tup i) = true := rfl
@[simp] theorem kd_lst (i) : kd (.lst i) = true := rfl
@[simp] theorem kd_str (i) : kd (.str i) = true := rfl
@[simp] theorem kd_non : kd .non = true := rfl
@[simp] theorem kd_dT (i j) : kd (.dT i j) = true := rfl
theorem mulB_lt {a b : Int} {k : Nat} (ha : a.natAbs < 2 ^ k) (hb : b.natAbs < 2 ^ k) (hk : k ≤ 400000) : mulB a b = true := by
  unfold mulB
  by_cases h0 : a.natAbs = 0
  · simp [h0]
  by_cases h1 : b.natAbs = 0
  · simp [h1]
  have l1 := (Nat.log2_lt h0).mpr ha
  have l2 := (Nat.log2_lt h1).mpr hb
  have : a.natAbs.log2 + b.natAbs.log2 < 1000000 := by omega
  simp [this]
theorem divB_lt {a b : Int} {k : Nat} (hb : b.natAbs < 2 ^ k) (h0 : b ≠ 0) (hk : k ≤ 9000) : divB a b = true := by
  unfold divB
  have h1 : b.natAbs ≠ 0 := by omega
  have l2 := (Nat.log2_lt h1).mpr hb
  have : b.natAbs.log2 < 9000 := by omega
  simp [this, h0]
theorem divI_ok {a b : Int} {k : Nat} (hb : b.natAbs < 2 ^ k) (h0 : b ≠ 0) (hk : k ≤ 9000) : divI (.int a) (.int b) = .ok (.int (a.fdiv b)) := by
  rw [divI_int, if_pos (divB_lt hb h0 hk)]
theorem modI_ok {a b : Int} (h0 : b ≠ 0) : modI (.int a) (.int b) = .ok (.int (a.fmod b)) := by
  rw [modI_int, if_pos (by unfold modB; simp [h0])]
@[simp] theorem absD_int (a : Int) : absD [.int a] = .ok (.int (if a < 0 then -a else a)) := rfl

/-- a fraction as data -/
def encR (q : Rat) : D := .tup [.int q.num, .int (q.den : Int)]
theorem encR_inj {p q : Rat} (h : encR p = encR q) : p = q := by
  unfold encR at h
  simp only [D.tup.injEq, List.cons.injEq, D.int.injEq, and_true] at h
  exact Rat.ext h.1 (by omega)
theorem er_R (q : Rat) : er (encR q) = encR q := rfl
@[simp] theorem pl_R (k : Nat) (q : Rat) : pl (k + 1) (encR q) = true := rfl
@[simp] theorem pl_int (k : Nat) (i : Int) : pl k (.int i) = true := by unfold pl; rw [er, pl0]
open Classical in
@[simp] theorem eqD_R (p q : Rat) : eqD (encR p) (encR q) = .ok (.bl (decide (p = q))) := by
  rw [eqD_pl rfl rfl, er_R, er_R]
  have : (encR p = encR q) = (p = q) := propext ⟨encR_inj, fun h => by rw [h]⟩
  simp only [this]
open Classical in
@[simp] theorem neD_R (p q : Rat) : neD (encR p) (encR q) = .ok (.bl (!decide (p = q))) := by
  rw [neD_pl rfl rfl, er_R, er_R]
  have : (encR p = encR q) = (p = q) := propext ⟨encR_inj, fun h => by rw [h]⟩
  simp only [this]
/-- sizes -/
def sz (k : Nat) (q : Rat) : Prop := q.num.natAbs < 2 ^ k ∧ q.den < 2 ^ k
theorem sz.mono {j k : Nat} {q : Rat} (h : sz j q) (hk : j ≤ k) : sz k q :=
  ⟨Nat.lt_of_lt_of_le h.1 (Nat.pow_le_pow_right (by omega) hk), Nat.lt_of_lt_of_le h.2 (Nat.pow_le_pow_right (by omega) hk)⟩
namespace F
def is_whole : List D → T R
  | [d] => .pure (if kd d = true then .ok (.bl (isW d)) else .bad)
  | _ => .pure .bad
@[simp] theorem is_whole_1 (d : D) : is_whole [d] = .pure (if kd d = true then .ok (.bl (isW d)) else .bad) := rfl
end F
abbrev N_is_whole : List Str := ["thing"]
noncomputable def B_is_whole : List S := [.ret (.and (.isi (isiB ["int"]) (.v 0) ["int"] false) (.not (.isi (isiB ["bool"]) (.v 0) ["bool"] false)))]

theorem p_is_whole (ds : List D) (P : R → Prop) (hP : ¬ P .bad) (h : (F.is_whole ds).all P) : (runF 1 1 B_is_whole ds).all P := by
  unfold F.is_whole at h
  split at h
  · rename_i d
    unfold B_is_whole
    by_cases c : kd d = true
    · simp [c] at h ⊢
      cases d <;> simp_all [isW, isBl]
    · simp [c] at h
      exact absurd h hP
  · exact absurd h hP
def fu_shared_by_0 : Nv → Nat := fun n => match n[3]? with
  | some (Sl.val (.int i)) => i.natAbs + 1
  | _ => 0
namespace F
def shared_by : List D → T R
  | [.int a, .int b] => .pure (.ok (.int (Int.gcd a b)))
  | _ => .pure .bad
@[simp] theorem shared_by_2 (a b : Int) : shared_by [.int a, .int b] = .pure (.ok (.int (Int.gcd a b))) := rfl
end F
abbrev N_shared_by : List Str := ["one", "other", "here", "there"]
noncomputable def B_shared_by : List S := [.set 2 (.call "abs" (opc absD) [.v 0]), .frz 2, .set 3 (.call "abs" (opc absD) [.v 1]), .frz 3, .whl fu_shared_by_0 (.cmp .NotEq neD (.v 3) (.c (.int 0))) [.par 2 3 (.v 3) (.bin .Mod modI (.v 2) (.v 3))], .ret (.v 2)]

theorem gcd_step {x y : Int} (h : y ≠ 0) : Int.gcd y (x.fmod y) = Int.gcd x y := by
  rw [Int.gcd_comm x y]
  have : x.fmod y = x - y * x.fdiv y := Int.fmod_def x y
  rw [this]
  exact Int.gcd_sub_mul_left_right ..
theorem loop_gcd (op : CmpOp) (f : D → D → R) (hf : ∀ y : Int, 0 ≤ y → f (.int y) (.int 0) = .ok (.bl (decide (y ≠ 0)))) (v w : Sl) : ∀ (k : Nat) (x y : Int), 0 ≤ x → 0 ≤ y → y.natAbs < k → 
    whileL (fun n' => evT (.cmp op f (.v 3) (.c (.int 0))) n') (fun n' => exs [.par 2 3 (.v 3) (.bin .Mod modI (.v 2) (.v 3))] n') k [v, w, .val (.int x), .val (.int y)] = .pure (.next [v, w, .val (.int (Int.gcd x y)), .val (.int 0)])
  | 0, x, y, _, _, h => by omega
  | k + 1, x, y, hx, hy, h => by
    rw [whileL_s]
    by_cases c : y = 0
    · subst c
      simp [hf]
      omega
    · have hm := Int.emod_nonneg x c
      have hl := Int.emod_lt_of_pos x (show 0 < y by omega)
      have e : x.fmod y = x % y := Int.fmod_eq_emod_of_nonneg x hy
      have ih := loop_gcd op f hf v w k y (x.fmod y) hy (by omega) (by omega)
      simp [hf y hy, c, modI_ok c]
      simp at ih
      rw [ih, gcd_step c]
theorem gcd_abs2 (a b : Int) : Int.gcd (if a < 0 then -a else a) (if b < 0 then -b else b) = Int.gcd a b := by
  split <;> split <;> simp
theorem p_shared_by (ds : List D) (P : R → Prop) (hP : ¬ P .bad) (h : (F.shared_by ds).all P) : (runF 2 4 B_shared_by ds).all P := by
  unfold F.shared_by at h
  split at h
  · rename_i a b
    unfold B_shared_by
    have ha : (0 : Int) ≤ if a < 0 then -a else a := by split <;> omega
    have hb : (0 : Int) ≤ if b < 0 then -b else b := by split <;> omega
    have lp := loop_gcd .NotEq neD (fun y _ => by simp) (.val (.int a)) (.val (.int b)) ((if b < 0 then -b else b).natAbs + 1) _ _ ha hb (by omega)
    rw [gcd_abs2] at lp
    simp [frzK, Nv.ownOf, fu_shared_by_0] at lp h ⊢
    simp [lp, h]
  · exact absurd h hP

@[simp] theorem lenD_tup (ds : List D) : lenD [.tup ds] = .ok (.int ds.length) := rfl
@[simp] theorem lenD_lst (ds : List D) : lenD [.lst ds] = .ok (.int ds.length) := rfl
def isFr : D → Bool
  | .tup [.int a, .int b] => decide (0 < b) && decide (Int.gcd a b = 1)
  | _ => false
/-- a thing that may be asked whether it is a fraction -/
def kd2 (d : D) : Bool := kd d && match d with
  | .tup ds => ds.all kd
  | .pw _ => false
  | _ => true
namespace F
def is_fraction : List D → T R
  | [d] => .pure (if kd2 d = true then .ok (.bl (isFr d)) else .bad)
  | _ => .pure .bad
@[simp] theorem is_fraction_1 (d : D) : is_fraction [d] = .pure (if kd2 d = true then .ok (.bl (isFr d)) else .bad) := rfl
end F
abbrev N_is_fraction : List Str := ["thing"]
noncomputable def B_is_fraction : List S := [.ifs (.or (.not (.isi (isiB ["tuple"]) (.v 0) ["tuple"] false)) (.or (.cmp .NotEq neD (.call "len" (opc lenD) [.v 0]) (.c (.int 2))) (.or (.not (.call "is_whole" F.is_whole [.ix ixU (.v 0) (.c (.int 0))])) (.not (.call "is_whole" F.is_whole [.ix ixU (.v 0) (.c (.int 1))]))))) [.ret (.c (.bl false))] [], .ret (.and (.cmp .Gt uGt (.ix ixU (.v 0) (.c (.int 1))) (.c (.int 0))) (.cmp .Eq eqD (.call "shared_by" F.shared_by [.ix ixU (.v 0) (.c (.int 0)), .ix ixU (.v 0) (.c (.int 1))]) (.c (.int 1))))]

theorem isFr_nt {d : D} (h : isTp d = false) : isFr d = false := by cases d <;> first | rfl | cases h
theorem isFr_nw {a b : D} (h : (isW a && isW b) = false) : isFr (.tup [a, b]) = false := by
  cases a <;> cases b <;> first | rfl | cases h
theorem isFr_nl {ds : List D} (h : ds.length ≠ 2) : isFr (.tup ds) = false := by
  match ds, h with
  | [], _ => rfl
  | [a], _ => cases a <;> rfl
  | [a, b], h => exact absurd rfl h
  | a :: b :: c :: r, _ => cases a <;> cases b <;> rfl
theorem p_is_fraction (ds : List D) (P : R → Prop) (hP : ¬ P .bad) (h : (F.is_fraction ds).all P) : (runF 1 1 B_is_fraction ds).all P := by
  unfold F.is_fraction at h
  split at h
  · rename_i d
    unfold B_is_fraction
    by_cases c : kd2 d = true
    · rw [if_pos c] at h
      unfold kd2 at c
      rw [Bool.and_eq_true] at c
      cases q : isTp d with
      | false =>
        rw [isFr_nt q] at h
        simp [c.1, q]
        exact h
      | true =>
        cases d with
        | tup ds =>
          by_cases hl : ds.length = 2
          · match ds, hl with
            | [a, b], _ =>
              have c2 := c.2
              simp at c2
              cases q2 : isW a && isW b with
              | false =>
                rw [isFr_nw q2] at h
                rw [Bool.and_eq_false_iff] at q2
                rcases q2 with q2 | q2
                · simp [q, q2, c2, atD_0, atD_1]
                  exact h
                · cases q3 : isW a
                  · simp [q, q2, q3, c2, atD_0, atD_1]
                    exact h
                  · simp [q, q2, q3, c2, atD_0, atD_1]
                    exact h
              | true =>
                cases a with
                | int a =>
                  cases b with
                  | int b =>
                    by_cases h0 : 0 < b
                    · simp [q, isW, atD_0, atD_1, h0]
                      simp [isFr, h0] at h
                      have e : ((a.gcd b : Nat) : Int) = 1 ↔ a.gcd b = 1 := by omega
                      simp only [e]
                      exact h
                    · simp [q, isW, atD_0, atD_1, h0]
                      simp [isFr, h0] at h
                      exact h
                  | _ => simp [isW] at q2
                | _ => simp [isW] at q2
          · rw [isFr_nl hl] at h
            have : ((ds.length : Int) = 2) = False := by
              apply propext
              constructor
              · intro z; omega
              · intro z; exact z.elim
            simp [q, this]
            exact h
        | pw _ => cases c.2
        | _ => cases q
    · rw [if_neg c] at h
      exact absurd h hP
  · exact absurd h hP
theorem low_eq {t b : Int} (h : b ≠ 0) : t.fdiv (if b < 0 then 0 - (Int.gcd t b : Int) else (Int.gcd t b : Int)) = (Rat.divInt t b).num ∧ b.fdiv (if b < 0 then 0 - (Int.gcd t b : Int) else (Int.gcd t b : Int)) = ((Rat.divInt t b).den : Int) := by
  have g0 : (0 : Int) < (Int.gcd t b : Int) := by
    have : Int.gcd t b ≠ 0 := fun z => h (Int.gcd_eq_zero_iff.mp z).2
    omega
  obtain ⟨k, hk⟩ := Int.gcd_dvd_left (a := t) (b := b)
  obtain ⟨m, hm⟩ := Int.gcd_dvd_right (a := t) (b := b)
  rw [Rat.num_divInt, Rat.den_divInt, if_neg h, Int.gcd_comm b t]
  generalize hg : (Int.gcd t b : Int) = g at *
  have hg' : Int.gcd t b = g.toNat := by omega
  have en : ((b.natAbs / Int.gcd t b : Nat) : Int) = b.natAbs / g := by rw [hg', Int.natCast_ediv]; congr 1; omega
  rw [en]
  have gn : g ≠ 0 := by omega
  by_cases c : b < 0
  · rw [if_pos c, Int.sign_eq_neg_one_of_neg c]
    have e1 : (-1 * t) = g * (-k) := by rw [hk, Int.mul_neg]; omega
    have e2 : ((b.natAbs : Nat) : Int) = g * (-m) := by rw [Int.mul_neg, ← hm]; omega
    rw [e1, e2, Int.mul_ediv_cancel_left _ gn, Int.mul_ediv_cancel_left _ gn]
    have e3 : t = (0 - g) * (-k) := by rw [Int.zero_sub, Int.neg_mul_neg]; exact hk
    have e4 : b = (0 - g) * (-m) := by rw [Int.zero_sub, Int.neg_mul_neg]; exact hm
    have gn' : 0 - g ≠ 0 := by omega
    constructor
    · conv => lhs; rw [e3]
      exact Int.mul_fdiv_cancel_left _ gn'
    · conv => lhs; rw [e4]
      exact Int.mul_fdiv_cancel_left _ gn'
  · rw [if_neg c, Int.sign_eq_one_of_pos (by omega), Int.one_mul]
    have e2 : ((b.natAbs : Nat) : Int) = g * m := by rw [← hm]; omega
    rw [e2]
    constructor
    · rw [hk, Int.mul_ediv_cancel_left _ gn, Int.mul_fdiv_cancel_left _ gn]
    · conv => lhs; rw [hm]
      rw [Int.mul_ediv_cancel_left _ gn, Int.mul_fdiv_cancel_left _ gn]
theorem gcd_le {t b : Int} (h : b ≠ 0) : Int.gcd t b ≤ b.natAbs := by
  rw [Int.gcd_comm]
  exact Nat.le_of_dvd (by omega) (Nat.gcd_dvd_left b.natAbs t.natAbs)
namespace F
def lowest : List D → T R
  | [.int t, .int b] => .pure (if b ≠ 0 ∧ b.natAbs < 2 ^ 8999 then .ok (encR (Rat.divInt t b)) else .bad)
  | _ => .pure .bad
theorem lowest_2 {t b : Int} (h : b ≠ 0) (hb : b.natAbs < 2 ^ 8999) : lowest [.int t, .int b] = .pure (.ok (encR (Rat.divInt t b))) := by
  show T.pure (if b ≠ 0 ∧ b.natAbs < 2 ^ 8999 then R.ok (encR (Rat.divInt t b)) else .bad) = _
  rw [if_pos ⟨h, hb⟩]
end F
abbrev N_lowest : List Str := ["top", "bottom", "by"]
noncomputable def B_lowest : List S := [.set 2 (.call "shared_by" F.shared_by [.v 0, .v 1]), .frz 2, .ifs (.cmp .Lt uLt (.v 1) (.c (.int 0))) [.set 2 (.bin .Sub subI (.c (.int 0)) (.v 2))] [], .ret (.tup [.bin .FloorDiv divI (.v 0) (.v 2), .bin .FloorDiv divI (.v 1) (.v 2)])]

theorem p_lowest (ds : List D) (P : R → Prop) (hP : ¬ P .bad) (h : (F.lowest ds).all P) : (runF 2 3 B_lowest ds).all P := by
  unfold F.lowest at h
  split at h
  · rename_i t b
    by_cases c : b ≠ 0 ∧ b.natAbs < 2 ^ 8999
    · rw [if_pos c] at h
      unfold B_lowest
      have hl := gcd_le (t := t) c.1
      have h0 : Int.gcd t b ≠ 0 := fun z => c.1 (Int.gcd_eq_zero_iff.mp z).2
      have e := low_eq (t := t) c.1
      by_cases n : b < 0
      · rw [if_pos n] at e
        have q := fun a : Int => divI_ok (a := a) (b := 0 - (Int.gcd t b : Int)) (k := 8999) (by omega) (by omega) (by omega)
        simp [frzK, Nv.ownOf, n] at q h ⊢
        simp [q, e] at h ⊢
        unfold encR at h
        simp at e
        simp [e]
        exact h
      · rw [if_neg n] at e
        have q := fun a : Int => divI_ok (a := a) (b := (Int.gcd t b : Int)) (k := 8999) (by omega) (by omega) (by omega)
        simp [frzK, Nv.ownOf, n] at q h ⊢
        simp [q, e] at h ⊢
        unfold encR at h
        exact h
    · rw [if_neg c] at h
      exact absurd h hP
  · exact absurd h hP

/-! ### fraction, plus, minus, times, over, under -/
namespace F
/-- where both are whole and the second isn't 0: the fraction; else NoNumber -/
def fraction : List D → T R
  | [x, y] => .pure (match x, y with
    | .int t, .int b => if b = 0 then .exn "NoNumber" [] else if b.natAbs < 2 ^ 8999 then .ok (encR (Rat.divInt t b)) else .bad
    | x, y => if kd x = true ∧ kd y = true then .exn "NoNumber" [] else .bad)
  | _ => .pure .bad
end F
abbrev N_fraction : List Str := ["top", "bottom"]
noncomputable def B_fraction : List S := [.ifs (.or (.not (.call "is_whole" F.is_whole [.v 0])) (.or (.not (.call "is_whole" F.is_whole [.v 1])) (.cmp .Eq eqD (.v 1) (.c (.int 0))))) [.raise "NoNumber" [.c (.str "what makes no fraction")] rzD] [], .ret (.call "lowest" F.lowest [.v 0, .v 1])]

theorem p_fraction (ds : List D) (P : R → Prop) (hP : ¬ P .bad) (h : (F.fraction ds).all P) : (runF 2 2 B_fraction ds).all P := by
  unfold F.fraction at h
  split at h
  · rename_i x y
    have key : (isW x && isW y) = false → kd x = true → kd y = true → P (.exn "NoNumber" []) → (runF 2 2 B_fraction [x, y]).all P := by
      intro q c1 c2 h
      rw [Bool.and_eq_false_iff] at q
      unfold B_fraction
      rcases q with q | q
      · simp [q, c1, c2, rzD, raiseK, h]
      · cases q1 : isW x <;> simp [q, q1, c1, c2, rzD, raiseK, h]
    split at h
    · rename_i t b
      unfold B_fraction
      by_cases c : b = 0
      · rw [if_pos c] at h
        simp [isW, c, rzD, raiseK]
        exact h
      · rw [if_neg c] at h
        by_cases hb : b.natAbs < 2 ^ 8999
        · rw [if_pos hb] at h
          have e := F.lowest_2 (t := t) c hb
          simp [isW, c, e] at h ⊢
          exact h
        · rw [if_neg hb] at h
          exact absurd h hP
    · rename_i nn
      by_cases c : kd x = true ∧ kd y = true
      · rw [if_pos c] at h
        refine key ?_ c.1 c.2 h
        cases x with
        | int t =>
          cases y with
          | int b => exact (nn t b rfl rfl).elim
          | _ => rfl
        | _ => rfl
      · rw [if_neg c] at h
        exact absurd h hP
  · exact absurd h hP
theorem sz_pos {k : Nat} {q : Rat} : (0 : Int) < (q.den : Int) := by
  have := q.den_pos
  omega
theorem den_one {q : Rat} (h : (q.den : Int) = 1) : q = Rat.divInt q.num 1 := by
  have e := Rat.num_divInt_den q
  rw [h] at e
  exact e.symm
theorem divInt_one_num (i : Int) : (Rat.divInt i 1).num = i ∧ (Rat.divInt i 1).den = 1 := by
  rw [Rat.num_divInt, Rat.den_divInt]
  simp
theorem nat_mul_lt {a b j k : Nat} (ha : a < 2 ^ j) (hb : b < 2 ^ k) : a * b < 2 ^ (j + k) := by
  rw [Nat.pow_add]
  exact Nat.mul_lt_mul'' ha hb
theorem abs_mul_lt {a b : Int} {j k : Nat} (ha : a.natAbs < 2 ^ j) (hb : b.natAbs < 2 ^ k) : (a * b).natAbs < 2 ^ (j + k) := by
  rw [Int.natAbs_mul]
  exact nat_mul_lt ha hb
theorem num_le {t b : Int} {k : Nat} (h : b ≠ 0) (ht : t.natAbs < 2 ^ k) (hb : b.natAbs < 2 ^ k) : sz k (Rat.divInt t b) := by
  have h0 : Int.gcd b t ≠ 0 := fun z => h (Int.gcd_eq_zero_iff.mp z).1
  constructor
  · rw [Rat.num_divInt]
    have e : (b.sign * t).natAbs = t.natAbs := by
      rw [Int.natAbs_mul, Int.natAbs_sign]
      simp [h]
    have := Int.natAbs_ediv_le_natAbs (b.sign * t) (Int.gcd b t : Int)
    omega
  · rw [Rat.den_divInt, if_neg h]
    have := Nat.div_le_self b.natAbs (Int.gcd b t)
    omega
namespace F
noncomputable def plus : List D → T R := Fn (fun a : Rat × Rat => [encR a.1, encR a.2]) (fun a => sz 4000 a.1 ∧ sz 4000 a.2) fun a => .pure (.ok (encR (a.1 + a.2)))
noncomputable def minus : List D → T R := Fn (fun a : Rat × Rat => [encR a.1, encR a.2]) (fun a => sz 4000 a.1 ∧ sz 4000 a.2) fun a => .pure (.ok (encR (a.1 - a.2)))
noncomputable def times : List D → T R := Fn (fun a : Rat × Rat => [encR a.1, encR a.2]) (fun a => sz 4000 a.1 ∧ sz 4000 a.2) fun a => .pure (.ok (encR (a.1 * a.2)))
open Classical in
noncomputable def over : List D → T R := Fn (fun a : Rat × Rat => [encR a.1, encR a.2]) (fun a => sz 4000 a.1 ∧ sz 4000 a.2) fun a => .pure (if a.2 = 0 then .exn "NoNumber" [] else .ok (encR (a.1 / a.2)))
open Classical in
noncomputable def under : List D → T R := Fn (fun a : Rat × Rat => [encR a.1, encR a.2]) (fun a => sz 4000 a.1 ∧ sz 4000 a.2) fun a => .pure (.ok (.bl (decide (a.1 < a.2))))
theorem inj2 : ∀ a b : Rat × Rat, [encR a.1, encR a.2] = [encR b.1, encR b.2] → a = b := fun a b h => by
  simp only [List.cons.injEq, and_true] at h
  exact Prod.ext (encR_inj h.1) (encR_inj h.2)
variable {p q : Rat}
theorem plus_eq (hp : sz 4000 p) (hq : sz 4000 q) : plus [encR p, encR q] = .pure (.ok (encR (p + q))) := Fn_eq (a := (p, q)) inj2 ⟨hp, hq⟩
theorem minus_eq (hp : sz 4000 p) (hq : sz 4000 q) : minus [encR p, encR q] = .pure (.ok (encR (p - q))) := Fn_eq (a := (p, q)) inj2 ⟨hp, hq⟩
theorem times_eq (hp : sz 4000 p) (hq : sz 4000 q) : times [encR p, encR q] = .pure (.ok (encR (p * q))) := Fn_eq (a := (p, q)) inj2 ⟨hp, hq⟩
open Classical in
theorem over_eq (hp : sz 4000 p) (hq : sz 4000 q) : over [encR p, encR q] = .pure (if q = 0 then .exn "NoNumber" [] else .ok (encR (p / q))) := Fn_eq (a := (p, q)) inj2 ⟨hp, hq⟩
open Classical in
theorem under_eq (hp : sz 4000 p) (hq : sz 4000 q) : under [encR p, encR q] = .pure (.ok (.bl (decide (p < q)))) := Fn_eq (a := (p, q)) inj2 ⟨hp, hq⟩
end F
theorem add_eq (p q : Rat) : p + q = Rat.divInt (p.num * q.den + q.num * p.den) (p.den * q.den) := by
  conv => lhs; rw [← Rat.num_divInt_den p, ← Rat.num_divInt_den q]
  rw [Rat.divInt_add_divInt _ _ (by have := p.den_pos; omega) (by have := q.den_pos; omega)]
theorem mul_eq (p q : Rat) : p * q = Rat.divInt (p.num * q.num) (p.den * q.den) := by
  conv => lhs; rw [← Rat.num_divInt_den p, ← Rat.num_divInt_den q]
  rw [Rat.divInt_mul_divInt]
theorem den_mul_ne (p q : Rat) : (p.den : Int) * (q.den : Int) ≠ 0 := by
  have := p.den_pos
  have := q.den_pos
  exact Int.mul_ne_zero (by omega) (by omega)
theorem sz_add {j k : Nat} {p q : Rat} (hp : sz j p) (hq : sz k q) : sz (j + k + 1) (p + q) := by
  rw [add_eq]
  have h1 := abs_mul_lt (a := p.num) (b := (q.den : Int)) hp.1 (show (q.den : Int).natAbs < 2 ^ k from hq.2)
  have h2 := abs_mul_lt (a := q.num) (b := (p.den : Int)) hq.1 (show (p.den : Int).natAbs < 2 ^ j from hp.2)
  have h3 := abs_mul_lt (a := (p.den : Int)) (b := (q.den : Int)) (show (p.den : Int).natAbs < 2 ^ j from hp.2) (show (q.den : Int).natAbs < 2 ^ k from hq.2)
  rw [Nat.add_comm k j] at h2
  have e : 2 ^ (j + k + 1) = 2 ^ (j + k) + 2 ^ (j + k) := by rw [Nat.pow_succ]; omega
  exact num_le (den_mul_ne p q) (by rw [e]; omega) (by rw [e]; omega)
theorem sz_mul {j k : Nat} {p q : Rat} (hp : sz j p) (hq : sz k q) : sz (j + k) (p * q) := by
  rw [mul_eq]
  exact num_le (den_mul_ne p q) (abs_mul_lt hp.1 hq.1) (abs_mul_lt (a := (p.den : Int)) (b := (q.den : Int)) (show (p.den : Int).natAbs < 2 ^ j from hp.2) (show (q.den : Int).natAbs < 2 ^ k from hq.2))
theorem sz_neg {j : Nat} {p : Rat} (hp : sz j p) : sz j (-p) := by
  refine ⟨?_, ?_⟩
  · show (-p.num).natAbs < _
    rw [Int.natAbs_neg]; exact hp.1
  · exact hp.2
theorem sz_sub {j k : Nat} {p q : Rat} (hp : sz j p) (hq : sz k q) : sz (j + k + 1) (p - q) := by
  rw [Rat.sub_eq_add_neg]
  exact sz_add hp (sz_neg hq)

@[simp] theorem R0 (q : Rat) : ixU (encR q) (.int 0) = .pure (.ok (.int q.num)) := by
  unfold encR
  simp [atD_0]
@[simp] theorem R1 (q : Rat) : ixU (encR q) (.int 1) = .pure (.ok (.int q.den)) := by
  unfold encR
  simp [atD_1]
theorem mul_R {p q : Rat} (hp : sz 4000 p) (hq : sz 4000 q) : uMul (.int p.num) (.int q.den) = .ok (.int (p.num * q.den)) ∧ uMul (.int q.num) (.int p.den) = .ok (.int (q.num * p.den)) ∧ uMul (.int p.den) (.int q.den) = .ok (.int (p.den * q.den)) ∧
    uMul (.int p.num) (.int q.num) = .ok (.int (p.num * q.num)) ∧ uMul (.int p.den) (.int q.num) = .ok (.int (p.den * q.num)) := by
  obtain ⟨h1, h2⟩ := hp
  obtain ⟨h3, h4⟩ := hq
  have m := fun (a b : Int) (x : a.natAbs < 2 ^ 4000) (y : b.natAbs < 2 ^ 4000) => uMul_int (mulB_lt x y (by omega))
  exact ⟨m _ _ h1 h4, m _ _ h3 h2, m _ _ h2 h4, m _ _ h1 h3, m _ _ h2 h3⟩
theorem low_R {p q : Rat} (hp : sz 4000 p) (hq : sz 4000 q) (t : Int) : F.lowest [.int t, .int (p.den * q.den)] = .pure (.ok (encR (Rat.divInt t (p.den * q.den)))) := by
  refine F.lowest_2 (den_mul_ne p q) (Nat.lt_of_lt_of_le (abs_mul_lt (a := (p.den : Int)) (b := (q.den : Int)) (show (p.den : Int).natAbs < 2 ^ 4000 from hp.2) (show (q.den : Int).natAbs < 2 ^ 4000 from hq.2)) (Nat.pow_le_pow_right (by omega) (by omega)))
abbrev N_plus : List Str := ["one", "other"]
noncomputable def B_plus : List S := [.ifs (.chain .Eq .Eq eqD eqD (.ix ixU (.v 0) (.c (.int 1))) (.ix ixU (.v 1) (.c (.int 1))) (.c (.int 1))) [.ret (.tup [.bin .Add uAdd (.ix ixU (.v 0) (.c (.int 0))) (.ix ixU (.v 1) (.c (.int 0))), .c (.int 1)])] [], .ret (.call "lowest" F.lowest [.bin .Add uAdd (.bin .Mult uMul (.ix ixU (.v 0) (.c (.int 0))) (.ix ixU (.v 1) (.c (.int 1)))) (.bin .Mult uMul (.ix ixU (.v 1) (.c (.int 0))) (.ix ixU (.v 0) (.c (.int 1)))), .bin .Mult uMul (.ix ixU (.v 0) (.c (.int 1))) (.ix ixU (.v 1) (.c (.int 1)))])]
abbrev N_minus : List Str := ["one", "other"]
noncomputable def B_minus : List S := [.ret (.call "plus" F.plus [.v 0, .tup [.bin .Sub subI (.c (.int 0)) (.ix ixU (.v 1) (.c (.int 0))), .ix ixU (.v 1) (.c (.int 1))]])]
abbrev N_times : List Str := ["one", "other"]
noncomputable def B_times : List S := [.ifs (.chain .Eq .Eq eqD eqD (.ix ixU (.v 0) (.c (.int 1))) (.ix ixU (.v 1) (.c (.int 1))) (.c (.int 1))) [.ret (.tup [.bin .Mult uMul (.ix ixU (.v 0) (.c (.int 0))) (.ix ixU (.v 1) (.c (.int 0))), .c (.int 1)])] [], .ret (.call "lowest" F.lowest [.bin .Mult uMul (.ix ixU (.v 0) (.c (.int 0))) (.ix ixU (.v 1) (.c (.int 0))), .bin .Mult uMul (.ix ixU (.v 0) (.c (.int 1))) (.ix ixU (.v 1) (.c (.int 1)))])]
abbrev N_over : List Str := ["one", "other"]
noncomputable def B_over : List S := [.ifs (.cmp .Eq eqD (.ix ixU (.v 1) (.c (.int 0))) (.c (.int 0))) [.raise "NoNumber" [.c (.str "a quotient by nought")] rzD] [], .ret (.call "lowest" F.lowest [.bin .Mult uMul (.ix ixU (.v 0) (.c (.int 0))) (.ix ixU (.v 1) (.c (.int 1))), .bin .Mult uMul (.ix ixU (.v 0) (.c (.int 1))) (.ix ixU (.v 1) (.c (.int 0)))])]
abbrev N_under : List Str := ["one", "other"]
noncomputable def B_under : List S := [.ret (.cmp .Lt uLt (.bin .Mult uMul (.ix ixU (.v 0) (.c (.int 0))) (.ix ixU (.v 1) (.c (.int 1)))) (.bin .Mult uMul (.ix ixU (.v 1) (.c (.int 0))) (.ix ixU (.v 0) (.c (.int 1)))))]

theorem one_R (i : Int) : encR (Rat.divInt i 1) = .tup [.int i, .int 1] := by
  unfold encR
  rw [(divInt_one_num i).1, (divInt_one_num i).2]
  rfl
theorem p_plus : ∀ ds (P : R → Prop), ¬ P .bad → (F.plus ds).all P → (runF 2 2 B_plus ds).all P := Fn_as fun a ⟨hp, hq⟩ P hP h => by
  obtain ⟨p, q⟩ := a
  dsimp only at hp hq h ⊢
  have h : P (.ok (encR (p + q))) := h
  obtain ⟨m1, m2, m3, m4, m5⟩ := mul_R hp hq
  have l := low_R hp hq
  unfold B_plus
  by_cases c1 : (p.den : Int) = q.den
  · by_cases c2 : (q.den : Int) = 1
    · have e := add_eq p q
      rw [c1, c2, Int.mul_one, Int.mul_one, Int.mul_one] at e
      rw [e, one_R] at h
      simp [c1, c2]
      exact h
    · rw [add_eq] at h
      rw [c1] at h m2 m3 l
      simp [c1, c2, m1, m2, m3, l]
      exact h
  · rw [add_eq] at h
    simp [c1, m1, m2, m3, l]
    exact h

theorem sub_R (q : Rat) : D.tup [.int (-q.num), .int q.den] = encR (-q) := rfl
theorem p_minus : ∀ ds (P : R → Prop), ¬ P .bad → (F.minus ds).all P → (runF 2 2 B_minus ds).all P := Fn_as fun a ⟨hp, hq⟩ P hP h => by
  obtain ⟨p, q⟩ := a
  dsimp only at hp hq h ⊢
  have h : P (.ok (encR (p - q))) := h
  have e := F.plus_eq hp (sz_neg hq)
  rw [← Rat.sub_eq_add_neg] at e
  unfold B_minus
  simp [sub_R, e]
  exact h
theorem p_times : ∀ ds (P : R → Prop), ¬ P .bad → (F.times ds).all P → (runF 2 2 B_times ds).all P := Fn_as fun a ⟨hp, hq⟩ P hP h => by
  obtain ⟨p, q⟩ := a
  dsimp only at hp hq h ⊢
  have h : P (.ok (encR (p * q))) := h
  obtain ⟨m1, m2, m3, m4, m5⟩ := mul_R hp hq
  have l := low_R hp hq
  unfold B_times
  by_cases c1 : (p.den : Int) = q.den
  · by_cases c2 : (q.den : Int) = 1
    · have e := mul_eq p q
      rw [c1, c2, Int.mul_one] at e
      rw [e, one_R] at h
      simp [c1, c2, m4]
      exact h
    · rw [mul_eq] at h
      rw [c1] at h m2 m3 l
      simp [c1, c2, m3, m4, l]
      exact h
  · rw [mul_eq] at h
    simp [c1, m3, m4, l]
    exact h
theorem div_eq {p q : Rat} (h : q ≠ 0) : p / q = Rat.divInt (p.num * q.den) (p.den * q.num) := by
  rw [Rat.div_def, Rat.inv_def, ← Rat.divInt_mul_divInt, Rat.num_divInt_den]
theorem num_ne {q : Rat} (h : q ≠ 0) : q.num ≠ 0 := fun z => h (Rat.num_eq_zero.mp z)
theorem p_over : ∀ ds (P : R → Prop), ¬ P .bad → (F.over ds).all P → (runF 2 2 B_over ds).all P := Fn_as fun a ⟨hp, hq⟩ P hP h => by
  obtain ⟨p, q⟩ := a
  dsimp only at hp hq h ⊢
  obtain ⟨m1, m2, m3, m4, m5⟩ := mul_R hp hq
  unfold B_over
  by_cases c : q = 0
  · rw [if_pos c] at h
    subst c
    have e : (0 : Rat).num = 0 := rfl
    simp [e, rzD, raiseK]
    exact h
  · rw [if_neg c, div_eq c] at h
    have nz := num_ne c
    have dn : (p.den : Int) * q.num ≠ 0 := Int.mul_ne_zero (by have := p.den_pos; omega) nz
    have l := F.lowest_2 (t := p.num * q.den) dn (Nat.lt_of_lt_of_le (abs_mul_lt (a := (p.den : Int)) (show (p.den : Int).natAbs < 2 ^ 4000 from hp.2) hq.1) (Nat.pow_le_pow_right (by omega) (by omega)))
    simp [nz, m1, m5, l]
    exact h
theorem p_under : ∀ ds (P : R → Prop), ¬ P .bad → (F.under ds).all P → (runF 2 2 B_under ds).all P := Fn_as fun a ⟨hp, hq⟩ P hP h => by
  obtain ⟨p, q⟩ := a
  dsimp only at hp hq h ⊢
  obtain ⟨m1, m2, m3, m4, m5⟩ := mul_R hp hq
  unfold B_under
  simp [m1, m2]
  simp [Rat.lt_iff] at h
  exact h
theorem isiB_ok {C : Cn} {c : Str} (hm : C.mg "isinstance" = none) (hc : C.mg c = none) (hb : (bltN c).isSome = true) : IsiOk C (isiB [c]) [c] false := by
  obtain ⟨t, e⟩ := Option.isSome_iff_exists.mp hb
  have F : ExcFx C [] := by constructor <;> (intro x h; cases h)
  exact isi_one F hm (.inr ⟨List.not_mem_nil, hc, t, e⟩)
end PM

set_option Elab.async false
set_option linter.all false
set_option maxRecDepth 100000
set_option exponentiation.threshold 10000
set_option maxHeartbeats 2000000
/-! LW: what all laws draw by. -/
namespace PM
open PySem PySem.Spec L2
open PyProof.Rows hiding St

def small (i : Int) : Prop := 0 < i ∧ i < 4294967296
instance (i : Int) : Decidable (small i) := inferInstanceAs (Decidable (_ ∧ _))
theorem mul_small {a b : Int} (h : a.natAbs < 18446744073709551616 ∨ b.natAbs < 18446744073709551616) : uMul (.int a) (.int b) = .ok (.int (a * b)) := by
  refine uMul_int ?_
  unfold mulB
  rcases h with h | h <;> simp [h]
theorem div_small {a b : Int} (h : 0 < b) (hb : b.natAbs < 2 ^ 8000) : divI (.int a) (.int b) = .ok (.int (a.fdiv b)) := divI_ok (k := 8000) hb (by omega) (by omega)
def B_take (c1 c2 n1 n2 : Int) : List S := [.ifs (.cmp .Gt uGt (.ix ixU (.v 0) (.c (.int 0))) (.c (.int 0))) [.set 2 (.bin .Mod modI (.ix ixU (.v 0) (.c (.int 0))) (.v 1)), .setp 0 (.c (.int 0)) (.bin .FloorDiv divI (.ix ixU (.v 0) (.c (.int 0))) (.v 1)), .ret (.v 2)] [], .setp 0 (.c (.int 1)) (.bin .Mod modI (.bin .Add uAdd (.bin .Mult uMul (.ix ixU (.v 0) (.c (.int 1))) (.c (.int c1))) (.c (.int c2))) (.c (.int n1))), .ret (.bin .Mod modI (.bin .FloorDiv divI (.bin .Mod modI (.bin .Mult uMul (.ix ixU (.v 0) (.c (.int 1))) (.ix ixU (.v 0) (.c (.int 1)))) (.c (.int n2))) (.c (.int 16))) (.v 1))]
namespace F
/-- any number below m -/
def _law_take : List D → T R
  | [.pool, .int m] => if 0 < m ∧ m.natAbs < 2 ^ 8000 then .pick (fun i => 0 ≤ i ∧ i < m) fun i => .pure (.ok (.int i)) else .pure .bad
  | _ => .pure .bad
theorem take_eq {m : Int} (h : 0 < m) (hm : m.natAbs < 2 ^ 8000) : _law_take [.pool, .int m] = .pick (fun i => 0 ≤ i ∧ i < m) fun i => .pure (.ok (.int i)) := by
  show (if 0 < m ∧ m.natAbs < 2 ^ 8000 then _ else T.pure R.bad) = _
  rw [if_pos ⟨h, hm⟩]
@[simp] theorem take_lit {m : Int} (h : (decide (0 < m) && decide (m < 18446744073709551616)) = true) : _law_take [.pool, .int m] = .pick (fun i => 0 ≤ i ∧ i < m) fun i => .pure (.ok (.int i)) := by
  rw [Bool.and_eq_true, decide_eq_true_eq, decide_eq_true_eq] at h
  refine take_eq h.1 ?_
  have : (2 : Nat) ^ 64 ≤ 2 ^ 8000 := Nat.pow_le_pow_right (by omega) (by omega)
  omega
end F
theorem fmod_b {a m : Int} (h : 0 < m) : 0 ≤ a.fmod m ∧ a.fmod m < m := by
  have e : a.fmod m = a % m := Int.fmod_eq_emod_of_nonneg a (by omega)
  rw [e]
  exact ⟨Int.emod_nonneg a (by omega), Int.emod_lt_of_pos a h⟩
theorem p_take {c1 c2 n1 n2 : Int} (h1 : small c1) (h2 : small c2) (h3 : small n1) (h4 : small n2) (ds : List D) (P : R → Prop) (hP : ¬ P .bad) (h : (F._law_take ds).all P) : (runF 2 3 (B_take c1 c2 n1 n2) ds).all P := by
  unfold F._law_take at h
  split at h
  · rename_i m
    by_cases c : 0 < m ∧ m.natAbs < 2 ^ 8000
    · rw [if_pos c] at h
      have key : ∀ i : Int, P (.ok (.int (i.fmod m))) := fun i => h _ (fmod_b c.1)
      have dm := fun a : Int => div_small (a := a) c.1 c.2
      have mm := fun a : Int => modI_ok (a := a) (b := m) (by omega)
      unfold B_take
      simp
      intro i hi
      by_cases z : 0 < i
      · simp [z, mm, dm, poolK, setpK]
        intro j hj k hk
        have hk0 : 0 ≤ k.fdiv m := Int.fdiv_nonneg (by unfold okP at hk; simpa using hk) (by omega)
        simp [hk0, key]
      · obtain ⟨l1, l2⟩ := h1
        obtain ⟨l3, l4⟩ := h2
        obtain ⟨l5, l6⟩ := h3
        obtain ⟨l7, l8⟩ := h4
        have m1 := fun a : Int => modI_ok (a := a) (b := n1) (by omega)
        have m2 := fun a : Int => modI_ok (a := a) (b := n2) (by omega)
        have d1 := fun a : Int => div_small (a := a) (b := 16) (by omega) (by have : (2 : Nat) ^ 64 ≤ 2 ^ 8000 := Nat.pow_le_pow_right (by omega) (by omega); omega)
        have u1 := fun a : Int => mul_small (a := a) (b := c1) (by omega)
        simp [z, poolK, setpK, m1, u1]
        intro j hj
        have e := fmod_b (a := j * c1 + c2) (m := n1) (by omega)
        have e2 : (j * c1 + c2).fmod n1 < 9223372036854775808 := by omega
        simp [e.1, e2]
        intro k hk l hl
        have hk' : 0 ≤ k ∧ k < 9223372036854775808 := by unfold okP at hk; simpa using hk
        have u2 := mul_small (a := k) (b := l) (by omega)
        simp [u2, m2, d1, mm, key]
    · rw [if_neg c] at h
      exact absurd h hP
  · exact absurd h hP
/-! ### the pool of the k-th cell -/
def poolS (c1 c2 c3 n1 n2 n3 : Int) : List S := [.ifs (.cmp .Lt uLt (.v 1) (.call "len" (opc lenD) [.v 0])) [.set 2 (.ix ixU (.v 0) (.v 1))] [], .set 3 (.bin .Mod modI (.bin .Mult uMul (.bin .Add uAdd (.bin .Add uAdd (.bin .Mod modI (.v 2) (.c (.int n1))) (.bin .Mult uMul (.bin .Mult uMul (.c (.int c1)) (.v 1)) (.v 1))) (.c (.int c2))) (.c (.int c3))) (.c (.int n2))), .ifs (.cmp .Lt uLt (.v 2) (.bin .Pow powI (.c (.int 10)) (.c (.int 18)))) [.set 2 (.c (.int 0))] [], .ret (.lst [.v 2, .bin .Mod modI (.bin .Mult uMul (.v 3) (.v 3)) (.c (.int n3))])]
def B_poolA (c1 c2 c3 n1 n2 n3 : Int) : List S := .set 2 (.bin .Add uAdd (.bin .Mult uMul (.c (.int 7)) (.call "sum" (opc sumD) [.sl slU (.v 0) (.c .non) (.c (.int 63))])) (.v 1)) :: .frz 2 :: poolS c1 c2 c3 n1 n2 n3
def B_poolB (c1 c2 c3 n1 n2 n3 : Int) : List S := .set 2 (.bin .Add uAdd (.bin .Mult uMul (.c (.int 7)) (.v 1)) (.c (.int 3))) :: .frz 2 :: poolS c1 c2 c3 n1 n2 n3
namespace F
noncomputable def _law_pool : List D → T R := Fn (fun a : List Int × Nat => [.lst (a.1.map .int), .int a.2]) (fun a => a.1.length ≤ 63 ∧ a.2 < 64) fun _ => .pure (.ok .pool)
theorem pool_eq {is : List Int} {k : Nat} (h : is.length ≤ 63) (hk : k < 64) : _law_pool [.lst (is.map .int), .int k] = .pure (.ok .pool) := by
  refine Fn_eq (a := (is, k)) (fun a b h => ?_) ⟨h, hk⟩
  simp only [List.cons.injEq, D.lst.injEq, D.int.injEq, and_true] at h
  have e : ∀ (x y : List Int), x.map D.int = y.map D.int → x = y := fun x y => (List.map_inj_right fun a b h => by cases h; rfl).mp
  exact Prod.ext (e _ _ h.1) (by omega)
end F
theorem intsOf_map : ∀ (is : List Int), intsOf (is.map .int) = some is
  | [] => rfl
  | i :: is => by rw [List.map_cons, intsOf, intsOf_map is]
theorem pow_lit {a b : Int} (h : powB a b = true) : powI (.int a) (.int b) = .ok (.int (a ^ b.toNat)) := by
  rw [powI_int, if_pos h]
theorem p_poolS {c1 c2 c3 n1 n2 n3 : Int} (h1 : small c1) (h2 : small c2) (h3 : small c3) (h4 : small n1) (h5 : small n2) (h6 : small n3) {is : List Int} {k : Nat} (hl : is.length ≤ 63) (hk : k < 64) (P : R → Prop) (h : P (.ok .pool)) (c : Int) :
    (exs (poolS c1 c2 c3 n1 n2 n3) [.val (.lst (is.map .int)), .val (.int k), .val (.int c), .emp]).all fun r => P (sealR r.out) := by
  obtain ⟨l1, l2⟩ := h1
  obtain ⟨l3, l4⟩ := h2
  obtain ⟨l5, l6⟩ := h3
  obtain ⟨l7, l8⟩ := h4
  obtain ⟨l9, l10⟩ := h5
  obtain ⟨l11, l12⟩ := h6
  have u1 := fun a : Int => mul_small (a := c1) (b := a) (by omega)
  have u2 := fun a : Int => mul_small (a := a) (b := k) (by omega)
  have u3 := fun a : Int => mul_small (a := a) (b := c3) (by omega)
  have m1 := fun a : Int => modI_ok (a := a) (b := n1) (by omega)
  have m2 := fun a : Int => modI_ok (a := a) (b := n2) (by omega)
  have m3 := fun a : Int => modI_ok (a := a) (b := n3) (by omega)
  have q := pow_lit (a := 10) (b := 18) (by decide)
  have e18 : (10 : Int) ^ (18 : Int).toNat = 1000000000000000000 := by decide
  rw [e18] at q
  have tail : ∀ c' : Int, (exs (poolS c1 c2 c3 n1 n2 n3).tail [.val (.lst (is.map .int)), .val (.int k), .val (.int c'), .emp]).all fun r => P (sealR r.out) := by
    intro c'
    unfold poolS
    simp [u1, u2, u3, m1, m2, m3, q]
    generalize hg : ((c'.fmod n1 + c1 * k * k + c2) * c3).fmod n2 = g
    have hb := fmod_b (a := (c'.fmod n1 + c1 * k * k + c2) * c3) (m := n2) (by omega)
    rw [hg] at hb
    have u4 := mul_small (a := g) (b := g) (by omega)
    have hb2 := fmod_b (a := g * g) (m := n3) (by omega)
    have hb3 : (g * g).fmod n3 < 9223372036854775808 := by omega
    by_cases z : c' < 1000000000000000000
    · simp [z, u4, m3, sealR, hb2.1, hb3, h]
    · have z' : 0 ≤ c' := by omega
      simp [z, u4, m3, sealR, hb2.1, hb3, h, z']
  unfold poolS at tail ⊢
  rw [exs_cons, ex_ifs]
  by_cases z : k < is.length
  · have e : atD (is.map D.int) (k : Int) = .ok (.int is[k]) := atD_nat (by simp [z])
    simp [z, e] at tail ⊢
    exact tail _
  · simp [z] at tail ⊢
    exact tail _
theorem p_poolA {c1 c2 c3 n1 n2 n3 : Int} (h1 : small c1) (h2 : small c2) (h3 : small c3) (h4 : small n1) (h5 : small n2) (h6 : small n3) : ∀ ds (P : R → Prop), ¬ P .bad → (F._law_pool ds).all P → (sealF (runF 2 4 (B_poolA c1 c2 c3 n1 n2 n3)) ds).all P := Fn_as fun a ⟨hl, hk⟩ P hP h => by
  obtain ⟨is, k⟩ := a
  have h : P (.ok .pool) := h
  dsimp only at hl hk ⊢
  have t := p_poolS h1 h2 h3 h4 h5 h6 hl hk P h
  unfold sealF
  rw [T.all_bind]
  have e : sumD [.lst (cutD (is.map .int) none (some 63))] = .ok (.int is.sum) := by
    have : cutD (is.map D.int) none (some 63) = is.map .int := by
      have e1 : HT.sIx (is.map D.int).length 0 none = 0 := rfl
      have e2 : HT.sIx (is.map D.int).length (is.map D.int).length (some 63) = is.length := by
        unfold HT.sIx
        simp
        omega
      unfold cutD
      rw [e1, e2, List.drop_zero, Nat.sub_zero, ← List.length_map (f := D.int), List.take_length]
    rw [this]
    unfold sumD
    dsimp only
    rw [intsOf_map]
  have u := fun a : Int => mul_small (a := 7) (b := a) (by omega)
  unfold B_poolA
  simp [slD, e, u, frzK, Nv.ownOf]
  have z := t (7 * is.sum + k)
  rw [T.all_bind]
  exact z
theorem p_poolB {c1 c2 c3 n1 n2 n3 : Int} (h1 : small c1) (h2 : small c2) (h3 : small c3) (h4 : small n1) (h5 : small n2) (h6 : small n3) : ∀ ds (P : R → Prop), ¬ P .bad → (F._law_pool ds).all P → (sealF (runF 2 4 (B_poolB c1 c2 c3 n1 n2 n3)) ds).all P := Fn_as fun a ⟨hl, hk⟩ P hP h => by
  obtain ⟨is, k⟩ := a
  have h : P (.ok .pool) := h
  dsimp only at hl hk ⊢
  have t := p_poolS h1 h2 h3 h4 h5 h6 hl hk P h
  unfold sealF
  rw [T.all_bind]
  have u := fun a : Int => mul_small (a := 7) (b := a) (by omega)
  unfold B_poolB
  simp [u, frzK, Nv.ownOf]
  have z := t (7 * k + 3)
  rw [T.all_bind]
  exact z

/-! ### the law's own loop over the cells -/
theorem rngB_nat {n : Nat} (h : n < 1000000) : rngB (n : Int) = true := by
  unfold rngB
  exact @decide_eq_true _ (Classical.propDecidable _) ⟨by omega, by omega⟩
theorem rng1 {n : Nat} (h : n < 1000000) : itRng1 [.int (n : Int)] = some (intsD 0 n) := by
  unfold itRng1
  dsimp only
  rw [if_pos (rngB_nat h), Int.toNat_natCast]
theorem intsD_mem {n : Nat} {d : D} (h : d ∈ intsD 0 n) : ∃ k : Nat, k < n ∧ d = .int k := by
  unfold intsD at h
  obtain ⟨k, hk, rfl⟩ := List.mem_map.mp h
  exact ⟨k, List.mem_range.mp hk, by rw [Int.zero_add]⟩
theorem max_min {n m : Nat} (hm : m < 1000) : maxD [.int 1, .int (if (m : Int) < (n : Int) then (m : Int) else (n : Int))] = .ok (.int ((max 1 (min n m) : Nat) : Int)) := by
  unfold maxD
  dsimp only
  congr 2
  split <;> split <;> omega
def lawE (m : Int) : List E := [.call "max" (opc maxD) [.c (.int 1), .call "min" (opc minD) [.call "len" (opc lenD) [.v 0], .c (.int m)]]]
theorem law_cells {n : Nv} {is : List Int} {m : Nat} (h0 : n[0]? = some (Sl.val (.lst (is.map .int)))) (hm : m < 1000) : evs (lawE m) n = .pure (.ok [.int ((max 1 (min is.length m) : Nat) : Int)] false) := by
  unfold lawE
  have e1 : minD [.int (is.length : Int), .int m] = .ok (.int (if (m : Int) < (is.length : Int) then (m : Int) else (is.length : Int))) := rfl
  simp only [evs_cons, evs_nil, ev_c, ev_call, ev_v, h0, get_val, T.bind_p, argK_ok, consL_ok, Bool.or_false, call_okf, opc_def, lenD_lst, List.length_map, Rop_ok, Rcall_ok, e1, max_min hm]
theorem law_for {n : Nv} {is : List Int} {m i : Nat} {body : List S} {Q : RS → Prop} (h0 : n[0]? = some (Sl.val (.lst (is.map .int)))) (hm : m < 64) (I : Nv → Prop) (start : I n) (step : ∀ (k : Nat) (n : Nv), k < 64 → I n → (exs body (n.set i (.val (.int k)))).all (turnEnd I Q)) (done : ∀ n, I n → Q (.next n)) :
    (ex (.for_ (.nm i) (.cl "range" 1) itRng1 (lawE m) body) n).all Q := by
  rw [ex_for, law_cells h0 (by omega), T.bind_p, vals_ok, rng1 (by omega)]
  refine forL_inv I start (fun d n hd hI => ?_) done
  obtain ⟨k, hk, rfl⟩ := intsD_mem hd
  exact step k n (by omega) hI
theorem run_all {p k : Nat} {body : List S} {ds : List D} {P : R → Prop} (h : ds.length = p) (g : (exs body (startN k ds)).all fun r => P r.out) : (runF p k body ds).all P := by
  unfold runF
  rw [if_pos h, T.all_bind]
  exact g
theorem exs_all {s : S} {ss : List S} {n : Nv} {Q : RS → Prop} (h : (ex s n).all fun r => (RS.seqK (fun n' => exs ss n') r).all Q) : (exs (s :: ss) n).all Q := by
  rw [exs_cons, T.all_bind]
  exact h
theorem exs_next {s : S} {ss : List S} {n n' : Nv} {Q : RS → Prop} (e : ex s n = .pure (.next n')) (h : (exs ss n').all Q) : (exs (s :: ss) n).all Q := by
  rw [exs_cons, e, T.bind_p]
  exact h
theorem exs_mid {s : S} {ss : List S} {n : Nv} {Q : RS → Prop} (P : Nv → Prop) (e : (ex s n).all fun r => ∃ n', P n' ∧ r = .next n') (h : ∀ n', P n' → (exs ss n').all Q) : (exs (s :: ss) n).all Q := by
  rw [exs_cons, T.all_bind]
  refine T.mono (fun r hr => ?_) e
  obtain ⟨n', h1, rfl⟩ := hr
  exact h n' h1
theorem exs_fin {n : Nv} {Q : RS → Prop} (h : Q (.next n)) : (exs [] n).all Q := by
  rw [exs_nil]
  exact h
theorem exs_last {s : S} {n : Nv} {Q : RS → Prop} (h : (ex s n).all Q) : (exs [s] n).all Q := by
  rw [exs_cons, T.all_bind]
  refine T.mono (fun r hr => ?_) h
  cases r with
  | next n => rw [show RS.seqK (fun n' => exs [] n') (.next n) = exs [] n from rfl]; exact exs_fin hr
  | _ => exact hr
/-- a for, then the rest -/
theorem exs_for {tg : Tg} {it : IK} {φ : List D → Option (List D)} {es : List E} {body ss : List S} {n : Nv} {ds items : List D} {Q : RS → Prop} (I : Nv → Prop) (he : evs es n = .pure (.ok ds false)) (hi : φ ds = some items) (start : I n)
    (step : ∀ (d : D) (n : Nv), d ∈ items → I n → (turnS tg (fun n' => exs body n') d n).all fun r => (∃ n', I n' ∧ r = .next n')) (done : ∀ n, I n → (exs ss n).all Q) : (exs (.for_ tg it φ es body :: ss) n).all Q := by
  rw [exs_cons, T.all_bind, ex_for, he, T.bind_p, vals_ok]
  rw [hi]
  refine forL_inv I start (fun d n hd q => T.mono (fun r hr => ?_) (step d n hd q)) (fun n q => done n q)
  obtain ⟨n', h1, rfl⟩ := hr
  exact h1
@[simp] theorem turnS_nm (i : Nat) (b : Nv → T RS) (d : D) (n : Nv) : turnS (.nm i) b d n = b (n.set i (.val d)) := rfl
end PM

set_option Elab.async false
set_option linter.all false
set_option maxRecDepth 100000
set_option exponentiation.threshold 10000
set_option maxHeartbeats 2000000
/-! LF: the laws' own fractions. -/
namespace PM
open PySem PySem.Spec L2
open PyProof.Rows hiding St

theorem gt_0 (y : Int) (h : 0 ≤ y) : uGt (.int y) (.int 0) = .ok (.bl (decide (y ≠ 0))) := by
  rw [show uGt = gtI from rfl, gtI_int]
  congr 2
  exact decide_eq_decide.mpr ⟨fun z => by omega, fun z => by omega⟩
def fu__law_low_0 : Nv → Nat := fu_shared_by_0
namespace F
def _law_low : List D → T R := lowest
theorem low_2 {t b : Int} (h : b ≠ 0) (hb : b.natAbs < 2 ^ 8999) : _law_low [.int t, .int b] = .pure (.ok (encR (Rat.divInt t b))) := lowest_2 h hb
end F
abbrev N__law_low : List Str := ["_law_top", "_law_bottom", "_law_one", "_law_other"]
noncomputable def B__law_low : List S := [.set 2 (.call "abs" (opc absD) [.v 0]), .frz 2, .set 3 (.call "abs" (opc absD) [.v 1]), .frz 3, .whl fu__law_low_0 (.cmp .Gt uGt (.v 3) (.c (.int 0))) [.par 2 3 (.v 3) (.bin .Mod modI (.v 2) (.v 3))], .ifs (.cmp .Lt uLt (.v 1) (.c (.int 0))) [.set 2 (.bin .Sub subI (.c (.int 0)) (.v 2))] [], .ret (.tup [.bin .FloorDiv divI (.v 0) (.v 2), .bin .FloorDiv divI (.v 1) (.v 2)])]
theorem p__law_low (ds : List D) (P : R → Prop) (hP : ¬ P .bad) (h : (F._law_low ds).all P) : (runF 2 4 B__law_low ds).all P := by
  unfold F._law_low F.lowest at h
  split at h
  · rename_i a b
    by_cases c : b ≠ 0 ∧ b.natAbs < 2 ^ 8999
    · rw [if_pos c] at h
      unfold B__law_low
      have hl := gcd_le (t := a) c.1
      have h0 : Int.gcd a b ≠ 0 := fun z => c.1 (Int.gcd_eq_zero_iff.mp z).2
      have e := low_eq (t := a) c.1
      have ha : (0 : Int) ≤ if a < 0 then -a else a := by split <;> omega
      have hb : (0 : Int) ≤ if b < 0 then -b else b := by split <;> omega
      have lp := loop_gcd .Gt uGt gt_0 (.val (.int a)) (.val (.int b)) ((if b < 0 then -b else b).natAbs + 1) _ _ ha hb (by omega)
      rw [gcd_abs2] at lp
      simp [frzK, Nv.ownOf, fu__law_low_0, fu_shared_by_0] at lp ⊢
      simp [lp]
      by_cases n : b < 0
      · rw [if_pos n] at e
        have q := fun x : Int => divI_ok (a := x) (b := 0 - (Int.gcd a b : Int)) (k := 8999) (by omega) (by omega) (by omega)
        simp [n] at q h e ⊢
        simp [q, e]
        exact h
      · rw [if_neg n] at e
        have q := fun x : Int => divI_ok (a := x) (b := (Int.gcd a b : Int)) (k := 8999) (by omega) (by omega) (by omega)
        simp [n] at q h e ⊢
        simp [q, e]
        exact h
    · rw [if_neg c] at h
      exact absurd h hP
  · exact absurd h hP
theorem llow_R {p q : Rat} (hp : sz 4000 p) (hq : sz 4000 q) (t : Int) : F._law_low [.int t, .int (p.den * q.den)] = .pure (.ok (encR (Rat.divInt t (p.den * q.den)))) := low_R hp hq t
namespace F
noncomputable abbrev _law_plus : List D → T R := plus
noncomputable abbrev _law_times : List D → T R := times
def _law_whole : List D → T R := is_whole
def _law_same : List D → T R
  | [.bl a, .bl b] => .pure (.ok (.bl (decide (a = b))))
  | _ => .pure .bad
@[simp] theorem same_2 (a b : Bool) : _law_same [.bl a, .bl b] = .pure (.ok (.bl (decide (a = b)))) := rfl
@[simp] theorem _law_whole_1 (d : D) : _law_whole [d] = .pure (if kd d = true then .ok (.bl (isW d)) else .bad) := rfl
variable {p q : Rat}
theorem lplus_eq (hp : sz 4000 p) (hq : sz 4000 q) : _law_plus [encR p, encR q] = .pure (.ok (encR (p + q))) := plus_eq hp hq
theorem ltimes_eq (hp : sz 4000 p) (hq : sz 4000 q) : _law_times [encR p, encR q] = .pure (.ok (encR (p * q))) := times_eq hp hq
end F
abbrev N__law_plus : List Str := ["_law_one", "_law_other"]
noncomputable def B__law_plus : List S := [.ret (.call "_law_low" F._law_low [.bin .Add uAdd (.bin .Mult uMul (.ix ixU (.v 0) (.c (.int 0))) (.ix ixU (.v 1) (.c (.int 1)))) (.bin .Mult uMul (.ix ixU (.v 1) (.c (.int 0))) (.ix ixU (.v 0) (.c (.int 1)))), .bin .Mult uMul (.ix ixU (.v 0) (.c (.int 1))) (.ix ixU (.v 1) (.c (.int 1)))])]
abbrev N__law_times : List Str := ["_law_one", "_law_other"]
noncomputable def B__law_times : List S := [.ret (.call "_law_low" F._law_low [.bin .Mult uMul (.ix ixU (.v 0) (.c (.int 0))) (.ix ixU (.v 1) (.c (.int 0))), .bin .Mult uMul (.ix ixU (.v 0) (.c (.int 1))) (.ix ixU (.v 1) (.c (.int 1)))])]
abbrev N__law_whole : List Str := ["_law_thing"]
noncomputable def B__law_whole : List S := [.ret (.and (.isi (isiB ["int"]) (.v 0) ["int"] false) (.not (.isi (isiB ["bool"]) (.v 0) ["bool"] false)))]
abbrev N__law_same : List Str := ["_law_found", "_law_due"]
noncomputable def B__law_same : List S := [.ret (.and (.isi (isiB ["bool"]) (.v 0) ["bool"] false) (.cmp .Eq eqD (.v 0) (.v 1)))]
theorem p__law_plus : ∀ ds (P : R → Prop), ¬ P .bad → (F._law_plus ds).all P → (runF 2 2 B__law_plus ds).all P := Fn_as fun a ⟨hp, hq⟩ P hP h => by
  obtain ⟨p, q⟩ := a
  dsimp only at hp hq h ⊢
  have h : P (.ok (encR (p + q))) := h
  obtain ⟨m1, m2, m3, m4, m5⟩ := mul_R hp hq
  have l := llow_R hp hq
  unfold B__law_plus
  rw [add_eq] at h
  simp [m1, m2, m3, l]
  exact h
theorem p__law_times : ∀ ds (P : R → Prop), ¬ P .bad → (F._law_times ds).all P → (runF 2 2 B__law_times ds).all P := Fn_as fun a ⟨hp, hq⟩ P hP h => by
  obtain ⟨p, q⟩ := a
  dsimp only at hp hq h ⊢
  have h : P (.ok (encR (p * q))) := h
  obtain ⟨m1, m2, m3, m4, m5⟩ := mul_R hp hq
  have l := llow_R hp hq
  unfold B__law_times
  rw [mul_eq] at h
  simp [m3, m4, l]
  exact h
theorem p__law_whole (ds : List D) (P : R → Prop) (hP : ¬ P .bad) (h : (F._law_whole ds).all P) : (runF 1 1 B__law_whole ds).all P := p_is_whole ds P hP h
theorem p__law_same (ds : List D) (P : R → Prop) (hP : ¬ P .bad) (h : (F._law_same ds).all P) : (runF 2 2 B__law_same ds).all P := by
  unfold F._law_same at h
  split at h
  · rename_i a b
    unfold B__law_same
    simp [isBl]
    exact h
  · exact absurd h hP
def fbnd : D → Bool
  | .tup [_, .int b] => decide (b.natAbs < 2 ^ 8999)
  | _ => true
namespace F
def _law_fraction : List D → T R
  | [d] => .pure (if (kd2 d && fbnd d) = true then .ok (.bl (isFr d)) else .bad)
  | _ => .pure .bad
theorem lfrac_1 {d : D} (h : (kd2 d && fbnd d) = true) : _law_fraction [d] = .pure (.ok (.bl (isFr d))) := by
  show T.pure (if _ then _ else _) = _
  rw [if_pos h]
end F
abbrev N__law_fraction : List Str := ["_law_thing"]
noncomputable def B__law_fraction : List S := [.ifs (.or (.not (.isi (isiB ["tuple"]) (.v 0) ["tuple"] false)) (.or (.cmp .NotEq neD (.call "len" (opc lenD) [.v 0]) (.c (.int 2))) (.or (.not (.call "_law_whole" F._law_whole [.ix ixU (.v 0) (.c (.int 0))])) (.not (.call "_law_whole" F._law_whole [.ix ixU (.v 0) (.c (.int 1))]))))) [.ret (.c (.bl false))] [], .ret (.and (.cmp .Gt uGt (.ix ixU (.v 0) (.c (.int 1))) (.c (.int 0))) (.cmp .Eq eqD (.call "_law_low" F._law_low [.ix ixU (.v 0) (.c (.int 0)), .ix ixU (.v 0) (.c (.int 1))]) (.v 0)))]
open Classical in
theorem low_self {a b : Int} (h : 0 < b) : eqD (encR (Rat.divInt a b)) (.tup [.int a, .int b]) = .ok (.bl (decide (Int.gcd a b = 1))) := by
  rw [eqD_pl rfl rfl, er_R, show er (.tup [.int a, .int b]) = .tup [.int a, .int b] from rfl]
  congr 2
  apply decide_eq_decide.mpr
  unfold encR
  simp only [D.tup.injEq, List.cons.injEq, D.int.injEq, and_true]
  have hb : b ≠ 0 := by omega
  rw [Rat.num_divInt, Rat.den_divInt, if_neg hb, Int.sign_eq_one_of_pos h, Int.one_mul, Int.gcd_comm b a]
  have g0 : Int.gcd a b ≠ 0 := fun z => hb (Int.gcd_eq_zero_iff.mp z).2
  constructor
  · rintro ⟨_, h2⟩
    have hd : Int.gcd a b ∣ b.natAbs := Nat.gcd_dvd_right _ _
    obtain ⟨m, hm⟩ := hd
    rw [hm, Nat.mul_div_cancel_left _ (by omega)] at h2
    have e : (b.natAbs : Int) = b := by omega
    rw [hm] at e
    have : Int.gcd a b * m = m := by omega
    have m0 : 0 < m := by
      rcases Nat.eq_zero_or_pos m with z | z
      · subst z; simp at e; omega
      · exact z
    exact Nat.eq_of_mul_eq_mul_right m0 (by omega)
  · intro g
    rw [g]
    simp
    omega
theorem p__law_fraction (ds : List D) (P : R → Prop) (hP : ¬ P .bad) (h : (F._law_fraction ds).all P) : (runF 1 1 B__law_fraction ds).all P := by
  unfold F._law_fraction at h
  split at h
  · rename_i d
    unfold B__law_fraction
    by_cases cc : (kd2 d && fbnd d) = true
    · rw [if_pos cc] at h
      rw [Bool.and_eq_true] at cc
      obtain ⟨c, bn⟩ := cc
      unfold kd2 at c
      rw [Bool.and_eq_true] at c
      cases q : isTp d with
      | false =>
        rw [isFr_nt q] at h
        simp [c.1, q]
        exact h
      | true =>
        cases d with
        | tup ds =>
          by_cases hl : ds.length = 2
          · match ds, hl with
            | [a, b], _ =>
              have c2 := c.2
              simp at c2
              cases q2 : isW a && isW b with
              | false =>
                rw [isFr_nw q2] at h
                rw [Bool.and_eq_false_iff] at q2
                rcases q2 with q2 | q2
                · simp [q, q2, c2, atD_0, atD_1]
                  exact h
                · cases q3 : isW a
                  · simp [q, q2, q3, c2, atD_0, atD_1]
                    exact h
                  · simp [q, q2, q3, c2, atD_0, atD_1]
                    exact h
              | true =>
                cases a with
                | int a =>
                  cases b with
                  | int b =>
                    have bn : b.natAbs < 2 ^ 8999 := of_decide_eq_true bn
                    by_cases h0 : 0 < b
                    · have l := F.low_2 (t := a) (b := b) (by omega) bn
                      simp [q, isW, atD_0, atD_1, h0, l, low_self h0]
                      simp [isFr, h0] at h
                      exact h
                    · simp [q, isW, atD_0, atD_1, h0]
                      simp [isFr, h0] at h
                      exact h
                  | _ => simp [isW] at q2
                | _ => simp [isW] at q2
          · rw [isFr_nl hl] at h
            have : ((ds.length : Int) = 2) = False := by
              apply propext
              constructor
              · intro z; omega
              · intro z; exact z.elim
            simp [q, this]
            exact h
        | pw _ => cases c.2
        | _ => cases q
    · rw [if_neg cc] at h
      exact absurd h hP
  · exact absurd h hP
theorem kd2_R (q : Rat) : kd2 (encR q) = true := rfl
theorem isFr_R (q : Rat) : isFr (encR q) = true := by
  unfold encR isFr
  have h1 : (0 : Int) < (q.den : Int) := sz_pos (k := 0)
  have h2 : Int.gcd q.num q.den = 1 := by
    have := q.reduced
    exact this
  simp [h2]
  exact q.den_pos
theorem fbnd_R {q : Rat} (h : sz 4000 q) : fbnd (encR q) = true := by
  unfold encR fbnd
  have := Nat.lt_of_lt_of_le h.2 (Nat.pow_le_pow_right (n := 2) (by omega) (show 4000 ≤ 8999 by omega))
  exact decide_eq_true this
theorem F.lfrac_R {q : Rat} (h : sz 4000 q) : F._law_fraction [encR q] = .pure (.ok (.bl true)) := by
  rw [F.lfrac_1 (by rw [kd2_R, fbnd_R h]; rfl), isFr_R]
end PM

set_option Elab.async false
set_option linter.all false
set_option maxRecDepth 100000
set_option exponentiation.threshold 10000
set_option maxHeartbeats 2000000
/-! PT: polynomials, plainly: terms, dicts of them, their sorted lists; sizes. -/
namespace PM
open PySem PySem.Spec L2
open PyProof.Rows hiding St

abbrev Tm := List Int × Rat
def encT (t : Tm) : D := .tup [.pw t.1, encR t.2]
def encP (p : List Tm) : D := .lst (p.map encT)
theorem encT_inj {a b : Tm} (h : encT a = encT b) : a = b := by
  unfold encT at h
  simp only [D.tup.injEq, List.cons.injEq, D.pw.injEq, and_true] at h
  exact Prod.ext h.1 (encR_inj h.2)
theorem encP_inj {a b : List Tm} (h : encP a = encP b) : a = b := by
  unfold encP at h
  simp only [D.lst.injEq] at h
  exact (List.map_inj_right fun _ _ => encT_inj).mp h
theorem ints_inj {a b : List Int} (h : a.map D.int = b.map D.int) : a = b := (List.map_inj_right fun x y z => by cases z; rfl).mp h
theorem er_T (t : Tm) : er (encT t) = .tup [.tup (t.1.map .int), encR t.2] := by
  unfold encT
  rw [er, erL, erL, erL, er]
  rfl
theorem er_P (p : List Tm) : er (encP p) = .lst (p.map fun t => .tup [.tup (t.1.map .int), encR t.2]) := by
  unfold encP
  rw [er, erL_map, List.map_map]
  rfl
theorem erP_inj {a b : List Tm} (h : er (encP a) = er (encP b)) : a = b := by
  rw [er_P, er_P] at h
  simp only [D.lst.injEq] at h
  refine (List.map_inj_right fun x y z => ?_).mp h
  simp only [D.tup.injEq, List.cons.injEq, and_true] at z
  exact Prod.ext (ints_inj z.1) (encR_inj z.2)
theorem pl0_all {k : Nat} : ∀ {ds : List D}, (∀ d ∈ ds, pl0 k d = true) → plL0 k ds = true
  | [], _ => by rw [plL0]
  | d :: ds, h => by
    rw [plL0, h d List.mem_cons_self, pl0_all fun e he => h e (List.mem_cons_of_mem _ he)]
    rfl
theorem pl0_ints (k : Nat) (is : List Int) : pl0 (k + 1) (.tup (is.map .int)) = true := by
  rw [pl0]
  exact pl0_all fun d hd => by
    obtain ⟨i, _, rfl⟩ := List.mem_map.mp hd
    rw [pl0]
theorem pl_P (k : Nat) (p : List Tm) : pl (k + 4) (encP p) = true := by
  unfold pl
  rw [er_P, pl0]
  refine pl0_all fun d hd => ?_
  obtain ⟨t, _, rfl⟩ := List.mem_map.mp hd
  rw [pl0]
  refine pl0_all fun e he => ?_
  rcases List.mem_cons.mp he with rfl | he
  · exact pl0_ints _ _
  · rw [List.mem_singleton.mp he]
    rfl
open Classical in
@[simp] theorem eqD_P (p q : List Tm) : eqD (encP p) (encP q) = .ok (.bl (decide (p = q))) := by
  rw [eqD_pl (pl_P 56 p) (pl_P 56 q)]
  congr 2
  exact decide_eq_decide.mpr ⟨erP_inj, fun h => by rw [h]⟩
open Classical in
@[simp] theorem neD_P (p q : List Tm) : neD (encP p) (encP q) = .ok (.bl (!decide (p = q))) := by
  rw [neD_pl (pl_P 56 p) (pl_P 56 q)]
  congr 3
  exact decide_eq_decide.mpr ⟨erP_inj, fun h => by rw [h]⟩
open Classical in
theorem neD_PP (p q r s : List Tm) : neD (.lst [encP p, encP q]) (.lst [encP r, encP s]) = .ok (.bl (!decide (p = r ∧ q = s))) := by
  have h : ∀ a b : List Tm, pl 60 (.lst [encP a, encP b]) = true := fun a b => by
    have h1 := pl_P 55 a
    have h2 := pl_P 55 b
    unfold pl at h1 h2 ⊢
    rw [er, erL, erL, erL, pl0, plL0, plL0, plL0, h1, h2]
    rfl
  rw [neD_pl (h p q) (h r s)]
  congr 3
  refine decide_eq_decide.mpr ⟨fun z => ?_, fun ⟨a, b⟩ => by rw [a, b]⟩
  rw [er, er, erL, erL, erL, erL, erL, erL] at z
  simp only [D.lst.injEq, List.cons.injEq, and_true] at z
  exact ⟨erP_inj z.1, erP_inj z.2⟩
theorem flat_P (p : List Tm) : flatL (p.map encT) = true := by
  induction p with
  | nil => rfl
  | cons t p ih =>
    rw [List.map_cons, flatL, ih]
    rfl

/-! ### dicts -/
abbrev Dm := List Tm
def encM (m : Dm) : D := .dT (m.map fun t => keyW t.1) (m.map fun t => encR t.2)
def look (m : Dm) (k : List Int) : Option Rat := match m with
  | [] => none
  | t :: m => if t.1 = k then some t.2 else look m k
theorem val_look (m : Dm) (k : List Int) : valD (m.map fun t => keyW t.1) (m.map fun t => encR t.2) (keyW k) = (look m k).map encR := by
  induction m with
  | nil => rfl
  | cons t m ih =>
    show _ = (if t.1 = k then some t.2 else look m k).map encR
    unfold valD at *
    rw [List.map_cons, List.map_cons, List.zip_cons_cons, List.find?_cons]
    by_cases c : t.1 = k
    · simp [c]
    · have : ¬ keyW t.1 = keyW k := fun z => c (keyW_inj z)
      simp only [this, decide_false, c, if_false]
      exact ih
/-- put -/
def put (m : Dm) (k : List Int) (v : Rat) : Dm := match m with
  | [] => [(k, v)]
  | t :: m => if t.1 = k then (t.1, v) :: m else t :: put m k v
theorem keys_put (m : Dm) (k : List Int) (v : Rat) : (put m k v).map (·.1) = if k ∈ m.map (·.1) then m.map (·.1) else m.map (·.1) ++ [k] := by
  induction m with
  | nil => rfl
  | cons t m ih =>
    unfold put
    by_cases c : t.1 = k
    · simp [c]
    · have c' : ¬ k = t.1 := fun z => c z.symm
      rw [if_neg c, List.map_cons, List.map_cons, ih]
      simp only [List.mem_cons, c', false_or]
      split <;> rfl
theorem nodup_put {m : Dm} {k : List Int} {v : Rat} (h : (m.map (·.1)).Nodup) : ((put m k v).map (·.1)).Nodup := by
  rw [keys_put]
  split
  · exact h
  · rename_i c
    rw [List.nodup_append]
    exact ⟨h, by simp, fun a ha b hb => by rw [List.mem_singleton.mp hb]; exact fun z => c (z ▸ ha)⟩
theorem put_zip {k : List Int} {v : Rat} : ∀ {m : Dm}, (m.map (·.1)).Nodup → k ∈ m.map (·.1) → List.zipWith (fun k' v' => if k' = keyW k then encR v else v') (m.map fun t => keyW t.1) (m.map fun t => encR t.2) = (put m k v).map fun t => encR t.2
  | [], _, h => by cases h
  | t :: m, hn, h => by
    rw [List.map_cons, List.nodup_cons] at hn
    unfold put
    rw [List.map_cons, List.map_cons, List.zipWith_cons_cons]
    by_cases c : t.1 = k
    · rw [if_pos (by rw [c]), if_pos c, List.map_cons]
      congr 1
      have nm : ∀ (l : Dm), k ∉ l.map (·.1) → List.zipWith (fun k' v' => if k' = keyW k then encR v else v') (l.map fun t => keyW t.1) (l.map fun t => encR t.2) = l.map fun t => encR t.2 := by
        intro l
        induction l with
        | nil => intro _; rfl
        | cons s l ih =>
          intro hs
          rw [List.map_cons, List.mem_cons, not_or] at hs
          rw [List.map_cons, List.map_cons, List.zipWith_cons_cons, if_neg (fun z => hs.1 (keyW_inj z).symm), ih hs.2]
      exact nm m (by rw [← c]; exact hn.1)
    · rw [if_neg (fun z => c (keyW_inj z)), if_neg c, List.map_cons]
      have h' : k ∈ m.map (·.1) := by
        rw [List.map_cons, List.mem_cons] at h
        exact h.resolve_left fun z => c z.symm
      rw [put_zip hn.2 h']
theorem putD_put {m : Dm} {k : List Int} {v : Rat} (h : (m.map (·.1)).Nodup) : putD (m.map fun t => keyW t.1) (m.map fun t => encR t.2) (keyW k) (encR v) = ((put m k v).map fun t => keyW t.1, (put m k v).map fun t => encR t.2) := by
  unfold putD
  have e1 : (m.map fun t => keyW t.1) = (m.map (·.1)).map keyW := by rw [List.map_map]; rfl
  have e2 : ((put m k v).map fun t => keyW t.1) = ((put m k v).map (·.1)).map keyW := by rw [List.map_map]; rfl
  have mem : keyW k ∈ (m.map fun t => keyW t.1) ↔ k ∈ m.map (·.1) := by
    rw [e1]
    constructor
    · intro z
      obtain ⟨j, hj, e⟩ := List.mem_map.mp z
      rw [← keyW_inj e]; exact hj
    · exact fun z => List.mem_map.mpr ⟨k, z, rfl⟩
  by_cases c : k ∈ m.map (·.1)
  · rw [if_pos (mem.mpr c), put_zip h c, e2, keys_put, if_pos c, ← e1]
  · rw [if_neg (fun z => c (mem.mp z)), e2, keys_put, if_neg c, List.map_append, ← e1]
    congr 1
    have : ∀ (l : Dm), k ∉ l.map (·.1) → put l k v = l ++ [(k, v)] := by
      intro l
      induction l with
      | nil => intro _; rfl
      | cons s l ih =>
        intro hs
        rw [List.map_cons, List.mem_cons, not_or] at hs
        unfold put
        rw [if_neg (fun z => hs.1 z.symm), ih hs.2]
        rfl
    rw [this m c, List.map_append]
    rfl
theorem look_mem {m : Dm} {k : List Int} : (look m k).isSome = true ↔ k ∈ m.map (·.1) := by
  induction m with
  | nil => simp [look]
  | cons t m ih =>
    unfold look
    by_cases c : t.1 = k
    · simp [c]
    · have c' : ¬ k = t.1 := fun z => c z.symm
      rw [if_neg c, ih, List.map_cons, List.mem_cons]
      simp [c']
/-- one term more -/
def addM (m : Dm) (t : Tm) : Dm := put m t.1 ((look m t.1).getD 0 + t.2)
def accM (ts : List Tm) : Dm := ts.foldl addM []
theorem foldl_nodup : ∀ {ts : List Tm} {m : Dm}, (m.map (·.1)).Nodup → ((ts.foldl addM m).map (·.1)).Nodup
  | [], m, h => h
  | t :: ts, m, h => foldl_nodup (ts := ts) (nodup_put h)
theorem accM_nodup (ts : List Tm) : ((accM ts).map (·.1)).Nodup := foldl_nodup (m := []) List.nodup_nil
theorem put_len (m : Dm) (k : List Int) (v : Rat) : (put m k v).length ≤ m.length + 1 := by
  have := congrArg List.length (keys_put m k v)
  rw [List.length_map] at this
  split at this <;> simp at this <;> omega
theorem foldl_len : ∀ (ts : List Tm) (m : Dm), (ts.foldl addM m).length ≤ m.length + ts.length
  | [], m => by simp
  | t :: ts, m => by
    have h1 := foldl_len ts (addM m t)
    have h2 := put_len m t.1 ((look m t.1).getD 0 + t.2)
    rw [List.foldl_cons, List.length_cons]
    unfold addM at h1 ⊢
    omega
theorem put_mem {m : Dm} {k : List Int} {v : Rat} {s : Tm} (h : s ∈ put m k v) : s = (k, v) ∨ s ∈ m := by
  induction m with
  | nil => exact .inl (List.mem_singleton.mp h)
  | cons t m ih =>
    unfold put at h
    by_cases c : t.1 = k
    · rw [if_pos c] at h
      rcases List.mem_cons.mp h with z | z
      · exact .inl (by rw [z, c])
      · exact .inr (List.mem_cons_of_mem _ z)
    · rw [if_neg c] at h
      rcases List.mem_cons.mp h with z | z
      · exact .inr (by rw [z]; exact List.mem_cons_self)
      · rcases ih z with y | y
        · exact .inl y
        · exact .inr (List.mem_cons_of_mem _ y)
/-- powers of n unknowns, none below 0 -/
def TOk (n : Nat) (ts : List Tm) : Prop := ∀ t ∈ ts, t.1.length = n ∧ ∀ i ∈ t.1, 0 ≤ i
theorem TOk.add {n : Nat} {m : Dm} {t : Tm} (h : TOk n m) (ht : t.1.length = n ∧ ∀ i ∈ t.1, 0 ≤ i) : TOk n (addM m t) := fun s hs => by
  rcases put_mem hs with z | z
  · rw [z]; exact ht
  · exact h s z
theorem TOk.foldl {n : Nat} : ∀ {ts : List Tm} {m : Dm}, TOk n m → TOk n ts → TOk n (ts.foldl addM m)
  | [], m, h, _ => h
  | t :: ts, m, h, ht => TOk.foldl (ts := ts) (h.add (ht t List.mem_cons_self)) fun s hs => ht s (List.mem_cons_of_mem _ hs)
theorem TOk.acc {n : Nat} {ts : List Tm} (h : TOk n ts) : TOk n (accM ts) := TOk.foldl (m := []) (fun _ z => by cases z) h
theorem pwOk_of {n : Nat} {m : Dm} (hn : 1 ≤ n) (h : TOk n m) (hd : (m.map (·.1)).Nodup) (hl : m.length < 1000000) : PwOk (m.map (·.1)) := by
  refine ⟨by rw [List.length_map]; exact hl, hd, n, hn, fun is his => ?_⟩
  obtain ⟨t, ht, rfl⟩ := List.mem_map.mp his
  exact h t ht
/-- the sorted list without noughts -/
noncomputable def outM (m : Dm) : List Tm := (sortW (m.map (·.1))).filterMap fun k => if (look m k).getD 0 = 0 then none else some (k, (look m k).getD 0)
noncomputable def norm (ts : List Tm) : List Tm := outM (accM ts)

/-! ### a row of distinct powers of one length can be sorted -/
theorem lex_trans : ∀ (a b c : List Int), HT.lexLt a b = true → HT.lexLt b c = true → HT.lexLt a c = true
  | [], [], _, h, _ => by cases h
  | [], _ :: _, [], _, h => by cases h
  | [], _ :: _, _ :: _, _, _ => rfl
  | _ :: _, [], _, h, _ => by cases h
  | _ :: _, _ :: _, [], _, h => by cases h
  | x :: a, y :: b, z :: c, h, g => by
    rw [HT.lexLt_cons] at h g ⊢
    by_cases e1 : x = y
    · subst e1
      rw [if_pos rfl] at h
      by_cases e2 : x = z
      · subst e2
        rw [if_pos rfl] at g ⊢
        exact lex_trans a b c h g
      · rw [if_neg e2] at g ⊢
        exact g
    · rw [if_neg e1] at h
      by_cases e2 : y = z
      · subst e2
        rw [if_neg e1]
        exact h
      · rw [if_neg e2] at g
        simp at h g
        rw [if_neg (by omega)]
        simp
        omega
def insW (a : List Int) : List (List Int) → List (List Int)
  | [] => [a]
  | b :: l => if HT.lexLt a b = true then a :: b :: l else b :: insW a l
theorem insW_perm (a : List Int) : ∀ (l : List (List Int)), (insW a l).Perm (a :: l)
  | [] => List.Perm.refl _
  | b :: l => by
    unfold insW
    split
    · exact List.Perm.refl _
    · exact ((insW_perm a l).cons b).trans (List.Perm.swap a b l)
theorem insW_rise {a : List Int} {n : Nat} : ∀ {l : List (List Int)}, Rising l → (∀ b ∈ l, b.length = n ∧ a ≠ b) → a.length = n → Rising (insW a l)
  | [], _, _, _ => List.pairwise_singleton _ _
  | b :: l, h, hb, ha => by
    unfold Rising at h ⊢
    rw [List.pairwise_cons] at h
    unfold insW
    split
    · rename_i c
      refine List.pairwise_cons.mpr ⟨fun x hx => ?_, List.pairwise_cons.mpr h⟩
      rcases List.mem_cons.mp hx with z | z
      · rw [z]; exact c
      · exact lex_trans _ _ _ c (h.1 x z)
    · rename_i c
      refine List.pairwise_cons.mpr ⟨fun x hx => ?_, insW_rise h.2 (fun y hy => hb y (List.mem_cons_of_mem _ hy)) ha⟩
      rcases List.mem_cons.mp ((insW_perm a l).mem_iff.mp hx) with z | z
      · rw [z]
        have hb0 := hb b List.mem_cons_self
        exact lex_tri a b (ha.trans hb0.1.symm) hb0.2 (by simpa using c)
      · exact h.1 x z
theorem sort_ex {n : Nat} : ∀ (l : List (List Int)), l.Nodup → (∀ b ∈ l, b.length = n) → ∃ r, r.Perm l ∧ Rising r
  | [], _, _ => ⟨[], List.Perm.refl _, List.Pairwise.nil⟩
  | a :: l, hn, hl => by
    rw [List.nodup_cons] at hn
    obtain ⟨r, p, h⟩ := sort_ex l hn.2 fun b hb => hl b (List.mem_cons_of_mem _ hb)
    refine ⟨insW a r, (insW_perm a r).trans (p.cons a), insW_rise h (fun b hb => ?_) (hl a List.mem_cons_self)⟩
    have hm := p.mem_iff.mp hb
    exact ⟨hl b (List.mem_cons_of_mem _ hm), fun z => hn.1 (z ▸ hm)⟩
theorem sortW_spec {n : Nat} {l : List (List Int)} (h : l.Nodup) (hl : ∀ b ∈ l, b.length = n) : (sortW l).Perm l ∧ Rising (sortW l) := by
  obtain ⟨r, p, h⟩ := sort_ex l h hl
  rw [sortW_eq p h]
  exact ⟨p, h⟩

/-! ### lists in their form -/
structure Can (n : Nat) (p : List Tm) : Prop where
  ok : TOk n p
  rise : Rising (p.map (·.1))
  nz : ∀ t ∈ p, t.2 ≠ 0
theorem rise_nodup {l : List (List Int)} (h : Rising l) : l.Nodup := by
  unfold Rising at h
  refine List.Pairwise.imp (fun {a b} q z => ?_) h
  rw [z, lex_irr] at q
  cases q
theorem look_none {m : Dm} {k : List Int} (h : k ∉ m.map (·.1)) : look m k = none := by
  cases e : look m k with
  | none => rfl
  | some v => exact absurd (look_mem.mp (by rw [e]; rfl)) h
theorem look_some {m : Dm} {t : Tm} (hn : (m.map (·.1)).Nodup) (h : t ∈ m) : look m t.1 = some t.2 := by
  induction m with
  | nil => cases h
  | cons s m ih =>
    rw [List.map_cons, List.nodup_cons] at hn
    show (if s.1 = t.1 then some s.2 else look m t.1) = _
    rcases List.mem_cons.mp h with z | z
    · rw [z, if_pos rfl]
    · rw [if_neg (fun y => hn.1 (by rw [y]; exact List.mem_map.mpr ⟨t, z, rfl⟩)), ih hn.2 z]
theorem put_new {m : Dm} {k : List Int} {v : Rat} (h : k ∉ m.map (·.1)) : put m k v = m ++ [(k, v)] := by
  induction m with
  | nil => rfl
  | cons s l ih =>
    rw [List.map_cons, List.mem_cons, not_or] at h
    unfold put
    rw [if_neg (fun z => h.1 z.symm), ih h.2]
    rfl
theorem foldl_new : ∀ (ts : List Tm) (m : Dm), ((m ++ ts).map (·.1)).Nodup → ts.foldl addM m = m ++ ts
  | [], m, _ => by simp
  | t :: ts, m, h => by
    have hn : t.1 ∉ m.map (·.1) := fun z => by
      rw [List.map_append, List.nodup_append] at h
      exact h.2.2 t.1 z t.1 (by simp) rfl
    have e : addM m t = m ++ [t] := by
      unfold addM
      rw [look_none hn, put_new hn]
      show m ++ [(t.1, 0 + t.2)] = _
      rw [Rat.zero_add]
    rw [List.foldl_cons, e, foldl_new ts (m ++ [t]) (by simpa using h)]
    simp
theorem fm_id {f : Tm → Option Tm} : ∀ {p : List Tm}, (∀ t ∈ p, f t = some t) → p.filterMap f = p
  | [], _ => rfl
  | t :: p, h => by
    rw [List.filterMap_cons, h t List.mem_cons_self]
    dsimp only
    rw [fm_id fun s hs => h s (List.mem_cons_of_mem _ hs)]
theorem norm_can {n : Nat} {p : List Tm} (h : Can n p) : norm p = p := by
  have nd := rise_nodup h.rise
  have e : accM p = p := by
    have := foldl_new p [] (by simpa using nd)
    simpa [accM] using this
  unfold norm outM
  rw [e, sortW_eq (List.Perm.refl _) h.rise, List.filterMap_map]
  have : ∀ t ∈ p, ((fun k => if (look p k).getD 0 = 0 then none else some (k, (look p k).getD 0)) ∘ fun x => x.1) t = some t := fun t ht => by
    show (if (look p t.1).getD 0 = 0 then none else some (t.1, (look p t.1).getD 0)) = _
    rw [look_some nd ht]
    exact if_neg (h.nz t ht)
  exact fm_id this
theorem can_norm {n : Nat} {ts : List Tm} (h : TOk n ts) : Can n (norm ts) := by
  have nd := accM_nodup ts
  have hl : ∀ b ∈ (accM ts).map (·.1), b.length = n := fun b hb => by
    obtain ⟨t, ht, rfl⟩ := List.mem_map.mp hb
    exact (h.acc t ht).1
  obtain ⟨p, r⟩ := sortW_spec nd hl
  have mem : ∀ t ∈ norm ts, t.1 ∈ sortW ((accM ts).map (·.1)) ∧ t.2 ≠ 0 := fun t ht => by
    unfold norm outM at ht
    obtain ⟨k, hk, e⟩ := List.mem_filterMap.mp ht
    split at e
    · cases e
    · rename_i nz
      cases e
      exact ⟨hk, nz⟩
  refine ⟨fun t ht => ?_, ?_, fun t ht => (mem t ht).2⟩
  · obtain ⟨s, hs, e⟩ := List.mem_map.mp (p.mem_iff.mp (mem t ht).1)
    rw [← e]; exact h.acc s hs
  · unfold norm outM Rising
    rw [List.map_filterMap]
    refine List.Pairwise.filterMap _ (fun a a' hlt b hb b' hb' => ?_) r
    simp only [Option.map_eq_some_iff] at hb hb'
    obtain ⟨x, hx, rfl⟩ := hb
    obtain ⟨y, hy, rfl⟩ := hb'
    split at hx <;> cases hx
    split at hy <;> cases hy
    exact hlt
theorem can_scale {n : Nat} {p : List Tm} {c : Rat} (h : Can n p) (hc : c ≠ 0) : Can n (p.map fun t => (t.1, c * t.2)) := by
  refine ⟨fun t ht => ?_, ?_, fun t ht => ?_⟩
  · obtain ⟨s, hs, rfl⟩ := List.mem_map.mp ht
    exact h.ok s hs
  · rw [List.map_map]
    exact h.rise
  · obtain ⟨s, hs, rfl⟩ := List.mem_map.mp ht
    exact fun z => (Rat.mul_eq_zero.mp z).elim hc (h.nz s hs)
theorem can_nil {n : Nat} : Can n [] := by
  constructor
  · intro t h; cases h
  · exact List.Pairwise.nil
  · intro t h; cases h

/-! ### sizes, all of a list together -/
def lg (q : Rat) : Nat := max (q.num.natAbs.log2) (q.den.log2) + 1
theorem sz_lg (q : Rat) : sz (lg q) q := by
  have h : ∀ a m : Nat, a.log2 ≤ m → a < 2 ^ (m + 1) := fun a m hm => by
    by_cases z : a = 0
    · subst z; exact Nat.pow_pos (by omega)
    · exact (Nat.log2_lt z).mp (by omega)
  unfold lg
  exact ⟨h _ _ (by omega), h _ _ (by omega)⟩
theorem lg_le {k : Nat} {q : Rat} (h : sz k q) : lg q ≤ k := by
  have hd : q.den ≠ 0 := q.den_nz
  have h1 : q.den.log2 < k := (Nat.log2_lt hd).mpr h.2
  have h2 : q.num.natAbs.log2 < k := by
    by_cases z : q.num.natAbs = 0
    · rw [z]
      have : (0 : Nat).log2 = 0 := by decide
      omega
    · exact (Nat.log2_lt z).mpr h.1
  unfold lg
  omega
theorem sz_of {k : Nat} {q : Rat} (h : lg q ≤ k) : sz k q := (sz_lg q).mono h
theorem lg_add (p q : Rat) : lg (p + q) ≤ lg p + lg q + 1 := lg_le (sz_add (sz_lg p) (sz_lg q))
theorem lg_mul (p q : Rat) : lg (p * q) ≤ lg p + lg q := lg_le (sz_mul (sz_lg p) (sz_lg q))
theorem lg_neg (p : Rat) : lg (-p) = lg p := by
  have e1 : (-p).num = -p.num := rfl
  have e2 : (-p).den = p.den := rfl
  unfold lg
  rw [e1, e2, Int.natAbs_neg]
theorem lg_zero : lg 0 = 1 := by decide
def tot (ts : List Tm) : Nat := (ts.map fun t => lg t.2 + 1).sum
theorem tot_cons (t : Tm) (ts : List Tm) : tot (t :: ts) = lg t.2 + 1 + tot ts := by
  unfold tot
  rw [List.map_cons, List.sum_cons]
theorem tot_app (a b : List Tm) : tot (a ++ b) = tot a + tot b := by
  unfold tot
  rw [List.map_append, List.sum_append]
theorem tot_mem {t : Tm} {ts : List Tm} (h : t ∈ ts) : lg t.2 + 1 ≤ tot ts := by
  induction ts with
  | nil => cases h
  | cons s ts ih =>
    rw [tot_cons]
    rcases List.mem_cons.mp h with z | z
    · rw [z]; omega
    · have := ih z; omega
theorem tot_put (m : Dm) (k : List Int) (s : Rat) : tot (put m k ((look m k).getD 0 + s)) ≤ tot m + (lg s + 1) := by
  induction m with
  | nil =>
    show tot [(k, (0 : Rat) + s)] ≤ _
    rw [Rat.zero_add, tot_cons]
    show lg s + 1 + tot [] ≤ _
    omega
  | cons t m ih =>
    unfold put
    have e : look (t :: m) k = if t.1 = k then some t.2 else look m k := rfl
    rw [e]
    by_cases c : t.1 = k
    · rw [if_pos c, if_pos c, tot_cons, tot_cons]
      have := lg_add t.2 s
      show lg (t.2 + s) + 1 + tot m ≤ _
      omega
    · rw [if_neg c, if_neg c, tot_cons, tot_cons]
      omega
theorem tot_foldl : ∀ (ts : List Tm) (m : Dm), tot (ts.foldl addM m) ≤ tot m + tot ts
  | [], m => by simp
  | t :: ts, m => by
    have h1 := tot_foldl ts (addM m t)
    have h2 := tot_put m t.1 t.2
    rw [List.foldl_cons, tot_cons]
    unfold addM at h1 ⊢
    omega
theorem tot_look {m : Dm} {k : List Int} : lg ((look m k).getD 0) ≤ tot m + 1 := by
  cases e : look m k with
  | none => rw [Option.getD_none, lg_zero]; omega
  | some v =>
    have : ∀ (m : Dm), look m k = some v → (k, v) ∈ m := by
      intro m
      induction m with
      | nil => intro h; cases h
      | cons t m ih =>
        intro h
        have h : (if t.1 = k then some t.2 else look m k) = some v := h
        split at h
        · rename_i c
          cases h
          rw [← c]
          exact List.mem_cons_self
        · exact List.mem_cons_of_mem _ (ih h)
    have := tot_mem (this m e)
    rw [Option.getD_some]
    dsimp only at this
    omega

theorem sum_fm {l : List (List Int)} {f : List Int → Rat} : ((l.filterMap fun k => if f k = 0 then none else some (k, f k)).map fun t : Tm => lg t.2 + 1).sum ≤ (l.map fun k => lg (f k) + 1).sum := by
  induction l with
  | nil => exact Nat.le_refl _
  | cons k l ih =>
    rw [List.filterMap_cons, List.map_cons, List.sum_cons]
    by_cases c : f k = 0
    · simp only [c, if_true]
      omega
    · simp only [c, if_false, List.map_cons, List.sum_cons]
      omega
theorem tot_norm {n : Nat} {ts : List Tm} (h : TOk n ts) : tot (norm ts) ≤ tot ts := by
  have nd := accM_nodup ts
  have hl : ∀ b ∈ (accM ts).map (·.1), b.length = n := fun b hb => by
    obtain ⟨t, ht, rfl⟩ := List.mem_map.mp hb
    exact (h.acc t ht).1
  obtain ⟨p, r⟩ := sortW_spec nd hl
  have h1 : tot (norm ts) ≤ ((sortW ((accM ts).map (·.1))).map fun k => lg ((look (accM ts) k).getD 0) + 1).sum := by
    unfold tot norm outM
    exact sum_fm
  have h2 : ((sortW ((accM ts).map (·.1))).map fun k => lg ((look (accM ts) k).getD 0) + 1).sum = (((accM ts).map (·.1)).map fun k => lg ((look (accM ts) k).getD 0) + 1).sum := (p.map _).sum_nat
  have h3 : (((accM ts).map (·.1)).map fun k => lg ((look (accM ts) k).getD 0) + 1).sum = tot (accM ts) := by
    unfold tot
    rw [List.map_map]
    congr 1
    refine List.map_congr_left fun t ht => ?_
    show lg ((look (accM ts) t.1).getD 0) + 1 = _
    rw [look_some nd ht]
    rfl
  have h4 : tot (accM ts) ≤ tot [] + tot ts := tot_foldl ts []
  have h5 : tot [] = 0 := rfl
  omega
theorem len_norm {n : Nat} {ts : List Tm} (h : TOk n ts) : (norm ts).length ≤ ts.length := by
  have nd := accM_nodup ts
  have hl : ∀ b ∈ (accM ts).map (·.1), b.length = n := fun b hb => by
    obtain ⟨t, ht, rfl⟩ := List.mem_map.mp hb
    exact (h.acc t ht).1
  obtain ⟨p, r⟩ := sortW_spec nd hl
  have h1 : (norm ts).length ≤ (sortW ((accM ts).map (·.1))).length := by
    unfold norm outM
    exact List.length_filterMap_le _ _
  have h2 := p.length_eq
  have h3 := foldl_len ts []
  rw [List.length_map] at h2
  unfold accM at h1 h2
  simp at h3
  omega
end PM

set_option Elab.async false
set_option linter.all false
set_option maxRecDepth 100000
set_option exponentiation.threshold 10000
set_option maxHeartbeats 4000000
/-! PC: polynomials by their coefficients. -/
namespace PM
open PySem PySem.Spec L2
open PyProof.Rows hiding St

def cf : List Tm → List Int → Rat
  | [], _ => 0
  | t :: ts, k => (if t.1 = k then t.2 else 0) + cf ts k
theorem cf_app (a b : List Tm) (k : List Int) : cf (a ++ b) k = cf a k + cf b k := by
  induction a with
  | nil => exact (Rat.zero_add _).symm
  | cons t a ih =>
    show _ + cf (a ++ b) k = (_ + cf a k) + cf b k
    rw [ih, Rat.add_assoc]
theorem look_put (m : Dm) (k j : List Int) (v : Rat) : look (put m k v) j = if k = j then some v else look m j := by
  induction m with
  | nil => rfl
  | cons t m ih =>
    unfold put
    by_cases c : t.1 = k
    · rw [if_pos c]
      show (if t.1 = j then some v else look m j) = if k = j then some v else (if t.1 = j then some t.2 else look m j)
      rw [c]
      split <;> rfl
    · rw [if_neg c]
      show (if t.1 = j then some t.2 else look (put m k v) j) = if k = j then some v else (if t.1 = j then some t.2 else look m j)
      rw [ih]
      by_cases d : k = j
      · rw [if_pos d, if_pos d, if_neg (fun z => c (z.trans d.symm))]
      · rw [if_neg d, if_neg d]
theorem look_foldl (k : List Int) : ∀ (ts : List Tm) (m : Dm), (look (ts.foldl addM m) k).getD 0 = (look m k).getD 0 + cf ts k
  | [], m => (Rat.add_zero _).symm
  | t :: ts, m => by
    rw [List.foldl_cons, look_foldl k ts (addM m t)]
    show (look (put m t.1 _) k).getD 0 + _ = _ + (_ + _)
    rw [look_put, ← Rat.add_assoc]
    by_cases c : t.1 = k
    · rw [if_pos c, if_pos c, Option.getD_some, c]
    · rw [if_neg c, if_neg c, Rat.add_zero]
theorem look_acc (ts : List Tm) (k : List Int) : (look (accM ts) k).getD 0 = cf ts k := by
  have h := look_foldl k ts []
  have e : (look [] k).getD 0 = (0 : Rat) := rfl
  rw [e, Rat.zero_add] at h
  exact h
theorem cf_nodup {m : Dm} (h : (m.map (·.1)).Nodup) (k : List Int) : cf m k = (look m k).getD 0 := by
  rw [← look_acc]
  have := foldl_new m [] (by simpa using h)
  unfold accM
  rw [this, List.nil_append]
theorem cf_none {ts : List Tm} {k : List Int} (h : ∀ t ∈ ts, t.1 ≠ k) : cf ts k = 0 := by
  induction ts with
  | nil => rfl
  | cons t ts ih =>
    show (if t.1 = k then t.2 else 0) + cf ts k = 0
    rw [if_neg (h t List.mem_cons_self), ih fun s hs => h s (List.mem_cons_of_mem _ hs), Rat.zero_add]
theorem can_nodup {n : Nat} {p : List Tm} (h : Can n p) : (p.map (·.1)).Nodup := rise_nodup h.rise
theorem can_cf {n : Nat} {p : List Tm} (h : Can n p) {t : Tm} (ht : t ∈ p) : cf p t.1 = t.2 := by
  rw [cf_nodup (can_nodup h), look_some (can_nodup h) ht]
  rfl
theorem can_mem {n : Nat} {p : List Tm} (h : Can n p) (k : List Int) : k ∈ p.map (·.1) ↔ cf p k ≠ 0 := by
  constructor
  · intro z
    obtain ⟨t, ht, rfl⟩ := List.mem_map.mp z
    rw [can_cf h ht]
    exact h.nz t ht
  · intro z
    rw [cf_nodup (can_nodup h)] at z
    refine look_mem.mp ?_
    cases e : look p k with
    | none => rw [e] at z; exact absurd rfl z
    | some v => rfl
theorem map_fst_cf {n : Nat} {p : List Tm} (h : Can n p) : p = (p.map (·.1)).map fun k => (k, cf p k) := by
  rw [List.map_map]
  have : ∀ t ∈ p, t = ((fun k => (k, cf p k)) ∘ fun x : Tm => x.1) t := fun t ht => by
    show t = (t.1, cf p t.1)
    rw [can_cf h ht]
  conv => lhs; rw [← List.map_id p]
  exact List.map_congr_left this
/-- lists in their form are told by their coefficients -/
theorem can_ext {n m : Nat} {p q : List Tm} (hp : Can n p) (hq : Can m q) (h : ∀ k, cf p k = cf q k) : p = q := by
  have keys : p.map (·.1) = q.map (·.1) := by
    have pm : (p.map (·.1)).Perm (q.map (·.1)) := by
      rw [List.perm_ext_iff_of_nodup (can_nodup hp) (can_nodup hq)]
      intro k
      rw [can_mem hp, can_mem hq, h]
    have e1 := sortW_eq pm hp.rise
    have e2 := sortW_eq (List.Perm.refl _) hq.rise
    exact e1.symm.trans e2
  rw [map_fst_cf hp, map_fst_cf hq, keys]
  exact List.map_congr_left fun k _ => by rw [h]
theorem cf_norm {n : Nat} {ts : List Tm} (ok : TOk n ts) (k : List Int) : cf (norm ts) k = cf ts k := by
  have can := can_norm ok
  have nd := accM_nodup ts
  have hl : ∀ b ∈ (accM ts).map (·.1), b.length = n := fun b hb => by
    obtain ⟨t, ht, rfl⟩ := List.mem_map.mp hb
    exact (ok.acc t ht).1
  obtain ⟨pm, _⟩ := sortW_spec nd hl
  by_cases c : cf ts k = 0
  · rw [c]
    by_cases d : k ∈ (norm ts).map (·.1)
    · obtain ⟨t, ht, rfl⟩ := List.mem_map.mp d
      exfalso
      unfold norm outM at ht
      obtain ⟨j, hj, e⟩ := List.mem_filterMap.mp ht
      rw [look_acc] at e
      split at e
      · cases e
      · rename_i nz
        cases e
        exact nz c
    · refine cf_none fun t ht z => d (List.mem_map.mpr ⟨t, ht, z⟩)
  · have mem : k ∈ (accM ts).map (·.1) := by
      refine look_mem.mp ?_
      rw [← look_acc] at c
      cases e : look (accM ts) k with
      | none => rw [e] at c; exact absurd rfl c
      | some v => rfl
    have : (k, cf ts k) ∈ norm ts := by
      unfold norm outM
      refine List.mem_filterMap.mpr ⟨k, pm.mem_iff.mpr mem, ?_⟩
      rw [look_acc, if_neg c]
    exact can_cf can this
/-- like lists: alike in all coefficients -/
def Like (a b : List Tm) : Prop := ∀ k, cf a k = cf b k
theorem Like.symm {a b : List Tm} (h : Like a b) : Like b a := fun k => (h k).symm
theorem Like.trans {a b c : List Tm} (h : Like a b) (g : Like b c) : Like a c := fun k => (h k).trans (g k)
theorem Like.refl (a : List Tm) : Like a a := fun _ => rfl
theorem Like.app {a b c d : List Tm} (h : Like a b) (g : Like c d) : Like (a ++ c) (b ++ d) := fun k => by rw [cf_app, cf_app, h, g]
theorem Like.comm (a b : List Tm) : Like (a ++ b) (b ++ a) := fun k => by rw [cf_app, cf_app, Rat.add_comm]
theorem like_norm {n : Nat} {ts : List Tm} (ok : TOk n ts) : Like (norm ts) ts := fun k => cf_norm ok k
theorem norm_ext {n m : Nat} {a b : List Tm} (ha : TOk n a) (hb : TOk m b) (h : Like a b) : norm a = norm b :=
  can_ext (can_norm ha) (can_norm hb) ((like_norm ha).trans (h.trans (like_norm hb).symm))
end PM

set_option Elab.async false
set_option linter.all false
set_option maxRecDepth 100000
set_option exponentiation.threshold 10000
set_option maxHeartbeats 4000000
/-! PRD: products and multiples of lists of terms, plainly. -/
namespace PM
open PySem PySem.Spec L2
open PyProof.Rows hiding St

def mulT (t u : Tm) : Tm := (List.zipWith (· + ·) t.1 u.1, t.2 * u.2)
def prods (a b : List Tm) : List Tm := a.flatMap fun t => b.map (mulT t)
theorem prods_app (a b c : List Tm) : prods (a ++ b) c = prods a c ++ prods b c := by
  unfold prods
  rw [List.flatMap_append]
theorem prods_one (t : Tm) (b : List Tm) : prods [t] b = b.map (mulT t) := by
  unfold prods
  simp
theorem prods_cons (t : Tm) (a b : List Tm) : prods (t :: a) b = b.map (mulT t) ++ prods a b := rfl
theorem prods_nil (b : List Tm) : prods [] b = [] := rfl
theorem prods_pre {a b : List Tm} {k j : Nat} {t : Tm} (h : a[k]? = some t) : ∃ r, prods a b = (prods (a.take k) b ++ (b.take j).map (mulT t)) ++ r := by
  have ha : a = a.take k ++ t :: a.drop (k + 1) := by
    obtain ⟨hk, e⟩ := List.getElem?_eq_some_iff.mp h
    rw [← e, List.getElem_cons_drop, List.take_append_drop]
  refine ⟨(b.drop j).map (mulT t) ++ prods (a.drop (k + 1)) b, ?_⟩
  rw [List.append_assoc, ← List.append_assoc ((b.take j).map _), ← List.map_append, List.take_append_drop, ← prods_cons, ← prods_app, ← ha]
theorem prods_take {a b : List Tm} {k : Nat} {t : Tm} (h : a[k]? = some t) : prods (a.take (k + 1)) b = prods (a.take k) b ++ b.map (mulT t) := by
  rw [List.take_succ, h, Option.toList_some, prods_app, prods_one]
theorem prods_len (a b : List Tm) : (prods a b).length = a.length * b.length := by
  induction a with
  | nil => simp [prods]
  | cons t a ih =>
    rw [prods_cons, List.length_append, List.length_map, ih, List.length_cons, Nat.succ_mul]
    omega
theorem zip_pos : ∀ {x y : List Int}, (∀ i ∈ x, 0 ≤ i) → (∀ i ∈ y, 0 ≤ i) → ∀ i ∈ List.zipWith (· + ·) x y, 0 ≤ i
  | [], _, _, _, i, hi => by simp at hi
  | _ :: _, [], _, _, i, hi => by simp at hi
  | a :: x, b :: y, h1, h2, i, hi => by
    rw [List.zipWith_cons_cons] at hi
    rcases List.mem_cons.mp hi with z | z
    · have := h1 a List.mem_cons_self
      have := h2 b List.mem_cons_self
      omega
    · exact zip_pos (fun i q => h1 i (List.mem_cons_of_mem _ q)) (fun i q => h2 i (List.mem_cons_of_mem _ q)) i z
theorem zip_le {m k : Int} : ∀ {x y : List Int}, (∀ i ∈ x, i ≤ m) → (∀ i ∈ y, i ≤ k) → ∀ i ∈ List.zipWith (· + ·) x y, i ≤ m + k
  | [], _, _, _, i, hi => by simp at hi
  | _ :: _, [], _, _, i, hi => by simp at hi
  | a :: x, b :: y, h1, h2, i, hi => by
    rw [List.zipWith_cons_cons] at hi
    rcases List.mem_cons.mp hi with z | z
    · have := h1 a List.mem_cons_self
      have := h2 b List.mem_cons_self
      omega
    · exact zip_le (fun i q => h1 i (List.mem_cons_of_mem _ q)) (fun i q => h2 i (List.mem_cons_of_mem _ q)) i z
theorem tok_prods {n : Nat} {a b : List Tm} (ha : TOk n a) (hb : TOk n b) : TOk n (prods a b) := fun t ht => by
  obtain ⟨x, hx, h⟩ := List.mem_flatMap.mp ht
  obtain ⟨y, hy, rfl⟩ := List.mem_map.mp h
  have h1 := ha x hx
  have h2 := hb y hy
  exact ⟨by show (List.zipWith _ _ _).length = n; rw [List.length_zipWith]; omega, zip_pos h1.2 h2.2⟩
theorem tok_app {n : Nat} {a b : List Tm} (h1 : TOk n a) (h2 : TOk n b) : TOk n (a ++ b) := fun t ht => (List.mem_append.mp ht).elim (h1 t) (h2 t)
theorem tok_nil {n : Nat} : TOk n [] := fun t h => by cases h
theorem tok_norm {n : Nat} {a : List Tm} (h : TOk n a) : TOk n (norm a) := (can_norm h).ok
def scl (c : Rat) (p : List Tm) : List Tm := p.map fun t => (t.1, c * t.2)
theorem scl_len (c : Rat) (p : List Tm) : (scl c p).length = p.length := by
  unfold scl
  rw [List.length_map]
theorem tok_scl {n : Nat} {a : List Tm} {c : Rat} (h : TOk n a) : TOk n (scl c a) := fun t ht => by
  obtain ⟨s, hs, rfl⟩ := List.mem_map.mp ht
  exact h s hs
theorem cf_scl (c : Rat) (p : List Tm) (k : List Int) : cf (scl c p) k = c * cf p k := by
  induction p with
  | nil => exact (Rat.mul_zero _).symm
  | cons t p ih =>
    show (if t.1 = k then c * t.2 else 0) + cf (scl c p) k = c * ((if t.1 = k then t.2 else 0) + cf p k)
    rw [ih]
    split <;> grind

/-! ### worths -/
def mon : List Int → List Rat → Rat
  | i :: is, x :: xs => x ^ i.toNat * mon is xs
  | _, _ => 1
def wv : List Tm → List Rat → Rat
  | [], _ => 0
  | t :: ts, x => t.2 * mon t.1 x + wv ts x
theorem wv_cons (t : Tm) (ts : List Tm) (x : List Rat) : wv (t :: ts) x = t.2 * mon t.1 x + wv ts x := rfl
theorem wv_nil (x : List Rat) : wv [] x = 0 := rfl
theorem wv_app (a b : List Tm) (x : List Rat) : wv (a ++ b) x = wv a x + wv b x := by
  induction a with
  | nil => exact (Rat.zero_add _).symm
  | cons t a ih => rw [List.cons_append, wv_cons, wv_cons, ih]; grind
theorem wv_scl (c : Rat) (a : List Tm) (x : List Rat) : wv (scl c a) x = c * wv a x := by
  induction a with
  | nil => exact (Rat.mul_zero _).symm
  | cons t a ih =>
    show c * t.2 * mon t.1 x + wv (scl c a) x = c * (t.2 * mon t.1 x + wv a x)
    rw [ih]; grind
theorem wv_put (m : Dm) (k : List Int) (v : Rat) (x : List Rat) : wv (put m k v) x = wv m x + (v - (look m k).getD 0) * mon k x := by
  induction m with
  | nil =>
    show v * mon k x + 0 = 0 + (v - 0) * mon k x
    grind
  | cons t m ih =>
    unfold put
    have e : look (t :: m) k = if t.1 = k then some t.2 else look m k := rfl
    rw [e]
    by_cases c : t.1 = k
    · rw [if_pos c, if_pos c, wv_cons, wv_cons, c, Option.getD_some]
      show v * mon k x + wv m x = _
      grind
    · rw [if_neg c, if_neg c, wv_cons, wv_cons, ih]
      grind
theorem wv_foldl (x : List Rat) : ∀ (ts : List Tm) (m : Dm), wv (ts.foldl addM m) x = wv m x + wv ts x
  | [], m => (Rat.add_zero _).symm
  | t :: ts, m => by
    rw [List.foldl_cons, wv_foldl x ts, wv_cons]
    unfold addM
    rw [wv_put]
    grind
theorem wv_acc (ts : List Tm) (x : List Rat) : wv (accM ts) x = wv ts x := by
  have := wv_foldl x ts []
  rw [wv_nil, Rat.zero_add] at this
  exact this
def rsum : List Rat → Rat
  | [] => 0
  | a :: l => a + rsum l
theorem rsum_perm {l m : List Rat} (h : l.Perm m) : rsum l = rsum m := by
  induction h with
  | nil => rfl
  | cons a _ ih => show a + _ = a + _; rw [ih]
  | swap a b l => show b + (a + _) = a + (b + _); grind
  | trans _ _ h1 h2 => exact h1.trans h2
/-- a sum over the sorted list without noughts -/
theorem sum_out {f : List Int → Rat → Rat} (f0 : ∀ k, f k 0 = 0) {n : Nat} {ts : List Tm} (ok : TOk n ts) : rsum ((norm ts).map fun t => f t.1 t.2) = rsum ((accM ts).map fun t => f t.1 t.2) := by
  have nd := accM_nodup ts
  have hl : ∀ b ∈ (accM ts).map (·.1), b.length = n := fun b hb => by
    obtain ⟨t, ht, rfl⟩ := List.mem_map.mp hb
    exact (ok.acc t ht).1
  obtain ⟨pm, _⟩ := sortW_spec nd hl
  have e1 : ∀ l : List (List Int), rsum ((l.filterMap fun k => if (look (accM ts) k).getD 0 = 0 then none else some (k, (look (accM ts) k).getD 0)).map fun t : Tm => f t.1 t.2) = rsum (l.map fun k => f k ((look (accM ts) k).getD 0)) := by
    intro l
    induction l with
    | nil => rfl
    | cons k l ih =>
      rw [List.filterMap_cons, List.map_cons]
      by_cases c : (look (accM ts) k).getD 0 = 0
      · simp only [c, if_true]
        rw [ih]
        show _ = f k 0 + _
        rw [f0, Rat.zero_add]
      · simp only [c, if_false, List.map_cons]
        show _ + rsum _ = _ + rsum _
        rw [ih]
  unfold norm outM
  rw [e1, rsum_perm (pm.map _), List.map_map]
  congr 1
  refine List.map_congr_left fun t ht => ?_
  show f t.1 ((look (accM ts) t.1).getD 0) = _
  rw [look_some nd ht]
  rfl
theorem wv_rsum (ts : List Tm) (x : List Rat) : wv ts x = rsum (ts.map fun t => t.2 * mon t.1 x) := by
  induction ts with
  | nil => rfl
  | cons t ts ih => rw [wv_cons, ih]; rfl
theorem wv_norm {n : Nat} {ts : List Tm} (ok : TOk n ts) (x : List Rat) : wv (norm ts) x = wv ts x := by
  rw [wv_rsum, sum_out (f := fun k v => v * mon k x) (fun k => Rat.zero_mul _) ok, ← wv_rsum, wv_acc]
theorem pow_add (x : Rat) (a b : Nat) : x ^ (a + b) = x ^ a * x ^ b := by
  induction b with
  | zero => rw [Nat.add_zero, Rat.pow_zero, Rat.mul_one]
  | succ b ih => rw [← Nat.add_assoc, Rat.pow_succ, ih, Rat.pow_succ, Rat.mul_assoc]
theorem mon_zip : ∀ {p q : List Int} {x : List Rat}, p.length = q.length → (∀ i ∈ p, 0 ≤ i) → (∀ i ∈ q, 0 ≤ i) → mon (List.zipWith (· + ·) p q) x = mon p x * mon q x
  | [], [], x, _, _, _ => by cases x <;> (show (1 : Rat) = 1 * 1; grind)
  | [], _ :: _, _, h, _, _ => by cases h
  | _ :: _, [], _, h, _, _ => by cases h
  | i :: p, j :: q, [], _, _, _ => by show (1 : Rat) = 1 * 1; grind
  | i :: p, j :: q, y :: x, h, hp, hq => by
    have h1 := hp i List.mem_cons_self
    have h2 := hq j List.mem_cons_self
    have ih := mon_zip (p := p) (q := q) (x := x) (Nat.succ.inj h) (fun i z => hp i (List.mem_cons_of_mem _ z)) fun i z => hq i (List.mem_cons_of_mem _ z)
    rw [List.zipWith_cons_cons]
    show y ^ (i + j).toNat * mon _ x = y ^ i.toNat * mon p x * (y ^ j.toNat * mon q x)
    rw [ih, show (i + j).toNat = i.toNat + j.toNat by omega, pow_add]
    grind
theorem wv_row {n : Nat} {t : Tm} {b : List Tm} {x : List Rat} (ht : t.1.length = n ∧ ∀ i ∈ t.1, 0 ≤ i) (hb : TOk n b) : wv (b.map (mulT t)) x = t.2 * mon t.1 x * wv b x := by
  induction b with
  | nil => exact (Rat.mul_zero _).symm
  | cons u b ih =>
    have hu := hb u List.mem_cons_self
    rw [List.map_cons, wv_cons, wv_cons, ih fun s hs => hb s (List.mem_cons_of_mem _ hs)]
    show t.2 * u.2 * mon (List.zipWith (· + ·) t.1 u.1) x + _ = _
    rw [mon_zip (ht.1.trans hu.1.symm) ht.2 hu.2]
    grind
theorem wv_prods {n : Nat} {a b : List Tm} {x : List Rat} (ha : TOk n a) (hb : TOk n b) : wv (prods a b) x = wv a x * wv b x := by
  induction a with
  | nil => exact (Rat.zero_mul _).symm
  | cons t a ih =>
    rw [prods_cons, wv_app, wv_row (ha t List.mem_cons_self) hb, ih fun s hs => ha s (List.mem_cons_of_mem _ hs), wv_cons]
    grind

/-! ### two lists that are worth the same at all points are alike -/
def pe : List Rat → Rat → Rat
  | [], _ => 0
  | c :: cs, x => c + x * pe cs x
theorem pe_cons (c : Rat) (cs : List Rat) (x : Rat) : pe (c :: cs) x = c + x * pe cs x := rfl
def padd : List Rat → List Rat → List Rat
  | [], b => b
  | a, [] => a
  | a :: as, b :: bs => (a + b) :: padd as bs
theorem pe_padd (x : Rat) : ∀ (a b : List Rat), pe (padd a b) x = pe a x + pe b x
  | [], b => by unfold padd; exact (Rat.zero_add _).symm
  | a :: as, [] => by unfold padd; exact (Rat.add_zero _).symm
  | a :: as, b :: bs => by
    unfold padd
    rw [pe_cons, pe_cons, pe_cons, pe_padd x as bs]
    grind
theorem padd_len : ∀ (a b : List Rat), (padd a b).length ≤ max a.length b.length
  | [], b => by unfold padd; omega
  | a :: as, [] => by unfold padd; omega
  | a :: as, b :: bs => by
    have := padd_len as bs
    unfold padd
    simp only [List.length_cons]
    omega
theorem pe_scale (c x : Rat) (a : List Rat) : pe (a.map (c * ·)) x = c * pe a x := by
  induction a with
  | nil => exact (Rat.mul_zero _).symm
  | cons b a ih => rw [List.map_cons, pe_cons, pe_cons, ih]; grind
theorem pdiv (a : Rat) : ∀ c : List Rat, ∃ q : List Rat, q.length ≤ c.length - 1 ∧ ∀ x, pe c x = pe c a + (x - a) * pe q x
  | [] => ⟨[], Nat.le_refl _, fun x => by show (0 : Rat) = 0 + (x - a) * 0; grind⟩
  | c0 :: cs => by
    obtain ⟨q, hl, h⟩ := pdiv a cs
    refine ⟨padd cs (q.map (a * ·)), ?_, fun x => ?_⟩
    · have := padd_len cs (q.map (a * ·))
      rw [List.length_map] at this
      rw [List.length_cons]
      omega
    · rw [pe_padd, pe_scale, pe_cons, pe_cons]
      have := h x
      grind
theorem pzero : ∀ (n : Nat) (c : List Rat) (m : Nat), c.length ≤ n → (∀ k : Nat, m ≤ k → pe c (k : Rat) = 0) → ∀ x, pe c x = 0
  | 0, c, m, hl, _ => fun x => by
    have : c = [] := List.length_eq_zero_iff.mp (by omega)
    rw [this]; rfl
  | n + 1, c, m, hl, h => fun x => by
    obtain ⟨q, hq, e⟩ := pdiv (m : Rat) c
    have hm := h m (Nat.le_refl _)
    have z := pzero n q (m + 1) (by omega) (fun k hk => by
      have h1 := e (k : Rat)
      rw [h k (by omega), hm, Rat.zero_add] at h1
      rcases Rat.mul_eq_zero.mp h1.symm with h2 | h2
      · have h3 : (k : Rat) = (m : Rat) := by grind
        have := Rat.natCast_inj.mp h3
        omega
      · exact h2)
    rw [e x, hm, z x]
    grind
theorem pcoef : ∀ c : List Rat, (∀ x, pe c x = 0) → ∀ a ∈ c, a = 0
  | [], _, a, ha => by cases ha
  | c0 :: cs, h, a, ha => by
    have h0 := h 0
    rw [pe_cons, Rat.zero_mul, Rat.add_zero] at h0
    rcases List.mem_cons.mp ha with z | z
    · rw [z]; exact h0
    · refine pcoef cs (pzero cs.length cs 1 (Nat.le_refl _) fun k hk => ?_) a z
      have h1 := h (k : Rat)
      rw [pe_cons, h0, Rat.zero_add] at h1
      rcases Rat.mul_eq_zero.mp h1 with h2 | h2
      · have := Rat.natCast_eq_zero_iff.mp h2
        omega
      · exact h2
def tails (j : Int) (ts : List Tm) : List Tm := ts.filterMap fun t => match t.1 with
  | i :: r => if i = j then some (r, t.2) else none
  | [] => none
def tail1 (j : Int) (t : Tm) : List Tm := match t.1 with
  | i :: r => if i = j then [(r, t.2)] else []
  | [] => []
theorem tails_cons (j : Int) (t : Tm) (ts : List Tm) : tails j (t :: ts) = tail1 j t ++ tails j ts := by
  unfold tails tail1
  rw [List.filterMap_cons]
  split
  · rename_i h
    split at h
    · split at h
      · cases h
      · rename_i c; simp [c]
    · rfl
  · rename_i h
    split at h
    · split at h
      · rename_i c; cases h; simp [c]
      · cases h
    · cases h
theorem cf_tails (j : Int) (r : List Int) (ts : List Tm) : cf (tails j ts) r = cf ts (j :: r) := by
  induction ts with
  | nil => rfl
  | cons t ts ih =>
    rw [tails_cons, cf_app, ih]
    show _ = (if t.1 = j :: r then t.2 else 0) + cf ts (j :: r)
    congr 1
    unfold tail1
    obtain ⟨k, v⟩ := t
    cases k with
    | nil => simp [cf]
    | cons i k =>
      dsimp only
      by_cases c : i = j
      · subst c
        by_cases d : k = r
        · simp [cf, d, Rat.add_zero]
        · simp [cf, d, Rat.add_zero]
      · simp [cf, c]
theorem tok_tails {n : Nat} {j : Int} {ts : List Tm} (h : TOk (n + 1) ts) : TOk n (tails j ts) := fun s hs => by
  obtain ⟨t, ht, e⟩ := List.mem_filterMap.mp hs
  obtain ⟨h1, h2⟩ := h t ht
  obtain ⟨k, v⟩ := t
  cases k with
  | nil => cases e
  | cons i k =>
    dsimp only at e h1 h2
    split at e
    · cases e
      exact ⟨by simpa using h1, fun i hi => h2 i (List.mem_cons_of_mem _ hi)⟩
    · cases e
theorem pe_map_add {α : Type} (f g : α → Rat) (x : Rat) (l : List α) : pe (l.map fun j => f j + g j) x = pe (l.map f) x + pe (l.map g) x := by
  induction l with
  | nil => exact (Rat.add_zero _).symm
  | cons a l ih => rw [List.map_cons, List.map_cons, List.map_cons, pe_cons, pe_cons, pe_cons, ih]; grind
theorem pe_zero {α : Type} (x : Rat) {f : α → Rat} {l : List α} (h : ∀ a ∈ l, f a = 0) : pe (l.map f) x = 0 := by
  induction l with
  | nil => rfl
  | cons a l ih =>
    rw [List.map_cons, pe_cons, h a List.mem_cons_self, ih fun b hb => h b (List.mem_cons_of_mem _ hb)]
    grind
theorem pe_single (c x : Rat) : ∀ (N s i : Nat), s ≤ i → i < s + N → pe ((List.range' s N).map fun j => if i = j then c else 0) x = c * x ^ (i - s)
  | 0, s, i, h1, h2 => by omega
  | N + 1, s, i, h1, h2 => by
    rw [List.range'_succ, List.map_cons, pe_cons]
    by_cases e : i = s
    · subst e
      rw [if_pos rfl, Nat.sub_self, Rat.pow_zero, pe_zero x fun j hj => if_neg (by
        have := (List.mem_range'_1.mp hj).1
        omega)]
      grind
    · rw [if_neg e, pe_single c x N (s + 1) i (by omega) (by omega), show i - s = (i - (s + 1)) + 1 by omega, Rat.pow_succ]
      grind
theorem pe_row {n : Nat} {ts : List Tm} {x : Rat} {xs : List Rat} {N : Nat} (ok : TOk (n + 1) ts) (hN : ∀ t ∈ ts, ∀ i ∈ t.1, i < N) : pe ((List.range' 0 N).map fun j : Nat => wv (tails (j : Int) ts) xs) x = wv ts (x :: xs) := by
  induction ts with
  | nil => exact pe_zero x fun j _ => rfl
  | cons t ts ih =>
    have h1 := ok t List.mem_cons_self
    have hi := hN t List.mem_cons_self
    have ih := ih (fun s hs => ok s (List.mem_cons_of_mem _ hs)) fun s hs => hN s (List.mem_cons_of_mem _ hs)
    have e : (fun j : Nat => wv (tails (j : Int) (t :: ts)) xs) = fun j : Nat => wv (tail1 (j : Int) t) xs + wv (tails (j : Int) ts) xs := funext fun j => by rw [tails_cons, wv_app]
    rw [e, pe_map_add, ih, wv_cons]
    congr 1
    obtain ⟨k, v⟩ := t
    cases k with
    | nil => simp at h1
    | cons i k =>
      have hi := hi i List.mem_cons_self
      have h0 := h1.2 i List.mem_cons_self
      obtain ⟨i, rfl⟩ := Int.eq_ofNat_of_zero_le h0
      have e2 : (fun j : Nat => wv (tail1 (j : Int) (((i : Int) :: k, v) : Tm)) xs) = fun j : Nat => if i = j then v * mon k xs else 0 := funext fun j => by
        unfold tail1
        dsimp only
        by_cases c : i = j
        · subst c
          rw [if_pos rfl, if_pos rfl, wv_cons, wv_nil, Rat.add_zero]
        · rw [if_neg (by omega), if_neg c, wv_nil]
      rw [e2, pe_single _ _ _ _ _ (Nat.zero_le _) (by omega)]
      show _ = v * (x ^ (i : Int).toNat * mon k xs)
      rw [Int.toNat_natCast, Nat.sub_zero]
      grind
theorem wv_zero : ∀ (n : Nat) (ts : List Tm), TOk n ts → (∀ x : List Rat, x.length = n → wv ts x = 0) → ∀ k, cf ts k = 0
  | 0, ts, ok, h, k => by
    by_cases c : k = []
    · subst c
      have h1 := h [] rfl
      have : ∀ us : List Tm, TOk 0 us → cf us [] = wv us [] := by
        intro us
        induction us with
        | nil => intro _; rfl
        | cons t us ih =>
          intro o
          have e : t.1 = [] := List.length_eq_zero_iff.mp (o t List.mem_cons_self).1
          show (if t.1 = [] then t.2 else 0) + cf us [] = t.2 * mon t.1 [] + wv us []
          rw [ih fun s hs => o s (List.mem_cons_of_mem _ hs), if_pos e, e]
          show _ = t.2 * 1 + _
          grind
      rw [this ts ok, h1]
    · refine cf_none fun t ht z => c ?_
      rw [← z]
      exact List.length_eq_zero_iff.mp (ok t ht).1
  | n + 1, ts, ok, h, k => by
    obtain ⟨N, hN⟩ : ∃ N : Nat, ∀ t ∈ ts, ∀ i ∈ t.1, i < (N : Int) := by
      obtain ⟨B, hB⟩ := bound_ex (ts.map (·.1))
      exact ⟨B.toNat, fun t ht i hi => by have := hB t.1 (List.mem_map.mpr ⟨t, ht, rfl⟩) i hi; omega⟩
    have key : ∀ j : Nat, j < N → ∀ r, cf (tails (j : Int) ts) r = 0 := fun j hj => by
      refine wv_zero n _ (tok_tails ok) fun xs hx => ?_
      have z := pcoef ((List.range' 0 N).map fun j : Nat => wv (tails (j : Int) ts) xs) (fun x => by
        rw [pe_row ok hN]
        exact h (x :: xs) (by rw [List.length_cons, hx]))
      exact z _ (List.mem_map.mpr ⟨j, List.mem_range'_1.mpr ⟨Nat.zero_le _, by omega⟩, rfl⟩)
    cases k with
    | nil =>
      refine cf_none fun t ht z => ?_
      have := (ok t ht).1
      rw [z] at this
      simp at this
    | cons i r =>
      by_cases c : 0 ≤ i ∧ i < N
      · have := key i.toNat (by omega) r
        rw [cf_tails, show ((i.toNat : Nat) : Int) = i by omega] at this
        exact this
      · refine cf_none fun t ht z => c ?_
        have h1 := (ok t ht).2 i (by rw [z]; exact List.mem_cons_self)
        have h2 := hN t ht i (by rw [z]; exact List.mem_cons_self)
        exact ⟨h1, h2⟩
theorem like_wv {n : Nat} {a b : List Tm} (ha : TOk n a) (hb : TOk n b) (h : ∀ x : List Rat, x.length = n → wv a x = wv b x) : Like a b := fun k => by
  have z := wv_zero n (a ++ scl (-1) b) (tok_app ha (tok_scl hb)) (fun x hx => by rw [wv_app, wv_scl, h x hx]; grind) k
  rw [cf_app, cf_scl] at z
  grind
theorem can_wv {n : Nat} {p q : List Tm} (hp : Can n p) (hq : Can n q) (h : ∀ x : List Rat, x.length = n → wv p x = wv q x) : p = q := can_ext hp hq (like_wv hp.ok hq.ok h)
end PM

set_option Elab.async false
set_option linter.all false
set_option maxRecDepth 100000
set_option exponentiation.threshold 10000
set_option maxHeartbeats 4000000
/-! SZ: sizes by one bottom for all; how many powers there are. -/
namespace PM
open PySem PySem.Spec L2
open PyProof.Rows hiding St

/-- M is a bottom for it -/
def Dv (M : Nat) (q : Rat) : Prop := ∃ z : Int, q * (M : Rat) = (z : Rat)
theorem Dv.zero {M : Nat} : Dv M 0 := ⟨0, by rw [Rat.zero_mul]; rfl⟩
theorem Dv.add {M : Nat} {p q : Rat} (h : Dv M p) (g : Dv M q) : Dv M (p + q) := by
  obtain ⟨x, hx⟩ := h
  obtain ⟨y, hy⟩ := g
  exact ⟨x + y, by rw [Rat.add_mul, hx, hy, Rat.intCast_add]⟩
theorem Dv.mul {M N : Nat} {p q : Rat} (h : Dv M p) (g : Dv N q) : Dv (M * N) (p * q) := by
  obtain ⟨x, hx⟩ := h
  obtain ⟨y, hy⟩ := g
  exact ⟨x * y, by rw [Rat.natCast_mul, Rat.intCast_mul, ← hx, ← hy]; grind⟩
theorem Dv.int {M : Nat} (z : Int) : Dv M (z : Rat) := ⟨z * M, by rw [Rat.intCast_mul]; rfl⟩
theorem Dv.one {M : Nat} : Dv M 1 := Dv.int 1
theorem Dv.up {M : Nat} {q : Rat} (N : Nat) (h : Dv M q) : Dv (M * N) q := by
  have := h.mul (Dv.one (M := N))
  rw [Rat.mul_one] at this
  exact this
theorem Dv.up' {M : Nat} {q : Rat} (N : Nat) (h : Dv M q) : Dv (N * M) q := by
  rw [Nat.mul_comm]; exact h.up N
theorem Dv.self (q : Rat) : Dv q.den q := by
  refine ⟨q.num, ?_⟩
  have h : q = (q.num : Rat) / (q.den : Rat) := by
    rw [← Rat.intCast_natCast, ← Rat.divInt_eq_div]
    exact (Rat.num_divInt_den q).symm
  have hd : (q.den : Rat) ≠ 0 := fun z => q.den_nz (Rat.natCast_eq_zero_iff.mp z)
  conv => lhs; arg 1; rw [h]
  exact Rat.div_mul_cancel hd
theorem Dv.pow {M : Nat} {q : Rat} (h : Dv M q) : ∀ k : Nat, Dv (M ^ k) (q ^ k)
  | 0 => by rw [Rat.pow_zero, Nat.pow_zero]; exact Dv.one
  | k + 1 => by rw [Rat.pow_succ, Nat.pow_succ]; exact (Dv.pow h k).mul h
theorem abs_add (p q : Rat) : (p + q).abs ≤ p.abs + q.abs := by
  unfold Rat.abs
  split <;> split <;> split <;> grind
theorem abs_mul (p q : Rat) : (p * q).abs = p.abs * q.abs := by
  rcases Rat.le_total (a := 0) (b := p) with h | h <;> rcases Rat.le_total (a := 0) (b := q) with g | g
  · rw [Rat.abs_of_nonneg h, Rat.abs_of_nonneg g, Rat.abs_of_nonneg (Rat.mul_nonneg h g)]
  · have := Rat.mul_nonneg h (show 0 ≤ -q by grind)
    rw [Rat.abs_of_nonneg h, Rat.abs_of_nonpos g, Rat.abs_of_nonpos (by grind)]
    grind
  · have := Rat.mul_nonneg (show 0 ≤ -p by grind) g
    rw [Rat.abs_of_nonpos h, Rat.abs_of_nonneg g, Rat.abs_of_nonpos (by grind)]
    grind
  · have := Rat.mul_nonneg (show 0 ≤ -p by grind) (show 0 ≤ -q by grind)
    rw [Rat.abs_of_nonpos h, Rat.abs_of_nonpos g, Rat.abs_of_nonneg (by grind)]
    grind
theorem abs_pow (p : Rat) : ∀ k : Nat, (p ^ k).abs = p.abs ^ k
  | 0 => by rw [Rat.pow_zero, Rat.pow_zero, Rat.abs_of_nonneg (by decide)]
  | k + 1 => by rw [Rat.pow_succ, Rat.pow_succ, abs_mul, abs_pow p k]
theorem abs_int (z : Int) : (z : Rat).abs = (z.natAbs : Rat) := by
  rcases Int.le_total 0 z with h | h
  · obtain ⟨n, rfl⟩ := Int.eq_ofNat_of_zero_le h
    rw [Rat.abs_of_nonneg (by rw [show (0 : Rat) = ((0 : Int) : Rat) from rfl]; exact Rat.intCast_le_intCast.mpr h)]
    rfl
  · rw [Rat.abs_of_nonpos (by rw [show (0 : Rat) = ((0 : Int) : Rat) from rfl]; exact Rat.intCast_le_intCast.mpr h), ← Rat.intCast_neg]
    have : ((z.natAbs : Nat) : Rat) = (((z.natAbs : Nat) : Int) : Rat) := rfl
    rw [this, Rat.intCast_inj]
    omega
/-- b: a power of two as a fraction -/
def tw (b : Nat) : Rat := ((2 ^ b : Nat) : Rat)
theorem tw_add (a b : Nat) : tw (a + b) = tw a * tw b := by
  unfold tw
  rw [Nat.pow_add, Rat.natCast_mul]
theorem tw_succ (a : Nat) : tw (a + 1) = tw a + tw a := by
  unfold tw
  rw [← Rat.natCast_add, Nat.pow_succ]
  congr 1
  omega
theorem nat_le {a b : Nat} (h : a ≤ b) : (a : Rat) ≤ (b : Rat) := by
  rw [← Rat.intCast_natCast, ← Rat.intCast_natCast]
  exact Rat.intCast_le_intCast.mpr (by omega)
theorem nat_le' {a b : Nat} (h : (a : Rat) ≤ (b : Rat)) : a ≤ b := by
  rw [← Rat.intCast_natCast, ← Rat.intCast_natCast] at h
  have := Rat.intCast_le_intCast.mp h
  omega
theorem tw_le {a b : Nat} (h : a ≤ b) : tw a ≤ tw b := nat_le (Nat.pow_le_pow_right (by omega) h)
theorem tw_one (a : Nat) : 1 ≤ tw a := nat_le (a := 1) (Nat.one_le_two_pow)
theorem tw_pos (a : Nat) : 0 ≤ tw a := nat_le (a := 0) (Nat.zero_le _)
/-- a fraction: M for a bottom, no greater than 2 to b -/
structure Bq (M b : Nat) (q : Rat) : Prop where
  dv : Dv M q
  ab : q.abs ≤ tw b
theorem Bq.sz {M a b k : Nat} {q : Rat} (h : Bq M b q) (h0 : 0 < M) (hM : M ≤ 2 ^ a) (hk : a + b < k) : sz k q := by
  obtain ⟨z, hz⟩ := h.dv
  have hm0 : (M : Rat) ≠ 0 := fun e => by have := Rat.natCast_eq_zero_iff.mp e; omega
  have e : q = Rat.divInt z M := by
    rw [Rat.divInt_eq_div, ← hz]
    exact (Rat.mul_div_cancel hm0).symm
  have hzb : z.natAbs ≤ 2 ^ (a + b) := by
    refine nat_le' ?_
    rw [← abs_int, ← hz, abs_mul, Nat.add_comm, show (((2 ^ (b + a) : Nat)) : Rat) = tw (b + a) from rfl, tw_add]
    have h1 : (M : Rat).abs ≤ tw a := by
      rw [Rat.abs_of_nonneg (nat_le (a := 0) (Nat.zero_le _))]
      exact nat_le hM
    have h2 := Rat.mul_le_mul_of_nonneg_left h1 (Rat.abs_nonneg (x := q))
    have h3 := Rat.mul_le_mul_of_nonneg_right h.ab (tw_pos a)
    exact Rat.le_trans h2 h3
  have p1 : (2 : Nat) ^ (a + b) < 2 ^ k := Nat.pow_lt_pow_right (by omega) hk
  have p2 : (2 : Nat) ^ a ≤ 2 ^ (a + b) := Nat.pow_le_pow_right (by omega) (by omega)
  rw [e]
  exact num_le (by omega) (by omega) (by omega)
theorem Bq.mul {M N b c : Nat} {p q : Rat} (h : Bq M b p) (g : Bq N c q) : Bq (M * N) (b + c) (p * q) := ⟨h.dv.mul g.dv, by
  rw [abs_mul, tw_add]
  exact Rat.le_trans (Rat.mul_le_mul_of_nonneg_right h.ab Rat.abs_nonneg) (Rat.mul_le_mul_of_nonneg_left g.ab (tw_pos b))⟩
theorem Bq.of_lg {k : Nat} {q : Rat} (h : lg q ≤ k) : Bq q.den k q ∧ q.den ≤ 2 ^ k := by
  have s := sz_of h
  have hn : q.abs ≤ tw k := by
    have e : q.abs * (q.den : Rat) = (q.num.natAbs : Rat) := by
      have h2 : q * (q.den : Rat) = (q.num : Rat) := by
        have h : q = (q.num : Rat) / (q.den : Rat) := by
          rw [← Rat.intCast_natCast, ← Rat.divInt_eq_div]
          exact (Rat.num_divInt_den q).symm
        have hd : (q.den : Rat) ≠ 0 := fun z => q.den_nz (Rat.natCast_eq_zero_iff.mp z)
        conv => lhs; arg 1; rw [h]
        exact Rat.div_mul_cancel hd
      rw [← abs_int, ← h2, abs_mul, Rat.abs_of_nonneg (x := (q.den : Rat)) (nat_le (a := 0) (Nat.zero_le _))]
    have h1 : (1 : Rat) ≤ (q.den : Rat) := nat_le (a := 1) q.den_pos
    have h3 := Rat.mul_le_mul_of_nonneg_left h1 (Rat.abs_nonneg (x := q))
    rw [Rat.mul_one, e] at h3
    exact Rat.le_trans h3 (nat_le (Nat.le_of_lt s.1))
  exact ⟨⟨Dv.self q, hn⟩, Nat.le_of_lt s.2⟩

/-! ### all of a list together -/
def Wt : List Tm → Rat
  | [] => 0
  | t :: ts => t.2.abs + Wt ts
theorem Wt_cons (t : Tm) (ts : List Tm) : Wt (t :: ts) = t.2.abs + Wt ts := rfl
theorem Wt_pos : ∀ ts : List Tm, 0 ≤ Wt ts
  | [] => by decide
  | t :: ts => Rat.add_nonneg Rat.abs_nonneg (Wt_pos ts)
theorem Wt_app (a b : List Tm) : Wt (a ++ b) = Wt a + Wt b := by
  induction a with
  | nil => exact (Rat.zero_add _).symm
  | cons t a ih => rw [List.cons_append, Wt_cons, Wt_cons, ih]; grind
theorem Wt_mem {t : Tm} {ts : List Tm} (h : t ∈ ts) : t.2.abs ≤ Wt ts := by
  induction ts with
  | nil => cases h
  | cons s ts ih =>
    have h1 := Wt_pos ts
    have h2 := Rat.abs_nonneg (x := s.2)
    rw [Wt_cons]
    rcases List.mem_cons.mp h with z | z
    · rw [z]; grind
    · have := ih z; grind
theorem Wt_take (k : Nat) (ts : List Tm) : Wt (ts.take k) ≤ Wt ts := by
  have h : Wt (ts.take k) + Wt (ts.drop k) = Wt ts := by rw [← Wt_app, List.take_append_drop]
  have := Wt_pos (ts.drop k)
  grind
theorem Wt_scl (c : Rat) (a : List Tm) : Wt (scl c a) = c.abs * Wt a := by
  induction a with
  | nil => exact (Rat.mul_zero _).symm
  | cons t a ih =>
    show (c * t.2).abs + Wt (scl c a) = _
    rw [ih, abs_mul, Wt_cons]; grind
theorem Wt_row (t : Tm) (b : List Tm) : Wt (b.map (mulT t)) = t.2.abs * Wt b := by
  induction b with
  | nil => exact (Rat.mul_zero _).symm
  | cons u b ih =>
    rw [List.map_cons, Wt_cons, Wt_cons, ih]
    show (t.2 * u.2).abs + _ = _
    rw [abs_mul]; grind
theorem Wt_prods (a b : List Tm) : Wt (prods a b) = Wt a * Wt b := by
  induction a with
  | nil => exact (Rat.zero_mul _).symm
  | cons t a ih => rw [prods_cons, Wt_app, Wt_row, ih, Wt_cons]; grind
theorem Wt_look {m : Dm} {k : List Int} : ((look m k).getD 0).abs ≤ Wt m := by
  induction m with
  | nil => show (0 : Rat).abs ≤ 0; rw [Rat.abs_zero]; exact Rat.le_refl
  | cons t m ih =>
    have h1 := Wt_pos m
    have h2 := Rat.abs_nonneg (x := t.2)
    have e : look (t :: m) k = if t.1 = k then some t.2 else look m k := rfl
    rw [e, Wt_cons]
    split
    · rw [Option.getD_some]; grind
    · grind
theorem Wt_put (m : Dm) (k : List Int) (s : Rat) : Wt (put m k ((look m k).getD 0 + s)) ≤ Wt m + s.abs := by
  induction m with
  | nil =>
    show (0 + s).abs + 0 ≤ 0 + s.abs
    rw [Rat.zero_add, Rat.zero_add, Rat.add_zero]
    exact Rat.le_refl
  | cons t m ih =>
    unfold put
    have e : look (t :: m) k = if t.1 = k then some t.2 else look m k := rfl
    rw [e]
    by_cases c : t.1 = k
    · rw [if_pos c, if_pos c, Wt_cons, Wt_cons, Option.getD_some]
      show (t.2 + s).abs + Wt m ≤ _
      have := abs_add t.2 s
      grind
    · rw [if_neg c, if_neg c, Wt_cons, Wt_cons]
      grind
theorem Wt_foldl : ∀ (ts : List Tm) (m : Dm), Wt (ts.foldl addM m) ≤ Wt m + Wt ts
  | [], m => by show Wt m ≤ Wt m + 0; rw [Rat.add_zero]; exact Rat.le_refl
  | t :: ts, m => by
    have h1 := Wt_foldl ts (addM m t)
    have h2 := Wt_put m t.1 t.2
    rw [List.foldl_cons, Wt_cons]
    unfold addM at h1 ⊢
    grind
theorem Wt_acc (ts : List Tm) : Wt (accM ts) ≤ Wt ts := by
  have h := Wt_foldl ts []
  have e : Wt [] = 0 := rfl
  rw [e, Rat.zero_add] at h
  exact h
theorem Wt_rsum (ts : List Tm) : Wt ts = rsum (ts.map fun t => t.2.abs) := by
  induction ts with
  | nil => rfl
  | cons t ts ih => rw [Wt_cons, ih]; rfl
theorem Wt_norm {n : Nat} {ts : List Tm} (ok : TOk n ts) : Wt (norm ts) ≤ Wt ts := by
  rw [Wt_rsum, sum_out (f := fun _ v => v.abs) (fun k => Rat.abs_zero) ok, ← Wt_rsum]
  exact Wt_acc ts
def DvL (M : Nat) (ts : List Tm) : Prop := ∀ t ∈ ts, Dv M t.2
theorem DvL.cf {M : Nat} {ts : List Tm} (h : DvL M ts) (k : List Int) : Dv M (cf ts k) := by
  induction ts with
  | nil => exact Dv.zero
  | cons t ts ih =>
    refine Dv.add ?_ (ih fun s hs => h s (List.mem_cons_of_mem _ hs))
    split
    · exact h t List.mem_cons_self
    · exact Dv.zero
theorem DvL.norm {M n : Nat} {ts : List Tm} (ok : TOk n ts) (h : DvL M ts) : DvL M (norm ts) := fun t ht => by
  have e := can_cf (can_norm ok) ht
  rw [cf_norm ok] at e
  rw [← e]
  exact h.cf _
theorem DvL.app {M : Nat} {a b : List Tm} (h : DvL M a) (g : DvL M b) : DvL M (a ++ b) := fun t ht => (List.mem_append.mp ht).elim (h t) (g t)
theorem DvL.prods {M N : Nat} {a b : List Tm} (h : DvL M a) (g : DvL N b) : DvL (M * N) (prods a b) := fun t ht => by
  obtain ⟨x, hx, q⟩ := List.mem_flatMap.mp ht
  obtain ⟨y, hy, rfl⟩ := List.mem_map.mp q
  exact (h x hx).mul (g y hy)
theorem DvL.scl {M N : Nat} {c : Rat} {a : List Tm} (h : Dv N c) (g : DvL M a) : DvL (N * M) (scl c a) := fun t ht => by
  obtain ⟨s, hs, rfl⟩ := List.mem_map.mp ht
  exact h.mul (g s hs)
theorem DvL.up {M : Nat} {a : List Tm} (N : Nat) (h : DvL M a) : DvL (M * N) a := fun t ht => (h t ht).up N
theorem DvL.up' {M : Nat} {a : List Tm} (N : Nat) (h : DvL M a) : DvL (N * M) a := fun t ht => (h t ht).up' N
/-- M for a bottom of all, all together no greater than 2 to b -/
structure BdM (M b : Nat) (ts : List Tm) : Prop where
  dv : DvL M ts
  wt : Wt ts ≤ tw b
def Bd (a b : Nat) (ts : List Tm) : Prop := ∃ M, 0 < M ∧ M ≤ 2 ^ a ∧ BdM M b ts
theorem BdM.q {M b : Nat} {ts : List Tm} (h : BdM M b ts) {t : Tm} (ht : t ∈ ts) : Bq M b t.2 := ⟨h.dv t ht, Rat.le_trans (Wt_mem ht) h.wt⟩
/-- what stands at a key behind some terms -/
theorem BdM.at_ {M b : Nat} {ts : List Tm} (h : BdM M b ts) (k : Nat) (key : List Int) : Bq M b ((look (accM (ts.take k)) key).getD 0) := by
  refine ⟨?_, Rat.le_trans Wt_look (Rat.le_trans (Wt_acc _) (Rat.le_trans (Wt_take k ts) h.wt))⟩
  rw [look_acc]
  exact DvL.cf (fun t ht => h.dv t (List.mem_of_mem_take ht)) key
theorem BdM.norm {M b n : Nat} {ts : List Tm} (ok : TOk n ts) (h : BdM M b ts) : BdM M b (norm ts) := ⟨h.dv.norm ok, Rat.le_trans (Wt_norm ok) h.wt⟩
theorem BdM.prods {M N b c : Nat} {p q : List Tm} (h : BdM M b p) (g : BdM N c q) : BdM (M * N) (b + c) (prods p q) := ⟨h.dv.prods g.dv, by
  rw [Wt_prods, tw_add]
  exact Rat.le_trans (Rat.mul_le_mul_of_nonneg_right h.wt (Wt_pos q)) (Rat.mul_le_mul_of_nonneg_left g.wt (tw_pos b))⟩
theorem BdM.app {M b : Nat} {p q : List Tm} (h : BdM M b p) (g : BdM M b q) : BdM M (b + 1) (p ++ q) := ⟨h.dv.app g.dv, by
  rw [Wt_app, tw_succ]
  have := h.wt
  have := g.wt
  grind⟩
theorem BdM.mono {M b c : Nat} {p : List Tm} (h : BdM M b p) (hc : b ≤ c) : BdM M c p := ⟨h.dv, Rat.le_trans h.wt (tw_le hc)⟩
theorem BdM.up {M b : Nat} {p : List Tm} (N : Nat) (h : BdM M b p) : BdM (M * N) b p := ⟨h.dv.up N, h.wt⟩
theorem BdM.up' {M b : Nat} {p : List Tm} (N : Nat) (h : BdM M b p) : BdM (N * M) b p := ⟨h.dv.up' N, h.wt⟩
theorem two_mul_le {M N a b : Nat} (h : M ≤ 2 ^ a) (g : N ≤ 2 ^ b) : M * N ≤ 2 ^ (a + b) := by
  rw [Nat.pow_add]; exact Nat.mul_le_mul h g
section
variable {a b c d n : Nat} {p q : List Tm}
theorem Bd.norm (ok : TOk n p) (h : Bd a b p) : Bd a b (norm p) := let ⟨M, h0, h1, h2⟩ := h; ⟨M, h0, h1, h2.norm ok⟩
theorem Bd.prods (h : Bd a b p) (g : Bd c d q) : Bd (a + c) (b + d) (prods p q) := let ⟨M, h0, h1, h2⟩ := h; let ⟨N, g0, g1, g2⟩ := g; ⟨M * N, Nat.mul_pos h0 g0, two_mul_le h1 g1, h2.prods g2⟩
theorem Bd.app (h : Bd a b p) (g : Bd c d q) : Bd (a + c) (max b d + 1) (p ++ q) := let ⟨M, h0, h1, h2⟩ := h; let ⟨N, g0, g1, g2⟩ := g; ⟨M * N, Nat.mul_pos h0 g0, two_mul_le h1 g1, ((h2.up N).mono (by omega)).app ((g2.up' M).mono (by omega))⟩
theorem Bd.mono (h : Bd a b p) (h1 : a ≤ c) (h2 : b ≤ d) : Bd c d p := let ⟨M, z0, z1, z2⟩ := h; ⟨M, z0, Nat.le_trans z1 (Nat.pow_le_pow_right (by omega) h1), z2.mono h2⟩
theorem Bd.nil : Bd 0 0 [] := ⟨1, by omega, by omega, fun t h => (nomatch h), by show (0 : Rat) ≤ _; exact tw_pos _⟩
theorem Bd.of_tot : ∀ (ts : List Tm), Bd (tot ts) (tot ts) ts
  | [] => Bd.nil
  | t :: ts => by
    obtain ⟨M, h0, h1, h2⟩ := Bd.of_tot ts
    obtain ⟨g1, g2⟩ := Bq.of_lg (q := t.2) (Nat.le_refl _)
    refine ⟨t.2.den * M, Nat.mul_pos t.2.den_pos h0, ?_, fun s hs => ?_, ?_⟩
    · have := two_mul_le g2 h1
      rw [tot_cons]
      exact Nat.le_trans this (Nat.pow_le_pow_right (by omega) (by omega))
    · rcases List.mem_cons.mp hs with z | z
      · rw [z]; exact g1.dv.up M
      · exact (h2.dv s z).up' _
    · rw [tot_cons, Wt_cons]
      have h3 := g1.ab
      have h4 := h2.wt
      have h5 : tw (lg t.2) ≤ tw (lg t.2 + tot ts) := tw_le (by omega)
      have h6 : tw (tot ts) ≤ tw (lg t.2 + tot ts) := tw_le (by omega)
      rw [show lg t.2 + 1 + tot ts = (lg t.2 + tot ts) + 1 by omega, tw_succ]
      grind
theorem Bd.one (n : Nat) : Bd 0 0 [((List.replicate n 0 : List Int), (1 : Rat))] := ⟨1, by omega, by omega, fun t h => by rw [List.mem_singleton.mp h]; exact Dv.one, by
  show (1 : Rat).abs + 0 ≤ _
  rw [Rat.add_zero, Rat.abs_of_nonneg (by decide)]
  exact tw_one _⟩
end

/-! ### powers that are no greater, and how many there are -/
def PB (m : Int) (p : List Tm) : Prop := ∀ t ∈ p, ∀ j ∈ t.1, j ≤ m
theorem PB.mono {m k : Int} {p : List Tm} (h : PB m p) (hk : m ≤ k) : PB k p := fun t ht j hj => Int.le_trans (h t ht j hj) hk
theorem PB.app {m : Int} {p q : List Tm} (h : PB m p) (g : PB m q) : PB m (p ++ q) := fun t ht => (List.mem_append.mp ht).elim (h t) (g t)
theorem pb_nil {m : Int} : PB m [] := fun t h => nomatch h
theorem pb_prods {m k : Int} {a b : List Tm} (ha : PB m a) (hb : PB k b) : PB (m + k) (prods a b) := fun t ht => by
  obtain ⟨x, hx, h⟩ := List.mem_flatMap.mp ht
  obtain ⟨y, hy, rfl⟩ := List.mem_map.mp h
  exact zip_le (ha x hx) (hb y hy)
theorem pb_scl {m : Int} {c : Rat} {p : List Tm} (h : PB m p) : PB m (scl c p) := fun t ht => by
  obtain ⟨s, hs, rfl⟩ := List.mem_map.mp ht
  exact h s hs
theorem keys_acc {K : List Int → Prop} {ts : List Tm} (h : ∀ t ∈ ts, K t.1) : ∀ t ∈ accM ts, K t.1 := by
  have : ∀ (ts : List Tm) (m : Dm), (∀ t ∈ ts, K t.1) → (∀ t ∈ m, K t.1) → ∀ t ∈ ts.foldl addM m, K t.1 := by
    intro ts
    induction ts with
    | nil => exact fun m _ hm => hm
    | cons t ts ih =>
      intro m h hm
      refine ih _ (fun s hs => h s (List.mem_cons_of_mem _ hs)) fun s hs => ?_
      rcases put_mem hs with z | z
      · rw [z]; exact h t List.mem_cons_self
      · exact hm s z
  exact this ts [] h fun t z => nomatch z
theorem keys_norm {K : List Int → Prop} {n : Nat} {ts : List Tm} (ok : TOk n ts) (h : ∀ t ∈ ts, K t.1) : ∀ t ∈ norm ts, K t.1 := fun t ht => by
  have nz := (can_norm ok).nz t ht
  have e := can_cf (can_norm ok) ht
  rw [cf_norm ok] at e
  have : ∃ s ∈ ts, s.1 = t.1 := by
    false_or_by_contra
    rename_i c
    refine nz (e.symm.trans (cf_none fun s hs z => c ⟨s, hs, z⟩))
  obtain ⟨s, hs, z⟩ := this
  rw [← z]
  exact h s hs
theorem pb_norm {m : Int} {n : Nat} {ts : List Tm} (ok : TOk n ts) (h : PB m ts) : PB m (norm ts) := keys_norm (K := fun k => ∀ j ∈ k, j ≤ m) ok h
theorem pb_acc {m : Int} {ts : List Tm} (h : PB m ts) : PB m (accM ts) := keys_acc (K := fun k => ∀ j ∈ k, j ≤ m) h
theorem nodup_lt : ∀ (N : Nat) (l : List Nat), l.Nodup → (∀ x ∈ l, x < N) → l.length ≤ N
  | 0, l, _, h => by
    cases l with
    | nil => exact Nat.le_refl _
    | cons x l => exact absurd (h x List.mem_cons_self) (by omega)
  | N + 1, l, hn, h => by
    have h1 := nodup_lt N (l.erase N) (hn.erase N) fun x hx => by
      have a := h x (List.mem_of_mem_erase hx)
      have b : x ≠ N := fun z => by
        subst z
        exact absurd hx (hn.not_mem_erase)
      omega
    by_cases c : N ∈ l
    · rw [List.length_erase_of_mem c] at h1
      omega
    · rw [List.erase_of_not_mem c] at h1
      omega
def codeN (b : Nat) : List Int → Nat
  | [] => 0
  | i :: k => i.toNat + (b + 1) * codeN b k
theorem codeN_lt (b : Nat) : ∀ k : List Int, (∀ i ∈ k, 0 ≤ i ∧ i ≤ b) → codeN b k < (b + 1) ^ k.length
  | [], _ => by show 0 < (b + 1) ^ 0; rw [Nat.pow_zero]; omega
  | i :: k, h => by
    have ih := codeN_lt b k fun j hj => h j (List.mem_cons_of_mem _ hj)
    have h1 := h i List.mem_cons_self
    show i.toNat + (b + 1) * codeN b k < (b + 1) ^ (k.length + 1)
    rw [Nat.pow_succ]
    have : (b + 1) * (codeN b k + 1) ≤ (b + 1) * (b + 1) ^ k.length := Nat.mul_le_mul_left _ ih
    rw [Nat.mul_add, Nat.mul_one] at this
    rw [Nat.mul_comm ((b + 1) ^ k.length)]
    omega
theorem codeN_inj (b : Nat) : ∀ k l : List Int, k.length = l.length → (∀ i ∈ k, 0 ≤ i ∧ i ≤ b) → (∀ i ∈ l, 0 ≤ i ∧ i ≤ b) → codeN b k = codeN b l → k = l
  | [], [], _, _, _, _ => rfl
  | [], _ :: _, h, _, _, _ => by cases h
  | _ :: _, [], h, _, _, _ => by cases h
  | i :: k, j :: l, h, hk, hl, e => by
    have a := hk i List.mem_cons_self
    have c := hl j List.mem_cons_self
    have e : i.toNat + (b + 1) * codeN b k = j.toNat + (b + 1) * codeN b l := e
    have m1 : (i.toNat + (b + 1) * codeN b k) % (b + 1) = i.toNat := by
      rw [Nat.add_mul_mod_self_left]; exact Nat.mod_eq_of_lt (by omega)
    have m2 : (j.toNat + (b + 1) * codeN b l) % (b + 1) = j.toNat := by
      rw [Nat.add_mul_mod_self_left]; exact Nat.mod_eq_of_lt (by omega)
    rw [e, m2] at m1
    have m3 : (b + 1) * codeN b k = (b + 1) * codeN b l := by omega
    have m4 := Nat.eq_of_mul_eq_mul_left (by omega) m3
    rw [codeN_inj b k l (Nat.succ.inj h) (fun i z => hk i (List.mem_cons_of_mem _ z)) (fun i z => hl i (List.mem_cons_of_mem _ z)) m4]
    congr 1
    omega
theorem keys_len {b n : Nat} {l : List (List Int)} (hn : l.Nodup) (h : ∀ k ∈ l, k.length = n ∧ ∀ i ∈ k, 0 ≤ i ∧ i ≤ (b : Int)) : l.length ≤ (b + 1) ^ n := by
  have := nodup_lt ((b + 1) ^ n) (l.map (codeN b)) ?_ fun x hx => ?_
  · rw [List.length_map] at this; exact this
  · refine List.pairwise_map.mpr (List.Pairwise.imp_of_mem (fun {x y} hx hy z => ?_) hn)
    exact fun e => z (codeN_inj b x y ((h x hx).1.trans (h y hy).1.symm) (h x hx).2 (h y hy).2 e)
  · obtain ⟨k, hk, rfl⟩ := List.mem_map.mp hx
    have := codeN_lt b k (h k hk).2
    rw [(h k hk).1] at this
    exact this
theorem can_len {b n : Nat} {p : List Tm} (h : Can n p) (pb : PB b p) : p.length ≤ (b + 1) ^ n := by
  rw [← List.length_map (f := (·.1))]
  refine keys_len (can_nodup h) fun k hk => ?_
  obtain ⟨t, ht, rfl⟩ := List.mem_map.mp hk
  exact ⟨(h.ok t ht).1, fun i hi => ⟨(h.ok t ht).2 i hi, pb t ht i hi⟩⟩
theorem acc_len' {b n : Nat} {ts : List Tm} (h : TOk n ts) (pb : PB b ts) (k : Nat) : (accM (ts.take k)).length ≤ (b + 1) ^ n := by
  have h1 : TOk n (ts.take k) := fun t ht => h t (List.mem_of_mem_take ht)
  have h2 : PB b (ts.take k) := fun t ht => pb t (List.mem_of_mem_take ht)
  have h3 := h1.acc
  have h4 := pb_acc h2
  rw [← List.length_map (f := (·.1))]
  refine keys_len (accM_nodup _) fun j hj => ?_
  obtain ⟨t, ht, rfl⟩ := List.mem_map.mp hj
  exact ⟨(h3 t ht).1, fun i hi => ⟨(h3 t ht).2 i hi, h4 t ht i hi⟩⟩
end PM

set_option Elab.async false
set_option linter.all false
set_option maxRecDepth 100000
set_option exponentiation.threshold 10000
set_option maxHeartbeats 4000000
/-! POL: the program's polynomials: sums, products. -/
namespace PM
open PySem PySem.Spec L2
open PyProof.Rows hiding St

section
variable {n : Nv} (k : D → T R) (kT : D → T RT)
@[simp] theorem rdK_own (i : Plc) : R.rdK n k (.own i) = (match n.ownOf i with | some d => k d | none => .pure .bad) := rfl
@[simp] theorem rdTK_own (i : Plc) : R.rdTK n kT (.own i) = (match n.ownOf i with | some d => kT d | none => .pure .bad) := rfl
@[simp] theorem argK_own (i : Plc) (t : T RL) : R.argK n t (.own i) = (match n.ownOf i with | some d => T.consL d true t | none => .pure .bad) := rfl
@[simp] theorem consL_def (d : D) (o : Bool) (l : T RL) : T.consL d o l = l.bind fun l => .pure (l.cons d o) := rfl
@[simp] theorem ret_own (i : Plc) : (R.own i).ret n = (match n.ownOf i with | some d => .ret (.fresh d) | none => .bad) := rfl
@[simp] theorem flatten_ok (d : D) : (R.ok d).flatten = if flat d = true then .ok d else .bad := rfl
@[simp] theorem flatten_fr (ds : List D) : (R.fresh (.lst ds)).flatten = if flatL ds = true then .fresh (.lst ds) else .bad := rfl
end
@[simp] theorem itU_P (p : List Tm) : itU [encP p] = some (p.map encT) := rfl
@[simp] theorem itU_l (p : List D) : itU [.lst p] = some p := rfl
@[simp] theorem turnS_tp (i j : Nat) (b : Nv → T RS) (t : Tm) (n : Nv) : turnS (.tp [.nm i, .nm j]) b (encT t) n = b ((n.set i (.val (.pw t.1))).set j (.val (encR t.2))) := rfl
@[simp] theorem bindT_tp (i j : Nat) (t : Tm) (n : Nv) : bindT (.tp [.nm i, .nm j]) (encT t) n = some ((n.set i (.val (.pw t.1))).set j (.val (encR t.2))) := rfl
@[simp] theorem bindT_nm (i : Nat) (d : D) (n : Nv) : bindT (.nm i) d n = some (n.set i (.val d)) := rfl
theorem lc_eq {φ : List D → Option (List D)} {f : D → T RC} {ds items xs : List D} (h : φ ds = some items) (hl : items.length ≤ 1000000) (e : lcL f items = .pure (some xs)) : RL.lc φ f (.ok ds false) = .pure (.fresh (.lst xs)) := by
  show (match φ ds with | some items => if (!(false && !flatL items) && decide (items.length ≤ lineMax)) = true then (lcL f items).bind fun x => .pure (R.ofList x) else .pure .bad | none => .pure .bad) = _
  rw [h]
  dsimp only
  have c : (!(false && !flatL items) && decide (items.length ≤ lineMax)) = true := by
    simp
    unfold lineMax
    omega
  rw [if_pos c, e]
  rfl
theorem lc_eqO {φ : List D → Option (List D)} {f : D → T RC} {ds items xs : List D} {o : Bool} (h : φ ds = some items) (hf : flatL items = true) (hl : items.length ≤ 1000000) (e : lcL f items = .pure (some xs)) : RL.lc φ f (.ok ds o) = .pure (.fresh (.lst xs)) := by
  show (match φ ds with | some items => if (!(o && !flatL items) && decide (items.length ≤ lineMax)) = true then (lcL f items).bind fun x => .pure (R.ofList x) else .pure .bad | none => .pure .bad) = _
  rw [h]
  dsimp only
  have c : (!(o && !flatL items) && decide (items.length ≤ lineMax)) = true := by
    rw [hf]
    simp
    unfold lineMax
    omega
  rw [if_pos c, e]
  rfl
@[simp] theorem turn_nm (i : Nat) (n : Nv) (c : Nv → T RT) (e : Nv → T R) (d : D) : turn (.nm i) n c e d = T.keep (c (n.set i (.val d))) (e (n.set i (.val d))) := rfl
@[simp] theorem turn_tp (i j : Nat) (n : Nv) (c : Nv → T RT) (e : Nv → T R) (t : Tm) : turn (.tp [.nm i, .nm j]) n c e (encT t) = T.keep (c ((n.set i (.val (.pw t.1))).set j (.val (encR t.2)))) (e ((n.set i (.val (.pw t.1))).set j (.val (encR t.2)))) := rfl
@[simp] theorem keep_t (k : T R) : T.keep (.pure (.ok true)) k = k.bind fun r => .pure r.keep := rfl
@[simp] theorem keep_f (k : T R) : T.keep (.pure (.ok false)) k = .pure .skip := rfl
@[simp] theorem Rkeep_ok (d : D) : (R.ok d).keep = .keep d := rfl
@[simp] theorem Rkeep_fr (d : D) : (R.fresh d).keep = .keep d := rfl
@[simp] theorem wipe_nil (n : Nv) : wipeN n [] = n := rfl
@[simp] theorem wipe_cons (n : Nv) (i : Nat) (r : List Nat) : wipeN n (i :: r) = wipeN (n.set i .emp) r := rfl
theorem lcL_fm {α : Type} {f : D → T RC} {e : α → D} {g : α → Option D} : ∀ {l : List α}, (∀ a ∈ l, f (e a) = .pure (match g a with | some x => .keep x | none => .skip)) → lcL f (l.map e) = .pure (some (l.filterMap g))
  | [], _ => lcL_nil f
  | a :: l, h => by
    rw [List.map_cons, lcL_cons]
    rw [h a List.mem_cons_self]
    simp only [T.bind_p]
    have ih := lcL_fm fun d hd => h d (List.mem_cons_of_mem _ hd)
    cases c : g a with
    | none => simp only [c, List.filterMap_cons, ih]
    | some x =>
      simp only [c, List.filterMap_cons, ih]
      rfl
theorem lcL_mp {α : Type} {f : D → T RC} {e g : α → D} {l : List α} (h : ∀ a ∈ l, f (e a) = .pure (.keep (g a))) : lcL f (l.map e) = .pure (some (l.map g)) := by
  have := lcL_fm (f := f) (e := e) (g := fun a => some (g a)) (l := l) h
  rw [this]
  simp
theorem for_terms {n : Nv} {i j : Nat} {es : List E} {ts : List Tm} {body : List S} {Q : RS → Prop} (hev : evs es n = .pure (.ok [encP ts] false)) (I : Nat → Nv → Prop) (start : I 0 n)
    (step : ∀ (k : Nat) (t : Tm) (n : Nv), ts[k]? = some t → I k n → (exs body ((n.set i (.val (.pw t.1))).set j (.val (encR t.2)))).all (turnEnd (I (k + 1)) Q)) (done : ∀ n, I ts.length n → Q (.next n)) : (ex (.for_ (.tp [.nm i, .nm j]) .ex itU es body) n).all Q := by
  rw [ex_for, hev, T.bind_p, vals_ok, itU_P]
  refine forL_idx I start (fun k d n e q => ?_) (by rw [List.length_map]; exact done)
  rw [List.getElem?_map] at e
  obtain ⟨t, ht, rfl⟩ := Option.map_eq_some_iff.mp e
  exact step k t n ht q
/-- constants -/
abbrev c_NOUGHT : D := .tup (([0, 1] : List Int).map .int)
abbrev c_ONE : D := .tup (([1, 1] : List Int).map .int)
theorem nought_R : c_NOUGHT = encR 0 := rfl
theorem one_Rq : c_ONE = encR 1 := rfl
theorem accM_take {ts : List Tm} {k : Nat} {t : Tm} (h : ts[k]? = some t) : accM (ts.take (k + 1)) = addM (accM (ts.take k)) t := by
  unfold accM
  rw [List.take_succ, h]
  simp
theorem tok_take {n k : Nat} {ts : List Tm} (h : TOk n ts) : TOk n (ts.take k) := fun t ht => h t (List.mem_of_mem_take ht)
theorem tot_take (k : Nat) (ts : List Tm) : tot (ts.take k) ≤ tot ts := by
  have e := List.take_append_drop k ts
  have : tot (ts.take k) + tot (ts.drop k) = tot ts := by rw [← tot_app, e]
  omega
theorem tot_acc (ts : List Tm) : tot (accM ts) ≤ tot ts := by
  have h := tot_foldl ts []
  have e : tot [] = 0 := rfl
  unfold accM
  omega
theorem acc_len (ts : List Tm) : (accM ts).length ≤ ts.length := by
  have h := foldl_len ts []
  unfold accM
  simpa using h
theorem wsOf_M (m : Dm) : wsOf (m.map fun t => keyW t.1) = some (m.map (·.1)) := by
  have e : (m.map fun t => keyW t.1) = (m.map (·.1)).map keyW := by rw [List.map_map]; rfl
  rw [e, wsOf_keyW]
theorem sorted_M {m : Dm} (h : PwOk (m.map (·.1))) : sortedD [encM m] = .fresh (.lst ((sortW (m.map (·.1))).map .pw)) := by
  unfold encM sortedD
  dsimp only
  rw [wsOf_M]
  dsimp only
  rw [if_pos h]
theorem ix_M (m : Dm) (k : List Int) : ixU (encM m) (.pw k) = .pure (match look m k with | some v => .ok (encR v) | none => .bad) := by
  unfold encM
  rw [ixU_dT]
  unfold ixKey
  rw [val_look]
  cases look m k <;> rfl
theorem in_M (m : Dm) (k : List Int) : inD (.pw k) (encM m) = .ok (.bl (look m k).isSome) := by
  show R.ok (.bl (if false = true then _ else (valD _ _ (keyW k)).isSome)) = _
  rw [val_look]
  cases look m k <;> rfl
theorem get_M (m : Dm) : m_get (encM m) = some (getL (m.map fun t => keyW t.1) (m.map fun t => encR t.2)) := rfl
theorem getL_M (m : Dm) (k : List Int) (q : Rat) : getL (m.map fun t => keyW t.1) (m.map fun t => encR t.2) [.pw k, encR q] = .ok (encR ((look m k).getD q)) := by
  show R.ok ((valD _ _ (keyW k)).getD (encR q)) = _
  rw [val_look]
  cases look m k <;> rfl
theorem set_M {m : Dm} (k : List Int) (v : Rat) (h : (m.map (·.1)).Nodup) (hl : m.length < 1000000) : setD (encM m) (.pw k) (encR v) = some (encM (put m k v)) := by
  unfold encM setD
  dsimp only
  rw [if_pos (by rw [List.length_map]; unfold lineMax; omega), putD_put h]
theorem flat_W (l : List (List Int)) : flatL (l.map .pw) = true := by
  induction l with
  | nil => rfl
  | cons t p ih =>
    rw [List.map_cons, flatL, ih]
    rfl
/-- a dict of terms that can be sorted and told -/
def MOk (m : Dm) : Prop := PwOk (m.map (·.1))
namespace F
noncomputable def by_powers : List D → T R := Fn (fun m : Dm => [encM m]) MOk fun m => .pure (.fresh (encP (outM m)))
theorem encM_inj {a b : Dm} (h : encM a = encM b) : a = b := by
  unfold encM at h
  simp only [D.dT.injEq] at h
  have h1 : a.map (·.1) = b.map (·.1) := by
    have := congrArg (List.map wOf) h.1
    simp only [List.map_map] at this
    have e : (wOf ∘ fun t : Tm => keyW t.1) = fun t : Tm => some t.1 := funext fun t => wOf_keyW t.1
    rw [e] at this
    have e2 : ∀ l : Dm, (l.map fun t : Tm => some t.1) = (l.map (·.1)).map some := fun l => by rw [List.map_map]; rfl
    rw [e2, e2] at this
    exact (List.map_inj_right fun _ _ z => Option.some.inj z).mp this
  have h2 : a.map (·.2) = b.map (·.2) := by
    have e2 : ∀ l : Dm, (l.map fun t : Tm => encR t.2) = (l.map (·.2)).map encR := fun l => by rw [List.map_map]; rfl
    rw [e2, e2] at h
    exact (List.map_inj_right fun _ _ z => encR_inj z).mp h.2
  have hz : ∀ l : Dm, l = (l.map (·.1)).zip (l.map (·.2)) := fun l => by
    induction l with
    | nil => rfl
    | cons t l ih => rw [List.map_cons, List.map_cons, List.zip_cons_cons, ← ih]
  rw [hz a, hz b, h1, h2]
theorem inj1 {α : Type} {e : α → D} (h : ∀ {a b}, e a = e b → a = b) : ∀ a b, [e a] = [e b] → a = b := fun a b z => h (List.cons.inj z).1
theorem by_powers_1 {m : Dm} (h : MOk m) : by_powers [encM m] = .pure (.fresh (encP (outM m))) := Fn_eq (a := m) (inj1 encM_inj) h
end F
noncomputable def C_by_powers_0 : E := (.cmp .NotEq neD (.ix ixU (.v 0) (.v 1)) (.g "NOUGHT" c_NOUGHT))
noncomputable def C_by_powers_1 : E := (.tup [.v 1, .ix ixU (.v 0) (.v 1)])
abbrev N_by_powers : List Str := ["found", "powers"]
noncomputable def B_by_powers : List S := [.ret (.lc (.nm 1) .ex itU [.call "sorted" (opc sortedD) [.v 0]] C_by_powers_0 C_by_powers_1 [("powers", 1)])]
theorem out_fm (m : Dm) (l : List (List Int)) : l.filterMap (fun k => if (look m k).getD 0 = 0 then none else some (encT (k, (look m k).getD 0))) = (l.filterMap fun k => if (look m k).getD 0 = 0 then none else some (k, (look m k).getD 0)).map encT := by
  induction l with
  | nil => rfl
  | cons k l ih =>
    rw [List.filterMap_cons, List.filterMap_cons]
    by_cases c : (look m k).getD 0 = 0
    · simp only [c, if_true]
      exact ih
    · simp only [c, if_false, List.map_cons]
      rw [ih]
theorem p_by_powers : ∀ ds (P : R → Prop), ¬ P .bad → (F.by_powers ds).all P → (runF 1 2 B_by_powers ds).all P := Fn_as fun m hm P hP h => by
  have h : P (.fresh (encP (outM m))) := h
  have sp := sortW_spec (l := m.map (·.1)) hm.2.1 (n := hm.2.2.choose) fun b hb => (hm.2.2.choose_spec.2 b hb).1
  have mem : ∀ k ∈ sortW (m.map (·.1)), (look m k).isSome = true := fun k hk => look_mem.mpr (sp.1.mem_iff.mp hk)
  have hl : (sortW (m.map (·.1))).length < 1000000 := by rw [sp.1.length_eq]; exact hm.1
  have es := sorted_M hm
  have lc : RL.lc itU (turn (.nm 1) [.val (encM m), .emp] (fun n' => evT C_by_powers_0 n') fun n' => ev C_by_powers_1 n') (.ok [.lst ((sortW (m.map (·.1))).map .pw)] false) = .pure (.fresh (encP (outM m))) := by
    have := lc_eq (φ := itU) (f := turn (.nm 1) [.val (encM m), .emp] (fun n' => evT C_by_powers_0 n') fun n' => ev C_by_powers_1 n') (ds := [.lst ((sortW (m.map (·.1))).map .pw)]) rfl (by rw [List.length_map]; omega) (lcL_fm (g := fun k => if (look m k).getD 0 = 0 then none else some (encT (k, (look m k).getD 0))) fun k hk => ?_)
    · rw [this, out_fm]
      rfl
    · obtain ⟨v, hv⟩ := Option.isSome_iff_exists.mp (mem k hk)
      have ix := ix_M m k
      rw [hv] at ix
      unfold C_by_powers_0 C_by_powers_1
      rw [hv, Option.getD_some]
      by_cases c : v = 0
      · subst c
        simp [ix, nought_R]
      · simp [ix, nought_R, c]
        rfl
  unfold B_by_powers
  simp [es]
  rw [lc]
  simp
  exact h

/-- terms that can be gathered -/
structure GOkN (n b u v : Nat) (ts : List Tm) : Prop where
  n1 : 1 ≤ n
  ok : TOk n ts
  pb : PB (b : Int) ts
  few : (b + 1) ^ n < 1000000
  bd : Bd u v ts
  small : u + v < 4000
def GOk (ts : List Tm) : Prop := ∃ n b u v, GOkN n b u v ts
/-- the same, told by how many keys there are -/
structure GOkW (n u v : Nat) (ts : List Tm) : Prop where
  n1 : 1 ≤ n
  ok : TOk n ts
  few : ∀ k, (accM (ts.take k)).length < 1000000
  bd : Bd u v ts
  small : u + v < 4000
def GOkE (ts : List Tm) : Prop := ∃ n u v, GOkW n u v ts
theorem GOk.e {ts : List Tm} (h : GOk ts) : GOkE ts := by
  obtain ⟨n, b, u, v, g⟩ := h
  exact ⟨n, u, v, g.n1, g.ok, fun k => Nat.lt_of_le_of_lt (acc_len' g.ok g.pb k) g.few, g.bd, g.small⟩
theorem GOkE.of_len {n u v : Nat} {ts : List Tm} (n1 : 1 ≤ n) (ok : TOk n ts) (l : ts.length < 1000000) (bd : Bd u v ts) (small : u + v < 4000) : GOkE ts := ⟨n, u, v, n1, ok, fun k => by
  have := acc_len (ts.take k)
  have : (ts.take k).length ≤ ts.length := by rw [List.length_take]; omega
  omega, bd, small⟩
theorem acc_few {n b : Nat} {ts : List Tm} (ok : TOk n ts) (pb : PB (b : Int) ts) (few : (b + 1) ^ n < 1000000) : (accM ts).length < 1000000 := by
  have := acc_len' ok pb ts.length
  rw [List.take_length] at this
  omega
theorem GOkE.m {ts : List Tm} (h : GOkE ts) : MOk (accM ts) := by
  obtain ⟨n, u, v, g⟩ := h
  have f := g.few ts.length
  rw [List.take_length] at f
  exact pwOk_of g.n1 g.ok.acc (accM_nodup ts) f
theorem GOk.m {ts : List Tm} (h : GOk ts) : MOk (accM ts) := h.e.m
namespace F
noncomputable def gathered : List D → T R := Fn (fun ts : List Tm => [encP ts]) GOkE fun ts => .pure (.fresh (encP (norm ts)))
theorem gathered_e {ts : List Tm} (h : GOkE ts) : gathered [encP ts] = .pure (.fresh (encP (norm ts))) := Fn_eq (a := ts) (inj1 encP_inj) h
theorem gathered_1 {ts : List Tm} (h : GOk ts) : gathered [encP ts] = .pure (.fresh (encP (norm ts))) := gathered_e h.e
end F
noncomputable def L_gathered_0 : List S := [.ifs (.cmp .In inD (.v 2) (.v 1)) [.set 3 (.call "plus" F.plus [.ix ixU (.v 1) (.v 2), .v 3]), .frz 3] [], .seti 1 setD (.v 2) (.v 3)]
abbrev N_gathered : List Str := ["terms", "found", "powers", "share"]
noncomputable def B_gathered : List S := [.set 1 (.dnew (.dT [] [])), .for_ (.tp [.nm 2, .nm 3]) .ex itU [.v 0] L_gathered_0, .frz 1, .ret (.call "by_powers" F.by_powers [.v 1])]
theorem flat_M (m : Dm) : flatL (List.map encT m) = true := flat_P m
theorem p_gathered : ∀ ds (P : R → Prop), ¬ P .bad → (F.gathered ds).all P → (runF 1 4 B_gathered ds).all P := Fn_as fun ts hg P hP h => by
  have h : P (.fresh (encP (norm ts))) := h
  obtain ⟨n, u, v, g⟩ := id hg
  have ok := g.ok
  obtain ⟨M, hM0, hM1, hM⟩ := g.bd
  have hs := g.small
  refine run_all rfl ?_
  unfold B_gathered
  refine exs_all ?_
  have e0 : ex (.set 1 (.dnew (.dT [] []))) (startN 4 [encP ts]) = .pure (.next [.val (encP ts), .own (encM []), .emp, .emp]) := by
    simp
    rfl
  rw [e0]
  refine exs_all (for_terms (ts := ts) (by simp) (fun k n => ∃ a b, n = [.val (encP ts), .own (encM (accM (ts.take k))), a, b]) ⟨_, _, rfl⟩ (fun k t n e q => ?_) (fun n q => ?_))
  · obtain ⟨a, b, rfl⟩ := q
    have nd := accM_nodup (ts.take k)
    have ln : (accM (ts.take k)).length < 1000000 := g.few k
    have ea := accM_take e
    have sv : sz 4000 ((look (accM (ts.take k)) t.1).getD 0) := (hM.at_ k t.1).sz hM0 hM1 (by omega)
    generalize hm : accM (ts.take k) = m at nd ln ea sv ⊢
    have st : sz 4000 t.2 := (hM.q (List.mem_of_getElem? e)).sz hM0 hM1 (by omega)
    have ei := in_M m t.1
    have ex := ix_M m t.1
    have es := fun v => set_M t.1 v nd ln
    rw [ea]
    unfold addM
    unfold L_gathered_0
    cases lk : look m t.1 with
    | none =>
      rw [lk] at ei
      simp [Nv.ownOf, ei, ownK, setiK, es, Rat.zero_add]
    | some v =>
      rw [lk] at ei ex sv
      have ep := F.plus_eq sv st
      simp [Nv.ownOf, ei, ownK, setiK, es, ex, frzK] at ep ⊢
      simp [ep, es]
  · obtain ⟨a, b, rfl⟩ := q
    rw [List.take_length]
    have eb := F.by_powers_1 hg.m
    simp [frzK, Nv.ownOf, eb]
    exact h

theorem uAdd_P {a b : List Tm} (h : a.length + b.length ≤ 2000000) : uAdd (encP a) (encP b) = .fresh (encP (a ++ b)) := by
  unfold encP
  rw [uAdd_lst, if_pos (by rw [List.length_map, List.length_map]; unfold lineMax; omega), List.map_append]
theorem inj_PP : ∀ a b : List Tm × List Tm, [encP a.1, encP a.2] = [encP b.1, encP b.2] → a = b := fun a b h => by
  simp only [List.cons.injEq, and_true] at h
  exact Prod.ext (encP_inj h.1) (encP_inj h.2)
theorem inj_RP : ∀ a b : Rat × List Tm, [encR a.1, encP a.2] = [encR b.1, encP b.2] → a = b := fun a b h => by
  simp only [List.cons.injEq, and_true] at h
  exact Prod.ext (encR_inj h.1) (encP_inj h.2)
theorem inj_WW : ∀ a b : List Int × List Int, [D.pw a.1, D.pw a.2] = [D.pw b.1, D.pw b.2] → a = b := fun a b h => by
  simp only [List.cons.injEq, D.pw.injEq, and_true] at h
  exact Prod.ext h.1 h.2
def SOk (c : Rat) (p : List Tm) : Prop := sz 4000 c ∧ (∀ t ∈ p, sz 4000 t.2) ∧ p.length ≤ 1000000
namespace F
noncomputable def added : List D → T R := Fn (fun a : List Tm × List Tm => [encP a.1, encP a.2]) (fun a => GOk (a.1 ++ a.2) ∧ a.1.length + a.2.length ≤ 2000000) fun a => .pure (.fresh (encP (norm (a.1 ++ a.2))))
theorem added_2 {a b : List Tm} (h : GOk (a ++ b)) (hl : a.length + b.length ≤ 2000000) : added [encP a, encP b] = .pure (.fresh (encP (norm (a ++ b)))) := Fn_eq (a := (a, b)) inj_PP ⟨h, hl⟩
open Classical in
noncomputable def scaled : List D → T R := Fn (fun a : Rat × List Tm => [encR a.1, encP a.2]) (fun a => SOk a.1 a.2) fun a => .pure (.fresh (encP (if a.1 = 0 then [] else scl a.1 a.2)))
open Classical in
theorem scaled_2 {c : Rat} {p : List Tm} (h : SOk c p) : scaled [encR c, encP p] = .pure (.fresh (encP (if c = 0 then [] else scl c p))) := Fn_eq (a := (c, p)) inj_RP h
noncomputable def «less» : List D → T R := Fn (fun a : List Tm × List Tm => [encP a.1, encP a.2]) (fun a => GOk (a.1 ++ scl (-1) a.2) ∧ (∀ t ∈ a.2, sz 4000 t.2) ∧ a.1.length + a.2.length ≤ 1000000) fun a => .pure (.fresh (encP (norm (a.1 ++ scl (-1) a.2))))
theorem less_2 {a b : List Tm} (h : GOk (a ++ scl (-1) b)) (h2 : ∀ t ∈ b, sz 4000 t.2) (h3 : a.length + b.length ≤ 1000000) : «less» [encP a, encP b] = .pure (.fresh (encP (norm (a ++ scl (-1) b)))) := Fn_eq (a := (a, b)) inj_PP ⟨h, h2, h3⟩
noncomputable def together : List D → T R := Fn (fun a : List Int × List Int => [D.pw a.1, D.pw a.2]) (fun a => a.1 ≠ [] ∧ a.2 ≠ [] ∧ a.1.length ≤ 1000) fun a => .pure (.ok (.pw (List.zipWith (· + ·) a.1 a.2)))
theorem together_2 {a b : List Int} (h1 : a ≠ []) (h2 : b ≠ []) (h3 : a.length ≤ 1000) : together [D.pw a, D.pw b] = .pure (.ok (.pw (List.zipWith (· + ·) a b))) := Fn_eq (a := (a, b)) inj_WW ⟨h1, h2, h3⟩
end F
abbrev N_added : List Str := ["one", "other"]
noncomputable def B_added : List S := [.ret (.call "gathered" F.gathered [.bin .Add uAdd (.v 0) (.v 1)])]
noncomputable def C_scaled_0 : E := (.tup [.v 2, .call "times" F.times [.v 0, .v 3]])
abbrev N_scaled : List Str := ["share", "one", "powers", "own"]
noncomputable def B_scaled : List S := [.ifs (.cmp .Eq eqD (.v 0) (.g "NOUGHT" c_NOUGHT)) [.ret (.lst [])] [], .ret (.lc (.tp [.nm 2, .nm 3]) .ex itU [.v 1] (.c (.bl true)) C_scaled_0 [("powers", 2), ("own", 3)])]
abbrev N_less : List Str := ["one", "other"]
noncomputable def B_less : List S := [.ret (.call "gathered" F.gathered [.bin .Add uAdd (.v 0) (.call "scaled" F.scaled [.tup [.un .USub negI (.c (.int 1)), .c (.int 1)], .v 1])])]
noncomputable def C_together_0 : E := (.bin .Add uAdd (.v 2) (.v 3))
abbrev N_together : List Str := ["one", "other", "here", "there"]
noncomputable def B_together : List S := [.ret (.call "tuple" (opc tupleD) [.lc (.tp [.nm 2, .nm 3]) (.cl "zip" 2) itZipX [.v 0, .v 1] (.c (.bl true)) C_together_0 [("here", 2), ("there", 3)]])]
theorem p_added : ∀ ds (P : R → Prop), ¬ P .bad → (F.added ds).all P → (runF 2 2 B_added ds).all P := Fn_as fun a hg P hP h => by
  obtain ⟨a, b⟩ := a
  have h : P (.fresh (encP (norm (a ++ b)))) := h
  obtain ⟨hg, hl⟩ := hg
  dsimp only at hg hl
  have e := F.gathered_1 hg
  unfold B_added
  simp [uAdd_P hl, e]
  exact h
theorem encP_nil : D.lst [] = encP [] := rfl
theorem p_scaled : ∀ ds (P : R → Prop), ¬ P .bad → (F.scaled ds).all P → (runF 2 4 B_scaled ds).all P := Fn_as fun a hg P hP h => by
  obtain ⟨c, p⟩ := a
  obtain ⟨h1, h2, h3⟩ := hg
  dsimp only at h1 h2 h3 h ⊢
  unfold B_scaled
  by_cases c0 : c = 0
  · rw [if_pos c0] at h
    simp [nought_R, c0, encP_nil]
    exact h
  · rw [if_neg c0] at h
    have h : P (.fresh (encP (scl c p))) := h
    have lc : RL.lc itU (turn (.tp [.nm 2, .nm 3]) [.val (encR c), .val (encP p), .emp, .emp] (fun n' => evT (.c (.bl true)) n') fun n' => ev C_scaled_0 n') (.ok [encP p] false) = .pure (.fresh (encP (scl c p))) := by
      have := lc_eq (φ := itU) (f := turn (.tp [.nm 2, .nm 3]) [.val (encR c), .val (encP p), .emp, .emp] (fun n' => evT (.c (.bl true)) n') fun n' => ev C_scaled_0 n') (ds := [encP p]) rfl (by rw [List.length_map]; omega) (lcL_mp (g := fun t => encT (t.1, c * t.2)) fun t ht => ?_)
      · rw [this]
        unfold scl encP
        rw [List.map_map]
        rfl
      · have st : sz 4000 t.2 := h2 t ht
        have et := F.times_eq h1 st
        unfold C_scaled_0
        simp [et]
        rfl
    simp [nought_R, c0]
    simp at lc
    rw [lc]
    simp
    exact h
theorem neg1_R : D.tup [.int (-1), .int 1] = encR (-1) := rfl
theorem p_less : ∀ ds (P : R → Prop), ¬ P .bad → (F.«less» ds).all P → (runF 2 2 B_less ds).all P := Fn_as fun a hg P hP h => by
  obtain ⟨a, b⟩ := a
  have h : P (.fresh (encP (norm (a ++ scl (-1) b)))) := h
  obtain ⟨hg, hs, hl⟩ := hg
  dsimp only at hg hs hl
  have s1 : sz 4000 (-1) := by
    have h1 : (1 : Nat) < 2 ^ 4000 := Nat.one_lt_pow (by omega) (by omega)
    exact ⟨h1, h1⟩
  have es := F.scaled_2 (c := -1) (p := b) ⟨s1, hs, by omega⟩
  have nz : ¬ ((-1 : Rat) = 0) := by decide
  rw [if_neg nz] at es
  have hl2 : a.length + (scl (-1) b).length ≤ 2000000 := by rw [scl_len]; omega
  have e := F.gathered_1 hg
  unfold B_less
  simp [neg1_R, es, uAdd_P hl2, e]
  exact h
theorem intsOf_zip (f : Int → Int → Int) : ∀ (a b : List Int), intsOf ((List.zipWith f a b).map .int) = some (List.zipWith f a b) := fun a b => intsOf_map _
theorem tupleD_W {is : List Int} (h : is ≠ []) : tupleD [.lst (is.map .int)] = .ok (.pw is) := by
  cases is with
  | nil => exact absurd rfl h
  | cons i is =>
    have e := intsOf_map (i :: is)
    rw [List.map_cons] at e
    show (match intsOf (D.int i :: is.map .int) with | some is => R.ok (.pw is) | none => .ok (.tup (D.int i :: is.map .int))) = _
    rw [e]
theorem itZip_W (a b : List Int) : itZipX [.pw a, .pw b] = some (pairsD (a.map .int) (b.map .int)) := rfl
theorem pairs_W : ∀ (a b : List Int), pairsD (a.map .int) (b.map .int) = (List.zip a b).map fun p => D.tup [.int p.1, .int p.2]
  | [], _ => rfl
  | _ :: _, [] => rfl
  | x :: a, y :: b => by
    rw [List.map_cons, List.map_cons, List.zip_cons_cons, List.map_cons, ← pairs_W a b]
    rfl
theorem turn_pp (i j : Nat) (n : Nv) (c : Nv → T RT) (e : Nv → T R) (x y : D) : turn (.tp [.nm i, .nm j]) n c e (.tup [x, y]) = T.keep (c ((n.set i (.val x)).set j (.val y))) (e ((n.set i (.val x)).set j (.val y))) := rfl
theorem zip_sum : ∀ (a b : List Int), (List.zip a b).map (fun p => D.int (p.1 + p.2)) = (List.zipWith (· + ·) a b).map .int
  | [], _ => rfl
  | _ :: _, [] => rfl
  | x :: a, y :: b => by
    rw [List.zip_cons_cons, List.map_cons, zip_sum a b]
    rfl
theorem zipW_ne {a b : List Int} (h1 : a ≠ []) (h2 : b ≠ []) : List.zipWith (· + ·) a b ≠ [] := by
  cases a with
  | nil => exact absurd rfl h1
  | cons x a => cases b with
    | nil => exact absurd rfl h2
    | cons y b => simp
theorem sum_lc {n : Nv} {i j : Nat} {f : D → T RC} {a b : List Int} (hl : a.length ≤ 1000) (h : ∀ x y : Int, f (.tup [.int x, .int y]) = .pure (.keep (.int (x + y)))) : RL.lc itZipX f (.ok [.pw a, .pw b] false) = .pure (.fresh (.lst ((List.zipWith (· + ·) a b).map .int))) := by
  have := lc_eq (φ := itZipX) (f := f) (ds := [.pw a, .pw b]) (items := (List.zip a b).map fun p => D.tup [.int p.1, .int p.2]) (by rw [itZip_W, pairs_W]) (by rw [List.length_map, List.length_zip]; omega) (lcL_mp (g := fun p => D.int (p.1 + p.2)) fun p hp => h p.1 p.2)
  rw [this, zip_sum]
theorem p_together : ∀ ds (P : R → Prop), ¬ P .bad → (F.together ds).all P → (runF 2 4 B_together ds).all P := Fn_as fun a hg P hP h => by
  obtain ⟨a, b⟩ := a
  obtain ⟨h1, h2, h3⟩ := hg
  dsimp only at h1 h2 h3 h ⊢
  have h : P (.ok (.pw (List.zipWith (· + ·) a b))) := h
  have lc := sum_lc (n := []) (i := 0) (j := 0) (b := b) (f := turn (.tp [.nm 2, .nm 3]) [.val (.pw a), .val (.pw b), .emp, .emp] (fun n' => evT (.c (.bl true)) n') fun n' => ev (.bin .Add uAdd (.v 2) (.v 3)) n') h3 (fun x y => by
    rw [turn_pp]
    simp)
  have et := tupleD_W (zipW_ne h1 h2)
  unfold B_together C_together_0
  rw [List.map_zipWith] at et lc
  simp at lc
  simp
  rw [lc]
  simp [et]
  exact h

/-! ### products -/
structure TimN (n b1 b2 u1 v1 u2 v2 : Nat) (a b : List Tm) : Prop where
  n1 : 1 ≤ n
  n2 : n ≤ 1000
  oa : TOk n a
  ob : TOk n b
  pa : PB (b1 : Int) a
  pb : PB (b2 : Int) b
  few : (b1 + b2 + 1) ^ n < 1000000
  ba : Bd u1 v1 a
  bb : Bd u2 v2 b
  small : u1 + v1 + u2 + v2 < 4000
def TimOk (a b : List Tm) : Prop := ∃ n b1 b2 u1 v1 u2 v2, TimN n b1 b2 u1 v1 u2 v2 a b
structure TimW (n u1 v1 u2 v2 : Nat) (a b : List Tm) : Prop where
  n1 : 1 ≤ n
  n2 : n ≤ 1000
  oa : TOk n a
  ob : TOk n b
  few : ∀ k, (accM ((prods a b).take k)).length < 1000000
  ba : Bd u1 v1 a
  bb : Bd u2 v2 b
  small : u1 + v1 + u2 + v2 < 4000
def TimE (a b : List Tm) : Prop := ∃ n u1 v1 u2 v2, TimW n u1 v1 u2 v2 a b
theorem TimOk.e {a b : List Tm} (h : TimOk a b) : TimE a b := by
  obtain ⟨n, b1, b2, u1, v1, u2, v2, g⟩ := h
  exact ⟨n, u1, v1, u2, v2, g.n1, g.n2, g.oa, g.ob, fun k => Nat.lt_of_le_of_lt (acc_len' (b := b1 + b2) (tok_prods g.oa g.ob) (by have := pb_prods g.pa g.pb; exact this) k) g.few, g.ba, g.bb, g.small⟩
theorem TimE.of_len {n u1 v1 u2 v2 : Nat} {a b : List Tm} (n1 : 1 ≤ n) (n2 : n ≤ 1000) (oa : TOk n a) (ob : TOk n b) (l : a.length * b.length < 1000000) (ba : Bd u1 v1 a) (bb : Bd u2 v2 b) (small : u1 + v1 + u2 + v2 < 4000) : TimE a b := ⟨n, u1, v1, u2, v2, n1, n2, oa, ob, fun k => by
  have h1 := acc_len ((prods a b).take k)
  have h2 := prods_len a b
  have : ((prods a b).take k).length ≤ (prods a b).length := by rw [List.length_take]; omega
  omega, ba, bb, small⟩
theorem TimE.m {a b : List Tm} (h : TimE a b) : MOk (accM (prods a b)) := by
  obtain ⟨n, u1, v1, u2, v2, g⟩ := h
  have ok := tok_prods g.oa g.ob
  have f := g.few (prods a b).length
  rw [List.take_length] at f
  exact pwOk_of g.n1 ok.acc (accM_nodup _) f
theorem TimOk.m {a b : List Tm} (h : TimOk a b) : MOk (accM (prods a b)) := h.e.m
namespace F
noncomputable def timed : List D → T R := Fn (fun a : List Tm × List Tm => [encP a.1, encP a.2]) (fun a => TimE a.1 a.2) fun a => .pure (.fresh (encP (norm (prods a.1 a.2))))
theorem timed_e {a b : List Tm} (h : TimE a b) : timed [encP a, encP b] = .pure (.fresh (encP (norm (prods a b)))) := Fn_eq (a := (a, b)) inj_PP h
theorem timed_2 {a b : List Tm} (h : TimOk a b) : timed [encP a, encP b] = .pure (.fresh (encP (norm (prods a b)))) := timed_e h.e
end F
noncomputable def L_timed_1 : List S := [.set 7 (.call "together" F.together [.v 3, .v 5]), .frz 7, .seti 2 setD (.v 7) (.call "plus" F.plus [.meth "get" m_get (.v 2) [.v 7, .g "NOUGHT" c_NOUGHT], .call "times" F.times [.v 4, .v 6]])]
noncomputable def L_timed_0 : List S := [.for_ (.tp [.nm 5, .nm 6]) .ex itU [.v 1] L_timed_1]
abbrev N_timed : List Str := ["one", "other", "found", "powers", "share", "more", "by", "both"]
noncomputable def B_timed : List S := [.set 2 (.dnew (.dT [] [])), .for_ (.tp [.nm 3, .nm 4]) .ex itU [.v 0] L_timed_0, .frz 2, .ret (.call "by_powers" F.by_powers [.v 2])]
theorem accM_add (ts : List Tm) (t : Tm) : addM (accM ts) t = accM (ts ++ [t]) := by
  unfold accM
  rw [List.foldl_append]
  rfl
theorem take_map {b : List Tm} {j : Nat} {u : Tm} (f : Tm → Tm) (h : b[j]? = some u) : (b.take (j + 1)).map f = (b.take j).map f ++ [f u] := by
  rw [List.take_succ, h]
  simp
theorem p_timed : ∀ ds (P : R → Prop), ¬ P .bad → (F.timed ds).all P → (runF 2 8 B_timed ds).all P := Fn_as fun ab hg P hP h => by
  obtain ⟨a, b⟩ := ab
  have h : P (.fresh (encP (norm (prods a b)))) := h
  have hg : TimE a b := hg
  obtain ⟨n, u1, v1, u2, v2, g⟩ := id hg
  obtain ⟨Ma, ha0, ha1, hA⟩ := g.ba
  obtain ⟨Mb, hb0, hb1, hB⟩ := g.bb
  have hs := g.small
  have hP1 := hA.prods hB
  have hP0 := Nat.mul_pos ha0 hb0
  have hP2 := two_mul_le ha1 hb1
  have oP := tok_prods g.oa g.ob
  refine run_all rfl ?_
  unfold B_timed
  refine exs_all ?_
  have e0 : ex (.set 2 (.dnew (.dT [] []))) (startN 8 [encP a, encP b]) = .pure (.next [.val (encP a), .val (encP b), .own (encM []), .emp, .emp, .emp, .emp, .emp]) := by
    simp
    rfl
  rw [e0]
  refine exs_all (for_terms (ts := a) (by simp) (fun k n => ∃ c1 c2 c3 c4 c5, n = [.val (encP a), .val (encP b), .own (encM (accM (prods (a.take k) b))), c1, c2, c3, c4, c5]) ⟨_, _, _, _, _, rfl⟩ (fun k t n' e q => ?_) (fun n' q => ?_))
  · obtain ⟨c1, c2, c3, c4, c5, rfl⟩ := q
    unfold L_timed_0
    rw [prods_take e]
    refine exs_all (for_terms (ts := b) (by simp) (fun j n => ∃ c3 c4 c5, n = [.val (encP a), .val (encP b), .own (encM (accM (prods (a.take k) b ++ (b.take j).map (mulT t)))), .val (.pw t.1), .val (encR t.2), c3, c4, c5]) ⟨c3, c4, c5, by simp⟩ (fun j u n' e2 q => ?_) (fun n' q => ?_))
    · obtain ⟨c3, c4, c5, rfl⟩ := q
      obtain ⟨r, hr⟩ := prods_pre (b := b) (j := j) e
      rw [take_map _ e2, ← List.append_assoc, ← accM_add]
      generalize hp : prods (a.take k) b ++ (b.take j).map (mulT t) = p at hr ⊢
      have hpt : p = (prods a b).take p.length := by rw [hr]; simp
      have nd := accM_nodup p
      have ln : (accM p).length < 1000000 := by
        have := g.few p.length
        rw [← hpt] at this
        exact this
      have sv : sz 4000 ((look (accM p) (mulT t u).1).getD 0) := by
        have := hP1.at_ p.length (mulT t u).1
        rw [← hpt] at this
        exact this.sz hP0 hP2 (by omega)
      generalize hm : accM p = m at nd ln sv ⊢
      have mt := List.mem_of_getElem? e
      have mu := List.mem_of_getElem? e2
      have st : sz 4000 t.2 := (hA.q mt).sz ha0 ha1 (by omega)
      have su : sz 4000 u.2 := (hB.q mu).sz hb0 hb1 (by omega)
      have stu : sz 4000 (t.2 * u.2) := ((hA.q mt).mul (hB.q mu)).sz hP0 hP2 (by omega)
      have eg := fun k => getL_M m k 0
      have es := fun k v => set_M (m := m) k v nd ln
      have l1 := g.oa t mt
      have l2 := g.ob u mu
      have n1 := g.n1
      have n2 := g.n2
      have et := F.together_2 (a := t.1) (b := u.1) (fun z => by rw [z] at l1; simp at l1; omega) (fun z => by rw [z] at l2; simp at l2; omega) (by omega)
      have em := F.times_eq st su
      have ep := F.plus_eq sv stu
      unfold addM
      unfold L_timed_1
      show T.all _ _
      unfold mulT at ep ⊢
      dsimp only at ep ⊢
      simp [Nv.ownOf, et, frzK, em, get_M, nought_R, eg, ep, ownK, setiK, es]
    · obtain ⟨c3, c4, c5, rfl⟩ := q
      rw [List.take_length]
      simp
  · obtain ⟨c1, c2, c3, c4, c5, rfl⟩ := q
    rw [List.take_length]
    have eb := F.by_powers_1 hg.m
    simp [frzK, Nv.ownOf, eb]
    exact h

/-! ### lists in their form with their bounds -/
structure Pol (n b u v : Nat) (p : List Tm) : Prop where
  can : Can n p
  pb : PB (b : Int) p
  bd : Bd u v p
section
variable {n b c u v x y : Nat} {p q : List Tm}
theorem Pol.len (h : Pol n b u v p) : p.length ≤ (b + 1) ^ n := can_len h.can h.pb
theorem Pol.mono (h : Pol n b u v p) (h1 : b ≤ c) (h2 : u ≤ x) (h3 : v ≤ y) : Pol n c x y p := ⟨h.can, h.pb.mono (by omega), h.bd.mono h2 h3⟩
theorem Pol.szs (h : Pol n b u v p) (hs : u + v < 4000) : ∀ t ∈ p, sz 4000 t.2 := fun t ht => by
  obtain ⟨M, h0, h1, h2⟩ := h.bd
  exact (h2.q ht).sz h0 h1 hs
theorem Pol.of (n1 : 1 ≤ n) (h : GOkN n b u v p) : Pol n b u v (norm p) := ⟨can_norm h.ok, pb_norm h.ok h.pb, h.bd.norm h.ok⟩
theorem Pol.nil : Pol n b u v [] := ⟨can_nil, pb_nil, Bd.nil.mono (by omega) (by omega)⟩
theorem Pol.add (h : Pol n b u v p) (g : Pol n b x y q) : Pol n b (u + x) (max v y + 1) (norm (p ++ q)) := ⟨can_norm (tok_app h.can.ok g.can.ok), pb_norm (tok_app h.can.ok g.can.ok) (h.pb.app g.pb), (h.bd.app g.bd).norm (tok_app h.can.ok g.can.ok)⟩
theorem Pol.added (n1 : 1 ≤ n) (few : (b + 1) ^ n < 1000000) (h : Pol n b u v p) (g : Pol n b x y q) (hs : u + x + (max v y + 1) < 4000) : F.added [encP p, encP q] = .pure (.fresh (encP (norm (p ++ q)))) :=
  F.added_2 ⟨n, b, u + x, max v y + 1, ⟨n1, tok_app h.can.ok g.can.ok, h.pb.app g.pb, few, h.bd.app g.bd, hs⟩⟩ (by have := h.len; have := g.len; omega)
theorem Pol.mul (h : Pol n b u v p) (g : Pol n c x y q) : Pol n (b + c) (u + x) (v + y) (norm (prods p q)) := ⟨can_norm (tok_prods h.can.ok g.can.ok), pb_norm (tok_prods h.can.ok g.can.ok) (by have := pb_prods h.pb g.pb; exact this), (h.bd.prods g.bd).norm (tok_prods h.can.ok g.can.ok)⟩
theorem Pol.timed (n1 : 1 ≤ n) (n2 : n ≤ 1000) (few : (b + c + 1) ^ n < 1000000) (h : Pol n b u v p) (g : Pol n c x y q) (hs : u + v + x + y < 4000) : F.timed [encP p, encP q] = .pure (.fresh (encP (norm (prods p q)))) :=
  F.timed_2 ⟨n, b, c, u, v, x, y, ⟨n1, n2, h.can.ok, g.can.ok, h.pb, g.pb, few, h.bd, g.bd, hs⟩⟩
theorem Pol.norm (h : Pol n b u v p) : PM.norm p = p := norm_can h.can
theorem Pol.one (n : Nat) : Pol n 0 0 0 [(List.replicate n 0, 1)] := ⟨⟨fun t h => by
    rw [List.mem_singleton.mp h]
    exact ⟨List.length_replicate, fun i hi => by rw [List.eq_of_mem_replicate hi]; omega⟩, List.pairwise_singleton _ _, fun t h => by rw [List.mem_singleton.mp h]; show (1 : Rat) ≠ 0; decide⟩, fun t h j hj => by
    rw [List.mem_singleton.mp h] at hj
    rw [List.eq_of_mem_replicate hj]; omega, Bd.one n⟩
end
end PM

set_option Elab.async false
set_option linter.all false
set_option maxRecDepth 100000
set_option exponentiation.threshold 10000
set_option maxHeartbeats 4000000
/-! DRAW: what the laws of polynomials draw. -/
namespace PM
open PySem PySem.Spec L2
open PyProof.Rows hiding St

/-! ### what is drawn -/
def pickN (Q : Int → Prop) : Nat → (List Int → T R) → T R
  | 0, k => k []
  | n + 1, k => .pick Q fun i => pickN Q n fun is => k (i :: is)
theorem pickN_all {Q : Int → Prop} {P : R → Prop} : ∀ {n : Nat} {k : List Int → T R}, (pickN Q n k).all P ↔ ∀ is : List Int, is.length = n → (∀ i ∈ is, Q i) → (k is).all P
  | 0, k => ⟨fun h is hl _ => by rw [List.length_eq_zero_iff.mp hl]; exact h, fun h => h [] rfl fun _ z => by cases z⟩
  | n + 1, k => by
    constructor
    · intro h is hl hq
      cases is with
      | nil => cases hl
      | cons i is => exact pickN_all.mp (h i (hq i List.mem_cons_self)) is (by simpa using hl) fun j hj => hq j (List.mem_cons_of_mem _ hj)
    · intro h i hi
      refine pickN_all.mpr fun is hl hq => h (i :: is) (by rw [List.length_cons, hl]) fun j hj => ?_
      rcases List.mem_cons.mp hj with z | z
      · rw [z]; exact hi
      · exact hq j z
def pickS (k : Rat → T R) : T R := .pick (fun t => t.natAbs < 1048576) fun t => .pick (fun b => 0 < b ∧ b < 1048576) fun b => k (Rat.divInt t b)
def shOk (q : Rat) : Prop := ∃ t b : Int, t.natAbs < 1048576 ∧ (0 < b ∧ b < 1048576) ∧ q = Rat.divInt t b
theorem shOk.lg {q : Rat} (h : shOk q) : lg q ≤ 20 := by
  obtain ⟨t, b, ht, hb, rfl⟩ := h
  exact lg_le (num_le (by omega) ht (by have : (2 : Nat) ^ 20 = 1048576 := by decide
                                        omega))
theorem pickS_all {P : R → Prop} {k : Rat → T R} : (pickS k).all P ↔ ∀ q, shOk q → (k q).all P :=
  ⟨fun h q ⟨t, b, ht, hb, e⟩ => by rw [e]; exact h t ht b hb, fun h t ht b hb => h _ ⟨t, b, ht, hb, rfl⟩⟩
namespace F
noncomputable def _law_share : List D → T R
  | [.pool] => pickS fun q => .pure (.ok (encR q))
  | _ => .pure .bad
theorem share_all {P : R → Prop} (h : ∀ q, shOk q → P (.ok (encR q))) : (_law_share [.pool]).all P := (pickS_all (k := fun q => .pure (.ok (encR q)))).mpr h
end F
abbrev N__law_share : List Str := ["_law_pool_here", "_law_way", "_law_sign"]
noncomputable def B__law_share : List S := [.set 1 (.call "_law_take" F._law_take [.v 0, .c (.int 6)]), .frz 1, .set 2 (.ix ixU (.lst [.c (.int 1), .un .USub negI (.c (.int 1))]) (.call "_law_take" F._law_take [.v 0, .c (.int 2)])), .ifs (.cmp .Lt uLt (.v 1) (.c (.int 3))) [.ret (.tup [.bin .Mult uMul (.v 2) (.bin .Add uAdd (.c (.int 1)) (.call "_law_take" F._law_take [.v 0, .c (.int 4)])), .c (.int 1)])] [], .ifs (.cmp .Lt uLt (.v 1) (.c (.int 5))) [.ret (.call "_law_low" F._law_low [.bin .Mult uMul (.v 2) (.bin .Add uAdd (.c (.int 1)) (.call "_law_take" F._law_take [.v 0, .c (.int 9)])), .bin .Add uAdd (.c (.int 1)) (.call "_law_take" F._law_take [.v 0, .c (.int 6)])])] [], .ret (.call "_law_low" F._law_low [.bin .Mult uMul (.v 2) (.bin .Add uAdd (.c (.int 1)) (.call "_law_take" F._law_take [.v 0, .bin .Pow powI (.c (.int 10)) (.c (.int 6))])), .bin .Add uAdd (.c (.int 1)) (.call "_law_take" F._law_take [.v 0, .bin .Pow powI (.c (.int 10)) (.c (.int 6))])])]
theorem p__law_share (ds : List D) (P : R → Prop) (hP : ¬ P .bad) (h : (F._law_share ds).all P) : (runF 1 3 B__law_share ds).all P := by
  unfold F._law_share at h
  split at h
  · have key : ∀ t b : Int, t.natAbs < 1048576 → 0 < b → b < 1048576 → P (.ok (encR (Rat.divInt t b))) := fun t b ht hb hb2 => pickS_all.mp h _ ⟨t, b, ht, ⟨hb, hb2⟩, rfl⟩
    have key1 : ∀ t : Int, t.natAbs < 1048576 → P (.ok (.tup [.int t, .int 1])) := fun t ht => by
      rw [← one_R]; exact key t 1 ht (by omega) (by omega)
    unfold B__law_share
    have q := pow_lit (a := 10) (b := 6) (by decide)
    have e6 : (10 : Int) ^ (6 : Int).toNat = 1000000 := by decide
    rw [e6] at q
    have u1 := fun a : Int => mul_small (a := 1) (b := a) (by omega)
    have u2 := fun a : Int => mul_small (a := -1) (b := a) (by omega)
    have l := fun (t b : Int) (h0 : 0 < b) (h1 : b < 1048576) => F.low_2 (t := t) (b := b) (by omega) (by
      have : (2 : Nat) ^ 20 ≤ 2 ^ 8999 := Nat.pow_le_pow_right (by omega) (by omega)
      omega)
    simp [frzK, Nv.ownOf]
    intro i hi hi2 j hj hj2
    have hj3 : j = 0 ∨ j = 1 := by omega
    by_cases c1 : i < 3
    · rcases hj3 with rfl | rfl
      · simp [atD_0, c1, u1]
        intro k hk hk2
        exact key1 _ (by omega)
      · simp [atD_1, c1, u2]
        intro k hk hk2
        exact key1 _ (by omega)
    · by_cases c2 : i < 5
      · rcases hj3 with rfl | rfl
        · simp [atD_0, c1, c2, u1]
          intro k hk hk2 m hm hm2
          rw [l _ _ (by omega) (by omega)]
          exact key _ _ (by omega) (by omega) (by omega)
        · simp [atD_1, c1, c2, u2]
          intro k hk hk2 m hm hm2
          rw [l _ _ (by omega) (by omega)]
          exact key _ _ (by omega) (by omega) (by omega)
      · rcases hj3 with rfl | rfl
        · simp [atD_0, c1, c2, u1, q]
          intro k hk hk2 m hm hm2
          rw [l _ _ (by omega) (by omega)]
          exact key _ _ (by omega) (by omega) (by omega)
        · simp [atD_1, c1, c2, u2, q]
          intro k hk hk2 m hm hm2
          rw [l _ _ (by omega) (by omega)]
          exact key _ _ (by omega) (by omega) (by omega)
  · exact absurd h hP
theorem zeroq : D.tup [.int 0, .int 1] = encR 0 := rfl
namespace F
noncomputable abbrev _law_made : List D → T R := gathered
end F
noncomputable def L__law_made_0 : List S := [.seti 1 setD (.v 2) (.call "_law_plus" F._law_plus [.meth "get" m_get (.v 1) [.v 2, .tup [.c (.int 0), .c (.int 1)]], .v 3])]
noncomputable def C__law_made_0 : E := (.cmp .NotEq neD (.ix ixU (.ix ixU (.v 1) (.v 2)) (.c (.int 0))) (.c (.int 0)))
noncomputable def C__law_made_1 : E := (.tup [.v 2, .ix ixU (.v 1) (.v 2)])
abbrev N__law_made : List Str := ["_law_terms_here", "_law_found", "_law_powers", "_law_share_here"]
noncomputable def B__law_made : List S := [.set 1 (.dnew (.dT [] [])), .for_ (.tp [.nm 2, .nm 3]) .ex itU [.v 0] L__law_made_0, .ret (.lc (.nm 2) .ex itU [.call "sorted" (opc sortedD) [.v 1]] C__law_made_0 C__law_made_1 [("_law_powers", 2)])]
theorem p__law_made : ∀ ds (P : R → Prop), ¬ P .bad → (F._law_made ds).all P → (runF 1 4 B__law_made ds).all P := Fn_as fun ts hg P hP h => by
  have h : P (.fresh (encP (norm ts))) := h
  obtain ⟨n, u, v, g⟩ := id hg
  have ok := g.ok
  obtain ⟨M, hM0, hM1, hM⟩ := g.bd
  have hs := g.small
  refine run_all rfl ?_
  unfold B__law_made
  refine exs_all ?_
  have e0 : ex (.set 1 (.dnew (.dT [] []))) (startN 4 [encP ts]) = .pure (.next [.val (encP ts), .own (encM []), .emp, .emp]) := by
    simp
    rfl
  rw [e0]
  refine exs_all (for_terms (ts := ts) (by simp) (fun k n => ∃ a b, n = [.val (encP ts), .own (encM (accM (ts.take k))), a, b]) ⟨_, _, rfl⟩ (fun k t n e q => ?_) (fun n q => ?_))
  · obtain ⟨a, b, rfl⟩ := q
    have nd := accM_nodup (ts.take k)
    have ln : (accM (ts.take k)).length < 1000000 := by
      exact g.few k
    have ea := accM_take e
    have sv : sz 4000 ((look (accM (ts.take k)) t.1).getD 0) := (hM.at_ k t.1).sz hM0 hM1 (by omega)
    generalize hm : accM (ts.take k) = m at nd ln ea sv ⊢
    have st : sz 4000 t.2 := (hM.q (List.mem_of_getElem? e)).sz hM0 hM1 (by omega)
    have es := fun v => set_M (m := m) t.1 v nd ln
    have eg := getL_M m t.1 0
    have ep := F.lplus_eq sv st
    rw [ea]
    unfold addM
    unfold L__law_made_0
    simp [Nv.ownOf, frzK, get_M, zeroq, eg, ep, ownK, setiK, es]
  · obtain ⟨a, b, rfl⟩ := q
    rw [List.take_length]
    have hm := hg.m
    generalize hmm : accM ts = m at hm ⊢
    have sp := sortW_spec (l := m.map (·.1)) hm.2.1 (n := hm.2.2.choose) fun b hb => (hm.2.2.choose_spec.2 b hb).1
    have mem : ∀ k ∈ sortW (m.map (·.1)), (look m k).isSome = true := fun k hk => look_mem.mpr (sp.1.mem_iff.mp hk)
    have hl : (sortW (m.map (·.1))).length < 1000000 := by rw [sp.1.length_eq]; exact hm.1
    have es := sorted_M hm
    have lc : ∀ o, RL.lc itU (turn (.nm 2) [.val (encP ts), .own (encM m), .emp, b] (fun n' => evT C__law_made_0 n') fun n' => ev C__law_made_1 n') (.ok [.lst ((sortW (m.map (·.1))).map .pw)] o) = .pure (.fresh (encP (outM m))) := by
      intro o
      rw [lc_eqO (φ := itU) (ds := [.lst ((sortW (m.map (·.1))).map .pw)]) rfl (flat_W _) (by rw [List.length_map]; omega) (lcL_fm (g := fun k => if (look m k).getD 0 = 0 then none else some (encT (k, (look m k).getD 0))) fun k hk => ?_)]
      · rw [out_fm]
        rfl
      · obtain ⟨v, hv⟩ := Option.isSome_iff_exists.mp (mem k hk)
        have ix := ix_M m k
        rw [hv] at ix
        unfold C__law_made_0 C__law_made_1
        rw [hv, Option.getD_some]
        by_cases c : v = 0
        · subst c
          simp [ix, Nv.ownOf]
        · have : ¬ v.num = 0 := fun z => c (Rat.num_eq_zero.mp z)
          simp [ix, Nv.ownOf, c, this]
          rfl
    simp [Nv.ownOf, es, flat_W]
    rw [lc]
    unfold norm at h
    rw [hmm] at h
    simp
    exact h
/-- a term drawn -/
def tmOk (Q : Int → Prop) (n : Nat) (t : Tm) : Prop := t.1.length = n ∧ (∀ i ∈ t.1, Q i) ∧ shOk t.2
def pickTs (Q : Int → Prop) (n : Nat) : Nat → (List Tm → T R) → T R
  | 0, k => k []
  | m + 1, k => pickN Q n fun is => pickS fun q => pickTs Q n m fun ts => k ((is, q) :: ts)
theorem pickTs_all {Q : Int → Prop} {n : Nat} {P : R → Prop} : ∀ {m : Nat} {k : List Tm → T R}, (pickTs Q n m k).all P ↔ ∀ ts : List Tm, ts.length = m → (∀ t ∈ ts, tmOk Q n t) → (k ts).all P
  | 0, k => ⟨fun h is hl _ => by rw [List.length_eq_zero_iff.mp hl]; exact h, fun h => h [] rfl fun _ z => by cases z⟩
  | m + 1, k => by
    constructor
    · intro h ts hl hq
      cases ts with
      | nil => cases hl
      | cons t ts =>
        obtain ⟨h1, h2, h3⟩ := hq t List.mem_cons_self
        exact pickTs_all.mp (pickS_all.mp (pickN_all.mp h t.1 h1 h2) t.2 h3) ts (by simpa using hl) fun j hj => hq j (List.mem_cons_of_mem _ hj)
    · intro h
      refine pickN_all.mpr fun is h1 h2 => pickS_all.mpr fun q h3 => pickTs_all.mpr fun ts hl hq => h ((is, q) :: ts) (by rw [List.length_cons, hl]) fun j hj => ?_
      rcases List.mem_cons.mp hj with z | z
      · rw [z]; exact ⟨h1, h2, h3⟩
      · exact hq j z
def uptoQ (m : Int) (i : Int) : Prop := 0 ≤ i ∧ i < m
namespace F
noncomputable def _law_terms : List D → T R
  | [.pool, .int n, .int most, .int high] => if 1 ≤ n ∧ n ≤ 100 ∧ 0 ≤ most ∧ most ≤ 100 ∧ 0 ≤ high ∧ high ≤ 100 then .pick (uptoQ (most + 1)) fun m => pickTs (uptoQ (high + 1)) n.toNat m.toNat fun ts => .pure (.fresh (encP ts)) else .pure .bad
  | _ => .pure .bad
theorem terms_all {P : R → Prop} {n most high : Int} (c : 1 ≤ n ∧ n ≤ 100 ∧ 0 ≤ most ∧ most ≤ 100 ∧ 0 ≤ high ∧ high ≤ 100) : (_law_terms [.pool, .int n, .int most, .int high]).all P ↔ ∀ ts : List Tm, (ts.length : Int) ≤ most → (∀ t ∈ ts, tmOk (uptoQ (high + 1)) n.toNat t) → P (.fresh (encP ts)) := by
  unfold _law_terms
  dsimp only
  rw [if_pos c]
  constructor
  · intro h ts hl ok
    exact pickTs_all.mp (h (ts.length : Int) ⟨by omega, by omega⟩) ts (by simp) ok
  · intro h m hm
    exact pickTs_all.mpr fun ts hl ok => h ts (by have := hm.1; have := hm.2; omega) ok
end F
noncomputable def C__law_terms_0 : E := (.call "_law_take" F._law_take [.v 0, .bin .Add uAdd (.v 3) (.c (.int 1))])
noncomputable def L__law_terms_0 : List S := [.mut 4 "append" appD [.tup [.call "tuple" (opc tupleD) [.lc (.nm 6) (.cl "range" 1) itRng1 [.v 1] (.c (.bl true)) C__law_terms_0 [("_law_i", 6)]], .call "_law_share" F._law_share [.v 0]]]]
abbrev N__law_terms : List Str := ["_law_pool_here", "_law_n", "_law_most", "_law_high", "_law_found", "_law_k", "_law_i"]
noncomputable def B__law_terms : List S := [.set 4 (.lst []), .for_ (.nm 5) (.cl "range" 1) itRng1 [.call "_law_take" F._law_take [.v 0, .bin .Add uAdd (.v 2) (.c (.int 1))]] L__law_terms_0, .ret (.v 4)]
theorem rng1_i {n : Int} (h : 0 ≤ n) (h2 : n < 1000000) : itRng1 [.int n] = some (intsD 0 n.toNat) := by
  obtain ⟨k, rfl⟩ := Int.eq_ofNat_of_zero_le h
  exact rng1 (by omega)
theorem lc_draw {f : D → T RC} {Q : Int → Prop} {n : Int} {o : Bool} {P : R → Prop} (hn : 0 ≤ n) (hn2 : n < 1000000) (hf : ∀ d, f d = .pick Q fun i => .pure (.keep (.int i))) (h : ∀ is : List Int, is.length = n.toNat → (∀ i ∈ is, Q i) → P (.fresh (.lst (is.map .int)))) : (RL.lc itRng1 f (.ok [.int n] o)).all P := by
  show T.all P (match itRng1 [.int n] with | some items => if (!(o && !flatL items) && decide (items.length ≤ lineMax)) = true then (lcL f items).bind fun x => .pure (R.ofList x) else .pure .bad | none => .pure .bad)
  rw [rng1_i hn hn2]
  dsimp only
  have hl : (intsD 0 n.toNat).length = n.toNat := by unfold intsD; simp
  have hfl : flatL (intsD 0 n.toNat) = true := by
    have : ∀ l : List D, (∀ d ∈ l, flat d = true) → flatL l = true := fun l => by
      induction l with
      | nil => intro _; rfl
      | cons d l ih =>
        intro z
        rw [flatL, z d List.mem_cons_self, ih fun e he => z e (List.mem_cons_of_mem _ he)]
        rfl
    refine this _ fun d hd => ?_
    obtain ⟨k, _, rfl⟩ := intsD_mem hd
    rfl
  have c : (!(o && !flatL (intsD 0 n.toNat)) && decide ((intsD 0 n.toNat).length ≤ lineMax)) = true := by
    rw [hfl, hl]
    simp
    unfold lineMax
    omega
  rw [if_pos c, T.all_bind]
  refine T.mono (fun o ho => ?_) (lcL_all (P := fun xs => ∃ is : List Int, xs = is.map .int ∧ is.length = n.toNat ∧ ∀ i ∈ is, Q i) (fun k xs => ∃ is : List Int, xs = is.map .int ∧ is.length = k ∧ ∀ i ∈ is, Q i) (intsD 0 n.toNat) 0 [] (fun k d xs e ⟨is, e1, e2, e3⟩ => ?_) (fun xs ⟨is, e1, e2, e3⟩ => ⟨is, e1, by rw [e2, hl]; omega, e3⟩) ⟨[], rfl, rfl, fun _ z => by cases z⟩)
  · cases o with
    | none => exact ho.elim
    | some xs =>
      obtain ⟨is, e1, e2, e3⟩ := ho
      rw [List.nil_append] at e1
      subst e1
      exact h is e2 e3
  · rw [hf]
    intro i hi
    refine ⟨is ++ [i], by rw [e1, List.map_append]; rfl, by rw [List.length_append, e2]; rfl, fun j hj => ?_⟩
    rcases List.mem_append.mp hj with z | z
    · exact e3 j z
    · rw [List.mem_singleton.mp z]; exact hi
theorem app_P (ts : List Tm) : appD (encP ts) = some fun ds => (appL (ts.map encT) ds).map .lst := rfl
theorem appL_P {ts : List Tm} (t : Tm) (h : ts.length < 1000000) : Option.map D.lst (appL (ts.map encT) [encT t]) = some (encP (ts ++ [t])) := by
  unfold appL encP
  dsimp only
  rw [if_pos (by rw [List.length_map]; unfold lineMax; omega), List.map_append]
  rfl
theorem p__law_terms (ds : List D) (P : R → Prop) (hP : ¬ P .bad) (h : (F._law_terms ds).all P) : (runF 4 7 B__law_terms ds).all P := by
  unfold F._law_terms at h
  split at h
  · rename_i n most high
    by_cases c : 1 ≤ n ∧ n ≤ 100 ∧ 0 ≤ most ∧ most ≤ 100 ∧ 0 ≤ high ∧ high ≤ 100
    · rw [if_pos c] at h
      have h : (F._law_terms [.pool, .int n, .int most, .int high]).all P := by
        unfold F._law_terms
        dsimp only
        rw [if_pos c]
        exact h
      rw [F.terms_all c] at h
      obtain ⟨c1, c2, c3, c4, c5, c6⟩ := c
      refine run_all rfl ?_
      unfold B__law_terms
      refine exs_all ?_
      have e0 : ex (.set 4 (.lst [])) (startN 7 [.pool, .int n, .int most, .int high]) = .pure (.next [.val .pool, .val (.int n), .val (.int most), .val (.int high), .own (encP []), .emp, .emp]) := by
        simp
        rfl
      rw [e0]
      refine exs_all ?_
      have tk := F.take_eq (m := most + 1) (by omega) (by have : (2 : Nat) ^ 64 ≤ 2 ^ 8000 := Nat.pow_le_pow_right (by omega) (by omega); omega)
      have tk2 := F.take_eq (m := high + 1) (by omega) (by have : (2 : Nat) ^ 64 ≤ 2 ^ 8000 := Nat.pow_le_pow_right (by omega) (by omega); omega)
      rw [ex_for]
      simp [tk]
      intro m hm hm2
      obtain ⟨m, rfl⟩ := Int.eq_ofNat_of_zero_le hm
      have r1 := rng1 (n := m) (by omega)
      simp [r1]
      refine forL_idx (fun k n' => ∃ ts a b, ts.length = k ∧ (∀ t ∈ ts, tmOk (uptoQ (high + 1)) n.toNat t) ∧ n' = [.val .pool, .val (.int n), .val (.int most), .val (.int high), .own (encP ts), a, b]) ⟨[], _, _, rfl, (fun _ z => by cases z), rfl⟩ (fun k d n' e q => ?_) (fun n' q => ?_)
      · obtain ⟨ts, a, b, hl, ok, rfl⟩ := q
        obtain ⟨j, hj, rfl⟩ := intsD_mem (List.mem_of_getElem? e)
        have hk : k < m := by
          obtain ⟨z, _⟩ := List.getElem?_eq_some_iff.mp e
          unfold intsD at z
          simpa using z
        refine T.mono (P := fun r => ∃ t b, tmOk (uptoQ (high + 1)) n.toNat t ∧ r = .next [.val .pool, .val (.int n), .val (.int most), .val (.int high), .own (encP (ts ++ [t])), .val (.int j), b]) (fun r hr => ?_) ?_
        · obtain ⟨t, b, ht, rfl⟩ := hr
          refine ⟨ts ++ [t], _, _, by rw [List.length_append, hl]; rfl, fun x hx => ?_, rfl⟩
          rcases List.mem_append.mp hx with z | z
          · exact ok x z
          · rw [List.mem_singleton.mp z]; exact ht
        · show T.all _ (exs L__law_terms_0 [.val .pool, .val (.int n), .val (.int most), .val (.int high), .own (encP ts), .val (.int j), b])
          unfold L__law_terms_0 C__law_terms_0
          simp [Nv.ownOf, frzK, T.mut, app_P, T.vals]
          repeat rw [T.all_bind]
          refine lc_draw (Q := uptoQ (high + 1)) (n := n) (by omega) (by omega) (fun d => ?_) (fun is hi1 hi2 => ?_)
          · simp [tk2]
            rfl
          · have et := tupleD_W (is := is) (fun z => by rw [z] at hi1; simp at hi1; omega)
            simp [et]
            repeat rw [T.all_bind]
            refine F.share_all fun q hq => ?_
            have ea := appL_P (ts := ts) (is, q) (by omega)
            have ee : D.tup [D.pw is, encR q] = encT (is, q) := rfl
            simp [RL.vals, ee, ea]
            exact ⟨is, q, ⟨hi1, hi2, hq⟩, rfl⟩
      · obtain ⟨ts, a, b, hl, ok, rfl⟩ := q
        have hl2 : ts.length = m := by rw [hl]; unfold intsD; simp
        simp [Nv.ownOf]
        exact h ts (by omega) ok
    · rw [if_neg c] at h
      exact absurd h hP
  · exact absurd h hP
theorem kd_P (p : List Tm) : kd (encP p) = true := rfl
theorem isLs_P (p : List Tm) : isLs (encP p) = true := rfl
theorem appL_non {ts : List Tm} (h : ts.length < 1000000) : Option.map D.lst (appL (ts.map encT) [.non]) = some (.lst (ts.map encT ++ [.non])) := by
  unfold appL
  dsimp only
  rw [if_pos (by rw [List.length_map]; unfold lineMax; omega)]
  rfl
theorem tot_drawn {Q : Int → Prop} {n : Nat} : ∀ {ts : List Tm}, (∀ t ∈ ts, tmOk Q n t) → tot ts ≤ 21 * ts.length
  | [], _ => by simp [tot]
  | t :: ts, h => by
    have ih := tot_drawn fun s hs => h s (List.mem_cons_of_mem _ hs)
    have := (h t List.mem_cons_self).2.2.lg
    rw [tot_cons, List.length_cons]
    omega
theorem tok_drawn {m : Int} {n : Nat} {ts : List Tm} (h : ∀ t ∈ ts, tmOk (uptoQ m) n t) : TOk n ts := fun t ht => ⟨(h t ht).1, fun i hi => ((h t ht).2.1 i hi).1⟩
theorem pb_drawn {m : Int} {n : Nat} {ts : List Tm} (h : ∀ t ∈ ts, tmOk (uptoQ (m + 1)) n t) : PB m ts := fun t ht j hj => by
  have := ((h t ht).2.1 j hj).2
  omega
/-- a polynomial drawn -/
theorem pol_drawn {m : Int} {n b L : Nat} {ts : List Tm} (n1 : 1 ≤ n) (hm : m ≤ b) (few : (b + 1) ^ n < 1000000) (h : ∀ t ∈ ts, tmOk (uptoQ (m + 1)) n t) (hl : ts.length ≤ L) (hL : L ≤ 50) : GOkN n b (21 * L) (21 * L) ts ∧ Pol n b (21 * L) (21 * L) (norm ts) := by
  have h1 := tot_drawn h
  have g : GOkN n b (21 * L) (21 * L) ts := ⟨n1, tok_drawn h, (pb_drawn h).mono hm, few, (Bd.of_tot ts).mono (by omega) (by omega), by omega⟩
  exact ⟨g, Pol.of n1 g⟩
end PM

set_option Elab.async false
set_option linter.all false
set_option maxRecDepth 100000
set_option maxHeartbeats 1000000
/-! ALS: a body's turn as a sealed word (Lean's elaborator looks into T.all of a program, and runs it; not into this). -/
namespace PM
open PySem PySem.Spec L2
open PyProof.Rows hiding St
@[irreducible] def AllS (ss : List S) (n : Nv) (Q : RS → Prop) : Prop := (exs ss n).all Q
theorem AllS_eq (ss : List S) (n : Nv) (Q : RS → Prop) : AllS ss n Q = (exs ss n).all Q := by unfold AllS; rfl
theorem as_next {s : S} {ss : List S} {n n' : Nv} {Q : RS → Prop} (e : ex s n = .pure (.next n')) (h : AllS ss n' Q) : AllS (s :: ss) n Q := by
  rw [AllS_eq] at h ⊢
  rw [exs_cons, e, T.bind_p]
  exact h
theorem as_mid {s : S} {ss : List S} {n : Nv} {Q : RS → Prop} (P : Nv → Prop) (e : (ex s n).all fun r => ∃ n', P n' ∧ r = .next n') (h : ∀ n', P n' → AllS ss n' Q) : AllS (s :: ss) n Q := by
  rw [AllS_eq, exs_cons, T.all_bind]
  refine T.mono (fun r hr => ?_) e
  obtain ⟨n', h1, rfl⟩ := hr
  have := h n' h1
  rw [AllS_eq] at this
  exact this
theorem as_fin {n : Nv} {Q : RS → Prop} (h : Q (.next n)) : AllS [] n Q := by
  rw [AllS_eq, exs_nil]
  exact h
/-- a body that returns or goes on -/
theorem as_all {s : S} {ss : List S} {n : Nv} {Q : RS → Prop} (h : (ex s n).all fun r => match r with | .next n' => AllS ss n' Q | r => Q r) : AllS (s :: ss) n Q := by
  rw [AllS_eq, exs_cons, T.all_bind]
  refine T.mono (fun r hr => ?_) h
  cases r with
  | next n => have hr : AllS ss n Q := hr; rw [AllS_eq] at hr; exact hr
  | _ => exact hr
/-! the law's loop, the cells' number told the other way -/
theorem max_minB {n m : Nat} (hm : m < 1000) : maxD [.int 1, .int (if (n : Int) < (m : Int) then (n : Int) else (m : Int))] = .ok (.int ((max 1 (min n m) : Nat) : Int)) := by
  unfold maxD
  dsimp only
  congr 2
  split <;> split <;> omega
def lawEB (m : Int) : List E := [.call "max" (opc maxD) [.c (.int 1), .call "min" (opc minD) [.c (.int m), .call "len" (opc lenD) [.v 0]]]]
theorem law_cellsB {n : Nv} {is : List Int} {m : Nat} (h0 : n[0]? = some (Sl.val (.lst (is.map .int)))) (hm : m < 1000) : evs (lawEB m) n = .pure (.ok [.int ((max 1 (min is.length m) : Nat) : Int)] false) := by
  unfold lawEB
  have e1 : minD [.int m, .int (is.length : Int)] = .ok (.int (if (is.length : Int) < (m : Int) then (is.length : Int) else (m : Int))) := rfl
  simp only [evs_cons, evs_nil, ev_c, ev_call, ev_v, h0, get_val, T.bind_p, argK_ok, consL_ok, Bool.or_false, call_okf, opc_def, lenD_lst, List.length_map, Rop_ok, Rcall_ok, e1, max_minB hm]
theorem law_forB {n : Nv} {is : List Int} {m i : Nat} {body : List S} {Q : RS → Prop} (h0 : n[0]? = some (Sl.val (.lst (is.map .int)))) (hm : m < 64) (I : Nv → Prop) (start : I n) (step : ∀ (k : Nat) (n : Nv), k < 64 → I n → (exs body (n.set i (.val (.int k)))).all (turnEnd I Q)) (done : ∀ n, I n → Q (.next n)) :
    (ex (.for_ (.nm i) (.cl "range" 1) itRng1 (lawEB m) body) n).all Q := by
  rw [ex_for, law_cellsB h0 (by omega), T.bind_p, vals_ok, rng1 (by omega)]
  refine forL_inv I start (fun d n hd hI => ?_) done
  obtain ⟨k, hk, rfl⟩ := intsD_mem hd
  exact step k n (by omega) hI
end PM

set_option Elab.async false
set_option linter.all false
set_option maxRecDepth 100000
set_option maxHeartbeats 4000000
/-! PM36: extend, clear, pop of lists. -/
namespace PM
open PySem PySem.Spec L2
open PyProof.Rows hiding St
theorem list_extW (l : Addr) (items : Array Value) (n : Nat) (b : Addr) (items2 : Array Value) (n2 : Nat) (dd2 : Option Addr) (sl2 : Array (Option Value)) (hc0 : ¬(!items.isEmpty && Builtin.List.listTooLong (items.size + items2.size)) = true) (hc1 : items.size ≤ sizeLine) (hs2 : items.size + items2.size ≤ sizeLine + 1) :
    Meets (Builtin.«list.extend» ⟨[.ref l, .ref b], []⟩) (fun _ R s => s.heap.get? l = some { cls := .type "list", dict := none, data := .seq items n, slots := #[] } ∧ s.heap.get? b = some { cls := .type "list", dict := dd2, data := .seq items2 n2, slots := sl2 } ∧
      R (.ok (.ret Value.none)) { s with heap := s.heap.update l (Obj.mapSeq fun x => x ++ items2), toks := s.toks }) :=
  .of_wp fun prog w A R s h => by
    obtain ⟨hp, g, d, tk, os⟩ := s; obtain ⟨hl, hb, h⟩ := h
    have f1 := AutoSeq1.idx_int; have f2 := AutoSeq1.sub_tuple_tuple; have f3 := AutoSeq1.sub_list_list; have f4 := AutoSeq1.sub_tuple_list; have f5 := AutoSeq1.sub_list_tuple
    have hz' : (items ++ items2).size ≤ sizeLine + 1 := by rw [Array.size_append]; exact hs2
    wp_walk using (wpAny_updateSeq hl rfl (hz := hc1) (_hz' := hz')), wpAny_loadPart' hl, wpAny_loadPart' hb
    exact ⟨_, rfl, h⟩
def rExtQ (K : PySem.W.Frag) : V → List V → Hp → VK → Prop := fun x vs H Q => ∃ l b xs zs, x = .ref l ∧ vs = [.ref b] ∧ H l = some (.lst xs) ∧ SqL K H b zs ∧ xs.length + zs.length ≤ sizeLine ∧ Q .non (upd H l (.lst (xs ++ zs)))
theorem mt_extQ {X : Cx} : MtM X "list.extend" (rExtQ X.K) := by
  intro pins s σ H x vs v us Q I rx rv h
  obtain ⟨l, b, xs, zs, rfl, rfl, hH, hB, hz, q⟩ := h
  cases rx
  obtain ⟨u, rfl, ru⟩ := rv.one
  cases ru
  obtain ⟨z, its, n, r, hl, e⟩ := I.lstM hH
  obtain ⟨its2, r2, ⟨⟨cls2, dd2, data2, sl2⟩, n2, ho2, hc2, _, hd2⟩, _⟩ := I.list hB
  simp only at hc2 hd2
  subst hc2 hd2
  have hl2 := r2.length
  have hsz : its.toArray.size + its2.toArray.size ≤ sizeLine := by rw [List.size_toArray, List.size_toArray]; omega
  have hlong : ¬ (!its.toArray.isEmpty && Builtin.List.listTooLong (its.toArray.size + its2.toArray.size)) = true := by
    rw [notLongL hsz, Bool.and_false]
    exact Bool.false_ne_true
  refine call_meets PySem.F.slot_list_extend ⟨_, e, rfl⟩ PySem.F.entry_list_extend (PySem.F.args_list_extend_2 _ _)
    (list_extW l its.toArray n b its2.toArray n2 dd2 sl2 hlong (by rw [List.size_toArray]; omega) (by omega)) ⟨e, ho2, ?_⟩
  refine ⟨.non, _, I.lset (its' := its ++ its2) hH e (by simp) (r.append r2) ?_, rfl, q⟩
  rw [List.length_append]
  omega
def extL : List D → List D → Option (List D)
  | xs, [.lst ys] => if xs.length + ys.length ≤ lineMax then some (xs ++ ys) else none
  | _, _ => none
def extD := lstM extL
theorem mut_extD {C : Cn} : MutOk C "extend" extD := mut_of PySem.F.plainAttrs_list PySem.F.slot_list_extend PySem.F.type_list_extend fun X A pins s σ H x vs v us Q I rx rv h => by
  obtain ⟨p, B, xs, ds, d', rfl, hb, ⟨ws, h1, h2⟩, hd, e, k⟩ := h
  unfold extL at e
  split at e
  · rename_i ys
    by_cases c : xs.length + ys.length ≤ lineMax
    · rw [if_pos c] at e
      cases e
      obtain ⟨y, rfl, hy⟩ := den1 hd
      unfold Den at hy
      obtain ⟨b, zs, rfl, g1, g2⟩ := hy
      rw [lineMax_eq, ← h2.length, ← g2.length] at c
      have ne : ∀ a, a ≠ p → upd H p (.lst (ws ++ zs)) a = H a := fun a ha => upd_ne ha
      refine mt_extQ pins s σ H _ _ v us Q I rx rv ⟨p, b, ws, zs, rfl, rfl, h1, by rw [A.k]; exact g1.sq, c, k .non _ ne ⟨ws ++ zs, upd_same, ?_⟩⟩
      have kp := kp_one (B := B) ⟨_, h1, rfl⟩ hb ne
      exact (h2.append g2).kp kp fun _ z => z
    · rw [if_neg c] at e; cases e
  · cases e
def clrL : List D → List D → Option (List D)
  | _, [] => some []
  | _, _ => none
def clrD := lstM clrL
theorem mut_clrD {C : Cn} : MutOk C "clear" clrD := mut_of PySem.F.plainAttrs_list PySem.F.slot_list_clear PySem.F.type_list_clear fun X A pins s σ H x vs v us Q I rx rv h => by
  obtain ⟨p, B, xs, ds, d', rfl, hb, ⟨ws, h1, h2⟩, hd, e, k⟩ := h
  unfold clrL at e
  split at e
  · cases e
    have : vs = [] := by unfold DenL at hd; exact hd
    subst this
    have ne : ∀ a, a ≠ p → upd H p (.lst []) a = H a := fun a ha => upd_ne ha
    exact mt_clear pins s σ H _ _ v us Q I rx rv ⟨p, ws, rfl, rfl, h1, k .non _ ne ⟨[], upd_same, .nil⟩⟩
  · cases e
def popL : List D → List D → Option (List D)
  | xs, [] => if xs.length = 0 then none else some xs.dropLast
  | _, _ => none
end PM

set_option Elab.async false
set_option linter.all false
set_option maxRecDepth 100000
set_option maxHeartbeats 2000000
/-! PM35: defs that call themselves. -/
namespace PM
open PySem PySem.Spec L2
open PyProof.Rows hiding St
section
variable {P : Program} {w : World} {K : PySem.W.Frag} {mg : Str → Option Value} {base : Heap} {lv : Nat} {x : Str} {ps : List Str}
/-- a def of which nothing is told -/
theorem good_bad {d : He.DefD} {fd : FuncData} (F : FunD K d.name d.qual d.params d.body d.scope (d.dvs K) (d.kws K) (He.fAd K d.at_) fd) (hd : d.dfl = []) (hk : d.kwd = []) (hx : mg x = some (.ref (He.fAd K d.at_)))
    (hb : ∀ (kV doc pm : Value) (an : Option Addr) (cdv ct : Value) (us : List Value), us.length = ps.length → bindArgs (PySem.W.fnOf d.name d.qual d.params d.body d.scope .none kV doc pm an cdv ct) ⟨us, []⟩ = pure (ps.zip us))
    (hdb : (x == ("__debug__" : Str)) = false) : Good P w K mg base lv x ps (fun _ => .pure .bad) := by
  have F' := F
  unfold He.DefD.dvs He.DefD.kws at F'
  rw [hd, hk] at F'
  exact ⟨_, fd, hx, F.kp, FunD.bindsN F' hb, hdb, (by
    obtain ⟨oc, od, _, _, _, _, _, _, _, osl, e, l, _⟩ := F.ex
    exact ⟨oc, od, osl, l⟩), ⟨fun vs H Q E ⟨_, _, _, _, z⟩ => False.elim z, fun A outer s H args us vs Q E _ _ _ _ _ ⟨_, _, _, _, z⟩ => False.elim z⟩⟩
end
theorem Fn_no {α : Type} {enc : α → List D} {pre : α → Prop} {out : α → T R} (h : ∀ a, ¬ pre a) : ∀ ds (P : R → Prop), ¬ P .bad → (Fn enc pre out ds).all P → (T.pure R.bad).all P := by
  intro ds P hP q
  unfold Fn at q
  by_cases ex : ∃ a, enc a = ds ∧ pre a
  · exact absurd ex.choose_spec.2 (h _)
  · rw [dif_neg ex] at q
    exact q
end PM

set_option Elab.async false
set_option linter.all false
set_option maxRecDepth 100000
set_option maxHeartbeats 4000000
/-! PM37: own exceptions whose __init__ hands a text on and keeps a number. -/
namespace PM
open PySem PySem.Spec L2
open PyProof.Rows hiding St

/-- what a head tells of the class KeepError at KE, as a class whose __init__ is called -/
structure InitC (K : PySem.W.Frag) (KE : Addr) : Prop where
  rd : PySem.W.readsIn K KE (.type "type") = true
  ga : PySem.W.specialIn K (.ref KE) "__getattribute__" = some (some (.builtin "type.__getattribute__"))
  at_ : PySem.W.findCls K (.ref KE) (.type "type") "__init__" = some (.val (.builtin "ValueError.__init__"))
section
variable {X : Cx} {e : Expr} {es : List Expr} {ta : TA} {KE : Addr} {p1 p2 pos : Pos} {pl : Sem Bool}
theorem pe_own_init (T : InitC X.K KE) (hg : Gl X "KeepError") (hm : X.mg "KeepError" = some (.ref KE)) (ha : PA X (e :: es) ta)
    (hc : eval (.Call (.Attribute (.Name "KeepError" p1) "__init__" p2) (e :: es) [] pos) X.env = (do
      let o ← eval (.Name "KeepError" p1) X.env
      standAt p2.atName
      let (f, first) ← holding [o] (getMethod o "__init__" pl)
      callWith pos f first (backTo pos (starEach (e :: es) X.env)) (backToKw pos (keywordEach [] X.env))) := by rfl)
    (he : starEach (e :: es) X.env = (false, eval e X.env) :: starEach es X.env := by rfl) (hpl : (backTo pos (starEach es X.env)).any (·.1) = false := by rfl) :
    PE X (.Call (.Attribute (.Name "KeepError" p1) "__init__" p2) (e :: es) [] pos) (tVeI X.K ta) := by
  refine ⟨fun pins s σ H Q I h => ?_⟩
  refine PySem.W.methodCall_KW (ld_glob I hg hm ?_ (by decide)) hc
  refine PySem.W.method_cls I.kIn T.ga (PySem.W.cls_value I.kIn T.rd T.at_ (by decide +kernel) ?_)
  show wpAny _ _ (callWith pos (Value.builtin "ValueError.__init__") [] (backTo pos (starEach (e :: es) X.env)) []) _ _ _
  refine callWith_method1 (thn (ha.run pos pins _ σ H _ (I.tok _) h) fun us s1 ⟨vs, H1, I1, r1, a, C, ws, ev, hl, T, ea, q⟩ => ?_) he hpl
  subst ev
  cases r1 with
  | @cons _ u0 _ ur ra rw' =>
    obtain rfl : u0 = Value.ref a := ra
    exact oinit_ok T I1 ea (by rw [← Paired.length rw', sizeLine_eq]; omega) fun s' J => ⟨.non, H1, J, rfl, q⟩
end
/-- what such an __init__ does: the number is kept -/
def spNum (K : PySem.W.Frag) : Sp := fun vs H Q _ => ∃ (a C : Addr) (y : V), vs = [.ref a, y] ∧ OexC K C ∧ PySem.W.findIn K (.ref C) "number" = some none ∧ H a = some (exo a C none) ∧
  ∀ dx, H dx = none → dx ≠ a → Q .non (upd (upd H dx (exd dx [(("number" : Str), y)])) a (exo a C (some dx)))
/-- the __init__'s text -/
def numBody (p1 p2 p3 p4 p5 p6 p7 p8 p9 p10 : Pos) (z : Str) (k : Nat) : List Stmt :=
  [.Expr (.Call (.Attribute (.Name "KeepError" p1) "__init__" p2) [.Name "self" p3, .Constant (.str z) k p4] [] p5) p6, .Assign [.Attribute (.Name "self" p7) "number" p8] (.Name "number" p9) p10]
theorem num_init {P : Program} {w : World} {K : PySem.W.Frag} {mg : Str → Option Value} {base : Heap} {qual : Str} {params : Arguments} {scope : Scope} {f KE : Addr} {fd : FuncData} {sts : List Stmt} {p1 p2 p3 p4 p5 p6 p7 p8 p9 p10 : Pos} {z : Str} {k : Nat}
    (F : FunD K "__init__" qual params sts scope [] [] f fd) (hs : sts = numBody p1 p2 p3 p4 p5 p6 p7 p8 p9 p10 z k) (S : FnScope ["self", "number"] ["self", "number"] scope) (g1 : scope.names.lookup ("self" : Str) = some .local) (g2 : scope.names.lookup ("number" : Str) = some .local) (g3 : scope.names.lookup ("KeepError" : Str) = some .globalImplicit)
    {pl : Env → Sem Bool} (hc : ∀ env : Env, eval (.Call (.Attribute (.Name "KeepError" p1) "__init__" p2) [.Name "self" p3, .Constant (.str z) k p4] [] p5) env = (do
      let o ← eval (.Name "KeepError" p1) env
      standAt p2.atName
      let (f, first) ← holding [o] (getMethod o "__init__" (pl env))
      callWith p5 f first (backTo p5 (starEach [.Name "self" p3, .Constant (.str z) k p4] env)) (backToKw p5 (keywordEach [] env))))
    (T : InitC K KE) (hm : mg "KeepError" = some (.ref KE)) : FnOk P w K mg base (L2.CX P w) 1 f fd ["self", "number"] (spNum K) := by
  subst hs
  refine F.ok S (fun vs H Q E ⟨a, C, y, e, _⟩ => by rw [e]; rfl) fun cdv A outer s H vs Q E hr h => ?_
  have v0 : ∀ p, PE (cxOf (L2.CX P w) P w K mg base ["self", "number"] qual scope f cdv A outer s H E) (.Name "self" p) (tVar 0) := fun p => pe_var rfl (.inl g1)
  have v1 : ∀ p, PE (cxOf (L2.CX P w) P w K mg base ["self", "number"] qual scope f cdv A outer s H E) (.Name "number" p) (tVar 1) := fun p => pe_var rfl (.inl g2)
  have i1 := pe_own_init (X := cxOf (L2.CX P w) P w K mg base ["self", "number"] qual scope f cdv A outer s H E) (KE := KE) (p1 := p1) (p2 := p2) (pos := p5) T g3 hm (pa_cons (v0 p3) (pa_cons (pe_str (x := z) (j := k) (pos := p4)) pa_nil)) (hc _)
  refine ⟨_, pss_cons (ps_expr i1) (pss_one (ps_ost (v0 p7) (v1 p9))), ?_⟩
  obtain ⟨a, C, y, rfl, hC, hn, hx, fin⟩ := h
  refine ⟨.ref a, rfl, a, C, [.str z], rfl, by show 1 ≤ 1000; omega, hC, hx, ?_⟩
  exact ⟨y, rfl, .ref a, rfl, a, C, rfl, hC, hn, .inl ⟨hx, fun dx n ne => fin dx n ne⟩⟩
/-! ### what a head tells of such a class -/
def oexB (K : PySem.W.Frag) (C : Addr) : Bool := match K.lookup C with
  | some ⟨.type "type", _, .cls cd, sl⟩ => (match cd.mro, sl.toList with
    | .ref D :: bm, [_, _, _, _, some (.builtin n), _] => D == C && (n == "ValueError.__new__" && (!cd.hasDel && (cd.hasDict && PySem.HandSPX.refsVE bm)))
    | _, _ => false)
  | _ => false
theorem oexB_ok {K : PySem.W.Frag} {C : Addr} (q : oexB K C = true) : ∃ nm q N bs bm sn sub ab col dd k0 k1 k2 k3 k5, K.lookup C = some (excClassObj nm q C N bs bm true sn sub ab col dd k0 k1 k2 k3 k5 "ValueError.__new__") ∧ PySem.HandSPX.refsVE bm = true := by
  unfold oexB at q
  split at q
  · rename_i dd cd sl ho
    split at q
    · rename_i D bm k0 k1 k2 k3 n k5 hm hs
      simp only [Bool.and_eq_true, beq_iff_eq, Bool.not_eq_true'] at q
      obtain ⟨rfl, rfl, h1, h2, h3⟩ := q
      obtain ⟨nm, bs, mro, ns, qn, hd, sn, sb, ab, col, del⟩ := cd
      dsimp only at hm h1 h2
      subst hm h1 h2
      obtain ⟨l⟩ := sl
      dsimp only at hs
      subst hs
      exact ⟨_, _, _, _, _, _, _, _, _, _, _, _, _, _, _, ho, h3⟩
    · cases q
  · cases q
/-- all that is asked of a class with a number -/
def numB (K : PySem.W.Frag) (C : Addr) : Bool :=
  oexB K C && (He.eqO (PySem.W.findIn K (.ref C) "__setattr__") (some (some (.builtin "object.__setattr__"))) && (decide (PySem.W.subIn K (.ref C) (.type "BaseException") = some true) && (decide (PySem.W.typeIn K (.ref C) = some (.type "type")) && (PySem.W.keepIn K (.ref C) &&
  (He.eqO (PySem.W.findIn K (.ref C) "__init__") (some (some (.ref (He.ma K C "__init__")))) && (decide (PySem.W.typeIn K (.ref (He.ma K C "__init__")) = some (.type "function")) && He.eqO (PySem.W.findIn K (.ref C) "number") (some none)))))))
structure NumC (K : PySem.W.Frag) (C : Addr) : Prop where
  ox : OexC K C
  ini : PySem.W.findIn K (.ref C) "__init__" = some (some (.ref (He.ma K C "__init__")))
  ty : PySem.W.typeIn K (.ref (He.ma K C "__init__")) = some (.type "function")
  num : PySem.W.findIn K (.ref C) "number" = some none
theorem numB_ok {K : PySem.W.Frag} {C : Addr} (h : numB K C = true) : NumC K C := by
  unfold numB at h
  simp only [Bool.and_eq_true, decide_eq_true_eq] at h
  obtain ⟨h1, h2, h3, h4, h5, h6, h7, h8⟩ := h
  exact ⟨⟨oexB_ok h1, He.eqO_ok h2, h3, h4, h5⟩, He.eqO_ok h6, h7, He.eqO_ok h8⟩
def initB (K : PySem.W.Frag) (KE : Addr) : Bool := PySem.W.readsIn K KE (.type "type") && (He.eqO (PySem.W.specialIn K (.ref KE) "__getattribute__") (some (some (.builtin "type.__getattribute__"))) && (match PySem.W.findCls K (.ref KE) (.type "type") "__init__" with
  | some (.val v) => decide (v = .builtin "ValueError.__init__")
  | _ => false))
theorem initB_ok {K : PySem.W.Frag} {KE : Addr} (h : initB K KE = true) : InitC K KE := by
  unfold initB at h
  rw [Bool.and_eq_true, Bool.and_eq_true] at h
  obtain ⟨h1, h2, h3⟩ := h
  refine ⟨h1, He.eqO_ok h2, ?_⟩
  split at h3
  · rename_i v e
    rw [e, of_decide_eq_true h3]
  · cases h3
/-! ### raised -/
/-- the number that is handed is kept -/
def rzN : List D → Option (List D)
  | [d] => some [d]
  | _ => none
section
variable {C : Cn}
theorem raise_num {x : Str} {fd : FuncData} (gC : C.mg x = some (.ref (C.cl x))) (T : NumC C.K (C.cl x)) (F : FnOk C.P C.w C.K C.mg C.base (L2.CX C.P C.w) 1 (He.ma C.K (C.cl x) "__init__") fd ["self", "number"] (spNum C.K)) (hb : Binds C.K fd ["self", "number"] []) (hl : 2 ≤ C.lv)
    (hdb : (x == ("__debug__" : Str)) = false := by decide) : RaiseOk C x rzN := by
  obtain ⟨P0, w0, K0, mg0, base0, lv0, cl0⟩ := C
  dsimp only at gC T F hb hl
  intro X A gl p pos es t hs ha
  cases es with
  | nil =>
    intro pins s σ H Q I h Γ pp hΓ
    obtain ⟨vs, H1, I1, r, B, ds, fs, hd, e, k⟩ := ha.run pos pins s σ H _ I h Γ pp hΓ
    cases r
    cases ds with
    | nil => cases e
    | cons _ _ => have := hd.length; cases this
  | cons e es =>
    rw [List.all_cons, Bool.and_eq_true] at hs
    obtain ⟨a1, a2, a3, a4, a5, calm, room, gd⟩ := A
    dsimp only at a1 a2 a3 a4 a5 room
    subst a1; subst a2; subst a3; subst a4; subst a5
    have h0 := pmk_oex (X := X) (CX := L2.CX X.prog X.w) (C := cl0 x) (p := p) (pos := pos) T.ox T.ini T.ty F (room.mono hl) hb .nil (fun _ _ _ _ _ _ _ ⟨_, _, _, _, _, _, _, _, _, _, _, _, h⟩ => False.elim h) gl gC (pa_cl ha) hdb (star_cons hs.1) (star_any hs.2)
    intro pins s σ H Q I h
    refine h0 pins s σ H Q I ⟨_, h, fun vs H1 ⟨B, ds, fs, hd, e, k⟩ => ?_⟩
    unfold rzN at e
    split at e
    · cases e
      obtain ⟨v, rfl, hv⟩ := den1 hd
      refine ⟨by show 1 ≤ 1000; omega, fun a ha' => ⟨a, cl0 x, v, rfl, T.ox, T.num, upd_same, fun dx hdx ne => ⟨rfl, dx, [(("number" : Str), v)], upd_same, by rw [upd_ne ne, upd_same], ?_, ?_⟩⟩⟩
      · rw [upd_ne ne] at hdx; exact hdx
      · have hdx' : H1 dx = none := by rw [upd_ne ne] at hdx; exact hdx
        have eq : upd (del (upd (upd (upd H1 a (exo a (cl0 x) none)) dx (exd dx [(("number" : Str), v)])) a (exo a (cl0 x) (some dx))) a) dx (.xd [(("number" : Str), v)]) = upd H1 dx (.xd [(("number" : Str), v)]) := by
          funext b
          by_cases c1 : b = dx
          · subst c1; rw [upd_same, upd_same]
          · rw [upd_ne c1, upd_ne c1]
            by_cases c2 : b = a
            · subst c2; rw [del_same]; exact ha'.symm
            · rw [del_ne c2, upd_ne c2, upd_ne c1, upd_ne c2]
        rw [eq]
        refine k _ _ (Ex.new hdx') (.inr ⟨dx, v, rfl, upd_same, ?_⟩)
        exact hd.ex (Ex.new hdx')
    · cases e
end
/-! ### the number read -/
def f_num (nums : List Str) : D → R
  | .exn c [d] => if c ∈ nums then .ok d else .bad
  | _ => .bad
theorem fld_num {C : Cn} {nums : List Str} (hN : ∀ x ∈ nums, ExcC C.K (C.cl x) ∧ PySem.W.findIn C.K (.ref (C.cl x)) "number" = some none) : FldOk C "number" (f_num nums) := by
  intro X A eo ap to po he
  refine ⟨fun pins s σ H Q I h => ?_⟩
  refine attr_of (base_of po) (thn (he.run pins s σ H _ I h) fun u s1 ⟨x, H1, I1, rx, B, d, bt, q1, post⟩ => ?_)
  unfold f_num at post
  split at post
  · rename_i c d
    by_cases hc : c ∈ nums
    · rw [if_pos hc] at post
      obtain ⟨T, hno⟩ := hN c hc
      obtain z : Den C.Z H1 B (.exn c [d]) x := q1.elim id fun ⟨p, _, q⟩ => by first | exact False.elim q | (unfold OwnAt at q; exact False.elim q)
      unfold Den at z
      obtain ⟨a, rfl, ⟨e, _⟩ | ⟨dd, w, z, z2, z3⟩⟩ := z
      · cases e
      · obtain rfl : u = Value.ref a := rx
        obtain ⟨⟨oe, vs, hget, hz, hv⟩, _, _⟩ := I1.hok a _ z
        obtain ⟨mA, hns, hr⟩ := (show ObjOk X.prog X.w H1 s1.heap dd (.xd [(("number" : Str), w)]) from I1.hok dd _ z2)
        obtain ⟨od, ho, hl⟩ := lookIn_ns hns
        obtain ⟨u, hu, ru⟩ := RelO.some_of (v := w) (o := mA ("number" : Str)) (by have := hr ("number" : Str); exact this)
        have J : PySem.W.InstAt s1.heap a oe (C.cl c) (some od) := ⟨hget, hz.1, by unfold PySem.W.notCls; rw [hv] <;> rfl, by rw [hz.2]; exact ho⟩
        obtain ⟨y, e, hy⟩ := den1 z3
        cases e
        rw [← A.k] at T hno
        exact PySem.HandSPX.exc_get I1.kIn J T.hg T.hk T.hs (PySem.W.findObj_own T.hd hno rfl (by rw [hl, hu])) (handed_of ru) ⟨w, H1, I1.tok _, ru, post w H1 (Ex.refl _) hy⟩
    · rw [if_neg hc] at post; exact False.elim post
  · exact False.elim post
/-! ### a head with such classes -/
def TopD.numOk (t : TopD) (K : PySem.W.Frag) : Bool := t.ini.all (fun x => decide (x ∈ t.exc) && numB K (He.ga K x)) && (t.ini.isEmpty || initB K (He.ga K "KeepError"))
def TopD.ok2 (t : TopD) (K : PySem.W.Frag) : Bool := t.ok K && t.numOk K
structure NumOk (t : TopD) (K : PySem.W.Frag) : Prop where
  exc : ∀ x ∈ t.ini, x ∈ t.exc
  num : ∀ x ∈ t.ini, NumC K (He.ga K x)
  ini : t.ini ≠ [] → InitC K (He.ga K "KeepError")
theorem numOk {t : TopD} {K : PySem.W.Frag} (h : t.ok2 K = true) : t.ok K = true ∧ NumOk t K := by
  unfold TopD.ok2 TopD.numOk at h
  rw [Bool.and_eq_true, Bool.and_eq_true, List.all_eq_true] at h
  obtain ⟨h1, h2, h3⟩ := h
  refine ⟨h1, fun x hx => of_decide_eq_true (Bool.and_eq_true_iff.mp (h2 x hx)).1, fun x hx => numB_ok (Bool.and_eq_true_iff.mp (h2 x hx)).2, fun hn => ?_⟩
  rw [Bool.or_eq_true] at h3
  rcases h3 with h3 | h3
  · exact absurd (List.isEmpty_iff.mp h3) hn
  · exact initB_ok h3
section
variable {P : Program} {w : World} {K : PySem.W.Frag} {mg : Str → Option Value} {base : Heap} {t : TopD} {lv : Nat}
theorem NumOk.fld (N : NumOk t K) (T : TopOk t K mg) : FldOk (cnOf P w K mg base lv) "number" (f_num t.ini) := fld_num fun x hx => ⟨T.ex x (N.exc x hx), (N.num x hx).num⟩
/-- the class x's __init__ among the defs -/
theorem NumOk.raise_ (N : NumOk t K) (T : TopOk t K mg) {x : Str} {d : He.DefD} {fd : FuncData} {p1 p2 p3 p4 p5 p6 p7 p8 p9 p10 : Pos} {z : Str} {k : Nat} (hx : x ∈ t.ini) (hk : ("KeepError" : Str) ∈ t.exc)
    (F : FunD K d.name d.qual d.params d.body d.scope (d.dvs K) (d.kws K) (He.fAd K d.at_) fd) (hd : d.dfl = []) (hd2 : d.kwd = []) (hat : d.at_ = (x, some ("__init__" : Str))) (hn : d.name = ("__init__" : Str))
    (hs : d.body = numBody p1 p2 p3 p4 p5 p6 p7 p8 p9 p10 z k) (S : FnScope ["self", "number"] ["self", "number"] d.scope) (g1 : d.scope.names.lookup ("self" : Str) = some .local) (g2 : d.scope.names.lookup ("number" : Str) = some .local) (g3 : d.scope.names.lookup ("KeepError" : Str) = some .globalImplicit)
    {pl : Env → Sem Bool} (hc : ∀ env : Env, eval (.Call (.Attribute (.Name "KeepError" p1) "__init__" p2) [.Name "self" p3, .Constant (.str z) k p4] [] p5) env = (do
      let o ← eval (.Name "KeepError" p1) env
      standAt p2.atName
      let (f, first) ← holding [o] (getMethod o "__init__" (pl env))
      callWith p5 f first (backTo p5 (starEach [.Name "self" p3, .Constant (.str z) k p4] env)) (backToKw p5 (keywordEach [] env))))
    (hb : ∀ (kV doc pm : Value) (an : Option Addr) (cdv ct : Value) (us : List Value), us.length = (["self", "number"] : List Str).length → bindArgs (PySem.W.fnOf d.name d.qual d.params d.body d.scope .none kV doc pm an cdv ct) ⟨us, []⟩ = pure ((["self", "number"] : List Str).zip us))
    (hl : 2 ≤ lv) : RaiseOk (cnOf P w K mg base lv) x rzN := by
  have F' := F
  unfold He.DefD.dvs He.DefD.kws at F'
  rw [hd, hd2] at F'
  have bind := FunD.bindsN F' hb
  rw [hn] at F'
  have ad : He.fAd K d.at_ = He.ma K (He.ga K x) "__init__" := by rw [hat]; rfl
  rw [ad] at F'
  exact raise_num (C := cnOf P w K mg base lv) (T.exg x (N.exc x hx)) (N.num x hx) (num_init F' hs S g1 g2 g3 hc (N.ini fun e => by rw [e] at hx; cases hx) (T.exg _ hk)) bind hl (T.edb x (N.exc x hx))
end
end PM

set_option Elab.async false
set_option linter.all false
set_option maxRecDepth 100000
set_option maxHeartbeats 4000000
/-! PM38: max of a list with a default; other expressions, parted by hand. -/
namespace MxD
open PySem PySem.Spec
section
variable {prog : Program} {w : World} {A : Around} {E : Value → Shared → Prop} {s : Shared}
theorem call_fn_kw {id : String} {b : Builtin} {args : List Value} {kw : List (Str × Value)} {Q : Value → Shared → Prop} (hk : builtinKind id = none) (hp : plainId id = true)
    (hb : entryFor table id = some b) (ha : argsOk id ⟨args, kw⟩)
    (hc : wpAny (model prog w) A.in1 (b ⟨args, kw⟩) (fun fin s' => match fin with
      | .done f => (match (Except.ok f : Result) with | .ok (.ret v) => Q v s' | .ok _ => False | .error e => E e s')
      | .again c' => c'.quiet = true ∧ codeAny (model prog w) A c' (fun r s' => match r with | .ok (.ret v) => Q v s' | .ok _ => False | .error e => E e s') s') E s) :
    wpAny (model prog w) A (call (.builtin id) args kw) Q E s := by
  refine wpAny_call (codeAny_call_builtin hp hb ?_)
  simp only [checkBuiltinCall, hk]
  cases hsig : Manifest.signature? id with
  | none => exact wpAny_pure hc
  | some sig =>
    simp only [argsOk, hsig] at ha
    have h2 : Bind.checkArgs id sig ⟨args, kw⟩ = pure () := ha
    show wpAny _ A.in1 (Bind.checkArgs id sig ⟨args, kw⟩) _ _ s
    rw [h2]; exact wpAny_pure hc
end
theorem args_max (a d : Value) : argsOk "max" ⟨[a], [(Str.ofString "default", d)]⟩ := by unfold argsOk; kernel_rfl
section
variable {prog : Program} {w : World} {A : Around} {R : Result → Shared → Prop} {I : Addr} {fp wr : List Addr} {n : Nat} {P : Nat → Value → Prop} {St : Nat → Heap → Prop} {kw : List (Str × Value)}
theorem loop_max (W : Walks prog w A.in1 I fp wr n P St) (bt : Nat → Nat → Bool) (hcmp : CmpOf prog w A.in1 .Gt P bt) (S : Addr) (hSf : S ∉ fp) :
    ∀ (k j : Nat) (s : Shared) (vb : Value) (c : Nat), n - (j + 1) = k → j + 1 ≤ n → St (j + 1) s.heap → P (argBest bt j) vb →
    s.heap.get? S = some { cls := .type "list", dict := none, data := .seq #[vb, vb] c, slots := #[] } →
    (∀ v h' tk, P (argBest bt (n - 1)) v → (∀ b o, b ∉ wr → b ≠ S → s.heap.get? b = some o → h'.get? b = some o) → R (.ok (.ret v)) { s with heap := h', toks := tk }) →
    codeAny (model prog w) A (.builtin "max.loop" ⟨[.ref I, .none, .ref S], kw⟩) R s := by
  have hSw : S ∉ wr := fun h => hSf (W.sub _ h)
  have hname : (toString "max" ++ toString ".loop" : String) = "max.loop" := by decide
  intro k
  induction k with
  | zero =>
    intro j s vb c hk hj hst hPb hS hR
    have hin : j + 1 = n := by omega
    refine codeAny_builtin F.entry_max_loop ?_
    rw [Around.under_plainId F.plain_max_loop _]
    show wpAny _ A.in1 (seqItems? (.ref S) >>= _) _ _ s
    refine wpAny_bind (wpAny_seqItems hS rfl ?_)
    show wpAny _ A.in1 (tryCatch (pyNext (.ref I)) _ >>= _) _ _ s
    refine wpAny_bind (wpAny_tryCatch (W.done s _ _ (hin ▸ hst) fun h' tk hk' => ?_))
    have hS' := hk' S _ hSw hS
    show wpAny _ A.in1 (updateSeq S (fun _ => #[]) >>= _) _ _ _
    refine wpAny_bind ?_
    refine wpAny_updateSeq hS' rfl (wpAny_bind (wpAny_letGo (wpAny_pure ?_)))
    refine hR vb _ tk (by rw [← hin]; exact hPb) fun b o hbw hbS e => (Heap.get?_update_other _ _ (Ne.symm hbS)).trans (hk' b o hbw e)
  | succ k ih =>
    intro j s vb c hk hj hst hPb hS hR
    have hlt : j + 1 < n := by omega
    refine codeAny_builtin F.entry_max_loop ?_
    rw [Around.under_plainId F.plain_max_loop _]
    show wpAny _ A.in1 (seqItems? (.ref S) >>= _) _ _ s
    refine wpAny_bind (wpAny_seqItems hS rfl ?_)
    show wpAny _ A.in1 (tryCatch (pyNext (.ref I)) _ >>= _) _ _ s
    refine wpAny_bind (wpAny_tryCatch (W.item (j + 1) s _ _ hlt hst fun v h' tk hP hst' hk' => ?_))
    have hS' := hk' S _ hSw hS
    show wpAny _ A.in1 (tryCatch (holding [v, v] (richCompare .Gt v vb >>= _)) _ >>= _) _ _ _
    refine wpAny_bind (wpAny_tryCatch (wpAny_holding (wpAny_bind (hcmp (j + 1) (argBest bt j) v vb _ _ _ hP hPb ?_))))
    refine wpAny_bind (wpAny_holding (wpAny_truthy_bool ?_))
    refine wpAny_bind (wpAny_letGo (wpAny_pure ?_))
    cases hb : bt (j + 1) (argBest bt j) with
    | true =>
      simp only [if_true]
      refine wpAny_bind ?_
      refine wpAny_updateSeq hS' rfl (wpAny_bind (wpAny_letGo ?_))
      rw [hname]
      refine wpAny_pure ⟨plainId_quiet F.plain_max_loop _, ih (j + 1) _ v _ (by omega) hlt (W.frame _ _ _ hst' fun b hbf o e => ?_) (by simp only [argBest, hb, if_true]; exact hP) (Heap.get?_update_self _ hS' rfl)
        fun v' h'' tk'' hP' hk'' => ?_⟩
      · exact (Heap.get?_update_other _ _ (fun h : S = b => hSf (by rw [h]; exact hbf))).trans e
      · exact hR v' h'' tk'' hP' fun b o hbw hbS e => hk'' b o hbw hbS ((Heap.get?_update_other _ _ (Ne.symm hbS)).trans (hk' b o hbw e))
    | false =>
      simp only [Bool.false_eq_true, if_false]
      refine wpAny_bind (wpAny_letGo ?_)
      rw [hname]
      refine wpAny_pure ⟨plainId_quiet F.plain_max_loop _, ih (j + 1) _ vb c (by omega) hlt hst' (by simp only [argBest, hb, Bool.false_eq_true, if_false]; exact hPb) hS' fun v' h'' tk'' hP' hk'' => ?_⟩
      exact hR v' h'' tk'' hP' fun b o hbw hbS e => hk'' b o hbw hbS (hk' b o hbw e)
theorem first_max (W : Walks prog w A.in1 I fp wr n P St) (bt : Nat → Nat → Bool) (hcmp : CmpOf prog w A.in1 .Gt P bt) (S : Addr) (hSf : S ∉ fp) (hn : 0 < n) {s : Shared} {c : Nat} (hst : St 0 s.heap)
    (hS : s.heap.get? S = some { cls := .type "list", dict := none, data := .seq #[] c, slots := #[] })
    (hR : ∀ v h' tk, P (argBest bt (n - 1)) v → (∀ b o, b ∉ wr → b ≠ S → s.heap.get? b = some o → h'.get? b = some o) → R (.ok (.ret v)) { s with heap := h', toks := tk }) :
    codeAny (model prog w) A (.builtin "max.loop" ⟨[.ref I, .none, .ref S], kw⟩) R s := by
  have hSw : S ∉ wr := fun h => hSf (W.sub _ h)
  have hname : (toString "max" ++ toString ".loop" : String) = "max.loop" := by decide
  refine codeAny_builtin F.entry_max_loop ?_
  rw [Around.under_plainId F.plain_max_loop _]
  show wpAny _ A.in1 (seqItems? (.ref S) >>= _) _ _ s
  refine wpAny_bind (wpAny_seqItems hS rfl ?_)
  show wpAny _ A.in1 (tryCatch (pyNext (.ref I)) _ >>= _) _ _ s
  refine wpAny_bind (wpAny_tryCatch (W.item 0 s _ _ hn hst fun v h' tk hP hst' hk' => ?_))
  have hS' := hk' S _ hSw hS
  show wpAny _ A.in1 (updateSeq S (fun _ => #[v, v]) >>= _) _ _ _
  refine wpAny_bind ?_
  refine wpAny_updateSeq hS' rfl ?_
  rw [hname]
  refine wpAny_pure ⟨plainId_quiet F.plain_max_loop _, loop_max W bt hcmp S hSf _ 0 _ v _ rfl hn (W.frame _ _ _ hst' fun b hbf o e => ?_) hP (Heap.get?_update_self _ hS' rfl) fun v' h'' tk'' hP' hk'' => ?_⟩
  · exact (Heap.get?_update_other _ _ (fun h : S = b => hSf (by rw [h]; exact hbf))).trans e
  · exact hR v' h'' tk'' hP' fun b o hbw hbS e => hk'' b o hbw hbS ((Heap.get?_update_other _ _ (Ne.symm hbS)).trans (hk' b o hbw e))
theorem none_max {d : Value} (W : Walks prog w A.in1 I fp wr 0 P St) (S : Addr) (hSf : S ∉ fp) {s : Shared} {c : Nat} (hst : St 0 s.heap)
    (hS : s.heap.get? S = some { cls := .type "list", dict := none, data := .seq #[] c, slots := #[] })
    (hR : ∀ h' tk, (∀ b o, b ∉ wr → s.heap.get? b = some o → h'.get? b = some o) → R (.ok (.ret d)) { s with heap := h', toks := tk }) :
    codeAny (model prog w) A (.builtin "max.loop" ⟨[.ref I, .none, .ref S], [(Str.ofString "default", d)]⟩) R s := by
  refine codeAny_builtin F.entry_max_loop ?_
  rw [Around.under_plainId F.plain_max_loop _]
  show wpAny _ A.in1 (seqItems? (.ref S) >>= _) _ _ s
  refine wpAny_bind (wpAny_seqItems hS rfl ?_)
  show wpAny _ A.in1 (tryCatch (pyNext (.ref I)) _ >>= _) _ _ s
  refine wpAny_bind (wpAny_tryCatch (W.done s _ _ hst fun h' tk hk' => ?_))
  show wpAny _ A.in1 (rule _ >>= _) _ _ _
  refine wpAny_bind (wpAny_rule ?_)
  exact wpAny_pure (hR h' tk hk')
end
section
variable {prog : Program} {w : World} {A : Around} {E : Value → Shared → Prop} {s : Shared}
theorem call_max_dflt {x d : Value} {Q : Value → Shared → Prop}
    (h : wpAny (model prog w) A.in1 (pyIter x) (fun it s₂ => ∃ I fp wr n P St bt, it = .ref I ∧ Walks prog w A.in1 I fp wr n P St ∧ St 0 s₂.heap ∧ (∀ b ∈ fp, b < s₂.heap.objs.size) ∧ CmpOf prog w A.in1 .Gt P bt ∧
      (0 < n → ∀ v h' tk, P (argBest bt (n - 1)) v → (∀ b o, b ∉ wr → s₂.heap.get? b = some o → h'.get? b = some o) → Q v { s₂ with heap := h', toks := tk }) ∧
      (n = 0 → ∀ h' tk, (∀ b o, b ∉ wr → s₂.heap.get? b = some o → h'.get? b = some o) → Q d { s₂ with heap := h', toks := tk })) E s) :
    wpAny (model prog w) A (call (.builtin "max") [x] [(Str.ofString "default", d)]) Q E s := by
  have hname : (toString "max" ++ toString ".loop" : String) = "max.loop" := by decide
  refine call_fn_kw F.kind_max F.plain_max F.entry_max (args_max _ _) ?_
  show wpAny _ A.in1 (Builtin.Builtins.bindParams "max" ["key", "default"] 0 ⟨[], [(Str.ofString "default", d)]⟩ >>= _) _ _ s
  refine wpAny_bind (wpAny_of_eq (show Builtin.Builtins.bindParams "max" ["key", "default"] 0 ⟨[], [(Str.ofString "default", d)]⟩ = pure [none, some d] from rfl) ?_)
  refine wpAny_bind (wpAny_pure ?_)
  refine wpAny_bind (wpAny_mono h (fun it s₂ h₂ => ?_) fun _ _ e => e)
  obtain ⟨I, fp, wr, n, P, St, bt, rfl, W, hst, hfp, hcmp, hQ, hD⟩ := h₂
  refine wpAny_bind (wpAny_newObj_type ?_)
  have hSf : s₂.heap.objs.size ∉ fp := fun hm => Nat.lt_irrefl _ (hfp _ hm)
  rw [hname]
  rcases Nat.eq_zero_or_pos n with hn | hn
  · subst hn
    refine wpAny_pure ⟨plainId_quiet F.plain_max_loop _, none_max W s₂.heap.objs.size hSf (W.frame _ _ _ hst fun b _ o e => Heap.get?_push_of_some _ e) (Heap.get?_push_size _ rfl) fun h' tk hk => ?_⟩
    exact hD rfl h' tk fun b o hbw e => hk b o hbw (Heap.get?_push_of_some _ e)
  · refine wpAny_pure ⟨plainId_quiet F.plain_max_loop _, first_max W bt hcmp s₂.heap.objs.size hSf hn (W.frame _ _ _ hst fun b _ o e => Heap.get?_push_of_some _ e) (Heap.get?_push_size _ rfl) fun v h' tk hP hk => ?_⟩
    exact hQ hn v h' tk hP fun b o hbw e => hk b o hbw (Nat.ne_of_lt (Heap.lt_size e)) (Heap.get?_push_of_some _ e)
theorem max_dflt_intList {l : Addr} {xs : Array (Int × Tok)} {d : Value} {Q : Value → Shared → Prop} (hh : A.handled = none) (hl : s.heap.IsList l (intItems xs))
    (h : 0 < xs.size → ∀ v h' tk, (intItems xs)[argBest (fun i j => decide (numAt xs i > numAt xs j)) (xs.size - 1)]? = some v → (∀ b o, s.heap.get? b = some o → h'.get? b = some o) → Q v { s with heap := h', toks := tk })
    (h0 : xs.size = 0 → ∀ h' tk, (∀ b o, s.heap.get? b = some o → h'.get? b = some o) → Q d { s with heap := h', toks := tk }) :
    wpAny (model prog w) A (call (.builtin "max") [.ref l] [(Str.ofString "default", d)]) Q E s := by
  refine call_max_dflt (iter_intList hl fun s₂ e st hfp hlI => ?_)
  subst e
  refine ⟨_, _, _, _, _, _, _, rfl, Walks.list (A := A.in1) hh _ l hlI (intItems xs), st, hfp, CmpOf.ints_gt (numAt xs) (fun _ _ => intItems_at), fun hn v h' tk hP hk => ?_, fun hn h' tk hk => ?_⟩
  · exact h (by simpa [intItems] using hn) v h' tk (by simpa [intItems] using hP) (old_kept hk)
  · exact h0 (by simpa [intItems] using hn) h' tk (old_kept hk)
end
end MxD
namespace PM
open PySem PySem.Spec L2
open PyProof.Rows hiding St
/-! ### max(e, default=None) -/
def rMaxDf (K : PySem.W.Frag) : List V → List V → Hp → VK → Prop := fun vs zs H Q => ∃ (a : Addr) (ns : List Int), vs = [V.ref a] ∧ zs = [.non] ∧ SqL K H a (ns.map V.int) ∧ (ns = [] → Q .non H) ∧ (∀ M, M ∈ ns → (∀ x ∈ ns, x ≤ M) → Q (.int M) H)
theorem cr_maxDf {X : Cx} (hc : X.calm = true) : CallRK X (.builtin "max") [Str.ofString "default"] (rMaxDf X.K) := by
  intro pins s σ H vs zs us ws Q I r rz h
  obtain ⟨a, ns, rfl, rfl, hs, h0, h1⟩ := h
  obtain ⟨its, rv, hl, _⟩ := I.list hs
  obtain rfl := Vals.ref1 r
  obtain ⟨w1, rfl, e1⟩ := vals1 rz
  obtain rfl : w1 = Value.none := e1
  have hi := rv.ints
  have hl := hl.isList
  obtain ⟨xs, e⟩ := hi.allInts.items
  have hn : numsOf (intItems xs).toList = ns := by rw [← e]; exact hi.numsOf
  rw [nums_intItems] at hn
  subst hn
  rw [e] at hl
  refine MxD.max_dflt_intList (I.ok.hd hc) hl (fun hsz v h' tk hv hk => ?_) fun hz h' tk hk => ⟨.non, H, I.kept hk, rfl, h0 (List.eq_nil_of_length_eq_zero (by rw [List.length_map, Array.length_toList]; exact hz))⟩
  obtain ⟨t, rfl⟩ := intItems_at hv
  obtain ⟨k1, k2⟩ := argBest_gt (numAt xs) (xs.size - 1)
  refine ⟨.int _, H, I.kept hk, ⟨t, rfl⟩, h1 _ ?_ fun a ha => ?_⟩
  · rw [numAt_eq]; exact PySem.getD_mem (by rw [List.length_map, Array.length_toList]; omega)
  · obtain ⟨j, hj, rfl⟩ := mem_getD ha
    rw [List.length_map, Array.length_toList] at hj
    rw [← numAt_eq]; exact k2 j (by omega)
def mxs : List Int → Int
  | [] => 0
  | [i] => i
  | i :: is => max i (mxs is)
theorem mxs_le : ∀ {is : List Int} {x : Int}, x ∈ is → x ≤ mxs is
  | [i], x, h => by
    rw [List.mem_singleton] at h
    subst h
    exact Int.le_refl _
  | i :: j :: is, x, h => by
    unfold mxs
    rcases List.mem_cons.mp h with rfl | h
    · omega
    · have := mxs_le (is := j :: is) h
      omega
theorem mxs_mem : ∀ {is : List Int}, is ≠ [] → mxs is ∈ is
  | [i], _ => by unfold mxs; exact List.mem_singleton.mpr rfl
  | i :: j :: is, _ => by
    have := mxs_mem (is := j :: is) (fun z => nomatch z)
    unfold mxs
    by_cases c : i ≤ mxs (j :: is)
    · rw [Int.max_eq_right c]
      exact List.mem_cons_of_mem _ this
    · rw [Int.max_eq_left (by omega)]
      exact List.mem_cons_self
theorem mxs_eq {is : List Int} {M : Int} (h : M ∈ is) (g : ∀ x ∈ is, x ≤ M) : M = mxs is := by
  have a := mxs_le h
  have b := g _ (mxs_mem (fun z => by rw [z] at h; cases h))
  omega
def maxDfD : List D → R
  | [.lst ds] => match intsOf ds with
    | some is => .ok (if is = [] then .non else .int (mxs is))
    | none => .bad
  | _ => .bad
def mMaxDf (sc : Scope) : Expr → Option (List Expr)
  | .Call (.Name x _) [e] [⟨some k, .Constant .none _ _, _⟩] _ => if x = "max" ∧ k = "default" ∧ glB sc x = true ∧ notStar e = true then some [e] else none
  | _ => none
theorem gen_maxDf {C : Cn} (hm : C.mg "max" = none) : GenOk C mMaxDf (opc maxDfD) := by
  intro X W A tk e xs t em hs ha
  unfold mMaxDf at em
  split at em
  · rename_i x p e0 k j q q2 pos
    split at em
    · rename_i c
      obtain ⟨rfl, rfl, hg, hst⟩ := c
      cases em
      have hq : starEach [e0] X.env = (false, eval e0 X.env) :: starEach [] X.env := star_cons hst
      refine ⟨fun pins s σ H Q I h => ?_⟩
      refine wpAny_Call_Name_kw (ld_blt I (gl_of hg) (by rw [A.g]; exact hm) PyProof.Rows.boot_max ?_ (by decide) (by decide))
      refine PyProof.Rows.callWith_kw (thn (ha.run pos pins s σ H _ I h) fun us s1 ⟨vs, H1, I1, r1, B, ds, bt, hd, post⟩ => thn ((pk_cons (nm := some "default") (kpos := q2) (pe_non (X := X) (j := j) (pos := q)) pk_nil).run pos pins s1 σ H1 (fun zs H2 => zs = [.non] ∧ H2 = H1) I1 ⟨rfl, rfl⟩) fun ws s2 ⟨zs, H2, I2, r2, z2, z3⟩ => ?_) (by rw [hq]; rfl) (by rw [hq]; rfl) rfl rfl
      subst z2 z3
      replace post := opc_post post
      unfold maxDfD at post
      split at post
      · rename_i es
        cases ei : intsOf es with
        | none => rw [ei] at post; exact False.elim post
        | some is =>
          rw [ei] at post
          obtain ⟨v, rfl, h⟩ := den1 hd
          unfold Den at h
          obtain ⟨a, ws, rfl, h1, h2⟩ := h
          have z := intsOf_den ei h2
          subst z
          refine cr_maxDf A.calm pins s2 σ H2 _ _ us ws Q I2 r1 r2 ⟨a, is, rfl, rfl, by rw [A.k]; exact h1.sq, fun z => ?_, fun M m1 m2 => ?_⟩
          · exact post _ H2 (Ex.refl _) (by rw [if_pos z]; unfold Den; rfl)
          · exact post _ H2 (Ex.refl _) (by rw [if_neg (fun z => by rw [z] at m1; cases m1), mxs_eq m1 m2]; exact den_int)
      · exact False.elim post
    · cases em
  · cases em
/-! ### len(set(e)), e a list of ints -/
def nSet (is : List Int) : Nat := (PyProof.Rows.firstMet (fun i => is.getD i 0) is.length).length
def lenSetD : List D → R
  | [.lst ds] => match intsOf ds with
    | some is => if is.length < 4000 then .ok (.int (nSet is)) else .bad
    | none => .bad
  | _ => .bad
def mLenSet (sc : Scope) : Expr → Option (List Expr)
  | .Call (.Name x _) [.Call (.Name y _) [e] [] _] [] _ => if x = "len" ∧ y = "set" ∧ glB sc x = true ∧ glB sc y = true ∧ notStar e = true then some [e] else none
  | _ => none
theorem gen_lenSet {C : Cn} (hm : C.mg "len" = none) (hm2 : C.mg "set" = none) : GenOk C mLenSet (opc lenSetD) := by
  intro X W A tk e xs t em hs ha
  unfold mLenSet at em
  split at em
  · rename_i x p y p2 e0 q pos
    split at em
    · rename_i c
      obtain ⟨rfl, rfl, hg, hg2, hst⟩ := c
      cases em
      have hq : starEach [e0] X.env = (false, eval e0 X.env) :: starEach [] X.env := star_cons hst
      refine ⟨fun pins s σ H Q I h => ?_⟩
      refine Call_ (ld_blt I (gl_of hg) (by rw [A.g]; exact hm) boot_len ?_)
      refine PyProof.Rows.callWith_builtin1 (PyProof.Rows.args_cons ?_ rfl) rfl rfl
      refine Call_ (ld_blt I (gl_of hg2) (by rw [A.g]; exact hm2) PyProof.Rows.boot_set ?_)
      refine PyProof.Rows.callWith_type1 (thn (ha.run q pins s σ H _ I h) fun us s1 ⟨vs, H1, I1, r1, B, ds, bt, hd, post⟩ => ?_) hq rfl
      replace post := opc_post post
      unfold lenSetD at post
      split at post
      · rename_i es
        cases ei : intsOf es with
        | none => rw [ei] at post; exact False.elim post
        | some is =>
          rw [ei] at post
          by_cases cl : is.length < 4000
          · have post : PostF1 C.Z WE0 H1 B Q (if is.length < 4000 then .ok (.int (nSet is)) else .bad) := post
            rw [if_pos cl] at post
            obtain ⟨v, rfl, h⟩ := den1 hd
            unfold Den at h
            obtain ⟨a, ws, rfl, h1, h2⟩ := h
            have z := intsOf_den ei h2
            subst z
            obtain rfl := Vals.ref1 r1
            obtain ⟨its, r, pl, hz⟩ := I1.list (show SqL X.K H1 a (is.map V.int) by rw [A.k]; exact h1.sq)
            have hi := r.ints
            have hl : its.toArray.size = is.length := by rw [List.size_toArray, ← r.length, List.length_map]
            refine call_set_list (ns := is) (I1.ok.hd A.calm) pl.isList (by simpa using hi) (by rw [hl]; unfold scanBound; omega) fun h' tk hS hk => ?_
            rw [hl] at hS
            refine PyProof.Rows.args_nil ?_
            obtain ⟨o, es', ep, tb, ho, hex, hd', _, _, _, hf, hn⟩ := hS
            have I2 : Inv X pins σ H1 { s1 with heap := h', toks := tk } := I1.kept fun b o e => hk b o (Heap.lt_size e) e
            have le := PyProof.Rows.firstMet_length_le (fun i => is.getD i 0) is.length
            refine call_len_set ho hex hd' hf (by rw [hn]; omega) ⟨.int (nSet is), H1, I2.tok _, ⟨_, by rw [hn]; rfl⟩, post _ H1 (Ex.refl _) den_int⟩
          · have post : PostF1 C.Z WE0 H1 B Q (if is.length < 4000 then .ok (.int (nSet is)) else .bad) := post
            rw [if_neg cl] at post
            exact False.elim post
      · exact False.elim post
    · cases em
  · cases em
end PM

set_option Elab.async false
set_option linter.all false
set_option maxRecDepth 100000
set_option maxHeartbeats 4000000
/-! PM40: texts: walked, zipped, joined, repeated; range downwards. -/
namespace PM
open PySem PySem.Spec L2
open PyProof.Rows hiding St

/-- the signs of a text -/
def signsD (s : Str) : List D := s.cps.toList.map fun c => .str ⟨#[c]⟩
def itS : List D → Option (List D)
  | [.str s] => some (signsD s)
  | _ => none
theorem signs_len (s : Str) : (signsD s).length = s.cps.size := by
  unfold signsD
  rw [List.length_map, Array.length_toList]
theorem signs_get {s : Str} {i : Nat} {c : Nat} (h : s.cps[i]? = some c) : (signsD s)[i]? = some (.str ⟨#[c]⟩) := by
  unfold signsD
  rw [List.getElem?_map, Array.getElem?_toList, h]
  rfl
theorem walkD_str {Z : Wd} {s : Str} {H : Hp} {B : Addr → Prop} : WalkD Z (Its s) (signsD s) H B := by
  intro B1 hB1
  have hl := signs_len s
  refine ⟨fun _ => True, fun i H v H' => H' = H ∧ ∃ c, s.cps[i]? = some c ∧ v = .str ⟨#[c]⟩, ⟨fun i H hi _ => by rw [hl] at hi; exact hi, fun H _ => by rw [hl]; exact Nat.le_refl _, fun i H v H' hi _ y => y⟩, fun _ _ => trivial, fun i x H1 H2 k hi y => ?_⟩
  obtain ⟨rfl, c, hc, rfl⟩ := y
  exact ⟨Ex.refl _, _, signs_get hc, den_str⟩
section
variable {C : Cn}
theorem it_itS : ItEx C itS := by
  intro X tg iter te A he
  refine pi_weak (pi_str (pe_cl he)) fun σ H Rr h => ⟨_, h, fun v H1 ⟨B, d, items, q, e, k⟩ => ?_⟩
  cases d with
  | str s =>
    cases e
    unfold Den at q
    subst q
    exact ⟨s, rfl, k _ H1 (Ex.refl _) walkD_str⟩
  | _ => cases e
/-- downwards -/
noncomputable def itRng3 : List D → Option (List D)
  | [.int a, .int b, .int c] => if (rngB a && rngB b) = true ∧ c = -1 then some ((List.range (a - b).toNat).map fun i : Nat => .int (a - i)) else none
  | _ => none
theorem walkD_rngC {Z : Wd} {lo : Int} {n : Nat} {H : Hp} {B : Addr → Prop} : WalkD Z (Itc lo (-1) n) ((List.range n).map fun i : Nat => .int (lo - i)) H B := by
  intro B1 hB1
  have hl : ((List.range n).map fun i : Nat => D.int (lo - i)).length = n := by simp
  refine ⟨fun _ => True, fun i H x H' => H' = H ∧ x = .int (lo + (i : Nat) * (-1)), ⟨fun i H hi _ => by rw [hl] at hi; exact hi, fun H _ => by rw [hl]; exact Nat.le_refl _, fun i H v H' hi _ y => y⟩, fun _ _ => trivial, fun i x H1 H2 k hi y => ?_⟩
  obtain ⟨rfl, rfl⟩ := y
  rw [hl] at hi
  refine ⟨Ex.refl _, .int (lo - i), ?_, by rw [show lo + (i : Int) * (-1) = lo - i by omega]; exact den_int⟩
  rw [List.getElem?_map, List.getElem?_range hi]
  rfl
theorem it_rng3 (hm : C.mg "range" = none) : ItCl C "range" 3 itRng3 := by
  intro X tg A gl ht p pos xs t hn hs ha
  have hm' : X.mg "range" = none := by rw [A.g]; exact hm
  obtain ⟨a, b, c, rfl⟩ : ∃ a b c, xs = [a, b, c] := by
    match xs, hn with
    | [a, b, c], _ => exact ⟨a, b, c, rfl⟩
  simp only [List.all_cons, List.all_nil, Bool.and_true, Bool.and_eq_true] at hs
  refine pi_weak (pi_range3 gl hm' (pa_cl ha) (star_cons hs.1) (star_any (by simp [hs.2]))) fun σ H Rr h => ⟨_, h, fun vs H1 ⟨B, ds, items, q, e, k⟩ => ?_⟩
  unfold itRng3 at e
  split at e
  · rename_i m n l
    by_cases c : (rngB m && rngB n) = true ∧ l = -1
    · rw [if_pos c] at e
      cases e
      obtain ⟨c1, rfl⟩ := c
      rw [Bool.and_eq_true] at c1
      unfold DenL at q
      obtain ⟨v, r, rfl, h1, q⟩ := q
      obtain ⟨u, w, rfl, h2, h3⟩ := den2 q
      unfold Den at h1 h2 h3
      subst h1 h2 h3
      exact ⟨m, n, -1, _, rfl, RgC.neg (rngB_ok c1.1).1 (rngB_ok c1.1).2 (rngB_ok c1.2).1 (rngB_ok c1.2).2, k _ H1 (Ex.refl _) walkD_rngC⟩
    · rw [if_neg c] at e; cases e
  · cases e

/-! ### methods of a text -/
def rMS (Z : Wd) (f : Str → List D → R) : V → List V → Hp → VK → Prop := fun x vs H Q => ∃ (B : Addr → Prop) (a : Str) (ds : List D), x = .str a ∧ DenL Z H B ds vs ∧ PostF1 Z WE0 H B Q (f a ds)
def strM (f : Str → List D → R) : D → Option (List D → R)
  | .str a => some fun ds => (f a ds).op
  | _ => none
theorem op_post {Z : Wd} {W : WE} {r : R} {H : Hp} {B : Addr → Prop} {Q : VK} (h : PostF1 Z W H B Q r.op) : PostF1 Z WE0 H B Q r := by
  cases r with
  | ok d => exact h
  | fresh d => exact h
  | own p => exact h
  | exn c f => exact False.elim h
  | bad => exact h
theorem rd_str {Z : Wd} {H : Hp} {B : Addr → Prop} {d : D} {x : V} {f : Str → List D → R} {g : List D → R} (q : RdD Z H B d x) (e : strM f d = some g) : ∃ a, x = .str a ∧ g = fun ds => (f a ds).op := by
  cases d with
  | str a =>
    cases e
    rcases q with q | ⟨p, rfl, q⟩
    · unfold Den at q
      exact ⟨a, q, rfl⟩
    · exact False.elim q
  | _ => cases e
theorem meth_str {m : Str} {id : String} {f : Str → List D → R} (slot : Slot "str" m id) (hty : typeOf (.builtin id) = pure (.type "method_descriptor")) (hm : ∀ X, C.At X → MtR X id (rMS C.Z f)) : MethOk C m (strM f) := by
  intro X W A tk eo ap cp es to t po hl hs hn ho ha
  cases es with
  | nil =>
    refine ⟨fun pins s σ H Q I h => wpAny_Call_method0_late (base_of po) hl (thn (ho.run pins s σ H _ I h) fun v s1 ⟨x, H1, I1, r1, B, d, g, bt, hd, ef, q⟩ => ?_)⟩
    obtain ⟨a, rfl, rfl⟩ := rd_str hd ef
    obtain ⟨t1, t2⟩ := tyV_is I1 r1 (T := "str") rfl
    refine ⟨"str", id, PySem.F.plainAttrs_str, slot, hty, t1, t2, Calls.callWith_builtin rfl (PySem.evalArgs_none ?_)⟩
    intro Γ pp hΓ
    obtain ⟨us, H2, I2, r2, ds, e2, hd2, post⟩ := ha.run cp pins s1 σ H1 _ I1 q Γ pp hΓ
    cases r2
    exact hm X A pins s1 σ H2 _ [] v [] Q I2 r1 .nil ⟨B, a, ds, rfl, hd2, op_post post⟩ Γ pp hΓ
  | cons e es =>
    rw [List.all_cons, Bool.and_eq_true] at hs
    refine pe_weak (pe_bm PySem.F.plainAttrs_str slot hty (hm X A) (pe_cl ho) (pa_cl ha) (base_of po) (few_of (by rw [List.all_cons, hs.1, hs.2]; rfl) hn) hl (star_cons hs.1) (star_any hs.2)) fun σ H Q h => ⟨_, h, fun x H1 ⟨B, d, g, bt, hd, ef, q⟩ => ?_⟩
    obtain ⟨a, rfl, rfl⟩ := rd_str hd ef
    exact ⟨rfl, _, q, fun us H2 ⟨ds, e2, hd2, post⟩ => ⟨B, a, ds, rfl, hd2, op_post post⟩⟩
def strsOf : List D → Option (List Str)
  | [] => some []
  | .str s :: ds => match strsOf ds with
    | some ss => some (s :: ss)
    | none => none
  | _ => none
theorem strsOf_den {Z : Wd} {H : Hp} {B : Addr → Prop} : ∀ {ds : List D} {ss : List Str} {vs : List V}, strsOf ds = some ss → DenL Z H B ds vs → vs = ss.map V.str
  | [], ss, vs, e, h => by unfold strsOf at e; cases e; unfold DenL at h; exact h
  | d :: ds, ss, vs, e, h => by
    cases d with
    | str s =>
      unfold strsOf at e
      cases e1 : strsOf ds with
      | none => rw [e1] at e; cases e
      | some cs =>
        rw [e1] at e
        cases e
        unfold DenL at h
        obtain ⟨v, r, rfl, h1, h2⟩ := h
        unfold Den at h1
        rw [h1, strsOf_den e1 h2]
        rfl
    | _ => unfold strsOf at e; cases e
theorem strsOf_map : ∀ ss : List Str, strsOf (ss.map .str) = some ss
  | [] => rfl
  | s :: ss => by rw [List.map_cons, strsOf, strsOf_map ss]
def joinL : Str → List D → R
  | a, [.lst ds] => match strsOf ds with
    | some ys => if (ys.map (·.length)).sum + ys.length * a.length ≤ 16777216 then .ok (.str (Txt.join a ys)) else .bad
    | none => .bad
  | _, _ => .bad
def m_join := strM joinL
theorem meth_join : MethOk C "join" m_join := meth_str PySem.F.slot_str_join PySem.F.type_str_join fun X A pins s σ H x vs v us Q I rx rv h => by
  obtain ⟨B, a, ds, rfl, hd, post⟩ := h
  unfold joinL at post
  split at post
  · rename_i es
    cases e : strsOf es with
    | none => rw [e] at post; exact False.elim post
    | some ys =>
      rw [e] at post
      dsimp only at post
      by_cases c : (ys.map (·.length)).sum + ys.length * a.length ≤ 16777216
      · rw [if_pos c] at post
        obtain ⟨w, rfl, hw⟩ := den1 hd
        unfold Den at hw
        obtain ⟨p, ws, rfl, h1, h2⟩ := hw
        have z := strsOf_den e h2
        subst z
        exact mt_join pins s σ H _ _ v us Q I rx rv ⟨a, p, ys, rfl, rfl, .inl (by rw [A.k]; exact h1.sq), c, post _ H (Ex.refl _) den_str⟩
      · rw [if_neg c] at post; exact False.elim post
  · exact False.elim post
/-- a text once or not at all -/
def mulS : D → D → R
  | .str a, .int k => if k = 0 then .ok (.str Str.empty) else if k = 1 then .ok (.str a) else .bad
  | _, _ => .bad
theorem mulOk01 {a : Str} {k : Int} (h : k = 0 ∨ k = 1) : MulOk a k := by
  rcases h with rfl | rfl
  · exact ⟨by decide, fun z => absurd (by decide) z, fun z => absurd (by decide) z⟩
  · exact ⟨by decide, fun _ z => by simp at z, fun _ z => by simp at z⟩
theorem bin_mulS : BinOk C .Mult mulS := by
  intro X A pins s σ H x y v u Q I rx ry q
  obtain ⟨B, d, e, bt, q1, q2, post⟩ := q
  cases d with
  | str a =>
    cases e with
    | int k =>
      have post : PostF1 C.Z WE0 H B Q (if k = 0 then .ok (.str Str.empty) else if k = 1 then .ok (.str a) else .bad) := post
      have z1 := q1.all
      have z2 := q2.all
      unfold Den at z1 z2
      subst z1 z2
      obtain ⟨t, rfl⟩ := rx
      obtain ⟨t', rfl⟩ := ry
      by_cases c0 : k = 0
      · rw [if_pos c0] at post
        subst c0
        exact SB.mul (mulOk01 (.inl rfl)) fun t' k => ⟨.str _, H, I.tok k, ⟨t', rfl⟩, post _ H (Ex.refl _) den_str⟩
      · rw [if_neg c0] at post
        by_cases c1 : k = 1
        · rw [if_pos c1] at post
          subst c1
          exact SB.mul (mulOk01 (.inr rfl)) fun t' k => ⟨.str _, H, I.tok k, ⟨t', rfl⟩, post _ H (Ex.refl _) den_str⟩
        · rw [if_neg c1] at post; exact False.elim post
    | _ => exact False.elim (show False from post)
  | _ => exact False.elim (show False from post)
end

/-! ### zip of a text and a list or a tuple -/
def ItZS (K : PySem.W.Frag) (x : Str) (l : Bool) (b : Addr) : It :=
  ⟨fun i H => ∃ (ys : List V) (y : V), SqX K l H b ys ∧ i < x.cps.size ∧ ys[i]? = some y,
    fun i H v H' => ∃ T c y, v = .ref T ∧ H T = none ∧ H' = upd H T (.tup [.str ⟨#[c]⟩, y]) ∧ x.cps[i]? = some c ∧ ∀ ys, SqX K l H b ys → ys[i]? = some y,
    fun i H => ∃ ys : List V, SqX K l H b ys ∧ i = min x.cps.size ys.length⟩
def strIt (x : Str) (t : Tok) : Obj := { cls := .type (strIterType x), data := .fields #[.str x t, .int 0 0] }
theorem strI_obj {h : Heap} {it : Addr} {ty : String} {x : Str} {t : Tok} {i : Nat} (z : h.IsStrIter it ty x t i) : ∃ o, h.get? it = some o ∧ ∀ v, o.data ≠ .cell v := by
  obtain ⟨o, e, _, d⟩ := z
  exact ⟨o, e, fun v z => by rw [d] at z; cases z⟩
theorem strI_at {h h' : Heap} {it : Addr} {ty : String} {x : Str} {t : Tok} {i : Nat} (z : h.IsStrIter it ty x t i) (f : ∀ o, h.get? it = some o → h'.get? it = some o) : h'.IsStrIter it ty x t i := by
  obtain ⟨o, e, r⟩ := z
  exact ⟨o, f o e, r⟩
theorem sep_str {z TI TO i1 i2 b : Addr} (h1 : TI ≠ z) (h2 : TO ≠ z) (h3 : TI ≠ TO) (h4 : TI ≠ i1) (h5 : TI ≠ i2) (h6 : i1 ≠ z) (h7 : i2 ≠ z) (h8 : TO ≠ i1) (h9 : TO ≠ i2) (h10 : i1 ≠ i2) (h11 : b ≠ z) (h12 : b ≠ TO) (h13 : b ≠ i1) : ZipSep2 z TI TO i1 i2 [i1] [i2, b] :=
  ⟨h1, h2, h3, h4, by simp, by simp [h6.symm], by simp [h8], h5, by simp, by simp [h7.symm, h11.symm], by simp [h9, h12.symm], by simp [h10, h13.symm], by simp [h10.symm]⟩
structure ApS (z TI TO i1 i2 b : Addr) : Prop where
  h1 : TI ≠ z
  h2 : TO ≠ z
  h3 : TI ≠ TO
  h4 : TI ≠ i1
  h5 : TI ≠ i2
  h6 : i1 ≠ z
  h7 : i2 ≠ z
  h8 : TO ≠ i1
  h9 : TO ≠ i2
  h10 : i1 ≠ i2
  h11 : b ≠ z
  h12 : b ≠ TO
  h13 : b ≠ i1
  h14 : b ≠ i2
theorem ApS.sep {z TI TO i1 i2 b : Addr} (D : ApS z TI TO i1 i2 b) : ZipSep2 z TI TO i1 i2 [i1] [i2, b] := sep_str D.h1 D.h2 D.h3 D.h4 D.h5 D.h6 D.h7 D.h8 D.h9 D.h10 D.h11 D.h12 D.h13
theorem turn_zipS {P : Program} {w : World} {K : PySem.W.Frag} {es : List Expr} {kk : Nat} {tp : Pos} {x : Str} {t : Tok} {l : Bool} {b z TI TO i1 i2 : Addr} (D : ApS z TI TO i1 i2 b) :
    Turn P w K (.Tuple es kk tp) (ItZS K x l b) [z, TI, TO, i1, i2] z (fun i h => IsZip h z TI TO .none ∧ IsPair h TI (.ref i1) (.ref i2) ∧ (∃ x y, IsPair h TO x y) ∧ h.IsStrIter i1 (strIterType x) x t i ∧ IsSqI l h i2 b i) where
  mem := List.mem_cons_self
  obj := fun i h st c hc => by
    obtain ⟨g1, g2, ⟨x, y, g3⟩, g4, g5⟩ := st
    rcases five hc with q | q | q | q | q <;> subst q
    · exact ⟨_, g1, fun v q => by cases q⟩
    · exact ⟨_, g2, fun v q => by cases q⟩
    · exact ⟨_, g3, fun v q => by cases q⟩
    · exact strI_obj g4
    · exact sqI_obj g5
  keep := fun i h h' st kp => by
    obtain ⟨g1, g2, ⟨x, y, g3⟩, g4, g5⟩ := st
    exact ⟨kp _ (by simp) _ g1, kp _ (by simp) _ g2, ⟨x, y, kp _ (by simp) _ g3⟩, strI_at g4 (kp _ (by simp)), sqI_at g5 (kp _ (by simp))⟩
  item := by
    intro X hP hw hK hc i pins s σ H E I hf st hg
    subst hP hw hK
    obtain ⟨g1, g2, ⟨x0, y0, g3⟩, g4, g5⟩ := st
    obtain ⟨ys, y, qy, iu, ey⟩ := hg
    obtain ⟨vs, rv, pv, lv⟩ := sq_get I qy
    obtain ⟨v, ev, hv⟩ := rv.get ey
    have hv' : vs.toArray[i]? = some v := by simpa using ev
    have hh : X.A.in1.handled = none := I.ok.hd hc
    have iv : i < vs.toArray.size := (Array.getElem?_eq_some_iff.mp hv').1
    refine wpAny_pyNext_zipD2_item D.sep (Draws.text hh i1 x t) (draws_sq hh l i2 b D.h14 vs.toArray) g1 g2 g3 g4 ⟨g5, pv⟩ iu iv fun u1 v1 h' tk e1 e2 n1 n2 n3 n4 n5 _ kp => ?_
    obtain ⟨c, tc, ec, rfl⟩ := e1
    cases hv'.symm.trans e2
    have zl := Heap.lt_size g1
    refine ⟨_, rfl, wpAny_letOwnedTupleGo_zip (s := { s with heap := h', toks := tk }) n1 fun h2 n6 sb => ?_⟩
    have nT : h2.get? s.heap.objs.size = some { cls := .type "tuple", data := .seq #[.str ⟨#[c]⟩ tc, v] } := (sb.2 _ (Nat.ne_of_gt zl)).trans n5
    have ob : ObjOk X.prog X.w (upd H s.heap.objs.size (.tup [.str ⟨#[c]⟩, y])) h2 s.heap.objs.size (.tup [.str ⟨#[c]⟩, y]) :=
      ⟨by rw [sizeLine_eq]; show 2 ≤ 16777216; omega, [.str ⟨#[c]⟩ tc, v], .cons ⟨tc, rfl⟩ (.cons hv .nil), ⟨_, nT, rfl, _, rfl⟩⟩
    have I2 := I.turnedNew (t' := tk) (ch := [z, TI, TO, i1, i2]) (fun c o nm q => (sb.2 c fun q' => nm (by rw [q']; simp)).trans (kp c o (fun q' => nm (by rw [q']; simp)) (fun q' => nm (by rw [q']; simp)) (fun q' => nm (by rw [q']; simp)) (fun q' => nm (by rw [q']; simp)) q)) hf (Nat.le_refl _) ob
    refine ⟨.ref s.heap.objs.size, _, I2, rfl, ⟨_, c, y, rfl, I.hok.fresh (Nat.le_refl _), rfl, ec, fun zs hz => by rw [sq_inj I hz qy]; exact ey⟩, ⟨n6, ?_, ⟨.str ⟨#[c]⟩ tc, v, ?_⟩, ?_, ?_⟩, fun c hcm => ?_⟩
    · exact (sb.2 _ D.h1).trans (kp _ _ D.h1 D.h3 D.h4 D.h5 g2)
    · exact (sb.2 _ D.h2).trans n2
    · exact strI_at n3 fun o q => (sb.2 _ D.h6).trans q
    · exact sqI_at n4.1 fun o q => (sb.2 _ D.h7).trans q
    · have cl : c < s.heap.objs.size := by
        rcases five hcm with q | q | q | q | q <;> subst q
        · exact zl
        · exact Heap.lt_size g2
        · exact Heap.lt_size g3
        · obtain ⟨_, q, _⟩ := strI_obj g4; exact Heap.lt_size q
        · obtain ⟨_, q, _⟩ := sqI_obj g5; exact Heap.lt_size q
      rw [upd_ne (Nat.ne_of_lt cl)]
      exact (hf c hcm).1
  done := by
    intro X hP hw hK hc i pins s σ H E I hf st hg
    subst hP hw hK
    obtain ⟨g1, g2, ⟨x0, y0, g3⟩, g4, g5⟩ := st
    obtain ⟨ys, qy, ei⟩ := hg
    obtain ⟨vs, rv, pv, lv⟩ := sq_get I qy
    have hh : X.A.in1.handled = none := I.ok.hd hc
    have e2 := rv.length
    refine wpAny_pyNext_zipD2_end D.sep (Draws.text hh i1 x t) (draws_sq hh l i2 b D.h14 vs.toArray) g1 g2 g3 g4 ⟨g5, pv⟩ (by omega) (by simp; omega) (by simp; omega) fun h' tk kp => ⟨rfl, I.turnedL (t' := tk) (ch := [z, TI, TO, i1, i2]) (fun c o nm q =>
      kp c o (fun q' => nm (by rw [q']; simp)) (fun q' => nm (by rw [q']; simp)) (fun q' => nm (by rw [q']; simp)) (fun q' => nm (by rw [q']; simp)) q) hf⟩
  self := fun A i s Q E st h => wpAny_pyIter_zip st.1 h
def iZipS (K : PySem.W.Frag) (ta : TA) : TI := fun σ H R => ta σ H fun vs H1 => ∃ x l b ys, vs = [.str x, .ref b] ∧ SqX K l H1 b ys ∧ R (ItZS K x l b) H1
theorem strI_new {h : Heap} {it : Addr} {x : Str} {t : Tok} (e : h.get? it = some (strIt x t)) : h.IsStrIter it (strIterType x) x t 0 := ⟨_, e, rfl, rfl⟩
theorem aps_new (n b : Nat) (h : b < n) : ApS (n + 4) (n + 2) (n + 3) n (n + 1) b :=
  ⟨Nat.ne_of_lt (by omega), Nat.ne_of_lt (by omega), Nat.ne_of_lt (by omega), Nat.ne_of_gt (by omega), Nat.ne_of_gt (by omega), Nat.ne_of_lt (by omega), Nat.ne_of_lt (by omega), Nat.ne_of_gt (by omega), Nat.ne_of_gt (by omega), Nat.ne_of_lt (by omega), Nat.ne_of_lt (by omega), Nat.ne_of_lt (by omega), Nat.ne_of_lt (by omega), Nat.ne_of_lt (by omega)⟩
theorem pi_zipS {X : Cx} {e e2 : Expr} {ta : TA} {p pos tp : Pos} {es : List Expr} {kk : Nat} (hg : Gl X "zip") (hm : X.mg "zip" = none) (ha : PA X [e, e2] ta)
    (hs : starEach [e, e2] X.env = (false, eval e X.env) :: starEach [e2] X.env) (hpl : (backTo pos (starEach [e2] X.env)).any (·.1) = false) : PI X (.Tuple es kk tp) (.Call (.Name "zip" p) [e, e2] [] pos) (iZipS X.K ta) := ⟨fun pins s σ H R I h => by
  refine Call_ (ld_blt I hg hm PyProof.Rows.boot_zip (PyProof.Rows.callWith_type1 (thn (ha.run pos pins s σ H _ I h) fun us s1 ⟨vs, H1, I1, r1, q1⟩ => ?_) hs hpl))
  obtain ⟨x, l, b, ys, rfl, qy, q⟩ := q1
  obtain ⟨va, vb, rfl, ra, rb⟩ := vals2 r1
  obtain ⟨t, rfl⟩ := ra
  cases (show vb = Value.ref b from rb)
  obtain ⟨is2, _, p2, l2⟩ := sq_get I1 qy
  refine zip_begins2 (begins_text x t) (begins_sq l b is2.toArray) trivial p2 fun h' z1 z2 z3 z4 z5 z6 kp => wpAny_pyIter_zip z1 ?_
  have I2 : Inv X pins σ H1 { s1 with heap := h' } := I1.kept (t' := s1.toks) kp
  refine ⟨_, _, _, _, H1, rfl, I2, turn_zipS (x := x) (t := t) (l := l) (aps_new s1.heap.objs.size b l2), ⟨z1, z2, ⟨_, _, z3⟩, strI_new z4, sqI_new z5⟩, fun c hcm => ?_, q⟩
  have hle : s1.heap.objs.size ≤ c := by rcases five hcm with z | z | z | z | z <;> (rw [z]; first | exact Nat.le_refl _ | exact Nat.le_add_right _ _)
  exact I1.fpOk hle (I1.hok.fresh hle)⟩
def itZipS : List D → Option (List D)
  | [.str s, e] => match seqD e with
    | some ys => some (pairsD (signsD s) ys)
    | none => none
  | _ => none
theorem walk_zipS {K : PySem.W.Frag} {x : Str} {l : Bool} {b : Addr} {vs : List V} {n : Nat} (hn : n = min x.cps.size vs.length) : Walk (ItZS K x l b) n (fun H => SqX K l H b vs) (YPair (fun i => (x.cps[i]?).map fun c => V.str ⟨#[c]⟩) (fun i => vs[i]?)) where
  goes := fun i H hi q => ⟨vs, vs[i]'(by omega), q, by omega, List.getElem?_eq_getElem _⟩
  stops := fun H q => ⟨vs, q, hn⟩
  yields := fun i H v H' hi q ⟨T, c, z, g1, g2, g3, g4, g5⟩ => ⟨T, .str ⟨#[c]⟩, z, g1, g2, g3, by show (x.cps[i]?).map _ = _; rw [g4]; rfl, g5 vs q⟩
section
variable {C : Cn}
theorem it_zipS (hm : C.mg "zip" = none) : ItCl C "zip" 2 itZipS := by
  intro X tg A gl ht p pos xs t hn hs ha
  have hm' : X.mg "zip" = none := by rw [A.g]; exact hm
  obtain ⟨a, b, rfl⟩ : ∃ a b, xs = [a, b] := by
    match xs, hn with
    | [a, b], _ => exact ⟨a, b, rfl⟩
  simp only [List.all_cons, List.all_nil, Bool.and_true, Bool.and_eq_true] at hs
  have ht' : isTup tg = true := ht.resolve_right (by decide)
  cases tg with
  | Tuple elts kk tpos =>
    refine pi_weak (pi_zipS gl hm' (pa_cl ha) (star_cons hs.1) (star_any (by simp [hs.2]))) fun σ H Rr h => ⟨_, h, fun vs H1 ⟨B, ds, items, q, e, k⟩ => ?_⟩
    unfold itZipS at e
    split at e
    · rename_i x d2
      cases e2 : seqD d2 with
      | none => rw [e2] at e; cases e
      | some x2 =>
        rw [e2] at e
        cases e
        obtain ⟨v, w, rfl, h1, h2⟩ := den2 q
        unfold Den at h1
        subst h1
        obtain ⟨k2, a2, ws, rfl, s2, n2, g2⟩ := den_seq h2 e2
        refine ⟨x, k2, a2, ws, rfl, by rw [A.k]; exact s2, k _ H1 (Ex.refl _) (walkD_pair (n := min x.cps.size ws.length) (by rw [signs_len, n2.length]) (walk_zipS rfl) fun B1 hB => ⟨fun H' kp => by rw [A.k]; exact (g2 B1 hB).2 H' kp, fun i H' hi kp => ⟨fun v hv => ?_, fun v hv => ?_⟩⟩)⟩
        · cases ec : x.cps[i]? with
          | none => have hv : (x.cps[i]?).map (fun c => V.str ⟨#[c]⟩) = some v := hv; rw [ec] at hv; cases hv
          | some c =>
            have hv : (x.cps[i]?).map (fun c => V.str ⟨#[c]⟩) = some v := hv
            rw [ec] at hv
            cases hv
            exact ⟨_, signs_get ec, den_str⟩
        · obtain ⟨d, z1, z2⟩ := (g2 B1 hB).1.at hv
          exact ⟨d, z1, z2.kp kp fun _ z => z⟩
    · cases e
  | _ => cases ht'
end
end PM

set_option Elab.async false
set_option linter.all false
set_option maxRecDepth 100000
set_option maxHeartbeats 4000000
/-! PM41: repr of plain data; texts compared whatever their signs are. -/
namespace PM
open PySem PySem.Spec L2
open PyProof.Rows hiding St
def eqS : D → D → R
  | .str a, .str b => .ok (.bl (decide (a = b)))
  | _, _ => .bad
def neS : D → D → R
  | .str a, .str b => .ok (.bl (!decide (a = b)))
  | _, _ => .bad
section
variable {C : Cn}
theorem dec_str {a b : Str} : decide (V.str a = V.str b) = decide (a = b) := decide_eq_decide.mpr ⟨fun h => by cases h; rfl, fun h => by rw [h]⟩
theorem cmp_eqS : CmpOk C .Eq eqS := by
  intro X A pins s σ H x y v u Q I rx ry q
  obtain ⟨B, d, e, bt, q1, q2, post⟩ := q
  cases d with
  | str a =>
    cases e with
    | str b =>
      have z1 := q1.all
      have z2 := q2.all
      unfold Den at z1 z2
      subst z1 z2
      refine op_eq pins s σ H _ _ v u Q I rx ry ⟨rfl, ?_⟩
      rw [dec_str]
      exact (show PostF1 C.Z WE0 H B Q (.ok (.bl (decide (a = b)))) from post) _ H (Ex.refl _) den_bl
    | _ => exact False.elim (show False from post)
  | _ => exact False.elim (show False from post)
theorem cmp_neS : CmpOk C .NotEq neS := by
  intro X A pins s σ H x y v u Q I rx ry q
  obtain ⟨B, d, e, bt, q1, q2, post⟩ := q
  cases d with
  | str a =>
    cases e with
    | str b =>
      have z1 := q1.all
      have z2 := q2.all
      unfold Den at z1 z2
      subst z1 z2
      refine op_ne pins s σ H _ _ v u Q I rx ry ⟨rfl, ?_⟩
      rw [dec_str]
      exact (show PostF1 C.Z WE0 H B Q (.ok (.bl (!decide (a = b)))) from post) _ H (Ex.refl _) den_bl
    | _ => exact False.elim (show False from post)
  | _ => exact False.elim (show False from post)
@[simp] theorem eqS_str (a b : Str) : eqS (.str a) (.str b) = .ok (.bl (decide (a = b))) := rfl
@[simp] theorem neS_str (a b : Str) : neS (.str a) (.str b) = .ok (.bl (!decide (a = b))) := rfl
/-- what may be shown -/
def shwB (p : PyData) : Bool := p.showable && !p.hasDict && decide (p.depth ≤ 60) && decide (p.shown.length ≤ 16777216)
def reprD : List D → R
  | [.dT [] []] => .ok (.str (PyData.shown (.dict [])))
  | [d] => match toP d with
    | some p => if shwB p = true then .ok (.str p.shown) else .bad
    | none => .bad
  | _ => .bad
theorem cr_reprD (X : Cx) (A : C.At X) : CallR X (.builtin "repr") (rC C.Z reprD) := by
  intro pins s σ H xs us Q I rv ⟨B, ds, bt, hd, post⟩
  unfold reprD at post
  split at post
  · obtain ⟨x, rfl, h⟩ := den1 hd
    obtain ⟨u, rfl, ru⟩ := vals1 rv
    unfold Den at h
    obtain ⟨a, kvs, rfl, _, hH, hk, _⟩ := h
    obtain rfl : kvs = [] := List.map_eq_nil_iff.mp hk
    cases (show u = Value.ref a from ru)
    obtain ⟨_, sm, xs, pr, o, es, ep, g1, g2, g3, g4, _⟩ := I.hok a _ hH
    cases pr
    have e0 : es.toList = [] := g4
    have un := A.room.un
    have rd : Reads s.heap (.ref a) (.dict []) (a :: [] ++ []) := .dict g1 g2.1 g3 (by rw [e0]; exact .nil) (by rw [e0]; exact .nil)
    exact repr_of_reads' rd rfl (fun _ z => by simp at z; rw [z] at sm; simp at sm) A.gd (by show _ + (1 + 1) < _; omega) (fun b o z => z) (fun h' t tk hk => ⟨.str _, H, I.kept hk, ⟨_, rfl⟩, post _ H (Ex.refl _) den_str⟩) (by rw [sizeLine_eq]; decide)
  · rename_i d _
    obtain ⟨x, rfl, h⟩ := den1 hd
    obtain ⟨u, rfl, ru⟩ := vals1 rv
    cases e : toP d with
    | none => rw [e] at post; exact False.elim post
    | some p =>
      rw [e] at post
      dsimp only at post
      by_cases c : shwB p = true
      · rw [if_pos c] at post
        unfold shwB at c
        simp only [Bool.and_eq_true, Bool.not_eq_true', decide_eq_true_eq] at c
        obtain ⟨⟨⟨c1, c2⟩, c3⟩, c4⟩ := c
        have dp := toP_dp d x p e h
        obtain ⟨as, r⟩ := Dp.reads I p x u (by rw [A.k]; exact dp) ru
        have un := A.room.un
        have sz : p.shown.length ≤ sizeLine := by rw [sizeLine_eq]; exact c4
        cases r with
        | none => exact PySem.P.repr_of_none ⟨.str _, H, I.tok _, ⟨_, rfl⟩, post _ H (Ex.refl _) den_str⟩
        | bool b => exact PySem.P.repr_of_bool ⟨.str _, H, I.tok _, ⟨_, rfl⟩, post _ H (Ex.refl _) den_str⟩
        | int i t => exact PySem.P.repr_of_int (of_decide_eq_true c1) ⟨.str _, H, I.tok _, ⟨_, rfl⟩, post _ H (Ex.refl _) den_str⟩
        | str y t => exact PySem.P.repr_of_str ⟨.str _, H, I.tok _, ⟨_, rfl⟩, post _ H (Ex.refl _) den_str⟩ sz
        | list h1 h2 h3 h4 => exact repr_of_reads' (.list h1 h2 h3 h4) c1 (fun z => by rw [c2] at z; cases z) A.gd (by omega) (fun b o z => z) (fun h' t tk hk => ⟨.str _, H, I.kept hk, ⟨_, rfl⟩, post _ H (Ex.refl _) den_str⟩) sz
        | tuple h1 h2 h3 h4 => exact repr_of_reads' (.tuple h1 h2 h3 h4) c1 (fun z => by rw [c2] at z; cases z) A.gd (by omega) (fun b o z => z) (fun h' t tk hk => ⟨.str _, H, I.kept hk, ⟨_, rfl⟩, post _ H (Ex.refl _) den_str⟩) sz
        | dict => exact absurd c2 (by simp [PyData.hasDict])
      · rw [if_neg c] at post; exact False.elim post
  · exact False.elim post
theorem call_reprD (hm : C.mg "repr" = none) : CallOk C "repr" (opc reprD) := callB cr_reprD hm PyProof.Rows.boot_repr rfl
end
end PM

set_option Elab.async false
set_option linter.all false
set_option maxRecDepth 100000
set_option maxHeartbeats 4000000
/-! PM42: a tuple of any things repeated. -/
namespace PM
open PySem PySem.Spec L2
open PyProof.Rows hiding St
def mulTp : D → D → R
  | .tup ds, .int k => if ds ≠ [] ∧ ds.length ≤ 1000 ∧ 1 ≤ k ∧ k ≤ 1000 then .ok (.tup (List.replicate k.toNat ds).flatten) else .bad
  | _, _ => .bad
theorem rd_tupA {Z : Wd} {H : Hp} {B : Addr → Prop} {ds : List D} {x : V} (q : RdD Z H B (.tup ds) x) : ∃ a vs, x = .ref a ∧ SqT Z.K H a vs ∧ DenL Z H B ds vs := by
  rcases q with q | ⟨p, rfl, q⟩
  · unfold Den at q
    exact q
  · exact False.elim q
theorem bin_mulTp {C : Cn} : BinOk C .Mult mulTp := by
  intro X A pins s σ H x y v u Q I rx ry q
  obtain ⟨B, d, e, bt, q1, q2, post⟩ := q
  cases d with
  | tup ds =>
    cases e with
    | int k =>
      have post : PostF1 C.Z WE0 H B Q (if ds ≠ [] ∧ ds.length ≤ 1000 ∧ 1 ≤ k ∧ k ≤ 1000 then .ok (.tup (List.replicate k.toNat ds).flatten) else .bad) := post
      by_cases c : ds ≠ [] ∧ ds.length ≤ 1000 ∧ 1 ≤ k ∧ k ≤ 1000
      · rw [if_pos c] at post
        obtain ⟨c1, c2, c3, c4⟩ := c
        obtain ⟨l, vs, h1, h2, h3⟩ := rd_tupA q1
        have hl := h3.length
        have z2 := q2.all
        unfold Den at z2
        by_cases k1 : k = 1
        · subst k1
          have e : (List.replicate (1 : Int).toNat ds).flatten = ds := by simp
          rw [e] at post
          exact op_mulT1 pins s σ H x y v u Q I rx ry ⟨l, vs, h1, z2, by rw [A.k]; exact h2, post _ H (Ex.refl _) (den_tup h2 h3)⟩
        · refine op_repT pins s σ H x y v u Q I rx ry ⟨l, k, vs, h1, z2, by rw [A.k]; exact h2, fun z => c1 (by rw [z] at hl; exact List.length_eq_zero_iff.mp hl.symm), by omega, c4, by rw [hl]; exact c2, fun p hp => ?_⟩
          exact post _ _ (Ex.new hp) (den_tupN hp (h3.rep _))
      · rw [if_neg c] at post; exact False.elim post
    | _ => exact False.elim (show False from post)
  | _ => exact False.elim (show False from post)
end PM

set_option Elab.async false
set_option linter.all false
set_option maxRecDepth 100000
set_option maxHeartbeats 4000000
/-! PM43: own exceptions made and held, not raised; the number of one that is made. -/
namespace PM
open PySem PySem.Spec L2
open PyProof.Rows hiding St
def mkX (x : Str) (f : List D → Option (List D)) : List D → R := fun ds => match f ds with
  | some fs => .ok (.exn x fs)
  | none => .bad
theorem pa_up {X : Cx} {es : List Expr} {t : TA} (ha : PA X es t) : PA X es (fun σ H Q' => ∃ Q0, t σ H Q0 ∧ ∀ vs H1, Q0 vs H1 → Q' vs H1) :=
  ⟨fun pos pins s σ H Q I ⟨Q0, h, w⟩ => thn (ha.run pos pins s σ H Q0 I h) fun us s1 ⟨vs, H1, I1, r, q⟩ => ⟨vs, H1, I1, r, w _ _ q⟩⟩
section
variable {C : Cn} {x : Str} {f : List D → Option (List D)}
theorem call_mk (hr : RaiseOk C x f) : CallOk C x (opc (mkX x f)) := by
  intro X W A tk gl p pos es t hs ha
  refine ⟨fun pins s σ H Q I h => ?_⟩
  have h0 := hr X A gl p pos es _ hs (pa_up ha)
  refine wpAny_mono (h0 pins s σ H (fun cls d H' => cls = .ref (C.cl x) ∧ ∀ a, H' a = none → Q (.ref a) (upd H' a (ExH (C.cl x) d a))) I ⟨_, h, fun vs H1 ⟨B, ds, bt, hd, post⟩ => ?_⟩) (fun u s1 hu => ?_) fun _ _ x => x
  · have post := opc_post post
    unfold mkX at post
    split at post
    · rename_i fs e
      refine ⟨B, ds, fs, hd, e, fun H2 cd e2 hx => ⟨rfl, fun a ha => post _ _ (e2.trans (Ex.new ha)) ?_⟩⟩
      have e1 : Ex H2 (upd H2 a (ExH (C.cl x) cd a)) := Ex.new ha
      unfold Den
      refine ⟨a, rfl, ?_⟩
      rcases hx with ⟨z1, z2⟩ | ⟨dd, w, z1, z2, z3⟩
      · subst z2
        exact .inl ⟨z1, upd_same⟩
      · subst z1
        exact .inr ⟨dd, w, upd_same, e1 _ _ z2, z3.ex e1⟩
    · exact False.elim post
  · obtain ⟨a, oe, vs, sI, H', cls, d, rfl, J, k, hne, hae, hz, hd, h1, na, os, ag, r, rfl, q⟩ := hu
    refine ⟨.ref a, _, ?_, rfl, q a na⟩
    have new : ObjOk X.prog X.w (upd H' a (ExH (C.cl x) d a)) s1.heap a (ExH (C.cl x) d a) := ⟨⟨oe, vs, hae, hz, hd⟩, ⟨oe, hae⟩, fun h1 h2 ⟨o, v, q1, q2, q3⟩ k => ⟨o, v, k o q1, q2, q3⟩⟩
    have U : Un (frs X.stack) [] H' (upd H' a (ExH (C.cl x) d a)) sI.heap s1.heap := Un.laidN k hne na
    obtain ⟨h2, g2, d2, t2, os2⟩ := s1
    obtain ⟨h3, g3, d3, t3, os3⟩ := sI
    exact J.call' (ch := []) os U (J.hok.laidN k na new) ag (fun b z => absurd z (by simp))
/-! ### the number of one that is made -/
def numX (f : List D → Option (List D)) : List D → R := fun ds => match f ds with
  | some [d] => .ok d
  | _ => .bad
def mNum (x : Str) (sc : Scope) : Expr → Option (List Expr)
  | .Attribute (.Call (.Name y _) (e :: es) [] _) a _ => if x = y ∧ a = "number" ∧ glB sc y = true then some (e :: es) else none
  | _ => none
theorem gen_num (hr : RaiseOk C x f) (T : ExcC C.K (C.cl x)) (hno : PySem.W.findIn C.K (.ref (C.cl x)) "number" = some none) : GenOk C (mNum x) (opc (numX f)) := by
  intro X W A tk e xs t em hs ha
  unfold mNum at em
  split at em
  · rename_i y p e0 es q a r
    split at em
    · rename_i c
      obtain ⟨rfl, rfl, hg⟩ := c
      cases em
      have h0 := call_mk hr X W A tk (gl_of hg) p q _ _ hs (pa_up ha)
      refine ⟨fun pins s σ H Q I h => ?_⟩
      refine attr_of rfl (thn (h0.run pins s σ H (fun v H1 => ∃ B d, Den C.Z H1 B (.exn x [d]) v ∧ ∀ w H', Ex H1 H' → Den C.Z H' B d w → Q w H') I ⟨_, h, fun vs H1 ⟨B, ds, bt, hd, post⟩ => ⟨B, ds, bt, hd, ?_⟩⟩) fun u s1 ⟨v, H1, I1, rx, B, d, z, post⟩ => ?_)
      · have post := opc_post post
        unfold numX at post
        split at post
        · rename_i d ef
          have e1 : opc (mkX x f) ds = .pure (.ok (.exn x [d])) := by
            unfold opc mkX
            rw [ef] <;> rfl
          rw [e1]
          exact fun w H' e' dn => ⟨B, d, dn, fun w2 H2 e2 dn2 => post w2 H2 (e'.trans e2) dn2⟩
        · exact False.elim post
      · unfold Den at z
        obtain ⟨a, rfl, ⟨e, _⟩ | ⟨dd, w, z, z2, z3⟩⟩ := z
        · cases e
        · obtain rfl : u = Value.ref a := rx
          obtain ⟨⟨oe, vs, hget, hz, hv⟩, _, _⟩ := I1.hok a _ z
          obtain ⟨mA, hns, hr⟩ := (show ObjOk X.prog X.w H1 s1.heap dd (.xd [(("number" : Str), w)]) from I1.hok dd _ z2)
          obtain ⟨od, ho, hl⟩ := lookIn_ns hns
          obtain ⟨u, hu, ru⟩ := RelO.some_of (v := w) (o := mA ("number" : Str)) (by have := hr ("number" : Str); exact this)
          have J : PySem.W.InstAt s1.heap a oe (C.cl x) (some od) := ⟨hget, hz.1, by unfold PySem.W.notCls; rw [hv] <;> rfl, by rw [hz.2]; exact ho⟩
          obtain ⟨y, e, hy⟩ := den1 z3
          cases e
          rw [← A.k] at T hno
          exact PySem.HandSPX.exc_get I1.kIn J T.hg T.hk T.hs (PySem.W.findObj_own T.hd hno rfl (by rw [hl, hu])) (handed_of ru) ⟨w, H1, I1.tok _, ru, post w H1 (Ex.refl _) hy⟩
    · cases em
  · cases em
end
end PM

set_option Elab.async false
set_option linter.all false
set_option maxRecDepth 100000
set_option maxHeartbeats 4000000
/-! PM44: insert; tuples of ints and of any things joined; >= of tuples of ints. -/
namespace L2
open PySem PySem.Spec PyProof.Rows
def rGeT (K : PySem.W.Frag) : R2 := fun x y H Q => ∃ (a b : Addr) (ns ms : List Int), x = .ref a ∧ y = .ref b ∧ SqT K H a (ns.map V.int) ∧ SqT K H b (ms.map V.int) ∧
  Q (.bl (Ob.lexAt (fun j => decide (ns.getD j 0 = ms.getD j 0)) (fun j => decide (ms.getD j 0 ≤ ns.getD j 0)) (decide (ns.length ≥ ms.length)) 0 (min ns.length ms.length))) H
theorem op_geT {X : Cx} (hu : X.A.units < cLine) : OpR X (compareOp .GtE) (rGeT X.K) := by
  intro pins s σ H x y v u Q I rx ry h
  obtain ⟨a, b, ns, ms, rfl, rfl, ha, hb, q⟩ := h
  cases rx
  cases ry
  obtain ⟨its, r1, p1, _⟩ := I.tuple ha
  obtain ⟨its2, r2, p2, _⟩ := I.tuple hb
  have i1 : IntsAre its ns := Vals.ints r1
  have i2 : IntsAre its2 ms := Vals.ints r2
  have e1 : its.toArray.size = ns.length := by rw [List.size_toArray]; exact i1.length
  have e2 : its2.toArray.size = ms.length := by rw [List.size_toArray]; exact i2.length
  have at1 : ∀ j (h1 : j < its.toArray.size), ∃ t, its.toArray[j] = .int (ns.getD j 0) t := fun j h1 => PyProof.Rows.IntsAre.int_at i1 _ _ (by simp at h1; simp [h1])
  have at2 : ∀ j (h1 : j < its2.toArray.size), ∃ t, its2.toArray[j] = .int (ms.getD j 0) t := fun j h1 => PyProof.Rows.IntsAre.int_at i2 _ _ (by simp at h1; simp [h1])
  have R := Ob.RcOp.tuples_ge (A := X.A) (s := s) (e := fun j => decide (ns.getD j 0 = ms.getD j 0)) (r := fun j => decide (ms.getD j 0 ≤ ns.getD j 0)) p1 p2 hu (fun j h1 h2 => by
    obtain ⟨t, et⟩ := at1 j h1
    obtain ⟨t', et'⟩ := at2 j h2
    rw [et, et']
    have z : (ns.getD j 0 == ms.getD j 0) = decide (ns.getD j 0 = ms.getD j 0) := by
      by_cases q : ns.getD j 0 = ms.getD j 0
      · rw [decide_eq_true q]; exact beq_iff_eq.mpr q
      · rw [decide_eq_false q]; exact beq_eq_false_iff_ne.mpr q
    rw [← z]
    exact SeqAt.EqAt.int_int _ _ _ _) (fun j h1 h2 _ => by
    obtain ⟨t, et⟩ := at1 j h1
    obtain ⟨t', et'⟩ := at2 j h2
    rw [et, et']
    exact Ob.RcOp.ge_int _ _ _ _)
  rw [e1, e2] at R
  have z : wpAny (model X.prog X.w) X.A (compareOp .GtE (.ref a) (.ref b)) (EP X pins σ Q) X.xe s := R X.prog X.w X.xe (EP X pins σ Q) ⟨.bl _, H, I, rfl, q⟩
  exact z
theorem lexAt_ge (ns ms : List Int) : ∀ k i, i + k = min ns.length ms.length →
    Ob.lexAt (fun j => decide (ns.getD j 0 = ms.getD j 0)) (fun j => decide (ms.getD j 0 ≤ ns.getD j 0)) (decide (ns.length ≥ ms.length)) i k = !HT.lexLt (ns.drop i) (ms.drop i)
  | 0, i, h => by
    rw [Ob.lexAt_zero]
    by_cases c : ms.length ≤ ns.length
    · rw [decide_eq_true c]
      have : ms.drop i = [] := List.drop_of_length_le (by omega)
      rw [this]
      cases ns.drop i <;> rfl
    · rw [decide_eq_false c]
      have e1 : ns.drop i = [] := List.drop_of_length_le (by omega)
      rw [e1, List.drop_eq_getElem_cons (l := ms) (i := i) (by omega)]
      rfl
  | k + 1, i, h => by
    have h1 : i < ns.length := by omega
    have h2 : i < ms.length := by omega
    rw [Ob.lexAt_succ, lexAt_ge ns ms k (i + 1) (by omega), List.drop_eq_getElem_cons h1, List.drop_eq_getElem_cons h2, HT.lexLt_cons]
    have g1 : ns.getD i 0 = ns[i] := by rw [List.getD_eq_getElem?_getD, List.getElem?_eq_getElem h1]; rfl
    have g2 : ms.getD i 0 = ms[i] := by rw [List.getD_eq_getElem?_getD, List.getElem?_eq_getElem h2]; rfl
    rw [g1, g2]
    by_cases c : ns[i] = ms[i]
    · rw [if_pos c, if_pos (decide_eq_true c)]
    · rw [if_neg c, if_neg (by simpa using c)]
      by_cases d : ns[i] < ms[i]
      · rw [decide_eq_true d, decide_eq_false (by omega)]; rfl
      · rw [decide_eq_false d, decide_eq_true (by omega)]; rfl
end L2
namespace PM
open PySem PySem.Spec L2
open PyProof.Rows hiding St
def geW : D → D → R
  | .pw i, .pw j => .ok (.bl (!HT.lexLt i j))
  | _, _ => .bad
theorem cmp_geW {C : Cn} : CmpOk C .GtE geW := by
  intro X A pins s σ H x y v u Q I rx ry q
  obtain ⟨B, d, e, bt, q1, q2, post⟩ := q
  cases d with
  | pw i =>
    cases e with
    | pw j =>
      have post : PostF1 C.Z WE0 H B Q (.ok (.bl (!HT.lexLt i j))) := post
      obtain ⟨l, h1, h2⟩ := rd_pw q1
      obtain ⟨m, g1, g2⟩ := rd_pw q2
      have z := lexAt_ge i j (min i.length j.length) 0 (by omega)
      rw [List.drop_zero, List.drop_zero] at z
      exact op_geT (by have := A.room.un; show X.A.units < cLine; omega) pins s σ H x y v u Q I rx ry ⟨l, m, i, j, h1, g1, .inl (.inl h2), .inl (.inl g2), by rw [z]; exact post _ H (Ex.refl _) den_bl⟩
    | _ => exact False.elim (show False from post)
  | _ => exact False.elim (show False from post)
def uGe2 : D → D → R := orF geI geW
theorem cmp_uGe2 {C : Cn} : CmpOk C .GtE uGe2 := cmp_geI.or cmp_geW
@[simp] theorem uGe2_pw (i j : List Int) : uGe2 (.pw i) (.pw j) = .ok (.bl (!HT.lexLt i j)) := rfl
/-! ### joined -/
def joinM : D → D → R
  | .tup a, .pw b => if a.length + b.length ≤ lineMax then .ok (.tup (a ++ b.map .int)) else .bad
  | .pw a, .tup b => if a.length + b.length ≤ lineMax then .ok (.tup (a.map .int ++ b)) else .bad
  | _, _ => .bad
theorem bin_joinM {C : Cn} : BinOk C .Add joinM := by
  intro X A pins s σ H x y v u Q I rx ry q
  obtain ⟨B, d, e, bt, q1, q2, post⟩ := q
  cases d with
  | tup a =>
    cases e with
    | pw b =>
      have post : PostF1 C.Z WE0 H B Q (if a.length + b.length ≤ lineMax then .ok (.tup (a ++ b.map .int)) else .bad) := post
      by_cases c : a.length + b.length ≤ lineMax
      · rw [if_pos c] at post
        obtain ⟨l, vs, h1, h2, h3⟩ := rd_tupA q1
        obtain ⟨m, g1, g2⟩ := rd_pw q2
        rw [lineMax_eq] at c
        refine op_catA pins s σ H x y v u Q I rx ry ⟨l, m, vs, _, h1, g1, by rw [A.k]; exact h2, .inl (.inl g2), by rw [List.length_map, h3.length]; exact c, fun e => ?_, fun _ e => ?_, fun _ _ p hp => ?_⟩
        · have : a = [] := List.length_eq_zero_iff.mp (by rw [← h3.length, e]; rfl)
          subst this
          exact post _ H (Ex.refl _) (den_tup (.inl (.inl g2)) (den_ints2 b))
        · have : b = [] := List.map_eq_nil_iff.mp e
          subst this
          rw [List.map_nil, List.append_nil] at post
          exact post _ H (Ex.refl _) (den_tup h2 h3)
        · exact post _ _ (Ex.new hp) (den_tupN hp (h3.append (den_ints2 b)))
      · rw [if_neg c] at post; exact False.elim post
    | _ => exact False.elim (show False from post)
  | pw a =>
    cases e with
    | tup b =>
      have post : PostF1 C.Z WE0 H B Q (if a.length + b.length ≤ lineMax then .ok (.tup (a.map .int ++ b)) else .bad) := post
      by_cases c : a.length + b.length ≤ lineMax
      · rw [if_pos c] at post
        obtain ⟨l, h1, h2⟩ := rd_pw q1
        obtain ⟨m, vs, g1, g2, g3⟩ := rd_tupA q2
        rw [lineMax_eq] at c
        refine op_catA pins s σ H x y v u Q I rx ry ⟨l, m, _, vs, h1, g1, .inl (.inl h2), by rw [A.k]; exact g2, by rw [List.length_map, g3.length]; exact c, fun e => ?_, fun _ e => ?_, fun _ _ p hp => ?_⟩
        · have : a = [] := List.map_eq_nil_iff.mp e
          subst this
          exact post _ H (Ex.refl _) (den_tup g2 g3)
        · have : b = [] := List.length_eq_zero_iff.mp (by rw [← g3.length, e]; rfl)
          subst this
          rw [List.append_nil] at post
          exact post _ H (Ex.refl _) (den_tup (.inl (.inl h2)) (den_ints2 a))
        · exact post _ _ (Ex.new hp) (den_tupN hp ((den_ints2 a).append g3))
      · rw [if_neg c] at post; exact False.elim post
    | _ => exact False.elim (show False from post)
  | _ => exact False.elim (show False from post)
def uAddM : D → D → R := orF uAdd joinM
theorem bin_uAddM {C : Cn} : BinOk C .Add uAddM := bin_uAdd.or bin_joinM
/-! ### insert -/
def insL : List D → List D → Option (List D)
  | xs, [.int i, d] => if xs.length < lineMax ∧ 0 ≤ i ∧ i < 9223372036854775808 then some (xs.take i.toNat ++ [d] ++ xs.drop i.toNat) else none
  | _, _ => none
def insD := lstM insL
theorem mut_insD {C : Cn} : MutOk C "insert" insD := mut_of PySem.F.plainAttrs_list PySem.F.slot_list_insert PySem.F.type_list_insert fun X A pins s σ H x vs v us Q I rx rv h => by
  obtain ⟨p, B, xs, ds, d', rfl, hb, ⟨ws, h1, h2⟩, hd, e, k⟩ := h
  unfold insL at e
  split at e
  · rename_i i d
    by_cases c : xs.length < lineMax ∧ 0 ≤ i ∧ i < 9223372036854775808
    · rw [if_pos c] at e
      cases e
      obtain ⟨c, c2, c3⟩ := c
      obtain ⟨z, y, rfl, hz, hy⟩ := den2 hd
      unfold Den at hz
      subst hz
      rw [lineMax_eq, ← h2.length] at c
      have ne : ∀ a, a ≠ p → upd H p (.lst (ws.take i.toNat ++ [y] ++ ws.drop i.toNat)) a = H a := fun a ha => upd_ne ha
      refine mt_insert pins s σ H _ _ v us Q I rx rv ⟨p, ws, i, y, rfl, rfl, h1, c, c2, c3, k .non _ ne ⟨_, upd_same, ?_⟩⟩
      have kp := kp_one (B := B) ⟨_, h1, rfl⟩ hb ne
      exact (((h2.take i.toNat).append (.cons hy .nil)).append (h2.drop i.toNat)).kp kp fun _ z => z
    · rw [if_neg c] at e; cases e
  · cases e
end PM

set_option Elab.async false
set_option linter.all false
set_option maxRecDepth 100000
set_option exponentiation.threshold 10000
set_option maxHeartbeats 2000000
/-! k02: things asked whether they are terms, polynomials. -/
namespace PM
open PySem PySem.Spec L2
open PyProof.Rows hiding St

def nn : D → Bool
  | .int i => decide (0 ≤ i)
  | _ => false
def pwB (n : Nat) : D → Bool
  | .tup ds => decide (ds.length = n) && ds.all nn
  | .pw is => decide (is.length = n) && is.all fun i => decide (0 ≤ i)
  | _ => false
structure PwsOk (d : D) : Prop where
  kd : kd d = true
  tp : ∀ ds, d = .tup ds → ds.length ≤ 1000 ∧ ∀ x ∈ ds, PM.kd x = true
  pw : ∀ is, d = .pw is → is.length ≤ 1000
def tmB (n : Nat) : D → Bool
  | .tup [a, b] => pwB n a && isFr b
  | _ => false
structure TmsOk (d : D) : Prop where
  kd : kd d = true
  pw : ∀ is, d ≠ .pw is
  pt : ∀ a b, d = .tup [a, b] → PwsOk a ∧ (kd2 b && fbnd b) = true
namespace F
noncomputable def are_powers : List D → T R := Fn (fun a : Nat × D => [.int a.1, a.2]) (fun a => PwsOk a.2) fun a => .pure (.ok (.bl (pwB a.1 a.2)))
theorem powers_g {n : Nat} {d : D} (h : PwsOk d) : are_powers [.int n, d] = .pure (.ok (.bl (pwB n d))) := Fn_eq (a := (n, d)) (fun a b h => by
  simp only [List.cons.injEq, D.int.injEq, and_true] at h
  exact Prod.ext (by omega) h.2) h
noncomputable abbrev _law_powers : List D → T R := are_powers
theorem lpowers_g {n : Nat} {d : D} (h : PwsOk d) : _law_powers [.int n, d] = .pure (.ok (.bl (pwB n d))) := powers_g h
noncomputable def is_term : List D → T R := Fn (fun a : Nat × D => [.int a.1, a.2]) (fun a => TmsOk a.2) fun a => .pure (.ok (.bl (tmB a.1 a.2)))
theorem term_g {n : Nat} {d : D} (h : TmsOk d) : is_term [.int n, d] = .pure (.ok (.bl (tmB n d))) := Fn_eq (a := (n, d)) (fun a b h => by
  simp only [List.cons.injEq, D.int.injEq, and_true] at h
  exact Prod.ext (by omega) h.2) h
noncomputable abbrev _law_term : List D → T R := is_term
theorem lterm_g {n : Nat} {d : D} (h : TmsOk d) : _law_term [.int n, d] = .pure (.ok (.bl (tmB n d))) := term_g h
end F
theorem boolsOf_map2 {α : Type} (f : α → Bool) : ∀ l : List α, boolsOf (l.map fun a => .bl (f a)) = some (l.map f)
  | [] => rfl
  | a :: l => by rw [List.map_cons, boolsOf, boolsOf_map2 f l]; rfl
theorem allD_map2 {α : Type} (f : α → Bool) (l : List α) : allD [.lst (l.map fun a => .bl (f a))] = .ok (.bl (l.all f)) := by
  unfold allD
  dsimp only
  rw [boolsOf_map2]
  dsimp only
  rw [List.all_map]
  rfl
theorem lc_boolsT {f : D → T RC} {g : D → Bool} {ds : List D} {d : D} (hd : itU [d] = some ds) (hl : ds.length ≤ 1000) (hf : ∀ d ∈ ds, f d = .pure (.keep (.bl (g d)))) : RL.lc itU f (.ok [d] false) = .pure (.fresh (.lst (ds.map fun d => .bl (g d)))) := by
  have := lcL_mp (f := f) (e := fun d : D => d) (g := fun d => .bl (g d)) hf
  rw [List.map_id'] at this
  exact lc_eq (φ := itU) hd (by omega) this
theorem lenD_pw (is : List Int) : lenD [.pw is] = .ok (.int is.length) := rfl
theorem all_nn (is : List Int) : (is.map D.int).all nn = is.all fun i => decide (0 ≤ i) := by
  rw [List.all_map]
  rfl
noncomputable def C_are_powers_0 : E := (.and (.call "is_whole" F.is_whole [.v 2]) (.cmp .GtE uGe (.v 2) (.c (.int 0))))
abbrev N_are_powers : List Str := ["n", "thing", "power"]
noncomputable def B_are_powers : List S := [.ifs (.or (.not (.isi (isiB ["tuple"]) (.v 1) ["tuple"] false)) (.cmp .NotEq neD (.call "len" (opc lenD) [.v 1]) (.v 0))) [.ret (.c (.bl false))] [], .ret (.call "all" (opc allD) [.lc (.nm 2) .ex itU [.v 1] (.c (.bl true)) C_are_powers_0 [("power", 2)]])]
abbrev N_is_term : List Str := ["n", "thing"]
noncomputable def B_is_term : List S := [.ifs (.or (.not (.isi (isiB ["tuple"]) (.v 1) ["tuple"] false)) (.cmp .NotEq neD (.call "len" (opc lenD) [.v 1]) (.c (.int 2)))) [.ret (.c (.bl false))] [], .ret (.and (.call "are_powers" F.are_powers [.v 0, .ix ixU (.v 1) (.c (.int 0))]) (.call "is_fraction" F.is_fraction [.ix ixU (.v 1) (.c (.int 1))]))]
noncomputable def C__law_powers_0 : E := (.and (.call "_law_whole" F._law_whole [.v 2]) (.cmp .GtE uGe (.v 2) (.c (.int 0))))
abbrev N__law_powers : List Str := ["_law_n", "_law_thing", "_law_power"]
noncomputable def B__law_powers : List S := [.ifs (.or (.not (.isi (isiB ["tuple"]) (.v 1) ["tuple"] false)) (.cmp .NotEq neD (.call "len" (opc lenD) [.v 1]) (.v 0))) [.ret (.c (.bl false))] [], .ret (.call "all" (opc allD) [.lc (.nm 2) .ex itU [.v 1] (.c (.bl true)) C__law_powers_0 [("_law_power", 2)]])]
abbrev N__law_term : List Str := ["_law_n", "_law_thing"]
noncomputable def B__law_term : List S := [.ifs (.or (.not (.isi (isiB ["tuple"]) (.v 1) ["tuple"] false)) (.cmp .NotEq neD (.call "len" (opc lenD) [.v 1]) (.c (.int 2)))) [.ret (.c (.bl false))] [], .ret (.and (.call "_law_powers" F._law_powers [.v 0, .ix ixU (.v 1) (.c (.int 0))]) (.call "_law_fraction" F._law_fraction [.ix ixU (.v 1) (.c (.int 1))]))]
theorem p_are_powers : ∀ ds (P : R → Prop), ¬ P .bad → (F.are_powers ds).all P → (runF 2 3 B_are_powers ds).all P := Fn_as fun a hg P hP h => by
  obtain ⟨n, d⟩ := a
  have h : P (.ok (.bl (pwB n d))) := h
  have hg : PwsOk d := hg
  unfold B_are_powers
  have el : ∀ x : D, kd x = true → ∀ n' : Nv, n'[2]? = some (.val x) → ev C_are_powers_0 n' = .pure (.ok (.bl (nn x))) := fun x hx n' e => by
    unfold C_are_powers_0
    cases x <;> first | (simp [e, isW, isBl, nn, kd, tyN]; done) | cases hx
  cases d with
  | tup ds =>
    obtain ⟨hl, hx⟩ := hg.tp ds rfl
    have it : isTp (.tup ds) = true := rfl
    have k := hg.kd
    unfold pwB at h; dsimp only at h
    by_cases c : ds.length = n
    · have lc := lc_boolsT (d := .tup ds) (ds := ds) (g := nn) (f := turn (.nm 2) [.val (.int n), .val (.tup ds), .emp] (fun n' => T.pure (RT.ok true)) fun n' => ev C_are_powers_0 n') rfl hl (fun x hx' => by
        rw [turn_nm, el x (hx x hx') _ rfl]
        rfl)
      have al := allD_map2 nn ds
      have c' : ((ds.length : Int) = (n : Int)) := by omega
      rw [decide_eq_true c, Bool.true_and] at h
      simp [it, c, k]
      rw [lc]
      simp [al]
      exact h
    · have c' : ¬ ((ds.length : Int) = (n : Int)) := by omega
      rw [decide_eq_false c, Bool.false_and] at h
      simp [it, c, c', k]
      exact h
  | pw is =>
    have hl := hg.pw is rfl
    have it : isTp (.pw is) = true := rfl
    have k := hg.kd
    unfold pwB at h; dsimp only at h
    by_cases c : is.length = n
    · have lc := lc_boolsT (d := .pw is) (ds := is.map .int) (g := nn) (f := turn (.nm 2) [.val (.int n), .val (.pw is), .emp] (fun n' => T.pure (RT.ok true)) fun n' => ev C_are_powers_0 n') rfl (by rw [List.length_map]; exact hl) (fun x hx' => by
        obtain ⟨i, _, rfl⟩ := List.mem_map.mp hx'
        rw [turn_nm, el (.int i) rfl _ rfl]
        rfl)
      have al := allD_map2 nn (is.map .int)
      rw [all_nn, List.map_map] at al
      have c' : ((is.length : Int) = (n : Int)) := by omega
      rw [decide_eq_true c, Bool.true_and] at h
      simp [it, c, k, lenD_pw]
      rw [lc]
      simp [al]
      exact h
    · have c' : ¬ ((is.length : Int) = (n : Int)) := by omega
      rw [decide_eq_false c, Bool.false_and] at h
      simp [it, c, c', k, lenD_pw]
      exact h
  | _ =>
    have k := hg.kd
    first
      | (have h : P (.ok (.bl false)) := h
         simp [k, isTp]
         exact h)
      | cases k
theorem p_is_term : ∀ ds (P : R → Prop), ¬ P .bad → (F.is_term ds).all P → (runF 2 2 B_is_term ds).all P := Fn_as fun a hg P hP h => by
  obtain ⟨n, d⟩ := a
  have h : P (.ok (.bl (tmB n d))) := h
  have hg : TmsOk d := hg
  unfold B_is_term
  cases d with
  | tup ds =>
    have it : isTp (.tup ds) = true := rfl
    have k := hg.kd
    by_cases hl : ds.length = 2
    · match ds, hl with
      | [a, b], _ =>
        obtain ⟨g1, g2⟩ := hg.pt a b rfl
        rw [Bool.and_eq_true] at g2
        have e1 := F.powers_g (n := n) g1
        unfold tmB at h; dsimp only at h
        cases e : pwB n a with
        | true =>
          rw [e, Bool.true_and] at h
          simp [it, k, e1, e, g2.1, atD_0, atD_1]
          exact h
        | false =>
          rw [e, Bool.false_and] at h
          simp [it, k, e1, e, atD_0, atD_1]
          exact h
    · have c' : ¬ ((ds.length : Int) = 2) := by omega
      have e : tmB n (.tup ds) = false := by
        unfold tmB
        split
        · rename_i heq
          cases heq
          exact absurd rfl hl
        · rfl
      rw [e] at h
      simp [it, k, c']
      exact h
  | pw is => exact absurd rfl (hg.pw is)
  | _ =>
    have k := hg.kd
    first
      | (have h : P (.ok (.bl false)) := h
         simp [k, isTp]
         exact h)
      | cases k
theorem p__law_powers : ∀ ds (P : R → Prop), ¬ P .bad → (F._law_powers ds).all P → (runF 2 3 B__law_powers ds).all P := Fn_as fun a hg P hP h => by
  obtain ⟨n, d⟩ := a
  have h : P (.ok (.bl (pwB n d))) := h
  have hg : PwsOk d := hg
  unfold B__law_powers
  have el : ∀ x : D, kd x = true → ∀ n' : Nv, n'[2]? = some (.val x) → ev C__law_powers_0 n' = .pure (.ok (.bl (nn x))) := fun x hx n' e => by
    unfold C__law_powers_0
    cases x <;> first | (simp [e, isW, isBl, nn, kd, tyN]; done) | cases hx
  cases d with
  | tup ds =>
    obtain ⟨hl, hx⟩ := hg.tp ds rfl
    have it : isTp (.tup ds) = true := rfl
    have k := hg.kd
    unfold pwB at h; dsimp only at h
    by_cases c : ds.length = n
    · have lc := lc_boolsT (d := .tup ds) (ds := ds) (g := nn) (f := turn (.nm 2) [.val (.int n), .val (.tup ds), .emp] (fun n' => T.pure (RT.ok true)) fun n' => ev C__law_powers_0 n') rfl hl (fun x hx' => by
        rw [turn_nm, el x (hx x hx') _ rfl]
        rfl)
      have al := allD_map2 nn ds
      have c' : ((ds.length : Int) = (n : Int)) := by omega
      rw [decide_eq_true c, Bool.true_and] at h
      simp [it, c, k]
      rw [lc]
      simp [al]
      exact h
    · have c' : ¬ ((ds.length : Int) = (n : Int)) := by omega
      rw [decide_eq_false c, Bool.false_and] at h
      simp [it, c, c', k]
      exact h
  | pw is =>
    have hl := hg.pw is rfl
    have it : isTp (.pw is) = true := rfl
    have k := hg.kd
    unfold pwB at h; dsimp only at h
    by_cases c : is.length = n
    · have lc := lc_boolsT (d := .pw is) (ds := is.map .int) (g := nn) (f := turn (.nm 2) [.val (.int n), .val (.pw is), .emp] (fun n' => T.pure (RT.ok true)) fun n' => ev C__law_powers_0 n') rfl (by rw [List.length_map]; exact hl) (fun x hx' => by
        obtain ⟨i, _, rfl⟩ := List.mem_map.mp hx'
        rw [turn_nm, el (.int i) rfl _ rfl]
        rfl)
      have al := allD_map2 nn (is.map .int)
      rw [all_nn, List.map_map] at al
      have c' : ((is.length : Int) = (n : Int)) := by omega
      rw [decide_eq_true c, Bool.true_and] at h
      simp [it, c, k, lenD_pw]
      rw [lc]
      simp [al]
      exact h
    · have c' : ¬ ((is.length : Int) = (n : Int)) := by omega
      rw [decide_eq_false c, Bool.false_and] at h
      simp [it, c, c', k, lenD_pw]
      exact h
  | _ =>
    have k := hg.kd
    first
      | (have h : P (.ok (.bl false)) := h
         simp [k, isTp]
         exact h)
      | cases k
theorem p__law_term : ∀ ds (P : R → Prop), ¬ P .bad → (F._law_term ds).all P → (runF 2 2 B__law_term ds).all P := Fn_as fun a hg P hP h => by
  obtain ⟨n, d⟩ := a
  have h : P (.ok (.bl (tmB n d))) := h
  have hg : TmsOk d := hg
  unfold B__law_term
  cases d with
  | tup ds =>
    have it : isTp (.tup ds) = true := rfl
    have k := hg.kd
    by_cases hl : ds.length = 2
    · match ds, hl with
      | [a, b], _ =>
        obtain ⟨g1, g2⟩ := hg.pt a b rfl
        rw [Bool.and_eq_true] at g2
        have e1 := F.lpowers_g (n := n) g1
        unfold tmB at h; dsimp only at h
        cases e : pwB n a with
        | true =>
          rw [e, Bool.true_and] at h
          have fr := F.lfrac_1 (d := b) (by rw [g2.1, g2.2]; rfl)
          simp [it, k, e1, e, fr, atD_0, atD_1]
          exact h
        | false =>
          rw [e, Bool.false_and] at h
          simp [it, k, e1, e, atD_0, atD_1]
          exact h
    · have c' : ¬ ((ds.length : Int) = 2) := by omega
      have e : tmB n (.tup ds) = false := by
        unfold tmB
        split
        · rename_i heq
          cases heq
          exact absurd rfl hl
        · rfl
      rw [e] at h
      simp [it, k, c']
      exact h
  | pw is => exact absurd rfl (hg.pw is)
  | _ =>
    have k := hg.kd
    first
      | (have h : P (.ok (.bl false)) := h
         simp [k, isTp]
         exact h)
      | cases k

/-! ### lists asked -/
def nzB : D → Bool
  | .tup [_, .tup [.int a, _]] => decide (a ≠ 0)
  | _ => true
def ltB : D → D → Bool
  | .tup [.pw a, _], .tup [.pw b, _] => HT.lexLt a b
  | _, _ => false
def risB (ds : List D) : Bool := (List.zip ds (ds.drop 1)).all fun z => ltB z.1 z.2
def goB (n : Nat) (x : D) : Bool := tmB n x && nzB x
def plB (n : Nat) : D → Bool
  | .lst ds => ds.all (goB n) && risB ds
  | _ => false
structure PlOk (n : Nat) (d : D) : Prop where
  kd : kd d = true
  ls : ∀ ds, d = .lst ds → ds.length ≤ 1000 ∧ ∀ x ∈ ds, TmsOk x ∧ (tmB n x = true → ∃ t : Tm, x = encT t)
theorem nzB_T (t : Tm) : nzB (encT t) = decide (t.2 ≠ 0) := by
  show decide (t.2.num ≠ 0) = _
  exact decide_eq_decide.mpr (not_congr Rat.num_eq_zero)
theorem all_enc {n : Nat} : ∀ {ds : List D}, (∀ x ∈ ds, tmB n x = true → ∃ t : Tm, x = encT t) → ds.all (goB n) = true → ∃ p : List Tm, ds = p.map encT
  | [], _, _ => ⟨[], rfl⟩
  | d :: ds, h, a => by
    rw [List.all_cons, Bool.and_eq_true] at a
    obtain ⟨t, rfl⟩ := h d List.mem_cons_self (by have := a.1; unfold goB at this; rw [Bool.and_eq_true] at this; exact this.1)
    obtain ⟨p, rfl⟩ := all_enc (fun x hx => h x (List.mem_cons_of_mem _ hx)) a.2
    exact ⟨t :: p, rfl⟩
theorem risB_P (p : List Tm) : risB (p.map encT) = (List.zip p (p.drop 1)).all fun z => HT.lexLt z.1.1 z.2.1 := by
  unfold risB
  rw [← List.map_drop, List.zip_map, List.all_map]
  rfl
namespace F
noncomputable def is_poly : List D → T R := Fn (fun a : Nat × D => [.int a.1, a.2]) (fun a => PlOk a.1 a.2) fun a => .pure (.ok (.bl (plB a.1 a.2)))
theorem poly_g {n : Nat} {d : D} (h : PlOk n d) : is_poly [.int n, d] = .pure (.ok (.bl (plB n d))) := Fn_eq (a := (n, d)) (fun a b h => by
  simp only [List.cons.injEq, D.int.injEq, and_true] at h
  exact Prod.ext (by omega) h.2) h
noncomputable abbrev _law_poly : List D → T R := is_poly
theorem lpoly_g {n : Nat} {d : D} (h : PlOk n d) : _law_poly [.int n, d] = .pure (.ok (.bl (plB n d))) := poly_g h
end F
theorem slD_1x (ds : List D) : slU (.lst ds) (some 1) none = .fresh (.lst (ds.drop 1)) := by
  show R.fresh (.lst (cutD ds (some 1) none)) = _
  unfold cutD
  have e1 : HT.sIx ds.length 0 (some 1) = min 1 ds.length := HT.sIx_nat ds.length 0 1
  have e2 : HT.sIx ds.length ds.length none = ds.length := rfl
  rw [e1, e2]
  congr 2
  rw [List.take_of_length_le (by rw [List.length_drop]; omega)]
  by_cases h : ds.length = 0
  · rw [List.eq_nil_of_length_eq_zero h]; rfl
  · rw [show min 1 ds.length = 1 by omega]
noncomputable def C_is_poly_0 : E := (.and (.call "is_term" F.is_term [.v 0, .v 2]) (.cmp .NotEq neD (.ix ixU (.v 2) (.c (.int 1))) (.g "NOUGHT" c_NOUGHT)))
noncomputable def C_is_poly_1 : E := (.cmp .Lt uLt (.ix ixU (.v 3) (.c (.int 0))) (.ix ixU (.v 4) (.c (.int 0))))
abbrev N_is_poly : List Str := ["n", "thing", "term", "one", "other"]
noncomputable def B_is_poly : List S := [.ifs (.or (.not (.isi (isiB ["list"]) (.v 1) ["list"] false)) (.not (.call "all" (opc allD) [.lc (.nm 2) .ex itU [.v 1] (.c (.bl true)) C_is_poly_0 [("term", 2)]]))) [.ret (.c (.bl false))] [], .ret (.call "all" (opc allD) [.lc (.tp [.nm 3, .nm 4]) (.cl "zip" 2) itZipX [.v 1, .sl slU (.v 1) (.c (.int 1)) (.c .non)] (.c (.bl true)) C_is_poly_1 [("one", 3), ("other", 4)]])]
theorem p_is_poly : ∀ ds (P : R → Prop), ¬ P .bad → (F.is_poly ds).all P → (runF 2 5 B_is_poly ds).all P := Fn_as fun a hg P hP h => by
  obtain ⟨n, d⟩ := a
  have h : P (.ok (.bl (plB n d))) := h
  have hg : PlOk n d := hg
  unfold B_is_poly
  cases d with
  | lst ds =>
    obtain ⟨hl, hx⟩ := hg.ls ds rfl
    have it : isLs (.lst ds) = true := rfl
    have k := hg.kd
    have lc := lc_boolsT (d := .lst ds) (ds := ds) (g := goB n) (f := turn (.nm 2) [.val (.int n), .val (.lst ds), .emp, .emp, .emp] (fun n' => T.pure (RT.ok true)) fun n' => ev C_is_poly_0 n') rfl hl (fun x hx' => by
      obtain ⟨g1, g2⟩ := hx x hx'
      have e1 := F.term_g (n := n) g1
      rw [turn_nm]
      unfold C_is_poly_0 goB
      cases e : tmB n x with
      | true =>
        obtain ⟨t, rfl⟩ := g2 e
        have e2 : ixU (encT t) (.int 1) = .pure (.ok (encR t.2)) := by
          show T.pure (atD _ _) = _
          rw [atD_1]
        rw [nzB_T]
        rw [e] at e1
        by_cases z : t.2 = 0
        · simp [e1, e2, nought_R, z]
        · simp [e1, e2, nought_R, z]
      | false =>
        rw [e] at e1
        simp [e1])
    have al := allD_map2 (goB n) ds
    unfold plB at h; dsimp only at h
    cases ea : ds.all (goB n) with
    | false =>
      rw [ea] at al h
      rw [Bool.false_and] at h
      simp [it, k]
      rw [lc]
      simp [al]
      exact h
    | true =>
      rw [ea] at al h
      rw [Bool.true_and] at h
      obtain ⟨p, rfl⟩ := all_enc (fun x hx' => (hx x hx').2) ea
      rw [List.length_map] at hl
      rw [risB_P] at h
      have lc2 : RL.lc itZipX (turn (.tp [.nm 3, .nm 4]) [.val (.int n), .val (.lst (p.map encT)), .emp, .emp, .emp] (fun n' => T.pure (RT.ok true)) fun n' => ev C_is_poly_1 n') (.ok [.lst (p.map encT), .lst ((p.map encT).drop 1)] false) = .pure (.fresh (.lst ((List.zip p (p.drop 1)).map fun z => D.bl (HT.lexLt z.1.1 z.2.1)))) := by
        refine lc_eq (φ := itZipX) (ds := [.lst (p.map encT), .lst ((p.map encT).drop 1)]) (items := (List.zip p (p.drop 1)).map fun z => D.tup [encT z.1, encT z.2]) ?_ (by rw [List.length_map, List.length_zip]; omega) (lcL_mp (g := fun z : Tm × Tm => D.bl (HT.lexLt z.1.1 z.2.1)) fun z hz => ?_)
        · show some (pairsD (p.map encT) ((p.map encT).drop 1)) = _
          unfold pairsD
          rw [← List.map_drop, List.zip, List.zipWith_map, List.map_zipWith]
        · have x0 : ∀ t : Tm, ixU (encT t) (.int 0) = .pure (.ok (.pw t.1)) := fun t => by
            show T.pure (atD _ _) = _
            rw [atD_0]
          have tp : ∀ (i j : Nat) (n : Nv) (c : Nv → T RT) (e : Nv → T R) (x y : D), turn (.tp [.nm i, .nm j]) n c e (.tup [x, y]) = T.keep (c ((n.set i (.val x)).set j (.val y))) (e ((n.set i (.val x)).set j (.val y))) := fun _ _ _ _ _ _ _ => rfl
          rw [tp]
          unfold C_is_poly_1
          simp [x0]
      have eb := allD_map2 (fun z : Tm × Tm => HT.lexLt z.1.1 z.2.1) (List.zip p (p.drop 1))
      have sl : slU (.lst (p.map encT)) (some 1) none = .fresh (.lst ((p.map encT).drop 1)) := slD_1x _
      refine run_all rfl ?_
      rw [List.map_map] at al
      refine exs_next (n' := [.val (.int n), .val (.lst (p.map encT)), .emp, .emp, .emp]) (by simp [it, k]; rw [lc]; simp [al]) ?_
      simp only [List.drop_one] at lc2 eb sl
      simp [sl]
      rw [lc2]
      simp [eb]
      simp at h
      exact h
  | _ =>
    have k := hg.kd
    first
      | (have h : P (.ok (.bl false)) := h
         simp [k, isLs]
         exact h)
      | cases k
end PM

set_option Elab.async false
set_option linter.all false
set_option maxRecDepth 100000
set_option exponentiation.threshold 10000
set_option maxHeartbeats 2000000
/-! k02: the law's polynomials, poly. -/
namespace PM
open PySem PySem.Spec L2
open PyProof.Rows hiding St

theorem toPs_intsK : ∀ is : List Int, toPs (is.map .int) = some (is.map .int)
  | [] => rfl
  | b :: bs => by
    rw [List.map_cons, toPs, toPs_intsK bs]
    rfl
theorem lay_intsK : ∀ is : List Int, PyData.canLayAll0 (is.map .int) = true
  | [] => rfl
  | b :: bs => by
    rw [List.map_cons]
    unfold PyData.canLayAll0
    rw [lay_intsK bs]
    rfl
theorem dep_intsK : ∀ is : List Int, PyData.depthAll (is.map .int) = 0
  | [] => rfl
  | b :: bs => by
    rw [List.map_cons]
    unfold PyData.depthAll
    rw [dep_intsK bs]
    rfl
theorem eqD_nilI (is : List Int) : eqD (.lst (is.map .int)) (.lst []) = .ok (.bl (decide (is = []))) := by
  have t1 : toP (.lst (is.map .int)) = some (.list (is.map .int)) := by
    unfold toP
    rw [toPs_intsK]
  have t2 : toP (.lst []) = some (.list []) := rfl
  have s1 : SeqAt.shaped (.list (is.map .int)) = true := by
    unfold SeqAt.shaped
    rw [Bool.and_eq_true]
    refine ⟨?_, ?_⟩
    · unfold PyData.canLay0
      exact lay_intsK is
    · unfold PyData.depth
      rw [dep_intsK]
      decide
  have s2 : SeqAt.shaped (.list []) = true := by decide
  unfold eqD eqG
  rw [t1, t2]
  dsimp only
  rw [s1, s2]
  cases is with
  | nil => rfl
  | cons s ss => rfl
noncomputable def L__law_poly_0 : List S := [.ifs (.or (.not (.call "_law_term" F._law_term [.v 0, .v 2])) (.cmp .Eq eqD (.ix ixU (.ix ixU (.v 2) (.c (.int 1))) (.c (.int 0))) (.c (.int 0)))) [.ret (.c (.bl false))] []]
noncomputable def C__law_poly_0 : E := (.cmp .GtE uGe2 (.ix ixU (.ix ixU (.v 1) (.bin .Sub subI (.v 3) (.c (.int 1)))) (.c (.int 0))) (.ix ixU (.ix ixU (.v 1) (.v 3)) (.c (.int 0))))
abbrev N__law_poly : List Str := ["_law_n", "_law_thing", "_law_term_here", "_law_k"]
noncomputable def B__law_poly : List S := [.ifs (.not (.isi (isiB ["list"]) (.v 1) ["list"] false)) [.ret (.c (.bl false))] [], .for_ (.nm 2) .ex itU [.v 1] L__law_poly_0, .ret (.cmp .Eq eqD (.lc (.nm 3) (.cl "range" 2) itRng2 [.c (.int 1), .call "len" (opc lenD) [.v 1]] C__law_poly_0 (.v 3) [("_law_k", 3)]) (.lst []))]
theorem step_poly {n : Nat} {ds : List D} {x : D} (g1 : TmsOk x) (g2 : tmB n x = true → ∃ t : Tm, x = encT t) (c3 : Sl) :
    exs L__law_poly_0 [.val (.int n), .val (.lst ds), .val x, c3] = .pure (if goB n x = true then .next [.val (.int n), .val (.lst ds), .val x, c3] else .ret (.ok (.bl false))) := by
  have e1 := F.lterm_g (n := n) g1
  unfold L__law_poly_0 goB
  cases e : tmB n x with
  | true =>
    obtain ⟨t, rfl⟩ := g2 e
    have e2 : ixU (encT t) (.int 1) = .pure (.ok (encR t.2)) := by
      show T.pure (atD _ _) = _
      rw [atD_1]
    have e3 : ixU (encR t.2) (.int 0) = .pure (.ok (.int t.2.num)) := by
      show T.pure (atD _ _) = _
      rw [atD_0]
    rw [nzB_T]
    rw [e] at e1
    by_cases z : t.2 = 0
    · have zn : t.2.num = 0 := by rw [z]; rfl
      simp [e1, e2, e3, zn, z]
    · have zn : ¬ t.2.num = 0 := fun y => z (Rat.num_eq_zero.mp y)
      simp [e1, e2, e3, zn, z]
  | false =>
    rw [e] at e1
    simp [e1]
theorem all_zip (p : List Tm) : (List.zip p (p.drop 1)).all (fun z => HT.lexLt z.1.1 z.2.1) = true ↔ ∀ i (h : i + 1 < p.length), HT.lexLt (p[i]'(by omega)).1 (p[i + 1]).1 = true := by
  rw [List.all_eq_true]
  constructor
  · intro h i hi
    have hz : i < (List.zip p (p.drop 1)).length := by rw [List.length_zip, List.length_drop]; omega
    have := h _ (List.getElem_mem hz)
    rw [List.getElem_zip] at this
    have e : (p.drop 1)[i]'(by rw [List.length_drop]; omega) = p[i + 1] := by
      rw [List.getElem_drop]
      congr 1
      omega
    rw [e] at this
    exact this
  · intro h z hz
    obtain ⟨i, hi, e⟩ := List.getElem_of_mem hz
    rw [List.length_zip, List.length_drop] at hi
    have := h i (by omega)
    rw [← e, List.getElem_zip]
    have e : (p.drop 1)[i]'(by rw [List.length_drop]; omega) = p[i + 1] := by
      rw [List.getElem_drop]
      congr 1
      omega
    rw [e]
    exact this
theorem rng2_1 {m : Nat} (h : m ≤ 1000) : itRng2 [.int 1, .int m] = some ((List.range (m - 1)).map fun i : Nat => D.int ((i : Int) + 1)) := by
  unfold itRng2
  dsimp only
  have r1 : rngB 1 = true := rngB_nat (n := 1) (by omega)
  have r2 : rngB (m : Int) = true := rngB_nat (by omega)
  rw [r1, r2]
  show some (intsD 1 ((m : Int) - 1).toNat) = _
  unfold intsD
  have e : ((m : Int) - 1).toNat = m - 1 := by omega
  rw [e]
  congr 2
  funext i
  congr 1
  omega
def badI (p : List Tm) : List Int := (List.range (p.length - 1)).filterMap fun i : Nat => if HT.lexLt ((p[i]?.getD ([], 0)).1) ((p[i + 1]?.getD ([], 0)).1) = true then none else some ((i : Int) + 1)
theorem p__law_poly : ∀ ds (P : R → Prop), ¬ P .bad → (F._law_poly ds).all P → (runF 2 4 B__law_poly ds).all P := Fn_as fun a hg P hP h => by
  obtain ⟨n, d⟩ := a
  have h : P (.ok (.bl (plB n d))) := h
  have hg : PlOk n d := hg
  unfold B__law_poly
  cases d with
  | lst ds =>
    obtain ⟨hl, hx⟩ := hg.ls ds rfl
    have it : isLs (.lst ds) = true := rfl
    have k := hg.kd
    unfold plB at h; dsimp only at h
    refine run_all rfl ?_
    refine exs_next (n' := [.val (.int n), .val (.lst ds), .emp, .emp]) (by simp [it, k]) ?_
    have iu : itU [.lst ds] = some ds := rfl
    refine exs_all ?_
    rw [ex_for]
    simp [iu]
    refine forL_idx (fun k n' => (ds.take k).all (goB n) = true ∧ ∃ c2 c3, n' = [.val (.int n), .val (.lst ds), c2, c3]) ⟨rfl, _, _, rfl⟩ (fun k x n' e q => ?_) (fun n' q => ?_)
    · obtain ⟨qa, c2, c3, rfl⟩ := q
      have mx := List.mem_of_getElem? e
      obtain ⟨g1, g2⟩ := hx x mx
      show T.all _ (exs L__law_poly_0 [.val (.int n), .val (.lst ds), .val x, c3])
      rw [step_poly g1 g2]
      cases hI : goB n x with
      | true =>
        refine ⟨?_, _, _, rfl⟩
        rw [List.take_succ, e, List.all_append, qa]
        simp [hI]
      | false =>
        have : ds.all (goB n) = false := by
          rw [List.all_eq_false]
          exact ⟨x, mx, by simp [hI]⟩
        rw [this, Bool.false_and] at h
        exact h
    · obtain ⟨qa, c2, c3, rfl⟩ := q
      rw [List.take_length] at qa
      rw [qa, Bool.true_and] at h
      obtain ⟨p, rfl⟩ := all_enc (fun x hx' => (hx x hx').2) qa
      rw [List.length_map] at hl
      rw [risB_P] at h
      have x0 : ∀ t : Tm, ixU (encT t) (.int 0) = .pure (.ok (.pw t.1)) := fun t => by
        show T.pure (atD _ _) = _
        rw [atD_0]
      have lc : RL.lc itRng2 (turn (.nm 3) [.val (.int n), .val (.lst (p.map encT)), c2, .emp] (fun n' => evT C__law_poly_0 n') fun n' => ev (.v 3) n') (.ok [.int 1, .int (p.length : Int)] false) = .pure (.fresh (.lst ((badI p).map .int))) := by
        have q := lcL_fm (f := turn (.nm 3) [.val (.int n), .val (.lst (p.map encT)), c2, .emp] (fun n' => evT C__law_poly_0 n') fun n' => ev (.v 3) n') (e := fun i : Nat => D.int ((i : Int) + 1)) (g := fun i => if HT.lexLt ((p[i]?.getD ([], 0)).1) ((p[i + 1]?.getD ([], 0)).1) = true then none else some (.int ((i : Int) + 1))) (l := List.range (p.length - 1)) fun i hi => by
          have hi := List.mem_range.mp hi
          have h1 : i < p.length := by omega
          have h2 : i + 1 < p.length := by omega
          have a1 : ixU (.lst (p.map encT)) (.int (i : Int)) = .pure (.ok (encT p[i])) := by
            show T.pure (atD _ _) = _
            rw [atD_nat (d := encT p[i]) (by rw [List.getElem?_map, List.getElem?_eq_getElem h1]; rfl)]
          have a2 : ixU (.lst (p.map encT)) (.int ((i : Int) + 1)) = .pure (.ok (encT p[i + 1])) := by
            show T.pure (atD _ _) = _
            have : ((i : Int) + 1) = ((i + 1 : Nat) : Int) := by omega
            rw [this, atD_nat (d := encT p[i + 1]) (by rw [List.getElem?_map, List.getElem?_eq_getElem h2]; rfl)]
          have s1 : ((i : Int) + 1 - 1) = (i : Int) := by omega
          have tn : ∀ (i : Nat) (n : Nv) (c : Nv → T RT) (e : Nv → T R) (d : D), turn (.nm i) n c e d = T.keep (c (n.set i (.val d))) (e (n.set i (.val d))) := fun _ _ _ _ _ => rfl
          rw [tn, List.getElem?_eq_getElem h1, List.getElem?_eq_getElem h2]
          unfold C__law_poly_0
          show T.keep _ _ = T.pure (match (if HT.lexLt p[i].1 p[i + 1].1 = true then none else some (D.int ((i : Int) + 1))) with | some x => RC.keep x | none => RC.skip)
          cases eL : HT.lexLt p[i].1 p[i + 1].1 <;> simp [a1, a2, s1, x0, eL]
        refine (lc_eq (rng2_1 hl) (by rw [List.length_map, List.length_range]; omega) q).trans ?_
        unfold badI
        rw [List.map_filterMap]
        congr 4
        funext i
        split <;> rfl
      have en := eqD_nilI (badI p)
      have eb : decide ((badI p) = []) = (List.zip p (p.drop 1)).all fun z => HT.lexLt z.1.1 z.2.1 := by
        rw [Bool.eq_iff_iff, decide_eq_true_iff, all_zip]
        unfold badI
        rw [List.filterMap_eq_nil_iff]
        constructor
        · intro z i hi
          have := z i (List.mem_range.mpr (by omega))
          rw [List.getElem?_eq_getElem (by omega), List.getElem?_eq_getElem hi] at this
          dsimp only [Option.getD_some] at this
          split at this
          · assumption
          · cases this
        · intro z i hi
          have hi := List.mem_range.mp hi
          rw [List.getElem?_eq_getElem (by omega), List.getElem?_eq_getElem (by omega)]
          dsimp only [Option.getD_some]
          rw [if_pos (z i (by omega))]
      rw [eb] at en
      generalize badI p = L at lc en
      generalize ((List.zip p (p.drop 1)).all fun z => HT.lexLt z.1.1 z.2.1) = bb at en h
      simp
      simp at lc
      rw [lc]
      simp [en]
      exact h
  | _ =>
    have k := hg.kd
    first
      | (have h : P (.ok (.bl false)) := h
         simp [k, isLs]
         exact h)
      | cases k
end PM

set_option Elab.async false
set_option linter.all false
set_option maxRecDepth 100000
set_option exponentiation.threshold 10000
set_option maxHeartbeats 2000000
/-! TXT: texts, plainly; what is asked of them. -/
namespace PM
open PySem PySem.Spec L2
open PyProof.Rows hiding St

def Asc (x : Str) : Prop := ∀ c ∈ TL.tl x, c < 128
theorem asc_app {x y : Str} (h : Asc x) (g : Asc y) : Asc (x ++ y) := fun c hc => by
  have e : TL.tl (x ++ y) = TL.tl x ++ TL.tl y := by
    show (x ++ y).cps.toList = _
    rw [PySem.Str.cps_append, Array.toList_append]
  rw [e] at hc
  exact (List.mem_append.mp hc).elim (h c) (g c)
theorem asc_empty : Asc Str.empty := fun c hc => by cases hc
theorem asc_lit {x : Str} (h : (TL.tl x).all (· < 128) = true) : Asc x := fun c hc => by
  have := List.all_eq_true.mp h c hc
  simpa using this
theorem asc_ok {x : Str} (h : Asc x) : PyData.strOk x = true := by
  unfold PyData.strOk
  rw [← Array.all_toList, List.all_eq_true]
  intro c hc
  have := h c hc
  simp
  omega
theorem shaped_str {x : Str} (h : Asc x) : SeqAt.shaped (.str x) = true := by
  unfold SeqAt.shaped
  rw [Bool.and_eq_true]
  refine ⟨?_, rfl⟩
  show PyData.canLay0 (.str x) = true
  unfold PyData.canLay0
  exact asc_ok h
theorem eqv_str (a b : Str) : PyData.eqv (.str a) (.str b) = decide (a = b) := by
  unfold PyData.eqv
  by_cases c : a = b
  · rw [decide_eq_true c, c]
    simp
  · rw [decide_eq_false c]
    simp [c]
theorem eqD_str {a b : Str} (ha : Asc a) (hb : Asc b) : eqD (.str a) (.str b) = .ok (.bl (decide (a = b))) := by
  show (if (SeqAt.shaped (.str a) && SeqAt.shaped (.str b)) = true then R.ok (.bl (if true = true then PyData.eqv (.str a) (.str b) else !PyData.eqv (.str a) (.str b))) else .bad) = _
  rw [shaped_str ha, shaped_str hb, eqv_str]
  rfl
theorem neD_str {a b : Str} (ha : Asc a) (hb : Asc b) : neD (.str a) (.str b) = .ok (.bl (!decide (a = b))) := by
  show (if (SeqAt.shaped (.str a) && SeqAt.shaped (.str b)) = true then R.ok (.bl (if false = true then PyData.eqv (.str a) (.str b) else !PyData.eqv (.str a) (.str b))) else .bad) = _
  rw [shaped_str ha, shaped_str hb, eqv_str]
  rfl
theorem toPs_strs : ∀ ss : List Str, toPs (ss.map .str) = some (ss.map .str)
  | [] => rfl
  | s :: ss => by
    rw [List.map_cons, toPs, toPs_strs ss]
    rfl
theorem lay_strs : ∀ {ss : List Str}, (∀ s ∈ ss, Asc s) → PyData.canLayAll0 (ss.map .str) = true
  | [], _ => rfl
  | s :: ss, h => by
    rw [List.map_cons]
    unfold PyData.canLayAll0
    rw [lay_strs fun t ht => h t (List.mem_cons_of_mem _ ht), Bool.and_true]
    unfold PyData.canLay0
    exact asc_ok (h s List.mem_cons_self)
theorem dep_strs : ∀ ss : List Str, PyData.depthAll (ss.map .str) = 0
  | [] => rfl
  | s :: ss => by
    rw [List.map_cons]
    unfold PyData.depthAll
    rw [dep_strs ss]
    rfl
theorem eqD_nil {ss : List Str} (h : ∀ s ∈ ss, Asc s) : eqD (.lst (ss.map .str)) (.lst []) = .ok (.bl (decide (ss = []))) := by
  have t1 : toP (.lst (ss.map .str)) = some (.list (ss.map .str)) := by
    unfold toP
    rw [toPs_strs]
  have t2 : toP (.lst []) = some (.list []) := rfl
  have s1 : SeqAt.shaped (.list (ss.map .str)) = true := by
    unfold SeqAt.shaped
    rw [Bool.and_eq_true]
    refine ⟨?_, ?_⟩
    · unfold PyData.canLay0
      exact lay_strs h
    · unfold PyData.depth
      rw [dep_strs]
      decide
  have s2 : SeqAt.shaped (.list []) = true := by decide
  unfold eqD eqG
  rw [t1, t2]
  dsimp only
  rw [s1, s2]
  cases ss with
  | nil => rfl
  | cons s ss => rfl
/-- a number's text -/
def numS (i : Int) : Str := Str.ofString (toString i)
theorem tl_numS {n : Nat} : TL.tl (numS n) = TL.numL n := TL.tl_num n
theorem asc_numS (n : Nat) : Asc (numS n) := fun c hc => by
  rw [tl_numS] at hc
  have := (TL.numL_digits n) c hc
  omega
theorem len_numS {n : Nat} (h : n.log2 < 1920) : (numS n).length ≤ 1921 := int_text_len_1921 (i := (n : Int)) h
theorem tl_len (x : Str) : x.length = (TL.tl x).length := by
  show x.cps.size = x.cps.toList.length
  rw [Array.length_toList]
theorem numS_inj {m n : Nat} (h : numS m = numS n) : m = n := TL.numL_inj (by rw [← tl_numS, ← tl_numS, h])
theorem strD_n {n : Nat} (h : n.log2 < 1920) : strD [.int n] = .ok (.str (numS n)) := by
  show (if (n : Int).natAbs.log2 < 1920 then R.ok (.str (numS n)) else .bad) = _
  rw [if_pos (by simpa using h)]
theorem absD_n (i : Int) : absD [.int i] = .ok (.int (i.natAbs : Int)) := by
  show R.ok (.int (if i < 0 then -i else i)) = _
  congr 2
  split <;> omega
theorem uAdd_s {a b : Str} (h : a.length + b.length ≤ 16777216) : uAdd (.str a) (.str b) = .ok (.str (a ++ b)) := by
  rw [uAdd_str, if_pos (by unfold lineMax; exact h)]
theorem len_app (a b : Str) : (a ++ b).length = a.length + b.length := by
  show (a ++ b).cps.size = a.cps.size + b.cps.size
  rw [PySem.Str.cps_append, Array.size_append]
theorem joinL_len (S : List Nat) : ∀ ps : List (List Nat), (TL.joinL S ps).length ≤ (ps.map List.length).sum + ps.length * S.length
  | [] => by simp [TL.joinL]
  | [p] => by simp [TL.joinL]
  | p :: q :: r => by
    have ih := joinL_len S (q :: r)
    unfold TL.joinL
    rw [List.length_append, List.length_append, List.map_cons, List.sum_cons, List.length_cons, Nat.succ_mul]
    omega
theorem tl_joinS (a : Str) (ys : List Str) : TL.tl (Txt.join a ys) = TL.joinL (TL.tl a) (ys.map TL.tl) := by
  rw [TL.join_eq, TL.tl_join]
theorem join_len (a : Str) (ys : List Str) : (Txt.join a ys).length ≤ (ys.map (·.length)).sum + ys.length * a.length := by
  have := joinL_len (TL.tl a) (ys.map TL.tl)
  rw [tl_len, tl_joinS]
  rw [List.length_map, List.map_map] at this
  rw [tl_len a]
  have e : (ys.map (·.length)) = ys.map (List.length ∘ TL.tl) := List.map_congr_left fun y _ => tl_len y
  rw [e]
  exact this
theorem joinL_mem {S : List Nat} {P : Nat → Prop} (hS : ∀ c ∈ S, P c) : ∀ {ps : List (List Nat)}, (∀ p ∈ ps, ∀ c ∈ p, P c) → ∀ c ∈ TL.joinL S ps, P c
  | [], _, c, hc => by cases hc
  | [p], h, c, hc => h p List.mem_cons_self c hc
  | p :: q :: r, h, c, hc => by
    unfold TL.joinL at hc
    rcases List.mem_append.mp hc with z | z
    · exact h p List.mem_cons_self c z
    · rcases List.mem_append.mp z with z | z
      · exact hS c z
      · exact joinL_mem hS (fun x hx => h x (List.mem_cons_of_mem _ hx)) c z
theorem asc_join {a : Str} {ys : List Str} (ha : Asc a) (h : ∀ y ∈ ys, Asc y) : Asc (Txt.join a ys) := fun c hc => by
  rw [tl_joinS] at hc
  refine joinL_mem (P := fun c => c < 128) ha (fun p hp => ?_) c hc
  obtain ⟨y, hy, rfl⟩ := List.mem_map.mp hp
  exact h y hy
theorem joinL_ne {S : List Nat} : ∀ {ps : List (List Nat)}, (∃ p ∈ ps, p ≠ []) → TL.joinL S ps ≠ []
  | [], ⟨_, h, _⟩ => by cases h
  | [p], ⟨q, h, g⟩ => by rw [List.mem_singleton.mp h] at g; exact g
  | p :: q :: r, ⟨x, h, g⟩ => by
    unfold TL.joinL
    intro z
    rw [List.append_eq_nil_iff, List.append_eq_nil_iff] at z
    rcases List.mem_cons.mp h with e | e
    · rw [e] at g; exact g z.1
    · exact joinL_ne ⟨x, e, g⟩ z.2.2
theorem str_nil {x : Str} : TL.tl x = [] ↔ x = Str.empty := by
  constructor
  · intro h
    refine TL.ext_tl ?_
    rw [h]
    rfl
  · rintro rfl
    rfl
theorem sum_len {B : Nat} : ∀ {ys : List Str}, (∀ y ∈ ys, y.length ≤ B) → (ys.map (·.length)).sum ≤ ys.length * B
  | [], _ => by simp
  | y :: ys, h => by
    have ih := sum_len fun z hz => h z (List.mem_cons_of_mem _ hz)
    have := h y List.mem_cons_self
    rw [List.map_cons, List.sum_cons, List.length_cons, Nat.succ_mul]
    omega
/-- unknowns -/
def letters : List Str := [⟨#[120]⟩, ⟨#[121]⟩, ⟨#[122]⟩]
theorem xyz_letters : signsD ("xyz" : Str) = letters.map .str := rfl
theorem asc_letters : ∀ l ∈ letters, Asc l := fun l hl => by
  refine asc_lit ?_
  unfold letters at hl
  simp only [List.mem_cons, List.not_mem_nil, or_false] at hl
  rcases hl with rfl | rfl | rfl <;> decide
theorem len_letters : ∀ l ∈ letters, l.length = 1 := fun l hl => by
  unfold letters at hl
  simp only [List.mem_cons, List.not_mem_nil, or_false] at hl
  rcases hl with rfl | rfl | rfl <;> rfl
theorem pairs_lets : ∀ (ls : List Str) (ps : List Int), pairsD (ls.map .str) (ps.map .int) = (List.zip ls ps).map fun z => .tup [.str z.1, .int z.2]
  | [], _ => rfl
  | _ :: _, [] => rfl
  | l :: ls, p :: ps => by
    rw [List.map_cons, List.map_cons, List.zip_cons_cons, List.map_cons, ← pairs_lets ls ps]
    rfl
theorem for_lets {n : Nv} {i j : Nat} {es : List E} {ps : List Int} {body : List S} {Q : RS → Prop} (hev : evs es n = .pure (.ok [.str "xyz", .pw ps] false)) (I : Nat → Nv → Prop) (start : I 0 n)
    (step : ∀ (k : Nat) (z : Str × Int) (n : Nv), (List.zip letters ps)[k]? = some z → I k n → (exs body ((n.set i (.val (.str z.1))).set j (.val (.int z.2)))).all (turnEnd (I (k + 1)) Q)) (done : ∀ n, I (List.zip letters ps).length n → Q (.next n)) : (ex (.for_ (.tp [.nm i, .nm j]) (.cl "zip" 2) itZipS es body) n).all Q := by
  have e0 : itZipS [.str "xyz", .pw ps] = some ((List.zip letters ps).map fun z => .tup [.str z.1, .int z.2]) := by
    show some (pairsD (signsD "xyz") (ps.map .int)) = _
    rw [xyz_letters, pairs_lets]
  rw [ex_for, hev, T.bind_p, vals_ok, e0]
  refine forL_idx I start (fun k d n e q => ?_) (fun n q => done n (by rw [List.length_map] at q; exact q))
  rw [List.getElem?_map] at e
  obtain ⟨z, hz, rfl⟩ := Option.map_eq_some_iff.mp e
  exact step k z n hz q
end PM

set_option Elab.async false
set_option linter.all false
set_option maxRecDepth 100000
set_option maxHeartbeats 2000000
/-! RPR: small things of any kind: they can be shown, compared, asked. -/
namespace PM
open PySem PySem.Spec L2
open PyProof.Rows hiding St
/-- a thing without parts -/
inductive Atm : D → Prop
  | non : Atm .non
  | bl (b : Bool) : Atm (.bl b)
  | int (i : Int) (h : i.natAbs < 2 ^ 600) : Atm (.int i)
  | str (s : Str) (h : Asc s) (l : s.length ≤ 10) : Atm (.str s)
/-- a thing of few parts -/
inductive Sm : Nat → D → Prop
  | atm {k : Nat} {d : D} : Atm d → Sm k d
  | tup {k : Nat} {ds : List D} : ds.length ≤ 10 → (∀ d ∈ ds, Sm k d) → Sm (k + 1) (.tup ds)
  | lst {k : Nat} {ds : List D} : ds.length ≤ 10 → (∀ d ∈ ds, Sm k d) → Sm (k + 1) (.lst ds)
def shL : Nat → Nat
  | 0 => 700
  | k + 1 => 10 * (shL k + 2) + 10
structure Shw (k : Nat) (p : PyData) : Prop where
  sh : p.showable = true
  nd : p.hasDict = false
  lay : p.canLay0 = true
  dep : p.depth ≤ k
  len : p.shown.length ≤ shL k
theorem shL_le : ∀ {j k : Nat}, j ≤ k → shL j ≤ shL k := fun {j k} h => by
  induction h with
  | refl => exact Nat.le_refl _
  | step _ ih => show _ ≤ 10 * (shL _ + 2) + 10; omega
theorem lit_len (s : String) : (Str.ofString s).length = s.length := PySem.ofString_length s
theorem atm_shw {d : D} (h : Atm d) : ∃ p, toP d = some p ∧ Shw 0 p := by
  cases h with
  | non => exact ⟨.none, rfl, rfl, rfl, rfl, Nat.le_refl _, by decide⟩
  | bl b => exact ⟨.bool b, rfl, rfl, rfl, rfl, Nat.le_refl _, by cases b <;> decide⟩
  | int i h =>
    have lg : i.natAbs.log2 < 600 := by
      by_cases z : i.natAbs = 0
      · rw [z]; decide
      · exact (Nat.log2_lt z).mpr h
    refine ⟨.int i, rfl, ?_, rfl, rfl, Nat.le_refl _, ?_⟩
    · show decide (i.natAbs.log2 < 1920) = true
      exact decide_eq_true (by omega)
    · show (Str.ofString (toString i)).length ≤ 700
      rw [lit_len]
      have := PySem.int_text_length_le (a := i) (k := 600) (by omega) lg
      omega
  | str s h l =>
    refine ⟨.str s, rfl, rfl, rfl, ?_, Nat.le_refl _, ?_⟩
    · unfold PyData.canLay0
      exact asc_ok h
    · have := PySem.StrLaws.reprText_len s (fun c hc => by have := h c hc; omega)
      show (reprText s).length ≤ 700
      omega
theorem strJoin_len (a : Str) (ys : List Str) : (Str.join a ys).length ≤ (ys.map (·.length)).sum + ys.length * a.length := by
  rw [← TL.join_eq]
  exact join_len a ys
structure ShwL (k : Nat) (ps : List PyData) : Prop where
  sh : PyData.showableAll ps = true
  nd : PyData.hasDictAll ps = false
  lay : PyData.canLayAll0 ps = true
  dep : PyData.depthAll ps ≤ k
  len : ∀ t ∈ PyData.shownAll ps, t.length ≤ shL k
  n : (PyData.shownAll ps).length = ps.length
theorem shown_len : ∀ ps : List PyData, (PyData.shownAll ps).length = ps.length
  | [] => rfl
  | p :: ps => by
    unfold PyData.shownAll
    rw [List.length_cons, List.length_cons, shown_len ps]
theorem shwL_of {k : Nat} : ∀ {ds : List D}, (∀ d ∈ ds, ∃ p, toP d = some p ∧ Shw k p) → ∃ ps, toPs ds = some ps ∧ ShwL k ps ∧ ps.length = ds.length
  | [], _ => ⟨[], rfl, ⟨rfl, rfl, rfl, Nat.zero_le _, fun t h => (by cases h), rfl⟩, rfl⟩
  | d :: ds, h => by
    obtain ⟨p, e, s⟩ := h d List.mem_cons_self
    obtain ⟨ps, e2, s2, l⟩ := shwL_of fun x hx => h x (List.mem_cons_of_mem _ hx)
    refine ⟨p :: ps, by unfold toPs; rw [e, e2], ⟨?_, ?_, ?_, ?_, ?_, shown_len _⟩, by rw [List.length_cons, List.length_cons, l]⟩
    · unfold PyData.showableAll; rw [s.sh, s2.sh]; rfl
    · unfold PyData.hasDictAll; rw [s.nd, s2.nd]; rfl
    · unfold PyData.canLayAll0; rw [s.lay, s2.lay]; rfl
    · unfold PyData.depthAll; have := s.dep; have := s2.dep; omega
    · intro t ht
      unfold PyData.shownAll at ht
      rcases List.mem_cons.mp ht with z | z
      · rw [z]; exact s.len
      · exact s2.len t z
theorem Shw.mono {j k : Nat} {p : PyData} (h : Shw j p) (hk : j ≤ k) : Shw k p := ⟨h.sh, h.nd, h.lay, Nat.le_trans h.dep hk, Nat.le_trans h.len (shL_le hk)⟩
theorem seq_len {k : Nat} {ts : List Str} (hn : ts.length ≤ 10) (h : ∀ t ∈ ts, t.length ≤ shL k) : (Str.join ", " ts).length ≤ 10 * (shL k + 2) := by
  have j := strJoin_len (", " : Str) ts
  have e : ((", " : Str)).length = 2 := rfl
  rw [e] at j
  have s := sum_len (B := shL k) (ys := ts) h
  have : ts.length * shL k ≤ 10 * shL k := Nat.mul_le_mul_right _ hn
  omega
theorem sm_shw : ∀ {k : Nat} {d : D}, Sm k d → ∃ p, toP d = some p ∧ Shw k p := by
  intro k d h
  induction h with
  | atm h =>
    obtain ⟨p, e, s⟩ := atm_shw h
    exact ⟨p, e, s.mono (Nat.zero_le _)⟩
  | @tup k ds hn _ ih =>
    obtain ⟨ps, e, s, l⟩ := shwL_of ih
    refine ⟨.tuple ps, by unfold toP; rw [e], ⟨s.sh, s.nd, s.lay, ?_, ?_⟩⟩
    · unfold PyData.depth; have := s.dep; omega
    · have q := seq_len (k := k) (ts := PyData.shownAll ps) (by rw [s.n]; omega) s.len
      unfold PyData.shown tupleText
      rw [len_app, len_app]
      have e1 : (("(" : Str)).length = 1 := rfl
      have e2 : (Str.ofString (if ((PyData.shownAll ps).length == 1) = true then ",)" else ")")).length ≤ 2 := by
        rw [lit_len]
        split <;> decide
      show _ ≤ 10 * (shL k + 2) + 10
      omega
  | @lst k ds hn _ ih =>
    obtain ⟨ps, e, s, l⟩ := shwL_of ih
    refine ⟨.list ps, by unfold toP; rw [e], ⟨s.sh, s.nd, s.lay, ?_, ?_⟩⟩
    · unfold PyData.depth; have := s.dep; omega
    · have q := seq_len (k := k) (ts := PyData.shownAll ps) (by rw [s.n]; omega) s.len
      unfold PyData.shown
      rw [PySem.listText_eq_join]
      rw [len_app, len_app]
      have e1 : (("[" : Str)).length = 1 := rfl
      have e2 : (("]" : Str)).length = 1 := rfl
      show _ ≤ 10 * (shL k + 2) + 10
      omega
theorem sm_repr {k : Nat} {d : D} (hk : k ≤ 4) (h : Sm k d) : ∃ s, reprD [d] = .ok (.str s) := by
  obtain ⟨p, e, s⟩ := sm_shw h
  have s := s.mono hk
  have c : shwB p = true := by
    unfold shwB
    simp only [Bool.and_eq_true, Bool.not_eq_true', decide_eq_true_eq]
    refine ⟨⟨⟨s.sh, s.nd⟩, ?_⟩, ?_⟩
    · have := s.dep; omega
    · have := s.len
      have : shL 4 ≤ 16777216 := by decide
      omega
  refine ⟨p.shown, ?_⟩
  unfold reprD
  split
  · rename_i heq
    cases heq
    cases e
  · rename_i heq
    cases heq
    rw [e]
    dsimp only
    rw [if_pos c]
  · rename_i h1 h2
    exact absurd rfl (h2 d)
/-- a list of such things is empty, or not -/
theorem neD_nilS {k : Nat} {ds : List D} (hk : k ≤ 4) (h : ∀ d ∈ ds, Sm k d) : neD (.lst ds) (.lst []) = .ok (.bl (!decide (ds = []))) := by
  obtain ⟨ps, e, s, l⟩ := shwL_of (k := k) fun d hd => sm_shw (h d hd)
  have t1 : toP (.lst ds) = some (.list ps) := by unfold toP; rw [e]
  have t2 : toP (.lst []) = some (.list []) := rfl
  have s1 : SeqAt.shaped (.list ps) = true := by
    unfold SeqAt.shaped
    rw [Bool.and_eq_true]
    refine ⟨s.lay, decide_eq_true ?_⟩
    unfold PyData.depth
    have := s.dep
    omega
  have s2 : SeqAt.shaped (.list []) = true := by decide
  unfold neD eqG
  rw [t1, t2]
  dsimp only
  rw [s1, s2]
  cases ds with
  | nil =>
    have : ps = [] := List.length_eq_zero_iff.mp (by rw [l]; rfl)
    subst this
    rfl
  | cons d ds =>
    cases ps with
    | nil => cases l
    | cons p ps => rfl
theorem Sm.up {j k : Nat} {d : D} (h : Sm j d) : j ≤ k → Sm k d := by
  induction h generalizing k with
  | atm a => exact fun _ => .atm a
  | tup a _ ih =>
    intro hk
    cases k with
    | zero => omega
    | succ k => exact .tup a fun d hd => ih d hd (by omega)
  | lst a _ ih =>
    intro hk
    cases k with
    | zero => omega
    | succ k => exact .lst a fun d hd => ih d hd (by omega)
end PM

set_option Elab.async false
set_option linter.all false
set_option maxRecDepth 100000
set_option exponentiation.threshold 10000
set_option maxHeartbeats 2000000
/-! k02: poly; what is refused, what is told. -/
namespace PM
open PySem PySem.Spec L2
open PyProof.Rows hiding St

def exc : List Str := ["KeepError", "NoNumber", "NoPoly", "NoTable"]
def ini : List Str := ["NoPoly", "NoTable"]
namespace F
noncomputable abbrev _law_made2 : List D → T R := gathered
end F
noncomputable def L__law_made2_0 : List S := [.seti 1 setD (.v 2) (.call "_law_plus" F._law_plus [.meth "get" m_get (.v 1) [.v 2, .tup [.c (.int 0), .c (.int 1)]], .v 3])]
noncomputable def C__law_made2_0 : E := (.cmp .NotEq neD (.ix ixU (.ix ixU (.v 1) (.v 2)) (.c (.int 0))) (.c (.int 0)))
noncomputable def C__law_made2_1 : E := (.tup [.v 2, .ix ixU (.v 1) (.v 2)])
abbrev N__law_made2 : List Str := ["_law_terms_here", "_law_found", "_law_powers_here", "_law_share_here"]
noncomputable def B__law_made2 : List S := [.set 1 (.dnew (.dT [] [])), .for_ (.tp [.nm 2, .nm 3]) .ex itU [.v 0] L__law_made2_0, .ret (.lc (.nm 2) .ex itU [.call "sorted" (opc sortedD) [.v 1]] C__law_made2_0 C__law_made2_1 [("_law_powers_here", 2)])]
theorem p__law_made2 : ∀ ds (P : R → Prop), ¬ P .bad → (F._law_made2 ds).all P → (runF 1 4 B__law_made2 ds).all P := Fn_as fun ts hg P hP h => by
  have h : P (.fresh (encP (norm ts))) := h
  obtain ⟨n, u, v, g⟩ := id hg
  have ok := g.ok
  obtain ⟨M, hM0, hM1, hM⟩ := g.bd
  have hs := g.small
  refine run_all rfl ?_
  unfold B__law_made2
  refine exs_all ?_
  have e0 : ex (.set 1 (.dnew (.dT [] []))) (startN 4 [encP ts]) = .pure (.next [.val (encP ts), .own (encM []), .emp, .emp]) := by
    simp
    rfl
  rw [e0]
  refine exs_all (for_terms (ts := ts) (by simp) (fun k n => ∃ a b, n = [.val (encP ts), .own (encM (accM (ts.take k))), a, b]) ⟨_, _, rfl⟩ (fun k t n e q => ?_) (fun n q => ?_))
  · obtain ⟨a, b, rfl⟩ := q
    have nd := accM_nodup (ts.take k)
    have ln : (accM (ts.take k)).length < 1000000 := by
      exact g.few k
    have ea := accM_take e
    have sv : sz 4000 ((look (accM (ts.take k)) t.1).getD 0) := (hM.at_ k t.1).sz hM0 hM1 (by omega)
    generalize hm : accM (ts.take k) = m at nd ln ea sv ⊢
    have st : sz 4000 t.2 := (hM.q (List.mem_of_getElem? e)).sz hM0 hM1 (by omega)
    have es := fun v => set_M (m := m) t.1 v nd ln
    have eg := getL_M m t.1 0
    have ep := F.lplus_eq sv st
    rw [ea]
    unfold addM
    unfold L__law_made2_0
    simp [Nv.ownOf, frzK, get_M, zeroq, eg, ep, ownK, setiK, es]
  · obtain ⟨a, b, rfl⟩ := q
    rw [List.take_length]
    have hm := hg.m
    generalize hmm : accM ts = m at hm ⊢
    have sp := sortW_spec (l := m.map (·.1)) hm.2.1 (n := hm.2.2.choose) fun b hb => (hm.2.2.choose_spec.2 b hb).1
    have mem : ∀ k ∈ sortW (m.map (·.1)), (look m k).isSome = true := fun k hk => look_mem.mpr (sp.1.mem_iff.mp hk)
    have hl : (sortW (m.map (·.1))).length < 1000000 := by rw [sp.1.length_eq]; exact hm.1
    have es := sorted_M hm
    have lc : ∀ o, RL.lc itU (turn (.nm 2) [.val (encP ts), .own (encM m), .emp, b] (fun n' => evT C__law_made2_0 n') fun n' => ev C__law_made2_1 n') (.ok [.lst ((sortW (m.map (·.1))).map .pw)] o) = .pure (.fresh (encP (outM m))) := by
      intro o
      rw [lc_eqO (φ := itU) (ds := [.lst ((sortW (m.map (·.1))).map .pw)]) rfl (flat_W _) (by rw [List.length_map]; omega) (lcL_fm (g := fun k => if (look m k).getD 0 = 0 then none else some (encT (k, (look m k).getD 0))) fun k hk => ?_)]
      · rw [out_fm]
        rfl
      · obtain ⟨v, hv⟩ := Option.isSome_iff_exists.mp (mem k hk)
        have ix := ix_M m k
        rw [hv] at ix
        unfold C__law_made2_0 C__law_made2_1
        rw [hv, Option.getD_some]
        by_cases c : v = 0
        · subst c
          simp [ix, Nv.ownOf]
        · have : ¬ v.num = 0 := fun z => c (Rat.num_eq_zero.mp z)
          simp [ix, Nv.ownOf, c, this]
          rfl
    simp [Nv.ownOf, es, flat_W]
    rw [lc]
    unfold norm at h
    rw [hmm] at h
    simp
    exact h

/-! ### terms in form -/
structure Dr (n : Nat) (ts : List Tm) : Prop where
  n1 : 1 ≤ n
  n9 : n ≤ 100
  ok : TOk n ts
  len : ts.length ≤ 20
  tot : tot ts ≤ 1000
theorem Dr.g {n : Nat} {ts : List Tm} (h : Dr n ts) : GOkE ts := GOkE.of_len h.n1 h.ok (by have := h.len; omega) (show Bd 1100 1100 ts from (Bd.of_tot ts).mono (by have := h.tot; omega) (by have := h.tot; omega)) (by omega)
theorem Dr.norm {n : Nat} {ts : List Tm} (h : Dr n ts) : Dr n (norm ts) := ⟨h.n1, h.n9, (can_norm h.ok).ok, by have := len_norm h.ok; have := h.len; omega, by have := tot_norm h.ok; have := h.tot; omega⟩
theorem lg_tot : ∀ {ts : List Tm} {t : Tm}, t ∈ ts → lg t.2 ≤ tot ts
  | s :: ts, t, h => by
    rw [tot_cons]
    rcases List.mem_cons.mp h with rfl | h
    · omega
    · have := lg_tot h
      omega
theorem tm_ok {n : Nat} {t : Tm} (h : t.1.length = n ∧ ∀ i ∈ t.1, 0 ≤ i) (hn : n ≤ 1000) (s : sz 4000 t.2) : TmsOk (encT t) ∧ tmB n (encT t) = true := by
  refine ⟨⟨rfl, fun _ z => (by cases z), fun a b e => ?_⟩, ?_⟩
  · cases e
    exact ⟨⟨rfl, fun _ z => (by cases z), fun is e => (by cases e; omega)⟩, by rw [kd2_R, fbnd_R s]; rfl⟩
  · show (decide (t.1.length = n) && t.1.all (fun i => decide (0 ≤ i)) && isFr (encR t.2)) = true
    rw [decide_eq_true h.1, isFr_R, List.all_eq_true.mpr fun i hi => decide_eq_true (h.2 i hi)]
    rfl
theorem Dr.tm {n : Nat} {ts : List Tm} (h : Dr n ts) {t : Tm} (ht : t ∈ ts) : TmsOk (encT t) ∧ tmB n (encT t) = true := tm_ok (h.ok t ht) (by have := h.n9; omega) (sz_of (by have := lg_tot ht; have := h.tot; omega))
theorem Dr.pl {n : Nat} {ts : List Tm} (h : Dr n ts) : PlOk n (encP ts) := ⟨rfl, fun ds e => by
  cases e
  refine ⟨by rw [List.length_map]; have := h.len; omega, fun x hx => ?_⟩
  obtain ⟨t, ht, rfl⟩ := List.mem_map.mp hx
  exact ⟨(h.tm ht).1, fun _ => ⟨t, rfl⟩⟩⟩
theorem plB_can {n : Nat} {p : List Tm} (h : Dr n p) (c : Can n p) : plB n (encP p) = true := by
  show ((p.map encT).all (goB n) && risB (p.map encT)) = true
  rw [Bool.and_eq_true]
  refine ⟨?_, ?_⟩
  · rw [List.all_eq_true]
    intro x hx
    obtain ⟨t, ht, rfl⟩ := List.mem_map.mp hx
    unfold goB
    rw [(h.tm ht).2, nzB_T, decide_eq_true (c.nz t ht)]
    rfl
  · rw [risB_P, all_zip]
    intro i hi
    have := c.rise
    unfold Rising at this
    have q := List.pairwise_iff_getElem.mp this i (i + 1) (by rw [List.length_map]; omega) (by rw [List.length_map]; omega) (by omega)
    rw [List.getElem_map, List.getElem_map] at q
    exact q
/-! ### poly -/
def firstB (n : Nat) (ds : List D) : Option Nat := (List.range ds.length).find? fun k => !tmB n (ds[k]?.getD .non)
open Classical in
noncomputable def polyR (n : Nat) : D → R
  | .lst ds => match firstB n ds with
    | some k => .exn "NoPoly" [.int k]
    | none => if h : ∃ p : List Tm, ds = p.map encT then .fresh (encP (norm h.choose)) else .bad
  | _ => .exn "NoPoly" [.non]
structure PyOk (n : Nat) (d : D) : Prop where
  pl : PlOk n d
  g : ∀ ds, d = .lst ds → (∀ x ∈ ds, tmB n x = true) → ∃ p, ds = p.map encT ∧ GOkE p
namespace F
noncomputable def poly : List D → T R := Fn (fun a : Nat × D => [.int a.1, a.2]) (fun a => PyOk a.1 a.2) fun a => .pure (polyR a.1 a.2)
theorem py_g {n : Nat} {d : D} (h : PyOk n d) : poly [.int n, d] = .pure (polyR n d) := Fn_eq (a := (n, d)) (fun a b h => by
  simp only [List.cons.injEq, D.int.injEq, and_true] at h
  exact Prod.ext (by omega) h.2) h
end F
theorem encT_map_inj {p q : List Tm} (h : p.map encT = q.map encT) : p = q := encP_inj (by unfold encP; rw [h])
theorem first_none {n : Nat} {ds : List D} : firstB n ds = none ↔ ∀ x ∈ ds, tmB n x = true := by
  unfold firstB
  rw [List.find?_eq_none]
  constructor
  · intro h x hx
    obtain ⟨i, hi, e⟩ := List.getElem_of_mem hx
    have := h i (List.mem_range.mpr hi)
    rw [List.getElem?_eq_getElem hi, Option.getD_some, e] at this
    simpa using this
  · intro h i hi
    have hi := List.mem_range.mp hi
    rw [List.getElem?_eq_getElem hi, Option.getD_some, h _ (List.getElem_mem hi)]
    decide
theorem first_some {n k : Nat} {ds : List D} (hk : k < ds.length) (hb : tmB n ds[k] = false) (hp : (ds.take k).all (tmB n) = true) : firstB n ds = some k := by
  unfold firstB
  rw [List.find?_range_eq_some]
  refine ⟨by rw [List.getElem?_eq_getElem hk, Option.getD_some, hb]; rfl, List.mem_range.mpr hk, fun j hj => ?_⟩
  rw [List.getElem?_eq_getElem (by omega), Option.getD_some]
  rw [List.all_eq_true] at hp
  have := hp ds[j] (by
    rw [List.mem_take_iff_getElem]
    exact ⟨j, by omega, rfl⟩)
  rw [this]
  rfl
theorem polyR_good {n : Nat} {p : List Tm} (h : ∀ x ∈ p.map encT, tmB n x = true) : polyR n (encP p) = .fresh (encP (norm p)) := by
  have e : ∃ q : List Tm, p.map encT = q.map encT := ⟨p, rfl⟩
  unfold polyR encP
  dsimp only
  rw [first_none.mpr h]
  dsimp only
  rw [dif_pos e, ← encT_map_inj e.choose_spec]
theorem polyR_bad {n k : Nat} {ds : List D} (h : firstB n ds = some k) : polyR n (.lst ds) = .exn "NoPoly" [.int k] := by
  unfold polyR
  dsimp only
  rw [h]
theorem enumL (ds : List D) : itEnumX [.lst ds] = some ((List.range ds.length).map fun j : Nat => D.tup [.int j, (ds[j]?).getD .non]) := by
  show some (pairsD (intsD 0 ds.length) ds) = _
  congr 1
  unfold pairsD intsD
  refine List.ext_getElem (by simp) fun i h1 h2 => ?_
  simp at h1 h2
  simp [List.getElem?_eq_getElem h2]
noncomputable def L_poly_0 : List S := [.ifs (.not (.call "is_term" F.is_term [.v 0, .v 3])) [.raise "NoPoly" [.v 2] rzN] []]
abbrev N_poly : List Str := ["n", "terms", "number", "term"]
noncomputable def B_poly : List S := [.ifs (.not (.isi (isiB ["list"]) (.v 1) ["list"] false)) [.raise "NoPoly" [.c .non] rzN] [], .for_ (.tp [.nm 2, .nm 3]) (.cl "enumerate" 1) itEnumX [.v 1] L_poly_0, .ret (.call "gathered" F.gathered [.v 1])]
theorem p_poly : ∀ ds (P : R → Prop), ¬ P .bad → (F.poly ds).all P → (runF 2 4 B_poly ds).all P := Fn_as fun a hg P hP h => by
  obtain ⟨n, d⟩ := a
  have h : P (polyR n d) := h
  have hg : PyOk n d := hg
  unfold B_poly
  cases d with
  | lst ds =>
    obtain ⟨hl, hx⟩ := hg.pl.ls ds rfl
    have it : isLs (.lst ds) = true := rfl
    have k := hg.pl.kd
    refine run_all rfl ?_
    refine exs_next (n' := [.val (.int n), .val (.lst ds), .emp, .emp]) (by simp [it, k]) ?_
    have hev : evs [.v 1] [.val (.int n), .val (.lst ds), .emp, .emp] = .pure (.ok [.lst ds] false) := by simp
    refine exs_all ?_
    rw [ex_for, hev, T.bind_p, vals_ok, enumL]
    refine forL_idx (fun k n' => (ds.take k).all (tmB n) = true ∧ ∃ c2 c3, n' = [.val (.int n), .val (.lst ds), c2, c3]) ⟨rfl, _, _, rfl⟩ (fun k x n' e q => ?_) (fun n' q => ?_)
    · obtain ⟨qa, c2, c3, rfl⟩ := q
      rw [List.getElem?_map] at e
      obtain ⟨a, ha, rfl⟩ := Option.map_eq_some_iff.mp e
      have hk := (List.getElem?_eq_some_iff.mp ha).1
      rw [List.length_range] at hk
      rw [List.getElem?_range hk] at ha
      cases ha
      rw [List.getElem?_eq_getElem hk, Option.getD_some]
      have mx : ds[k] ∈ ds := List.getElem_mem hk
      have e1 := F.term_g (n := n) (hx _ mx).1
      show T.all _ (exs L_poly_0 [.val (.int n), .val (.lst ds), .val (.int k), .val ds[k]])
      unfold L_poly_0
      cases hI : tmB n ds[k] with
      | true =>
        rw [hI] at e1
        have q2 : (ds.take (k + 1)).all (tmB n) = true := by
          rw [List.take_succ, List.getElem?_eq_getElem hk, List.all_append, qa]
          simp [hI]
        simp [e1]
        exact List.all_eq_true.mp q2
      | false =>
        rw [hI] at e1
        have rz : rzN [.int (k : Int)] = some [.int k] := rfl
        have e : polyR n (.lst ds) = .exn "NoPoly" [.int k] := by
          exact polyR_bad (first_some hk hI qa)
        rw [e] at h
        simp [e1, rz, raiseK]
        exact h
    · obtain ⟨qa, c2, c3, rfl⟩ := q
      rw [List.length_map, List.length_range, List.take_length, List.all_eq_true] at qa
      obtain ⟨p, rfl, g⟩ := hg.g ds rfl qa
      have eg := F.gathered_e g
      have e := polyR_good qa
      have h : P (polyR n (encP p)) := h
      rw [e] at h
      have e2 : D.lst (p.map encT) = encP p := rfl
      rw [e2]
      simp [eg]
      exact h
  | _ =>
    have k := hg.pl.kd
    have rz : rzN [.non] = some [.non] := rfl
    first
      | (have h : P (.exn "NoPoly" [.non]) := h
         simp [k, isLs, rz, raiseK]
         exact h)
      | cases k
end PM

set_option Elab.async false
set_option linter.all false
set_option maxRecDepth 100000
set_option exponentiation.threshold 10000
set_option maxHeartbeats 2000000
/-! k02: what is refused, what is told. -/
namespace PM
open PySem PySem.Spec L2
open PyProof.Rows hiding St

theorem isi_ofK {ex cs : List Str} {d : D} {b : Bool} (h : anyK (kinD ex d) cs = some b) : isiK ex cs d = .ok (.bl b) := by
  unfold isiK isiR
  dsimp only
  rw [h]
theorem sub_exnP : subK exc "KeepError" "NoPoly" = some true := by decide
theorem isiP_1 (fs : List D) : isiK exc ["NoPoly"] (.exn "NoPoly" fs) = .ok (.bl true) := isi_ofK rfl
theorem isiP_2 (fs : List D) : isiK exc ["ValueError"] (.exn "NoPoly" fs) = .ok (.bl true) := isi_ofK rfl
theorem isiP_3 (fs : List D) : isiK exc ["NoNumber", "NoTable"] (.exn "NoPoly" fs) = .ok (.bl false) := isi_ofK rfl
theorem numP (d : D) : f_num ini (.exn "NoPoly" [d]) = .ok d := by
  unfold f_num
  dsimp only
  rw [if_pos (by decide)]
theorem head_fm {α β : Type} {p : α → Bool} {f : α → β} : ∀ l : List α, (l.filterMap fun i => if p i = true then none else some (f i)).head? = (l.find? fun i => !p i).map f
  | [] => rfl
  | a :: l => by
    rw [List.filterMap_cons, List.find?_cons]
    cases e : p a with
    | true => simpa using head_fm l
    | false => rfl
namespace F
noncomputable def _law_refused : List D → T R := Fn (fun a : Nat × D => [.int a.1, a.2]) (fun a => PyOk a.1 a.2 ∧ ∀ ds, a.2 = .lst ds → ∃ k, firstB a.1 ds = some k) fun _ => .pure (.ok (.bl true))
theorem refused_g {n : Nat} {d : D} (h : PyOk n d) (g : ∀ ds, d = .lst ds → ∃ k, firstB n ds = some k) : _law_refused [.int n, d] = .pure (.ok (.bl true)) := Fn_eq (a := (n, d)) (fun a b h => by
  simp only [List.cons.injEq, D.int.injEq, and_true] at h
  exact Prod.ext (by omega) h.2) ⟨h, g⟩
noncomputable def _law_told : List D → T R := Fn (fun a : Nat × List Tm => [.int a.1, encP a.2]) (fun a => Dr a.1 a.2) fun _ => .pure (.ok (.bl true))
theorem told_g {n : Nat} {ts : List Tm} (h : Dr n ts) : _law_told [.int n, encP ts] = .pure (.ok (.bl true)) := Fn_eq (a := (n, ts)) (fun a b h => by
  simp only [List.cons.injEq, D.int.injEq, and_true] at h
  exact Prod.ext (by omega) (encP_inj h.2)) h
end F
noncomputable def C__law_refused_0 : E := (.not (.call "_law_term" F._law_term [.v 0, .ix ixU (.v 1) (.v 5)]))
abbrev N__law_refused : List Str := ["_law_n", "_law_thing", "_law_found", "e", "_law_wrong", "_law_k"]
noncomputable def B__law_refused : List S := [.set 2 (.c .non), .tryx [.expr (.call "poly" F.poly [.v 0, .v 1])] "KeepError" (subK exc "KeepError") 3 2, .ifs (.or (.not (.isi (isiK exc ["NoPoly"]) (.v 2) ["NoPoly"] false)) (.or (.not (.isi (isiK exc ["ValueError"]) (.v 2) ["ValueError"] false)) (.isi (isiK exc ["NoNumber", "NoTable"]) (.v 2) ["NoNumber", "NoTable"] true))) [.ret (.c (.bl false))] [], .set 4 (.lst [.c .non]), .frz 4, .ifs (.isi (isiB ["list"]) (.v 1) ["list"] false) [.set 4 (.lc (.nm 5) (.cl "range" 1) itRng1 [.call "len" (opc lenD) [.v 1]] C__law_refused_0 (.v 5) [("_law_k", 5)]), .frz 4] [], .ret (.and (.cmp .Eq eqD (.fld "number" (f_num ini) (.v 2)) (.ix ixU (.v 4) (.c (.int 0)))) (.not (.isi (isiB ["bool"]) (.fld "number" (f_num ini) (.v 2)) ["bool"] false)))]
abbrev N__law_told : List Str := ["_law_n", "_law_terms_here", "_law_handed", "_law_found"]
noncomputable def B__law_told : List S := [.set 2 (.call "list" (opc listD) [.v 1]), .frz 2, .set 3 (.call "poly" F.poly [.v 0, .v 2]), .ifs (.or (.cmp .NotEq neD (.v 3) (.call "_law_made" F._law_made2 [.v 1])) (.or (.not (.call "_law_poly" F._law_poly [.v 0, .v 3])) (.or (.cmp .IsNot nisD (.call "is_poly" F.is_poly [.v 0, .v 3]) (.c (.bl true))) (.cmp .NotEq neD (.v 2) (.v 1))))) [.ret (.c (.bl false))] [], .mut 3 "append" appD [.c .non], .ret (.cmp .Eq eqD (.call "poly" F.poly [.v 0, .v 2]) (.call "_law_made" F._law_made2 [.v 1]))]
theorem rngK {n : Nat} (h : n < 1000000) : itRng1 [.int (n : Int)] = some ((List.range n).map fun i : Nat => D.int i) := by
  rw [rng1 h]
  unfold intsD
  congr 2
  funext i
  rw [Int.zero_add]
theorem eqD_nonK : eqD .non .non = .ok (.bl true) := rfl
def wrongL (n : Nat) (ds : List D) : List D := (List.range ds.length).filterMap fun i : Nat => if tmB n (ds[i]?.getD .non) = true then none else some (D.int (i : Int))
theorem p__law_refused : ∀ ds (P : R → Prop), ¬ P .bad → (F._law_refused ds).all P → (runF 2 6 B__law_refused ds).all P := Fn_as fun a hg P hP h => by
  obtain ⟨n, d⟩ := a
  have h : P (.ok (.bl true)) := h
  obtain ⟨g, gk⟩ := hg
  have g : PyOk n d := g
  have e := F.py_g g
  refine run_all rfl ?_
  unfold B__law_refused
  cases d with
  | lst ds =>
    obtain ⟨k, hk⟩ := gk ds rfl
    obtain ⟨hl, hx⟩ := g.pl.ls ds rfl
    have kd0 := g.pl.kd
    have it : isLs (.lst ds) = true := rfl
    rw [polyR_bad hk] at e
    have lc : ∀ c3 o, RL.lc itRng1 (turn (.nm 5) [.val (.int n), .val (.lst ds), .val (.exn "NoPoly" [.int k]), c3, .val (.lst [.non]), .emp] (fun n' => evT C__law_refused_0 n') fun n' => ev (.v 5) n') (.ok [.int (ds.length : Int)] o) = .pure (.fresh (.lst (wrongL n ds))) := fun c3 o => by
      have q := lcL_fm (f := turn (.nm 5) [.val (.int n), .val (.lst ds), .val (.exn "NoPoly" [.int k]), c3, .val (.lst [.non]), .emp] (fun n' => evT C__law_refused_0 n') fun n' => ev (.v 5) n') (e := fun i : Nat => D.int (i : Int)) (g := fun i => if tmB n (ds[i]?.getD .non) = true then none else some (D.int (i : Int))) (l := List.range ds.length) fun i hi => by
        have hi := List.mem_range.mp hi
        have tn : ∀ (i : Nat) (n : Nv) (c : Nv → T RT) (e : Nv → T R) (d : D), turn (.nm i) n c e d = T.keep (c (n.set i (.val d))) (e (n.set i (.val d))) := fun _ _ _ _ _ => rfl
        have a1 : ixU (.lst ds) (.int (i : Int)) = .pure (.ok ds[i]) := by
          show T.pure (atD _ _) = _
          rw [atD_nat (d := ds[i]) (List.getElem?_eq_getElem hi)]
        have e1 := F.lterm_g (n := n) (hx _ (List.getElem_mem hi)).1
        rw [tn, List.getElem?_eq_getElem hi, Option.getD_some]
        unfold C__law_refused_0
        show T.keep _ _ = T.pure (match (if tmB n ds[i] = true then none else some (D.int (i : Int))) with | some x => RC.keep x | none => RC.skip)
        cases eL : tmB n ds[i] <;> (rw [eL] at e1; simp [a1, e1, eL])
      exact lc_eqO (rngK (by omega)) (by
        have : ∀ l : List Nat, flatL (l.map fun i : Nat => D.int i) = true := fun l => by
          induction l with
          | nil => rfl
          | cons a l ih => rw [List.map_cons, flatL, ih]; rfl
        exact this _) (by rw [List.length_map, List.length_range]; omega) q
    have a0 : atD (wrongL n ds) 0 = .ok (.int k) := by
      have := head_fm (p := fun i : Nat => tmB n (ds[i]?.getD .non)) (f := fun i : Nat => D.int (i : Int)) (List.range ds.length)
      rw [List.head?_eq_getElem?] at this
      have hk2 : (List.range ds.length).find? (fun k => !tmB n (ds[k]?.getD .non)) = some k := hk
      rw [hk2] at this
      unfold wrongL
      exact atD_nat (k := 0) this
    generalize wrongL n ds = L at lc a0
    refine exs_next (n' := [.val (.int n), .val (.lst ds), .val .non, .emp, .emp, .emp]) (by simp) ?_
    refine exs_next (n' := [.val (.int n), .val (.lst ds), .val (.exn "NoPoly" [.int k]), .emp, .emp, .emp]) (by simp [e, RS.tryK, sub_exnP]) ?_
    refine exs_next (n' := [.val (.int n), .val (.lst ds), .val (.exn "NoPoly" [.int k]), .emp, .emp, .emp]) (by simp [isiP_1, isiP_2, isiP_3]) ?_
    refine exs_next (n' := [.val (.int n), .val (.lst ds), .val (.exn "NoPoly" [.int k]), .emp, .own (.lst [.non]), .emp]) (by simp) ?_
    refine exs_next (n' := [.val (.int n), .val (.lst ds), .val (.exn "NoPoly" [.int k]), .emp, .val (.lst [.non]), .emp]) (by simp [frzK, Nv.ownOf]) ?_
    have l1 := lc .emp false
    simp at l1
    refine exs_next (n' := [.val (.int n), .val (.lst ds), .val (.exn "NoPoly" [.int k]), .emp, .val (.lst L), .emp]) (by simp [it, kd0]; rw [l1]; simp [frzK, Nv.ownOf]) ?_
    simp [numP, a0]
    exact h
  | _ =>
    have k := g.pl.kd
    first
      | (have e : F.poly [.int n, _] = .pure (.exn "NoPoly" [.non]) := e
         simp [e, RS.tryK, sub_exnP, isiP_1, isiP_2, isiP_3, frzK, Nv.ownOf, k, isLs, numP, atD_0, eqD_nonK]
         exact h)
      | cases k
theorem p__law_told : ∀ ds (P : R → Prop), ¬ P .bad → (F._law_told ds).all P → (runF 2 4 B__law_told ds).all P := Fn_as fun a hg P hP h => by
  obtain ⟨n, ts⟩ := a
  have h : P (.ok (.bl true)) := h
  have hg : Dr n ts := hg
  have tm : ∀ x ∈ ts.map encT, tmB n x = true := fun x hx => by
    obtain ⟨t, ht, rfl⟩ := List.mem_map.mp hx
    exact (hg.tm ht).2
  have py : PyOk n (encP ts) := ⟨hg.pl, fun ds e _ => by
    cases e
    exact ⟨ts, rfl, hg.g⟩⟩
  have e := F.py_g py
  rw [polyR_good tm] at e
  have em : F._law_made2 [encP ts] = .pure (.fresh (encP (norm ts))) := F.gathered_e hg.g
  have c := can_norm hg.ok
  have e1 := F.lpoly_g hg.norm.pl
  have e2 := F.poly_g hg.norm.pl
  rw [plB_can hg.norm c] at e1 e2
  have ll : listD [encP ts] = .fresh (encP ts) := rfl
  have ap := appL_non (ts := norm ts) (by have := hg.norm.len; omega)
  refine run_all rfl ?_
  unfold B__law_told
  refine exs_next (n' := [.val (.int n), .val (encP ts), .own (encP ts), .emp]) (by simp [ll]) ?_
  refine exs_next (n' := [.val (.int n), .val (encP ts), .val (encP ts), .emp]) (by simp [frzK, Nv.ownOf]) ?_
  refine exs_next (n' := [.val (.int n), .val (encP ts), .val (encP ts), .own (encP (norm ts))]) (by simp [e]) ?_
  refine exs_next (n' := [.val (.int n), .val (encP ts), .val (encP ts), .own (encP (norm ts))]) (by
    have fb : flat (D.bl true) = true := rfl
    have nb : nisD (.bl true) (.bl true) = .ok (.bl false) := rfl
    simp [em, e1, e2, Nv.ownOf, fb, nb]) ?_
  refine exs_next (n' := [.val (.int n), .val (encP ts), .val (encP ts), .own (.lst ((norm ts).map encT ++ [.non]))]) (by simp [app_P, ap, Nv.ownOf, T.mut, T.vals]) ?_
  simp [e, em]
  exact h
end PM

set_option Elab.async false
set_option linter.all false
set_option maxRecDepth 100000
set_option exponentiation.threshold 10000
set_option maxHeartbeats 2000000
/-! k02: things bent. -/
namespace PM
open PySem PySem.Spec L2
open PyProof.Rows hiding St

def Lay (k : Nat) (d : D) : Prop := ∃ p, toP d = some p ∧ p.canLay0 = true ∧ p.depth ≤ k
theorem Lay.up {j k : Nat} {d : D} (h : Lay j d) (hk : j ≤ k) : Lay k d := by
  obtain ⟨p, a, b, c⟩ := h
  exact ⟨p, a, b, by omega⟩
theorem lay_list {k : Nat} : ∀ {ds : List D}, (∀ d ∈ ds, Lay k d) → ∃ ps, toPs ds = some ps ∧ PyData.canLayAll0 ps = true ∧ PyData.depthAll ps ≤ k ∧ ps.length = ds.length
  | [], _ => ⟨[], rfl, rfl, Nat.zero_le _, rfl⟩
  | d :: ds, h => by
    obtain ⟨p, e, c, l⟩ := h d List.mem_cons_self
    obtain ⟨ps, e2, c2, l2, n2⟩ := lay_list fun x hx => h x (List.mem_cons_of_mem _ hx)
    refine ⟨p :: ps, by unfold toPs; rw [e, e2], ?_, ?_, by rw [List.length_cons, List.length_cons, n2]⟩
    · unfold PyData.canLayAll0; rw [c, c2]; rfl
    · unfold PyData.depthAll; omega
theorem lay_tup {k : Nat} {ds : List D} (h : ∀ d ∈ ds, Lay k d) : Lay (k + 1) (.tup ds) := by
  obtain ⟨ps, e, c, l, _⟩ := lay_list h
  refine ⟨.tuple ps, by unfold toP; rw [e], c, ?_⟩
  unfold PyData.depth
  omega
theorem lay_lst {k : Nat} {ds : List D} (h : ∀ d ∈ ds, Lay k d) : Lay (k + 1) (.lst ds) := by
  obtain ⟨ps, e, c, l, _⟩ := lay_list h
  refine ⟨.list ps, by unfold toP; rw [e], c, ?_⟩
  unfold PyData.depth
  omega
theorem lay_int (k : Nat) (i : Int) : Lay k (.int i) := ⟨.int i, rfl, rfl, Nat.zero_le _⟩
theorem lay_bl (k : Nat) (b : Bool) : Lay k (.bl b) := ⟨.bool b, rfl, rfl, Nat.zero_le _⟩
theorem lay_non (k : Nat) : Lay k .non := ⟨.none, rfl, rfl, Nat.zero_le _⟩
theorem lay_pw (k : Nat) (is : List Int) : Lay (k + 1) (.pw is) := by
  obtain ⟨p, e, c, l⟩ := lay_tup (k := k) (ds := is.map .int) fun d hd => by
    obtain ⟨i, _, rfl⟩ := List.mem_map.mp hd
    exact lay_int k i
  exact ⟨p, by rw [← toP_er]; exact e, c, l⟩
theorem lay_R (k : Nat) (q : Rat) : Lay (k + 1) (encR q) := lay_tup fun d hd => by
  simp at hd
  rcases hd with rfl | rfl <;> exact lay_int _ _
theorem lay_T (k : Nat) (t : Tm) : Lay (k + 2) (encT t) := lay_tup fun d hd => by
  simp at hd
  rcases hd with rfl | rfl
  · exact lay_pw k _
  · exact lay_R k _
theorem neD_nilL {k : Nat} {ds : List D} (hk : k ≤ 60) (h : ∀ d ∈ ds, Lay k d) : neD (.lst ds) (.lst []) = .ok (.bl (!decide (ds = []))) := by
  obtain ⟨ps, e, c, dp, l⟩ := lay_list h
  have t1 : toP (.lst ds) = some (.list ps) := by unfold toP; rw [e]
  have t2 : toP (.lst []) = some (.list []) := rfl
  have s1 : SeqAt.shaped (.list ps) = true := by
    unfold SeqAt.shaped
    rw [Bool.and_eq_true]
    refine ⟨c, decide_eq_true ?_⟩
    unfold PyData.depth
    omega
  have s2 : SeqAt.shaped (.list []) = true := by decide
  unfold neD eqG
  rw [t1, t2]
  dsimp only
  rw [s1, s2]
  cases ds with
  | nil =>
    have : ps = [] := List.length_eq_zero_iff.mp (by rw [l]; rfl)
    subst this
    rfl
  | cons d ds =>
    cases ps with
    | nil => cases l
    | cons p ps => rfl
/-! ### one thing -/
structure Th (n : Nat) (x : D) : Prop where
  ok : TmsOk x
  lay : Lay 6 x
  enc : tmB n x = true → ∃ t : Tm, x = encT t ∧ lg t.2 ≤ 300
theorem th_pair {n : Nat} {a b : D} (ha : PwsOk a) (hb : (kd2 b && fbnd b) = true) (la : Lay 5 a) (lb : Lay 5 b) (he : pwB n a = true → isFr b = true → ∃ t : Tm, D.tup [a, b] = encT t ∧ lg t.2 ≤ 300) : Th n (.tup [a, b]) :=
  ⟨⟨rfl, fun _ z => (by cases z), fun a' b' e => (by cases e; exact ⟨ha, hb⟩)⟩, lay_tup fun d hd => by
    simp at hd
    rcases hd with rfl | rfl
    · exact la
    · exact lb, fun h => by
    have h : (pwB n a && isFr b) = true := h
    rw [Bool.and_eq_true] at h
    exact he h.1 h.2⟩
theorem th_bad {n : Nat} {x : D} (k : kd x = true) (p : ∀ is, x ≠ .pw is) (t : ∀ a b, x ≠ .tup [a, b]) (l : Lay 6 x) (b : tmB n x = false) : Th n x := ⟨⟨k, p, fun a b e => absurd e (t a b)⟩, l, fun h => by rw [b] at h; cases h⟩
theorem pws_pw {is : List Int} (h : is.length ≤ 1000) : PwsOk (.pw is) := ⟨rfl, fun _ z => (by cases z), fun is e => (by cases e; exact h)⟩
theorem pws_tup {ds : List D} (h : ds.length ≤ 1000) (k : ∀ x ∈ ds, kd x = true) : PwsOk (.tup ds) := ⟨rfl, fun ds e => (by cases e; exact ⟨h, k⟩), fun _ z => (by cases z)⟩
theorem th_enc {n : Nat} {t : Tm} (h : t.1.length ≤ 1000) (l : lg t.2 ≤ 300) : Th n (encT t) := th_pair (pws_pw h) (by rw [kd2_R, fbnd_R (sz_of (by omega))]; rfl) (lay_pw 4 _) (lay_R 4 _) fun _ _ => ⟨t, rfl, l⟩
theorem int_kd2 {a b : D} (ka : kd a = true) (kb : kd b = true) : kd2 (.tup [a, b]) = true := by
  show (true && ([a, b].all kd)) = true
  simp [ka, kb]
theorem fbnd_i {a : D} {b : Int} (h : b.natAbs < 2 ^ 4002) : fbnd (.tup [a, .int b]) = true := by
  show decide (b.natAbs < 2 ^ 8999) = true
  have : (2 : Nat) ^ 4002 ≤ 2 ^ 8999 := Nat.pow_le_pow_right (by omega) (by omega)
  exact decide_eq_true (by omega)
theorem fr_two {a b : Int} : isFr (.tup [.int (2 * a), .int (2 * b)]) = false := by
  show (decide (0 < 2 * b) && decide (Int.gcd (2 * a) (2 * b) = 1)) = false
  have : ¬ Int.gcd (2 * a) (2 * b) = 1 := by
    rw [Int.gcd_mul_left]
    show ¬ (2 * Int.gcd a b = 1)
    omega
  rw [decide_eq_false this, Bool.and_false]
theorem fr_neg {a : D} {b : Int} (h : b ≤ 0) : isFr (.tup [a, .int b]) = false := by
  cases a with
  | int a =>
    show (decide (0 < b) && _) = false
    rw [decide_eq_false (by omega), Bool.false_and]
  | _ => rfl
theorem nn_bad {n : Nat} {ds : List D} {x : D} (h : x ∈ ds) (b : nn x = false) : pwB n (.tup ds) = false := by
  show (decide (ds.length = n) && ds.all nn) = false
  have : ds.all nn = false := by
    rw [List.all_eq_false]
    exact ⟨x, h, by rw [b]; decide⟩
  rw [this, Bool.and_false]
/-- the things that a term is bent to -/
def bents (w : List Int) (q : Rat) (v1 v2 : List D) : List D := [.non, .lst [.pw w, encR q], .tup [.pw w], .tup [.pw w, encR q, .int 1], .tup [.lst (w.map .int), encR q], .tup [.pw (w ++ [0]), encR q],
  .tup [.pw ([-1] ++ w.drop 1), encR q], .tup [.tup ([.bl true] ++ (w.drop 1).map .int), encR q], .tup [.pw w, .tup [.int (2 * q.num), .int (2 * (q.den : Int))]],
  .tup [.pw w, .tup [.int 0, .int 1]], .tup [.pw w, .int q.num], .tup [.pw (w.drop 1), encR q], .tup [.pw w, .non], .tup [.pw w, .lst [.int q.num, .int q.den]],
  .tup [.pw w, .tup [.int q.num, .int 0]], .tup [.pw w, .tup [.int q.num, .int (-(q.den : Int))]], .tup [.pw w, .tup [.bl true, .int 1]], .tup [.pw w, .tup [.int q.num, .int q.den, .int 1]], .tup [.tup v1, encR q], .tup [.tup v2, encR q]]
theorem bents_th {n : Nat} {w : List Int} {q : Rat} {v1 v2 : List D} (hw : w.length ≤ 100) (hq : lg q ≤ 300) (h1 : v1.length ≤ 300 ∧ (∀ x ∈ v1, kd x = true ∧ Lay 4 x) ∧ ∃ x ∈ v1, nn x = false) (h2 : v2.length ≤ 300 ∧ (∀ x ∈ v2, kd x = true ∧ Lay 4 x) ∧ ∃ x ∈ v2, nn x = false) : ∀ x ∈ bents w q v1 v2, Th n x := by
  have sq : sz 4000 q := sz_of (by omega)
  have fR : (kd2 (encR q) && fbnd (encR q)) = true := by rw [kd2_R, fbnd_R sq]; rfl
  have lR : Lay 5 (encR q) := lay_R 4 q
  have lW : ∀ is, Lay 5 (.pw is) := fun is => lay_pw 4 is
  have pW := pws_pw (is := w) (by omega)
  have dn : ((q.den : Int)).natAbs < 2 ^ 4000 := by rw [Int.natAbs_natCast]; exact sq.2
  have e1 : (2 : Nat) ^ 4000 ≤ 2 ^ 4002 := Nat.pow_le_pow_right (by omega) (by omega)
  have e2 : (2 : Nat) ^ 4002 = 4 * 2 ^ 4000 := by rw [show 4002 = 4000 + 2 from rfl, Nat.pow_add]; first | done | omega
  have one : (1 : Nat) ≤ 2 ^ 4000 := Nat.one_le_two_pow
  have ii : ∀ a b : Int, Lay 5 (.tup [.int a, .int b]) := fun a b => (lay_tup (k := 0) fun d hd => by
    simp at hd
    rcases hd with rfl | rfl <;> exact lay_int _ _).up (by omega)
  have nofr : ∀ {a b : D}, isFr b = false → pwB n a = true → isFr b = true → ∃ t : Tm, D.tup [a, b] = encT t ∧ lg t.2 ≤ 300 := fun {a b} e _ z => by rw [e] at z; cases z
  intro x hx
  unfold bents at hx
  simp only [List.mem_cons, List.not_mem_nil, or_false] at hx
  rcases hx with rfl | rfl | rfl | rfl | rfl | rfl | rfl | rfl | rfl | rfl | rfl | rfl | rfl | rfl | rfl | rfl | rfl | rfl | rfl | rfl
  · exact th_bad rfl (fun _ z => (by cases z)) (fun _ _ z => (by cases z)) (lay_non _) rfl
  · exact th_bad rfl (fun _ z => (by cases z)) (fun _ _ z => (by cases z)) (lay_lst fun d hd => by
      simp at hd
      rcases hd with rfl | rfl
      · exact lW w
      · exact lR) rfl
  · exact th_bad rfl (fun _ z => (by cases z)) (fun _ _ z => (by cases z)) (lay_tup fun d hd => by
      simp at hd
      subst hd
      exact lW w) rfl
  · exact th_bad rfl (fun _ z => (by cases z)) (fun _ _ z => (by cases z)) (lay_tup fun d hd => by
      simp at hd
      rcases hd with rfl | rfl | rfl
      · exact lW w
      · exact lR
      · exact lay_int _ _) rfl
  · exact th_pair ⟨rfl, fun _ z => (by cases z), fun _ z => (by cases z)⟩ fR (lay_lst (k := 4) fun d hd => by
      obtain ⟨i, _, rfl⟩ := List.mem_map.mp hd
      exact lay_int _ _) lR fun z => by cases z
  · exact th_enc (t := (w ++ [0], q)) (by rw [List.length_append]; simp; omega) hq
  · exact th_enc (t := ([-1] ++ w.drop 1, q)) (by rw [List.length_append, List.length_drop]; simp; omega) hq
  · refine th_pair (pws_tup (by simp; omega) fun x hx => ?_) fR (lay_tup fun d hd => ?_) lR fun z => ?_
    · rcases List.mem_append.mp hx with z | z
      · simp at z; subst z; rfl
      · obtain ⟨i, _, rfl⟩ := List.mem_map.mp z; rfl
    · rcases List.mem_append.mp hd with z | z
      · simp at z; subst z; exact lay_bl _ _
      · obtain ⟨i, _, rfl⟩ := List.mem_map.mp z; exact lay_int _ _
    · rw [nn_bad (x := .bl true) (by simp) rfl] at z
      cases z
  · exact th_pair pW (by rw [int_kd2 rfl rfl, fbnd_i (by omega)]; rfl) (lW w) (ii _ _) (nofr fr_two)
  · exact th_enc (t := (w, 0)) (by show w.length ≤ 1000; omega) (by show lg 0 ≤ 300; decide)
  · exact th_pair pW rfl (lW w) (lay_int _ _) (nofr rfl)
  · exact th_enc (t := (w.drop 1, q)) (by show (w.drop 1).length ≤ 1000; rw [List.length_drop]; omega) hq
  · exact th_pair pW rfl (lW w) (lay_non _) (nofr rfl)
  · exact th_pair pW rfl (lW w) (lay_lst (k := 4) fun d hd => by
      simp at hd
      rcases hd with rfl | rfl <;> exact lay_int _ _) (nofr rfl)
  · exact th_pair pW (by rw [int_kd2 rfl rfl, fbnd_i (by first | (simp; done) | (simp; omega))]; rfl) (lW w) (ii _ _) (nofr (fr_neg (by omega)))
  · exact th_pair pW (by rw [int_kd2 rfl rfl, fbnd_i (by omega)]; rfl) (lW w) (ii _ _) (nofr (fr_neg (by omega)))
  · exact th_pair pW (by rw [int_kd2 rfl rfl, fbnd_i (by first | (simp; done) | (simp; omega))]; rfl) (lW w) (lay_tup (k := 4) fun d hd => by
      simp at hd
      rcases hd with rfl | rfl
      · exact lay_bl _ _
      · exact lay_int _ _) (nofr rfl)
  · exact th_pair pW (by
      show (kd2 _ && true) = true
      rfl) (lW w) (lay_tup (k := 4) fun d hd => by
      simp at hd
      rcases hd with rfl | rfl | rfl <;> exact lay_int _ _) (nofr rfl)
  · obtain ⟨a, b, x, hx, c⟩ := h1
    exact th_pair (pws_tup (by omega) fun x hx => (b x hx).1) fR (lay_tup fun d hd => (b d hd).2) lR fun z => by rw [nn_bad hx c] at z; cases z
  · obtain ⟨a, b, x, hx, c⟩ := h2
    exact th_pair (pws_tup (by omega) fun x hx => (b x hx).1) fR (lay_tup fun d hd => (b d hd).2) lR fun z => by rw [nn_bad hx c] at z; cases z
end PM

set_option Elab.async false
set_option linter.all false
set_option maxRecDepth 100000
set_option exponentiation.threshold 10000
set_option maxHeartbeats 2000000
/-! k02: lists bent. -/
namespace PM
open PySem PySem.Spec L2
open PyProof.Rows hiding St

def Bent (n : Nat) (ds : List D) : Prop := ∃ (a : List Tm) (x : D) (b : List Tm), ds = a.map encT ++ [x] ++ b.map encT ∧ Th n x ∧ TOk n a ∧ TOk n b ∧ a.length ≤ 16 ∧ b.length ≤ 16 ∧ a.length + b.length ≤ 16 ∧ tot a ≤ 300 ∧ tot b ≤ 300
noncomputable def L__law_bent_0 : List S := [.mut 6 "append" appD [.tup [.bin .Add uAddM (.bin .Add uAddM (.sl slU (.v 4) (.c .non) (.v 7)) (.tup [.v 8])) (.sl slU (.v 4) (.bin .Add uAddM (.v 7) (.c (.int 1))) (.c .non)), .v 5]]]
abbrev N__law_bent : List Str := ["_law_pool_here", "_law_n", "_law_terms_here", "_law_at", "_law_powers_here", "_law_share_here", "_law_some", "_law_place", "_law_odd"]
noncomputable def B__law_bent : List S := [.ifs (.cmp .Eq eqD (.v 2) (.lst [])) [.ret (.ix ixU (.lst [.lst [.c .non], .lst [.tup [.bin .Mult uMul (.pwt [.c (.int 0)]) (.v 1), .tup [.c (.int 0), .c (.int 1)]]], .lst [.tup [.c (.int 0), .c (.int 1)]], .lst [.tup [.bin .Mult uMul (.pwt [.c (.int 0)]) (.bin .Add uAddM (.v 1) (.c (.int 1))), .tup [.c (.int 1), .c (.int 1)]]]]) (.call "_law_take" F._law_take [.v 0, .c (.int 4)]))] [], .set 3 (.call "_law_take" F._law_take [.v 0, .call "len" (opc lenD) [.v 2]]), .frz 3, .tgt [.nm 4, .nm 5] (.ix ixU (.v 2) (.v 3)), .set 6 (.lst [.c .non, .lst [.v 4, .v 5], .tup [.v 4], .tup [.v 4, .v 5, .c (.int 1)], .tup [.call "list" (opc listD) [.v 4], .v 5], .tup [.bin .Add uAddM (.v 4) (.pwt [.c (.int 0)]), .v 5]]), .set 6 (.bin .Add uAddM (.v 6) (.lst [.tup [.bin .Add uAddM (.pwt [.un .USub negI (.c (.int 1))]) (.sl slU (.v 4) (.c (.int 1)) (.c .non)), .v 5], .tup [.bin .Add uAddM (.tup [.c (.bl true)]) (.sl slU (.v 4) (.c (.int 1)) (.c .non)), .v 5], .tup [.v 4, .tup [.bin .Mult uMul (.c (.int 2)) (.ix ixU (.v 5) (.c (.int 0))), .bin .Mult uMul (.c (.int 2)) (.ix ixU (.v 5) (.c (.int 1)))]]])), .set 6 (.bin .Add uAddM (.v 6) (.lst [.tup [.v 4, .tup [.c (.int 0), .c (.int 1)]], .tup [.v 4, .ix ixU (.v 5) (.c (.int 0))], .tup [.sl slU (.v 4) (.c (.int 1)) (.c .non), .v 5], .tup [.v 4, .c .non], .tup [.v 4, .call "list" (opc listD) [.v 5]]])), .set 6 (.bin .Add uAddM (.v 6) (.lst [.tup [.v 4, .tup [.ix ixU (.v 5) (.c (.int 0)), .c (.int 0)]], .tup [.v 4, .tup [.ix ixU (.v 5) (.c (.int 0)), .bin .Sub subI (.c (.int 0)) (.ix ixU (.v 5) (.c (.int 1)))]], .tup [.v 4, .tup [.c (.bl true), .c (.int 1)]]])), .mut 6 "append" appD [.tup [.v 4, .bin .Add uAddM (.v 5) (.pwt [.c (.int 1)])]], .set 7 (.call "_law_take" F._law_take [.v 0, .v 1]), .frz 7, .for_ (.nm 8) .ex itU [.lst [.un .USub negI (.c (.int 1)), .c (.bl true)]] L__law_bent_0, .ret (.bin .Add uAddM (.bin .Add uAddM (.sl slU (.v 2) (.c .non) (.v 3)) (.lst [.ix ixU (.v 6) (.call "_law_take" F._law_take [.v 0, .c (.int 20)])])) (.sl slU (.v 2) (.bin .Add uAddM (.v 3) (.call "_law_take" F._law_take [.v 0, .c (.int 2)])) (.c .non)))]
namespace F
noncomputable def _law_bent : List D → T R := runF 3 9 B__law_bent
end F
theorem p__law_bent (ds : List D) (P : R → Prop) (hP : ¬ P .bad) (h : (F._law_bent ds).all P) : (runF 3 9 B__law_bent ds).all P := h
theorem uM_l {a b : List D} (h : a.length + b.length ≤ 1000) : uAddM (.lst a) (.lst b) = .fresh (.lst (a ++ b)) := by
  unfold uAddM orF
  rw [uAdd_lst, if_pos (by unfold lineMax; omega)]
theorem uM_w {a b : List Int} (h : a.length + b.length ≤ 1000) : uAddM (.pw a) (.pw b) = .ok (.pw (a ++ b)) := by
  unfold uAddM orF
  rw [uAdd_pw, if_pos (by unfold lineMax; omega)]
theorem uM_t {a b : List D} (h : a.length + b.length ≤ 1000) : uAddM (.tup a) (.tup b) = .ok (.tup (a ++ b)) := by
  unfold uAddM orF
  rw [uAdd_tup, if_pos (by unfold lineMax; omega)]
theorem uM_i (a b : Int) : uAddM (.int a) (.int b) = .ok (.int (a + b)) := rfl
theorem uM_tw {a : List D} {b : List Int} (h : a.length + b.length ≤ 1000) : uAddM (.tup a) (.pw b) = .ok (.tup (a ++ b.map D.int)) := by
  have e : uAdd (.tup a) (.pw b) = .bad := rfl
  unfold uAddM orF
  rw [e]
  dsimp only
  unfold joinM
  dsimp only
  rw [if_pos (by unfold lineMax; omega)]
theorem uM_wt {a : List Int} {b : List D} (h : a.length + b.length ≤ 1000) : uAddM (.pw a) (.tup b) = .ok (.tup (a.map D.int ++ b)) := by
  have e : uAdd (.pw a) (.tup b) = .bad := rfl
  unfold uAddM orF
  rw [e]
  dsimp only
  unfold joinM
  dsimp only
  rw [if_pos (by unfold lineMax; omega)]
theorem cutI_from (w : List Int) (j : Nat) : cutI w (some (j : Int)) none = w.drop j := by
  unfold cutI
  have e1 : HT.sIx w.length 0 (some (j : Int)) = min j w.length := HT.sIx_nat w.length 0 j
  have e2 : HT.sIx w.length w.length none = w.length := rfl
  rw [e1, e2]
  by_cases h : j ≤ w.length
  · rw [Nat.min_eq_left h, List.take_of_length_le (by rw [List.length_drop]; omega)]
  · rw [Nat.min_eq_right (by omega), List.drop_of_length_le (by omega), List.drop_of_length_le (by omega)]
    simp
theorem cutI_to (w : List Int) (j : Nat) : cutI w none (some (j : Int)) = w.take j := by
  unfold cutI
  have e1 : HT.sIx w.length w.length (some (j : Int)) = min j w.length := HT.sIx_nat w.length w.length j
  have e2 : HT.sIx w.length 0 none = 0 := rfl
  rw [e1, e2, List.drop_zero, Nat.sub_zero]
  by_cases h : j ≤ w.length
  · rw [Nat.min_eq_left h]
  · rw [Nat.min_eq_right (by omega), List.take_of_length_le (by omega), List.take_of_length_le (by omega)]
theorem cutD_from (w : List D) (j : Nat) : cutD w (some (j : Int)) none = w.drop j := by
  unfold cutD
  have e1 : HT.sIx w.length 0 (some (j : Int)) = min j w.length := HT.sIx_nat w.length 0 j
  have e2 : HT.sIx w.length w.length none = w.length := rfl
  rw [e1, e2]
  by_cases h : j ≤ w.length
  · rw [Nat.min_eq_left h, List.take_of_length_le (by rw [List.length_drop]; omega)]
  · rw [Nat.min_eq_right (by omega), List.drop_of_length_le (by omega), List.drop_of_length_le (by omega)]
    simp
theorem cutD_to (w : List D) (j : Nat) : cutD w none (some (j : Int)) = w.take j := by
  unfold cutD
  have e1 : HT.sIx w.length w.length (some (j : Int)) = min j w.length := HT.sIx_nat w.length w.length j
  have e2 : HT.sIx w.length 0 none = 0 := rfl
  rw [e1, e2, List.drop_zero, Nat.sub_zero]
  by_cases h : j ≤ w.length
  · rw [Nat.min_eq_left h]
  · rw [Nat.min_eq_right (by omega), List.take_of_length_le (by omega), List.take_of_length_le (by omega)]
theorem slW (w : List Int) (lo hi : Option Int) : slU (.pw w) lo hi = .ok (.pw (cutI w lo hi)) := rfl
theorem slL (w : List D) (lo hi : Option Int) : slU (.lst w) lo hi = .fresh (.lst (cutD w lo hi)) := rfl
theorem atD_memK {ds : List D} {i : Int} (h0 : 0 ≤ i) (h : i < ds.length) : ∃ d, d ∈ ds ∧ atD ds i = .ok d := by
  obtain ⟨k, rfl⟩ := Int.eq_ofNat_of_zero_le h0
  have hk : k < ds.length := by omega
  exact ⟨ds[k], List.getElem_mem hk, atD_nat (List.getElem?_eq_getElem hk)⟩
theorem tot_drop (k : Nat) (ts : List Tm) : tot (ts.drop k) ≤ tot ts := by
  have := tot_app (ts.take k) (ts.drop k)
  rw [List.take_append_drop] at this
  omega
theorem zerosK (m : Nat) (h1 : 1 ≤ m) (h2 : m ≤ 1000) : uMul (.pw [0]) (.int m) = .ok (.pw (List.replicate m 0)) := by
  have := uMul_pw (is := [0]) (k := (m : Int)) (by simp) (by simp) (by omega) (by omega)
  rw [this, Int.toNat_natCast]
  have : ∀ m : Nat, (List.replicate m [(0 : Int)]).flatten = List.replicate m 0 := fun m => by
    induction m with
    | zero => rfl
    | succ m ih => rw [List.replicate_succ, List.flatten_cons, ih, List.replicate_succ]; rfl
  rw [this]
theorem pw0 : pwR [.int 0] = .ok (.pw [0]) := rfl
theorem pw1 : pwR [.int 1] = .ok (.pw [1]) := rfl
theorem pwm : pwR [D.int (-1)] = .ok (.pw [-1]) := rfl
def BentR (n : Nat) (r : R) : Prop := ∃ ds, (r = .ok (.lst ds) ∨ r = .fresh (.lst ds)) ∧ Bent n ds
def bents18 (w : List Int) (q : Rat) : List D := [.non, .lst [.pw w, encR q], .tup [.pw w], .tup [.pw w, encR q, .int 1], .tup [.lst (w.map D.int), encR q], .tup [.pw (w ++ [0]), encR q],
  .tup [.pw ([-1] ++ w.drop 1), encR q], .tup [.tup ([D.bl true] ++ (w.drop 1).map D.int), encR q], .tup [.pw w, .tup [.int (2 * q.num), .int (2 * (q.den : Int))]],
  .tup [.pw w, .tup [.int 0, .int 1]], .tup [.pw w, .int q.num], .tup [.pw (w.drop 1), encR q], .tup [.pw w, .non], .tup [.pw w, .lst [.int q.num, .int q.den]],
  .tup [.pw w, .tup [.int q.num, .int 0]], .tup [.pw w, .tup [.int q.num, .int (-(q.den : Int))]], .tup [.pw w, .tup [.bl true, .int 1]], .tup [.pw w, .tup [.int q.num, .int q.den, .int 1]]]
theorem bent_one {n : Nat} {x : D} (h : Th n x) : Bent n [x] := ⟨[], x, [], rfl, h, (fun _ z => by cases z), (fun _ z => by cases z), by simp, by simp, by simp, by simp [tot], by simp [tot]⟩
theorem bent_nil {n : Nat} (n1 : 1 ≤ n) (n9 : n ≤ 100) : (F._law_bent [.pool, .int n, encP []]).all (BentR n) := by
  have tk4 := F.take_eq (m := 4) (by omega) (by decide)
  have z1 := zerosK n n1 (by omega)
  have z2 := zerosK (n + 1) (by omega) (by omega)
  have hc : (((n + 1 : Nat) : Int)) = (n : Int) + 1 := by omega
  rw [hc] at z2
  unfold F._law_bent
  refine run_all rfl ?_
  unfold B__law_bent
  rw [← AllS_eq]
  refine as_all ?_
  simp [encP_nil, tk4, z1, z2, uM_i, pw0]
  intro k hk hk2
  have g0 : Th n D.non := th_bad rfl (fun _ z => (by cases z)) (fun _ _ z => (by cases z)) (lay_non _) rfl
  have g1 : Th n (encT (List.replicate n 0, 0)) := th_enc (by show (List.replicate n (0 : Int)).length ≤ 1000; rw [List.length_replicate]; omega) (by show lg 0 ≤ 300; decide)
  have g2 : Th n (.tup [.int 0, .int 1]) := th_pair ⟨rfl, fun _ z => (by cases z), fun _ z => (by cases z)⟩ rfl (lay_int _ _) (lay_int _ _) fun z => by cases z
  have g3 : Th n (encT (List.replicate (n + 1) 0, 1)) := th_enc (by show (List.replicate (n + 1) (0 : Int)).length ≤ 1000; rw [List.length_replicate]; omega) (by show lg 1 ≤ 300; decide)
  have hk3 : k = 0 ∨ k = 1 ∨ k = 2 ∨ k = 3 := by omega
  rcases hk3 with rfl | rfl | rfl | rfl
  · exact ⟨_, .inl rfl, bent_one g0⟩
  · exact ⟨_, .inl rfl, bent_one g1⟩
  · exact ⟨_, .inl rfl, bent_one g2⟩
  · exact ⟨_, .inl rfl, bent_one g3⟩
theorem bent_some {n : Nat} {ts : List Tm} (h : Dr n ts) (l : ts.length ≤ 14) (tt : tot ts ≤ 300) (ne : ts ≠ []) : (F._law_bent [.pool, .int n, encP ts]).all (BentR n) := by
  have n1 := h.n1
  have n9 := h.n9
  have lp : 0 < ts.length := List.length_pos_iff.mpr ne
  have tkL := F.take_eq (m := (ts.length : Int)) (by omega) (by have : (2 : Nat) ^ 10 ≤ 2 ^ 8000 := Nat.pow_le_pow_right (by omega) (by omega); omega)
  have tkN := F.take_eq (m := (n : Int)) (by omega) (by have : (2 : Nat) ^ 10 ≤ 2 ^ 8000 := Nat.pow_le_pow_right (by omega) (by omega); omega)
  have tk20 := F.take_eq (m := 20) (by omega) (by decide)
  have tk2 := F.take_eq (m := 2) (by omega) (by decide)
  have ll : lenD [encP ts] = .ok (.int (ts.length : Int)) := by
    show R.ok (.int (((ts.map encT).length : Nat) : Int)) = _
    rw [List.length_map]
  unfold F._law_bent
  refine run_all rfl ?_
  unfold B__law_bent
  rw [← AllS_eq]
  refine as_next (n' := [.val .pool, .val (.int n), .val (encP ts), .emp, .emp, .emp, .emp, .emp, .emp]) (by simp [encP_nil, ne]) ?_
  refine as_mid (fun n' => ∃ i : Nat, i < ts.length ∧ n' = [.val .pool, .val (.int n), .val (encP ts), .val (.int i), .emp, .emp, .emp, .emp, .emp]) ?_ fun n' ⟨i, hi, e⟩ => ?_
  · simp [ll, tkL]
    intro i hi hi2
    exact ⟨i.toNat, by omega, by rw [Int.toNat_of_nonneg hi]⟩
  subst e
  refine as_next (n' := [.val .pool, .val (.int n), .val (encP ts), .val (.int i), .emp, .emp, .emp, .emp, .emp]) (by simp [frzK, Nv.ownOf]) ?_
  have ti : ts[i]? = some ts[i] := List.getElem?_eq_getElem hi
  have tm := h.ok ts[i] (List.getElem_mem hi)
  have lgt : lg (ts[i]).2 ≤ 300 := by have := lg_tot (List.getElem_mem hi); omega
  have ix1 : ixU (encP ts) (.int (i : Int)) = .pure (.ok (encT ts[i])) := by
    show T.pure (atD (ts.map encT) _) = _
    rw [atD_nat (d := encT ts[i]) (by rw [List.getElem?_map, ti]; rfl)]
  obtain ⟨w, q, et⟩ : ∃ w q, ts[i] = (w, q) := ⟨_, _, rfl⟩
  rw [et] at tm lgt ix1
  have lw : w.length = n := tm.1
  have lgt : lg q ≤ 300 := lgt
  refine as_next (n' := [.val .pool, .val (.int n), .val (encP ts), .val (.int i), .val (.pw w), .val (encR q), .emp, .emp, .emp]) (by
    have eT : encT (w, q) = .tup [.pw w, encR q] := rfl
    simp [ix1, eT]
    rfl) ?_
  have x0 : ixU (encR q) (.int 0) = .pure (.ok (.int q.num)) := by
    show T.pure (atD _ _) = _
    rw [atD_0]
  have x1 : ixU (encR q) (.int 1) = .pure (.ok (.int q.den)) := by
    show T.pure (atD _ _) = _
    rw [atD_1]
  have lsw : listD [.pw w] = .fresh (.lst (w.map D.int)) := rfl
  have lsr : listD [encR q] = .fresh (.lst [.int q.num, .int q.den]) := rfl
  have a1 := uM_w (a := w) (b := [0]) (by simp; omega)
  have a2 := uM_w (a := [-1]) (b := w.drop 1) (by simp; omega)
  have a3 := uM_tw (a := [D.bl true]) (b := w.drop 1) (by simp; omega)
  have a4 : uAddM (encR q) (.pw [1]) = .ok (.tup [.int q.num, .int q.den, .int 1]) := uM_tw (by simp)
  have c1 : cutI w (some 1) none = w.drop 1 := cutI_from w 1
  have u2 := fun a : Int => mul_small (a := 2) (b := a) (by omega)
  refine as_next (n' := [.val .pool, .val (.int n), .val (encP ts), .val (.int i), .val (.pw w), .val (encR q), .own (.lst [.non, .lst [.pw w, encR q], .tup [.pw w], .tup [.pw w, encR q, .int 1], .tup [.lst (w.map D.int), encR q], .tup [.pw (w ++ [0]), encR q]]), .emp, .emp]) (by simp [lsw, a1, pw0]) ?_
  refine as_next (n' := [.val .pool, .val (.int n), .val (encP ts), .val (.int i), .val (.pw w), .val (encR q), .own (.lst [.non, .lst [.pw w, encR q], .tup [.pw w], .tup [.pw w, encR q, .int 1], .tup [.lst (w.map D.int), encR q], .tup [.pw (w ++ [0]), encR q], .tup [.pw ([-1] ++ w.drop 1), encR q], .tup [.tup ([D.bl true] ++ (w.drop 1).map D.int), encR q], .tup [.pw w, .tup [.int (2 * q.num), .int (2 * (q.den : Int))]]]), .emp, .emp]) (by
    simp at a2 a3
    simp [slW, c1, a2, a3, x0, x1, u2, uM_l, Nv.ownOf, pwm]) ?_
  refine as_next (n' := [.val .pool, .val (.int n), .val (encP ts), .val (.int i), .val (.pw w), .val (encR q), .own (.lst [.non, .lst [.pw w, encR q], .tup [.pw w], .tup [.pw w, encR q, .int 1], .tup [.lst (w.map D.int), encR q], .tup [.pw (w ++ [0]), encR q], .tup [.pw ([-1] ++ w.drop 1), encR q], .tup [.tup ([D.bl true] ++ (w.drop 1).map D.int), encR q], .tup [.pw w, .tup [.int (2 * q.num), .int (2 * (q.den : Int))]], .tup [.pw w, .tup [.int 0, .int 1]], .tup [.pw w, .int q.num], .tup [.pw (w.drop 1), encR q], .tup [.pw w, .non], .tup [.pw w, .lst [.int q.num, .int q.den]]]), .emp, .emp]) (by
    simp [slW, c1, x0, lsr, uM_l, Nv.ownOf]) ?_
  refine as_next (n' := [.val .pool, .val (.int n), .val (encP ts), .val (.int i), .val (.pw w), .val (encR q), .own (.lst [.non, .lst [.pw w, encR q], .tup [.pw w], .tup [.pw w, encR q, .int 1], .tup [.lst (w.map D.int), encR q], .tup [.pw (w ++ [0]), encR q], .tup [.pw ([-1] ++ w.drop 1), encR q], .tup [.tup ([D.bl true] ++ (w.drop 1).map D.int), encR q], .tup [.pw w, .tup [.int (2 * q.num), .int (2 * (q.den : Int))]], .tup [.pw w, .tup [.int 0, .int 1]], .tup [.pw w, .int q.num], .tup [.pw (w.drop 1), encR q], .tup [.pw w, .non], .tup [.pw w, .lst [.int q.num, .int q.den]], .tup [.pw w, .tup [.int q.num, .int 0]], .tup [.pw w, .tup [.int q.num, .int (-(q.den : Int))]], .tup [.pw w, .tup [.bl true, .int 1]]]), .emp, .emp]) (by
    simp [x0, x1, uM_l, Nv.ownOf]) ?_
  refine as_next (n' := [.val .pool, .val (.int n), .val (encP ts), .val (.int i), .val (.pw w), .val (encR q), .own (.lst (bents18 w q)), .emp, .emp]) (by
    simp [a4, pw1, T.mut, T.vals, appD, lstM, appL, Nv.ownOf, lineMax, bents18]) ?_
  refine as_mid (fun n' => ∃ j : Nat, n' = [.val .pool, .val (.int n), .val (encP ts), .val (.int i), .val (.pw w), .val (encR q), .own (.lst (bents18 w q)), .val (.int j), .emp]) ?_ fun n' ⟨j, e⟩ => ?_
  · simp [tkN]
    intro j hj hj2
    exact ⟨j.toNat, by rw [Int.toNat_of_nonneg hj]⟩
  subst e
  refine as_next (n' := [.val .pool, .val (.int n), .val (encP ts), .val (.int i), .val (.pw w), .val (encR q), .own (.lst (bents18 w q)), .val (.int j), .emp]) (by simp [frzK, Nv.ownOf]) ?_
  have b18 : (bents18 w q).length = 18 := rfl
  have cT : cutI w none (some (j : Int)) = w.take j := cutI_to w j
  have cF : cutI w (some ((j : Int) + 1)) none = w.drop (j + 1) := cutI_from w (j + 1)
  have body : ∀ (S : List D) (d : D), S.length ≤ 100 → exs L__law_bent_0 [.val .pool, .val (.int n), .val (encP ts), .val (.int i), .val (.pw w), .val (encR q), .own (.lst S), .val (.int j), .val d] = .pure (.next [.val .pool, .val (.int n), .val (encP ts), .val (.int i), .val (.pw w), .val (encR q), .own (.lst (S ++ [.tup [.tup ((w.take j).map D.int ++ [d] ++ (w.drop (j + 1)).map D.int), encR q]])), .val (.int j), .val d]) := fun S d hS => by
    have m1 := uM_wt (a := w.take j) (b := [d]) (by simp; omega)
    have m2 := uM_tw (a := (w.take j).map D.int ++ [d]) (b := w.drop (j + 1)) (by simp; omega)
    have hS2 : S.length < lineMax := by unfold lineMax; omega
    unfold L__law_bent_0
    simp at m1 m2
    simp [slW, cT, cF, m1, m2, uM_i, T.mut, T.vals, appD, lstM, appL, Nv.ownOf, hS2]
  generalize hS : bents18 w q = S at b18 ⊢
  have bd1 := body S (.int (-1)) (by omega)
  have bd2 := body (S ++ [.tup [.tup ((w.take j).map D.int ++ [D.int (-1)] ++ (w.drop (j + 1)).map D.int), encR q]]) (.bl true) (by rw [List.length_append, b18]; simp)
  refine as_next (n' := [.val .pool, .val (.int n), .val (encP ts), .val (.int i), .val (.pw w), .val (encR q), .own (.lst (S ++ [.tup [.tup ((w.take j).map D.int ++ [D.int (-1)] ++ (w.drop (j + 1)).map D.int), encR q]] ++ [.tup [.tup ((w.take j).map D.int ++ [D.bl true] ++ (w.drop (j + 1)).map D.int), encR q]])), .val (.int j), .val (.bl true)]) (by
    rw [ex_for]
    have iu : itU [.lst [.int (-1), .bl true]] = some [.int (-1), .bl true] := rfl
    simp at bd1 bd2
    simp [iu, forL_cons, forL_nil, bd1, bd2]) ?_
  have eS : S ++ [.tup [.tup ((w.take j).map D.int ++ [D.int (-1)] ++ (w.drop (j + 1)).map D.int), encR q]] ++ [.tup [.tup ((w.take j).map D.int ++ [D.bl true] ++ (w.drop (j + 1)).map D.int), encR q]] = bents w q ((w.take j).map D.int ++ [D.int (-1)] ++ (w.drop (j + 1)).map D.int) ((w.take j).map D.int ++ [D.bl true] ++ (w.drop (j + 1)).map D.int) := by
    rw [← hS]
    rfl
  rw [eS]
  have vk : ∀ d : D, kd d = true → Lay 4 d → nn d = false → ((w.take j).map D.int ++ [d] ++ (w.drop (j + 1)).map D.int).length ≤ 300 ∧ (∀ x ∈ (w.take j).map D.int ++ [d] ++ (w.drop (j + 1)).map D.int, kd x = true ∧ Lay 4 x) ∧ ∃ x ∈ (w.take j).map D.int ++ [d] ++ (w.drop (j + 1)).map D.int, nn x = false := fun d k1 k2 k3 => by
    refine ⟨by simp; omega, fun x hx => ?_, d, by simp, k3⟩
    simp only [List.mem_append, List.mem_map, List.mem_singleton] at hx
    rcases hx with (⟨i, _, rfl⟩ | rfl) | ⟨i, _, rfl⟩
    · exact ⟨rfl, lay_int _ _⟩
    · exact ⟨k1, k2⟩
    · exact ⟨rfl, lay_int _ _⟩
  have th := bents_th (n := n) (w := w) (q := q) (by omega) lgt (vk (.int (-1)) rfl (lay_int _ _) rfl) (vk (.bl true) rfl (lay_bl _ _) rfl)
  generalize hB : bents w q ((w.take j).map D.int ++ [D.int (-1)] ++ (w.drop (j + 1)).map D.int) ((w.take j).map D.int ++ [D.bl true] ++ (w.drop (j + 1)).map D.int) = S2 at th ⊢
  have l20 : S2.length = 20 := by rw [← hB]; rfl
  have s1 : slU (encP ts) none (some (i : Int)) = .fresh (.lst ((ts.take i).map encT)) := by
    show R.fresh (.lst (cutD (ts.map encT) none (some (i : Int)))) = _
    rw [cutD_to, List.map_take]
  refine as_all ?_
  simp [s1, tk20]
  intro k hk0
  obtain ⟨hk, hk2⟩ := hk0
  obtain ⟨x, mx, ex⟩ := atD_memK (ds := S2) hk (by omega)
  have m1 := uM_l (a := (ts.take i).map encT) (b := [x]) (by simp; omega)
  simp at m1
  simp [ex, m1, tk2, uM_i]
  intro m hm hm2
  obtain ⟨m, rfl⟩ := Int.eq_ofNat_of_zero_le hm
  have s2 : slU (encP ts) (some ((i : Int) + (m : Int))) none = .fresh (.lst ((ts.drop (i + m)).map encT)) := by
    show R.fresh (.lst (cutD (ts.map encT) (some ((i : Int) + (m : Int))) none)) = _
    have : ((i : Int) + (m : Int)) = ((i + m : Nat) : Int) := by omega
    rw [this, cutD_from, List.map_drop]
  have m2 := uM_l (a := (ts.take i).map encT ++ [x]) (b := (ts.drop (i + m)).map encT) (by simp; omega)
  simp at m2 s2
  simp [s2, m2]
  refine ⟨_, .inr rfl, ts.take i, x, ts.drop (i + m), by simp, th x mx, fun t ht => h.ok t (List.mem_of_mem_take ht), fun t ht => h.ok t (List.mem_of_mem_drop ht), by simp; omega, by simp; omega, by simp; omega, ?_, ?_⟩
  · have := tot_take i ts
    omega
  · have := tot_drop (i + m) ts
    omega
end PM

set_option Elab.async false
set_option linter.all false
set_option maxRecDepth 100000
set_option maxHeartbeats 2000000
namespace PM
open PySem PySem.Spec L2
open PyProof.Rows hiding St
theorem cutS_memK {α : Type} {xs : List α} {k : Int} {x : α} (h : x ∈ cutS xs k) : x ∈ xs := by
  unfold cutS at h
  obtain ⟨i, _, e⟩ := List.mem_filterMap.mp h
  exact List.mem_of_getElem? e
theorem cutS_rev (xs : List D) : (cutS xs (-1)).length ≤ xs.length := by
  unfold cutS
  refine Nat.le_trans (List.length_filterMap_le _ _) ?_
  have e : sliceBounds none none (some (-1)) xs.length = ((xs.length : Int) - 1, -1, -1) := by
    simp [sliceBounds]
  rw [e]
  dsimp only
  unfold sliceRange
  rw [List.length_map, List.length_range]
  split
  · omega
  · split
    · rw [show (- (-1 : Int)) = 1 from rfl, Int.ediv_one]
      omega
    · omega
end PM

set_option Elab.async false
set_option linter.all false
set_option maxRecDepth 100000
set_option maxHeartbeats 2000000
/-! LEG: a law's def called where nothing is being shown. -/
namespace PM
open PySem PySem.Spec L2
open PyProof.Rows hiding St
section
variable {P : Program} {w : World} {K : PySem.W.Frag} {mg mb : Str → Option Value} {k : Nat} {fa a : Addr} {fd : FuncData} {x : Str} {sp : Sp} {s1 : Shared} {us : List Value} {ns : List Int}
/-- what is wished of the run -/
def TopQ (s1 : Shared) : Result → Shared → Prop := fun r s2 => r = .ok (.ret (.bool true)) ∧ OldK s1.heap s2.heap ∧ s2.os = s1.os ∧ AllBare s2.gens
/-- at a tracked heap of which at most a, which K does not name, is known -/
theorem top_at {H : Hp} (inK : K.In s1.heap) (G : s1.heap.Ns mainGlobals mg) (B : s1.heap.Ns builtinsNs mb) (BB : ∀ x : Str, x ≠ "__name__" → mb x = bootBuiltins x) (L : s1.heap.NoLimit) (gens : s1.gens = #[])
    (obj : s1.heap.get? a = some { cls := .type "list", data := .seq us.toArray }) (hr : Room k callerA) (F : ∀ base : Heap, K.In base → base.Ns mainGlobals mg → FnOkG P w K mg base k fa fd [x] sp) (hb : ∀ (s : Shared) (u : Value), BindsTo s fd ⟨[u], []⟩ [(x, u)])
    (only : ∀ b u, H b = some u → b = a ∧ ∃ o xs, u = .frz o (.lst xs)) (ok : HOk P w H s1.heap) (out : H a ≠ none → K.lookup a = none) (wish : sp [.ref a] H (fun v _ => v = .bl true) fun _ _ _ => False) :
    codeAny (model P w) callerA (.call (.ref fa) ⟨[.ref a], []⟩) (TopQ s1) s1 := by
  have none_of : ∀ {b : Addr} {o : Obj}, s1.heap.get? b = some o → (∀ es : Array Value, ∀ n, o.data ≠ .seq es n) → H b = none := fun {b o} e ne => by
    match q : H b with
    | none => rfl
    | some u =>
      obtain ⟨rfl, _⟩ := only b u q
      rw [obj] at e
      cases e
      exact absurd rfl (ne _ _)
  have hid : ∀ {b : Addr} {m : Str → Option Value}, s1.heap.Ns b m → (hidT s1.heap H).Ns b m := fun ⟨o, es, n, e, d, r⟩ => ⟨o, es, n, hidT_get e (none_of e fun _ _ z => by rw [d] at z; cases z), d, r⟩
  have kin : K.In (hidT s1.heap H) := fun b o e => hidT_get (inK b o e) (by
    match q : H b with
    | none => rfl
    | some u =>
      obtain ⟨rfl, _⟩ := only b u q
      rw [out (by rw [q]; exact fun z => by cases z)] at e
      cases e)
  obtain ⟨mc, lim, lim2⟩ := L
  have env : Env0 P w K mg (hidT s1.heap H) callerA [] s1 H := ⟨rfl, ⟨kin, hid G, ⟨mb, hid B, BB⟩, mc, hid lim, lim2⟩, fun b o e => of_hidT e, Nat.le_of_eq (hidT_size _ _), trivial, fun b z => (by cases z), ok, .of_eq gens⟩
  refine codeAny_mono ((F _ kin (hid G)).run callerA [] s1 H ⟨[.ref a], []⟩ [.ref a] [.ref a] _ _ hr rfl env (hb s1 (.ref a)) (.cons rfl .nil) wish) fun r s2 z => ?_
  match r, z with
  | .error e, z =>
    obtain ⟨_, _, _, _, _, _, _, _, _, _, _, _, z⟩ := z
    exact z.elim
  | .ok .next, z => exact False.elim z
  | .ok .brk, z => exact False.elim z
  | .ok .cont, z => exact False.elim z
  | .ok (.ret u), z =>
    obtain ⟨v, H2, os, bare, un, ok2, rel, rfl⟩ := z
    cases (show u = Value.bool true from rel)
    refine ⟨rfl, OldK.of_keep fun b o e => ?_, os, bare⟩
    match q : H b with
    | none => exact un.keep b o e q (fun z => by cases z) fun z => by cases z
    | some u =>
      obtain ⟨_, ob, xs, rfl⟩ := only b u q
      have h1 := (ok b _ q).1
      have h2 := (ok2 b _ (un.frzs b ob _ q)).1
      rw [e] at h1
      cases h1
      exact h2
end
/-- a law's end -/
theorem walk_ofG {l : PySem.W.OpenLaw} {n k : Nat} {q : Program} {loose : List Str} {XP : (Str → Option Value) → Heap → Prop} {YP : World → Heap → Prop} {d : DefRec} {x : Str} (hn : l.most = some n) (hn2 : n ≤ 1000) (hdf : d.params.defaults = []) (hr : Room k callerA)
    (F : ∀ (w : World) (mg : Str → Option Value) (fa : Addr) (h : Heap), YP w h → h.Ns mainGlobals mg → mg d.name = some (.ref fa) → ∃ (K : PySem.W.Frag) (fd : FuncData) (sp : Sp), K.In h ∧ (∀ (s : Shared) (u : Value), BindsTo s fd ⟨[u], []⟩ [(x, u)]) ∧
      (∀ (H : Hp) (a : Addr) (ns : List Int), ns.length ≤ n → SqL K H a (ns.map V.int) → sp [.ref a] H (fun v _ => v = .bl true) fun _ _ _ => False) ∧ ∀ base : Heap, K.In base → base.Ns mainGlobals mg → FnOkG l.prog w K mg base k fa fd [x] sp) :
    PySem.W.WalkO q loose XP YP l.row.toRowW d [] (fun f vs => PySem.call f vs) := by
  refine Att.attach_call hn hdf fun w s0 s1 mg mb fa o pm cd doc a vs ns G Y ho hd hcd hmg obj iv few gens => ?_
  obtain ⟨K, fd, sp, inK, hb, wish, hF⟩ := F w mg fa _ Y G.T.g hmg
  have rel := vals_ints iv
  have n1 := rel.length
  rw [List.length_map] at n1
  have small : (ns.map V.int).length ≤ sizeLine := by rw [List.length_map, sizeLine_eq]; omega
  have go : ∀ {H : Hp}, (∀ b u, H b = some u → b = a ∧ ∃ o xs, u = .frz o (.lst xs)) → HOk l.prog w H s1.heap → (H a ≠ none → K.lookup a = none) → SqL K H a (ns.map V.int) → codeAny (model l.prog w) callerA (.call (.ref fa) ⟨[.ref a], []⟩) (TopQ s1) s1 :=
    fun {H} h1 h2 h3 h4 => top_at inK G.T.g G.T.b G.T.builtins G.T.nolimit gens obj hr hF hb h1 h2 h3 (wish H a ns few h4)
  match q : K.lookup a with
  | some ob =>
    have e := inK a ob q
    rw [obj] at e
    cases e
    exact go (H := fun _ => none) (fun _ _ z => by cases z) (fun _ _ z => by cases z) (fun z => absurd rfl z) (.inr ⟨_, vs.toArray, _, q, rfl, rfl, rfl, by rw [List.size_toArray, sizeLine_eq]; omega, by simpa using rel⟩)
  | none =>
    refine go (H := upd (fun _ => none) a (.frz { cls := .type "list", data := .seq vs.toArray } (.lst (ns.map V.int)))) (fun b u z => ?_) (fun b u z => ?_) (fun _ => q) (.inl (.inr ⟨_, upd_same⟩))
    · by_cases c : b = a
      · subst c
        rw [upd_same] at z
        cases z
        exact ⟨rfl, _, _, rfl⟩
      · rw [upd_ne c] at z
        cases z
    · by_cases c : b = a
      · subst c
        rw [upd_same] at z
        cases z
        exact ⟨obj, small, vs, _, rel, obj⟩
      · rw [upd_ne c] at z
        cases z
/-- nothing is let out -/
theorem calmG {P : Program} {w : World} {K : PySem.W.Frag} {mg : Str → Option Value} {base : Heap} {lv : Nat} {f : Addr} {fd : FuncData} {ps : List Str} {sp : Sp} (F : FnOkG P w K mg base lv f fd ps sp) : FnOkG P w K mg base lv f fd ps (fun vs H Q _ => sp vs H Q fun _ _ _ => False) :=
  ⟨fun vs H Q E h => F.len _ _ _ _ h, fun A outer s H args us vs Q E hr hg he hb hv hs => codeAny_mono (F.run A outer s H args us vs Q _ hr hg he hb hv hs) fun r s2 z => by
    match r, z with
    | .error e, z =>
      obtain ⟨_, _, _, _, _, _, _, _, _, _, _, _, z⟩ := z
      exact z.elim
    | .ok (.ret u), z => exact z
    | .ok .next, z => exact z
    | .ok .brk, z => exact z
    | .ok .cont, z => exact z⟩
end PM

set_option Elab.async false
set_option linter.all false
set_option maxRecDepth 100000
set_option maxHeartbeats 2000000
/-! LE: the end of a law. -/
namespace PM
open PySem PySem.Spec L2
open PyProof.Rows hiding St
theorem den_intsB {Z : Wd} {H : Hp} {B : Addr → Prop} : ∀ (ns : List Int), DenL Z H B (ns.map .int) (ns.map V.int)
  | [] => .nil
  | n :: ns => .cons den_int (den_intsB ns)
theorem law_end {l : PySem.W.OpenLaw} {n lv k : Nat} {q : Program} {loose : List Str} {fn : List He.DefD} {td : TopD} {d0 : DefRec} {x : Str} {body : List S} {XP : (Str → Option Value) → Heap → Prop} 
    (hn : l.most = some n) (hn2 : n ≤ 63) (hdf : d0.params.defaults = []) (hr : Room lv callerA) (hname : d0.name = ("law" : Str)) {d : He.DefD} {i : Nat} (hi : fn[i]? = some d) (hd1 : d.dfl = []) (hd2 : d.kwd = []) (hat : d.at_ = (("law" : Str), none)) (hglo : ("law" : Str) ∈ td.glo)
    (hb : ∀ (kV doc pm : Value) (an : Option Addr) (cdv ct : Value) (us : List Value), us.length = [x].length → bindArgs (PySem.W.fnOf d.name d.qual d.params d.body d.scope .none kV doc pm an cdv ct) ⟨us, []⟩ = pure ([x].zip us))
    (plain : ∀ {is : List Int}, is.length ≤ 63 → (runF 1 k body [.lst (is.map .int)]).all fun r => r = .ok (.bl true))
    (F : ∀ (w : World) (K : PySem.W.Frag) (mg : Str → Option Value) (base : Heap), TopOk td K mg → He.SaysD [] fn K → Good l.prog w K mg base lv "law" [x] (runF 1 k body)) :
    PySem.W.WalkO q loose XP (He.hookX 6 [] fn [] [] td.ok).says l.row.toRowW d0 [] (fun f vs => PySem.call f vs) := by
  refine walk_ofG (l := l) (n := n) (k := lv) (x := x) hn (Nat.le_trans hn2 (by decide)) hdf hr (fun w mg fa h Y G hmg0 => ?_)
  obtain ⟨K, KX, c⟩ := Y
  have T : TopOk td K mg := topOk KX G c.more
  have D := c.t.d
  have hmg : mg ("law" : Str) = some (.ref fa) := by rw [← hname]; exact hmg0
  obtain ⟨fd, FD⟩ := D.def_ i hi
  have FD' := FD
  unfold He.DefD.dvs He.DefD.kws at FD'
  rw [hd1, hd2] at FD'
  have bind := FunD.bindsA FD' hb
  have ef : fa = He.fAd K d.at_ := by
    have e := T.glo _ hglo
    rw [hmg] at e
    rw [hat]
    cases e
    rfl
  refine ⟨K, fd, fun vs H Q _ => spF ⟨K, He.ga K⟩ (runF 1 k body) vs H Q fun _ _ _ => False, KX, fun s u => bind s [u] rfl, fun H a ns hl hS => ?_, fun base hB hN => ?_⟩
  · refine ⟨fun _ => False, [.lst (ns.map .int)], fun a z => z.elim, .cons ?_ .nil, ?_⟩
    · unfold Den
      exact ⟨a, ns.map V.int, rfl, LB.of (fun z => z) hS, den_intsB ns⟩
    · refine PM.T.mono' (plain (Nat.le_trans hl hn2)) fun r e => ?_
      subst e
      intro v H' _ q
      unfold Den at q
      exact q
  · obtain ⟨f, fd', h1, h2, h3, h4, ⟨oc, od, osl, lk⟩, h5⟩ := F w K mg base T D
    rw [hmg] at h1
    cases h1
    obtain ⟨oc2, od2, _, _, _, _, _, _, _, osl2, e2, lk2, _⟩ := FD.ex
    rw [← ef, lk] at lk2
    cases lk2
    exact calmG h5
end PM

set_option Elab.async false
set_option linter.all false
set_option maxRecDepth 100000
set_option maxHeartbeats 2000000
/-! LE2: the end of a law whose head tells of classes with a number. -/
namespace PM
open PySem PySem.Spec L2
open PyProof.Rows hiding St
/-- what the names reach in n steps, and the interpreter's own statics -/
def asY (g : Addr → Option Obj) (n : Nat) : List Addr := He.asD g n ++ [PySem.cStatics]
def obsY (n : Nat) (fn : List He.DefD) (ex : PySem.W.Frag → Bool) (g : Addr → Option Obj) : He.AlX := (He.obsT [] fn [] (He.frT g (asY g n)), ex (He.frT g (asY g n)))
theorem saysY_of {n : Nat} {fn : List He.DefD} {ex : PySem.W.Frag → Bool} {w : World} {h : Heap} (e : obsY n fn ex h.get? = He.valX fn [] w) : He.SaysX [] fn [] [] ex w h (He.frT h.get? (asY h.get? n)) := by
  have e1 : He.obsT [] fn [] (He.frT h.get? (asY h.get? n)) = He.valT fn [] w := congrArg (fun z : He.AlX => z.1) e
  have e2 : ex (He.frT h.get? (asY h.get? n)) = true := congrArg (fun z : He.AlX => z.2) e
  exact ⟨e1, e2, (fun _ z => nomatch z), (fun _ z => nomatch z), fun _ z => nomatch z⟩
def hookY (n : Nat) (fn : List He.DefD) (ex : PySem.W.Frag → Bool) : PySem.W.Hook where
  α := He.AlX
  obs := fun s => obsY n fn ex s.heap.get?
  val := fun w => He.valX fn [] w
  says := fun w h => ∃ K : PySem.W.Frag, K.In h ∧ He.SaysX [] fn [] [] ex w h K
  of := fun _ _ e => ⟨_, He.frT_in, saysY_of e⟩
  keeps := fun _ _ _ ⟨K, hK, c⟩ k => ⟨K, PySem.W.Frag.In.keeps hK k, ⟨c.t, c.more, c.hd, c.out, fun p hp => k _ _ (c.empty p hp)⟩⟩
theorem obsY_eq {n : Nat} {fn : List He.DefD} {ex : PySem.W.Frag → Bool} {g : Addr → Option Obj} {s : Shared} (h : ∀ a, g a = s.heap.get? a) : obsY n fn ex g = (hookY n fn ex).obs s := by
  have e : g = s.heap.get? := funext h
  rw [e] <;> rfl
theorem law_end2 {l : PySem.W.OpenLaw} {n lv k : Nat} {q : Program} {loose : List Str} {fn : List He.DefD} {td : TopD} {d0 : DefRec} {x : Str} {body : List S} {XP : (Str → Option Value) → Heap → Prop} 
    (hn : l.most = some n) (hn2 : n ≤ 63) (hdf : d0.params.defaults = []) (hr : Room lv callerA) (hname : d0.name = ("law" : Str)) {d : He.DefD} {i : Nat} (hi : fn[i]? = some d) (hd1 : d.dfl = []) (hd2 : d.kwd = []) (hat : d.at_ = (("law" : Str), none)) (hglo : ("law" : Str) ∈ td.glo)
    (hb : ∀ (kV doc pm : Value) (an : Option Addr) (cdv ct : Value) (us : List Value), us.length = [x].length → bindArgs (PySem.W.fnOf d.name d.qual d.params d.body d.scope .none kV doc pm an cdv ct) ⟨us, []⟩ = pure ([x].zip us))
    (plain : ∀ {is : List Int}, is.length ≤ 63 → (runF 1 k body [.lst (is.map .int)]).all fun r => r = .ok (.bl true))
    (F : ∀ (w : World) (K : PySem.W.Frag) (mg : Str → Option Value) (base : Heap), TopOk td K mg → NumOk td K → He.SaysD [] fn K → Good l.prog w K mg base lv "law" [x] (runF 1 k body)) :
    PySem.W.WalkO q loose XP (hookY 6 fn td.ok2).says l.row.toRowW d0 [] (fun f vs => PySem.call f vs) := by
  refine walk_ofG (l := l) (n := n) (k := lv) (x := x) hn (Nat.le_trans hn2 (by decide)) hdf hr (fun w mg fa h Y G hmg0 => ?_)
  obtain ⟨K, KX, c⟩ := Y
  obtain ⟨c0, N⟩ := numOk c.more
  have T : TopOk td K mg := topOk KX G c0
  have D := c.t.d
  have hmg : mg ("law" : Str) = some (.ref fa) := by rw [← hname]; exact hmg0
  obtain ⟨fd, FD⟩ := D.def_ i hi
  have FD' := FD
  unfold He.DefD.dvs He.DefD.kws at FD'
  rw [hd1, hd2] at FD'
  have bind := FunD.bindsA FD' hb
  have ef : fa = He.fAd K d.at_ := by
    have e := T.glo _ hglo
    rw [hmg] at e
    rw [hat]
    cases e
    rfl
  refine ⟨K, fd, fun vs H Q _ => spF ⟨K, He.ga K⟩ (runF 1 k body) vs H Q fun _ _ _ => False, KX, fun s u => bind s [u] rfl, fun H a ns hl hS => ?_, fun base hB hN => ?_⟩
  · refine ⟨fun _ => False, [.lst (ns.map .int)], fun a z => z.elim, .cons ?_ .nil, ?_⟩
    · unfold Den
      exact ⟨a, ns.map V.int, rfl, LB.of (fun z => z) hS, den_intsB ns⟩
    · refine PM.T.mono' (plain (Nat.le_trans hl hn2)) fun r e => ?_
      subst e
      intro v H' _ q
      unfold Den at q
      exact q
  · obtain ⟨f, fd', h1, h2, h3, h4, ⟨oc, od, osl, lk⟩, h5⟩ := F w K mg base T N D
    rw [hmg] at h1
    cases h1
    obtain ⟨oc2, od2, _, _, _, _, _, _, _, osl2, e2, lk2, _⟩ := FD.ex
    rw [← ef, lk] at lk2
    cases lk2
    exact calmG h5
end PM

set_option Elab.async false
set_option linter.all false
set_option maxRecDepth 100000
set_option exponentiation.threshold 10000
set_option maxHeartbeats 2000000
/-! k02: the law. -/
namespace PM
open PySem PySem.Spec L2
open PyProof.Rows hiding St

def Ae (n : Nat) (x : D) : Prop := TmsOk x ∧ (tmB n x = true → ∃ t : Tm, x = encT t)
def Al (n : Nat) (d : D) : Prop := ∃ ds, d = .lst ds ∧ ds.length ≤ 500 ∧ ∀ x ∈ ds, Ae n x
theorem Al.pl {n : Nat} {d : D} (h : Al n d) : PlOk n d := by
  obtain ⟨ds, rfl, l, a⟩ := h
  exact ⟨rfl, fun ds e => by cases e; exact ⟨by omega, a⟩⟩
theorem fr_enc {a b : Int} (h : isFr (.tup [.int a, .int b]) = true) : ∃ q : Rat, D.tup [.int a, .int b] = encR q := by
  have h : (decide (0 < b) && decide (Int.gcd a b = 1)) = true := h
  rw [Bool.and_eq_true, decide_eq_true_iff, decide_eq_true_iff] at h
  obtain ⟨h1, h2⟩ := h
  obtain ⟨k, rfl⟩ := Int.eq_ofNat_of_zero_le (Int.le_of_lt h1)
  refine ⟨⟨a, k, by omega, ?_⟩, rfl⟩
  unfold Nat.Coprime
  rw [← h2]
  unfold Int.gcd
  rw [Int.natAbs_natCast]
def moreD (t : Tm) : D := .tup [.pw t.1, .tup [.int (t.2.num + t.2.den), .int t.2.den]]
theorem ae_more {n : Nat} {t : Tm} (h : t.1.length ≤ 1000) (s : sz 4000 t.2) : Ae n (moreD t) := by
  have b : (2 : Nat) ^ 4000 ≤ 2 ^ 4002 := Nat.pow_le_pow_right (by omega) (by omega)
  refine ⟨⟨rfl, fun _ z => (by cases z), fun a b' e => ?_⟩, fun z => ?_⟩
  · cases e
    exact ⟨pws_pw h, by rw [int_kd2 rfl rfl, fbnd_i (by rw [Int.natAbs_natCast]; have := s.2; omega)]; rfl⟩
  · have z : (pwB n (.pw t.1) && isFr (.tup [.int (t.2.num + t.2.den), .int t.2.den])) = true := z
    rw [Bool.and_eq_true] at z
    obtain ⟨q, e⟩ := fr_enc z.2
    exact ⟨(t.1, q), by unfold moreD; rw [e]; rfl⟩
theorem ae_enc {n : Nat} {t : Tm} (h : t.1.length ≤ 1000) (s : sz 4000 t.2) : Ae n (encT t) := by
  refine ⟨⟨rfl, fun _ z => (by cases z), fun a b e => ?_⟩, fun _ => ⟨t, rfl⟩⟩
  cases e
  exact ⟨pws_pw h, by rw [kd2_R, fbnd_R s]; rfl⟩
theorem Dr.ae {n : Nat} {ts : List Tm} (h : Dr n ts) : ∀ x ∈ ts.map encT, Ae n x := fun x hx => by
  obtain ⟨t, ht, rfl⟩ := List.mem_map.mp hx
  exact ae_enc (by rw [(h.ok t ht).1]; have := h.n9; omega) (sz_of (by have := lg_tot ht; have := h.tot; omega))
theorem cut_memK {xs : List D} {lo hi : Option Int} {x : D} (h : x ∈ cutD xs lo hi) : x ∈ xs := List.mem_of_mem_drop (List.mem_of_mem_take h)
theorem cut_lenK (xs : List D) (lo hi : Option Int) : (cutD xs lo hi).length ≤ xs.length := by
  unfold cutD
  rw [List.length_take, List.length_drop]
  omega
theorem uA_l {a b : List D} (h : a.length + b.length ≤ 1000) : uAdd (.lst a) (.lst b) = .fresh (.lst (a ++ b)) := by
  rw [uAdd_lst, if_pos (by unfold lineMax; omega)]
def cutTm (xs : List Tm) (lo hi : Option Int) : List Tm := (xs.drop (HT.sIx xs.length 0 lo)).take (HT.sIx xs.length xs.length hi - HT.sIx xs.length 0 lo)
theorem cutD_map (xs : List Tm) (lo hi : Option Int) : cutD (xs.map encT) lo hi = (cutTm xs lo hi).map encT := by
  unfold cutD cutTm
  rw [List.length_map, List.map_take, List.map_drop]
theorem cutTm_mem {xs : List Tm} {lo hi : Option Int} {t : Tm} (h : t ∈ cutTm xs lo hi) : t ∈ xs := List.mem_of_mem_drop (List.mem_of_mem_take h)
/-! ### bent lists asked -/
theorem Bent.al {n : Nat} {ds : List D} (n9 : n ≤ 100) (h : Bent n ds) : ds.length ≤ 40 ∧ ∀ x ∈ ds, Ae n x ∧ Lay 6 x := by
  obtain ⟨a, x, b, rfl, th, oa, ob, la, lb, _, ta, tb⟩ := h
  refine ⟨by simp; omega, fun y hy => ?_⟩
  simp only [List.mem_append, List.mem_singleton] at hy
  rcases hy with (hy | rfl) | hy
  · obtain ⟨t, ht, rfl⟩ := List.mem_map.mp hy
    exact ⟨ae_enc (by rw [(oa t ht).1]; omega) (sz_of (by have := lg_tot ht; omega)), (lay_T 4 t)⟩
  · exact ⟨⟨th.ok, fun z => by obtain ⟨t, e, _⟩ := th.enc z; exact ⟨t, e⟩⟩, th.lay⟩
  · obtain ⟨t, ht, rfl⟩ := List.mem_map.mp hy
    exact ⟨ae_enc (by rw [(ob t ht).1]; omega) (sz_of (by have := lg_tot ht; omega)), (lay_T 4 t)⟩
theorem pwB_ok {n : Nat} {t : Tm} (h : tmB n (encT t) = true) : t.1.length = n ∧ ∀ i ∈ t.1, 0 ≤ i := by
  have h : (decide (t.1.length = n) && t.1.all (fun i => decide (0 ≤ i)) && isFr (encR t.2)) = true := h
  rw [Bool.and_eq_true, Bool.and_eq_true, decide_eq_true_iff, List.all_eq_true] at h
  exact ⟨h.1.1, fun i hi => of_decide_eq_true (h.1.2 i hi)⟩
theorem Bent.py {n : Nat} {ds : List D} (n1 : 1 ≤ n) (n9 : n ≤ 100) (h : Bent n ds) (y : List D) (ly : y.length ≤ 2) (hy : ∀ x ∈ y, Ae n x ∧ tmB n x = false) : PyOk n (.lst (ds ++ y)) := by
  have al := h.al n9
  refine ⟨Al.pl ⟨_, rfl, by rw [List.length_append]; omega, fun x hx => ?_⟩, fun ds' e good => ?_⟩
  · rcases List.mem_append.mp hx with z | z
    · exact (al.2 x z).1
    · exact (hy x z).1
  · cases e
    have y0 : y = [] := by
      cases y with
      | nil => rfl
      | cons d y =>
        have := good d (by simp)
        rw [(hy d List.mem_cons_self).2] at this
        cases this
    subst y0
    rw [List.append_nil] at good ⊢
    obtain ⟨a, x, b, rfl, th, oa, ob, la, lb, lab, ta, tb⟩ := h
    have gx := good x (by simp)
    obtain ⟨t, rfl, lt⟩ := th.enc gx
    have ot := pwB_ok gx
    refine ⟨a ++ [t] ++ b, by simp, ?_⟩
    refine Dr.g (n := n) ⟨n1, n9, fun s hs => ?_, by simp; omega, ?_⟩
    · simp only [List.mem_append, List.mem_singleton] at hs
      rcases hs with (hs | rfl) | hs
      · exact oa s hs
      · exact ot
      · exact ob s hs
    · rw [tot_app, tot_app]
      have : tot [t] = lg t.2 + 1 := by rw [tot_cons]; simp [tot]
      omega
/-! ### what is drawn -/
structure D0 (n : Nat) (ts : List Tm) : Prop where
  dr : Dr n ts
  len : ts.length ≤ 14
  tot : tot ts ≤ 300
theorem last_P {l : List Tm} (h : l ≠ []) : atD (l.map encT) (-1) = .ok (encT (l.getLast h)) := by
  have hl := List.length_pos_iff.mpr h
  unfold atD atI ixN
  rw [List.length_map, if_neg (by omega), if_pos (by omega)]
  have e : ((-1 : Int) + (l.length : Int)).toNat = l.length - 1 := by omega
  rw [Option.bind_some, e, List.getElem?_map, List.getElem?_eq_getElem (by omega)]
  dsimp only [Option.map_some]
  rw [List.getLast_eq_getElem]
abbrev N__law_pool : List Str := ["_law_script", "_law_k", "_law_cell", "_law_number"]
noncomputable def B__law_pool : List S := B_poolA 7919 11 48271 2147483629 2147483647 2147483587
abbrev N__law_take : List Str := ["_law_pool_here", "_law_many", "_law_found"]
noncomputable def B__law_take : List S := B_take 39373 48271 2147483647 2147483629
noncomputable def C_law_0 : E := (.not (.call "_law_term" F._law_term [.v 3, .v 6]))
noncomputable def C_law_1 : E := (.tup [.v 10, .tup [.bin .Add uAdd (.ix ixU (.v 11) (.c (.int 0))) (.ix ixU (.v 11) (.c (.int 1))), .ix ixU (.v 11) (.c (.int 1))]])
noncomputable def L_law_1 : List S := [.ifs (.not (.call "_law_same" F._law_same [.call "is_poly" F.is_poly [.v 3, .v 13], .call "_law_poly" F._law_poly [.v 3, .v 13]])) [.ret (.c (.bl false))] []]
noncomputable def L_law_0 : List S := [.set 2 (.call "_law_pool" F._law_pool [.v 0, .v 1]), .frz 2, .set 3 (.bin .Add uAdd (.c (.int 1)) (.call "_law_take" F._law_take [.v 2, .c (.int 8)])), .set 4 (.call "_law_terms" F._law_terms [.v 2, .v 3, .c (.int 12), .ix ixU (.lst [.c (.int 2), .bin .FloorDiv divI (.c (.int 24)) (.v 3)]) (.call "_law_take" F._law_take [.v 2, .c (.int 2)])]), .ifs (.cmp .NotEq neD (.v 4) (.lst [])) [.mut 4 "append" appD [.ix ixU (.lst [.ix ixU (.v 4) (.c (.int 0)), .tup [.ix ixU (.ix ixU (.v 4) (.c (.int 0))) (.c (.int 0)), .tup [.bin .Sub subI (.c (.int 0)) (.ix ixU (.ix ixU (.ix ixU (.v 4) (.c (.int 0))) (.c (.int 1))) (.c (.int 0))), .ix ixU (.ix ixU (.ix ixU (.v 4) (.c (.int 0))) (.c (.int 1))) (.c (.int 1))]]]) (.call "_law_take" F._law_take [.v 2, .c (.int 2)])], .mut 4 "insert" insD [.call "_law_take" F._law_take [.v 2, .call "len" (opc lenD) [.v 4]], .tup [.ix ixU (.ix ixU (.v 4) (.un .USub negI (.c (.int 1)))) (.c (.int 0)), .tup [.c (.int 0), .c (.int 1)]]]] [], .frz 4, .ifs (.not (.call "_law_told" F._law_told [.v 3, .v 4])) [.ret (.c (.bl false))] [], .frz 4, .set 5 (.call "_law_bent" F._law_bent [.v 2, .v 3, .ix ixU (.lst [.v 4, .call "_law_made" F._law_made2 [.v 4]]) (.call "_law_take" F._law_take [.v 2, .c (.int 2)])]), .frz 5, .frz 4, .set 5 (.bin .Add uAdd (.v 5) (.bin .Mult uMul (.lst [.ix ixU (.lst [.c .non, .tup [.c (.int 1)], .v 4]) (.call "_law_take" F._law_take [.v 2, .c (.int 3)])]) (.call "_law_take" F._law_take [.v 2, .c (.int 2)]))), .frz 5, .ifs (.not (.call "_law_same" F._law_same [.call "is_poly" F.is_poly [.v 3, .v 5], .call "_law_poly" F._law_poly [.v 3, .v 5]])) [.ret (.c (.bl false))] [], .ifs (.and (.cmp .NotEq neD (.lc (.nm 6) .ex itU [.v 5] C_law_0 (.v 6) [("_law_term_here", 6)]) (.lst [])) (.not (.call "_law_refused" F._law_refused [.v 3, .v 5]))) [.ret (.c (.bl false))] [], .frz 4, .set 7 (.call "_law_made" F._law_made2 [.v 4]), .frz 7, .set 8 (.call "_law_take" F._law_take [.v 2, .call "max" (opc maxD) [.c (.int 1), .call "len" (opc lenD) [.v 7]]]), .frz 8, .set 9 (.lc (.tp [.nm 10, .nm 11]) .ex itU [.sl slU (.v 7) (.v 8) (.bin .Add uAdd (.v 8) (.c (.int 1)))] (.c (.bl true)) C_law_1 [("_law_powers_here", 10), ("_law_share_here", 11)]), .frz 9, .set 12 (.lst [.bin .Add uAdd (.bin .Add uAdd (.sl slU (.v 7) (.c .non) (.v 8)) (.v 9)) (.sl slU (.v 7) (.v 8) (.c .non)), .bin .Add uAdd (.bin .Add uAdd (.sl slU (.v 7) (.c .non) (.bin .Add uAdd (.v 8) (.c (.int 1)))) (.v 9)) (.sl slU (.v 7) (.bin .Add uAdd (.v 8) (.c (.int 1))) (.c .non))]), .frz 12, .for_ (.nm 13) .ex itU [.bin .Add uAdd (.lst [.ss (-1) (.v 7), .bin .Add uAdd (.sl slU (.v 7) (.c .non) (.c (.int 1))) (.v 7), .bin .Add uAdd (.bin .Add uAdd (.sl slU (.v 7) (.c (.int 1)) (.c (.int 2))) (.sl slU (.v 7) (.c .non) (.c (.int 1)))) (.sl slU (.v 7) (.c (.int 2)) (.c .non))]) (.v 12)] L_law_1, .set 14 (.ix ixU (.lst [.c .non, .call "tuple" (opc tupleD) [.v 4], .dnew (.dT [] []), .c (.str "x"), .c (.int 0), .c (.bl true)]) (.call "_law_take" F._law_take [.v 2, .c (.int 6)])), .frz 4, .ifs (.or (.cmp .IsNot nisD (.call "is_poly" F.is_poly [.v 3, .v 14]) (.c (.bl false))) (.or (.not (.call "_law_refused" F._law_refused [.v 3, .v 14])) (.not (.call "_law_told" F._law_told [.v 3, .v 4])))) [.ret (.c (.bl false))] []]
abbrev N_law : List Str := ["_law_script", "_law_k", "_law_pool_here", "_law_n", "_law_terms_here", "_law_bent_here", "_law_term_here", "_law_good", "_law_at", "_law_more", "_law_powers_here", "_law_share_here", "_law_others", "_law_some", "_law_odd"]
noncomputable def B_law : List S := [.for_ (.nm 1) (.cl "range" 1) itRng1 [.call "max" (opc maxD) [.c (.int 1), .call "min" (opc minD) [.call "len" (opc lenD) [.v 0], .c (.int 12)]]] L_law_0, .ret (.c (.bl true))]
def Rest (is : List Int) (r : RS) : Prop := ∃ (c1 c2 c3 c4 c5 c6 c7 c8 c9 c10 c11 c12 c13 c14 : Sl), r = .next [.val (.lst (is.map .int)), c1, c2, c3, c4, c5, c6, c7, c8, c9, c10, c11, c12, c13, c14]

theorem law_draw {is : List Int} {k n : Nat} {c4 c5 c6 c7 c8 c9 c10 c11 c12 c13 c14 : Sl} (hn : 1 ≤ n ∧ n ≤ 8) (hi4 : ∀ n' : Nv, True) : True := trivial
theorem law_turn {is : List Int} {k : Nat} {c2 c3 c4 c5 c6 c7 c8 c9 c10 c11 c12 c13 c14 : Sl} (hl : is.length ≤ 63) (hk : k < 64) : (exs L_law_0 [.val (.lst (is.map .int)), .val (.int k), c2, c3, c4, c5, c6, c7, c8, c9, c10, c11, c12, c13, c14]).all (Rest is) := by
  have ep := F.pool_eq (k := k) hl hk
  have tk8 := F.take_eq (m := 8) (by omega) (by decide)
  have tk2 := F.take_eq (m := 2) (by omega) (by decide)
  have tk3 := F.take_eq (m := 3) (by omega) (by decide)
  have tk6 := F.take_eq (m := 6) (by omega) (by decide)
  have p10 : (2 : Nat) ^ 10 ≤ 2 ^ 8000 := Nat.pow_le_pow_right (by omega) (by omega)
  unfold L_law_0
  rw [← AllS_eq]
  refine as_next (n' := [.val (.lst (is.map .int)), .val (.int k), .val .pool, c3, c4, c5, c6, c7, c8, c9, c10, c11, c12, c13, c14]) (by simp [ep]) ?_
  refine as_next (n' := [.val (.lst (is.map .int)), .val (.int k), .val .pool, c3, c4, c5, c6, c7, c8, c9, c10, c11, c12, c13, c14]) (by simp [frzK, Nv.ownOf]) ?_
  refine as_mid (fun n' => ∃ n : Nat, (1 ≤ n ∧ n ≤ 8) ∧ n' = [.val (.lst (is.map .int)), .val (.int k), .val .pool, .val (.int n), c4, c5, c6, c7, c8, c9, c10, c11, c12, c13, c14]) ?_ fun n' ⟨n, ⟨n1, n8⟩, e⟩ => ?_
  · simp [tk8]
    intro i hi hi2
    exact ⟨1 + i.toNat, by omega, by
      have : ((1 + i.toNat : Nat) : Int) = 1 + i := by omega
      simp [Int.toNat_of_nonneg hi]⟩
  subst e
  have dv := div_small (a := 24) (b := (n : Int)) (by omega) (by omega)
  have d0 : 0 ≤ (24 : Int).fdiv n ∧ (24 : Int).fdiv n ≤ 24 := by
    rw [Int.fdiv_eq_ediv_of_nonneg _ (by omega)]
    exact ⟨Int.ediv_nonneg (by omega) (by omega), Int.ediv_le_self _ (by omega)⟩
  refine as_mid (fun n' => ∃ ts : List Tm, (ts.length ≤ 12 ∧ TOk n ts ∧ tot ts ≤ 252 ∧ ∀ t ∈ ts, lg t.2 ≤ 20) ∧ n' = [.val (.lst (is.map .int)), .val (.int k), .val .pool, .val (.int n), .own (encP ts), c5, c6, c7, c8, c9, c10, c11, c12, c13, c14]) ?_ fun n' ⟨ts, ⟨tl, tok, tt, tl20⟩, e⟩ => ?_
  · simp [tk2, dv]
    intro m hm hm2
    obtain ⟨hi, e, h0, h1⟩ : ∃ hi : Int, atD [D.int 2, .int ((24 : Int).fdiv n)] m = .ok (.int hi) ∧ 0 ≤ hi ∧ hi ≤ 100 := by
      have hm3 : m = 0 ∨ m = 1 := by omega
      rcases hm3 with rfl | rfl
      · exact ⟨2, rfl, by omega, by omega⟩
      · exact ⟨_, rfl, d0.1, by omega⟩
    simp [e]
    repeat rw [T.all_bind]
    refine (F.terms_all (n := (n : Int)) (most := 12) (high := hi) ⟨by omega, by omega, by omega, by omega, h0, h1⟩).mpr fun ts hl ok => ?_
    rw [Int.toNat_natCast] at ok
    have t1 := tot_drawn ok
    simp
    exact ⟨ts, ⟨by omega, tok_drawn ok, by omega, fun w q ht => (ok (w, q) ht).2.2.lg⟩, rfl⟩
  subst e
  refine as_mid (fun n' => ∃ ts : List Tm, D0 n ts ∧ n' = [.val (.lst (is.map .int)), .val (.int k), .val .pool, .val (.int n), .own (encP ts), c5, c6, c7, c8, c9, c10, c11, c12, c13, c14]) ?_ fun n' ⟨ts, h0, e⟩ => ?_
  · by_cases ne : ts = []
    · subst ne
      have dd : D0 n [] := ⟨⟨n1, by omega, tok, by simp, by simp [tot]⟩, by simp, by simp [tot]⟩
      simp [encP_nil, Nv.ownOf]
      first | exact ⟨[], dd, rfl⟩ | exact dd
    · have lp : 0 < ts.length := List.length_pos_iff.mpr ne
      obtain ⟨t0, m0, x0⟩ : ∃ t0, t0 ∈ ts ∧ ixU (encP ts) (.int 0) = .pure (.ok (encT t0)) := ⟨ts[0], List.getElem_mem lp, by
        show T.pure (atD (ts.map encT) _) = _
        have := atD_nat (k := 0) (ds := ts.map encT) (d := encT ts[0]) (by rw [List.getElem?_map, List.getElem?_eq_getElem lp]; rfl)
        rw [show (0 : Int) = ((0 : Nat) : Int) from rfl, this]⟩
      have y0 : ixU (encT t0) (.int 0) = .pure (.ok (.pw t0.1)) := by
        show T.pure (atD _ _) = _
        rw [atD_0]
      have y1 : ixU (encT t0) (.int 1) = .pure (.ok (encR t0.2)) := by
        show T.pure (atD _ _) = _
        rw [atD_1]
      have z0 : ixU (encR t0.2) (.int 0) = .pure (.ok (.int t0.2.num)) := by
        show T.pure (atD _ _) = _
        rw [atD_0]
      have z1 : ixU (encR t0.2) (.int 1) = .pure (.ok (.int t0.2.den)) := by
        show T.pure (atD _ _) = _
        rw [atD_1]
      simp [encP_nil, ne, x0, y0, y1, z0, z1, tk2, Nv.ownOf, T.mut, T.vals]
      intro m hm0
      obtain ⟨hm, hm2⟩ := hm0
      obtain ⟨t1, e1, w1, l1⟩ : ∃ t1 : Tm, atD [encT t0, .tup [.pw t0.1, .tup [.int (-t0.2.num), .int t0.2.den]]] m = .ok (encT t1) ∧ t1.1 = t0.1 ∧ lg t1.2 = lg t0.2 := by
        have hm3 : m = 0 ∨ m = 1 := by omega
        rcases hm3 with rfl | rfl
        · exact ⟨t0, rfl, rfl, rfl⟩
        · exact ⟨(t0.1, -t0.2), rfl, rfl, lg_neg _⟩
      have ap := appL_P (ts := ts) t1 (by omega)
      have lt := lg_tot m0
      have ll : lenD [encP (ts ++ [t1])] = .ok (.int ((ts.length : Int) + 1)) := by
        show R.ok (.int ((((ts ++ [t1]).map encT).length : Nat) : Int)) = _
        rw [List.length_map, List.length_append]
        rfl
      have tkL := F.take_eq (m := (ts.length : Int) + 1) (by omega) (by omega)
      have lst : ixU (encP (ts ++ [t1])) (.int (-1)) = .pure (.ok (encT t1)) := by
        show T.pure (atD ((ts ++ [t1]).map encT) _) = _
        rw [last_P (by simp), List.getLast_append]
        simp
      have v0 : ixU (encT t1) (.int 0) = .pure (.ok (.pw t1.1)) := by
        show T.pure (atD _ _) = _
        rw [atD_0]
      have inz : insD (encP (ts ++ [t1])) = some fun ds => (insL ((ts ++ [t1]).map encT) ds).map .lst := rfl
      have fl : ∀ x : Int, flat (D.int x) = true := fun _ => rfl
      have lL : (ts ++ [t1]).length = ts.length + 1 := by simp
      generalize hL : ts ++ [t1] = L at ap ll lst inz lL
      simp [e1, app_P, ap, ll, tkL, lst, v0, inz, fl, Nv.ownOf, T.mut, T.vals]
      intro i hi hi2
      have lm : (L.map encT).length < lineMax ∧ 0 ≤ i ∧ i < 9223372036854775808 := ⟨by unfold lineMax; rw [List.length_map]; omega, hi, by omega⟩
      have inl : insL (L.map encT) [.int i, .tup [.pw t1.1, .tup [.int 0, .int 1]]] = some ((L.map encT).take i.toNat ++ [encT (t1.1, 0)] ++ (L.map encT).drop i.toNat) := by
        unfold insL
        dsimp only
        rw [if_pos lm]
        rfl
      simp [inl]
      rw [← List.map_take, ← List.map_drop]
      have eP : D.lst ((L.take i.toNat).map encT ++ encT (t1.1, 0) :: (L.drop i.toNat).map encT) = encP (L.take i.toNat ++ [(t1.1, 0)] ++ L.drop i.toNat) := by
        unfold encP
        simp
      rw [eP, ← hL]
      refine ⟨(ts ++ [t1]).take i.toNat ++ [(t1.1, 0)] ++ (ts ++ [t1]).drop i.toNat, ?_, ?_⟩
      · have ok1 : TOk n (ts ++ [t1]) := fun t ht => by
          rcases List.mem_append.mp ht with z | z
          · exact tok t z
          · rw [List.mem_singleton.mp z, w1]; exact tok t0 m0
        have ok2 : TOk n ((ts ++ [t1]).take i.toNat ++ [(t1.1, 0)] ++ (ts ++ [t1]).drop i.toNat) := fun t ht => by
          simp only [List.mem_append, List.mem_singleton] at ht
          rcases ht with (z | rfl) | z
          · exact ok1 t (by have := List.mem_of_mem_take z; simpa using this)
          · show t1.1.length = n ∧ _
            rw [w1]; exact tok t0 m0
          · exact ok1 t (by have := List.mem_of_mem_drop z; simpa using this)
        have l2 : ((ts ++ [t1]).take i.toNat ++ [(t1.1, (0 : Rat))] ++ (ts ++ [t1]).drop i.toNat).length = ts.length + 2 := by
          simp only [List.length_append, List.length_take, List.length_drop, List.length_singleton]
          omega
        have t2 : tot ((ts ++ [t1]).take i.toNat ++ [(t1.1, (0 : Rat))] ++ (ts ++ [t1]).drop i.toNat) ≤ 300 := by
          have a := tot_app ((ts ++ [t1]).take i.toNat) ((ts ++ [t1]).drop i.toNat)
          rw [List.take_append_drop] at a
          have b := tot_app ts [t1]
          have c : tot [t1] = lg t1.2 + 1 := by rw [tot_cons]; simp [tot]
          have d : tot [((t1.1, 0) : Tm)] = lg 0 + 1 := by rw [tot_cons]; simp [tot]
          have l0 : lg 0 ≤ 10 := by decide
          have bb := tl20 t0 m0
          rw [tot_app, tot_app, d]
          omega
        exact ⟨⟨n1, by omega, ok2, by omega, by omega⟩, by omega, t2⟩
      · rfl
  subst e
  have e1 := F.told_g h0.dr
  have gk := h0.dr.norm
  have em : F._law_made2 [encP ts] = .pure (.fresh (encP (norm ts))) := F.gathered_e h0.dr.g
  have l0 := h0.len
  have t0 := h0.tot
  have lg0 := len_norm h0.dr.ok
  have tg0 := tot_norm h0.dr.ok
  refine as_next (n' := [.val (.lst (is.map .int)), .val (.int k), .val .pool, .val (.int n), .val (encP ts), c5, c6, c7, c8, c9, c10, c11, c12, c13, c14]) (by simp [frzK, Nv.ownOf]) ?_
  refine as_next (n' := [.val (.lst (is.map .int)), .val (.int k), .val .pool, .val (.int n), .val (encP ts), c5, c6, c7, c8, c9, c10, c11, c12, c13, c14]) (by simp [e1]) ?_
  refine as_next (n' := [.val (.lst (is.map .int)), .val (.int k), .val .pool, .val (.int n), .val (encP ts), c5, c6, c7, c8, c9, c10, c11, c12, c13, c14]) (by simp [frzK, Nv.ownOf]) ?_
  have bent : ∀ {us : List Tm}, D0 n us → (F._law_bent [.pool, .int n, encP us]).all (BentR n) := fun {us} h => by
    by_cases z : us = []
    · subst z; exact bent_nil n1 (by omega)
    · exact bent_some h.dr h.len h.tot z
  have hg0 : D0 n (norm ts) := ⟨gk, by omega, by omega⟩
  refine as_mid (fun n' => ∃ ds, Bent n ds ∧ ∃ c, (c = .val (.lst ds) ∨ c = .own (.lst ds)) ∧ n' = [.val (.lst (is.map .int)), .val (.int k), .val .pool, .val (.int n), .val (encP ts), c, c6, c7, c8, c9, c10, c11, c12, c13, c14]) ?_ fun n' ⟨ds, hb, c, hc, e⟩ => ?_
  · simp [em, tk2]
    intro m hm hm2
    have key : ∀ us : List Tm, D0 n us → atD [encP ts, encP (norm ts)] m = .ok (encP us) → True := fun _ _ _ => trivial
    obtain ⟨us, hu, eu⟩ : ∃ us, D0 n us ∧ atD [encP ts, encP (norm ts)] m = .ok (encP us) := by
      have hm3 : m = 0 ∨ m = 1 := by omega
      rcases hm3 with rfl | rfl
      · exact ⟨ts, h0, rfl⟩
      · exact ⟨norm ts, hg0, rfl⟩
    simp [eu]
    repeat rw [T.all_bind]
    refine T.mono (fun r hr => ?_) (bent hu)
    obtain ⟨ds, hr | hr, hb⟩ := hr
    · subst hr
      simp
      exact hb
    · subst hr
      simp
      exact hb
  subst e
  refine as_next (n' := [.val (.lst (is.map .int)), .val (.int k), .val .pool, .val (.int n), .val (encP ts), .val (.lst ds), c6, c7, c8, c9, c10, c11, c12, c13, c14]) (by rcases hc with rfl | rfl <;> simp [frzK, Nv.ownOf]) ?_
  refine as_next (n' := [.val (.lst (is.map .int)), .val (.int k), .val .pool, .val (.int n), .val (encP ts), .val (.lst ds), c6, c7, c8, c9, c10, c11, c12, c13, c14]) (by simp [frzK, Nv.ownOf]) ?_
  have al := hb.al (by omega)
  refine as_mid (fun n' => ∃ y : List D, (y.length ≤ 1 ∧ ∀ x ∈ y, (Ae n x ∧ tmB n x = false) ∧ Lay 6 x) ∧ n' = [.val (.lst (is.map .int)), .val (.int k), .val .pool, .val (.int n), .val (encP ts), .own (.lst (ds ++ y)), c6, c7, c8, c9, c10, c11, c12, c13, c14]) ?_ fun n' ⟨y, ⟨y1, ya⟩, e⟩ => ?_
  · simp [tk3]
    intro m hm hm2
    obtain ⟨x, ex, ax⟩ : ∃ x, atD [D.non, .tup [.int 1], encP ts] m = .ok x ∧ (Ae n x ∧ tmB n x = false) ∧ Lay 6 x := by
      have hm3 : m = 0 ∨ m = 1 ∨ m = 2 := by omega
      rcases hm3 with rfl | rfl | rfl
      · exact ⟨_, rfl, ⟨⟨⟨rfl, fun _ z => (by cases z), fun _ _ z => (by cases z)⟩, fun z => (by cases z)⟩, rfl⟩, lay_non _⟩
      · exact ⟨_, rfl, ⟨⟨⟨rfl, fun _ z => (by cases z), fun _ _ z => (by cases z)⟩, fun z => (by cases z)⟩, rfl⟩, lay_tup fun d hd => by
          simp at hd
          subst hd
          exact lay_int _ _⟩
      · exact ⟨_, rfl, ⟨⟨⟨rfl, fun _ z => (by cases z), fun _ _ z => (by cases z)⟩, fun z => (by cases z)⟩, rfl⟩, lay_lst fun d hd => by
          obtain ⟨t, _, rfl⟩ := List.mem_map.mp hd
          exact lay_T 3 t⟩
    simp [ex, tk2]
    intro j hj hj2
    have um := uMul_lst (ds := [x]) (k := j) (by simp) (by omega) (by omega)
    have ua := uA_l (a := ds) (b := (List.replicate j.toNat [x]).flatten) (by simp; omega)
    simp at um ua
    simp [um, ua]
    have hj3 : j = 0 ∨ j = 1 := by omega
    rcases hj3 with rfl | rfl
    · exact ⟨by omega, fun z => absurd z (by omega)⟩
    · exact ⟨by omega, fun _ => ax⟩
  subst e
  refine as_next (n' := [.val (.lst (is.map .int)), .val (.int k), .val .pool, .val (.int n), .val (encP ts), .val (.lst (ds ++ y)), c6, c7, c8, c9, c10, c11, c12, c13, c14]) (by simp [frzK, Nv.ownOf]) ?_
  have py := hb.py n1 (by omega) y (by omega) fun x hx => (ya x hx).1
  have pg := F.poly_g py.pl
  have lpg := F.lpoly_g py.pl
  refine as_next (n' := [.val (.lst (is.map .int)), .val (.int k), .val .pool, .val (.int n), .val (encP ts), .val (.lst (ds ++ y)), c6, c7, c8, c9, c10, c11, c12, c13, c14]) (by simp [pg, lpg]) ?_
  have aly : ∀ x ∈ ds ++ y, Ae n x ∧ Lay 6 x := fun x hx => by
    rcases List.mem_append.mp hx with z | z
    · exact al.2 x z
    · exact ⟨(ya x z).1.1, (ya x z).2⟩
  have lby : (ds ++ y).length ≤ 50 := by rw [List.length_append]; omega
  generalize ds ++ y = us at py pg lpg aly lby ⊢
  have lcb : RL.lc itU (turn (.nm 6) [.val (.lst (is.map .int)), .val (.int k), .val .pool, .val (.int n), .val (encP ts), .val (.lst us), .emp, c7, c8, c9, c10, c11, c12, c13, c14] (fun n' => evT C_law_0 n') fun n' => ev (.v 6) n') (.ok [.lst us] false) = .pure (.fresh (.lst (us.filterMap fun x => if tmB n x = true then none else some x))) := by
    have q := lcL_fm (f := turn (.nm 6) [.val (.lst (is.map .int)), .val (.int k), .val .pool, .val (.int n), .val (encP ts), .val (.lst us), .emp, c7, c8, c9, c10, c11, c12, c13, c14] (fun n' => evT C_law_0 n') fun n' => ev (.v 6) n') (e := fun x : D => x) (g := fun x => if tmB n x = true then none else some x) (l := us) fun x hx => by
      have tn : ∀ (i : Nat) (n : Nv) (c : Nv → T RT) (e : Nv → T R) (d : D), turn (.nm i) n c e d = T.keep (c (n.set i (.val d))) (e (n.set i (.val d))) := fun _ _ _ _ _ => rfl
      have e1 := F.lterm_g (n := n) (aly x hx).1.1
      rw [tn]
      unfold C_law_0
      cases eL : tmB n x <;> (rw [eL] at e1; simp [e1])
    rw [List.map_id'] at q
    exact lc_eq (φ := itU) rfl (by omega) q
  have nb := neD_nilL (k := 6) (ds := us.filterMap fun x => if tmB n x = true then none else some x) (by omega) fun x hx => by
    obtain ⟨z, hz, e⟩ := List.mem_filterMap.mp hx
    split at e
    · cases e
    · cases e; exact (aly x hz).2
  refine as_next (n' := [.val (.lst (is.map .int)), .val (.int k), .val .pool, .val (.int n), .val (encP ts), .val (.lst us), c6, c7, c8, c9, c10, c11, c12, c13, c14]) (by
    by_cases c : (us.filterMap fun x => if tmB n x = true then none else some x) = []
    · rw [decide_eq_true c] at nb
      simp at lcb
      simp
      rw [lcb]
      simp [nb]
    · have fs : ∃ k, firstB n us = some k := by
        cases ef : firstB n us with
        | some k => exact ⟨k, rfl⟩
        | none =>
          refine absurd ?_ c
          rw [List.filterMap_eq_nil_iff]
          intro x hx
          rw [if_pos (first_none.mp ef x hx)]
      have rf := F.refused_g py fun ds e => by cases e; exact fs
      rw [decide_eq_false c] at nb
      simp at lcb
      simp
      rw [lcb]
      simp [nb, rf]) ?_
  refine as_next (n' := [.val (.lst (is.map .int)), .val (.int k), .val .pool, .val (.int n), .val (encP ts), .val (.lst us), c6, c7, c8, c9, c10, c11, c12, c13, c14]) (by simp [frzK, Nv.ownOf]) ?_
  refine as_next (n' := [.val (.lst (is.map .int)), .val (.int k), .val .pool, .val (.int n), .val (encP ts), .val (.lst us), c6, .own (encP (norm ts)), c8, c9, c10, c11, c12, c13, c14]) (by simp [em]) ?_
  refine as_next (n' := [.val (.lst (is.map .int)), .val (.int k), .val .pool, .val (.int n), .val (encP ts), .val (.lst us), c6, .val (encP (norm ts)), c8, c9, c10, c11, c12, c13, c14]) (by simp [frzK, Nv.ownOf]) ?_
  generalize norm ts = g at hg0 gk ⊢
  have gl := hg0.len
  have ga : ∀ x ∈ g.map encT, Ae n x := gk.ae
  have lg1 : lenD [encP g] = .ok (.int (g.length : Int)) := by
    show R.ok (.int (((g.map encT).length : Nat) : Int)) = _
    rw [List.length_map]
  have mx : maxD [.int 1, .int (g.length : Int)] = .ok (.int ((max 1 g.length : Nat) : Int)) := by
    unfold maxD
    dsimp only
    congr 2
    split <;> omega
  have tkM := F.take_eq (m := ((max 1 g.length : Nat) : Int)) (by omega) (by omega)
  refine as_mid (fun n' => ∃ i : Nat, n' = [.val (.lst (is.map .int)), .val (.int k), .val .pool, .val (.int n), .val (encP ts), .val (.lst us), c6, .val (encP g), .val (.int i), c9, c10, c11, c12, c13, c14]) ?_ fun n' ⟨i, e⟩ => ?_
  · simp [lg1]
    rw [mx]
    simp only [Rop_ok, Rcall_ok]
    simp [tkM]
    intro i hi hi2
    exact ⟨i.toNat, by rw [Int.toNat_of_nonneg hi]⟩
  subst e
  refine as_next (n' := [.val (.lst (is.map .int)), .val (.int k), .val .pool, .val (.int n), .val (encP ts), .val (.lst us), c6, .val (encP g), .val (.int i), c9, c10, c11, c12, c13, c14]) (by simp [frzK, Nv.ownOf]) ?_
  have sl : ∀ lo hi, slU (encP g) lo hi = .fresh (.lst (cutD (g.map encT) lo hi)) := fun _ _ => rfl
  have cm : ∀ lo hi, ∀ x ∈ cutD (g.map encT) lo hi, Ae n x := fun lo hi x hx => ga x (cut_memK hx)
  have cl : ∀ lo hi, (cutD (g.map encT) lo hi).length ≤ 14 := fun lo hi => by
    have := cut_lenK (g.map encT) lo hi
    rw [List.length_map] at this
    omega
  refine as_mid (fun n' => ∃ mo : List D, (mo.length ≤ 14 ∧ ∀ x ∈ mo, Ae n x) ∧ n' = [.val (.lst (is.map .int)), .val (.int k), .val .pool, .val (.int n), .val (encP ts), .val (.lst us), c6, .val (encP g), .val (.int i), .own (.lst mo), c10, c11, c12, c13, c14]) ?_ fun n' ⟨mo, ⟨ml, ma⟩, e⟩ => ?_
  · have cmap : cutD (g.map encT) (some (i : Int)) (some ((i : Int) + 1)) = (cutTm g (some (i : Int)) (some ((i : Int) + 1))).map encT := cutD_map _ _ _
    have lcut : (cutTm g (some (i : Int)) (some ((i : Int) + 1))).length ≤ 14 := by
      have := cl (some (i : Int)) (some ((i : Int) + 1))
      rw [cmap, List.length_map] at this
      exact this
    have lc : RL.lc itU (turn (.tp [.nm 10, .nm 11]) [.val (.lst (is.map .int)), .val (.int k), .val .pool, .val (.int n), .val (encP ts), .val (.lst us), c6, .val (encP g), .val (.int i), c9, .emp, .emp, c12, c13, c14] (fun n' => T.pure (RT.ok true)) fun n' => ev C_law_1 n') (.ok [.lst (cutD (g.map encT) (some (i : Int)) (some ((i : Int) + 1)))] false) = .pure (.fresh (.lst ((cutTm g (some (i : Int)) (some ((i : Int) + 1))).map moreD))) := by
      refine lc_eq (φ := itU) (items := (cutTm g (some (i : Int)) (some ((i : Int) + 1))).map encT) (by rw [cmap]; rfl) (by rw [List.length_map]; omega) (lcL_mp (g := moreD) fun t ht => ?_)
      have tp : ∀ (i j : Nat) (n : Nv) (c : Nv → T RT) (e : Nv → T R) (x y : D), turn (.tp [.nm i, .nm j]) n c e (.tup [x, y]) = T.keep (c ((n.set i (.val x)).set j (.val y))) (e ((n.set i (.val x)).set j (.val y))) := fun _ _ _ _ _ _ _ => rfl
      have z0 : ixU (encR t.2) (.int 0) = .pure (.ok (.int t.2.num)) := by
        show T.pure (atD _ _) = _
        rw [atD_0]
      have z1 : ixU (encR t.2) (.int 1) = .pure (.ok (.int t.2.den)) := by
        show T.pure (atD _ _) = _
        rw [atD_1]
      have eT : encT t = .tup [.pw t.1, encR t.2] := rfl
      rw [eT, tp]
      unfold C_law_1
      simp [z0, z1, moreD]
    simp [sl]
    first | rw [lc] | (simp at lc; rw [lc])
    simp
    refine ⟨lcut, ?_⟩
    intro x t1 t2 ht hx
    rw [← hx]
    have hm := cutTm_mem ht
    exact ae_more (t := (t1, t2)) (by rw [(gk.ok _ hm).1]; omega) (sz_of (by have := lg_tot hm; have := gk.tot; omega))
  subst e
  refine as_next (n' := [.val (.lst (is.map .int)), .val (.int k), .val .pool, .val (.int n), .val (encP ts), .val (.lst us), c6, .val (encP g), .val (.int i), .val (.lst mo), c10, c11, c12, c13, c14]) (by simp [frzK, Nv.ownOf]) ?_
  refine as_mid (fun n' => ∃ o1 o2, Al n o1 ∧ Al n o2 ∧ n' = [.val (.lst (is.map .int)), .val (.int k), .val .pool, .val (.int n), .val (encP ts), .val (.lst us), c6, .val (encP g), .val (.int i), .val (.lst mo), c10, c11, .own (.lst [o1, o2]), c13, c14]) ?_ fun n' ⟨o1, o2, a1, a2, e⟩ => ?_
  · have u1 := uA_l (a := cutD (g.map encT) none (some (i : Int))) (b := mo) (by have := cl none (some (i : Int)); omega)
    have u2 := uA_l (a := cutD (g.map encT) none (some (i : Int)) ++ mo) (b := cutD (g.map encT) (some (i : Int)) none) (by have := cl none (some (i : Int)); have := cl (some (i : Int)) none; rw [List.length_append]; omega)
    have u3 := uA_l (a := cutD (g.map encT) none (some ((i : Int) + 1))) (b := mo) (by have := cl none (some ((i : Int) + 1)); omega)
    have u4 := uA_l (a := cutD (g.map encT) none (some ((i : Int) + 1)) ++ mo) (b := cutD (g.map encT) (some ((i : Int) + 1)) none) (by have := cl none (some ((i : Int) + 1)); have := cl (some ((i : Int) + 1)) none; rw [List.length_append]; omega)
    have al1 : ∀ lo hi lo2 hi2, Al n (.lst (cutD (g.map encT) lo hi ++ (mo ++ cutD (g.map encT) lo2 hi2))) := fun lo hi lo2 hi2 => ⟨_, rfl, by have := cl lo hi; have := cl lo2 hi2; rw [List.length_append, List.length_append]; omega, fun x hx => by
      simp only [List.mem_append] at hx
      rcases hx with z | z | z
      · exact cm _ _ x z
      · exact ma x z
      · exact cm _ _ x z⟩
    simp only [List.append_assoc] at u2 u4
    simp [sl, u1, u2, u3, u4]
    first | exact ⟨al1 _ _ _ _, al1 _ _ _ _⟩ | exact ⟨_, _, al1 _ _ _ _, al1 _ _ _ _, rfl, rfl⟩ | exact ⟨_, _, al1 _ _ _ _, al1 _ _ _ _, rfl⟩
  subst e
  refine as_next (n' := [.val (.lst (is.map .int)), .val (.int k), .val .pool, .val (.int n), .val (encP ts), .val (.lst us), c6, .val (encP g), .val (.int i), .val (.lst mo), c10, c11, .val (.lst [o1, o2]), c13, c14]) (by simp [frzK, Nv.ownOf]) ?_
  refine as_mid (fun n' => ∃ c13, n' = [.val (.lst (is.map .int)), .val (.int k), .val .pool, .val (.int n), .val (encP ts), .val (.lst us), c6, .val (encP g), .val (.int i), .val (.lst mo), c10, c11, .val (.lst [o1, o2]), c13, c14]) ?_ fun n' ⟨c13, e⟩ => ?_
  · have ss : ssD (-1) (encP g) = .fresh (.lst (cutS (g.map encT) (-1))) := by
      have := cutS_rev (g.map encT)
      rw [List.length_map] at this
      show (if (-1 : Int) ≠ 0 ∧ (cutS (g.map encT) (-1)).length < 1000000 then R.fresh (.lst (cutS (g.map encT) (-1))) else .bad) = _
      rw [if_pos ⟨by decide, by omega⟩]
    have ls := cutS_rev (g.map encT)
    rw [List.length_map] at ls
    have eg : encP g = .lst (g.map encT) := rfl
    have v1 : uAdd (.lst (cutD (g.map encT) none (some 1))) (encP g) = .fresh (.lst (cutD (g.map encT) none (some 1) ++ g.map encT)) := uA_l (by have := cl none (some 1); rw [List.length_map]; omega)
    have v2 := uA_l (a := cutD (g.map encT) (some 1) (some 2)) (b := cutD (g.map encT) none (some 1)) (by have := cl (some 1) (some 2); have := cl none (some 1); omega)
    have v3 := uA_l (a := cutD (g.map encT) (some 1) (some 2) ++ cutD (g.map encT) none (some 1)) (b := cutD (g.map encT) (some 2) none) (by have := cl (some 1) (some 2); have := cl none (some 1); have := cl (some 2) none; rw [List.length_append]; omega)
    have b1 : Al n (.lst (cutS (g.map encT) (-1))) := ⟨_, rfl, by omega, fun x hx => ga x (cutS_memK hx)⟩
    have b2 : Al n (.lst (cutD (g.map encT) none (some 1) ++ g.map encT)) := ⟨_, rfl, by have := cl none (some 1); rw [List.length_append, List.length_map]; omega, fun x hx => (List.mem_append.mp hx).elim (cm _ _ x) (ga x)⟩
    have b3 : Al n (.lst (cutD (g.map encT) (some 1) (some 2) ++ cutD (g.map encT) none (some 1) ++ cutD (g.map encT) (some 2) none)) := ⟨_, rfl, by have := cl (some 1) (some 2); have := cl none (some 1); have := cl (some 2) none; rw [List.length_append, List.length_append]; omega, fun x hx => by
      simp only [List.mem_append] at hx
      rcases hx with (z | z) | z <;> exact cm _ _ x z⟩
    generalize hA : cutS (g.map encT) (-1) = A at ss b1
    generalize hB : cutD (g.map encT) none (some 1) ++ g.map encT = B at v1 b2
    generalize hC : cutD (g.map encT) (some 1) (some 2) ++ cutD (g.map encT) none (some 1) ++ cutD (g.map encT) (some 2) none = C at v3 b3
    have v4 := uA_l (a := [.lst A, .lst B, .lst C]) (b := [o1, o2]) (by simp)
    rw [ex_for]
    simp [ss, sl, v1, v2, v3, v4]
    refine forL_inv (fun n' => ∃ c13, n' = [.val (.lst (is.map .int)), .val (.int k), .val .pool, .val (.int n), .val (encP ts), .val (.lst us), c6, .val (encP g), .val (.int i), .val (.lst mo), c10, c11, .val (.lst [o1, o2]), c13, c14]) ⟨_, rfl⟩ (fun d n' hd hI => ?_) (fun n' hI => ?_)
    · obtain ⟨c13, rfl⟩ := hI
      have ad : Al n d := by
        simp only [List.mem_cons, List.not_mem_nil, or_false, List.cons_append, List.nil_append] at hd
        rcases hd with rfl | rfl | rfl | rfl | rfl
        · exact b1
        · exact b2
        · exact b3
        · exact a1
        · exact a2
      have p1 := F.poly_g ad.pl
      have p2 := F.lpoly_g ad.pl
      show T.all _ (exs L_law_1 [.val (.lst (is.map .int)), .val (.int k), .val .pool, .val (.int n), .val (encP ts), .val (.lst us), c6, .val (encP g), .val (.int i), .val (.lst mo), c10, c11, .val (.lst [o1, o2]), .val d, c14])
      unfold L_law_1
      simp [p1, p2]
    · obtain ⟨c13, rfl⟩ := hI
      simp
  subst e
  refine as_mid (fun n' => ∃ d, (kd d = true ∧ ∀ ds, d ≠ .lst ds) ∧ n' = [.val (.lst (is.map .int)), .val (.int k), .val .pool, .val (.int n), .val (encP ts), .val (.lst us), c6, .val (encP g), .val (.int i), .val (.lst mo), c10, c11, .val (.lst [o1, o2]), c13, .val d]) ?_ fun n' ⟨d, ⟨kdd, nl⟩, e⟩ => ?_
  · have tt6 : tupleD [encP ts] = .ok (.tup (ts.map encT)) := by
      cases ts with
      | nil => rfl
      | cons t ts => rfl
    simp [tt6, tk6]
    intro m hm hm2
    obtain ⟨d, ed, hd⟩ : ∃ d, atD [D.non, .tup (ts.map encT), .dT [] [], .str "x", .int 0, .bl true] m = .ok d ∧ (kd d = true ∧ ∀ ds, d ≠ .lst ds) := by
      have hm3 : m = 0 ∨ m = 1 ∨ m = 2 ∨ m = 3 ∨ m = 4 ∨ m = 5 := by omega
      rcases hm3 with rfl | rfl | rfl | rfl | rfl | rfl
      · exact ⟨_, rfl, rfl, fun _ z => (by cases z)⟩
      · exact ⟨_, rfl, rfl, fun _ z => (by cases z)⟩
      · exact ⟨_, rfl, rfl, fun _ z => (by cases z)⟩
      · exact ⟨_, rfl, rfl, fun _ z => (by cases z)⟩
      · exact ⟨_, rfl, rfl, fun _ z => (by cases z)⟩
      · exact ⟨_, rfl, rfl, fun _ z => (by cases z)⟩
    simp [ed]
    exact hd
  subst e
  have pd : PyOk n d := ⟨⟨kdd, fun ds e => absurd e (nl ds)⟩, fun ds e => absurd e (nl ds)⟩
  have pb : plB n d = false := by
    cases d with
    | lst ds => exact absurd rfl (nl ds)
    | _ => rfl
  have q1 := F.poly_g pd.pl
  have q2 := F.refused_g pd fun ds e => absurd e (nl ds)
  rw [pb] at q1
  have nf : nisD (.bl false) (.bl false) = .ok (.bl false) := rfl
  refine as_next (n' := [.val (.lst (is.map .int)), .val (.int k), .val .pool, .val (.int n), .val (encP ts), .val (.lst us), c6, .val (encP g), .val (.int i), .val (.lst mo), c10, c11, .val (.lst [o1, o2]), c13, .val d]) (by simp [frzK, Nv.ownOf]) ?_
  refine as_next (n' := [.val (.lst (is.map .int)), .val (.int k), .val .pool, .val (.int n), .val (encP ts), .val (.lst us), c6, .val (encP g), .val (.int i), .val (.lst mo), c10, c11, .val (.lst [o1, o2]), c13, .val d]) (by simp [q1, q2, e1, nf]) ?_
  exact as_fin ⟨_, _, _, _, _, _, _, _, _, _, _, _, _, _, rfl⟩
theorem p_law {is : List Int} (hl : is.length ≤ 63) : (runF 1 15 B_law [.lst (is.map .int)]).all fun r => r = .ok (.bl true) := by
  refine run_all rfl ?_
  unfold B_law
  refine exs_all (law_for (m := 12) (is := is) rfl (by omega) (fun n => ∃ c1 c2 c3 c4 c5 c6 c7 c8 c9 c10 c11 c12 c13 c14, n = [.val (.lst (is.map .int)), c1, c2, c3, c4, c5, c6, c7, c8, c9, c10, c11, c12, c13, c14]) ⟨_, _, _, _, _, _, _, _, _, _, _, _, _, _, rfl⟩ (fun k n hk hI => ?_) (fun n hI => ?_))
  · obtain ⟨c1, c2, c3, c4, c5, c6, c7, c8, c9, c10, c11, c12, c13, c14, rfl⟩ := hI
    refine T.mono (fun r hr => ?_) (law_turn (c2 := c2) (c3 := c3) (c4 := c4) (c5 := c5) (c6 := c6) (c7 := c7) (c8 := c8) (c9 := c9) (c10 := c10) (c11 := c11) (c12 := c12) (c13 := c13) (c14 := c14) hl hk)
    obtain ⟨c1, c2, c3, c4, c5, c6, c7, c8, c9, c10, c11, c12, c13, c14, rfl⟩ := hr
    exact ⟨_, _, _, _, _, _, _, _, _, _, _, _, _, _, rfl⟩
  · obtain ⟨c1, c2, c3, c4, c5, c6, c7, c8, c9, c10, c11, c12, c13, c14, rfl⟩ := hI
    simp
end PM

set_option Elab.async false
set_option linter.all false
set_option maxRecDepth 100000
set_option maxHeartbeats 0
namespace PM
open PySem PySem.Spec L2 PyProof.Rows
def clsDef (s : Stmt) (j : Nat) : Stmt := match s with
  | .ClassDef (body := b) .. => b.getD j (.Pass ⟨0, 0, 0, 0⟩)
  | s => s
def top (i : Nat) : Stmt := PySem.Challenge.pw_keptbyturns_k02_polynomials_made.main.body.getD i (.Pass ⟨0, 0, 0, 0⟩)
abbrev s_is_whole : Stmt := top 7
def d_is_whole : He.DefD := ⟨("is_whole", none), "is_whole", "is_whole", defArgs s_is_whole, defBody s_is_whole, defScope s_is_whole, [], []⟩
abbrev s_shared_by : Stmt := top 8
def d_shared_by : He.DefD := ⟨("shared_by", none), "shared_by", "shared_by", defArgs s_shared_by, defBody s_shared_by, defScope s_shared_by, [], []⟩
abbrev s_is_fraction : Stmt := top 9
def d_is_fraction : He.DefD := ⟨("is_fraction", none), "is_fraction", "is_fraction", defArgs s_is_fraction, defBody s_is_fraction, defScope s_is_fraction, [], []⟩
abbrev s_lowest : Stmt := top 10
def d_lowest : He.DefD := ⟨("lowest", none), "lowest", "lowest", defArgs s_lowest, defBody s_lowest, defScope s_lowest, [], []⟩
abbrev s_plus : Stmt := top 11
def d_plus : He.DefD := ⟨("plus", none), "plus", "plus", defArgs s_plus, defBody s_plus, defScope s_plus, [], []⟩
abbrev s_are_powers : Stmt := top 13
def d_are_powers : He.DefD := ⟨("are_powers", none), "are_powers", "are_powers", defArgs s_are_powers, defBody s_are_powers, defScope s_are_powers, [], []⟩
abbrev s_is_term : Stmt := top 14
def d_is_term : He.DefD := ⟨("is_term", none), "is_term", "is_term", defArgs s_is_term, defBody s_is_term, defScope s_is_term, [], []⟩
abbrev s_is_poly : Stmt := top 15
def d_is_poly : He.DefD := ⟨("is_poly", none), "is_poly", "is_poly", defArgs s_is_poly, defBody s_is_poly, defScope s_is_poly, [], []⟩
abbrev s_by_powers : Stmt := top 16
def d_by_powers : He.DefD := ⟨("by_powers", none), "by_powers", "by_powers", defArgs s_by_powers, defBody s_by_powers, defScope s_by_powers, [], []⟩
abbrev s_gathered : Stmt := top 17
def d_gathered : He.DefD := ⟨("gathered", none), "gathered", "gathered", defArgs s_gathered, defBody s_gathered, defScope s_gathered, [], []⟩
abbrev s_poly : Stmt := top 18
def d_poly : He.DefD := ⟨("poly", none), "poly", "poly", defArgs s_poly, defBody s_poly, defScope s_poly, [], []⟩
abbrev s__law_pool : Stmt := top 20
def d__law_pool : He.DefD := ⟨("_law_pool", none), "_law_pool", "_law_pool", defArgs s__law_pool, defBody s__law_pool, defScope s__law_pool, [], []⟩
abbrev s__law_take : Stmt := top 21
def d__law_take : He.DefD := ⟨("_law_take", none), "_law_take", "_law_take", defArgs s__law_take, defBody s__law_take, defScope s__law_take, [], []⟩
abbrev s__law_low : Stmt := top 22
def d__law_low : He.DefD := ⟨("_law_low", none), "_law_low", "_law_low", defArgs s__law_low, defBody s__law_low, defScope s__law_low, [], []⟩
abbrev s__law_plus : Stmt := top 23
def d__law_plus : He.DefD := ⟨("_law_plus", none), "_law_plus", "_law_plus", defArgs s__law_plus, defBody s__law_plus, defScope s__law_plus, [], []⟩
abbrev s__law_whole : Stmt := top 25
def d__law_whole : He.DefD := ⟨("_law_whole", none), "_law_whole", "_law_whole", defArgs s__law_whole, defBody s__law_whole, defScope s__law_whole, [], []⟩
abbrev s__law_fraction : Stmt := top 26
def d__law_fraction : He.DefD := ⟨("_law_fraction", none), "_law_fraction", "_law_fraction", defArgs s__law_fraction, defBody s__law_fraction, defScope s__law_fraction, [], []⟩
abbrev s__law_share : Stmt := top 27
def d__law_share : He.DefD := ⟨("_law_share", none), "_law_share", "_law_share", defArgs s__law_share, defBody s__law_share, defScope s__law_share, [], []⟩
abbrev s__law_made : Stmt := top 28
def d__law_made : He.DefD := ⟨("_law_made", none), "_law_made", "_law_made", defArgs s__law_made, defBody s__law_made, defScope s__law_made, [], []⟩
abbrev s__law_terms : Stmt := top 29
def d__law_terms : He.DefD := ⟨("_law_terms", none), "_law_terms", "_law_terms", defArgs s__law_terms, defBody s__law_terms, defScope s__law_terms, [], []⟩
abbrev s__law_same : Stmt := top 30
def d__law_same : He.DefD := ⟨("_law_same", none), "_law_same", "_law_same", defArgs s__law_same, defBody s__law_same, defScope s__law_same, [], []⟩
abbrev s__law_powers : Stmt := top 31
def d__law_powers : He.DefD := ⟨("_law_powers", none), "_law_powers", "_law_powers", defArgs s__law_powers, defBody s__law_powers, defScope s__law_powers, [], []⟩
abbrev s__law_term : Stmt := top 32
def d__law_term : He.DefD := ⟨("_law_term", none), "_law_term", "_law_term", defArgs s__law_term, defBody s__law_term, defScope s__law_term, [], []⟩
abbrev s__law_poly : Stmt := top 33
def d__law_poly : He.DefD := ⟨("_law_poly", none), "_law_poly", "_law_poly", defArgs s__law_poly, defBody s__law_poly, defScope s__law_poly, [], []⟩
abbrev s__law_bent : Stmt := top 34
def d__law_bent : He.DefD := ⟨("_law_bent", none), "_law_bent", "_law_bent", defArgs s__law_bent, defBody s__law_bent, defScope s__law_bent, [], []⟩
abbrev s__law_refused : Stmt := top 35
def d__law_refused : He.DefD := ⟨("_law_refused", none), "_law_refused", "_law_refused", defArgs s__law_refused, defBody s__law_refused, defScope s__law_refused, [], []⟩
abbrev s__law_told : Stmt := top 36
def d__law_told : He.DefD := ⟨("_law_told", none), "_law_told", "_law_told", defArgs s__law_told, defBody s__law_told, defScope s__law_told, [], []⟩
abbrev s_law : Stmt := top 37
def d_law : He.DefD := ⟨("law", none), "law", "law", defArgs s_law, defBody s_law, defScope s_law, [], []⟩
def m_NoPoly : Stmt := clsDef (top 3) 0
def d_NoPoly_init : He.DefD := ⟨("NoPoly", some ("__init__" : Str)), "__init__", "NoPoly.__init__", defArgs m_NoPoly, defBody m_NoPoly, defScope m_NoPoly, [], []⟩
def m_NoTable : Stmt := clsDef (top 4) 0
def d_NoTable_init : He.DefD := ⟨("NoTable", some ("__init__" : Str)), "__init__", "NoTable.__init__", defArgs m_NoTable, defBody m_NoTable, defScope m_NoTable, [], []⟩
def fnA : List He.DefD := [d_is_whole, d_shared_by, d_is_fraction, d_lowest, d_plus, d_are_powers, d_is_term, d_is_poly, d_by_powers, d_gathered, d_poly, d__law_pool, d__law_take, d__law_low, d__law_plus, d__law_whole, d__law_fraction, d__law_share, d__law_made, d__law_terms, d__law_same, d__law_powers, d__law_term, d__law_poly, d__law_bent, d__law_refused, d__law_told, d_law, d_NoPoly_init, d_NoTable_init]
def td : TopD := { glo := ["is_whole", "shared_by", "is_fraction", "lowest", "plus", "are_powers", "is_term", "is_poly", "by_powers", "gathered", "poly", "_law_pool", "_law_take", "_law_low", "_law_plus", "_law_whole", "_law_fraction", "_law_share", "_law_made", "_law_terms", "_law_same", "_law_powers", "_law_term", "_law_poly", "_law_bent", "_law_refused", "_law_told", "law"], free := ["ValueError", "abs", "all", "bool", "enumerate", "int", "isinstance", "len", "list", "max", "min", "range", "sorted", "sum", "tuple", "zip"], exc := exc, ini := ini, cints := [], ctups := [("NOUGHT", [0, 1])] }
abbrev Rw0 : PySem.W.OpenRow := PySem.W.OpenLaw.row PySem.Challenge.rw_keptbyturns_k02_polynomials_made
abbrev hk : PySem.W.Hook := hookY 6 fnA td.ok2
def ob (s : PySem.W.SharedT) : He.AlX := obsY 6 fnA td.ok2 (HandSHeadRun.getT s)
theorem ob_eq (s : PySem.W.SharedT) : ob s = hk.obs s.abs := obsY_eq (HandSHeadRun.getT_eq s)
def loose0 : List Str := ["KeepError", "NoNumber", "NoPoly", "NoTable", "is_whole", "shared_by", "is_fraction", "lowest", "plus", "are_powers", "is_term", "is_poly", "by_powers", "gathered", "poly", "_law_pool", "_law_take", "_law_low", "_law_plus", "_law_times", "_law_whole", "_law_fraction", "_law_share", "_law_made", "_law_terms"]
def loose1 : List Str := ["_law_same", "_law_powers", "_law_term", "_law_poly", "_law_bent", "_law_refused", "_law_told", "NOUGHT"]
def looseA : List Str := loose0 ++ loose1
theorem headRun (w : World) : HandSHeadRun.RunEq Rw0 (PySem.W.view Rw0.prog [37]) hk ob 6000 looseA w := by
  intro os
  kernel_rfl
theorem sc_is_whole : FnScope N_is_whole ["thing"] (defScope s_is_whole) := ⟨rfl, rfl, rfl, by decide +kernel, rfl, by decide +kernel, by decide +kernel⟩
theorem ok_is_whole : okSs N_is_whole (defScope s_is_whole) B_is_whole (defBody s_is_whole) = true := by decide +kernel
theorem sc_shared_by : FnScope N_shared_by ["one", "other"] (defScope s_shared_by) := ⟨rfl, rfl, rfl, by decide +kernel, rfl, by decide +kernel, by decide +kernel⟩
theorem ok_shared_by : okSs N_shared_by (defScope s_shared_by) B_shared_by (defBody s_shared_by) = true := by decide +kernel
theorem sc_is_fraction : FnScope N_is_fraction ["thing"] (defScope s_is_fraction) := ⟨rfl, rfl, rfl, by decide +kernel, rfl, by decide +kernel, by decide +kernel⟩
theorem ok_is_fraction : okSs N_is_fraction (defScope s_is_fraction) B_is_fraction (defBody s_is_fraction) = true := by decide +kernel
theorem sc_lowest : FnScope N_lowest ["top", "bottom"] (defScope s_lowest) := ⟨rfl, rfl, rfl, by decide +kernel, rfl, by decide +kernel, by decide +kernel⟩
theorem ok_lowest : okSs N_lowest (defScope s_lowest) B_lowest (defBody s_lowest) = true := by decide +kernel
theorem sc_plus : FnScope N_plus ["one", "other"] (defScope s_plus) := ⟨rfl, rfl, rfl, by decide +kernel, rfl, by decide +kernel, by decide +kernel⟩
theorem ok_plus : okSs N_plus (defScope s_plus) B_plus (defBody s_plus) = true := by decide +kernel
theorem sc_are_powers : FnScope N_are_powers ["n", "thing"] (defScope s_are_powers) := ⟨rfl, rfl, rfl, by decide +kernel, rfl, by decide +kernel, by decide +kernel⟩
theorem ok_are_powers : okSs N_are_powers (defScope s_are_powers) B_are_powers (defBody s_are_powers) = true := by decide +kernel
theorem sc_is_term : FnScope N_is_term ["n", "thing"] (defScope s_is_term) := ⟨rfl, rfl, rfl, by decide +kernel, rfl, by decide +kernel, by decide +kernel⟩
theorem ok_is_term : okSs N_is_term (defScope s_is_term) B_is_term (defBody s_is_term) = true := by decide +kernel
theorem sc_is_poly : FnScope N_is_poly ["n", "thing"] (defScope s_is_poly) := ⟨rfl, rfl, rfl, by decide +kernel, rfl, by decide +kernel, by decide +kernel⟩
theorem ok_is_poly : okSs N_is_poly (defScope s_is_poly) B_is_poly (defBody s_is_poly) = true := by decide +kernel
theorem sc_by_powers : FnScope N_by_powers ["found"] (defScope s_by_powers) := ⟨rfl, rfl, rfl, by decide +kernel, rfl, by decide +kernel, by decide +kernel⟩
theorem ok_by_powers : okSs N_by_powers (defScope s_by_powers) B_by_powers (defBody s_by_powers) = true := by decide +kernel
theorem sc_gathered : FnScope N_gathered ["terms"] (defScope s_gathered) := ⟨rfl, rfl, rfl, by decide +kernel, rfl, by decide +kernel, by decide +kernel⟩
theorem ok_gathered : okSs N_gathered (defScope s_gathered) B_gathered (defBody s_gathered) = true := by decide +kernel
theorem sc_poly : FnScope N_poly ["n", "terms"] (defScope s_poly) := ⟨rfl, rfl, rfl, by decide +kernel, rfl, by decide +kernel, by decide +kernel⟩
theorem ok_poly : okSs N_poly (defScope s_poly) B_poly (defBody s_poly) = true := by decide +kernel
theorem sc__law_pool : FnScope N__law_pool ["_law_script", "_law_k"] (defScope s__law_pool) := ⟨rfl, rfl, rfl, by decide +kernel, rfl, by decide +kernel, by decide +kernel⟩
theorem ok__law_pool : okSs N__law_pool (defScope s__law_pool) B__law_pool (defBody s__law_pool) = true := by decide +kernel
theorem sc__law_take : FnScope N__law_take ["_law_pool_here", "_law_many"] (defScope s__law_take) := ⟨rfl, rfl, rfl, by decide +kernel, rfl, by decide +kernel, by decide +kernel⟩
theorem ok__law_take : okSs N__law_take (defScope s__law_take) B__law_take (defBody s__law_take) = true := by decide +kernel
theorem sc__law_low : FnScope N__law_low ["_law_top", "_law_bottom"] (defScope s__law_low) := ⟨rfl, rfl, rfl, by decide +kernel, rfl, by decide +kernel, by decide +kernel⟩
theorem ok__law_low : okSs N__law_low (defScope s__law_low) B__law_low (defBody s__law_low) = true := by decide +kernel
theorem sc__law_plus : FnScope N__law_plus ["_law_one", "_law_other"] (defScope s__law_plus) := ⟨rfl, rfl, rfl, by decide +kernel, rfl, by decide +kernel, by decide +kernel⟩
theorem ok__law_plus : okSs N__law_plus (defScope s__law_plus) B__law_plus (defBody s__law_plus) = true := by decide +kernel
theorem sc__law_whole : FnScope N__law_whole ["_law_thing"] (defScope s__law_whole) := ⟨rfl, rfl, rfl, by decide +kernel, rfl, by decide +kernel, by decide +kernel⟩
theorem ok__law_whole : okSs N__law_whole (defScope s__law_whole) B__law_whole (defBody s__law_whole) = true := by decide +kernel
theorem sc__law_fraction : FnScope N__law_fraction ["_law_thing"] (defScope s__law_fraction) := ⟨rfl, rfl, rfl, by decide +kernel, rfl, by decide +kernel, by decide +kernel⟩
theorem ok__law_fraction : okSs N__law_fraction (defScope s__law_fraction) B__law_fraction (defBody s__law_fraction) = true := by decide +kernel
theorem sc__law_share : FnScope N__law_share ["_law_pool_here"] (defScope s__law_share) := ⟨rfl, rfl, rfl, by decide +kernel, rfl, by decide +kernel, by decide +kernel⟩
theorem ok__law_share : okSs N__law_share (defScope s__law_share) B__law_share (defBody s__law_share) = true := by decide +kernel
theorem sc__law_made : FnScope N__law_made2 ["_law_terms_here"] (defScope s__law_made) := ⟨rfl, rfl, rfl, by decide +kernel, rfl, by decide +kernel, by decide +kernel⟩
theorem ok__law_made : okSs N__law_made2 (defScope s__law_made) B__law_made2 (defBody s__law_made) = true := by decide +kernel
theorem sc__law_terms : FnScope N__law_terms ["_law_pool_here", "_law_n", "_law_most", "_law_high"] (defScope s__law_terms) := ⟨rfl, rfl, rfl, by decide +kernel, rfl, by decide +kernel, by decide +kernel⟩
theorem ok__law_terms : okSs N__law_terms (defScope s__law_terms) B__law_terms (defBody s__law_terms) = true := by decide +kernel
theorem sc__law_same : FnScope N__law_same ["_law_found", "_law_due"] (defScope s__law_same) := ⟨rfl, rfl, rfl, by decide +kernel, rfl, by decide +kernel, by decide +kernel⟩
theorem ok__law_same : okSs N__law_same (defScope s__law_same) B__law_same (defBody s__law_same) = true := by decide +kernel
theorem sc__law_powers : FnScope N__law_powers ["_law_n", "_law_thing"] (defScope s__law_powers) := ⟨rfl, rfl, rfl, by decide +kernel, rfl, by decide +kernel, by decide +kernel⟩
theorem ok__law_powers : okSs N__law_powers (defScope s__law_powers) B__law_powers (defBody s__law_powers) = true := by decide +kernel
theorem sc__law_term : FnScope N__law_term ["_law_n", "_law_thing"] (defScope s__law_term) := ⟨rfl, rfl, rfl, by decide +kernel, rfl, by decide +kernel, by decide +kernel⟩
theorem ok__law_term : okSs N__law_term (defScope s__law_term) B__law_term (defBody s__law_term) = true := by decide +kernel
theorem sc__law_poly : FnScope N__law_poly ["_law_n", "_law_thing"] (defScope s__law_poly) := ⟨rfl, rfl, rfl, by decide +kernel, rfl, by decide +kernel, by decide +kernel⟩
theorem ok__law_poly : okSs N__law_poly (defScope s__law_poly) B__law_poly (defBody s__law_poly) = true := by decide +kernel
theorem sc__law_bent : FnScope N__law_bent ["_law_pool_here", "_law_n", "_law_terms_here"] (defScope s__law_bent) := ⟨rfl, rfl, rfl, by decide +kernel, rfl, by decide +kernel, by decide +kernel⟩
theorem ok__law_bent : okSs N__law_bent (defScope s__law_bent) B__law_bent (defBody s__law_bent) = true := by decide +kernel
theorem sc__law_refused : FnScope N__law_refused ["_law_n", "_law_thing"] (defScope s__law_refused) := ⟨rfl, rfl, rfl, by decide +kernel, rfl, by decide +kernel, by decide +kernel⟩
theorem ok__law_refused : okSs N__law_refused (defScope s__law_refused) B__law_refused (defBody s__law_refused) = true := by decide +kernel
theorem sc__law_told : FnScope N__law_told ["_law_n", "_law_terms_here"] (defScope s__law_told) := ⟨rfl, rfl, rfl, by decide +kernel, rfl, by decide +kernel, by decide +kernel⟩
theorem ok__law_told : okSs N__law_told (defScope s__law_told) B__law_told (defBody s__law_told) = true := by decide +kernel
theorem sc_law : FnScope N_law ["_law_script"] (defScope s_law) := ⟨rfl, rfl, rfl, by decide +kernel, rfl, by decide +kernel, by decide +kernel⟩
theorem ok_law : okSs N_law (defScope s_law) B_law (defBody s_law) = true := by decide +kernel
theorem sc_NoPoly_init : FnScope ["self", "number"] ["self", "number"] d_NoPoly_init.scope := ⟨rfl, rfl, rfl, by decide +kernel, rfl, by decide +kernel, by decide +kernel⟩
theorem sc_NoTable_init : FnScope ["self", "number"] ["self", "number"] d_NoTable_init.scope := ⟨rfl, rfl, rfl, by decide +kernel, rfl, by decide +kernel, by decide +kernel⟩
section
variable {P : Program} {w : World} {K : PySem.W.Frag} {mg : Str → Option Value} {base : Heap}
theorem rz_NoPoly (T : TopOk td K mg) (N : NumOk td K) (c : He.SaysD [] fnA K) {lv : Nat} (h : 2 ≤ lv) : RaiseOk (cnOf P w K mg base lv) "NoPoly" rzN := by
  obtain ⟨fd, D⟩ := c.def_ 28 (d := d_NoPoly_init) rfl
  exact N.raise_ T (x := "NoPoly") (by decide) (by decide) D rfl rfl rfl rfl rfl sc_NoPoly_init (by decide +kernel) (by decide +kernel) (by decide +kernel) (fun _ => rfl) (fun _ _ _ _ _ _ us hl => match us, hl with | [_, _], _ => rfl) h
theorem rz_NoTable (T : TopOk td K mg) (N : NumOk td K) (c : He.SaysD [] fnA K) {lv : Nat} (h : 2 ≤ lv) : RaiseOk (cnOf P w K mg base lv) "NoTable" rzN := by
  obtain ⟨fd, D⟩ := c.def_ 29 (d := d_NoTable_init) rfl
  exact N.raise_ T (x := "NoTable") (by decide) (by decide) D rfl rfl rfl rfl rfl sc_NoTable_init (by decide +kernel) (by decide +kernel) (by decide +kernel) (fun _ => rfl) (fun _ _ _ _ _ _ us hl => match us, hl with | [_, _], _ => rfl) h
theorem g_is_whole (T : TopOk td K mg) (N : NumOk td K) (c : He.SaysD [] fnA K) : Good P w K mg base 1 "is_whole" ["thing"] F.is_whole := by
  have l0 : IsiOk (cnOf P w K mg base 0) (isiB ["bool"]) ["bool"] false := isiB_ok (T.free "isinstance" (by decide)) (T.free "bool" (by decide)) rfl
  have l1 : IsiOk (cnOf P w K mg base 0) (isiB ["int"]) ["int"] false := isiB_ok (T.free "isinstance" (by decide)) (T.free "int" (by decide)) rfl
  obtain ⟨fd, D⟩ := c.def_ 0 (d := d_is_whole) rfl
  have lk : LkSs (cnOf P w K mg base 0) B_is_whole := by
    simp only [B_is_whole, LkSs, LkS, LkE, LkEs, ItOk, and_self, l0, l1]
  exact Good.as (good_of (x := "is_whole") (ps := ["thing"]) (N := N_is_whole) D rfl rfl (T.glo "is_whole" (by decide)) (fun _ _ _ _ _ _ us hl => match us, hl with | [_], _ => rfl) (by decide) sc_is_whole lk ok_is_whole) p_is_whole
theorem g_shared_by (T : TopOk td K mg) (N : NumOk td K) (c : He.SaysD [] fnA K) : Good P w K mg base 1 "shared_by" ["one", "other"] F.shared_by := by
  have l0 : BinOk (cnOf P w K mg base 0) .Mod modI := bin_modI
  have l1 : CallOk (cnOf P w K mg base 0) "abs" (opc absD) := call_absD (T.free "abs" (by decide))
  have l2 : CmpOk (cnOf P w K mg base 0) .NotEq neD := cmp_neD
  obtain ⟨fd, D⟩ := c.def_ 1 (d := d_shared_by) rfl
  have lk : LkSs (cnOf P w K mg base 0) B_shared_by := by
    simp only [B_shared_by, LkSs, LkS, LkE, LkEs, ItOk, and_self, l0, l1, l2]
  exact Good.as (good_of (x := "shared_by") (ps := ["one", "other"]) (N := N_shared_by) D rfl rfl (T.glo "shared_by" (by decide)) (fun _ _ _ _ _ _ us hl => match us, hl with | [_, _], _ => rfl) (by decide) sc_shared_by lk ok_shared_by) p_shared_by
theorem g_is_fraction (T : TopOk td K mg) (N : NumOk td K) (c : He.SaysD [] fnA K) : Good P w K mg base 2 "is_fraction" ["thing"] F.is_fraction := by
  have l0 : CallOk (cnOf P w K mg base 1) "len" (opc lenD) := call_lenD (T.free "len" (by decide))
  have l1 : CmpOk (cnOf P w K mg base 1) .Eq eqD := cmp_eqD
  have l2 : CmpOk (cnOf P w K mg base 1) .Gt uGt := cmp_gtI
  have l3 : CmpOk (cnOf P w K mg base 1) .NotEq neD := cmp_neD
  have l4 : IsiOk (cnOf P w K mg base 1) (isiB ["tuple"]) ["tuple"] false := isiB_ok (T.free "isinstance" (by decide)) (T.free "tuple" (by decide)) rfl
  have l5 : IxOk (cnOf P w K mg base 1) ixU := ix_ixU
  have c_is_whole : CallOk (cnOf P w K mg base 1) "is_whole" F.is_whole := (g_is_whole T N c).call (by decide)
  have c_shared_by : CallOk (cnOf P w K mg base 1) "shared_by" F.shared_by := (g_shared_by T N c).call (by decide)
  obtain ⟨fd, D⟩ := c.def_ 2 (d := d_is_fraction) rfl
  have lk : LkSs (cnOf P w K mg base 1) B_is_fraction := by
    simp only [B_is_fraction, LkSs, LkS, LkE, LkEs, ItOk, and_self, l0, l1, l2, l3, l4, l5, c_is_whole, c_shared_by]
  exact Good.as (good_of (x := "is_fraction") (ps := ["thing"]) (N := N_is_fraction) D rfl rfl (T.glo "is_fraction" (by decide)) (fun _ _ _ _ _ _ us hl => match us, hl with | [_], _ => rfl) (by decide) sc_is_fraction lk ok_is_fraction) p_is_fraction
theorem g_lowest (T : TopOk td K mg) (N : NumOk td K) (c : He.SaysD [] fnA K) : Good P w K mg base 2 "lowest" ["top", "bottom"] F.lowest := by
  have l0 : BinOk (cnOf P w K mg base 1) .FloorDiv divI := bin_divI
  have l1 : BinOk (cnOf P w K mg base 1) .Sub subI := bin_subI
  have l2 : CmpOk (cnOf P w K mg base 1) .Lt uLt := cmp_uLt
  have c_shared_by : CallOk (cnOf P w K mg base 1) "shared_by" F.shared_by := (g_shared_by T N c).call (by decide)
  obtain ⟨fd, D⟩ := c.def_ 3 (d := d_lowest) rfl
  have lk : LkSs (cnOf P w K mg base 1) B_lowest := by
    simp only [B_lowest, LkSs, LkS, LkE, LkEs, ItOk, and_self, l0, l1, l2, c_shared_by]
  exact Good.as (good_of (x := "lowest") (ps := ["top", "bottom"]) (N := N_lowest) D rfl rfl (T.glo "lowest" (by decide)) (fun _ _ _ _ _ _ us hl => match us, hl with | [_, _], _ => rfl) (by decide) sc_lowest lk ok_lowest) p_lowest
theorem g_plus (T : TopOk td K mg) (N : NumOk td K) (c : He.SaysD [] fnA K) : Good P w K mg base 3 "plus" ["one", "other"] F.plus := by
  have l0 : BinOk (cnOf P w K mg base 2) .Add uAdd := bin_uAdd
  have l1 : BinOk (cnOf P w K mg base 2) .Mult uMul := bin_uMul
  have l2 : CmpOk (cnOf P w K mg base 2) .Eq eqD := cmp_eqD
  have l3 : IxOk (cnOf P w K mg base 2) ixU := ix_ixU
  have c_lowest : CallOk (cnOf P w K mg base 2) "lowest" F.lowest := (g_lowest T N c).call (by decide)
  obtain ⟨fd, D⟩ := c.def_ 4 (d := d_plus) rfl
  have lk : LkSs (cnOf P w K mg base 2) B_plus := by
    simp only [B_plus, LkSs, LkS, LkE, LkEs, ItOk, and_self, l0, l1, l2, l3, c_lowest]
  exact Good.as (good_of (x := "plus") (ps := ["one", "other"]) (N := N_plus) D rfl rfl (T.glo "plus" (by decide)) (fun _ _ _ _ _ _ us hl => match us, hl with | [_, _], _ => rfl) (by decide) sc_plus lk ok_plus) p_plus
theorem g_are_powers (T : TopOk td K mg) (N : NumOk td K) (c : He.SaysD [] fnA K) : Good P w K mg base 2 "are_powers" ["n", "thing"] F.are_powers := by
  have l0 : CallOk (cnOf P w K mg base 1) "all" (opc allD) := call_allD (T.free "all" (by decide))
  have l1 : CallOk (cnOf P w K mg base 1) "len" (opc lenD) := call_lenD (T.free "len" (by decide))
  have l2 : CmpOk (cnOf P w K mg base 1) .GtE uGe := cmp_geI
  have l3 : CmpOk (cnOf P w K mg base 1) .NotEq neD := cmp_neD
  have l4 : IsiOk (cnOf P w K mg base 1) (isiB ["tuple"]) ["tuple"] false := isiB_ok (T.free "isinstance" (by decide)) (T.free "tuple" (by decide)) rfl
  have l5 : ItEx (cnOf P w K mg base 1) itU := it_itU
  have c_is_whole : CallOk (cnOf P w K mg base 1) "is_whole" F.is_whole := (g_is_whole T N c).call (by decide)
  obtain ⟨fd, D⟩ := c.def_ 5 (d := d_are_powers) rfl
  have lk : LkSs (cnOf P w K mg base 1) B_are_powers := by
    simp only [B_are_powers, C_are_powers_0, LkSs, LkS, LkE, LkEs, ItOk, and_self, l0, l1, l2, l3, l4, l5, c_is_whole]
  exact Good.as (good_of (x := "are_powers") (ps := ["n", "thing"]) (N := N_are_powers) D rfl rfl (T.glo "are_powers" (by decide)) (fun _ _ _ _ _ _ us hl => match us, hl with | [_, _], _ => rfl) (by decide) sc_are_powers lk ok_are_powers) p_are_powers
theorem g_is_term (T : TopOk td K mg) (N : NumOk td K) (c : He.SaysD [] fnA K) : Good P w K mg base 3 "is_term" ["n", "thing"] F.is_term := by
  have l0 : CallOk (cnOf P w K mg base 2) "len" (opc lenD) := call_lenD (T.free "len" (by decide))
  have l1 : CmpOk (cnOf P w K mg base 2) .NotEq neD := cmp_neD
  have l2 : IsiOk (cnOf P w K mg base 2) (isiB ["tuple"]) ["tuple"] false := isiB_ok (T.free "isinstance" (by decide)) (T.free "tuple" (by decide)) rfl
  have l3 : IxOk (cnOf P w K mg base 2) ixU := ix_ixU
  have c_are_powers : CallOk (cnOf P w K mg base 2) "are_powers" F.are_powers := (g_are_powers T N c).call (by decide)
  have c_is_fraction : CallOk (cnOf P w K mg base 2) "is_fraction" F.is_fraction := (g_is_fraction T N c).call (by decide)
  obtain ⟨fd, D⟩ := c.def_ 6 (d := d_is_term) rfl
  have lk : LkSs (cnOf P w K mg base 2) B_is_term := by
    simp only [B_is_term, LkSs, LkS, LkE, LkEs, ItOk, and_self, l0, l1, l2, l3, c_are_powers, c_is_fraction]
  exact Good.as (good_of (x := "is_term") (ps := ["n", "thing"]) (N := N_is_term) D rfl rfl (T.glo "is_term" (by decide)) (fun _ _ _ _ _ _ us hl => match us, hl with | [_, _], _ => rfl) (by decide) sc_is_term lk ok_is_term) p_is_term
theorem g_is_poly (T : TopOk td K mg) (N : NumOk td K) (c : He.SaysD [] fnA K) : Good P w K mg base 4 "is_poly" ["n", "thing"] F.is_poly := by
  have l0 : CallOk (cnOf P w K mg base 3) "all" (opc allD) := call_allD (T.free "all" (by decide))
  have l1 : CmpOk (cnOf P w K mg base 3) .Lt uLt := cmp_uLt
  have l2 : CmpOk (cnOf P w K mg base 3) .NotEq neD := cmp_neD
  have l3 : GlobOk (cnOf P w K mg base 3) "NOUGHT" c_NOUGHT := T.gTup (x := "NOUGHT") (by decide)
  have l4 : IsiOk (cnOf P w K mg base 3) (isiB ["list"]) ["list"] false := isiB_ok (T.free "isinstance" (by decide)) (T.free "list" (by decide)) rfl
  have l5 : ItCl (cnOf P w K mg base 3) "zip" 2 itZipX := it_zipX (T.free "zip" (by decide))
  have l6 : ItEx (cnOf P w K mg base 3) itU := it_itU
  have l7 : IxOk (cnOf P w K mg base 3) ixU := ix_ixU
  have l8 : SlOk (cnOf P w K mg base 3) slU := sl_slD
  have c_is_term : CallOk (cnOf P w K mg base 3) "is_term" F.is_term := (g_is_term T N c).call (by decide)
  obtain ⟨fd, D⟩ := c.def_ 7 (d := d_is_poly) rfl
  have lk : LkSs (cnOf P w K mg base 3) B_is_poly := by
    simp only [B_is_poly, C_is_poly_0, C_is_poly_1, LkSs, LkS, LkE, LkEs, ItOk, and_self, l0, l1, l2, l3, l4, l5, l6, l7, l8, c_is_term]
  exact Good.as (good_of (x := "is_poly") (ps := ["n", "thing"]) (N := N_is_poly) D rfl rfl (T.glo "is_poly" (by decide)) (fun _ _ _ _ _ _ us hl => match us, hl with | [_, _], _ => rfl) (by decide) sc_is_poly lk ok_is_poly) p_is_poly
theorem g_by_powers (T : TopOk td K mg) (N : NumOk td K) (c : He.SaysD [] fnA K) : Good P w K mg base 1 "by_powers" ["found"] F.by_powers := by
  have l0 : CallOk (cnOf P w K mg base 0) "sorted" (opc sortedD) := call_sortedD (T.free "sorted" (by decide))
  have l1 : CmpOk (cnOf P w K mg base 0) .NotEq neD := cmp_neD
  have l2 : GlobOk (cnOf P w K mg base 0) "NOUGHT" c_NOUGHT := T.gTup (x := "NOUGHT") (by decide)
  have l3 : ItEx (cnOf P w K mg base 0) itU := it_itU
  have l4 : IxOk (cnOf P w K mg base 0) ixU := ix_ixU
  obtain ⟨fd, D⟩ := c.def_ 8 (d := d_by_powers) rfl
  have lk : LkSs (cnOf P w K mg base 0) B_by_powers := by
    simp only [B_by_powers, C_by_powers_0, C_by_powers_1, LkSs, LkS, LkE, LkEs, ItOk, and_self, l0, l1, l2, l3, l4]
  exact Good.as (good_of (x := "by_powers") (ps := ["found"]) (N := N_by_powers) D rfl rfl (T.glo "by_powers" (by decide)) (fun _ _ _ _ _ _ us hl => match us, hl with | [_], _ => rfl) (by decide) sc_by_powers lk ok_by_powers) p_by_powers
theorem g_gathered (T : TopOk td K mg) (N : NumOk td K) (c : He.SaysD [] fnA K) : Good P w K mg base 4 "gathered" ["terms"] F.gathered := by
  have l0 : CmpOk (cnOf P w K mg base 3) .In inD := cmp_inD
  have l1 : ItEx (cnOf P w K mg base 3) itU := it_itU
  have l2 : IxOk (cnOf P w K mg base 3) ixU := ix_ixU
  have l3 : SetOk (cnOf P w K mg base 3) setD := set_setD
  have c_by_powers : CallOk (cnOf P w K mg base 3) "by_powers" F.by_powers := (g_by_powers T N c).call (by decide)
  have c_plus : CallOk (cnOf P w K mg base 3) "plus" F.plus := (g_plus T N c).call (by decide)
  obtain ⟨fd, D⟩ := c.def_ 9 (d := d_gathered) rfl
  have lk : LkSs (cnOf P w K mg base 3) B_gathered := by
    simp only [B_gathered, L_gathered_0, LkSs, LkS, LkE, LkEs, ItOk, and_self, l0, l1, l2, l3, c_by_powers, c_plus]
  exact Good.as (good_of (x := "gathered") (ps := ["terms"]) (N := N_gathered) D rfl rfl (T.glo "gathered" (by decide)) (fun _ _ _ _ _ _ us hl => match us, hl with | [_], _ => rfl) (by decide) sc_gathered lk ok_gathered) p_gathered
theorem g_poly (T : TopOk td K mg) (N : NumOk td K) (c : He.SaysD [] fnA K) : Good P w K mg base 5 "poly" ["n", "terms"] F.poly := by
  have l0 : IsiOk (cnOf P w K mg base 4) (isiB ["list"]) ["list"] false := isiB_ok (T.free "isinstance" (by decide)) (T.free "list" (by decide)) rfl
  have l1 : ItCl (cnOf P w K mg base 4) "enumerate" 1 itEnumX := it_enumX (T.free "enumerate" (by decide))
  have l2 : RaiseOk (cnOf P w K mg base 4) "NoPoly" rzN := rz_NoPoly T N c (by omega)
  have c_gathered : CallOk (cnOf P w K mg base 4) "gathered" F.gathered := (g_gathered T N c).call (by decide)
  have c_is_term : CallOk (cnOf P w K mg base 4) "is_term" F.is_term := (g_is_term T N c).call (by decide)
  obtain ⟨fd, D⟩ := c.def_ 10 (d := d_poly) rfl
  have lk : LkSs (cnOf P w K mg base 4) B_poly := by
    simp only [B_poly, L_poly_0, LkSs, LkS, LkE, LkEs, ItOk, and_self, l0, l1, l2, c_gathered, c_is_term]
  exact Good.as (good_of (x := "poly") (ps := ["n", "terms"]) (N := N_poly) D rfl rfl (T.glo "poly" (by decide)) (fun _ _ _ _ _ _ us hl => match us, hl with | [_, _], _ => rfl) (by decide) sc_poly lk ok_poly) p_poly
theorem g__law_pool (T : TopOk td K mg) (N : NumOk td K) (c : He.SaysD [] fnA K) : Good P w K mg base 1 "_law_pool" ["_law_script", "_law_k"] F._law_pool := by
  have l0 : BinOk (cnOf P w K mg base 0) .Add uAdd := bin_uAdd
  have l1 : BinOk (cnOf P w K mg base 0) .Mod modI := bin_modI
  have l2 : BinOk (cnOf P w K mg base 0) .Mult uMul := bin_uMul
  have l3 : BinOk (cnOf P w K mg base 0) .Pow powI := bin_powI
  have l4 : CallOk (cnOf P w K mg base 0) "len" (opc lenD) := call_lenD (T.free "len" (by decide))
  have l5 : CallOk (cnOf P w K mg base 0) "sum" (opc sumD) := call_sumD (T.free "sum" (by decide))
  have l6 : CmpOk (cnOf P w K mg base 0) .Lt uLt := cmp_uLt
  have l7 : IxOk (cnOf P w K mg base 0) ixU := ix_ixU
  have l8 : SlOk (cnOf P w K mg base 0) slU := sl_slD
  obtain ⟨fd, D⟩ := c.def_ 11 (d := d__law_pool) rfl
  have lk : LkSs (cnOf P w K mg base 0) B__law_pool := by
    simp only [B__law_pool, B_poolA, poolS, LkSs, LkS, LkE, LkEs, ItOk, and_self, l0, l1, l2, l3, l4, l5, l6, l7, l8]
  exact Good.as (Good.pool (good_of (x := "_law_pool") (ps := ["_law_script", "_law_k"]) (N := N__law_pool) D rfl rfl (T.glo "_law_pool" (by decide)) (fun _ _ _ _ _ _ us hl => match us, hl with | [_, _], _ => rfl) (by decide) sc__law_pool lk ok__law_pool)) (p_poolA (by decide) (by decide) (by decide) (by decide) (by decide) (by decide))
theorem g__law_take (T : TopOk td K mg) (N : NumOk td K) (c : He.SaysD [] fnA K) : Good P w K mg base 1 "_law_take" ["_law_pool_here", "_law_many"] F._law_take := by
  have l0 : BinOk (cnOf P w K mg base 0) .Add uAdd := bin_uAdd
  have l1 : BinOk (cnOf P w K mg base 0) .FloorDiv divI := bin_divI
  have l2 : BinOk (cnOf P w K mg base 0) .Mod modI := bin_modI
  have l3 : BinOk (cnOf P w K mg base 0) .Mult uMul := bin_uMul
  have l4 : CmpOk (cnOf P w K mg base 0) .Gt uGt := cmp_gtI
  have l5 : IxOk (cnOf P w K mg base 0) ixU := ix_ixU
  obtain ⟨fd, D⟩ := c.def_ 12 (d := d__law_take) rfl
  have lk : LkSs (cnOf P w K mg base 0) B__law_take := by
    simp only [B__law_take, B_take, LkSs, LkS, LkE, LkEs, ItOk, and_self, l0, l1, l2, l3, l4, l5]
  exact Good.as (good_of (x := "_law_take") (ps := ["_law_pool_here", "_law_many"]) (N := N__law_take) D rfl rfl (T.glo "_law_take" (by decide)) (fun _ _ _ _ _ _ us hl => match us, hl with | [_, _], _ => rfl) (by decide) sc__law_take lk ok__law_take) (p_take (by decide) (by decide) (by decide) (by decide))
theorem g__law_low (T : TopOk td K mg) (N : NumOk td K) (c : He.SaysD [] fnA K) : Good P w K mg base 1 "_law_low" ["_law_top", "_law_bottom"] F._law_low := by
  have l0 : BinOk (cnOf P w K mg base 0) .FloorDiv divI := bin_divI
  have l1 : BinOk (cnOf P w K mg base 0) .Mod modI := bin_modI
  have l2 : BinOk (cnOf P w K mg base 0) .Sub subI := bin_subI
  have l3 : CallOk (cnOf P w K mg base 0) "abs" (opc absD) := call_absD (T.free "abs" (by decide))
  have l4 : CmpOk (cnOf P w K mg base 0) .Gt uGt := cmp_gtI
  have l5 : CmpOk (cnOf P w K mg base 0) .Lt uLt := cmp_uLt
  obtain ⟨fd, D⟩ := c.def_ 13 (d := d__law_low) rfl
  have lk : LkSs (cnOf P w K mg base 0) B__law_low := by
    simp only [B__law_low, LkSs, LkS, LkE, LkEs, ItOk, and_self, l0, l1, l2, l3, l4, l5]
  exact Good.as (good_of (x := "_law_low") (ps := ["_law_top", "_law_bottom"]) (N := N__law_low) D rfl rfl (T.glo "_law_low" (by decide)) (fun _ _ _ _ _ _ us hl => match us, hl with | [_, _], _ => rfl) (by decide) sc__law_low lk ok__law_low) p__law_low
theorem g__law_plus (T : TopOk td K mg) (N : NumOk td K) (c : He.SaysD [] fnA K) : Good P w K mg base 2 "_law_plus" ["_law_one", "_law_other"] F._law_plus := by
  have l0 : BinOk (cnOf P w K mg base 1) .Add uAdd := bin_uAdd
  have l1 : BinOk (cnOf P w K mg base 1) .Mult uMul := bin_uMul
  have l2 : IxOk (cnOf P w K mg base 1) ixU := ix_ixU
  have c__law_low : CallOk (cnOf P w K mg base 1) "_law_low" F._law_low := (g__law_low T N c).call (by decide)
  obtain ⟨fd, D⟩ := c.def_ 14 (d := d__law_plus) rfl
  have lk : LkSs (cnOf P w K mg base 1) B__law_plus := by
    simp only [B__law_plus, LkSs, LkS, LkE, LkEs, ItOk, and_self, l0, l1, l2, c__law_low]
  exact Good.as (good_of (x := "_law_plus") (ps := ["_law_one", "_law_other"]) (N := N__law_plus) D rfl rfl (T.glo "_law_plus" (by decide)) (fun _ _ _ _ _ _ us hl => match us, hl with | [_, _], _ => rfl) (by decide) sc__law_plus lk ok__law_plus) p__law_plus
theorem g__law_whole (T : TopOk td K mg) (N : NumOk td K) (c : He.SaysD [] fnA K) : Good P w K mg base 1 "_law_whole" ["_law_thing"] F._law_whole := by
  have l0 : IsiOk (cnOf P w K mg base 0) (isiB ["bool"]) ["bool"] false := isiB_ok (T.free "isinstance" (by decide)) (T.free "bool" (by decide)) rfl
  have l1 : IsiOk (cnOf P w K mg base 0) (isiB ["int"]) ["int"] false := isiB_ok (T.free "isinstance" (by decide)) (T.free "int" (by decide)) rfl
  obtain ⟨fd, D⟩ := c.def_ 15 (d := d__law_whole) rfl
  have lk : LkSs (cnOf P w K mg base 0) B__law_whole := by
    simp only [B__law_whole, LkSs, LkS, LkE, LkEs, ItOk, and_self, l0, l1]
  exact Good.as (good_of (x := "_law_whole") (ps := ["_law_thing"]) (N := N__law_whole) D rfl rfl (T.glo "_law_whole" (by decide)) (fun _ _ _ _ _ _ us hl => match us, hl with | [_], _ => rfl) (by decide) sc__law_whole lk ok__law_whole) p__law_whole
theorem g__law_fraction (T : TopOk td K mg) (N : NumOk td K) (c : He.SaysD [] fnA K) : Good P w K mg base 2 "_law_fraction" ["_law_thing"] F._law_fraction := by
  have l0 : CallOk (cnOf P w K mg base 1) "len" (opc lenD) := call_lenD (T.free "len" (by decide))
  have l1 : CmpOk (cnOf P w K mg base 1) .Eq eqD := cmp_eqD
  have l2 : CmpOk (cnOf P w K mg base 1) .Gt uGt := cmp_gtI
  have l3 : CmpOk (cnOf P w K mg base 1) .NotEq neD := cmp_neD
  have l4 : IsiOk (cnOf P w K mg base 1) (isiB ["tuple"]) ["tuple"] false := isiB_ok (T.free "isinstance" (by decide)) (T.free "tuple" (by decide)) rfl
  have l5 : IxOk (cnOf P w K mg base 1) ixU := ix_ixU
  have c__law_low : CallOk (cnOf P w K mg base 1) "_law_low" F._law_low := (g__law_low T N c).call (by decide)
  have c__law_whole : CallOk (cnOf P w K mg base 1) "_law_whole" F._law_whole := (g__law_whole T N c).call (by decide)
  obtain ⟨fd, D⟩ := c.def_ 16 (d := d__law_fraction) rfl
  have lk : LkSs (cnOf P w K mg base 1) B__law_fraction := by
    simp only [B__law_fraction, LkSs, LkS, LkE, LkEs, ItOk, and_self, l0, l1, l2, l3, l4, l5, c__law_low, c__law_whole]
  exact Good.as (good_of (x := "_law_fraction") (ps := ["_law_thing"]) (N := N__law_fraction) D rfl rfl (T.glo "_law_fraction" (by decide)) (fun _ _ _ _ _ _ us hl => match us, hl with | [_], _ => rfl) (by decide) sc__law_fraction lk ok__law_fraction) p__law_fraction
theorem g__law_share (T : TopOk td K mg) (N : NumOk td K) (c : He.SaysD [] fnA K) : Good P w K mg base 2 "_law_share" ["_law_pool_here"] F._law_share := by
  have l0 : BinOk (cnOf P w K mg base 1) .Add uAdd := bin_uAdd
  have l1 : BinOk (cnOf P w K mg base 1) .Mult uMul := bin_uMul
  have l2 : BinOk (cnOf P w K mg base 1) .Pow powI := bin_powI
  have l3 : CmpOk (cnOf P w K mg base 1) .Lt uLt := cmp_uLt
  have l4 : IxOk (cnOf P w K mg base 1) ixU := ix_ixU
  have l5 : UnOk (cnOf P w K mg base 1) .USub negI := un_negI
  have c__law_low : CallOk (cnOf P w K mg base 1) "_law_low" F._law_low := (g__law_low T N c).call (by decide)
  have c__law_take : CallOk (cnOf P w K mg base 1) "_law_take" F._law_take := (g__law_take T N c).call (by decide)
  obtain ⟨fd, D⟩ := c.def_ 17 (d := d__law_share) rfl
  have lk : LkSs (cnOf P w K mg base 1) B__law_share := by
    simp only [B__law_share, LkSs, LkS, LkE, LkEs, ItOk, and_self, l0, l1, l2, l3, l4, l5, c__law_low, c__law_take]
  exact Good.as (good_of (x := "_law_share") (ps := ["_law_pool_here"]) (N := N__law_share) D rfl rfl (T.glo "_law_share" (by decide)) (fun _ _ _ _ _ _ us hl => match us, hl with | [_], _ => rfl) (by decide) sc__law_share lk ok__law_share) p__law_share
theorem g__law_made (T : TopOk td K mg) (N : NumOk td K) (c : He.SaysD [] fnA K) : Good P w K mg base 3 "_law_made" ["_law_terms_here"] F._law_made2 := by
  have l0 : CallOk (cnOf P w K mg base 2) "sorted" (opc sortedD) := call_sortedD (T.free "sorted" (by decide))
  have l1 : CmpOk (cnOf P w K mg base 2) .NotEq neD := cmp_neD
  have l2 : ItEx (cnOf P w K mg base 2) itU := it_itU
  have l3 : IxOk (cnOf P w K mg base 2) ixU := ix_ixU
  have l4 : MethOk (cnOf P w K mg base 2) "get" m_get := meth_get
  have l5 : SetOk (cnOf P w K mg base 2) setD := set_setD
  have c__law_plus : CallOk (cnOf P w K mg base 2) "_law_plus" F._law_plus := (g__law_plus T N c).call (by decide)
  obtain ⟨fd, D⟩ := c.def_ 18 (d := d__law_made) rfl
  have lk : LkSs (cnOf P w K mg base 2) B__law_made2 := by
    simp only [B__law_made2, L__law_made2_0, C__law_made2_0, C__law_made2_1, LkSs, LkS, LkE, LkEs, ItOk, and_self, l0, l1, l2, l3, l4, l5, c__law_plus]
  exact Good.as (good_of (x := "_law_made") (ps := ["_law_terms_here"]) (N := N__law_made2) D rfl rfl (T.glo "_law_made" (by decide)) (fun _ _ _ _ _ _ us hl => match us, hl with | [_], _ => rfl) (by decide) sc__law_made lk ok__law_made) p__law_made2
theorem g__law_terms (T : TopOk td K mg) (N : NumOk td K) (c : He.SaysD [] fnA K) : Good P w K mg base 3 "_law_terms" ["_law_pool_here", "_law_n", "_law_most", "_law_high"] F._law_terms := by
  have l0 : BinOk (cnOf P w K mg base 2) .Add uAdd := bin_uAdd
  have l1 : CallOk (cnOf P w K mg base 2) "tuple" (opc tupleD) := call_tupleD (T.free "tuple" (by decide))
  have l2 : ItCl (cnOf P w K mg base 2) "range" 1 itRng1 := it_rng1 (T.free "range" (by decide))
  have l3 : MutOk (cnOf P w K mg base 2) "append" appD := mut_appD
  have c__law_share : CallOk (cnOf P w K mg base 2) "_law_share" F._law_share := (g__law_share T N c).call (by decide)
  have c__law_take : CallOk (cnOf P w K mg base 2) "_law_take" F._law_take := (g__law_take T N c).call (by decide)
  obtain ⟨fd, D⟩ := c.def_ 19 (d := d__law_terms) rfl
  have lk : LkSs (cnOf P w K mg base 2) B__law_terms := by
    simp only [B__law_terms, C__law_terms_0, L__law_terms_0, LkSs, LkS, LkE, LkEs, ItOk, and_self, l0, l1, l2, l3, c__law_share, c__law_take]
  exact Good.as (good_of (x := "_law_terms") (ps := ["_law_pool_here", "_law_n", "_law_most", "_law_high"]) (N := N__law_terms) D rfl rfl (T.glo "_law_terms" (by decide)) (fun _ _ _ _ _ _ us hl => match us, hl with | [_, _, _, _], _ => rfl) (by decide) sc__law_terms lk ok__law_terms) p__law_terms
theorem g__law_same (T : TopOk td K mg) (N : NumOk td K) (c : He.SaysD [] fnA K) : Good P w K mg base 1 "_law_same" ["_law_found", "_law_due"] F._law_same := by
  have l0 : CmpOk (cnOf P w K mg base 0) .Eq eqD := cmp_eqD
  have l1 : IsiOk (cnOf P w K mg base 0) (isiB ["bool"]) ["bool"] false := isiB_ok (T.free "isinstance" (by decide)) (T.free "bool" (by decide)) rfl
  obtain ⟨fd, D⟩ := c.def_ 20 (d := d__law_same) rfl
  have lk : LkSs (cnOf P w K mg base 0) B__law_same := by
    simp only [B__law_same, LkSs, LkS, LkE, LkEs, ItOk, and_self, l0, l1]
  exact Good.as (good_of (x := "_law_same") (ps := ["_law_found", "_law_due"]) (N := N__law_same) D rfl rfl (T.glo "_law_same" (by decide)) (fun _ _ _ _ _ _ us hl => match us, hl with | [_, _], _ => rfl) (by decide) sc__law_same lk ok__law_same) p__law_same
theorem g__law_powers (T : TopOk td K mg) (N : NumOk td K) (c : He.SaysD [] fnA K) : Good P w K mg base 2 "_law_powers" ["_law_n", "_law_thing"] F._law_powers := by
  have l0 : CallOk (cnOf P w K mg base 1) "all" (opc allD) := call_allD (T.free "all" (by decide))
  have l1 : CallOk (cnOf P w K mg base 1) "len" (opc lenD) := call_lenD (T.free "len" (by decide))
  have l2 : CmpOk (cnOf P w K mg base 1) .GtE uGe := cmp_geI
  have l3 : CmpOk (cnOf P w K mg base 1) .NotEq neD := cmp_neD
  have l4 : IsiOk (cnOf P w K mg base 1) (isiB ["tuple"]) ["tuple"] false := isiB_ok (T.free "isinstance" (by decide)) (T.free "tuple" (by decide)) rfl
  have l5 : ItEx (cnOf P w K mg base 1) itU := it_itU
  have c__law_whole : CallOk (cnOf P w K mg base 1) "_law_whole" F._law_whole := (g__law_whole T N c).call (by decide)
  obtain ⟨fd, D⟩ := c.def_ 21 (d := d__law_powers) rfl
  have lk : LkSs (cnOf P w K mg base 1) B__law_powers := by
    simp only [B__law_powers, C__law_powers_0, LkSs, LkS, LkE, LkEs, ItOk, and_self, l0, l1, l2, l3, l4, l5, c__law_whole]
  exact Good.as (good_of (x := "_law_powers") (ps := ["_law_n", "_law_thing"]) (N := N__law_powers) D rfl rfl (T.glo "_law_powers" (by decide)) (fun _ _ _ _ _ _ us hl => match us, hl with | [_, _], _ => rfl) (by decide) sc__law_powers lk ok__law_powers) p__law_powers
theorem g__law_term (T : TopOk td K mg) (N : NumOk td K) (c : He.SaysD [] fnA K) : Good P w K mg base 3 "_law_term" ["_law_n", "_law_thing"] F._law_term := by
  have l0 : CallOk (cnOf P w K mg base 2) "len" (opc lenD) := call_lenD (T.free "len" (by decide))
  have l1 : CmpOk (cnOf P w K mg base 2) .NotEq neD := cmp_neD
  have l2 : IsiOk (cnOf P w K mg base 2) (isiB ["tuple"]) ["tuple"] false := isiB_ok (T.free "isinstance" (by decide)) (T.free "tuple" (by decide)) rfl
  have l3 : IxOk (cnOf P w K mg base 2) ixU := ix_ixU
  have c__law_fraction : CallOk (cnOf P w K mg base 2) "_law_fraction" F._law_fraction := (g__law_fraction T N c).call (by decide)
  have c__law_powers : CallOk (cnOf P w K mg base 2) "_law_powers" F._law_powers := (g__law_powers T N c).call (by decide)
  obtain ⟨fd, D⟩ := c.def_ 22 (d := d__law_term) rfl
  have lk : LkSs (cnOf P w K mg base 2) B__law_term := by
    simp only [B__law_term, LkSs, LkS, LkE, LkEs, ItOk, and_self, l0, l1, l2, l3, c__law_fraction, c__law_powers]
  exact Good.as (good_of (x := "_law_term") (ps := ["_law_n", "_law_thing"]) (N := N__law_term) D rfl rfl (T.glo "_law_term" (by decide)) (fun _ _ _ _ _ _ us hl => match us, hl with | [_, _], _ => rfl) (by decide) sc__law_term lk ok__law_term) p__law_term
theorem g__law_poly (T : TopOk td K mg) (N : NumOk td K) (c : He.SaysD [] fnA K) : Good P w K mg base 4 "_law_poly" ["_law_n", "_law_thing"] F._law_poly := by
  have l0 : BinOk (cnOf P w K mg base 3) .Sub subI := bin_subI
  have l1 : CallOk (cnOf P w K mg base 3) "len" (opc lenD) := call_lenD (T.free "len" (by decide))
  have l2 : CmpOk (cnOf P w K mg base 3) .Eq eqD := cmp_eqD
  have l3 : CmpOk (cnOf P w K mg base 3) .GtE uGe2 := cmp_uGe2
  have l4 : IsiOk (cnOf P w K mg base 3) (isiB ["list"]) ["list"] false := isiB_ok (T.free "isinstance" (by decide)) (T.free "list" (by decide)) rfl
  have l5 : ItCl (cnOf P w K mg base 3) "range" 2 itRng2 := it_rng2 (T.free "range" (by decide))
  have l6 : ItEx (cnOf P w K mg base 3) itU := it_itU
  have l7 : IxOk (cnOf P w K mg base 3) ixU := ix_ixU
  have c__law_term : CallOk (cnOf P w K mg base 3) "_law_term" F._law_term := (g__law_term T N c).call (by decide)
  obtain ⟨fd, D⟩ := c.def_ 23 (d := d__law_poly) rfl
  have lk : LkSs (cnOf P w K mg base 3) B__law_poly := by
    simp only [B__law_poly, L__law_poly_0, C__law_poly_0, LkSs, LkS, LkE, LkEs, ItOk, and_self, l0, l1, l2, l3, l4, l5, l6, l7, c__law_term]
  exact Good.as (good_of (x := "_law_poly") (ps := ["_law_n", "_law_thing"]) (N := N__law_poly) D rfl rfl (T.glo "_law_poly" (by decide)) (fun _ _ _ _ _ _ us hl => match us, hl with | [_, _], _ => rfl) (by decide) sc__law_poly lk ok__law_poly) p__law_poly
theorem g__law_bent (T : TopOk td K mg) (N : NumOk td K) (c : He.SaysD [] fnA K) : Good P w K mg base 2 "_law_bent" ["_law_pool_here", "_law_n", "_law_terms_here"] F._law_bent := by
  have l0 : BinOk (cnOf P w K mg base 1) .Add uAddM := bin_uAddM
  have l1 : BinOk (cnOf P w K mg base 1) .Mult uMul := bin_uMul
  have l2 : BinOk (cnOf P w K mg base 1) .Sub subI := bin_subI
  have l3 : CallOk (cnOf P w K mg base 1) "len" (opc lenD) := call_lenD (T.free "len" (by decide))
  have l4 : CallOk (cnOf P w K mg base 1) "list" (opc listD) := call_listD (T.free "list" (by decide))
  have l5 : CmpOk (cnOf P w K mg base 1) .Eq eqD := cmp_eqD
  have l6 : ItEx (cnOf P w K mg base 1) itU := it_itU
  have l7 : IxOk (cnOf P w K mg base 1) ixU := ix_ixU
  have l8 : MutOk (cnOf P w K mg base 1) "append" appD := mut_appD
  have l9 : SlOk (cnOf P w K mg base 1) slU := sl_slD
  have l10 : UnOk (cnOf P w K mg base 1) .USub negI := un_negI
  have c__law_take : CallOk (cnOf P w K mg base 1) "_law_take" F._law_take := (g__law_take T N c).call (by decide)
  obtain ⟨fd, D⟩ := c.def_ 24 (d := d__law_bent) rfl
  have lk : LkSs (cnOf P w K mg base 1) B__law_bent := by
    simp only [B__law_bent, L__law_bent_0, LkSs, LkS, LkE, LkEs, ItOk, and_self, l0, l1, l2, l3, l4, l5, l6, l7, l8, l9, l10, c__law_take]
  exact Good.as (good_of (x := "_law_bent") (ps := ["_law_pool_here", "_law_n", "_law_terms_here"]) (N := N__law_bent) D rfl rfl (T.glo "_law_bent" (by decide)) (fun _ _ _ _ _ _ us hl => match us, hl with | [_, _, _], _ => rfl) (by decide) sc__law_bent lk ok__law_bent) p__law_bent
theorem g__law_refused (T : TopOk td K mg) (N : NumOk td K) (c : He.SaysD [] fnA K) : Good P w K mg base 6 "_law_refused" ["_law_n", "_law_thing"] F._law_refused := by
  have l0 : CallOk (cnOf P w K mg base 5) "len" (opc lenD) := call_lenD (T.free "len" (by decide))
  have l1 : CmpOk (cnOf P w K mg base 5) .Eq eqD := cmp_eqD
  have l2 : FldOk (cnOf P w K mg base 5) "number" (f_num ini) := N.fld T
  have l3 : IsiOk (cnOf P w K mg base 5) (isiB ["bool"]) ["bool"] false := isiB_ok (T.free "isinstance" (by decide)) (T.free "bool" (by decide)) rfl
  have l4 : IsiOk (cnOf P w K mg base 5) (isiB ["list"]) ["list"] false := isiB_ok (T.free "isinstance" (by decide)) (T.free "list" (by decide)) rfl
  have l5 : IsiOk (cnOf P w K mg base 5) (isiK exc ["NoNumber", "NoTable"]) ["NoNumber", "NoTable"] true := T.isiN (cs := ["NoNumber", "NoTable"]) (by decide) (by decide) (by decide) (by decide)
  have l6 : IsiOk (cnOf P w K mg base 5) (isiK exc ["NoPoly"]) ["NoPoly"] false := T.isi1 (c := "NoPoly") (by decide) (by decide)
  have l7 : IsiOk (cnOf P w K mg base 5) (isiK exc ["ValueError"]) ["ValueError"] false := T.isi1 (c := "ValueError") (by decide) (.inr ⟨by decide, by decide, by decide⟩)
  have l8 : ItCl (cnOf P w K mg base 5) "range" 1 itRng1 := it_rng1 (T.free "range" (by decide))
  have l9 : IxOk (cnOf P w K mg base 5) ixU := ix_ixU
  have l10 : TryOk (cnOf P w K mg base 5) "KeepError" (subK exc "KeepError") := T.try_ (x := "KeepError") (by decide)
  have c__law_term : CallOk (cnOf P w K mg base 5) "_law_term" F._law_term := (g__law_term T N c).call (by decide)
  have c_poly : CallOk (cnOf P w K mg base 5) "poly" F.poly := (g_poly T N c).call (by decide)
  obtain ⟨fd, D⟩ := c.def_ 25 (d := d__law_refused) rfl
  have lk : LkSs (cnOf P w K mg base 5) B__law_refused := by
    simp only [B__law_refused, C__law_refused_0, LkSs, LkS, LkE, LkEs, ItOk, and_self, l0, l1, l2, l3, l4, l5, l6, l7, l8, l9, l10, c__law_term, c_poly]
  exact Good.as (good_of (x := "_law_refused") (ps := ["_law_n", "_law_thing"]) (N := N__law_refused) D rfl rfl (T.glo "_law_refused" (by decide)) (fun _ _ _ _ _ _ us hl => match us, hl with | [_, _], _ => rfl) (by decide) sc__law_refused lk ok__law_refused) p__law_refused
theorem g__law_told (T : TopOk td K mg) (N : NumOk td K) (c : He.SaysD [] fnA K) : Good P w K mg base 6 "_law_told" ["_law_n", "_law_terms_here"] F._law_told := by
  have l0 : CallOk (cnOf P w K mg base 5) "list" (opc listD) := call_listD (T.free "list" (by decide))
  have l1 : CmpOk (cnOf P w K mg base 5) .Eq eqD := cmp_eqD
  have l2 : CmpOk (cnOf P w K mg base 5) .IsNot nisD := cmp_nisD
  have l3 : CmpOk (cnOf P w K mg base 5) .NotEq neD := cmp_neD
  have l4 : MutOk (cnOf P w K mg base 5) "append" appD := mut_appD
  have c__law_made : CallOk (cnOf P w K mg base 5) "_law_made" F._law_made2 := (g__law_made T N c).call (by decide)
  have c__law_poly : CallOk (cnOf P w K mg base 5) "_law_poly" F._law_poly := (g__law_poly T N c).call (by decide)
  have c_is_poly : CallOk (cnOf P w K mg base 5) "is_poly" F.is_poly := (g_is_poly T N c).call (by decide)
  have c_poly : CallOk (cnOf P w K mg base 5) "poly" F.poly := (g_poly T N c).call (by decide)
  obtain ⟨fd, D⟩ := c.def_ 26 (d := d__law_told) rfl
  have lk : LkSs (cnOf P w K mg base 5) B__law_told := by
    simp only [B__law_told, LkSs, LkS, LkE, LkEs, ItOk, and_self, l0, l1, l2, l3, l4, c__law_made, c__law_poly, c_is_poly, c_poly]
  exact Good.as (good_of (x := "_law_told") (ps := ["_law_n", "_law_terms_here"]) (N := N__law_told) D rfl rfl (T.glo "_law_told" (by decide)) (fun _ _ _ _ _ _ us hl => match us, hl with | [_, _], _ => rfl) (by decide) sc__law_told lk ok__law_told) p__law_told
theorem g_law (T : TopOk td K mg) (N : NumOk td K) (c : He.SaysD [] fnA K) : Good P w K mg base 7 "law" ["_law_script"] (runF 1 15 B_law) := by
  have l0 : BinOk (cnOf P w K mg base 6) .Add uAdd := bin_uAdd
  have l1 : BinOk (cnOf P w K mg base 6) .FloorDiv divI := bin_divI
  have l2 : BinOk (cnOf P w K mg base 6) .Mult uMul := bin_uMul
  have l3 : BinOk (cnOf P w K mg base 6) .Sub subI := bin_subI
  have l4 : CallOk (cnOf P w K mg base 6) "len" (opc lenD) := call_lenD (T.free "len" (by decide))
  have l5 : CallOk (cnOf P w K mg base 6) "max" (opc maxD) := call_maxD (T.free "max" (by decide))
  have l6 : CallOk (cnOf P w K mg base 6) "min" (opc minD) := call_minD (T.free "min" (by decide))
  have l7 : CallOk (cnOf P w K mg base 6) "tuple" (opc tupleD) := call_tupleD (T.free "tuple" (by decide))
  have l8 : CmpOk (cnOf P w K mg base 6) .IsNot nisD := cmp_nisD
  have l9 : CmpOk (cnOf P w K mg base 6) .NotEq neD := cmp_neD
  have l10 : ItCl (cnOf P w K mg base 6) "range" 1 itRng1 := it_rng1 (T.free "range" (by decide))
  have l11 : ItEx (cnOf P w K mg base 6) itU := it_itU
  have l12 : IxOk (cnOf P w K mg base 6) ixU := ix_ixU
  have l13 : MutOk (cnOf P w K mg base 6) "append" appD := mut_appD
  have l14 : MutOk (cnOf P w K mg base 6) "insert" insD := mut_insD
  have l15 : SlOk (cnOf P w K mg base 6) slU := sl_slD
  have l16 : UnOk (cnOf P w K mg base 6) .USub negI := un_negI
  have c__law_bent : CallOk (cnOf P w K mg base 6) "_law_bent" F._law_bent := (g__law_bent T N c).call (by decide)
  have c__law_made : CallOk (cnOf P w K mg base 6) "_law_made" F._law_made2 := (g__law_made T N c).call (by decide)
  have c__law_poly : CallOk (cnOf P w K mg base 6) "_law_poly" F._law_poly := (g__law_poly T N c).call (by decide)
  have c__law_pool : CallOk (cnOf P w K mg base 6) "_law_pool" F._law_pool := (g__law_pool T N c).call (by decide)
  have c__law_refused : CallOk (cnOf P w K mg base 6) "_law_refused" F._law_refused := (g__law_refused T N c).call (by decide)
  have c__law_same : CallOk (cnOf P w K mg base 6) "_law_same" F._law_same := (g__law_same T N c).call (by decide)
  have c__law_take : CallOk (cnOf P w K mg base 6) "_law_take" F._law_take := (g__law_take T N c).call (by decide)
  have c__law_term : CallOk (cnOf P w K mg base 6) "_law_term" F._law_term := (g__law_term T N c).call (by decide)
  have c__law_terms : CallOk (cnOf P w K mg base 6) "_law_terms" F._law_terms := (g__law_terms T N c).call (by decide)
  have c__law_told : CallOk (cnOf P w K mg base 6) "_law_told" F._law_told := (g__law_told T N c).call (by decide)
  have c_is_poly : CallOk (cnOf P w K mg base 6) "is_poly" F.is_poly := (g_is_poly T N c).call (by decide)
  obtain ⟨fd, D⟩ := c.def_ 27 (d := d_law) rfl
  have lk : LkSs (cnOf P w K mg base 6) B_law := by
    simp only [B_law, C_law_0, C_law_1, L_law_1, L_law_0, LkSs, LkS, LkE, LkEs, ItOk, and_self, l0, l1, l2, l3, l4, l5, l6, l7, l8, l9, l10, l11, l12, l13, l14, l15, l16, c__law_bent, c__law_made, c__law_poly, c__law_pool, c__law_refused, c__law_same, c__law_take, c__law_term, c__law_terms, c__law_told, c_is_poly]
  exact good_of (x := "law") (ps := ["_law_script"]) (N := N_law) D rfl rfl (T.glo "law" (by decide)) (fun _ _ _ _ _ _ us hl => match us, hl with | [_], _ => rfl) (by decide) sc_law lk ok_law
end
end PM
open PySem PySem.W PySem.Calls PyProof.Rows
theorem PySem.Challenge.cw_keptbyturns_k02_polynomials_made_holds : PySem.Challenge.rw_keptbyturns_k02_polynomials_made.Holds := by
  w_on; o_law
  refine HandSHeadRun.head_any (r := OpenLaw.row PySem.Challenge.rw_keptbyturns_k02_polynomials_made) (q := view (OpenLaw.row PySem.Challenge.rw_keptbyturns_k02_polynomials_made).prog [37]) (H := PM.hk) (ob := PM.ob) (M := 6000) (loose := PM.looseA) (d := HandSHeadRun.topDef (OpenLaw.row PySem.Challenge.rw_keptbyturns_k02_polynomials_made).prog 37) (kwd := []) PM.ob_eq
    (by kernel_rfl) (fun s => by kernel_rfl) PM.headRun (by kernel_rfl) (by kernel_rfl) (by kernel_rfl) (by rfl) (by first | assumption | decide +kernel) (by decide +kernel) ⟨rfl, rfl, rfl, rfl, rfl, by decide +kernel⟩ ?hw ?hc
  case hw => w_witness2
  case hc =>
    refine PM.law_end2 (l := PySem.Challenge.rw_keptbyturns_k02_polynomials_made) (n := 63) (lv := 7) (x := "_law_script") (k := 15) (body := PM.B_law) (fn := PM.fnA) (td := PM.td) rfl (by decide) (by kernel_rfl) ⟨rfl, by decide, by decide⟩ (by kernel_rfl) (d := PM.d_law) (i := 27) rfl rfl rfl rfl (by decide) (fun _ _ _ _ _ _ us hl => match us, hl with | [_], _ => rfl) (fun hl => PM.p_law hl) ?_
    intro w K mg base T N c
    exact PM.g_law T N c
