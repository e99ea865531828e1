import PyProof.Rows.All
import Wide.All
import OpenK.AllK
import Wide.FinOn
import HandS.ForMost
import HandS.Wide
import HandS.Style
import KE.GoesZip
import KE.GoesEnum
import KE.GoesMore
import HandS.Zip
import HandS.Rev
import HandS.Iter
import HandS.TupAny
import HandS.TupMul
import HandS.IsInst
import HandS.WideMore
import KE.KBytesDec
import HandS.BytesMake
import HandS.EndTab
import HandS.ExcInit
import HandS.ExcField
import HandS.WordsExc
import KE.KExcSuper
import PySem.Challenge.RW_humless_k81_whole_broken_octets
set_option Elab.async false
set_option linter.all false
set_option maxRecDepth 100000
/-! Pu1: values as trees, slots, the relation to the layer's slots and heap; what an expression, a block is worth. -/
namespace Pu
open PySem PySem.Spec PyProof.Rows L2

/-- a value, whole -/
inductive PV where
  | non | bl (b : Bool) | int (i : Int) | str (x : Str) | ty (n : String) | tup (xs : List PV) | lst (xs : List PV)
  | dT (ks : List (List Key)) (xs : List PV) | dK (ks : List Key) (xs : List PV) | ob (C : Addr) (ns : List Str) (xs : List PV) | scr (ns : List Int)

/-- what may still change -/
inductive OB where
  | lst (xs : List PV) | dT (ks : List (List Key)) (xs : List PV) | dK (ks : List Key) (xs : List PV) | ob (C : Addr) (ns : List Str) (xs : List PV)
def OB.pv : OB → PV
  | .lst xs => .lst xs
  | .dT ks xs => .dT ks xs
  | .dK ks xs => .dK ks xs
  | .ob C ns xs => .ob C ns xs
/-- a slot: a value that nobody changes; an object of this frame's own; a parameter that the caller lends -/
inductive SV where
  | val (p : PV) | own (o : OB) | par (o : OB)
abbrev Env := List (Option SV)
structure EX where
  cls : Str
  arg : PV
inductive Res (α : Type) where
  | ok (a : α) | exc (x : EX) | bad
@[inline] def Res.bind {α β : Type} (r : Res α) (f : α → Res β) : Res β :=
  match r with
  | .ok a => f a
  | .exc x => .exc x
  | .bad => .bad
@[simp] theorem Res.bind_ok {α β : Type} (a : α) (f : α → Res β) : (Res.ok a).bind f = f a := rfl
@[simp] theorem Res.bind_exc {α β : Type} (x : EX) (f : α → Res β) : (Res.exc x : Res α).bind f = .exc x := rfl
@[simp] theorem Res.bind_bad {α β : Type} (f : α → Res β) : (Res.bad : Res α).bind f = .bad := rfl
/-- what an expression hands on: a value; what stands in an own slot; a new own object -/
inductive RV where
  | val (p : PV) | bor (i : Nat) | new (o : OB)
abbrev M := Env → Res (RV × Env)
inductive Fl where
  | nx | rt (r : RV) | bk | ct
abbrev MS := Env → Res (Fl × Env)

mutual
def RepV (K : PySem.W.Frag) (F : Hp) : PV → V → Prop
  | .non, v => v = .non
  | .bl b, v => v = .bl b
  | .int i, v => v = .int i
  | .str x, v => v = .str x
  | .ty n, v => v = .ty n
  | .tup xs, v => ∃ a vs, v = .ref a ∧ F a = some (.tup vs) ∧ RepVs K F xs vs
  | .lst xs, v => ∃ a vs, v = .ref a ∧ F a = some (.lst vs) ∧ RepVs K F xs vs
  | .dT ks xs, v => ∃ a vs, v = .ref a ∧ F a = some (.dT (ks.zip vs)) ∧ ks.length = vs.length ∧ RepVs K F xs vs
  | .dK ks xs, v => ∃ a vs, v = .ref a ∧ F a = some (.dK (ks.zip vs)) ∧ ks.length = vs.length ∧ RepVs K F xs vs
  | .ob C ns xs, v => ∃ a dx vs, v = .ref a ∧ F a = some (.ins C dx (ns.zip vs)) ∧ ns.length = vs.length ∧ RepVs K F xs vs
  | .scr ns, v => ∃ a, v = .ref a ∧ SqL K F a (ns.map V.int)
def RepVs (K : PySem.W.Frag) (F : Hp) : List PV → List V → Prop
  | [], vs => vs = []
  | x :: xs, vs => ∃ v r, vs = v :: r ∧ RepV K F x v ∧ RepVs K F xs r
end
/-- what is known of the heap that stays: dicts may be locked -/
def FH (F H : Hp) : Prop := ∀ a u, F a = some u → H a = some u ∨ (((∃ kvs, u = .dT kvs) ∨ (∃ kvs, u = .dK kvs)) ∧ ∃ o, H a = some (.frz o u))

theorem sqL_mono {K : PySem.W.Frag} {F F' : Hp} (h : Same F F') {a : Addr} {vs : List V} (q : SqL K F a vs) : SqL K F' a vs := h.seq q
theorem sqT_mono {K : PySem.W.Frag} {F F' : Hp} (h : Same F F') {a : Addr} {vs : List V} (q : SqT K F a vs) : SqT K F' a vs := by
  rcases q with (q | ⟨o, q⟩) | q
  · exact .inl (.inl (h _ _ q))
  · exact .inl (.inr ⟨o, h _ _ q⟩)
  · exact .inr q
theorem sqL_fh {K : PySem.W.Frag} {F H : Hp} (h : FH F H) {a : Addr} {vs : List V} (q : SqL K F a vs) : SqL K H a vs := by
  rcases q with (q | ⟨o, q⟩) | q
  · rcases h _ _ q with e | ⟨(⟨_, e⟩ | ⟨_, e⟩), _⟩
    · exact .inl (.inl e)
    · cases e
    · cases e
  · rcases h _ _ q with e | ⟨(⟨_, e⟩ | ⟨_, e⟩), _⟩
    · exact .inl (.inr ⟨o, e⟩)
    · cases e
    · cases e
  · exact .inr q
theorem sqT_fh {K : PySem.W.Frag} {F H : Hp} (h : FH F H) {a : Addr} {vs : List V} (q : SqT K F a vs) : SqT K H a vs := by
  rcases q with (q | ⟨o, q⟩) | q
  · rcases h _ _ q with e | ⟨(⟨_, e⟩ | ⟨_, e⟩), _⟩
    · exact .inl (.inl e)
    · cases e
    · cases e
  · rcases h _ _ q with e | ⟨(⟨_, e⟩ | ⟨_, e⟩), _⟩
    · exact .inl (.inr ⟨o, e⟩)
    · cases e
    · cases e
  · exact .inr q
theorem Same.fh {F F' H : Hp} (h : Same F F') (q : FH F' H) : FH F H := fun a u e => q a u (h a u e)

mutual
theorem RepV.mono {K : PySem.W.Frag} {F F' : Hp} (h : Same F F') : ∀ {p : PV} {v : V}, RepV K F p v → RepV K F' p v
  | .non, v, q => by unfold RepV at q ⊢; exact q
  | .bl b, v, q => by unfold RepV at q ⊢; exact q
  | .int i, v, q => by unfold RepV at q ⊢; exact q
  | .str i, v, q => by unfold RepV at q ⊢; exact q
  | .ty i, v, q => by unfold RepV at q ⊢; exact q
  | .tup xs, v, q => by
    unfold RepV at q ⊢
    obtain ⟨a, vs, e, s, r⟩ := q
    exact ⟨a, vs, e, h _ _ s, RepVs.mono h r⟩
  | .lst xs, v, q => by
    unfold RepV at q ⊢
    obtain ⟨a, vs, e, s, r⟩ := q
    exact ⟨a, vs, e, h _ _ s, RepVs.mono h r⟩
  | .dT ks xs, v, q => by
    unfold RepV at q ⊢
    obtain ⟨a, vs, e, s, l, r⟩ := q
    exact ⟨a, vs, e, h _ _ s, l, RepVs.mono h r⟩
  | .dK ks xs, v, q => by
    unfold RepV at q ⊢
    obtain ⟨a, vs, e, s, l, r⟩ := q
    exact ⟨a, vs, e, h _ _ s, l, RepVs.mono h r⟩
  | .ob C ns xs, v, q => by
    unfold RepV at q ⊢
    obtain ⟨a, dx, vs, e, s, l, r⟩ := q
    exact ⟨a, dx, vs, e, h _ _ s, l, RepVs.mono h r⟩
  | .scr ns, v, q => by
    unfold RepV at q ⊢
    obtain ⟨a, e, s⟩ := q
    exact ⟨a, e, sqL_mono h s⟩
theorem RepVs.mono {K : PySem.W.Frag} {F F' : Hp} (h : Same F F') : ∀ {p : List PV} {v : List V}, RepVs K F p v → RepVs K F' p v
  | [], v, q => by unfold RepVs at q ⊢; exact q
  | x :: xs, v, q => by
    unfold RepVs at q ⊢
    obtain ⟨a, r, e, s, t⟩ := q
    exact ⟨a, r, e, RepV.mono h s, RepVs.mono h t⟩
end
theorem RepVs.nil {K : PySem.W.Frag} {F : Hp} : RepVs K F [] [] := by unfold RepVs; rfl
theorem RepVs.cons {K : PySem.W.Frag} {F : Hp} {x : PV} {xs : List PV} {v : V} {vs : List V} (h : RepV K F x v) (t : RepVs K F xs vs) : RepVs K F (x :: xs) (v :: vs) := by
  unfold RepVs
  exact ⟨v, vs, rfl, h, t⟩
theorem RepVs.nil_inv {K : PySem.W.Frag} {F : Hp} {vs : List V} (h : RepVs K F [] vs) : vs = [] := by unfold RepVs at h; exact h
theorem RepVs.cons_inv {K : PySem.W.Frag} {F : Hp} {x : PV} {xs : List PV} {vs : List V} (h : RepVs K F (x :: xs) vs) : ∃ v r, vs = v :: r ∧ RepV K F x v ∧ RepVs K F xs r := by unfold RepVs at h; exact h
theorem RepVs.length {K : PySem.W.Frag} {F : Hp} : ∀ {xs : List PV} {vs : List V}, RepVs K F xs vs → xs.length = vs.length
  | [], _, h => by rw [h.nil_inv]; rfl
  | x :: xs, _, h => by
    obtain ⟨v, r, rfl, _, t⟩ := h.cons_inv
    simp [t.length]
theorem RepVs.get {K : PySem.W.Frag} {F : Hp} : ∀ {xs : List PV} {vs : List V} {i : Nat} {x : PV}, RepVs K F xs vs → xs[i]? = some x → ∃ v, vs[i]? = some v ∧ RepV K F x v
  | [], _, _, _, h, e => by simp at e
  | x :: xs, _, 0, y, h, e => by
    obtain ⟨v, r, rfl, q, t⟩ := h.cons_inv
    simp at e
    subst e
    exact ⟨v, rfl, q⟩
  | x :: xs, _, i + 1, y, h, e => by
    obtain ⟨v, r, rfl, q, t⟩ := h.cons_inv
    have := t.get (i := i) (x := y) (by simpa using e)
    simpa using this
theorem RepVs.get' {K : PySem.W.Frag} {F : Hp} {xs : List PV} {vs : List V} {i : Nat} {v : V} (h : RepVs K F xs vs) (e : vs[i]? = some v) : ∃ x, xs[i]? = some x ∧ RepV K F x v := by
  have hl := h.length
  have hi : i < vs.length := (List.getElem?_eq_some_iff.mp e).1
  obtain ⟨v', e', q⟩ := h.get (i := i) (x := xs[i]'(by omega)) (List.getElem?_eq_getElem (by omega))
  rw [e] at e'
  cases e'
  exact ⟨_, List.getElem?_eq_getElem (by omega), q⟩
theorem RepVs.append {K : PySem.W.Frag} {F : Hp} : ∀ {xs ys : List PV} {vs ws : List V}, RepVs K F xs vs → RepVs K F ys ws → RepVs K F (xs ++ ys) (vs ++ ws)
  | [], _, _, _, h, t => by rw [h.nil_inv]; exact t
  | x :: xs, _, _, _, h, t => by
    obtain ⟨v, r, rfl, q, u⟩ := h.cons_inv
    exact .cons q (u.append t)
theorem RepVs.take {K : PySem.W.Frag} {F : Hp} : ∀ {xs : List PV} {vs : List V} (n : Nat), RepVs K F xs vs → RepVs K F (xs.take n) (vs.take n)
  | _, _, 0, h => by simp; exact .nil
  | [], _, n + 1, h => by rw [h.nil_inv]; exact .nil
  | x :: xs, _, n + 1, h => by
    obtain ⟨v, r, rfl, q, u⟩ := h.cons_inv
    exact .cons q (u.take n)
theorem RepVs.drop {K : PySem.W.Frag} {F : Hp} : ∀ {xs : List PV} {vs : List V} (n : Nat), RepVs K F xs vs → RepVs K F (xs.drop n) (vs.drop n)
  | _, _, 0, h => by simpa using h
  | [], _, n + 1, h => by rw [h.nil_inv]; exact .nil
  | x :: xs, _, n + 1, h => by
    obtain ⟨v, r, rfl, q, u⟩ := h.cons_inv
    exact u.drop n
theorem RepVs.set {K : PySem.W.Frag} {F : Hp} : ∀ {xs : List PV} {vs : List V} (n : Nat) {x : PV} {v : V}, RepVs K F xs vs → RepV K F x v → RepVs K F (xs.set n x) (vs.set n v)
  | [], _, _, _, _, h, _ => by rw [h.nil_inv]; exact .nil
  | y :: xs, _, 0, _, _, h, q => by
    obtain ⟨w, r, rfl, p, u⟩ := h.cons_inv
    exact .cons q u
  | y :: xs, _, n + 1, _, _, h, q => by
    obtain ⟨w, r, rfl, p, u⟩ := h.cons_inv
    exact .cons p (u.set n q)
theorem RepVs.replicate {K : PySem.W.Frag} {F : Hp} {x : PV} {v : V} (h : RepV K F x v) : ∀ n, RepVs K F (List.replicate n x) (List.replicate n v)
  | 0 => .nil
  | n + 1 => .cons h (RepVs.replicate h n)
theorem RepVs.reverse {K : PySem.W.Frag} {F : Hp} : ∀ {xs : List PV} {vs : List V}, RepVs K F xs vs → RepVs K F xs.reverse vs.reverse
  | [], _, h => by rw [h.nil_inv]; exact .nil
  | x :: xs, _, h => by
    obtain ⟨v, r, rfl, q, u⟩ := h.cons_inv
    rw [List.reverse_cons, List.reverse_cons]
    exact u.reverse.append (.cons q .nil)

/-- an own object at a -/
def RepO (K : PySem.W.Frag) (F H : Hp) (a : Addr) : OB → Prop
  | .lst xs => ∃ vs, H a = some (.lst vs) ∧ RepVs K F xs vs
  | .dT ks xs => ∃ vs, H a = some (.dT (ks.zip vs)) ∧ ks.length = vs.length ∧ RepVs K F xs vs
  | .dK ks xs => ∃ vs, H a = some (.dK (ks.zip vs)) ∧ ks.length = vs.length ∧ RepVs K F xs vs
  | .ob C ns xs => ∃ vs, (∃ dx, H a = some (.ins C dx (ns.zip vs))) ∧ ns.length = vs.length ∧ RepVs K F xs vs
theorem RepO.there {K : PySem.W.Frag} {F H : Hp} {a : Addr} {o : OB} (h : RepO K F H a o) : H a ≠ none := by
  intro z
  cases o with
  | lst xs => obtain ⟨_, e, _⟩ := h; rw [z] at e; cases e
  | dT ks xs => obtain ⟨_, e, _⟩ := h; rw [z] at e; cases e
  | dK ks xs => obtain ⟨_, e, _⟩ := h; rw [z] at e; cases e
  | ob C ns xs => obtain ⟨_, ⟨_, e⟩, _⟩ := h; rw [z] at e; cases e
theorem RepO.mono {K : PySem.W.Frag} {F F' H H' : Hp} {a : Addr} {o : OB} (h : RepO K F H a o) (f : Same F F') (e : H' a = H a) : RepO K F' H' a o := by
  cases o with
  | lst xs => obtain ⟨vs, q, r⟩ := h; exact ⟨vs, e.trans q, r.mono f⟩
  | dT ks xs => obtain ⟨vs, q, l, r⟩ := h; exact ⟨vs, e.trans q, l, r.mono f⟩
  | dK ks xs => obtain ⟨vs, q, l, r⟩ := h; exact ⟨vs, e.trans q, l, r.mono f⟩
  | ob C ns xs => obtain ⟨vs, ⟨dx, q⟩, l, r⟩ := h; exact ⟨vs, ⟨dx, e.trans q⟩, l, r.mono f⟩
/-- what may be read: a value, or what stands at an own object -/
def RepB (K : PySem.W.Frag) (F H : Hp) : PV → V → Prop
  | .lst xs, v => ∃ a vs, v = .ref a ∧ H a = some (.lst vs) ∧ RepVs K F xs vs
  | .dT ks xs, v => ∃ a vs, v = .ref a ∧ Rd H a (.dT (ks.zip vs)) ∧ ks.length = vs.length ∧ RepVs K F xs vs
  | .dK ks xs, v => ∃ a vs, v = .ref a ∧ Rd H a (.dK (ks.zip vs)) ∧ ks.length = vs.length ∧ RepVs K F xs vs
  | .ob C ns xs, v => ∃ a vs, v = .ref a ∧ (∃ dx, H a = some (.ins C dx (ns.zip vs))) ∧ ns.length = vs.length ∧ RepVs K F xs vs
  | p, v => RepV K F p v
theorem FH.rdT {F H : Hp} (h : FH F H) {a : Addr} {kvs : List (List Key × V)} (e : F a = some (.dT kvs)) : Rd H a (.dT kvs) := by
  rcases h _ _ e with q | ⟨_, o, q⟩
  · exact .inl q
  · exact .inr ⟨o, q⟩
theorem FH.rdK {F H : Hp} (h : FH F H) {a : Addr} {kvs : List (Key × V)} (e : F a = some (.dK kvs)) : Rd H a (.dK kvs) := by
  rcases h _ _ e with q | ⟨_, o, q⟩
  · exact .inl q
  · exact .inr ⟨o, q⟩
theorem FH.tup {F H : Hp} (h : FH F H) {a : Addr} {vs : List V} (e : F a = some (.tup vs)) : H a = some (.tup vs) := by
  rcases h _ _ e with q | ⟨(⟨_, z⟩ | ⟨_, z⟩), _⟩
  · exact q
  · cases z
  · cases z
theorem FH.lst {F H : Hp} (h : FH F H) {a : Addr} {vs : List V} (e : F a = some (.lst vs)) : H a = some (.lst vs) := by
  rcases h _ _ e with q | ⟨(⟨_, z⟩ | ⟨_, z⟩), _⟩
  · exact q
  · cases z
  · cases z
theorem FH.ins {F H : Hp} (h : FH F H) {a C dx : Addr} {fs : List (Str × V)} (e : F a = some (.ins C dx fs)) : H a = some (.ins C dx fs) := by
  rcases h _ _ e with q | ⟨(⟨_, z⟩ | ⟨_, z⟩), _⟩
  · exact q
  · cases z
  · cases z
theorem RepV.b {K : PySem.W.Frag} {F H : Hp} (h : FH F H) {p : PV} {v : V} (q : RepV K F p v) : RepB K F H p v := by
  cases p with
  | lst xs =>
    unfold RepV at q
    obtain ⟨a, vs, e, s, r⟩ := q
    exact ⟨a, vs, e, h.lst s, r⟩
  | dT ks xs =>
    unfold RepV at q
    obtain ⟨a, vs, e, s, l, r⟩ := q
    exact ⟨a, vs, e, h.rdT s, l, r⟩
  | dK ks xs =>
    unfold RepV at q
    obtain ⟨a, vs, e, s, l, r⟩ := q
    exact ⟨a, vs, e, h.rdK s, l, r⟩
  | ob C ns xs =>
    unfold RepV at q
    obtain ⟨a, dx, vs, e, s, l, r⟩ := q
    exact ⟨a, vs, e, ⟨dx, h.ins s⟩, l, r⟩
  | _ => exact q
theorem RepO.b {K : PySem.W.Frag} {F H : Hp} {a : Addr} {o : OB} (q : RepO K F H a o) : RepB K F H o.pv (.ref a) := by
  cases o with
  | lst xs => obtain ⟨vs, e, r⟩ := q; exact ⟨a, vs, rfl, e, r⟩
  | dT ks xs => obtain ⟨vs, e, l, r⟩ := q; exact ⟨a, vs, rfl, .inl e, l, r⟩
  | dK ks xs => obtain ⟨vs, e, l, r⟩ := q; exact ⟨a, vs, rfl, .inl e, l, r⟩
  | ob C ns xs => obtain ⟨vs, e, l, r⟩ := q; exact ⟨a, vs, rfl, e, l, r⟩
/-- an own object, laid to what stays -/
theorem RepO.freeze {K : PySem.W.Frag} {F H : Hp} {a : Addr} {o : OB} (q : RepO K F H a o) (n : F a = none) (h : FH F H) :
    ∃ F', Same F F' ∧ (∀ b, b ≠ a → F' b = F b) ∧ FH F' H ∧ RepV K F' o.pv (.ref a) := by
  obtain ⟨u, hu⟩ : ∃ u, H a = some u := Option.ne_none_iff_exists'.mp q.there
  have hs : Same F (upd F a u) := fun b x e => by
    rw [upd_ne (ne_of_none e n)]
    exact e
  refine ⟨upd F a u, hs, fun b hb => upd_ne hb, fun b x e => ?_, ?_⟩
  · by_cases hb : b = a
    · subst hb
      rw [upd_same] at e
      cases e
      exact .inl hu
    · rw [upd_ne hb] at e
      exact h b x e
  · cases o with
    | lst xs =>
      obtain ⟨vs, e, r⟩ := q
      rw [hu] at e
      cases e
      unfold OB.pv RepV
      exact ⟨a, vs, rfl, upd_same, r.mono hs⟩
    | dT ks xs =>
      obtain ⟨vs, e, l, r⟩ := q
      rw [hu] at e
      cases e
      unfold OB.pv RepV
      exact ⟨a, vs, rfl, upd_same, l, r.mono hs⟩
    | dK ks xs =>
      obtain ⟨vs, e, l, r⟩ := q
      rw [hu] at e
      cases e
      unfold OB.pv RepV
      exact ⟨a, vs, rfl, upd_same, l, r.mono hs⟩
    | ob C ns xs =>
      obtain ⟨vs, ⟨dx, e⟩, l, r⟩ := q
      rw [hu] at e
      cases e
      unfold OB.pv RepV
      exact ⟨a, dx, vs, rfl, upd_same, l, r.mono hs⟩

/-! ### slots -/
def SlotR (K : PySem.W.Frag) (F H : Hp) : SV → V → Prop
  | .val p, v => RepV K F p v
  | .own o, v => ∃ a, v = .ref a ∧ F a = none ∧ RepO K F H a o
  | .par o, v => ∃ a, v = .ref a ∧ F a = none ∧ RepO K F H a o
def OwnAt (ρ : Env) (σ : L2.St) (i : Nat) (a : Addr) : Prop := ((∃ o, ρ[i]? = some (some (.own o))) ∨ ∃ o, ρ[i]? = some (some (.par o))) ∧ σ[i]? = some (some (.ref a))
def Own (ρ : Env) (σ : L2.St) (a : Addr) : Prop := ∃ i, OwnAt ρ σ i a
/-- .. of the frame's own alone, not lent -/
def OwnL (ρ : Env) (σ : L2.St) (a : Addr) : Prop := ∃ (i : Nat) (o : OB), ρ[i]? = some (some (.own o)) ∧ σ[i]? = some (some (.ref a))
theorem OwnL.own {ρ : Env} {σ : L2.St} {a : Addr} (h : OwnL ρ σ a) : Own ρ σ a := let ⟨i, o, e, q⟩ := h; ⟨i, .inl ⟨o, e⟩, q⟩
structure Rel (K : PySem.W.Frag) (F H : Hp) (ρ : Env) (σ : L2.St) : Prop where
  len : ρ.length = σ.length
  slot : ∀ (i : Nat) (s : SV), ρ[i]? = some (some s) → ∃ v, σ[i]? = some (some v) ∧ SlotR K F H s v
  fh : FH F H
  inj : ∀ (i j : Nat) (a : Addr), OwnAt ρ σ i a → OwnAt ρ σ j a → i = j
theorem Rel.own {K : PySem.W.Frag} {F H : Hp} {ρ : Env} {σ : L2.St} (R : Rel K F H ρ σ) {i : Nat} {a : Addr} (h : OwnAt ρ σ i a) : F a = none ∧ ∃ o, (ρ[i]? = some (some (.own o)) ∨ ρ[i]? = some (some (.par o))) ∧ RepO K F H a o := by
  obtain ⟨(⟨o, e⟩ | ⟨o, e⟩), q⟩ := h
  · obtain ⟨v, e1, b, rfl, n, r⟩ := R.slot i _ e
    rw [q] at e1
    cases e1
    exact ⟨n, o, .inl e, r⟩
  · obtain ⟨v, e1, b, rfl, n, r⟩ := R.slot i _ e
    rw [q] at e1
    cases e1
    exact ⟨n, o, .inr e, r⟩
theorem Rel.ownF {K : PySem.W.Frag} {F H : Hp} {ρ : Env} {σ : L2.St} (R : Rel K F H ρ σ) {a : Addr} (h : Own ρ σ a) : F a = none := let ⟨_, q⟩ := h; (R.own q).1
theorem Rel.ownH {K : PySem.W.Frag} {F H : Hp} {ρ : Env} {σ : L2.St} (R : Rel K F H ρ σ) {a : Addr} (h : Own ρ σ a) : H a ≠ none := let ⟨_, q⟩ := h; let ⟨_, _, _, r⟩ := R.own q; r.there

/-- free, or a tuple (it never changes) -/
def Fre (H : Hp) (a : Addr) : Prop := H a = none ∨ ∃ xs, H a = some (.tup xs)
theorem RepO.nfre {K : PySem.W.Frag} {F H : Hp} {a : Addr} {o : OB} (h : RepO K F H a o) : ¬ Fre H a := by
  rintro (z | ⟨xs, z⟩)
  · exact h.there z
  · cases o with
    | lst xs => obtain ⟨_, e, _⟩ := h; rw [z] at e; cases e
    | dT ks xs => obtain ⟨_, e, _⟩ := h; rw [z] at e; cases e
    | dK ks xs => obtain ⟨_, e, _⟩ := h; rw [z] at e; cases e
    | ob C ns xs => obtain ⟨_, ⟨_, e⟩, _⟩ := h; rw [z] at e; cases e
theorem Rel.ownN {K : PySem.W.Frag} {F H : Hp} {ρ : Env} {σ : L2.St} (R : Rel K F H ρ σ) {a : Addr} (h : Own ρ σ a) : ¬ Fre H a := let ⟨_, q⟩ := h; let ⟨_, _, _, r⟩ := R.own q; r.nfre
/-- how things may move on: what stays grows; what is new was free or own; all else stands -/
structure Step (O : Addr → Prop) (F H F' H' : Hp) : Prop where
  ff : Same F F'
  new : ∀ a, F' a ≠ none → F a ≠ none ∨ Fre H a ∨ O a
  fr : ∀ a o, H a = some o → ¬ O a → H' a = some o
  th : ∀ a, H a ≠ none → H' a ≠ none
theorem Step.refl (O : Addr → Prop) (F H : Hp) : Step O F H F H := ⟨Same.refl F, fun _ h => .inl h, fun _ _ h _ => h, fun _ h => h⟩
theorem Step.trans {O O1 : Addr → Prop} {F H F1 H1 F2 H2 : Hp} (a : Step O F H F1 H1) (ho : ∀ x, O1 x → O x ∨ H x = none) (b : Step O1 F1 H1 F2 H2) : Step O F H F2 H2 where
  ff := a.ff.trans b.ff
  new := fun x h => by
    rcases b.new x h with q | q | q
    · exact a.new x q
    · cases e : H x with
      | none => exact .inr (.inl (.inl e))
      | some u =>
        by_cases hx : O x
        · exact .inr (.inr hx)
        · refine .inr (.inl (.inr ?_))
          have e1 := a.fr x u e hx
          rcases q with q | ⟨xs, q⟩
          · rw [e1] at q; cases q
          · rw [e1] at q
            cases q
            exact ⟨xs, e⟩
    · rcases ho x q with z | z
      · exact .inr (.inr z)
      · exact .inr (.inl (.inl z))
  fr := fun x o h n => b.fr x o (a.fr x o h n) fun z => by
    rcases ho x z with q | q
    · exact n q
    · rw [h] at q; cases q
  th := fun x h => b.th x (a.th x h)
theorem Step.mono {O O1 : Addr → Prop} {F H F1 H1 : Hp} (a : Step O F H F1 H1) (ho : ∀ x, O x → O1 x) : Step O1 F H F1 H1 :=
  ⟨a.ff, fun x h => (a.new x h).imp id (Or.imp id (ho x)), fun x o h n => a.fr x o h fun z => n (ho x z), a.th⟩
/-- .. with the slots -/
structure ES (K : PySem.W.Frag) (ρ : Env) (σ : L2.St) (F H : Hp) (ρ' : Env) (σ' : L2.St) (F' H' : Hp) : Prop where
  st : Step (Own ρ σ) F H F' H'
  rel : Rel K F' H' ρ' σ'
  own : ∀ a, Own ρ' σ' a → Own ρ σ a ∨ H a = none
  ownl : ∀ a, OwnL ρ' σ' a → OwnL ρ σ a ∨ H a = none
  par : ∀ (i : Nat) (o' : OB), ρ'[i]? = some (some (.par o')) → (∃ o, ρ[i]? = some (some (.par o))) ∧ σ'[i]? = σ[i]?
theorem ES.refl {K : PySem.W.Frag} {ρ : Env} {σ : L2.St} {F H : Hp} (R : Rel K F H ρ σ) : ES K ρ σ F H ρ σ F H := ⟨Step.refl _ _ _, R, fun _ h => .inl h, fun _ h => .inl h, fun i o e => ⟨⟨o, e⟩, rfl⟩⟩

theorem ES.trans {K : PySem.W.Frag} {ρ ρ1 ρ2 : Env} {σ σ1 σ2 : L2.St} {F H F1 H1 F2 H2 : Hp} (a : ES K ρ σ F H ρ1 σ1 F1 H1) (b : ES K ρ1 σ1 F1 H1 ρ2 σ2 F2 H2) : ES K ρ σ F H ρ2 σ2 F2 H2 where
  st := a.st.trans a.own b.st
  rel := b.rel
  own := fun x h => by
    rcases b.own x h with q | q
    · exact a.own x q
    · refine .inr ?_
      cases e : H x with
      | none => rfl
      | some u => exact absurd q (a.st.th x (by rw [e]; simp))
  ownl := fun x h => by
    rcases b.ownl x h with q | q
    · exact a.ownl x q
    · refine .inr ?_
      cases e : H x with
      | none => rfl
      | some u => exact absurd q (a.st.th x (by rw [e]; simp))
  par := fun i o h => by
    obtain ⟨⟨o1, e1⟩, q1⟩ := b.par i o h
    obtain ⟨q0, e0⟩ := a.par i o1 e1
    exact ⟨q0, q1.trans e0⟩
theorem ES.free {K : PySem.W.Frag} {ρ ρ1 : Env} {σ σ1 : L2.St} {F H F1 H1 : Hp} (a : ES K ρ σ F H ρ1 σ1 F1 H1) {x : Addr} (h : H1 x = none) : H x = none := by
  cases e : H x with
  | none => rfl
  | some u => exact absurd h (a.st.th x (by rw [e]; simp))

theorem SlotR.mono {K : PySem.W.Frag} {F F' H H' : Hp} {s : SV} {v : V} (h : SlotR K F H s v) (f : Same F F') (e : ∀ a, F a = none → v = .ref a → (∀ p, s ≠ .val p) → F' a = none ∧ H' a = H a) : SlotR K F' H' s v := by
  cases s with
  | val p => exact RepV.mono f h
  | own o =>
    obtain ⟨a, rfl, n, r⟩ := h
    obtain ⟨n', e'⟩ := e a n rfl (fun _ z => nomatch z)
    exact ⟨a, rfl, n', r.mono f e'⟩
  | par o =>
    obtain ⟨a, rfl, n, r⟩ := h
    obtain ⟨n', e'⟩ := e a n rfl (fun _ z => nomatch z)
    exact ⟨a, rfl, n', r.mono f e'⟩
theorem OwnAt.of {ρ : Env} {σ : L2.St} {i : Nat} {s : SV} {a : Addr} (h : ρ[i]? = some (some s)) (hs : ∀ p, s ≠ .val p) (q : σ[i]? = some (some (.ref a))) : OwnAt ρ σ i a := by
  cases s with
  | val p => exact absurd rfl (hs p)
  | own o => exact ⟨.inl ⟨o, h⟩, q⟩
  | par o => exact ⟨.inr ⟨o, h⟩, q⟩
/-- the world goes on beside the slots -/
theorem Rel.go {K : PySem.W.Frag} {ρ : Env} {σ : L2.St} {F H F' H' : Hp} (R : Rel K F H ρ σ) (f : Same F F') (fh : FH F' H') (e : ∀ a, Own ρ σ a → F' a = none ∧ H' a = H a) : Rel K F' H' ρ σ :=
  ⟨R.len, fun i s h => by
    obtain ⟨v, q, r⟩ := R.slot i s h
    exact ⟨v, q, r.mono f fun a n ev hs => by
      subst ev
      exact e a ⟨i, .of h hs q⟩⟩, fh, R.inj⟩
theorem ES.go {K : PySem.W.Frag} {ρ ρ' : Env} {σ σ' : L2.St} {F H F1 H1 F2 H2 : Hp} (a : ES K ρ σ F H ρ' σ' F1 H1) (f : Same F1 F2) (fh : FH F2 H2) (e : ∀ x, Own ρ' σ' x → F2 x = none ∧ H2 x = H1 x)
    (new : ∀ x, F2 x ≠ none → F1 x ≠ none ∨ Fre H x ∨ Own ρ σ x) (fr : ∀ x o, H x = some o → ¬ Own ρ σ x → H1 x = some o → H2 x = some o) (th : ∀ x, H1 x ≠ none → H2 x ≠ none) : ES K ρ σ F H ρ' σ' F2 H2 where
  st := ⟨a.st.ff.trans f, fun x h => (new x h).elim (a.st.new x) .inr, fun x o h n => fr x o h n (a.st.fr x o h n), fun x h => th x (a.st.th x h)⟩
  rel := a.rel.go f fh e
  own := a.own
  ownl := a.ownl
  par := a.par
/-! ### what a reading by a pure meaning is -/
abbrev WX := EX → Hp → Hp → Prop
def Ok {α : Type} (W : WX) (ρ : Env) (σ : L2.St) (F H : Hp) (res : Res α) (R : α → Prop) : Prop :=
  match res with
  | .ok a => R a
  | .exc x => ∀ F' H', Step (Own ρ σ) F H F' H' → FH F' H' → W x F' H'
  | .bad => False
section
variable {α β : Type} {W : WX} {K : PySem.W.Frag} {ρ ρ1 : Env} {σ σ1 : L2.St} {F H F1 H1 : Hp}
theorem Ok.of_bind {x : Res α} {f : α → Res β} {R : β → Prop} (h : Ok W ρ σ F H (x.bind f) R) : Ok W ρ σ F H x fun a => Ok W ρ σ F H (f a) R := by
  cases x with
  | ok a => exact h
  | exc e => exact h
  | bad => exact h
theorem Ok.mono {x : Res α} {R R' : α → Prop} (h : Ok W ρ σ F H x R) (i : ∀ a, R a → R' a) : Ok W ρ σ F H x R' := by
  cases x with
  | ok a => exact i a h
  | exc e => exact h
  | bad => exact h
theorem Ok.shift {x : Res α} {R : α → Prop} (h : Ok W ρ σ F H x R) (e : ES K ρ σ F H ρ1 σ1 F1 H1) : Ok W ρ1 σ1 F1 H1 x R := by
  cases x with
  | ok a => exact h
  | exc y => exact fun F' H' s fh => h F' H' (e.st.trans e.own s) fh
  | bad => exact h
end
/-- what an expression hands on, as a value of the layer -/
def RepR (K : PySem.W.Frag) (fr : Addr → Prop) (F H : Hp) (ρ : Env) (σ : L2.St) : RV → V → Prop
  | .val p, v => RepV K F p v
  | .bor i, v => σ[i]? = some (some v)
  | .new o, v => ∃ a, v = .ref a ∧ F a = none ∧ fr a ∧ ¬ Own ρ σ a ∧ RepO K F H a o
abbrev Free (H : Hp) : Addr → Prop := fun a => H a = none
def tM (K : PySem.W.Frag) (W : WX) (m : M) : TE := fun σ H Q => ∃ ρ F, Rel K F H ρ σ ∧ Ok W ρ σ F H (m ρ) fun p =>
  ∀ v F' H', ES K ρ σ F H p.2 σ F' H' → RepR K (Free H) F' H' p.2 σ p.1 v → Q v H'
def SE (X : Cx) (W : WX) (e : Expr) (m : M) : Prop := PE X e (tM X.K W m)
theorem PE.imp {X : Cx} {e : Expr} {t t' : TE} (h : PE X e t) (i : ∀ σ H Q, t' σ H Q → t σ H Q) : PE X e t' := ⟨fun pins s σ H Q I q => h.run pins s σ H Q I (i _ _ _ q)⟩
theorem PT.imp {X : Cx} {e : Expr} {t t' : TT} (h : PT X e t) (i : ∀ σ H Q, t' σ H Q → t σ H Q) : PT X e t' := ⟨fun pins s σ H Q I q => h.run pins s σ H Q I (i _ _ _ q)⟩
theorem PS.imp {X : Cx} {e : Stmt} {t t' : TS} (h : PS X e t) (i : ∀ D σ H, t' D σ H → t D σ H) : PS X e t' := ⟨fun pins s σ H D I q => h.run pins s σ H D I (i _ _ _ q)⟩
theorem PSs.imp {X : Cx} {e : List Stmt} {t t' : TS} (h : PSs X e t) (i : ∀ D σ H, t' D σ H → t D σ H) : PSs X e t' := ⟨fun pins s σ H D I q => h.run pins s σ H D I (i _ _ _ q)⟩
theorem PA.imp {X : Cx} {e : List Expr} {t t' : TA} (h : PA X e t) (i : ∀ σ H Q, t' σ H Q → t σ H Q) : PA X e t' := ⟨fun pos pins s σ H Q I q => h.run pos pins s σ H Q I (i _ _ _ q)⟩

/-! ### operands: a new object is laid to what stays -/
def RV.fz : RV → RV
  | .new o => .val o.pv
  | r => r
def mOp (m : M) : M := fun ρ => (m ρ).bind fun p => .ok (p.1.fz, p.2)
theorem RepR.fz {K : PySem.W.Frag} {ρ ρ' : Env} {σ : L2.St} {F H F' H' : Hp} {r : RV} {v : V} (e : ES K ρ σ F H ρ' σ F' H') (h : RepR K (Free H) F' H' ρ' σ r v) :
    ∃ F2, ES K ρ σ F H ρ' σ F2 H' ∧ RepR K (Free H) F2 H' ρ' σ r.fz v := by
  cases r with
  | val p => exact ⟨F', e, h⟩
  | bor i => exact ⟨F', e, h⟩
  | new o =>
    obtain ⟨a, rfl, n, n0, no, r⟩ := h
    obtain ⟨F2, s, ne, fh, q⟩ := r.freeze n e.rel.fh
    refine ⟨F2, e.go s fh (fun x hx => ?_) (fun x hx => ?_) (fun _ _ _ _ q => q) fun _ q => q, q⟩
    · have hxa : x ≠ a := fun z => no (z ▸ hx)
      exact ⟨by rw [ne x hxa]; exact e.rel.ownF hx, rfl⟩
    · by_cases hxa : x = a
      · subst hxa
        exact .inr (.inl (.inl n0))
      · rw [ne x hxa] at hx
        exact .inl hx
theorem SE.op {X : Cx} {W : WX} {e : Expr} {m : M} (h : SE X W e m) : SE X W e (mOp m) := by
  refine PE.imp h fun σ H Q ⟨ρ, F, R, q⟩ => ⟨ρ, F, R, (Ok.of_bind q).mono fun p hp v F' H' es rr => ?_⟩
  obtain ⟨F2, es2, r2⟩ := rr.fz es
  exact hp v F2 H' es2 r2
end Pu

set_option Elab.async false
set_option linter.all false
set_option maxRecDepth 100000
/-! Pu2: operands, primitives, tests, statements. -/
namespace Pu
open PySem PySem.Spec PyProof.Rows L2

/-! ### operands read -/
def deref (ρ : Env) : RV → Option PV
  | .val p => some p
  | .bor i => match ρ[i]? with
    | some (some (.val p)) => some p
    | some (some (.own o)) => some o.pv
    | some (some (.par o)) => some o.pv
    | _ => none
  | .new _ => none
/-- an operand, as a value of the layer -/
def RepQ (K : PySem.W.Frag) (F : Hp) (σ : L2.St) : RV → V → Prop
  | .val p, v => RepV K F p v
  | .bor i, v => σ[i]? = some (some v)
  | .new _, _ => False
section
variable {K : PySem.W.Frag} {F F' H H' : Hp} {ρ ρ' : Env} {σ : L2.St} {r : RV} {v : V} {p : PV}
theorem RepQ.mono (h : RepQ K F σ r v) (f : Same F F') : RepQ K F' σ r v := by
  cases r with
  | val p => exact RepV.mono f h
  | bor i => exact h
  | new o => exact h
theorem RepR.q {fr : Addr → Prop} (h : RepR K fr F H ρ σ r.fz v) : RepQ K F σ r.fz v := by
  cases r with
  | val p => exact h
  | bor i => exact h
  | new o => exact h
theorem RepQ.b (h : RepQ K F σ r v) (R : Rel K F H ρ σ) (d : deref ρ r = some p) : RepB K F H p v := by
  cases r with
  | val q =>
    cases d
    exact RepV.b R.fh h
  | bor i =>
    have hs : σ[i]? = some (some v) := h
    have go : ∀ s : SV, ρ[i]? = some (some s) → (match s with | .val q => q | .own o => o.pv | .par o => o.pv) = p → RepB K F H p v := fun s e ep => by
      obtain ⟨w, ew, rw'⟩ := R.slot i _ e
      rw [hs] at ew
      cases ew
      cases s with
      | val q =>
        subst ep
        exact RepV.b R.fh rw'
      | own o =>
        obtain ⟨a, rfl, n, r⟩ := rw'
        subst ep
        exact r.b
      | par o =>
        obtain ⟨a, rfl, n, r⟩ := rw'
        subst ep
        exact r.b
    unfold deref at d
    dsimp only at d
    cases e : ρ[i]? with
    | none => rw [e] at d; cases d
    | some o =>
      cases o with
      | none => rw [e] at d; cases d
      | some s =>
        rw [e] at d
        refine go s e ?_
        cases s with
        | val q => exact Option.some.inj d
        | own o => exact Option.some.inj d
        | par o => exact Option.some.inj d
  | new o => cases d
end
/-! ### primitives: what they make is new or a value -/
structure Grow (F H F' H' : Hp) : Prop where
  ff : Same F F'
  new : ∀ a, F' a ≠ none → F a ≠ none ∨ Fre H a
  hh : Same H H'
  fh : FH F' H'
theorem Grow.refl {F H : Hp} (h : FH F H) : Grow F H F H := ⟨Same.refl F, fun _ h => .inl h, Same.refl H, h⟩
theorem FH.none {F H : Hp} (h : FH F H) {a : Addr} (e : H a = none) : F a = none := by
  cases q : F a with
  | none => rfl
  | some u =>
    rcases h a u q with z | ⟨_, o, z⟩
    · rw [e] at z; cases z
    · rw [e] at z; cases z
theorem same_upd' {H : Hp} {p : Addr} {o : HO} (h : H p = none) : Same H (upd H p o) := fun b x e => by
  rw [upd_ne (ne_of_none e h)]
  exact e
/-- a new object laid to what stays (a tuple) -/
theorem Grow.tup {F H : Hp} (h : FH F H) {p : Addr} {o : HO} (n : H p = none) : Grow F H (upd F p o) (upd H p o) where
  ff := same_upd' (h.none n)
  new := fun a q => by
    by_cases e : a = p
    · subst e; exact .inr (.inl n)
    · rw [upd_ne e] at q; exact .inl q
  hh := same_upd' n
  fh := fun a u q => by
    by_cases e : a = p
    · subst e
      rw [upd_same] at q ⊢
      cases q
      exact .inl rfl
    · rw [upd_ne e] at q ⊢
      exact h a u q
/-- a new object that may change -/
theorem Grow.obj {F H : Hp} (h : FH F H) {p : Addr} {o : HO} (n : H p = none) : Grow F H F (upd H p o) where
  ff := Same.refl F
  new := fun a q => .inl q
  hh := same_upd' n
  fh := fun a u q => by
    by_cases e : a = p
    · subst e
      rw [h.none n] at q
      cases q
    · rw [upd_ne e]
      exact h a u q
def RepN (K : PySem.W.Frag) (H0 F H : Hp) : RV → V → Prop
  | .val p, v => RepV K F p v
  | .bor _, _ => False
  | .new o, v => ∃ a, v = .ref a ∧ F a = none ∧ H0 a = none ∧ RepO K F H a o
section
variable {K : PySem.W.Frag} {F F' H H' : Hp} {ρ ρ' : Env} {σ : L2.St} {r : RV} {v : V} {p : PV}
theorem Grow.es (g : Grow F H F' H') (R : Rel K F H ρ σ) : ES K ρ σ F H ρ σ F' H' where
  st := ⟨g.ff, fun a h => (g.new a h).imp id .inl, fun a o h _ => g.hh a o h, fun a h => by
    obtain ⟨o, e⟩ := Option.ne_none_iff_exists'.mp h
    rw [g.hh a o e]
    simp⟩
  rel := R.go g.ff g.fh fun a ha => by
    obtain ⟨o, e⟩ := Option.ne_none_iff_exists'.mp (R.ownH ha)
    refine ⟨?_, (g.hh a o e).trans e.symm⟩
    cases q : F' a with
    | none => rfl
    | some u =>
      rcases g.new a (by rw [q]; simp) with z | z
      · exact absurd (R.ownF ha) z
      · exact absurd z (R.ownN ha)
  own := fun a h => .inl h
  ownl := fun a h => .inl h
  par := fun i o h => ⟨⟨o, h⟩, rfl⟩
theorem RepN.rr (R : Rel K F H ρ σ) (h : RepN K H F' H' r v) : RepR K (Free H) F' H' ρ σ r v := by
  cases r with
  | val p => exact h
  | bor i => exact h.elim
  | new o =>
    obtain ⟨a, e, n, n0, r⟩ := h
    exact ⟨a, e, n, n0, fun z => R.ownH z n0, r⟩
end
theorem RepR.weak {K : PySem.W.Frag} {fr fr' : Addr → Prop} {F H : Hp} {ρ : Env} {σ : L2.St} {r : RV} {v : V} (h : RepR K fr F H ρ σ r v) (i : ∀ a, fr a → fr' a) : RepR K fr' F H ρ σ r v := by
  cases r with
  | val p => exact h
  | bor i => exact h
  | new o =>
    obtain ⟨a, e, n, n0, no, r⟩ := h
    exact ⟨a, e, n, i a n0, no, r⟩
/-- a rule of two values does what f tells -/
def Prim2 (K : PySem.W.Frag) (r : R2) (f : PV → PV → Option RV) : Prop :=
  ∀ (x y : V) (F H : Hp) (Q : VK) (a b : PV) (res : RV), FH F H → RepB K F H a x → RepB K F H b y → f a b = some res → (∀ v F' H', Grow F H F' H' → RepN K H F' H' res v → Q v H') → r x y H Q
def Prim1 (K : PySem.W.Frag) (r : V → Hp → VK → Prop) (f : PV → Option RV) : Prop :=
  ∀ (x : V) (F H : Hp) (Q : VK) (a : PV) (res : RV), FH F H → RepB K F H a x → f a = some res → (∀ v F' H', Grow F H F' H' → RepN K H F' H' res v → Q v H') → r x H Q
inductive RepBs (K : PySem.W.Frag) (F H : Hp) : List PV → List V → Prop where
  | nil : RepBs K F H [] []
  | cons {p : PV} {v : V} {ps : List PV} {vs : List V} : RepB K F H p v → RepBs K F H ps vs → RepBs K F H (p :: ps) (v :: vs)
def PrimA (K : PySem.W.Frag) (r : List V → Hp → VK → Prop) (f : List PV → Option RV) : Prop :=
  ∀ (xs : List V) (F H : Hp) (Q : VK) (as : List PV) (res : RV), FH F H → RepBs K F H as xs → f as = some res → (∀ v F' H', Grow F H F' H' → RepN K H F' H' res v → Q v H') → r xs H Q

def liftO {α : Type} : Option α → Res α
  | some a => .ok a
  | none => .bad
@[simp] theorem liftO_some {α : Type} (a : α) : liftO (some a) = .ok a := rfl
@[simp] theorem liftO_none {α : Type} : liftO (none : Option α) = .bad := rfl
def mBin (f : PV → PV → Option RV) (ma mb : M) : M := fun ρ => (mOp ma ρ).bind fun p1 => (mOp mb p1.2).bind fun p2 =>
  (liftO (deref p2.2 p1.1)).bind fun a => (liftO (deref p2.2 p2.1)).bind fun b => (liftO (f a b)).bind fun r => .ok (r, p2.2)
def mUn (f : PV → Option RV) (ma : M) : M := fun ρ => (mOp ma ρ).bind fun p1 =>
  (liftO (deref p1.2 p1.1)).bind fun a => (liftO (f a)).bind fun r => .ok (r, p1.2)
section
variable {K : PySem.W.Frag} {W : WX} {ρ : Env} {σ : L2.St} {F H : Hp} {α β : Type}
theorem Ok.lift {o : Option α} {f : α → Res β} {R : β → Prop} (h : Ok W ρ σ F H ((liftO o).bind f) R) : ∃ a, o = some a ∧ Ok W ρ σ F H (f a) R := by
  cases o with
  | none => exact h.elim
  | some a => exact ⟨a, rfl, h⟩
/-- an operand, then what follows -/
theorem tM_op {m : M} {k : RV × Env → Res β} {R : β → Prop} {Q : VK} (rel : Rel K F H ρ σ) (h : Ok W ρ σ F H ((mOp m ρ).bind k) R)
    (go : ∀ r ρ1 v F1 H1, ES K ρ σ F H ρ1 σ F1 H1 → RepQ K F1 σ r v → Ok W ρ1 σ F1 H1 (k (r, ρ1)) R → Q v H1) : tM K W m σ H Q := by
  refine ⟨ρ, F, rel, ?_⟩
  unfold mOp at h
  cases e : m ρ with
  | ok p =>
    rw [e] at h
    intro v F' H' es rr
    obtain ⟨F2, es2, r2⟩ := rr.fz es
    have h' : Ok W ρ σ F H (k (p.1.fz, p.2)) R := h
    exact go _ _ v F2 H' es2 r2.q (h'.shift es2)
  | exc x => rw [e] at h; exact h
  | bad => rw [e] at h; exact h
theorem tM_bin {f : PV → PV → Option RV} {ma mb : M} {r : R2} {Q : VK} (hp : Prim2 K r f) (h : tM K W (mBin f ma mb) σ H Q) : tOp r (tM K W ma) (tM K W mb) σ H Q := by
  obtain ⟨ρ, F, rel, h⟩ := h
  refine tM_op rel h fun r1 ρ1 x F1 H1 es1 q1 h1 => ?_
  refine tM_op es1.rel h1 fun r2 ρ2 y F2 H2 es2 q2 h2 => ?_
  obtain ⟨a, ea, h3⟩ := h2.lift
  obtain ⟨b, eb, h4⟩ := h3.lift
  obtain ⟨res, er, h5⟩ := h4.lift
  have h5 : ∀ v F' H', ES K ρ σ F H ρ2 σ F' H' → RepR K (Free H) F' H' ρ2 σ res v → Q v H' := h5
  refine hp x y F2 H2 Q a b res es2.rel.fh ((q1.mono es2.st.ff).b es2.rel ea) (q2.b es2.rel eb) er fun v F' H' g rn => ?_
  refine h5 v F' H' ((es1.trans es2).trans (g.es es2.rel)) ?_
  exact (rn.rr es2.rel).weak fun a ha => (es1.trans es2).free ha
theorem tM_un {f : PV → Option RV} {ma : M} {r : V → Hp → VK → Prop} {Q : VK} (hp : Prim1 K r f) (h : tM K W (mUn f ma) σ H Q) : tUn r (tM K W ma) σ H Q := by
  obtain ⟨ρ, F, rel, h⟩ := h
  refine tM_op rel h fun r1 ρ1 x F1 H1 es1 q1 h1 => ?_
  obtain ⟨a, ea, h3⟩ := h1.lift
  obtain ⟨res, er, h5⟩ := h3.lift
  have h5 : ∀ v F' H', ES K ρ σ F H ρ1 σ F' H' → RepR K (Free H) F' H' ρ1 σ res v → Q v H' := h5
  refine hp x F1 H1 Q a res es1.rel.fh (q1.b es1.rel ea) er fun v F' H' g rn => ?_
  refine h5 v F' H' (es1.trans (g.es es1.rel)) ?_
  exact (rn.rr es1.rel).weak fun a ha => es1.free ha
end
section
variable {X : Cx} {W : WX} {a b : Expr} {ma mb : M} {pos : Pos}
theorem SE.bin {op : Operator} {r : R2} {f : PV → PV → Option RV} (ho : OpR X (binaryOp op) r) (hp : Prim2 X.K r f) (ha : SE X W a ma) (hb : SE X W b mb) : SE X W (.BinOp a op b pos) (mBin f ma mb) :=
  PE.imp (pe_op ho ha hb) fun _ _ _ h => tM_bin hp h
theorem SE.cmp {op : CmpOp} {r : R2} {f : PV → PV → Option RV} (ho : OpR X (compareOp op) r) (hp : Prim2 X.K r f) (ha : SE X W a ma) (hb : SE X W b mb) (hm : behindInMarks op b = false) : SE X W (.Compare a [op] [b] pos) (mBin f ma mb) :=
  PE.imp (pe_cmpR ho ha hb hm) fun _ _ _ h => tM_bin hp h
theorem SE.un {op : UnaryOp} {r : V → Hp → VK → Prop} {f : PV → Option RV} (ho : UnR X (unaryOp op) r) (hp : Prim1 X.K r f) (ha : SE X W a ma) : SE X W (.UnaryOp op a pos) (mUn f ma) :=
  PE.imp (pe_un ho ha) fun _ _ _ h => tM_un hp h
end
end Pu

set_option Elab.async false
set_option linter.all false
set_option maxRecDepth 100000
/-! Pu3: names, constants, argument lists, displays, calls of built-ins. -/
namespace Pu
open PySem PySem.Spec PyProof.Rows L2

/-! ### names -/
def mBor (i : Nat) : M := fun ρ => match ρ[i]? with
  | some (some (.val p)) => .ok (.val p, ρ)
  | some (some _) => .ok (.bor i, ρ)
  | _ => .bad
def mNm (i : Nat) : M := fun ρ => match ρ[i]? with
  | some (some (.val p)) => .ok (.val p, ρ)
  | some (some (.own o)) => .ok (.val o.pv, ρ.set i (some (.val o.pv)))
  | some (some (.par o)) => .ok (.val o.pv, ρ.set i (some (.val o.pv)))
  | _ => .bad
def mK (p : PV) : M := fun ρ => .ok (.val p, ρ)
theorem OwnAt.set {ρ : Env} {σ : L2.St} {i j : Nat} {p : PV} {a : Addr} (h : OwnAt (ρ.set i (some (.val p))) σ j a) : OwnAt ρ σ j a ∧ j ≠ i := by
  have key : ∀ s : SV, (∀ q, s ≠ .val q) → (ρ.set i (some (.val p)))[j]? = some (some s) → ρ[j]? = some (some s) ∧ j ≠ i := fun s hs e => by
    by_cases hj : j = i
    · subst hj
      rw [List.getElem?_set] at e
      rw [if_pos rfl] at e
      split at e
      · exact absurd (Option.some.inj (Option.some.inj e)).symm (hs p)
      · cases e
    · rw [List.getElem?_set_ne (Ne.symm hj)] at e
      exact ⟨e, hj⟩
  obtain ⟨(⟨o, e⟩ | ⟨o, e⟩), q⟩ := h
  · obtain ⟨e', n⟩ := key (.own o) (fun _ z => nomatch z) e
    exact ⟨⟨.inl ⟨o, e'⟩, q⟩, n⟩
  · obtain ⟨e', n⟩ := key (.par o) (fun _ z => nomatch z) e
    exact ⟨⟨.inr ⟨o, e'⟩, q⟩, n⟩
theorem ownL_set {ρ : Env} {σ : L2.St} {i : Nat} {p : PV} {a : Addr} (h : OwnL (ρ.set i (some (.val p))) σ a) : OwnL ρ σ a := by
  obtain ⟨j, o, e, q⟩ := h
  by_cases hj : j = i
  · subst hj
    rw [List.getElem?_set, if_pos rfl] at e
    split at e <;> cases e
  · rw [List.getElem?_set_ne (Ne.symm hj)] at e
    exact ⟨j, o, e, q⟩
section
variable {K : PySem.W.Frag} {W : WX} {ρ : Env} {σ : L2.St} {F H : Hp}
/-- an own slot's object is laid to what stays -/
theorem Rel.freeze {i : Nat} {o : OB} (R : Rel K F H ρ σ) (e : ρ[i]? = some (some (.own o)) ∨ ρ[i]? = some (some (.par o))) :
    ∃ F' v, σ[i]? = some (some v) ∧ ES K ρ σ F H (ρ.set i (some (.val o.pv))) σ F' H ∧ RepV K F' o.pv v := by
  have hi : i < ρ.length := by
    rcases e with e | e
    · exact (List.getElem?_eq_some_iff.mp e).1
    · exact (List.getElem?_eq_some_iff.mp e).1
  obtain ⟨a, hs, n, r⟩ : ∃ a, σ[i]? = some (some (V.ref a)) ∧ F a = none ∧ RepO K F H a o := by
    rcases e with e | e
    · obtain ⟨v, q, a, rfl, n, r⟩ := R.slot i _ e
      exact ⟨a, q, n, r⟩
    · obtain ⟨v, q, a, rfl, n, r⟩ := R.slot i _ e
      exact ⟨a, q, n, r⟩
  have own : OwnAt ρ σ i a := by
    rcases e with e | e
    · exact ⟨.inl ⟨o, e⟩, hs⟩
    · exact ⟨.inr ⟨o, e⟩, hs⟩
  obtain ⟨F', s, ne, fh, q⟩ := r.freeze n R.fh
  refine ⟨F', _, hs, ⟨⟨s, fun x h => ?_, fun _ _ h _ => h, fun _ h => h⟩, ⟨by simpa using R.len, fun j t h => ?_, fh, fun j k x h1 h2 => R.inj j k x h1.set.1 h2.set.1⟩, fun x ⟨j, h⟩ => .inl ⟨j, h.set.1⟩, fun x h => .inl (ownL_set h), fun j o' h => ?_⟩, q⟩
  · by_cases hx : x = a
    · subst hx
      exact .inr (.inr ⟨i, own⟩)
    · rw [ne x hx] at h
      exact .inl h
  · by_cases hj : j = i
    · subst hj
      rw [List.getElem?_set, if_pos rfl, if_pos hi] at h
      cases h
      exact ⟨_, hs, q⟩
    · rw [List.getElem?_set_ne (Ne.symm hj)] at h
      obtain ⟨v, e1, r1⟩ := R.slot j t h
      refine ⟨v, e1, r1.mono s fun b nb ev hsv => ?_⟩
      subst ev
      have hb : b ≠ a := fun z => hj (R.inj j i a (z ▸ OwnAt.of h hsv e1) own)
      exact ⟨by rw [ne b hb]; exact nb, rfl⟩
  · by_cases hj : j = i
    · subst hj
      rw [List.getElem?_set, if_pos rfl, if_pos hi] at h
      cases h
    · rw [List.getElem?_set_ne (Ne.symm hj)] at h
      exact ⟨⟨o', h⟩, rfl⟩
end
section
variable {X : Cx} {W : WX}
theorem SE.bor {i : Nat} {x : Str} {pos : Pos} (h : PE X (.Name x pos) (tVar i)) : SE X W (.Name x pos) (mBor i) := by
  refine PE.imp h fun σ H Q ⟨ρ, F, R, q⟩ => ?_
  unfold mBor at q
  cases e : ρ[i]? with
  | none => rw [e] at q; exact q.elim
  | some s =>
    cases s with
    | none => rw [e] at q; exact q.elim
    | some s =>
      obtain ⟨v, ev, r⟩ := R.slot i s e
      rw [e] at q
      refine ⟨v, ev, ?_⟩
      cases s with
      | val p => exact q v F H (ES.refl R) r
      | own o => exact q v F H (ES.refl R) ev
      | par o => exact q v F H (ES.refl R) ev
theorem SE.nm {i : Nat} {x : Str} {pos : Pos} (h : PE X (.Name x pos) (tVar i)) : SE X W (.Name x pos) (mNm i) := by
  refine PE.imp h fun σ H Q ⟨ρ, F, R, q⟩ => ?_
  unfold mNm at q
  cases e : ρ[i]? with
  | none => rw [e] at q; exact q.elim
  | some s =>
    cases s with
    | none => rw [e] at q; exact q.elim
    | some s =>
      cases s with
      | val p =>
        obtain ⟨v, ev, r⟩ := R.slot i _ e
        rw [e] at q
        exact ⟨v, ev, q v F H (ES.refl R) r⟩
      | own o =>
        obtain ⟨F', v, ev, es, r⟩ := R.freeze (.inl e)
        rw [e] at q
        exact ⟨v, ev, q v F' H es r⟩
      | par o =>
        obtain ⟨F', v, ev, es, r⟩ := R.freeze (.inr e)
        rw [e] at q
        exact ⟨v, ev, q v F' H es r⟩
/-- a constant -/
theorem SE.const {e : Expr} {v : V} {p : PV} (h : PE X e (tC v)) (r : ∀ F, RepV X.K F p v) : SE X W e (mK p) :=
  PE.imp h fun σ H Q ⟨ρ, F, R, q⟩ => q v F H (ES.refl R) (r F)
theorem SE.int {i : Int} {j pos} : SE X W (.Constant (.int i) j pos) (mK (.int i)) := SE.const pe_int fun F => by unfold RepV; rfl
theorem SE.str {i : Str} {j pos} : SE X W (.Constant (.str i) j pos) (mK (.str i)) := SE.const pe_str fun F => by unfold RepV; rfl
theorem SE.bl {i : Bool} {j pos} : SE X W (.Constant (.bool i) j pos) (mK (.bl i)) := SE.const pe_bl fun F => by unfold RepV; rfl
theorem SE.non {j pos} : SE X W (.Constant .none j pos) (mK .non) := SE.const pe_non fun F => by unfold RepV; rfl
/-- a module's constant that is a number -/
theorem SE.glI {x : Str} {i : Int} {t : Tok} {pos : Pos} (hm : X.mg x = some (.int i t)) (hg : Gl X x) (hd : (x == ("__debug__" : Str)) = false := by decide) : SE X W (.Name x pos) (mK (.int i)) :=
  SE.const (pe_glob (v := V.int i) hg hm ⟨t, rfl⟩ hd) fun F => by unfold RepV; rfl
end

/-! ### argument lists -/
abbrev MA := Env → Res (List RV × Env)
inductive RepQs (K : PySem.W.Frag) (F : Hp) (σ : L2.St) : List RV → List V → Prop where
  | nil : RepQs K F σ [] []
  | cons {r : RV} {v : V} {rs : List RV} {vs : List V} : RepQ K F σ r v → RepQs K F σ rs vs → RepQs K F σ (r :: rs) (v :: vs)
theorem RepQs.mono {K : PySem.W.Frag} {F F' : Hp} {σ : L2.St} {rs : List RV} {vs : List V} (h : RepQs K F σ rs vs) (f : Same F F') : RepQs K F' σ rs vs := by
  induction h with
  | nil => exact .nil
  | cons a b ih => exact .cons (a.mono f) ih
def derefs (ρ : Env) : List RV → Option (List PV)
  | [] => some []
  | r :: rs => (deref ρ r).bind fun p => (derefs ρ rs).map fun ps => p :: ps
theorem RepQs.b {K : PySem.W.Frag} {F H : Hp} {ρ : Env} {σ : L2.St} {rs : List RV} {vs : List V} (h : RepQs K F σ rs vs) (R : Rel K F H ρ σ) : ∀ {ps : List PV}, derefs ρ rs = some ps → RepBs K F H ps vs := by
  induction h with
  | nil =>
    intro ps e
    cases e
    exact .nil
  | cons a b ih =>
    intro ps e
    unfold derefs at e
    rename_i r v rs vs
    cases e1 : deref ρ r with
    | none => rw [e1] at e; cases e
    | some p =>
      rw [e1] at e
      cases e2 : derefs ρ rs with
      | none => rw [e2] at e; cases e
      | some qs =>
        rw [e2] at e
        cases e
        exact .cons (a.b R e1) (ih e2)
def tMA (K : PySem.W.Frag) (W : WX) (m : MA) : TA := fun σ H Q => ∃ ρ F, Rel K F H ρ σ ∧ Ok W ρ σ F H (m ρ) fun p =>
  ∀ vs F' H', ES K ρ σ F H p.2 σ F' H' → RepQs K F' σ p.1 vs → Q vs H'
def SA (X : Cx) (W : WX) (es : List Expr) (m : MA) : Prop := PA X es (tMA X.K W m)
def mANil : MA := fun ρ => .ok ([], ρ)
def mACons (m : M) (ma : MA) : MA := fun ρ => (mOp m ρ).bind fun p1 => (ma p1.2).bind fun p2 => .ok (p1.1 :: p2.1, p2.2)
section
variable {X : Cx} {W : WX} {e : Expr} {es : List Expr} {m : M} {ma : MA} {pos : Pos}
theorem SA.nil : SA X W [] mANil := PA.imp pa_nil fun σ H Q ⟨ρ, F, R, q⟩ => q [] F H (ES.refl R) .nil
theorem SA.cons (h : SE X W e m) (t : SA X W es ma) (hs : starEach (e :: es) X.env = (false, eval e X.env) :: starEach es X.env := by rfl) : SA X W (e :: es) (mACons m ma) := by
  refine PA.imp (pa_cons h t hs) fun σ H Q ⟨ρ, F, R, q⟩ => ?_
  refine tM_op R q fun r ρ1 x F1 H1 es1 q1 h1 => ?_
  refine ⟨ρ1, F1, es1.rel, h1.of_bind.mono fun p hp vs F' H' es2 qs => ?_⟩
  exact hp (x :: vs) F' H' (es1.trans es2) (.cons (q1.mono es2.st.ff) qs)

/-! ### displays -/
def RV.val? : RV → Option PV
  | .val p => some p
  | _ => none
def vals? : List RV → Option (List PV)
  | [] => some []
  | r :: rs => r.val?.bind fun p => (vals? rs).map fun ps => p :: ps
theorem RepQs.vals {K : PySem.W.Frag} {F : Hp} {σ : L2.St} {rs : List RV} {vs : List V} (h : RepQs K F σ rs vs) : ∀ {ps : List PV}, vals? rs = some ps → RepVs K F ps vs := by
  induction h with
  | nil =>
    intro ps e
    cases e
    exact .nil
  | cons a b ih =>
    intro ps e
    unfold vals? at e
    rename_i r v rs vs
    cases r with
    | val p =>
      cases e2 : vals? rs with
      | none => rw [e2] at e; cases e
      | some qs =>
        rw [e2] at e
        cases e
        exact .cons a (ih e2)
    | bor i => cases e
    | new o => cases e
def small (xs : List PV) : Option (List PV) := if xs.length ≤ 16777216 then some xs else none
def mTup (ma : MA) : M := fun ρ => (ma ρ).bind fun p => (liftO (vals? p.1)).bind fun xs => (liftO (small xs)).bind fun xs => .ok (.val (.tup xs), p.2)
def mLst (ma : MA) : M := fun ρ => (ma ρ).bind fun p => (liftO (vals? p.1)).bind fun xs => (liftO (small xs)).bind fun xs => .ok (.new (.lst xs), p.2)
theorem small_inv {xs ys : List PV} (h : small xs = some ys) : ys = xs ∧ xs.length ≤ sizeLine := by
  unfold small at h
  split at h
  · cases h
    exact ⟨rfl, by rw [sizeLine_eq]; assumption⟩
  · cases h
theorem SE.tup {k : Nat} (h : SA X W es ma) : SE X W (.Tuple es k pos) (mTup ma) := by
  refine PE.imp (pe_tup h) fun σ H Q ⟨ρ, F, R, q⟩ => ?_
  refine ⟨ρ, F, R, q.of_bind.mono fun p hp vs F1 H1 es1 qs => ?_⟩
  obtain ⟨xs, e1, h2⟩ := hp.lift
  obtain ⟨ys, e2, h3⟩ := h2.lift
  obtain ⟨rfl, hz⟩ := small_inv e2
  have h3 : ∀ v F' H', ES X.K ρ σ F H p.2 σ F' H' → RepR X.K (Free H) F' H' p.2 σ (.val (.tup ys)) v → Q v H' := h3
  have rv := qs.vals e1
  refine ⟨by rw [← rv.length]; exact hz, fun a n => ?_⟩
  have g := Grow.tup (o := .tup vs) es1.rel.fh n
  refine h3 _ _ _ (es1.trans (g.es es1.rel)) ?_
  show RepV _ _ _ _
  unfold RepV
  exact ⟨a, vs, rfl, upd_same, rv.mono g.ff⟩
theorem SE.lst (h : SA X W es ma) : SE X W (.List es pos) (mLst ma) := by
  refine PE.imp (pe_lst h) fun σ H Q ⟨ρ, F, R, q⟩ => ?_
  refine ⟨ρ, F, R, q.of_bind.mono fun p hp vs F1 H1 es1 qs => ?_⟩
  obtain ⟨xs, e1, h2⟩ := hp.lift
  obtain ⟨ys, e2, h3⟩ := h2.lift
  obtain ⟨rfl, hz⟩ := small_inv e2
  have h3 : ∀ v F' H', ES X.K ρ σ F H p.2 σ F' H' → RepR X.K (Free H) F' H' p.2 σ (.new (.lst ys)) v → Q v H' := h3
  have rv := qs.vals e1
  refine ⟨by rw [← rv.length]; exact hz, fun a n => ?_⟩
  have g := Grow.obj (o := .lst vs) es1.rel.fh n
  have e2 := es1.trans (g.es es1.rel)
  exact h3 _ _ _ e2 ⟨a, rfl, es1.rel.fh.none n, es1.free n, fun z => es1.rel.ownH z n, vs, upd_same, rv⟩

/-! ### calls of built-ins -/
def mApp (f : List PV → Option RV) (ma : MA) : M := fun ρ => (ma ρ).bind fun p => (liftO (derefs p.2 p.1)).bind fun as => (liftO (f as)).bind fun r => .ok (r, p.2)
theorem tM_app {f : List PV → Option RV} {K : PySem.W.Frag} {r : List V → Hp → VK → Prop} {σ : L2.St} {H : Hp} {Q : VK} (hp : PrimA K r f) (h : tM K W (mApp f ma) σ H Q) : tCB r (tMA K W ma) σ H Q := by
  obtain ⟨ρ, F, R, q⟩ := h
  refine ⟨ρ, F, R, q.of_bind.mono fun p h1 vs F1 H1 es1 qs => ?_⟩
  obtain ⟨as, e1, h2⟩ := h1.lift
  obtain ⟨res, e2, h3⟩ := h2.lift
  have h3 : ∀ v F' H', ES K ρ σ F H p.2 σ F' H' → RepR K (Free H) F' H' p.2 σ res v → Q v H' := h3
  refine hp vs F1 H1 Q as res es1.rel.fh (qs.b es1.rel e1) e2 fun v F' H' g rn => ?_
  exact h3 v F' H' (es1.trans (g.es es1.rel)) ((rn.rr es1.rel).weak fun a ha => es1.free ha)
variable {x : Str} {p : Pos} {id T : String} {r : List V → Hp → VK → Prop} {f : List PV → Option RV}
theorem SE.callB (hc : CallR X (.builtin id) r) (hp : PrimA X.K r f) (hm : X.mg x = none) (hg : Gl X x) (hv : bootBuiltins x = some (.builtin id)) (ha : SA X W (e :: es) ma) (hn : x ≠ "__name__" := by decide) (hdb : (x == ("__debug__" : Str)) = false := by decide)
    (he : starEach (e :: es) X.env = (false, eval e X.env) :: starEach es X.env := by rfl) (hpl : (backTo pos (starEach es X.env)).any (·.1) = false := by rfl) : SE X W (.Call (.Name x p) (e :: es) [] pos) (mApp f ma) :=
  PE.imp (pe_callB hc hg hm hv ha hn hdb he hpl) fun _ _ _ h => tM_app hp h
theorem SE.callTy (hc : CallR X (.type T) r) (hp : PrimA X.K r f) (hm : X.mg x = none) (hg : Gl X x) (hv : bootBuiltins x = some (.type T)) (ha : SA X W (e :: es) ma) (hn : x ≠ "__name__" := by decide) (hdb : (x == ("__debug__" : Str)) = false := by decide)
    (he : starEach (e :: es) X.env = (false, eval e X.env) :: starEach es X.env := by rfl) (hpl : (backTo pos (starEach es X.env)).any (·.1) = false := by rfl) : SE X W (.Call (.Name x p) (e :: es) [] pos) (mApp f ma) :=
  PE.imp (pe_callTy hc hg hm hv ha hn hdb he hpl) fun _ _ _ h => tM_app hp h
end
end Pu

set_option Elab.async false
set_option linter.all false
set_option maxRecDepth 100000
/-! Pu4: calls of defs; statements; what a def is worth. -/
namespace Pu
open PySem PySem.Spec PyProof.Rows L2

inductive AV where
  | val (p : PV) | own (o : OB)
def AV.slot : AV → Option SV
  | .val p => some (.val p)
  | .own o => some (.par o)
/-- a def's pure meaning: what it hands back, what is left of the objects lent to it -/
abbrev G := List AV → Res (RV × List (Option OB))
def RepOut (K : PySem.W.Frag) (F H : Hp) (vs : List V) (outs : List (Option OB)) : Prop :=
  ∀ (i : Nat) (o : OB), outs[i]? = some (some o) → ∃ a, vs[i]? = some (V.ref a) ∧ F a = none ∧ RepO K F H a o
abbrev RXT := EX → Value → Option Addr → Hp → Prop
/-- a def's promise by its pure meaning -/
def spF (K : PySem.W.Frag) (RX : RXT) (g : G) (n : Nat) : Sp := fun vs H Q E => vs.length = n ∧ ∃ F avs, Rel K F H (avs.map AV.slot) (vs.map some) ∧
  match g avs with
  | .ok q => ∀ v F' H', Step (Own (avs.map AV.slot) (vs.map some)) F H F' H' → FH F' H' → RepN K H F' H' q.1 v → RepOut K F' H' vs q.2 → Q v H'
  | .exc x => ∀ cls d F' H', Step (Own (avs.map AV.slot) (vs.map some)) F H F' H' → FH F' H' → RX x cls d H' → E cls d H'
  | .bad => False

def avOf (ρ : Env) : RV → Option AV
  | .val p => some (.val p)
  | .bor i => match ρ[i]? with
    | some (some (.val p)) => some (.val p)
    | some (some (.own o)) => some (.own o)
    | some (some (.par o)) => some (.own o)
    | _ => none
  | .new _ => none
def avsOf (ρ : Env) : List RV → Option (List AV)
  | [] => some []
  | r :: rs => (avOf ρ r).bind fun p => (avsOf ρ rs).map fun ps => p :: ps
def RV.bor? : RV → Option Nat
  | .bor i => some i
  | _ => none
/-- the place of the argument that lends slot j -/
def findArg (j : Nat) : List RV → Option Nat
  | [] => none
  | r :: rs => if r.bor? = some j then some 0 else (findArg j rs).map (· + 1)
def back1 (s : Option SV) (out : Option OB) : Option SV :=
  match s with
  | some (.own _) => out.map SV.own
  | some (.par _) => out.map SV.par
  | s => s
def backs (ρ : Env) (rs : List RV) (outs : List (Option OB)) : Env := ρ.mapIdx fun j s => match findArg j rs with
  | some k => back1 s (outs[k]?).join
  | none => s
def lone (rs : List RV) : Bool := decide (rs.filterMap RV.bor?).Nodup
def mCall (g : G) (ma : MA) : M := fun ρ => (ma ρ).bind fun p => (liftO (if lone p.1 then avsOf p.2 p.1 else none)).bind fun avs => (g avs).bind fun q => .ok (q.1, backs p.2 p.1 q.2)

theorem findArg_some {j : Nat} : ∀ {rs : List RV} {k : Nat}, findArg j rs = some k → rs[k]? = some (.bor j)
  | [], _, h => by cases h
  | r :: rs, k, h => by
    unfold findArg at h
    split at h
    · rename_i e
      cases h
      cases r with
      | bor i => cases e; rfl
      | val p => cases e
      | new o => cases e
    · cases e : findArg j rs with
      | none => rw [e] at h; cases h
      | some m =>
        rw [e] at h
        cases h
        simpa using findArg_some e
theorem findArg_none {j : Nat} : ∀ {rs : List RV}, findArg j rs = none → ∀ k : Nat, rs[k]? ≠ some (.bor j)
  | [], _, k => by simp
  | r :: rs, h, k => by
    unfold findArg at h
    split at h
    · cases h
    · rename_i n
      cases e : findArg j rs with
      | some m => rw [e] at h; cases h
      | none =>
        cases k with
        | zero =>
          intro z
          simp at z
          subst z
          exact n rfl
        | succ k => simpa using findArg_none e k
theorem lone_inj' {rs : List RV} (h : (rs.filterMap RV.bor?).Nodup) : ∀ (k m i : Nat), rs[k]? = some (.bor i) → rs[m]? = some (.bor i) → k = m := by
  induction rs with
  | nil => intro k m i h1; simp at h1
  | cons r rs ih =>
    intro k m i h1 h2
    have mem : ∀ (n : Nat), rs[n]? = some (.bor i) → i ∈ rs.filterMap RV.bor? := fun n hn => List.mem_filterMap.mpr ⟨_, List.mem_of_getElem? hn, rfl⟩
    have ht : (rs.filterMap RV.bor?).Nodup := by
      cases e : r.bor? with
      | none => rw [List.filterMap_cons_none e] at h; exact h
      | some j => rw [List.filterMap_cons_some e] at h; exact (List.nodup_cons.mp h).2
    have hd : r = .bor i → i ∉ rs.filterMap RV.bor? := fun z => by
      subst z
      rw [List.filterMap_cons_some (show RV.bor? (.bor i) = some i from rfl)] at h
      exact (List.nodup_cons.mp h).1
    cases k with
    | zero =>
      cases m with
      | zero => rfl
      | succ m =>
        simp at h1 h2
        exact absurd (mem m h2) (hd h1)
    | succ k =>
      cases m with
      | zero =>
        simp at h1 h2
        exact absurd (mem k h1) (hd h2)
      | succ m =>
        simp at h1 h2
        rw [ih ht k m i h1 h2]
theorem lone_inj {rs : List RV} (h : lone rs = true) : ∀ (k m i : Nat), rs[k]? = some (.bor i) → rs[m]? = some (.bor i) → k = m := lone_inj' (of_decide_eq_true h)
theorem RepQs.get {K : PySem.W.Frag} {F : Hp} {σ : L2.St} {rs : List RV} {vs : List V} (h : RepQs K F σ rs vs) : ∀ (k : Nat) (r : RV), rs[k]? = some r → ∃ v, vs[k]? = some v ∧ RepQ K F σ r v := by
  induction h with
  | nil => intro k r e; simp at e
  | cons a b ih =>
    intro k r e
    cases k with
    | zero => simp at e; subst e; exact ⟨_, rfl, a⟩
    | succ k => simpa using ih k r (by simpa using e)
theorem RepQs.length {K : PySem.W.Frag} {F : Hp} {σ : L2.St} {rs : List RV} {vs : List V} (h : RepQs K F σ rs vs) : rs.length = vs.length := by
  induction h with
  | nil => rfl
  | cons a b ih => simp [ih]
theorem avsOf_get {ρ : Env} : ∀ {rs : List RV} {avs : List AV}, avsOf ρ rs = some avs → avs.length = rs.length ∧ ∀ (k : Nat) (av : AV), avs[k]? = some av → ∃ r, rs[k]? = some r ∧ avOf ρ r = some av
  | [], avs, h => by
    cases h
    exact ⟨rfl, fun k av e => by simp at e⟩
  | r :: rs, avs, h => by
    unfold avsOf at h
    cases e1 : avOf ρ r with
    | none => rw [e1] at h; cases h
    | some p =>
      rw [e1] at h
      cases e2 : avsOf ρ rs with
      | none => rw [e2] at h; cases h
      | some ps =>
        rw [e2] at h
        cases h
        obtain ⟨l, g⟩ := avsOf_get e2
        refine ⟨by simp [l], fun k av e => ?_⟩
        cases k with
        | zero => simp at e; subst e; exact ⟨r, rfl, e1⟩
        | succ k => simpa using g k av (by simpa using e)
/-- what an argument lends -/
theorem avOf_own {ρ : Env} {r : RV} {o : OB} (h : avOf ρ r = some (.own o)) : ∃ i, r = .bor i ∧ (ρ[i]? = some (some (.own o)) ∨ ρ[i]? = some (some (.par o))) := by
  cases r with
  | val p => cases h
  | new o => cases h
  | bor i =>
    unfold avOf at h
    dsimp only at h
    refine ⟨i, rfl, ?_⟩
    cases e : ρ[i]? with
    | none => rw [e] at h; cases h
    | some s =>
      cases s with
      | none => rw [e] at h; cases h
      | some s =>
        rw [e] at h
        cases s with
        | val p => cases h
        | own o' => cases h; exact .inl rfl
        | par o' => cases h; exact .inr rfl
theorem avOf_val {K : PySem.W.Frag} {F H : Hp} {ρ : Env} {σ : L2.St} {r : RV} {p : PV} {v : V} (R : Rel K F H ρ σ) (q : RepQ K F σ r v) (h : avOf ρ r = some (.val p)) : RepV K F p v := by
  cases r with
  | val p => cases h; exact q
  | new o => cases h
  | bor i =>
    unfold avOf at h
    dsimp only at h
    cases e : ρ[i]? with
    | none => rw [e] at h; cases h
    | some s =>
      cases s with
      | none => rw [e] at h; cases h
      | some s =>
        rw [e] at h
        cases s with
        | val p' =>
          cases h
          obtain ⟨w, ew, rw'⟩ := R.slot i _ e
          have q : σ[i]? = some (some v) := q
          rw [q] at ew
          cases ew
          exact rw'
        | own o' => cases h
        | par o' => cases h
section
variable {K : PySem.W.Frag} {W : WX} {ρ : Env} {σ : L2.St} {F H F' H' : Hp} {rs : List RV} {vs : List V} {avs : List AV} {outs : List (Option OB)}
theorem slot_own {avs : List AV} {k : Nat} {o : OB} (h : (avs.map AV.slot)[k]? = some (some (.own o))) : False := by
  rw [List.getElem?_map] at h
  cases e : avs[k]? with
  | none => rw [e] at h; cases h
  | some av => rw [e] at h; cases av <;> cases h
theorem slot_par {avs : List AV} {k : Nat} {o : OB} (h : (avs.map AV.slot)[k]? = some (some (.par o))) : avs[k]? = some (.own o) := by
  rw [List.getElem?_map] at h
  cases e : avs[k]? with
  | none => rw [e] at h; cases h
  | some av =>
    rw [e] at h
    cases av with
    | val p => cases h
    | own o' => cases h; rfl
theorem slot_val {avs : List AV} {k : Nat} {p : PV} (h : (avs.map AV.slot)[k]? = some (some (.val p))) : avs[k]? = some (.val p) := by
  rw [List.getElem?_map] at h
  cases e : avs[k]? with
  | none => rw [e] at h; cases h
  | some av =>
    rw [e] at h
    cases av with
    | val p => cases h; rfl
    | own o' => cases h
/-- whose objects the arguments lend -/
theorem lent (R : Rel K F H ρ σ) (q : RepQs K F σ rs vs) (e : avsOf ρ rs = some avs) {k : Nat} {a : Addr} (h : OwnAt (avs.map AV.slot) (vs.map some) k a) : ∃ i, rs[k]? = some (.bor i) ∧ OwnAt ρ σ i a := by
  obtain ⟨(⟨o, h1⟩ | ⟨o, h1⟩), h2⟩ := h
  · exact (slot_own h1).elim
  · obtain ⟨r, er, ea⟩ := (avsOf_get e).2 k _ (slot_par h1)
    obtain ⟨i, rfl, hi⟩ := avOf_own ea
    obtain ⟨v, ev, qv⟩ := q.get k _ er
    rw [List.getElem?_map, ev] at h2
    cases h2
    refine ⟨i, er, ?_, qv⟩
    rcases hi with z | z
    · exact .inl ⟨o, z⟩
    · exact .inr ⟨o, z⟩
theorem call_entry (R : Rel K F H ρ σ) (q : RepQs K F σ rs vs) (e : avsOf ρ rs = some avs) (l : lone rs = true) : Rel K F H (avs.map AV.slot) (vs.map some) where
  len := by simp [(avsOf_get e).1, q.length]
  slot := fun k s h => by
    cases s with
    | own o => exact (slot_own h).elim
    | val p =>
      obtain ⟨r, er, ea⟩ := (avsOf_get e).2 k _ (slot_val h)
      obtain ⟨v, ev, qv⟩ := q.get k _ er
      exact ⟨v, by rw [List.getElem?_map, ev]; rfl, avOf_val R qv ea⟩
    | par o =>
      obtain ⟨r, er, ea⟩ := (avsOf_get e).2 k _ (slot_par h)
      obtain ⟨i, rfl, hi⟩ := avOf_own ea
      obtain ⟨v, ev, qv⟩ := q.get k _ er
      have qv : σ[i]? = some (some v) := qv
      refine ⟨v, by rw [List.getElem?_map, ev]; rfl, ?_⟩
      rcases hi with z | z
      · obtain ⟨w, ew, a, rfl, n, r⟩ := R.slot i _ z
        rw [qv] at ew
        cases ew
        exact ⟨a, rfl, n, r⟩
      · obtain ⟨w, ew, a, rfl, n, r⟩ := R.slot i _ z
        rw [qv] at ew
        cases ew
        exact ⟨a, rfl, n, r⟩
  fh := R.fh
  inj := fun k m a h1 h2 => by
    obtain ⟨i, e1, o1⟩ := lent R q e h1
    obtain ⟨j, e2, o2⟩ := lent R q e h2
    have := R.inj i j a o1 o2
    subst this
    exact lone_inj l k m i e1 e2
theorem backs_get {ρ : Env} {rs : List RV} {outs : List (Option OB)} {j : Nat} {s : SV} (h : (backs ρ rs outs)[j]? = some (some s)) :
    (ρ[j]? = some (some s) ∧ ((∃ p, s = .val p) ∨ findArg j rs = none)) ∨ ∃ k o, findArg j rs = some k ∧ outs[k]? = some (some o) ∧ (((∃ o', ρ[j]? = some (some (.own o'))) ∧ s = .own o) ∨ ((∃ o', ρ[j]? = some (some (.par o'))) ∧ s = .par o)) := by
  unfold backs at h
  rw [List.getElem?_mapIdx] at h
  cases e : ρ[j]? with
  | none => rw [e] at h; cases h
  | some t =>
    rw [e] at h
    have h := Option.some.inj h
    cases f : findArg j rs with
    | none =>
      rw [f] at h
      exact .inl ⟨by rw [← h], .inr rfl⟩
    | some k =>
      rw [f] at h
      dsimp only at h
      cases t with
      | none => cases h
      | some t =>
        cases t with
        | val p =>
          have h : some (SV.val p) = some s := h
          cases h
          exact .inl ⟨rfl, .inl ⟨p, rfl⟩⟩
        | own o' =>
          have h : (outs[k]?).join.map SV.own = some s := h
          cases g : outs[k]? with
          | none => rw [g] at h; cases h
          | some o =>
            rw [g] at h
            cases o with
            | none => cases h
            | some o =>
              cases h
              exact .inr ⟨k, o, rfl, g, .inl ⟨⟨o', rfl⟩, rfl⟩⟩
        | par o' =>
          have h : (outs[k]?).join.map SV.par = some s := h
          cases g : outs[k]? with
          | none => rw [g] at h; cases h
          | some o =>
            rw [g] at h
            cases o with
            | none => cases h
            | some o =>
              cases h
              exact .inr ⟨k, o, rfl, g, .inr ⟨⟨o', rfl⟩, rfl⟩⟩
theorem backs_own {j : Nat} {a : Addr} (h : OwnAt (backs ρ rs outs) σ j a) : OwnAt ρ σ j a := by
  obtain ⟨(⟨o, h1⟩ | ⟨o, h1⟩), h2⟩ := h
  · rcases backs_get h1 with ⟨e, _⟩ | ⟨k, o', _, _, (⟨⟨o2, e⟩, _⟩ | ⟨⟨o2, e⟩, z⟩)⟩
    · exact ⟨.inl ⟨o, e⟩, h2⟩
    · exact ⟨.inl ⟨o2, e⟩, h2⟩
    · cases z
  · rcases backs_get h1 with ⟨e, _⟩ | ⟨k, o', _, _, (⟨⟨o2, e⟩, z⟩ | ⟨⟨o2, e⟩, _⟩)⟩
    · exact ⟨.inr ⟨o, e⟩, h2⟩
    · cases z
    · exact ⟨.inr ⟨o2, e⟩, h2⟩
/-- behind a call -/
theorem call_exit (R : Rel K F H ρ σ) (q : RepQs K F σ rs vs) (e : avsOf ρ rs = some avs) (st : Step (Own (avs.map AV.slot) (vs.map some)) F H F' H') (fh : FH F' H') (ro : RepOut K F' H' vs outs) :
    ES K ρ σ F H (backs ρ rs outs) σ F' H' where
  st := st.mono fun a ⟨k, h⟩ => let ⟨i, _, o⟩ := lent R q e h; ⟨i, o⟩
  rel := by
    refine ⟨by unfold backs; simpa using R.len, fun j s h => ?_, fh, fun i j a h1 h2 => R.inj i j a (backs_own h1) (backs_own h2)⟩
    rcases backs_get h with ⟨es, hv⟩ | ⟨k, o, hf, ho, hk⟩
    · obtain ⟨v, ev, r⟩ := R.slot j s es
      refine ⟨v, ev, r.mono st.ff fun a n ea hs => ?_⟩
      subst ea
      have ow := OwnAt.of es hs ev
      have hn : findArg j rs = none := by
        rcases hv with ⟨p, z⟩ | z
        · exact absurd z (hs p)
        · exact z
      have nl : ¬ Own (avs.map AV.slot) (vs.map some) a := fun ⟨k, hk⟩ => by
        obtain ⟨i, ei, oi⟩ := lent R q e hk
        have := R.inj i j a oi ow
        subst this
        exact findArg_none hn k ei
      obtain ⟨u, hu⟩ := Option.ne_none_iff_exists'.mp (R.ownH ⟨j, ow⟩)
      refine ⟨?_, (st.fr a u hu nl).trans hu.symm⟩
      cases z : F' a with
      | none => rfl
      | some w =>
        rcases st.new a (by rw [z]; simp) with y | y | y
        · exact absurd n y
        · exact absurd y (R.ownN ⟨j, ow⟩)
        · exact absurd y nl
    · have er := findArg_some hf
      obtain ⟨v, ev, qv⟩ := q.get k _ er
      have qv : σ[j]? = some (some v) := qv
      obtain ⟨a, ea, n, r⟩ := ro k o ho
      rw [ev] at ea
      cases ea
      refine ⟨_, qv, ?_⟩
      rcases hk with ⟨_, rfl⟩ | ⟨_, rfl⟩
      · exact ⟨a, rfl, n, r⟩
      · exact ⟨a, rfl, n, r⟩
  own := fun a ⟨j, h⟩ => .inl ⟨j, backs_own h⟩
  ownl := fun a ⟨j, o, h, hs⟩ => by
    rcases backs_get h with ⟨e, _⟩ | ⟨k, o', _, _, (⟨⟨o2, e⟩, _⟩ | ⟨⟨o2, e⟩, z⟩)⟩
    · exact .inl ⟨j, o, e, hs⟩
    · exact .inl ⟨j, o2, e, hs⟩
    · cases z
  par := fun j o h => by
    refine ⟨?_, rfl⟩
    rcases backs_get h with ⟨e, _⟩ | ⟨k, o', _, _, (⟨⟨o2, e⟩, z⟩ | ⟨⟨o2, e⟩, _⟩)⟩
    · exact ⟨o, e⟩
    · cases z
    · exact ⟨o2, e⟩
end
section
variable {X : Cx} {W : WX} {CX : CXT} {k n : Nat} {f : Addr} {fd : FuncData} {ps : List Str} {RX : RXT} {g : G} {E : XK} {x : Str} {p pos : Pos} {e : Expr} {es : List Expr} {ma : MA}
theorem tM_call {K : PySem.W.Frag} {σ : L2.St} {H : Hp} {Q : VK} (hW : ∀ x cls d F' H', W x F' H' → RX x cls d H' → E cls d H') (hl : ∀ ρ p, ma ρ = .ok p → p.1.length = n) (h : tM K W (mCall g ma) σ H Q) : tCall (spF K RX g n) [] E (tMA K W ma) σ H Q := by
  obtain ⟨ρ, F, R, q⟩ := h
  have q' := q.of_bind
  refine ⟨ρ, F, R, ?_⟩
  cases em : ma ρ with
  | exc y => rw [em] at q'; exact q'
  | bad => rw [em] at q'; exact q'
  | ok p =>
  rw [em] at q'
  intro vs F1 H1 es1 qs
  have hp : Ok W ρ σ F H _ _ := q'
  obtain ⟨avs, e1, h2⟩ := hp.lift
  have hln : lone p.1 = true := by
    cases z : lone p.1 with
    | true => rfl
    | false => rw [z] at e1; cases e1
  rw [hln, if_pos rfl] at e1
  have h2 := h2.of_bind.shift es1
  show spF K RX g n (vs ++ []) H1 Q E
  rw [List.append_nil]
  refine ⟨by rw [← qs.length, hl ρ p em], F1, avs, call_entry es1.rel qs e1 hln, ?_⟩
  cases eg : g avs with
  | bad => rw [eg] at h2; exact h2
  | exc y =>
    rw [eg] at h2
    intro cls d F' H' st fh rx
    exact hW y cls d F' H' (h2 F' H' (st.mono fun a ⟨k, h⟩ => let ⟨i, _, o⟩ := lent es1.rel qs e1 h; ⟨i, o⟩) fh) rx
  | ok r =>
    rw [eg] at h2
    have h2 : ∀ v F' H', ES K ρ σ F H (backs p.2 p.1 r.2) σ F' H' → RepR K (Free H) F' H' (backs p.2 p.1 r.2) σ r.1 v → Q v H' := h2
    intro v F' H' st fh rn ro
    have ce := call_exit es1.rel qs e1 st fh ro
    refine h2 v F' H' (es1.trans ce) ?_
    cases er : r.1 with
    | val p => rw [er] at rn; exact rn
    | bor i => rw [er] at rn; exact rn.elim
    | new o =>
      rw [er] at rn
      obtain ⟨a, ea, n, n0, ro'⟩ := rn
      refine ⟨a, ea, n, es1.free n0, fun z => ?_, ro'⟩
      obtain ⟨j, z⟩ := z
      exact es1.rel.ownH ⟨j, backs_own z⟩ n0
theorem SE.call (F : FnOk X.prog X.w X.K X.mg X.base CX k f fd ps (spF X.K RX g n)) (hr : Room k X.A) (hm : X.mg x = some (.ref f)) (hk : PySem.W.keepIn X.K (.ref f) = true) (hb : Binds X.K fd ps []) (hx : Passes CX X E)
    (hW : ∀ x cls d F' H', W x F' H' → RX x cls d H' → E cls d H') (hg : Gl X x) (ha : SA X W (e :: es) ma) (hl : ∀ ρ p, ma ρ = .ok p → p.1.length = n) (hdb : (x == ("__debug__" : Str)) = false := by decide) (he : starEach (e :: es) X.env = (false, eval e X.env) :: starEach es X.env := by rfl) (hpl : (backTo pos (starEach es X.env)).any (·.1) = false := by rfl) :
    SE X W (.Call (.Name x p) (e :: es) [] pos) (mCall g ma) :=
  PE.imp (pe_call F hr hg hm hk hb .nil hx ha hdb he hpl) fun _ _ _ h => tM_call hW hl h
end
theorem mALen (m : M) {ma : MA} {n : Nat} (h : ∀ ρ p, ma ρ = .ok p → p.1.length = n) : ∀ ρ p, mACons m ma ρ = .ok p → p.1.length = n + 1 := fun ρ p e => by
  unfold mACons at e
  cases e1 : mOp m ρ with
  | exc x => rw [e1] at e; cases e
  | bad => rw [e1] at e; cases e
  | ok q =>
    rw [e1, Res.bind_ok] at e
    cases e2 : ma q.2 with
    | exc x => rw [e2] at e; cases e
    | bad => rw [e2] at e; cases e
    | ok q2 =>
      rw [e2, Res.bind_ok] at e
      cases e
      simp [h _ _ e2]
theorem mALen0 : ∀ ρ p, mANil ρ = .ok p → p.1.length = 0 := fun ρ p e => by
  unfold mANil at e
  cases e
  rfl
end Pu

set_option Elab.async false
set_option linter.all false
set_option maxRecDepth 100000
/-! Pu5: tests, statements, a def by its body. -/
namespace Pu
open PySem PySem.Spec PyProof.Rows L2

/-! ### tests -/
abbrev MT := Env → Res (Bool × Env)
def tMT (K : PySem.W.Frag) (W : WX) (m : MT) : TT := fun σ H Q => ∃ ρ F, Rel K F H ρ σ ∧ Ok W ρ σ F H (m ρ) fun p =>
  ∀ F' H', ES K ρ σ F H p.2 σ F' H' → Q p.1 H'
def ST (X : Cx) (W : WX) (e : Expr) (m : MT) : Prop := PT X e (tMT X.K W m)
def RV.bl? : RV → Option Bool
  | .val (.bl k) => some k
  | _ => none
def mTest (m : M) : MT := fun ρ => (m ρ).bind fun p => (liftO p.1.bl?).bind fun k => .ok (k, p.2)
theorem bl?_inv {r : RV} {k : Bool} (h : r.bl? = some k) : r = .val (.bl k) := by
  cases r with
  | val p => cases p <;> first | (cases h; rfl) | cases h
  | bor i => cases h
  | new o => cases h
section
variable {K : PySem.W.Frag} {W : WX} {σ : L2.St} {H : Hp}
theorem tM_test {m : M} {Q : Bool → Hp → Prop} (h : tMT K W (mTest m) σ H Q) : tM K W m σ H fun x H' => ∃ k, x = .bl k ∧ Q k H' := by
  obtain ⟨ρ, F, R, q⟩ := h
  refine ⟨ρ, F, R, q.of_bind.mono fun p hp v F' H' es rr => ?_⟩
  obtain ⟨k, e, h2⟩ := hp.lift
  have h2 : ∀ F' H', ES K ρ σ F H p.2 σ F' H' → Q k H' := h2
  have er := bl?_inv e
  rw [er] at rr
  have rr : RepV K F' (.bl k) v := rr
  unfold RepV at rr
  exact ⟨k, rr, h2 F' H' es⟩
end
/-- a value's truth -/
def truth : PV → Option Bool
  | .non => some false
  | .bl b => some b
  | .int i => some (i != 0)
  | .str x => if x.length ≤ 16777216 then some ((x.length : Int) != 0) else none
  | .tup xs => some (!xs.isEmpty)
  | .lst xs => some (!xs.isEmpty)
  | .dK _ _ => none
  | .ob _ _ _ => none
  | .scr _ => none
  | .dT _ _ => none
  | .ty _ => none
def mTruth (m : M) : MT := fun ρ => (mOp m ρ).bind fun p => (liftO (deref p.2 p.1)).bind fun a => (liftO (truth a)).bind fun k => .ok (k, p.2)
theorem truth_ok {K : PySem.W.Frag} {F H : Hp} {p : PV} {v : V} {k : Bool} (r : RepB K F H p v) (fh : FH F H) (h : truth p = some k) : TruV K v H k := by
  have emp : ∀ {xs : List PV} {vs : List V}, RepVs K F xs vs → (!xs.isEmpty) = !vs.isEmpty := fun {xs vs} q => by
    cases xs with
    | nil => rw [q.nil_inv]; rfl
    | cons x xs =>
      obtain ⟨v, r, rfl, _⟩ := q.cons_inv
      rfl
  cases p with
  | non =>
    have r : RepV K F .non v := r
    unfold RepV at r
    subst r
    cases h
    rfl
  | bl b =>
    have r : RepV K F (.bl b) v := r
    unfold RepV at r
    subst r
    cases h
    rfl
  | int i =>
    have r : RepV K F (.int i) v := r
    unfold RepV at r
    subst r
    cases h
    rfl
  | str x =>
    have r : RepV K F (.str x) v := r
    unfold RepV at r
    subst r
    have h : (if x.length ≤ 16777216 then some ((x.length : Int) != 0) else none) = some k := h
    split at h
    · cases h
      exact ⟨by rw [sizeLine_eq]; assumption, rfl⟩
    · cases h
  | tup xs =>
    have r : RepV K F (.tup xs) v := r
    unfold RepV at r
    obtain ⟨a, vs, rfl, s, q⟩ := r
    cases h
    exact .inr (.inl ⟨vs, .of (fh.tup s), emp q⟩)
  | lst xs =>
    obtain ⟨a, vs, rfl, s, q⟩ := r
    cases h
    exact .inl ⟨vs, .inl (.inl s), emp q⟩
  | dT ks xs => cases h
  | dK ks xs => cases h
  | ob C ns xs => cases h
  | scr ns => cases h
  | ty n => cases h
section
variable {X : Cx} {W : WX} {a b : Expr} {ma mb : M} {ta tb : MT} {pos : Pos}
theorem ST.cmp {op : CmpOp} {r : R2} {f : PV → PV → Option RV} (ho : OpR X (compareOp op) r) (hp : Prim2 X.K r f) (ha : SE X W a ma) (hb : SE X W b mb) (hm : behindInMarks op b = false) : ST X W (.Compare a [op] [b] pos) (mTest (mBin f ma mb)) :=
  PT.imp (pt_cmpR ho ha hb hm) fun _ _ _ h => by
    obtain ⟨ρ, F, R, q⟩ := tM_test h
    exact tM_bin hp ⟨ρ, F, R, q⟩
/-- an expression that gives True or False -/
theorem ST.val (ha : SE X W a ma) (he : ∀ whole, isTrue a X.env whole = (do let v ← whole; standAt a.pos; holding [v] (truthy v)) := by intro _; rfl) : ST X W a (mTest ma) :=
  PT.imp (pt_val ha he) fun _ _ _ h => tM_test h
theorem ST.not (ha : ST X W a ta) : ST X W (.UnaryOp .Not a pos) (fun ρ => (ta ρ).bind fun p => .ok (!p.1, p.2)) :=
  PT.imp (pt_not ha) fun σ H Q ⟨ρ, F, R, q⟩ => ⟨ρ, F, R, q.of_bind.mono fun _ hp => hp⟩
end
def mTNot (ta : MT) : MT := fun ρ => (ta ρ).bind fun p => .ok (!p.1, p.2)
def mTAnd (ta tb : MT) : MT := fun ρ => (ta ρ).bind fun p => if p.1 = true then tb p.2 else .ok (false, p.2)
def mTOr (ta tb : MT) : MT := fun ρ => (ta ρ).bind fun p => if p.1 = true then .ok (true, p.2) else tb p.2
/-- a chain of and, or -/
def SW (X : Cx) (W : WX) (e : Expr) (m : MT) : Prop := PW X e (tMT X.K W m)
section
variable {X : Cx} {W : WX} {a b : Expr} {rest : List Expr} {ma mb mc : M} {ta tb : MT} {pos : Pos}
theorem ST.tnot (ha : ST X W a ta) : ST X W (.UnaryOp .Not a pos) (mTNot ta) := ST.not ha
theorem PW.imp {e : Expr} {t t' : TT} (h : PW X e t) (i : ∀ σ H Q, t' σ H Q → t σ H Q) : PW X e t' := ⟨fun wh pins s σ H Q I q => h.run wh pins s σ H Q I (i _ _ _ q)⟩
theorem SW.and1 (ha : ST X W a ta) : SW X W (.BoolOp .And [a] pos) ta := pw_and1 ha
theorem SW.or1 (ha : ST X W a ta) : SW X W (.BoolOp .Or [a] pos) ta := pw_or1 ha
theorem SW.and (ha : ST X W a ta) (hb : SW X W (.BoolOp .And (b :: rest) pos) tb) : SW X W (.BoolOp .And (a :: b :: rest) pos) (mTAnd ta tb) :=
  PW.imp (pw_and ha hb) fun σ H Q ⟨ρ, F, R, q⟩ => ⟨ρ, F, R, q.of_bind.mono fun p hp F1 H1 es => by
    refine ite2 (fun c => ?_) (fun c => ?_)
    · rw [if_pos c] at hp
      exact ⟨p.2, F1, es.rel, (hp.shift es).mono fun p2 h2 F' H' es2 => h2 F' H' (es.trans es2)⟩
    · skip
      rw [if_neg c] at hp
      exact hp F1 H1 es⟩
theorem SW.or (ha : ST X W a ta) (hb : SW X W (.BoolOp .Or (b :: rest) pos) tb) : SW X W (.BoolOp .Or (a :: b :: rest) pos) (mTOr ta tb) :=
  PW.imp (pw_or ha hb) fun σ H Q ⟨ρ, F, R, q⟩ => ⟨ρ, F, R, q.of_bind.mono fun p hp F1 H1 es => by
    refine ite2 (fun c => ?_) (fun c => ?_)
    · rw [if_pos c] at hp
      exact hp F1 H1 es
    · skip
      rw [if_neg c] at hp
      exact ⟨p.2, F1, es.rel, (hp.shift es).mono fun p2 h2 F' H' es2 => h2 F' H' (es.trans es2)⟩⟩
theorem SW.st (h : SW X W a ta) : ST X W a ta := L2.PW.pt h
/-- an expression by its truth -/
theorem ST.truth (ha : SE X W a ma) (he : ∀ whole, isTrue a X.env whole = (do let v ← whole; standAt a.pos; holding [v] (truthy v)) := by intro _; rfl) : ST X W a (mTruth ma) :=
  PT.imp (pt_truth ha he) fun σ H Q ⟨ρ, F, R, q⟩ => by
    refine tM_op R q fun r ρ1 x F1 H1 es1 q1 h1 => ?_
    obtain ⟨p, e, h2⟩ := h1.lift
    obtain ⟨k, ek, h3⟩ := h2.lift
    have h3 : ∀ F' H', ES X.K ρ σ F H ρ1 σ F' H' → Q k H' := h3
    have b := q1.b es1.rel e
    exact ⟨k, truth_ok b es1.rel.fh ek, h3 F1 H1 es1⟩

/-! ### and, or, not, if as values (True, False) -/
def mAndV (ma mb : M) : M := fun ρ => (ma ρ).bind fun p => (liftO p.1.bl?).bind fun c => if c = true then mb p.2 else .ok (.val (.bl false), p.2)
def mOrV (ma mb : M) : M := fun ρ => (ma ρ).bind fun p => (liftO p.1.bl?).bind fun c => if c = true then .ok (.val (.bl true), p.2) else mb p.2
def mNotV (ma : M) : M := fun ρ => (ma ρ).bind fun p => (liftO p.1.bl?).bind fun c => .ok (.val (.bl (!c)), p.2)
def mIf (t : MT) (ma mb : M) : M := fun ρ => (t ρ).bind fun p => if p.1 = true then ma p.2 else mb p.2
theorem repBl {K : PySem.W.Frag} {F : Hp} {c : Bool} : RepV K F (.bl c) (.bl c) := by unfold RepV; rfl
theorem SE.one {op} (ha : SE X W a ma) : SE X W (.BoolOp op [a] pos) ma := pe_one ha
theorem SE.and (ha : SE X W a ma) (hb : SE X W (.BoolOp .And (b :: rest) pos) mb) : SE X W (.BoolOp .And (a :: b :: rest) pos) (mAndV ma mb) :=
  PE.imp (pe_and ha hb) fun σ H Q ⟨ρ, F, R, q⟩ => ⟨ρ, F, R, q.of_bind.mono fun p hp v F1 H1 es rr => by
    obtain ⟨c, e, h2⟩ := hp.lift
    rw [bl?_inv e] at rr
    have rr : RepV X.K F1 (.bl c) v := rr
    unfold RepV at rr
    refine ⟨c, rr, ?_⟩
    refine ite2 (fun z => ?_) (fun z => ?_)
    · rw [if_pos z] at h2
      exact ⟨p.2, F1, es.rel, (h2.shift es).mono fun p2 h3 v' F' H' es2 r2 => h3 v' F' H' (es.trans es2) (r2.weak fun a ha => es.free ha)⟩
    · skip
      rw [if_neg z] at h2
      exact h2 _ F1 H1 es (repBl (K := X.K) (F := F1))⟩
theorem SE.or (ha : SE X W a ma) (hb : SE X W (.BoolOp .Or (b :: rest) pos) mb) : SE X W (.BoolOp .Or (a :: b :: rest) pos) (mOrV ma mb) :=
  PE.imp (pe_or ha hb) fun σ H Q ⟨ρ, F, R, q⟩ => ⟨ρ, F, R, q.of_bind.mono fun p hp v F1 H1 es rr => by
    obtain ⟨c, e, h2⟩ := hp.lift
    rw [bl?_inv e] at rr
    have rr : RepV X.K F1 (.bl c) v := rr
    unfold RepV at rr
    refine ⟨c, rr, ?_⟩
    refine ite2 (fun z => ?_) (fun z => ?_)
    · rw [if_pos z] at h2
      exact h2 _ F1 H1 es (repBl (K := X.K) (F := F1))
    · skip
      rw [if_neg z] at h2
      exact ⟨p.2, F1, es.rel, (h2.shift es).mono fun p2 h3 v' F' H' es2 r2 => h3 v' F' H' (es.trans es2) (r2.weak fun a ha => es.free ha)⟩⟩
theorem SE.not (ha : SE X W a ma) : SE X W (.UnaryOp .Not a pos) (mNotV ma) :=
  PE.imp (pe_not ha) fun σ H Q ⟨ρ, F, R, q⟩ => ⟨ρ, F, R, q.of_bind.mono fun p hp v F1 H1 es rr => by
    obtain ⟨c, e, h2⟩ := hp.lift
    rw [bl?_inv e] at rr
    have rr : RepV X.K F1 (.bl c) v := rr
    unfold RepV at rr
    exact ⟨c, rr, h2 _ F1 H1 es (repBl (K := X.K) (F := F1))⟩⟩
theorem SE.ifE {c : Expr} (hc : ST X W c ta) (ha : SE X W a ma) (hb : SE X W b mb) : SE X W (.IfExp c a b pos) (mIf ta ma mb) :=
  PE.imp (pe_ifExp hc ha hb) fun σ H Q ⟨ρ, F, R, q⟩ => ⟨ρ, F, R, q.of_bind.mono fun p hp F1 H1 es => by
    refine ite2 (fun z => ?_) (fun z => ?_)
    · rw [if_pos z] at hp
      exact ⟨p.2, F1, es.rel, (hp.shift es).mono fun p2 h3 v' F' H' es2 r2 => h3 v' F' H' (es.trans es2) (r2.weak fun a ha => es.free ha)⟩
    · skip
      rw [if_neg z] at hp
      exact ⟨p.2, F1, es.rel, (hp.shift es).mono fun p2 h3 v' F' H' es2 r2 => h3 v' F' H' (es.trans es2) (r2.weak fun a ha => es.free ha)⟩⟩
end

/-! ### statements -/
def FrL (H : Hp) (ρ : Env) (σ : L2.St) : Addr → Prop := fun a => H a = none ∨ OwnL ρ σ a
def tMS (K : PySem.W.Frag) (W : WX) (m : MS) : TS := fun D σ H => ∃ ρ F, Rel K F H ρ σ ∧ Ok W ρ σ F H (m ρ) fun p =>
  match p.1 with
  | .nx => ∀ σ' F' H', ES K ρ σ F H p.2 σ' F' H' → D.nx σ' H'
  | .bk => ∀ σ' F' H', ES K ρ σ F H p.2 σ' F' H' → D.bk σ' H'
  | .ct => ∀ σ' F' H', ES K ρ σ F H p.2 σ' F' H' → D.ct σ' H'
  | .rt r => ∀ v σ' F' H', ES K ρ σ F H p.2 σ' F' H' → RepR K (FrL H ρ σ) F' H' p.2 σ' r v → D.rt v H'
def SS (X : Cx) (W : WX) (st : Stmt) (m : MS) : Prop := PS X st (tMS X.K W m)
def SSs (X : Cx) (W : WX) (st : List Stmt) (m : MS) : Prop := PSs X st (tMS X.K W m)
def mNx : MS := fun ρ => .ok (.nx, ρ)
def mSeq (a b : MS) : MS := fun ρ => (a ρ).bind fun p => match p.1 with
  | .nx => b p.2
  | f => .ok (f, p.2)
section
variable {K : PySem.W.Frag} {W : WX} {ρ ρ1 : Env} {σ σ1 : L2.St} {F H F1 H1 : Hp}
theorem FrL.back {a : Addr} (es : ES K ρ σ F H ρ1 σ1 F1 H1) (h : FrL H1 ρ1 σ1 a) : FrL H ρ σ a := by
  rcases h with h | h
  · exact .inl (es.free h)
  · rcases es.ownl a h with z | z
    · exact .inr z
    · exact .inl z
/-- what follows a first part, its own way on -/
def RestS (K : PySem.W.Frag) (ρ : Env) (σ : L2.St) (F H : Hp) (D : Ends) (p : Fl × Env) : Prop :=
  match p.1 with
  | .nx => ∀ σ' F' H', ES K ρ σ F H p.2 σ' F' H' → D.nx σ' H'
  | .bk => ∀ σ' F' H', ES K ρ σ F H p.2 σ' F' H' → D.bk σ' H'
  | .ct => ∀ σ' F' H', ES K ρ σ F H p.2 σ' F' H' → D.ct σ' H'
  | .rt r => ∀ v σ' F' H', ES K ρ σ F H p.2 σ' F' H' → RepR K (FrL H ρ σ) F' H' p.2 σ' r v → D.rt v H'
theorem RestS.go {D : Ends} {p : Fl × Env} (h : RestS K ρ σ F H D p) (es : ES K ρ σ F H ρ1 σ1 F1 H1) : RestS K ρ1 σ1 F1 H1 D p := by
  obtain ⟨f, ρ2⟩ := p
  cases f with
  | nx => exact fun σ' F' H' e => h σ' F' H' (es.trans e)
  | bk => exact fun σ' F' H' e => h σ' F' H' (es.trans e)
  | ct => exact fun σ' F' H' e => h σ' F' H' (es.trans e)
  | rt r => exact fun v σ' F' H' e rr => h v σ' F' H' (es.trans e) (rr.weak fun a ha => ha.back es)
theorem tMS_mk {m : MS} {D : Ends} (R : Rel K F H ρ σ) (h : Ok W ρ σ F H (m ρ) (RestS K ρ σ F H D)) : tMS K W m D σ H := ⟨ρ, F, R, h⟩
end
section
variable {X : Cx} {W : WX} {st : Stmt} {rest : List Stmt} {m m1 m2 : MS} {e : Expr} {me : M} {pos : Pos}
theorem SSs.nil : SSs X W [] mNx := PSs.imp pss_nil fun D σ H ⟨ρ, F, R, q⟩ => q σ F H (ES.refl R)
theorem SSs.cons (h1 : SS X W st m1) (h2 : SSs X W rest m2) : SSs X W (st :: rest) (mSeq m1 m2) := by
  refine PSs.imp (pss_cons h1 h2) fun D σ H ⟨ρ, F, R, q⟩ => ?_
  refine ⟨ρ, F, R, q.of_bind.mono fun p hp => ?_⟩
  obtain ⟨f, ρ1⟩ := p
  cases f with
  | nx => exact fun σ1 F1 H1 es => tMS_mk es.rel ((hp.shift es).mono fun p2 h3 => RestS.go h3 es)
  | bk => exact hp
  | ct => exact hp
  | rt r => exact hp
theorem SSs.one (h : SS X W st m) : SSs X W [st] m := pss_one h
theorem SS.pass : SS X W (.Pass pos) mNx := PS.imp ps_pass fun D σ H ⟨ρ, F, R, q⟩ => q σ F H (ES.refl R)
theorem SS.brk : SS X W (.Break pos) (fun ρ => .ok (.bk, ρ)) := PS.imp ps_break fun D σ H ⟨ρ, F, R, q⟩ => q σ F H (ES.refl R)
theorem SS.cont : SS X W (.Continue pos) (fun ρ => .ok (.ct, ρ)) := PS.imp ps_continue fun D σ H ⟨ρ, F, R, q⟩ => q σ F H (ES.refl R)
def mDrop (m : M) : MS := fun ρ => (m ρ).bind fun p => .ok (.nx, p.2)
theorem SS.expr (h : SE X W e me) (hs : swapsWith e none pos.line X.env = pure false := by rfl) : SS X W (.Expr e pos) (mDrop me) :=
  PS.imp (ps_expr h hs) fun D σ H ⟨ρ, F, R, q⟩ => ⟨ρ, F, R, q.of_bind.mono fun p hp v F1 H1 es _ => hp σ F1 H1 es⟩
/-- return -/
def mRet (m : M) : MS := fun ρ => (m ρ).bind fun p => .ok (.rt p.1, p.2)
theorem SS.ret (h : SE X W e me) : SS X W (.Return (some e) pos) (mRet me) :=
  PS.imp (ps_ret h) fun D σ H ⟨ρ, F, R, q⟩ => ⟨ρ, F, R, q.of_bind.mono fun p hp v F1 H1 es rr => hp v σ F1 H1 es (rr.weak fun a ha => .inl ha)⟩
def mRetN : MS := fun ρ => .ok (.rt (.val .non), ρ)
theorem SS.retN : SS X W (.Return none pos) mRetN := PS.imp ps_retN fun D σ H ⟨ρ, F, R, q⟩ => q .non σ F H (ES.refl R) (show RepV _ _ _ _ by unfold RepV; rfl)
def mIfS (t : MT) (a b : MS) : MS := fun ρ => (t ρ).bind fun p => if p.1 = true then a p.2 else b p.2
theorem SS.ifS {c : Expr} {a b : List Stmt} {tc : MT} (hc : ST X W c tc) (ha : SSs X W a m1) (hb : SSs X W b m2) : SS X W (.If c a b pos) (mIfS tc m1 m2) :=
  PS.imp (ps_if hc ha hb) fun D σ H ⟨ρ, F, R, q⟩ => ⟨ρ, F, R, q.of_bind.mono fun p hp F1 H1 es => by
    refine ite2 (fun z => ?_) (fun z => ?_)
    · rw [if_pos z] at hp
      exact tMS_mk es.rel ((hp.shift es).mono fun p2 h3 => RestS.go h3 es)
    · skip
      rw [if_neg z] at hp
      exact tMS_mk es.rel ((hp.shift es).mono fun p2 h3 => RestS.go h3 es)⟩
/-- never come to -/
def mNever : MS := fun _ => .bad
theorem SS.never : SS X W st mNever := PS.imp ps_never fun D σ H ⟨ρ, F, R, q⟩ => q
theorem SSs.never : SSs X W rest mNever := PSs.imp pss_never fun D σ H ⟨ρ, F, R, q⟩ => q
end
end Pu

set_option Elab.async false
set_option linter.all false
set_option maxRecDepth 100000
/-! Pu6: stores to names, targets, own lists and dicts; a def by its body; while. -/
namespace Pu
open PySem PySem.Spec PyProof.Rows L2

/-! ### a slot stored -/
def isPar (ρ : Env) (i : Nat) : Bool := match ρ[i]? with
  | some (some (.par _)) => true
  | _ => false
def setV (i : Nat) (p : PV) (ρ : Env) : Option Env := if isPar ρ i then none else some (ρ.set i (some (.val p)))
def setO (i : Nat) (o : OB) (ρ : Env) : Option Env := if isPar ρ i then none else some (ρ.set i (some (.own o)))
/-- a value or a new object to a name -/
def setR (i : Nat) (r : RV) (ρ : Env) : Option Env := match r with
  | .val p => setV i p ρ
  | .new o => setO i o ρ
  | .bor _ => none
theorem set_get {ρ : Env} {i j : Nat} {s t : SV} (h : (ρ.set i (some t))[j]? = some (some s)) : (j = i ∧ s = t ∧ i < ρ.length) ∨ (j ≠ i ∧ ρ[j]? = some (some s)) := by
  by_cases hj : j = i
  · subst hj
    rw [List.getElem?_set, if_pos rfl] at h
    split at h
    · cases h
      exact .inl ⟨rfl, rfl, by assumption⟩
    · cases h
  · rw [List.getElem?_set_ne (Ne.symm hj)] at h
    exact .inr ⟨hj, h⟩
section
variable {K : PySem.W.Frag} {ρ ρ' : Env} {σ : L2.St} {F H : Hp}
theorem isPar_false {i : Nat} (h : isPar ρ i = false) : ∀ o, ρ[i]? ≠ some (some (.par o)) := fun o e => by
  unfold isPar at h
  rw [e] at h
  cases h
/-- a value stored -/
theorem Rel.setV {i : Nat} {p : PV} {v : V} (R : Rel K F H ρ σ) (r : RepV K F p v) (np : isPar ρ i = false) : ES K ρ σ F H (ρ.set i (some (.val p))) (σ.set i (some v)) F H := by
  have own : ∀ j a, OwnAt (ρ.set i (some (.val p))) (σ.set i (some v)) j a → OwnAt ρ σ j a := fun j a h => by
    obtain ⟨h1, h2⟩ := h
    have nj : j ≠ i := by
      rintro rfl
      rcases h1 with ⟨o, e⟩ | ⟨o, e⟩
      · rcases set_get e with ⟨_, z, _⟩ | ⟨z, _⟩
        · cases z
        · exact z rfl
      · rcases set_get e with ⟨_, z, _⟩ | ⟨z, _⟩
        · cases z
        · exact z rfl
    rw [List.getElem?_set_ne (Ne.symm nj)] at h2
    refine ⟨?_, h2⟩
    rcases h1 with ⟨o, e⟩ | ⟨o, e⟩
    · rw [List.getElem?_set_ne (Ne.symm nj)] at e
      exact .inl ⟨o, e⟩
    · rw [List.getElem?_set_ne (Ne.symm nj)] at e
      exact .inr ⟨o, e⟩
  refine ⟨Step.refl _ _ _, ⟨by simpa using R.len, fun j s h => ?_, R.fh, fun j k a h1 h2 => R.inj j k a (own _ _ h1) (own _ _ h2)⟩, fun a ⟨j, h⟩ => .inl ⟨j, own j a h⟩, fun a ⟨j, o, h1, h2⟩ => .inl ?_, fun j o h => ?_⟩
  · rcases set_get h with ⟨rfl, rfl, hl⟩ | ⟨nj, h⟩
    · exact ⟨v, by rw [List.getElem?_set, if_pos rfl, if_pos (by rw [← R.len]; exact hl)], r⟩
    · rw [List.getElem?_set_ne (Ne.symm nj)]
      exact R.slot j s h
  · rcases set_get h1 with ⟨_, z, _⟩ | ⟨nj, h1⟩
    · cases z
    · rw [List.getElem?_set_ne (Ne.symm nj)] at h2
      exact ⟨j, o, h1, h2⟩
  · rcases set_get h with ⟨_, z, _⟩ | ⟨nj, h⟩
    · cases z
    · exact ⟨⟨o, h⟩, List.getElem?_set_ne (Ne.symm nj)⟩
/-- a new object stored: it was free at the entry (H0) -/
theorem ES.setO {ρ0 : Env} {σ0 : L2.St} {F0 H0 : Hp} {i : Nat} {o : OB} {a : Addr} (es : ES K ρ0 σ0 F0 H0 ρ σ F H) (n : F a = none) (n0 : H0 a = none) (no : ¬ Own ρ σ a) (r : RepO K F H a o) (np : isPar ρ i = false) :
    ES K ρ0 σ0 F0 H0 (ρ.set i (some (.own o))) (σ.set i (some (.ref a))) F H := by
  have R := es.rel
  have own : ∀ j b, OwnAt (ρ.set i (some (.own o))) (σ.set i (some (.ref a))) j b → (j = i ∧ b = a) ∨ (j ≠ i ∧ OwnAt ρ σ j b) := fun j b h => by
    obtain ⟨h1, h2⟩ := h
    by_cases nj : j = i
    · subst nj
      refine .inl ⟨rfl, ?_⟩
      rw [List.getElem?_set, if_pos rfl] at h2
      split at h2
      · cases h2; rfl
      · cases h2
    · rw [List.getElem?_set_ne (Ne.symm nj)] at h2
      refine .inr ⟨nj, ?_, h2⟩
      rcases h1 with ⟨o, e⟩ | ⟨o, e⟩
      · rw [List.getElem?_set_ne (Ne.symm nj)] at e
        exact .inl ⟨o, e⟩
      · rw [List.getElem?_set_ne (Ne.symm nj)] at e
        exact .inr ⟨o, e⟩
  refine ⟨es.st, ⟨by simpa using R.len, fun j s h => ?_, R.fh, fun j k b h1 h2 => ?_⟩, fun b ⟨j, h⟩ => ?_, fun b ⟨j, o', h1, h2⟩ => ?_, fun j o' h => ?_⟩
  · rcases set_get h with ⟨rfl, rfl, hl⟩ | ⟨nj, h⟩
    · exact ⟨_, by rw [List.getElem?_set, if_pos rfl, if_pos (by rw [← R.len]; exact hl)], a, rfl, n, r⟩
    · rw [List.getElem?_set_ne (Ne.symm nj)]
      exact R.slot j s h
  · rcases own _ _ h1 with ⟨rfl, rfl⟩ | ⟨n1, o1⟩
    · rcases own _ _ h2 with ⟨rfl, _⟩ | ⟨n2, o2⟩
      · rfl
      · exact absurd ⟨k, o2⟩ no
    · rcases own _ _ h2 with ⟨rfl, rfl⟩ | ⟨n2, o2⟩
      · exact absurd ⟨j, o1⟩ no
      · exact R.inj j k b o1 o2
  · rcases own _ _ h with ⟨_, rfl⟩ | ⟨_, z⟩
    · exact .inr n0
    · exact es.own b ⟨j, z⟩
  · rcases set_get h1 with ⟨rfl, z, hl⟩ | ⟨nj, h1⟩
    · rw [List.getElem?_set, if_pos rfl, if_pos (by rw [← R.len]; exact hl)] at h2
      cases h2
      exact .inr n0
    · rw [List.getElem?_set_ne (Ne.symm nj)] at h2
      exact es.ownl b ⟨j, o', h1, h2⟩
  · rcases set_get h with ⟨_, z, _⟩ | ⟨nj, h⟩
    · cases z
    · obtain ⟨e, q⟩ := es.par j o' h
      exact ⟨e, (List.getElem?_set_ne (Ne.symm nj)).trans q⟩
theorem setR_ok {ρ0 : Env} {σ0 : L2.St} {F0 H0 : Hp} {i : Nat} {r : RV} {v : V} (es : ES K ρ0 σ0 F0 H0 ρ σ F H) (rr : RepR K (Free H0) F H ρ σ r v) (h : setR i r ρ = some ρ') : ES K ρ0 σ0 F0 H0 ρ' (σ.set i (some v)) F H := by
  cases r with
  | val p =>
    have h : (if isPar ρ i then none else some (ρ.set i (some (.val p)))) = some ρ' := h
    split at h
    · cases h
    · rename_i np
      cases h
      exact es.trans (es.rel.setV rr (by simpa using np))
  | new o =>
    have h : (if isPar ρ i then none else some (ρ.set i (some (.own o)))) = some ρ' := h
    obtain ⟨a, rfl, n, n0, no, q⟩ := rr
    split at h
    · cases h
    · rename_i np
      cases h
      exact es.setO n n0 no q (by simpa using np)
  | bor j => cases h
end
def mAsg (i : Nat) (m : M) : MS := fun ρ => (m ρ).bind fun p => (liftO (setR i p.1 p.2)).bind fun ρ' => .ok (.nx, ρ')
section
variable {X : Cx} {W : WX} {e : Expr} {m : M} {pos pos' : Pos} {x : Str} {i : Nat}
theorem SS.asg (h : SE X W e m) (hN : X.N.Nodup) (hi : X.N[i]? = some x) (hx : Loc X.env.scope x) (hs : swapsWith e (some (.Name x pos')) pos.line X.env = pure false := by rfl) (hf : X.fn x = true ∨ X.env.scope.names.lookup x = some .local := by first | exact .inl rfl | exact .inr rfl | assumption) :
    SS X W (.Assign [.Name x pos'] e pos) (mAsg i m) :=
  PS.imp (ps_set hN hi hx h hs hf) fun D σ H ⟨ρ, F, R, q⟩ => ⟨ρ, F, R, q.of_bind.mono fun p hp v F1 H1 es rr => by
    obtain ⟨ρ', e1, h2⟩ := hp.lift
    exact h2 _ F1 H1 (setR_ok es rr e1)⟩
end

/-! ### targets of values -/
abbrev MG := PV → Env → Option Env
abbrev MGs := List PV → Env → Option Env
/-- nothing but these slots is another -/
def Only (S : List Nat) (σ σ' : L2.St) : Prop := σ'.length = σ.length ∧ ∀ i, i ∉ S → σ'[i]? = σ[i]?
theorem Only.refl {σ : L2.St} : Only [] σ σ := ⟨rfl, fun _ _ => rfl⟩
theorem Only.set {σ : L2.St} {i : Nat} {v : Option V} : Only [i] σ (σ.set i v) := ⟨by simp, fun j hj => List.getElem?_set_ne (by simp at hj; exact fun e => hj e.symm)⟩
theorem Only.trans {S T : List Nat} {σ σ1 σ2 : L2.St} (a : Only S σ σ1) (b : Only T σ1 σ2) : Only (S ++ T) σ σ2 :=
  ⟨b.1.trans a.1, fun i hi => by
    simp only [List.mem_append, not_or] at hi
    exact (b.2 i hi.2).trans (a.2 i hi.1)⟩
def tMG (K : PySem.W.Frag) (S : List Nat) (g : MG) : TG := fun v σ H Q => ∃ ρ F p ρ', Rel K F H ρ σ ∧ RepV K F p v ∧ g p ρ = some ρ' ∧ ∀ σ' F' H', ES K ρ σ F H ρ' σ' F' H' → Only S σ σ' → Q σ' H'
def tMGs (K : PySem.W.Frag) (S : List Nat) (g : MGs) : TGs := fun vs σ H Q => ∃ ρ F ps ρ', Rel K F H ρ σ ∧ RepVs K F ps vs ∧ g ps ρ = some ρ' ∧ ∀ σ' F' H', ES K ρ σ F H ρ' σ' F' H' → Only S σ σ' → Q σ' H'
def SG (X : Cx) (S : List Nat) (tg : Expr) (g : MG) : Prop := PG X tg (tMG X.K S g)
def SGs (X : Cx) (S : List Nat) (tgs : List Expr) (g : MGs) : Prop := PGs X tgs (tMGs X.K S g)
theorem PG.imp {X : Cx} {e : Expr} {t t' : TG} (h : PG X e t) (i : ∀ v σ H Q, t' v σ H Q → t v σ H Q) : PG X e t' := ⟨fun pins s σ H v u Q I r q => h.run pins s σ H v u Q I r (i _ _ _ _ q)⟩
theorem PGs.imp {X : Cx} {e : List Expr} {t t' : TGs} (h : PGs X e t) (i : ∀ v σ H Q, t' v σ H Q → t v σ H Q) : PGs X e t' := ⟨fun pins s σ H v u Q I r q => h.run pins s σ H v u Q I r (i _ _ _ _ q)⟩
def mgNm (i : Nat) : MG := setV i
def mgNil : MGs := fun ps ρ => match ps with
  | [] => some ρ
  | _ => none
def mgCons (g : MG) (gs : MGs) : MGs := fun ps ρ => match ps with
  | p :: ps => (g p ρ).bind fun ρ1 => gs ps ρ1
  | [] => none
def mgTup (n : Nat) (gs : MGs) : MG := fun p ρ => match p with
  | .tup ps => if ps.length = n then gs ps ρ else none
  | _ => none
theorem setV_inv {i : Nat} {p : PV} {ρ ρ' : Env} (h : setV i p ρ = some ρ') : isPar ρ i = false ∧ ρ' = ρ.set i (some (.val p)) := by
  unfold setV at h
  split at h
  · cases h
  · rename_i np
    cases h
    exact ⟨by simpa using np, rfl⟩
section
variable {X : Cx} {W : WX} {e tg : Expr} {es : List Expr} {m : M} {pos pos' : Pos} {x : Str} {i n : Nat} {g : MG} {gs : MGs} {S T : List Nat}
theorem SG.nm (hN : X.N.Nodup) (hi : X.N[i]? = some x) (hx : Loc X.env.scope x) (hf : X.fn x = true ∨ X.env.scope.names.lookup x = some .local := by first | exact .inl rfl | exact .inr rfl | assumption) : SG X [i] (.Name x pos) (mgNm i) :=
  PG.imp (pg_name hN hi hx hf) fun v σ H Q ⟨ρ, F, p, ρ', R, r, e, q⟩ => by
    obtain ⟨np, rfl⟩ := setV_inv e
    exact q _ F H (R.setV r np) Only.set
theorem SGs.nil : SGs X [] [] mgNil := PGs.imp pgs_nil fun vs σ H Q ⟨ρ, F, ps, ρ', R, r, e, q⟩ => by
  cases ps with
  | nil =>
    cases e
    exact ⟨r.nil_inv, q σ F H (ES.refl R) Only.refl⟩
  | cons p ps => cases e
theorem SGs.cons (h : SG X S tg g) (t : SGs X T es gs) (hs : (assignEach (tg :: es) X.env).map (·.2) = assign tg X.env :: (assignEach es X.env).map (·.2) := by rfl) : SGs X (S ++ T) (tg :: es) (mgCons g gs) :=
  PGs.imp (pgs_cons h t hs) fun vs σ H Q ⟨ρ, F, ps, ρ', R, r, e, q⟩ => by
    cases ps with
    | nil => cases e
    | cons p ps =>
      obtain ⟨v, vr, rfl, rp, rt⟩ := r.cons_inv
      have e : (g p ρ).bind (fun ρ1 => gs ps ρ1) = some ρ' := e
      cases eg : g p ρ with
      | none => rw [eg] at e; cases e
      | some ρ1 =>
        rw [eg] at e
        exact ⟨v, vr, rfl, ρ, F, p, ρ1, R, rp, eg, fun σ1 F1 H1 es1 o1 => ⟨ρ1, F1, ps, ρ', es1.rel, rt.mono es1.st.ff, e, fun σ' F' H' es2 o2 => q σ' F' H' (es1.trans es2) (o1.trans o2)⟩⟩
theorem SG.tup {k : Nat} (h : SGs X S es gs) (hc : X.calm = true) (hn : (assignEach es X.env).length = n := by rfl) (hst : (assignEach es X.env).findIdx? (·.1) = none := by rfl) : SG X S (.Tuple es k pos) (mgTup n gs) :=
  PG.imp (pg_tup hc h hn hst) fun v σ H Q ⟨ρ, F, p, ρ', R, r, e, q⟩ => by
    cases p with
    | tup ps =>
      have e : (if ps.length = n then gs ps ρ else none) = some ρ' := e
      unfold RepV at r
      obtain ⟨a, vs, rfl, s, rv⟩ := r
      split at e
      · rename_i hl
        exact ⟨a, vs, rfl, .of (R.fh.tup s), by rw [← rv.length]; exact hl, ρ, F, ps, ρ', R, rv, e, q⟩
      · cases e
    | _ => cases e
def mAsgT (g : MG) (m : M) : MS := fun ρ => (mOp m ρ).bind fun p => (liftO p.1.val?).bind fun v => (liftO (g v p.2)).bind fun ρ' => .ok (.nx, ρ')
theorem val?_inv {r : RV} {p : PV} (h : r.val? = some p) : r = .val p := by
  cases r with
  | val q => cases h; rfl
  | bor i => cases h
  | new o => cases h
/-- target = value -/
theorem SS.asgT (h : SE X W e m) (t : SG X S tg g) (hs : swapsWithSole [tg] e pos.line X.env = pure false := by rfl) (hw : swappedStores [tg] e X.env = pure none := by rfl) (h1 : (assignEach [tg] X.env).map (·.2) = [assign tg X.env] := by rfl) :
    SS X W (.Assign [tg] e pos) (mAsgT g m) :=
  PS.imp (ps_asg h t hs hw h1) fun D σ H ⟨ρ, F, R, q⟩ => by
    refine tM_op R q fun r ρ1 x F1 H1 es1 q1 h1 => ?_
    obtain ⟨p, ep, h2⟩ := h1.lift
    obtain ⟨ρ', er, h3⟩ := h2.lift
    have ev := val?_inv ep
    have h3 : ∀ σ' F' H', ES X.K ρ σ F H ρ' σ' F' H' → D.nx σ' H' := h3
    have ev : r = .val p := ev
    subst ev
    exact ⟨ρ1, F1, p, ρ', es1.rel, q1, er, fun σ' F' H' es2 _ => h3 σ' F' H' (es1.trans es2)⟩
end
end Pu

set_option Elab.async false
set_option linter.all false
set_option maxRecDepth 100000
/-! Pu7: own objects changed; several names at once; what is handed back; while; a def by its body. -/
namespace Pu
open PySem PySem.Spec PyProof.Rows L2

/-! ### an own object changed -/
def ownO (ρ : Env) (i : Nat) : Option OB := match ρ[i]? with
  | some (some (.own o)) => some o
  | some (some (.par o)) => some o
  | _ => none
def setC (i : Nat) (o : OB) (ρ : Env) : Env := match ρ[i]? with
  | some (some (.par _)) => ρ.set i (some (.par o))
  | _ => ρ.set i (some (.own o))
section
variable {K : PySem.W.Frag} {ρ : Env} {σ : L2.St} {F H : Hp}
theorem ownO_at {i : Nat} {o : OB} (R : Rel K F H ρ σ) (h : ownO ρ i = some o) : ∃ a, σ[i]? = some (some (.ref a)) ∧ OwnAt ρ σ i a ∧ F a = none ∧ RepO K F H a o := by
  unfold ownO at h
  cases e : ρ[i]? with
  | none => rw [e] at h; cases h
  | some s =>
    cases s with
    | none => rw [e] at h; cases h
    | some s =>
      rw [e] at h
      cases s with
      | val p => cases h
      | own o' =>
        cases h
        obtain ⟨v, ev, a, rfl, n, r⟩ := R.slot i _ e
        exact ⟨a, ev, ⟨.inl ⟨o, e⟩, ev⟩, n, r⟩
      | par o' =>
        cases h
        obtain ⟨v, ev, a, rfl, n, r⟩ := R.slot i _ e
        exact ⟨a, ev, ⟨.inr ⟨o, e⟩, ev⟩, n, r⟩
theorem setC_get {i j : Nat} {o : OB} {s : SV} (h0 : ∃ o0, ownO ρ i = some o0) (h : (setC i o ρ)[j]? = some (some s)) :
    (j = i ∧ ((s = .own o ∧ ∃ o0, ρ[i]? = some (some (.own o0))) ∨ (s = .par o ∧ ∃ o0, ρ[i]? = some (some (.par o0))))) ∨ (j ≠ i ∧ ρ[j]? = some (some s)) := by
  obtain ⟨o0, h0⟩ := h0
  unfold ownO at h0
  unfold setC at h
  cases e : ρ[i]? with
  | none => rw [e] at h0; cases h0
  | some t =>
    cases t with
    | none => rw [e] at h0; cases h0
    | some t =>
      rw [e] at h0 h
      cases t with
      | val p => cases h0
      | own o' =>
        rcases set_get h with ⟨rfl, rfl, _⟩ | z
        · exact .inl ⟨rfl, .inl ⟨rfl, o', rfl⟩⟩
        · exact .inr z
      | par o' =>
        rcases set_get h with ⟨rfl, rfl, _⟩ | z
        · exact .inl ⟨rfl, .inr ⟨rfl, o', rfl⟩⟩
        · exact .inr z
theorem Rel.write {i : Nat} {o o' : OB} {a : Addr} {u : HO} (R : Rel K F H ρ σ) (h : ownO ρ i = some o) (ha : σ[i]? = some (some (.ref a))) (r : RepO K F (upd H a u) a o') :
    ES K ρ σ F H (setC i o' ρ) σ F (upd H a u) := by
  obtain ⟨b, hb, ow, n, r0⟩ := ownO_at R h
  rw [ha] at hb
  cases hb
  have len : (setC i o' ρ).length = ρ.length := by
    unfold setC
    split <;> simp
  have own : ∀ j x, OwnAt (setC i o' ρ) σ j x → OwnAt ρ σ j x := fun j x hj => by
    obtain ⟨h1, h2⟩ := hj
    rcases h1 with ⟨q, e⟩ | ⟨q, e⟩
    · rcases setC_get ⟨o, h⟩ e with ⟨rfl, (⟨_, o0, z⟩ | ⟨z, _⟩)⟩ | ⟨_, z⟩
      · exact ⟨.inl ⟨o0, z⟩, h2⟩
      · cases z
      · exact ⟨.inl ⟨q, z⟩, h2⟩
    · rcases setC_get ⟨o, h⟩ e with ⟨rfl, (⟨z, _⟩ | ⟨_, o0, z⟩)⟩ | ⟨_, z⟩
      · cases z
      · exact ⟨.inr ⟨o0, z⟩, h2⟩
      · exact ⟨.inr ⟨q, z⟩, h2⟩
  refine ⟨⟨Same.refl F, fun x hx => .inl hx, fun x w hx nx => ?_, fun x hx => ?_⟩, ⟨by rw [len]; exact R.len, fun j s hj => ?_, fun x w hx => ?_, fun j k x h1 h2 => R.inj j k x (own _ _ h1) (own _ _ h2)⟩, fun x ⟨j, hj⟩ => .inl ⟨j, own j x hj⟩, fun x ⟨j, q, hj, hs⟩ => ?_, fun j q hj => ?_⟩
  · rw [upd_ne (show x ≠ a from fun z => nx ⟨i, by rw [z]; exact ow⟩)]
    exact hx
  · by_cases e : x = a
    · subst e
      rw [upd_same]
      simp
    · rw [upd_ne e]
      exact hx
  · rcases setC_get ⟨o, h⟩ hj with ⟨rfl, (⟨rfl, _⟩ | ⟨rfl, _⟩)⟩ | ⟨nj, e⟩
    · exact ⟨_, ha, a, rfl, n, r⟩
    · exact ⟨_, ha, a, rfl, n, r⟩
    · obtain ⟨v, ev, sr⟩ := R.slot j s e
      refine ⟨v, ev, sr.mono (Same.refl F) fun b nb eb hs => ⟨nb, ?_⟩⟩
      subst eb
      have hb : b ≠ a := fun z => nj (R.inj j i a (z ▸ OwnAt.of e hs ev) ow)
      rw [upd_ne hb]
  · have hxa : x ≠ a := fun z => by rw [z, n] at hx; cases hx
    rw [upd_ne hxa]
    exact R.fh x w hx
  · rcases setC_get ⟨o, h⟩ hj with ⟨rfl, (⟨_, o0, z⟩ | ⟨z, _⟩)⟩ | ⟨_, z⟩
    · exact .inl ⟨j, o0, z, hs⟩
    · cases z
    · exact .inl ⟨j, q, z, hs⟩
  · rcases setC_get ⟨o, h⟩ hj with ⟨rfl, (⟨z, _⟩ | ⟨_, o0, z⟩)⟩ | ⟨_, z⟩
    · cases z
    · exact ⟨⟨o0, z⟩, rfl⟩
    · exact ⟨⟨q, z⟩, rfl⟩
end

/-! ### things in flight -/
def NewIn (a : Addr) (rs : List RV) (vs : List V) : Prop := ∃ (k : Nat) (o : OB), rs[k]? = some (.new o) ∧ vs[k]? = some (.ref a)
def Fly (K : PySem.W.Frag) (fr : Addr → Prop) (F H : Hp) (ρ : Env) (σ : L2.St) : List RV → List V → Prop
  | [], vs => vs = []
  | r :: rs, vs => ∃ v ws, vs = v :: ws ∧ RepR K fr F H ρ σ r v ∧ (∀ a, v = .ref a → (∃ o, r = .new o) → ¬ NewIn a rs ws) ∧ Fly K fr F H ρ σ rs ws
section
variable {K : PySem.W.Frag} {fr fr' : Addr → Prop} {ρ ρ' : Env} {σ σ' : L2.St} {F H F' H' : Hp}
/-- something in flight while the world goes on -/
theorem RepR.fly {r : RV} {v : V} (h : RepR K fr F H ρ σ r v) (R : Rel K F H ρ σ) (es : ES K ρ σ F H ρ' σ F' H') : RepR K fr F' H' ρ' σ r v := by
  cases r with
  | val p => exact RepV.mono es.st.ff h
  | bor i => exact h
  | new o =>
    obtain ⟨a, rfl, n, f, no, r⟩ := h
    obtain ⟨u, hu⟩ := Option.ne_none_iff_exists'.mp r.there
    have e : H' a = H a := (es.st.fr a u hu no).trans hu.symm
    refine ⟨a, rfl, ?_, f, fun z => ?_, r.mono es.st.ff e⟩
    · cases z : F' a with
      | none => rfl
      | some w =>
        rcases es.st.new a (by rw [z]; simp) with y | y | y
        · exact absurd n y
        · exact absurd y r.nfre
        · exact absurd y no
    · rcases es.own a z with y | y
      · exact no y
      · rw [hu] at y; cases y
theorem Fly.fly : ∀ {rs : List RV} {vs : List V}, Fly K fr F H ρ σ rs vs → Rel K F H ρ σ → ES K ρ σ F H ρ' σ F' H' → Fly K fr F' H' ρ' σ rs vs
  | [], _, h, _, _ => h
  | r :: rs, _, h, R, es => by
    obtain ⟨v, ws, rfl, q, d, t⟩ := h
    exact ⟨v, ws, rfl, q.fly R es, d, t.fly R es⟩
theorem Fly.weak : ∀ {rs : List RV} {vs : List V}, Fly K fr F H ρ σ rs vs → (∀ a, fr a → fr' a) → Fly K fr' F H ρ σ rs vs
  | [], _, h, _ => h
  | r :: rs, _, h, i => by
    obtain ⟨v, ws, rfl, q, d, t⟩ := h
    exact ⟨v, ws, rfl, q.weak i, d, t.weak i⟩
theorem Fly.new : ∀ {rs : List RV} {vs : List V} {a : Addr}, Fly K fr F H ρ σ rs vs → NewIn a rs vs → fr a
  | [], _, a, h, ⟨k, o, e, _⟩ => by simp at e
  | r :: rs, _, a, h, ⟨k, o, e1, e2⟩ => by
    obtain ⟨v, ws, rfl, q, d, t⟩ := h
    cases k with
    | zero =>
      simp at e1 e2
      subst e1 e2
      obtain ⟨b, eb, _, f, _⟩ := q
      cases eb
      exact f
    | succ k => exact t.new ⟨k, o, by simpa using e1, by simpa using e2⟩
end
abbrev MF := Env → Res (List RV × Env)
def tMF (K : PySem.W.Frag) (W : WX) (m : MF) : TA := fun σ H Q => ∃ ρ F, Rel K F H ρ σ ∧ Ok W ρ σ F H (m ρ) fun p =>
  ∀ vs F' H', ES K ρ σ F H p.2 σ F' H' → Fly K (Free H) F' H' p.2 σ p.1 vs → Q vs H'
def SF (X : Cx) (W : WX) (es : List Expr) (m : MF) : Prop := PA X es (tMF X.K W m)
def mFNil : MF := fun ρ => .ok ([], ρ)
def mFCons (m : M) (mf : MF) : MF := fun ρ => (m ρ).bind fun p1 => (mf p1.2).bind fun p2 => .ok (p1.1 :: p2.1, p2.2)
section
variable {X : Cx} {W : WX} {e : Expr} {es : List Expr} {m : M} {mf : MF} {pos : Pos}
theorem SF.nil : SF X W [] mFNil := PA.imp pa_nil fun σ H Q ⟨ρ, F, R, q⟩ => q [] F H (ES.refl R) (show ([] : List V) = [] from rfl)
theorem SF.cons (h : SE X W e m) (t : SF X W es mf) (hs : starEach (e :: es) X.env = (false, eval e X.env) :: starEach es X.env := by rfl) : SF X W (e :: es) (mFCons m mf) :=
  PA.imp (pa_cons h t hs) fun σ H Q ⟨ρ, F, R, q⟩ => ⟨ρ, F, R, q.of_bind.mono fun p1 h1 v F1 H1 es1 rr =>
    ⟨p1.2, F1, es1.rel, (h1.of_bind.shift es1).mono fun p2 h2 vs F2 H2 es2 fl => by
      have h2 : ∀ vs F' H', ES X.K ρ σ F H p2.2 σ F' H' → Fly X.K (Free H) F' H' p2.2 σ (p1.1 :: p2.1) vs → Q vs H' := h2
      refine h2 (v :: vs) F2 H2 (es1.trans es2) ⟨v, vs, rfl, rr.fly es1.rel es2, fun a ea ⟨o, eo⟩ ni => ?_, fl.weak fun a ha => es1.free ha⟩
      rw [eo] at rr
      obtain ⟨b, eb, _, _, _, ro⟩ := rr
      rw [ea] at eb
      cases eb
      exact ro.there (fl.new ni)⟩⟩
end
/-- things in flight to names -/
def setRs : List Nat → List RV → Env → Option Env
  | [], [], ρ => some ρ
  | i :: is, r :: rs, ρ => (setR i r ρ).bind fun ρ1 => setRs is rs ρ1
  | _, _, _ => none
def stSet : List Nat → List V → L2.St → L2.St
  | i :: is, v :: vs, σ => stSet is vs (σ.set i (some v))
  | _, _, σ => σ
section
variable {K : PySem.W.Frag} {ρ ρ' : Env} {σ : L2.St} {F H : Hp}
theorem RepR.after {H0 : Hp} {i : Nat} {r r2 : RV} {v v2 : V} (h2 : RepR K (Free H0) F H ρ σ r2 v2) (np : ∀ j, r2 ≠ .bor j) (hr : RepR K (Free H0) F H ρ σ r v) (d : ∀ a, v = .ref a → (∃ o, r = .new o) → (∃ o, r2 = .new o) → v2 ≠ .ref a) (e : setR i r ρ = some ρ') :
    RepR K (Free H0) F H ρ' (σ.set i (some v)) r2 v2 := by
  cases r2 with
  | val p => exact h2
  | bor j => exact absurd rfl (np j)
  | new o =>
    obtain ⟨a, rfl, n, n0, no, q⟩ := h2
    refine ⟨a, rfl, n, n0, fun ⟨j, oj⟩ => ?_, q⟩
    cases r with
    | val p =>
      obtain ⟨np, rfl⟩ := setV_inv (show setV i p ρ = some ρ' from e)
      have hj : j ≠ i := by
        rintro rfl
        rcases oj.1 with ⟨o, z⟩ | ⟨o, z⟩
        · rcases set_get z with ⟨_, y, _⟩ | ⟨y, _⟩
          · cases y
          · exact y rfl
        · rcases set_get z with ⟨_, y, _⟩ | ⟨y, _⟩
          · cases y
          · exact y rfl
      obtain ⟨h1, h2⟩ := oj
      rw [List.getElem?_set_ne (Ne.symm hj)] at h2
      refine no ⟨j, ?_, h2⟩
      rcases h1 with ⟨o, z⟩ | ⟨o, z⟩
      · rw [List.getElem?_set_ne (Ne.symm hj)] at z
        exact .inl ⟨o, z⟩
      · rw [List.getElem?_set_ne (Ne.symm hj)] at z
        exact .inr ⟨o, z⟩
    | bor k => cases e
    | new o1 =>
      obtain ⟨b, rfl, _⟩ := hr
      have e : (if isPar ρ i then none else some (ρ.set i (some (.own o1)))) = some ρ' := e
      split at e
      · cases e
      · cases e
        obtain ⟨h1, h2⟩ := oj
        by_cases hj : j = i
        · subst hj
          rw [List.getElem?_set, if_pos rfl] at h2
          split at h2
          · have h2 := Option.some.inj (Option.some.inj h2)
            exact d b rfl ⟨o1, rfl⟩ ⟨o, rfl⟩ h2.symm
          · cases h2
        · rw [List.getElem?_set_ne (Ne.symm hj)] at h2
          refine no ⟨j, ?_, h2⟩
          rcases h1 with ⟨o, z⟩ | ⟨o, z⟩
          · rw [List.getElem?_set_ne (Ne.symm hj)] at z
            exact .inl ⟨o, z⟩
          · rw [List.getElem?_set_ne (Ne.symm hj)] at z
            exact .inr ⟨o, z⟩
theorem setRs_nobor : ∀ {is : List Nat} {rs : List RV} {ρ ρ' : Env}, setRs is rs ρ = some ρ' → ∀ (k j : Nat), rs[k]? ≠ some (.bor j)
  | [], [], _, _, _, k, j => by simp
  | [], _ :: _, _, _, h, _, _ => by cases h
  | _ :: _, [], _, _, h, _, _ => by cases h
  | i :: is, r :: rs, ρ, ρ', h, k, j => by
    have h : (setR i r ρ).bind (fun ρ1 => setRs is rs ρ1) = some ρ' := h
    cases e : setR i r ρ with
    | none => rw [e] at h; cases h
    | some ρ1 =>
      rw [e] at h
      cases k with
      | zero =>
        intro z
        simp at z
        subst z
        cases e
      | succ k => simpa using setRs_nobor h k j
theorem setRs_ok {ρ0 : Env} {σ0 : L2.St} {F0 H0 : Hp} : ∀ {is : List Nat} {rs : List RV} {vs : List V} {ρ ρ' : Env} {σ : L2.St}, ES K ρ0 σ0 F0 H0 ρ σ F H → Fly K (Free H0) F H ρ σ rs vs → setRs is rs ρ = some ρ' → ES K ρ0 σ0 F0 H0 ρ' (stSet is vs σ) F H ∧ vs.length = is.length
  | [], [], _, _, _, _, es, fl, h => by
    cases h
    have fl : _ = [] := fl
    subst fl
    exact ⟨es, rfl⟩
  | [], _ :: _, _, _, _, _, _, _, h => by cases h
  | _ :: _, [], _, _, _, _, _, _, h => by cases h
  | i :: is, r :: rs, _, ρ, ρ', σ, es, fl, h => by
    obtain ⟨v, ws, rfl, q, d, t⟩ := fl
    have h : (setR i r ρ).bind (fun ρ1 => setRs is rs ρ1) = some ρ' := h
    cases e : setR i r ρ with
    | none => rw [e] at h; cases h
    | some ρ1 =>
      rw [e] at h
      have es1 := setR_ok es q e
      have tr : ∀ {rs : List RV} {ws : List V}, (∀ (k j : Nat), rs[k]? ≠ some (.bor j)) → (∀ a, v = .ref a → (∃ o, r = .new o) → ¬ NewIn a rs ws) → Fly K (Free H0) F H ρ σ rs ws → Fly K (Free H0) F H ρ1 (σ.set i (some v)) rs ws := by
        intro rs
        induction rs with
        | nil => intro ws _ _ h; exact h
        | cons r2 rs ih =>
          intro ws nb d h
          obtain ⟨v2, w2, rfl, q2, d2, t2⟩ := h
          refine ⟨v2, w2, rfl, q2.after (fun j z => nb 0 j (by simp [z])) q (fun a ea hr ⟨o, eo⟩ z => d a ea hr ⟨0, o, by simp [eo], by simp [z]⟩) e, d2, ih (fun k j => by simpa using nb (k + 1) j) (fun a ea hr ⟨k, o, z1, z2⟩ => d a ea hr ⟨k + 1, o, by simpa using z1, by simpa using z2⟩) t2⟩
      obtain ⟨z1, z2⟩ := setRs_ok es1 (tr (setRs_nobor h) d t) h
      exact ⟨z1, by simp [z2]⟩
end
def gNms : List Nat → TGs
  | [] => gNil
  | i :: is => gCons (gName i) (gNms is)
theorem gNms_ok : ∀ {is : List Nat} {vs : List V} {σ : L2.St} {H : Hp} {Q : L2.St → Hp → Prop}, vs.length = is.length → Q (stSet is vs σ) H → gNms is vs σ H Q
  | [], [], _, _, _, _, h => ⟨rfl, h⟩
  | [], _ :: _, _, _, _, l, _ => by cases l
  | _ :: _, [], _, _, _, l, _ => by cases l
  | i :: is, v :: vs, σ, H, Q, l, h => ⟨v, vs, rfl, gNms_ok (by simpa using l) h⟩
/-- a, b, .. = x, y, .. with names -/
def mPar (is : List Nat) (mf : MF) : MS := fun ρ => (mf ρ).bind fun p => (liftO (if p.1.length ≤ 16777216 then setRs is p.1 p.2 else none)).bind fun ρ' => .ok (.nx, ρ')
section
variable {X : Cx} {W : WX} {es tgs : List Expr} {mf : MF} {pos pos' pos'' : Pos} {k k' : Nat} {is : List Nat}
/-- by way of the pair itself -/
theorem SS.parT (h : SF X W es mf) (t : PGs X tgs (gNms is)) (hc : X.calm = true) (hs : swapsWithSole [.Tuple tgs k pos'] (.Tuple es k' pos'') pos.line X.env = pure false := by rfl) (hw : swappedStores [.Tuple tgs k pos'] (.Tuple es k' pos'') X.env = pure none := by rfl)
    (h1 : (assignEach [.Tuple tgs k pos'] X.env).map (·.2) = [assign (.Tuple tgs k pos') X.env] := by rfl) (hn : (assignEach tgs X.env).length = is.length := by rfl) (hst : (assignEach tgs X.env).findIdx? (·.1) = none := by rfl) :
    SS X W (.Assign [.Tuple tgs k pos'] (.Tuple es k' pos'') pos) (mPar is mf) :=
  PS.imp (ps_asg (pe_tup h) (pg_tup hc t hn hst) hs hw h1) fun D σ H ⟨ρ, F, R, q⟩ => ⟨ρ, F, R, q.of_bind.mono fun p h2 vs F1 H1 es1 fl => by
    obtain ⟨ρ', e, h3⟩ := h2.lift
    split at e
    · rename_i hz
      have h3 : ∀ σ' F' H', ES X.K ρ σ F H ρ' σ' F' H' → D.nx σ' H' := h3
      have hlen : ∀ {rs : List RV} {vs : List V}, Fly X.K (Free H) F1 H1 p.2 σ rs vs → vs.length = rs.length := by
        intro rs
        induction rs with
        | nil => intro vs h; have h : vs = [] := h; rw [h]; rfl
        | cons r rs ih => intro vs h; obtain ⟨v, w, rfl, _, _, t⟩ := h; simp [ih t]
      have l1 := hlen fl
      refine ⟨by rw [sizeLine_eq, l1]; exact hz, fun a n => ?_⟩
      have g := Grow.obj (o := .tup vs) es1.rel.fh n
      have es2 := g.es es1.rel
      obtain ⟨es3, l2⟩ := setRs_ok (es1.trans es2) (fl.fly es1.rel es2) e
      exact ⟨a, vs, rfl, .of upd_same, l2, gNms_ok l2 (h3 _ _ _ es3)⟩
    · cases e⟩
end
/-- two plain local names -/
theorem SS.par2 {X : Cx} {W : WX} {mf : MF} {i j : Nat} {x y : Str} {a b : Expr} {px py pt pos : Pos} {kt k2 pt2} (h : SF X W [a, b] mf) (hc : X.calm = true) (hN : X.N.Nodup) (hi : X.N[i]? = some x) (hj : X.N[j]? = some y) (hij : i ≠ j)
    (hx : X.env.scope.names.lookup x = some .local) (hy : X.env.scope.names.lookup y = some .local)
    (hw : swappedStores [.Tuple [.Name x px, .Name y py] kt pt] (.Tuple [a, b] k2 pt2) X.env = pure (some [x, y]) := by rfl)
    (hs : swapsWithSole [.Tuple [.Name x px, .Name y py] kt pt] (.Tuple [a, b] k2 pt2) pos.line X.env = pure false := by rfl) :
    SS X W (.Assign [.Tuple [.Name x px, .Name y py] kt pt] (.Tuple [a, b] k2 pt2) pos) (mPar [i, j] mf) :=
  PS.imp (ps_par hc hN hi hj hij hx hy h hw hs) fun D σ H ⟨ρ, F, R, q⟩ => ⟨ρ, F, R, q.of_bind.mono fun p h2 vs F1 H1 es1 fl => by
    obtain ⟨ρ', e, h3⟩ := h2.lift
    split at e
    · have h3 : ∀ σ' F' H', ES X.K ρ σ F H ρ' σ' F' H' → D.nx σ' H' := h3
      obtain ⟨es3, l2⟩ := setRs_ok es1 fl e
      match vs, l2 with
      | [v, w], _ => exact ⟨v, w, rfl, h3 _ _ _ es3⟩
    · cases e⟩
theorem SS.par3 {X : Cx} {W : WX} {mf : MF} {i j l : Nat} {x y z : Str} {a b c : Expr} {px py pz pt pos : Pos} {kt k2 pt2} (h : SF X W [a, b, c] mf) (hc : X.calm = true) (hN : X.N.Nodup) (hi : X.N[i]? = some x) (hj : X.N[j]? = some y) (hl : X.N[l]? = some z) (hij : i ≠ j) (hil : i ≠ l) (hjl : j ≠ l)
    (hx : X.env.scope.names.lookup x = some .local) (hy : X.env.scope.names.lookup y = some .local) (hz : X.env.scope.names.lookup z = some .local)
    (hw : swappedStores [.Tuple [.Name x px, .Name y py, .Name z pz] kt pt] (.Tuple [a, b, c] k2 pt2) X.env = pure (some [x, y, z]) := by rfl)
    (hs : swapsWithSole [.Tuple [.Name x px, .Name y py, .Name z pz] kt pt] (.Tuple [a, b, c] k2 pt2) pos.line X.env = pure false := by rfl) :
    SS X W (.Assign [.Tuple [.Name x px, .Name y py, .Name z pz] kt pt] (.Tuple [a, b, c] k2 pt2) pos) (mPar [i, j, l] mf) :=
  PS.imp (ps_par3 hc hN hi hj hl hij hil hjl hx hy hz h hw hs) fun D σ H ⟨ρ, F, R, q⟩ => ⟨ρ, F, R, q.of_bind.mono fun p h2 vs F1 H1 es1 fl => by
    obtain ⟨ρ', e, h3⟩ := h2.lift
    split at e
    · have h3 : ∀ σ' F' H', ES X.K ρ σ F H ρ' σ' F' H' → D.nx σ' H' := h3
      obtain ⟨es3, l2⟩ := setRs_ok es1 fl e
      match vs, l2 with
      | [v, w, u], _ => exact ⟨v, w, u, rfl, h3 _ _ _ es3⟩
    · cases e⟩
end Pu

set_option Elab.async false
set_option linter.all false
set_option maxRecDepth 100000
/-! Pu8: append, x[i] = v, x op= e, a name handed back, while, a def by its body. -/
namespace Pu
open PySem PySem.Spec PyProof.Rows L2

/-! ### dicts as rows of keys and values -/
section
variable {κ : Type} [DecidableEq κ]
def look : List κ → List PV → κ → Option PV
  | k' :: ks, x :: xs, k => if k' = k then some x else look ks xs k
  | _, _, _ => none
def repl : List κ → List PV → κ → PV → List PV
  | k' :: ks, x :: xs, k, y => (if k' = k then y else x) :: repl ks xs k y
  | _, _, _, _ => []
def putKs (ks : List κ) (k : κ) : List κ := if k ∈ ks then ks else ks ++ [k]
def putXs (ks : List κ) (xs : List PV) (k : κ) (y : PV) : List PV := if k ∈ ks then repl ks xs k y else xs ++ [y]
variable {K : PySem.W.Frag} {F : Hp}
theorem look_rep : ∀ {ks : List κ} {xs : List PV} {vs : List V} {k : κ}, RepVs K F xs vs → ks.length = vs.length →
    (∀ x, look ks xs k = some x → ∃ v, valV (ks.zip vs) k = some v ∧ RepV K F x v) ∧ (look ks xs k = none → valV (ks.zip vs) k = none)
  | [], xs, vs, k, _, _ => by
    refine ⟨fun x h => ?_, fun _ => rfl⟩
    cases xs <;> cases h
  | k' :: ks, [], vs, k, h, l => by
    rw [h.nil_inv] at l
    cases l
  | k' :: ks, x :: xs, vs, k, h, l => by
    obtain ⟨v, r, rfl, q, t⟩ := h.cons_inv
    have ih := look_rep (k := k) t (by simpa using l)
    show (∀ y, (if k' = k then some x else look ks xs k) = some y → _) ∧ ((if k' = k then some x else look ks xs k) = none → _)
    rw [List.zip_cons_cons]
    by_cases e : k' = k
    · rw [if_pos e, valV_pos (p := (k', v)) e]
      exact ⟨fun y hy => by cases hy; exact ⟨v, rfl, q⟩, fun z => by cases z⟩
    · rw [if_neg e, valV_neg (p := (k', v)) e]
      exact ih
theorem repl_rep : ∀ {ks : List κ} {xs : List PV} {vs : List V} {k : κ} {y : PV} {w : V}, RepVs K F xs vs → ks.length = vs.length → RepV K F y w →
    ∃ ws, (ks.zip vs).map (fun kv => if kv.1 = k then (kv.1, w) else kv) = ks.zip ws ∧ ks.length = ws.length ∧ RepVs K F (repl ks xs k y) ws
  | [], xs, vs, k, y, w, h, l, _ => by
    refine ⟨[], rfl, rfl, ?_⟩
    cases xs <;> exact .nil
  | k' :: ks, [], vs, k, y, w, h, l, _ => by
    rw [h.nil_inv] at l
    cases l
  | k' :: ks, x :: xs, vs, k, y, w, h, l, q => by
    obtain ⟨v, r, rfl, qv, t⟩ := h.cons_inv
    obtain ⟨ws, e, l2, t2⟩ := repl_rep (k := k) t (by simpa using l) q
    refine ⟨(if k' = k then w else v) :: ws, ?_, by simp [l2], ?_⟩
    · rw [List.zip_cons_cons, List.map_cons, e, List.zip_cons_cons]
      by_cases z : k' = k
      · simp [z]
      · simp [z]
    · show RepVs K F ((if k' = k then y else x) :: repl ks xs k y) _
      by_cases z : k' = k
      · rw [if_pos z, if_pos z]; exact .cons q t2
      · rw [if_neg z, if_neg z]; exact .cons qv t2
theorem any_zip : ∀ {ks : List κ} {vs : List V} {k : κ}, ks.length = vs.length → ((ks.zip vs).any fun kv => decide (kv.1 = k)) = decide (k ∈ ks)
  | [], vs, k, _ => by simp
  | k' :: ks, [], k, l => by cases l
  | k' :: ks, v :: vs, k, l => by
    rw [List.zip_cons_cons, List.any_cons, any_zip (by simpa using l)]
    by_cases e : k' = k
    · subst e; simp
    · have e' : ¬ k = k' := fun z => e z.symm
      simp [e, e']
theorem put_rep {ks : List κ} {xs : List PV} {vs : List V} {k : κ} {y : PV} {w : V} (h : RepVs K F xs vs) (l : ks.length = vs.length) (q : RepV K F y w) :
    ∃ ws, putK (ks.zip vs) k w = (putKs ks k).zip ws ∧ (putKs ks k).length = ws.length ∧ RepVs K F (putXs ks xs k y) ws := by
  unfold putK putKs putXs
  rw [any_zip l]
  by_cases e : k ∈ ks
  · rw [if_pos (decide_eq_true e), if_pos e, if_pos e]
    exact repl_rep h l q
  · rw [if_neg (by simpa using e), if_neg e, if_neg e]
    refine ⟨vs ++ [w], ?_, by simp [l], h.append (.cons q .nil)⟩
    rw [List.zip_append l]
    rfl
theorem look_len {ks : List κ} {xs : List PV} {vs : List V} (h : RepVs K F xs vs) (l : ks.length = vs.length) : ks.length = xs.length := by rw [l, h.length]
end
def keyOf : PV → Option Key
  | .int i => some (.inl i)
  | .str x => some (.inr x)
  | _ => none
def keysOf : List PV → Option (List Key)
  | [] => some []
  | p :: ps => (keyOf p).bind fun k => (keysOf ps).map fun ks => k :: ks
def tkeyOf : PV → Option (List Key)
  | .tup ps => keysOf ps
  | _ => none
theorem keyOf_rep {K : PySem.W.Frag} {F : Hp} {p : PV} {v : V} {k : Key} (h : RepV K F p v) (e : keyOf p = some k) : v = kV k := by
  cases p with
  | int i => cases e; unfold RepV at h; exact h
  | str i => cases e; unfold RepV at h; exact h
  | _ => cases e
theorem keysOf_rep {K : PySem.W.Frag} {F : Hp} : ∀ {ps : List PV} {vs : List V} {ks : List Key}, RepVs K F ps vs → keysOf ps = some ks → vs = ks.map kV
  | [], vs, ks, h, e => by
    cases e
    exact h.nil_inv
  | p :: ps, vs, ks, h, e => by
    obtain ⟨v, r, rfl, q, t⟩ := h.cons_inv
    have e : (keyOf p).bind (fun k => (keysOf ps).map fun ks => k :: ks) = some ks := e
    cases e1 : keyOf p with
    | none => rw [e1] at e; cases e
    | some k =>
      rw [e1] at e
      cases e2 : keysOf ps with
      | none => rw [e2] at e; cases e
      | some ks2 =>
        rw [e2] at e
        cases e
        rw [keyOf_rep q e1, keysOf_rep t e2]
        rfl
theorem tkeyOf_rep {K : PySem.W.Frag} {F H : Hp} (fh : FH F H) {p : PV} {v : V} {ks : List Key} (h : RepB K F H p v) (e : tkeyOf p = some ks) : ∃ b, v = .ref b ∧ H b = some (.tup (ks.map kV)) := by
  cases p with
  | tup ps =>
    have h : RepV K F (.tup ps) v := h
    unfold RepV at h
    obtain ⟨a, vs, rfl, s, r⟩ := h
    have e : keysOf ps = some ks := e
    rw [keysOf_rep r e] at s
    exact ⟨a, rfl, fh.tup s⟩
  | _ => cases e
theorem skeyOf_rep {K : PySem.W.Frag} {F H : Hp} {p : PV} {v : V} {k : Key} (h : RepB K F H p v) (e : keyOf p = some k) : v = kV k := by
  cases p with
  | int i => exact keyOf_rep (show RepV K F _ _ from h) e
  | str i => exact keyOf_rep (show RepV K F _ _ from h) e
  | _ => cases e

/-! ### append -/
def ownL? (ρ : Env) (i : Nat) : Option (List PV) := match ownO ρ i with
  | some (.lst xs) => some xs
  | _ => none
theorem ownL?_inv {ρ : Env} {i : Nat} {xs : List PV} (h : ownL? ρ i = some xs) : ownO ρ i = some (.lst xs) := by
  unfold ownL? at h
  cases e : ownO ρ i with
  | none => rw [e] at h; cases h
  | some o =>
    rw [e] at h
    cases o with
    | lst ys => cases h; rfl
    | dT _ _ => cases h
    | dK _ _ => cases h
    | ob _ _ _ => cases h
def mAppend (i : Nat) (m : M) : MS := fun ρ => (liftO (ownL? ρ i)).bind fun _ => (mOp m ρ).bind fun p => (liftO p.1.val?).bind fun x => (liftO (ownL? p.2 i)).bind fun xs =>
  if xs.length < 16777216 then .ok (.nx, setC i (.lst (xs ++ [x])) p.2) else .bad
/-- x[i] = e -/
def putO (o : OB) (k v : PV) : Option OB := match o with
  | .lst xs => match k with
    | .int j => (ixN xs.length j).map fun n => .lst (xs.set n v)
    | _ => none
  | .dT ks xs => (tkeyOf k).bind fun key => if ks.length < 16777216 then some (.dT (putKs ks key) (putXs ks xs key v)) else none
  | .dK ks xs => (keyOf k).bind fun key => if ks.length < 16777216 then some (.dK (putKs ks key) (putXs ks xs key v)) else none
  | .ob _ _ _ => none
def mPut (j : Nat) (mv mi : M) : MS := fun ρ => (mOp mv ρ).bind fun p => (liftO p.1.val?).bind fun x => (liftO (ownO p.2 j)).bind fun _ => (mOp mi p.2).bind fun q =>
  (liftO (deref q.2 q.1)).bind fun k => (liftO (ownO q.2 j)).bind fun o => (liftO (putO o k x)).bind fun o' => .ok (.nx, setC j o' q.2)
section
variable {X : Cx} {W : WX} {e i : Expr} {m mi mv : M} {pos pos' apos cpos : Pos} {x : Str} {j : Nat}
theorem SS.append (hx : PE X (.Name x pos') (tVar j)) (h : SE X W e m) (hs : swapsWith (.Call (.Attribute (.Name x pos') "append" apos) [e] [] cpos) none pos.line X.env = pure false := by rfl)
    (hbase : attributeBase (.Name x pos') "append" X.env (eval (.Name x pos') X.env) = eval (.Name x pos') X.env := by rfl)
    (hfew : ((backTo cpos (starEach [e] X.env)).all (fun x => !x.1) && (backToKw cpos (keywordEach [] X.env)).all (fun x => x.1.isSome)
      && decide ([e].length + ([] : List Keyword).length + (if ([] : List Keyword).isEmpty then 0 else 1) < 30)) = true := by rfl)
    (hline : (apos.endLine == cpos.line) = true := by rfl) (hst : starEach [e] X.env = (false, eval e X.env) :: starEach [] X.env := by rfl) :
    SS X W (.Expr (.Call (.Attribute (.Name x pos') "append" apos) [e] [] cpos) pos) (mAppend j m) := by
  refine PS.imp (ps_expr (pe_bm PySem.F.plainAttrs_list PySem.F.slot_list_append PySem.F.type_list_append mt_append hx (SA.cons (W := W) h SA.nil hst) hbase hfew hline hst rfl) hs) fun D σ H ⟨ρ, F, R, q⟩ => ?_
  obtain ⟨xs0, e0, q⟩ := q.lift
  obtain ⟨a, ea, ow, n, r⟩ := ownO_at R (ownL?_inv e0)
  refine ⟨.ref a, ea, .inl ⟨rfl, ?_⟩, ?_⟩
  · obtain ⟨vs, hv, _⟩ := r
    exact ⟨vs, .of hv⟩
  · refine ⟨ρ, F, R, ?_⟩
    unfold mACons
    cases em : mOp m ρ with
    | exc y => rw [em] at q; exact q
    | bad => rw [em] at q; exact q
    | ok p =>
      rw [em] at q
      intro vs F1 H1 es1 qs
      obtain ⟨y, ey, q⟩ := Ok.lift (show Ok W ρ σ F H ((liftO p.1.val?).bind _) _ from q)
      obtain ⟨xs, ex, q⟩ := q.lift
      have es1 : ES X.K ρ σ F H p.2 σ F1 H1 := es1
      cases qs with
      | cons q1 q2 =>
      cases q2
      have ev := val?_inv ey
      rw [ev] at q1
      have q1 : RepV X.K F1 y _ := q1
      obtain ⟨b, eb, _, _, r1⟩ := ownO_at es1.rel (ownL?_inv ex)
      rw [ea] at eb
      cases eb
      obtain ⟨vs, hv, rv⟩ := r1
      by_cases hz : xs.length < 16777216
      · rw [if_pos hz] at q
        have q : ∀ σ' F' H', ES X.K ρ σ F H _ σ' F' H' → D.nx σ' H' := q
        refine ⟨a, vs, _, rfl, rfl, hv, by rw [← rv.length, sizeLine_eq]; exact hz, ?_⟩
        exact q _ _ _ (es1.trans (es1.rel.write (ownL?_inv ex) ea ⟨_, upd_same, rv.append (.cons q1 .nil)⟩))
      · rw [if_neg hz] at q
        exact q.elim
theorem putO_lst {K : PySem.W.Frag} {F H : Hp} {a : Addr} {o o' : OB} {k v : PV} {kv vv : V} {Q : Hp → Prop} (r : RepO K F H a o) (rk : RepB K F H k kv) (rv : RepV K F v vv) (hl : ∃ xs, o = .lst xs) (e : putO o k v = some o')
    (go : ∀ u, RepO K F (upd H a u) a o' → Q (upd H a u)) : rSetL (.ref a) kv vv H Q := by
  obtain ⟨xs, rfl⟩ := hl
  obtain ⟨vs, hv, rvs⟩ := r
  cases k with
  | int i =>
    have rk : RepV K F (.int i) kv := rk
    unfold RepV at rk
    subst rk
    have e : (ixN xs.length i).map (fun n => OB.lst (xs.set n v)) = some o' := e
    cases ei : ixN xs.length i with
    | none => rw [ei] at e; cases e
    | some n =>
      rw [ei] at e
      cases e
      exact ⟨a, vs, i, n, rfl, rfl, hv, by rw [← rvs.length]; exact ei, go _ ⟨_, upd_same, rvs.set n rv⟩⟩
  | _ => cases e
theorem putO_dict {K : PySem.W.Frag} {F H : Hp} {a : Addr} {o o' : OB} {k v : PV} {kv vv : V} (fh : FH F H) (r : RepO K F H a o) (rk : RepB K F H k kv) (rv : RepV K F v vv) (hl : ∀ xs, o ≠ .lst xs) (e : putO o k v = some o') :
    ∃ u, DPut H a kv vv (upd H a u) ∧ RepO K F (upd H a u) a o' := by
  cases o with
  | lst xs => exact absurd rfl (hl xs)
  | dT ks xs =>
    obtain ⟨vs, hv, l, rvs⟩ := r
    have e : (tkeyOf k).bind (fun key => if ks.length < 16777216 then some (OB.dT (putKs ks key) (putXs ks xs key v)) else none) = some o' := e
    cases ek : tkeyOf k with
    | none => rw [ek] at e; cases e
    | some key =>
      rw [ek] at e
      have e : (if ks.length < 16777216 then some (OB.dT (putKs ks key) (putXs ks xs key v)) else none) = some o' := e
      split at e
      · rename_i hz
        cases e
        obtain ⟨b, rfl, hb⟩ := tkeyOf_rep fh rk ek
        obtain ⟨ws, e1, e2, e3⟩ := put_rep (k := key) rvs l rv
        refine ⟨_, DPut.t hv hb (by rw [List.length_zip, ← l, Nat.min_self, sizeLine_eq]; exact hz), ?_⟩
        rw [e1]
        exact ⟨ws, upd_same, e2, e3⟩
      · cases e
  | dK ks xs =>
    obtain ⟨vs, hv, l, rvs⟩ := r
    have e : (keyOf k).bind (fun key => if ks.length < 16777216 then some (OB.dK (putKs ks key) (putXs ks xs key v)) else none) = some o' := e
    cases ek : keyOf k with
    | none => rw [ek] at e; cases e
    | some key =>
      rw [ek] at e
      have e : (if ks.length < 16777216 then some (OB.dK (putKs ks key) (putXs ks xs key v)) else none) = some o' := e
      split at e
      · rename_i hz
        cases e
        have := skeyOf_rep rk ek
        subst this
        obtain ⟨ws, e1, e2, e3⟩ := put_rep (k := key) rvs l rv
        refine ⟨_, DPut.k hv (by rw [List.length_zip, ← l, Nat.min_self, sizeLine_eq]; exact hz), ?_⟩
        rw [e1]
        exact ⟨ws, upd_same, e2, e3⟩
      · cases e
  | ob C ns xs => cases e
/-- d[k] = e, d an own dict -/
theorem SS.putD (hu : X.A.units + 1 < cLine) (hx : PE X (.Name x pos') (tVar j)) (hi : SE X W i mi) (h : SE X W e mv) (hs : swapsWith e (some (.Subscript (.Name x pos') i apos)) pos.line X.env = pure false := by rfl) (hd : ∀ ρ xs, ownO ρ j ≠ some (.lst xs) ∨ True := by exact fun _ _ => .inr trivial) :
    SS X W (.Assign [.Subscript (.Name x pos') i apos] e pos) (fun ρ => (mOp mv ρ).bind fun p => (liftO p.1.val?).bind fun x => (liftO (ownO p.2 j)).bind fun _ => (mOp mi p.2).bind fun q =>
      (liftO (deref q.2 q.1)).bind fun k => (liftO (ownO q.2 j)).bind fun o => (liftO (match o with | .lst _ => none | o => putO o k x)).bind fun o' => .ok (.nx, setC j o' q.2)) := by
  refine PS.imp (ps_dput hu hx hi h hs) fun D σ H ⟨ρ, F, R, q⟩ => ?_
  refine tM_op R q fun r1 ρ1 v F1 H1 es1 q1 h1 => ?_
  obtain ⟨y, ey, h2⟩ := h1.lift
  obtain ⟨o0, eo0, h3⟩ := h2.lift
  have ev : r1 = .val y := val?_inv ey
  subst ev
  have q1 : RepV X.K F1 y v := q1
  obtain ⟨a, ea, _, _, _⟩ := ownO_at es1.rel eo0
  refine ⟨.ref a, ea, ?_⟩
  refine tM_op es1.rel h3 fun r2 ρ2 kv F2 H2 es2 q2 h4 => ?_
  obtain ⟨k, ek, h5⟩ := h4.lift
  obtain ⟨o, eo, h6⟩ := h5.lift
  obtain ⟨o', eo', h7⟩ := h6.lift
  have eo : ownO ρ2 j = some o := eo
  have h7 : ∀ σ' F' H', ES X.K ρ σ F H (setC j o' ρ2) σ' F' H' → D.nx σ' H' := h7
  obtain ⟨b, eb, _, _, ro⟩ := ownO_at es2.rel eo
  rw [ea] at eb
  cases eb
  have nl : ∀ xs, o ≠ .lst xs := fun xs z => by rw [z] at eo'; cases eo'
  have eo' : putO o k y = some o' := by
    cases o with
    | lst xs => exact absurd rfl (nl xs)
    | dT _ _ => exact eo'
    | dK _ _ => exact eo'
    | ob _ _ _ => cases eo'
  obtain ⟨u, dp, ro'⟩ := putO_dict es2.rel.fh ro (q2.b es2.rel ek) (RepV.mono es2.st.ff q1) nl eo'
  exact ⟨a, _, rfl, dp, h7 _ _ _ ((es1.trans es2).trans (es2.rel.write eo ea ro'))⟩
/-- xs[i] = e, xs an own list -/
theorem SS.putL (hx : PE X (.Name x pos') (tVar j)) (hi : SE X W i mi) (h : SE X W e mv) (hs : swapsWithSole [.Subscript (.Name x pos') i apos] e pos.line X.env = pure false := by rfl) (hw : swappedStores [.Subscript (.Name x pos') i apos] e X.env = pure none := by rfl)
    (h1 : (assignEach [.Subscript (.Name x pos') i apos] X.env).map (·.2) = [assign (.Subscript (.Name x pos') i apos) X.env] := by rfl)
    (ha : ∀ v, assign (.Subscript (.Name x pos') i apos) X.env v = (do
      let ov ← holding [v] (eval (.Name x pos') X.env)
      let iv ← holding [v, ov] (eval i X.env)
      standAt apos
      holding [v, ov, iv] (setItem ov iv v)
      release [v, ov, iv] []) := by intro _; rfl) :
    SS X W (.Assign [.Subscript (.Name x pos') i apos] e pos) (fun ρ => (mOp mv ρ).bind fun p => (liftO p.1.val?).bind fun x => (liftO (ownO p.2 j)).bind fun _ => (mOp mi p.2).bind fun q =>
      (liftO (deref q.2 q.1)).bind fun k => (liftO ((ownL? q.2 j).map OB.lst)).bind fun o => (liftO (putO o k x)).bind fun o' => .ok (.nx, setC j o' q.2)) := by
  refine PS.imp (ps_asg h (pg_sub hx hi set_list ha) hs hw h1) fun D σ H ⟨ρ, F, R, q⟩ => ?_
  refine tM_op R q fun r1 ρ1 v F1 H1 es1 q1 h1 => ?_
  obtain ⟨y, ey, h2⟩ := h1.lift
  obtain ⟨o0, eo0, h3⟩ := h2.lift
  have ev : r1 = .val y := val?_inv ey
  subst ev
  have q1 : RepV X.K F1 y v := q1
  obtain ⟨a, ea, _, _, _⟩ := ownO_at es1.rel eo0
  refine ⟨.ref a, ea, ?_⟩
  refine tM_op es1.rel h3 fun r2 ρ2 kv F2 H2 es2 q2 h4 => ?_
  obtain ⟨k, ek, h5⟩ := h4.lift
  obtain ⟨o, eo, h6⟩ := h5.lift
  obtain ⟨o', eo', h7⟩ := h6.lift
  have eo : (ownL? ρ2 j).map OB.lst = some o := eo
  have h7 : ∀ σ' F' H', ES X.K ρ σ F H (setC j o' ρ2) σ' F' H' → D.nx σ' H' := h7
  cases el : ownL? ρ2 j with
  | none => rw [el] at eo; cases eo
  | some xs =>
    rw [el] at eo
    cases eo
    obtain ⟨b, eb, _, _, ro⟩ := ownO_at es2.rel (ownL?_inv el)
    rw [ea] at eb
    cases eb
    exact putO_lst ro (q2.b es2.rel ek) (RepV.mono es2.st.ff q1) ⟨xs, rfl⟩ eo' fun u ro' => h7 _ _ _ ((es1.trans es2).trans (es2.rel.write (ownL?_inv el) ea ro'))
end
def mPutD (j : Nat) (mv mi : M) : MS := fun ρ => (mOp mv ρ).bind fun p => (liftO p.1.val?).bind fun x => (liftO (ownO p.2 j)).bind fun _ => (mOp mi p.2).bind fun q =>
      (liftO (deref q.2 q.1)).bind fun k => (liftO (ownO q.2 j)).bind fun o => (liftO (match o with | .lst _ => none | o => putO o k x)).bind fun o' => .ok (.nx, setC j o' q.2)
def mPutL (j : Nat) (mv mi : M) : MS := fun ρ => (mOp mv ρ).bind fun p => (liftO p.1.val?).bind fun x => (liftO (ownO p.2 j)).bind fun _ => (mOp mi p.2).bind fun q =>
      (liftO (deref q.2 q.1)).bind fun k => (liftO ((ownL? q.2 j).map OB.lst)).bind fun o => (liftO (putO o k x)).bind fun o' => .ok (.nx, setC j o' q.2)

/-! ### x op= e -/
def mAug (i : Nat) (f : PV → PV → Option RV) (m : M) : MS := fun ρ => (mBor i ρ).bind fun p0 => (mOp m p0.2).bind fun p => (liftO (deref p.2 p0.1)).bind fun a => (liftO (deref p.2 p.1)).bind fun b => (liftO (f a b)).bind fun r =>
  (liftO (setR i r p.2)).bind fun ρ' => .ok (.nx, ρ')
theorem mBor_q {K : PySem.W.Frag} {W : WX} {ρ : Env} {σ : L2.St} {F H : Hp} {i : Nat} {β : Type} {k : RV × Env → Res β} {R : β → Prop} (rel : Rel K F H ρ σ) (h : Ok W ρ σ F H ((mBor i ρ).bind k) R) :
    ∃ r v, σ[i]? = some (some v) ∧ RepQ K F σ r v ∧ Ok W ρ σ F H (k (r, ρ)) R := by
  unfold mBor at h
  cases e : ρ[i]? with
  | none => rw [e] at h; exact h.elim
  | some s =>
    cases s with
    | none => rw [e] at h; exact h.elim
    | some s =>
      obtain ⟨v, ev, r⟩ := rel.slot i s e
      rw [e] at h
      cases s with
      | val p => exact ⟨.val p, v, ev, r, h⟩
      | own o => exact ⟨.bor i, v, ev, ev, h⟩
      | par o => exact ⟨.bor i, v, ev, ev, h⟩
section
variable {X : Cx} {W : WX} {e : Expr} {m : M} {pos pos' : Pos} {x : Str} {i : Nat} {op : Operator} {ti : TIp} {f : PV → PV → Option RV}
theorem SS.aug (ho : PIp X op ti) (hp : Prim2 X.K ti f) (h : SE X W e m) (hN : X.N.Nodup) (hi : X.N[i]? = some x) (hx : Loc X.env.scope x) (hf : X.fn x = true ∨ X.env.scope.names.lookup x = some .local := by first | exact .inl rfl | exact .inr rfl | assumption) :
    SS X W (.AugAssign (.Name x pos') op e pos) (mAug i f m) :=
  PS.imp (ps_aug hN hi hx h ho hf) fun D σ H ⟨ρ, F, R, q⟩ => by
    obtain ⟨r0, v, ev, q0, q⟩ := mBor_q R q
    refine ⟨v, ev, ?_⟩
    refine tM_op R q fun r ρ1 y F1 H1 es1 q1 h1 => ?_
    obtain ⟨a, ea, h2⟩ := h1.lift
    obtain ⟨b, eb, h3⟩ := h2.lift
    obtain ⟨res, er, h4⟩ := h3.lift
    obtain ⟨ρ', e', h5⟩ := h4.lift
    have h5 : ∀ σ' F' H', ES X.K ρ σ F H ρ' σ' F' H' → D.nx σ' H' := h5
    refine hp v y F1 H1 _ a b res es1.rel.fh ((q0.mono es1.st.ff).b es1.rel ea) (q1.b es1.rel eb) er fun z F' H' g rn => ?_
    exact h5 _ _ _ (setR_ok (es1.trans (g.es es1.rel)) ((rn.rr es1.rel).weak fun a ha => es1.free ha) e')

/-! ### a name handed back -/
def mRetNm (i : Nat) : MS := fun ρ => match ρ[i]? with
  | some (some (.val p)) => .ok (.rt (.val p), ρ)
  | some (some (.own o)) => .ok (.rt (.new o), ρ.set i none)
  | some (some (.par o)) => .ok (.rt (.val o.pv), ρ.set i (some (.val o.pv)))
  | _ => .bad
theorem Rel.drop {K : PySem.W.Frag} {ρ : Env} {σ : L2.St} {F H : Hp} {i : Nat} (R : Rel K F H ρ σ) : ES K ρ σ F H (ρ.set i none) σ F H ∧ ∀ j a, OwnAt (ρ.set i none) σ j a → OwnAt ρ σ j a ∧ j ≠ i := by
  have get : ∀ (j : Nat) (s : SV), (ρ.set i none)[j]? = some (some s) → ρ[j]? = some (some s) ∧ j ≠ i := fun j s h => by
    by_cases hj : j = i
    · subst hj
      rw [List.getElem?_set, if_pos rfl] at h
      split at h <;> cases h
    · rw [List.getElem?_set_ne (Ne.symm hj)] at h
      exact ⟨h, hj⟩
  have own : ∀ j a, OwnAt (ρ.set i none) σ j a → OwnAt ρ σ j a ∧ j ≠ i := fun j a ⟨h1, h2⟩ => by
    rcases h1 with ⟨o, e⟩ | ⟨o, e⟩
    · obtain ⟨e', n⟩ := get _ _ e
      exact ⟨⟨.inl ⟨o, e'⟩, h2⟩, n⟩
    · obtain ⟨e', n⟩ := get _ _ e
      exact ⟨⟨.inr ⟨o, e'⟩, h2⟩, n⟩
  refine ⟨⟨Step.refl _ _ _, ⟨by simpa using R.len, fun j s h => R.slot j s (get j s h).1, R.fh, fun j k a h1 h2 => R.inj j k a (own j a h1).1 (own k a h2).1⟩, fun a ⟨j, h⟩ => .inl ⟨j, (own j a h).1⟩, fun a ⟨j, o, h1, h2⟩ => .inl ⟨j, o, (get j _ h1).1, h2⟩, fun j o h => ⟨⟨o, (get j _ h).1⟩, rfl⟩⟩, own⟩
theorem SS.retNm (h : PE X (.Name x pos') (tVar i)) : SS X W (.Return (some (.Name x pos')) pos) (mRetNm i) :=
  PS.imp (ps_ret h) fun D σ H ⟨ρ, F, R, q⟩ => by
    unfold mRetNm at q
    cases e : ρ[i]? with
    | none => rw [e] at q; exact q.elim
    | some s =>
      cases s with
      | none => rw [e] at q; exact q.elim
      | some s =>
        obtain ⟨v, ev, r⟩ := R.slot i s e
        rw [e] at q
        refine ⟨v, ev, ?_⟩
        cases s with
        | val p => exact q v σ F H (ES.refl R) r
        | own o =>
          obtain ⟨a, rfl, n, ro⟩ := r
          obtain ⟨es, own⟩ := R.drop (i := i)
          refine q _ σ F H es ⟨a, rfl, n, .inr ⟨i, o, e, ev⟩, fun ⟨j, oj⟩ => ?_, ro⟩
          obtain ⟨o1, nj⟩ := own j a oj
          exact nj (R.inj j i a o1 ⟨.inl ⟨o, e⟩, ev⟩)
        | par o =>
          obtain ⟨F', v', ev', es, rr⟩ := R.freeze (.inr e)
          rw [ev] at ev'
          cases ev'
          exact q _ σ F' H es rr

/-! ### while -/
def whileM (t : MT) (b : MS) : Nat → MS
  | 0 => fun _ => .bad
  | n + 1 => fun ρ => (t ρ).bind fun p => if p.1 = true then (b p.2).bind fun q => match q.1 with
      | .nx => whileM t b n q.2
      | .ct => whileM t b n q.2
      | .bk => .ok (.nx, q.2)
      | .rt r => .ok (.rt r, q.2)
    else .ok (.nx, p.2)
theorem SS.while {c : Expr} {body : List Stmt} {tc : MT} {mb : MS} (n : Nat) (hc : ST X W c tc) (hb : SSs X W body mb) (hp : PassesOwn (model X.prog X.w) X.A X.env X.xe) : SS X W (.While c body [] pos) (whileM tc mb n) :=
  PS.imp (ps_while hp hc hb) fun D σ H h => by
    refine ⟨fun n σ H => tMS X.K W (whileM tc mb n) D σ H, ⟨n, h⟩, fun m σ H ⟨ρ, F, R, q⟩ => ?_⟩
    cases m with
    | zero => exact q.elim
    | succ m =>
      refine ⟨ρ, F, R, q.of_bind.mono fun p hp F1 H1 es => ?_⟩
      refine ite2 (fun z => ?_) (fun z => ?_)
      · rw [if_pos z] at hp
        refine ⟨fun σ' H' => tMS X.K W (whileM tc mb m) D σ' H', fun σ' H' h => ⟨m, Nat.lt_succ_self _, h⟩, ?_⟩
        refine ⟨p.2, F1, es.rel, (hp.of_bind.shift es).mono fun p2 h3 => ?_⟩
        obtain ⟨fl, ρ2⟩ := p2
        cases fl with
        | nx => exact fun σ2 F2 H2 es2 => tMS_mk es2.rel ((h3.shift (es.trans es2)).mono fun p3 h4 => RestS.go h4 (es.trans es2))
        | ct => exact fun σ2 F2 H2 es2 => tMS_mk es2.rel ((h3.shift (es.trans es2)).mono fun p3 h4 => RestS.go h4 (es.trans es2))
        | bk =>
          have h3 : ∀ σ' F' H', ES X.K ρ σ F H ρ2 σ' F' H' → D.nx σ' H' := h3
          exact fun σ2 F2 H2 es2 => h3 σ2 F2 H2 (es.trans es2)
        | rt r =>
          have h3 : ∀ v σ' F' H', ES X.K ρ σ F H ρ2 σ' F' H' → RepR X.K (FrL H ρ σ) F' H' ρ2 σ' r v → D.rt v H' := h3
          exact fun v σ2 F2 H2 es2 rr => h3 v σ2 F2 H2 (es.trans es2) (rr.weak fun a ha => ha.back es)
      · rw [if_neg z] at hp
        have hp : ∀ σ' F' H', ES X.K ρ σ F H p.2 σ' F' H' → D.nx σ' H' := hp
        exact hp σ F1 H1 es
end

/-! ### a def by its body -/
def SV.lent : SV → Option OB
  | .par o => some o
  | _ => none
def outsOf (n : Nat) (ρ : Env) : List (Option OB) := (List.range n).map fun k => (ρ[k]?).join.bind SV.lent
/-- an exception here is not told of -/
def Res.nox {α : Type} : Res α → Res α
  | .exc _ => .bad
  | r => r
def RV.out : RV → Option RV
  | .bor _ => none
  | r => some r
def runF (size : Nat) (b : MS) : G := fun avs => (b (avs.map AV.slot ++ List.replicate (size - avs.length) none)).nox.bind fun p => match p.1 with
  | .rt r => (liftO r.out).bind fun r => .ok (r, outsOf avs.length p.2)
  | .nx => .ok (.val .non, outsOf avs.length p.2)
  | _ => .bad
theorem Rel.pad {K : PySem.W.Frag} {ρ : Env} {σ : L2.St} {F H : Hp} (R : Rel K F H ρ σ) (n : Nat) : Rel K F H (ρ ++ List.replicate n none) (σ ++ List.replicate n none) ∧ (∀ j a, OwnAt (ρ ++ List.replicate n none) (σ ++ List.replicate n none) j a → OwnAt ρ σ j a) := by
  have get : ∀ (j : Nat) (s : SV), (ρ ++ List.replicate n none)[j]? = some (some s) → ρ[j]? = some (some s) ∧ j < ρ.length := fun j s h => by
    by_cases hj : j < ρ.length
    · rw [List.getElem?_append_left hj] at h
      exact ⟨h, hj⟩
    · rw [List.getElem?_append_right (by omega), List.getElem?_replicate] at h
      split at h <;> cases h
  have own : ∀ j a, OwnAt (ρ ++ List.replicate n none) (σ ++ List.replicate n none) j a → OwnAt ρ σ j a := fun j a ⟨h1, h2⟩ => by
    rcases h1 with ⟨o, e⟩ | ⟨o, e⟩
    · obtain ⟨e', n⟩ := get _ _ e
      rw [List.getElem?_append_left (by rw [← R.len]; exact n)] at h2
      exact ⟨.inl ⟨o, e'⟩, h2⟩
    · obtain ⟨e', n⟩ := get _ _ e
      rw [List.getElem?_append_left (by rw [← R.len]; exact n)] at h2
      exact ⟨.inr ⟨o, e'⟩, h2⟩
  refine ⟨⟨by simp [R.len], fun j s h => ?_, R.fh, fun j k a h1 h2 => R.inj j k a (own _ _ h1) (own _ _ h2)⟩, own⟩
  obtain ⟨e, l⟩ := get j s h
  obtain ⟨v, ev, r⟩ := R.slot j s e
  exact ⟨v, by rw [List.getElem?_append_left (by rw [← R.len]; exact l)]; exact ev, r⟩
abbrev W0 : WX := fun _ _ _ => False
section
variable {P : Program} {w : World} {K : PySem.W.Frag} {mg : Str → Option Value} {base : Heap}
theorem fn_mk {x qual : Str} {st : Stmt} {f : Addr} {fd : FuncData} {N ps : List Str} {k : Nat} {b : MS} {RX : RXT} (Fn : Fun K x qual st f fd) (S : FnScope N ps (defScope st))
    (hb : ∀ (cdv : Value) (A : Around) (outer : List PySem.Env) (s : Shared) (H : Hp) (E : XK), Room k (A.deeper (envOfC qual (defScope st) s.heap.objs.size f cdv)) → SSs (cxOf CX0 P w K mg base N qual (defScope st) f cdv A outer s H E).nox W0 (defBody st) b) :
    FnOk P w K mg base CX0 (k + 1) f fd ps (spF K RX (runF N.length b) ps.length) := by
  refine Fn.ok S (fun vs H Q E h => h.1) fun cdv A outer s H vs Q E hr ⟨hl, F, avs, R, q⟩ => ?_
  refine ⟨_, hb cdv A outer s H E hr, ?_⟩
  have hla : avs.length = vs.length := by have := R.len; simpa using this
  obtain ⟨R', own⟩ := R.pad (N.length - vs.length)
  have est : start N vs = vs.map some ++ List.replicate (N.length - vs.length) none := rfl
  rw [est]
  rw [← hla] at R' own ⊢
  refine ⟨_, F, R', ?_⟩
  have ownO' : ∀ x, Own (avs.map AV.slot ++ List.replicate (N.length - avs.length) none) (vs.map some ++ List.replicate (N.length - avs.length) none) x → Own (avs.map AV.slot) (vs.map some) x := fun x ⟨j, h⟩ => ⟨j, own j x h⟩
  unfold runF at q
  cases e : b (avs.map AV.slot ++ List.replicate (N.length - avs.length) none) with
  | bad => rw [e] at q; exact q.elim
  | exc y => rw [e] at q; exact q.elim
  | ok p =>
    rw [e] at q
    obtain ⟨fl, ρ'⟩ := p
    -- what is left of the lent
    have outs : ∀ {σ' : L2.St} {F' H' : Hp}, ES K (avs.map AV.slot ++ List.replicate (N.length - avs.length) none) (vs.map some ++ List.replicate (N.length - avs.length) none) F H ρ' σ' F' H' →
        RepOut K F' H' vs (outsOf avs.length ρ') := fun {σ' F' H'} es i o ho => by
      unfold outsOf at ho
      rw [List.getElem?_map] at ho
      cases er : (List.range avs.length)[i]? with
      | none => rw [er] at ho; cases ho
      | some k =>
        rw [er] at ho
        have hk : k = i ∧ i < avs.length := by
          have hi := (List.getElem?_eq_some_iff.mp er).1
          rw [List.getElem?_range (by simpa using hi)] at er
          cases er
          exact ⟨rfl, by simpa using hi⟩
        obtain ⟨rfl, hi⟩ := hk
        have ho : (ρ'[k]?).join.bind SV.lent = some o := Option.some.inj ho
        cases es2 : ρ'[k]? with
        | none => rw [es2] at ho; cases ho
        | some s =>
          cases s with
          | none => rw [es2] at ho; cases ho
          | some s =>
            rw [es2] at ho
            cases s with
            | val p => cases ho
            | own p => cases ho
            | par o' =>
              cases ho
              obtain ⟨v, ev, a, rfl, n, r⟩ := es.rel.slot k _ es2
              have z := (es.par k o es2).2
              rw [ev, List.getElem?_append_left (by simpa [hla] using hi), List.getElem?_map] at z
              cases ew : vs[k]? with
              | none => rw [ew] at z; cases z
              | some w =>
                rw [ew] at z
                cases z
                exact ⟨a, rfl, n, r⟩
    have ownE : ∀ {σ' : L2.St} {F' H' : Hp}, ES K (avs.map AV.slot ++ List.replicate (N.length - avs.length) none) (vs.map some ++ List.replicate (N.length - avs.length) none) F H ρ' σ' F' H' → Step (Own (avs.map AV.slot) (vs.map some)) F H F' H' := fun es => es.st.mono ownO'
    cases fl with
    | nx =>
      have q : ∀ v F' H', Step (Own (avs.map AV.slot) (vs.map some)) F H F' H' → FH F' H' → RepN K H F' H' (.val .non) v → RepOut K F' H' vs (outsOf avs.length ρ') → Q v H' := q
      exact fun σ' F' H' es => q .non F' H' (ownE es) es.rel.fh (show RepV K F' .non .non by unfold RepV; rfl) (outs es)
    | bk => exact q.elim
    | ct => exact q.elim
    | rt r =>
      cases er : r.out with
      | none =>
        have q : match ((liftO r.out).bind fun r => Res.ok (r, outsOf avs.length ρ')) with
          | .ok q => ∀ v F' H', Step (Own (avs.map AV.slot) (vs.map some)) F H F' H' → FH F' H' → RepN K H F' H' q.1 v → RepOut K F' H' vs q.2 → Q v H'
          | .exc x => ∀ cls d F' H', Step (Own (avs.map AV.slot) (vs.map some)) F H F' H' → FH F' H' → RX x cls d H' → E cls d H'
          | .bad => False := q
        rw [er] at q
        exact q.elim
      | some r' =>
        have q : match ((liftO r.out).bind fun r => Res.ok (r, outsOf avs.length ρ')) with
          | .ok q => ∀ v F' H', Step (Own (avs.map AV.slot) (vs.map some)) F H F' H' → FH F' H' → RepN K H F' H' q.1 v → RepOut K F' H' vs q.2 → Q v H'
          | .exc x => ∀ cls d F' H', Step (Own (avs.map AV.slot) (vs.map some)) F H F' H' → FH F' H' → RX x cls d H' → E cls d H'
          | .bad => False := q
        rw [er] at q
        have q3 : ∀ v F' H', Step (Own (avs.map AV.slot) (vs.map some)) F H F' H' → FH F' H' → RepN K H F' H' r' v → RepOut K F' H' vs (outsOf avs.length ρ') → Q v H' := q
        clear q
        have err : r' = r := by
          cases r with
          | val p => cases er; rfl
          | bor i => cases er
          | new o => cases er; rfl
        subst err
        refine fun v σ' F' H' es rr => q3 v F' H' (ownE es) es.rel.fh ?_ (outs es)
        cases r' with
        | val p => exact rr
        | bor i => cases er
        | new o =>
          obtain ⟨a, ea, n, fr, no, ro⟩ := rr
          refine ⟨a, ea, n, ?_, ro⟩
          rcases fr with z | ⟨i, o', h1, h2⟩
          · exact z
          · exfalso
            by_cases hj : i < (avs.map AV.slot).length
            · rw [List.getElem?_append_left hj] at h1
              exact slot_own h1
            · rw [List.getElem?_append_right (by omega), List.getElem?_replicate] at h1
              split at h1 <;> cases h1
end
end Pu

set_option Elab.async false
set_option linter.all false
set_option maxRecDepth 100000
/-! Pu9: what is walked: lists and tuples in any mix under zip and enumerate. -/
namespace Pu
open PySem PySem.Spec PyProof.Rows L2

/-! ### a source: a list (false), a tuple (true) -/
def SqA (k : Bool) (K : PySem.W.Frag) (H : Hp) (a : Addr) (xs : List V) : Prop := match k with
  | false => SqL K H a xs
  | true => SqT K H a xs
def ItAt (k : Bool) (h : Heap) (it a : Addr) (i : Nat) : Prop := match k with
  | false => h.IsListIter it a i
  | true => h.IsTupleIter it a i
def SqO (k : Bool) (h : Heap) (a : Addr) (its : Array Value) : Prop := match k with
  | false => h.IsList a its
  | true => h.IsTuple a its
def itObj (k : Bool) (a : Addr) : Obj := match k with
  | false => { cls := .type "list_iterator", data := .fields #[.ref a, .int 0 0] }
  | true => { cls := .type "tuple_iterator", data := .fields #[.ref a, .int 0 0] }
theorem srcDraws (k : Bool) {prog : Program} {w : World} {A : Around} (hh : A.handled = none) (it a : Addr) (hne : a ≠ it) (its : Array Value) :
    Draws prog w A it [it, a] its.size (fun i v => its[i]? = some v) (fun i h => ItAt k h it a i ∧ SqO k h a its) := by
  cases k
  · exact Draws.list hh it a hne its
  · exact Draws.tuple hh it a hne its
theorem srcBegins (k : Bool) (a : Addr) (its : Array Value) : Begins (.ref a) (itObj k a) fun h => SqO k h a its := by
  cases k
  · exact begins_list a its
  · exact begins_tuple a its
theorem ItAt.first (k : Bool) {h : Heap} {it a : Addr} (e : h.get? it = some (itObj k a)) : ItAt k h it a 0 := by
  cases k
  · exact ⟨_, e, rfl, rfl⟩
  · exact ⟨_, e, rfl, rfl⟩
theorem ItAt.obj {k : Bool} {h : Heap} {it a : Addr} {i : Nat} (x : ItAt k h it a i) : ∃ o, h.get? it = some o ∧ ∀ v, o.data ≠ .cell v := by
  cases k
  · obtain ⟨o, e, _, d⟩ := x
    exact ⟨o, e, fun v z => by rw [d] at z; cases z⟩
  · obtain ⟨o, e, _, d⟩ := x
    exact ⟨o, e, fun v z => by rw [d] at z; cases z⟩
theorem ItAt.at {k : Bool} {h h' : Heap} {it a : Addr} {i : Nat} (x : ItAt k h it a i) (f : ∀ o, h.get? it = some o → h'.get? it = some o) : ItAt k h' it a i := by
  cases k
  · exact Heap.IsListIter.at x f
  · exact Heap.IsTupleIter.at x f
section
variable {X : Cx} {pins : List (Addr × Obj)} {σ : L2.St} {H : Hp} {s : Shared} {a : Addr} {xs ys : List V} {k : Bool}
theorem Inv.src (I : Inv X pins σ H s) (h : SqA k X.K H a xs) : ∃ its : List Value, Vals xs its ∧ SqO k s.heap a its.toArray ∧ a < s.heap.objs.size := by
  cases k
  · obtain ⟨its, rv, p, _⟩ := I.list h
    exact ⟨its, rv, p.isList, p.lt⟩
  · obtain ⟨its, rv, p, _⟩ := I.tuple h
    obtain ⟨o, ho, _⟩ := id p
    exact ⟨its, rv, p, Heap.lt_size ho⟩
theorem Inv.src_inj (I : Inv X pins σ H s) (h : SqA k X.K H a xs) (h' : SqA k X.K H a ys) : xs = ys := by
  cases k
  · exact I.list_inj h h'
  · exact I.tuple_inj h h'
end
/-- the sources at a and b as they stand at each turn, the items in new pairs -/
def Itz2 (k1 k2 : Bool) (K : PySem.W.Frag) (a b : Addr) : It :=
  ⟨fun i H => ∃ (xs ys : List V) (x y : V), SqA k1 K H a xs ∧ SqA k2 K H b ys ∧ xs[i]? = some x ∧ ys[i]? = some y,
    fun i H v H' => ∃ T x y, v = .ref T ∧ H T = none ∧ H' = upd H T (.tup [x, y]) ∧ (∀ xs, SqA k1 K H a xs → xs[i]? = some x) ∧ ∀ ys, SqA k2 K H b ys → ys[i]? = some y,
    fun i H => ∃ xs ys : List V, SqA k1 K H a xs ∧ SqA k2 K H b ys ∧ i ≤ xs.length ∧ i ≤ ys.length ∧ (i = xs.length ∨ i = ys.length)⟩
theorem turn_zip2 {P : Program} {w : World} {K : PySem.W.Frag} {elts : List Expr} {kk : Nat} {tpos : Pos} {k1 k2 : Bool} {a b z TI TO i1 i2 : Addr} (D : ZipSep2 z TI TO i1 i2 [i1, a] [i2, b]) (na : a ≠ i1) (nb : b ≠ i2) :
    Turn P w K (.Tuple elts kk tpos) (Itz2 k1 k2 K a b) [z, TI, TO, i1, i2] z (fun i h => IsZip h z TI TO .none ∧ IsTupOf2 h TI (.ref i1) (.ref i2) ∧ (∃ x y, IsTupOf2 h TO x y) ∧ ItAt k1 h i1 a i ∧ ItAt k2 h i2 b i) where
  mem := by simp
  obj := fun i h st c hc => by
    obtain ⟨hz, hTI, ⟨x, y, hTO⟩, h1, h2⟩ := st
    have e' : c = z ∨ c = TI ∨ c = TO ∨ c = i1 ∨ c = i2 := by simpa using hc
    rcases e' with q | q | q | q | q
    · rw [q]; exact ⟨_, hz, fun v q => nomatch q⟩
    · rw [q]; exact ⟨_, hTI, fun v q => nomatch q⟩
    · rw [q]; exact ⟨_, hTO, fun v q => nomatch q⟩
    · rw [q]; exact h1.obj
    · rw [q]; exact h2.obj
  keep := fun i h h' st k => by
    obtain ⟨hz, hTI, ⟨x, y, hTO⟩, h1, h2⟩ := st
    exact ⟨k z (by simp) _ hz, k TI (by simp) _ hTI, ⟨x, y, k TO (by simp) _ hTO⟩, h1.at fun o q => k i1 (by simp) o q, h2.at fun o q => k i2 (by simp) o q⟩
  item := by
    intro X hP hw hK hc i pins s σ H E I hf st hg
    subst hP hw hK
    obtain ⟨hz, hTI, ⟨x0, y0, hTO⟩, h1, h2⟩ := st
    obtain ⟨xs, ys, x, y, hqx, hqy, hx, hy⟩ := hg
    obtain ⟨its, rv, p, la⟩ := Inv.src I hqx
    obtain ⟨its2, rv2, p2, lb⟩ := Inv.src I hqy
    obtain ⟨u, hu, ru⟩ := rv.get hx
    obtain ⟨u2, hu2, ru2⟩ := rv2.get hy
    have hzl : z < s.heap.objs.size := Heap.lt_size hz
    have hh : X.A.in1.handled = none := I.ok.hd hc
    have hu' : i < its.toArray.size := by
      have := (List.getElem?_eq_some_iff.mp hu).1
      simpa using this
    have hu2' : i < its2.toArray.size := by
      have := (List.getElem?_eq_some_iff.mp hu2).1
      simpa using this
    refine wpAny_pyNext_zipD2_item D (srcDraws k1 hh i1 a na its.toArray) (srcDraws k2 hh i2 b nb its2.toArray) hz hTI hTO ⟨h1, p⟩ ⟨h2, p2⟩ hu' hu2' fun x1 x2 h' tk e1 e2 z' TO' h1' h2' hT hsz hk => ?_
    have e1 : x1 = u := by
      have e1 : its.toArray[i]? = some x1 := e1
      rw [List.getElem?_toArray, hu] at e1
      exact (Option.some.inj e1).symm
    have e2 : x2 = u2 := by
      have e2 : its2.toArray[i]? = some x2 := e2
      rw [List.getElem?_toArray, hu2] at e2
      exact (Option.some.inj e2).symm
    subst e1 e2
    refine ⟨_, rfl, wpAny_letOwnedTupleGo_zip (s := { s with heap := h', toks := tk }) z' fun h'' z'' sb => ?_⟩
    have hT2 : h''.get? s.heap.objs.size = some { cls := .type "tuple", data := .seq #[x1, x2] } := (sb.2 _ (Nat.ne_of_gt hzl)).trans hT
    have new : ObjOk X.prog X.w (upd H s.heap.objs.size (.tup [x, y])) h'' s.heap.objs.size (.tup [x, y]) :=
      ⟨by show 2 ≤ sizeLine; decide, [x1, x2], .cons ru (.cons ru2 .nil), ⟨_, hT2, rfl, _, rfl⟩⟩
    have I1 : Inv X pins σ (upd H s.heap.objs.size (.tup [x, y])) { s with heap := h'', toks := tk } :=
      I.turnedNew (ch := [z, TI, TO, i1, i2]) (fun c o hb q => (sb.2 c (fun q' => hb (by simp [q']))).trans (hk c o (fun q' => hb (by simp [q'])) (fun q' => hb (by simp [q'])) (fun q' => hb (by simp [q'])) (fun q' => hb (by simp [q'])) q)) hf (Nat.le_refl _) new
    refine ⟨.ref s.heap.objs.size, _, I1, rfl, ⟨_, x, y, rfl, I.hok.fresh (Nat.le_refl _), rfl, fun l hl => by rw [Inv.src_inj I hl hqx]; exact hx, fun l hl => by rw [Inv.src_inj I hl hqy]; exact hy⟩, ⟨z'', ?_, ⟨x1, x2, ?_⟩, ?_, ?_⟩, fun c hcm => ?_⟩
    · exact (sb.2 _ D.TIz).trans (hk _ _ D.TIz D.TITO D.TIi1 D.TIi2 hTI)
    · exact (sb.2 _ D.TOz).trans TO'
    · exact h1'.1.at fun o q => (sb.2 _ (Ne.symm D.zi1)).trans q
    · exact h2'.1.at fun o q => (sb.2 _ (Ne.symm D.zi2)).trans q
    · have hlt : c < s.heap.objs.size := by
        have e' : c = z ∨ c = TI ∨ c = TO ∨ c = i1 ∨ c = i2 := by simpa using hcm
        rcases e' with q | q | q | q | q
        · rw [q]; exact hzl
        · rw [q]; exact Heap.lt_size hTI
        · rw [q]; exact Heap.lt_size hTO
        · rw [q]; obtain ⟨_, e1, _⟩ := h1.obj; exact Heap.lt_size e1
        · rw [q]; obtain ⟨_, e2, _⟩ := h2.obj; exact Heap.lt_size e2
      rw [upd_ne (Nat.ne_of_lt hlt)]
      exact (hf c hcm).1
  done := by
    intro X hP hw hK hc i pins s σ H E I hf st hg
    subst hP hw hK
    obtain ⟨hz, hTI, ⟨x0, y0, hTO⟩, h1, h2⟩ := st
    obtain ⟨xs, ys, hqx, hqy, l1, l2, hend⟩ := hg
    obtain ⟨its, rv, p, la⟩ := Inv.src I hqx
    obtain ⟨its2, rv2, p2, lb⟩ := Inv.src I hqy
    have hh : X.A.in1.handled = none := I.ok.hd hc
    have q1 := rv.length
    have q2 := rv2.length
    exact wpAny_pyNext_zipD2_end D (srcDraws k1 hh i1 a na its.toArray) (srcDraws k2 hh i2 b nb its2.toArray) hz hTI hTO ⟨h1, p⟩ ⟨h2, p2⟩ (by simp; omega) (by simp; omega) (by simp; omega) fun h' tk hk => ⟨rfl, I.turnedL (ch := [z, TI, TO, i1, i2]) (fun c o hb q =>
      hk c o (fun q' => hb (by simp [q'])) (fun q' => hb (by simp [q'])) (fun q' => hb (by simp [q'])) (fun q' => hb (by simp [q'])) q) hf⟩
  self := fun A i s Q E st h => wpAny_pyIter_zip st.1 h

/-- zip of two sources -/
def iZip2 (K : PySem.W.Frag) (ta : TA) : TI := fun σ H R => ta σ H fun vs H1 => ∃ (k1 k2 : Bool) (a b : Addr) (xs ys : List V), vs = [.ref a, .ref b] ∧ SqA k1 K H1 a xs ∧ SqA k2 K H1 b ys ∧ R (Itz2 k1 k2 K a b) H1
theorem pi_zip2 {X : Cx} {e e2 : Expr} {ta : TA} {p pos tpos : Pos} {elts : List Expr} {kk : Nat} (hg : Gl X "zip") (hm : X.mg "zip" = none) (ha : PA X [e, e2] ta)
    (hs : starEach [e, e2] X.env = (false, eval e X.env) :: starEach [e2] X.env := by rfl) (hpl : (backTo pos (starEach [e2] X.env)).any (·.1) = false := by rfl) :
    PI X (.Tuple elts kk tpos) (.Call (.Name "zip" p) [e, e2] [] pos) (iZip2 X.K ta) := by
  refine ⟨fun pins s σ H R I h => ?_⟩
  refine Call_ (ld_blt I hg hm PyProof.Rows.boot_zip (PyProof.Rows.callWith_type1 (thn (ha.run pos pins s σ H _ I h) fun us s1 ⟨vs, H1, I1, r1, q1⟩ => ?_) hs hpl))
  obtain ⟨k1, k2, a, b, xs, ys, ex, hqx, hqy, q⟩ := q1
  subst ex
  cases r1 with
  | cons r rr =>
    cases rr with
    | cons r' rr =>
      cases rr
      cases r
      cases r'
      obtain ⟨its, rv, p1, la⟩ := Inv.src I1 hqx
      obtain ⟨its2, rv2, p2, lb⟩ := Inv.src I1 hqy
      refine zip_begins2 (srcBegins k1 a its.toArray) (srcBegins k2 b its2.toArray) p1 p2 fun h' hz hTI hTO h1 h2 hsz hk => wpAny_pyIter_zip hz ?_
      have I2 : Inv X pins σ H1 { s1 with heap := h' } := I1.kept (t' := s1.toks) hk
      have na : a ≠ s1.heap.objs.size := Nat.ne_of_lt la
      have nb : b ≠ s1.heap.objs.size + 1 := Nat.ne_of_lt (Nat.lt_succ_of_lt lb)
      have sep : ZipSep2 (s1.heap.objs.size + 4) (s1.heap.objs.size + 2) (s1.heap.objs.size + 3) s1.heap.objs.size (s1.heap.objs.size + 1) [s1.heap.objs.size, a] [s1.heap.objs.size + 1, b] :=
        zip_sep2 (fun c hc => by have e : c = a := by simpa using hc
                                 rw [e]; exact la) (fun c hc => by have e : c = b := by simpa using hc
                                                                   rw [e]; exact lb)
      refine ⟨s1.heap.objs.size + 4, [s1.heap.objs.size + 4, s1.heap.objs.size + 2, s1.heap.objs.size + 3, s1.heap.objs.size, s1.heap.objs.size + 1], _, _, H1, rfl, I2, turn_zip2 sep na nb, ⟨hz, hTI, ⟨_, _, hTO⟩, .first k1 h1, .first k2 h2⟩, fun c hcm => ?_, q⟩
      have e' : c = s1.heap.objs.size + 4 ∨ c = s1.heap.objs.size + 2 ∨ c = s1.heap.objs.size + 3 ∨ c = s1.heap.objs.size ∨ c = s1.heap.objs.size + 1 := by simpa using hcm
      have hle : s1.heap.objs.size ≤ c := by
        rcases e' with z | z | z | z | z
        · rw [z]; exact Nat.le_add_right _ _
        · rw [z]; exact Nat.le_add_right _ _
        · rw [z]; exact Nat.le_add_right _ _
        · rw [z]; exact Nat.le_refl _
        · rw [z]; exact Nat.le_add_right _ _
      exact I1.fpOk hle (I1.hok.fresh hle)

/-! ### enumerate of a source -/
set_option maxHeartbeats 1000000 in
theorem meets_enumerate_newB1 {v : Value} {o : Obj} {H : Heap → Prop} (B : Begins v o H) :
    Meets (Builtin.«enumerate.__new__» ⟨[.type "enumerate", v], []⟩) (fun _ R s => H s.heap ∧
      R (.ok (.ret (.ref (s.heap.push o).objs.size))) { s with heap := (s.heap.push o).push { cls := .type "enumerate", data := .fields #[.none, .bool false, .ref s.heap.objs.size, rawInt 0, .none, .none] } }) :=
  .of_wp fun prog w A R s h => by
    obtain ⟨hp, g, d, tk, os⟩ := s; obtain ⟨h1, h⟩ := h
    have hsub := sub_enumerate
    have q1 : ∀ {A' : Around} {E : Value → Shared → Prop} {Q : Value → Shared → Prop}, Q (.ref hp.objs.size) ⟨hp.push o, g, d, tk, os⟩ → wpAny (model prog w) A' (pyIter v) Q E ⟨hp, g, d, tk, os⟩ :=
      fun q => B.iter prog w _ _ ⟨hp, g, d, tk, os⟩ _ h1 q
    wp_walk using q1
    refine wpAny_stack_any fun st => wpAny_pure ?_
    split
    · rename_i c _ _ _ _ _
      cases (c == Value.type "enumerate")
      · wp_walk using q1
        exact ⟨_, rfl, h⟩
      · wp_walk using q1
        exact ⟨_, rfl, h⟩
    · wp_walk using q1
      exact ⟨_, rfl, h⟩
theorem enum_begins1 {prog : Program} {w : World} {A : Around} {E : Value → Shared → Prop} {s : Shared} {v : Value} {o : Obj} {H : Heap → Prop} {Q : Value → Shared → Prop} (B : Begins v o H) (h1 : H s.heap)
    (h : ∀ h', IsEnum h' (s.heap.objs.size + 1) s.heap.objs.size 0 .none → h'.get? s.heap.objs.size = some o → h'.objs.size = s.heap.objs.size + 2 →
      (∀ b o, s.heap.get? b = some o → h'.get? b = some o) → Q (.ref (s.heap.objs.size + 1)) { s with heap := h' }) :
    wpAny (model prog w) A (call (.type "enumerate") [v]) Q E s := by
  refine callType_new F.called_enumerate (by decide) (F.typeCall_enumerate_1 _) (F.newCall_enumerate_1 _) (fun obj => F.args_object_init_2 obj _) F.entry_enumerate_new
    (meets_enumerate_newB1 B) ⟨h1, ?_⟩
  have hz : (s.heap.push o).objs.size = s.heap.objs.size + 1 := Heap.size_push ..
  show _ ∧ _
  rw [hz]
  have he : IsEnum ((s.heap.push o).push { cls := .type "enumerate", data := .fields #[.none, .bool false, .ref s.heap.objs.size, rawInt 0, .none, .none] }) (s.heap.objs.size + 1) s.heap.objs.size 0 .none := by
    have := Heap.get?_push_size (s.heap.push o) (o := { cls := .type "enumerate", data := .fields #[.none, .bool false, .ref s.heap.objs.size, rawInt 0, .none, .none] }) rfl
    rw [hz] at this; exact this
  refine ⟨⟨_, he, rfl⟩, h _ he (Heap.get?_push_of_some _ (Heap.get?_push_size _ B.free)) (by rw [Heap.size_push, hz]) fun b o x => Heap.get?_push_of_some _ (Heap.get?_push_of_some _ x)⟩
def IteA (k : Bool) (K : PySem.W.Frag) (a : Addr) : It :=
  ⟨fun i H => ∃ (xs : List V) (x : V), SqA k K H a xs ∧ xs[i]? = some x, fun i H v H' => ∃ T x, v = .ref T ∧ H T = none ∧ H' = upd H T (.tup [.int (i : Nat), x]) ∧ ∀ xs, SqA k K H a xs → xs[i]? = some x, fun i H => ∃ xs : List V, SqA k K H a xs ∧ xs.length = i⟩
theorem turn_enumA {P : Program} {w : World} {K : PySem.W.Frag} {elts : List Expr} {kk : Nat} {tpos : Pos} {k : Bool} (a e it : Addr) (na : a ≠ it) (ea : e ≠ a) :
    Turn P w K (.Tuple elts kk tpos) (IteA k K a) [e, it] e (fun i h => (∃ old, IsEnum h e it ((i : Nat) : Int) old) ∧ ItAt k h it a i ∧ e ≠ it) where
  mem := by simp
  obj := fun i h st b hb => by
    obtain ⟨⟨old, he⟩, hi, _⟩ := st
    have e' : b = e ∨ b = it := by simpa using hb
    rcases e' with z | z
    · rw [z]; exact ⟨_, he, fun v q => nomatch q⟩
    · rw [z]; exact hi.obj
  keep := fun i h h' st k => let ⟨⟨old, he⟩, hi, hne⟩ := st; ⟨⟨old, k e (by simp) _ he⟩, hi.at fun o q => k it (by simp) o q, hne⟩
  item := by
    intro X hP hw hK hc i pins s σ H E I hf st hg
    subst hP hw hK
    obtain ⟨⟨old, he⟩, hit, hne⟩ := st
    obtain ⟨xs, x, hq, hx⟩ := hg
    obtain ⟨its, rv, p, la⟩ := Inv.src I hq
    obtain ⟨u, hu, ru⟩ := rv.get hx
    have hh : X.A.in1.handled = none := I.ok.hd hc
    have hel : e < s.heap.objs.size := Heap.lt_size he
    have hil : it < s.heap.objs.size := by obtain ⟨_, q, _⟩ := hit.obj; exact Heap.lt_size q
    have hu' : i < its.toArray.size := by
      have := (List.getElem?_eq_some_iff.mp hu).1
      simpa using this
    refine wpAny_pyNext_enum_itemD (srcDraws k hh it a na its.toArray) he ⟨hit, p⟩ hu' hne (by simp [hne, ea]) fun x1 h' tk e1 ho hit' hT hsz hk => ?_
    have e1 : x1 = u := by
      have e1 : its.toArray[i]? = some x1 := e1
      rw [List.getElem?_toArray, hu] at e1
      exact (Option.some.inj e1).symm
    subst e1
    refine ⟨_, rfl, wpAny_letOwnedTupleGo_enum (s := { s with heap := h', toks := tk + 1 }) ho fun h'' he' sb => ?_⟩
    have hT2 : h''.get? s.heap.objs.size = some { cls := .type "tuple", data := .seq #[.int i tk, x1] } := (sb.2 _ (Nat.ne_of_gt hel)).trans hT
    have new : ObjOk X.prog X.w (upd H s.heap.objs.size (.tup [.int (i : Nat), x])) h'' s.heap.objs.size (.tup [.int (i : Nat), x]) :=
      ⟨by show 2 ≤ sizeLine; decide, [.int i tk, x1], .cons ⟨_, rfl⟩ (.cons ru .nil), ⟨_, hT2, rfl, _, rfl⟩⟩
    have I1 : Inv X pins σ (upd H s.heap.objs.size (.tup [.int (i : Nat), x])) { s with heap := h'', toks := tk + 1 } :=
      I.turnedNew (ch := [e, it]) (fun b ob hb q => (sb.2 b (fun z => hb (by simp [z]))).trans (hk b ob (fun z => hb (by simp [z])) (fun z => hb (by simp [z])) q)) hf (Nat.le_refl _) new
    refine ⟨.ref s.heap.objs.size, _, I1, rfl, ⟨_, x, rfl, I.hok.fresh (Nat.le_refl _), rfl, fun ys hy => by rw [Inv.src_inj I hy hq]; exact hx⟩, ⟨⟨x1, ?_⟩, hit'.1.at fun o q => (sb.2 it (Ne.symm hne)).trans q, hne⟩, fun b hb => ?_⟩
    · have e1 : ((i + 1 : Nat) : Int) = (i : Int) + 1 := by omega
      rw [e1]; exact he'
    · have hb' : b < s.heap.objs.size := by
        have e' : b = e ∨ b = it := by simpa using hb
        rcases e' with z | z
        · rw [z]; exact hel
        · rw [z]; exact hil
      rw [upd_ne (Nat.ne_of_lt hb')]
      exact (hf b hb).1
  done := by
    intro X hP hw hK hc i pins s σ H E I hf st hg
    subst hP hw hK
    obtain ⟨⟨old, he⟩, hit, hne⟩ := st
    obtain ⟨xs, hq, hx⟩ := hg
    obtain ⟨its, rv, p, la⟩ := Inv.src I hq
    have hh : X.A.in1.handled = none := I.ok.hd hc
    obtain ⟨f0, f1, f2, f3, f4, f5⟩ := hf it (by simp)
    have hl := rv.length
    have es : its.toArray.size = i := by simp; omega
    exact wpAny_pyNext_enum_endD (srcDraws k hh it a na its.toArray) he (by rw [es]; exact ⟨hit, p⟩) fun h' eb => ⟨rfl, I.turned (t' := s.toks) (fun b o hb q => eb b o hb q) f0 f1 f3 f4 f5⟩
  self := fun A i s Q E st h => let ⟨⟨_, he⟩, _⟩ := st; wpAny_pyIter_enum he h
def iEnumA (K : PySem.W.Frag) (ta : TA) : TI := fun σ H R => ta σ H fun vs H1 => ∃ (k : Bool) (a : Addr) (xs : List V), vs = [.ref a] ∧ SqA k K H1 a xs ∧ R (IteA k K a) H1
theorem pi_enumA {X : Cx} {e : Expr} {ta : TA} {p pos tpos : Pos} {elts : List Expr} {kk : Nat} (hg : Gl X "enumerate") (hm : X.mg "enumerate" = none) (ha : PA X [e] ta) (hs : starEach [e] X.env = [(false, eval e X.env)] := by rfl) :
    PI X (.Tuple elts kk tpos) (.Call (.Name "enumerate" p) [e] [] pos) (iEnumA X.K ta) := by
  refine ⟨fun pins s σ H R I h => ?_⟩
  refine Call_ (ld_blt I hg hm boot_enumerate (PyProof.Rows.callWith_type1 (thn (ha.run pos pins s σ H _ I h) fun us s1 ⟨vs, H1, I1, r1, q1⟩ => ?_) hs rfl))
  obtain ⟨k, a, xs, ex, hq, q⟩ := q1
  subst ex
  cases r1 with
  | cons r rr =>
    cases rr
    cases r
    obtain ⟨its, rv, p', la⟩ := Inv.src I1 hq
    refine enum_begins1 (srcBegins k a its.toArray) p' fun h' he hit hsz hk => wpAny_pyIter_enum he ?_
    have I2 : Inv X pins σ H1 { s1 with heap := h' } := I1.kept (t' := s1.toks) hk
    have na : a ≠ s1.heap.objs.size := Nat.ne_of_lt la
    have ea : s1.heap.objs.size + 1 ≠ a := fun z => Nat.ne_of_lt (Nat.lt_succ_of_lt la) z.symm
    refine ⟨s1.heap.objs.size + 1, [s1.heap.objs.size + 1, s1.heap.objs.size], _, _, H1, rfl, I2, turn_enumA a (s1.heap.objs.size + 1) s1.heap.objs.size na ea, ⟨⟨.none, he⟩, .first k hit, Nat.succ_ne_self _⟩, fun b hb => ?_, q⟩
    have e' : b = s1.heap.objs.size + 1 ∨ b = s1.heap.objs.size := by simpa using hb
    have hle : s1.heap.objs.size ≤ b := by
      rcases e' with z | z
      · rw [z]; exact Nat.le_add_right _ _
      · rw [z]; exact Nat.le_refl _
    exact I1.fpOk hle (I1.hok.fresh hle)
/-! ### a list, a tuple, a text walked -/
def ItA (k : Bool) (K : PySem.W.Frag) (a : Addr) : It := match k with
  | false => Itl K a
  | true => Itt K a
def iSrc (K : PySem.W.Frag) (tl : TE) : TI := fun σ H R => tl σ H fun x H1 => (∃ (k : Bool) (a : Addr), x = .ref a ∧ (∃ xs, SqA k K H1 a xs) ∧ R (ItA k K a) H1) ∨ ∃ x', x = .str x' ∧ R (Its x') H1
theorem pi_src {X : Cx} {tg l : Expr} {tl : TE} (hl : PE X l tl) : PI X tg l (iSrc X.K tl) := by
  refine ⟨fun pins s σ H R I h => ?_⟩
  refine thn (hl.run pins s σ H _ I h) fun v s1 ⟨x, H1, I1, r1, q1⟩ => ?_
  rcases q1 with ⟨k, a, e, ⟨xs, hq⟩, q⟩ | ⟨x', ex, q⟩
  · subst e
    cases r1
    have fin : ∀ (o : Obj), FpOk X pins H1 s1.heap.objs.size := fun o => I1.fpOk (Nat.le_refl _) (I1.hok.fresh (Nat.le_refl _))
    cases k
    · obtain ⟨its, rv, p, hz⟩ := I1.list hq
      refine wpAny_pyIter_list p.isList ?_
      refine ⟨s1.heap.objs.size, [s1.heap.objs.size], _, _, H1, rfl, I1.kept (t' := s1.toks) fun b o e => Heap.get?_push_of_some _ e, turn_list a _, ⟨_, Heap.get?_push_size _ rfl, rfl, rfl⟩, fun b hb => ?_, q⟩
      have e : b = s1.heap.objs.size := by simpa using hb
      subst e
      exact fin default
    · obtain ⟨its, rv, p, hz⟩ := I1.tuple hq
      refine wpAny_pyIter_tuple (show s1.heap.IsTuple a its.toArray from p) ?_
      refine ⟨s1.heap.objs.size, [s1.heap.objs.size], _, _, H1, rfl, I1.kept (t' := s1.toks) fun b o e => Heap.get?_push_of_some _ e, turn_tuple a _, ⟨_, Heap.get?_push_size _ rfl, rfl, rfl⟩, fun b hb => ?_, q⟩
      have e : b = s1.heap.objs.size := by simpa using hb
      subst e
      exact fin default
  · subst ex
    obtain ⟨t, rfl⟩ := r1
    cases ha : x'.cps.all (· < 128)
    · exact wpAny_pyIter_wide ha (pi_one (tk := s1.toks) I1 _ (turn_str _ x' t "str_iterator" (.inr rfl)) ⟨_, Heap.get?_push_size _ rfl, rfl, rfl⟩ q)
    · exact wpAny_pyIter_ascii ha (pi_one (tk := s1.toks) I1 _ (turn_str _ x' t "str_ascii_iterator" (.inl rfl)) ⟨_, Heap.get?_push_size _ rfl, rfl, rfl⟩ q)
end Pu

set_option Elab.async false
set_option linter.all false
set_option maxRecDepth 100000
/-! Pu10: walks by their items; for; comprehensions. -/
namespace Pu
open PySem PySem.Spec PyProof.Rows L2

structure ItOk (K : PySem.W.Frag) (F : Hp) (items : List PV) (J : It) : Prop where
  go : ∀ (i : Nat) (H F' : Hp), Same F F' → FH F' H → i < items.length → J.go i H
  yld : ∀ (i : Nat) (H F' : Hp) (x : V) (H' : Hp) (p : PV), Same F F' → FH F' H → items[i]? = some p → J.yld i H x H' → ∃ F2, Grow F' H F2 H' ∧ RepV K F2 p x
  stop : ∀ (H F' : Hp), Same F F' → FH F' H → J.stop items.length H
abbrev MI := Env → Res (List PV × Env)
def tMI (K : PySem.W.Frag) (W : WX) (m : MI) : TI := fun σ H R => ∃ ρ F, Rel K F H ρ σ ∧ Ok W ρ σ F H (m ρ) fun p =>
  ∀ J F' H', ES K ρ σ F H p.2 σ F' H' → ItOk K F' p.1 J → R J H'
def SI (X : Cx) (W : WX) (tg iter : Expr) (m : MI) : Prop := PI X tg iter (tMI X.K W m)
theorem PI.imp {X : Cx} {tg e : Expr} {t t' : TI} (h : PI X tg e t) (i : ∀ σ H R, t' σ H R → t σ H R) : PI X tg e t' := ⟨fun pins s σ H R I q => h.run pins s σ H R I (i _ _ _ q)⟩
/-- the items of a list, a tuple, a text -/
def seqOf : PV → Option (List PV)
  | .lst xs => some xs
  | .tup xs => some xs
  | _ => none
def itemsOf : PV → Option (List PV)
  | .lst xs => some xs
  | .tup xs => some xs
  | .str x => some (x.cps.toList.map fun c => .str ⟨#[c]⟩)
  | _ => none
theorem seq_rep {K : PySem.W.Frag} {F : Hp} {p : PV} {v : V} {xs : List PV} (h : RepV K F p v) (e : seqOf p = some xs) :
    ∃ (k : Bool) (a : Addr) (vs : List V), v = .ref a ∧ RepVs K F xs vs ∧ ∀ (F' H : Hp), Same F F' → FH F' H → SqA k K H a vs := by
  cases p with
  | lst ys =>
    cases e
    unfold RepV at h
    obtain ⟨a, vs, rfl, s, r⟩ := h
    exact ⟨false, a, vs, rfl, r, fun F' H f fh => sqL_fh fh (.inl (.inl (f _ _ s)))⟩
  | tup ys =>
    cases e
    unfold RepV at h
    obtain ⟨a, vs, rfl, s, r⟩ := h
    exact ⟨true, a, vs, rfl, r, fun F' H f fh => .of (fh.tup (f _ _ s))⟩
  | _ => cases e
theorem itOk_A {K : PySem.W.Frag} {F : Hp} {k : Bool} {a : Addr} {xs : List PV} {vs : List V} (r : RepVs K F xs vs) (s : ∀ (F' H : Hp), Same F F' → FH F' H → SqA k K H a vs) : ItOk K F xs (ItA k K a) where
  go := fun i H F' f fh hi => by
    have q := s F' H f fh
    have hl := r.length
    cases k
    · exact ⟨vs, vs[i], q, List.getElem?_eq_getElem (by omega)⟩
    · exact ⟨vs, vs[i], q, List.getElem?_eq_getElem (by omega)⟩
  yld := fun i H F' x H' p f fh e y => by
    have q := s F' H f fh
    obtain ⟨v, ev, rv⟩ := r.get e
    have z : H' = H ∧ vs[i]? = some x := by
      cases k
      · exact ⟨y.1, y.2 vs q⟩
      · exact ⟨y.1, y.2 vs q⟩
    obtain ⟨rfl, z⟩ := z
    rw [ev] at z
    cases z
    exact ⟨F', Grow.refl fh, rv.mono f⟩
  stop := fun H F' f fh => by
    have q := s F' H f fh
    have hl := r.length
    cases k
    · exact ⟨vs, q, by omega⟩
    · exact ⟨vs, q, by omega⟩
theorem itOk_str {K : PySem.W.Frag} {F : Hp} {x : Str} : ItOk K F (x.cps.toList.map fun c => PV.str ⟨#[c]⟩) (Its x) where
  go := fun i H F' f fh hi => by
    show i < x.cps.size
    simpa using hi
  yld := fun i H F' v H' p f fh e y => by
    obtain ⟨rfl, c, hc, rfl⟩ := y
    refine ⟨F', Grow.refl fh, ?_⟩
    rw [List.getElem?_map, Array.getElem?_toList, hc] at e
    cases e
    unfold RepV
    rfl
  stop := fun H F' f fh => by
    show x.cps.size ≤ _
    simp
def mSrc (m : M) : MI := fun ρ => (mOp m ρ).bind fun p => (liftO p.1.val?).bind fun v => (liftO (itemsOf v)).bind fun xs => .ok (xs, p.2)
def rangeOf (lo hi : Int) : List PV := (List.range (hi - lo).toNat).map fun i => .int (lo + (i : Nat))
def b62 (i : Int) : Bool := decide (-(2 ^ 62) ≤ i) && decide (i < 2 ^ 62)
def rng1 : List PV → Option (List PV)
  | [.int j] => if b62 j then some (rangeOf 0 j) else none
  | _ => none
def rng2 : List PV → Option (List PV)
  | [.int i, .int j] => if b62 i && b62 j then some (rangeOf i j) else none
  | _ => none
def mRng (f : List PV → Option (List PV)) (ma : MA) : MI := fun ρ => (ma ρ).bind fun p => (liftO (vals? p.1)).bind fun as => (liftO (f as)).bind fun xs => .ok (xs, p.2)
def zipOf : List PV → Option (List PV)
  | [a, b] => (seqOf a).bind fun xs => (seqOf b).map fun ys => (xs.zip ys).map fun p => .tup [p.1, p.2]
  | _ => none
def enumOf : List PV → Option (List PV)
  | [a] => (seqOf a).map fun xs => xs.mapIdx fun i x => .tup [.int (i : Nat), x]
  | _ => none
def revOf : List PV → Option (List PV)
  | [a] => (seqOf a).map fun xs => xs.reverse
  | _ => none
theorem itOk_r {K : PySem.W.Frag} {F : Hp} {lo hi : Int} : ItOk K F (rangeOf lo hi) (Itr lo (hi - lo).toNat) where
  go := fun i H F' f fh hi => by
    show i < _
    simpa [rangeOf] using hi
  yld := fun i H F' v H' p f fh e y => by
    obtain ⟨rfl, rfl⟩ := y
    refine ⟨F', Grow.refl fh, ?_⟩
    unfold rangeOf at e
    rw [List.getElem?_map] at e
    cases er : (List.range (hi - lo).toNat)[i]? with
    | none => rw [er] at e; cases e
    | some k =>
      rw [er] at e
      have hi := (List.getElem?_eq_some_iff.mp er).1
      rw [List.getElem?_range (by simpa using hi)] at er
      cases er
      cases e
      unfold RepV
      rfl
  stop := fun H F' f fh => by
    show _ ≤ _
    simp [rangeOf]
section
variable {X : Cx} {W : WX} {tg e e2 : Expr} {es : List Expr} {m : M} {ma : MA} {p pos tpos : Pos} {elts : List Expr} {kk : Nat}
theorem SI.src (h : SE X W e m) : SI X W tg e (mSrc m) :=
  PI.imp (pi_src h) fun σ H Q ⟨ρ, F, R, q⟩ => by
    refine tM_op R q fun r ρ1 x F1 H1 es1 q1 h1 => ?_
    obtain ⟨v, ev, h2⟩ := h1.lift
    obtain ⟨xs, ex, h3⟩ := h2.lift
    have h3 : ∀ J F' H', ES X.K ρ σ F H ρ1 σ F' H' → ItOk X.K F' xs J → Q J H' := h3
    have ev : r = .val v := val?_inv ev
    subst ev
    have q1 : RepV X.K F1 v x := q1
    cases es : seqOf v with
    | some ys =>
      have : ys = xs := by
        cases v with
        | lst _ => cases es; cases ex; rfl
        | tup _ => cases es; cases ex; rfl
        | _ => cases es
      subst this
      obtain ⟨k, a, vs, rfl, r, s⟩ := seq_rep q1 es
      exact .inl ⟨k, a, rfl, ⟨vs, s F1 H1 (Same.refl _) es1.rel.fh⟩, h3 _ F1 H1 es1 (itOk_A r s)⟩
    | none =>
      cases v with
      | str x' =>
        cases ex
        unfold RepV at q1
        subst q1
        exact .inr ⟨x', rfl, h3 _ F1 H1 es1 itOk_str⟩
      | lst _ => cases es
      | tup _ => cases es
      | _ => cases ex
theorem mRng_inv {K : PySem.W.Frag} {σ : L2.St} {H : Hp} {f : List PV → Option (List PV)} {Q : It → Hp → Prop} (h : tMI K W (mRng f ma) σ H Q) :
    tMA K W ma σ H fun vs H1 => ∃ F1 as xs, FH F1 H1 ∧ RepVs K F1 as vs ∧ f as = some xs ∧ ∀ J, ItOk K F1 xs J → Q J H1 := by
  obtain ⟨ρ, F, R, q⟩ := h
  refine ⟨ρ, F, R, q.of_bind.mono fun p hp vs F1 H1 es1 qs => ?_⟩
  obtain ⟨as, ea, h2⟩ := hp.lift
  obtain ⟨xs, ex, h3⟩ := h2.lift
  exact ⟨F1, as, xs, es1.rel.fh, qs.vals ea, ex, fun J hJ => h3 J F1 H1 es1 hJ⟩
theorem b62_inv {i : Int} (h : b62 i = true) : -(2 ^ 62) ≤ i ∧ i < 2 ^ 62 := by
  unfold b62 at h
  rw [Bool.and_eq_true] at h
  exact ⟨of_decide_eq_true h.1, of_decide_eq_true h.2⟩
theorem repI {K : PySem.W.Frag} {F : Hp} {i : Int} {v : V} (h : RepV K F (.int i) v) : v = .int i := by unfold RepV at h; exact h
theorem SI.range1 (ha : SA X W [e] ma) (hm : X.mg "range" = none) (hg : Gl X "range") (hs : starEach [e] X.env = [(false, eval e X.env)] := by rfl) : SI X W tg (.Call (.Name "range" p) [e] [] pos) (mRng rng1 ma) :=
  PI.imp (pi_range1 hg hm ha hs) fun σ H Q h => by
    obtain ⟨ρ, F, R, q⟩ := mRng_inv h
    refine ⟨ρ, F, R, q.mono fun p hp vs F' H' es1 qs => ?_⟩
    obtain ⟨F1, as, xs, fh, rv, ef, go⟩ := hp vs F' H' es1 qs
    unfold rng1 at ef
    split at ef
    · rename_i j
      split at ef
      · rename_i hb
        cases ef
        obtain ⟨b1, b2⟩ := b62_inv hb
        obtain ⟨v, r, rfl, q1, q2⟩ := rv.cons_inv
        rw [q2.nil_inv, repI q1]
        have z := itOk_r (K := X.K) (F := F1) (lo := 0) (hi := j)
        rw [Int.sub_zero] at z
        exact ⟨j, rfl, b1, b2, go _ z⟩
      · cases ef
    · cases ef
theorem SI.range2 (ha : SA X W [e, e2] ma) (hm : X.mg "range" = none) (hg : Gl X "range") (hs : starEach [e, e2] X.env = [(false, eval e X.env), (false, eval e2 X.env)] := by rfl) (hs2 : starEach [e2] X.env = [(false, eval e2 X.env)] := by rfl) : SI X W tg (.Call (.Name "range" p) [e, e2] [] pos) (mRng rng2 ma) :=
  PI.imp (pi_range2 hg hm ha hs hs2) fun σ H Q h => by
    obtain ⟨ρ, F, R, q⟩ := mRng_inv h
    refine ⟨ρ, F, R, q.mono fun p hp vs F' H' es1 qs => ?_⟩
    obtain ⟨F1, as, xs, fh, rv, ef, go⟩ := hp vs F' H' es1 qs
    unfold rng2 at ef
    split at ef
    · rename_i i j
      split at ef
      · rename_i hb
        rw [Bool.and_eq_true] at hb
        cases ef
        obtain ⟨b1, b2⟩ := b62_inv hb.1
        obtain ⟨b3, b4⟩ := b62_inv hb.2
        obtain ⟨v, r, rfl, q1, q2⟩ := rv.cons_inv
        obtain ⟨v2, r2, rfl, q3, q4⟩ := q2.cons_inv
        rw [q4.nil_inv, repI q1, repI q3]
        exact ⟨i, j, rfl, ⟨b1, b2, b3, b4⟩, go _ itOk_r⟩
      · cases ef
    · cases ef
theorem SI.zip (ha : SA X W [e, e2] ma) (hm : X.mg "zip" = none) (hg : Gl X "zip") (hs : starEach [e, e2] X.env = (false, eval e X.env) :: starEach [e2] X.env := by rfl) (hpl : (backTo pos (starEach [e2] X.env)).any (·.1) = false := by rfl) :
    SI X W (.Tuple elts kk tpos) (.Call (.Name "zip" p) [e, e2] [] pos) (mRng zipOf ma) :=
  PI.imp (pi_zip2 hg hm ha hs hpl) fun σ H Q h => by
    obtain ⟨ρ, F, R, q⟩ := mRng_inv h
    refine ⟨ρ, F, R, q.mono fun p hp vs F' H' es1 qs => ?_⟩
    obtain ⟨F1, as, xs, fh, rv, ef, go⟩ := hp vs F' H' es1 qs
    match as, ef, rv with
    | [a, b], ef, rv =>
      obtain ⟨v, r, rfl, q1, q2⟩ := rv.cons_inv
      obtain ⟨v2, r2, rfl, q3, q4⟩ := q2.cons_inv
      rw [q4.nil_inv]
      have ef : ((seqOf a).bind fun xs => (seqOf b).map fun ys => (xs.zip ys).map fun p => PV.tup [p.1, p.2]) = some xs := ef
      cases e1 : seqOf a with
      | none => rw [e1] at ef; cases ef
      | some us =>
        rw [e1] at ef
        cases e2 : seqOf b with
        | none => rw [e2] at ef; cases ef
        | some ws =>
          rw [e2] at ef
          cases ef
          obtain ⟨k1, a1, vs1, rfl, r1, s1⟩ := seq_rep q1 e1
          obtain ⟨k2, a2, vs2, rfl, r2, s2⟩ := seq_rep q3 e2
          have l1 := r1.length
          have l2 := r2.length
          refine ⟨k1, k2, a1, a2, vs1, vs2, rfl, s1 F1 H' (Same.refl _) fh, s2 F1 H' (Same.refl _) fh, go _ ⟨fun i H F' f fh hi => ?_, fun i H F' x H' p f fh e y => ?_, fun H F' f fh => ?_⟩⟩
          · simp at hi
            exact ⟨vs1, vs2, vs1[i]'(by omega), vs2[i]'(by omega), s1 F' H f fh, s2 F' H f fh, List.getElem?_eq_getElem (by omega), List.getElem?_eq_getElem (by omega)⟩
          · obtain ⟨T, x1, x2, rfl, nT, rfl, f1, f2⟩ := y
            have z1 := f1 _ (s1 F' H f fh)
            have z2 := f2 _ (s2 F' H f fh)
            obtain ⟨p1, ep1, rp1⟩ := r1.get' z1
            obtain ⟨p2, ep2, rp2⟩ := r2.get' z2
            have ep : ((us.zip ws).map fun p => PV.tup [p.1, p.2])[i]? = some (.tup [p1, p2]) := by
              rw [List.getElem?_map, (List.getElem?_zip_eq_some (z := (p1, p2))).mpr ⟨ep1, ep2⟩]
              rfl
            rw [ep] at e
            cases e
            have g := Grow.tup (o := .tup [x1, x2]) fh nT
            refine ⟨_, g, ?_⟩
            unfold RepV
            exact ⟨T, [x1, x2], rfl, upd_same, .cons (rp1.mono (f.trans g.ff)) (.cons (rp2.mono (f.trans g.ff)) .nil)⟩
          · refine ⟨vs1, vs2, s1 F' H f fh, s2 F' H f fh, ?_⟩
            simp only [List.length_map, List.length_zip]
            omega
theorem SI.enum (ha : SA X W [e] ma) (hm : X.mg "enumerate" = none) (hg : Gl X "enumerate") (hs : starEach [e] X.env = [(false, eval e X.env)] := by rfl) :
    SI X W (.Tuple elts kk tpos) (.Call (.Name "enumerate" p) [e] [] pos) (mRng enumOf ma) :=
  PI.imp (pi_enumA hg hm ha hs) fun σ H Q h => by
    obtain ⟨ρ, F, R, q⟩ := mRng_inv h
    refine ⟨ρ, F, R, q.mono fun p hp vs F' H' es1 qs => ?_⟩
    obtain ⟨F1, as, xs, fh, rv, ef, go⟩ := hp vs F' H' es1 qs
    match as, ef, rv with
    | [a], ef, rv =>
      obtain ⟨v, r, rfl, q1, q2⟩ := rv.cons_inv
      rw [q2.nil_inv]
      have ef : ((seqOf a).map fun xs => xs.mapIdx fun i x => PV.tup [.int (i : Nat), x]) = some xs := ef
      cases e1 : seqOf a with
      | none => rw [e1] at ef; cases ef
      | some us =>
        rw [e1] at ef
        cases ef
        obtain ⟨k1, a1, vs1, rfl, r1, s1⟩ := seq_rep q1 e1
        have l1 := r1.length
        refine ⟨k1, a1, vs1, rfl, s1 F1 H' (Same.refl _) fh, go _ ⟨fun i H F' f fh hi => ?_, fun i H F' x H' p f fh e y => ?_, fun H F' f fh => ?_⟩⟩
        · simp at hi
          exact ⟨vs1, vs1[i]'(by omega), s1 F' H f fh, List.getElem?_eq_getElem (by omega)⟩
        · obtain ⟨T, x1, rfl, nT, rfl, f1⟩ := y
          have z1 := f1 _ (s1 F' H f fh)
          obtain ⟨p1, ep1, rp1⟩ := r1.get' z1
          rw [List.getElem?_mapIdx, ep1] at e
          cases e
          have g := Grow.tup (o := .tup [.int (i : Nat), x1]) fh nT
          refine ⟨_, g, ?_⟩
          unfold RepV
          exact ⟨T, [.int (i : Nat), x1], rfl, upd_same, .cons (by unfold RepV; rfl) (.cons (rp1.mono (f.trans g.ff)) .nil)⟩
        · exact ⟨vs1, s1 F' H f fh, by simp [l1]⟩
def mRev (m : M) : MI := fun ρ => (mOp m ρ).bind fun p => (liftO p.1.val?).bind fun v => (liftO (seqOf v)).bind fun xs => .ok (xs.reverse, p.2)
theorem SI.rev (h : SE X W e m) (hm : X.mg "reversed" = none) (hg : Gl X "reversed") (hs : starEach [e] X.env = (false, eval e X.env) :: starEach [] X.env := by rfl) :
    SI X W tg (.Call (.Name "reversed" p) [e] [] pos) (mRev m) :=
  PI.imp (RT.pi_revA hg hm h hs) fun σ H Q ⟨ρ, F, R, q⟩ => by
    refine tM_op R q fun r ρ1 x F1 H1 es1 q1 h1 => ?_
    obtain ⟨v, ev, h2⟩ := h1.lift
    obtain ⟨xs, ex, h3⟩ := h2.lift
    have h3 : ∀ J F' H', ES X.K ρ σ F H ρ1 σ F' H' → ItOk X.K F' xs.reverse J → Q J H' := h3
    have ev : r = .val v := val?_inv ev
    subst ev
    have q1 : RepV X.K F1 v x := q1
    obtain ⟨k, a, vs, rfl, r, s⟩ := seq_rep q1 ex
    have hl := r.length
    have rr : ∀ (i : Nat) (p : PV), xs.reverse[i]? = some p → ∃ v, vs[vs.length - 1 - i]? = some v ∧ RepV X.K F1 p v := fun i p e => by
      have hi : i < xs.length := by
        have := (List.getElem?_eq_some_iff.mp e).1
        simpa using this
      rw [List.getElem?_reverse hi] at e
      rw [← hl]
      exact r.get e
    cases k
    · refine ⟨a, vs, rfl, .inl ⟨s F1 H1 (Same.refl _) es1.rel.fh, h3 _ F1 H1 es1 ⟨fun i H F' f fh hi => ?_, fun i H F' x H' p f fh e y => ?_, fun H F' f fh => ?_⟩⟩⟩
      · have hi : i < vs.length := by simpa [hl] using hi
        exact ⟨hi, vs, vs[vs.length - 1 - i]'(by omega), s F' H f fh, List.getElem?_eq_getElem (by omega)⟩
      · obtain ⟨rfl, z⟩ := y
        obtain ⟨v, ev, rv⟩ := rr i p e
        have z := z vs (s F' _ f fh)
        rw [ev] at z
        cases z
        exact ⟨F', Grow.refl fh, rv.mono f⟩
      · show vs.length ≤ _
        simp [hl]
    · refine ⟨a, vs, rfl, .inr ⟨s F1 H1 (Same.refl _) es1.rel.fh, h3 _ F1 H1 es1 ⟨fun i H F' f fh hi => ?_, fun i H F' x H' p f fh e y => ?_, fun H F' f fh => ?_⟩⟩⟩
      · have hi : i < vs.length := by simpa [hl] using hi
        exact ⟨hi, vs, vs[vs.length - 1 - i]'(by omega), s F' H f fh, List.getElem?_eq_getElem (by omega)⟩
      · obtain ⟨rfl, z⟩ := y
        obtain ⟨v, ev, rv⟩ := rr i p e
        have z := z vs (s F' _ f fh)
        rw [ev] at z
        cases z
        exact ⟨F', Grow.refl fh, rv.mono f⟩
      · show vs.length ≤ _
        simp [hl]
end

/-! ### for -/
def forM (g : MG) (b : MS) : List PV → MS
  | [] => fun ρ => .ok (.nx, ρ)
  | x :: xs => fun ρ => (liftO (g x ρ)).bind fun ρ1 => (b ρ1).bind fun q => match q.1 with
    | .nx => forM g b xs q.2
    | .ct => forM g b xs q.2
    | .bk => .ok (.nx, q.2)
    | .rt r => .ok (.rt r, q.2)
def mFor (mi : MI) (g : MG) (b : MS) : MS := fun ρ => (mi ρ).bind fun p => forM g b p.1 p.2
theorem Grow.step {O : Addr → Prop} {F H F' H' : Hp} (g : Grow F H F' H') : Step O F H F' H' :=
  ⟨g.ff, fun a h => (g.new a h).imp id .inl, fun a o h _ => g.hh a o h, fun a h => by
    obtain ⟨o, e⟩ := Option.ne_none_iff_exists'.mp h
    rw [g.hh a o e]
    simp⟩
section
variable {X : Cx} {W : WX} {tg iter : Expr} {body : List Stmt} {mi : MI} {g : MG} {mb : MS} {pos : Pos} {S : List Nat}
theorem SS.for (hi : SI X W tg iter mi) (hg : SG X S tg g) (hb : SSs X W body mb) (hp : PassesOwn (model X.prog X.w) X.A X.env X.xe) (hc : X.calm = true) (hs : ∀ x, foldedSetIterable iter X.env x = pure x := by intro _; rfl) :
    SS X W (.For tg iter body [] pos) (mFor mi g mb) :=
  PS.imp (ps_for hp hc hi hg hb hs) fun D σ H ⟨ρ, F, R, q⟩ => ⟨ρ, F, R, q.of_bind.mono fun p h1 J F1 H1 es1 ok => by
    refine ⟨fun i m σ' H' => m = p.1.length - i ∧ i ≤ p.1.length ∧ ∃ ρ' F', Same F1 F' ∧ ES X.K ρ σ F H ρ' σ' F' H' ∧ Ok W ρ' σ' F' H' (forM g mb (p.1.drop i) ρ') (RestS X.K ρ σ F H D), ⟨p.1.length, by simp, Nat.zero_le _, p.2, F1, Same.refl _, es1, h1.shift es1⟩, ?_⟩
    rintro i m σ' H' ⟨rfl, hi, ρ', F', f, es, h⟩
    by_cases hlt : i < p.1.length
    · refine .inr ⟨ok.go i H' F' f es.rel.fh hlt, fun σ2 H2 => ∃ ρ2 F2, Same F1 F2 ∧ ES X.K ρ σ F H ρ2 σ2 F2 H2 ∧ Ok W ρ2 σ2 F2 H2 (forM g mb (p.1.drop (i + 1)) ρ2) (RestS X.K ρ σ F H D), fun σ2 H2 ⟨ρ2, F2, f2, es2, h2⟩ => ⟨p.1.length - (i + 1), by omega, rfl, hlt, ρ2, F2, f2, es2, h2⟩, fun x H2 y => ?_⟩
      obtain ⟨F2, gr, rx⟩ := ok.yld i H' F' x H2 p.1[i] f es.rel.fh (List.getElem?_eq_getElem hlt) y
      rw [List.drop_eq_getElem_cons hlt] at h
      have es2 := es.trans (gr.es es.rel)
      obtain ⟨ρ1, eg, h⟩ := Ok.lift (show Ok W ρ' σ' F' H' ((liftO (g p.1[i] ρ')).bind fun ρ1 => (mb ρ1).bind fun q => match q.1 with
        | .nx => forM g mb (p.1.drop (i + 1)) q.2
        | .ct => forM g mb (p.1.drop (i + 1)) q.2
        | .bk => .ok (.nx, q.2)
        | .rt r => .ok (.rt r, q.2)) _ from h)
      refine ⟨ρ', F2, p.1[i], ρ1, es2.rel, rx, eg, fun σ3 F3 H3 es3 _ => ?_⟩
      have es4 := es2.trans es3
      refine ⟨ρ1, F3, es4.rel, (h.of_bind.shift ((gr.es es.rel).trans es3)).mono fun p2 h3 => ?_⟩
      obtain ⟨fl, ρ2⟩ := p2
      cases fl with
      | nx => exact fun σ5 F5 H5 es5 => ⟨ρ2, F5, f.trans (gr.ff.trans (es3.st.ff.trans es5.st.ff)), es4.trans es5, h3.shift (((gr.es es.rel).trans es3).trans es5)⟩
      | ct => exact fun σ5 F5 H5 es5 => ⟨ρ2, F5, f.trans (gr.ff.trans (es3.st.ff.trans es5.st.ff)), es4.trans es5, h3.shift (((gr.es es.rel).trans es3).trans es5)⟩
      | bk =>
        have h3 : ∀ σ' F' H', ES X.K ρ σ F H ρ2 σ' F' H' → D.nx σ' H' := h3
        exact fun σ5 F5 H5 es5 => h3 σ5 F5 H5 (es4.trans es5)
      | rt r =>
        have h3 : ∀ v σ' F' H', ES X.K ρ σ F H ρ2 σ' F' H' → RepR X.K (FrL H ρ σ) F' H' ρ2 σ' r v → D.rt v H' := h3
        exact fun v σ5 F5 H5 es5 rr => h3 v σ5 F5 H5 (es4.trans es5) (rr.weak fun a ha => ha.back es4)
    · have e : i = p.1.length := by omega
      subst e
      rw [List.drop_length] at h
      have h : ∀ σ2 F2 H2, ES X.K ρ σ F H ρ' σ2 F2 H2 → D.nx σ2 H2 := h
      exact .inl ⟨ok.stop H' F' f es.rel.fh, h σ' F' H' es⟩⟩
end
end Pu

set_option Elab.async false
set_option linter.all false
set_option maxRecDepth 100000
/-! Pu11: comprehensions. -/
namespace Pu
open PySem PySem.Spec PyProof.Rows L2

def wipeE (ρ : Env) : List Nat → Env
  | [] => ρ
  | v :: vs => (wipeE ρ vs).set v none
theorem wipeE_get {ρ : Env} : ∀ {vs : List Nat} {j : Nat} {s : SV}, (wipeE ρ vs)[j]? = some (some s) → ρ[j]? = some (some s) ∧ j ∉ vs
  | [], j, s, h => ⟨h, by simp⟩
  | v :: vs, j, s, h => by
    unfold wipeE at h
    by_cases hj : j = v
    · subst hj
      rw [List.getElem?_set, if_pos rfl] at h
      split at h <;> cases h
    · rw [List.getElem?_set_ne (Ne.symm hj)] at h
      obtain ⟨h1, h2⟩ := wipeE_get h
      exact ⟨h1, by simp [hj, h2]⟩
theorem wipeE_len (ρ : Env) : ∀ vs : List Nat, (wipeE ρ vs).length = ρ.length
  | [] => rfl
  | v :: vs => by unfold wipeE; rw [List.length_set, wipeE_len ρ vs]
theorem wipe_get {σ : L2.St} : ∀ {vs : List Nat} {j : Nat}, j ∉ vs → (wipe σ vs)[j]? = σ[j]?
  | [], _, _ => rfl
  | v :: vs, j, h => by
    simp only [List.mem_cons, not_or] at h
    unfold wipe
    rw [List.getElem?_set_ne (Ne.symm h.1)]
    exact wipe_get h.2
theorem wipe_at {σ : L2.St} : ∀ {vs : List Nat} {j : Nat}, j ∈ vs → j < σ.length → (wipe σ vs)[j]? = some none
  | [], _, h, _ => by simp at h
  | v :: vs, j, h, l => by
    unfold wipe
    by_cases e : j = v
    · subst e
      rw [List.getElem?_set, if_pos rfl, if_pos (by rw [wipe_length]; exact l)]
    · rw [List.getElem?_set_ne (Ne.symm e)]
      exact wipe_at (by simpa [e] using h) l
theorem wipe_only {σ σ' : L2.St} {S vs : List Nat} (h : Only S (wipe σ vs) σ') (hs : ∀ i ∈ S, i ∈ vs) : wipe σ' vs = wipe σ vs := by
  apply List.ext_getElem?
  intro i
  by_cases hi : i ∈ vs
  · by_cases hl : i < σ.length
    · rw [wipe_at hi hl, wipe_at hi (by rw [h.1, wipe_length]; exact hl)]
    · rw [List.getElem?_eq_none (by rw [wipe_length, h.1, wipe_length]; omega), List.getElem?_eq_none (by rw [wipe_length]; omega)]
  · rw [wipe_get hi, h.2 i (fun z => hi (hs i z))]
section
variable {K : PySem.W.Frag} {ρ ρ' : Env} {σ σ' : L2.St} {F H F' H' : Hp}
theorem wipe_own {vs : List Nat} {j : Nat} {a : Addr} (h : OwnAt (wipeE ρ vs) (wipe σ vs) j a) : OwnAt ρ σ j a ∧ j ∉ vs := by
  obtain ⟨h1, h2⟩ := h
  rcases h1 with ⟨o, e⟩ | ⟨o, e⟩
  · obtain ⟨e', n⟩ := wipeE_get e
    rw [wipe_get n] at h2
    exact ⟨⟨.inl ⟨o, e'⟩, h2⟩, n⟩
  · obtain ⟨e', n⟩ := wipeE_get e
    rw [wipe_get n] at h2
    exact ⟨⟨.inr ⟨o, e'⟩, h2⟩, n⟩
theorem Rel.wipe (R : Rel K F H ρ σ) (vs : List Nat) : ES K ρ σ F H (wipeE ρ vs) (wipe σ vs) F H where
  st := Step.refl _ _ _
  rel := ⟨by rw [wipeE_len, wipe_length]; exact R.len, fun j s h => by
    obtain ⟨e, n⟩ := wipeE_get h
    rw [wipe_get n]
    exact R.slot j s e, R.fh, fun j k a h1 h2 => R.inj j k a (wipe_own h1).1 (wipe_own h2).1⟩
  own := fun a ⟨j, h⟩ => .inl ⟨j, (wipe_own h).1⟩
  ownl := fun a ⟨j, o, h1, h2⟩ => by
    obtain ⟨e, n⟩ := wipeE_get h1
    rw [wipe_get n] at h2
    exact .inl ⟨j, o, e, h2⟩
  par := fun j o h => by
    obtain ⟨e, n⟩ := wipeE_get h
    exact ⟨⟨o, e⟩, wipe_get n⟩
/-- behind the block: its own names' slots as they were, if values -/
def keepV : Option SV → Option SV
  | some (.val p) => some (.val p)
  | _ => none
def restoreE (vs : List Nat) (ρ ρ' : Env) : Env := ρ'.mapIdx fun j s => if j ∈ vs then keepV (ρ[j]?).join else s
theorem restore_get {vs : List Nat} {j : Nat} {s : SV} (h : (restoreE vs ρ ρ')[j]? = some (some s)) : (j ∈ vs ∧ ρ[j]? = some (some s) ∧ ∃ p, s = .val p) ∨ (j ∉ vs ∧ ρ'[j]? = some (some s)) := by
  unfold restoreE at h
  rw [List.getElem?_mapIdx] at h
  cases e : ρ'[j]? with
  | none => rw [e] at h; cases h
  | some t =>
    rw [e] at h
    have h : (if j ∈ vs then keepV (ρ[j]?).join else t) = some s := Option.some.inj h
    by_cases hj : j ∈ vs
    · rw [if_pos hj] at h
      cases e2 : ρ[j]? with
      | none => rw [e2] at h; cases h
      | some u =>
        rw [e2] at h
        cases u with
        | none => cases h
        | some u =>
          cases u with
          | val p => cases h; exact .inl ⟨hj, rfl, p, rfl⟩
          | own o => cases h
          | par o => cases h
    · rw [if_neg hj] at h
      exact .inr ⟨hj, by rw [h]⟩
theorem ES.restore {vs : List Nat} (R : Rel K F H ρ σ) (es : ES K ρ σ F H ρ' (wipe σ vs) F' H') : ES K ρ σ F H (restoreE vs ρ ρ') σ F' H' := by
  have own : ∀ j a, OwnAt (restoreE vs ρ ρ') σ j a → OwnAt ρ' (wipe σ vs) j a := fun j a ⟨h1, h2⟩ => by
    rcases h1 with ⟨o, e⟩ | ⟨o, e⟩
    · rcases restore_get e with ⟨_, _, p, z⟩ | ⟨n, e'⟩
      · cases z
      · exact ⟨.inl ⟨o, e'⟩, by rw [wipe_get n]; exact h2⟩
    · rcases restore_get e with ⟨_, _, p, z⟩ | ⟨n, e'⟩
      · cases z
      · exact ⟨.inr ⟨o, e'⟩, by rw [wipe_get n]; exact h2⟩
  refine ⟨es.st, ⟨?_, fun j s h => ?_, es.rel.fh, fun j k a h1 h2 => es.rel.inj j k a (own _ _ h1) (own _ _ h2)⟩, fun a ⟨j, h⟩ => es.own a ⟨j, own j a h⟩, fun a ⟨j, o, h1, h2⟩ => ?_, fun j o h => ?_⟩
  · unfold restoreE
    have := es.rel.len
    rw [wipe_length] at this
    simpa using this
  · rcases restore_get h with ⟨hj, e, p, rfl⟩ | ⟨n, e⟩
    · obtain ⟨v, ev, r⟩ := R.slot j _ e
      exact ⟨v, ev, RepV.mono es.st.ff r⟩
    · obtain ⟨v, ev, r⟩ := es.rel.slot j s e
      rw [wipe_get n] at ev
      exact ⟨v, ev, r⟩
  · rcases restore_get h1 with ⟨_, _, p, z⟩ | ⟨n, e⟩
    · cases z
    · exact es.ownl a ⟨j, o, e, by rw [wipe_get n]; exact h2⟩
  · rcases restore_get h with ⟨_, _, p, z⟩ | ⟨n, e⟩
    · cases z
    · obtain ⟨e1, e2⟩ := es.par j o e
      exact ⟨e1, rfl⟩
/-- an object of nobody's is changed -/
theorem ES.other {D : Addr} {u : HO} (es : ES K ρ σ F H ρ' σ' F' H') (n0 : H D = none) (n : F' D = none) (no : ¬ Own ρ' σ' D) : ES K ρ σ F H ρ' σ' F' (upd H' D u) :=
  es.go (Same.refl _) (fun a x e => by
    rw [upd_ne (fun z => by rw [z, n] at e; cases e)]
    exact es.rel.fh a x e) (fun x hx => by
    have nx : x ≠ D := fun z => no (z ▸ hx)
    exact ⟨es.rel.ownF hx, upd_ne nx⟩) (fun x h => .inl h) (fun x o h _ h1 => by
    rw [upd_ne (fun z => by rw [z, n0] at h; cases h)]
    exact h1) fun x h => by
    by_cases e : x = D
    · subst e
      rw [upd_same]
      simp
    · rw [upd_ne e]
      exact h
end
/-- the tests of a comprehension -/
def STs (X : Cx) (W : WX) (ifs : List Expr) (m : MT) : Prop := PTs X ifs (tMT X.K W m)
def mYes : MT := fun ρ => .ok (true, ρ)
def lcM (vs : List Nat) (g : MG) (t : MT) (e : M) : List PV → Env → Res (List PV × Env)
  | [], ρ => .ok ([], ρ)
  | x :: xs, ρ => (liftO (g x ρ)).bind fun ρ1 => (t ρ1).bind fun p => if p.1 = true then (mOp e p.2).bind fun q => (liftO q.1.val?).bind fun y => (lcM vs g t e xs (wipeE q.2 vs)).bind fun r => .ok (y :: r.1, r.2)
      else lcM vs g t e xs (wipeE p.2 vs)
def mLc (vs : List Nat) (mi : MI) (g : MG) (t : MT) (e : M) : M := fun ρ => (mi ρ).bind fun p => if p.1.length ≤ 16777216 then (lcM vs g t e p.1 (wipeE p.2 vs)).nox.bind fun q => .ok (.new (.lst q.1), restoreE vs p.2 q.2) else .bad
theorem nox_ok {α : Type} {r : Res α} {a : α} (h : r.nox = .ok a) : r = .ok a := by
  cases r with
  | ok b => exact h
  | exc x => cases h
  | bad => cases h
theorem Ok.nox {α β : Type} {W : WX} {ρ : Env} {σ : L2.St} {F H : Hp} {r : Res α} {k : α → Res β} {R : β → Prop} (h : Ok W ρ σ F H (r.nox.bind k) R) : ∃ a, r = .ok a ∧ Ok W ρ σ F H (k a) R := by
  cases r with
  | ok a => exact ⟨a, rfl, h⟩
  | exc x => exact h.elim
  | bad => exact h.elim
/-- a run that ends well -/
theorem Ok.good {α : Type} {W : WX} {ρ : Env} {σ : L2.St} {F H : Hp} {r : Res α} {a : α} {R : α → Prop} (e : r = .ok a) (h : R a) : Ok W ρ σ F H r R := by rw [e]; exact h
theorem bind_ok {α β : Type} {r : Res α} {k : α → Res β} {b : β} (h : r.bind k = .ok b) : ∃ a, r = .ok a ∧ k a = .ok b := by
  cases r with
  | ok a => exact ⟨a, rfl, h⟩
  | exc x => cases h
  | bad => cases h
theorem lift_ok {α : Type} {o : Option α} {a : α} (h : liftO o = .ok a) : o = some a := by
  cases o with
  | none => cases h
  | some b => cases h; rfl
theorem tM_lc {K : PySem.W.Frag} {W : WX} {σ : L2.St} {H : Hp} {Q : VK} {S vs : List Nat} {mi : MI} {g : MG} {t : MT} {e : M} (hS : ∀ i ∈ S, i ∈ vs) (h : tM K W (mLc vs mi g t e) σ H Q) :
    tLc (tMI K W mi) (tMG K S g) (tMT K W0 t) (tM K W0 e) vs σ H Q := by
  obtain ⟨ρ, F, R, q⟩ := h
  refine ⟨ρ, F, R, q.of_bind.mono fun p h1 J F1 H1 es1 ok => ?_⟩
  by_cases hz : p.1.length ≤ 16777216
  case neg => rw [if_neg hz] at h1; exact h1.elim
  rw [if_pos hz] at h1
  obtain ⟨r, er, h2⟩ := Ok.nox h1
  have h2 : ∀ v F' H', ES K ρ σ F H (restoreE vs p.2 r.2) σ F' H' → RepR K (Free H) F' H' (restoreE vs p.2 r.2) σ (.new (.lst r.1)) v → Q v H' := h2
  intro D nD
  have nD0 : H D = none := es1.free nD
  refine ⟨fun i m H' => m = p.1.length - i ∧ i ≤ p.1.length ∧ ∃ ρ' F' acc vacc ys, Same F1 F' ∧ ES K p.2 σ F1 H1 ρ' (wipe σ vs) F' H' ∧ H' D = some (.lst vacc) ∧ RepVs K F' acc vacc ∧ F' D = none ∧ ¬ Own ρ' (wipe σ vs) D ∧ acc.length ≤ i ∧
      lcM vs g t e (p.1.drop i) ρ' = .ok (ys, r.2) ∧ acc ++ ys = r.1, ⟨p.1.length, by simp, Nat.zero_le _, wipeE p.2 vs, F1, [], [], r.1, Same.refl _, ?_, upd_same, .nil, es1.rel.fh.none nD, ?_, Nat.le_refl _, er, rfl⟩, ?_⟩
  · exact (es1.rel.wipe vs).other nD (es1.rel.fh.none nD) fun z => (es1.rel.wipe vs).rel.ownH z nD
  · exact fun z => (es1.rel.wipe vs).rel.ownH z nD
  rintro i m H' ⟨rfl, hi, ρ', F', acc, vacc, ys, f, es, hD, rv, nF, nO, hl, el, ea⟩
  by_cases hlt : i < p.1.length
  · refine .inr ⟨ok.go i H' F' f es.rel.fh hlt, fun H2 => ∃ ρ2 F2 acc vacc ys, Same F1 F2 ∧ ES K p.2 σ F1 H1 ρ2 (wipe σ vs) F2 H2 ∧ H2 D = some (.lst vacc) ∧ RepVs K F2 acc vacc ∧ F2 D = none ∧ ¬ Own ρ2 (wipe σ vs) D ∧ acc.length ≤ i + 1 ∧
      lcM vs g t e (p.1.drop (i + 1)) ρ2 = .ok (ys, r.2) ∧ acc ++ ys = r.1, fun H2 h => ⟨p.1.length - (i + 1), by omega, rfl, hlt, h⟩, fun x H2 y => ?_⟩
    obtain ⟨F2, gr, rx⟩ := ok.yld i H' F' x H2 p.1[i] f es.rel.fh (List.getElem?_eq_getElem hlt) y
    rw [List.drop_eq_getElem_cons hlt] at el
    have esg := gr.es es.rel
    have el : ((liftO (g p.1[i] ρ')).bind fun ρ1 => (t ρ1).bind fun p2 => if p2.1 = true then (mOp e p2.2).bind fun q => (liftO q.1.val?).bind fun y => (lcM vs g t e (p.1.drop (i + 1)) (wipeE q.2 vs)).bind fun r => .ok (y :: r.1, r.2)
      else lcM vs g t e (p.1.drop (i + 1)) (wipeE p2.2 vs)) = .ok (ys, r.2) := el
    obtain ⟨ρ1, e1, el⟩ := bind_ok el
    have e1 := lift_ok e1
    obtain ⟨p2, e2, el⟩ := bind_ok el
    -- D through a part of the turn
    have keep : ∀ {ρa : Env} {σa : L2.St} {Fa Ha : Hp}, ES K ρ' (wipe σ vs) F' H' ρa σa Fa Ha → Ha D = some (.lst vacc) ∧ Fa D = none ∧ ¬ Own ρa σa D := fun {ρa σa Fa Ha} z => by
      refine ⟨z.st.fr D _ hD nO, ?_, fun o => ?_⟩
      · cases w : Fa D with
        | none => rfl
        | some u =>
          rcases z.st.new D (by rw [w]; simp) with y | y | y
          · exact absurd nF y
          · rcases y with y | ⟨xs, y⟩
            · rw [hD] at y; cases y
            · rw [hD] at y; cases y
          · exact absurd y nO
      · rcases z.own D o with y | y
        · exact nO y
        · rw [hD] at y; cases y
    refine ⟨ρ', F2, p.1[i], ρ1, (es.trans esg).rel, rx, e1, fun σ2 F3 H3 es3 o3 => ?_⟩
    have hw := wipe_only o3 hS
    refine ⟨hw, ?_⟩
    refine ⟨ρ1, F3, es3.rel, .good e2 fun F4 H4 es4 => ?_⟩
    have esA := (esg.trans es3).trans es4
    refine ite2 (fun hb => ?_) (fun hb => ?_)
    · rw [if_pos hb] at el
      obtain ⟨p3, e3, el⟩ := bind_ok el
      obtain ⟨y', e4, el⟩ := bind_ok el
      have e4 := val?_inv (lift_ok e4)
      obtain ⟨r2, e5, el⟩ := bind_ok el
      have el := Res.ok.inj el
      have el1 : y' :: r2.1 = ys := (Prod.mk.inj el).1
      have el2 : r2.2 = r.2 := (Prod.mk.inj el).2
      have e3' : mOp e p2.2 = .ok (.val y', p3.2) := by rw [e3, ← e4]
      · exact tM_op (k := fun p => .ok p) es4.rel (show Ok W0 p2.2 σ2 F4 H4 ((mOp e p2.2).bind fun p => .ok p) (fun p => p = (.val y', p3.2)) by rw [e3']; rfl) fun rq ρ5 v F5 H5 es5 rr hq => by
          cases hq
          have rr : RepV K F5 y' v := rr
          have esB := esA.trans es5
          obtain ⟨d1, d2, d3⟩ := keep esB
          have esC := es.trans esB
          have esD := esC.trans (esC.rel.wipe vs)
          rw [hw] at esD
          have no : ¬ Own (wipeE p3.2 vs) (wipe σ vs) D := fun z => by
            rw [← hw] at z
            obtain ⟨j, z⟩ := z
            exact d3 ⟨j, (wipe_own z).1⟩
          refine ⟨vacc, d1, ?_, wipeE p3.2 vs, F5, acc ++ [y'], vacc ++ [v], r2.1, f.trans esB.st.ff, esD.other nD d2 no, upd_same, (rv.mono esB.st.ff).append (.cons rr .nil), d2, no, by simp; omega, ?_, by rw [← ea, ← el1]; simp⟩
          · rw [← rv.length, sizeLine_eq]
            omega
          · rw [e5, ← el2]
    · rw [if_neg hb] at el
      obtain ⟨d1, d2, d3⟩ := keep esA
      have esC := es.trans esA
      have esD := esC.trans (esC.rel.wipe vs)
      rw [hw] at esD
      have no : ¬ Own (wipeE p2.2 vs) (wipe σ vs) D := fun z => by
        rw [← hw] at z
        obtain ⟨j, z⟩ := z
        exact d3 ⟨j, (wipe_own z).1⟩
      exact ⟨wipeE p2.2 vs, F4, acc, vacc, ys, f.trans esA.st.ff, esD, d1, rv.mono esA.st.ff, d2, no, by omega, el, ea⟩
  · have e : i = p.1.length := by omega
    subst e
    rw [List.drop_length] at el
    cases el
    rw [List.append_nil] at ea
    subst ea
    have es' := es1.trans (ES.restore es1.rel es)
    refine .inl ⟨ok.stop H' F' f es.rel.fh, h2 _ F' H' es' ⟨D, rfl, nF, nD0, fun z => ?_, vacc, hD, rv⟩⟩
    obtain ⟨j, z1, z2⟩ := z
    rcases z1 with ⟨o, z1⟩ | ⟨o, z1⟩
    · rcases restore_get z1 with ⟨_, _, p, y⟩ | ⟨n, y⟩
      · cases y
      · exact nO ⟨j, .inl ⟨o, y⟩, by rw [wipe_get n]; exact z2⟩
    · rcases restore_get z1 with ⟨_, _, p, y⟩ | ⟨n, y⟩
      · cases y
      · exact nO ⟨j, .inr ⟨o, y⟩, by rw [wipe_get n]; exact z2⟩

section
variable {X : Cx} {W : WX} {tg iter elt : Expr} {ifs : List Expr} {scope : Scope} {own : List (Str × Nat)} {pos spos py : Pos} {S : List Nat} {mi : MI} {g : MG} {t : MT} {me : M}
theorem STs.nil : STs X W [] mYes := ⟨fun pins s σ H Q I ⟨ρ, F, R, q⟩ => pts_nil.run pins s σ H Q I (q F H (ES.refl R))⟩
theorem STs.one {c : Expr} (h : ST X W c t) : STs X W [c] t := pts_one h
theorem SE.lc (hi : SI X W tg iter mi) (ok : BlkOk X.N X.env.scope scope own) (hN : X.N.Nodup)
    (hg : ∀ (s : Shared) (H : Hp) (C : Addr) (cl : List (Str × Addr)) (fp : List Addr), SG (X.blk s H scope (compEnvC scope cl C X.env) fp) S tg g) (ht : ∀ (s : Shared) (H : Hp) (C : Addr) (cl : List (Str × Addr)) (fp : List Addr), STs (X.blk s H scope (compEnvC scope cl C X.env) fp) W0 ifs t)
    (he : ∀ (s : Shared) (H : Hp) (C : Addr) (cl : List (Str × Addr)) (fp : List Addr), SE (X.blk s H scope (compEnvC scope cl C X.env) fp) W0 elt me) (hS : ∀ i ∈ S, i ∈ own.map (·.2)) (hc : X.calm = true) (hs : ∀ x, foldedSetIterable iter X.env x = pure x := by intro _; rfl) :
    SE X W (.ListComp elt [⟨tg, iter, ifs, 0⟩] scope pos) (mLc (own.map (·.2)) mi g t me) :=
  PE.imp (pe_lc (g := tMG X.K S g) (tt := tMT X.K W0 t) (te := tM X.K W0 me) hc hN hi ok (fun s H C cl fp => hg s H C cl fp) (fun s H C cl fp => ht s H C cl fp) (fun s H C cl fp => he s H C cl fp) hs) fun σ H Q h => tM_lc hS h
theorem SS.asgLc {i : Nat} {y : Str} (hi : SI X W tg iter mi) (ok : BlkOk X.N X.env.scope scope own) (hN : X.N.Nodup) (hy : X.N[i]? = some y) (hyl : X.env.scope.names.lookup y = some .local)
    (hsw : swapsWith (.ListComp elt [⟨tg, iter, ifs, 0⟩] scope pos) (some (.Name y py)) spos.line X.env = pure true)
    (hg : ∀ (s : Shared) (H : Hp) (C : Addr) (cl : List (Str × Addr)) (fp : List Addr), SG (X.blk s H scope (compEnvC scope cl C X.env) fp) S tg g) (ht : ∀ (s : Shared) (H : Hp) (C : Addr) (cl : List (Str × Addr)) (fp : List Addr), STs (X.blk s H scope (compEnvC scope cl C X.env) fp) W0 ifs t)
    (he : ∀ (s : Shared) (H : Hp) (C : Addr) (cl : List (Str × Addr)) (fp : List Addr), SE (X.blk s H scope (compEnvC scope cl C X.env) fp) W0 elt me) (hS : ∀ i ∈ S, i ∈ own.map (·.2)) (hc : X.calm = true) (hs : ∀ x, foldedSetIterable iter X.env x = pure x := by intro _; rfl) :
    SS X W (.Assign [.Name y py] (.ListComp elt [⟨tg, iter, ifs, 0⟩] scope pos) spos) (mAsg i (mLc (own.map (·.2)) mi g t me)) :=
  PS.imp (ps_setLc (g := tMG X.K S g) (tt := tMT X.K W0 t) (te := tM X.K W0 me) hc hN hy hyl hsw hi ok (fun s H C cl fp => hg s H C cl fp) (fun s H C cl fp => ht s H C cl fp) (fun s H C cl fp => he s H C cl fp) hs) fun D σ H ⟨ρ, F, R, q⟩ => tM_lc hS ⟨ρ, F, R, q.of_bind.mono fun p hp v F1 H1 es rr => by
    obtain ⟨ρ', e1, h2⟩ := hp.lift
    exact h2 _ F1 H1 (setR_ok es rr e1)⟩

/-! ### the keys of a dict, walked in a comprehension -/
def kPV : Key → PV
  | .inl i => .int i
  | .inr x => .str x
def dkeys : PV → Option (List PV)
  | .dT ks _ => some (ks.map fun k => .tup (k.map kPV))
  | .dK ks _ => some (ks.map kPV)
  | _ => none
theorem kPV_rep {K : PySem.W.Frag} {F : Hp} (k : Key) : RepV K F (kPV k) (kV k) := by
  cases k with
  | inl i => unfold kPV kV RepV; rfl
  | inr x => unfold kPV kV RepV; rfl
theorem kPVs_rep {K : PySem.W.Frag} {F : Hp} : ∀ ks : List Key, RepVs K F (ks.map kPV) (ks.map kV)
  | [] => .nil
  | k :: ks => .cons (kPV_rep k) (kPVs_rep ks)
/-- a tuple of the heap, told -/
theorem growOld {F H : Hp} (h : FH F H) {p : Addr} {xs : List V} (e : H p = some (.tup xs)) (hF : F p = none ∨ F p = some (.tup xs)) : Grow F H (upd F p (.tup xs)) H where
  ff := fun b x q => by
    by_cases z : b = p
    · subst z
      rcases hF with y | y
      · rw [y] at q; cases q
      · rw [y] at q; rw [upd_same]; exact q
    · rw [upd_ne z]; exact q
  new := fun a q => by
    by_cases z : a = p
    · subst z; exact .inr (.inr ⟨xs, e⟩)
    · rw [upd_ne z] at q; exact .inl q
  hh := Same.refl H
  fh := fun a u q => by
    by_cases z : a = p
    · subst z; rw [upd_same] at q; cases q; exact .inl e
    · rw [upd_ne z] at q; exact h a u q
theorem fhTupF {F H : Hp} (h : FH F H) {p : Addr} {xs : List V} (e : H p = some (.tup xs)) : F p = none ∨ F p = some (.tup xs) := by
  cases q : F p with
  | none => exact .inl rfl
  | some u =>
    rcases h p u q with z | ⟨(⟨_, z⟩ | ⟨_, z⟩), o, y⟩
    · rw [e] at z; cases z; exact .inr rfl
    · rw [e] at y; cases y
    · rw [e] at y; cases y
end
end Pu

set_option Elab.async false
set_option linter.all false
set_option maxRecDepth 100000
/-! Pu12: primitives. -/
namespace Pu
open PySem PySem.Spec PyProof.Rows L2

section
variable {K : PySem.W.Frag} {F H : Hp}
theorem repBI {i : Int} {x : V} (h : RepB K F H (.int i) x) : x = .int i := by
  have h : RepV K F (.int i) x := h
  unfold RepV at h
  exact h
theorem repBB {i : Bool} {x : V} (h : RepB K F H (.bl i) x) : x = .bl i := by
  have h : RepV K F (.bl i) x := h
  unfold RepV at h
  exact h
theorem repBS {i : Str} {x : V} (h : RepB K F H (.str i) x) : x = .str i := by
  have h : RepV K F (.str i) x := h
  unfold RepV at h
  exact h
theorem repBN {x : V} (h : RepB K F H .non x) : x = .non := by
  have h : RepV K F .non x := h
  unfold RepV at h
  exact h
theorem repBT {xs : List PV} {x : V} (h : RepB K F H (.tup xs) x) : ∃ a vs, x = .ref a ∧ F a = some (.tup vs) ∧ RepVs K F xs vs := by
  have h : RepV K F (.tup xs) x := h
  unfold RepV at h
  exact h
theorem repNI {H0 : Hp} {i : Int} : RepN K H0 F H (.val (.int i)) (.int i) := show RepV _ _ _ _ by unfold RepV; rfl
theorem repNB {H0 : Hp} {i : Bool} : RepN K H0 F H (.val (.bl i)) (.bl i) := show RepV _ _ _ _ by unfold RepV; rfl
theorem repNS {H0 : Hp} {i : Str} : RepN K H0 F H (.val (.str i)) (.str i) := show RepV _ _ _ _ by unfold RepV; rfl
/-- a number, with nothing made -/
theorem giveI {Q : VK} {i : Int} (fh : FH F H) (q : ∀ v F' H', Grow F H F' H' → RepN K H F' H' (.val (.int i)) v → Q v H') : Q (.int i) H := q _ F H (Grow.refl fh) repNI
theorem giveB {Q : VK} {i : Bool} (fh : FH F H) (q : ∀ v F' H', Grow F H F' H' → RepN K H F' H' (.val (.bl i)) v → Q v H') : Q (.bl i) H := q _ F H (Grow.refl fh) repNB
theorem giveS {Q : VK} {i : Str} (fh : FH F H) (q : ∀ v F' H', Grow F H F' H' → RepN K H F' H' (.val (.str i)) v → Q v H') : Q (.str i) H := q _ F H (Grow.refl fh) repNS
/-- a new tuple -/
theorem giveT {Q : VK} {xs : List PV} {vs : List V} (fh : FH F H) (r : RepVs K F xs vs) (q : ∀ v F' H', Grow F H F' H' → RepN K H F' H' (.val (.tup xs)) v → Q v H') : ∀ p, H p = none → Q (.ref p) (upd H p (.tup vs)) := fun p n => by
  have g := Grow.tup (o := .tup vs) fh n
  refine q _ _ _ g (show RepV _ _ _ _ from ?_)
  unfold RepV
  exact ⟨p, vs, rfl, upd_same, r.mono g.ff⟩
/-- .. an old one -/
theorem giveT0 {Q : VK} {xs : List PV} {vs : List V} {a : Addr} (fh : FH F H) (e : F a = some (.tup vs)) (r : RepVs K F xs vs) (q : ∀ v F' H', Grow F H F' H' → RepN K H F' H' (.val (.tup xs)) v → Q v H') : Q (.ref a) H := by
  refine q _ F H (Grow.refl fh) (show RepV _ _ _ _ from ?_)
  unfold RepV
  exact ⟨a, vs, rfl, e, r⟩
/-- a new list -/
theorem giveL {Q : VK} {xs : List PV} {vs : List V} (fh : FH F H) (r : RepVs K F xs vs) (q : ∀ v F' H', Grow F H F' H' → RepN K H F' H' (.new (.lst xs)) v → Q v H') : ∀ p, H p = none → Q (.ref p) (upd H p (.lst vs)) := fun p n =>
  q _ _ _ (Grow.obj fh n) ⟨p, rfl, fh.none n, n, vs, upd_same, r⟩
end
abbrev V0 (p : PV) : Option RV := some (.val p)

/-! ### int operators -/
def iop (g : Int → Int → Option PV) : PV → PV → Option RV := fun a b => match a, b with
  | .int i, .int j => (g i j).map RV.val
  | _, _ => none
def pSub : PV → PV → Option RV := iop fun i j => some (.int (i - j))
def pDiv : PV → PV → Option RV := iop fun i j => if 0 < j ∧ j.natAbs.log2 < 9000 then some (.int (i / j)) else none
def pMod : PV → PV → Option RV := iop fun i j => if 0 < j then some (.int (i % j)) else none
def pPow : PV → PV → Option RV := iop fun i j => if 0 ≤ j ∧ j ≤ 1000000 ∧ i.natAbs < 18446744073709551616 then some (.int (i ^ j.toNat)) else none
def pLt : PV → PV → Option RV := iop fun i j => some (.bl (decide (i < j)))
def pLe : PV → PV → Option RV := iop fun i j => some (.bl (decide (i ≤ j)))
def pGt : PV → PV → Option RV := iop fun i j => some (.bl (decide (j < i)))
def pGe : PV → PV → Option RV := iop fun i j => some (.bl (decide (j ≤ i)))
section
variable {K : PySem.W.Frag} {F H : Hp}
theorem iop_inv {g : Int → Int → Option PV} {a b : PV} {r : RV} (h : iop g a b = some r) : ∃ i j p, a = .int i ∧ b = .int j ∧ g i j = some p ∧ r = .val p := by
  unfold iop at h
  split at h
  · rename_i i j
    cases e : g i j with
    | none => rw [e] at h; cases h
    | some p => rw [e] at h; cases h; exact ⟨i, j, p, rfl, rfl, e, rfl⟩
  · cases h
theorem prim_i {g : Int → Int → Option PV} {r : R2} (h : ∀ (i j : Int) (p : PV) (F H : Hp) (Q : VK), FH F H → g i j = some p → (∀ v F' H', Grow F H F' H' → RepN K H F' H' (.val p) v → Q v H') → r (.int i) (.int j) H Q) : Prim2 K r (iop g) := by
  intro x y F H Q a b res fh ra rb e q
  obtain ⟨i, j, p, rfl, rfl, eg, rfl⟩ := iop_inv e
  rw [repBI ra, repBI rb]
  exact h i j p F H Q fh eg q
theorem prim_i0 {g : Int → Int → Int} : Prim2 K (rI0 fun i j => .int (g i j)) (iop fun i j => some (.int (g i j))) := prim_i fun i j p F H Q fh e q => by
  cases e
  exact ⟨i, j, rfl, rfl, giveI fh q⟩
theorem prim_b0 {g : Int → Int → Bool} : Prim2 K (rI0 fun i j => .bl (g i j)) (iop fun i j => some (.bl (g i j))) := prim_i fun i j p F H Q fh e q => by
  cases e
  exact ⟨i, j, rfl, rfl, giveB fh q⟩
theorem prim_sub : Prim2 K (rI0 fun i j => .int (i - j)) pSub := prim_i0
theorem prim_div : Prim2 K (rI CDivW fun i j => .int (i / j)) pDiv := prim_i fun i j p F H Q fh e q => by
  split at e
  · rename_i h
    cases e
    exact ⟨i, j, rfl, rfl, ⟨h.1, h.2⟩, giveI fh q⟩
  · cases e
theorem prim_mod : Prim2 K (rI (fun _ j => 0 < j) fun i j => .int (i % j)) pMod := prim_i fun i j p F H Q fh e q => by
  split at e
  · rename_i h
    cases e
    exact ⟨i, j, rfl, rfl, h, giveI fh q⟩
  · cases e
theorem prim_pow : Prim2 K (rI CPow fun i j => .int (i ^ j.toNat)) pPow := prim_i fun i j p F H Q fh e q => by
  split at e
  · rename_i h
    cases e
    exact ⟨i, j, rfl, rfl, ⟨h.1, h.2.1, by simpa using h.2.2⟩, giveI fh q⟩
  · cases e
theorem prim_lt : Prim2 K (rI0 fun i j => .bl (decide (i < j))) pLt := prim_b0
theorem prim_le : Prim2 K (rI0 fun i j => .bl (decide (i ≤ j))) pLe := prim_b0
theorem prim_gt : Prim2 K (rI0 fun i j => .bl (decide (j < i))) pGt := prim_b0
theorem prim_ge : Prim2 K (rI0 fun i j => .bl (decide (j ≤ i))) pGe := prim_b0
end

/-! ### + and * -/
def szOk (n : Nat) : Bool := decide (n ≤ 16777216)
theorem szOk_inv {n : Nat} (h : szOk n = true) : n ≤ sizeLine := by rw [sizeLine_eq]; exact of_decide_eq_true h
def pAdd : PV → PV → Option RV := fun a b => match a, b with
  | .int i, .int j => some (.val (.int (i + j)))
  | .tup xs, .tup ys => if szOk (xs.length + ys.length) = true then some (.val (.tup (xs ++ ys))) else none
  | .lst xs, .lst ys => if szOk (xs.length + ys.length) = true then some (.new (.lst (xs ++ ys))) else none
  | _, _ => none
def rAdd (K : PySem.W.Frag) : R2 := fun x y H Q => rI0 (fun i j => .int (i + j)) x y H Q ∨ (rCatA K x y H Q ∨ rCat x y H Q)
theorem prim_add {K : PySem.W.Frag} : Prim2 K (rAdd K) pAdd := by
  intro x y F H Q a b res fh ra rb e q
  unfold pAdd at e
  split at e
  · cases e
    rw [repBI ra, repBI rb]
    exact .inl ⟨_, _, rfl, rfl, giveI fh q⟩
  · split at e
    · rename_i hz
      cases e
      obtain ⟨a, vs, rfl, ea, r1⟩ := repBT ra
      obtain ⟨b, ws, rfl, eb, r2⟩ := repBT rb
      refine .inr (.inl ⟨a, b, vs, ws, rfl, rfl, .of (fh.tup ea), .of (fh.tup eb), by rw [← r1.length, ← r2.length]; exact szOk_inv hz, fun z => ?_, fun z1 z2 => ?_, fun _ _ => giveT fh (r1.append r2) q⟩)
      · subst z
        have e0 := List.eq_nil_of_length_eq_zero r1.length
        rw [e0, List.nil_append] at q
        exact giveT0 fh eb r2 q
      · subst z2
        have e0 := List.eq_nil_of_length_eq_zero r2.length
        rw [e0, List.append_nil] at q
        exact giveT0 fh ea r1 q
    · cases e
  · split at e
    · rename_i hz
      cases e
      obtain ⟨a, vs, rfl, ea, r1⟩ := ra
      obtain ⟨b, ws, rfl, eb, r2⟩ := rb
      exact .inr (.inr ⟨a, b, vs, ws, rfl, rfl, ea, eb, by rw [← r1.length, ← r2.length]; exact szOk_inv hz, giveL fh (r1.append r2) q⟩)
    · cases e
  · cases e
def smallI (i : Int) : Bool := decide (-18446744073709551616 < i) && decide (i < 18446744073709551616)
def pMul : PV → PV → Option RV := fun a b => match a, b with
  | .int i, .int j => if (smallI i || smallI j || decide (i.natAbs.log2 + j.natAbs.log2 < 1000000)) = true then some (.val (.int (i * j))) else none
  | .lst xs, .int k => if -(2 ^ 63) ≤ k ∧ k < 2 ^ 63 ∧ szOk (xs.length * k.toNat) = true then some (.new (.lst (List.replicate k.toNat xs).flatten)) else none
  | _, _ => none
def rMul (K : PySem.W.Frag) : R2 := fun x y H Q => rI CMul (fun i j => .int (i * j)) x y H Q ∨ (rI CMulW (fun i j => .int (i * j)) x y H Q ∨ rRep x y H Q)
theorem RepVs.flat {K : PySem.W.Frag} {F : Hp} {xs : List PV} {vs : List V} (h : RepVs K F xs vs) : ∀ n, RepVs K F (List.replicate n xs).flatten (List.replicate n vs).flatten
  | 0 => .nil
  | n + 1 => by
    rw [List.replicate_succ, List.replicate_succ, List.flatten_cons, List.flatten_cons]
    exact h.append (h.flat n)
theorem smallI_inv {i : Int} (h : smallI i = true) : -(2 ^ 64) < i ∧ i < 2 ^ 64 := by
  unfold smallI at h
  rw [Bool.and_eq_true] at h
  have z : (2 : Int) ^ 64 = 18446744073709551616 := by decide
  rw [z]
  exact ⟨of_decide_eq_true h.1, of_decide_eq_true h.2⟩
theorem prim_mul {K : PySem.W.Frag} : Prim2 K (rMul K) pMul := by
  intro x y F H Q a b res fh ra rb e q
  unfold pMul at e
  split at e
  · split at e
    · rename_i hz
      cases e
      rw [repBI ra, repBI rb]
      rw [Bool.or_eq_true, Bool.or_eq_true] at hz
      rcases hz with (hz | hz) | hz
      · exact .inl ⟨_, _, rfl, rfl, .inl (smallI_inv hz), giveI fh q⟩
      · exact .inl ⟨_, _, rfl, rfl, .inr (smallI_inv hz), giveI fh q⟩
      · have hz2 := of_decide_eq_true hz
        exact .inr (.inl ⟨_, _, rfl, rfl, hz2, giveI fh q⟩)
    · cases e
  · split at e
    · rename_i hz
      cases e
      obtain ⟨a, vs, rfl, ea, r1⟩ := ra
      rw [repBI rb]
      exact .inr (.inr ⟨a, _, vs, rfl, rfl, ea, hz.1, hz.2.1, by rw [← r1.length]; exact szOk_inv hz.2.2, giveL fh (r1.flat _) q⟩)
    · cases e
  · cases e

/-! ### minus -/
def pNeg : PV → Option RV := fun a => match a with
  | .int i => some (.val (.int (-i)))
  | _ => none
theorem prim_neg {K : PySem.W.Frag} : Prim1 K (rU fun i => .int (-i)) pNeg := by
  intro x F H Q a res fh ra e q
  unfold pNeg at e
  split at e
  · cases e
    rw [repBI ra]
    exact ⟨_, rfl, giveI fh q⟩
  · cases e

/-! ### == and != -/
mutual
def eqP : PV → PV → Bool
  | .non, .non => true
  | .bl a, .bl b => a == b
  | .bl a, .int j => (if a then 1 else 0) == j
  | .int i, .bl b => i == (if b then 1 else 0)
  | .int i, .int j => i == j
  | .str x, .str y => x == y
  | .lst xs, .lst ys => eqPs xs ys
  | .tup xs, .tup ys => eqPs xs ys
  | _, _ => false
def eqPs : List PV → List PV → Bool
  | [], [] => true
  | x :: xs, y :: ys => eqP x y && eqPs xs ys
  | _, _ => false
end
mutual
/-- may be compared: at most n deep -/
def cmpOk : Nat → PV → Bool
  | _, .non => true
  | _, .bl _ => true
  | _, .int _ => true
  | _, .str x => PyData.strOk x
  | n + 1, .lst xs => cmpOks n xs
  | n + 1, .tup xs => cmpOks n xs
  | _, _ => false
def cmpOks : Nat → List PV → Bool
  | _, [] => true
  | n, x :: xs => cmpOk n x && cmpOks n xs
end
mutual
/-- as plain data -/
def PV.data : PV → PyData
  | .bl b => .bool b
  | .int i => .int i
  | .str x => .str x
  | .tup xs => .tuple (PV.datas xs)
  | .lst xs => .list (PV.datas xs)
  | _ => .none
def PV.datas : List PV → List PyData
  | [] => []
  | x :: xs => x.data :: PV.datas xs
end
mutual
theorem data_ok : ∀ (n : Nat) (p : PV), cmpOk n p = true → p.data.canLay0 = true ∧ p.data.depth ≤ n
  | n, .non, h => ⟨rfl, Nat.zero_le _⟩
  | n, .bl _, h => ⟨rfl, Nat.zero_le _⟩
  | n, .int _, h => ⟨rfl, Nat.zero_le _⟩
  | n, .str x, h => by
    unfold cmpOk at h
    exact ⟨h, Nat.zero_le _⟩
  | n + 1, .lst xs, h => by
    unfold cmpOk at h
    obtain ⟨a, b⟩ := datas_ok n xs h
    exact ⟨a, Nat.succ_le_succ b⟩
  | n + 1, .tup xs, h => by
    unfold cmpOk at h
    obtain ⟨a, b⟩ := datas_ok n xs h
    exact ⟨a, Nat.succ_le_succ b⟩
  | 0, .lst xs, h => by unfold cmpOk at h; cases h
  | 0, .tup xs, h => by unfold cmpOk at h; cases h
  | n, .dT _ _, h => by unfold cmpOk at h; cases h
  | n, .scr _, h => by unfold cmpOk at h; cases h
  | n, .ob _ _ _, h => by unfold cmpOk at h; cases h
  | n, .ty _, h => by unfold cmpOk at h; cases h
  | n, .dK _ _, h => by unfold cmpOk at h; cases h
theorem datas_ok : ∀ (n : Nat) (p : List PV), cmpOks n p = true → PyData.canLayAll0 (PV.datas p) = true ∧ PyData.depthAll (PV.datas p) ≤ n
  | n, [], h => ⟨rfl, Nat.zero_le _⟩
  | n, x :: xs, h => by
    unfold cmpOks at h
    rw [Bool.and_eq_true] at h
    obtain ⟨a, b⟩ := data_ok n x h.1
    obtain ⟨c, d⟩ := datas_ok n xs h.2
    refine ⟨?_, ?_⟩
    · show (x.data.canLay0 && PyData.canLayAll0 (PV.datas xs)) = true
      rw [a, c]
      rfl
    · show max x.data.depth (PyData.depthAll (PV.datas xs)) ≤ n
      omega
end
mutual
theorem eqP_data : ∀ (n : Nat) (p : PV), cmpOk n p = true → ∀ (m : Nat) (q : PV), cmpOk m q = true → PyData.eqv p.data q.data = eqP p q
  | n, .non, h, m, q, hq => by cases q <;> first | rfl | (unfold cmpOk at hq; cases hq)
  | n, .bl _, h, m, q, hq => by cases q <;> first | rfl | (unfold cmpOk at hq; cases hq)
  | n, .int _, h, m, q, hq => by cases q <;> first | rfl | (unfold cmpOk at hq; cases hq)
  | n, .str x, h, m, q, hq => by cases q <;> first | rfl | (unfold cmpOk at hq; cases hq)
  | n + 1, .lst xs, h, m, q, hq => by
    cases q with
    | lst ys =>
      cases m with
      | zero => unfold cmpOk at hq; cases hq
      | succ m =>
        unfold cmpOk at h hq
        show PyData.eqvAll (PV.datas xs) (PV.datas ys) = eqPs xs ys
        exact eqPs_data n xs h m ys hq
    | dT _ _ => unfold cmpOk at hq; cases hq
    | scr _ => unfold cmpOk at hq; cases hq
    | ob _ _ _ => unfold cmpOk at hq; cases hq
    | ty _ => unfold cmpOk at hq; cases hq
    | dK _ _ => unfold cmpOk at hq; cases hq
    | _ => rfl
  | n + 1, .tup xs, h, m, q, hq => by
    cases q with
    | tup ys =>
      cases m with
      | zero => unfold cmpOk at hq; cases hq
      | succ m =>
        unfold cmpOk at h hq
        show PyData.eqvAll (PV.datas xs) (PV.datas ys) = eqPs xs ys
        exact eqPs_data n xs h m ys hq
    | dT _ _ => unfold cmpOk at hq; cases hq
    | scr _ => unfold cmpOk at hq; cases hq
    | ob _ _ _ => unfold cmpOk at hq; cases hq
    | ty _ => unfold cmpOk at hq; cases hq
    | dK _ _ => unfold cmpOk at hq; cases hq
    | _ => rfl
  | 0, .lst xs, h, _, _, _ => by unfold cmpOk at h; cases h
  | 0, .tup xs, h, _, _, _ => by unfold cmpOk at h; cases h
  | n, .dT _ _, h, _, _, _ => by unfold cmpOk at h; cases h
  | n, .scr _, h, _, _, _ => by unfold cmpOk at h; cases h
  | n, .ob _ _ _, h, _, _, _ => by unfold cmpOk at h; cases h
  | n, .ty _, h, _, _, _ => by unfold cmpOk at h; cases h
  | n, .dK _ _, h, _, _, _ => by unfold cmpOk at h; cases h
theorem eqPs_data : ∀ (n : Nat) (p : List PV), cmpOks n p = true → ∀ (m : Nat) (q : List PV), cmpOks m q = true → PyData.eqvAll (PV.datas p) (PV.datas q) = eqPs p q
  | n, [], h, m, q, hq => by cases q <;> rfl
  | n, x :: xs, h, m, q, hq => by
    cases q with
    | nil => rfl
    | cons y ys =>
      unfold cmpOks at h hq
      rw [Bool.and_eq_true] at h hq
      show (PyData.eqv x.data y.data && PyData.eqvAll (PV.datas xs) (PV.datas ys)) = (eqP x y && eqPs xs ys)
      rw [eqP_data n x h.1 m y hq.1, eqPs_data n xs h.2 m ys hq.2]
end
section
variable {K : PySem.W.Frag} {F H : Hp}
mutual
theorem dp_of (fh : FH F H) : ∀ (n : Nat) (p : PV), cmpOk n p = true → ∀ v, RepV K F p v → Dp K H v p.data
  | n, .non, h, v, r => by unfold RepV at r; subst r; exact .non
  | n, .bl _, h, v, r => by unfold RepV at r; subst r; exact .bl _
  | n, .int _, h, v, r => by unfold RepV at r; subst r; exact .int _
  | n, .str x, h, v, r => by unfold RepV at r; subst r; exact .str _
  | n + 1, .lst xs, h, v, r => by
    unfold RepV at r
    unfold cmpOk at h
    obtain ⟨a, vs, rfl, e, r⟩ := r
    exact .lst (.inl (.inl (fh.lst e))) (dps_of fh n xs h vs r)
  | n + 1, .tup xs, h, v, r => by
    unfold RepV at r
    unfold cmpOk at h
    obtain ⟨a, vs, rfl, e, r⟩ := r
    exact .tup (.of (fh.tup e)) (dps_of fh n xs h vs r)
  | 0, .lst xs, h, _, _ => by unfold cmpOk at h; cases h
  | 0, .tup xs, h, _, _ => by unfold cmpOk at h; cases h
  | n, .dT _ _, h, _, _ => by unfold cmpOk at h; cases h
  | n, .scr _, h, _, _ => by unfold cmpOk at h; cases h
  | n, .ob _ _ _, h, _, _ => by unfold cmpOk at h; cases h
  | n, .ty _, h, _, _ => by unfold cmpOk at h; cases h
  | n, .dK _ _, h, _, _ => by unfold cmpOk at h; cases h
theorem dps_of (fh : FH F H) : ∀ (n : Nat) (p : List PV), cmpOks n p = true → ∀ vs, RepVs K F p vs → DpAll K H vs (PV.datas p)
  | n, [], h, vs, r => by rw [r.nil_inv]; exact .nil
  | n, x :: xs, h, vs, r => by
    obtain ⟨v, t, rfl, r1, r2⟩ := r.cons_inv
    unfold cmpOks at h
    rw [Bool.and_eq_true] at h
    exact .cons (dp_of fh n x h.1 v r1) (dps_of fh n xs h.2 t r2)
end
theorem dpB_of (fh : FH F H) {n : Nat} {p : PV} {v : V} (h : cmpOk n p = true) (r : RepB K F H p v) : Dp K H v p.data := by
  cases p with
  | lst xs =>
    cases n with
    | zero => unfold cmpOk at h; cases h
    | succ n =>
      unfold cmpOk at h
      obtain ⟨a, vs, rfl, e, r⟩ := r
      exact .lst (.inl (.inl e)) (dps_of fh n xs h vs r)
  | dT _ _ => unfold cmpOk at h; cases h
  | scr _ => unfold cmpOk at h; cases h
  | ob _ _ _ => unfold cmpOk at h; cases h
  | ty _ => unfold cmpOk at h; cases h
  | dK _ _ => unfold cmpOk at h; cases h
  | non => exact dp_of fh n _ h v r
  | bl _ => exact dp_of fh n _ h v r
  | int _ => exact dp_of fh n _ h v r
  | str _ => exact dp_of fh n _ h v r
  | tup _ => exact dp_of fh n _ h v r
end
theorem shaped_of {p : PV} (h : cmpOk 64 p = true) : SeqAt.shaped p.data = true := by
  obtain ⟨a, b⟩ := data_ok 64 p h
  unfold SeqAt.shaped
  rw [a, decide_eq_true b]
  rfl
def pEq : PV → PV → Option RV := fun a b => if (cmpOk 64 a && cmpOk 64 b) = true then some (.val (.bl (eqP a b))) else none
def pNe : PV → PV → Option RV := fun a b => if (cmpOk 64 a && cmpOk 64 b) = true then some (.val (.bl (!eqP a b))) else none
theorem prim_eq {K : PySem.W.Frag} : Prim2 K (rEqD K) pEq := by
  intro x y F H Q a b res fh ra rb e q
  unfold pEq at e
  split at e
  · rename_i h
    rw [Bool.and_eq_true] at h
    cases e
    exact ⟨_, _, dpB_of fh h.1 ra, dpB_of fh h.2 rb, shaped_of h.1, shaped_of h.2, by rw [eqP_data 64 a h.1 64 b h.2]; exact giveB fh q⟩
  · cases e
theorem prim_ne {K : PySem.W.Frag} : Prim2 K (rNeD K) pNe := by
  intro x y F H Q a b res fh ra rb e q
  unfold pNe at e
  split at e
  · rename_i h
    rw [Bool.and_eq_true] at h
    cases e
    exact ⟨_, _, dpB_of fh h.1 ra, dpB_of fh h.2 rb, shaped_of h.1, shaped_of h.2, by rw [eqP_data 64 a h.1 64 b h.2]; exact giveB fh q⟩
  · cases e
end Pu

set_option Elab.async false
set_option linter.all false
set_option maxRecDepth 100000
/-! Pu13: is, in, chains, isinstance, calls of built-ins, subscripts, slices. -/
namespace Pu
open PySem PySem.Spec PyProof.Rows L2

/-! ### is None, is True -/
def isP : PV → PV → Option Bool := fun a b => match b with
  | .non => some (match a with | .non => true | _ => false)
  | .bl k => some (match a with | .bl j => j == k | _ => false)
  | _ => none
def pIs : PV → PV → Option RV := fun a b => (isP a b).map fun k => .val (.bl k)
def pIsNot : PV → PV → Option RV := fun a b => (isP a b).map fun k => .val (.bl (!k))
def rIs : R2 := fun x y H Q => (y = .non ∨ ∃ k, y = .bl k) ∧ Q (.bl (decide (x = y))) H
def rIsNot : R2 := fun x y H Q => (y = .non ∨ ∃ k, y = .bl k) ∧ Q (.bl (!decide (x = y))) H
section
variable {X : Cx}
theorem isSame_B {M : Model} {A : Around} {E : Value → Shared → Prop} {s : Shared} {x : V} {v : Value} {k : Bool} {Q : Bool → Shared → Prop} (rx : RelV x v) (h : Q (decide (x = .bl k)) s) : wpAny M A (isSame v (.bool k)) Q E s := by
  cases x with
  | non => cases rx; exact wpAny_pure h
  | bl b =>
    cases rx
    have e : (Value.bool b == Value.bool k) = decide (V.bl b = V.bl k) := by cases b <;> cases k <;> rfl
    exact wpAny_pure (by rw [e]; exact h)
  | int i => obtain ⟨t, rfl⟩ := rx; exact wpAny_pure h
  | str i => obtain ⟨t, rfl⟩ := rx; exact wpAny_pure h
  | byt i => obtain ⟨t, rfl⟩ := rx; exact wpAny_pure h
  | flt i => obtain ⟨t, rfl⟩ := rx; exact wpAny_pure h
  | ref a => cases rx; exact wpAny_pure h
  | ty n => cases rx; exact wpAny_pure h
theorem op_is : OpR X (compareOp .Is) rIs := by
  intro pins s σ H x y v u Q I rx ry h
  obtain ⟨(rfl | ⟨k, rfl⟩), q⟩ := h
  · exact op_isN pins s σ H x _ v u Q I rx ry ⟨rfl, q⟩
  · cases (show u = Value.bool k from ry)
    show wpAny _ _ ((do return Value.bool (← isSame v (.bool k))) : Sem Value) _ _ s
    exact wpAny_bind (isSame_B rx (wpAny_pure ⟨.bl _, H, I, rfl, q⟩))
theorem op_isNot : OpR X (compareOp .IsNot) rIsNot := by
  intro pins s σ H x y v u Q I rx ry h
  obtain ⟨(rfl | ⟨k, rfl⟩), q⟩ := h
  · exact op_notN pins s σ H x _ v u Q I rx ry ⟨rfl, q⟩
  · cases (show u = Value.bool k from ry)
    show wpAny _ _ ((do return Value.bool (!(← isSame v (.bool k)))) : Sem Value) _ _ s
    exact wpAny_bind (isSame_B rx (wpAny_pure ⟨.bl _, H, I, rfl, q⟩))
end
section
variable {K : PySem.W.Frag} {F H : Hp}
theorem repB_ref {p : PV} {v : V} (r : RepB K F H p v) : (p = .non ∧ v = .non) ∨ (∃ b, p = .bl b ∧ v = .bl b) ∨ (∃ i, p = .int i ∧ v = .int i) ∨ (∃ x, p = .str x ∧ v = .str x) ∨ (∃ n, p = .ty n ∧ v = .ty n) ∨ ((∃ a, v = .ref a) ∧ ((∃ xs, p = .tup xs) ∨ (∃ xs, p = .lst xs) ∨ (∃ ks xs, p = .dT ks xs) ∨ (∃ ks xs, p = .dK ks xs) ∨ (∃ C ns xs, p = .ob C ns xs) ∨ ∃ ns, p = .scr ns)) := by
  cases p with
  | non => exact .inl ⟨rfl, repBN r⟩
  | bl b => exact .inr (.inl ⟨b, rfl, repBB r⟩)
  | int i => exact .inr (.inr (.inl ⟨i, rfl, repBI r⟩))
  | str x => exact .inr (.inr (.inr (.inl ⟨x, rfl, repBS r⟩)))
  | ty n =>
    have r : RepV K F (.ty n) v := r
    unfold RepV at r
    exact .inr (.inr (.inr (.inr (.inl ⟨n, rfl, r⟩))))
  | tup xs => obtain ⟨a, vs, rfl, _⟩ := repBT r; exact .inr (.inr (.inr (.inr (.inr ⟨⟨a, rfl⟩, .inl ⟨xs, rfl⟩⟩))))
  | lst xs => obtain ⟨a, vs, rfl, _⟩ := r; exact .inr (.inr (.inr (.inr (.inr ⟨⟨a, rfl⟩, .inr (.inl ⟨xs, rfl⟩)⟩))))
  | dT ks xs => obtain ⟨a, vs, rfl, _⟩ := r; exact .inr (.inr (.inr (.inr (.inr ⟨⟨a, rfl⟩, .inr (.inr (.inl ⟨ks, xs, rfl⟩))⟩))))
  | dK ks xs => obtain ⟨a, vs, rfl, _⟩ := r; exact .inr (.inr (.inr (.inr (.inr ⟨⟨a, rfl⟩, .inr (.inr (.inr (.inl ⟨ks, xs, rfl⟩)))⟩))))
  | ob C ns xs => obtain ⟨a, vs, rfl, _⟩ := r; exact .inr (.inr (.inr (.inr (.inr ⟨⟨a, rfl⟩, .inr (.inr (.inr (.inr (.inl ⟨C, ns, xs, rfl⟩))))⟩))))
  | scr ns =>
    have r : RepV K F (.scr ns) v := r
    unfold RepV at r
    obtain ⟨a, rfl, _⟩ := r
    exact .inr (.inr (.inr (.inr (.inr ⟨⟨a, rfl⟩, .inr (.inr (.inr (.inr (.inr ⟨ns, rfl⟩))))⟩))))
theorem isP_ok {a b : PV} {x y : V} {k : Bool} (ra : RepB K F H a x) (rb : RepB K F H b y) (e : isP a b = some k) : (y = .non ∨ ∃ k, y = .bl k) ∧ decide (x = y) = k := by
  cases b with
  | non =>
    rw [repBN rb]
    refine ⟨.inl rfl, ?_⟩
    rcases repB_ref ra with ⟨rfl, rfl⟩ | ⟨_, rfl, rfl⟩ | ⟨_, rfl, rfl⟩ | ⟨_, rfl, rfl⟩ | ⟨_, rfl, rfl⟩ | ⟨⟨_, rfl⟩, (⟨_, rfl⟩ | ⟨_, rfl⟩ | ⟨_, _, rfl⟩ | ⟨_, _, rfl⟩ | ⟨_, _, _, rfl⟩ | ⟨_, rfl⟩)⟩ <;> (cases e; rfl)
  | bl j =>
    rw [repBB rb]
    refine ⟨.inr ⟨j, rfl⟩, ?_⟩
    rcases repB_ref ra with ⟨rfl, rfl⟩ | ⟨i, rfl, rfl⟩ | ⟨_, rfl, rfl⟩ | ⟨_, rfl, rfl⟩ | ⟨_, rfl, rfl⟩ | ⟨⟨_, rfl⟩, (⟨_, rfl⟩ | ⟨_, rfl⟩ | ⟨_, _, rfl⟩ | ⟨_, _, rfl⟩ | ⟨_, _, _, rfl⟩ | ⟨_, rfl⟩)⟩ <;> first
      | (cases e; rfl)
      | (cases e; cases i <;> cases j <;> rfl)
  | _ => cases e
theorem prim_is : Prim2 K rIs pIs := by
  intro x y F H Q a b res fh ra rb e q
  unfold pIs at e
  cases ek : isP a b with
  | none => rw [ek] at e; cases e
  | some k =>
    rw [ek] at e
    cases e
    obtain ⟨h1, h2⟩ := isP_ok ra rb ek
    exact ⟨h1, by rw [h2]; exact giveB fh q⟩
theorem prim_isNot : Prim2 K rIsNot pIsNot := by
  intro x y F H Q a b res fh ra rb e q
  unfold pIsNot at e
  cases ek : isP a b with
  | none => rw [ek] at e; cases e
  | some k =>
    rw [ek] at e
    cases e
    obtain ⟨h1, h2⟩ := isP_ok ra rb ek
    exact ⟨h1, by rw [h2]; exact giveB fh q⟩
end

/-! ### in, not in: lists and tuples of flat items -/
def flatP : PV → Bool
  | .non => true
  | .bl _ => true
  | .int _ => true
  | .str _ => true
  | _ => false
def inP (a b : PV) : Option Bool := match b with
  | .tup ys => if (flatP a && ys.all flatP) = true then some (ys.any fun y => eqP y a) else none
  | .lst ys => if (flatP a && ys.all flatP) = true then some (ys.any fun y => eqP y a) else none
  | _ => none
def pIn : PV → PV → Option RV := fun a b => (inP a b).map fun k => .val (.bl k)
def pNotIn : PV → PV → Option RV := fun a b => (inP a b).map fun k => .val (.bl (!k))
section
variable {K : PySem.W.Frag} {F H : Hp}
theorem flat_ok {p : PV} {v : V} (h : flatP p = true) (r : RepB K F H p v) : flatV v = true ∧ ∀ {q : PV} {w : V}, flatP q = true → RepB K F H q w → eqV v w = eqP p q := by
  rcases repB_ref r with ⟨rfl, rfl⟩ | ⟨_, rfl, rfl⟩ | ⟨_, rfl, rfl⟩ | ⟨_, rfl, rfl⟩ | ⟨_, rfl, rfl⟩ | ⟨⟨_, rfl⟩, (⟨_, rfl⟩ | ⟨_, rfl⟩ | ⟨_, _, rfl⟩ | ⟨_, _, rfl⟩ | ⟨_, _, _, rfl⟩ | ⟨_, rfl⟩)⟩ <;> first
    | (refine ⟨rfl, fun {q w} hq rq => ?_⟩
       rcases repB_ref rq with ⟨rfl, rfl⟩ | ⟨_, rfl, rfl⟩ | ⟨_, rfl, rfl⟩ | ⟨_, rfl, rfl⟩ | ⟨_, rfl, rfl⟩ | ⟨⟨_, rfl⟩, (⟨_, rfl⟩ | ⟨_, rfl⟩ | ⟨_, _, rfl⟩ | ⟨_, _, rfl⟩ | ⟨_, _, _, rfl⟩ | ⟨_, rfl⟩)⟩ <;> first
         | rfl
         | cases hq)
    | cases h
theorem flats_ok (fh : FH F H) {a : PV} {x : V} (ha : flatP a = true) (ra : RepB K F H a x) : ∀ {ys : List PV} {vs : List V}, RepVs K F ys vs → ys.all flatP = true → vs.all flatV = true ∧ inV x vs = ys.any fun y => eqP y a
  | [], _, r, _ => by rw [r.nil_inv]; exact ⟨rfl, rfl⟩
  | y :: ys, _, r, h => by
    obtain ⟨v, t, rfl, r1, r2⟩ := r.cons_inv
    rw [List.all_cons, Bool.and_eq_true] at h
    obtain ⟨f1, f2⟩ := flat_ok h.1 (r1.b fh)
    obtain ⟨g1, g2⟩ := flats_ok fh ha ra r2 h.2
    refine ⟨by rw [List.all_cons, f1, g1]; rfl, ?_⟩
    show (List.any (v :: t) fun y => eqV y x) = _
    rw [List.any_cons, List.any_cons, f2 ha ra]
    exact congrArg _ g2
theorem inP_ok (fh : FH F H) {a b : PV} {x y : V} {k : Bool} (ra : RepB K F H a x) (rb : RepB K F H b y) (e : inP a b = some k) : ∃ p xs, y = .ref p ∧ (SqL K H p xs ∨ SqT K H p xs) ∧ flatV x = true ∧ xs.all flatV = true ∧ inV x xs = k := by
  cases b with
  | tup ys =>
    have e : (if (flatP a && ys.all flatP) = true then some (ys.any fun y => eqP y a) else none) = some k := e
    split at e
    · rename_i h
      rw [Bool.and_eq_true] at h
      cases e
      obtain ⟨p, vs, rfl, s, r⟩ := repBT rb
      obtain ⟨g1, g2⟩ := flats_ok fh h.1 ra r h.2
      exact ⟨p, vs, rfl, .inr (.of (fh.tup s)), (flat_ok h.1 ra).1, g1, g2⟩
    · cases e
  | lst ys =>
    have e : (if (flatP a && ys.all flatP) = true then some (ys.any fun y => eqP y a) else none) = some k := e
    split at e
    · rename_i h
      rw [Bool.and_eq_true] at h
      cases e
      obtain ⟨p, vs, rfl, s, r⟩ := rb
      obtain ⟨g1, g2⟩ := flats_ok fh h.1 ra r h.2
      exact ⟨p, vs, rfl, .inl (.inl (.inl s)), (flat_ok h.1 ra).1, g1, g2⟩
    · cases e
  | _ => cases e
theorem prim_in : Prim2 K (rIn K false) pIn := by
  intro x y F H Q a b res fh ra rb e q
  unfold pIn at e
  cases ek : inP a b with
  | none => rw [ek] at e; cases e
  | some k =>
    rw [ek] at e
    cases e
    obtain ⟨p, xs, h1, h2, h3, h4, h5⟩ := inP_ok fh ra rb ek
    exact ⟨p, xs, h1, h2, h3, h4, by rw [if_neg Bool.false_ne_true, h5]; exact giveB fh q⟩
theorem prim_notIn : Prim2 K (rIn K true) pNotIn := by
  intro x y F H Q a b res fh ra rb e q
  unfold pNotIn at e
  cases ek : inP a b with
  | none => rw [ek] at e; cases e
  | some k =>
    rw [ek] at e
    cases e
    obtain ⟨p, xs, h1, h2, h3, h4, h5⟩ := inP_ok fh ra rb ek
    exact ⟨p, xs, h1, h2, h3, h4, by rw [if_pos rfl, h5]; exact giveB fh q⟩
end

/-! ### a op b op c -/
def mChain (f g : PV → PV → Option RV) (ma mb mc : M) : M := fun ρ => (mOp ma ρ).bind fun p1 => (mOp mb p1.2).bind fun p2 =>
  (liftO (deref p2.2 p1.1)).bind fun a => (liftO (deref p2.2 p2.1)).bind fun b => (liftO (f a b)).bind fun r => (liftO r.bl?).bind fun k =>
    if k = true then (mOp mc p2.2).bind fun p3 => (liftO (deref p3.2 p2.1)).bind fun b => (liftO (deref p3.2 p3.1)).bind fun c => (liftO (g b c)).bind fun r => .ok (r, p3.2)
    else .ok (.val (.bl false), p2.2)
theorem tM_chain {K : PySem.W.Frag} {W : WX} {σ : L2.St} {H : Hp} {f g : PV → PV → Option RV} {ma mb mc : M} {r r' : R2} {Q : VK} (hp : Prim2 K r f) (hp' : Prim2 K r' g) (h : tM K W (mChain f g ma mb mc) σ H Q) : tChain r r' (tM K W ma) (tM K W mb) (tM K W mc) σ H Q := by
  obtain ⟨ρ, F, rel, h⟩ := h
  refine tM_op rel h fun r1 ρ1 x F1 H1 es1 q1 h1 => ?_
  refine tM_op es1.rel h1 fun r2 ρ2 y F2 H2 es2 q2 h2 => ?_
  obtain ⟨a, ea, h3⟩ := h2.lift
  obtain ⟨b, eb, h4⟩ := h3.lift
  obtain ⟨res, er, h5⟩ := h4.lift
  obtain ⟨k, ek, h6⟩ := h5.lift
  have er' := bl?_inv ek
  subst er'
  refine hp x y F2 H2 _ a b _ es2.rel.fh ((q1.mono es2.st.ff).b es2.rel ea) (q2.b es2.rel eb) er fun z F3 H3 gr rn => ?_
  have rz : z = .bl k := by
    have rn : RepV K F3 (.bl k) z := rn
    unfold RepV at rn
    exact rn
  subst rz
  refine ⟨k, rfl, ?_⟩
  have es3 := gr.es es2.rel
  have esA := (es1.trans es2).trans es3
  cases k with
  | true =>
    rw [if_pos rfl] at h6 ⊢
    refine tM_op es3.rel (h6.shift es3) fun r3 ρ4 w F4 H4 es4 q4 h7 => ?_
    obtain ⟨b', eb', h8⟩ := h7.lift
    obtain ⟨c, ec, h9⟩ := h8.lift
    obtain ⟨res, er2, h10⟩ := h9.lift
    have h10 : ∀ v F' H', ES K ρ σ F H ρ4 σ F' H' → RepR K (Free H) F' H' ρ4 σ res v → Q v H' := h10
    refine hp' y w F4 H4 _ b' c _ es4.rel.fh ((q2.mono (es3.trans es4).st.ff).b es4.rel eb') (q4.b es4.rel ec) er2 fun z F5 H5 gr5 rn5 => ?_
    refine h10 z F5 H5 ((esA.trans es4).trans (gr5.es es4.rel)) ?_
    exact (rn5.rr es4.rel).weak fun a ha => (esA.trans es4).free ha
  | false =>
    rw [if_neg Bool.false_ne_true] at h6 ⊢
    have h6 : ∀ v F' H', ES K ρ σ F H ρ2 σ F' H' → RepR K (Free H) F' H' ρ2 σ (.val (.bl false)) v → Q v H' := h6
    exact h6 _ F3 H3 esA (repBl (K := K) (F := F3))
section
variable {X : Cx} {W : WX} {a b c : Expr} {ma mb mc : M} {pos : Pos}
theorem SE.chain {op op' : CmpOp} {r r' : R2} {f g : PV → PV → Option RV} (ho : OpR X (compareOp op) r) (hp : Prim2 X.K r f) (ho' : OpR X (compareOp op') r') (hp' : Prim2 X.K r' g) (ha : SE X W a ma) (hb : SE X W b mb) (hc : SE X W c mc)
    (hm : lastMarks [op, op'] [b, c] = false := by with_unfolding_all rfl) : SE X W (.Compare a [op, op'] [b, c] pos) (mChain f g ma mb mc) :=
  PE.imp (pe_chain ho ho' ha hb hc hm) fun _ _ _ h => tM_chain hp hp' h
theorem ST.chain {op op' : CmpOp} {r r' : R2} {f g : PV → PV → Option RV} (ho : OpR X (compareOp op) r) (hp : Prim2 X.K r f) (ho' : OpR X (compareOp op') r') (hp' : Prim2 X.K r' g) (ha : SE X W a ma) (hb : SE X W b mb) (hc : SE X W c mc)
    (hm : lastMarks [op, op'] [b, c] = false := by with_unfolding_all rfl) : ST X W (.Compare a [op, op'] [b, c] pos) (mTest (mChain f g ma mb mc)) :=
  PT.imp (pt_chain ho ho' ha hb hc hm) fun _ _ _ h => by
    obtain ⟨ρ, F, R, q⟩ := tM_test h
    exact tM_chain hp hp' ⟨ρ, F, R, q⟩
end

/-! ### isinstance -/
def tyName : PV → Option String
  | .non => some "NoneType"
  | .bl _ => some "bool"
  | .int _ => some "int"
  | .str _ => some "str"
  | .tup _ => some "tuple"
  | .lst _ => some "list"
  | .dT _ _ => none
  | .dK _ _ => some "dict"
  | .ty _ => none
  | .ob _ _ _ => none
  | .scr _ => none
def isiB (t n : String) : Option Bool := kitB t n
def fIsi : List PV → Option RV := fun as => match as with
  | [a, .ty n] => (tyName a).bind fun t => (isiB t n).map fun b => .val (.bl b)
  | _ => none
section
variable {K : PySem.W.Frag} {F H : Hp}
theorem tyX_of (fh : FH F H) {p : PV} {v : V} {t : String} (r : RepB K F H p v) (e : tyName p = some t) : TyX K H v (.type t) := by
  cases p with
  | non => cases e; rw [repBN r]; exact .base .non
  | bl b => cases e; rw [repBB r]; exact .base (.bl b)
  | int i => cases e; rw [repBI r]; exact .base (.int i)
  | str x => cases e; rw [repBS r]; exact .base (.str x)
  | tup xs => cases e; obtain ⟨a, vs, rfl, s, _⟩ := repBT r; exact .base (.tup (fh.tup s))
  | lst xs => cases e; obtain ⟨a, vs, rfl, s, _⟩ := r; exact .base (.lst s)
  | dT ks xs => cases e
  | dK ks xs =>
    cases e
    obtain ⟨a, vs, rfl, s, _⟩ := r
    rcases s with s | ⟨o, s⟩
    · exact .base (.dK s)
    · exact .fDict s
  | ty n => cases e
  | ob C ns xs => cases e
  | scr ns => cases e
theorem repBTy {n : String} {x : V} (h : RepB K F H (.ty n) x) : x = .ty n := by
  have h : RepV K F (.ty n) x := h
  unfold RepV at h
  exact h
theorem prim_isi : PrimA K (rIsi K) fIsi := by
  intro xs F H Q as res fh ra e q
  unfold fIsi at e
  split at e
  · rename_i a n
    cases ra with
    | cons r1 r2 =>
      cases r2 with
      | cons r2 r3 =>
        cases r3
        cases et : tyName a with
        | none => rw [et] at e; cases e
        | some t =>
          rw [et] at e
          have e : ((isiB t n).map fun b => RV.val (.bl b)) = some res := e
          cases eb : isiB t n with
          | none => rw [eb] at e; cases e
          | some b =>
            rw [eb] at e
            cases e
            rw [repBTy r2]
            exact ⟨_, _, _, _, b, rfl, .ty n, tyX_of fh r1 et, kit_ty eb, giveB fh q⟩
  · cases e
end

/-! ### calls of built-ins -/
def fLen : List PV → Option RV := fun as => match as with
  | [.str x] => if szOk x.length = true then some (.val (.int x.length)) else none
  | [.tup xs] => some (.val (.int xs.length))
  | [.lst xs] => some (.val (.int xs.length))
  | _ => none
def fAbs : List PV → Option RV := fun as => match as with
  | [.int i] => some (.val (.int (if i < 0 then -i else i)))
  | _ => none
def fInt : List PV → Option RV := fun as => match as with
  | [.int i] => some (.val (.int i))
  | _ => none
def fMin2 : List PV → Option RV := fun as => match as with
  | [.int i, .int j] => some (.val (.int (if j < i then j else i)))
  | _ => none
def fMax2 : List PV → Option RV := fun as => match as with
  | [.int i, .int j] => some (.val (.int (if j > i then j else i)))
  | _ => none
def fOrd : List PV → Option RV := fun as => match as with
  | [.str x] => if x.length = 1 then some (.val (.int (x.cps.getD 0 0 : Nat))) else none
  | _ => none
def fList : List PV → Option RV := fun as => match as with
  | [.tup xs] => some (.new (.lst xs))
  | [.lst xs] => some (.new (.lst xs))
  | [.scr ns] => some (.new (.lst (ns.map PV.int)))
  | _ => none
def fTuple : List PV → Option RV := fun as => match as with
  | [.tup xs] => some (.val (.tup xs))
  | [.lst xs] => some (.val (.tup xs))
  | _ => none
def blsOf : List PV → Option (List Bool)
  | [] => some []
  | .bl b :: xs => (blsOf xs).map fun bs => b :: bs
  | _ => none
def fAll : List PV → Option RV := fun as => match as with
  | [.lst xs] => (blsOf xs).map fun bs => .val (.bl (bs.all id))
  | _ => none
def fAny : List PV → Option RV := fun as => match as with
  | [.lst xs] => (blsOf xs).map fun bs => .val (.bl (bs.any id))
  | _ => none
section
variable {K : PySem.W.Frag} {F H : Hp}
theorem repBs1 {a : PV} {xs : List V} (h : RepBs K F H [a] xs) : ∃ v, xs = [v] ∧ RepB K F H a v := by
  cases h with
  | cons r1 r2 => cases r2; exact ⟨_, rfl, r1⟩
theorem repBs2 {a b : PV} {xs : List V} (h : RepBs K F H [a, b] xs) : ∃ v w, xs = [v, w] ∧ RepB K F H a v ∧ RepB K F H b w := by
  cases h with
  | cons r1 r2 =>
    cases r2 with
    | cons r2 r3 => cases r3; exact ⟨_, _, rfl, r1, r2⟩
theorem prim_len : PrimA K (fun xs H Q => ∃ x n, xs = [x] ∧ LenV K x H n ∧ Q (.int n) H) fLen := by
  intro xs F H Q as res fh ra e q
  unfold fLen at e
  split at e
  · obtain ⟨v, rfl, r⟩ := repBs1 ra
    split at e
    · rename_i hz
      cases e
      rw [repBS r]
      exact ⟨_, _, rfl, ⟨szOk_inv hz, rfl⟩, giveI fh q⟩
    · cases e
  · obtain ⟨v, rfl, r⟩ := repBs1 ra
    cases e
    obtain ⟨a, vs, rfl, s, r⟩ := repBT r
    exact ⟨_, vs.length, rfl, .inr ⟨vs, .of (fh.tup s), rfl⟩, by rw [← r.length]; exact giveI fh q⟩
  · obtain ⟨v, rfl, r⟩ := repBs1 ra
    cases e
    obtain ⟨a, vs, rfl, s, r⟩ := r
    exact ⟨_, vs.length, rfl, .inl ⟨vs, .inl (.inl s), rfl⟩, by rw [← r.length]; exact giveI fh q⟩
  · cases e
theorem prim_abs : PrimA K (fun xs H Q => ∃ i, xs = [.int i] ∧ Q (.int (if i < 0 then -i else i)) H) fAbs := by
  intro xs F H Q as res fh ra e q
  unfold fAbs at e
  split at e
  · obtain ⟨v, rfl, r⟩ := repBs1 ra
    cases e
    rw [repBI r]
    exact ⟨_, rfl, giveI fh q⟩
  · cases e
theorem prim_int : PrimA K (fun xs H Q => (∃ i, xs = [.int i] ∧ Q (.int i) H) ∨ ∃ k, xs = [.bl k] ∧ Q (.int (if k then 1 else 0)) H) fInt := by
  intro xs F H Q as res fh ra e q
  unfold fInt at e
  split at e
  · obtain ⟨v, rfl, r⟩ := repBs1 ra
    cases e
    rw [repBI r]
    exact .inl ⟨_, rfl, giveI fh q⟩
  · cases e
theorem prim_min2 : PrimA K (fun xs H Q => ∃ i j, xs = [.int i, .int j] ∧ Q (.int (if j < i then j else i)) H) fMin2 := by
  intro xs F H Q as res fh ra e q
  unfold fMin2 at e
  split at e
  · obtain ⟨v, w, rfl, r, r2⟩ := repBs2 ra
    cases e
    rw [repBI r, repBI r2]
    exact ⟨_, _, rfl, giveI fh q⟩
  · cases e
theorem prim_max2 : PrimA K (fun xs H Q => ∃ i j, xs = [.int i, .int j] ∧ Q (.int (if j > i then j else i)) H) fMax2 := by
  intro xs F H Q as res fh ra e q
  unfold fMax2 at e
  split at e
  · obtain ⟨v, w, rfl, r, r2⟩ := repBs2 ra
    cases e
    rw [repBI r, repBI r2]
    exact ⟨_, _, rfl, giveI fh q⟩
  · cases e
theorem prim_ord : PrimA K (fun xs H Q => ∃ x, xs = [.str x] ∧ x.length = 1 ∧ Q (.int (x.cps.getD 0 0 : Nat)) H) fOrd := by
  intro xs F H Q as res fh ra e q
  unfold fOrd at e
  split at e
  · obtain ⟨v, rfl, r⟩ := repBs1 ra
    split at e
    · rename_i hz
      cases e
      rw [repBS r]
      exact ⟨_, rfl, hz, giveI fh q⟩
    · cases e
  · cases e
theorem reps_int : ∀ ns : List Int, RepVs K F (ns.map PV.int) (ns.map V.int)
  | [] => .nil
  | n :: ns => .cons (by unfold RepV; rfl) (reps_int ns)
theorem prim_list : PrimA K (fun xs H Q => ∃ p ys, xs = [.ref p] ∧ (SqL K H p ys ∨ SqT K H p ys) ∧ ∀ l, H l = none → Q (.ref l) (upd H l (.lst ys))) fList := by
  intro xs F H Q as res fh ra e q
  unfold fList at e
  split at e
  · obtain ⟨v, rfl, r⟩ := repBs1 ra
    cases e
    obtain ⟨a, vs, rfl, s, r⟩ := repBT r
    exact ⟨_, vs, rfl, .inr (.of (fh.tup s)), giveL fh r q⟩
  · obtain ⟨v, rfl, r⟩ := repBs1 ra
    cases e
    obtain ⟨a, vs, rfl, s, r⟩ := r
    exact ⟨_, vs, rfl, .inl (.inl (.inl s)), giveL fh r q⟩
  · obtain ⟨v, rfl, r⟩ := repBs1 ra
    cases e
    rename_i ns
    have r : RepV K F (.scr ns) v := r
    unfold RepV at r
    obtain ⟨a, rfl, s⟩ := r
    exact ⟨_, _, rfl, .inl (sqL_fh fh s), giveL fh (reps_int ns) q⟩
  · cases e
theorem prim_tuple : PrimA K (fun xs H Q => ∃ p ys, xs = [.ref p] ∧ ((SqL K H p ys ∧ ∀ l, H l = none → Q (.ref l) (upd H l (.tup ys))) ∨ (SqT K H p ys ∧ Q (.ref p) H))) fTuple := by
  intro xs F H Q as res fh ra e q
  unfold fTuple at e
  split at e
  · obtain ⟨v, rfl, r⟩ := repBs1 ra
    cases e
    obtain ⟨a, vs, rfl, s, r⟩ := repBT r
    exact ⟨_, vs, rfl, .inr ⟨.of (fh.tup s), giveT0 fh s r q⟩⟩
  · obtain ⟨v, rfl, r⟩ := repBs1 ra
    cases e
    obtain ⟨a, vs, rfl, s, r⟩ := r
    exact ⟨_, vs, rfl, .inl ⟨.inl (.inl s), giveT fh r q⟩⟩
  · cases e
theorem bls_ok : ∀ {xs : List PV} {bs : List Bool} {vs : List V}, blsOf xs = some bs → RepVs K F xs vs → vs = bs.map V.bl
  | [], bs, vs, e, r => by cases e; rw [r.nil_inv]; rfl
  | x :: xs, bs, vs, e, r => by
    obtain ⟨v, t, rfl, r1, r2⟩ := r.cons_inv
    cases x with
    | bl b =>
      have e : (blsOf xs).map (fun bs => b :: bs) = some bs := e
      cases eb : blsOf xs with
      | none => rw [eb] at e; cases e
      | some cs =>
        rw [eb] at e
        cases e
        unfold RepV at r1
        rw [r1, bls_ok eb r2]
        rfl
    | _ => cases e
theorem prim_all : PrimA K (rAll K) fAll := by
  intro xs F H Q as res fh ra e q
  unfold fAll at e
  split at e
  · obtain ⟨v, rfl, r⟩ := repBs1 ra
    rename_i ys
    cases eb : blsOf ys with
    | none => rw [eb] at e; cases e
    | some bs =>
      rw [eb] at e
      cases e
      obtain ⟨a, vs, rfl, s, r⟩ := r
      rw [bls_ok eb r] at s
      exact ⟨_, bs, rfl, .inl (.inl s), giveB fh q⟩
  · cases e
theorem prim_any : PrimA K (rAny K) fAny := by
  intro xs F H Q as res fh ra e q
  unfold fAny at e
  split at e
  · obtain ⟨v, rfl, r⟩ := repBs1 ra
    rename_i ys
    cases eb : blsOf ys with
    | none => rw [eb] at e; cases e
    | some bs =>
      rw [eb] at e
      cases e
      obtain ⟨a, vs, rfl, s, r⟩ := r
      rw [bls_ok eb r] at s
      exact ⟨_, bs, rfl, .inl (.inl s), giveB fh q⟩
  · cases e
end
section
variable {X : Cx} {W : WX}
/-- a built-in type's name -/
theorem SE.tyNm {x : Str} {n : String} {pos : Pos} (hg : Gl X x) (hm : X.mg x = none) (hv : bootBuiltins x = some (.type n)) (hn : x ≠ "__name__" := by decide) (hd : (x == ("__debug__" : Str)) = false := by decide) : SE X W (.Name x pos) (mK (.ty n)) :=
  SE.const (pe_bltn (v := V.ty n) hg hm hv rfl hn hd) fun F => by unfold RepV; rfl
end

/-! ### subscripts -/
def pIx : PV → PV → Option RV := fun a b => match a, b with
  | .tup xs, .int i => (atI xs i).map RV.val
  | .lst xs, .int i => (atI xs i).map RV.val
  | _, _ => none
section
variable {K : PySem.W.Frag} {F H : Hp}
theorem at_rep {xs : List PV} {vs : List V} {i : Int} {p : PV} (r : RepVs K F xs vs) (e : atI xs i = some p) : ∃ v, atI vs i = some v ∧ RepV K F p v := by
  unfold atI at e ⊢
  rw [← r.length]
  cases ej : ixN xs.length i with
  | none => rw [ej] at e; cases e
  | some j =>
    rw [ej] at e
    exact r.get e
theorem prim_ix : Prim2 K (rIx K) pIx := by
  intro x y F H Q a b res fh ra rb e q
  unfold pIx at e
  split at e
  · rename_i xs i
    cases ea : atI xs i with
    | none => rw [ea] at e; cases e
    | some p =>
      rw [ea] at e
      cases e
      obtain ⟨a, vs, rfl, s, r⟩ := repBT ra
      obtain ⟨v, ev, rv⟩ := at_rep r ea
      rw [repBI rb]
      exact .inr (.inl ⟨a, vs, i, v, rfl, rfl, .of (fh.tup s), ev, q v F H (Grow.refl fh) rv⟩)
  · rename_i xs i
    cases ea : atI xs i with
    | none => rw [ea] at e; cases e
    | some p =>
      rw [ea] at e
      cases e
      obtain ⟨a, vs, rfl, s, r⟩ := ra
      obtain ⟨v, ev, rv⟩ := at_rep r ea
      rw [repBI rb]
      exact .inl ⟨a, vs, i, v, rfl, rfl, .inl (.inl s), ev, q v F H (Grow.refl fh) rv⟩
  · cases e
end
section
variable {X : Cx} {W : WX} {a b : Expr} {ma mb : M} {pos : Pos}
theorem SE.ix (ha : SE X W a ma) (hb : SE X W b mb) (hs : PlainIx b := by intro _ _; rfl) : SE X W (.Subscript a b pos) (mBin pIx ma mb) :=
  PE.imp (pe_ix ix_seq ha hb hs) fun _ _ _ h => tM_bin prim_ix h
end

/-! ### slices -/
abbrev MO := Env → Res (Option Int × Env)
def tMO (K : PySem.W.Frag) (W : WX) (m : MO) : TO := fun σ H Q => ∃ ρ F, Rel K F H ρ σ ∧ Ok W ρ σ F H (m ρ) fun p => ∀ F' H', ES K ρ σ F H p.2 σ F' H' → Q p.1 H'
def SO (X : Cx) (W : WX) (e : Option Expr) (m : MO) : Prop := PO X e (tMO X.K W m)
def RV.int? : RV → Option Int
  | .val (.int i) => some i
  | _ => none
theorem int?_inv {r : RV} {i : Int} (h : r.int? = some i) : r = .val (.int i) := by
  cases r with
  | val p => cases p <;> first | (cases h; rfl) | cases h
  | bor i => cases h
  | new o => cases h
def mNoPart : MO := fun ρ => .ok (none, ρ)
def mPart (m : M) : MO := fun ρ => (m ρ).bind fun p => (liftO p.1.int?).bind fun i => .ok (some i, p.2)
theorem PO.imp {X : Cx} {e : Option Expr} {t t' : TO} (h : PO X e t) (i : ∀ σ H Q, t' σ H Q → t σ H Q) : PO X e t' := ⟨fun pins s σ H Q I q => h.run pins s σ H Q I (i _ _ _ q)⟩
/-- the items of xs[lo:hi] -/
def cutL {α : Type} (xs : List α) (lo hi : Option Int) : List α := (xs.drop (HT.sIx xs.length 0 lo)).take (HT.sIx xs.length xs.length hi - HT.sIx xs.length 0 lo)
theorem cut_rep {K : PySem.W.Frag} {F : Hp} {xs : List PV} {vs : List V} {lo hi : Option Int} (r : RepVs K F xs vs) : RepVs K F (cutL xs lo hi) (cutV vs lo hi) := by
  unfold cutL cutV
  rw [← r.length]
  exact (r.drop _).take _
theorem cut_all {α : Type} {xs : List α} {lo hi : Option Int} (h : HT.sIx xs.length 0 lo = 0 ∧ HT.sIx xs.length xs.length hi = xs.length) : cutL xs lo hi = xs := by
  unfold cutL
  rw [h.1, h.2, List.drop_zero, Nat.sub_zero, List.take_length]
def pSl (a : PV) (lo hi : Option Int) : Option RV := match a with
  | .tup xs => some (.val (.tup (cutL xs lo hi)))
  | .lst xs => some (.new (.lst (cutL xs lo hi)))
  | _ => none
def mSl (m : M) (ml mh : MO) : M := fun ρ => (mOp m ρ).bind fun p => (ml p.2).bind fun l => (mh l.2).bind fun h => (liftO (deref h.2 p.1)).bind fun a => (liftO (pSl a l.1 h.1)).bind fun r => .ok (r, h.2)
section
variable {X : Cx} {W : WX} {e : Expr} {lo hi : Option Expr} {m : M} {ml mh : MO} {pos p2 : Pos}
theorem SO.none : SO X W none mNoPart := PO.imp po_none fun σ H Q ⟨ρ, F, R, q⟩ => q F H (ES.refl R)
theorem SO.some (h : SE X W e m) : SO X W (some e) (mPart m) := PO.imp (po_some h) fun σ H Q ⟨ρ, F, R, q⟩ => ⟨ρ, F, R, q.of_bind.mono fun p hp v F1 H1 es rr => by
  obtain ⟨i, ei, h2⟩ := hp.lift
  have h2 : ∀ F' H', ES X.K ρ σ F H p.2 σ F' H' → Q (Option.some i) H' := h2
  rw [int?_inv ei] at rr
  have rr : RepV X.K F1 (.int i) v := rr
  unfold RepV at rr
  exact ⟨i, rr, h2 F1 H1 es⟩⟩
theorem SE.slice (h : SE X W e m) (hl : SO X W lo ml) (hh : SO X W hi mh) : SE X W (.Subscript e (.Slice lo hi Option.none p2) pos) (mSl m ml mh) :=
  PE.imp (pe_slice (sl_list.or sl_tupA) h hl hh) fun σ H Q ⟨ρ, F, R, q⟩ => by
    refine tM_op R q fun r ρ1 x F1 H1 es1 q1 h1 => ?_
    refine ⟨ρ1, F1, es1.rel, h1.of_bind.mono fun l h2 F2 H2 es2 => ?_⟩
    refine ⟨l.2, F2, es2.rel, (h2.shift es2).of_bind.mono fun u h3 F3 H3 es3 => ?_⟩
    have es := (es1.trans es2).trans es3
    obtain ⟨a, ea, h4⟩ := (h3.shift es3).lift
    obtain ⟨res, er, h5⟩ := h4.lift
    have h5 : ∀ v F' H', ES X.K ρ σ F H u.2 σ F' H' → RepR X.K (Free H) F' H' u.2 σ res v → Q v H' := h5
    have fh := es.rel.fh
    have rb := (q1.mono (es2.trans es3).st.ff).b es3.rel ea
    have fin : ∀ v F' H', Grow F3 H3 F' H' → RepN X.K H3 F' H' res v → Q v H' := fun v F' H' g rn => h5 v F' H' (es.trans (g.es es.rel)) ((rn.rr es.rel).weak fun a ha => es.free ha)
    cases a with
    | tup xs =>
      cases er
      obtain ⟨a, vs, rfl, s, r⟩ := repBT rb
      refine .inr ⟨a, vs, rfl, .of (fh.tup s), fun z => ?_, fun _ => giveT fh (cut_rep r) fin⟩
      rw [← r.length] at z
      rw [cut_all z] at fin
      exact giveT0 fh s r fin
    | lst xs =>
      cases er
      obtain ⟨a, vs, rfl, s, r⟩ := rb
      exact .inl ⟨a, vs, rfl, .inl (.inl s), giveL fh (cut_rep r) fin⟩
    | _ => cases er
end
end Pu

set_option Elab.async false
set_option linter.all false
set_option maxRecDepth 100000
/-! Pu14: what the printed texts want. -/
namespace Pu
open PySem PySem.Spec PyProof.Rows L2
def pAddI : PV → PV → Option RV := iop fun i j => some (.int (i + j))
theorem prim_addI {K : PySem.W.Frag} : Prim2 K (rI0 fun i j => .int (i + j)) pAddI := prim_i0
def pMulS : PV → PV → Option RV := iop fun i j => if (-18446744073709551616 < i ∧ i < 18446744073709551616) ∨ (-18446744073709551616 < j ∧ j < 18446744073709551616) then some (.int (i * j)) else none
theorem prim_mulS {K : PySem.W.Frag} : Prim2 K (rI CMul fun i j => .int (i * j)) pMulS := prim_i fun i j p F H Q fh e q => by
  split at e
  · rename_i h
    cases e
    refine ⟨i, j, rfl, rfl, ?_, giveI fh q⟩
    have z : (2 : Int) ^ 64 = 18446744073709551616 := by decide
    unfold CMul
    rw [z]
    exact h
  · cases e
/-- a def of the module, as the law's head finds it -/
structure FnF (K : PySem.W.Frag) (mg : Str → Option Value) (x qual : Str) (st : Stmt) (ps : List Str) where
  f : Addr
  fd : FuncData
  fn : Fun K x qual st f fd
  gl : mg x = some (.ref f)
  bd : Binds K fd ps []
abbrev RX0 : RXT := fun _ _ _ _ => False
theorem passZ {X : Cx} : Passes CX0 X (fun _ _ _ => False) := fun _ _ _ _ _ _ _ h => h.elim
theorem bt_len : bootBuiltins "len" = some (.builtin "len") := by decide +kernel
theorem bt_abs : bootBuiltins "abs" = some (.builtin "abs") := by decide +kernel
theorem bt_min : bootBuiltins "min" = some (.builtin "min") := by decide +kernel
theorem bt_max : bootBuiltins "max" = some (.builtin "max") := by decide +kernel
theorem bt_ord : bootBuiltins "ord" = some (.builtin "ord") := by decide +kernel
theorem bt_all : bootBuiltins "all" = some (.builtin "all") := by decide +kernel
theorem bt_any : bootBuiltins "any" = some (.builtin "any") := by decide +kernel
theorem bt_isinstance : bootBuiltins "isinstance" = some (.builtin "isinstance") := by decide +kernel
theorem bt_sum : bootBuiltins "sum" = some (.builtin "sum") := by decide +kernel
theorem bt_sorted : bootBuiltins "sorted" = some (.builtin "sorted") := by decide +kernel
theorem bt_int : bootBuiltins "int" = some (.type "int") := by decide +kernel
theorem bt_bool : bootBuiltins "bool" = some (.type "bool") := by decide +kernel
theorem bt_str : bootBuiltins "str" = some (.type "str") := by decide +kernel
theorem bt_tuple : bootBuiltins "tuple" = some (.type "tuple") := by decide +kernel
theorem bt_list : bootBuiltins "list" = some (.type "list") := by decide +kernel
theorem bt_dict : bootBuiltins "dict" = some (.type "dict") := by decide +kernel
theorem bt_range : bootBuiltins "range" = some (.type "range") := by decide +kernel
theorem bt_zip : bootBuiltins "zip" = some (.type "zip") := by decide +kernel
theorem bt_enumerate : bootBuiltins "enumerate" = some (.type "enumerate") := by decide +kernel
theorem bt_reversed : bootBuiltins "reversed" = some (.type "reversed") := by decide +kernel
theorem bt_set : bootBuiltins "set" = some (.type "set") := by decide +kernel
theorem bt_bytes : bootBuiltins "bytes" = some (.type "bytes") := by decide +kernel
section
variable {X : Cx} {W : WX} {tg iter elt : Expr} {ifs : List Expr} {scope : Scope} {own : List (Str × Nat)} {pos spos py : Pos} {S : List Nat} {mi : MI} {g : MG} {t : MT} {me : M}
/-- a comprehension stored to a local -/
theorem SS.asgLcL {y : Str} (hi : SI X W tg iter mi) (ok : BlkOk X.N X.env.scope scope own) (hN : X.N.Nodup)
    (hg : ∀ (s : Shared) (H : Hp) (C : Addr) (cl : List (Str × Addr)) (fp : List Addr), SG (X.blk s H scope (compEnvC scope cl C X.env) fp) S tg g) (ht : ∀ (s : Shared) (H : Hp) (C : Addr) (cl : List (Str × Addr)) (fp : List Addr), STs (X.blk s H scope (compEnvC scope cl C X.env) fp) W0 ifs t)
    (he : ∀ (s : Shared) (H : Hp) (C : Addr) (cl : List (Str × Addr)) (fp : List Addr), SE (X.blk s H scope (compEnvC scope cl C X.env) fp) W0 elt me) (hS : ∀ i ∈ S, i ∈ own.map (·.2)) (hc : X.calm = true) {i : Nat} (hy : X.N[i]? = some y) (hyl : X.env.scope.names.lookup y = some .local)
    (hsw : swapsWith (.ListComp elt [⟨tg, iter, ifs, 0⟩] scope pos) (some (.Name y py)) spos.line X.env = pure true := by rfl)
    (hs : ∀ x, foldedSetIterable iter X.env x = pure x := by intro _; rfl) :
    SS X W (.Assign [.Name y py] (.ListComp elt [⟨tg, iter, ifs, 0⟩] scope pos) spos) (mAsg i (mLc (own.map (·.2)) mi g t me)) :=
  SS.asgLc hi ok hN hy hyl hsw hg ht he hS hc hs
end
end Pu

set_option Elab.async false
set_option linter.all false
set_option maxRecDepth 100000
/-! Pu15: dicts of constants, d[k], join, extend. -/
namespace Pu
open PySem PySem.Spec PyProof.Rows L2

/-! ### {k: v, ..} of constants -/
def mNew (o : OB) : M := fun ρ => .ok (.new o, ρ)
def cPairs (kvs : List (Key × V)) : List (TE × TE) := kvs.map fun p => (tC (kV p.1), tC p.2)
theorem tPairs_c {σ : L2.St} {H : Hp} {Q : List (V × V) → Hp → Prop} : ∀ {kvs : List (Key × V)}, Q (kvs.map fun kv => (kV kv.1, kv.2)) H → tPairs (cPairs kvs) σ H Q
  | [], h => h
  | p :: kvs, h => tPairs_c (kvs := kvs) (Q := fun ps H3 => Q ((kV p.1, p.2) :: ps) H3) h
section
variable {X : Cx} {W : WX} {pos : Pos}
theorem cps_nil : PPs X pos [] [] (cPairs []) := pps_nil
theorem cps_cons {k v : Expr} {ks : List (Option Expr)} {vs : List Expr} {key : Key} {w : V} {kvs : List (Key × V)} (hk : PE X k (tC (kV key))) (hv : PE X v (tC w)) (hr : PPs X pos ks vs (cPairs kvs)) : PPs X pos (some k :: ks) (v :: vs) (cPairs ((key, w) :: kvs)) := pps_cons hk hv hr
theorem SE.dispC {keys : List (Option Expr)} {values : List Expr} {kvs : List (Key × V)} (ks : List Key) (xs : List PV) (vs : List V) (h : PPs X pos keys values (cPairs kvs)) (hm : mergeK [] kvs = ks.zip vs) (hl : ks.length = vs.length) (h15 : kvs.length ≤ 15)
    (hr : ∀ F, RepVs X.K F xs vs) (hall : keys.all (·.isSome) = true := by rfl) (hll : keys.length = values.length := by rfl) (h0 : keys ≠ [] := by simp) (hk15 : keys.length ≤ 15 := by simp) : SE X W (.Dict keys values pos) (mNew (.dK ks xs)) :=
  PE.imp (pe_disp h hall hll h0 hk15) fun σ H Q ⟨ρ, F, R, q⟩ => by
    have q : ∀ v F' H', ES X.K ρ σ F H ρ σ F' H' → RepR X.K (Free H) F' H' ρ σ (.new (.dK ks xs)) v → Q v H' := q
    intro p np
    refine tPairs_c ⟨upd_same, kvs, rfl, h15, ?_⟩
    have e : upd (upd H p (.dK [])) p (.dK (mergeK [] kvs)) = upd H p (.dK (ks.zip vs)) := by
      rw [hm]
      funext a
      by_cases z : a = p
      · subst z; rw [upd_same, upd_same]
      · rw [upd_ne z, upd_ne z, upd_ne z]
    rw [e]
    have g := Grow.obj (o := .dK (ks.zip vs)) R.fh np
    exact q _ F _ (g.es R) ⟨p, rfl, R.fh.none np, np, fun z => R.ownH z np, vs, upd_same, hl, hr F⟩
end

/-! ### d[k] -/
def pGet : PV → PV → Option RV := fun d k => match d with
  | .dK ks xs => (keyOf k).bind fun key => (look ks xs key).map RV.val
  | .dT ks xs => (tkeyOf k).bind fun key => (look ks xs key).map RV.val
  | _ => none
def rDGet : R2 := fun x y H Q => ∃ a v, x = .ref a ∧ DGet H a y (some v) ∧ Q v H
theorem prim_get {K : PySem.W.Frag} : Prim2 K rDGet pGet := by
  intro x y F H Q a b res fh ra rb e q
  unfold pGet at e
  split at e
  · rename_i ks xs
    cases ek : keyOf b with
    | none => rw [ek] at e; cases e
    | some key =>
      rw [ek] at e
      have e : (look ks xs key).map RV.val = some res := e
      cases el : look ks xs key with
      | none => rw [el] at e; cases e
      | some p =>
        rw [el] at e
        cases e
        obtain ⟨a, vs, rfl, s, l, r⟩ := ra
        obtain ⟨v, ev, rv⟩ := (look_rep (k := key) r l).1 p el
        rw [skeyOf_rep rb ek]
        exact ⟨a, v, rfl, .inl ⟨_, key, s, rfl, ev.symm⟩, q v F H (Grow.refl fh) rv⟩
  · rename_i ks xs
    cases ek : tkeyOf b with
    | none => rw [ek] at e; cases e
    | some key =>
      rw [ek] at e
      have e : (look ks xs key).map RV.val = some res := e
      cases el : look ks xs key with
      | none => rw [el] at e; cases e
      | some p =>
        rw [el] at e
        cases e
        obtain ⟨a, vs, rfl, s, l, r⟩ := ra
        obtain ⟨v, ev, rv⟩ := (look_rep (k := key) r l).1 p el
        obtain ⟨c, rfl, ec⟩ := tkeyOf_rep fh rb ek
        exact ⟨a, v, rfl, .inr ⟨_, key, c, s, rfl, ec, ev.symm⟩, q v F H (Grow.refl fh) rv⟩
  · cases e
section
variable {X : Cx} {W : WX} {o i e : Expr} {md mi m : M} {pos apos : Pos} {a : Str} {jk : Nat} {jp : Pos}
theorem SE.dget (hu : X.A.units + 1 < cLine) (ho : SE X W o md) (hi : SE X W i mi) (hs : NoSl i := by intro _ _; rfl) : SE X W (.Subscript o i pos) (mBin pGet md mi) :=
  PE.imp (pe_dget hu ho hi hs) fun _ _ _ h => tM_bin prim_get h

/-! ### sep.join(list of texts) -/
def strsOf : List PV → Option (List Str)
  | [] => some []
  | .str b :: xs => (strsOf xs).map fun bs => b :: bs
  | _ => none
theorem strs_ok {K : PySem.W.Frag} {F : Hp} : ∀ {xs : List PV} {bs : List Str} {vs : List V}, strsOf xs = some bs → RepVs K F xs vs → vs = bs.map V.str
  | [], bs, vs, e, r => by cases e; rw [r.nil_inv]; rfl
  | x :: xs, bs, vs, e, r => by
    obtain ⟨v, t, rfl, r1, r2⟩ := r.cons_inv
    cases x with
    | str b =>
      have e : (strsOf xs).map (fun bs => b :: bs) = some bs := e
      cases eb : strsOf xs with
      | none => rw [eb] at e; cases e
      | some cs =>
        rw [eb] at e
        cases e
        unfold RepV at r1
        rw [r1, strs_ok eb r2]
        rfl
    | _ => cases e
def pJoin (a : Str) : PV → Option RV := fun p => match p with
  | .lst xs => (strsOf xs).bind fun ys => if (ys.map (·.length)).sum + ys.length * a.length ≤ 16777216 then some (.val (.str (Txt.join a ys))) else none
  | _ => none
theorem SE.join (h : SE X W e m) (hs : starEach [e] X.env = [(false, eval e X.env)] := by rfl) (hbase : attributeBase (.Constant (.str a) jk jp) "join" X.env (eval (.Constant (.str a) jk jp) X.env) = eval (.Constant (.str a) jk jp) X.env := by rfl) (hline : (apos.endLine == pos.line) = true := by rfl) :
    SE X W (.Call (.Attribute (.Constant (.str a) jk jp) "join" apos) [e] [] pos) (mUn (pJoin a) m) :=
  PE.imp (pe_join pe_str h hs hbase hline) fun σ H Q ⟨ρ, F, R, q⟩ => by
    refine ⟨⟨a, rfl⟩, ?_⟩
    refine tM_op R q fun r ρ1 x F1 H1 es1 q1 h1 => ?_
    obtain ⟨p, ep, h2⟩ := h1.lift
    obtain ⟨res, er, h3⟩ := h2.lift
    have h3 : ∀ v F' H', ES X.K ρ σ F H ρ1 σ F' H' → RepR X.K (Free H) F' H' ρ1 σ res v → Q v H' := h3
    have rb := q1.b es1.rel ep
    cases p with
    | lst xs =>
      have er : ((strsOf xs).bind fun ys => if (ys.map (·.length)).sum + ys.length * a.length ≤ 16777216 then some (RV.val (.str (Txt.join a ys))) else none) = some res := er
      cases es : strsOf xs with
      | none => rw [es] at er; cases er
      | some ys =>
        rw [es] at er
        have er : (if (ys.map (·.length)).sum + ys.length * a.length ≤ 16777216 then some (RV.val (.str (Txt.join a ys))) else none) = some res := er
        split at er
        · rename_i hz
          cases er
          obtain ⟨b, vs, rfl, s, r⟩ := rb
          rw [strs_ok es r] at s
          exact ⟨a, b, ys, rfl, rfl, .inl (.inl (.inl s)), hz, h3 _ F1 H1 es1 (show RepV _ _ _ _ by unfold RepV; rfl)⟩
        · cases er
    | _ => cases er
end

/-! ### x.extend(e), e a list -/
def RV.lst? : RV → Option (List PV)
  | .val (.lst xs) => some xs
  | _ => none
theorem lst?_inv {r : RV} {xs : List PV} (h : r.lst? = some xs) : r = .val (.lst xs) := by
  cases r with
  | val p => cases p <;> first | (cases h; rfl) | cases h
  | bor i => cases h
  | new o => cases h
def mExtend (i : Nat) (m : M) : MS := fun ρ => (liftO (ownL? ρ i)).bind fun _ => (mOp m ρ).bind fun p => (liftO p.1.lst?).bind fun ys => (liftO (ownL? p.2 i)).bind fun xs =>
  if szOk (xs.length + ys.length) = true then .ok (.nx, setC i (.lst (xs ++ ys)) p.2) else .bad
section
variable {X : Cx} {W : WX} {e : Expr} {m : M} {pos pos' apos cpos : Pos} {x : Str} {j : Nat}
theorem SS.extend (hx : PE X (.Name x pos') (tVar j)) (h : SE X W e m) (hs : swapsWith (.Call (.Attribute (.Name x pos') "extend" apos) [e] [] cpos) none pos.line X.env = pure false := by rfl)
    (hbase : attributeBase (.Name x pos') "extend" X.env (eval (.Name x pos') X.env) = eval (.Name x pos') X.env := by rfl)
    (hfew : ((backTo cpos (starEach [e] X.env)).all (fun x => !x.1) && (backToKw cpos (keywordEach [] X.env)).all (fun x => x.1.isSome)
      && decide ([e].length + ([] : List Keyword).length + (if ([] : List Keyword).isEmpty then 0 else 1) < 30)) = true := by rfl)
    (hline : (apos.endLine == cpos.line) = true := by rfl) (hst : starEach [e] X.env = (false, eval e X.env) :: starEach [] X.env := by rfl) :
    SS X W (.Expr (.Call (.Attribute (.Name x pos') "extend" apos) [e] [] cpos) pos) (mExtend j m) := by
  refine PS.imp (ps_expr (pe_bm PySem.F.plainAttrs_list PySem.F.slot_list_extend PySem.F.type_list_extend mt_extend hx (SA.cons (W := W) h SA.nil hst) hbase hfew hline hst rfl) hs) fun D σ H ⟨ρ, F, R, q⟩ => ?_
  obtain ⟨xs0, e0, q⟩ := q.lift
  obtain ⟨a, ea, ow, n, r⟩ := ownO_at R (ownL?_inv e0)
  refine ⟨.ref a, ea, .inl ⟨rfl, ?_⟩, ?_⟩
  · obtain ⟨vs, hv, _⟩ := r
    exact ⟨vs, .of hv⟩
  · refine ⟨ρ, F, R, ?_⟩
    unfold mACons
    cases em : mOp m ρ with
    | exc y => rw [em] at q; exact q
    | bad => rw [em] at q; exact q
    | ok p =>
      rw [em] at q
      intro vs F1 H1 es1 qs
      obtain ⟨y, ey, q⟩ := Ok.lift (show Ok W ρ σ F H ((liftO p.1.lst?).bind _) _ from q)
      obtain ⟨xs, ex, q⟩ := q.lift
      have es1 : ES X.K ρ σ F H p.2 σ F1 H1 := es1
      cases qs with
      | cons q1 q2 =>
      cases q2
      have ev := lst?_inv ey
      rw [ev] at q1
      have q1 : RepV X.K F1 (.lst y) _ := q1
      unfold RepV at q1
      obtain ⟨c, ws, rfl, hc, rw1⟩ := q1
      obtain ⟨b, eb, _, _, r1⟩ := ownO_at es1.rel (ownL?_inv ex)
      rw [ea] at eb
      cases eb
      obtain ⟨vs, hv, rv⟩ := r1
      by_cases hz : szOk (xs.length + y.length) = true
      · rw [if_pos hz] at q
        have q : ∀ σ' F' H', ES X.K ρ σ F H _ σ' F' H' → D.nx σ' H' := q
        refine ⟨a, c, vs, ws, rfl, rfl, hv, es1.rel.fh.lst hc, by rw [← rv.length, ← rw1.length]; exact szOk_inv hz, ?_⟩
        exact q _ _ _ (es1.trans (es1.rel.write (ownL?_inv ex) ea ⟨_, upd_same, rv.append rw1⟩))
      · rw [if_neg hz] at q
        exact q.elim
end
end Pu

set_option Elab.async false
set_option linter.all false
set_option maxRecDepth 100000
/-! Pu16: own instances: fields read and stored, methods called, instances made. -/
namespace Pu
open PySem PySem.Spec PyProof.Rows L2

def lookF : List Str → List PV → Str → Option PV
  | g :: ns, x :: xs, f => if f = g then some x else lookF ns xs f
  | _, _, _ => none
def putNs : List Str → Str → List Str
  | [], f => [f]
  | g :: r, f => if g = f then g :: r else g :: putNs r f
def putVs : List Str → List PV → Str → PV → List PV
  | [], _, _, y => [y]
  | g :: r, x :: xs, f, y => if g = f then y :: xs else x :: putVs r xs f y
  | _ :: _, [], _, _ => []
section
variable {K : PySem.W.Frag} {F : Hp}
theorem lookup_cons' (f g : Str) (v : V) (r : List (Str × V)) : List.lookup f ((g, v) :: r) = if f = g then some v else List.lookup f r := by
  rw [List.lookup_cons]
  by_cases h : f = g
  · subst h
    simp
  · rw [if_neg h, beq_eq_false_iff_ne.mpr h]
theorem lookF_rep : ∀ {ns : List Str} {xs : List PV} {vs : List V} {f : Str} {x : PV}, RepVs K F xs vs → ns.length = vs.length → lookF ns xs f = some x → ∃ v, (ns.zip vs).lookup f = some v ∧ RepV K F x v
  | [], xs, vs, f, x, _, _, h => by cases h
  | g :: ns, [], vs, f, x, _, _, h => by cases h
  | g :: ns, y :: xs, vs, f, x, r, l, h => by
    obtain ⟨v, t, rfl, r1, r2⟩ := r.cons_inv
    have h : (if f = g then some y else lookF ns xs f) = some x := h
    rw [List.zip_cons_cons, lookup_cons']
    by_cases e : f = g
    · rw [if_pos e] at h ⊢
      cases h
      exact ⟨v, rfl, r1⟩
    · rw [if_neg e] at h ⊢
      exact lookF_rep r2 (by simpa using l) h
theorem lookup_no : ∀ {ns : List Str} {vs : List V} {f : Str}, f ∉ ns → (ns.zip vs).lookup f = none
  | [], vs, f, _ => rfl
  | g :: ns, [], f, _ => rfl
  | g :: ns, v :: vs, f, h => by
    simp only [List.mem_cons, not_or] at h
    rw [List.zip_cons_cons, lookup_cons', if_neg h.1]
    exact lookup_no h.2
theorem putF_rep : ∀ {ns : List Str} {xs : List PV} {vs : List V} {f : Str} {y : PV} {w : V}, RepVs K F xs vs → ns.length = vs.length → RepV K F y w →
    ∃ ws, putF f w (ns.zip vs) = (putNs ns f).zip ws ∧ (putNs ns f).length = ws.length ∧ RepVs K F (putVs ns xs f y) ws
  | [], xs, vs, f, y, w, r, l, q => ⟨[w], by cases vs <;> rfl, rfl, .cons q .nil⟩
  | g :: ns, [], vs, f, y, w, r, l, q => by
    rw [r.nil_inv] at l
    cases l
  | g :: ns, x :: xs, vs, f, y, w, r, l, q => by
    obtain ⟨v, t, rfl, r1, r2⟩ := r.cons_inv
    rw [List.zip_cons_cons]
    have l : ns.length = t.length := by simpa using l
    by_cases e : g = f
    · refine ⟨w :: t, ?_, ?_, ?_⟩
      · show (if g = f then (g, w) :: ns.zip t else (g, v) :: putF f w (ns.zip t)) = (if g = f then g :: ns else g :: putNs ns f).zip (w :: t)
        rw [if_pos e, if_pos e]
        rfl
      · show (if g = f then g :: ns else g :: putNs ns f).length = _
        rw [if_pos e]
        simp [l]
      · show RepVs K F (if g = f then y :: xs else x :: putVs ns xs f y) _
        rw [if_pos e]
        exact .cons q r2
    · obtain ⟨ws, e1, e2, e3⟩ := putF_rep (f := f) r2 l q
      refine ⟨v :: ws, ?_, ?_, ?_⟩
      · show (if g = f then (g, w) :: ns.zip t else (g, v) :: putF f w (ns.zip t)) = (if g = f then g :: ns else g :: putNs ns f).zip (v :: ws)
        rw [if_neg e, if_neg e, e1]
        rfl
      · show (if g = f then g :: ns else g :: putNs ns f).length = _
        rw [if_neg e]
        simp [e2]
      · show RepVs K F (if g = f then y :: xs else x :: putVs ns xs f y) _
        rw [if_neg e]
        exact .cons r1 e3
end
/-- an own instance of C in slot j -/
def obO (ρ : Env) (j : Nat) (C : Addr) : Option (List Str × List PV) := match ownO ρ j with
  | some (.ob C' ns xs) => if C' = C then some (ns, xs) else none
  | _ => none
theorem obO_inv {ρ : Env} {j : Nat} {C : Addr} {p : List Str × List PV} (h : obO ρ j C = some p) : ownO ρ j = some (.ob C p.1 p.2) := by
  unfold obO at h
  cases e : ownO ρ j with
  | none => rw [e] at h; cases h
  | some o =>
    rw [e] at h
    cases o with
    | ob C' ns xs =>
      have h : (if C' = C then some (ns, xs) else none) = some p := h
      by_cases hc : C' = C
      · rw [if_pos hc] at h
        cases h
        rw [hc]
      · rw [if_neg hc] at h
        cases h
    | _ => cases h
/-- x.f -/
def mFld (C : Addr) (j : Nat) (f : Str) : M := fun ρ => (liftO (obO ρ j C)).bind fun p => (liftO (lookF p.1 p.2 f)).bind fun v => .ok (.val v, ρ)
/-- x.f = e -/
def putFld (C : Addr) (j : Nat) (f : Str) (v : PV) (ρ : Env) : Option Env := (obO ρ j C).bind fun p => if p.1.length < 1000 then some (setC j (.ob C (putNs p.1 f) (putVs p.1 p.2 f v)) ρ) else none
def mPutFld (C : Addr) (j : Nat) (f : Str) (m : M) : MS := fun ρ => (mOp m ρ).bind fun p => (liftO p.1.val?).bind fun v => (liftO (putFld C j f v p.2)).bind fun ρ' => .ok (.nx, ρ')
def mgFld (C : Addr) (j : Nat) (f : Str) : MG := putFld C j f
/-- x.f op= e -/
def mAugFld (C : Addr) (j : Nat) (f : Str) (g : PV → PV → Option RV) (m : M) : MS := fun ρ => (liftO (obO ρ j C)).bind fun q => (liftO (lookF q.1 q.2 f)).bind fun a => (mOp m ρ).bind fun p => (liftO (deref p.2 p.1)).bind fun b => (liftO (g a b)).bind fun r =>
  (liftO r.val?).bind fun v => (liftO (putFld C j f v p.2)).bind fun ρ' => .ok (.nx, ρ')
section
variable {X : Cx} {W : WX} {C : Addr} {j : Nat} {f x : Str} {pos pos' apos : Pos} {e : Expr} {m : M}
theorem obO_at {K : PySem.W.Frag} {F H : Hp} {ρ : Env} {σ : L2.St} {p : List Str × List PV} (R : Rel K F H ρ σ) (h : obO ρ j C = some p) : ∃ a dx vs, σ[j]? = some (some (.ref a)) ∧ F a = none ∧ OwnAt ρ σ j a ∧ H a = some (.ins C dx (p.1.zip vs)) ∧ p.1.length = vs.length ∧ RepVs K F p.2 vs := by
  obtain ⟨a, h1, h2, h3, vs, ⟨dx, h4⟩, h5, h6⟩ := ownO_at R (obO_inv h)
  exact ⟨a, dx, vs, h1, h3, h2, h4, h5, h6⟩
theorem SE.fld (hx : PE X (.Name x pos') (tVar j)) (c : Cls X.K C) (n : NoAttr X.K C f) (hb : attributeBase (.Name x pos') f X.env (eval (.Name x pos') X.env) = eval (.Name x pos') X.env := by rfl) : SE X W (.Attribute (.Name x pos') f pos) (mFld C j f) :=
  PE.imp (pe_fld hx hb) fun σ H Q ⟨ρ, F, R, q⟩ => by
    obtain ⟨p, ep, q⟩ := q.lift
    obtain ⟨v, ev, q⟩ := q.lift
    have q : ∀ v' F' H', ES X.K ρ σ F H ρ σ F' H' → RepR X.K (Free H) F' H' ρ σ (.val v) v' → Q v' H' := q
    obtain ⟨a, dx, vs, h1, h2, _, h3, h4, h5⟩ := obO_at R ep
    obtain ⟨w, ew, rw'⟩ := lookF_rep h5 h4 ev
    exact ⟨.ref a, h1, a, C, dx, _, w, rfl, h3, c, n, ew, q w F H (ES.refl R) rw'⟩
/-- the store itself -/
theorem put_at {K : PySem.W.Frag} {F H : Hp} {ρ ρ' : Env} {σ : L2.St} {v : PV} {w : V} (R : Rel K F H ρ σ) (r : RepV K F v w) (h : putFld C j f v ρ = some ρ') :
    ∃ a dx fs, σ[j]? = some (some (.ref a)) ∧ H a = some (.ins C dx fs) ∧ fs.length < 1000 ∧ ES K ρ σ F H ρ' σ F (upd H a (.ins C dx (putF f w fs))) := by
  unfold putFld at h
  cases ep : obO ρ j C with
  | none => rw [ep] at h; cases h
  | some p =>
    rw [ep] at h
    have h : (if p.1.length < 1000 then some (setC j (.ob C (putNs p.1 f) (putVs p.1 p.2 f v)) ρ) else none) = some ρ' := h
    split at h
    · rename_i hz
      cases h
      obtain ⟨a, dx, vs, h1, h2, _, h3, h4, h5⟩ := obO_at R ep
      obtain ⟨ws, e1, e2, e3⟩ := putF_rep (f := f) h5 h4 r
      refine ⟨a, dx, _, h1, h3, by rw [List.length_zip, ← h4, Nat.min_self]; exact hz, ?_⟩
      refine R.write (obO_inv ep) h1 ?_
      rw [e1]
      exact ⟨ws, ⟨dx, upd_same⟩, e2, e3⟩
    · cases h
theorem SS.fld (hx : PE X (.Name x pos') (tVar j)) (c : Cls X.K C) (n : NoAttr X.K C f) (h : SE X W e m) (hs : swapsWith e (some (.Attribute (.Name x pos') f apos)) pos.line X.env = pure false := by rfl) : SS X W (.Assign [.Attribute (.Name x pos') f apos] e pos) (mPutFld C j f m) :=
  PS.imp (ps_fld hx h hs) fun D σ H ⟨ρ, F, R, q⟩ => by
    refine tM_op R q fun r ρ1 y F1 H1 es1 q1 h1 => ?_
    obtain ⟨v, ev, h2⟩ := h1.lift
    obtain ⟨ρ', e', h3⟩ := h2.lift
    have h3 : ∀ σ' F' H', ES X.K ρ σ F H ρ' σ' F' H' → D.nx σ' H' := h3
    have ev : r = .val v := val?_inv ev
    subst ev
    obtain ⟨a, dx, fs, g1, g2, g3, es⟩ := put_at es1.rel (show RepV X.K F1 v y from q1) e'
    exact ⟨.ref a, g1, a, C, dx, fs, rfl, g2, c, n, g3, h3 _ _ _ (es1.trans es)⟩
theorem pg_fld {o : Expr} {to : TE} (ho : PE X o to) (ha : ∀ v, assign (.Attribute o f pos) X.env v = (do
      let ov ← holding [v] (eval o X.env)
      standAt pos.atName
      holding [v, ov] (setAttr ov f v)
      release [v, ov] []) := by intro _; rfl) : PG X (.Attribute o f pos) (fun y σ H Q => to σ H fun x H1 => ∃ a C dx fs, x = .ref a ∧ H1 a = some (.ins C dx fs) ∧ Cls X.K C ∧ NoAttr X.K C f ∧ fs.length < 1000 ∧ Q σ (upd H1 a (.ins C dx (putF f y fs)))) := by
  refine ⟨fun pins s σ H v u Q I r h => ?_⟩
  rw [ha]
  refine wpAny_bind (wpAny_holding (thn (ho.run pins s σ H _ I h) fun ov s1 ⟨x, H1, I1, r1, a, C, dx, fs, ex, ea, c, n, l, q⟩ => ?_))
  subst ex
  obtain rfl : ov = Value.ref a := r1
  refine wpAny_bind (wpAny_standAt (wpAny_bind (wpAny_holding (setattr_ok I1 ea c n l r fun s3 I3 => ?_))))
  exact wpAny_release ⟨σ, _, I3, q⟩
theorem SG.fld (hx : PE X (.Name x pos') (tVar j)) (c : Cls X.K C) (n : NoAttr X.K C f) (ha : ∀ v, assign (.Attribute (.Name x pos') f pos) X.env v = (do
      let ov ← holding [v] (eval (.Name x pos') X.env)
      standAt pos.atName
      holding [v, ov] (setAttr ov f v)
      release [v, ov] []) := by intro _; rfl) : SG X [] (.Attribute (.Name x pos') f pos) (mgFld C j f) :=
  PG.imp (pg_fld hx ha) fun v σ H Q ⟨ρ, F, p, ρ', R, r, e, q⟩ => by
    obtain ⟨a, dx, fs, g1, g2, g3, es⟩ := put_at R r e
    exact ⟨.ref a, g1, a, C, dx, fs, rfl, g2, c, n, g3, q σ F _ es Only.refl⟩
theorem SS.augFld {op : Operator} {ti : V → V → Hp → VK → Prop} {g : PV → PV → Option RV} (ho : InOp X op ti) (hp : Prim2 X.K ti g) (hx : PE X (.Name x pos') (tVar j)) (c : Cls X.K C) (n : NoAttr X.K C f) (h : SE X W e m) : SS X W (.AugAssign (.Attribute (.Name x pos') f apos) op e pos) (mAugFld C j f g m) :=
  PS.imp (ps_fldaug hx h ho) fun D σ H ⟨ρ, F, R, q⟩ => by
    obtain ⟨p, ep, q⟩ := q.lift
    obtain ⟨a0, ea0, q⟩ := q.lift
    obtain ⟨a, dx, vs, h1, h2, _, h3, h4, h5⟩ := obO_at R ep
    obtain ⟨w, ew, rw'⟩ := lookF_rep h5 h4 ea0
    refine ⟨.ref a, h1, a, C, dx, _, w, rfl, h3, c, n, ew, ?_⟩
    refine tM_op R q fun r ρ1 y F1 H1 es1 q1 k1 => ?_
    obtain ⟨b, eb, k2⟩ := k1.lift
    obtain ⟨res, er, k3⟩ := k2.lift
    obtain ⟨v, ev, k4⟩ := k3.lift
    obtain ⟨ρ', e', k5⟩ := k4.lift
    have k5 : ∀ σ' F' H', ES X.K ρ σ F H ρ' σ' F' H' → D.nx σ' H' := k5
    have ev : res = .val v := val?_inv ev
    subst ev
    refine hp w y F1 H1 _ a0 b _ es1.rel.fh ((RepV.mono es1.st.ff rw').b es1.rel.fh) (q1.b es1.rel eb) er fun z F2 H2 gr rn => ?_
    have es2 := gr.es es1.rel
    obtain ⟨a', dx', fs', g1, g2, g3, es⟩ := put_at es2.rel (show RepV X.K F2 v z from rn) e'
    rw [h1] at g1
    cases g1
    exact ⟨dx', fs', g2, g3, k5 _ _ _ ((es1.trans es2).trans es)⟩
end

/-! ### methods -/
def mMeth (C : Addr) (mm : Str) (g : G) (j : Nat) (ma : MA) : M := fun ρ => (liftO (obO ρ j C)).bind fun p => if mm ∈ p.1 then .bad else mCall g (mACons (mBor j) ma) ρ
theorem mBor_own {ρ : Env} {j : Nat} {o : OB} (h : ownO ρ j = some o) : mBor j ρ = .ok (.bor j, ρ) := by
  unfold ownO at h
  unfold mBor
  cases e : ρ[j]? with
  | none => rw [e] at h; cases h
  | some s =>
    cases s with
    | none => rw [e] at h; cases h
    | some s =>
      rw [e] at h
      cases s with
      | val p => cases h
      | own p => rfl
      | par p => rfl
theorem tMA_first {K : PySem.W.Frag} {W : WX} {σ : L2.St} {H : Hp} {j : Nat} {ma : MA} {P : List V → Hp → Prop} {a : Addr} {ρ : Env} {F : Hp} (R : Rel K F H ρ σ) (h0 : mBor j ρ = .ok (.bor j, ρ)) (hs : σ[j]? = some (some (.ref a)))
    (h : Ok W ρ σ F H (mACons (mBor j) ma ρ) fun p => ∀ vs F' H', ES K ρ σ F H p.2 σ F' H' → RepQs K F' σ p.1 vs → P vs H') : tMA K W ma σ H fun vs H' => P (.ref a :: vs) H' := by
  have e : mACons (mBor j) ma ρ = (ma ρ).bind fun p2 => .ok (.bor j :: p2.1, p2.2) := by
    unfold mACons mOp
    rw [h0]
    rfl
  rw [e] at h
  exact ⟨ρ, F, R, h.of_bind.mono fun p hp vs F' H' es qs => hp (.ref a :: vs) F' H' es (.cons hs qs)⟩
section
variable {X : Cx} {W : WX} {CX : CXT} {k n : Nat} {fa C : Addr} {fd : FuncData} {ps : List Str} {RX : RXT} {g : G} {E : XK} {x mm : Str} {p pos pos' apos : Pos} {e : Expr} {es : List Expr} {ma : MA} {j : Nat}
/-- a call, as the reading of its arguments -/
theorem call_ok {K : PySem.W.Frag} {σ : L2.St} {H : Hp} {Q : VK} {ρ : Env} {F : Hp} (hW : ∀ x cls d F' H', W x F' H' → RX x cls d H' → E cls d H') (hl : ∀ ρ p, ma ρ = .ok p → p.1.length = n) (q : Ok W ρ σ F H (mCall g ma ρ) fun p => ∀ v F' H', ES K ρ σ F H p.2 σ F' H' → RepR K (Free H) F' H' p.2 σ p.1 v → Q v H') :
    Ok W ρ σ F H (ma ρ) fun p => ∀ vs F' H', ES K ρ σ F H p.2 σ F' H' → RepQs K F' σ p.1 vs → spF K RX g n vs H' Q E := by
  have q' := q.of_bind
  cases em : ma ρ with
  | exc y => rw [em] at q'; exact q'
  | bad => rw [em] at q'; exact q'
  | ok p =>
  rw [em] at q'
  intro vs F1 H1 es1 qs
  have hp : Ok W ρ σ F H _ _ := q'
  obtain ⟨avs, e1, h2⟩ := hp.lift
  have hln : lone p.1 = true := by
    cases z : lone p.1 with
    | true => rfl
    | false => rw [z] at e1; cases e1
  rw [hln, if_pos rfl] at e1
  have h2 := h2.of_bind.shift es1
  refine ⟨by rw [← qs.length, hl ρ p em], F1, avs, call_entry es1.rel qs e1 hln, ?_⟩
  cases eg : g avs with
  | bad => rw [eg] at h2; exact h2
  | exc y =>
    rw [eg] at h2
    intro cls d F' H' st fh rx
    exact hW y cls d F' H' (h2 F' H' (st.mono fun a ⟨k, h⟩ => let ⟨i, _, o⟩ := lent es1.rel qs e1 h; ⟨i, o⟩) fh) rx
  | ok r =>
    rw [eg] at h2
    have h2 : ∀ v F' H', ES K ρ σ F H (backs p.2 p.1 r.2) σ F' H' → RepR K (Free H) F' H' (backs p.2 p.1 r.2) σ r.1 v → Q v H' := h2
    intro v F' H' st fh rn ro
    have ce := call_exit es1.rel qs e1 st fh ro
    refine h2 v F' H' (es1.trans ce) ?_
    cases er : r.1 with
    | val p => rw [er] at rn; exact rn
    | bor i => rw [er] at rn; exact rn.elim
    | new o =>
      rw [er] at rn
      obtain ⟨a, ea, n, n0, ro'⟩ := rn
      refine ⟨a, ea, n, es1.free n0, fun z => ?_, ro'⟩
      obtain ⟨j, z⟩ := z
      exact es1.rel.ownH ⟨j, backs_own z⟩ n0
theorem meth_ok {K : PySem.W.Frag} {σ : L2.St} {H : Hp} {Q : VK} (hW : ∀ x cls d F' H', W x F' H' → RX x cls d H' → E cls d H') (hl : ∀ ρ p, ma ρ = .ok p → p.1.length = n) (h : tM K W (mMeth C mm g j ma) σ H Q) :
    tMeth C mm (spF K RX g (n + 1)) [] E (tVar j) (tMA K W ma) σ H Q := by
  obtain ⟨ρ, F, R, q⟩ := h
  obtain ⟨p, ep, q⟩ := q.lift
  split at q
  · exact q.elim
  · rename_i hn
    obtain ⟨a, dx, vs, h1, h2, _, h3, h4, h5⟩ := obO_at R ep
    refine ⟨.ref a, h1, a, dx, _, rfl, h3, lookup_no hn, ?_⟩
    have q2 := call_ok (E := E) (RX := RX) (n := n + 1) hW (mALen (mBor j) hl) q
    obtain ⟨ρ', F', R', z⟩ := tMA_first R (mBor_own (obO_inv ep)) h1 q2
    exact ⟨ρ', F', R', z.mono fun p hp vs F' H' es qs => by
      show spF K RX g (n + 1) (V.ref a :: (vs ++ [])) H' Q E
      rw [List.append_nil]
      exact hp vs F' H' es qs⟩
theorem SE.meth {pl : Sem Bool} (hx : PE X (.Name x pos') (tVar j)) (c : Cls X.K C) (hm : Meth X.K C mm fa) (F : FnOk X.prog X.w X.K X.mg X.base CX k fa fd ps (spF X.K RX g (n + 1))) (hr : Room k X.A) (hb : Binds X.K fd ps []) (hp : Passes CX X E)
    (hW : ∀ x cls d F' H', W x F' H' → RX x cls d H' → E cls d H') (ha : SA X W (e :: es) ma) (hl : ∀ ρ p, ma ρ = .ok p → p.1.length = n)
    (hst : starEach (e :: es) X.env = (false, eval e X.env) :: starEach es X.env := by rfl) (hpl : (backTo pos (starEach es X.env)).any (·.1) = false := by rfl)
    (ht : eval (.Call (.Attribute (.Name x pos') mm apos) (e :: es) [] pos) X.env = (do
      let ov ← eval (.Name x pos') X.env
      standAt apos.atName
      let (f, first) ← holding [ov] (getMethod ov mm pl)
      callWith pos f first (backTo pos (starEach (e :: es) X.env)) (backToKw pos (keywordEach [] X.env))) := by rfl) :
    SE X W (.Call (.Attribute (.Name x pos') mm apos) (e :: es) [] pos) (mMeth C mm g j ma) :=
  PE.imp (pe_meth hx c hm F hr hb .nil hp ha hst hpl ht) fun _ _ _ h => meth_ok hW hl h
theorem SE.meth0 {pl : Sem Bool} (hx : PE X (.Name x pos') (tVar j)) (c : Cls X.K C) (hm : Meth X.K C mm fa) (F : FnOk X.prog X.w X.K X.mg X.base CX k fa fd ps (spF X.K RX g 1)) (hr : Room k X.A) (hb : Binds X.K fd ps []) (hp : Passes CX X E)
    (hW : ∀ x cls d F' H', W x F' H' → RX x cls d H' → E cls d H')
    (ht : eval (.Call (.Attribute (.Name x pos') mm apos) [] [] pos) X.env = (do
      let ov ← eval (.Name x pos') X.env
      standAt apos.atName
      let (f, first) ← holding [ov] (getMethod ov mm pl)
      callWith pos f first (backTo pos (starEach [] X.env)) (backToKw pos (keywordEach [] X.env))) := by rfl) :
    SE X W (.Call (.Attribute (.Name x pos') mm apos) [] [] pos) (mMeth C mm g j mANil) :=
  PE.imp (pe_meth0 hx c hm F hr hb .nil hp ht) fun σ H Q h => by
    obtain ⟨x, hx, a, dx, fs, e1, e2, e3, ρ, F, R, q⟩ := meth_ok (n := 0) (E := E) (RX := RX) hW mALen0 h
    have q : ∀ vs F' H', ES X.K ρ σ F H ρ σ F' H' → RepQs X.K F' σ [] vs → spF X.K RX g 1 (x :: (vs ++ [])) H' Q E := q
    exact ⟨x, hx, a, dx, fs, e1, e2, e3, q [] F H (ES.refl R) .nil⟩

/-! ### C(..) -/
def mMake (C : Addr) (g : G) (ma : MA) : M := fun ρ => (ma ρ).bind fun p => (liftO (vals? p.1)).bind fun as => (g (.own (.ob C [] []) :: as.map AV.val)).bind fun q => match q.1, q.2 with
  | .val .non, some o :: _ => .ok (.new o, p.2)
  | _, _ => .bad
theorem RepVs.at {K : PySem.W.Frag} {F : Hp} {as : List PV} {vs : List V} (r : RepVs K F as vs) {i : Nat} {p : PV} (e : as[i]? = some p) : ∃ v, vs[i]? = some v ∧ RepV K F p v := r.get e
theorem make_entry {K : PySem.W.Frag} {F H : Hp} {as : List PV} {vs : List V} {x dx : Addr} (fh : FH F H) (r : RepVs K F as vs) (nx : H x = none) (nd : H dx = none) :
    Rel K F (upd (upd H dx (.own x)) x (.ins C dx [])) ((AV.own (.ob C [] []) :: as.map AV.val).map AV.slot) ((V.ref x :: vs).map some) ∧ (∀ j a, OwnAt ((AV.own (.ob C [] []) :: as.map AV.val).map AV.slot) ((V.ref x :: vs).map some) j a → j = 0 ∧ a = x) := by
  have sl : ∀ (j : Nat) (s : SV), ((AV.own (.ob C [] []) :: as.map AV.val).map AV.slot)[j]? = some (some s) → (j = 0 ∧ s = .par (.ob C [] [])) ∨ ∃ i p, j = i + 1 ∧ as[i]? = some p ∧ s = .val p := fun j s h => by
    cases j with
    | zero =>
      cases h
      exact .inl ⟨rfl, rfl⟩
    | succ i =>
      have h : ((as.map AV.val).map AV.slot)[i]? = some (some s) := h
      rw [List.map_map, List.getElem?_map] at h
      cases e : as[i]? with
      | none => rw [e] at h; cases h
      | some p =>
        rw [e] at h
        cases h
        exact .inr ⟨i, p, rfl, e, rfl⟩
  have own : ∀ j a, OwnAt ((AV.own (.ob C [] []) :: as.map AV.val).map AV.slot) ((V.ref x :: vs).map some) j a → j = 0 ∧ a = x := fun j a ⟨h1, h2⟩ => by
    have hj : j = 0 := by
      rcases h1 with ⟨o, e⟩ | ⟨o, e⟩
      · rcases sl j _ e with ⟨z, _⟩ | ⟨i, p, _, _, z⟩
        · exact z
        · cases z
      · rcases sl j _ e with ⟨z, _⟩ | ⟨i, p, _, _, z⟩
        · exact z
        · cases z
    subst hj
    cases h2
    exact ⟨rfl, rfl⟩
  refine ⟨⟨by simp [r.length], fun j s h => ?_, fun a u e => ?_, fun i j a h1 h2 => (own i a h1).1.trans (own j a h2).1.symm⟩, own⟩
  · rcases sl j s h with ⟨rfl, rfl⟩ | ⟨i, p, rfl, e, rfl⟩
    · exact ⟨.ref x, rfl, x, rfl, fh.none nx, [], ⟨dx, upd_same⟩, rfl, .nil⟩
    · obtain ⟨v, ev, rv⟩ := r.get e
      refine ⟨v, ?_, rv⟩
      show (vs.map some)[i]? = some (some v)
      rw [List.getElem?_map, ev]
      rfl
  · have h1 : a ≠ x := fun z => by rw [z, fh.none nx] at e; cases e
    have h2 : a ≠ dx := fun z => by rw [z, fh.none nd] at e; cases e
    rw [upd_ne h1, upd_ne h2]
    exact fh a u e
theorem make_ok {K : PySem.W.Frag} {σ : L2.St} {H : Hp} {Q : VK} (hW : ∀ x cls d F' H', W x F' H' → RX x cls d H' → E cls d H') (hX : ∀ as y, g as ≠ .exc y) (hl : ∀ ρ p, ma ρ = .ok p → p.1.length = n) (h : tM K W (mMake C g ma) σ H Q) :
    tMake C (spF K RX g (n + 1)) [] E (tMA K W ma) σ H Q := by
  obtain ⟨ρ, F, R, q⟩ := h
  refine ⟨ρ, F, R, ?_⟩
  have q' := q.of_bind
  cases em : ma ρ with
  | exc y => rw [em] at q'; exact q'
  | bad => rw [em] at q'; exact q'
  | ok p =>
  rw [em] at q'
  intro vs F1 H1 es1 qs x dx nx nd ne
  obtain ⟨as, ea, q⟩ := Ok.lift (show Ok W ρ σ F H ((liftO (vals? p.1)).bind _) _ from q')
  have rv := qs.vals ea
  obtain ⟨R2, own⟩ := make_entry (C := C) es1.rel.fh rv nx nd
  rw [List.append_nil]
  refine ⟨by simp [← qs.length, hl ρ p em], F1, _, R2, ?_⟩
  cases eg : g (AV.own (.ob C [] []) :: as.map AV.val) with
  | bad => rw [eg] at q; exact q
  | exc y => exact absurd eg (hX _ y)
  | ok r =>
    rw [eg] at q
    obtain ⟨r1, outs⟩ := r
    intro v F' H' st fh rn ro
    cases r1 with
    | bor i => exact q.elim
    | new o => exact q.elim
    | val p0 =>
      cases p0 with
      | non =>
        have rn : RepV K F' .non v := rn
        unfold RepV at rn
        subst rn
        cases outs with
        | nil => exact q.elim
        | cons o outs =>
          cases o with
          | none => exact q.elim
          | some o =>
            have q : ∀ v F' H', ES K ρ σ F H p.2 σ F' H' → RepR K (Free H) F' H' p.2 σ (.new o) v → Q v H' := q
            refine ⟨rfl, ?_⟩
            obtain ⟨a, e0, nF, rO⟩ := ro 0 o rfl
            cases e0
            have xo : ¬ Own p.2 σ x := fun z => es1.rel.ownH z nx
            have other : ∀ z, H1 z ≠ none → z ≠ x ∧ z ≠ dx := fun z hz => ⟨fun e => hz (e ▸ nx), fun e => hz (e ▸ nd)⟩
            have up : ∀ z, z ≠ x → z ≠ dx → upd (upd H1 dx (.own x)) x (.ins C dx []) z = H1 z := fun z h1 h2 => by rw [upd_ne h1, upd_ne h2]
            have nown : ∀ z, z ≠ x → ¬ Own ((AV.own (.ob C [] []) :: as.map AV.val).map AV.slot) ((V.ref x :: vs).map some) z := fun z hz ⟨j, hj⟩ => hz (own j z hj).2
            have es2 : ES K p.2 σ F1 H1 p.2 σ F' H' := (ES.refl es1.rel).go st.ff fh (fun z hz => by
              have hH := es1.rel.ownH hz
              obtain ⟨z1, z2⟩ := other z hH
              obtain ⟨u, hu⟩ := Option.ne_none_iff_exists'.mp hH
              refine ⟨?_, (st.fr z u (by rw [up z z1 z2]; exact hu) (nown z z1)).trans hu.symm⟩
              cases w : F' z with
              | none => rfl
              | some t =>
                rcases st.new z (by rw [w]; simp) with y | y | y
                · exact absurd (es1.rel.ownF hz) y
                · refine absurd ?_ (es1.rel.ownN hz)
                  unfold Fre at y ⊢
                  rw [up z z1 z2] at y
                  exact y
                · exact absurd y (nown z z1)) (fun z hz => by
              rcases st.new z hz with y | y | ⟨j, y⟩
              · exact .inl y
              · refine .inr (.inl ?_)
                by_cases z1 : z = x
                · exact .inl (z1 ▸ nx)
                · by_cases z2 : z = dx
                  · exact .inl (z2 ▸ nd)
                  · unfold Fre at y ⊢
                    rw [up z z1 z2] at y
                    exact y
              · rw [(own j z y).2]
                exact .inr (.inl (.inl nx))) (fun z o hz _ _ => by
              obtain ⟨z1, z2⟩ := other z (by rw [hz]; simp)
              exact st.fr z o (by rw [up z z1 z2]; exact hz) (nown z z1)) fun z hz => by
              obtain ⟨z1, z2⟩ := other z hz
              exact st.th z (by rw [up z z1 z2]; exact hz)
            exact q _ F' H' (es1.trans es2) ⟨x, rfl, nF, es1.free nx, xo, rO⟩
      | _ => exact q.elim
theorem SE.make (M : Mk X.K C fa) (F : FnOk X.prog X.w X.K X.mg X.base CX k fa fd ps (spF X.K RX g (n + 1))) (hr : Room (k + 1) X.A) (hm : X.mg x = some (.ref C)) (hb : Binds X.K fd ps []) (hp : Passes CX X E) (hW : ∀ x cls d F' H', W x F' H' → RX x cls d H' → E cls d H') (hX : ∀ as y, g as ≠ .exc y)
    (hg : Gl X x) (ha : SA X W (e :: es) ma) (hl : ∀ ρ p, ma ρ = .ok p → p.1.length = n) (hdb : (x == ("__debug__" : Str)) = false := by decide) (he : starEach (e :: es) X.env = (false, eval e X.env) :: starEach es X.env := by rfl) (hpl : (backTo pos (starEach es X.env)).any (·.1) = false := by rfl) :
    SE X W (.Call (.Name x p) (e :: es) [] pos) (mMake C g ma) :=
  PE.imp (pe_make M F hr hg hm hb .nil hp ha hdb he hpl) fun _ _ _ h => make_ok hW hX hl h
end
/-- a def without exceptions -/
theorem runF_nox {size : Nat} {b : MS} : ∀ as y, runF size b as ≠ .exc y := fun as y e => by
  unfold runF at e
  cases h : b (as.map AV.slot ++ List.replicate (size - as.length) none) with
  | exc z => rw [h] at e; cases e
  | bad => rw [h] at e; cases e
  | ok p =>
    rw [h] at e
    obtain ⟨fl, ρ⟩ := p
    cases fl with
    | nx => cases e
    | bk => cases e
    | ct => cases e
    | rt r =>
      have e : ((liftO r.out).bind fun r => Res.ok (r, outsOf as.length ρ)) = .exc y := e
      cases h2 : r.out with
      | none => rw [h2] at e; cases e
      | some r' => rw [h2] at e; cases e
end Pu

set_option Elab.async false
set_option linter.all false
set_option maxRecDepth 100000
/-! Pu17: what the printed texts want, further. -/
namespace Pu
open PySem PySem.Spec PyProof.Rows L2
def clsBody : Stmt → List Stmt
  | .ClassDef _ _ _ body _ _ _ _ _ _ _ => body
  | _ => []
/-- a method of an own class -/
structure FnM (K : PySem.W.Frag) (C : Addr) (x qual : Str) (st : Stmt) (ps : List Str) where
  f : Addr
  fd : FuncData
  fn : Fun K x qual st f fd
  mt : Meth K C x f
  bd : Binds K fd ps []
/-- bytes((one,)).decode('ascii') -/
def gSign : G := fun avs => match avs with
  | [.val (.int i)] => if 0 ≤ i ∧ i < 128 then .ok (.val (.str ⟨#[i.toNat]⟩), [none]) else .bad
  | _ => .bad
theorem fn_bad {P : Program} {w : World} {K : PySem.W.Frag} {mg : Str → Option Value} {base : Heap} {k n : Nat} {f : Addr} {fd : FuncData} {ps : List Str} : FnOk P w K mg base CX0 k f fd ps (spF K RX0 (fun _ => .bad) n) :=
  ⟨fun vs H Q E h => let ⟨_, _, _, _, z⟩ := h; z.elim, fun A outer s H args us vs Q E _ _ _ _ h => let ⟨_, _, _, _, z⟩ := h; z.elim⟩
end Pu

set_option Elab.async false
set_option linter.all false
/-! Pu18: how the pure meanings run. -/
namespace Pu
open PySem
section
variable {a b : MS} {t : MT} {g : MG} {ρ ρ1 ρ2 : Env} {r r' : RV} {n size : Nat} {x : PV} {xs : List PV} {avs : List AV}
theorem seq_nx (h : a ρ = .ok (.nx, ρ1)) : mSeq a b ρ = b ρ1 := by unfold mSeq; rw [h]; rfl
theorem seq_rt (h : a ρ = .ok (.rt r, ρ1)) : mSeq a b ρ = .ok (.rt r, ρ1) := by unfold mSeq; rw [h]; rfl
theorem seq_bk (h : a ρ = .ok (.bk, ρ1)) : mSeq a b ρ = .ok (.bk, ρ1) := by unfold mSeq; rw [h]; rfl
theorem seq_ct (h : a ρ = .ok (.ct, ρ1)) : mSeq a b ρ = .ok (.ct, ρ1) := by unfold mSeq; rw [h]; rfl
theorem run_rt (ρ0 : Env) (e : avs.map AV.slot ++ List.replicate (size - avs.length) none = ρ0) (h : a ρ0 = .ok (.rt r, ρ1)) (ho : r.out = some r') : runF size a avs = .ok (r', outsOf avs.length ρ1) := by
  unfold runF
  rw [e, h]
  show (liftO r.out).bind _ = _
  rw [ho]
  rfl
theorem run_nx (ρ0 : Env) (e : avs.map AV.slot ++ List.replicate (size - avs.length) none = ρ0) (h : a ρ0 = .ok (.nx, ρ1)) : runF size a avs = .ok (.val .non, outsOf avs.length ρ1) := by
  unfold runF
  rw [e, h]
  rfl
theorem while_t (ht : t ρ = .ok (true, ρ1)) (hb : b ρ1 = .ok (.nx, ρ2)) : whileM t b (n + 1) ρ = whileM t b n ρ2 := by
  show (t ρ).bind _ = _
  rw [ht, Res.bind_ok]
  dsimp only
  rw [if_pos rfl, hb]
  rfl
theorem while_rt (ht : t ρ = .ok (true, ρ1)) (hb : b ρ1 = .ok (.rt r, ρ2)) : whileM t b (n + 1) ρ = .ok (.rt r, ρ2) := by
  show (t ρ).bind _ = _
  rw [ht, Res.bind_ok]
  dsimp only
  rw [if_pos rfl, hb]
  rfl
theorem while_f (ht : t ρ = .ok (false, ρ1)) : whileM t b (n + 1) ρ = .ok (.nx, ρ1) := by
  show (t ρ).bind _ = _
  rw [ht]
  rfl
theorem for_nil : forM g b [] ρ = .ok (.nx, ρ) := rfl
theorem for_cons (hg : g x ρ = some ρ1) (hb : b ρ1 = .ok (.nx, ρ2)) : forM g b (x :: xs) ρ = forM g b xs ρ2 := by
  show (liftO (g x ρ)).bind _ = _
  rw [hg]
  show (b ρ1).bind _ = _
  rw [hb]
  rfl
theorem for_rt (hg : g x ρ = some ρ1) (hb : b ρ1 = .ok (.rt r, ρ2)) : forM g b (x :: xs) ρ = .ok (.rt r, ρ2) := by
  show (liftO (g x ρ)).bind _ = _
  rw [hg]
  show (b ρ1).bind _ = _
  rw [hb]
  rfl
theorem ifs_t (ht : t ρ = .ok (true, ρ1)) : mIfS t a b ρ = a ρ1 := by
  show (t ρ).bind _ = _
  rw [ht]
  rfl
theorem ifs_f (ht : t ρ = .ok (false, ρ1)) : mIfS t a b ρ = b ρ1 := by
  show (t ρ).bind _ = _
  rw [ht]
  rfl
theorem mfor_of {mi : MI} (h : mi ρ = .ok (xs, ρ1)) : mFor mi g b ρ = forM g b xs ρ1 := by
  show (mi ρ).bind _ = _
  rw [h]
  rfl
theorem lc_nil {vs : List Nat} {e : M} : lcM vs g t e [] ρ = .ok ([], ρ) := rfl
theorem lc_cons {vs : List Nat} {e : M} {ρ3 : Env} {y : PV} (hg : g x ρ = some ρ1) (ht : t ρ1 = .ok (true, ρ2)) (he : e ρ2 = .ok (.val y, ρ3)) : lcM vs g t e (x :: xs) ρ = (lcM vs g t e xs (wipeE ρ3 vs)).bind fun r => .ok (y :: r.1, r.2) := by
  show (liftO (g x ρ)).bind _ = _
  rw [hg]
  show (t ρ1).bind _ = _
  rw [ht, Res.bind_ok]
  dsimp only
  rw [if_pos rfl]
  unfold mOp
  rw [he]
  rfl
theorem lc_skip {vs : List Nat} {e : M} (hg : g x ρ = some ρ1) (ht : t ρ1 = .ok (false, ρ2)) : lcM vs g t e (x :: xs) ρ = lcM vs g t e xs (wipeE ρ2 vs) := by
  show (liftO (g x ρ)).bind _ = _
  rw [hg]
  show (t ρ1).bind _ = _
  rw [ht]
  rfl
/-- a comprehension whose items leave all as it was -/
theorem lc_all {vs : List Nat} {e : M} {f : PV → Option PV} (ρ0 : Env) : ∀ (xs ys : List PV), (∀ x ∈ xs, ∀ y, f x = some y → ∃ ρ1 ρ2 ρ3, g x ρ0 = some ρ1 ∧ t ρ1 = .ok (true, ρ2) ∧ e ρ2 = .ok (.val y, ρ3) ∧ wipeE ρ3 vs = ρ0) → xs.mapM f = some ys → lcM vs g t e xs ρ0 = .ok (ys, ρ0)
  | [], ys, _, h => by cases h; rfl
  | x :: xs, ys, hx, h => by
    rw [List.mapM_cons] at h
    cases e1 : f x with
    | none => rw [e1] at h; cases h
    | some y =>
      rw [e1] at h
      cases e2 : xs.mapM f with
      | none => rw [e2] at h; cases h
      | some zs =>
        rw [e2] at h
        cases h
        obtain ⟨ρ1, ρ2, ρ3, h1, h2, h3, h4⟩ := hx x (List.mem_cons_self ..) y e1
        rw [lc_cons h1 h2 h3, h4, lc_all ρ0 xs zs (fun z hz => hx z (List.mem_cons_of_mem _ hz)) e2]
        rfl
theorem lc_map {vs : List Nat} {e : M} {f : PV → PV} (ρ0 : Env) : ∀ (xs : List PV), (∀ x ∈ xs, ∃ ρ1 ρ2 ρ3, g x ρ0 = some ρ1 ∧ t ρ1 = .ok (true, ρ2) ∧ e ρ2 = .ok (.val (f x), ρ3) ∧ wipeE ρ3 vs = ρ0) → lcM vs g t e xs ρ0 = .ok (xs.map f, ρ0)
  | [], _ => rfl
  | x :: xs, hx => by
    obtain ⟨ρ1, ρ2, ρ3, h1, h2, h3, h4⟩ := hx x (List.mem_cons_self ..)
    rw [lc_cons h1 h2 h3, h4, lc_map ρ0 xs fun z hz => hx z (List.mem_cons_of_mem _ hz)]
    rfl
theorem mlc_of {vs : List Nat} {mi : MI} {e : M} {ys : List PV} (hi : mi ρ = .ok (xs, ρ1)) (hz : xs.length ≤ 16777216) (h : lcM vs g t e xs (wipeE ρ1 vs) = .ok (ys, ρ2)) : mLc vs mi g t e ρ = .ok (.new (.lst ys), restoreE vs ρ1 ρ2) := by
  unfold mLc
  rw [hi]
  rw [Res.bind_ok]
  dsimp only
  rw [if_pos hz, h]
  rfl
end
section
variable {ρ ρ1 ρ2 : Env} {ma : MA} {m mb : M} {g : G} {ps : List PV} {p q : PV} {r : RV} {outs : List (Option OB)} {xs ys : List PV}
theorem findArg_vals (j : Nat) : ∀ ps : List PV, findArg j (ps.map RV.val) = none
  | [] => rfl
  | p :: ps => by
    show (if RV.bor? (.val p) = some j then some 0 else (findArg j (ps.map RV.val)).map (· + 1)) = none
    rw [if_neg (by intro z; cases z), findArg_vals j ps]
    rfl
theorem backs_vals (ρ : Env) (ps : List PV) (outs : List (Option OB)) : backs ρ (ps.map RV.val) outs = ρ := by
  unfold backs
  apply List.ext_getElem?
  intro j
  rw [List.getElem?_mapIdx]
  cases e : ρ[j]? with
  | none => rfl
  | some s =>
    show some (match findArg j (ps.map RV.val) with | some k => back1 s (outs[k]?).join | none => s) = some s
    rw [findArg_vals]
theorem lone_vals (ps : List PV) : lone (ps.map RV.val) = true := by
  have e : (ps.map RV.val).filterMap RV.bor? = [] := by
    induction ps with
    | nil => rfl
    | cons p ps ih => exact ih
  unfold lone
  rw [e]
  rfl
theorem avs_vals (ρ : Env) : ∀ ps : List PV, avsOf ρ (ps.map RV.val) = some (ps.map AV.val)
  | [] => rfl
  | p :: ps => by
    show (avOf ρ (.val p)).bind _ = _
    rw [show avOf ρ (.val p) = some (.val p) from rfl, avs_vals ρ ps]
    rfl
theorem args_nil : mANil ρ = .ok (([] : List PV).map RV.val, ρ) := rfl
theorem args_cons (h : m ρ = .ok (.val p, ρ1)) (t : ma ρ1 = .ok (ps.map RV.val, ρ2)) : mACons m ma ρ = .ok ((p :: ps).map RV.val, ρ2) := by
  unfold mACons mOp
  rw [h, Res.bind_ok, Res.bind_ok]
  dsimp only
  rw [t]
  rfl
theorem call_vals (h : ma ρ = .ok (ps.map RV.val, ρ1)) (hg : g (ps.map AV.val) = .ok (r, outs)) : mCall g ma ρ = .ok (r, ρ1) := by
  unfold mCall
  rw [h, Res.bind_ok]
  dsimp only
  rw [lone_vals, if_pos rfl, avs_vals]
  show (g (ps.map AV.val)).bind _ = _
  rw [hg]
  show Res.ok (r, backs ρ1 (ps.map RV.val) outs) = _
  rw [backs_vals]
theorem call1 (h : m ρ = .ok (.val p, ρ1)) (hg : g [.val p] = .ok (r, outs)) : mCall g (mACons m mANil) ρ = .ok (r, ρ1) := call_vals (args_cons h args_nil) hg
theorem call2 {m2 : M} (h : m ρ = .ok (.val p, ρ1)) (h2 : m2 ρ1 = .ok (.val q, ρ2)) (hg : g [.val p, .val q] = .ok (r, outs)) : mCall g (mACons m (mACons m2 mANil)) ρ = .ok (r, ρ2) := call_vals (args_cons h (args_cons h2 args_nil)) hg
theorem ret_of (h : m ρ = .ok (r, ρ1)) : mRet m ρ = .ok (.rt r, ρ1) := by unfold mRet; rw [h]; rfl
theorem asg_of {i : Nat} (h : m ρ = .ok (r, ρ1)) (hs : setR i r ρ1 = some ρ2) : mAsg i m ρ = .ok (.nx, ρ2) := by
  unfold mAsg
  rw [h, Res.bind_ok]
  dsimp only
  rw [hs]
  rfl
theorem bin_new (h : m ρ = .ok (.new (.lst xs), ρ1)) (h2 : mb ρ1 = .ok (.new (.lst ys), ρ2)) (hz : szOk (xs.length + ys.length) = true) : mBin pAdd m mb ρ = .ok (.new (.lst (xs ++ ys)), ρ2) := by
  unfold mBin mOp
  rw [h, Res.bind_ok, Res.bind_ok]
  dsimp only
  rw [h2]
  simp [RV.fz, OB.pv, deref, pAdd, hz, liftO, Res.bind]
end
section
variable {ρ ρ1 ρ2 : Env} {ma mb : M} {ta tb : MT} {a b : PV} {r : RV} {f : PV → PV → Option RV}
theorem andv_t (h : ma ρ = .ok (.val (.bl true), ρ1)) : mAndV ma mb ρ = mb ρ1 := by unfold mAndV; rw [h]; rfl
theorem andv_f (h : ma ρ = .ok (.val (.bl false), ρ1)) : mAndV ma mb ρ = .ok (.val (.bl false), ρ1) := by unfold mAndV; rw [h]; rfl
theorem orv_t (h : ma ρ = .ok (.val (.bl true), ρ1)) : mOrV ma mb ρ = .ok (.val (.bl true), ρ1) := by unfold mOrV; rw [h]; rfl
theorem orv_f (h : ma ρ = .ok (.val (.bl false), ρ1)) : mOrV ma mb ρ = mb ρ1 := by unfold mOrV; rw [h]; rfl
theorem mif_t (h : ta ρ = .ok (true, ρ1)) : mIf ta ma mb ρ = ma ρ1 := by unfold mIf; rw [h]; rfl
theorem mif_f (h : ta ρ = .ok (false, ρ1)) : mIf ta ma mb ρ = mb ρ1 := by unfold mIf; rw [h]; rfl
theorem tor_t (h : ta ρ = .ok (true, ρ1)) : mTOr ta tb ρ = .ok (true, ρ1) := by unfold mTOr; rw [h]; rfl
theorem tor_f (h : ta ρ = .ok (false, ρ1)) : mTOr ta tb ρ = tb ρ1 := by unfold mTOr; rw [h]; rfl
theorem tand_t (h : ta ρ = .ok (true, ρ1)) : mTAnd ta tb ρ = tb ρ1 := by unfold mTAnd; rw [h]; rfl
theorem tand_f (h : ta ρ = .ok (false, ρ1)) : mTAnd ta tb ρ = .ok (false, ρ1) := by unfold mTAnd; rw [h]; rfl
theorem tnot_of {c : Bool} (h : ta ρ = .ok (c, ρ1)) : mTNot ta ρ = .ok (!c, ρ1) := by unfold mTNot; rw [h]; rfl
theorem test_of {c : Bool} (h : ma ρ = .ok (.val (.bl c), ρ1)) : mTest ma ρ = .ok (c, ρ1) := by unfold mTest; rw [h]; rfl
theorem truth_of' {c : Bool} (h : ma ρ = .ok (.val a, ρ1)) (ht : truth a = some c) : mTruth ma ρ = .ok (c, ρ1) := by
  unfold mTruth mOp
  rw [h]
  show ((liftO (truth a)).bind fun k => Res.ok (k, ρ1)) = _
  rw [ht]
  rfl
/-- an operator on two values -/
theorem bin_val (h : ma ρ = .ok (.val a, ρ1)) (h2 : mb ρ1 = .ok (.val b, ρ2)) (hf : f a b = some r) : mBin f ma mb ρ = .ok (r, ρ2) := by
  unfold mBin mOp
  rw [h, Res.bind_ok, Res.bind_ok]
  dsimp only
  rw [h2]
  simp [RV.fz, deref, liftO, Res.bind, hf]
theorem app1 {g : List PV → Option RV} (h : ma ρ = .ok (.val a, ρ1)) (hg : g [a] = some r) : mApp g (mACons ma mANil) ρ = .ok (r, ρ1) := by
  unfold mApp mACons mOp
  rw [h]
  simp [RV.fz, derefs, deref, liftO, Res.bind, mANil, hg]
theorem app1n {g : List PV → Option RV} {o : OB} (h : ma ρ = .ok (.new o, ρ1)) (hg : g [o.pv] = some r) : mApp g (mACons ma mANil) ρ = .ok (r, ρ1) := by
  unfold mApp mACons mOp
  rw [h]
  simp [RV.fz, derefs, deref, liftO, Res.bind, mANil, hg]
end
theorem range1e : List.range 1 = [0] := rfl
theorem range2e : List.range 2 = [0, 1] := rfl
theorem range3e : List.range 3 = [0, 1, 2] := rfl
theorem range4e : List.range 4 = [0, 1, 2, 3] := rfl
theorem iop_eval {g : Int → Int → Option PV} {i j : Int} {p : PV} (h : g i j = some p) : iop g (.int i) (.int j) = some (.val p) := by
  show (g i j).map RV.val = _
  rw [h]
  rfl
/-- x op= e on a value -/
theorem aug_val {i : Nat} {f : PV → PV → Option RV} {m : M} {ρ ρ1 ρ2 : Env} {a b : PV} {r : RV} (h0 : ρ[i]? = some (some (.val a))) (h : m ρ = .ok (.val b, ρ1)) (hf : f a b = some r) (hs : setR i r ρ1 = some ρ2) : mAug i f m ρ = .ok (.nx, ρ2) := by
  have e0 : mBor i ρ = .ok (.val a, ρ) := by
    unfold mBor
    rw [h0]
  have e1 : mOp m ρ = .ok (.val b, ρ1) := by
    unfold mOp
    rw [h]
    rfl
  unfold mAug
  rw [e0, Res.bind_ok]
  dsimp only
  rw [e1, Res.bind_ok]
  dsimp only
  rw [show deref ρ1 (.val a) = some a from rfl, show deref ρ1 (.val b) = some b from rfl, liftO_some, liftO_some, Res.bind_ok, Res.bind_ok, hf, liftO_some, Res.bind_ok, hs]
  rfl
theorem isi_NoneType_int : isiB "NoneType" "int" = some false := by decide +kernel
theorem isi_NoneType_bool : isiB "NoneType" "bool" = some false := by decide +kernel
theorem isi_NoneType_str : isiB "NoneType" "str" = some false := by decide +kernel
theorem isi_NoneType_tuple : isiB "NoneType" "tuple" = some false := by decide +kernel
theorem isi_NoneType_list : isiB "NoneType" "list" = some false := by decide +kernel
theorem isi_bool_int : isiB "bool" "int" = some true := by decide +kernel
theorem isi_bool_bool : isiB "bool" "bool" = some true := by decide +kernel
theorem isi_bool_str : isiB "bool" "str" = some false := by decide +kernel
theorem isi_bool_tuple : isiB "bool" "tuple" = some false := by decide +kernel
theorem isi_bool_list : isiB "bool" "list" = some false := by decide +kernel
theorem isi_int_int : isiB "int" "int" = some true := by decide +kernel
theorem isi_int_bool : isiB "int" "bool" = some false := by decide +kernel
theorem isi_int_str : isiB "int" "str" = some false := by decide +kernel
theorem isi_int_tuple : isiB "int" "tuple" = some false := by decide +kernel
theorem isi_int_list : isiB "int" "list" = some false := by decide +kernel
theorem isi_str_int : isiB "str" "int" = some false := by decide +kernel
theorem isi_str_bool : isiB "str" "bool" = some false := by decide +kernel
theorem isi_str_str : isiB "str" "str" = some true := by decide +kernel
theorem isi_str_tuple : isiB "str" "tuple" = some false := by decide +kernel
theorem isi_str_list : isiB "str" "list" = some false := by decide +kernel
theorem isi_tuple_int : isiB "tuple" "int" = some false := by decide +kernel
theorem isi_tuple_bool : isiB "tuple" "bool" = some false := by decide +kernel
theorem isi_tuple_str : isiB "tuple" "str" = some false := by decide +kernel
theorem isi_tuple_tuple : isiB "tuple" "tuple" = some true := by decide +kernel
theorem isi_tuple_list : isiB "tuple" "list" = some false := by decide +kernel
theorem isi_list_int : isiB "list" "int" = some false := by decide +kernel
theorem isi_list_bool : isiB "list" "bool" = some false := by decide +kernel
theorem isi_list_str : isiB "list" "str" = some false := by decide +kernel
theorem isi_list_tuple : isiB "list" "tuple" = some false := by decide +kernel
theorem isi_list_list : isiB "list" "list" = some true := by decide +kernel
theorem isi_dict_int : isiB "dict" "int" = some false := by decide +kernel
theorem isi_dict_bool : isiB "dict" "bool" = some false := by decide +kernel
theorem isi_dict_str : isiB "dict" "str" = some false := by decide +kernel
theorem isi_dict_tuple : isiB "dict" "tuple" = some false := by decide +kernel
theorem isi_dict_list : isiB "dict" "list" = some false := by decide +kernel
end Pu

set_option Elab.async false
set_option linter.all false
/-! Pu19: how fields, methods and lent objects run. -/
namespace Pu
open PySem
section
variable {ρ ρ1 : Env} {ma : MA} {m : M} {g : G} {ps : List PV} {p v : PV} {r : RV} {outs : List (Option OB)} {ns : List Str} {xs : List PV} {C : Addr} {j : Nat} {f mm : Str} {o o' : OB}
/-- the slot holds o, own or lent -/
def Hold (ρ : Env) (j : Nat) (w : OB → SV) (o : OB) : Prop := ρ[j]? = some (some (w o)) ∧ (w = SV.par ∨ w = SV.own)
theorem Hold.own {w : OB → SV} (h : Hold ρ j w o) : ownO ρ j = some o := by
  obtain ⟨h, rfl | rfl⟩ := h
  · unfold ownO; rw [h]
  · unfold ownO; rw [h]
theorem Hold.setC {w : OB → SV} (h : Hold ρ j w o) (o' : OB) : setC j o' ρ = ρ.set j (some (w o')) := by
  obtain ⟨h, rfl | rfl⟩ := h
  · unfold Pu.setC; rw [h]
  · unfold Pu.setC; rw [h]
theorem Hold.bor {w : OB → SV} (h : Hold ρ j w o) : mBor j ρ = .ok (.bor j, ρ) := by
  obtain ⟨h, rfl | rfl⟩ := h
  · unfold mBor; rw [h]
  · unfold mBor; rw [h]
theorem Hold.av {w : OB → SV} (h : Hold ρ j w o) : avOf ρ (.bor j) = some (.own o) := by
  obtain ⟨h, rfl | rfl⟩ := h
  · unfold avOf; dsimp only; rw [h]
  · unfold avOf; dsimp only; rw [h]
theorem Hold.ob {w : OB → SV} (h : Hold ρ j w (.ob C ns xs)) : obO ρ j C = some (ns, xs) := by
  unfold obO
  rw [h.own]
  show (if C = C then some (ns, xs) else none) = _
  rw [if_pos rfl]
theorem fld_of {w : OB → SV} (h : Hold ρ j w (.ob C ns xs)) (hl : lookF ns xs f = some v) : mFld C j f ρ = .ok (.val v, ρ) := by
  unfold mFld
  rw [h.ob, liftO_some, Res.bind_ok]
  dsimp only
  rw [hl]
  rfl
theorem putFld_of {w : OB → SV} (h : Hold ρ j w (.ob C ns xs)) (hn : ns.length < 1000) : putFld C j f v ρ = some (ρ.set j (some (w (.ob C (putNs ns f) (putVs ns xs f v))))) := by
  unfold putFld
  rw [h.ob]
  show (if ns.length < 1000 then _ else _) = _
  rw [if_pos hn, h.setC]
theorem putf_of {w : OB → SV} (h : Hold ρ1 j w (.ob C ns xs)) (hm : m ρ = .ok (.val v, ρ1)) (hn : ns.length < 1000) : mPutFld C j f m ρ = .ok (.nx, ρ1.set j (some (w (.ob C (putNs ns f) (putVs ns xs f v))))) := by
  have e : mOp m ρ = .ok (.val v, ρ1) := by unfold mOp; rw [hm]; rfl
  unfold mPutFld
  rw [e, Res.bind_ok]
  show (liftO (putFld C j f v ρ1)).bind _ = _
  rw [putFld_of h hn]
  rfl
theorem augf_of {w : OB → SV} {h2 : PV → PV → Option RV} {a b : PV} (h : Hold ρ j w (.ob C ns xs)) (hl : lookF ns xs f = some a) (hm : m ρ = .ok (.val b, ρ)) (hf : h2 a b = some (.val v)) (hn : ns.length < 1000) : mAugFld C j f h2 m ρ = .ok (.nx, ρ.set j (some (w (.ob C (putNs ns f) (putVs ns xs f v))))) := by
  have e : mOp m ρ = .ok (.val b, ρ) := by unfold mOp; rw [hm]; rfl
  unfold mAugFld
  rw [h.ob, liftO_some, Res.bind_ok]
  dsimp only
  rw [hl, liftO_some, Res.bind_ok, e, Res.bind_ok]
  show (liftO (h2 a b)).bind _ = _
  rw [hf]
  show (liftO (putFld C j f v ρ)).bind _ = _
  rw [putFld_of h hn]
  rfl
theorem lone_first (j : Nat) (ps : List PV) : lone (.bor j :: ps.map RV.val) = true := by
  have e : (ps.map RV.val).filterMap RV.bor? = [] := by
    induction ps with
    | nil => rfl
    | cons p ps ih => exact ih
  unfold lone
  rw [List.filterMap_cons_some (show RV.bor? (.bor j) = some j from rfl), e]
  simp
theorem backs_first {w : OB → SV} (h : Hold ρ j w o) (ps : List PV) : backs ρ (.bor j :: ps.map RV.val) (some o' :: outs) = ρ.set j (some (w o')) := by
  unfold backs
  apply List.ext_getElem?
  intro i
  rw [List.getElem?_mapIdx]
  by_cases hi : i = j
  · subst hi
    have hl : i < ρ.length := (List.getElem?_eq_some_iff.mp h.1).1
    rw [h.1, List.getElem?_set, if_pos rfl, if_pos hl]
    have e : findArg i (.bor i :: ps.map RV.val) = some 0 := by
      unfold findArg
      rw [if_pos (show RV.bor? (.bor i) = some i from rfl)]
    show some (match findArg i (.bor i :: ps.map RV.val) with | some k => back1 (some (w o)) ((some o' :: outs)[k]?).join | none => some (w o)) = _
    rw [e]
    obtain ⟨_, rfl | rfl⟩ := h
    · rfl
    · rfl
  · rw [List.getElem?_set_ne (Ne.symm hi)]
    have e : findArg i (.bor j :: ps.map RV.val) = none := by
      unfold findArg
      rw [if_neg (show ¬ RV.bor? (.bor j) = some i from fun z => hi (Option.some.inj z).symm), findArg_vals]
      rfl
    cases es : ρ[i]? with
    | none => rfl
    | some s =>
      show some (match findArg i (.bor j :: ps.map RV.val) with | some k => back1 s ((some o' :: outs)[k]?).join | none => s) = _
      rw [e]
/-- f(x, ..) that changes x's object -/
theorem call_first {w : OB → SV} (h : Hold ρ j w o) (ha : ma ρ = .ok (ps.map RV.val, ρ)) (hg : g (.own o :: ps.map AV.val) = .ok (r, some o' :: outs)) : mCall g (mACons (mBor j) ma) ρ = .ok (r, ρ.set j (some (w o'))) := by
  have e : mACons (mBor j) ma ρ = .ok (.bor j :: ps.map RV.val, ρ) := by
    unfold mACons mOp
    rw [h.bor, Res.bind_ok, Res.bind_ok]
    dsimp only
    rw [ha]
    rfl
  have ea : avsOf ρ (.bor j :: ps.map RV.val) = some (.own o :: ps.map AV.val) := by
    show (avOf ρ (.bor j)).bind _ = _
    rw [h.av, avs_vals]
    rfl
  unfold mCall
  rw [e, Res.bind_ok]
  dsimp only
  rw [lone_first, if_pos rfl, ea, liftO_some, Res.bind_ok, hg, Res.bind_ok]
  dsimp only
  rw [backs_first h]
theorem meth_of {w : OB → SV} (h : Hold ρ j w (.ob C ns xs)) (hm : mm ∉ ns) (ha : ma ρ = .ok (ps.map RV.val, ρ)) (hg : g (.own (.ob C ns xs) :: ps.map AV.val) = .ok (r, some o' :: outs)) : mMeth C mm g j ma ρ = .ok (r, ρ.set j (some (w o'))) := by
  unfold mMeth
  rw [h.ob, liftO_some, Res.bind_ok]
  dsimp only
  rw [if_neg hm]
  exact call_first h ha hg
theorem asgt_of {gt : MG} {ρ2 : Env} (h : m ρ = .ok (.val v, ρ1)) (hg : gt v ρ1 = some ρ2) : mAsgT gt m ρ = .ok (.nx, ρ2) := by
  have e : mOp m ρ = .ok (.val v, ρ1) := by unfold mOp; rw [h]; rfl
  unfold mAsgT
  rw [e, Res.bind_ok]
  show (liftO (gt v ρ1)).bind _ = _
  rw [hg]
  rfl
end
end Pu

set_option Elab.async false
set_option linter.all false
set_option maxRecDepth 100000
/-! Pu20: bytes((one,)).decode('ascii'). -/
namespace Pu
open PySem PySem.Spec PyProof.Rows L2 PySem.W PySem.Calls Builtin
section
variable {c : UInt8} {t t2 : Tok}
theorem asc_entry : «bytes.decode» ⟨[.bytes #[c] t, .str (PySem.Str.ofString "ascii") t2], []⟩ = (mkStr (PySem.Str.ofString "utf-8") >>= fun _ => mkStr (PySem.Str.ofString "ascii") >>= fun e => mkStr (PySem.Str.ofString "bytes.decode") >>= fun d =>
    call (.builtin "_codecs.decode.text") [.bytes #[c] t, e, .none, d] >>= fun v => ret v) := by kernel_rfl
theorem asc_road {id : String} {b : Array UInt8} : _codecs.decodeRoad id b (PySem.Str.ofString "ascii") none [] = (_codecs.runDecoder id _codecs.asciiDecoder none true b 0 [] >>= fun r => mkStr ⟨r.1⟩) := by kernel_rfl
theorem asc_found {b : Array UInt8} {p : Nat} (h : (b.getD p 0).toNat < 128) : _codecs.asciiDecoder.find true b p = .text [(b.getD p 0).toNat] (p + 1) := by
  show (if (b.getD p 0).toNat < 128 then _ else _) = _
  rw [if_pos h]
  rfl
theorem asc_run {b : Array UInt8} (ha : ∀ p, p < b.size → (b.getD p 0).toNat < 128) (hz : b.size ≤ 16777216) (id : String) :
    _codecs.runDecoder id _codecs.asciiDecoder none true b 0 [] = pure ((b.toList.map UInt8.toNat).toArray, b.size) := by
  have big : ∀ p, ¬ ((KBdo.out b p).size > sizeLine) := fun p => by
    have h := KBdo.out_size b p
    rw [sizeLine_eq]
    omega
  unfold _codecs.runDecoder
  refine (KBdo.loop_bind (mk := fun p => ((p, KBdo.out b p, ({} : _codecs.Faults)) : Nat × Array Nat × _codecs.Faults)) (n := b.size) (fun x p hp => ?_)).trans ?_
  · simp only [if_neg (big p), if_neg (Nat.not_le.mpr hp), asc_found (ha p hp), KBdo.out_next hp]
  · show pure (KBdo.out b b.size, b.size) = _
    rw [KBdo.out_whole]
theorem args_dec2 (a b : Value) : argsOk "bytes.decode" ⟨[a, b], []⟩ := by
  unfold argsOk; rw [signature?_of (id := "bytes.decode") (n := ['e', 'd', 'o', 'c', 'e', 'd']) (o := ['s', 'e', 't', 'y', 'b']) (by kernel_rfl) FB.owner_bytes]; kernel_rfl
theorem asc_text {b : Array UInt8} {t1 t2 t3 : Tok} {x : PySem.Str} {n : Nat} {d : PySem.Str} (hd : ∀ id, _codecs.runDecoder id _codecs.asciiDecoder none true b 0 [] = pure (x.cps, n)) :
    Meets («_codecs.decode.text» ⟨[.bytes b t3, .str (PySem.Str.ofString "ascii") t1, .none, .str d t2], []⟩) (fun _ R s => x.length ≤ sizeLine ∧ R (.ok (.ret (.str x s.toks))) { s with toks := s.toks + 1 }) := by
  refine .of_wp fun prog w A R s hS => ?_
  obtain ⟨hsz, h⟩ := hS
  show wpAny _ _ (Bytes.bytesLike _ (.bytes b t3) >>= fun r => _) _ _ s
  refine wpAny_bind (wpAny_of_eq KBd.like_eq ?_)
  refine wpAny_bind (wpAny_of_eq KBd.held_eq ?_)
  show wpAny _ _ (_codecs.decodeRoad _ b (PySem.Str.ofString "ascii") none [] >>= fun v => _) _ _ s
  rw [asc_road, hd]
  refine wpAny_bind (wpAny_bind (wpAny_pure ?_))
  exact wpAny_mkStr (wpAny_pure ⟨_, rfl, h⟩) hsz
theorem asc_decode (hc : c.toNat < 128) : Meets («bytes.decode» ⟨[.bytes #[c] t, .str (PySem.Str.ofString "ascii") t2], []⟩) (fun _ R s => ∀ t' k, R (.ok (.ret (.str ⟨#[c.toNat]⟩ t'))) { s with toks := k }) := by
  refine .of_wp fun prog w A R s h => ?_
  have hd : ∀ id, _codecs.runDecoder id _codecs.asciiDecoder none true #[c] 0 [] = pure ((⟨#[c.toNat]⟩ : PySem.Str).cps, 1) := fun id => by
    refine (asc_run (b := #[c]) (fun p hp => ?_) (by simp) id).trans rfl
    have : p = 0 := by simpa using hp
    subst this
    exact hc
  rw [asc_entry]
  refine wpAny_bind (wpAny_mkStr ?_ (by decide))
  refine wpAny_bind (wpAny_mkStr ?_ (by decide))
  refine wpAny_bind (wpAny_mkStr ?_ (by decide))
  exact wpAny_bind (call_function_meets KBd.kind_text KBd.plain_text KBd.entry_text (KBd.args_text _ _ _ _) (asc_text hd) ⟨by rw [sizeLine_eq]; exact (by decide : 1 ≤ 16777216), wpAny_pure ⟨_, rfl, h _ _⟩⟩)
end
section
variable {X : Cx}
/-- b.decode('ascii'), one octet below 128 -/
theorem mt_asc : MtR X "bytes.decode" (fun x xs H Q => ∃ c : UInt8, x = .byt #[c] ∧ xs = [.str (PySem.Str.ofString "ascii")] ∧ c.toNat < 128 ∧ Q (.str ⟨#[c.toNat]⟩) H) := by
  intro pins s σ H x xs v us Q I rx rs h
  obtain ⟨c, rfl, rfl, hc, q⟩ := h
  obtain ⟨t, rfl⟩ := (show ∃ t, v = Value.bytes #[c] t from rx)
  obtain ⟨u, rfl, t2, rfl⟩ := vals1 rs
  exact call_meets FB.slot_bytes_decode (typeIs_bytes _ _ _) FB.entry_bytes_decode (args_dec2 _ _) (asc_decode hc) fun t' k => ⟨.str _, H, I.tok _, ⟨_, rfl⟩, q⟩
variable {o e : Expr} {es : List Expr} {to : TE} {t : TA} {name : Str} {apos cpos : Pos} {id : String} {r : V → List V → Hp → VK → Prop}
theorem pe_bmB (pa : PlainAttrs "bytes") (slot : Slot "bytes" name id) (hty : typeOf (.builtin id) = pure (.type "method_descriptor")) (hm : MtR X id r) (ho : PE X o to) (ha : PA X (e :: es) t)
    (hbase : attributeBase o name X.env (eval o X.env) = eval o X.env := by rfl)
    (hfew : ((backTo cpos (starEach (e :: es) X.env)).all (fun x => !x.1) && (backToKw cpos (keywordEach [] X.env)).all (fun x => x.1.isSome)
      && decide ((e :: es).length + ([] : List Keyword).length + (if ([] : List Keyword).isEmpty then 0 else 1) < 30)) = true := by rfl)
    (hline : (apos.endLine == cpos.line) = true := by rfl) (hs : starEach (e :: es) X.env = (false, eval e X.env) :: starEach es X.env := by rfl) (hplain : (backTo cpos (starEach es X.env)).any (·.1) = false := by rfl) :
    PE X (.Call (.Attribute o name apos) (e :: es) [] cpos) (fun σ H Q => to σ H fun x H1 => (∃ b, x = .byt b) ∧ t σ H1 fun xs H2 => r x xs H2 Q) := by
  refine ⟨fun pins s σ H Q I h => ?_⟩
  refine wpAny_Call_method_late hbase hfew hline rfl (thn (ho.run pins s σ H _ I h) fun v s1 ⟨x, H1, I1, r1, ty, q1⟩ => ?_)
  obtain ⟨b, rfl⟩ := ty
  obtain ⟨tk, rfl⟩ := (show ∃ t, v = Value.bytes b t from r1)
  refine ⟨"bytes", id, pa, slot, hty, typeIs_bytes _ _ _, (fun a z => nomatch z), ?_⟩
  have hA := ha.run cpos pins s1 σ H1 _ I1 q1
  rw [hs] at hA ⊢
  refine Calls.callWith_builtin (by show (false || (backTo cpos (starEach es X.env)).any (·.1)) = false; rw [hplain] <;> rfl) (Calls.evalArgs_plain ?_)
  exact thn hA fun us s2 ⟨vs, H2, I2, r2, q2⟩ => hm pins s2 σ H2 (.byt b) vs _ us Q I2 r1 r2 q2
end
/-- bytes((e,)).decode('ascii') -/
def mAsc (m : M) : M := fun ρ => (mOp m ρ).bind fun p => (liftO p.1.int?).bind fun i => if 0 ≤ i ∧ i < 128 then .ok (.val (.str ⟨#[i.toNat]⟩), p.2) else .bad
section
variable {X : Cx} {W : WX} {e : Expr} {m : M} {p1 p2 p3 p4 apos cpos : Pos} {k j : Nat}
theorem SE.asc (he : SE X W e m) (hg : Gl X "bytes") (hm : X.mg "bytes" = none) (hc : X.calm = true)
    (hline : (apos.endLine == cpos.line) = true := by rfl) (hs0 : starEach [e] X.env = (false, eval e X.env) :: starEach [] X.env := by rfl) :
    SE X W (.Call (.Attribute (.Call (.Name "bytes" p1) [.Tuple [e] k p2] [] p3) "decode" apos) [.Constant (.str "ascii") j p4] [] cpos) (mAsc m) :=
  PE.imp (pe_bmB FB.plainAttrs_bytes FB.slot_bytes_decode FB.type_bytes_decode mt_asc (pe_callTy (call_bytes_tup hc) hg hm bt_bytes (SA.cons (W := W) (SE.tup (SA.cons he SA.nil hs0)) SA.nil)) (SA.cons (W := W) SE.str SA.nil) (hline := hline)) fun σ H Q ⟨ρ, F, R, q⟩ => by
    have key : mACons (mTup (mACons m mANil)) mANil ρ = (mOp m ρ).bind fun p => (liftO p.1.val?).bind fun x => .ok ([.val (.tup [x])], p.2) := by
      unfold mACons mANil mTup mOp
      dsimp only
      cases m ρ with
      | exc x => rfl
      | bad => rfl
      | ok p =>
        obtain ⟨r, ρ1⟩ := p
        cases r <;> rfl
    refine ⟨ρ, F, R, ?_⟩
    rw [key]
    have q' : Ok W ρ σ F H (mOp m ρ) _ := q.of_bind
    cases h : mOp m ρ with
    | exc x => rw [h] at q'; exact q'
    | bad => rw [h] at q'; exact q'
    | ok p =>
      rw [h] at q'
      obtain ⟨i, ei, q2⟩ := Ok.lift (show Ok W ρ σ F H ((liftO p.1.int?).bind _) _ from q')
      have er := int?_inv ei
      by_cases hi : 0 ≤ i ∧ i < 128
      · rw [if_pos hi] at q2
        have q2 : ∀ v F' H', ES X.K ρ σ F H p.2 σ F' H' → RepR X.K (Free H) F' H' p.2 σ (.val (.str ⟨#[i.toNat]⟩)) v → Q v H' := q2
        show Ok W ρ σ F H ((liftO p.1.val?).bind fun x => .ok ([RV.val (.tup [x])], p.2)) _
        rw [er]
        intro vs F1 H1 es1 qs
        cases qs with
        | cons r1 r2 =>
          cases r2
          have r1 : RepV X.K F1 (.tup [.int i]) _ := r1
          unfold RepV at r1
          obtain ⟨a, ws, rfl, s, rw1⟩ := r1
          obtain ⟨w, t, rfl, rw2, rw3⟩ := rw1.cons_inv
          rw [rw3.nil_inv, repI rw2] at s
          have hc8 : i.toNat.toUInt8.toNat = i.toNat := by
            simp
            omega
          refine ⟨a, [i], rfl, .of (es1.rel.fh.tup s), fun n hn => ?_, ⟨_, rfl⟩, p.2, F1, es1.rel, ?_⟩
          · have : n = i := by simpa using hn
            subst this
            exact ⟨hi.1, by omega⟩
          · refine fun vs2 F2 H2 es2 qs2 => ?_
            cases qs2 with
            | cons t1 t2 =>
              cases t2
              have t1 : RepV X.K F2 (.str "ascii") _ := t1
              unfold RepV at t1
              subst t1
              refine ⟨i.toNat.toUInt8, rfl, rfl, by rw [hc8]; omega, ?_⟩
              rw [hc8]
              exact q2 _ F2 H2 (es1.trans es2) (show RepV _ _ _ _ by unfold RepV; rfl)
      · rw [if_neg hi] at q2
        exact q2.elim
end
end Pu

set_option Elab.async false
set_option linter.all false
set_option maxRecDepth 100000
/-! Pu21: defs and methods as the law's head finds them. -/
namespace Pu
open PySem PySem.Spec PyProof.Rows L2
section
variable {K : PySem.W.Frag} {h : Heap} {mg : Str → Option Value} {x qual : Str} {st : Stmt} {ps : List Str} {f C : Addr} {oc : Value} {od an : Option Addr} {osl : Array (Option Value)} {kV doc pm cdv ct : Value}
def FnF.of (X : K.In h) (G : h.Ns mainGlobals mg) (a : PySem.W.nsIn K mainGlobals x = some (some (.ref f))) (l : K.lookup f = some ⟨oc, od, .func (PySem.W.fnOf x qual (defArgs st) (defBody st) (defScope st) .none kV doc pm an cdv ct), osl⟩)
    (c : PySem.W.codeIn K cdv qual = true) (k : PySem.W.keepIn K (.ref f) = true)
    (hb : ∀ (kV doc pm : Value) (an : Option Addr) (cdv ct : Value) (us : List Value), us.length = ps.length → bindArgs (PySem.W.fnOf x qual (defArgs st) (defBody st) (defScope st) .none kV doc pm an cdv ct) ⟨us, []⟩ = pure (ps.zip us)) : FnF K mg x qual st ps :=
  ⟨f, _, fun_mk l c k, PySem.W.mg_of X G a, (fun_mk l c k).binds hb⟩
def FnM.of (a : PySem.W.findIn K (.ref C) x = some (some (.ref f))) (i : PySem.W.isFn K (.ref f) = true) (l : K.lookup f = some ⟨oc, od, .func (PySem.W.fnOf x qual (defArgs st) (defBody st) (defScope st) .none kV doc pm an cdv ct), osl⟩)
    (c : PySem.W.codeIn K cdv qual = true) (k : PySem.W.keepIn K (.ref f) = true)
    (hb : ∀ (kV doc pm : Value) (an : Option Addr) (cdv ct : Value) (us : List Value), us.length = ps.length → bindArgs (PySem.W.fnOf x qual (defArgs st) (defBody st) (defScope st) .none kV doc pm an cdv ct) ⟨us, []⟩ = pure (ps.zip us)) : FnM K C x qual st ps :=
  ⟨f, _, fun_mk l c k, ⟨a, i, k⟩, (fun_mk l c k).binds hb⟩
end
end Pu

set_option Elab.async false
set_option linter.all false
set_option maxRecDepth 100000
set_option maxHeartbeats 4000000
/-! Pu22: an own error over own errors over ValueError whose __init__ says super().__init__(x), then self.f = x. -/
namespace Pu
open PySem PySem.Spec PyProof.Rows L2 PySem.W PySem.HandSPX
/-- the body of such an __init__ -/
def supBody (f x : Str) (p0 p1 p2 p3 p4 p5 p6 p7 p8 p9 : Pos) : List Stmt :=
  [.Expr (.Call (.Attribute (.Call (.Name "super" p0) [] [] p1) "__init__" p2) [.Name x p3] [] p4) p5, .Assign [.Attribute (.Name "self" p6) f p7] (.Name x p8) p9]
/-- the call of super's __init__, as it runs -/
def SupEv (x : Str) (p0 p1 p2 p3 p4 : Pos) (env : PySem.Env) : Prop := ∃ pl : Sem Bool, eval (.Call (.Attribute (.Call (.Name "super" p0) [] [] p1) "__init__" p2) [.Name x p3] [] p4) env = (do
      let ov ← attributeBase (.Call (.Name "super" p0) [] [] p1) "__init__" env (eval (.Call (.Name "super" p0) [] [] p1) env)
      standAt p2.atName
      let (f, first) ← holding [ov] (getMethod ov "__init__" pl)
      callWith p4 f first (backTo p4 (starEach [.Name x p3] env)) [])
structure SupEnv (f x : Str) (p0 p1 p2 p3 p4 p5 p6 p7 p8 p9 : Pos) (env : PySem.Env) : Prop where
  ev : SupEv x p0 p1 p2 p3 p4 env
  ia : interactive env = false
  s1 : swapsWith (.Call (.Attribute (.Call (.Name "super" p0) [] [] p1) "__init__" p2) [.Name x p3] [] p4) none p5.line env = pure false
  s2 : swapsWith (.Name x p8) (some (.Attribute (.Name "self" p6) f p7)) p9.line env = pure false
  st : starEach [.Name x p3] env = (false, eval (.Name x p3) env) :: starEach [] env
  pl : (backTo p4 (starEach [] env)).any (·.1) = false
  bk : backTo p4 (starEach [.Name x p3] env) = (false, eval (.Name x p3) env) :: backTo p4 (starEach [] env)
  nl : backTo p4 (starEach [] env) = []
/-- what the head finds of the class at C -/
structure SupC (P : Program) (K : PySem.W.Frag) (C : Addr) (f x qual : Str) (fI : Addr) (fd : FuncData) : Prop where
  oex : OexC K C
  hasI : findIn K (.ref C) "__init__" = some (some (.ref fI))
  tyI : typeIn K (.ref fI) = some (.type "function")
  fn : ∃ (oc : Value) (od : Option Addr) (osl : Array (Option Value)) (params : Arguments) (scope : Scope) (dV kV doc pm ct : Value) (an : Option Addr) (cda cc : Addr) (p0 p1 p2 p3 p4 p5 p6 p7 p8 p9 : Pos),
    K.lookup fI = some ⟨oc, od, .func fd, osl⟩ ∧ fd = fnX "__init__" qual params (supBody f x p0 p1 p2 p3 p4 p5 p6 p7 p8 p9) scope [("__class__", cc)] dV kV doc pm an (.ref cda) ct ∧ codeIn K (.ref cda) qual = true ∧
    (∃ (ccl : Value) (cdd : Option Addr) (vs : Array Value) (ccs : Array (Option Value)) (file : Str) (tf : Tok), K.lookup cda = some ⟨ccl, cdd, .fields vs, ccs⟩ ∧ vs[2]? = some (.str file tf) ∧ ((P.main.file : Str) == file) = true) ∧
    (∃ (cl : Value) (cld : Option Addr) (csl : Array (Option Value)), K.lookup cc = some ⟨cl, cld, .cell (some (.ref C)), csl⟩) ∧
    (∃ ar : Arg, (params.posonlyargs ++ params.args).head? = some ar ∧ ar.arg = "self") ∧
    (∀ y ∈ scope.names, y.2 ≠ .cell) ∧ scope.isCoroutine = false ∧ scope.isGenerator = false ∧ scope.kind = .function ∧ scope.names.lookup ("super" : Str) = some .globalImplicit ∧ scope.names.lookup ("__class__" : Str) = some .free ∧
    scope.names.lookup ("self" : Str) = some .local ∧ scope.names.lookup x = some .local ∧ ∀ L, SupEnv f x p0 p1 p2 p3 p4 p5 p6 p7 p8 p9 (callEnv fd L fI)
  nx : x ≠ "self"
  dx : (x == ("__debug__" : Str)) = false
  bind : ∀ us : List Value, us.length = 2 → bindArgs fd ⟨us, []⟩ = pure ((["self", x] : List Str).zip us)
  top : (P.main.scope.names.lookup ("super" : Str)).isSome = false
  sup : ks_superIn K C C "__init__" = some (some (.builtin "ValueError.__init__"))
  ve : subIn K (.ref C) (.type "ValueError") = some true
  self : mroIn K C (.ref C) = some true
  any : nsIn K cStatics "thirdparty.any" = some none
  fld : findIn K (.ref C) f = some none
section
variable {P : Program} {w : World} {K : PySem.W.Frag} {C fI a : Addr} {f x qual : Str} {fd : FuncData} {A : Around} {s : Shared} {mg mb : Str → Option Value} {u : Value} {R : Result → Shared → Prop}
/-- __init__ called -/
theorem sup_init (T : SupC P K C f x qual fI fd) (X : K.In s.heap) (hg : s.heap.Ns mainGlobals mg) (ms : mg "super" = none) (hb : s.heap.Ns builtinsNs mb) (hbb : ∀ y : Str, y ≠ "__name__" → mb y = bootBuiltins y) (hlim : s.heap.NoLimit)
    (hA : A.depth < recursionLimit) (hKa : K.lookup a = none) {t0 : Addr} (ha : s.heap.get? a = some (excO C t0))
    (hR : ∀ h' dx t1 tk, (∀ b o, b ≠ a → s.heap.get? b = some o → h'.get? b = some o) → s.heap.objs.size ≤ dx → dx ≠ a → h'.get? a = some ({ cls := .ref C, dict := some dx, data := .fields #[.ref t1, .none, .none, .none, .bool false, .none] } : Obj) →
      h'.Ns1 dx (fun y => if y = f then some u else none) → R (.ok (.ret .none)) { s with heap := h', toks := tk }) :
    codeAny (model P w) A (.call (.ref fI) ⟨[.ref a, u], []⟩) R s := by
  obtain ⟨oc, od, osl, params, scope, dV, kV, doc, pm, ct, an, cda, cc, p0, p1, p2, p3, p4, p5, p6, p7, p8, p9, lk, rfl, hcd, ⟨ccl, cdd, vs, ccs, file, tf, hcode, hvs, hfile⟩, ⟨cl, cld, csl, hcell⟩, ⟨ar, hpar, har⟩, hnc, hco, hgen, hk, hks, hkc, hself, hx, hev⟩ := T.fn
  obtain ⟨nm, q, N, bs, bm, sn, sub, ab, col, dd, k0, k1, k2, k3, k5, hC, hbm⟩ := T.oex.cls
  have hclsC : clsIn K C = some { name := nm, bases := bs, mro := .ref C :: bm, ns := N, qualname := q, hasDict := true, slotNames := sn, subclasses := sub, abstract := ab, collection := col, hasDel := false } := by unfold clsIn; rw [hC] <;> rfl
  have hbind := T.bind [.ref a, u] rfl
  refine ks_codeAny_call_defAt (binds := (["self", x] : List Str).zip [.ref a, u]) hA (X _ _ lk) rfl hlim (codeRec_of X hcd) rfl (.of_eq hbind) hnc (fun y hy => ?_) (fun h₀ hns hk₁ => ?_) hco hgen hk
  · simp only [List.zip_cons_cons, List.zip_nil_right, List.mem_cons, List.not_mem_nil, or_false] at hy
    rcases hy with rfl | rfl
    · exact hself
    · exact hx
  have X0 : K.In h₀ := fun b o e => hk₁ b o (X b o e)
  have look_self : (fun y => (((["self", x] : List Str).zip [Value.ref a, u]).reverse.lookup y)) ("self" : Str) = some (Value.ref a) := by
    have e : (("self" : Str) == x) = false := by simpa using fun z => T.nx z.symm
    show List.lookup ("self" : Str) [(x, u), ("self", Value.ref a)] = _
    simp [List.lookup, e]
  have look_x : (fun y => (((["self", x] : List Str).zip [Value.ref a, u]).reverse.lookup y)) x = some u := by
    show List.lookup x [(x, u), ("self", Value.ref a)] = _
    simp [List.lookup]
  generalize hm : (fun y => (((["self", x] : List Str).zip [Value.ref a, u]).reverse.lookup y)) = m at hns look_self look_x
  generalize hL : s.heap.objs.size = L at hns hR
  have haL : a ≠ L := by rw [← hL]; exact Nat.ne_of_lt (Heap.lt_size ha)
  have hsL : ∀ {b : Addr} {o : Obj}, s.heap.get? b = some o → b ≠ L := fun e => by rw [← hL]; exact Nat.ne_of_lt (Heap.lt_size e)
  have ha0 := hk₁ a _ ha
  have hC0 := X0 C _ hC
  obtain ⟨hp, g, d, tk, os⟩ := s
  show _root_.PySem.wpAt _ _ _ _ _ _ ⟨h₀, g, d, tk + _, os⟩
  generalize tk + _ = tk1
  -- super()
  have SE := hev L
  obtain ⟨pl, hpl⟩ := SE.ev
  refine ks_wpAt_execs_cons (ks_wpAt_Expr_any (hi := SE.ia) (hs := SE.s1) (ks_wpAt_MethodCall (he := hpl) (ks_wpAt_super_base hks hkc rfl rfl (X0 _ _ lk) rfl hpar rfl (X0 _ _ hcode) rfl hvs hfile T.top ?_)))
  refine ks_loadName_global hk hks (PySem.Calls.loadGlobal_builtin (hg.keeps hk₁) ms (hb.keeps hk₁) ((hbb _ (by decide +kernel)).trans (by decide +kernel)) ⟨rfl, ?_⟩)
  refine wpAny_loadName_free hk hkc rfl ⟨_, X0 _ _ hcell, rfl⟩ ?_
  refine wpAny_loadName_local hk (by rw [har]; exact hself) hns (by rw [har]; exact look_self) ?_
  refine ks_wpAny_isType_cls hC0 rfl ⟨rfl, ?_⟩
  refine ks_wpAny_call_super hC0 rfl ha0 rfl (fun c e => nomatch e) (looks_mroIn X0 T.self) (fun h1 hso k1 => ?_)
  have X1 : K.In h1 := fun b o e => k1 b o (X0 b o e)
  have hxC : a ≠ C := fun z => by
    rw [z] at ha0
    rw [hC0] at ha0
    cases ha0
  have hal : alongIn K "__init__" (((Value.ref C :: bm).dropWhile (· != .ref C)).drop 1) = some (some (.builtin "ValueError.__init__")) := by
    have := T.sup
    unfold ks_superIn at this
    rw [hclsC] at this
    exact this
  have ha1 := k1 a _ ha0
  have hI1 : InstAt h1 a (excO C t0) C none := ⟨ha1, rfl, rfl, trivial⟩
  -- .__init__
  refine kxs_getMethod kxs_ValueError hso (looks_opaque X1 T.any) (l₀ := .ref C :: bm) (fun A' Q' E' s' k' q' => wpAny_bind ((looks_clsIn X1 hclsC) A' _ E' s' k' (wpAny_pure q'))) rfl X1 hal (hI1.type.andThen (looks_subIn X1 T.ve)) hxC rfl ?_
  generalize hh2 : h1.push (kxs_mw "ValueError.__init__" a) = h2
  have k2 : ∀ b o, h1.get? b = some o → h2.get? b = some o := fun b o e => by rw [← hh2]; exact Heap.get?_push_of_some _ e
  have hu2 : h2.get? h1.objs.size = some (kxs_mw "ValueError.__init__" a) := by rw [← hh2]; exact Heap.get?_push_at rfl rfl
  generalize h1.objs.size = mw at hu2
  have X2 : K.In h2 := fun b o e => k2 b o (X1 b o e)
  have hns2 : h2.Ns L m := (hns.keeps k1).keeps k2
  have hC2 := X2 C _ hC
  have ha2 := k2 a _ ha1
  show wpAny _ _ (callWith p4 (.ref mw) [] (backTo p4 (starEach [.Name x p3] _)) []) _ _ _
  rw [SE.bk, SE.nl]
  refine kxs_callWith (i := "ValueError.__init__") (x := a) rfl (PySem.Calls.evalArgs_plain (PySem.Calls.spliced_cons (wpAny_Name (wpAny_loadName_local hk hx hns2 look_x (PySem.Calls.spliced_nil ⟨hu2, ?_⟩)) T.dx)))
  refine wpAny_call (codeAny_of_tree ?_)
  show wpAny _ _ (callAny (.ref mw) ⟨[u], []⟩) _ _ _
  simp only [callAny]
  refine wpAny_bind (wpAny_load hu2 ?_)
  simp only [kxs_mw, show (Value.type "method-wrapper" == Value.type "method" || Value.type "method-wrapper" == Value.type "builtin_function_or_method" || Value.type "method-wrapper" == Value.type "method-wrapper") = true by decide, if_true]
  refine KFB.if_so (by decide) ?_
  refine wpAny_bind (check_bound_init F.excBase_ValueError.toExcCallFacts hC2 ha2 rfl ?_)
  refine wpAny_bind (wpAny_pure (wpAny_pure ?_))
  refine ⟨plainId_quiet F.excBase_ValueError.init.plain _, codeAny_builtin F.excBase_ValueError.initEntry ?_⟩
  refine exc_init_tree (cls := .ref C) (t0 := t0) (dv := none) (c2 := .none) (c3 := .none) (b4 := .bool false) ha2 (by show 1 ≤ sizeLine; decide) fun h3 k3 ha3 _ => ?_
  have X3 : K.In h3 := fun b o e => k3 b o (fun z => by rw [z, hKa] at e; cases e) (X2 b o e)
  have hns3 : h3.Ns L m := hns2.at fun o e => k3 L o haL.symm e
  -- self.f = x
  refine ks_wpAt_execs_cons (wpAt_of_wpAny (plainObj_wpAny_Assign_Attribute (hs := SE.s2) (wpAny_Name (wpAny_loadName_local hk hx hns3 look_x (wpAny_Name (wpAny_loadName_local hk hself hns3 look_self ?_) (by decide))) T.dx)))
  refine set_plain X3 (ox := { cls := .ref C, dict := none, data := .fields #[.ref h2.objs.size, .none, .none, .none, .bool false, .none] }) (od := none) ⟨ha3, rfl, rfl, trivial⟩ T.oex.sa ?_
  refine exc_osa X3 ha3 hclsC (show refsVE (.ref C :: bm) = true from hbm) rfl T.fld (fun h4 tk4 dx k4 dn dne hx4 hn4 => ?_)
  have hL3 : L ≤ dx := by
    obtain ⟨oL, _, _, eL, _⟩ := hns3
    exact Nat.le_trans (Nat.le_of_lt (Heap.lt_size eL)) dn
  refine wpAt_of_wpAny (wpAny_execs_nil ?_)
  exact hR h4 dx _ tk4 (fun b o hb e => k4 b o hb (k3 b o hb (k2 b o (k1 b o (hk₁ b o e))))) hL3 dne hx4 hn4
end
section
variable {X : Cx} {C fI : Addr} {f x qual xC : Str} {fd : FuncData} {e : Expr} {ta : TA} {p pos : Pos}
/-- C(e): the error's dict is new -/
def tSup (C : Addr) (f : Str) (ta : TA) : L2.St → Hp → XK → Prop := fun σ H Q => ta σ H fun vs H1 => ∃ v, vs = [v] ∧ ∀ d, H1 d = none → Q (.ref C) (some d) (upd H1 d (.xd [(f, v)]))
theorem pmk_sup (T : SupC X.prog X.K C f x qual fI fd) (hg : Gl X xC) (hm : X.mg xC = some (.ref C)) (ms : X.mg "super" = none) (hr : Room 2 X.A) (ha : PA X [e] ta)
    (hdb : (xC == ("__debug__" : Str)) = false := by decide) (he : starEach [e] X.env = (false, eval e X.env) :: starEach [] X.env := by rfl) (hpl : (backTo pos (starEach [] X.env)).any (·.1) = false := by rfl) :
    PMk X (.Call (.Name xC p) [e] [] pos) (tSup C f ta) := by
  intro pins s σ H Q I h
  obtain ⟨nm, q, N, bs, bm, sn, sub, ab, col, dd, k0, k1, k2, k3, k5, hC, hbm⟩ := T.oex.cls
  refine wpAny_Call_Name_kw (ld_glob I hg hm ?_ hdb)
  refine callWith_K (h₀ := X.base) I.ok.mod.kin T.oex.kC (thn (ha.run pos pins s σ H _ I h) fun us s1 ⟨vs, H1, I1, r1, v, ev, q1⟩ => ⟨I1.kIn, ?_⟩) he hpl
  subst ev
  cases r1 with
  | @cons _ u0 _ ur ru rr =>
  cases rr
  show wpAny _ _ (call (.ref C) [u0]) _ _ _
  obtain ⟨hp, g, dr, tk, os⟩ := s1
  have hsz : hp.objs.size ≤ hp.objs.size + 1 := Nat.le_succ _
  have hn : H1 (hp.objs.size + 1) = none := I1.hok.fresh hsz
  have kk : ∀ b o, hp.get? b = some o → ((hp.push (kdv_tup [u0])).push (excO C hp.objs.size)).get? b = some o := fun b o e => Heap.get?_push_of_some _ (Heap.get?_push_of_some _ e)
  have hget : ((hp.push (kdv_tup [u0])).push (excO C hp.objs.size)).get? (hp.objs.size + 1) = some (excO C hp.objs.size) := by heap_get
  have I2 : Inv X pins σ (upd H1 (hp.objs.size + 1) (exo (hp.objs.size + 1) C none)) ⟨(hp.push (kdv_tup [u0])).push (excO C hp.objs.size), g, dr, tk, os⟩ :=
    I1.laid (t' := tk) (a := hp.objs.size + 1) (o := exo (hp.objs.size + 1) C none) (h' := (hp.push (kdv_tup [u0])).push (excO C hp.objs.size)) kk hsz (exo_ok hget)
  have hKa : X.K.lookup (hp.objs.size + 1) = none := by
    cases z : X.K.lookup (hp.objs.size + 1) with
    | none => rfl
    | some o => exact absurd (Heap.lt_size (I1.kIn _ _ z)) (Nat.not_lt.mpr (Nat.le_succ _))
  obtain ⟨mb, hmb, hbb⟩ := I2.ok.mod.blt
  refine wpAny_call (call_own F.excBase_ValueError (fun Y => refsVE_contains Y bm hbm) (I1.kIn _ _ hC) (looks_findIn I1.kIn T.hasI) (fun self => bind_fn I1.kIn self T.tyI) (by show 1 ≤ sizeLine; decide) ?_)
  generalize ha : hp.objs.size + 1 = a at *
  refine sup_init (mg := X.mg) (mb := mb) T I2.kIn (I2.ok.mod.glob.keeps I2.bk) ms (hmb.keeps I2.bk) hbb I2.nolimit (hr.make C [u0] []).depth hKa hget fun h' dx t1 tk1 k' dn dne hx hns => ?_
  refine ⟨rfl, ?_⟩
  have na : H1 a = none := hn
  have nd : H1 dx = none := I1.hok.fresh (Nat.le_trans (by show hp.objs.size ≤ ((hp.push (kdv_tup [u0])).push (excO C hp.objs.size)).objs.size; rw [Heap.size_push, Heap.size_push]; omega) dn)
  have Ha : upd H1 a (exo a C none) a = some (exo a C none) := upd_same
  have ndx : upd H1 a (exo a C none) dx = none := by rw [upd_ne dne]; exact nd
  have ha_dx : ∀ {b : Addr} {o : Obj}, ((hp.push (kdv_tup [u0])).push (excO C hp.objs.size)).get? b = some o → b ≠ dx := fun z => Nat.ne_of_lt (Nat.lt_of_lt_of_le (Heap.lt_size z) dn)
  have nn : ∀ {b : Addr}, upd H1 a (exo a C none) b = none → b ≠ a := fun {b} n z => by
    rw [z, Ha] at n
    cases n
  have U : Un (frs X.stack) [] (upd H1 a (exo a C none)) (upd (upd (upd H1 a (exo a C none)) dx (exd dx [(f, v)])) a (exo a C (some dx))) ((hp.push (kdv_tup [u0])).push (excO C hp.objs.size)) h' := {
    keep := fun b o z n _ _ => k' b o (nn n) z
    slot := fun b o z n _ _ => ⟨o.slots, k' b o (nn n) z⟩
    free := fun b o z n _ => by rw [upd_ne (nn n), upd_ne (ha_dx z)]; exact n
    there := fun b o z _ => by
      by_cases hb : b = a
      · exact ⟨_, by rw [hb]; exact hx⟩
      · exact ⟨o, k' b o hb z⟩
    tups := fun b xs z => by rw [upd_ne (at_ne Ha z exo_tup), upd_ne (ne_of_none z ndx)]; exact z
    frzs := fun b o w z => by rw [upd_ne (at_ne Ha z exo_frz), upd_ne (ne_of_none z ndx)]; exact z
    tbls := fun b ps z => ⟨#[], by rw [upd_ne (at_ne Ha z exo_tbl), upd_ne (ne_of_none z ndx), z]; simp⟩ }
  have hok2 : HOk X.prog X.w (upd (upd (upd H1 a (exo a C none)) dx (exd dx [(f, v)])) a (exo a C (some dx))) h' := fun b o z => by
    by_cases hb : b = a
    · subst hb
      rw [upd_same] at z
      cases z
      exact exo_ok hx
    · rw [upd_ne hb] at z
      by_cases hd : b = dx
      · subst hd
        rw [upd_same] at z
        cases z
        exact exd_ok hns (relO_put (fs := []) ru fun g => True.intro)
      · rw [upd_ne hd] at z
        exact (I2.hok b o z).stay (fun c w hc y => k' c w (by
            rcases hc with hc | hc
            · rw [hc]
              exact hb
            · exact at_ne Ha hc exo_own) y)
          (fun c hc => by rw [upd_ne (at_ne Ha hc exo_own), upd_ne (ne_of_none hc ndx)]; exact hc) (fun c xs hc => by rw [upd_ne (at_ne Ha hc exo_tup), upd_ne (ne_of_none hc ndx)]; exact hc)
  refine mk_end (raises_own T.oex.exC T.oex.tyC) I1 hsz kk U hok2 rfl I1.bare upd_same (by rw [upd_ne dne, upd_same]) nd ?_
  have eq : upd (del (upd (upd (upd H1 a (exo a C none)) dx (exd dx [(f, v)])) a (exo a C (some dx))) a) dx (.xd [(f, v)]) = upd H1 dx (.xd [(f, v)]) := by
    funext b
    by_cases hd : b = dx
    · rw [hd, upd_same, upd_same]
    · rw [upd_ne hd, upd_ne hd]
      by_cases hb : b = a
      · rw [hb, del_same, na]
      · rw [del_ne hb, upd_ne hb, upd_ne hd, upd_ne hb]
  rw [eq]
  exact q1 dx nd
end
end Pu

set_option Elab.async false
set_option linter.all false
set_option maxRecDepth 100000
set_option maxHeartbeats 4000000
/-! Pu23: an error that leaves from within a list comprehension. -/
namespace Pu
open PySem PySem.Spec PyProof.Rows L2 PySem.HandSPX
section
variable {M : Model} {A : Around} {E : Value → Shared → Prop} {s : Shared} {env : PySem.Env}
/-- behind the block: the names let go; an error passed on by the block's own frame -/
def postX (M : Model) (A : Around) (E : Value → Shared → Prop) (Q : Value → Shared → Prop) (acc : Value) (ce : PySem.Env) (r : Result) (s' : Shared) : Prop :=
  match r with
  | .ok _ => ∃ m, s'.heap.Ns ce.locals m ∧ ∀ h2, Heap.SameBut ce.locals s'.heap h2 → Q acc { s' with heap := h2 }
  | .error x => ∃ m, s'.heap.Ns ce.locals m ∧ ∀ h2, Heap.SameBut ce.locals s'.heap h2 → wpAny M A (PySem.passOn "comprehension.variables-let-go" x ce : Sem Value) (fun _ _ => False) E { s' with heap := h2 }
theorem comp_runX {e : Expr} {scope : Scope} {pos : Pos} {mk fst : Sem Value} {c0 : Comprehension} {cs : List Comprehension} {clo : List (Str × Addr)} {Q : Value → Shared → Prop}
    (e1 : clausesOf e = c0 :: cs) (e2 : ∀ x, foldedSetIterable c0.iter env x = pure x) (e3 : closureFor scope env = pure clo) (e4 : scope.kind = .function) (e5 : ∀ x ∈ scope.names, x.2 = .local → scope.names.lookup x.1 = some .local)
    (run : wpAny M A fst (fun x t1 => wpAny M A (pyIter x) (fun it t2 => wpAny M A mk (fun acc t3 => wpAny M A (newFunctionEnv scope env.globals clo [] env.qual none .none (some env)) (fun ce t4 =>
        codeAny M A (.compStart e 0 it acc { ce with scope := relabel scope env }) (postX M A E Q acc { ce with scope := relabel scope env }) t4) E t3) E t2) E t1) E s) :
    wpAny M A (comprehension e scope env pos mk false fst none) Q E s := by
  have loc : ∀ (ce : PySem.Env) (l : List (Str × NameKind)), (∀ x ∈ l, x ∈ scope.names) → ∀ x ∈ l, x.2 = .local → PySem.Env.kindOf { ce with scope := relabel scope env } x.1 = some .local := fun ce l hl x hx hk => lookup_relabel_local (e5 x (hl x hx) hk)
  unfold comprehension
  rw [e3, e1]
  refine wpAny_bind (wpAny_mono run (fun x t1 r1 => ?_) fun _ _ z => z)
  refine wpAny_bind (wpAny_standAt (wpAny_bind (wpAny_of_eq (e2 x) (wpAny_bind (wpAny_holding (wpAny_mono r1 (fun it t2 r2 => ?_) fun _ _ z => z))))))
  refine wpAny_standIf (wpAny_bind (wpAny_mono r2 (fun acc t3 r3 => ?_) fun _ _ z => z))
  refine wpAny_bind (wpAny_pure (wpAny_bind (wpAny_mono r3 (fun ce t4 r4 => ?_) fun _ _ z => z)))
  dsimp only
  refine wpAny_holding (wpAny_bind (wpAny_attempt (wpAny_holding (wpAny_run (codeAny_mono r4 fun r t5 hr => ?_)))))
  cases r with
  | ok f =>
    obtain ⟨m, hn, hr⟩ := hr
    refine wpAny_bind (wpAny_holding (wpAny_comp_letGo (cenv := { ce with scope := relabel scope env }) e4 _ t5 m (loc ce _ fun x hx => ?_) hn fun h2 m2 _ sb => wpAny_pure (hr h2 sb)))
    exact (List.mem_filter.mp (List.mem_reverse.mp hx)).1
  | error x =>
    obtain ⟨m, hn, hr⟩ := hr
    refine wpAny_bind (wpAny_holding (wpAny_comp_letGo (cenv := { ce with scope := relabel scope env }) e4 _ t5 m (loc ce _ fun x hx => ?_) hn fun h2 m2 _ sb => wpAny_mono (hr h2 sb) (fun _ _ f => f.elim) fun _ _ z => z))
    exact (List.mem_filter.mp (List.mem_reverse.mp hx)).1
end
/-! ### an error in the block's air is an error in the def's air -/
section
variable {M : Model} {A : Around} {E : Value → Shared → Prop} {s : Shared} {Z : Obj → Prop} {base : Heap} {env : PySem.Env} {outer : List PySem.Env} {L e : Addr}
/-- noted by another frame -/
theorem look_rawZ {fl : Value} {Q : Unit → Shared → Prop} (hZ : Steady Z) (hfr : A.frames = some (env :: outer)) (hf : env.frame = some L) (hkb : base.StaysIn s.heap) (hen : base.get? e = none) (hl : s.heap.FunFrames base (env :: outer))
    (ht : TracedZ s.heap base e Z fl) (hne : (fl == rawInt L) = false) (hQ : ∀ h', HeldZ base (env :: outer) e Z L h' → s.heap.UpToSlots h' → Q () { s with heap := h' }) : wpAny M A (noteFrame (.ref e) env) Q E s := by
  obtain ⟨oe, vs, T, oT, ts, he, hz, hd, h1, hnT, hTe, hT, hdT, h3⟩ := ht
  have off : ∀ b, b ≠ T → (s.heap.update T (Obj.mapFields (·.setIfInBounds 3 Value.none))).get? b = s.heap.get? b := fun b hb => Heap.get?_update_other _ _ fun z => hb z.symm
  have nrec : ∀ b o, s.heap.get? b = some o → (∀ vs, o.data ≠ .fields vs) → b ≠ T := fun b o hb hn z => by
    rw [z, hT] at hb
    cases hb
    exact hn ts hdT
  unfold noteFrame
  simp only [hf]
  refine wpAny_bind (wpAny_field he hd h1 ?_)
  rw [if_pos (by simp)]
  refine wpAny_bind (wpAny_field hT hdT h3 ?_)
  rw [if_neg (by rw [hne]; exact Bool.false_ne_true)]
  refine wpAny_bind (wpAny_setField hT hdT (Array.getElem?_eq_some_iff.mp h3).1 ?_)
  refine wpAny_entryZ hZ hfr (hl.of_keeps fun b o hb hn => ⟨o, (off b (nrec b o hb hn)).trans hb, rfl⟩) hf ((off e fun z => hTe z.symm).trans he) (fun b o hb => (off b fun z => by rw [z, hnT] at hb; cases hb).trans (hkb b o hb)) hen hd
    (Array.getElem?_eq_some_iff.mp h1).1 hz fun h2 hN => ?_
  obtain ⟨y1, y2, y3, y4⟩ := hN
  exact hQ h2 ⟨y1, hen, y2, y3⟩ fun b o hb hn => y4 b o ((off b (nrec b o hb hn)).trans hb) hn
theorem funFrames_at {h h' base' : Heap} : ∀ {l : List PySem.Env}, h.FunFrames base l → (∀ b ∈ frs l, h'.get? b = h.get? b ∧ base'.get? b = none) → h'.FunFrames base' l
  | [], _, _ => trivial
  | ev :: l, hh, hn => by
    obtain ⟨hk, ⟨b, o, hf, _, ho, hd⟩, hr⟩ := hh
    have q := hn b (List.mem_filterMap.mpr ⟨ev, List.mem_cons_self, hf⟩)
    exact ⟨hk, ⟨b, o, hf, q.2, q.1.trans ho, hd⟩, funFrames_at hr fun c hc => by
      obtain ⟨e, he, z⟩ := List.mem_filterMap.mp hc
      exact hn c (List.mem_filterMap.mpr ⟨e, List.mem_cons_of_mem _ he, z⟩)⟩
end
section
variable {X : Cx} {pins : List (Addr × Obj)} {σ : L2.St} {H3 : Hp} {s3 s' : Shared} {EK : XK} {scope : Scope} {cl : List (Str × Addr)} {fp : List Addr} {xe : Value → Shared → Prop} {u acc : Value} {Q : Value → Shared → Prop}
theorem air_out (hs : X.stack = X.env :: X.outer) (hf : X.env.frame = some X.env.locals) (tk : Takes X fun cls d _ H => EK cls d H) (I3 : Inv X pins σ H3 s3) (f3 : ∀ b ∈ fp, FpOk X pins H3 b ∧ b < s3.heap.objs.size)
    (x : XE ((X.blk s3 H3 scope (compEnvC scope cl s3.heap.objs.size X.env) fp).wish xe) (fun cls d _ H => EK cls d H) u s') :
    notedBy (model X.prog X.w) X.A (compEnvC scope cl s3.heap.objs.size X.env) (fun e t => postX (model X.prog X.w) X.A X.xe Q acc (compEnvC scope cl s3.heap.objs.size X.env) (.error e) t) u s' := by
  obtain ⟨a, B, sI, pI, σI, HI, cls, d, rfl, II, nb, up, sky, na, os, ag, wish⟩ := x
  have hfr : X.A.frames = some (X.env :: X.outer) := by rw [I3.ok.frames, hs]
  have nb : ∀ b o, sI.heap.get? b = some o → b ∉ frs X.stack → B.get? b = some o := nb
  have sky : Sky B (X.env :: X.outer) a (Zc cls d) s3.heap.objs.size s'.heap := by rw [← hs]; exact sky
  obtain ⟨mC, nsC, _⟩ := II.loc
  have nsC : sI.heap.Ns s3.heap.objs.size mC := nsC
  have hCfr : s3.heap.objs.size ∉ frs X.stack := fun z => by
    obtain ⟨_, o, e, _⟩ := I3.stack.mem z
    exact absurd (Heap.lt_size e) (Nat.lt_irrefl _)
  have hCL : s3.heap.objs.size ≠ X.env.locals := fun z => hCfr (by rw [hs, z]; exact List.mem_filterMap.mpr ⟨X.env, List.mem_cons_self, hf⟩)
  obtain ⟨oC, esC, epC, eC, _⟩ := id nsC
  have hBC : B.get? s3.heap.objs.size = some oC := nb _ _ eC hCfr
  show wpAny _ _ (noteFrame (.ref a) X.env) _ _ s'
  -- behind the note
  have fin : ∀ h1, HeldZ B (X.env :: X.outer) a (Zc cls d) X.env.locals h1 → s'.heap.UpToSlots h1 → postX (model X.prog X.w) X.A X.xe Q acc (compEnvC scope cl s3.heap.objs.size X.env) (.error (.ref a)) { s' with heap := h1 } := fun h1 hh up1 => by
    have nsC1 := (up.trans up1).ns nsC
    refine ⟨mC, nsC1, fun h2 sb => ?_⟩
    have sb : ∀ b, b ≠ s3.heap.objs.size → h2.get? b = h1.get? b := sb.2
    obtain ⟨kB, kn, kf, kt⟩ := hh
    have kf : h1.FunFrames B X.stack := by rw [hs]; exact kf
    obtain ⟨B2, b1, b2⟩ := restrict h2 fun b => (B.get? b).isSome
    have inB : ∀ {b o}, B.get? b = some o → B2.get? b = h2.get? b := fun {b o} e => b1 b (by rw [e]; rfl)
    have outB : ∀ {b}, B.get? b = none → B2.get? b = none := fun {b} e => b2 b (by rw [e]; rfl)
    have B2st : B2.StaysIn h2 := fun b o e => by
      cases q : B.get? b with
      | none => rw [outB q] at e; cases e
      | some o' => rw [inB q] at e; exact e
    have offC : ∀ {b}, B.get? b = none → b ≠ s3.heap.objs.size := fun {b} e z => by rw [z, hBC] at e; cases e
    have frB : ∀ b ∈ frs X.stack, B.get? b = none := fun b hb => (kf.mem hb).1
    have kf2 : h2.FunFrames B2 X.stack := funFrames_at kf fun b hb => ⟨sb b (offC (frB b hb)), outB (frB b hb)⟩
    have held2 : HeldZ B2 X.stack a (Zc cls d) X.env.locals h2 := by
      refine ⟨B2st, outB kn, kf2, ?_⟩
      obtain ⟨oe, vs, T, oT, ts, t1, t2, t3, t4, t5, t6, t7, t8, t9⟩ := kt
      exact ⟨oe, vs, T, oT, ts, (sb a (offC kn)).trans t1, t2, t3, t4, outB t5, t6, (sb T (offC t5)).trans t7, t8, t9⟩
    obtain ⟨oe, vs, T, _, _, t1, _, t3, t4, _⟩ := held2.2.2.2
    show wpAny _ _ (PySem.passOn "comprehension.variables-let-go" (.ref a) (compEnvC scope cl s3.heap.objs.size X.env) : Sem Value) _ _ _
    unfold PySem.passOn
    refine wpAny_bind (wpAny_field t1 t3 t4 ?_)
    rw [if_neg (by simp)]
    show wpAny _ _ (setFlight (.ref a) X.env.frame >>= fun _ => throw (.ref a)) _ _ _
    rw [hf]
    refine wpAny_bind (setFlight_onZ held2 fun h3 held3 up3 => wpAny_throw (tk _ _ ?_))
    -- the state without the error
    obtain ⟨G, g1, g2⟩ := restrict h2 fun b => (B.get? b).isSome || decide (b ∈ frs X.stack)
    have gB : ∀ {b o}, B.get? b = some o → G.get? b = h2.get? b := fun {b o} e => g1 b (by rw [e]; rfl)
    have gF : ∀ {b}, b ∈ frs X.stack → G.get? b = h2.get? b := fun {b} e => g1 b (by simp [e])
    have og : ∀ b o, G.get? b = some o → h2.get? b = some o ∧ ((B.get? b).isSome = true ∨ b ∈ frs X.stack) := fun b o e => by
      cases q : ((B.get? b).isSome || decide (b ∈ frs X.stack)) with
      | false => rw [g2 b q] at e; cases e
      | true => rw [g1 b q] at e; exact ⟨e, by simpa [Bool.or_eq_true] using q⟩
    have offS : ∀ {b o}, s3.heap.get? b = some o → b ≠ s3.heap.objs.size := fun e => Nat.ne_of_lt (Heap.lt_size e)
    have base : Un (frs X.stack) fp H3 HI s3.heap sI.heap := II.base
    have frI : ∀ {b o}, b ∈ frs X.stack → sI.heap.get? b = some o → ∀ vs, o.data ≠ .fields vs := fun {b o} hb e => by
      obtain ⟨_, o', e', hd⟩ := II.stack.mem hb
      rw [e] at e'
      cases e'
      exact hd
    have frG : ∀ {b o}, b ∈ frs X.stack → sI.heap.get? b = some o → ∃ sl, G.get? b = some { o with slots := sl } := fun {b o} hb e => by
      obtain ⟨sl, e1⟩ := up b o e (frI hb e)
      obtain ⟨sl2, e2⟩ := up1 b _ e1 (show ∀ vs, o.data ≠ .fields vs from frI hb e)
      exact ⟨sl2, by rw [gF hb, sb b (offC (frB b hb))]; exact e2⟩
    have grB : ∀ {b o}, b ≠ s3.heap.objs.size → B.get? b = some o → G.get? b = some o := fun {b o} hb e => by rw [gB e, sb b hb]; exact kB b o e
    have U : Un (frs X.stack) fp H3 HI s3.heap G := {
      keep := fun b o e n hb hx => grB (offS e) (nb b o (base.keep b o e n hb hx) hb)
      slot := fun b o e n hb hx => by
        obtain ⟨sl, q⟩ := base.slot b o e n hb hx
        have z := frG hb q
        exact z
      free := base.free
      there := fun b o e hx => by
        obtain ⟨o', q⟩ := base.there b o e hx
        by_cases hb : b ∈ frs X.stack
        · obtain ⟨sl, z⟩ := frG hb q
          exact ⟨_, z⟩
        · exact ⟨o', grB (offS e) (nb b o' q hb)⟩
      tups := base.tups
      frzs := base.frzs
      tbls := base.tbls }
    have hIC : HI s3.heap.objs.size = none := II.free
    have hokG : HOk X.prog X.w HI G := fun b o e => by
      have nC : b ≠ s3.heap.objs.size := fun z => by rw [z, hIC] at e; cases e
      exact (II.inGround nb b o e).stay (fun c v hc z => grB (by
        rcases hc with hc | hc
        · rw [hc]; exact nC
        · intro z; rw [z, hIC] at hc; cases hc) z) (fun _ z => z) fun _ _ z => z
    have IG : Inv X pins σ HI { s3 with heap := G, gens := s'.gens, drawn := s'.drawn, toks := s'.toks } := I3.call' (ch := fp) rfl U hokG ag fun b hb => ⟨(f3 b hb).1.2.2.2.1, (f3 b hb).1.2.1, (f3 b hb).1.2.2.2.2.1, (f3 b hb).1.2.2.2.2.2⟩
    refine ⟨a, B2, _, pins, σ, HI, cls, d, rfl, IG, fun b o e hb => ?_, (Heap.UpToSlots.of_keeps fun b o e => (og b o e).1).trans up3, .inr (.inr held3), na, os.trans II.os, ag, wish⟩
    obtain ⟨e1, q⟩ := og b o e
    rcases q with q | q
    · obtain ⟨o', q⟩ := Option.isSome_iff_exists.mp q
      rw [inB q]
      exact e1
    · exact absurd q hb
  rcases sky with ⟨hB, hn, hl, oe, vs, he, hz, hd, h1⟩ | fl | ⟨k1, k2, k3, k4⟩
  · exact look_newZ Zc.steady hfr hl hf he hB hn hd h1 hz fin
  · exact looks_onZ Zc.steady hfr hf fl fin
  · exact look_rawZ Zc.steady hfr hf k1 k2 k3 k4 (by simp only [rawInt, beq_eq_false_iff_ne]; intro z; exact hCL (Int.ofNat.inj (by injection z))) fin
end
section
variable {X : Cx} {EK : XK} {elt tg iter : Expr} {ifs : List Expr} {scope : Scope} {own : List (Str × Nat)} {pos : Pos} {wi : TI} {g : TG} {tt : TT} {te : TE}
/-- [elt for tg in iter if ..], an error of elt goes out -/
theorem pe_lcX (hs : X.stack = X.env :: X.outer) (hf : X.env.frame = some X.env.locals) (tk : Takes X fun cls d _ H => EK cls d H) (hc : X.calm = true) (hN : X.N.Nodup) (hi : PI X tg iter wi) (ok : BlkOk X.N X.env.scope scope own)
    (hg : ∀ (s : Shared) (H : Hp) (C : Addr) (cl : List (Str × Addr)) (fp : List Addr), PG (X.blk s H scope (compEnvC scope cl C X.env) fp) tg g) (ht : ∀ (s : Shared) (H : Hp) (C : Addr) (cl : List (Str × Addr)) (fp : List Addr), PTs (X.blk s H scope (compEnvC scope cl C X.env) fp) ifs tt)
    (he : ∀ (s : Shared) (H : Hp) (C : Addr) (cl : List (Str × Addr)) (fp : List Addr) (xe : Value → Shared → Prop), Takes ((X.blk s H scope (compEnvC scope cl C X.env) fp).wish xe) (fun cls d _ H => EK cls d H) → PE ((X.blk s H scope (compEnvC scope cl C X.env) fp).wish xe) elt te)
    (hfold : ∀ x, foldedSetIterable iter X.env x = pure x := by intro _; rfl) : PE X (.ListComp elt [⟨tg, iter, ifs, 0⟩] scope pos) (tLc wi g tt te (own.map (·.2))) := by
  refine ⟨fun pins s σ H Q I h => ?_⟩
  rw [eval_ListComp]
  have free : ∀ y ∈ scope.names, y.2 = .free → ∃ c, X.env.cells.lookup y.1 = some c := fun y hy e => (ok.free y hy e).elim (fun k => I.ok.has _ (.inl k)) fun k => I.ok.has _ (.inr k)
  refine comp_runX rfl hfold (closure_ok free) ok.kind (fun y hy e => by rw [ok.uniq y hy, e]) (thn (hi.run pins s σ H _ I h) fun xv t1 hx => thn hx fun itv t2 h2 => ?_)
  obtain ⟨it, fp, tn, J, H2, rfl, I2, T, st2, f2, q⟩ := h2
  refine wpAny_newObj_type (newEnv_comp ?_) (by show 0 ≤ sizeLine; decide)
  generalize eD : t2.heap.objs.size = D
  have nD : H2 D = none := I2.hok.fresh (Nat.le_of_eq eD)
  obtain ⟨W, ⟨m0, w0⟩, turn⟩ := q D nD
  generalize e3 : ({ t2 with heap := t2.heap.push { cls := .type "list", data := .seq ([] : List Value).toArray } } : Shared) = t3
  have h3 : t3.heap = t2.heap.push { cls := .type "list", data := .seq ([] : List Value).toArray } := by rw [← e3]
  have I3 : Inv X pins σ (upd H2 D (.lst [])) t3 := by
    rw [← e3]
    refine I2.laid (t' := t2.toks) (fun b o e => Heap.get?_push_of_some _ e) (Nat.le_of_eq eD) ⟨Nat.zero_le _, [], 0, .nil, ?_⟩
    rw [← eD]
    exact Heap.get?_push_size _ rfl
  have low : ∀ b ∈ fp, b < t2.heap.objs.size := fun b hb => by
    obtain ⟨o, e, _⟩ := T.obj _ _ st2 b hb
    exact Heap.lt_size e
  have f3 : ∀ b ∈ fp, FpOk X pins (upd H2 D (.lst [])) b ∧ b < t3.heap.objs.size := fun b hb => by
    refine ⟨⟨?_, (f2 b hb).2⟩, by rw [h3, Heap.size_push]; exact Nat.lt_succ_of_lt (low b hb)⟩
    rw [upd_ne (by rw [← eD]; exact Nat.ne_of_lt (low b hb))]
    exact (f2 b hb).1
  have st3 : tn 0 t3.heap := T.keep _ _ _ st2 fun b _ o e => by rw [h3]; exact Heap.get?_push_of_some _ e
  generalize eH : upd H2 D (.lst []) = H3 at I3 f3 w0
  generalize ecl : cellsFrom (t3.heap.objs.size + 1) scope.names (cloFrom X.env.cells scope.names []) = clo
  have I4' := block_start I3 ok hN f3
  rw [ecl] at I4'
  have pg := hg t3 H3 t3.heap.objs.size clo fp
  have pt := ht t3 H3 t3.heap.objs.size clo fp
  show codeAny _ _ (.compStart (.ListComp elt [⟨tg, iter, ifs, 0⟩] scope pos) 0 (.ref it) (.ref D) (compEnvC scope clo t3.heap.objs.size X.env))
    (postX (model X.prog X.w) X.A X.xe (EP X pins σ Q) (.ref D) (compEnvC scope clo t3.heap.objs.size X.env)) { t3 with heap := pushCells (t3.heap.push { cls := .type "dict", data := .dict #[] }) scope.names }
  generalize exq : notedBy (model X.prog X.w) X.A (compEnvC scope clo t3.heap.objs.size X.env) (fun e t => postX (model X.prog X.w) X.A X.xe (EP X pins σ Q) (.ref D) (compEnvC scope clo t3.heap.objs.size X.env) (.error e) t) = xq
  have tkB : Takes ((X.blk t3 H3 scope (compEnvC scope clo t3.heap.objs.size X.env) fp).wish xq) (fun cls d _ H => EK cls d H) := fun u s' x => by
    show xq u s'
    rw [← exq]
    exact air_out hs hf tk I3 f3 x
  have pe := he t3 H3 t3.heap.objs.size clo fp xq tkB
  have fp3 : ∀ b ∈ fp, H3 b = none := fun b hb => (f3 b hb).1.1
  have air := @air_out X pins σ H3 t3
  generalize ece : compEnvC scope clo t3.heap.objs.size X.env = ce at I4' pg pt pe exq ⊢
  have cL : ce.locals = t3.heap.objs.size := by rw [← ece]; rfl
  generalize e4 : ({ t3 with heap := pushCells (t3.heap.push { cls := .type "dict", data := .dict #[] }) scope.names } : Shared) = t4 at I4' ⊢
  have st4 : tn 0 t4.heap := T.keep _ _ _ st3 fun b _ o e => by rw [← e4]; exact pushCells_keeps _ _ _ _ (Heap.get?_push_of_some _ e)
  have I4 : Inv ((X.blk t3 H3 scope ce fp).wish xq) [] (wipe σ (own.map (·.2))) H3 t4 := I4'.wish xq
  have idle : ∀ {σ' : L2.St} {H' : Hp} {t : Shared}, Inv ((X.blk t3 H3 scope ce fp).wish xq) [] σ' H' t → (∀ b ∈ fp, H' b = none) → ∀ b ∈ fp, FpOk ((X.blk t3 H3 scope ce fp).wish xq) [] H' b := fun I' hn b hb =>
    ⟨hn b hb, (I'.ok.exf b hb).1, I'.ok.exfs b hb, .inl hb, fun x c e => (I'.ok.exf b hb).2 x c e, fun p hp => absurd (show p ∈ ([] : List (Addr × Obj)) ++ [] from hp) (by simp)⟩
  have loop : codeAny (model X.prog X.w) X.A (.compLoop (.ListComp elt [⟨tg, iter, ifs, 0⟩] scope pos) 0 (.ref it) (.ref D) ce) (postX (model X.prog X.w) X.A X.xe (EP X pins σ Q) (.ref D) ce) t4 := by
    refine compLoop_any (fun n t => ∃ i H', Inv ((X.blk t3 H3 scope ce fp).wish xq) [] (wipe σ (own.map (·.2))) H' t ∧ tn i t.heap ∧ (∀ b ∈ fp, H' b = none) ∧ W i n H') ?_ m0 ⟨0, H3, I4, st4, fp3, w0⟩
    rintro n t5 ⟨i, H5, I5, st5, n5, w5⟩
    rw [exq]
    rcases turn i n H5 w5 with ⟨stop, qq⟩ | ⟨go, Nx, hNx, step⟩
    · refine thnF (T.done ((X.blk t3 H3 scope ce fp).wish xq) rfl rfl rfl hc i [] t5 _ H5 (fun _ _ => False) I5 (idle I5 n5) st5 stop) fun r t6 ⟨hr, I6⟩ => ?_
      subst hr
      have I7 : Inv X pins σ H5 t6 := I3.call' (ch := fp) I6.os I6.base I6.hok I6.bare fun b hb => ⟨(f3 b hb).1.2.2.2.1, (f3 b hb).1.2.1, (f3 b hb).1.2.2.2.2.1, (f3 b hb).1.2.2.2.2.2⟩
      have nC : H5 t3.heap.objs.size = none := by
        have z : H5 ce.locals = none := I6.free
        rw [cL] at z
        exact z
      obtain ⟨m, hn, _⟩ := I6.loc
      obtain ⟨y0, y1, y2, y3, y4, y5⟩ := I3.fpOk (Nat.le_refl _) nC
      refine ⟨m, hn, fun h2 sb => ⟨.ref D, H5, I7.turned (t' := t6.toks) (fun b o hb e => (sb.2 b (by rw [cL]; exact hb)).trans e) y0 y1 y3 y4 y5, rfl, qq⟩⟩
    · refine thnF (T.item ((X.blk t3 H3 scope ce fp).wish xq) rfl rfl rfl hc i [] t5 _ H5 (fun _ _ => False) I5 (idle I5 n5) st5 go) fun r t6 ⟨u, hr, h6⟩ => ?_
      subst hr
      refine thnF h6 fun _ t7 ⟨x, H7, I7, r7, y7, st7, n7⟩ => ?_
      have I7p := I7.pinned (idle I7 n7) (T.obj _ _ st7)
      refine thnF (pg.run _ t7 _ H7 x u _ I7p.unwish r7 (step x H7 y7)) fun _ t8 ⟨σ8, H8, I8, w8, q8⟩ => ?_
      refine thnF (pt.run _ t8 σ8 H8 _ I8 q8) fun b t9 ⟨H9, I9, q9⟩ => ?_
      have fin : ∀ {t : Shared} {H' : Hp}, Inv ((X.blk t3 H3 scope ce fp).wish xq) ([] ++ pinsAt fp t7.heap) σ8 H' t → Nx H' → ∃ m, m < n ∧ ∃ i H', Inv ((X.blk t3 H3 scope ce fp).wish xq) [] (wipe σ (own.map (·.2))) H' t ∧ tn i t.heap ∧ (∀ b ∈ fp, H' b = none) ∧ W i m H' := fun {t H'} I' nx => by
        obtain ⟨m', hm, w'⟩ := hNx H' nx
        have stay : ∀ b ∈ fp, ∀ o, t7.heap.get? b = some o → t.heap.get? b = some o ∧ H' b = none := fun b hb o e =>
          let z := I'.pin (b, o) (List.mem_append_right _ (List.mem_append_right _ (mem_pinsAt hb e)))
          ⟨z.1, z.2.1⟩
        refine ⟨m', hm, i + 1, H', (I'.unpinned (pins := [])).weak (by rw [← w8, wipe_length]) (fun j v e => ?_), T.keep _ _ _ st7 fun b hb o e => (stay b hb o e).1, fun b hb => ?_, w'⟩
        · rw [← w8] at e
          exact (wipe_some e).1
        · obtain ⟨o, e, _⟩ := T.obj _ _ st7 b hb
          exact (stay b hb o e).2
      cases b with
      | false =>
        simp only [Bool.false_eq_true, if_false] at q9 ⊢
        exact fin (I9.wish xq) q9
      | true =>
        simp only [if_true] at q9 ⊢
        refine thn (pe.run _ t9 σ8 H9 _ (I9.wish xq) q9) fun z t10 ⟨yv, H10, I10, r10, acc, hD10, hz10, nx⟩ => ?_
        exact app_ok (X := (X.blk t3 H3 scope ce fp).wish xq) I10 hD10 hz10 r10 fun s11 I11 => fin I11 nx
  exact codeAny_compStart_list loop (T.self X.A 0 _ _ _ st4 loop)
end
end Pu

set_option Elab.async false
set_option linter.all false
set_option maxRecDepth 100000
set_option maxHeartbeats 4000000
/-! Pu24: errors in the pure layer: raised, out of calls, out of comprehensions; a def that may raise. -/
namespace Pu
open PySem PySem.Spec PyProof.Rows L2
/-- what is wished for an error that leaves a def -/
abbrev WR (RX : RXT) (E : XK) : WX := fun x _ H' => ∀ cls d, RX x cls d H' → E cls d H'
def runX (size : Nat) (b : MS) : G := fun avs => (b (avs.map AV.slot ++ List.replicate (size - avs.length) none)).bind fun p => match p.1 with
  | .rt r => (liftO r.out).bind fun r => .ok (r, outsOf avs.length p.2)
  | .nx => .ok (.val .non, outsOf avs.length p.2)
  | _ => .bad
def G.nox (g : G) : G := fun avs => (g avs).nox
section
variable {P : Program} {w : World} {K : PySem.W.Frag} {mg : Str → Option Value} {base : Heap}
/-- a def that may raise, called where it does not -/
theorem FnOk.quiet {k n : Nat} {f : Addr} {fd : FuncData} {ps : List Str} {RX : RXT} {g : G} (F : FnOk P w K mg base (L2.CX P w) k f fd ps (spF K RX g n)) : FnOk P w K mg base CX0 k f fd ps (spF K RX0 (G.nox g) n) := by
  have key : ∀ vs H Q E, spF K RX0 (G.nox g) n vs H Q E → spF K RX g n vs H Q (fun _ _ _ => False) := fun vs H Q E ⟨hl, F1, avs, R, q⟩ => ⟨hl, F1, avs, R, by
    unfold G.nox at q
    cases e : g avs with
    | ok p => rw [e] at q; exact q
    | exc x => rw [e] at q; exact q.elim
    | bad => rw [e] at q; exact q.elim⟩
  refine ⟨fun vs H Q E h => F.len _ _ _ _ (key vs H Q E h), fun A outer s H args us vs Q E hr he hb hv h => codeAny_mono (F.run A outer s H args us vs Q (fun _ _ _ => False) hr he hb hv (key vs H Q E h)) fun r s' c => ?_⟩
  cases r with
  | ok fl =>
    cases fl with
    | ret u => exact c
    | next => exact False.elim c
    | brk => exact False.elim c
    | cont => exact False.elim c
  | error e =>
    obtain ⟨_, _, _, _, _, _, _, _, _, _, _, _, z⟩ := c
    exact z.elim
theorem fn_mkX {x qual : Str} {st : Stmt} {f : Addr} {fd : FuncData} {N ps : List Str} {k : Nat} {b : MS} {RX : RXT} (Fn : Fun K x qual st f fd) (S : FnScope N ps (defScope st))
    (hb : ∀ (cdv : Value) (A : Around) (outer : List PySem.Env) (s : Shared) (H : Hp) (E : XK), Room k (A.deeper (envOfC qual (defScope st) s.heap.objs.size f cdv)) → SSs (cxOf (L2.CX P w) P w K mg base N qual (defScope st) f cdv A outer s H E) (WR RX E) (defBody st) b) :
    FnOk P w K mg base (L2.CX P w) (k + 1) f fd ps (spF K RX (runX N.length b) ps.length) := by
  refine Fn.okX S (fun vs H Q E h => h.1) fun cdv A outer s H vs Q E hr ⟨hl, F, avs, R, q⟩ => ?_
  refine ⟨_, hb cdv A outer s H E hr, ?_⟩
  have hla : avs.length = vs.length := by have := R.len; simpa using this
  obtain ⟨R', own⟩ := R.pad (N.length - vs.length)
  have est : start N vs = vs.map some ++ List.replicate (N.length - vs.length) none := rfl
  rw [est]
  rw [← hla] at R' own ⊢
  refine ⟨_, F, R', ?_⟩
  have ownO' : ∀ x, Own (avs.map AV.slot ++ List.replicate (N.length - avs.length) none) (vs.map some ++ List.replicate (N.length - avs.length) none) x → Own (avs.map AV.slot) (vs.map some) x := fun x ⟨j, h⟩ => ⟨j, own j x h⟩
  unfold runX at q
  cases e : b (avs.map AV.slot ++ List.replicate (N.length - avs.length) none) with
  | bad => rw [e] at q; exact q.elim
  | exc y =>
    rw [e] at q
    have q : ∀ cls d F' H', Step (Own (avs.map AV.slot) (vs.map some)) F H F' H' → FH F' H' → RX y cls d H' → E cls d H' := q
    exact fun F' H' st fh cls d r => q cls d F' H' (st.mono ownO') fh r
  | ok p =>
    rw [e] at q
    obtain ⟨fl, ρ'⟩ := p
    -- what is left of the lent
    have outs : ∀ {σ' : L2.St} {F' H' : Hp}, ES K (avs.map AV.slot ++ List.replicate (N.length - avs.length) none) (vs.map some ++ List.replicate (N.length - avs.length) none) F H ρ' σ' F' H' →
        RepOut K F' H' vs (outsOf avs.length ρ') := fun {σ' F' H'} es i o ho => by
      unfold outsOf at ho
      rw [List.getElem?_map] at ho
      cases er : (List.range avs.length)[i]? with
      | none => rw [er] at ho; cases ho
      | some k =>
        rw [er] at ho
        have hk : k = i ∧ i < avs.length := by
          have hi := (List.getElem?_eq_some_iff.mp er).1
          rw [List.getElem?_range (by simpa using hi)] at er
          cases er
          exact ⟨rfl, by simpa using hi⟩
        obtain ⟨rfl, hi⟩ := hk
        have ho : (ρ'[k]?).join.bind SV.lent = some o := Option.some.inj ho
        cases es2 : ρ'[k]? with
        | none => rw [es2] at ho; cases ho
        | some s =>
          cases s with
          | none => rw [es2] at ho; cases ho
          | some s =>
            rw [es2] at ho
            cases s with
            | val p => cases ho
            | own p => cases ho
            | par o' =>
              cases ho
              obtain ⟨v, ev, a, rfl, n, r⟩ := es.rel.slot k _ es2
              have z := (es.par k o es2).2
              rw [ev, List.getElem?_append_left (by simpa [hla] using hi), List.getElem?_map] at z
              cases ew : vs[k]? with
              | none => rw [ew] at z; cases z
              | some w =>
                rw [ew] at z
                cases z
                exact ⟨a, rfl, n, r⟩
    have ownE : ∀ {σ' : L2.St} {F' H' : Hp}, ES K (avs.map AV.slot ++ List.replicate (N.length - avs.length) none) (vs.map some ++ List.replicate (N.length - avs.length) none) F H ρ' σ' F' H' → Step (Own (avs.map AV.slot) (vs.map some)) F H F' H' := fun es => es.st.mono ownO'
    cases fl with
    | nx =>
      have q : ∀ v F' H', Step (Own (avs.map AV.slot) (vs.map some)) F H F' H' → FH F' H' → RepN K H F' H' (.val .non) v → RepOut K F' H' vs (outsOf avs.length ρ') → Q v H' := q
      exact fun σ' F' H' es => q .non F' H' (ownE es) es.rel.fh (show RepV K F' .non .non by unfold RepV; rfl) (outs es)
    | bk => exact q.elim
    | ct => exact q.elim
    | rt r =>
      cases er : r.out with
      | none =>
        have q : match ((liftO r.out).bind fun r => Res.ok (r, outsOf avs.length ρ')) with
          | .ok q => ∀ v F' H', Step (Own (avs.map AV.slot) (vs.map some)) F H F' H' → FH F' H' → RepN K H F' H' q.1 v → RepOut K F' H' vs q.2 → Q v H'
          | .exc x => ∀ cls d F' H', Step (Own (avs.map AV.slot) (vs.map some)) F H F' H' → FH F' H' → RX x cls d H' → E cls d H'
          | .bad => False := q
        rw [er] at q
        exact q.elim
      | some r' =>
        have q : match ((liftO r.out).bind fun r => Res.ok (r, outsOf avs.length ρ')) with
          | .ok q => ∀ v F' H', Step (Own (avs.map AV.slot) (vs.map some)) F H F' H' → FH F' H' → RepN K H F' H' q.1 v → RepOut K F' H' vs q.2 → Q v H'
          | .exc x => ∀ cls d F' H', Step (Own (avs.map AV.slot) (vs.map some)) F H F' H' → FH F' H' → RX x cls d H' → E cls d H'
          | .bad => False := q
        rw [er] at q
        have q3 : ∀ v F' H', Step (Own (avs.map AV.slot) (vs.map some)) F H F' H' → FH F' H' → RepN K H F' H' r' v → RepOut K F' H' vs (outsOf avs.length ρ') → Q v H' := q
        clear q
        have err : r' = r := by
          cases r with
          | val p => cases er; rfl
          | bor i => cases er
          | new o => cases er; rfl
        subst err
        refine fun v σ' F' H' es rr => q3 v F' H' (ownE es) es.rel.fh ?_ (outs es)
        cases r' with
        | val p => exact rr
        | bor i => cases er
        | new o =>
          obtain ⟨a, ea, n, fr, no, ro⟩ := rr
          refine ⟨a, ea, n, ?_, ro⟩
          rcases fr with z | ⟨i, o', h1, h2⟩
          · exact z
          · exfalso
            by_cases hj : i < (avs.map AV.slot).length
            · rw [List.getElem?_append_left hj] at h1
              exact slot_own h1
            · rw [List.getElem?_append_right (by omega), List.getElem?_replicate] at h1
              split at h1 <;> cases h1
end
/-! ### raise -/
def mRaise (cls : Str) (m : M) : MS := fun ρ => (mOp m ρ).bind fun p => (liftO p.1.val?).bind fun v => .exc ⟨cls, v⟩
def mRaise0 (cls : Str) : MS := fun _ => .exc ⟨cls, .non⟩
section
variable {X : Cx} {RX : RXT} {EK : XK} {e : Expr} {m : M} {C fI : Addr} {f x qual xC : Str} {fd : FuncData} {p p2 pos pos' : Pos} {msg : Str} {j : Nat} {bmB : List Value} {B newId initId : String}
/-- raise C(e), C's __init__ as in Pu22 -/
theorem SS.raise (hc : X.calm = true) (tk : Takes X fun cls d _ H => EK cls d H) (T : SupC X.prog X.K C f x qual fI fd) (hg : Gl X xC) (hm : X.mg xC = some (.ref C)) (ms : X.mg "super" = none) (hr : Room 2 X.A)
    (hRX : ∀ (v : PV) (w : V) (F H : Hp) (d : Addr), RepV X.K F v w → H d = some (.xd [(f, w)]) → RX ⟨xC, v⟩ (.ref C) (some d) H) (h : SE X (WR RX EK) e m)
    (hdb : (xC == ("__debug__" : Str)) = false := by decide) (he : starEach [e] X.env = (false, eval e X.env) :: starEach [] X.env := by rfl) (hpl : (backTo pos' (starEach [] X.env)).any (·.1) = false := by rfl) :
    SS X (WR RX EK) (.Raise (some (.Call (.Name xC p) [e] [] pos')) none pos) (mRaise xC m) := by
  have ha : SA X (WR RX EK) [e] (mACons m mANil) := SA.cons h SA.nil he
  refine PS.imp (ps_raise hc tk (pmk_sup T hg hm ms hr ha hdb he hpl)) fun D σ H ⟨ρ, F, R, q⟩ => ?_
  unfold mRaise at q
  refine ⟨ρ, F, R, ?_⟩
  unfold mACons mANil
  cases e1 : mOp m ρ with
  | bad => rw [e1] at q; exact q.elim
  | exc y => rw [e1] at q; exact q
  | ok p1 =>
    rw [e1] at q
    have q : Ok (WR RX EK) ρ σ F H ((liftO p1.1.val?).bind fun v => (.exc ⟨xC, v⟩ : Res (Fl × Env))) _ := q
    obtain ⟨v, ev, q⟩ := q.lift
    have q : ∀ F' H', Step (Own ρ σ) F H F' H' → FH F' H' → ∀ cls d, RX ⟨xC, v⟩ cls d H' → EK cls d H' := q
    show ∀ vs F' H', ES X.K ρ σ F H p1.2 σ F' H' → RepQs X.K F' σ [p1.1] vs → _
    intro vs F' H' es rq
    have er := val?_inv ev
    rw [er] at rq
    cases rq with
    | cons r0 rr =>
      cases rr
      rename_i w
      have r0 : RepV X.K F' v w := r0
      refine ⟨w, rfl, fun d nd => ?_⟩
      have nF : F' d = none := es.rel.fh.none nd
      refine q F' (upd H' d (.xd [(f, w)])) ?_ (fun b u z => ?_) _ _ (hRX v w F' _ d r0 upd_same)
      · refine ⟨es.st.ff, es.st.new, fun b o z n => ?_, fun b z => ?_⟩
        · have y := es.st.fr b o z n
          rw [upd_ne (ne_of_none y nd)]
          exact y
        · have y := es.st.th b z
          by_cases hb : b = d
          · rw [hb, upd_same]; simp
          · rw [upd_ne hb]; exact y
      · have hb : b ≠ d := fun y => by rw [y, nF] at z; cases z
        rw [upd_ne hb]
        exact es.rel.fh b u z
/-- raise C('..'), C without an __init__ of its own -/
theorem SS.raise0 (hc : X.calm = true) (tk : Takes X fun cls d _ H => EK cls d H) (F0 : ExcBaseFacts B newId initId bmB) (q0 : PySem.W.excIn X.K C bmB newId = true) (gC : X.mg xC = some (.ref C)) (kC : PySem.W.keepIn X.K (.ref C) = true) (r : Raises X (.ref C)) (hg : Gl X xC)
    (hRX : ∀ H, RX ⟨xC, .non⟩ (.ref C) none H) (hdb : (xC == ("__debug__" : Str)) = false := by decide) : SS X (WR RX EK) (.Raise (some (.Call (.Name xC p) [.Constant (.str msg) j p2] [] pos')) none pos) (mRaise0 xC) := by
  refine PS.imp (ps_raise hc tk (pmk_own F0 q0 gC kC r hg hdb)) fun D σ H ⟨ρ, F, R, q⟩ => ?_
  have q : ∀ F' H', Step (Own ρ σ) F H F' H' → FH F' H' → ∀ cls d, RX ⟨xC, .non⟩ cls d H' → EK cls d H' := q
  exact q F H (Step.refl _ _ _) R.fh _ _ (hRX H)
end
/-! ### comprehensions whose element may raise (no tests) -/
def mLcX (vs : List Nat) (mi : MI) (g : MG) (e : M) : M := fun ρ => (mi ρ).bind fun p => if p.1.length ≤ 16777216 then (lcM vs g mYes e p.1 (wipeE p.2 vs)).bind fun q => .ok (.new (.lst q.1), restoreE vs p.2 q.2) else .bad
/-- one item more -/
def lcN (acc : List PV) (r : Res (List PV × Env)) : Res (List PV × Env) := r.bind fun q => .ok (acc ++ q.1, q.2)
theorem lcN_cons {vs : List Nat} {g : MG} {e : M} {x : PV} {xs acc : List PV} {ρ ρ1 : Env} (h : g x ρ = some ρ1) : lcN acc (lcM vs g mYes e (x :: xs) ρ) = (mOp e ρ1).bind fun q => (liftO q.1.val?).bind fun y => lcN (acc ++ [y]) (lcM vs g mYes e xs (wipeE q.2 vs)) := by
  have e1 : lcM vs g mYes e (x :: xs) ρ = (mOp e ρ1).bind fun q => (liftO q.1.val?).bind fun y => (lcM vs g mYes e xs (wipeE q.2 vs)).bind fun r => .ok (y :: r.1, r.2) := by
    show (liftO (g x ρ)).bind _ = _
    rw [h]
    rfl
  rw [e1]
  unfold lcN
  cases mOp e ρ1 with
  | bad => rfl
  | exc y => rfl
  | ok p =>
    simp only [Res.bind_ok]
    cases p.1.val? with
    | none => rfl
    | some y =>
      simp only [liftO_some, Res.bind_ok]
      cases lcM vs g mYes e xs (wipeE p.2 vs) with
      | bad => rfl
      | exc y => rfl
      | ok r => simp
theorem tM_lcX {K : PySem.W.Frag} {W : WX} {σ : L2.St} {H : Hp} {Q : VK} {S vs : List Nat} {mi : MI} {g : MG} {e : M} (hS : ∀ i ∈ S, i ∈ vs) (h : tM K W (mLcX vs mi g e) σ H Q) :
    tLc (tMI K W mi) (tMG K S g) (tMT K W0 mYes) (tM K W e) vs σ H Q := by
  obtain ⟨ρ, F, R, q⟩ := h
  refine ⟨ρ, F, R, q.of_bind.mono fun p h1 J F1 H1 es1 ok => ?_⟩
  by_cases hz : p.1.length ≤ 16777216
  case neg => rw [if_neg hz] at h1; exact h1.elim
  rw [if_pos hz] at h1
  generalize hR0 : lcM vs g mYes e p.1 (wipeE p.2 vs) = R0 at h1
  intro D nD
  have nD0 : H D = none := es1.free nD
  refine ⟨fun i m H' => m = p.1.length - i ∧ i ≤ p.1.length ∧ ∃ ρ' F' acc vacc, Same F1 F' ∧ ES K p.2 σ F1 H1 ρ' (wipe σ vs) F' H' ∧ H' D = some (.lst vacc) ∧ RepVs K F' acc vacc ∧ F' D = none ∧ ¬ Own ρ' (wipe σ vs) D ∧ acc.length ≤ i ∧
      lcN acc (lcM vs g mYes e (p.1.drop i) ρ') = R0, ⟨p.1.length, by simp, Nat.zero_le _, wipeE p.2 vs, F1, [], [], Same.refl _, ?_, upd_same, .nil, es1.rel.fh.none nD, ?_, Nat.le_refl _, ?_⟩, ?_⟩
  · exact (es1.rel.wipe vs).other nD (es1.rel.fh.none nD) fun z => (es1.rel.wipe vs).rel.ownH z nD
  · exact fun z => (es1.rel.wipe vs).rel.ownH z nD
  · rw [List.drop_zero, hR0]
    unfold lcN
    cases R0 with
    | ok r => simp
    | exc y => rfl
    | bad => rfl
  rintro i m H' ⟨rfl, hi, ρ', F', acc, vacc, f, es, hD, rv, nF, nO, hl, el⟩
  by_cases hlt : i < p.1.length
  · refine .inr ⟨ok.go i H' F' f es.rel.fh hlt, fun H2 => ∃ ρ2 F2 acc vacc, Same F1 F2 ∧ ES K p.2 σ F1 H1 ρ2 (wipe σ vs) F2 H2 ∧ H2 D = some (.lst vacc) ∧ RepVs K F2 acc vacc ∧ F2 D = none ∧ ¬ Own ρ2 (wipe σ vs) D ∧ acc.length ≤ i + 1 ∧
      lcN acc (lcM vs g mYes e (p.1.drop (i + 1)) ρ2) = R0, fun H2 h => ⟨p.1.length - (i + 1), by omega, rfl, hlt, h⟩, fun x H2 y => ?_⟩
    obtain ⟨F2, gr, rx⟩ := ok.yld i H' F' x H2 p.1[i] f es.rel.fh (List.getElem?_eq_getElem hlt) y
    rw [List.drop_eq_getElem_cons hlt] at el
    have esg := gr.es es.rel
    cases e1 : g p.1[i] ρ' with
    | none =>
      have z : R0 = .bad := by
        rw [← el]
        show ((liftO (g p.1[i] ρ')).bind _ : Res (List PV × Env)).bind _ = _
        rw [e1]
        rfl
      rw [z] at h1
      exact h1.elim
    | some ρ1 =>
    rw [lcN_cons e1] at el
    -- D through a part of the turn
    have keep : ∀ {ρa : Env} {σa : L2.St} {Fa Ha : Hp}, ES K ρ' (wipe σ vs) F' H' ρa σa Fa Ha → Ha D = some (.lst vacc) ∧ Fa D = none ∧ ¬ Own ρa σa D := fun {ρa σa Fa Ha} z => by
      refine ⟨z.st.fr D _ hD nO, ?_, fun o => ?_⟩
      · cases w : Fa D with
        | none => rfl
        | some u =>
          rcases z.st.new D (by rw [w]; simp) with y | y | y
          · exact absurd nF y
          · rcases y with y | ⟨xs, y⟩
            · rw [hD] at y; cases y
            · rw [hD] at y; cases y
          · exact absurd y nO
      · rcases z.own D o with y | y
        · exact nO y
        · rw [hD] at y; cases y
    refine ⟨ρ', F2, p.1[i], ρ1, (es.trans esg).rel, rx, e1, fun σ2 F3 H3 es3 o3 => ?_⟩
    have hw := wipe_only o3 hS
    refine ⟨hw, ?_⟩
    refine ⟨ρ1, F3, es3.rel, .good (show mYes ρ1 = .ok (true, ρ1) from rfl) fun F4 H4 es4 => ?_⟩
    have esA := (esg.trans es3).trans es4
    refine ite2 (fun hb => ?_) (fun hb => absurd rfl hb)
    have esT := es1.trans (es.trans esA)
    cases e3 : mOp e ρ1 with
    | bad =>
      rw [e3] at el
      have z : R0 = .bad := el.symm
      rw [z] at h1
      exact h1.elim
    | exc y' =>
      rw [e3] at el
      have z : R0 = .exc y' := el.symm
      rw [z] at h1
      have h1 : ∀ F' H', Step (Own ρ σ) F H F' H' → FH F' H' → W y' F' H' := h1
      have e3' : e ρ1 = .exc y' := by
        unfold mOp at e3
        cases w : e ρ1 with
        | ok a => rw [w] at e3; cases e3
        | exc a => rw [w] at e3; cases e3; rfl
        | bad => rw [w] at e3; cases e3
      refine ⟨ρ1, F4, es4.rel, ?_⟩
      rw [e3']
      exact fun F' H' st fh => h1 F' H' (esT.st.trans esT.own st) fh
    | ok p3 =>
      rw [e3] at el
      cases e4 : p3.1.val? with
      | none =>
        have z : R0 = .bad := by
          rw [← el]
          show (liftO p3.1.val?).bind _ = _
          rw [e4]
          rfl
        rw [z] at h1
        exact h1.elim
      | some y' =>
        have el : lcN (acc ++ [y']) (lcM vs g mYes e (p.1.drop (i + 1)) (wipeE p3.2 vs)) = R0 := by
          rw [← el]
          show _ = (liftO p3.1.val?).bind _
          rw [e4]
          rfl
        have e3' : mOp e ρ1 = .ok (.val y', p3.2) := by rw [e3, ← val?_inv e4]
        exact tM_op (k := fun p => .ok p) es4.rel (show Ok W ρ1 σ2 F4 H4 ((mOp e ρ1).bind fun p => .ok p) (fun p => p = (.val y', p3.2)) by rw [e3']; rfl) fun rq ρ5 v F5 H5 es5 rr hq => by
          cases hq
          have rr : RepV K F5 y' v := rr
          have esB := esA.trans es5
          obtain ⟨d1, d2, d3⟩ := keep esB
          have esC := es.trans esB
          have esD := esC.trans (esC.rel.wipe vs)
          rw [hw] at esD
          have no : ¬ Own (wipeE p3.2 vs) (wipe σ vs) D := fun z => by
            rw [← hw] at z
            obtain ⟨j, z⟩ := z
            exact d3 ⟨j, (wipe_own z).1⟩
          refine ⟨vacc, d1, ?_, wipeE p3.2 vs, F5, acc ++ [y'], vacc ++ [v], f.trans esB.st.ff, esD.other nD d2 no, upd_same, (rv.mono esB.st.ff).append (.cons rr .nil), d2, no, by simp; omega, el⟩
          rw [← rv.length, sizeLine_eq]
          omega
  · have ei : i = p.1.length := by omega
    subst ei
    rw [List.drop_length] at el
    have el : R0 = .ok (acc, ρ') := by
      rw [← el]
      unfold lcN lcM
      simp
    rw [el] at h1
    have h2 : ∀ v F' H', ES K ρ σ F H (restoreE vs p.2 ρ') σ F' H' → RepR K (Free H) F' H' (restoreE vs p.2 ρ') σ (.new (.lst acc)) v → Q v H' := h1
    have es' := es1.trans (ES.restore es1.rel es)
    refine .inl ⟨ok.stop H' F' f es.rel.fh, h2 _ F' H' es' ⟨D, rfl, nF, nD0, fun z => ?_, vacc, hD, rv⟩⟩
    obtain ⟨j, z1, z2⟩ := z
    rcases z1 with ⟨o, z1⟩ | ⟨o, z1⟩
    · rcases restore_get z1 with ⟨_, _, p, y⟩ | ⟨n, y⟩
      · cases y
      · exact nO ⟨j, .inl ⟨o, y⟩, by rw [wipe_get n]; exact z2⟩
    · rcases restore_get z1 with ⟨_, _, p, y⟩ | ⟨n, y⟩
      · cases y
      · exact nO ⟨j, .inr ⟨o, y⟩, by rw [wipe_get n]; exact z2⟩
section
variable {X : Cx} {W : WX} {EK : XK} {RX : RXT} {tg iter elt : Expr} {scope : Scope} {own : List (Str × Nat)} {pos : Pos} {S : List Nat} {mi : MI} {g : MG} {me : M}
theorem SE.lcX (hs : X.stack = X.env :: X.outer) (hf : X.env.frame = some X.env.locals) (tk : Takes X fun cls d _ H => EK cls d H) (hi : SI X (WR RX EK) tg iter mi) (ok : BlkOk X.N X.env.scope scope own) (hN : X.N.Nodup)
    (hg : ∀ (s : Shared) (H : Hp) (C : Addr) (cl : List (Str × Addr)) (fp : List Addr), SG (X.blk s H scope (compEnvC scope cl C X.env) fp) S tg g)
    (he : ∀ (s : Shared) (H : Hp) (C : Addr) (cl : List (Str × Addr)) (fp : List Addr) (xe : Value → Shared → Prop), Takes ((X.blk s H scope (compEnvC scope cl C X.env) fp).wish xe) (fun cls d _ H => EK cls d H) → SE ((X.blk s H scope (compEnvC scope cl C X.env) fp).wish xe) (WR RX EK) elt me)
    (hS : ∀ i ∈ S, i ∈ own.map (·.2)) (hc : X.calm = true) (hfold : ∀ x, foldedSetIterable iter X.env x = pure x := by intro _; rfl) :
    SE X (WR RX EK) (.ListComp elt [⟨tg, iter, [], 0⟩] scope pos) (mLcX (own.map (·.2)) mi g me) :=
  PE.imp (pe_lcX (g := tMG X.K S g) (tt := tMT X.K W0 mYes) (te := tM X.K (WR RX EK) me) hs hf tk hc hN hi ok (fun s H C cl fp => hg s H C cl fp) (fun s H C cl fp => STs.nil) (fun s H C cl fp xe t => he s H C cl fp xe t) hfold) fun σ H Q h => tM_lcX hS h
end
end Pu

set_option Elab.async false
set_option linter.all false
/-! Pu25: how the pure meanings raise. -/
namespace Pu
open PySem
section
variable {a b : MS} {t : MT} {g : MG} {ρ ρ1 ρ2 : Env} {r r' : RV} {n size : Nat} {x : PV} {xs : List PV} {avs : List AV} {m mb : M} {y : EX}
theorem seq_ex (h : a ρ = .exc y) : mSeq a b ρ = .exc y := by unfold mSeq; rw [h]; rfl
theorem asg_ex {i : Nat} (h : m ρ = .exc y) : mAsg i m ρ = .exc y := by unfold mAsg; rw [h]; rfl
theorem ret_ex (h : m ρ = .exc y) : mRet m ρ = .exc y := by unfold mRet; rw [h]; rfl
theorem op_ex (h : m ρ = .exc y) : mOp m ρ = .exc y := by unfold mOp; rw [h]; rfl
theorem asgt_ex {gt : MG} (h : m ρ = .exc y) : mAsgT gt m ρ = .exc y := by unfold mAsgT; rw [op_ex h]; rfl
theorem un_ex {f : PV → Option RV} (h : m ρ = .exc y) : mUn f m ρ = .exc y := by unfold mUn; rw [op_ex h]; rfl
theorem bin_ex {f : PV → PV → Option RV} (h : m ρ = .exc y) : mBin f m mb ρ = .exc y := by unfold mBin; rw [op_ex h]; rfl
theorem app1_ex {f : List PV → Option RV} (h : m ρ = .exc y) : mApp f (mACons m mANil) ρ = .exc y := by
  unfold mApp mACons
  rw [op_ex h]
  rfl
theorem while_ex (ht : t ρ = .ok (true, ρ1)) (hb : b ρ1 = .exc y) : whileM t b (n + 1) ρ = .exc y := by
  show (t ρ).bind _ = _
  rw [ht, Res.bind_ok]
  dsimp only
  rw [if_pos rfl, hb]
  rfl
theorem for_ex (hg : g x ρ = some ρ1) (hb : b ρ1 = .exc y) : forM g b (x :: xs) ρ = .exc y := by
  show (liftO (g x ρ)).bind _ = _
  rw [hg]
  show (b ρ1).bind _ = _
  rw [hb]
  rfl
theorem raise_of {c : Str} {v : PV} (h : m ρ = .ok (.val v, ρ1)) : mRaise c m ρ = .exc ⟨c, v⟩ := by
  have e : mOp m ρ = .ok (.val v, ρ1) := by unfold mOp; rw [h]; rfl
  unfold mRaise
  rw [e]
  rfl
theorem call_ex {ma : MA} {g : G} {ps : List PV} (h : ma ρ = .ok (ps.map RV.val, ρ1)) (hg : g (ps.map AV.val) = .exc y) : mCall g ma ρ = .exc y := by
  unfold mCall
  rw [h, Res.bind_ok]
  dsimp only
  rw [lone_vals, if_pos rfl, avs_vals]
  show (g (ps.map AV.val)).bind _ = _
  rw [hg]
  rfl
theorem call_firstX {w : OB → SV} {j : Nat} {o : OB} {ma : MA} {ps : List PV} {g : G} (h : Hold ρ j w o) (ha : ma ρ = .ok (ps.map RV.val, ρ)) (hg : g (.own o :: ps.map AV.val) = .exc y) : mCall g (mACons (mBor j) ma) ρ = .exc y := by
  have e : mACons (mBor j) ma ρ = .ok (.bor j :: ps.map RV.val, ρ) := by
    unfold mACons mOp
    rw [h.bor, Res.bind_ok, Res.bind_ok]
    dsimp only
    rw [ha]
    rfl
  have ea : avsOf ρ (.bor j :: ps.map RV.val) = some (.own o :: ps.map AV.val) := by
    show (avOf ρ (.bor j)).bind _ = _
    rw [h.av, avs_vals]
    rfl
  unfold mCall
  rw [e, Res.bind_ok]
  dsimp only
  rw [lone_first, if_pos rfl, ea, liftO_some, Res.bind_ok, hg]
  rfl
theorem meth_ex {w : OB → SV} {j : Nat} {C : Addr} {ns : List Str} {vs : List PV} {mm : Str} {ma : MA} {ps : List PV} {g : G} (h : Hold ρ j w (.ob C ns vs)) (hm : mm ∉ ns) (ha : ma ρ = .ok (ps.map RV.val, ρ)) (hg : g (.own (.ob C ns vs) :: ps.map AV.val) = .exc y) : mMeth C mm g j ma ρ = .exc y := by
  unfold mMeth
  rw [h.ob, liftO_some, Res.bind_ok]
  dsimp only
  rw [if_neg hm]
  exact call_firstX h ha hg
theorem runX_rt (ρ0 : Env) (e : avs.map AV.slot ++ List.replicate (size - avs.length) none = ρ0) (h : a ρ0 = .ok (.rt r, ρ1)) (ho : r.out = some r') : runX size a avs = .ok (r', outsOf avs.length ρ1) := by
  unfold runX
  rw [e, h]
  show (liftO r.out).bind _ = _
  rw [ho]
  rfl
theorem runX_ex (ρ0 : Env) (e : avs.map AV.slot ++ List.replicate (size - avs.length) none = ρ0) (h : a ρ0 = .exc y) : runX size a avs = .exc y := by
  unfold runX
  rw [e, h]
  rfl
theorem mlcx_of {vs : List Nat} {mi : MI} {e : M} {ys : List PV} (hi : mi ρ = .ok (xs, ρ1)) (hz : xs.length ≤ 16777216) (h : lcM vs g mYes e xs (wipeE ρ1 vs) = .ok (ys, ρ2)) : mLcX vs mi g e ρ = .ok (.new (.lst ys), restoreE vs ρ1 ρ2) := by
  unfold mLcX
  rw [hi]
  rw [Res.bind_ok]
  dsimp only
  rw [if_pos hz, h]
  rfl
theorem mlcx_ex {vs : List Nat} {mi : MI} {e : M} (hi : mi ρ = .ok (xs, ρ1)) (hz : xs.length ≤ 16777216) (h : lcM vs g mYes e xs (wipeE ρ1 vs) = .exc y) : mLcX vs mi g e ρ = .exc y := by
  unfold mLcX
  rw [hi]
  rw [Res.bind_ok]
  dsimp only
  rw [if_pos hz, h]
  rfl
theorem lc_ex {vs : List Nat} {e : M} (hg : g x ρ = some ρ1) (he : e ρ1 = .exc y) : lcM vs g mYes e (x :: xs) ρ = .exc y := by
  show (liftO (g x ρ)).bind _ = _
  rw [hg]
  show (mOp e ρ1).bind _ = _
  rw [op_ex he]
  rfl
end
end Pu

set_option Elab.async false
set_option linter.all false
/-! Pu26: a tuple times an int. -/
namespace Pu
open PySem PySem.Spec PyProof.Rows L2
def pRepT : PV → PV → Option RV := fun a b => match a, b with
  | .tup xs, .int k => if xs ≠ [] ∧ 2 ≤ k ∧ k ≤ 1000 ∧ xs.length ≤ 1000 then some (.val (.tup (List.replicate k.toNat xs).flatten)) else none
  | _, _ => none
theorem prim_repT {K : PySem.W.Frag} : Prim2 K (rRepT K) pRepT := by
  intro x y F H Q a b res fh ra rb e q
  unfold pRepT at e
  split at e
  · split at e
    · rename_i hz
      cases e
      obtain ⟨a, vs, rfl, ea, r1⟩ := repBT ra
      rw [repBI rb]
      refine ⟨a, _, vs, rfl, rfl, .inl (.inl (fh.tup ea)), fun z => hz.1 ?_, hz.2.1, hz.2.2.1, by rw [← r1.length]; exact hz.2.2.2, giveT fh (r1.flat _) q⟩
      subst z
      exact List.eq_nil_of_length_eq_zero r1.length
    · cases e
  · cases e
end Pu

set_option Elab.async false
set_option linter.all false
set_option maxRecDepth 100000
set_option maxHeartbeats 4000000
/-! Printed by gen.py: the defs, their pure meanings, their walks. -/
namespace K81
open PySem PySem.Spec PyProof.Rows L2 Pu
def topS (i : Nat) : Stmt := PySem.Challenge.pw_humless_k81_whole_broken_octets.main.body.getD i (.Pass ⟨0, 0, 0, 0⟩)
def inS (i j : Nat) : Stmt := (clsBody (topS i)).getD j (.Pass ⟨0, 0, 0, 0⟩)
abbrev s_is_sign : Stmt := topS 10
theorem sc_is_sign : FnScope ["one"] ["one"] (defScope s_is_sign) := ⟨rfl, rfl, rfl, by decide +kernel, rfl, by decide +kernel, by decide +kernel⟩
abbrev s_sign_of : Stmt := topS 11
theorem sc_sign_of : FnScope ["one"] ["one"] (defScope s_sign_of) := ⟨rfl, rfl, rfl, by decide +kernel, rfl, by decide +kernel, by decide +kernel⟩
abbrev s_are_octets : Stmt := topS 12
theorem sc_are_octets : FnScope ["value", "one"] ["value"] (defScope s_are_octets) := ⟨rfl, rfl, rfl, by decide +kernel, rfl, by decide +kernel, by decide +kernel⟩
abbrev s_few_digits : Stmt := topS 13
theorem sc_few_digits : FnScope ["number", "_"] ["number"] (defScope s_few_digits) := ⟨rfl, rfl, rfl, by decide +kernel, rfl, by decide +kernel, by decide +kernel⟩
abbrev s_counted : Stmt := topS 14
theorem sc_counted : FnScope ["value", "deep", "many", "item", "part", "sign"] ["value", "deep"] (defScope s_counted) := ⟨rfl, rfl, rfl, by decide +kernel, rfl, by decide +kernel, by decide +kernel⟩
abbrev s_digits_of : Stmt := topS 15
theorem sc_digits_of : FnScope ["number", "result"] ["number"] (defScope s_digits_of) := ⟨rfl, rfl, rfl, by decide +kernel, rfl, by decide +kernel, by decide +kernel⟩
abbrev s_laid : Stmt := topS 16
theorem sc_laid : FnScope ["value", "result", "item", "sign"] ["value"] (defScope s_laid) := ⟨rfl, rfl, rfl, by decide +kernel, rfl, by decide +kernel, by decide +kernel⟩
abbrev s_write_octets : Stmt := topS 17
theorem sc_write_octets : FnScope ["value"] ["value"] (defScope s_write_octets) := ⟨rfl, rfl, rfl, by decide +kernel, rfl, by decide +kernel, by decide +kernel⟩
abbrev s_read_digits : Stmt := topS 18
theorem sc_read_digits : FnScope ["octets", "at", "most", "number", "many", "scale", "one"] ["octets", "at", "most"] (defScope s_read_digits) := ⟨rfl, rfl, rfl, by decide +kernel, rfl, by decide +kernel, by decide +kernel⟩
abbrev s_Reader___init__ : Stmt := inS 19 0
theorem sc_Reader___init__ : FnScope ["self", "octets"] ["self", "octets"] (defScope s_Reader___init__) := ⟨rfl, rfl, rfl, by decide +kernel, rfl, by decide +kernel, by decide +kernel⟩
abbrev s_Reader_begin : Stmt := inS 19 1
theorem sc_Reader_begin : FnScope ["self"] ["self"] (defScope s_Reader_begin) := ⟨rfl, rfl, rfl, by decide +kernel, rfl, by decide +kernel, by decide +kernel⟩
abbrev s_Reader_number : Stmt := inS 19 2
theorem sc_Reader_number : FnScope ["self", "most", "result"] ["self", "most"] (defScope s_Reader_number) := ⟨rfl, rfl, rfl, by decide +kernel, rfl, by decide +kernel, by decide +kernel⟩
abbrev s_Reader_string : Stmt := inS 19 3
theorem sc_Reader_string : FnScope ["self", "many", "signs", "_"] ["self"] (defScope s_Reader_string) := ⟨rfl, rfl, rfl, by decide +kernel, rfl, by decide +kernel, by decide +kernel⟩
abbrev s_Reader_value : Stmt := inS 19 4
theorem sc_Reader_value : FnScope ["self", "deep", "start", "kind", "many", "_"] ["self", "deep"] (defScope s_Reader_value) := ⟨rfl, rfl, rfl, by decide +kernel, rfl, by decide +kernel, by decide +kernel⟩
abbrev s_read_octets : Stmt := topS 20
theorem sc_read_octets : FnScope ["octets", "reader", "result"] ["octets"] (defScope s_read_octets) := ⟨rfl, rfl, rfl, by decide +kernel, rfl, by decide +kernel, by decide +kernel⟩
abbrev s_law_cup : Stmt := topS 22
theorem sc_law_cup : FnScope ["script", "cell"] ["script"] (defScope s_law_cup) := ⟨rfl, rfl, rfl, by decide +kernel, rfl, by decide +kernel, by decide +kernel⟩
abbrev s_law_roll : Stmt := topS 23
theorem sc_law_roll : FnScope ["cup", "many", "deep", "found"] ["cup", "many"] (defScope s_law_roll) := ⟨rfl, rfl, rfl, by decide +kernel, rfl, by decide +kernel, by decide +kernel⟩
abbrev s_law_some : Stmt := topS 24
theorem sc_law_some : FnScope ["cup", "things"] ["cup", "things"] (defScope s_law_some) := ⟨rfl, rfl, rfl, by decide +kernel, rfl, by decide +kernel, by decide +kernel⟩
abbrev s_law_sort : Stmt := topS 25
theorem sc_law_sort : FnScope ["value"] ["value"] (defScope s_law_sort) := ⟨rfl, rfl, rfl, by decide +kernel, rfl, by decide +kernel, by decide +kernel⟩
abbrev s_law_like : Stmt := topS 26
theorem sc_law_like : FnScope ["one", "other", "sort", "first", "second"] ["one", "other"] (defScope s_law_like) := ⟨rfl, rfl, rfl, by decide +kernel, rfl, by decide +kernel, by decide +kernel⟩
abbrev s_law_signs : Stmt := topS 27
theorem sc_law_signs : FnScope ["numbers", "signs", "one"] ["numbers"] (defScope s_law_signs) := ⟨rfl, rfl, rfl, by decide +kernel, rfl, by decide +kernel, by decide +kernel⟩
abbrev s_law_value : Stmt := topS 28
theorem sc_law_value : FnScope ["cup", "deep", "kind", "turn"] ["cup", "deep"] (defScope s_law_value) := ⟨rfl, rfl, rfl, by decide +kernel, rfl, by decide +kernel, by decide +kernel⟩
abbrev s_law_first : Stmt := topS 29
theorem sc_law_first : FnScope ["octets", "turn", "at", "left", "digit", "kind", "start", "number", "many", "scale", "last", "sign"] ["octets"] (defScope s_law_first) := ⟨rfl, rfl, rfl, by decide +kernel, rfl, by decide +kernel, by decide +kernel⟩
abbrev s_law : Stmt := topS 31
theorem sc_law : FnScope ["script", "cup", "turn", "long", "told", "great", "octets", "at", "one", "rows", "row", "due", "sign"] ["script"] (defScope s_law) := ⟨rfl, rfl, rfl, by decide +kernel, rfl, by decide +kernel, by decide +kernel⟩
abbrev s_law_told : Stmt := topS 30
/-- the pure meanings of the defs -/
structure Tb where
  is_sign : G
  sign_of : G
  are_octets : G
  few_digits : G
  counted : G
  digits_of : G
  laid : G
  write_octets : G
  read_digits : G
  Reader_begin : G
  Reader_number : G
  Reader_string : G
  Reader_value : G
  read_octets : G
  law_cup : G
  law_roll : G
  law_some : G
  law_sort : G
  law_like : G
  law_signs : G
  law_value : G
  law_first : G
  law : G
  law_told : G
def b_Reader___init__ (C_Reader : Addr) : MS :=
    (mSeq (mPutFld C_Reader 0 "octets" (mNm 1))
    (mSeq (mPutFld C_Reader 0 "at" (mK (.int 0)))
    (mPutFld C_Reader 0 "parts" (mK (.int 1)))))
def g_Reader___init__ (C_Reader : Addr) : G := runF 2 (b_Reader___init__ C_Reader)
def b_is_sign (C_Reader : Addr) (t : Tb) : MS :=
    (mRet (mOrV (mChain pLe pLe (mK (.int 32)) (mBor 0) (mK (.int 126))) (mBin pEq (mBor 0) (mK (.int 10)))))
def b_sign_of (C_Reader : Addr) (t : Tb) : MS :=
    (mRet (mAsc (mNm 0)))
def b_are_octets (C_Reader : Addr) (t : Tb) : MS :=
    (mSeq (mIfS (mTNot (mTruth (mApp fIsi (mACons (mBor 0) (mACons (mK (.ty "tuple")) mANil)))))
    (mRet (mK (.bl false)))
    mNx)
    (mRet (mApp fAll (mACons (mLc [1] (mSrc (mNm 0)) (mgNm 1) mYes (mAndV (mApp fIsi (mACons (mBor 1) (mACons (mK (.ty "int")) mANil))) (mAndV (mNotV (mApp fIsi (mACons (mBor 1) (mACons (mK (.ty "bool")) mANil)))) (mChain pLe pLe (mK (.int 0)) (mBor 1) (mK (.int 255)))))) mANil))))
def b_few_digits (C_Reader : Addr) (t : Tb) : MS :=
    (mSeq (mFor (mRng rng1 (mACons (mK (.int 14)) mANil)) (mgNm 1)
    (mAug 0 pDiv (mBin pPow (mK (.int 128)) (mK (.int 64)))))
    (mRet (mBin pLt (mBor 0) (mBin pPow (mK (.int 128)) (mK (.int 54))))))
def b_counted (C_Reader : Addr) (t : Tb) : MS :=
    (mSeq (mIfS (mTOr (mTest (mBin pIs (mBor 0) (mK .non))) (mTruth (mApp fIsi (mACons (mBor 0) (mACons (mK (.ty "bool")) mANil)))))
    (mRet (mK (.int 1)))
    mNx)
    (mSeq (mIfS (mTruth (mApp fIsi (mACons (mBor 0) (mACons (mK (.ty "int")) mANil))))
    (mRet (mIf (mTruth (mCall t.few_digits (mACons (mIf (mTest (mBin pGe (mBor 0) (mK (.int 0)))) (mNm 0) (mBin pSub (mUn pNeg (mBor 0)) (mK (.int 1)))) mANil))) (mK (.int 1)) (mK .non)))
    mNx)
    (mSeq (mIfS (mTruth (mApp fIsi (mACons (mBor 0) (mACons (mK (.ty "str")) mANil))))
    (mRet (mIf (mTAnd (mTest (mBin pLe (mApp fLen (mACons (mBor 0) mANil)) (mK (.int 20000)))) (mTruth (mApp fAll (mACons (mLc [5] (mSrc (mNm 0)) (mgNm 5) mYes (mCall t.is_sign (mACons (mApp fOrd (mACons (mBor 5) mANil)) mANil))) mANil)))) (mK (.int 1)) (mK .non)))
    mNx)
    (mSeq (mIfS (mTOr (mTNot (mTruth (mApp fIsi (mACons (mBor 0) (mACons (mK (.ty "tuple")) mANil))))) (mTOr (mTest (mBin pEq (mBor 1) (mK (.int 60)))) (mTest (mBin pGt (mApp fLen (mACons (mBor 0) mANil)) (mK (.int 50000))))))
    (mRet (mK .non))
    mNx)
    (mSeq (mAsg 2 (mK (.int 1)))
    (mSeq (mFor (mSrc (mNm 0)) (mgNm 3)
    (mSeq (mAsg 4 (mCall t.counted (mACons (mNm 3) (mACons (mBin pAdd (mBor 1) (mK (.int 1))) mANil))))
    (mSeq (mIfS (mTOr (mTest (mBin pIs (mBor 4) (mK .non))) (mTest (mBin pGt (mBin pAdd (mBor 2) (mBor 4)) (mK (.int 500000)))))
    (mRet (mK .non))
    mNx)
    (mAug 2 pAddI (mBor 4)))))
    (mRetNm 2)))))))
def b_digits_of (C_Reader : Addr) (t : Tb) : MS :=
    (mSeq (mAsg 1 (mLst mANil))
    (mSeq (whileM (mTest (mBin pGt (mBor 0) (mK (.int 127)))) (mSeq (mAppend 1 (mBin pAdd (mBin pMod (mApp fInt (mACons (mBor 0) mANil)) (mK (.int 128))) (mK (.int 128))))
    (mAug 0 pDiv (mK (.int 128)))) 1000)
    (mSeq (mAppend 1 (mNm 0))
    (mRetNm 1))))
def b_laid (C_Reader : Addr) (t : Tb) : MS :=
    (mSeq (mIfS (mTest (mBin pIs (mBor 0) (mK .non)))
    (mRet (mLst (mACons (mK (.int 0)) mANil)))
    mNx)
    (mSeq (mIfS (mTest (mBin pIs (mBor 0) (mK (.bl true))))
    (mRet (mLst (mACons (mK (.int 5)) mANil)))
    mNx)
    (mSeq (mIfS (mTest (mBin pIs (mBor 0) (mK (.bl false))))
    (mRet (mLst (mACons (mK (.int 6)) mANil)))
    mNx)
    (mSeq (mIfS (mTruth (mApp fIsi (mACons (mBor 0) (mACons (mK (.ty "int")) mANil))))
    (mRet (mIf (mTest (mBin pGe (mBor 0) (mK (.int 0)))) (mBin pAdd (mLst (mACons (mK (.int 1)) mANil)) (mCall t.digits_of (mACons (mNm 0) mANil))) (mBin pAdd (mLst (mACons (mK (.int 2)) mANil)) (mCall t.digits_of (mACons (mBin pSub (mUn pNeg (mBor 0)) (mK (.int 1))) mANil)))))
    mNx)
    (mSeq (mIfS (mTruth (mApp fIsi (mACons (mBor 0) (mACons (mK (.ty "str")) mANil))))
    (mRet (mBin pAdd (mBin pAdd (mLst (mACons (mK (.int 3)) mANil)) (mCall t.digits_of (mACons (mApp fLen (mACons (mBor 0) mANil)) mANil))) (mLc [3] (mSrc (mNm 0)) (mgNm 3) mYes (mApp fOrd (mACons (mBor 3) mANil)))))
    mNx)
    (mSeq (mAsg 1 (mBin pAdd (mLst (mACons (mK (.int 4)) mANil)) (mCall t.digits_of (mACons (mApp fLen (mACons (mBor 0) mANil)) mANil))))
    (mSeq (mFor (mSrc (mNm 0)) (mgNm 2)
    (mExtend 1 (mCall t.laid (mACons (mNm 2) mANil))))
    (mRetNm 1))))))))
def b_write_octets (C_Reader : Addr) (t : Tb) : MS :=
    (mSeq (mIfS (mTest (mBin pIs (mCall t.counted (mACons (mNm 0) (mACons (mK (.int 0)) mANil))) (mK .non)))
    (mRaise0 "InvalidOctets")
    mNx)
    (mRet (mApp fTuple (mACons (mCall t.laid (mACons (mNm 0) mANil)) mANil))))
def b_read_digits (C_Reader : Addr) (t : Tb) : MS :=
    (mSeq (mAsg 3 (mK (.int 0)))
    (mSeq (mAsg 4 (mK (.int 0)))
    (mSeq (mAsg 5 (mK (.int 1)))
    (whileM (mTruth (mK (.bl true))) (mSeq (mIfS (mTOr (mTest (mBin pEq (mBor 1) (mApp fLen (mACons (mBor 0) mANil)))) (mTest (mBin pEq (mBor 4) (mK (.int 950)))))
    (mRaise "BadText" (mNm 1))
    mNx)
    (mSeq (mAsg 6 (mBin pIx (mBor 0) (mBor 1)))
    (mSeq (mAug 3 pAddI (mBin pMul (mBin pMod (mApp fInt (mACons (mBor 6) mANil)) (mK (.int 128))) (mBor 5)))
    (mSeq (mAug 5 pMulS (mK (.int 128)))
    (mSeq (mIfS (mTest (mBin pLt (mBor 6) (mK (.int 128))))
    (mSeq (mIfS (mTOr (mTAnd (mTest (mBin pEq (mBor 6) (mK (.int 0)))) (mTest (mBin pGt (mBor 4) (mK (.int 0))))) (mTAnd (mTest (mBin pIsNot (mBor 2) (mK .non))) (mTest (mBin pGt (mBor 3) (mBor 2)))))
    (mRaise "BadText" (mNm 1))
    mNx)
    (mRet (mTup (mACons (mNm 3) (mACons (mBin pAdd (mBor 1) (mK (.int 1))) mANil)))))
    mNx)
    (mSeq (mAug 4 pAddI (mK (.int 1)))
    (mAug 1 pAddI (mK (.int 1))))))))) 1000))))
def b_Reader_begin (C_Reader : Addr) (t : Tb) : MS :=
    (mSeq (mIfS (mTOr (mTest (mBin pEq (mFld C_Reader 0 "at") (mApp fLen (mACons (mFld C_Reader 0 "octets") mANil)))) (mTest (mBin pGt (mBin pIx (mFld C_Reader 0 "octets") (mFld C_Reader 0 "at")) (mK (.int 6)))))
    (mRaise "BadText" (mFld C_Reader 0 "at"))
    mNx)
    (mSeq (mAugFld C_Reader 0 "at" pAddI (mK (.int 1)))
    (mRet (mBin pIx (mFld C_Reader 0 "octets") (mBin pSub (mFld C_Reader 0 "at") (mK (.int 1)))))))
def b_Reader_number (C_Reader : Addr) (t : Tb) : MS :=
    (mSeq (mAsgT (mgTup 2 (mgCons (mgNm 2) (mgCons (mgFld C_Reader 0 "at") mgNil))) (mCall t.read_digits (mACons (mFld C_Reader 0 "octets") (mACons (mFld C_Reader 0 "at") (mACons (mNm 1) mANil)))))
    (mRetNm 2))
def b_Reader_string (C_Reader : Addr) (t : Tb) : MS :=
    (mSeq (mAsg 1 (mMeth C_Reader "number" t.Reader_number 0 (mACons (mK (.int 20000)) mANil)))
    (mSeq (mAsg 2 (mLst mANil))
    (mSeq (mFor (mRng rng1 (mACons (mNm 1) mANil)) (mgNm 3)
    (mSeq (mIfS (mTOr (mTest (mBin pEq (mFld C_Reader 0 "at") (mApp fLen (mACons (mFld C_Reader 0 "octets") mANil)))) (mTNot (mTruth (mCall t.is_sign (mACons (mBin pIx (mFld C_Reader 0 "octets") (mFld C_Reader 0 "at")) mANil)))))
    (mRaise "BadText" (mFld C_Reader 0 "at"))
    mNx)
    (mSeq (mAppend 2 (mCall t.sign_of (mACons (mBin pIx (mFld C_Reader 0 "octets") (mFld C_Reader 0 "at")) mANil)))
    (mAugFld C_Reader 0 "at" pAddI (mK (.int 1))))))
    (mRet (mUn (pJoin "") (mBor 2))))))
def b_Reader_value (C_Reader : Addr) (t : Tb) : MS :=
    (mSeq (mAsg 2 (mFld C_Reader 0 "at"))
    (mSeq (mAsg 3 (mMeth C_Reader "begin" t.Reader_begin 0 mANil))
    (mSeq (mIfS (mTest (mBin pIn (mBor 3) (mTup (mACons (mK (.int 0)) (mACons (mK (.int 5)) (mACons (mK (.int 6)) mANil))))))
    (mRet (mBin pGet (mNew (.dK [.inl 0, .inl 5, .inl 6] [.non, (.bl true), (.bl false)])) (mBor 3)))
    mNx)
    (mSeq (mIfS (mTest (mBin pEq (mBor 3) (mK (.int 1))))
    (mRet (mMeth C_Reader "number" t.Reader_number 0 (mACons (mK .non) mANil)))
    mNx)
    (mSeq (mIfS (mTest (mBin pEq (mBor 3) (mK (.int 2))))
    (mRet (mBin pSub (mUn pNeg (mMeth C_Reader "number" t.Reader_number 0 (mACons (mK .non) mANil))) (mK (.int 1))))
    mNx)
    (mSeq (mIfS (mTest (mBin pEq (mBor 3) (mK (.int 3))))
    (mRet (mMeth C_Reader "string" t.Reader_string 0 mANil))
    mNx)
    (mSeq (mIfS (mTest (mBin pEq (mBor 1) (mK (.int 60))))
    (mRaise "BadText" (mNm 2))
    mNx)
    (mSeq (mAsg 4 (mMeth C_Reader "number" t.Reader_number 0 (mACons (mApp fMin2 (mACons (mK (.int 50000)) (mACons (mBin pSub (mK (.int 500000)) (mFld C_Reader 0 "parts")) mANil))) mANil)))
    (mSeq (mAugFld C_Reader 0 "parts" pAddI (mBor 4))
    (mRet (mApp fTuple (mACons (mLcX [5] (mRng rng1 (mACons (mNm 4) mANil)) (mgNm 5) (mMeth C_Reader "value" t.Reader_value 0 (mACons (mBin pAdd (mBor 1) (mK (.int 1))) mANil))) mANil))))))))))))
def b_read_octets (C_Reader : Addr) (t : Tb) : MS :=
    (mSeq (mIfS (mTNot (mTruth (mCall t.are_octets (mACons (mNm 0) mANil))))
    (mRaise0 "InvalidOctets")
    mNx)
    (mSeq (mAsg 1 (mMake C_Reader (g_Reader___init__ C_Reader) (mACons (mNm 0) mANil)))
    (mSeq (mAsg 2 (mMeth C_Reader "value" t.Reader_value 1 (mACons (mK (.int 0)) mANil)))
    (mSeq (mIfS (mTest (mBin pLt (mFld C_Reader 1 "at") (mApp fLen (mACons (mBor 0) mANil))))
    (mRaise "BadText" (mFld C_Reader 1 "at"))
    mNx)
    (mRetNm 2)))))
def b_law_cup (C_Reader : Addr) (t : Tb) : MS :=
    (mSeq (mAsg 1 (mApp fAbs (mACons (mBin pIx (mBin pAdd (mApp fList (mACons (mBor 0) mANil)) (mLst (mACons (mK (.int 0)) mANil))) (mK (.int 0))) mANil)))
    (mRet (mLst (mACons (mIf (mTest (mBin pGe (mBor 1) (mBin pPow (mK (.int 10)) (mK (.int 18))))) (mBin pDiv (mBor 1) (mK (.int 113))) (mK (.int 0))) (mACons (mBin pAdd (mBin pMod (mApp fInt (mACons (mBin pAdd (mBin pMul (mBor 1) (mK (.int 367))) (mK (.int 5347))) mANil)) (mK (.int 1994132857))) (mK (.int 241))) mANil)))))
def b_law_roll (C_Reader : Addr) (t : Tb) : MS :=
    (mSeq (mIfS (mTest (mBin pGt (mBin pIx (mBor 0) (mK (.int 0))) (mK (.int 0))))
    (mSeq (mAsg 3 (mBin pMod (mApp fInt (mACons (mBin pIx (mBor 0) (mK (.int 0))) mANil)) (mBor 1)))
    (mSeq (mPutL 0 (mBin pDiv (mBin pIx (mBor 0) (mK (.int 0))) (mBor 1)) (mK (.int 0)))
    (mRetNm 3)))
    mNx)
    (mSeq (mPutL 0 (mBin pMod (mApp fInt (mACons (mBin pAdd (mBin pMul (mBin pIx (mBor 0) (mK (.int 1))) (mK (.int 30269))) (mK (.int 9173))) mANil)) (mK (.int 2147483579))) (mK (.int 1)))
    (mSeq (mAsg 2 (mBin pMod (mApp fInt (mACons (mBin pMul (mBin pIx (mBor 0) (mK (.int 1))) (mBin pAdd (mBin pIx (mBor 0) (mK (.int 1))) (mK (.int 307)))) mANil)) (mK (.int 2147483563))))
    (mRet (mBin pMod (mApp fInt (mACons (mBin pDiv (mBor 2) (mK (.int 887))) mANil)) (mBor 1))))))
def b_law_some (C_Reader : Addr) (t : Tb) : MS :=
    (mRet (mBin pIx (mBor 1) (mCall t.law_roll (mACons (mBor 0) (mACons (mApp fLen (mACons (mBor 1) mANil)) mANil)))))
def b_law_sort (C_Reader : Addr) (t : Tb) : MS :=
    (mSeq (mIfS (mTOr (mTest (mBin pIs (mBor 0) (mK .non))) (mTruth (mApp fIsi (mACons (mBor 0) (mACons (mK (.ty "bool")) mANil)))))
    (mRet (mIf (mTest (mBin pIs (mBor 0) (mK .non))) (mK (.int 0)) (mK (.int 1))))
    mNx)
    (mSeq (mIfS (mTOr (mTruth (mApp fIsi (mACons (mBor 0) (mACons (mK (.ty "int")) mANil)))) (mTruth (mApp fIsi (mACons (mBor 0) (mACons (mK (.ty "str")) mANil)))))
    (mRet (mIf (mTruth (mApp fIsi (mACons (mBor 0) (mACons (mK (.ty "int")) mANil)))) (mK (.int 2)) (mK (.int 3))))
    mNx)
    (mRet (mIf (mTruth (mApp fIsi (mACons (mBor 0) (mACons (mK (.ty "tuple")) mANil)))) (mK (.int 4)) (mIf (mTruth (mApp fIsi (mACons (mBor 0) (mACons (mK (.ty "list")) mANil)))) (mK (.int 5)) (mK (.int 6)))))))
def b_law_like (C_Reader : Addr) (t : Tb) : MS :=
    (mSeq (mAsg 2 (mCall t.law_sort (mACons (mNm 1) mANil)))
    (mSeq (mIfS (mTOr (mTest (mBin pNe (mCall t.law_sort (mACons (mNm 0) mANil)) (mBor 2))) (mTest (mBin pEq (mBor 2) (mK (.int 6)))))
    (mRet (mK (.bl false)))
    mNx)
    (mSeq (mIfS (mTest (mBin pIn (mBor 2) (mTup (mACons (mK (.int 4)) (mACons (mK (.int 5)) mANil)))))
    (mRet (mAndV (mBin pEq (mApp fLen (mACons (mBor 0) mANil)) (mApp fLen (mACons (mBor 1) mANil))) (mBin pEq (mLc [3, 4] (mRng zipOf (mACons (mNm 0) (mACons (mNm 1) mANil))) (mgTup 2 (mgCons (mgNm 3) (mgCons (mgNm 4) mgNil))) (mTNot (mTruth (mCall t.law_like (mACons (mNm 3) (mACons (mNm 4) mANil))))) (mK (.int 1))) (mLst mANil))))
    mNx)
    (mRet (mBin pEq (mBor 0) (mBor 1))))))
def b_law_signs (C_Reader : Addr) (t : Tb) : MS :=
    (mSeq (mAsg 1 (mNew (.dK [.inl 10, .inl 32, .inl 65, .inl 97, .inl 126] [(.str "\n"), (.str " "), (.str "A"), (.str "a"), (.str "~")])))
    (mRet (mUn (pJoin "") (mLc [2] (mSrc (mNm 0)) (mgNm 2) mYes (mBin pGet (mBor 1) (mBor 2))))))
def b_law_value (C_Reader : Addr) (t : Tb) : MS :=
    (mSeq (mAsg 2 (mCall t.law_roll (mACons (mBor 0) (mACons (mK (.int 7)) mANil))))
    (mSeq (mIfS (mTOr (mTest (mBin pLt (mBor 2) (mK (.int 3)))) (mTest (mBin pEq (mBor 1) (mK (.int 0)))))
    (mRet (mBin pMul (mBin pAdd (mCall t.law_roll (mACons (mBor 0) (mACons (mCall t.law_some (mACons (mBor 0) (mACons (mLst (mACons (mK (.int 3)) (mACons (mK (.int 130)) (mACons (mK (.int 20000)) (mACons (mBin pPow (mK (.int 10)) (mK (.int 9))) mANil))))) mANil))) mANil))) (mK (.int 1))) (mCall t.law_some (mACons (mBor 0) (mACons (mLst (mACons (mK (.int 1)) (mACons (mUn pNeg (mK (.int 1))) mANil))) mANil)))))
    mNx)
    (mSeq (mIfS (mTest (mBin pEq (mBor 2) (mK (.int 3))))
    (mRet (mCall t.law_signs (mACons (mLc [3] (mRng rng1 (mACons (mCall t.law_roll (mACons (mBor 0) (mACons (mK (.int 5)) mANil))) mANil)) (mgNm 3) mYes (mCall t.law_some (mACons (mBor 0) (mACons (mLst (mACons (mK (.int 10)) (mACons (mK (.int 32)) (mACons (mK (.int 65)) (mACons (mK (.int 97)) (mACons (mK (.int 126)) mANil)))))) mANil)))) mANil)))
    mNx)
    (mSeq (mIfS (mTest (mBin pEq (mBor 2) (mK (.int 4))))
    (mRet (mCall t.law_some (mACons (mBor 0) (mACons (mLst (mACons (mK .non) (mACons (mK (.bl true)) (mACons (mK (.bl false)) mANil)))) mANil))))
    mNx)
    (mRet (mApp fTuple (mACons (mLc [3] (mRng rng1 (mACons (mCall t.law_roll (mACons (mBor 0) (mACons (mK (.int 4)) mANil))) mANil)) (mgNm 3) mYes (mCall t.law_value (mACons (mBor 0) (mACons (mBin pSub (mBor 1) (mK (.int 1))) mANil)))) mANil)))))))
def b_law_first (C_Reader : Addr) (t : Tb) : MS :=
    (mSeq (mAsgT (mgTup 2 (mgCons (mgNm 2) (mgCons (mgNm 3) mgNil))) (mTup (mACons (mK (.int 0)) (mACons (mK (.int 1)) mANil))))
    (mSeq (mFor (mRng rng1 (mACons (mK (.int 4000)) mANil)) (mgNm 1)
    (mSeq (mIfS (mTest (mBin pEq (mBor 3) (mK (.int 0))))
    (mRet (mIf (mTest (mBin pEq (mBor 2) (mApp fLen (mACons (mBor 0) mANil)))) (mK .non) (mNm 2)))
    mNx)
    (mSeq (mIfS (mTOr (mTest (mBin pEq (mBor 2) (mApp fLen (mACons (mBor 0) mANil)))) (mTest (mBin pGt (mBin pIx (mBor 0) (mBor 2)) (mK (.int 6)))))
    (mRetNm 2)
    mNx)
    (mSeq (mPar [5, 6] (mFCons (mBin pIx (mBor 0) (mBor 2)) (mFCons (mNm 2) mFNil)))
    (mSeq (mAsg 2 (mBin pAdd (mBor 2) (mK (.int 1))))
    (mSeq (mAsg 3 (mBin pSub (mBor 3) (mK (.int 1))))
    (mSeq (mIfS (mTest (mBin pIn (mBor 5) (mTup (mACons (mK (.int 0)) (mACons (mK (.int 5)) (mACons (mK (.int 6)) mANil))))))
    (fun ρ => .ok (.ct, ρ))
    mNx)
    (mSeq (mAsgT (mgTup 3 (mgCons (mgNm 7) (mgCons (mgNm 8) (mgCons (mgNm 9) mgNil)))) (mTup (mACons (mK (.int 0)) (mACons (mK (.int 0)) (mACons (mK (.int 1)) mANil)))))
    (mSeq (mFor (mRng rng1 (mACons (mK (.int 1000)) mANil)) (mgNm 4)
    (mSeq (mIfS (mTOr (mTest (mBin pEq (mBor 2) (mApp fLen (mACons (mBor 0) mANil)))) (mTest (mBin pEq (mBor 8) (mK (.int 950)))))
    (mRetNm 2)
    mNx)
    (mSeq (mPar [7, 9] (mFCons (mBin pAdd (mBor 7) (mBin pMul (mBin pMod (mApp fInt (mACons (mBin pIx (mBor 0) (mBor 2)) mANil)) (mK (.int 128))) (mBor 9))) (mFCons (mBin pMul (mBor 9) (mK (.int 128))) mFNil)))
    (mSeq (mAsg 10 (mBin pLt (mBin pIx (mBor 0) (mBor 2)) (mK (.int 128))))
    (mSeq (mIfS (mTAnd (mTruth (mBor 10)) (mTAnd (mTest (mBin pEq (mBin pIx (mBor 0) (mBor 2)) (mK (.int 0)))) (mTest (mBin pGt (mBor 8) (mK (.int 0))))))
    (mRetNm 2)
    mNx)
    (mSeq (mIfS (mTAnd (mTruth (mBor 10)) (mTOr (mTAnd (mTest (mBin pEq (mBor 5) (mK (.int 3)))) (mTest (mBin pGt (mBor 7) (mK (.int 20000))))) (mTAnd (mTest (mBin pEq (mBor 5) (mK (.int 4)))) (mTest (mBin pGt (mBor 7) (mK (.int 50000)))))))
    (mRetNm 2)
    mNx)
    (mSeq (mPar [2, 8] (mFCons (mBin pAdd (mBor 2) (mK (.int 1))) (mFCons (mBin pAdd (mBor 8) (mK (.int 1))) mFNil)))
    (mIfS (mTruth (mBor 10))
    (fun ρ => .ok (.bk, ρ))
    mNx))))))))
    (mSeq (mIfS (mTest (mBin pEq (mBor 5) (mK (.int 3))))
    (mFor (mRng rng1 (mACons (mNm 7) mANil)) (mgNm 11)
    (mSeq (mIfS (mTOr (mTest (mBin pEq (mBor 2) (mApp fLen (mACons (mBor 0) mANil)))) (mTNot (mTOr (mTest (mChain pLe pLe (mK (.int 32)) (mBin pIx (mBor 0) (mBor 2)) (mK (.int 126)))) (mTest (mBin pEq (mBin pIx (mBor 0) (mBor 2)) (mK (.int 10)))))))
    (mRetNm 2)
    mNx)
    (mAsg 2 (mBin pAdd (mBor 2) (mK (.int 1))))))
    mNx)
    (mIfS (mTest (mBin pEq (mBor 5) (mK (.int 4))))
    (mAsg 3 (mBin pAdd (mBor 3) (mBor 7)))
    mNx)))))))))))
    (mRetNm 2)))
def b_law (C_Reader : Addr) (t : Tb) : MS :=
    (mSeq (mAsg 1 (mCall t.law_cup (mACons (mNm 0) mANil)))
    (mSeq (mFor (mRng rng1 (mACons (mK (.int 20)) mANil)) (mgNm 2)
    (mSeq (mAsg 6 (mCall (G.nox t.write_octets) (mACons (mApp fTuple (mACons (mLc [8] (mRng rng1 (mACons (mBin pAdd (mK (.int 1)) (mCall t.law_roll (mACons (mBor 1) (mACons (mK (.int 4)) mANil)))) mANil)) (mgNm 8) mYes (mCall t.law_value (mACons (mBor 1) (mACons (mK (.int 2)) mANil)))) mANil)) mANil)))
    (mSeq (mAsg 7 (mCall t.law_roll (mACons (mBor 1) (mACons (mApp fLen (mACons (mBor 6) mANil)) mANil))))
    (mSeq (mAsg 8 (mCall t.law_some (mACons (mBor 1) (mACons (mLst (mACons (mK (.int 0)) (mACons (mK (.int 1)) (mACons (mK (.int 2)) (mACons (mK (.int 3)) (mACons (mK (.int 4)) (mACons (mK (.int 5)) (mACons (mK (.int 6)) (mACons (mK (.int 7)) (mACons (mK (.int 127)) (mACons (mK (.int 128)) (mACons (mK (.int 129)) (mACons (mK (.int 255)) (mACons (mCall t.law_roll (mACons (mBor 1) (mACons (mK (.int 256)) mANil))) mANil)))))))))))))) mANil))))
    (mSeq (mAsg 9 (mLst (mACons (mSl (mBor 6) mNoPart (mPart (mNm 7))) (mACons (mBin pAdd (mBin pAdd (mSl (mBor 6) mNoPart (mPart (mNm 7))) (mTup (mACons (mNm 8) mANil))) (mSl (mBor 6) (mPart (mBin pAdd (mBor 7) (mK (.int 1)))) mNoPart)) (mACons (mBin pAdd (mBin pAdd (mSl (mBor 6) mNoPart (mPart (mNm 7))) (mTup (mACons (mNm 8) mANil))) (mSl (mBor 6) (mPart (mNm 7)) mNoPart)) mANil)))))
    (mSeq (mAsg 9 (mBin pAdd (mBor 9) (mLst (mACons (mBin pAdd (mSl (mBor 6) mNoPart (mPart (mNm 7))) (mSl (mBor 6) (mPart (mBin pAdd (mBor 7) (mK (.int 1)))) mNoPart)) (mACons (mBin pAdd (mBor 6) (mTup (mACons (mNm 8) mANil))) mANil)))))
    (mFor (mSrc (mNm 9)) (mgNm 10)
    (mSeq (mPar [11, 4] (mFCons (mCall t.law_first (mACons (mNm 10) mANil)) (mFCons (mCall t.law_told (mACons (mNm 10) mANil)) mFNil)))
    (mIfS (mTest (mBin pIs (mBor 11) (mK .non)))
    (mIfS (mTOr (mTNot (mTruth (mBin pIx (mBor 4) (mK (.int 0))))) (mTNot (mTruth (mCall t.law_like (mACons (mCall (G.nox t.write_octets) (mACons (mBin pIx (mBor 4) (mK (.int 1))) mANil)) (mACons (mNm 10) mANil))))))
    (mRet (mK (.bl false)))
    mNx)
    (mIfS (mTNot (mTruth (mCall t.law_like (mACons (mNm 4) (mACons (mTup (mACons (mK (.bl false)) (mACons (mNm 11) mANil))) mANil)))))
    (mRet (mK (.bl false)))
    mNx))))))))))
    (mSeq (mAsg 3 (mBin pAdd (mTup (mACons (mK (.int 1)) mANil)) (mBin pRepT (mTup (mACons (mK (.int 255)) mANil)) (mK (.int 949)))))
    (mSeq (mAsg 4 (mLst (mACons (mCall t.law_told (mACons (mBin pAdd (mBor 3) (mTup (mACons (mK (.int 127)) mANil))) mANil)) (mACons (mCall t.law_told (mACons (mBin pAdd (mBor 3) (mTup (mACons (mK (.int 255)) mANil))) mANil)) (mACons (mCall t.law_told (mACons (mNm 3) mANil)) (mACons (mCall t.law_told (mACons (mTup (mACons (mK (.int 4)) (mACons (mK (.int 209)) (mACons (mK (.int 134)) (mACons (mK (.int 3)) mANil))))) mANil)) mANil))))))
    (mSeq (mAsg 4 (mBin pAdd (mBor 4) (mLst (mACons (mCall t.law_told (mACons (mTup (mACons (mK (.int 3)) (mACons (mK (.int 161)) (mACons (mK (.int 156)) (mACons (mK (.int 1)) mANil))))) mANil)) (mACons (mCall t.law_told (mACons (mTup mANil) mANil)) (mACons (mCall t.law_told (mACons (mTup (mACons (mK (.int 1)) (mACons (mK (.int 128)) (mACons (mK (.int 0)) mANil)))) mANil)) mANil))))))
    (mSeq (mAsg 4 (mBin pAdd (mBor 4) (mLst (mACons (mCall t.law_told (mACons (mBin pRepT (mTup (mACons (mK (.int 4)) (mACons (mK (.int 208)) (mACons (mK (.int 134)) (mACons (mK (.int 3)) mANil))))) (mK (.int 9))) mANil)) (mACons (mCall t.law_told (mACons (mBin pRepT (mTup (mACons (mK (.int 4)) (mACons (mK (.int 208)) (mACons (mK (.int 134)) (mACons (mK (.int 3)) mANil))))) (mK (.int 10))) mANil)) (mACons (mCall t.law_told (mACons (mTup (mACons (mK (.int 3)) (mACons (mK (.int 255)) (mACons (mK (.int 255)) mANil)))) mANil)) mANil))))))
    (mSeq (mAsg 4 (mBin pAdd (mBor 4) (mLst (mACons (mCall t.law_told (mACons (mBin pAdd (mTup (mACons (mK (.int 3)) mANil)) (mBin pRepT (mTup (mACons (mK (.int 255)) mANil)) (mK (.int 951)))) mANil)) (mACons (mCall t.law_told (mACons (mBin pAdd (mBin pRepT (mTup (mACons (mK (.int 4)) (mACons (mK (.int 1)) mANil))) (mK (.int 60))) (mTup (mACons (mK (.int 0)) mANil))) mANil)) (mACons (mCall t.law_told (mACons (mBin pAdd (mBin pRepT (mTup (mACons (mK (.int 4)) (mACons (mK (.int 1)) mANil))) (mK (.int 60))) (mTup (mACons (mK (.int 4)) mANil))) mANil)) mANil))))))
    (mSeq (mAsg 5 (mBin pPow (mK (.int 128)) (mK (.int 54))))
    (mSeq (mFor (mRng rng1 (mACons (mK (.int 14)) mANil)) (mgNm 2)
    (mAsg 5 (mBin pMul (mBor 5) (mBin pPow (mK (.int 128)) (mK (.int 64))))))
    (mSeq (mIfS (mTOr (mTest (mBin pIsNot (mBin pIx (mBin pIx (mBor 4) (mK (.int 0))) (mK (.int 0))) (mK (.bl true)))) (mTest (mBin pNe (mBin pIx (mBin pIx (mBor 4) (mK (.int 0))) (mK (.int 1))) (mBin pSub (mBor 5) (mK (.int 1))))))
    (mRet (mK (.bl false)))
    mNx)
    (mSeq (mIfS (mTest (mBin pNe (mLc [12] (mSrc (mTup (mACons (mK (.int 9)) (mACons (mK (.int 10)) (mACons (mK (.int 11)) (mACons (mK (.int 13)) (mACons (mK (.int 31)) (mACons (mK (.int 127)) mANil)))))))) (mgNm 12) mYes (mCall t.law_told (mACons (mTup (mACons (mK (.int 3)) (mACons (mK (.int 1)) (mACons (mNm 12) mANil)))) mANil))) (mBin pAdd (mLst (mACons (mTup (mACons (mK (.bl false)) (mACons (mK (.int 2)) mANil))) (mACons (mTup (mACons (mK (.bl true)) (mACons (mK (.str "\n")) mANil))) mANil))) (mBin pMul (mLst (mACons (mTup (mACons (mK (.bl false)) (mACons (mK (.int 2)) mANil))) mANil)) (mK (.int 4))))))
    (mRet (mK (.bl false)))
    mNx)
    (mSeq (mIfS (mTest (mBin pNe (mLc [8] (mSrc (mSl (mBor 4) (mPart (mK (.int 1))) mNoPart)) (mgNm 8) mYes (mBin pIx (mBor 8) (mK (.int 0)))) (mBin pAdd (mBin pMul (mLst (mACons (mK (.bl false)) mANil)) (mK (.int 10))) (mLst (mACons (mK (.bl true)) (mACons (mK (.bl false)) mANil))))))
    (mRet (mK (.bl false)))
    mNx)
    (mRet (mBin pEq (mLc [8] (mSrc (mBin pAdd (mSl (mBor 4) (mPart (mK (.int 1))) (mPart (mK (.int 11)))) (mSl (mBor 4) (mPart (mK (.int 12))) mNoPart))) (mgNm 8) mYes (mBin pIx (mBor 8) (mK (.int 1)))) (mLst (mACons (mK (.int 951)) (mACons (mK (.int 950)) (mACons (mK (.int 3)) (mACons (mK (.int 3)) (mACons (mK (.int 0)) (mACons (mK (.int 2)) (mACons (mK (.int 36)) (mACons (mK (.int 39)) (mACons (mK (.int 3)) (mACons (mK (.int 951)) (mACons (mK (.int 120)) mANil))))))))))))))))))))))))))
structure Facts (P : Program) (K : PySem.W.Frag) (mg : Str → Option Value) where
  C_Reader : Addr
  is_sign : FnF K mg "is_sign" "is_sign" s_is_sign ["one"]
  sign_of : FnF K mg "sign_of" "sign_of" s_sign_of ["one"]
  are_octets : FnF K mg "are_octets" "are_octets" s_are_octets ["value"]
  few_digits : FnF K mg "few_digits" "few_digits" s_few_digits ["number"]
  counted : FnF K mg "counted" "counted" s_counted ["value", "deep"]
  digits_of : FnF K mg "digits_of" "digits_of" s_digits_of ["number"]
  laid : FnF K mg "laid" "laid" s_laid ["value"]
  write_octets : FnF K mg "write_octets" "write_octets" s_write_octets ["value"]
  read_digits : FnF K mg "read_digits" "read_digits" s_read_digits ["octets", "at", "most"]
  Reader___init__ : FnM K C_Reader "__init__" "Reader.__init__" s_Reader___init__ ["self", "octets"]
  Reader_begin : FnM K C_Reader "begin" "Reader.begin" s_Reader_begin ["self"]
  Reader_number : FnM K C_Reader "number" "Reader.number" s_Reader_number ["self", "most"]
  Reader_string : FnM K C_Reader "string" "Reader.string" s_Reader_string ["self"]
  Reader_value : FnM K C_Reader "value" "Reader.value" s_Reader_value ["self", "deep"]
  read_octets : FnF K mg "read_octets" "read_octets" s_read_octets ["octets"]
  law_cup : FnF K mg "_law_cup" "_law_cup" s_law_cup ["script"]
  law_roll : FnF K mg "_law_roll" "_law_roll" s_law_roll ["cup", "many"]
  law_some : FnF K mg "_law_some" "_law_some" s_law_some ["cup", "things"]
  law_sort : FnF K mg "_law_sort" "_law_sort" s_law_sort ["value"]
  law_like : FnF K mg "_law_like" "_law_like" s_law_like ["one", "other"]
  law_signs : FnF K mg "_law_signs" "_law_signs" s_law_signs ["numbers"]
  law_value : FnF K mg "_law_value" "_law_value" s_law_value ["cup", "deep"]
  law_first : FnF K mg "_law_first" "_law_first" s_law_first ["octets"]
  law : FnF K mg "law" "law" s_law ["script"]
  cl_Reader : Cls K C_Reader
  cg_Reader : mg "Reader" = some (.ref C_Reader)
  mk_Reader : Mk K C_Reader Reader___init__.f
  na_Reader_octets : NoAttr K C_Reader "octets"
  na_Reader_at : NoAttr K C_Reader "at"
  na_Reader_parts : NoAttr K C_Reader "parts"
  law_told : FnF K mg "_law_told" "_law_told" s_law_told ["octets"]
  z_abs : mg "abs" = none
  z_all : mg "all" = none
  z_bool : mg "bool" = none
  z_bytes : mg "bytes" = none
  z_int : mg "int" = none
  z_isinstance : mg "isinstance" = none
  z_len : mg "len" = none
  z_list : mg "list" = none
  z_min : mg "min" = none
  z_ord : mg "ord" = none
  z_range : mg "range" = none
  z_str : mg "str" = none
  z_tuple : mg "tuple" = none
  z_zip : mg "zip" = none
  t_DEEP : Tok
  c_DEEP : mg "DEEP" = some (.int 60 t_DEEP)
  t_DIGITS : Tok
  c_DIGITS : mg "DIGITS" = some (.int 950 t_DIGITS)
  t_ITEMS : Tok
  c_ITEMS : mg "ITEMS" = some (.int 50000 t_ITEMS)
  t_PARTS : Tok
  c_PARTS : mg "PARTS" = some (.int 500000 t_PARTS)
  t_SIGNS : Tok
  c_SIGNS : mg "SIGNS" = some (.int 20000 t_SIGNS)
  CI : Addr
  CB : Addr
  fB : Addr
  fdB : FuncData
  gI : mg "InvalidOctets" = some (.ref CI)
  xI : PySem.W.excIn K CI [.type "ValueError", .type "Exception", .type "BaseException", .type "object"] "ValueError.__new__" = true
  kI : PySem.W.keepIn K (.ref CI) = true
  bI : PySem.W.subIn K (.ref CI) (.type "BaseException") = some true
  tI : PySem.W.typeIn K (.ref CI) = some (.type "type")
  gB : mg "BadText" = some (.ref CB)
  sB : SupC P K CB "at" "at" "BadText.__init__" fB fdB
  ms : mg "super" = none
  eB : PySem.W.exmOne K (.ref CB) (.ref CB) = some true
  eI : PySem.W.exmOne K (.ref CI) (.ref CB) = some false
  xfB : XfC K CB
section
variable {P : Program} {w : World} {K : PySem.W.Frag} {mg : Str → Option Value} {base : Heap}
/-- the errors of the defs -/
def RXT0 (Md : Facts P K mg) : RXT := fun x cls d H => (x.cls = "BadText" ∧ cls = .ref Md.CB ∧ ∃ dd : Addr, d = some dd ∧ ∀ i : Int, x.arg = .int i → H dd = some (.xd [("at", .int i)])) ∨ (x.cls = "InvalidOctets" ∧ cls = .ref Md.CI ∧ d = none)
theorem rx_bad {Md : Facts P K mg} : ∀ (v : PV) (w : V) (F H : Hp) (d : Addr), RepV K F v w → H d = some (.xd [(("at" : Str), w)]) → RXT0 Md ⟨"BadText", v⟩ (.ref Md.CB) (some d) H := fun v w F H d r h => .inl ⟨rfl, rfl, d, rfl, fun i e => by
  have e : v = .int i := e
  subst e
  unfold RepV at r
  rw [h, r]⟩
theorem rx_inv {Md : Facts P K mg} : ∀ H : Hp, RXT0 Md ⟨"InvalidOctets", .non⟩ (.ref Md.CI) none H := fun H => .inr ⟨rfl, rfl, rfl⟩
/-- all defs keep their promises at level n -/
structure AllOk (P : Program) (w : World) (K : PySem.W.Frag) (mg : Str → Option Value) (base : Heap) (Md : Facts P K mg) (t : Tb) (n : Nat) : Prop where
  is_sign : FnOk P w K mg base CX0 n Md.is_sign.f Md.is_sign.fd ["one"] (spF K RX0 t.is_sign 1)
  sign_of : FnOk P w K mg base CX0 n Md.sign_of.f Md.sign_of.fd ["one"] (spF K RX0 t.sign_of 1)
  are_octets : FnOk P w K mg base CX0 n Md.are_octets.f Md.are_octets.fd ["value"] (spF K RX0 t.are_octets 1)
  few_digits : FnOk P w K mg base CX0 n Md.few_digits.f Md.few_digits.fd ["number"] (spF K RX0 t.few_digits 1)
  counted : FnOk P w K mg base CX0 n Md.counted.f Md.counted.fd ["value", "deep"] (spF K RX0 t.counted 2)
  digits_of : FnOk P w K mg base CX0 n Md.digits_of.f Md.digits_of.fd ["number"] (spF K RX0 t.digits_of 1)
  laid : FnOk P w K mg base CX0 n Md.laid.f Md.laid.fd ["value"] (spF K RX0 t.laid 1)
  write_octets : FnOk P w K mg base (L2.CX P w) n Md.write_octets.f Md.write_octets.fd ["value"] (spF K (RXT0 Md) t.write_octets 1)
  read_digits : FnOk P w K mg base (L2.CX P w) n Md.read_digits.f Md.read_digits.fd ["octets", "at", "most"] (spF K (RXT0 Md) t.read_digits 3)
  Reader_begin : FnOk P w K mg base (L2.CX P w) n Md.Reader_begin.f Md.Reader_begin.fd ["self"] (spF K (RXT0 Md) t.Reader_begin 1)
  Reader_number : FnOk P w K mg base (L2.CX P w) n Md.Reader_number.f Md.Reader_number.fd ["self", "most"] (spF K (RXT0 Md) t.Reader_number 2)
  Reader_string : FnOk P w K mg base (L2.CX P w) n Md.Reader_string.f Md.Reader_string.fd ["self"] (spF K (RXT0 Md) t.Reader_string 1)
  Reader_value : FnOk P w K mg base (L2.CX P w) n Md.Reader_value.f Md.Reader_value.fd ["self", "deep"] (spF K (RXT0 Md) t.Reader_value 2)
  read_octets : FnOk P w K mg base (L2.CX P w) n Md.read_octets.f Md.read_octets.fd ["octets"] (spF K (RXT0 Md) t.read_octets 1)
  law_cup : FnOk P w K mg base CX0 n Md.law_cup.f Md.law_cup.fd ["script"] (spF K RX0 t.law_cup 1)
  law_roll : FnOk P w K mg base CX0 n Md.law_roll.f Md.law_roll.fd ["cup", "many"] (spF K RX0 t.law_roll 2)
  law_some : FnOk P w K mg base CX0 n Md.law_some.f Md.law_some.fd ["cup", "things"] (spF K RX0 t.law_some 2)
  law_sort : FnOk P w K mg base CX0 n Md.law_sort.f Md.law_sort.fd ["value"] (spF K RX0 t.law_sort 1)
  law_like : FnOk P w K mg base CX0 n Md.law_like.f Md.law_like.fd ["one", "other"] (spF K RX0 t.law_like 2)
  law_signs : FnOk P w K mg base CX0 n Md.law_signs.f Md.law_signs.fd ["numbers"] (spF K RX0 t.law_signs 1)
  law_value : FnOk P w K mg base CX0 n Md.law_value.f Md.law_value.fd ["cup", "deep"] (spF K RX0 t.law_value 2)
  law_first : FnOk P w K mg base CX0 n Md.law_first.f Md.law_first.fd ["octets"] (spF K RX0 t.law_first 1)
  law : FnOk P w K mg base CX0 n Md.law.f Md.law.fd ["script"] (spF K RX0 t.law 1)
  law_told : FnOk P w K mg base CX0 n Md.law_told.f Md.law_told.fd ["octets"] (spF K RX0 t.law_told 1)
variable {Md : Facts P K mg} {t : Tb} {m : Nat}
theorem ok_is_sign (ih : AllOk P w K mg base Md t (m + 2)) : FnOk P w K mg base CX0 (m + 3) Md.is_sign.f Md.is_sign.fd ["one"] (spF K RX0 (runF 1 (b_is_sign Md.C_Reader t)) 1) :=
  Pu.fn_mk Md.is_sign.fn sc_is_sign fun cdv A outer s H E hr =>
    (SSs.one (SS.ret (SE.or (SE.chain op_le prim_le op_le prim_le SE.int (SE.bor (pv 0)) SE.int) (SE.one (SE.cmp (op_eqD hr.units) prim_eq (SE.bor (pv 0)) SE.int (by rfl))))))
theorem ok_sign_of (ih : AllOk P w K mg base Md t (m + 2)) : FnOk P w K mg base CX0 (m + 3) Md.sign_of.f Md.sign_of.fd ["one"] (spF K RX0 (runF 1 (b_sign_of Md.C_Reader t)) 1) :=
  Pu.fn_mk Md.sign_of.fn sc_sign_of fun cdv A outer s H E hr =>
    (SSs.one (SS.ret (SE.asc (SE.nm (pv 0)) rfl Md.z_bytes rfl)))
theorem ok_are_octets (ih : AllOk P w K mg base Md t (m + 2)) : FnOk P w K mg base CX0 (m + 3) Md.are_octets.f Md.are_octets.fd ["value"] (spF K RX0 (runF 2 (b_are_octets Md.C_Reader t)) 1) :=
  Pu.fn_mk Md.are_octets.fn sc_are_octets fun cdv A outer s H E hr =>
    (SSs.cons (SS.ifS (ST.tnot (ST.truth (SE.callB call_isi prim_isi Md.z_isinstance rfl bt_isinstance (SA.cons (SE.bor (pv 0)) (SA.cons (SE.tyNm rfl Md.z_tuple bt_tuple) SA.nil)))))
    (SSs.one (SS.ret SE.bl))
    SSs.nil)
    (SSs.one (SS.ret (SE.callB (cr_all rfl) prim_all Md.z_all rfl bt_all (SA.cons (SE.lc (SI.src (SE.nm (pv 0))) (own := [("one", 1)]) (blkOk_by (by rfl)) sc_are_octets.nd (fun s H C cl fp => (SG.nm (i := 1) sc_are_octets.nd rfl (by first | exact Or.inl rfl | exact Or.inr rfl))) (fun s H C cl fp => STs.nil) (fun s H C cl fp => (SE.and (SE.callB call_isi prim_isi Md.z_isinstance rfl bt_isinstance (SA.cons (SE.bor (pv 1)) (SA.cons (SE.tyNm rfl Md.z_int bt_int) SA.nil))) (SE.and (SE.not (SE.callB call_isi prim_isi Md.z_isinstance rfl bt_isinstance (SA.cons (SE.bor (pv 1)) (SA.cons (SE.tyNm rfl Md.z_bool bt_bool) SA.nil)))) (SE.one (SE.chain op_le prim_le op_le prim_le SE.int (SE.bor (pv 1)) SE.int))))) (S := [1]) (by decide) rfl) SA.nil)))))
theorem ok_few_digits (ih : AllOk P w K mg base Md t (m + 2)) : FnOk P w K mg base CX0 (m + 3) Md.few_digits.f Md.few_digits.fd ["number"] (spF K RX0 (runF 2 (b_few_digits Md.C_Reader t)) 1) :=
  Pu.fn_mk Md.few_digits.fn sc_few_digits fun cdv A outer s H E hr =>
    (SSs.cons (SS.for (SI.range1 (SA.cons SE.int SA.nil) Md.z_range rfl) (SG.nm (i := 1) sc_few_digits.nd rfl (by first | exact Or.inl rfl | exact Or.inr rfl))
    (SSs.one (SS.aug iop_fdivW prim_div (SE.bin op_pow prim_pow SE.int SE.int) sc_few_digits.nd (i := 0) rfl (by first | exact Or.inl rfl | exact Or.inr rfl))) PassesOwn.never rfl)
    (SSs.one (SS.ret (SE.cmp op_lt prim_lt (SE.bor (pv 0)) (SE.bin op_pow prim_pow SE.int SE.int) (by rfl)))))
theorem ok_counted (ih : AllOk P w K mg base Md t (m + 2)) : FnOk P w K mg base CX0 (m + 3) Md.counted.f Md.counted.fd ["value", "deep"] (spF K RX0 (runF 6 (b_counted Md.C_Reader t)) 2) :=
  Pu.fn_mk Md.counted.fn sc_counted fun cdv A outer s H E hr =>
    (SSs.cons (SS.ifS (SW.st (SW.or (ST.cmp op_is prim_is (SE.bor (pv 0)) SE.non (by rfl)) (SW.or1 (ST.truth (SE.callB call_isi prim_isi Md.z_isinstance rfl bt_isinstance (SA.cons (SE.bor (pv 0)) (SA.cons (SE.tyNm rfl Md.z_bool bt_bool) SA.nil)))))))
    (SSs.one (SS.ret SE.int))
    SSs.nil)
    (SSs.cons (SS.ifS (ST.truth (SE.callB call_isi prim_isi Md.z_isinstance rfl bt_isinstance (SA.cons (SE.bor (pv 0)) (SA.cons (SE.tyNm rfl Md.z_int bt_int) SA.nil))))
    (SSs.one (SS.ret (SE.ifE (ST.truth (SE.call ih.few_digits hr Md.few_digits.gl Md.few_digits.fn.kp Md.few_digits.bd passZ (fun _ _ _ _ _ h => h.elim) rfl (SA.cons (SE.ifE (ST.cmp op_ge prim_ge (SE.bor (pv 0)) SE.int (by rfl)) (SE.nm (pv 0)) (SE.bin op_sub prim_sub (SE.un un_neg prim_neg (SE.bor (pv 0))) SE.int)) SA.nil) (mALen _ mALen0))) SE.int SE.non)))
    SSs.nil)
    (SSs.cons (SS.ifS (ST.truth (SE.callB call_isi prim_isi Md.z_isinstance rfl bt_isinstance (SA.cons (SE.bor (pv 0)) (SA.cons (SE.tyNm rfl Md.z_str bt_str) SA.nil))))
    (SSs.one (SS.ret (SE.ifE (SW.st (SW.and (ST.cmp op_le prim_le (SE.callB call_len prim_len Md.z_len rfl bt_len (SA.cons (SE.bor (pv 0)) SA.nil)) (SE.glI Md.c_SIGNS rfl) (by rfl)) (SW.and1 (ST.truth (SE.callB (cr_all rfl) prim_all Md.z_all rfl bt_all (SA.cons (SE.lc (SI.src (SE.nm (pv 0))) (own := [("sign", 5)]) (blkOk_by (by rfl)) sc_counted.nd (fun s H C cl fp => (SG.nm (i := 5) sc_counted.nd rfl (by first | exact Or.inl rfl | exact Or.inr rfl))) (fun s H C cl fp => STs.nil) (fun s H C cl fp => (SE.call ih.is_sign hr Md.is_sign.gl Md.is_sign.fn.kp Md.is_sign.bd passZ (fun _ _ _ _ _ h => h.elim) rfl (SA.cons (SE.callB call_ord prim_ord Md.z_ord rfl bt_ord (SA.cons (SE.bor (pv 5)) SA.nil)) SA.nil) (mALen _ mALen0))) (S := [5]) (by decide) rfl) SA.nil)))))) SE.int SE.non)))
    SSs.nil)
    (SSs.cons (SS.ifS (SW.st (SW.or (ST.tnot (ST.truth (SE.callB call_isi prim_isi Md.z_isinstance rfl bt_isinstance (SA.cons (SE.bor (pv 0)) (SA.cons (SE.tyNm rfl Md.z_tuple bt_tuple) SA.nil))))) (SW.or (ST.cmp (op_eqD hr.units) prim_eq (SE.bor (pv 1)) (SE.glI Md.c_DEEP rfl) (by rfl)) (SW.or1 (ST.cmp op_gt prim_gt (SE.callB call_len prim_len Md.z_len rfl bt_len (SA.cons (SE.bor (pv 0)) SA.nil)) (SE.glI Md.c_ITEMS rfl) (by rfl))))))
    (SSs.one (SS.ret SE.non))
    SSs.nil)
    (SSs.cons (SS.asg SE.int sc_counted.nd (i := 2) rfl (by first | exact Or.inl rfl | exact Or.inr rfl))
    (SSs.cons (SS.for (SI.src (SE.nm (pv 0))) (SG.nm (i := 3) sc_counted.nd rfl (by first | exact Or.inl rfl | exact Or.inr rfl))
    (SSs.cons (SS.asg (SE.call ih.counted hr Md.counted.gl Md.counted.fn.kp Md.counted.bd passZ (fun _ _ _ _ _ h => h.elim) rfl (SA.cons (SE.nm (pv 3)) (SA.cons (SE.bin (op_add.or (op_catA.or op_cat)) prim_add (SE.bor (pv 1)) SE.int) SA.nil)) (mALen _ (mALen _ mALen0))) sc_counted.nd (i := 4) rfl (by first | exact Or.inl rfl | exact Or.inr rfl))
    (SSs.cons (SS.ifS (SW.st (SW.or (ST.cmp op_is prim_is (SE.bor (pv 4)) SE.non (by rfl)) (SW.or1 (ST.cmp op_gt prim_gt (SE.bin (op_add.or (op_catA.or op_cat)) prim_add (SE.bor (pv 2)) (SE.bor (pv 4))) (SE.glI Md.c_PARTS rfl) (by rfl)))))
    (SSs.one (SS.ret SE.non))
    SSs.nil)
    (SSs.one (SS.aug iop_add prim_addI (SE.bor (pv 4)) sc_counted.nd (i := 2) rfl (by first | exact Or.inl rfl | exact Or.inr rfl))))) PassesOwn.never rfl)
    (SSs.one (SS.retNm (pv 2)))))))))
theorem ok_digits_of (ih : AllOk P w K mg base Md t (m + 2)) : FnOk P w K mg base CX0 (m + 3) Md.digits_of.f Md.digits_of.fd ["number"] (spF K RX0 (runF 2 (b_digits_of Md.C_Reader t)) 1) :=
  Pu.fn_mk Md.digits_of.fn sc_digits_of fun cdv A outer s H E hr =>
    (SSs.cons (SS.asg (SE.lst SA.nil) sc_digits_of.nd (i := 1) rfl (by first | exact Or.inl rfl | exact Or.inr rfl))
    (SSs.cons (SS.while 1000 (ST.cmp op_gt prim_gt (SE.bor (pv 0)) SE.int (by rfl)) (SSs.cons (SS.append (pv 1) (SE.bin (op_add.or (op_catA.or op_cat)) prim_add (SE.bin op_mod prim_mod (SE.callTy call_int1 prim_int Md.z_int rfl bt_int (SA.cons (SE.bor (pv 0)) SA.nil)) SE.int) SE.int))
    (SSs.one (SS.aug iop_fdivW prim_div SE.int sc_digits_of.nd (i := 0) rfl (by first | exact Or.inl rfl | exact Or.inr rfl)))) PassesOwn.never)
    (SSs.cons (SS.append (pv 1) (SE.nm (pv 0)))
    (SSs.one (SS.retNm (pv 1))))))
theorem ok_laid (ih : AllOk P w K mg base Md t (m + 2)) : FnOk P w K mg base CX0 (m + 3) Md.laid.f Md.laid.fd ["value"] (spF K RX0 (runF 4 (b_laid Md.C_Reader t)) 1) :=
  Pu.fn_mk Md.laid.fn sc_laid fun cdv A outer s H E hr =>
    (SSs.cons (SS.ifS (ST.cmp op_is prim_is (SE.bor (pv 0)) SE.non (by rfl))
    (SSs.one (SS.ret (SE.lst (SA.cons SE.int SA.nil))))
    SSs.nil)
    (SSs.cons (SS.ifS (ST.cmp op_is prim_is (SE.bor (pv 0)) SE.bl (by rfl))
    (SSs.one (SS.ret (SE.lst (SA.cons SE.int SA.nil))))
    SSs.nil)
    (SSs.cons (SS.ifS (ST.cmp op_is prim_is (SE.bor (pv 0)) SE.bl (by rfl))
    (SSs.one (SS.ret (SE.lst (SA.cons SE.int SA.nil))))
    SSs.nil)
    (SSs.cons (SS.ifS (ST.truth (SE.callB call_isi prim_isi Md.z_isinstance rfl bt_isinstance (SA.cons (SE.bor (pv 0)) (SA.cons (SE.tyNm rfl Md.z_int bt_int) SA.nil))))
    (SSs.one (SS.ret (SE.ifE (ST.cmp op_ge prim_ge (SE.bor (pv 0)) SE.int (by rfl)) (SE.bin (op_add.or (op_catA.or op_cat)) prim_add (SE.lst (SA.cons SE.int SA.nil)) (SE.call ih.digits_of hr Md.digits_of.gl Md.digits_of.fn.kp Md.digits_of.bd passZ (fun _ _ _ _ _ h => h.elim) rfl (SA.cons (SE.nm (pv 0)) SA.nil) (mALen _ mALen0))) (SE.bin (op_add.or (op_catA.or op_cat)) prim_add (SE.lst (SA.cons SE.int SA.nil)) (SE.call ih.digits_of hr Md.digits_of.gl Md.digits_of.fn.kp Md.digits_of.bd passZ (fun _ _ _ _ _ h => h.elim) rfl (SA.cons (SE.bin op_sub prim_sub (SE.un un_neg prim_neg (SE.bor (pv 0))) SE.int) SA.nil) (mALen _ mALen0))))))
    SSs.nil)
    (SSs.cons (SS.ifS (ST.truth (SE.callB call_isi prim_isi Md.z_isinstance rfl bt_isinstance (SA.cons (SE.bor (pv 0)) (SA.cons (SE.tyNm rfl Md.z_str bt_str) SA.nil))))
    (SSs.one (SS.ret (SE.bin (op_add.or (op_catA.or op_cat)) prim_add (SE.bin (op_add.or (op_catA.or op_cat)) prim_add (SE.lst (SA.cons SE.int SA.nil)) (SE.call ih.digits_of hr Md.digits_of.gl Md.digits_of.fn.kp Md.digits_of.bd passZ (fun _ _ _ _ _ h => h.elim) rfl (SA.cons (SE.callB call_len prim_len Md.z_len rfl bt_len (SA.cons (SE.bor (pv 0)) SA.nil)) SA.nil) (mALen _ mALen0))) (SE.lc (SI.src (SE.nm (pv 0))) (own := [("sign", 3)]) (blkOk_by (by rfl)) sc_laid.nd (fun s H C cl fp => (SG.nm (i := 3) sc_laid.nd rfl (by first | exact Or.inl rfl | exact Or.inr rfl))) (fun s H C cl fp => STs.nil) (fun s H C cl fp => (SE.callB call_ord prim_ord Md.z_ord rfl bt_ord (SA.cons (SE.bor (pv 3)) SA.nil))) (S := [3]) (by decide) rfl))))
    SSs.nil)
    (SSs.cons (SS.asg (SE.bin (op_add.or (op_catA.or op_cat)) prim_add (SE.lst (SA.cons SE.int SA.nil)) (SE.call ih.digits_of hr Md.digits_of.gl Md.digits_of.fn.kp Md.digits_of.bd passZ (fun _ _ _ _ _ h => h.elim) rfl (SA.cons (SE.callB call_len prim_len Md.z_len rfl bt_len (SA.cons (SE.bor (pv 0)) SA.nil)) SA.nil) (mALen _ mALen0))) sc_laid.nd (i := 1) rfl (by first | exact Or.inl rfl | exact Or.inr rfl))
    (SSs.cons (SS.for (SI.src (SE.nm (pv 0))) (SG.nm (i := 2) sc_laid.nd rfl (by first | exact Or.inl rfl | exact Or.inr rfl))
    (SSs.one (SS.extend (pv 1) (SE.call ih.laid hr Md.laid.gl Md.laid.fn.kp Md.laid.bd passZ (fun _ _ _ _ _ h => h.elim) rfl (SA.cons (SE.nm (pv 2)) SA.nil) (mALen _ mALen0)))) PassesOwn.never rfl)
    (SSs.one (SS.retNm (pv 1))))))))))
theorem ok_write_octets (ih : AllOk P w K mg base Md t (m + 2)) : FnOk P w K mg base (L2.CX P w) (m + 3) Md.write_octets.f Md.write_octets.fd ["value"] (spF K (RXT0 Md) (runX 1 (b_write_octets Md.C_Reader t)) 1) :=
  Pu.fn_mkX Md.write_octets.fn sc_write_octets fun cdv A outer s H E hr =>
    (SSs.cons (SS.ifS (ST.cmp op_is prim_is (SE.call ih.counted hr Md.counted.gl Md.counted.fn.kp Md.counted.bd passZ (fun _ _ _ _ _ _ r => r.elim) rfl (SA.cons (SE.nm (pv 0)) (SA.cons SE.int SA.nil)) (mALen _ (mALen _ mALen0))) SE.non (by rfl))
    (SSs.one (SS.raise0 rfl (takes_of rfl rfl rfl rfl) PySem.F.excBase_ValueError Md.xI Md.gI Md.kI (raises_own Md.bI Md.tI) (by rfl) rx_inv))
    SSs.nil)
    (SSs.one (SS.ret (SE.callTy call_tuple_of prim_tuple Md.z_tuple rfl bt_tuple (SA.cons (SE.call ih.laid hr Md.laid.gl Md.laid.fn.kp Md.laid.bd passZ (fun _ _ _ _ _ _ r => r.elim) rfl (SA.cons (SE.nm (pv 0)) SA.nil) (mALen _ mALen0)) SA.nil)))))
theorem ok_read_digits (ih : AllOk P w K mg base Md t (m + 2)) : FnOk P w K mg base (L2.CX P w) (m + 3) Md.read_digits.f Md.read_digits.fd ["octets", "at", "most"] (spF K (RXT0 Md) (runX 7 (b_read_digits Md.C_Reader t)) 3) :=
  Pu.fn_mkX Md.read_digits.fn sc_read_digits fun cdv A outer s H E hr =>
    (SSs.cons (SS.asg SE.int sc_read_digits.nd (i := 3) rfl (by first | exact Or.inl rfl | exact Or.inr rfl))
    (SSs.cons (SS.asg SE.int sc_read_digits.nd (i := 4) rfl (by first | exact Or.inl rfl | exact Or.inr rfl))
    (SSs.cons (SS.asg SE.int sc_read_digits.nd (i := 5) rfl (by first | exact Or.inl rfl | exact Or.inr rfl))
    (SSs.one (SS.while 1000 (ST.truth SE.bl) (SSs.cons (SS.ifS (SW.st (SW.or (ST.cmp (op_eqD hr.units) prim_eq (SE.bor (pv 1)) (SE.callB call_len prim_len Md.z_len rfl bt_len (SA.cons (SE.bor (pv 0)) SA.nil)) (by rfl)) (SW.or1 (ST.cmp (op_eqD hr.units) prim_eq (SE.bor (pv 4)) (SE.glI Md.c_DIGITS rfl) (by rfl)))))
    (SSs.one (SS.raise rfl (takes_of rfl rfl rfl rfl) Md.sB (by rfl) Md.gB Md.ms (hr.mono (by omega)) rx_bad (SE.nm (pv 1))))
    SSs.nil)
    (SSs.cons (SS.asg (SE.ix (SE.bor (pv 0)) (SE.bor (pv 1))) sc_read_digits.nd (i := 6) rfl (by first | exact Or.inl rfl | exact Or.inr rfl))
    (SSs.cons (SS.aug iop_add prim_addI (SE.bin (op_mul.or (op_mulW.or op_rep)) prim_mul (SE.bin op_mod prim_mod (SE.callTy call_int1 prim_int Md.z_int rfl bt_int (SA.cons (SE.bor (pv 6)) SA.nil)) SE.int) (SE.bor (pv 5))) sc_read_digits.nd (i := 3) rfl (by first | exact Or.inl rfl | exact Or.inr rfl))
    (SSs.cons (SS.aug iop_mul prim_mulS SE.int sc_read_digits.nd (i := 5) rfl (by first | exact Or.inl rfl | exact Or.inr rfl))
    (SSs.cons (SS.ifS (ST.cmp op_lt prim_lt (SE.bor (pv 6)) SE.int (by rfl))
    (SSs.cons (SS.ifS (SW.st (SW.or (SW.st (SW.and (ST.cmp (op_eqD hr.units) prim_eq (SE.bor (pv 6)) SE.int (by rfl)) (SW.and1 (ST.cmp op_gt prim_gt (SE.bor (pv 4)) SE.int (by rfl))))) (SW.or1 (SW.st (SW.and (ST.cmp op_isNot prim_isNot (SE.bor (pv 2)) SE.non (by rfl)) (SW.and1 (ST.cmp op_gt prim_gt (SE.bor (pv 3)) (SE.bor (pv 2)) (by rfl))))))))
    (SSs.one (SS.raise rfl (takes_of rfl rfl rfl rfl) Md.sB (by rfl) Md.gB Md.ms (hr.mono (by omega)) rx_bad (SE.nm (pv 1))))
    SSs.nil)
    (SSs.one (SS.ret (SE.tup (SA.cons (SE.nm (pv 3)) (SA.cons (SE.bin (op_add.or (op_catA.or op_cat)) prim_add (SE.bor (pv 1)) SE.int) SA.nil))))))
    SSs.nil)
    (SSs.cons (SS.aug iop_add prim_addI SE.int sc_read_digits.nd (i := 4) rfl (by first | exact Or.inl rfl | exact Or.inr rfl))
    (SSs.one (SS.aug iop_add prim_addI SE.int sc_read_digits.nd (i := 1) rfl (by first | exact Or.inl rfl | exact Or.inr rfl))))))))) (passes_of rfl))))))
theorem ok_Reader___init__ : FnOk P w K mg base CX0 1 Md.Reader___init__.f Md.Reader___init__.fd ["self", "octets"] (spF K RX0 (g_Reader___init__ Md.C_Reader) 2) :=
  Pu.fn_mk Md.Reader___init__.fn sc_Reader___init__ fun cdv A outer s H E hr =>
    (SSs.cons (SS.fld (pv 0) Md.cl_Reader Md.na_Reader_octets (SE.nm (pv 1)))
    (SSs.cons (SS.fld (pv 0) Md.cl_Reader Md.na_Reader_at SE.int)
    (SSs.one (SS.fld (pv 0) Md.cl_Reader Md.na_Reader_parts SE.int))))
theorem ok_Reader_begin (ih : AllOk P w K mg base Md t (m + 2)) : FnOk P w K mg base (L2.CX P w) (m + 3) Md.Reader_begin.f Md.Reader_begin.fd ["self"] (spF K (RXT0 Md) (runX 1 (b_Reader_begin Md.C_Reader t)) 1) :=
  Pu.fn_mkX Md.Reader_begin.fn sc_Reader_begin fun cdv A outer s H E hr =>
    (SSs.cons (SS.ifS (SW.st (SW.or (ST.cmp (op_eqD hr.units) prim_eq (SE.fld (pv 0) Md.cl_Reader Md.na_Reader_at) (SE.callB call_len prim_len Md.z_len rfl bt_len (SA.cons (SE.fld (pv 0) Md.cl_Reader Md.na_Reader_octets) SA.nil)) (by rfl)) (SW.or1 (ST.cmp op_gt prim_gt (SE.ix (SE.fld (pv 0) Md.cl_Reader Md.na_Reader_octets) (SE.fld (pv 0) Md.cl_Reader Md.na_Reader_at)) SE.int (by rfl)))))
    (SSs.one (SS.raise rfl (takes_of rfl rfl rfl rfl) Md.sB (by rfl) Md.gB Md.ms (hr.mono (by omega)) rx_bad (SE.fld (pv 0) Md.cl_Reader Md.na_Reader_at)))
    SSs.nil)
    (SSs.cons (SS.augFld iop_add prim_addI (pv 0) Md.cl_Reader Md.na_Reader_at SE.int)
    (SSs.one (SS.ret (SE.ix (SE.fld (pv 0) Md.cl_Reader Md.na_Reader_octets) (SE.bin op_sub prim_sub (SE.fld (pv 0) Md.cl_Reader Md.na_Reader_at) SE.int))))))
theorem ok_Reader_number (ih : AllOk P w K mg base Md t (m + 2)) : FnOk P w K mg base (L2.CX P w) (m + 3) Md.Reader_number.f Md.Reader_number.fd ["self", "most"] (spF K (RXT0 Md) (runX 3 (b_Reader_number Md.C_Reader t)) 2) :=
  Pu.fn_mkX Md.Reader_number.fn sc_Reader_number fun cdv A outer s H E hr =>
    (SSs.cons (SS.asgT (SE.call ih.read_digits hr Md.read_digits.gl Md.read_digits.fn.kp Md.read_digits.bd (passes_call (takes_of rfl rfl rfl rfl) (fun _ _ _ _ h => h)) (fun x cls d F1 H1 h r => h cls d r) rfl (SA.cons (SE.fld (pv 0) Md.cl_Reader Md.na_Reader_octets) (SA.cons (SE.fld (pv 0) Md.cl_Reader Md.na_Reader_at) (SA.cons (SE.nm (pv 1)) SA.nil))) (mALen _ (mALen _ (mALen _ mALen0)))) (SG.tup (SGs.cons (SG.nm (i := 2) sc_Reader_number.nd rfl (by first | exact Or.inl rfl | exact Or.inr rfl)) (SGs.cons (SG.fld (pv 0) Md.cl_Reader Md.na_Reader_at) SGs.nil)) rfl))
    (SSs.one (SS.retNm (pv 2))))
theorem ok_Reader_string (ih : AllOk P w K mg base Md t (m + 2)) : FnOk P w K mg base (L2.CX P w) (m + 3) Md.Reader_string.f Md.Reader_string.fd ["self"] (spF K (RXT0 Md) (runX 4 (b_Reader_string Md.C_Reader t)) 1) :=
  Pu.fn_mkX Md.Reader_string.fn sc_Reader_string fun cdv A outer s H E hr =>
    (SSs.cons (SS.asg (SE.meth (pv 0) Md.cl_Reader Md.Reader_number.mt ih.Reader_number hr Md.Reader_number.bd (passes_call (takes_of rfl rfl rfl rfl) (fun _ _ _ _ h => h)) (fun x cls d F1 H1 h r => h cls d r) (SA.cons (SE.glI Md.c_SIGNS rfl) SA.nil) (mALen _ mALen0)) sc_Reader_string.nd (i := 1) rfl (by first | exact Or.inl rfl | exact Or.inr rfl))
    (SSs.cons (SS.asg (SE.lst SA.nil) sc_Reader_string.nd (i := 2) rfl (by first | exact Or.inl rfl | exact Or.inr rfl))
    (SSs.cons (SS.for (SI.range1 (SA.cons (SE.nm (pv 1)) SA.nil) Md.z_range rfl) (SG.nm (i := 3) sc_Reader_string.nd rfl (by first | exact Or.inl rfl | exact Or.inr rfl))
    (SSs.cons (SS.ifS (SW.st (SW.or (ST.cmp (op_eqD hr.units) prim_eq (SE.fld (pv 0) Md.cl_Reader Md.na_Reader_at) (SE.callB call_len prim_len Md.z_len rfl bt_len (SA.cons (SE.fld (pv 0) Md.cl_Reader Md.na_Reader_octets) SA.nil)) (by rfl)) (SW.or1 (ST.tnot (ST.truth (SE.call ih.is_sign hr Md.is_sign.gl Md.is_sign.fn.kp Md.is_sign.bd passZ (fun _ _ _ _ _ _ r => r.elim) rfl (SA.cons (SE.ix (SE.fld (pv 0) Md.cl_Reader Md.na_Reader_octets) (SE.fld (pv 0) Md.cl_Reader Md.na_Reader_at)) SA.nil) (mALen _ mALen0)))))))
    (SSs.one (SS.raise rfl (takes_of rfl rfl rfl rfl) Md.sB (by rfl) Md.gB Md.ms (hr.mono (by omega)) rx_bad (SE.fld (pv 0) Md.cl_Reader Md.na_Reader_at)))
    SSs.nil)
    (SSs.cons (SS.append (pv 2) (SE.call ih.sign_of hr Md.sign_of.gl Md.sign_of.fn.kp Md.sign_of.bd passZ (fun _ _ _ _ _ _ r => r.elim) rfl (SA.cons (SE.ix (SE.fld (pv 0) Md.cl_Reader Md.na_Reader_octets) (SE.fld (pv 0) Md.cl_Reader Md.na_Reader_at)) SA.nil) (mALen _ mALen0)))
    (SSs.one (SS.augFld iop_add prim_addI (pv 0) Md.cl_Reader Md.na_Reader_at SE.int)))) (passes_of rfl) rfl)
    (SSs.one (SS.ret (SE.join (SE.bor (pv 2))))))))
theorem ok_Reader_value (ih : AllOk P w K mg base Md t (m + 2)) : FnOk P w K mg base (L2.CX P w) (m + 3) Md.Reader_value.f Md.Reader_value.fd ["self", "deep"] (spF K (RXT0 Md) (runX 6 (b_Reader_value Md.C_Reader t)) 2) :=
  Pu.fn_mkX Md.Reader_value.fn sc_Reader_value fun cdv A outer s H E hr =>
    (SSs.cons (SS.asg (SE.fld (pv 0) Md.cl_Reader Md.na_Reader_at) sc_Reader_value.nd (i := 2) rfl (by first | exact Or.inl rfl | exact Or.inr rfl))
    (SSs.cons (SS.asg (SE.meth0 (pv 0) Md.cl_Reader Md.Reader_begin.mt ih.Reader_begin hr Md.Reader_begin.bd (passes_call (takes_of rfl rfl rfl rfl) (fun _ _ _ _ h => h)) (fun x cls d F1 H1 h r => h cls d r)) sc_Reader_value.nd (i := 3) rfl (by first | exact Or.inl rfl | exact Or.inr rfl))
    (SSs.cons (SS.ifS (ST.cmp op_in_seq prim_in (SE.bor (pv 3)) (SE.tup (SA.cons SE.int (SA.cons SE.int (SA.cons SE.int SA.nil)))) (by rfl))
    (SSs.one (SS.ret (SE.dget (hu_of hr) (SE.dispC (kvs := [(.inl 0, .non), (.inl 5, (.bl true)), (.inl 6, (.bl false))]) [.inl 0, .inl 5, .inl 6] [.non, (.bl true), (.bl false)] [.non, (.bl true), (.bl false)] (cps_cons pe_int pe_non (cps_cons pe_int pe_bl (cps_cons pe_int pe_bl cps_nil))) (by rfl) rfl (by decide) (fun F => (.cons (by unfold RepV; rfl) (.cons (by unfold RepV; rfl) (.cons (by unfold RepV; rfl) .nil))))) (SE.bor (pv 3)))))
    SSs.nil)
    (SSs.cons (SS.ifS (ST.cmp (op_eqD hr.units) prim_eq (SE.bor (pv 3)) SE.int (by rfl))
    (SSs.one (SS.ret (SE.meth (pv 0) Md.cl_Reader Md.Reader_number.mt ih.Reader_number hr Md.Reader_number.bd (passes_call (takes_of rfl rfl rfl rfl) (fun _ _ _ _ h => h)) (fun x cls d F1 H1 h r => h cls d r) (SA.cons SE.non SA.nil) (mALen _ mALen0))))
    SSs.nil)
    (SSs.cons (SS.ifS (ST.cmp (op_eqD hr.units) prim_eq (SE.bor (pv 3)) SE.int (by rfl))
    (SSs.one (SS.ret (SE.bin op_sub prim_sub (SE.un un_neg prim_neg (SE.meth (pv 0) Md.cl_Reader Md.Reader_number.mt ih.Reader_number hr Md.Reader_number.bd (passes_call (takes_of rfl rfl rfl rfl) (fun _ _ _ _ h => h)) (fun x cls d F1 H1 h r => h cls d r) (SA.cons SE.non SA.nil) (mALen _ mALen0))) SE.int)))
    SSs.nil)
    (SSs.cons (SS.ifS (ST.cmp (op_eqD hr.units) prim_eq (SE.bor (pv 3)) SE.int (by rfl))
    (SSs.one (SS.ret (SE.meth0 (pv 0) Md.cl_Reader Md.Reader_string.mt ih.Reader_string hr Md.Reader_string.bd (passes_call (takes_of rfl rfl rfl rfl) (fun _ _ _ _ h => h)) (fun x cls d F1 H1 h r => h cls d r))))
    SSs.nil)
    (SSs.cons (SS.ifS (ST.cmp (op_eqD hr.units) prim_eq (SE.bor (pv 1)) (SE.glI Md.c_DEEP rfl) (by rfl))
    (SSs.one (SS.raise rfl (takes_of rfl rfl rfl rfl) Md.sB (by rfl) Md.gB Md.ms (hr.mono (by omega)) rx_bad (SE.nm (pv 2))))
    SSs.nil)
    (SSs.cons (SS.asg (SE.meth (pv 0) Md.cl_Reader Md.Reader_number.mt ih.Reader_number hr Md.Reader_number.bd (passes_call (takes_of rfl rfl rfl rfl) (fun _ _ _ _ h => h)) (fun x cls d F1 H1 h r => h cls d r) (SA.cons (SE.callB (call_min2 rfl) prim_min2 Md.z_min rfl bt_min (SA.cons (SE.glI Md.c_ITEMS rfl) (SA.cons (SE.bin op_sub prim_sub (SE.glI Md.c_PARTS rfl) (SE.fld (pv 0) Md.cl_Reader Md.na_Reader_parts)) SA.nil))) SA.nil) (mALen _ mALen0)) sc_Reader_value.nd (i := 4) rfl (by first | exact Or.inl rfl | exact Or.inr rfl))
    (SSs.cons (SS.augFld iop_add prim_addI (pv 0) Md.cl_Reader Md.na_Reader_parts (SE.bor (pv 4)))
    (SSs.one (SS.ret (SE.callTy call_tuple_of prim_tuple Md.z_tuple rfl bt_tuple (SA.cons (SE.lcX rfl rfl (takes_of rfl rfl rfl rfl) (SI.range1 (SA.cons (SE.nm (pv 4)) SA.nil) Md.z_range rfl) (own := [("_", 5)]) (blkOk_by (by rfl)) sc_Reader_value.nd (fun s H C cl fp => (SG.nm (i := 5) sc_Reader_value.nd rfl (by first | exact Or.inl rfl | exact Or.inr rfl))) (fun s H C cl fp xe tk => (SE.meth (pv 0) Md.cl_Reader Md.Reader_value.mt ih.Reader_value hr Md.Reader_value.bd (passes_call tk (fun _ _ _ _ h => h)) (fun x cls d F1 H1 h r => h cls d r) (SA.cons (SE.bin (op_add.or (op_catA.or op_cat)) prim_add (SE.bor (pv 1)) SE.int) SA.nil) (mALen _ mALen0))) (S := [5]) (by decide) rfl) SA.nil)))))))))))))
theorem ok_read_octets (ih : AllOk P w K mg base Md t (m + 2)) : FnOk P w K mg base (L2.CX P w) (m + 3) Md.read_octets.f Md.read_octets.fd ["octets"] (spF K (RXT0 Md) (runX 3 (b_read_octets Md.C_Reader t)) 1) :=
  Pu.fn_mkX Md.read_octets.fn sc_read_octets fun cdv A outer s H E hr =>
    (SSs.cons (SS.ifS (ST.tnot (ST.truth (SE.call ih.are_octets hr Md.are_octets.gl Md.are_octets.fn.kp Md.are_octets.bd passZ (fun _ _ _ _ _ _ r => r.elim) rfl (SA.cons (SE.nm (pv 0)) SA.nil) (mALen _ mALen0))))
    (SSs.one (SS.raise0 rfl (takes_of rfl rfl rfl rfl) PySem.F.excBase_ValueError Md.xI Md.gI Md.kI (raises_own Md.bI Md.tI) (by rfl) rx_inv))
    SSs.nil)
    (SSs.cons (SS.asg (SE.make Md.mk_Reader (ok_Reader___init__.mono (Nat.succ_le_succ (Nat.zero_le m))) hr Md.cg_Reader Md.Reader___init__.bd passZ (fun _ _ _ _ _ _ r => r.elim) runF_nox rfl (SA.cons (SE.nm (pv 0)) SA.nil) (mALen _ mALen0)) sc_read_octets.nd (i := 1) rfl (by first | exact Or.inl rfl | exact Or.inr rfl))
    (SSs.cons (SS.asg (SE.meth (pv 1) Md.cl_Reader Md.Reader_value.mt ih.Reader_value hr Md.Reader_value.bd (passes_call (takes_of rfl rfl rfl rfl) (fun _ _ _ _ h => h)) (fun x cls d F1 H1 h r => h cls d r) (SA.cons SE.int SA.nil) (mALen _ mALen0)) sc_read_octets.nd (i := 2) rfl (by first | exact Or.inl rfl | exact Or.inr rfl))
    (SSs.cons (SS.ifS (ST.cmp op_lt prim_lt (SE.fld (pv 1) Md.cl_Reader Md.na_Reader_at) (SE.callB call_len prim_len Md.z_len rfl bt_len (SA.cons (SE.bor (pv 0)) SA.nil)) (by rfl))
    (SSs.one (SS.raise rfl (takes_of rfl rfl rfl rfl) Md.sB (by rfl) Md.gB Md.ms (hr.mono (by omega)) rx_bad (SE.fld (pv 1) Md.cl_Reader Md.na_Reader_at)))
    SSs.nil)
    (SSs.one (SS.retNm (pv 2)))))))
theorem ok_law_cup (ih : AllOk P w K mg base Md t (m + 2)) : FnOk P w K mg base CX0 (m + 3) Md.law_cup.f Md.law_cup.fd ["script"] (spF K RX0 (runF 2 (b_law_cup Md.C_Reader t)) 1) :=
  Pu.fn_mk Md.law_cup.fn sc_law_cup fun cdv A outer s H E hr =>
    (SSs.cons (SS.asg (SE.callB call_abs prim_abs Md.z_abs rfl bt_abs (SA.cons (SE.ix (SE.bin (op_add.or (op_catA.or op_cat)) prim_add (SE.callTy call_list_of prim_list Md.z_list rfl bt_list (SA.cons (SE.bor (pv 0)) SA.nil)) (SE.lst (SA.cons SE.int SA.nil))) SE.int) SA.nil)) sc_law_cup.nd (i := 1) rfl (by first | exact Or.inl rfl | exact Or.inr rfl))
    (SSs.one (SS.ret (SE.lst (SA.cons (SE.ifE (ST.cmp op_ge prim_ge (SE.bor (pv 1)) (SE.bin op_pow prim_pow SE.int SE.int) (by rfl)) (SE.bin op_fdivW prim_div (SE.bor (pv 1)) SE.int) SE.int) (SA.cons (SE.bin (op_add.or (op_catA.or op_cat)) prim_add (SE.bin op_mod prim_mod (SE.callTy call_int1 prim_int Md.z_int rfl bt_int (SA.cons (SE.bin (op_add.or (op_catA.or op_cat)) prim_add (SE.bin (op_mul.or (op_mulW.or op_rep)) prim_mul (SE.bor (pv 1)) SE.int) SE.int) SA.nil)) SE.int) SE.int) SA.nil))))))
theorem ok_law_roll (ih : AllOk P w K mg base Md t (m + 2)) : FnOk P w K mg base CX0 (m + 3) Md.law_roll.f Md.law_roll.fd ["cup", "many"] (spF K RX0 (runF 4 (b_law_roll Md.C_Reader t)) 2) :=
  Pu.fn_mk Md.law_roll.fn sc_law_roll fun cdv A outer s H E hr =>
    (SSs.cons (SS.ifS (ST.cmp op_gt prim_gt (SE.ix (SE.bor (pv 0)) SE.int) SE.int (by rfl))
    (SSs.cons (SS.asg (SE.bin op_mod prim_mod (SE.callTy call_int1 prim_int Md.z_int rfl bt_int (SA.cons (SE.ix (SE.bor (pv 0)) SE.int) SA.nil)) (SE.bor (pv 1))) sc_law_roll.nd (i := 3) rfl (by first | exact Or.inl rfl | exact Or.inr rfl))
    (SSs.cons (SS.putL (pv 0) SE.int (SE.bin op_fdivW prim_div (SE.ix (SE.bor (pv 0)) SE.int) (SE.bor (pv 1))))
    (SSs.one (SS.retNm (pv 3)))))
    SSs.nil)
    (SSs.cons (SS.putL (pv 0) SE.int (SE.bin op_mod prim_mod (SE.callTy call_int1 prim_int Md.z_int rfl bt_int (SA.cons (SE.bin (op_add.or (op_catA.or op_cat)) prim_add (SE.bin (op_mul.or (op_mulW.or op_rep)) prim_mul (SE.ix (SE.bor (pv 0)) SE.int) SE.int) SE.int) SA.nil)) SE.int))
    (SSs.cons (SS.asg (SE.bin op_mod prim_mod (SE.callTy call_int1 prim_int Md.z_int rfl bt_int (SA.cons (SE.bin (op_mul.or (op_mulW.or op_rep)) prim_mul (SE.ix (SE.bor (pv 0)) SE.int) (SE.bin (op_add.or (op_catA.or op_cat)) prim_add (SE.ix (SE.bor (pv 0)) SE.int) SE.int)) SA.nil)) SE.int) sc_law_roll.nd (i := 2) rfl (by first | exact Or.inl rfl | exact Or.inr rfl))
    (SSs.one (SS.ret (SE.bin op_mod prim_mod (SE.callTy call_int1 prim_int Md.z_int rfl bt_int (SA.cons (SE.bin op_fdivW prim_div (SE.bor (pv 2)) SE.int) SA.nil)) (SE.bor (pv 1))))))))
theorem ok_law_some (ih : AllOk P w K mg base Md t (m + 2)) : FnOk P w K mg base CX0 (m + 3) Md.law_some.f Md.law_some.fd ["cup", "things"] (spF K RX0 (runF 2 (b_law_some Md.C_Reader t)) 2) :=
  Pu.fn_mk Md.law_some.fn sc_law_some fun cdv A outer s H E hr =>
    (SSs.one (SS.ret (SE.ix (SE.bor (pv 1)) (SE.call ih.law_roll hr Md.law_roll.gl Md.law_roll.fn.kp Md.law_roll.bd passZ (fun _ _ _ _ _ h => h.elim) rfl (SA.cons (SE.bor (pv 0)) (SA.cons (SE.callB call_len prim_len Md.z_len rfl bt_len (SA.cons (SE.bor (pv 1)) SA.nil)) SA.nil)) (mALen _ (mALen _ mALen0))))))
theorem ok_law_sort (ih : AllOk P w K mg base Md t (m + 2)) : FnOk P w K mg base CX0 (m + 3) Md.law_sort.f Md.law_sort.fd ["value"] (spF K RX0 (runF 1 (b_law_sort Md.C_Reader t)) 1) :=
  Pu.fn_mk Md.law_sort.fn sc_law_sort fun cdv A outer s H E hr =>
    (SSs.cons (SS.ifS (SW.st (SW.or (ST.cmp op_is prim_is (SE.bor (pv 0)) SE.non (by rfl)) (SW.or1 (ST.truth (SE.callB call_isi prim_isi Md.z_isinstance rfl bt_isinstance (SA.cons (SE.bor (pv 0)) (SA.cons (SE.tyNm rfl Md.z_bool bt_bool) SA.nil)))))))
    (SSs.one (SS.ret (SE.ifE (ST.cmp op_is prim_is (SE.bor (pv 0)) SE.non (by rfl)) SE.int SE.int)))
    SSs.nil)
    (SSs.cons (SS.ifS (SW.st (SW.or (ST.truth (SE.callB call_isi prim_isi Md.z_isinstance rfl bt_isinstance (SA.cons (SE.bor (pv 0)) (SA.cons (SE.tyNm rfl Md.z_int bt_int) SA.nil)))) (SW.or1 (ST.truth (SE.callB call_isi prim_isi Md.z_isinstance rfl bt_isinstance (SA.cons (SE.bor (pv 0)) (SA.cons (SE.tyNm rfl Md.z_str bt_str) SA.nil)))))))
    (SSs.one (SS.ret (SE.ifE (ST.truth (SE.callB call_isi prim_isi Md.z_isinstance rfl bt_isinstance (SA.cons (SE.bor (pv 0)) (SA.cons (SE.tyNm rfl Md.z_int bt_int) SA.nil)))) SE.int SE.int)))
    SSs.nil)
    (SSs.one (SS.ret (SE.ifE (ST.truth (SE.callB call_isi prim_isi Md.z_isinstance rfl bt_isinstance (SA.cons (SE.bor (pv 0)) (SA.cons (SE.tyNm rfl Md.z_tuple bt_tuple) SA.nil)))) SE.int (SE.ifE (ST.truth (SE.callB call_isi prim_isi Md.z_isinstance rfl bt_isinstance (SA.cons (SE.bor (pv 0)) (SA.cons (SE.tyNm rfl Md.z_list bt_list) SA.nil)))) SE.int SE.int))))))
theorem ok_law_like (ih : AllOk P w K mg base Md t (m + 2)) : FnOk P w K mg base CX0 (m + 3) Md.law_like.f Md.law_like.fd ["one", "other"] (spF K RX0 (runF 5 (b_law_like Md.C_Reader t)) 2) :=
  Pu.fn_mk Md.law_like.fn sc_law_like fun cdv A outer s H E hr =>
    (SSs.cons (SS.asg (SE.call ih.law_sort hr Md.law_sort.gl Md.law_sort.fn.kp Md.law_sort.bd passZ (fun _ _ _ _ _ h => h.elim) rfl (SA.cons (SE.nm (pv 1)) SA.nil) (mALen _ mALen0)) sc_law_like.nd (i := 2) rfl (by first | exact Or.inl rfl | exact Or.inr rfl))
    (SSs.cons (SS.ifS (SW.st (SW.or (ST.cmp (op_neD hr.units) prim_ne (SE.call ih.law_sort hr Md.law_sort.gl Md.law_sort.fn.kp Md.law_sort.bd passZ (fun _ _ _ _ _ h => h.elim) rfl (SA.cons (SE.nm (pv 0)) SA.nil) (mALen _ mALen0)) (SE.bor (pv 2)) (by rfl)) (SW.or1 (ST.cmp (op_eqD hr.units) prim_eq (SE.bor (pv 2)) SE.int (by rfl)))))
    (SSs.one (SS.ret SE.bl))
    SSs.nil)
    (SSs.cons (SS.ifS (ST.cmp op_in_seq prim_in (SE.bor (pv 2)) (SE.tup (SA.cons SE.int (SA.cons SE.int SA.nil))) (by rfl))
    (SSs.one (SS.ret (SE.and (SE.cmp (op_eqD hr.units) prim_eq (SE.callB call_len prim_len Md.z_len rfl bt_len (SA.cons (SE.bor (pv 0)) SA.nil)) (SE.callB call_len prim_len Md.z_len rfl bt_len (SA.cons (SE.bor (pv 1)) SA.nil)) (by rfl)) (SE.one (SE.cmp (op_eqD hr.units) prim_eq (SE.lc (SI.zip (SA.cons (SE.nm (pv 0)) (SA.cons (SE.nm (pv 1)) SA.nil)) Md.z_zip rfl) (own := [("first", 3), ("second", 4)]) (blkOk_by (by rfl)) sc_law_like.nd (fun s H C cl fp => (SG.tup (SGs.cons (SG.nm (i := 3) sc_law_like.nd rfl (by first | exact Or.inl rfl | exact Or.inr rfl)) (SGs.cons (SG.nm (i := 4) sc_law_like.nd rfl (by first | exact Or.inl rfl | exact Or.inr rfl)) SGs.nil)) rfl)) (fun s H C cl fp => (STs.one (ST.tnot (ST.truth (SE.call ih.law_like hr Md.law_like.gl Md.law_like.fn.kp Md.law_like.bd passZ (fun _ _ _ _ _ h => h.elim) rfl (SA.cons (SE.nm (pv 3)) (SA.cons (SE.nm (pv 4)) SA.nil)) (mALen _ (mALen _ mALen0))))))) (fun s H C cl fp => SE.int) (S := [3, 4]) (by decide) rfl) (SE.lst SA.nil) (by rfl))))))
    SSs.nil)
    (SSs.one (SS.ret (SE.cmp (op_eqD hr.units) prim_eq (SE.bor (pv 0)) (SE.bor (pv 1)) (by rfl)))))))
theorem ok_law_signs (ih : AllOk P w K mg base Md t (m + 2)) : FnOk P w K mg base CX0 (m + 3) Md.law_signs.f Md.law_signs.fd ["numbers"] (spF K RX0 (runF 3 (b_law_signs Md.C_Reader t)) 1) :=
  Pu.fn_mk Md.law_signs.fn sc_law_signs fun cdv A outer s H E hr =>
    (SSs.cons (SS.asg (SE.dispC (kvs := [(.inl 10, (.str "\n")), (.inl 32, (.str " ")), (.inl 65, (.str "A")), (.inl 97, (.str "a")), (.inl 126, (.str "~"))]) [.inl 10, .inl 32, .inl 65, .inl 97, .inl 126] [(.str "\n"), (.str " "), (.str "A"), (.str "a"), (.str "~")] [(.str "\n"), (.str " "), (.str "A"), (.str "a"), (.str "~")] (cps_cons pe_int pe_str (cps_cons pe_int pe_str (cps_cons pe_int pe_str (cps_cons pe_int pe_str (cps_cons pe_int pe_str cps_nil))))) (by rfl) rfl (by decide) (fun F => (.cons (by unfold RepV; rfl) (.cons (by unfold RepV; rfl) (.cons (by unfold RepV; rfl) (.cons (by unfold RepV; rfl) (.cons (by unfold RepV; rfl) .nil))))))) sc_law_signs.nd (i := 1) rfl (by first | exact Or.inl rfl | exact Or.inr rfl))
    (SSs.one (SS.ret (SE.join (SE.lc (SI.src (SE.nm (pv 0))) (own := [("one", 2)]) (blkOk_by (by rfl)) sc_law_signs.nd (fun s H C cl fp => (SG.nm (i := 2) sc_law_signs.nd rfl (by first | exact Or.inl rfl | exact Or.inr rfl))) (fun s H C cl fp => STs.nil) (fun s H C cl fp => (SE.dget (hu_of hr) (SE.bor (pv 1)) (SE.bor (pv 2)))) (S := [2]) (by decide) rfl)))))
theorem ok_law_value (ih : AllOk P w K mg base Md t (m + 2)) : FnOk P w K mg base CX0 (m + 3) Md.law_value.f Md.law_value.fd ["cup", "deep"] (spF K RX0 (runF 4 (b_law_value Md.C_Reader t)) 2) :=
  Pu.fn_mk Md.law_value.fn sc_law_value fun cdv A outer s H E hr =>
    (SSs.cons (SS.asg (SE.call ih.law_roll hr Md.law_roll.gl Md.law_roll.fn.kp Md.law_roll.bd passZ (fun _ _ _ _ _ h => h.elim) rfl (SA.cons (SE.bor (pv 0)) (SA.cons SE.int SA.nil)) (mALen _ (mALen _ mALen0))) sc_law_value.nd (i := 2) rfl (by first | exact Or.inl rfl | exact Or.inr rfl))
    (SSs.cons (SS.ifS (SW.st (SW.or (ST.cmp op_lt prim_lt (SE.bor (pv 2)) SE.int (by rfl)) (SW.or1 (ST.cmp (op_eqD hr.units) prim_eq (SE.bor (pv 1)) SE.int (by rfl)))))
    (SSs.one (SS.ret (SE.bin (op_mul.or (op_mulW.or op_rep)) prim_mul (SE.bin (op_add.or (op_catA.or op_cat)) prim_add (SE.call ih.law_roll hr Md.law_roll.gl Md.law_roll.fn.kp Md.law_roll.bd passZ (fun _ _ _ _ _ h => h.elim) rfl (SA.cons (SE.bor (pv 0)) (SA.cons (SE.call ih.law_some hr Md.law_some.gl Md.law_some.fn.kp Md.law_some.bd passZ (fun _ _ _ _ _ h => h.elim) rfl (SA.cons (SE.bor (pv 0)) (SA.cons (SE.lst (SA.cons SE.int (SA.cons SE.int (SA.cons SE.int (SA.cons (SE.bin op_pow prim_pow SE.int SE.int) SA.nil))))) SA.nil)) (mALen _ (mALen _ mALen0))) SA.nil)) (mALen _ (mALen _ mALen0))) SE.int) (SE.call ih.law_some hr Md.law_some.gl Md.law_some.fn.kp Md.law_some.bd passZ (fun _ _ _ _ _ h => h.elim) rfl (SA.cons (SE.bor (pv 0)) (SA.cons (SE.lst (SA.cons SE.int (SA.cons (SE.un un_neg prim_neg SE.int) SA.nil))) SA.nil)) (mALen _ (mALen _ mALen0))))))
    SSs.nil)
    (SSs.cons (SS.ifS (ST.cmp (op_eqD hr.units) prim_eq (SE.bor (pv 2)) SE.int (by rfl))
    (SSs.one (SS.ret (SE.call ih.law_signs hr Md.law_signs.gl Md.law_signs.fn.kp Md.law_signs.bd passZ (fun _ _ _ _ _ h => h.elim) rfl (SA.cons (SE.lc (SI.range1 (SA.cons (SE.call ih.law_roll hr Md.law_roll.gl Md.law_roll.fn.kp Md.law_roll.bd passZ (fun _ _ _ _ _ h => h.elim) rfl (SA.cons (SE.bor (pv 0)) (SA.cons SE.int SA.nil)) (mALen _ (mALen _ mALen0))) SA.nil) Md.z_range rfl) (own := [("turn", 3)]) (blkOk_by (by rfl)) sc_law_value.nd (fun s H C cl fp => (SG.nm (i := 3) sc_law_value.nd rfl (by first | exact Or.inl rfl | exact Or.inr rfl))) (fun s H C cl fp => STs.nil) (fun s H C cl fp => (SE.call ih.law_some hr Md.law_some.gl Md.law_some.fn.kp Md.law_some.bd passZ (fun _ _ _ _ _ h => h.elim) rfl (SA.cons (SE.bor (pv 0)) (SA.cons (SE.lst (SA.cons SE.int (SA.cons SE.int (SA.cons SE.int (SA.cons SE.int (SA.cons SE.int SA.nil)))))) SA.nil)) (mALen _ (mALen _ mALen0)))) (S := [3]) (by decide) rfl) SA.nil) (mALen _ mALen0))))
    SSs.nil)
    (SSs.cons (SS.ifS (ST.cmp (op_eqD hr.units) prim_eq (SE.bor (pv 2)) SE.int (by rfl))
    (SSs.one (SS.ret (SE.call ih.law_some hr Md.law_some.gl Md.law_some.fn.kp Md.law_some.bd passZ (fun _ _ _ _ _ h => h.elim) rfl (SA.cons (SE.bor (pv 0)) (SA.cons (SE.lst (SA.cons SE.non (SA.cons SE.bl (SA.cons SE.bl SA.nil)))) SA.nil)) (mALen _ (mALen _ mALen0)))))
    SSs.nil)
    (SSs.one (SS.ret (SE.callTy call_tuple_of prim_tuple Md.z_tuple rfl bt_tuple (SA.cons (SE.lc (SI.range1 (SA.cons (SE.call ih.law_roll hr Md.law_roll.gl Md.law_roll.fn.kp Md.law_roll.bd passZ (fun _ _ _ _ _ h => h.elim) rfl (SA.cons (SE.bor (pv 0)) (SA.cons SE.int SA.nil)) (mALen _ (mALen _ mALen0))) SA.nil) Md.z_range rfl) (own := [("turn", 3)]) (blkOk_by (by rfl)) sc_law_value.nd (fun s H C cl fp => (SG.nm (i := 3) sc_law_value.nd rfl (by first | exact Or.inl rfl | exact Or.inr rfl))) (fun s H C cl fp => STs.nil) (fun s H C cl fp => (SE.call ih.law_value hr Md.law_value.gl Md.law_value.fn.kp Md.law_value.bd passZ (fun _ _ _ _ _ h => h.elim) rfl (SA.cons (SE.bor (pv 0)) (SA.cons (SE.bin op_sub prim_sub (SE.bor (pv 1)) SE.int) SA.nil)) (mALen _ (mALen _ mALen0)))) (S := [3]) (by decide) rfl) SA.nil))))))))
theorem ok_law_first (ih : AllOk P w K mg base Md t (m + 2)) : FnOk P w K mg base CX0 (m + 3) Md.law_first.f Md.law_first.fd ["octets"] (spF K RX0 (runF 12 (b_law_first Md.C_Reader t)) 1) :=
  Pu.fn_mk Md.law_first.fn sc_law_first fun cdv A outer s H E hr =>
    (SSs.cons (SS.asgT (SE.tup (SA.cons SE.int (SA.cons SE.int SA.nil))) (SG.tup (SGs.cons (SG.nm (i := 2) sc_law_first.nd rfl (by first | exact Or.inl rfl | exact Or.inr rfl)) (SGs.cons (SG.nm (i := 3) sc_law_first.nd rfl (by first | exact Or.inl rfl | exact Or.inr rfl)) SGs.nil)) rfl))
    (SSs.cons (SS.for (SI.range1 (SA.cons SE.int SA.nil) Md.z_range rfl) (SG.nm (i := 1) sc_law_first.nd rfl (by first | exact Or.inl rfl | exact Or.inr rfl))
    (SSs.cons (SS.ifS (ST.cmp (op_eqD hr.units) prim_eq (SE.bor (pv 3)) SE.int (by rfl))
    (SSs.one (SS.ret (SE.ifE (ST.cmp (op_eqD hr.units) prim_eq (SE.bor (pv 2)) (SE.callB call_len prim_len Md.z_len rfl bt_len (SA.cons (SE.bor (pv 0)) SA.nil)) (by rfl)) SE.non (SE.nm (pv 2)))))
    SSs.nil)
    (SSs.cons (SS.ifS (SW.st (SW.or (ST.cmp (op_eqD hr.units) prim_eq (SE.bor (pv 2)) (SE.callB call_len prim_len Md.z_len rfl bt_len (SA.cons (SE.bor (pv 0)) SA.nil)) (by rfl)) (SW.or1 (ST.cmp op_gt prim_gt (SE.ix (SE.bor (pv 0)) (SE.bor (pv 2))) SE.int (by rfl)))))
    (SSs.one (SS.retNm (pv 2)))
    SSs.nil)
    (SSs.cons (SS.par2 (SF.cons (SE.ix (SE.bor (pv 0)) (SE.bor (pv 2))) (SF.cons (SE.nm (pv 2)) SF.nil)) rfl sc_law_first.nd (i := 5) (j := 6) rfl rfl (by decide) rfl rfl)
    (SSs.cons (SS.asg (SE.bin (op_add.or (op_catA.or op_cat)) prim_add (SE.bor (pv 2)) SE.int) sc_law_first.nd (i := 2) rfl (by first | exact Or.inl rfl | exact Or.inr rfl))
    (SSs.cons (SS.asg (SE.bin op_sub prim_sub (SE.bor (pv 3)) SE.int) sc_law_first.nd (i := 3) rfl (by first | exact Or.inl rfl | exact Or.inr rfl))
    (SSs.cons (SS.ifS (ST.cmp op_in_seq prim_in (SE.bor (pv 5)) (SE.tup (SA.cons SE.int (SA.cons SE.int (SA.cons SE.int SA.nil)))) (by rfl))
    (SSs.one SS.cont)
    SSs.nil)
    (SSs.cons (SS.asgT (SE.tup (SA.cons SE.int (SA.cons SE.int (SA.cons SE.int SA.nil)))) (SG.tup (SGs.cons (SG.nm (i := 7) sc_law_first.nd rfl (by first | exact Or.inl rfl | exact Or.inr rfl)) (SGs.cons (SG.nm (i := 8) sc_law_first.nd rfl (by first | exact Or.inl rfl | exact Or.inr rfl)) (SGs.cons (SG.nm (i := 9) sc_law_first.nd rfl (by first | exact Or.inl rfl | exact Or.inr rfl)) SGs.nil))) rfl))
    (SSs.cons (SS.for (SI.range1 (SA.cons SE.int SA.nil) Md.z_range rfl) (SG.nm (i := 4) sc_law_first.nd rfl (by first | exact Or.inl rfl | exact Or.inr rfl))
    (SSs.cons (SS.ifS (SW.st (SW.or (ST.cmp (op_eqD hr.units) prim_eq (SE.bor (pv 2)) (SE.callB call_len prim_len Md.z_len rfl bt_len (SA.cons (SE.bor (pv 0)) SA.nil)) (by rfl)) (SW.or1 (ST.cmp (op_eqD hr.units) prim_eq (SE.bor (pv 8)) SE.int (by rfl)))))
    (SSs.one (SS.retNm (pv 2)))
    SSs.nil)
    (SSs.cons (SS.par2 (SF.cons (SE.bin (op_add.or (op_catA.or op_cat)) prim_add (SE.bor (pv 7)) (SE.bin (op_mul.or (op_mulW.or op_rep)) prim_mul (SE.bin op_mod prim_mod (SE.callTy call_int1 prim_int Md.z_int rfl bt_int (SA.cons (SE.ix (SE.bor (pv 0)) (SE.bor (pv 2))) SA.nil)) SE.int) (SE.bor (pv 9)))) (SF.cons (SE.bin (op_mul.or (op_mulW.or op_rep)) prim_mul (SE.bor (pv 9)) SE.int) SF.nil)) rfl sc_law_first.nd (i := 7) (j := 9) rfl rfl (by decide) rfl rfl)
    (SSs.cons (SS.asg (SE.cmp op_lt prim_lt (SE.ix (SE.bor (pv 0)) (SE.bor (pv 2))) SE.int (by rfl)) sc_law_first.nd (i := 10) rfl (by first | exact Or.inl rfl | exact Or.inr rfl))
    (SSs.cons (SS.ifS (SW.st (SW.and (ST.truth (SE.bor (pv 10))) (SW.and (ST.cmp (op_eqD hr.units) prim_eq (SE.ix (SE.bor (pv 0)) (SE.bor (pv 2))) SE.int (by rfl)) (SW.and1 (ST.cmp op_gt prim_gt (SE.bor (pv 8)) SE.int (by rfl))))))
    (SSs.one (SS.retNm (pv 2)))
    SSs.nil)
    (SSs.cons (SS.ifS (SW.st (SW.and (ST.truth (SE.bor (pv 10))) (SW.and1 (SW.st (SW.or (SW.st (SW.and (ST.cmp (op_eqD hr.units) prim_eq (SE.bor (pv 5)) SE.int (by rfl)) (SW.and1 (ST.cmp op_gt prim_gt (SE.bor (pv 7)) SE.int (by rfl))))) (SW.or1 (SW.st (SW.and (ST.cmp (op_eqD hr.units) prim_eq (SE.bor (pv 5)) SE.int (by rfl)) (SW.and1 (ST.cmp op_gt prim_gt (SE.bor (pv 7)) SE.int (by rfl)))))))))))
    (SSs.one (SS.retNm (pv 2)))
    SSs.nil)
    (SSs.cons (SS.par2 (SF.cons (SE.bin (op_add.or (op_catA.or op_cat)) prim_add (SE.bor (pv 2)) SE.int) (SF.cons (SE.bin (op_add.or (op_catA.or op_cat)) prim_add (SE.bor (pv 8)) SE.int) SF.nil)) rfl sc_law_first.nd (i := 2) (j := 8) rfl rfl (by decide) rfl rfl)
    (SSs.one (SS.ifS (ST.truth (SE.bor (pv 10)))
    (SSs.one SS.brk)
    SSs.nil)))))))) PassesOwn.never rfl)
    (SSs.cons (SS.ifS (ST.cmp (op_eqD hr.units) prim_eq (SE.bor (pv 5)) SE.int (by rfl))
    (SSs.one (SS.for (SI.range1 (SA.cons (SE.nm (pv 7)) SA.nil) Md.z_range rfl) (SG.nm (i := 11) sc_law_first.nd rfl (by first | exact Or.inl rfl | exact Or.inr rfl))
    (SSs.cons (SS.ifS (SW.st (SW.or (ST.cmp (op_eqD hr.units) prim_eq (SE.bor (pv 2)) (SE.callB call_len prim_len Md.z_len rfl bt_len (SA.cons (SE.bor (pv 0)) SA.nil)) (by rfl)) (SW.or1 (ST.tnot (SW.st (SW.or (ST.chain op_le prim_le op_le prim_le SE.int (SE.ix (SE.bor (pv 0)) (SE.bor (pv 2))) SE.int) (SW.or1 (ST.cmp (op_eqD hr.units) prim_eq (SE.ix (SE.bor (pv 0)) (SE.bor (pv 2))) SE.int (by rfl)))))))))
    (SSs.one (SS.retNm (pv 2)))
    SSs.nil)
    (SSs.one (SS.asg (SE.bin (op_add.or (op_catA.or op_cat)) prim_add (SE.bor (pv 2)) SE.int) sc_law_first.nd (i := 2) rfl (by first | exact Or.inl rfl | exact Or.inr rfl)))) PassesOwn.never rfl))
    SSs.nil)
    (SSs.one (SS.ifS (ST.cmp (op_eqD hr.units) prim_eq (SE.bor (pv 5)) SE.int (by rfl))
    (SSs.one (SS.asg (SE.bin (op_add.or (op_catA.or op_cat)) prim_add (SE.bor (pv 3)) (SE.bor (pv 7))) sc_law_first.nd (i := 3) rfl (by first | exact Or.inl rfl | exact Or.inr rfl)))
    SSs.nil))))))))))) PassesOwn.never rfl)
    (SSs.one (SS.retNm (pv 2)))))
theorem ok_law (ih : AllOk P w K mg base Md t (m + 2)) : FnOk P w K mg base CX0 (m + 3) Md.law.f Md.law.fd ["script"] (spF K RX0 (runF 13 (b_law Md.C_Reader t)) 1) :=
  Pu.fn_mk Md.law.fn sc_law fun cdv A outer s H E hr =>
    (SSs.cons (SS.asg (SE.call ih.law_cup hr Md.law_cup.gl Md.law_cup.fn.kp Md.law_cup.bd passZ (fun _ _ _ _ _ h => h.elim) rfl (SA.cons (SE.nm (pv 0)) SA.nil) (mALen _ mALen0)) sc_law.nd (i := 1) rfl (by first | exact Or.inl rfl | exact Or.inr rfl))
    (SSs.cons (SS.for (SI.range1 (SA.cons SE.int SA.nil) Md.z_range rfl) (SG.nm (i := 2) sc_law.nd rfl (by first | exact Or.inl rfl | exact Or.inr rfl))
    (SSs.cons (SS.asg (SE.call (FnOk.quiet ih.write_octets) hr Md.write_octets.gl Md.write_octets.fn.kp Md.write_octets.bd passZ (fun _ _ _ _ _ h => h.elim) rfl (SA.cons (SE.callTy call_tuple_of prim_tuple Md.z_tuple rfl bt_tuple (SA.cons (SE.lc (SI.range1 (SA.cons (SE.bin (op_add.or (op_catA.or op_cat)) prim_add SE.int (SE.call ih.law_roll hr Md.law_roll.gl Md.law_roll.fn.kp Md.law_roll.bd passZ (fun _ _ _ _ _ h => h.elim) rfl (SA.cons (SE.bor (pv 1)) (SA.cons SE.int SA.nil)) (mALen _ (mALen _ mALen0)))) SA.nil) Md.z_range rfl) (own := [("one", 8)]) (blkOk_by (by rfl)) sc_law.nd (fun s H C cl fp => (SG.nm (i := 8) sc_law.nd rfl (by first | exact Or.inl rfl | exact Or.inr rfl))) (fun s H C cl fp => STs.nil) (fun s H C cl fp => (SE.call ih.law_value hr Md.law_value.gl Md.law_value.fn.kp Md.law_value.bd passZ (fun _ _ _ _ _ h => h.elim) rfl (SA.cons (SE.bor (pv 1)) (SA.cons SE.int SA.nil)) (mALen _ (mALen _ mALen0)))) (S := [8]) (by decide) rfl) SA.nil)) SA.nil) (mALen _ mALen0)) sc_law.nd (i := 6) rfl (by first | exact Or.inl rfl | exact Or.inr rfl))
    (SSs.cons (SS.asg (SE.call ih.law_roll hr Md.law_roll.gl Md.law_roll.fn.kp Md.law_roll.bd passZ (fun _ _ _ _ _ h => h.elim) rfl (SA.cons (SE.bor (pv 1)) (SA.cons (SE.callB call_len prim_len Md.z_len rfl bt_len (SA.cons (SE.bor (pv 6)) SA.nil)) SA.nil)) (mALen _ (mALen _ mALen0))) sc_law.nd (i := 7) rfl (by first | exact Or.inl rfl | exact Or.inr rfl))
    (SSs.cons (SS.asg (SE.call ih.law_some hr Md.law_some.gl Md.law_some.fn.kp Md.law_some.bd passZ (fun _ _ _ _ _ h => h.elim) rfl (SA.cons (SE.bor (pv 1)) (SA.cons (SE.lst (SA.cons SE.int (SA.cons SE.int (SA.cons SE.int (SA.cons SE.int (SA.cons SE.int (SA.cons SE.int (SA.cons SE.int (SA.cons SE.int (SA.cons SE.int (SA.cons SE.int (SA.cons SE.int (SA.cons SE.int (SA.cons (SE.call ih.law_roll hr Md.law_roll.gl Md.law_roll.fn.kp Md.law_roll.bd passZ (fun _ _ _ _ _ h => h.elim) rfl (SA.cons (SE.bor (pv 1)) (SA.cons SE.int SA.nil)) (mALen _ (mALen _ mALen0))) SA.nil)))))))))))))) SA.nil)) (mALen _ (mALen _ mALen0))) sc_law.nd (i := 8) rfl (by first | exact Or.inl rfl | exact Or.inr rfl))
    (SSs.cons (SS.asg (SE.lst (SA.cons (SE.slice (SE.bor (pv 6)) SO.none (SO.some (SE.nm (pv 7)))) (SA.cons (SE.bin (op_add.or (op_catA.or op_cat)) prim_add (SE.bin (op_add.or (op_catA.or op_cat)) prim_add (SE.slice (SE.bor (pv 6)) SO.none (SO.some (SE.nm (pv 7)))) (SE.tup (SA.cons (SE.nm (pv 8)) SA.nil))) (SE.slice (SE.bor (pv 6)) (SO.some (SE.bin (op_add.or (op_catA.or op_cat)) prim_add (SE.bor (pv 7)) SE.int)) SO.none)) (SA.cons (SE.bin (op_add.or (op_catA.or op_cat)) prim_add (SE.bin (op_add.or (op_catA.or op_cat)) prim_add (SE.slice (SE.bor (pv 6)) SO.none (SO.some (SE.nm (pv 7)))) (SE.tup (SA.cons (SE.nm (pv 8)) SA.nil))) (SE.slice (SE.bor (pv 6)) (SO.some (SE.nm (pv 7))) SO.none)) SA.nil)))) sc_law.nd (i := 9) rfl (by first | exact Or.inl rfl | exact Or.inr rfl))
    (SSs.cons (SS.asg (SE.bin (op_add.or (op_catA.or op_cat)) prim_add (SE.bor (pv 9)) (SE.lst (SA.cons (SE.bin (op_add.or (op_catA.or op_cat)) prim_add (SE.slice (SE.bor (pv 6)) SO.none (SO.some (SE.nm (pv 7)))) (SE.slice (SE.bor (pv 6)) (SO.some (SE.bin (op_add.or (op_catA.or op_cat)) prim_add (SE.bor (pv 7)) SE.int)) SO.none)) (SA.cons (SE.bin (op_add.or (op_catA.or op_cat)) prim_add (SE.bor (pv 6)) (SE.tup (SA.cons (SE.nm (pv 8)) SA.nil))) SA.nil)))) sc_law.nd (i := 9) rfl (by first | exact Or.inl rfl | exact Or.inr rfl))
    (SSs.one (SS.for (SI.src (SE.nm (pv 9))) (SG.nm (i := 10) sc_law.nd rfl (by first | exact Or.inl rfl | exact Or.inr rfl))
    (SSs.cons (SS.par2 (SF.cons (SE.call ih.law_first hr Md.law_first.gl Md.law_first.fn.kp Md.law_first.bd passZ (fun _ _ _ _ _ h => h.elim) rfl (SA.cons (SE.nm (pv 10)) SA.nil) (mALen _ mALen0)) (SF.cons (SE.call ih.law_told hr Md.law_told.gl Md.law_told.fn.kp Md.law_told.bd passZ (fun _ _ _ _ _ h => h.elim) rfl (SA.cons (SE.nm (pv 10)) SA.nil) (mALen _ mALen0)) SF.nil)) rfl sc_law.nd (i := 11) (j := 4) rfl rfl (by decide) rfl rfl)
    (SSs.one (SS.ifS (ST.cmp op_is prim_is (SE.bor (pv 11)) SE.non (by rfl))
    (SSs.one (SS.ifS (SW.st (SW.or (ST.tnot (ST.truth (SE.ix (SE.bor (pv 4)) SE.int))) (SW.or1 (ST.tnot (ST.truth (SE.call ih.law_like hr Md.law_like.gl Md.law_like.fn.kp Md.law_like.bd passZ (fun _ _ _ _ _ h => h.elim) rfl (SA.cons (SE.call (FnOk.quiet ih.write_octets) hr Md.write_octets.gl Md.write_octets.fn.kp Md.write_octets.bd passZ (fun _ _ _ _ _ h => h.elim) rfl (SA.cons (SE.ix (SE.bor (pv 4)) SE.int) SA.nil) (mALen _ mALen0)) (SA.cons (SE.nm (pv 10)) SA.nil)) (mALen _ (mALen _ mALen0))))))))
    (SSs.one (SS.ret SE.bl))
    SSs.nil))
    (SSs.one (SS.ifS (ST.tnot (ST.truth (SE.call ih.law_like hr Md.law_like.gl Md.law_like.fn.kp Md.law_like.bd passZ (fun _ _ _ _ _ h => h.elim) rfl (SA.cons (SE.nm (pv 4)) (SA.cons (SE.tup (SA.cons SE.bl (SA.cons (SE.nm (pv 11)) SA.nil))) SA.nil)) (mALen _ (mALen _ mALen0)))))
    (SSs.one (SS.ret SE.bl))
    SSs.nil))))) PassesOwn.never rfl))))))) PassesOwn.never rfl)
    (SSs.cons (SS.asg (SE.bin (op_add.or (op_catA.or op_cat)) prim_add (SE.tup (SA.cons SE.int SA.nil)) (SE.bin op_repT prim_repT (SE.tup (SA.cons SE.int SA.nil)) SE.int)) sc_law.nd (i := 3) rfl (by first | exact Or.inl rfl | exact Or.inr rfl))
    (SSs.cons (SS.asg (SE.lst (SA.cons (SE.call ih.law_told hr Md.law_told.gl Md.law_told.fn.kp Md.law_told.bd passZ (fun _ _ _ _ _ h => h.elim) rfl (SA.cons (SE.bin (op_add.or (op_catA.or op_cat)) prim_add (SE.bor (pv 3)) (SE.tup (SA.cons SE.int SA.nil))) SA.nil) (mALen _ mALen0)) (SA.cons (SE.call ih.law_told hr Md.law_told.gl Md.law_told.fn.kp Md.law_told.bd passZ (fun _ _ _ _ _ h => h.elim) rfl (SA.cons (SE.bin (op_add.or (op_catA.or op_cat)) prim_add (SE.bor (pv 3)) (SE.tup (SA.cons SE.int SA.nil))) SA.nil) (mALen _ mALen0)) (SA.cons (SE.call ih.law_told hr Md.law_told.gl Md.law_told.fn.kp Md.law_told.bd passZ (fun _ _ _ _ _ h => h.elim) rfl (SA.cons (SE.nm (pv 3)) SA.nil) (mALen _ mALen0)) (SA.cons (SE.call ih.law_told hr Md.law_told.gl Md.law_told.fn.kp Md.law_told.bd passZ (fun _ _ _ _ _ h => h.elim) rfl (SA.cons (SE.tup (SA.cons SE.int (SA.cons SE.int (SA.cons SE.int (SA.cons SE.int SA.nil))))) SA.nil) (mALen _ mALen0)) SA.nil))))) sc_law.nd (i := 4) rfl (by first | exact Or.inl rfl | exact Or.inr rfl))
    (SSs.cons (SS.asg (SE.bin (op_add.or (op_catA.or op_cat)) prim_add (SE.bor (pv 4)) (SE.lst (SA.cons (SE.call ih.law_told hr Md.law_told.gl Md.law_told.fn.kp Md.law_told.bd passZ (fun _ _ _ _ _ h => h.elim) rfl (SA.cons (SE.tup (SA.cons SE.int (SA.cons SE.int (SA.cons SE.int (SA.cons SE.int SA.nil))))) SA.nil) (mALen _ mALen0)) (SA.cons (SE.call ih.law_told hr Md.law_told.gl Md.law_told.fn.kp Md.law_told.bd passZ (fun _ _ _ _ _ h => h.elim) rfl (SA.cons (SE.tup SA.nil) SA.nil) (mALen _ mALen0)) (SA.cons (SE.call ih.law_told hr Md.law_told.gl Md.law_told.fn.kp Md.law_told.bd passZ (fun _ _ _ _ _ h => h.elim) rfl (SA.cons (SE.tup (SA.cons SE.int (SA.cons SE.int (SA.cons SE.int SA.nil)))) SA.nil) (mALen _ mALen0)) SA.nil))))) sc_law.nd (i := 4) rfl (by first | exact Or.inl rfl | exact Or.inr rfl))
    (SSs.cons (SS.asg (SE.bin (op_add.or (op_catA.or op_cat)) prim_add (SE.bor (pv 4)) (SE.lst (SA.cons (SE.call ih.law_told hr Md.law_told.gl Md.law_told.fn.kp Md.law_told.bd passZ (fun _ _ _ _ _ h => h.elim) rfl (SA.cons (SE.bin op_repT prim_repT (SE.tup (SA.cons SE.int (SA.cons SE.int (SA.cons SE.int (SA.cons SE.int SA.nil))))) SE.int) SA.nil) (mALen _ mALen0)) (SA.cons (SE.call ih.law_told hr Md.law_told.gl Md.law_told.fn.kp Md.law_told.bd passZ (fun _ _ _ _ _ h => h.elim) rfl (SA.cons (SE.bin op_repT prim_repT (SE.tup (SA.cons SE.int (SA.cons SE.int (SA.cons SE.int (SA.cons SE.int SA.nil))))) SE.int) SA.nil) (mALen _ mALen0)) (SA.cons (SE.call ih.law_told hr Md.law_told.gl Md.law_told.fn.kp Md.law_told.bd passZ (fun _ _ _ _ _ h => h.elim) rfl (SA.cons (SE.tup (SA.cons SE.int (SA.cons SE.int (SA.cons SE.int SA.nil)))) SA.nil) (mALen _ mALen0)) SA.nil))))) sc_law.nd (i := 4) rfl (by first | exact Or.inl rfl | exact Or.inr rfl))
    (SSs.cons (SS.asg (SE.bin (op_add.or (op_catA.or op_cat)) prim_add (SE.bor (pv 4)) (SE.lst (SA.cons (SE.call ih.law_told hr Md.law_told.gl Md.law_told.fn.kp Md.law_told.bd passZ (fun _ _ _ _ _ h => h.elim) rfl (SA.cons (SE.bin (op_add.or (op_catA.or op_cat)) prim_add (SE.tup (SA.cons SE.int SA.nil)) (SE.bin op_repT prim_repT (SE.tup (SA.cons SE.int SA.nil)) SE.int)) SA.nil) (mALen _ mALen0)) (SA.cons (SE.call ih.law_told hr Md.law_told.gl Md.law_told.fn.kp Md.law_told.bd passZ (fun _ _ _ _ _ h => h.elim) rfl (SA.cons (SE.bin (op_add.or (op_catA.or op_cat)) prim_add (SE.bin op_repT prim_repT (SE.tup (SA.cons SE.int (SA.cons SE.int SA.nil))) SE.int) (SE.tup (SA.cons SE.int SA.nil))) SA.nil) (mALen _ mALen0)) (SA.cons (SE.call ih.law_told hr Md.law_told.gl Md.law_told.fn.kp Md.law_told.bd passZ (fun _ _ _ _ _ h => h.elim) rfl (SA.cons (SE.bin (op_add.or (op_catA.or op_cat)) prim_add (SE.bin op_repT prim_repT (SE.tup (SA.cons SE.int (SA.cons SE.int SA.nil))) SE.int) (SE.tup (SA.cons SE.int SA.nil))) SA.nil) (mALen _ mALen0)) SA.nil))))) sc_law.nd (i := 4) rfl (by first | exact Or.inl rfl | exact Or.inr rfl))
    (SSs.cons (SS.asg (SE.bin op_pow prim_pow SE.int SE.int) sc_law.nd (i := 5) rfl (by first | exact Or.inl rfl | exact Or.inr rfl))
    (SSs.cons (SS.for (SI.range1 (SA.cons SE.int SA.nil) Md.z_range rfl) (SG.nm (i := 2) sc_law.nd rfl (by first | exact Or.inl rfl | exact Or.inr rfl))
    (SSs.one (SS.asg (SE.bin (op_mul.or (op_mulW.or op_rep)) prim_mul (SE.bor (pv 5)) (SE.bin op_pow prim_pow SE.int SE.int)) sc_law.nd (i := 5) rfl (by first | exact Or.inl rfl | exact Or.inr rfl))) PassesOwn.never rfl)
    (SSs.cons (SS.ifS (SW.st (SW.or (ST.cmp op_isNot prim_isNot (SE.ix (SE.ix (SE.bor (pv 4)) SE.int) SE.int) SE.bl (by rfl)) (SW.or1 (ST.cmp (op_neD hr.units) prim_ne (SE.ix (SE.ix (SE.bor (pv 4)) SE.int) SE.int) (SE.bin op_sub prim_sub (SE.bor (pv 5)) SE.int) (by rfl)))))
    (SSs.one (SS.ret SE.bl))
    SSs.nil)
    (SSs.cons (SS.ifS (ST.cmp (op_neD hr.units) prim_ne (SE.lc (SI.src (SE.tup (SA.cons SE.int (SA.cons SE.int (SA.cons SE.int (SA.cons SE.int (SA.cons SE.int (SA.cons SE.int SA.nil)))))))) (own := [("sign", 12)]) (blkOk_by (by rfl)) sc_law.nd (fun s H C cl fp => (SG.nm (i := 12) sc_law.nd rfl (by first | exact Or.inl rfl | exact Or.inr rfl))) (fun s H C cl fp => STs.nil) (fun s H C cl fp => (SE.call ih.law_told hr Md.law_told.gl Md.law_told.fn.kp Md.law_told.bd passZ (fun _ _ _ _ _ h => h.elim) rfl (SA.cons (SE.tup (SA.cons SE.int (SA.cons SE.int (SA.cons (SE.nm (pv 12)) SA.nil)))) SA.nil) (mALen _ mALen0))) (S := [12]) (by decide) rfl) (SE.bin (op_add.or (op_catA.or op_cat)) prim_add (SE.lst (SA.cons (SE.tup (SA.cons SE.bl (SA.cons SE.int SA.nil))) (SA.cons (SE.tup (SA.cons SE.bl (SA.cons SE.str SA.nil))) SA.nil))) (SE.bin (op_mul.or (op_mulW.or op_rep)) prim_mul (SE.lst (SA.cons (SE.tup (SA.cons SE.bl (SA.cons SE.int SA.nil))) SA.nil)) SE.int)) (by rfl))
    (SSs.one (SS.ret SE.bl))
    SSs.nil)
    (SSs.cons (SS.ifS (ST.cmp (op_neD hr.units) prim_ne (SE.lc (SI.src (SE.slice (SE.bor (pv 4)) (SO.some SE.int) SO.none)) (own := [("one", 8)]) (blkOk_by (by rfl)) sc_law.nd (fun s H C cl fp => (SG.nm (i := 8) sc_law.nd rfl (by first | exact Or.inl rfl | exact Or.inr rfl))) (fun s H C cl fp => STs.nil) (fun s H C cl fp => (SE.ix (SE.bor (pv 8)) SE.int)) (S := [8]) (by decide) rfl) (SE.bin (op_add.or (op_catA.or op_cat)) prim_add (SE.bin (op_mul.or (op_mulW.or op_rep)) prim_mul (SE.lst (SA.cons SE.bl SA.nil)) SE.int) (SE.lst (SA.cons SE.bl (SA.cons SE.bl SA.nil)))) (by rfl))
    (SSs.one (SS.ret SE.bl))
    SSs.nil)
    (SSs.one (SS.ret (SE.cmp (op_eqD hr.units) prim_eq (SE.lc (SI.src (SE.bin (op_add.or (op_catA.or op_cat)) prim_add (SE.slice (SE.bor (pv 4)) (SO.some SE.int) (SO.some SE.int)) (SE.slice (SE.bor (pv 4)) (SO.some SE.int) SO.none))) (own := [("one", 8)]) (blkOk_by (by rfl)) sc_law.nd (fun s H C cl fp => (SG.nm (i := 8) sc_law.nd rfl (by first | exact Or.inl rfl | exact Or.inr rfl))) (fun s H C cl fp => STs.nil) (fun s H C cl fp => (SE.ix (SE.bor (pv 8)) SE.int)) (S := [8]) (by decide) rfl) (SE.lst (SA.cons SE.int (SA.cons SE.int (SA.cons SE.int (SA.cons SE.int (SA.cons SE.int (SA.cons SE.int (SA.cons SE.int (SA.cons SE.int (SA.cons SE.int (SA.cons SE.int (SA.cons SE.int SA.nil)))))))))))) (by rfl))))))))))))))))
end
/-! ### _law_told, by hand -/
def toldX (x : EX) : Res (RV × List (Option OB)) := if x.cls = "BadText" then match x.arg with
  | .int i => .ok (.val (.tup [.bl false, .int i]), [none])
  | _ => .bad else .bad
def toldR (r : Res (RV × List (Option OB))) : Res (RV × List (Option OB)) := match r with
  | .ok (.val v, [none]) => .ok (.val (.tup [.bl true, v]), [none])
  | .exc x => toldX x
  | _ => .bad
def toldG (g : G) : G := fun avs => match avs with
  | [.val p] => toldR (g [.val p])
  | _ => .bad
theorem told_takes {Z : Cx} {W : L2.WX} (tk : Takes Z W) : Takes Z (fun c d σ H => σ.length = Z.N.length → W c d σ H) := fun u s' ⟨a, B, sI, pins, σ, H, cls, d, e, I, nb, up, sky, na, os, ag, w⟩ => tk u s' ⟨a, B, sI, pins, σ, H, cls, d, e, I, nb, up, sky, na, os, ag, w I.len⟩
theorem told_exE {α : Type} {p : α → Prop} {Z : Cx} {b : List Stmt} {ts : α → TS} (h : ∀ x, p x → PSs Z b (ts x)) : PSs Z b (fun D σ H => ∃ x, p x ∧ ts x D σ H) := ⟨fun pins s σ H D I ⟨x, hp, ht⟩ => (h x hp).run pins s σ H D I ht⟩
theorem fn_badX {P : Program} {w : World} {K : PySem.W.Frag} {mg : Str → Option Value} {base : Heap} {CX : CXT} {RX : RXT} {k n : Nat} {f : Addr} {fd : FuncData} {ps : List Str} : FnOk P w K mg base CX k f fd ps (spF K RX (fun _ => .bad) n) :=
  ⟨fun vs H Q E h => let ⟨_, _, _, _, z⟩ := h; z.elim, fun A outer s H args us vs Q E _ _ _ _ h => let ⟨_, _, _, _, z⟩ := h; z.elim⟩
section
variable {P : Program} {w : World} {K : PySem.W.Frag} {mg : Str → Option Value} {base : Heap} {Md : Facts P K mg} {t : Tb} {m : Nat}
theorem sc_law_told : FnScope ["octets", "e"] ["octets"] (defScope s_law_told) := ⟨rfl, rfl, rfl, by decide +kernel, rfl, by decide +kernel, by decide +kernel⟩
abbrev mTold (t : Tb) : MS := mRet (mTup (mACons (mK (.bl true)) (mACons (mCall t.read_octets (mACons (mNm 0) mANil)) mANil)))
theorem told_ok {t : Tb} {p v : PV} (e : t.read_octets [.val p] = .ok (.val v, [none])) : mTold t [some (.val p), none] = .ok (.rt (.val (.tup [.bl true, v])), [some (.val p), none]) := by
  have c : mCall t.read_octets (mACons (mNm 0) mANil) [some (.val p), none] = .ok (.val v, [some (.val p), none]) := by
    simp [mCall, mACons, mANil, mNm, mOp, Res.bind, RV.fz, vals?, avsOf, avOf, lone, liftO, backs, RV.bor?, findArg, back1, List.filterMap, e]
  simp [mTold, mRet, mTup, mACons, mANil, mK, mOp, Res.bind, RV.fz, vals?, RV.val?, liftO, small, c]
theorem told_exc {t : Tb} {p : PV} {x : EX} (e : t.read_octets [.val p] = .exc x) : mTold t [some (.val p), none] = .exc x := by
  have c : mCall t.read_octets (mACons (mNm 0) mANil) [some (.val p), none] = .exc x := by
    simp [mCall, mACons, mANil, mNm, mOp, Res.bind, RV.fz, vals?, avsOf, avOf, lone, liftO, backs, RV.bor?, findArg, back1, List.filterMap, e]
  simp [mTold, mRet, mTup, mACons, mANil, mK, mOp, Res.bind, RV.fz, vals?, RV.val?, liftO, small, c]
theorem ok_law_told (ih : AllOk P w K mg base Md t (m + 2)) : FnOk P w K mg base CX0 (m + 3) Md.law_told.f Md.law_told.fd ["octets"] (spF K RX0 (toldG t.read_octets) 1) := by
  refine Md.law_told.fn.ok sc_law_told (fun vs H Q E h => h.1) fun cdv A outer s H vs Q E hr ⟨hl, F, avs, R, q⟩ => ?_
  match avs, q with
  | [], q => exact q.elim
  | _ :: _ :: _, q => exact False.elim (by unfold toldG at q; split at q <;> simp_all)
  | [.own _], q => exact q.elim
  | [.val p], q =>
  have q : match toldR (t.read_octets [.val p]) with
    | .ok q => ∀ v F' H', Step (Own ([AV.val p].map AV.slot) (vs.map some)) F H F' H' → FH F' H' → RepN K H F' H' q.1 v → RepOut K F' H' vs q.2 → Q v H'
    | .exc x => ∀ cls d F' H', Step (Own ([AV.val p].map AV.slot) (vs.map some)) F H F' H' → FH F' H' → RX0 x cls d H' → E cls d H'
    | .bad => False := q
  match vs, hl with
  | [v0], _ =>
  refine ⟨_, pss_one (ps_try_as (X := (cxOf CX0 P w K mg base ["octets", "e"] "_law_told" (defScope s_law_told) Md.law_told.f cdv A outer s H E).nox) (c := .ref Md.CB) (i := 1)
      (tb := fun W D σ H => ∃ Ech : XK, (∀ cls d σ' H', Ech cls d H' → σ'.length = 2 → W cls d σ' H') ∧ tMS K (WR (RXT0 Md) Ech) (mTold t) D σ H)
      (ts := fun a cls d D σ H => tRet (tTup (tCons (tC (.bl false)) (tCons (tXf a cls d Md.CB "at" (tVar 1)) tNil))) D σ H)
      (Wout := fun _ _ _ _ => False)
      rfl rfl sc_law_told.nd rfl rfl ⟨by rfl, by decide, .inl Md.gB⟩ (fun u s' ⟨a, B, sI, pins, σ, H, cls, d, e, I, nb, up, sky, na, os, ag, w⟩ => w.elim) (fun W pn xe tk _ => ?_) (fun a oe cls d pn hz hf => ?_)), ?_⟩
  · refine told_exE fun Ech hW => ?_
    exact SSs.one (SS.ret (SE.tup (SA.cons SE.bl (SA.cons (SE.call ih.read_octets (hr.mono (by omega)) Md.read_octets.gl Md.read_octets.fn.kp Md.read_octets.bd (passes_call (told_takes tk) hW) (fun x cls d F1 H1 h r => h cls d r) rfl (SA.cons (SE.nm (pv 0)) SA.nil) (mALen _ mALen0)) SA.nil))))
  · exact pss_one (ps_ret (pe_tup (pa_cons pe_bl (pa_cons (pe_xf Md.xfB Md.sB.fld hz hf (pv 1)) pa_nil))))
  · obtain ⟨R', own⟩ := R.pad 1
    have ow : ∀ x, Own [some (.val p), none] [some v0, none] x → Own ([AV.val p].map AV.slot) ([v0].map some) x := fun x ⟨j, h⟩ => ⟨j, own j x h⟩
    cases e : t.read_octets [.val p] with
    | bad => rw [e] at q; exact q.elim
    | ok r =>
      obtain ⟨rv, outs⟩ := r
      rw [e] at q
      match rv, outs, q, e with
      | .val v, [none], q, e =>
        refine ⟨fun _ _ _ => False, fun _ _ _ _ h => h.elim, [some (.val p), none], F, R', ?_⟩
        rw [told_ok e]
        exact fun v' σ' F' H' es rr => q v' F' H' (es.st.mono ow) es.rel.fh rr fun i o ho => by
          match i, ho with
          | 0, ho => cases ho
    | exc x =>
      rw [e] at q
      have q : match toldX x with
        | .ok q => ∀ v F' H', Step (Own ([AV.val p].map AV.slot) ([v0].map some)) F H F' H' → FH F' H' → RepN K H F' H' q.1 v → RepOut K F' H' [v0] q.2 → Q v H'
        | .exc x => ∀ cls d F' H', Step (Own ([AV.val p].map AV.slot) ([v0].map some)) F H F' H' → FH F' H' → RX0 x cls d H' → E cls d H'
        | .bad => False := q
      unfold toldX at q
      by_cases hx : x.cls = "BadText"
      case neg => rw [if_neg hx] at q; exact q.elim
      rw [if_pos hx] at q
      obtain ⟨xc, xa⟩ := x
      cases xa with
      | int i =>
        have q : ∀ v F' H', Step (Own ([AV.val p].map AV.slot) ([v0].map some)) F H F' H' → FH F' H' → RepN K H F' H' (.val (.tup [.bl false, .int i])) v → RepOut K F' H' [v0] [none] → Q v H' := q
        refine ⟨fun cls d H' => cls = .ref Md.CB ∧ ∃ dd, d = some dd ∧ H' dd = some (.xd [("at", .int i)]) ∧ ∃ F', Step (Own ([AV.val p].map AV.slot) ([v0].map some)) F H F' H' ∧ FH F' H', fun cls d σ' H' hE hl => ?_, [some (.val p), none], F, R', ?_⟩
        · obtain ⟨rfl, dd, rfl, hd, F', st, fh⟩ := hE
          refine ⟨true, Md.eB, fun _ a ha => ?_, fun z => Bool.noConfusion z⟩
          refine ⟨.ref a, by rw [List.getElem?_set_self (by omega)], rfl, rfl, dd, _, .int i, rfl, hd, by simp [List.lookup], by rw [sizeLine_eq]; simp, fun b nb => ?_⟩
          have g := Grow.tup (o := .tup [.bl false, .int i]) fh nb
          refine q _ _ _ (st.trans (fun x h => .inl h) g.step) g.fh ?_ fun i o ho => by
            match i, ho with
            | 0, ho => cases ho
          show RepV _ _ _ _
          unfold RepV
          exact ⟨b, _, rfl, upd_same, .cons (by unfold RepV; rfl) (.cons (by unfold RepV; rfl) .nil)⟩
        · rw [told_exc e]
          exact fun F' H' st fh cls d rx => by
            rcases rx with ⟨_, rfl, dd, rfl, h⟩ | ⟨h, _⟩
            · exact ⟨rfl, dd, rfl, h i rfl, F', st.mono ow, fh⟩
            · exact absurd (hx.symm.trans h) (by decide)
      | _ => exact q.elim
end

/-- nothing is known -/
def badG : G := fun _ => .bad
def stepT (C_Reader : Addr) (t : Tb) : Tb where
  is_sign := runF 1 (b_is_sign C_Reader t)
  sign_of := runF 1 (b_sign_of C_Reader t)
  are_octets := runF 2 (b_are_octets C_Reader t)
  few_digits := runF 2 (b_few_digits C_Reader t)
  counted := runF 6 (b_counted C_Reader t)
  digits_of := runF 2 (b_digits_of C_Reader t)
  laid := runF 4 (b_laid C_Reader t)
  write_octets := runX 1 (b_write_octets C_Reader t)
  read_digits := runX 7 (b_read_digits C_Reader t)
  Reader_begin := runX 1 (b_Reader_begin C_Reader t)
  Reader_number := runX 3 (b_Reader_number C_Reader t)
  Reader_string := runX 4 (b_Reader_string C_Reader t)
  Reader_value := runX 6 (b_Reader_value C_Reader t)
  read_octets := runX 3 (b_read_octets C_Reader t)
  law_cup := runF 2 (b_law_cup C_Reader t)
  law_roll := runF 4 (b_law_roll C_Reader t)
  law_some := runF 2 (b_law_some C_Reader t)
  law_sort := runF 1 (b_law_sort C_Reader t)
  law_like := runF 5 (b_law_like C_Reader t)
  law_signs := runF 3 (b_law_signs C_Reader t)
  law_value := runF 4 (b_law_value C_Reader t)
  law_first := runF 12 (b_law_first C_Reader t)
  law := runF 13 (b_law C_Reader t)
  law_told := toldG t.read_octets
def tbl (C_Reader : Addr) : Nat → Tb
  | 0 => ⟨badG, badG, badG, badG, badG, badG, badG, badG, badG, badG, badG, badG, badG, badG, badG, badG, badG, badG, badG, badG, badG, badG, badG, badG⟩
  | n + 1 => stepT C_Reader (tbl C_Reader n)
section
variable {P : Program} {w : World} {K : PySem.W.Frag} {mg : Str → Option Value} {base : Heap} {Md : Facts P K mg}
theorem all_ok : ∀ n : Nat, AllOk P w K mg base Md (tbl Md.C_Reader n) (n + 2)
  | 0 => ⟨fn_badX, fn_badX, fn_badX, fn_badX, fn_badX, fn_badX, fn_badX, fn_badX, fn_badX, fn_badX, fn_badX, fn_badX, fn_badX, fn_badX, fn_badX, fn_badX, fn_badX, fn_badX, fn_badX, fn_badX, fn_badX, fn_badX, fn_badX, fn_badX⟩
  | n + 1 => have ih := all_ok n
    ⟨ok_is_sign ih, ok_sign_of ih, ok_are_octets ih, ok_few_digits ih, ok_counted ih, ok_digits_of ih, ok_laid ih, ok_write_octets ih, ok_read_digits ih, ok_Reader_begin ih, ok_Reader_number ih, ok_Reader_string ih, ok_Reader_value ih, ok_read_octets ih, ok_law_cup ih, ok_law_roll ih, ok_law_some ih, ok_law_sort ih, ok_law_like ih, ok_law_signs ih, ok_law_value ih, ok_law_first ih, ok_law ih, ok_law_told ih⟩
end
end K81

set_option Elab.async false
set_option linter.all false
set_option maxRecDepth 100000
set_option exponentiation.threshold 100000
namespace K81
open PySem Pu
variable {C : Addr} {t : Tb}
def isSign (i : Int) : Bool := (decide (32 ≤ i) && decide (i ≤ 126)) || i == 10
theorem is_sign_ok (i : Int) : (stepT C t).is_sign [.val (.int i)] = .ok (.val (.bl (isSign i)), [none]) := by
  by_cases h1 : 32 ≤ i <;> by_cases h2 : i ≤ 126 <;> simp [Res.bind, mSeq, mNx, mRet, mRetNm, mRetN, mIfS, mNever, mAsg, setR, setV, setO, isPar, mAug, mDrop, mAppend, mExtend, ownL?, ownO, setC, RV.lst?, mSrc, itemsOf, mOp, RV.fz, OB.pv, mBor, mNm, mK, mNew, mBin, mUn, deref, liftO, mANil, mACons, mApp, derefs, vals?, RV.val?, small, mTup, mLst, mCall, lone, avsOf, avOf, backs, findArg, back1, RV.bor?, mTest, RV.bl?, mTruth, truth, mTNot, mTAnd, mTOr, mAndV, mOrV, mNotV, mIf, mChain, mgNm, mAsgT, mgTup, mgCons, mgNil, iop, pAdd, pSub, pMul, pDiv, pMod, pNeg, pLt, pLe, pGt, pGe, pEq, pNe, pAddI, pMulS, pIs, pIsNot, isP, pIn, pNotIn, inP, flatP, cmpOk, cmpOks, eqP, eqPs, pIx, fLen, fAbs, fInt, fMin2, fMax2, fOrd, fList, fTuple, fIsi, tyName, AV.slot, runF, Res.nox, RV.out, outsOf, SV.lent, range1e, range2e, range3e, range4e, isi_NoneType_int, isi_NoneType_bool, isi_NoneType_str, isi_NoneType_tuple, isi_NoneType_list, isi_bool_int, isi_bool_bool, isi_bool_str, isi_bool_tuple, isi_bool_list, isi_int_int, isi_int_bool, isi_int_str, isi_int_tuple, isi_int_list, isi_str_int, isi_str_bool, isi_str_str, isi_str_tuple, isi_str_list, isi_tuple_int, isi_tuple_bool, isi_tuple_str, isi_tuple_tuple, isi_tuple_list, isi_list_int, isi_list_bool, isi_list_str, isi_list_tuple, isi_list_list, isi_dict_int, isi_dict_bool, isi_dict_str, isi_dict_tuple, isi_dict_list, stepT, b_is_sign, isSign, h1, h2]

/-! ### digits -/
def dg (k : Nat) : List Int := if 127 < k then ((k % 128 + 128 : Nat) : Int) :: dg (k / 128) else [(k : Int)]
termination_by k
decreasing_by omega
theorem dg_big {k : Nat} (h : 127 < k) : dg k = ((k % 128 + 128 : Nat) : Int) :: dg (k / 128) := by rw [dg, if_pos h]
theorem dg_small {k : Nat} (h : ¬ 127 < k) : dg k = [(k : Int)] := by rw [dg, if_neg h]
theorem dg_len : ∀ (n k : Nat), k < 128 ^ n → (dg k).length ≤ n + 1
  | 0, k, h => by
    have : k = 0 := by simpa using h
    subst this
    rw [dg_small (by omega)]
    simp
  | n + 1, k, h => by
    by_cases hk : 127 < k
    · rw [dg_big hk, List.length_cons]
      have := dg_len n (k / 128) (by rw [Nat.pow_succ] at h; omega)
      omega
    · rw [dg_small hk]
      simp
theorem log128 : Nat.log2 128 < 9000 := by decide
def wDig : MT := mTest (mBin pGt (mBor 0) (mK (.int 127)))
def bDig : MS := mSeq (mAppend 1 (mBin pAdd (mBin pMod (mApp fInt (mACons (mBor 0) mANil)) (mK (.int 128))) (mK (.int 128)))) (mAug 0 pDiv (mK (.int 128)))
theorem dig_loop : ∀ (n k : Nat) (r : List PV), k < 128 ^ n → r.length + n < 16777216 →
    ∃ (i : List Int) (l : Nat), dg k = i ++ [(l : Int)] ∧ whileM wDig bDig (n + 1) [some (.val (.int k)), some (.own (.lst r))] = .ok (.nx, [some (.val (.int l)), some (.own (.lst (r ++ i.map PV.int)))])
  | n, k, r, h, hr => by
    by_cases hk : 127 < k
    · cases n with
      | zero => simp at h; omega
      | succ n =>
        obtain ⟨i, l, e1, e2⟩ := dig_loop n (k / 128) (r ++ [.int ((k % 128 + 128 : Nat) : Int)]) (by rw [Nat.pow_succ] at h; omega) (by simp; omega)
        refine ⟨((k % 128 + 128 : Nat) : Int) :: i, l, by rw [dg_big hk, e1]; rfl, ?_⟩
        have c1 : (127 : Int) < (k : Int) := by omega
        have c2 : r.length < 16777216 := by omega
        rw [while_t (ρ1 := [some (.val (.int k)), some (.own (.lst r))]) (ρ2 := [some (.val (.int ((k / 128 : Nat) : Int))), some (.own (.lst (r ++ [.int ((k % 128 + 128 : Nat) : Int)])))]) (by simp [Res.bind, mSeq, mNx, mRet, mRetNm, mRetN, mIfS, mNever, mAsg, setR, setV, setO, isPar, mAug, mDrop, mAppend, mExtend, ownL?, ownO, setC, RV.lst?, mSrc, itemsOf, mOp, RV.fz, OB.pv, mBor, mNm, mK, mNew, mBin, mUn, deref, liftO, mANil, mACons, mApp, derefs, vals?, RV.val?, small, mTup, mLst, mCall, lone, avsOf, avOf, backs, findArg, back1, RV.bor?, mTest, RV.bl?, mTruth, truth, mTNot, mTAnd, mTOr, mAndV, mOrV, mNotV, mIf, mChain, mgNm, mAsgT, mgTup, mgCons, mgNil, iop, pAdd, pSub, pMul, pDiv, pMod, pNeg, pLt, pLe, pGt, pGe, pEq, pNe, pAddI, pMulS, pIs, pIsNot, isP, pIn, pNotIn, inP, flatP, cmpOk, cmpOks, eqP, eqPs, pIx, fLen, fAbs, fInt, fMin2, fMax2, fOrd, fList, fTuple, fIsi, tyName, AV.slot, runF, Res.nox, RV.out, outsOf, SV.lent, range1e, range2e, range3e, range4e, isi_NoneType_int, isi_NoneType_bool, isi_NoneType_str, isi_NoneType_tuple, isi_NoneType_list, isi_bool_int, isi_bool_bool, isi_bool_str, isi_bool_tuple, isi_bool_list, isi_int_int, isi_int_bool, isi_int_str, isi_int_tuple, isi_int_list, isi_str_int, isi_str_bool, isi_str_str, isi_str_tuple, isi_str_list, isi_tuple_int, isi_tuple_bool, isi_tuple_str, isi_tuple_tuple, isi_tuple_list, isi_list_int, isi_list_bool, isi_list_str, isi_list_tuple, isi_list_list, isi_dict_int, isi_dict_bool, isi_dict_str, isi_dict_tuple, isi_dict_list, wDig, c1]) (by simp [Res.bind, mSeq, mNx, mRet, mRetNm, mRetN, mIfS, mNever, mAsg, setR, setV, setO, isPar, mAug, mDrop, mAppend, mExtend, ownL?, ownO, setC, RV.lst?, mSrc, itemsOf, mOp, RV.fz, OB.pv, mBor, mNm, mK, mNew, mBin, mUn, deref, liftO, mANil, mACons, mApp, derefs, vals?, RV.val?, small, mTup, mLst, mCall, lone, avsOf, avOf, backs, findArg, back1, RV.bor?, mTest, RV.bl?, mTruth, truth, mTNot, mTAnd, mTOr, mAndV, mOrV, mNotV, mIf, mChain, mgNm, mAsgT, mgTup, mgCons, mgNil, iop, pAdd, pSub, pMul, pDiv, pMod, pNeg, pLt, pLe, pGt, pGe, pEq, pNe, pAddI, pMulS, pIs, pIsNot, isP, pIn, pNotIn, inP, flatP, cmpOk, cmpOks, eqP, eqPs, pIx, fLen, fAbs, fInt, fMin2, fMax2, fOrd, fList, fTuple, fIsi, tyName, AV.slot, runF, Res.nox, RV.out, outsOf, SV.lent, range1e, range2e, range3e, range4e, isi_NoneType_int, isi_NoneType_bool, isi_NoneType_str, isi_NoneType_tuple, isi_NoneType_list, isi_bool_int, isi_bool_bool, isi_bool_str, isi_bool_tuple, isi_bool_list, isi_int_int, isi_int_bool, isi_int_str, isi_int_tuple, isi_int_list, isi_str_int, isi_str_bool, isi_str_str, isi_str_tuple, isi_str_list, isi_tuple_int, isi_tuple_bool, isi_tuple_str, isi_tuple_tuple, isi_tuple_list, isi_list_int, isi_list_bool, isi_list_str, isi_list_tuple, isi_list_list, isi_dict_int, isi_dict_bool, isi_dict_str, isi_dict_tuple, isi_dict_list, bDig, c2, log128]), e2]
        simp
    · refine ⟨[], k, by rw [dg_small hk]; rfl, ?_⟩
      have c1 : ¬ (127 : Int) < (k : Int) := by omega
      rw [while_f (ρ1 := [some (.val (.int k)), some (.own (.lst r))]) (by simp [Res.bind, mSeq, mNx, mRet, mRetNm, mRetN, mIfS, mNever, mAsg, setR, setV, setO, isPar, mAug, mDrop, mAppend, mExtend, ownL?, ownO, setC, RV.lst?, mSrc, itemsOf, mOp, RV.fz, OB.pv, mBor, mNm, mK, mNew, mBin, mUn, deref, liftO, mANil, mACons, mApp, derefs, vals?, RV.val?, small, mTup, mLst, mCall, lone, avsOf, avOf, backs, findArg, back1, RV.bor?, mTest, RV.bl?, mTruth, truth, mTNot, mTAnd, mTOr, mAndV, mOrV, mNotV, mIf, mChain, mgNm, mAsgT, mgTup, mgCons, mgNil, iop, pAdd, pSub, pMul, pDiv, pMod, pNeg, pLt, pLe, pGt, pGe, pEq, pNe, pAddI, pMulS, pIs, pIsNot, isP, pIn, pNotIn, inP, flatP, cmpOk, cmpOks, eqP, eqPs, pIx, fLen, fAbs, fInt, fMin2, fMax2, fOrd, fList, fTuple, fIsi, tyName, AV.slot, runF, Res.nox, RV.out, outsOf, SV.lent, range1e, range2e, range3e, range4e, isi_NoneType_int, isi_NoneType_bool, isi_NoneType_str, isi_NoneType_tuple, isi_NoneType_list, isi_bool_int, isi_bool_bool, isi_bool_str, isi_bool_tuple, isi_bool_list, isi_int_int, isi_int_bool, isi_int_str, isi_int_tuple, isi_int_list, isi_str_int, isi_str_bool, isi_str_str, isi_str_tuple, isi_str_list, isi_tuple_int, isi_tuple_bool, isi_tuple_str, isi_tuple_tuple, isi_tuple_list, isi_list_int, isi_list_bool, isi_list_str, isi_list_tuple, isi_list_list, isi_dict_int, isi_dict_bool, isi_dict_str, isi_dict_tuple, isi_dict_list, wDig, c1])]
      simp
theorem digits_of_ok {k : Nat} (h : k < 128 ^ 999) : (stepT C t).digits_of [.val (.int k)] = .ok (.new (.lst ((dg k).map PV.int)), [none]) := by
  obtain ⟨i, l, e1, e2⟩ := dig_loop 999 k [] h (by simp)
  have hl : i.length ≤ 999 := by
    have := dg_len 999 k h
    rw [e1] at this
    simp at this
    omega
  have c : i.length < 16777216 := by omega
  refine run_rt (r := .new (.lst ((dg k).map PV.int))) (ρ1 := [some (.val (.int l)), none]) [some (.val (.int k)), none] rfl ?_ rfl
  refine (seq_nx (ρ1 := [some (.val (.int k)), some (.own (.lst []))]) (by simp [Res.bind, mSeq, mNx, mRet, mRetNm, mRetN, mIfS, mNever, mAsg, setR, setV, setO, isPar, mAug, mDrop, mAppend, mExtend, ownL?, ownO, setC, RV.lst?, mSrc, itemsOf, mOp, RV.fz, OB.pv, mBor, mNm, mK, mNew, mBin, mUn, deref, liftO, mANil, mACons, mApp, derefs, vals?, RV.val?, small, mTup, mLst, mCall, lone, avsOf, avOf, backs, findArg, back1, RV.bor?, mTest, RV.bl?, mTruth, truth, mTNot, mTAnd, mTOr, mAndV, mOrV, mNotV, mIf, mChain, mgNm, mAsgT, mgTup, mgCons, mgNil, iop, pAdd, pSub, pMul, pDiv, pMod, pNeg, pLt, pLe, pGt, pGe, pEq, pNe, pAddI, pMulS, pIs, pIsNot, isP, pIn, pNotIn, inP, flatP, cmpOk, cmpOks, eqP, eqPs, pIx, fLen, fAbs, fInt, fMin2, fMax2, fOrd, fList, fTuple, fIsi, tyName, AV.slot, runF, Res.nox, RV.out, outsOf, SV.lent, range1e, range2e, range3e, range4e, isi_NoneType_int, isi_NoneType_bool, isi_NoneType_str, isi_NoneType_tuple, isi_NoneType_list, isi_bool_int, isi_bool_bool, isi_bool_str, isi_bool_tuple, isi_bool_list, isi_int_int, isi_int_bool, isi_int_str, isi_int_tuple, isi_int_list, isi_str_int, isi_str_bool, isi_str_str, isi_str_tuple, isi_str_list, isi_tuple_int, isi_tuple_bool, isi_tuple_str, isi_tuple_tuple, isi_tuple_list, isi_list_int, isi_list_bool, isi_list_str, isi_list_tuple, isi_list_list, isi_dict_int, isi_dict_bool, isi_dict_str, isi_dict_tuple, isi_dict_list])).trans ?_
  refine (seq_nx e2).trans ?_
  simp [Res.bind, mSeq, mNx, mRet, mRetNm, mRetN, mIfS, mNever, mAsg, setR, setV, setO, isPar, mAug, mDrop, mAppend, mExtend, ownL?, ownO, setC, RV.lst?, mSrc, itemsOf, mOp, RV.fz, OB.pv, mBor, mNm, mK, mNew, mBin, mUn, deref, liftO, mANil, mACons, mApp, derefs, vals?, RV.val?, small, mTup, mLst, mCall, lone, avsOf, avOf, backs, findArg, back1, RV.bor?, mTest, RV.bl?, mTruth, truth, mTNot, mTAnd, mTOr, mAndV, mOrV, mNotV, mIf, mChain, mgNm, mAsgT, mgTup, mgCons, mgNil, iop, pAdd, pSub, pMul, pDiv, pMod, pNeg, pLt, pLe, pGt, pGe, pEq, pNe, pAddI, pMulS, pIs, pIsNot, isP, pIn, pNotIn, inP, flatP, cmpOk, cmpOks, eqP, eqPs, pIx, fLen, fAbs, fInt, fMin2, fMax2, fOrd, fList, fTuple, fIsi, tyName, AV.slot, runF, Res.nox, RV.out, outsOf, SV.lent, range1e, range2e, range3e, range4e, isi_NoneType_int, isi_NoneType_bool, isi_NoneType_str, isi_NoneType_tuple, isi_NoneType_list, isi_bool_int, isi_bool_bool, isi_bool_str, isi_bool_tuple, isi_bool_list, isi_int_int, isi_int_bool, isi_int_str, isi_int_tuple, isi_int_list, isi_str_int, isi_str_bool, isi_str_str, isi_str_tuple, isi_str_list, isi_tuple_int, isi_tuple_bool, isi_tuple_str, isi_tuple_tuple, isi_tuple_list, isi_list_int, isi_list_bool, isi_list_str, isi_list_tuple, isi_list_list, isi_dict_int, isi_dict_bool, isi_dict_str, isi_dict_tuple, isi_dict_list, c, e1]

/-! ### the law's digits -/
/-! ### octets -/
mutual
def enc : PV → List Int
  | .non => [0]
  | .bl b => [if b then 5 else 6]
  | .int i => if 0 ≤ i then 1 :: dg i.toNat else 2 :: dg (-i - 1).toNat
  | .str x => 3 :: (dg x.length ++ x.cps.toList.map fun (c : Nat) => (c : Int))
  | .tup xs => 4 :: (dg xs.length ++ encs xs)
  | _ => []
def encs : List PV → List Int
  | [] => []
  | x :: xs => enc x ++ encs xs
end
mutual
/-- a value that has octets, tuples at most n deep -/
def okV : Nat → PV → Bool
  | _, .non => true
  | _, .bl _ => true
  | _, .int i => decide (-(128 ^ 950) ≤ i) && decide (i < 128 ^ 950)
  | _, .str x => decide (x.length ≤ 20000) && x.cps.toList.all fun (c : Nat) => isSign (c : Int)
  | n + 1, .tup xs => decide (xs.length ≤ 50000) && okVs n xs
  | _, _ => false
def okVs : Nat → List PV → Bool
  | _, [] => true
  | n, x :: xs => okV n x && okVs n xs
end
theorem szOk_of {n : Nat} (h : n ≤ 16777216) : szOk n = true := decide_eq_true h
theorem str_items (x : Str) : itemsOf (.str x) = some (x.cps.toList.map fun c => .str ⟨#[c]⟩) := rfl
def ords (x : Str) : List Int := x.cps.toList.map fun (c : Nat) => (c : Int)
theorem ord_lc (x : Str) (h : x.length ≤ 16777216) (a b : Option SV) : mLc [3] (mSrc (mNm 0)) (mgNm 3) mYes (mApp fOrd (mACons (mBor 3) mANil)) [some (.val (.str x)), a, b, none] =
    .ok (.new (.lst ((ords x).map PV.int)), [some (.val (.str x)), a, b, none]) := by
  have hz : (x.cps.toList.map fun c => PV.str ⟨#[c]⟩).length ≤ 16777216 := by
    simpa [Str.length] using h
  rw [mlc_of (ρ1 := [some (.val (.str x)), a, b, none]) (ρ2 := [some (.val (.str x)), a, b, none]) (ys := (ords x).map PV.int) (by simp [Res.bind, mSeq, mNx, mRet, mRetNm, mRetN, mIfS, mNever, mAsg, setR, setV, setO, isPar, mAug, mDrop, mAppend, mExtend, ownL?, ownO, setC, RV.lst?, mSrc, itemsOf, mOp, RV.fz, OB.pv, mBor, mNm, mK, mNew, mBin, mUn, deref, liftO, mANil, mACons, mApp, derefs, vals?, RV.val?, small, mTup, mLst, mCall, lone, avsOf, avOf, backs, findArg, back1, RV.bor?, mTest, RV.bl?, mTruth, truth, mTNot, mTAnd, mTOr, mAndV, mOrV, mNotV, mIf, mChain, mgNm, mAsgT, mgTup, mgCons, mgNil, iop, pAdd, pSub, pMul, pDiv, pMod, pNeg, pLt, pLe, pGt, pGe, pEq, pNe, pAddI, pMulS, pIs, pIsNot, isP, pIn, pNotIn, inP, flatP, cmpOk, cmpOks, eqP, eqPs, pIx, fLen, fAbs, fInt, fMin2, fMax2, fOrd, fList, fTuple, fIsi, tyName, AV.slot, runF, Res.nox, RV.out, outsOf, SV.lent, range1e, range2e, range3e, range4e, isi_NoneType_int, isi_NoneType_bool, isi_NoneType_str, isi_NoneType_tuple, isi_NoneType_list, isi_bool_int, isi_bool_bool, isi_bool_str, isi_bool_tuple, isi_bool_list, isi_int_int, isi_int_bool, isi_int_str, isi_int_tuple, isi_int_list, isi_str_int, isi_str_bool, isi_str_str, isi_str_tuple, isi_str_list, isi_tuple_int, isi_tuple_bool, isi_tuple_str, isi_tuple_tuple, isi_tuple_list, isi_list_int, isi_list_bool, isi_list_str, isi_list_tuple, isi_list_list, isi_dict_int, isi_dict_bool, isi_dict_str, isi_dict_tuple, isi_dict_list, str_items]) hz ?_]
  · simp [restoreE, keepV]
  · have e : wipeE [some (.val (.str x)), a, b, none] [3] = [some (.val (.str x)), a, b, none] := by simp [wipeE]
    rw [e]
    have key : ∀ l : List Nat, lcM [3] (mgNm 3) mYes (mApp fOrd (mACons (mBor 3) mANil)) (l.map fun c => PV.str ⟨#[c]⟩) [some (.val (.str x)), a, b, none] = .ok ((l.map fun (c : Nat) => (c : Int)).map PV.int, [some (.val (.str x)), a, b, none]) := by
      intro l
      induction l with
      | nil => rfl
      | cons c l ih =>
        rw [List.map_cons, lc_cons (ρ1 := [some (.val (.str x)), a, b, some (.val (.str ⟨#[c]⟩))]) (ρ2 := [some (.val (.str x)), a, b, some (.val (.str ⟨#[c]⟩))]) (ρ3 := [some (.val (.str x)), a, b, some (.val (.str ⟨#[c]⟩))]) (y := .int c) (by simp [Res.bind, mSeq, mNx, mRet, mRetNm, mRetN, mIfS, mNever, mAsg, setR, setV, setO, isPar, mAug, mDrop, mAppend, mExtend, ownL?, ownO, setC, RV.lst?, mSrc, itemsOf, mOp, RV.fz, OB.pv, mBor, mNm, mK, mNew, mBin, mUn, deref, liftO, mANil, mACons, mApp, derefs, vals?, RV.val?, small, mTup, mLst, mCall, lone, avsOf, avOf, backs, findArg, back1, RV.bor?, mTest, RV.bl?, mTruth, truth, mTNot, mTAnd, mTOr, mAndV, mOrV, mNotV, mIf, mChain, mgNm, mAsgT, mgTup, mgCons, mgNil, iop, pAdd, pSub, pMul, pDiv, pMod, pNeg, pLt, pLe, pGt, pGe, pEq, pNe, pAddI, pMulS, pIs, pIsNot, isP, pIn, pNotIn, inP, flatP, cmpOk, cmpOks, eqP, eqPs, pIx, fLen, fAbs, fInt, fMin2, fMax2, fOrd, fList, fTuple, fIsi, tyName, AV.slot, runF, Res.nox, RV.out, outsOf, SV.lent, range1e, range2e, range3e, range4e, isi_NoneType_int, isi_NoneType_bool, isi_NoneType_str, isi_NoneType_tuple, isi_NoneType_list, isi_bool_int, isi_bool_bool, isi_bool_str, isi_bool_tuple, isi_bool_list, isi_int_int, isi_int_bool, isi_int_str, isi_int_tuple, isi_int_list, isi_str_int, isi_str_bool, isi_str_str, isi_str_tuple, isi_str_list, isi_tuple_int, isi_tuple_bool, isi_tuple_str, isi_tuple_tuple, isi_tuple_list, isi_list_int, isi_list_bool, isi_list_str, isi_list_tuple, isi_list_list, isi_dict_int, isi_dict_bool, isi_dict_str, isi_dict_tuple, isi_dict_list]) rfl (by simp [Res.bind, mSeq, mNx, mRet, mRetNm, mRetN, mIfS, mNever, mAsg, setR, setV, setO, isPar, mAug, mDrop, mAppend, mExtend, ownL?, ownO, setC, RV.lst?, mSrc, itemsOf, mOp, RV.fz, OB.pv, mBor, mNm, mK, mNew, mBin, mUn, deref, liftO, mANil, mACons, mApp, derefs, vals?, RV.val?, small, mTup, mLst, mCall, lone, avsOf, avOf, backs, findArg, back1, RV.bor?, mTest, RV.bl?, mTruth, truth, mTNot, mTAnd, mTOr, mAndV, mOrV, mNotV, mIf, mChain, mgNm, mAsgT, mgTup, mgCons, mgNil, iop, pAdd, pSub, pMul, pDiv, pMod, pNeg, pLt, pLe, pGt, pGe, pEq, pNe, pAddI, pMulS, pIs, pIsNot, isP, pIn, pNotIn, inP, flatP, cmpOk, cmpOks, eqP, eqPs, pIx, fLen, fAbs, fInt, fMin2, fMax2, fOrd, fList, fTuple, fIsi, tyName, AV.slot, runF, Res.nox, RV.out, outsOf, SV.lent, range1e, range2e, range3e, range4e, isi_NoneType_int, isi_NoneType_bool, isi_NoneType_str, isi_NoneType_tuple, isi_NoneType_list, isi_bool_int, isi_bool_bool, isi_bool_str, isi_bool_tuple, isi_bool_list, isi_int_int, isi_int_bool, isi_int_str, isi_int_tuple, isi_int_list, isi_str_int, isi_str_bool, isi_str_str, isi_str_tuple, isi_str_list, isi_tuple_int, isi_tuple_bool, isi_tuple_str, isi_tuple_tuple, isi_tuple_list, isi_list_int, isi_list_bool, isi_list_str, isi_list_tuple, isi_list_list, isi_dict_int, isi_dict_bool, isi_dict_str, isi_dict_tuple, isi_dict_list, Str.length])]
        have e2 : wipeE [some (.val (.str x)), a, b, some (.val (.str ⟨#[c]⟩))] [3] = [some (.val (.str x)), a, b, none] := by simp [wipeE]
        rw [e2, ih]
        rfl
    exact key _
theorem laid_loop (v : PV) : ∀ (xs : List PV) (r : List Int) (tv : Option PV), (∀ x ∈ xs, t.laid [.val x] = .ok (.new (.lst ((enc x).map PV.int)), [none])) → r.length + (encs xs).length ≤ 16777216 →
    ∃ tv' : Option PV, Pu.forM (mgNm 2) (mExtend 1 (mCall t.laid (mACons (mNm 2) mANil))) xs [some (.val v), some (.own (.lst (r.map PV.int))), tv.map SV.val, none] = .ok (.nx, [some (.val v), some (.own (.lst ((r ++ encs xs).map PV.int))), tv'.map SV.val, none])
  | [], r, tv, _, _ => ⟨tv, by simp [Pu.forM, encs]⟩
  | x :: xs, r, tv, h, hz => by
    have hx := h x (List.mem_cons_self ..)
    unfold encs at hz
    rw [List.length_append] at hz
    obtain ⟨tv', e⟩ := laid_loop v xs (r ++ enc x) (some x) (fun y hy => h y (List.mem_cons_of_mem _ hy)) (by rw [List.length_append]; omega)
    refine ⟨tv', ?_⟩
    have c : r.length + (enc x).length ≤ 16777216 := by omega
    rw [for_cons (ρ1 := [some (.val v), some (.own (.lst (r.map PV.int))), some (.val x), none]) (ρ2 := [some (.val v), some (.own (.lst ((r ++ enc x).map PV.int))), some (.val x), none]) (by cases tv <;> simp [Res.bind, mSeq, mNx, mRet, mRetNm, mRetN, mIfS, mNever, mAsg, setR, setV, setO, isPar, mAug, mDrop, mAppend, mExtend, ownL?, ownO, setC, RV.lst?, mSrc, itemsOf, mOp, RV.fz, OB.pv, mBor, mNm, mK, mNew, mBin, mUn, deref, liftO, mANil, mACons, mApp, derefs, vals?, RV.val?, small, mTup, mLst, mCall, lone, avsOf, avOf, backs, findArg, back1, RV.bor?, mTest, RV.bl?, mTruth, truth, mTNot, mTAnd, mTOr, mAndV, mOrV, mNotV, mIf, mChain, mgNm, mAsgT, mgTup, mgCons, mgNil, iop, pAdd, pSub, pMul, pDiv, pMod, pNeg, pLt, pLe, pGt, pGe, pEq, pNe, pAddI, pMulS, pIs, pIsNot, isP, pIn, pNotIn, inP, flatP, cmpOk, cmpOks, eqP, eqPs, pIx, fLen, fAbs, fInt, fMin2, fMax2, fOrd, fList, fTuple, fIsi, tyName, AV.slot, runF, Res.nox, RV.out, outsOf, SV.lent, range1e, range2e, range3e, range4e, isi_NoneType_int, isi_NoneType_bool, isi_NoneType_str, isi_NoneType_tuple, isi_NoneType_list, isi_bool_int, isi_bool_bool, isi_bool_str, isi_bool_tuple, isi_bool_list, isi_int_int, isi_int_bool, isi_int_str, isi_int_tuple, isi_int_list, isi_str_int, isi_str_bool, isi_str_str, isi_str_tuple, isi_str_list, isi_tuple_int, isi_tuple_bool, isi_tuple_str, isi_tuple_tuple, isi_tuple_list, isi_list_int, isi_list_bool, isi_list_str, isi_list_tuple, isi_list_list, isi_dict_int, isi_dict_bool, isi_dict_str, isi_dict_tuple, isi_dict_list]) ?_]
    · rw [show encs (x :: xs) = enc x ++ encs xs from rfl, ← List.append_assoc]
      exact e
    · have e1 : mCall t.laid (mACons (mNm 2) mANil) [some (.val v), some (.own (.lst (r.map PV.int))), some (.val x), none] = .ok (.new (.lst ((enc x).map PV.int)), [some (.val v), some (.own (.lst (r.map PV.int))), some (.val x), none]) := call1 (p := x) (by simp [Res.bind, mSeq, mNx, mRet, mRetNm, mRetN, mIfS, mNever, mAsg, setR, setV, setO, isPar, mAug, mDrop, mAppend, mExtend, ownL?, ownO, setC, RV.lst?, mSrc, itemsOf, mOp, RV.fz, OB.pv, mBor, mNm, mK, mNew, mBin, mUn, deref, liftO, mANil, mACons, mApp, derefs, vals?, RV.val?, small, mTup, mLst, mCall, lone, avsOf, avOf, backs, findArg, back1, RV.bor?, mTest, RV.bl?, mTruth, truth, mTNot, mTAnd, mTOr, mAndV, mOrV, mNotV, mIf, mChain, mgNm, mAsgT, mgTup, mgCons, mgNil, iop, pAdd, pSub, pMul, pDiv, pMod, pNeg, pLt, pLe, pGt, pGe, pEq, pNe, pAddI, pMulS, pIs, pIsNot, isP, pIn, pNotIn, inP, flatP, cmpOk, cmpOks, eqP, eqPs, pIx, fLen, fAbs, fInt, fMin2, fMax2, fOrd, fList, fTuple, fIsi, tyName, AV.slot, runF, Res.nox, RV.out, outsOf, SV.lent, range1e, range2e, range3e, range4e, isi_NoneType_int, isi_NoneType_bool, isi_NoneType_str, isi_NoneType_tuple, isi_NoneType_list, isi_bool_int, isi_bool_bool, isi_bool_str, isi_bool_tuple, isi_bool_list, isi_int_int, isi_int_bool, isi_int_str, isi_int_tuple, isi_int_list, isi_str_int, isi_str_bool, isi_str_str, isi_str_tuple, isi_str_list, isi_tuple_int, isi_tuple_bool, isi_tuple_str, isi_tuple_tuple, isi_tuple_list, isi_list_int, isi_list_bool, isi_list_str, isi_list_tuple, isi_list_list, isi_dict_int, isi_dict_bool, isi_dict_str, isi_dict_tuple, isi_dict_list]) hx
      unfold mExtend mOp
      rw [e1]
      simp [RV.fz, OB.pv, ownL?, ownO, liftO, Res.bind, RV.lst?, szOk, c, setC]
theorem pow950 : (128 : Nat) ^ 950 < 128 ^ 960 := Nat.pow_lt_pow_right (by decide) (by decide)
theorem pow950' : (128 : Nat) ^ 950 < 128 ^ 999 := Nat.pow_lt_pow_right (by decide) (by decide)
/-- the digits' def of a table does as told -/
def DigOk (g : G) : Prop := ∀ k : Nat, k < 128 ^ 950 → g [.val (.int k)] = .ok (.new (.lst ((dg k).map PV.int)), [none])
theorem small950 : (50000 : Nat) < 128 ^ 950 := Nat.lt_of_lt_of_le (by decide : 50000 < 128 ^ 3) (Nat.pow_le_pow_right (by decide) (by decide))
theorem int950 {i : Int} (h : okV 0 (.int i) = true) : (0 ≤ i → i.toNat < 128 ^ 950) ∧ (¬ 0 ≤ i → (-i - 1).toNat < 128 ^ 950) := by
  unfold okV at h
  rw [Bool.and_eq_true] at h
  have h1 := of_decide_eq_true h.1
  have h2 := of_decide_eq_true h.2
  have e : ((128 ^ 950 : Nat) : Int) = 128 ^ 950 := by simp
  rw [← e] at h1 h2
  generalize (128 : Nat) ^ 950 = B at h1 h2 ⊢
  exact ⟨fun _ => by omega, fun _ => by omega⟩
theorem laid_step (hd : DigOk t.digits_of) : ∀ (n : Nat) (v : PV), okV n v = true → (enc v).length ≤ 16777216 → (∀ xs, v = .tup xs → ∀ x ∈ xs, t.laid [.val x] = .ok (.new (.lst ((enc x).map PV.int)), [none])) →
    (stepT C t).laid [.val v] = .ok (.new (.lst ((enc v).map PV.int)), [none]) := by
  intro n v ok hz hx
  cases v with
  | non => simp [Res.bind, mSeq, mNx, mRet, mRetNm, mRetN, mIfS, mNever, mAsg, setR, setV, setO, isPar, mAug, mDrop, mAppend, mExtend, ownL?, ownO, setC, RV.lst?, mSrc, itemsOf, mOp, RV.fz, OB.pv, mBor, mNm, mK, mNew, mBin, mUn, deref, liftO, mANil, mACons, mApp, derefs, vals?, RV.val?, small, mTup, mLst, mCall, lone, avsOf, avOf, backs, findArg, back1, RV.bor?, mTest, RV.bl?, mTruth, truth, mTNot, mTAnd, mTOr, mAndV, mOrV, mNotV, mIf, mChain, mgNm, mAsgT, mgTup, mgCons, mgNil, iop, pAdd, pSub, pMul, pDiv, pMod, pNeg, pLt, pLe, pGt, pGe, pEq, pNe, pAddI, pMulS, pIs, pIsNot, isP, pIn, pNotIn, inP, flatP, cmpOk, cmpOks, eqP, eqPs, pIx, fLen, fAbs, fInt, fMin2, fMax2, fOrd, fList, fTuple, fIsi, tyName, AV.slot, runF, Res.nox, RV.out, outsOf, SV.lent, range1e, range2e, range3e, range4e, isi_NoneType_int, isi_NoneType_bool, isi_NoneType_str, isi_NoneType_tuple, isi_NoneType_list, isi_bool_int, isi_bool_bool, isi_bool_str, isi_bool_tuple, isi_bool_list, isi_int_int, isi_int_bool, isi_int_str, isi_int_tuple, isi_int_list, isi_str_int, isi_str_bool, isi_str_str, isi_str_tuple, isi_str_list, isi_tuple_int, isi_tuple_bool, isi_tuple_str, isi_tuple_tuple, isi_tuple_list, isi_list_int, isi_list_bool, isi_list_str, isi_list_tuple, isi_list_list, isi_dict_int, isi_dict_bool, isi_dict_str, isi_dict_tuple, isi_dict_list, stepT, b_laid, enc]
  | bl b => cases b <;> simp [Res.bind, mSeq, mNx, mRet, mRetNm, mRetN, mIfS, mNever, mAsg, setR, setV, setO, isPar, mAug, mDrop, mAppend, mExtend, ownL?, ownO, setC, RV.lst?, mSrc, itemsOf, mOp, RV.fz, OB.pv, mBor, mNm, mK, mNew, mBin, mUn, deref, liftO, mANil, mACons, mApp, derefs, vals?, RV.val?, small, mTup, mLst, mCall, lone, avsOf, avOf, backs, findArg, back1, RV.bor?, mTest, RV.bl?, mTruth, truth, mTNot, mTAnd, mTOr, mAndV, mOrV, mNotV, mIf, mChain, mgNm, mAsgT, mgTup, mgCons, mgNil, iop, pAdd, pSub, pMul, pDiv, pMod, pNeg, pLt, pLe, pGt, pGe, pEq, pNe, pAddI, pMulS, pIs, pIsNot, isP, pIn, pNotIn, inP, flatP, cmpOk, cmpOks, eqP, eqPs, pIx, fLen, fAbs, fInt, fMin2, fMax2, fOrd, fList, fTuple, fIsi, tyName, AV.slot, runF, Res.nox, RV.out, outsOf, SV.lent, range1e, range2e, range3e, range4e, isi_NoneType_int, isi_NoneType_bool, isi_NoneType_str, isi_NoneType_tuple, isi_NoneType_list, isi_bool_int, isi_bool_bool, isi_bool_str, isi_bool_tuple, isi_bool_list, isi_int_int, isi_int_bool, isi_int_str, isi_int_tuple, isi_int_list, isi_str_int, isi_str_bool, isi_str_str, isi_str_tuple, isi_str_list, isi_tuple_int, isi_tuple_bool, isi_tuple_str, isi_tuple_tuple, isi_tuple_list, isi_list_int, isi_list_bool, isi_list_str, isi_list_tuple, isi_list_list, isi_dict_int, isi_dict_bool, isi_dict_str, isi_dict_tuple, isi_dict_list, stepT, b_laid, enc]
  | int i =>
    have ok0 : okV 0 (.int i) = true := by
      unfold okV at ok ⊢
      exact ok
    obtain ⟨h1, h2⟩ := int950 ok0
    refine run_rt (r := .new (.lst ((enc (.int i)).map PV.int))) (ρ1 := [some (.val (.int i)), none, none, none]) [some (.val (.int i)), none, none, none] rfl ?_ rfl
    refine (seq_nx (ρ1 := [some (.val (.int i)), none, none, none]) (by simp [Res.bind, mSeq, mNx, mRet, mRetNm, mRetN, mIfS, mNever, mAsg, setR, setV, setO, isPar, mAug, mDrop, mAppend, mExtend, ownL?, ownO, setC, RV.lst?, mSrc, itemsOf, mOp, RV.fz, OB.pv, mBor, mNm, mK, mNew, mBin, mUn, deref, liftO, mANil, mACons, mApp, derefs, vals?, RV.val?, small, mTup, mLst, mCall, lone, avsOf, avOf, backs, findArg, back1, RV.bor?, mTest, RV.bl?, mTruth, truth, mTNot, mTAnd, mTOr, mAndV, mOrV, mNotV, mIf, mChain, mgNm, mAsgT, mgTup, mgCons, mgNil, iop, pAdd, pSub, pMul, pDiv, pMod, pNeg, pLt, pLe, pGt, pGe, pEq, pNe, pAddI, pMulS, pIs, pIsNot, isP, pIn, pNotIn, inP, flatP, cmpOk, cmpOks, eqP, eqPs, pIx, fLen, fAbs, fInt, fMin2, fMax2, fOrd, fList, fTuple, fIsi, tyName, AV.slot, runF, Res.nox, RV.out, outsOf, SV.lent, range1e, range2e, range3e, range4e, isi_NoneType_int, isi_NoneType_bool, isi_NoneType_str, isi_NoneType_tuple, isi_NoneType_list, isi_bool_int, isi_bool_bool, isi_bool_str, isi_bool_tuple, isi_bool_list, isi_int_int, isi_int_bool, isi_int_str, isi_int_tuple, isi_int_list, isi_str_int, isi_str_bool, isi_str_str, isi_str_tuple, isi_str_list, isi_tuple_int, isi_tuple_bool, isi_tuple_str, isi_tuple_tuple, isi_tuple_list, isi_list_int, isi_list_bool, isi_list_str, isi_list_tuple, isi_list_list, isi_dict_int, isi_dict_bool, isi_dict_str, isi_dict_tuple, isi_dict_list])).trans ?_
    refine (seq_nx (ρ1 := [some (.val (.int i)), none, none, none]) (by simp [Res.bind, mSeq, mNx, mRet, mRetNm, mRetN, mIfS, mNever, mAsg, setR, setV, setO, isPar, mAug, mDrop, mAppend, mExtend, ownL?, ownO, setC, RV.lst?, mSrc, itemsOf, mOp, RV.fz, OB.pv, mBor, mNm, mK, mNew, mBin, mUn, deref, liftO, mANil, mACons, mApp, derefs, vals?, RV.val?, small, mTup, mLst, mCall, lone, avsOf, avOf, backs, findArg, back1, RV.bor?, mTest, RV.bl?, mTruth, truth, mTNot, mTAnd, mTOr, mAndV, mOrV, mNotV, mIf, mChain, mgNm, mAsgT, mgTup, mgCons, mgNil, iop, pAdd, pSub, pMul, pDiv, pMod, pNeg, pLt, pLe, pGt, pGe, pEq, pNe, pAddI, pMulS, pIs, pIsNot, isP, pIn, pNotIn, inP, flatP, cmpOk, cmpOks, eqP, eqPs, pIx, fLen, fAbs, fInt, fMin2, fMax2, fOrd, fList, fTuple, fIsi, tyName, AV.slot, runF, Res.nox, RV.out, outsOf, SV.lent, range1e, range2e, range3e, range4e, isi_NoneType_int, isi_NoneType_bool, isi_NoneType_str, isi_NoneType_tuple, isi_NoneType_list, isi_bool_int, isi_bool_bool, isi_bool_str, isi_bool_tuple, isi_bool_list, isi_int_int, isi_int_bool, isi_int_str, isi_int_tuple, isi_int_list, isi_str_int, isi_str_bool, isi_str_str, isi_str_tuple, isi_str_list, isi_tuple_int, isi_tuple_bool, isi_tuple_str, isi_tuple_tuple, isi_tuple_list, isi_list_int, isi_list_bool, isi_list_str, isi_list_tuple, isi_list_list, isi_dict_int, isi_dict_bool, isi_dict_str, isi_dict_tuple, isi_dict_list])).trans ?_
    refine (seq_nx (ρ1 := [some (.val (.int i)), none, none, none]) (by simp [Res.bind, mSeq, mNx, mRet, mRetNm, mRetN, mIfS, mNever, mAsg, setR, setV, setO, isPar, mAug, mDrop, mAppend, mExtend, ownL?, ownO, setC, RV.lst?, mSrc, itemsOf, mOp, RV.fz, OB.pv, mBor, mNm, mK, mNew, mBin, mUn, deref, liftO, mANil, mACons, mApp, derefs, vals?, RV.val?, small, mTup, mLst, mCall, lone, avsOf, avOf, backs, findArg, back1, RV.bor?, mTest, RV.bl?, mTruth, truth, mTNot, mTAnd, mTOr, mAndV, mOrV, mNotV, mIf, mChain, mgNm, mAsgT, mgTup, mgCons, mgNil, iop, pAdd, pSub, pMul, pDiv, pMod, pNeg, pLt, pLe, pGt, pGe, pEq, pNe, pAddI, pMulS, pIs, pIsNot, isP, pIn, pNotIn, inP, flatP, cmpOk, cmpOks, eqP, eqPs, pIx, fLen, fAbs, fInt, fMin2, fMax2, fOrd, fList, fTuple, fIsi, tyName, AV.slot, runF, Res.nox, RV.out, outsOf, SV.lent, range1e, range2e, range3e, range4e, isi_NoneType_int, isi_NoneType_bool, isi_NoneType_str, isi_NoneType_tuple, isi_NoneType_list, isi_bool_int, isi_bool_bool, isi_bool_str, isi_bool_tuple, isi_bool_list, isi_int_int, isi_int_bool, isi_int_str, isi_int_tuple, isi_int_list, isi_str_int, isi_str_bool, isi_str_str, isi_str_tuple, isi_str_list, isi_tuple_int, isi_tuple_bool, isi_tuple_str, isi_tuple_tuple, isi_tuple_list, isi_list_int, isi_list_bool, isi_list_str, isi_list_tuple, isi_list_list, isi_dict_int, isi_dict_bool, isi_dict_str, isi_dict_tuple, isi_dict_list])).trans ?_
    refine seq_rt ?_
    refine (ifs_t (ρ1 := [some (.val (.int i)), none, none, none]) (by simp [Res.bind, mSeq, mNx, mRet, mRetNm, mRetN, mIfS, mNever, mAsg, setR, setV, setO, isPar, mAug, mDrop, mAppend, mExtend, ownL?, ownO, setC, RV.lst?, mSrc, itemsOf, mOp, RV.fz, OB.pv, mBor, mNm, mK, mNew, mBin, mUn, deref, liftO, mANil, mACons, mApp, derefs, vals?, RV.val?, small, mTup, mLst, mCall, lone, avsOf, avOf, backs, findArg, back1, RV.bor?, mTest, RV.bl?, mTruth, truth, mTNot, mTAnd, mTOr, mAndV, mOrV, mNotV, mIf, mChain, mgNm, mAsgT, mgTup, mgCons, mgNil, iop, pAdd, pSub, pMul, pDiv, pMod, pNeg, pLt, pLe, pGt, pGe, pEq, pNe, pAddI, pMulS, pIs, pIsNot, isP, pIn, pNotIn, inP, flatP, cmpOk, cmpOks, eqP, eqPs, pIx, fLen, fAbs, fInt, fMin2, fMax2, fOrd, fList, fTuple, fIsi, tyName, AV.slot, runF, Res.nox, RV.out, outsOf, SV.lent, range1e, range2e, range3e, range4e, isi_NoneType_int, isi_NoneType_bool, isi_NoneType_str, isi_NoneType_tuple, isi_NoneType_list, isi_bool_int, isi_bool_bool, isi_bool_str, isi_bool_tuple, isi_bool_list, isi_int_int, isi_int_bool, isi_int_str, isi_int_tuple, isi_int_list, isi_str_int, isi_str_bool, isi_str_str, isi_str_tuple, isi_str_list, isi_tuple_int, isi_tuple_bool, isi_tuple_str, isi_tuple_tuple, isi_tuple_list, isi_list_int, isi_list_bool, isi_list_str, isi_list_tuple, isi_list_list, isi_dict_int, isi_dict_bool, isi_dict_str, isi_dict_tuple, isi_dict_list])).trans ?_
    refine ret_of ?_
    unfold enc at hz ⊢
    by_cases hi : 0 ≤ i
    · rw [if_pos hi] at hz ⊢
      have e : i = ((i.toNat : Nat) : Int) := by omega
      have hc := hd i.toNat (h1 hi)
      rw [← e] at hc
      have : mIf (mTest (mBin pGe (mBor 0) (mK (.int 0)))) (mBin pAdd (mLst (mACons (mK (.int 1)) mANil)) (mCall t.digits_of (mACons (mNm 0) mANil))) (mBin pAdd (mLst (mACons (mK (.int 2)) mANil)) (mCall t.digits_of (mACons (mBin pSub (mUn pNeg (mBor 0)) (mK (.int 1))) mANil))) [some (.val (.int i)), none, none, none] =
          mBin pAdd (mLst (mACons (mK (.int 1)) mANil)) (mCall t.digits_of (mACons (mNm 0) mANil)) [some (.val (.int i)), none, none, none] := by
        have hg : mTest (mBin pGe (mBor 0) (mK (.int 0))) [some (.val (.int i)), none, none, none] = .ok (true, [some (.val (.int i)), none, none, none]) := by simp [Res.bind, mSeq, mNx, mRet, mRetNm, mRetN, mIfS, mNever, mAsg, setR, setV, setO, isPar, mAug, mDrop, mAppend, mExtend, ownL?, ownO, setC, RV.lst?, mSrc, itemsOf, mOp, RV.fz, OB.pv, mBor, mNm, mK, mNew, mBin, mUn, deref, liftO, mANil, mACons, mApp, derefs, vals?, RV.val?, small, mTup, mLst, mCall, lone, avsOf, avOf, backs, findArg, back1, RV.bor?, mTest, RV.bl?, mTruth, truth, mTNot, mTAnd, mTOr, mAndV, mOrV, mNotV, mIf, mChain, mgNm, mAsgT, mgTup, mgCons, mgNil, iop, pAdd, pSub, pMul, pDiv, pMod, pNeg, pLt, pLe, pGt, pGe, pEq, pNe, pAddI, pMulS, pIs, pIsNot, isP, pIn, pNotIn, inP, flatP, cmpOk, cmpOks, eqP, eqPs, pIx, fLen, fAbs, fInt, fMin2, fMax2, fOrd, fList, fTuple, fIsi, tyName, AV.slot, runF, Res.nox, RV.out, outsOf, SV.lent, range1e, range2e, range3e, range4e, isi_NoneType_int, isi_NoneType_bool, isi_NoneType_str, isi_NoneType_tuple, isi_NoneType_list, isi_bool_int, isi_bool_bool, isi_bool_str, isi_bool_tuple, isi_bool_list, isi_int_int, isi_int_bool, isi_int_str, isi_int_tuple, isi_int_list, isi_str_int, isi_str_bool, isi_str_str, isi_str_tuple, isi_str_list, isi_tuple_int, isi_tuple_bool, isi_tuple_str, isi_tuple_tuple, isi_tuple_list, isi_list_int, isi_list_bool, isi_list_str, isi_list_tuple, isi_list_list, isi_dict_int, isi_dict_bool, isi_dict_str, isi_dict_tuple, isi_dict_list, hi]
        unfold mIf
        rw [hg]
        rfl
      refine this.trans ?_
      refine (bin_new (xs := [.int 1]) (ys := (dg i.toNat).map PV.int) (ρ1 := [some (.val (.int i)), none, none, none]) (by simp [Res.bind, mSeq, mNx, mRet, mRetNm, mRetN, mIfS, mNever, mAsg, setR, setV, setO, isPar, mAug, mDrop, mAppend, mExtend, ownL?, ownO, setC, RV.lst?, mSrc, itemsOf, mOp, RV.fz, OB.pv, mBor, mNm, mK, mNew, mBin, mUn, deref, liftO, mANil, mACons, mApp, derefs, vals?, RV.val?, small, mTup, mLst, mCall, lone, avsOf, avOf, backs, findArg, back1, RV.bor?, mTest, RV.bl?, mTruth, truth, mTNot, mTAnd, mTOr, mAndV, mOrV, mNotV, mIf, mChain, mgNm, mAsgT, mgTup, mgCons, mgNil, iop, pAdd, pSub, pMul, pDiv, pMod, pNeg, pLt, pLe, pGt, pGe, pEq, pNe, pAddI, pMulS, pIs, pIsNot, isP, pIn, pNotIn, inP, flatP, cmpOk, cmpOks, eqP, eqPs, pIx, fLen, fAbs, fInt, fMin2, fMax2, fOrd, fList, fTuple, fIsi, tyName, AV.slot, runF, Res.nox, RV.out, outsOf, SV.lent, range1e, range2e, range3e, range4e, isi_NoneType_int, isi_NoneType_bool, isi_NoneType_str, isi_NoneType_tuple, isi_NoneType_list, isi_bool_int, isi_bool_bool, isi_bool_str, isi_bool_tuple, isi_bool_list, isi_int_int, isi_int_bool, isi_int_str, isi_int_tuple, isi_int_list, isi_str_int, isi_str_bool, isi_str_str, isi_str_tuple, isi_str_list, isi_tuple_int, isi_tuple_bool, isi_tuple_str, isi_tuple_tuple, isi_tuple_list, isi_list_int, isi_list_bool, isi_list_str, isi_list_tuple, isi_list_list, isi_dict_int, isi_dict_bool, isi_dict_str, isi_dict_tuple, isi_dict_list]) (call1 (p := .int i) (by simp [Res.bind, mSeq, mNx, mRet, mRetNm, mRetN, mIfS, mNever, mAsg, setR, setV, setO, isPar, mAug, mDrop, mAppend, mExtend, ownL?, ownO, setC, RV.lst?, mSrc, itemsOf, mOp, RV.fz, OB.pv, mBor, mNm, mK, mNew, mBin, mUn, deref, liftO, mANil, mACons, mApp, derefs, vals?, RV.val?, small, mTup, mLst, mCall, lone, avsOf, avOf, backs, findArg, back1, RV.bor?, mTest, RV.bl?, mTruth, truth, mTNot, mTAnd, mTOr, mAndV, mOrV, mNotV, mIf, mChain, mgNm, mAsgT, mgTup, mgCons, mgNil, iop, pAdd, pSub, pMul, pDiv, pMod, pNeg, pLt, pLe, pGt, pGe, pEq, pNe, pAddI, pMulS, pIs, pIsNot, isP, pIn, pNotIn, inP, flatP, cmpOk, cmpOks, eqP, eqPs, pIx, fLen, fAbs, fInt, fMin2, fMax2, fOrd, fList, fTuple, fIsi, tyName, AV.slot, runF, Res.nox, RV.out, outsOf, SV.lent, range1e, range2e, range3e, range4e, isi_NoneType_int, isi_NoneType_bool, isi_NoneType_str, isi_NoneType_tuple, isi_NoneType_list, isi_bool_int, isi_bool_bool, isi_bool_str, isi_bool_tuple, isi_bool_list, isi_int_int, isi_int_bool, isi_int_str, isi_int_tuple, isi_int_list, isi_str_int, isi_str_bool, isi_str_str, isi_str_tuple, isi_str_list, isi_tuple_int, isi_tuple_bool, isi_tuple_str, isi_tuple_tuple, isi_tuple_list, isi_list_int, isi_list_bool, isi_list_str, isi_list_tuple, isi_list_list, isi_dict_int, isi_dict_bool, isi_dict_str, isi_dict_tuple, isi_dict_list]) hc) ?_).trans rfl
      rw [List.length_cons] at hz
      exact szOk_of (by simp only [List.length_cons, List.length_map, List.length_nil]; omega)
    · rw [if_neg hi] at hz ⊢
      have e : -i - 1 = (((-i - 1).toNat : Nat) : Int) := by omega
      have hc := hd (-i - 1).toNat (h2 hi)
      rw [← e] at hc
      have : mIf (mTest (mBin pGe (mBor 0) (mK (.int 0)))) (mBin pAdd (mLst (mACons (mK (.int 1)) mANil)) (mCall t.digits_of (mACons (mNm 0) mANil))) (mBin pAdd (mLst (mACons (mK (.int 2)) mANil)) (mCall t.digits_of (mACons (mBin pSub (mUn pNeg (mBor 0)) (mK (.int 1))) mANil))) [some (.val (.int i)), none, none, none] =
          mBin pAdd (mLst (mACons (mK (.int 2)) mANil)) (mCall t.digits_of (mACons (mBin pSub (mUn pNeg (mBor 0)) (mK (.int 1))) mANil)) [some (.val (.int i)), none, none, none] := by
        have hg : mTest (mBin pGe (mBor 0) (mK (.int 0))) [some (.val (.int i)), none, none, none] = .ok (false, [some (.val (.int i)), none, none, none]) := by simp [Res.bind, mSeq, mNx, mRet, mRetNm, mRetN, mIfS, mNever, mAsg, setR, setV, setO, isPar, mAug, mDrop, mAppend, mExtend, ownL?, ownO, setC, RV.lst?, mSrc, itemsOf, mOp, RV.fz, OB.pv, mBor, mNm, mK, mNew, mBin, mUn, deref, liftO, mANil, mACons, mApp, derefs, vals?, RV.val?, small, mTup, mLst, mCall, lone, avsOf, avOf, backs, findArg, back1, RV.bor?, mTest, RV.bl?, mTruth, truth, mTNot, mTAnd, mTOr, mAndV, mOrV, mNotV, mIf, mChain, mgNm, mAsgT, mgTup, mgCons, mgNil, iop, pAdd, pSub, pMul, pDiv, pMod, pNeg, pLt, pLe, pGt, pGe, pEq, pNe, pAddI, pMulS, pIs, pIsNot, isP, pIn, pNotIn, inP, flatP, cmpOk, cmpOks, eqP, eqPs, pIx, fLen, fAbs, fInt, fMin2, fMax2, fOrd, fList, fTuple, fIsi, tyName, AV.slot, runF, Res.nox, RV.out, outsOf, SV.lent, range1e, range2e, range3e, range4e, isi_NoneType_int, isi_NoneType_bool, isi_NoneType_str, isi_NoneType_tuple, isi_NoneType_list, isi_bool_int, isi_bool_bool, isi_bool_str, isi_bool_tuple, isi_bool_list, isi_int_int, isi_int_bool, isi_int_str, isi_int_tuple, isi_int_list, isi_str_int, isi_str_bool, isi_str_str, isi_str_tuple, isi_str_list, isi_tuple_int, isi_tuple_bool, isi_tuple_str, isi_tuple_tuple, isi_tuple_list, isi_list_int, isi_list_bool, isi_list_str, isi_list_tuple, isi_list_list, isi_dict_int, isi_dict_bool, isi_dict_str, isi_dict_tuple, isi_dict_list, hi]
        unfold mIf
        rw [hg]
        rfl
      refine this.trans ?_
      refine (bin_new (xs := [.int 2]) (ys := (dg (-i - 1).toNat).map PV.int) (ρ1 := [some (.val (.int i)), none, none, none]) (by simp [Res.bind, mSeq, mNx, mRet, mRetNm, mRetN, mIfS, mNever, mAsg, setR, setV, setO, isPar, mAug, mDrop, mAppend, mExtend, ownL?, ownO, setC, RV.lst?, mSrc, itemsOf, mOp, RV.fz, OB.pv, mBor, mNm, mK, mNew, mBin, mUn, deref, liftO, mANil, mACons, mApp, derefs, vals?, RV.val?, small, mTup, mLst, mCall, lone, avsOf, avOf, backs, findArg, back1, RV.bor?, mTest, RV.bl?, mTruth, truth, mTNot, mTAnd, mTOr, mAndV, mOrV, mNotV, mIf, mChain, mgNm, mAsgT, mgTup, mgCons, mgNil, iop, pAdd, pSub, pMul, pDiv, pMod, pNeg, pLt, pLe, pGt, pGe, pEq, pNe, pAddI, pMulS, pIs, pIsNot, isP, pIn, pNotIn, inP, flatP, cmpOk, cmpOks, eqP, eqPs, pIx, fLen, fAbs, fInt, fMin2, fMax2, fOrd, fList, fTuple, fIsi, tyName, AV.slot, runF, Res.nox, RV.out, outsOf, SV.lent, range1e, range2e, range3e, range4e, isi_NoneType_int, isi_NoneType_bool, isi_NoneType_str, isi_NoneType_tuple, isi_NoneType_list, isi_bool_int, isi_bool_bool, isi_bool_str, isi_bool_tuple, isi_bool_list, isi_int_int, isi_int_bool, isi_int_str, isi_int_tuple, isi_int_list, isi_str_int, isi_str_bool, isi_str_str, isi_str_tuple, isi_str_list, isi_tuple_int, isi_tuple_bool, isi_tuple_str, isi_tuple_tuple, isi_tuple_list, isi_list_int, isi_list_bool, isi_list_str, isi_list_tuple, isi_list_list, isi_dict_int, isi_dict_bool, isi_dict_str, isi_dict_tuple, isi_dict_list]) (call1 (p := .int (-i - 1)) (by simp [Res.bind, mSeq, mNx, mRet, mRetNm, mRetN, mIfS, mNever, mAsg, setR, setV, setO, isPar, mAug, mDrop, mAppend, mExtend, ownL?, ownO, setC, RV.lst?, mSrc, itemsOf, mOp, RV.fz, OB.pv, mBor, mNm, mK, mNew, mBin, mUn, deref, liftO, mANil, mACons, mApp, derefs, vals?, RV.val?, small, mTup, mLst, mCall, lone, avsOf, avOf, backs, findArg, back1, RV.bor?, mTest, RV.bl?, mTruth, truth, mTNot, mTAnd, mTOr, mAndV, mOrV, mNotV, mIf, mChain, mgNm, mAsgT, mgTup, mgCons, mgNil, iop, pAdd, pSub, pMul, pDiv, pMod, pNeg, pLt, pLe, pGt, pGe, pEq, pNe, pAddI, pMulS, pIs, pIsNot, isP, pIn, pNotIn, inP, flatP, cmpOk, cmpOks, eqP, eqPs, pIx, fLen, fAbs, fInt, fMin2, fMax2, fOrd, fList, fTuple, fIsi, tyName, AV.slot, runF, Res.nox, RV.out, outsOf, SV.lent, range1e, range2e, range3e, range4e, isi_NoneType_int, isi_NoneType_bool, isi_NoneType_str, isi_NoneType_tuple, isi_NoneType_list, isi_bool_int, isi_bool_bool, isi_bool_str, isi_bool_tuple, isi_bool_list, isi_int_int, isi_int_bool, isi_int_str, isi_int_tuple, isi_int_list, isi_str_int, isi_str_bool, isi_str_str, isi_str_tuple, isi_str_list, isi_tuple_int, isi_tuple_bool, isi_tuple_str, isi_tuple_tuple, isi_tuple_list, isi_list_int, isi_list_bool, isi_list_str, isi_list_tuple, isi_list_list, isi_dict_int, isi_dict_bool, isi_dict_str, isi_dict_tuple, isi_dict_list]) hc) ?_).trans rfl
      rw [List.length_cons] at hz
      exact szOk_of (by simp only [List.length_cons, List.length_map, List.length_nil]; omega)
  | str x =>
    unfold okV at ok
    rw [Bool.and_eq_true] at ok
    have hl := of_decide_eq_true ok.1
    refine run_rt (r := .new (.lst ((enc (.str x)).map PV.int))) (ρ1 := [some (.val (.str x)), none, none, none]) [some (.val (.str x)), none, none, none] rfl ?_ rfl
    refine (seq_nx (ρ1 := [some (.val (.str x)), none, none, none]) (by simp [Res.bind, mSeq, mNx, mRet, mRetNm, mRetN, mIfS, mNever, mAsg, setR, setV, setO, isPar, mAug, mDrop, mAppend, mExtend, ownL?, ownO, setC, RV.lst?, mSrc, itemsOf, mOp, RV.fz, OB.pv, mBor, mNm, mK, mNew, mBin, mUn, deref, liftO, mANil, mACons, mApp, derefs, vals?, RV.val?, small, mTup, mLst, mCall, lone, avsOf, avOf, backs, findArg, back1, RV.bor?, mTest, RV.bl?, mTruth, truth, mTNot, mTAnd, mTOr, mAndV, mOrV, mNotV, mIf, mChain, mgNm, mAsgT, mgTup, mgCons, mgNil, iop, pAdd, pSub, pMul, pDiv, pMod, pNeg, pLt, pLe, pGt, pGe, pEq, pNe, pAddI, pMulS, pIs, pIsNot, isP, pIn, pNotIn, inP, flatP, cmpOk, cmpOks, eqP, eqPs, pIx, fLen, fAbs, fInt, fMin2, fMax2, fOrd, fList, fTuple, fIsi, tyName, AV.slot, runF, Res.nox, RV.out, outsOf, SV.lent, range1e, range2e, range3e, range4e, isi_NoneType_int, isi_NoneType_bool, isi_NoneType_str, isi_NoneType_tuple, isi_NoneType_list, isi_bool_int, isi_bool_bool, isi_bool_str, isi_bool_tuple, isi_bool_list, isi_int_int, isi_int_bool, isi_int_str, isi_int_tuple, isi_int_list, isi_str_int, isi_str_bool, isi_str_str, isi_str_tuple, isi_str_list, isi_tuple_int, isi_tuple_bool, isi_tuple_str, isi_tuple_tuple, isi_tuple_list, isi_list_int, isi_list_bool, isi_list_str, isi_list_tuple, isi_list_list, isi_dict_int, isi_dict_bool, isi_dict_str, isi_dict_tuple, isi_dict_list])).trans ?_
    refine (seq_nx (ρ1 := [some (.val (.str x)), none, none, none]) (by simp [Res.bind, mSeq, mNx, mRet, mRetNm, mRetN, mIfS, mNever, mAsg, setR, setV, setO, isPar, mAug, mDrop, mAppend, mExtend, ownL?, ownO, setC, RV.lst?, mSrc, itemsOf, mOp, RV.fz, OB.pv, mBor, mNm, mK, mNew, mBin, mUn, deref, liftO, mANil, mACons, mApp, derefs, vals?, RV.val?, small, mTup, mLst, mCall, lone, avsOf, avOf, backs, findArg, back1, RV.bor?, mTest, RV.bl?, mTruth, truth, mTNot, mTAnd, mTOr, mAndV, mOrV, mNotV, mIf, mChain, mgNm, mAsgT, mgTup, mgCons, mgNil, iop, pAdd, pSub, pMul, pDiv, pMod, pNeg, pLt, pLe, pGt, pGe, pEq, pNe, pAddI, pMulS, pIs, pIsNot, isP, pIn, pNotIn, inP, flatP, cmpOk, cmpOks, eqP, eqPs, pIx, fLen, fAbs, fInt, fMin2, fMax2, fOrd, fList, fTuple, fIsi, tyName, AV.slot, runF, Res.nox, RV.out, outsOf, SV.lent, range1e, range2e, range3e, range4e, isi_NoneType_int, isi_NoneType_bool, isi_NoneType_str, isi_NoneType_tuple, isi_NoneType_list, isi_bool_int, isi_bool_bool, isi_bool_str, isi_bool_tuple, isi_bool_list, isi_int_int, isi_int_bool, isi_int_str, isi_int_tuple, isi_int_list, isi_str_int, isi_str_bool, isi_str_str, isi_str_tuple, isi_str_list, isi_tuple_int, isi_tuple_bool, isi_tuple_str, isi_tuple_tuple, isi_tuple_list, isi_list_int, isi_list_bool, isi_list_str, isi_list_tuple, isi_list_list, isi_dict_int, isi_dict_bool, isi_dict_str, isi_dict_tuple, isi_dict_list])).trans ?_
    refine (seq_nx (ρ1 := [some (.val (.str x)), none, none, none]) (by simp [Res.bind, mSeq, mNx, mRet, mRetNm, mRetN, mIfS, mNever, mAsg, setR, setV, setO, isPar, mAug, mDrop, mAppend, mExtend, ownL?, ownO, setC, RV.lst?, mSrc, itemsOf, mOp, RV.fz, OB.pv, mBor, mNm, mK, mNew, mBin, mUn, deref, liftO, mANil, mACons, mApp, derefs, vals?, RV.val?, small, mTup, mLst, mCall, lone, avsOf, avOf, backs, findArg, back1, RV.bor?, mTest, RV.bl?, mTruth, truth, mTNot, mTAnd, mTOr, mAndV, mOrV, mNotV, mIf, mChain, mgNm, mAsgT, mgTup, mgCons, mgNil, iop, pAdd, pSub, pMul, pDiv, pMod, pNeg, pLt, pLe, pGt, pGe, pEq, pNe, pAddI, pMulS, pIs, pIsNot, isP, pIn, pNotIn, inP, flatP, cmpOk, cmpOks, eqP, eqPs, pIx, fLen, fAbs, fInt, fMin2, fMax2, fOrd, fList, fTuple, fIsi, tyName, AV.slot, runF, Res.nox, RV.out, outsOf, SV.lent, range1e, range2e, range3e, range4e, isi_NoneType_int, isi_NoneType_bool, isi_NoneType_str, isi_NoneType_tuple, isi_NoneType_list, isi_bool_int, isi_bool_bool, isi_bool_str, isi_bool_tuple, isi_bool_list, isi_int_int, isi_int_bool, isi_int_str, isi_int_tuple, isi_int_list, isi_str_int, isi_str_bool, isi_str_str, isi_str_tuple, isi_str_list, isi_tuple_int, isi_tuple_bool, isi_tuple_str, isi_tuple_tuple, isi_tuple_list, isi_list_int, isi_list_bool, isi_list_str, isi_list_tuple, isi_list_list, isi_dict_int, isi_dict_bool, isi_dict_str, isi_dict_tuple, isi_dict_list])).trans ?_
    refine (seq_nx (ρ1 := [some (.val (.str x)), none, none, none]) (by simp [Res.bind, mSeq, mNx, mRet, mRetNm, mRetN, mIfS, mNever, mAsg, setR, setV, setO, isPar, mAug, mDrop, mAppend, mExtend, ownL?, ownO, setC, RV.lst?, mSrc, itemsOf, mOp, RV.fz, OB.pv, mBor, mNm, mK, mNew, mBin, mUn, deref, liftO, mANil, mACons, mApp, derefs, vals?, RV.val?, small, mTup, mLst, mCall, lone, avsOf, avOf, backs, findArg, back1, RV.bor?, mTest, RV.bl?, mTruth, truth, mTNot, mTAnd, mTOr, mAndV, mOrV, mNotV, mIf, mChain, mgNm, mAsgT, mgTup, mgCons, mgNil, iop, pAdd, pSub, pMul, pDiv, pMod, pNeg, pLt, pLe, pGt, pGe, pEq, pNe, pAddI, pMulS, pIs, pIsNot, isP, pIn, pNotIn, inP, flatP, cmpOk, cmpOks, eqP, eqPs, pIx, fLen, fAbs, fInt, fMin2, fMax2, fOrd, fList, fTuple, fIsi, tyName, AV.slot, runF, Res.nox, RV.out, outsOf, SV.lent, range1e, range2e, range3e, range4e, isi_NoneType_int, isi_NoneType_bool, isi_NoneType_str, isi_NoneType_tuple, isi_NoneType_list, isi_bool_int, isi_bool_bool, isi_bool_str, isi_bool_tuple, isi_bool_list, isi_int_int, isi_int_bool, isi_int_str, isi_int_tuple, isi_int_list, isi_str_int, isi_str_bool, isi_str_str, isi_str_tuple, isi_str_list, isi_tuple_int, isi_tuple_bool, isi_tuple_str, isi_tuple_tuple, isi_tuple_list, isi_list_int, isi_list_bool, isi_list_str, isi_list_tuple, isi_list_list, isi_dict_int, isi_dict_bool, isi_dict_str, isi_dict_tuple, isi_dict_list])).trans ?_
    refine seq_rt ?_
    refine (ifs_t (ρ1 := [some (.val (.str x)), none, none, none]) (by simp [Res.bind, mSeq, mNx, mRet, mRetNm, mRetN, mIfS, mNever, mAsg, setR, setV, setO, isPar, mAug, mDrop, mAppend, mExtend, ownL?, ownO, setC, RV.lst?, mSrc, itemsOf, mOp, RV.fz, OB.pv, mBor, mNm, mK, mNew, mBin, mUn, deref, liftO, mANil, mACons, mApp, derefs, vals?, RV.val?, small, mTup, mLst, mCall, lone, avsOf, avOf, backs, findArg, back1, RV.bor?, mTest, RV.bl?, mTruth, truth, mTNot, mTAnd, mTOr, mAndV, mOrV, mNotV, mIf, mChain, mgNm, mAsgT, mgTup, mgCons, mgNil, iop, pAdd, pSub, pMul, pDiv, pMod, pNeg, pLt, pLe, pGt, pGe, pEq, pNe, pAddI, pMulS, pIs, pIsNot, isP, pIn, pNotIn, inP, flatP, cmpOk, cmpOks, eqP, eqPs, pIx, fLen, fAbs, fInt, fMin2, fMax2, fOrd, fList, fTuple, fIsi, tyName, AV.slot, runF, Res.nox, RV.out, outsOf, SV.lent, range1e, range2e, range3e, range4e, isi_NoneType_int, isi_NoneType_bool, isi_NoneType_str, isi_NoneType_tuple, isi_NoneType_list, isi_bool_int, isi_bool_bool, isi_bool_str, isi_bool_tuple, isi_bool_list, isi_int_int, isi_int_bool, isi_int_str, isi_int_tuple, isi_int_list, isi_str_int, isi_str_bool, isi_str_str, isi_str_tuple, isi_str_list, isi_tuple_int, isi_tuple_bool, isi_tuple_str, isi_tuple_tuple, isi_tuple_list, isi_list_int, isi_list_bool, isi_list_str, isi_list_tuple, isi_list_list, isi_dict_int, isi_dict_bool, isi_dict_str, isi_dict_tuple, isi_dict_list])).trans ?_
    refine ret_of ?_
    have hlen : (enc (.str x)).length = 1 + (dg x.length).length + (ords x).length := by
      unfold enc ords
      simp
      omega
    have hc := hd x.length (by have := small950; omega)
    have sz : szOk x.length = true := by simp [szOk]; omega
    refine (bin_new (xs := [.int 3] ++ (dg x.length).map PV.int) (ys := (ords x).map PV.int) (ρ1 := [some (.val (.str x)), none, none, none]) (bin_new (xs := [.int 3]) (ρ1 := [some (.val (.str x)), none, none, none]) (by simp [Res.bind, mSeq, mNx, mRet, mRetNm, mRetN, mIfS, mNever, mAsg, setR, setV, setO, isPar, mAug, mDrop, mAppend, mExtend, ownL?, ownO, setC, RV.lst?, mSrc, itemsOf, mOp, RV.fz, OB.pv, mBor, mNm, mK, mNew, mBin, mUn, deref, liftO, mANil, mACons, mApp, derefs, vals?, RV.val?, small, mTup, mLst, mCall, lone, avsOf, avOf, backs, findArg, back1, RV.bor?, mTest, RV.bl?, mTruth, truth, mTNot, mTAnd, mTOr, mAndV, mOrV, mNotV, mIf, mChain, mgNm, mAsgT, mgTup, mgCons, mgNil, iop, pAdd, pSub, pMul, pDiv, pMod, pNeg, pLt, pLe, pGt, pGe, pEq, pNe, pAddI, pMulS, pIs, pIsNot, isP, pIn, pNotIn, inP, flatP, cmpOk, cmpOks, eqP, eqPs, pIx, fLen, fAbs, fInt, fMin2, fMax2, fOrd, fList, fTuple, fIsi, tyName, AV.slot, runF, Res.nox, RV.out, outsOf, SV.lent, range1e, range2e, range3e, range4e, isi_NoneType_int, isi_NoneType_bool, isi_NoneType_str, isi_NoneType_tuple, isi_NoneType_list, isi_bool_int, isi_bool_bool, isi_bool_str, isi_bool_tuple, isi_bool_list, isi_int_int, isi_int_bool, isi_int_str, isi_int_tuple, isi_int_list, isi_str_int, isi_str_bool, isi_str_str, isi_str_tuple, isi_str_list, isi_tuple_int, isi_tuple_bool, isi_tuple_str, isi_tuple_tuple, isi_tuple_list, isi_list_int, isi_list_bool, isi_list_str, isi_list_tuple, isi_list_list, isi_dict_int, isi_dict_bool, isi_dict_str, isi_dict_tuple, isi_dict_list]) (call1 (p := .int x.length) (by simp [Res.bind, mSeq, mNx, mRet, mRetNm, mRetN, mIfS, mNever, mAsg, setR, setV, setO, isPar, mAug, mDrop, mAppend, mExtend, ownL?, ownO, setC, RV.lst?, mSrc, itemsOf, mOp, RV.fz, OB.pv, mBor, mNm, mK, mNew, mBin, mUn, deref, liftO, mANil, mACons, mApp, derefs, vals?, RV.val?, small, mTup, mLst, mCall, lone, avsOf, avOf, backs, findArg, back1, RV.bor?, mTest, RV.bl?, mTruth, truth, mTNot, mTAnd, mTOr, mAndV, mOrV, mNotV, mIf, mChain, mgNm, mAsgT, mgTup, mgCons, mgNil, iop, pAdd, pSub, pMul, pDiv, pMod, pNeg, pLt, pLe, pGt, pGe, pEq, pNe, pAddI, pMulS, pIs, pIsNot, isP, pIn, pNotIn, inP, flatP, cmpOk, cmpOks, eqP, eqPs, pIx, fLen, fAbs, fInt, fMin2, fMax2, fOrd, fList, fTuple, fIsi, tyName, AV.slot, runF, Res.nox, RV.out, outsOf, SV.lent, range1e, range2e, range3e, range4e, isi_NoneType_int, isi_NoneType_bool, isi_NoneType_str, isi_NoneType_tuple, isi_NoneType_list, isi_bool_int, isi_bool_bool, isi_bool_str, isi_bool_tuple, isi_bool_list, isi_int_int, isi_int_bool, isi_int_str, isi_int_tuple, isi_int_list, isi_str_int, isi_str_bool, isi_str_str, isi_str_tuple, isi_str_list, isi_tuple_int, isi_tuple_bool, isi_tuple_str, isi_tuple_tuple, isi_tuple_list, isi_list_int, isi_list_bool, isi_list_str, isi_list_tuple, isi_list_list, isi_dict_int, isi_dict_bool, isi_dict_str, isi_dict_tuple, isi_dict_list, sz]) hc) ?_) (ord_lc x (by omega) none none) ?_).trans ?_
    · exact szOk_of (by simp only [List.length_cons, List.length_map, List.length_append, List.length_nil]; omega)
    · exact szOk_of (by simp only [List.length_cons, List.length_map, List.length_append, List.length_nil]; omega)
    · unfold enc ords
      simp
  | tup xs =>
    cases n with
    | zero => unfold okV at ok; cases ok
    | succ n =>
      unfold okV at ok
      rw [Bool.and_eq_true] at ok
      have hl := of_decide_eq_true ok.1
      have hc := hd xs.length (by have := small950; omega)
      have hlen : (enc (.tup xs)).length = 1 + (dg xs.length).length + (encs xs).length := by
        unfold enc
        simp
        omega
      obtain ⟨tv', e⟩ := laid_loop (t := t) (.tup xs) xs (4 :: dg xs.length) none (hx xs rfl) (by rw [List.length_cons]; omega)
      refine run_rt (r := .new (.lst ((enc (.tup xs)).map PV.int))) (ρ1 := [some (.val (.tup xs)), none, tv'.map SV.val, none]) [some (.val (.tup xs)), none, none, none] rfl ?_ rfl
      refine (seq_nx (ρ1 := [some (.val (.tup xs)), none, none, none]) (by simp [Res.bind, mSeq, mNx, mRet, mRetNm, mRetN, mIfS, mNever, mAsg, setR, setV, setO, isPar, mAug, mDrop, mAppend, mExtend, ownL?, ownO, setC, RV.lst?, mSrc, itemsOf, mOp, RV.fz, OB.pv, mBor, mNm, mK, mNew, mBin, mUn, deref, liftO, mANil, mACons, mApp, derefs, vals?, RV.val?, small, mTup, mLst, mCall, lone, avsOf, avOf, backs, findArg, back1, RV.bor?, mTest, RV.bl?, mTruth, truth, mTNot, mTAnd, mTOr, mAndV, mOrV, mNotV, mIf, mChain, mgNm, mAsgT, mgTup, mgCons, mgNil, iop, pAdd, pSub, pMul, pDiv, pMod, pNeg, pLt, pLe, pGt, pGe, pEq, pNe, pAddI, pMulS, pIs, pIsNot, isP, pIn, pNotIn, inP, flatP, cmpOk, cmpOks, eqP, eqPs, pIx, fLen, fAbs, fInt, fMin2, fMax2, fOrd, fList, fTuple, fIsi, tyName, AV.slot, runF, Res.nox, RV.out, outsOf, SV.lent, range1e, range2e, range3e, range4e, isi_NoneType_int, isi_NoneType_bool, isi_NoneType_str, isi_NoneType_tuple, isi_NoneType_list, isi_bool_int, isi_bool_bool, isi_bool_str, isi_bool_tuple, isi_bool_list, isi_int_int, isi_int_bool, isi_int_str, isi_int_tuple, isi_int_list, isi_str_int, isi_str_bool, isi_str_str, isi_str_tuple, isi_str_list, isi_tuple_int, isi_tuple_bool, isi_tuple_str, isi_tuple_tuple, isi_tuple_list, isi_list_int, isi_list_bool, isi_list_str, isi_list_tuple, isi_list_list, isi_dict_int, isi_dict_bool, isi_dict_str, isi_dict_tuple, isi_dict_list])).trans ?_
      refine (seq_nx (ρ1 := [some (.val (.tup xs)), none, none, none]) (by simp [Res.bind, mSeq, mNx, mRet, mRetNm, mRetN, mIfS, mNever, mAsg, setR, setV, setO, isPar, mAug, mDrop, mAppend, mExtend, ownL?, ownO, setC, RV.lst?, mSrc, itemsOf, mOp, RV.fz, OB.pv, mBor, mNm, mK, mNew, mBin, mUn, deref, liftO, mANil, mACons, mApp, derefs, vals?, RV.val?, small, mTup, mLst, mCall, lone, avsOf, avOf, backs, findArg, back1, RV.bor?, mTest, RV.bl?, mTruth, truth, mTNot, mTAnd, mTOr, mAndV, mOrV, mNotV, mIf, mChain, mgNm, mAsgT, mgTup, mgCons, mgNil, iop, pAdd, pSub, pMul, pDiv, pMod, pNeg, pLt, pLe, pGt, pGe, pEq, pNe, pAddI, pMulS, pIs, pIsNot, isP, pIn, pNotIn, inP, flatP, cmpOk, cmpOks, eqP, eqPs, pIx, fLen, fAbs, fInt, fMin2, fMax2, fOrd, fList, fTuple, fIsi, tyName, AV.slot, runF, Res.nox, RV.out, outsOf, SV.lent, range1e, range2e, range3e, range4e, isi_NoneType_int, isi_NoneType_bool, isi_NoneType_str, isi_NoneType_tuple, isi_NoneType_list, isi_bool_int, isi_bool_bool, isi_bool_str, isi_bool_tuple, isi_bool_list, isi_int_int, isi_int_bool, isi_int_str, isi_int_tuple, isi_int_list, isi_str_int, isi_str_bool, isi_str_str, isi_str_tuple, isi_str_list, isi_tuple_int, isi_tuple_bool, isi_tuple_str, isi_tuple_tuple, isi_tuple_list, isi_list_int, isi_list_bool, isi_list_str, isi_list_tuple, isi_list_list, isi_dict_int, isi_dict_bool, isi_dict_str, isi_dict_tuple, isi_dict_list])).trans ?_
      refine (seq_nx (ρ1 := [some (.val (.tup xs)), none, none, none]) (by simp [Res.bind, mSeq, mNx, mRet, mRetNm, mRetN, mIfS, mNever, mAsg, setR, setV, setO, isPar, mAug, mDrop, mAppend, mExtend, ownL?, ownO, setC, RV.lst?, mSrc, itemsOf, mOp, RV.fz, OB.pv, mBor, mNm, mK, mNew, mBin, mUn, deref, liftO, mANil, mACons, mApp, derefs, vals?, RV.val?, small, mTup, mLst, mCall, lone, avsOf, avOf, backs, findArg, back1, RV.bor?, mTest, RV.bl?, mTruth, truth, mTNot, mTAnd, mTOr, mAndV, mOrV, mNotV, mIf, mChain, mgNm, mAsgT, mgTup, mgCons, mgNil, iop, pAdd, pSub, pMul, pDiv, pMod, pNeg, pLt, pLe, pGt, pGe, pEq, pNe, pAddI, pMulS, pIs, pIsNot, isP, pIn, pNotIn, inP, flatP, cmpOk, cmpOks, eqP, eqPs, pIx, fLen, fAbs, fInt, fMin2, fMax2, fOrd, fList, fTuple, fIsi, tyName, AV.slot, runF, Res.nox, RV.out, outsOf, SV.lent, range1e, range2e, range3e, range4e, isi_NoneType_int, isi_NoneType_bool, isi_NoneType_str, isi_NoneType_tuple, isi_NoneType_list, isi_bool_int, isi_bool_bool, isi_bool_str, isi_bool_tuple, isi_bool_list, isi_int_int, isi_int_bool, isi_int_str, isi_int_tuple, isi_int_list, isi_str_int, isi_str_bool, isi_str_str, isi_str_tuple, isi_str_list, isi_tuple_int, isi_tuple_bool, isi_tuple_str, isi_tuple_tuple, isi_tuple_list, isi_list_int, isi_list_bool, isi_list_str, isi_list_tuple, isi_list_list, isi_dict_int, isi_dict_bool, isi_dict_str, isi_dict_tuple, isi_dict_list])).trans ?_
      refine (seq_nx (ρ1 := [some (.val (.tup xs)), none, none, none]) (by simp [Res.bind, mSeq, mNx, mRet, mRetNm, mRetN, mIfS, mNever, mAsg, setR, setV, setO, isPar, mAug, mDrop, mAppend, mExtend, ownL?, ownO, setC, RV.lst?, mSrc, itemsOf, mOp, RV.fz, OB.pv, mBor, mNm, mK, mNew, mBin, mUn, deref, liftO, mANil, mACons, mApp, derefs, vals?, RV.val?, small, mTup, mLst, mCall, lone, avsOf, avOf, backs, findArg, back1, RV.bor?, mTest, RV.bl?, mTruth, truth, mTNot, mTAnd, mTOr, mAndV, mOrV, mNotV, mIf, mChain, mgNm, mAsgT, mgTup, mgCons, mgNil, iop, pAdd, pSub, pMul, pDiv, pMod, pNeg, pLt, pLe, pGt, pGe, pEq, pNe, pAddI, pMulS, pIs, pIsNot, isP, pIn, pNotIn, inP, flatP, cmpOk, cmpOks, eqP, eqPs, pIx, fLen, fAbs, fInt, fMin2, fMax2, fOrd, fList, fTuple, fIsi, tyName, AV.slot, runF, Res.nox, RV.out, outsOf, SV.lent, range1e, range2e, range3e, range4e, isi_NoneType_int, isi_NoneType_bool, isi_NoneType_str, isi_NoneType_tuple, isi_NoneType_list, isi_bool_int, isi_bool_bool, isi_bool_str, isi_bool_tuple, isi_bool_list, isi_int_int, isi_int_bool, isi_int_str, isi_int_tuple, isi_int_list, isi_str_int, isi_str_bool, isi_str_str, isi_str_tuple, isi_str_list, isi_tuple_int, isi_tuple_bool, isi_tuple_str, isi_tuple_tuple, isi_tuple_list, isi_list_int, isi_list_bool, isi_list_str, isi_list_tuple, isi_list_list, isi_dict_int, isi_dict_bool, isi_dict_str, isi_dict_tuple, isi_dict_list])).trans ?_
      refine (seq_nx (ρ1 := [some (.val (.tup xs)), none, none, none]) (by simp [Res.bind, mSeq, mNx, mRet, mRetNm, mRetN, mIfS, mNever, mAsg, setR, setV, setO, isPar, mAug, mDrop, mAppend, mExtend, ownL?, ownO, setC, RV.lst?, mSrc, itemsOf, mOp, RV.fz, OB.pv, mBor, mNm, mK, mNew, mBin, mUn, deref, liftO, mANil, mACons, mApp, derefs, vals?, RV.val?, small, mTup, mLst, mCall, lone, avsOf, avOf, backs, findArg, back1, RV.bor?, mTest, RV.bl?, mTruth, truth, mTNot, mTAnd, mTOr, mAndV, mOrV, mNotV, mIf, mChain, mgNm, mAsgT, mgTup, mgCons, mgNil, iop, pAdd, pSub, pMul, pDiv, pMod, pNeg, pLt, pLe, pGt, pGe, pEq, pNe, pAddI, pMulS, pIs, pIsNot, isP, pIn, pNotIn, inP, flatP, cmpOk, cmpOks, eqP, eqPs, pIx, fLen, fAbs, fInt, fMin2, fMax2, fOrd, fList, fTuple, fIsi, tyName, AV.slot, runF, Res.nox, RV.out, outsOf, SV.lent, range1e, range2e, range3e, range4e, isi_NoneType_int, isi_NoneType_bool, isi_NoneType_str, isi_NoneType_tuple, isi_NoneType_list, isi_bool_int, isi_bool_bool, isi_bool_str, isi_bool_tuple, isi_bool_list, isi_int_int, isi_int_bool, isi_int_str, isi_int_tuple, isi_int_list, isi_str_int, isi_str_bool, isi_str_str, isi_str_tuple, isi_str_list, isi_tuple_int, isi_tuple_bool, isi_tuple_str, isi_tuple_tuple, isi_tuple_list, isi_list_int, isi_list_bool, isi_list_str, isi_list_tuple, isi_list_list, isi_dict_int, isi_dict_bool, isi_dict_str, isi_dict_tuple, isi_dict_list])).trans ?_
      refine (seq_nx (ρ1 := [some (.val (.tup xs)), some (.own (.lst ((4 :: dg xs.length).map PV.int))), none, none]) (asg_of (ρ1 := [some (.val (.tup xs)), none, none, none]) (r := .new (.lst ([.int 4] ++ (dg xs.length).map PV.int))) (bin_new (ρ1 := [some (.val (.tup xs)), none, none, none]) (by simp [Res.bind, mSeq, mNx, mRet, mRetNm, mRetN, mIfS, mNever, mAsg, setR, setV, setO, isPar, mAug, mDrop, mAppend, mExtend, ownL?, ownO, setC, RV.lst?, mSrc, itemsOf, mOp, RV.fz, OB.pv, mBor, mNm, mK, mNew, mBin, mUn, deref, liftO, mANil, mACons, mApp, derefs, vals?, RV.val?, small, mTup, mLst, mCall, lone, avsOf, avOf, backs, findArg, back1, RV.bor?, mTest, RV.bl?, mTruth, truth, mTNot, mTAnd, mTOr, mAndV, mOrV, mNotV, mIf, mChain, mgNm, mAsgT, mgTup, mgCons, mgNil, iop, pAdd, pSub, pMul, pDiv, pMod, pNeg, pLt, pLe, pGt, pGe, pEq, pNe, pAddI, pMulS, pIs, pIsNot, isP, pIn, pNotIn, inP, flatP, cmpOk, cmpOks, eqP, eqPs, pIx, fLen, fAbs, fInt, fMin2, fMax2, fOrd, fList, fTuple, fIsi, tyName, AV.slot, runF, Res.nox, RV.out, outsOf, SV.lent, range1e, range2e, range3e, range4e, isi_NoneType_int, isi_NoneType_bool, isi_NoneType_str, isi_NoneType_tuple, isi_NoneType_list, isi_bool_int, isi_bool_bool, isi_bool_str, isi_bool_tuple, isi_bool_list, isi_int_int, isi_int_bool, isi_int_str, isi_int_tuple, isi_int_list, isi_str_int, isi_str_bool, isi_str_str, isi_str_tuple, isi_str_list, isi_tuple_int, isi_tuple_bool, isi_tuple_str, isi_tuple_tuple, isi_tuple_list, isi_list_int, isi_list_bool, isi_list_str, isi_list_tuple, isi_list_list, isi_dict_int, isi_dict_bool, isi_dict_str, isi_dict_tuple, isi_dict_list]) (call1 (p := .int xs.length) (by simp [Res.bind, mSeq, mNx, mRet, mRetNm, mRetN, mIfS, mNever, mAsg, setR, setV, setO, isPar, mAug, mDrop, mAppend, mExtend, ownL?, ownO, setC, RV.lst?, mSrc, itemsOf, mOp, RV.fz, OB.pv, mBor, mNm, mK, mNew, mBin, mUn, deref, liftO, mANil, mACons, mApp, derefs, vals?, RV.val?, small, mTup, mLst, mCall, lone, avsOf, avOf, backs, findArg, back1, RV.bor?, mTest, RV.bl?, mTruth, truth, mTNot, mTAnd, mTOr, mAndV, mOrV, mNotV, mIf, mChain, mgNm, mAsgT, mgTup, mgCons, mgNil, iop, pAdd, pSub, pMul, pDiv, pMod, pNeg, pLt, pLe, pGt, pGe, pEq, pNe, pAddI, pMulS, pIs, pIsNot, isP, pIn, pNotIn, inP, flatP, cmpOk, cmpOks, eqP, eqPs, pIx, fLen, fAbs, fInt, fMin2, fMax2, fOrd, fList, fTuple, fIsi, tyName, AV.slot, runF, Res.nox, RV.out, outsOf, SV.lent, range1e, range2e, range3e, range4e, isi_NoneType_int, isi_NoneType_bool, isi_NoneType_str, isi_NoneType_tuple, isi_NoneType_list, isi_bool_int, isi_bool_bool, isi_bool_str, isi_bool_tuple, isi_bool_list, isi_int_int, isi_int_bool, isi_int_str, isi_int_tuple, isi_int_list, isi_str_int, isi_str_bool, isi_str_str, isi_str_tuple, isi_str_list, isi_tuple_int, isi_tuple_bool, isi_tuple_str, isi_tuple_tuple, isi_tuple_list, isi_list_int, isi_list_bool, isi_list_str, isi_list_tuple, isi_list_list, isi_dict_int, isi_dict_bool, isi_dict_str, isi_dict_tuple, isi_dict_list]) hc) ?_) (by simp [Res.bind, mSeq, mNx, mRet, mRetNm, mRetN, mIfS, mNever, mAsg, setR, setV, setO, isPar, mAug, mDrop, mAppend, mExtend, ownL?, ownO, setC, RV.lst?, mSrc, itemsOf, mOp, RV.fz, OB.pv, mBor, mNm, mK, mNew, mBin, mUn, deref, liftO, mANil, mACons, mApp, derefs, vals?, RV.val?, small, mTup, mLst, mCall, lone, avsOf, avOf, backs, findArg, back1, RV.bor?, mTest, RV.bl?, mTruth, truth, mTNot, mTAnd, mTOr, mAndV, mOrV, mNotV, mIf, mChain, mgNm, mAsgT, mgTup, mgCons, mgNil, iop, pAdd, pSub, pMul, pDiv, pMod, pNeg, pLt, pLe, pGt, pGe, pEq, pNe, pAddI, pMulS, pIs, pIsNot, isP, pIn, pNotIn, inP, flatP, cmpOk, cmpOks, eqP, eqPs, pIx, fLen, fAbs, fInt, fMin2, fMax2, fOrd, fList, fTuple, fIsi, tyName, AV.slot, runF, Res.nox, RV.out, outsOf, SV.lent, range1e, range2e, range3e, range4e, isi_NoneType_int, isi_NoneType_bool, isi_NoneType_str, isi_NoneType_tuple, isi_NoneType_list, isi_bool_int, isi_bool_bool, isi_bool_str, isi_bool_tuple, isi_bool_list, isi_int_int, isi_int_bool, isi_int_str, isi_int_tuple, isi_int_list, isi_str_int, isi_str_bool, isi_str_str, isi_str_tuple, isi_str_list, isi_tuple_int, isi_tuple_bool, isi_tuple_str, isi_tuple_tuple, isi_tuple_list, isi_list_int, isi_list_bool, isi_list_str, isi_list_tuple, isi_list_list, isi_dict_int, isi_dict_bool, isi_dict_str, isi_dict_tuple, isi_dict_list]))).trans ?_
      · exact szOk_of (by simp only [List.length_cons, List.length_map, List.length_append, List.length_nil]; omega)
      · refine (seq_nx ?_).trans (show mRetNm 1 [some (.val (.tup xs)), some (.own (.lst ((4 :: dg xs.length ++ encs xs).map PV.int))), tv'.map SV.val, none] = _ from ?_)
        · exact (mfor_of (xs := xs) (ρ1 := [some (.val (.tup xs)), some (.own (.lst ((4 :: dg xs.length).map PV.int))), none, none]) (by simp [Res.bind, mSeq, mNx, mRet, mRetNm, mRetN, mIfS, mNever, mAsg, setR, setV, setO, isPar, mAug, mDrop, mAppend, mExtend, ownL?, ownO, setC, RV.lst?, mSrc, itemsOf, mOp, RV.fz, OB.pv, mBor, mNm, mK, mNew, mBin, mUn, deref, liftO, mANil, mACons, mApp, derefs, vals?, RV.val?, small, mTup, mLst, mCall, lone, avsOf, avOf, backs, findArg, back1, RV.bor?, mTest, RV.bl?, mTruth, truth, mTNot, mTAnd, mTOr, mAndV, mOrV, mNotV, mIf, mChain, mgNm, mAsgT, mgTup, mgCons, mgNil, iop, pAdd, pSub, pMul, pDiv, pMod, pNeg, pLt, pLe, pGt, pGe, pEq, pNe, pAddI, pMulS, pIs, pIsNot, isP, pIn, pNotIn, inP, flatP, cmpOk, cmpOks, eqP, eqPs, pIx, fLen, fAbs, fInt, fMin2, fMax2, fOrd, fList, fTuple, fIsi, tyName, AV.slot, runF, Res.nox, RV.out, outsOf, SV.lent, range1e, range2e, range3e, range4e, isi_NoneType_int, isi_NoneType_bool, isi_NoneType_str, isi_NoneType_tuple, isi_NoneType_list, isi_bool_int, isi_bool_bool, isi_bool_str, isi_bool_tuple, isi_bool_list, isi_int_int, isi_int_bool, isi_int_str, isi_int_tuple, isi_int_list, isi_str_int, isi_str_bool, isi_str_str, isi_str_tuple, isi_str_list, isi_tuple_int, isi_tuple_bool, isi_tuple_str, isi_tuple_tuple, isi_tuple_list, isi_list_int, isi_list_bool, isi_list_str, isi_list_tuple, isi_list_list, isi_dict_int, isi_dict_bool, isi_dict_str, isi_dict_tuple, isi_dict_list])).trans e
        · simp [Res.bind, mSeq, mNx, mRet, mRetNm, mRetN, mIfS, mNever, mAsg, setR, setV, setO, isPar, mAug, mDrop, mAppend, mExtend, ownL?, ownO, setC, RV.lst?, mSrc, itemsOf, mOp, RV.fz, OB.pv, mBor, mNm, mK, mNew, mBin, mUn, deref, liftO, mANil, mACons, mApp, derefs, vals?, RV.val?, small, mTup, mLst, mCall, lone, avsOf, avOf, backs, findArg, back1, RV.bor?, mTest, RV.bl?, mTruth, truth, mTNot, mTAnd, mTOr, mAndV, mOrV, mNotV, mIf, mChain, mgNm, mAsgT, mgTup, mgCons, mgNil, iop, pAdd, pSub, pMul, pDiv, pMod, pNeg, pLt, pLe, pGt, pGe, pEq, pNe, pAddI, pMulS, pIs, pIsNot, isP, pIn, pNotIn, inP, flatP, cmpOk, cmpOks, eqP, eqPs, pIx, fLen, fAbs, fInt, fMin2, fMax2, fOrd, fList, fTuple, fIsi, tyName, AV.slot, runF, Res.nox, RV.out, outsOf, SV.lent, range1e, range2e, range3e, range4e, isi_NoneType_int, isi_NoneType_bool, isi_NoneType_str, isi_NoneType_tuple, isi_NoneType_list, isi_bool_int, isi_bool_bool, isi_bool_str, isi_bool_tuple, isi_bool_list, isi_int_int, isi_int_bool, isi_int_str, isi_int_tuple, isi_int_list, isi_str_int, isi_str_bool, isi_str_str, isi_str_tuple, isi_str_list, isi_tuple_int, isi_tuple_bool, isi_tuple_str, isi_tuple_tuple, isi_tuple_list, isi_list_int, isi_list_bool, isi_list_str, isi_list_tuple, isi_list_list, isi_dict_int, isi_dict_bool, isi_dict_str, isi_dict_tuple, isi_dict_list, enc]
  | _ => unfold okV at ok; cases ok
abbrev T (C : Addr) (n : Nat) : Tb := tbl C n
theorem dig_T (n : Nat) : DigOk (T C (n + 1)).digits_of := fun k h => digits_of_ok (Nat.lt_trans h pow950')
theorem okVs_mem {n : Nat} : ∀ {xs : List PV}, okVs n xs = true → ∀ x ∈ xs, okV n x = true
  | [], _, x, h => by cases h
  | y :: ys, ok, x, h => by
    unfold okVs at ok
    rw [Bool.and_eq_true] at ok
    rcases List.mem_cons.mp h with rfl | h
    · exact ok.1
    · exact okVs_mem ok.2 x h
theorem encs_mem : ∀ {xs : List PV}, ∀ x ∈ xs, (enc x).length ≤ (encs xs).length
  | [], x, h => by cases h
  | y :: ys, x, h => by
    unfold encs
    rw [List.length_append]
    rcases List.mem_cons.mp h with rfl | h
    · omega
    · have := encs_mem x h
      omega
theorem laid_T : ∀ (n j : Nat) (v : PV), okV n v = true → (enc v).length ≤ 16777216 → (T C (n + j + 2)).laid [.val v] = .ok (.new (.lst ((enc v).map PV.int)), [none])
  | 0, j, v, ok, hz => laid_step (dig_T (0 + j)) 0 v ok hz fun xs e => by subst e; unfold okV at ok; cases ok
  | n + 1, j, v, ok, hz => by
    have e : n + 1 + j + 2 = (n + j + 2) + 1 := by omega
    rw [e]
    refine laid_step (dig_T (n + j + 1)) (n + 1) v ok hz fun xs e x hx => ?_
    subst e
    unfold okV at ok
    rw [Bool.and_eq_true] at ok
    unfold enc at hz
    rw [List.length_cons, List.length_append] at hz
    have := encs_mem x hx
    exact laid_T n j x (okVs_mem ok.2 x hx) (by omega)
/-! ### like itself -/
def sortOf : PV → Int
  | .non => 0
  | .bl _ => 1
  | .int _ => 2
  | .str _ => 3
  | .tup _ => 4
  | .lst _ => 5
  | _ => 6
mutual
def lk : Nat → PV → Bool
  | _, .non => true
  | _, .bl _ => true
  | _, .int _ => true
  | _, .str x => PyData.strOk x
  | n + 1, .lst xs => decide (xs.length ≤ 16777216) && lks n xs
  | n + 1, .tup xs => decide (xs.length ≤ 16777216) && lks n xs
  | _, _ => false
def lks : Nat → List PV → Bool
  | _, [] => true
  | n, x :: xs => lk n x && lks n xs
end
def SortOk (g : G) : Prop := ∀ (n : Nat) (v : PV), lk n v = true → g [.val v] = .ok (.val (.int (sortOf v)), [none])
theorem law_sort_ok : SortOk (stepT C t).law_sort := fun n v h => by
  cases v with
  | non => simp [Res.bind, mSeq, mNx, mRet, mRetNm, mRetN, mIfS, mNever, mAsg, setR, setV, setO, isPar, mAug, mDrop, mAppend, mExtend, ownL?, ownO, setC, RV.lst?, mSrc, itemsOf, mOp, RV.fz, OB.pv, mBor, mNm, mK, mNew, mBin, mUn, deref, liftO, mANil, mACons, mApp, derefs, vals?, RV.val?, small, mTup, mLst, mCall, lone, avsOf, avOf, backs, findArg, back1, RV.bor?, mTest, RV.bl?, mTruth, truth, mTNot, mTAnd, mTOr, mAndV, mOrV, mNotV, mIf, mChain, mgNm, mAsgT, mgTup, mgCons, mgNil, iop, pAdd, pSub, pMul, pDiv, pMod, pNeg, pLt, pLe, pGt, pGe, pEq, pNe, pAddI, pMulS, pIs, pIsNot, isP, pIn, pNotIn, inP, flatP, cmpOk, cmpOks, eqP, eqPs, pIx, fLen, fAbs, fInt, fMin2, fMax2, fOrd, fList, fTuple, fIsi, tyName, AV.slot, runF, Res.nox, RV.out, outsOf, SV.lent, range1e, range2e, range3e, range4e, isi_NoneType_int, isi_NoneType_bool, isi_NoneType_str, isi_NoneType_tuple, isi_NoneType_list, isi_bool_int, isi_bool_bool, isi_bool_str, isi_bool_tuple, isi_bool_list, isi_int_int, isi_int_bool, isi_int_str, isi_int_tuple, isi_int_list, isi_str_int, isi_str_bool, isi_str_str, isi_str_tuple, isi_str_list, isi_tuple_int, isi_tuple_bool, isi_tuple_str, isi_tuple_tuple, isi_tuple_list, isi_list_int, isi_list_bool, isi_list_str, isi_list_tuple, isi_list_list, isi_dict_int, isi_dict_bool, isi_dict_str, isi_dict_tuple, isi_dict_list, stepT, b_law_sort, sortOf]
  | bl b => simp [Res.bind, mSeq, mNx, mRet, mRetNm, mRetN, mIfS, mNever, mAsg, setR, setV, setO, isPar, mAug, mDrop, mAppend, mExtend, ownL?, ownO, setC, RV.lst?, mSrc, itemsOf, mOp, RV.fz, OB.pv, mBor, mNm, mK, mNew, mBin, mUn, deref, liftO, mANil, mACons, mApp, derefs, vals?, RV.val?, small, mTup, mLst, mCall, lone, avsOf, avOf, backs, findArg, back1, RV.bor?, mTest, RV.bl?, mTruth, truth, mTNot, mTAnd, mTOr, mAndV, mOrV, mNotV, mIf, mChain, mgNm, mAsgT, mgTup, mgCons, mgNil, iop, pAdd, pSub, pMul, pDiv, pMod, pNeg, pLt, pLe, pGt, pGe, pEq, pNe, pAddI, pMulS, pIs, pIsNot, isP, pIn, pNotIn, inP, flatP, cmpOk, cmpOks, eqP, eqPs, pIx, fLen, fAbs, fInt, fMin2, fMax2, fOrd, fList, fTuple, fIsi, tyName, AV.slot, runF, Res.nox, RV.out, outsOf, SV.lent, range1e, range2e, range3e, range4e, isi_NoneType_int, isi_NoneType_bool, isi_NoneType_str, isi_NoneType_tuple, isi_NoneType_list, isi_bool_int, isi_bool_bool, isi_bool_str, isi_bool_tuple, isi_bool_list, isi_int_int, isi_int_bool, isi_int_str, isi_int_tuple, isi_int_list, isi_str_int, isi_str_bool, isi_str_str, isi_str_tuple, isi_str_list, isi_tuple_int, isi_tuple_bool, isi_tuple_str, isi_tuple_tuple, isi_tuple_list, isi_list_int, isi_list_bool, isi_list_str, isi_list_tuple, isi_list_list, isi_dict_int, isi_dict_bool, isi_dict_str, isi_dict_tuple, isi_dict_list, stepT, b_law_sort, sortOf]
  | int i => simp [Res.bind, mSeq, mNx, mRet, mRetNm, mRetN, mIfS, mNever, mAsg, setR, setV, setO, isPar, mAug, mDrop, mAppend, mExtend, ownL?, ownO, setC, RV.lst?, mSrc, itemsOf, mOp, RV.fz, OB.pv, mBor, mNm, mK, mNew, mBin, mUn, deref, liftO, mANil, mACons, mApp, derefs, vals?, RV.val?, small, mTup, mLst, mCall, lone, avsOf, avOf, backs, findArg, back1, RV.bor?, mTest, RV.bl?, mTruth, truth, mTNot, mTAnd, mTOr, mAndV, mOrV, mNotV, mIf, mChain, mgNm, mAsgT, mgTup, mgCons, mgNil, iop, pAdd, pSub, pMul, pDiv, pMod, pNeg, pLt, pLe, pGt, pGe, pEq, pNe, pAddI, pMulS, pIs, pIsNot, isP, pIn, pNotIn, inP, flatP, cmpOk, cmpOks, eqP, eqPs, pIx, fLen, fAbs, fInt, fMin2, fMax2, fOrd, fList, fTuple, fIsi, tyName, AV.slot, runF, Res.nox, RV.out, outsOf, SV.lent, range1e, range2e, range3e, range4e, isi_NoneType_int, isi_NoneType_bool, isi_NoneType_str, isi_NoneType_tuple, isi_NoneType_list, isi_bool_int, isi_bool_bool, isi_bool_str, isi_bool_tuple, isi_bool_list, isi_int_int, isi_int_bool, isi_int_str, isi_int_tuple, isi_int_list, isi_str_int, isi_str_bool, isi_str_str, isi_str_tuple, isi_str_list, isi_tuple_int, isi_tuple_bool, isi_tuple_str, isi_tuple_tuple, isi_tuple_list, isi_list_int, isi_list_bool, isi_list_str, isi_list_tuple, isi_list_list, isi_dict_int, isi_dict_bool, isi_dict_str, isi_dict_tuple, isi_dict_list, stepT, b_law_sort, sortOf]
  | str x => simp [Res.bind, mSeq, mNx, mRet, mRetNm, mRetN, mIfS, mNever, mAsg, setR, setV, setO, isPar, mAug, mDrop, mAppend, mExtend, ownL?, ownO, setC, RV.lst?, mSrc, itemsOf, mOp, RV.fz, OB.pv, mBor, mNm, mK, mNew, mBin, mUn, deref, liftO, mANil, mACons, mApp, derefs, vals?, RV.val?, small, mTup, mLst, mCall, lone, avsOf, avOf, backs, findArg, back1, RV.bor?, mTest, RV.bl?, mTruth, truth, mTNot, mTAnd, mTOr, mAndV, mOrV, mNotV, mIf, mChain, mgNm, mAsgT, mgTup, mgCons, mgNil, iop, pAdd, pSub, pMul, pDiv, pMod, pNeg, pLt, pLe, pGt, pGe, pEq, pNe, pAddI, pMulS, pIs, pIsNot, isP, pIn, pNotIn, inP, flatP, cmpOk, cmpOks, eqP, eqPs, pIx, fLen, fAbs, fInt, fMin2, fMax2, fOrd, fList, fTuple, fIsi, tyName, AV.slot, runF, Res.nox, RV.out, outsOf, SV.lent, range1e, range2e, range3e, range4e, isi_NoneType_int, isi_NoneType_bool, isi_NoneType_str, isi_NoneType_tuple, isi_NoneType_list, isi_bool_int, isi_bool_bool, isi_bool_str, isi_bool_tuple, isi_bool_list, isi_int_int, isi_int_bool, isi_int_str, isi_int_tuple, isi_int_list, isi_str_int, isi_str_bool, isi_str_str, isi_str_tuple, isi_str_list, isi_tuple_int, isi_tuple_bool, isi_tuple_str, isi_tuple_tuple, isi_tuple_list, isi_list_int, isi_list_bool, isi_list_str, isi_list_tuple, isi_list_list, isi_dict_int, isi_dict_bool, isi_dict_str, isi_dict_tuple, isi_dict_list, stepT, b_law_sort, sortOf]
  | tup xs => simp [Res.bind, mSeq, mNx, mRet, mRetNm, mRetN, mIfS, mNever, mAsg, setR, setV, setO, isPar, mAug, mDrop, mAppend, mExtend, ownL?, ownO, setC, RV.lst?, mSrc, itemsOf, mOp, RV.fz, OB.pv, mBor, mNm, mK, mNew, mBin, mUn, deref, liftO, mANil, mACons, mApp, derefs, vals?, RV.val?, small, mTup, mLst, mCall, lone, avsOf, avOf, backs, findArg, back1, RV.bor?, mTest, RV.bl?, mTruth, truth, mTNot, mTAnd, mTOr, mAndV, mOrV, mNotV, mIf, mChain, mgNm, mAsgT, mgTup, mgCons, mgNil, iop, pAdd, pSub, pMul, pDiv, pMod, pNeg, pLt, pLe, pGt, pGe, pEq, pNe, pAddI, pMulS, pIs, pIsNot, isP, pIn, pNotIn, inP, flatP, cmpOk, cmpOks, eqP, eqPs, pIx, fLen, fAbs, fInt, fMin2, fMax2, fOrd, fList, fTuple, fIsi, tyName, AV.slot, runF, Res.nox, RV.out, outsOf, SV.lent, range1e, range2e, range3e, range4e, isi_NoneType_int, isi_NoneType_bool, isi_NoneType_str, isi_NoneType_tuple, isi_NoneType_list, isi_bool_int, isi_bool_bool, isi_bool_str, isi_bool_tuple, isi_bool_list, isi_int_int, isi_int_bool, isi_int_str, isi_int_tuple, isi_int_list, isi_str_int, isi_str_bool, isi_str_str, isi_str_tuple, isi_str_list, isi_tuple_int, isi_tuple_bool, isi_tuple_str, isi_tuple_tuple, isi_tuple_list, isi_list_int, isi_list_bool, isi_list_str, isi_list_tuple, isi_list_list, isi_dict_int, isi_dict_bool, isi_dict_str, isi_dict_tuple, isi_dict_list, stepT, b_law_sort, sortOf]
  | lst xs => simp [Res.bind, mSeq, mNx, mRet, mRetNm, mRetN, mIfS, mNever, mAsg, setR, setV, setO, isPar, mAug, mDrop, mAppend, mExtend, ownL?, ownO, setC, RV.lst?, mSrc, itemsOf, mOp, RV.fz, OB.pv, mBor, mNm, mK, mNew, mBin, mUn, deref, liftO, mANil, mACons, mApp, derefs, vals?, RV.val?, small, mTup, mLst, mCall, lone, avsOf, avOf, backs, findArg, back1, RV.bor?, mTest, RV.bl?, mTruth, truth, mTNot, mTAnd, mTOr, mAndV, mOrV, mNotV, mIf, mChain, mgNm, mAsgT, mgTup, mgCons, mgNil, iop, pAdd, pSub, pMul, pDiv, pMod, pNeg, pLt, pLe, pGt, pGe, pEq, pNe, pAddI, pMulS, pIs, pIsNot, isP, pIn, pNotIn, inP, flatP, cmpOk, cmpOks, eqP, eqPs, pIx, fLen, fAbs, fInt, fMin2, fMax2, fOrd, fList, fTuple, fIsi, tyName, AV.slot, runF, Res.nox, RV.out, outsOf, SV.lent, range1e, range2e, range3e, range4e, isi_NoneType_int, isi_NoneType_bool, isi_NoneType_str, isi_NoneType_tuple, isi_NoneType_list, isi_bool_int, isi_bool_bool, isi_bool_str, isi_bool_tuple, isi_bool_list, isi_int_int, isi_int_bool, isi_int_str, isi_int_tuple, isi_int_list, isi_str_int, isi_str_bool, isi_str_str, isi_str_tuple, isi_str_list, isi_tuple_int, isi_tuple_bool, isi_tuple_str, isi_tuple_tuple, isi_tuple_list, isi_list_int, isi_list_bool, isi_list_str, isi_list_tuple, isi_list_list, isi_dict_int, isi_dict_bool, isi_dict_str, isi_dict_tuple, isi_dict_list, stepT, b_law_sort, sortOf]
  | _ => unfold lk at h; cases h
theorem lks_mem {n : Nat} : ∀ {xs : List PV}, lks n xs = true → ∀ x ∈ xs, lk n x = true
  | [], _, x, h => by cases h
  | y :: ys, ok, x, h => by
    unfold lks at ok
    rw [Bool.and_eq_true] at ok
    rcases List.mem_cons.mp h with rfl | h
    · exact ok.1
    · exact lks_mem ok.2 x h
abbrev eLike (t : Tb) : M := mLc [3, 4] (mRng zipOf (mACons (mNm 0) (mACons (mNm 1) mANil))) (mgTup 2 (mgCons (mgNm 3) (mgCons (mgNm 4) mgNil))) (mTNot (mTruth (mCall t.law_like (mACons (mNm 3) (mACons (mNm 4) mANil))))) (mK (.int 1))
theorem like_lc (v : PV) (s : PV) (xs : List PV) (hs : seqOf v = some xs) (hz : xs.length ≤ 16777216) (h : ∀ x ∈ xs, t.law_like [.val x, .val x] = .ok (.val (.bl true), [none, none])) :
    eLike t [some (.val v), some (.val v), some (.val s), none, none] = .ok (.new (.lst []), [some (.val v), some (.val v), some (.val s), none, none]) := by
  refine (mlc_of (xs := (xs.zip xs).map fun p => PV.tup [p.1, p.2]) (ρ1 := [some (.val v), some (.val v), some (.val s), none, none]) (ρ2 := [some (.val v), some (.val v), some (.val s), none, none]) (ys := []) ?_ (by simpa using hz) ?_).trans ?_
  · simp [Res.bind, mSeq, mNx, mRet, mRetNm, mRetN, mIfS, mNever, mAsg, setR, setV, setO, isPar, mAug, mDrop, mAppend, mExtend, ownL?, ownO, setC, RV.lst?, mSrc, itemsOf, mOp, RV.fz, OB.pv, mBor, mNm, mK, mNew, mBin, mUn, deref, liftO, mANil, mACons, mApp, derefs, vals?, RV.val?, small, mTup, mLst, mCall, lone, avsOf, avOf, backs, findArg, back1, RV.bor?, mTest, RV.bl?, mTruth, truth, mTNot, mTAnd, mTOr, mAndV, mOrV, mNotV, mIf, mChain, mgNm, mAsgT, mgTup, mgCons, mgNil, iop, pAdd, pSub, pMul, pDiv, pMod, pNeg, pLt, pLe, pGt, pGe, pEq, pNe, pAddI, pMulS, pIs, pIsNot, isP, pIn, pNotIn, inP, flatP, cmpOk, cmpOks, eqP, eqPs, pIx, fLen, fAbs, fInt, fMin2, fMax2, fOrd, fList, fTuple, fIsi, tyName, AV.slot, runF, Res.nox, RV.out, outsOf, SV.lent, range1e, range2e, range3e, range4e, isi_NoneType_int, isi_NoneType_bool, isi_NoneType_str, isi_NoneType_tuple, isi_NoneType_list, isi_bool_int, isi_bool_bool, isi_bool_str, isi_bool_tuple, isi_bool_list, isi_int_int, isi_int_bool, isi_int_str, isi_int_tuple, isi_int_list, isi_str_int, isi_str_bool, isi_str_str, isi_str_tuple, isi_str_list, isi_tuple_int, isi_tuple_bool, isi_tuple_str, isi_tuple_tuple, isi_tuple_list, isi_list_int, isi_list_bool, isi_list_str, isi_list_tuple, isi_list_list, isi_dict_int, isi_dict_bool, isi_dict_str, isi_dict_tuple, isi_dict_list, mRng, zipOf, hs]
  · have e : wipeE [some (.val v), some (.val v), some (.val s), none, none] [3, 4] = [some (.val v), some (.val v), some (.val s), none, none] := by simp [wipeE]
    rw [e]
    have key : ∀ l : List PV, (∀ x ∈ l, t.law_like [.val x, .val x] = .ok (.val (.bl true), [none, none])) → lcM [3, 4] (mgTup 2 (mgCons (mgNm 3) (mgCons (mgNm 4) mgNil))) (mTNot (mTruth (mCall t.law_like (mACons (mNm 3) (mACons (mNm 4) mANil))))) (mK (.int 1)) ((l.zip l).map fun p => PV.tup [p.1, p.2]) [some (.val v), some (.val v), some (.val s), none, none] = .ok ([], [some (.val v), some (.val v), some (.val s), none, none]) := by
      intro l
      induction l with
      | nil => intro _; rfl
      | cons x l ih =>
        intro hl
        have hc : mCall t.law_like (mACons (mNm 3) (mACons (mNm 4) mANil)) [some (.val v), some (.val v), some (.val s), some (.val x), some (.val x)] = .ok (.val (.bl true), [some (.val v), some (.val v), some (.val s), some (.val x), some (.val x)]) :=
          call2 (p := x) (q := x) (ρ1 := [some (.val v), some (.val v), some (.val s), some (.val x), some (.val x)]) (by simp [Res.bind, mSeq, mNx, mRet, mRetNm, mRetN, mIfS, mNever, mAsg, setR, setV, setO, isPar, mAug, mDrop, mAppend, mExtend, ownL?, ownO, setC, RV.lst?, mSrc, itemsOf, mOp, RV.fz, OB.pv, mBor, mNm, mK, mNew, mBin, mUn, deref, liftO, mANil, mACons, mApp, derefs, vals?, RV.val?, small, mTup, mLst, mCall, lone, avsOf, avOf, backs, findArg, back1, RV.bor?, mTest, RV.bl?, mTruth, truth, mTNot, mTAnd, mTOr, mAndV, mOrV, mNotV, mIf, mChain, mgNm, mAsgT, mgTup, mgCons, mgNil, iop, pAdd, pSub, pMul, pDiv, pMod, pNeg, pLt, pLe, pGt, pGe, pEq, pNe, pAddI, pMulS, pIs, pIsNot, isP, pIn, pNotIn, inP, flatP, cmpOk, cmpOks, eqP, eqPs, pIx, fLen, fAbs, fInt, fMin2, fMax2, fOrd, fList, fTuple, fIsi, tyName, AV.slot, runF, Res.nox, RV.out, outsOf, SV.lent, range1e, range2e, range3e, range4e, isi_NoneType_int, isi_NoneType_bool, isi_NoneType_str, isi_NoneType_tuple, isi_NoneType_list, isi_bool_int, isi_bool_bool, isi_bool_str, isi_bool_tuple, isi_bool_list, isi_int_int, isi_int_bool, isi_int_str, isi_int_tuple, isi_int_list, isi_str_int, isi_str_bool, isi_str_str, isi_str_tuple, isi_str_list, isi_tuple_int, isi_tuple_bool, isi_tuple_str, isi_tuple_tuple, isi_tuple_list, isi_list_int, isi_list_bool, isi_list_str, isi_list_tuple, isi_list_list, isi_dict_int, isi_dict_bool, isi_dict_str, isi_dict_tuple, isi_dict_list]) (by simp [Res.bind, mSeq, mNx, mRet, mRetNm, mRetN, mIfS, mNever, mAsg, setR, setV, setO, isPar, mAug, mDrop, mAppend, mExtend, ownL?, ownO, setC, RV.lst?, mSrc, itemsOf, mOp, RV.fz, OB.pv, mBor, mNm, mK, mNew, mBin, mUn, deref, liftO, mANil, mACons, mApp, derefs, vals?, RV.val?, small, mTup, mLst, mCall, lone, avsOf, avOf, backs, findArg, back1, RV.bor?, mTest, RV.bl?, mTruth, truth, mTNot, mTAnd, mTOr, mAndV, mOrV, mNotV, mIf, mChain, mgNm, mAsgT, mgTup, mgCons, mgNil, iop, pAdd, pSub, pMul, pDiv, pMod, pNeg, pLt, pLe, pGt, pGe, pEq, pNe, pAddI, pMulS, pIs, pIsNot, isP, pIn, pNotIn, inP, flatP, cmpOk, cmpOks, eqP, eqPs, pIx, fLen, fAbs, fInt, fMin2, fMax2, fOrd, fList, fTuple, fIsi, tyName, AV.slot, runF, Res.nox, RV.out, outsOf, SV.lent, range1e, range2e, range3e, range4e, isi_NoneType_int, isi_NoneType_bool, isi_NoneType_str, isi_NoneType_tuple, isi_NoneType_list, isi_bool_int, isi_bool_bool, isi_bool_str, isi_bool_tuple, isi_bool_list, isi_int_int, isi_int_bool, isi_int_str, isi_int_tuple, isi_int_list, isi_str_int, isi_str_bool, isi_str_str, isi_str_tuple, isi_str_list, isi_tuple_int, isi_tuple_bool, isi_tuple_str, isi_tuple_tuple, isi_tuple_list, isi_list_int, isi_list_bool, isi_list_str, isi_list_tuple, isi_list_list, isi_dict_int, isi_dict_bool, isi_dict_str, isi_dict_tuple, isi_dict_list]) (hl x (List.mem_cons_self ..))
        rw [List.zip_cons_cons, List.map_cons, lc_skip (ρ1 := [some (.val v), some (.val v), some (.val s), some (.val x), some (.val x)]) (ρ2 := [some (.val v), some (.val v), some (.val s), some (.val x), some (.val x)]) (by simp [Res.bind, mSeq, mNx, mRet, mRetNm, mRetN, mIfS, mNever, mAsg, setR, setV, setO, isPar, mAug, mDrop, mAppend, mExtend, ownL?, ownO, setC, RV.lst?, mSrc, itemsOf, mOp, RV.fz, OB.pv, mBor, mNm, mK, mNew, mBin, mUn, deref, liftO, mANil, mACons, mApp, derefs, vals?, RV.val?, small, mTup, mLst, mCall, lone, avsOf, avOf, backs, findArg, back1, RV.bor?, mTest, RV.bl?, mTruth, truth, mTNot, mTAnd, mTOr, mAndV, mOrV, mNotV, mIf, mChain, mgNm, mAsgT, mgTup, mgCons, mgNil, iop, pAdd, pSub, pMul, pDiv, pMod, pNeg, pLt, pLe, pGt, pGe, pEq, pNe, pAddI, pMulS, pIs, pIsNot, isP, pIn, pNotIn, inP, flatP, cmpOk, cmpOks, eqP, eqPs, pIx, fLen, fAbs, fInt, fMin2, fMax2, fOrd, fList, fTuple, fIsi, tyName, AV.slot, runF, Res.nox, RV.out, outsOf, SV.lent, range1e, range2e, range3e, range4e, isi_NoneType_int, isi_NoneType_bool, isi_NoneType_str, isi_NoneType_tuple, isi_NoneType_list, isi_bool_int, isi_bool_bool, isi_bool_str, isi_bool_tuple, isi_bool_list, isi_int_int, isi_int_bool, isi_int_str, isi_int_tuple, isi_int_list, isi_str_int, isi_str_bool, isi_str_str, isi_str_tuple, isi_str_list, isi_tuple_int, isi_tuple_bool, isi_tuple_str, isi_tuple_tuple, isi_tuple_list, isi_list_int, isi_list_bool, isi_list_str, isi_list_tuple, isi_list_list, isi_dict_int, isi_dict_bool, isi_dict_str, isi_dict_tuple, isi_dict_list]) ?_]
        · have e2 : wipeE [some (.val v), some (.val v), some (.val s), some (.val x), some (.val x)] [3, 4] = [some (.val v), some (.val v), some (.val s), none, none] := by simp [wipeE]
          rw [e2]
          exact ih fun y hy => hl y (List.mem_cons_of_mem _ hy)
        · unfold mTNot mTruth mOp
          rw [hc]
          simp [RV.fz, deref, truth, liftO, Res.bind]
    exact key xs h
  · simp [restoreE, keepV]
theorem like_step (hs : SortOk t.law_sort) : ∀ (n : Nat) (v : PV), lk n v = true → n ≤ 64 → (∀ xs, seqOf v = some xs → ∀ x ∈ xs, t.law_like [.val x, .val x] = .ok (.val (.bl true), [none, none])) →
    (stepT C t).law_like [.val v, .val v] = .ok (.val (.bl true), [none, none]) := by
  intro n v ok hn hx
  have h1 := hs n v ok
  have c1 : mCall t.law_sort (mACons (mNm 1) mANil) [some (.val v), some (.val v), none, none, none] = .ok (.val (.int (sortOf v)), [some (.val v), some (.val v), none, none, none]) := call1 (p := v) (by simp [Res.bind, mSeq, mNx, mRet, mRetNm, mRetN, mIfS, mNever, mAsg, setR, setV, setO, isPar, mAug, mDrop, mAppend, mExtend, ownL?, ownO, setC, RV.lst?, mSrc, itemsOf, mOp, RV.fz, OB.pv, mBor, mNm, mK, mNew, mBin, mUn, deref, liftO, mANil, mACons, mApp, derefs, vals?, RV.val?, small, mTup, mLst, mCall, lone, avsOf, avOf, backs, findArg, back1, RV.bor?, mTest, RV.bl?, mTruth, truth, mTNot, mTAnd, mTOr, mAndV, mOrV, mNotV, mIf, mChain, mgNm, mAsgT, mgTup, mgCons, mgNil, iop, pAdd, pSub, pMul, pDiv, pMod, pNeg, pLt, pLe, pGt, pGe, pEq, pNe, pAddI, pMulS, pIs, pIsNot, isP, pIn, pNotIn, inP, flatP, cmpOk, cmpOks, eqP, eqPs, pIx, fLen, fAbs, fInt, fMin2, fMax2, fOrd, fList, fTuple, fIsi, tyName, AV.slot, runF, Res.nox, RV.out, outsOf, SV.lent, range1e, range2e, range3e, range4e, isi_NoneType_int, isi_NoneType_bool, isi_NoneType_str, isi_NoneType_tuple, isi_NoneType_list, isi_bool_int, isi_bool_bool, isi_bool_str, isi_bool_tuple, isi_bool_list, isi_int_int, isi_int_bool, isi_int_str, isi_int_tuple, isi_int_list, isi_str_int, isi_str_bool, isi_str_str, isi_str_tuple, isi_str_list, isi_tuple_int, isi_tuple_bool, isi_tuple_str, isi_tuple_tuple, isi_tuple_list, isi_list_int, isi_list_bool, isi_list_str, isi_list_tuple, isi_list_list, isi_dict_int, isi_dict_bool, isi_dict_str, isi_dict_tuple, isi_dict_list]) h1
  have c2 : mCall t.law_sort (mACons (mNm 0) mANil) [some (.val v), some (.val v), some (.val (.int (sortOf v))), none, none] = .ok (.val (.int (sortOf v)), [some (.val v), some (.val v), some (.val (.int (sortOf v))), none, none]) := call1 (p := v) (by simp [Res.bind, mSeq, mNx, mRet, mRetNm, mRetN, mIfS, mNever, mAsg, setR, setV, setO, isPar, mAug, mDrop, mAppend, mExtend, ownL?, ownO, setC, RV.lst?, mSrc, itemsOf, mOp, RV.fz, OB.pv, mBor, mNm, mK, mNew, mBin, mUn, deref, liftO, mANil, mACons, mApp, derefs, vals?, RV.val?, small, mTup, mLst, mCall, lone, avsOf, avOf, backs, findArg, back1, RV.bor?, mTest, RV.bl?, mTruth, truth, mTNot, mTAnd, mTOr, mAndV, mOrV, mNotV, mIf, mChain, mgNm, mAsgT, mgTup, mgCons, mgNil, iop, pAdd, pSub, pMul, pDiv, pMod, pNeg, pLt, pLe, pGt, pGe, pEq, pNe, pAddI, pMulS, pIs, pIsNot, isP, pIn, pNotIn, inP, flatP, cmpOk, cmpOks, eqP, eqPs, pIx, fLen, fAbs, fInt, fMin2, fMax2, fOrd, fList, fTuple, fIsi, tyName, AV.slot, runF, Res.nox, RV.out, outsOf, SV.lent, range1e, range2e, range3e, range4e, isi_NoneType_int, isi_NoneType_bool, isi_NoneType_str, isi_NoneType_tuple, isi_NoneType_list, isi_bool_int, isi_bool_bool, isi_bool_str, isi_bool_tuple, isi_bool_list, isi_int_int, isi_int_bool, isi_int_str, isi_int_tuple, isi_int_list, isi_str_int, isi_str_bool, isi_str_str, isi_str_tuple, isi_str_list, isi_tuple_int, isi_tuple_bool, isi_tuple_str, isi_tuple_tuple, isi_tuple_list, isi_list_int, isi_list_bool, isi_list_str, isi_list_tuple, isi_list_list, isi_dict_int, isi_dict_bool, isi_dict_str, isi_dict_tuple, isi_dict_list]) h1
  have n6 : ¬ sortOf v = 6 := by
    cases v <;> first | (unfold lk at ok; cases ok; done) | (simp [sortOf]; done)
  refine run_rt (r := .val (.bl true)) (ρ1 := [some (.val v), some (.val v), some (.val (.int (sortOf v))), none, none]) [some (.val v), some (.val v), none, none, none] rfl ?_ rfl
  refine (seq_nx (asg_of c1 (ρ2 := [some (.val v), some (.val v), some (.val (.int (sortOf v))), none, none]) (by simp [Res.bind, mSeq, mNx, mRet, mRetNm, mRetN, mIfS, mNever, mAsg, setR, setV, setO, isPar, mAug, mDrop, mAppend, mExtend, ownL?, ownO, setC, RV.lst?, mSrc, itemsOf, mOp, RV.fz, OB.pv, mBor, mNm, mK, mNew, mBin, mUn, deref, liftO, mANil, mACons, mApp, derefs, vals?, RV.val?, small, mTup, mLst, mCall, lone, avsOf, avOf, backs, findArg, back1, RV.bor?, mTest, RV.bl?, mTruth, truth, mTNot, mTAnd, mTOr, mAndV, mOrV, mNotV, mIf, mChain, mgNm, mAsgT, mgTup, mgCons, mgNil, iop, pAdd, pSub, pMul, pDiv, pMod, pNeg, pLt, pLe, pGt, pGe, pEq, pNe, pAddI, pMulS, pIs, pIsNot, isP, pIn, pNotIn, inP, flatP, cmpOk, cmpOks, eqP, eqPs, pIx, fLen, fAbs, fInt, fMin2, fMax2, fOrd, fList, fTuple, fIsi, tyName, AV.slot, runF, Res.nox, RV.out, outsOf, SV.lent, range1e, range2e, range3e, range4e, isi_NoneType_int, isi_NoneType_bool, isi_NoneType_str, isi_NoneType_tuple, isi_NoneType_list, isi_bool_int, isi_bool_bool, isi_bool_str, isi_bool_tuple, isi_bool_list, isi_int_int, isi_int_bool, isi_int_str, isi_int_tuple, isi_int_list, isi_str_int, isi_str_bool, isi_str_str, isi_str_tuple, isi_str_list, isi_tuple_int, isi_tuple_bool, isi_tuple_str, isi_tuple_tuple, isi_tuple_list, isi_list_int, isi_list_bool, isi_list_str, isi_list_tuple, isi_list_list, isi_dict_int, isi_dict_bool, isi_dict_str, isi_dict_tuple, isi_dict_list]))).trans ?_
  refine (seq_nx (ρ1 := [some (.val v), some (.val v), some (.val (.int (sortOf v))), none, none]) ((ifs_f (ρ1 := [some (.val v), some (.val v), some (.val (.int (sortOf v))), none, none]) ?_).trans rfl)).trans ?_
  · unfold mTOr mTest mBin mOp
    rw [c2]
    simp [RV.fz, deref, liftO, Res.bind, pNe, cmpOk, eqP, RV.bl?, mBor, mK, pEq, n6]
  · have leaf : (∀ xs, seqOf v ≠ some xs) → sortOf v ≠ 4 → sortOf v ≠ 5 → cmpOk 64 v = true → eqP v v = true → mSeq (mIfS (mTest (mBin pIn (mBor 2) (mTup (mACons (mK (.int 4)) (mACons (mK (.int 5)) mANil))))) (mRet (mAndV (mBin pEq (mApp fLen (mACons (mBor 0) mANil)) (mApp fLen (mACons (mBor 1) mANil))) (mBin pEq (eLike t) (mLst mANil)))) mNx) (mRet (mBin pEq (mBor 0) (mBor 1))) [some (.val v), some (.val v), some (.val (.int (sortOf v))), none, none] = .ok (.rt (.val (.bl true)), [some (.val v), some (.val v), some (.val (.int (sortOf v))), none, none]) := by
      intro _ h4 h5 hc he
      refine (seq_nx (ρ1 := [some (.val v), some (.val v), some (.val (.int (sortOf v))), none, none]) ((ifs_f (ρ1 := [some (.val v), some (.val v), some (.val (.int (sortOf v))), none, none]) ?_).trans rfl)).trans ?_
      · have h4' : ¬ 4 = sortOf v := fun z => h4 z.symm
        have h5' : ¬ 5 = sortOf v := fun z => h5 z.symm
        simp [Res.bind, mSeq, mNx, mRet, mRetNm, mRetN, mIfS, mNever, mAsg, setR, setV, setO, isPar, mAug, mDrop, mAppend, mExtend, ownL?, ownO, setC, RV.lst?, mSrc, itemsOf, mOp, RV.fz, OB.pv, mBor, mNm, mK, mNew, mBin, mUn, deref, liftO, mANil, mACons, mApp, derefs, vals?, RV.val?, small, mTup, mLst, mCall, lone, avsOf, avOf, backs, findArg, back1, RV.bor?, mTest, RV.bl?, mTruth, truth, mTNot, mTAnd, mTOr, mAndV, mOrV, mNotV, mIf, mChain, mgNm, mAsgT, mgTup, mgCons, mgNil, iop, pAdd, pSub, pMul, pDiv, pMod, pNeg, pLt, pLe, pGt, pGe, pEq, pNe, pAddI, pMulS, pIs, pIsNot, isP, pIn, pNotIn, inP, flatP, cmpOk, cmpOks, eqP, eqPs, pIx, fLen, fAbs, fInt, fMin2, fMax2, fOrd, fList, fTuple, fIsi, tyName, AV.slot, runF, Res.nox, RV.out, outsOf, SV.lent, range1e, range2e, range3e, range4e, isi_NoneType_int, isi_NoneType_bool, isi_NoneType_str, isi_NoneType_tuple, isi_NoneType_list, isi_bool_int, isi_bool_bool, isi_bool_str, isi_bool_tuple, isi_bool_list, isi_int_int, isi_int_bool, isi_int_str, isi_int_tuple, isi_int_list, isi_str_int, isi_str_bool, isi_str_str, isi_str_tuple, isi_str_list, isi_tuple_int, isi_tuple_bool, isi_tuple_str, isi_tuple_tuple, isi_tuple_list, isi_list_int, isi_list_bool, isi_list_str, isi_list_tuple, isi_list_list, isi_dict_int, isi_dict_bool, isi_dict_str, isi_dict_tuple, isi_dict_list, h4', h5']
      · simp [Res.bind, mSeq, mNx, mRet, mRetNm, mRetN, mIfS, mNever, mAsg, setR, setV, setO, isPar, mAug, mDrop, mAppend, mExtend, ownL?, ownO, setC, RV.lst?, mSrc, itemsOf, mOp, RV.fz, OB.pv, mBor, mNm, mK, mNew, mBin, mUn, deref, liftO, mANil, mACons, mApp, derefs, vals?, RV.val?, small, mTup, mLst, mCall, lone, avsOf, avOf, backs, findArg, back1, RV.bor?, mTest, RV.bl?, mTruth, truth, mTNot, mTAnd, mTOr, mAndV, mOrV, mNotV, mIf, mChain, mgNm, mAsgT, mgTup, mgCons, mgNil, iop, pAdd, pSub, pMul, pDiv, pMod, pNeg, pLt, pLe, pGt, pGe, pEq, pNe, pAddI, pMulS, pIs, pIsNot, isP, pIn, pNotIn, inP, flatP, cmpOk, cmpOks, eqP, eqPs, pIx, fLen, fAbs, fInt, fMin2, fMax2, fOrd, fList, fTuple, fIsi, tyName, AV.slot, runF, Res.nox, RV.out, outsOf, SV.lent, range1e, range2e, range3e, range4e, isi_NoneType_int, isi_NoneType_bool, isi_NoneType_str, isi_NoneType_tuple, isi_NoneType_list, isi_bool_int, isi_bool_bool, isi_bool_str, isi_bool_tuple, isi_bool_list, isi_int_int, isi_int_bool, isi_int_str, isi_int_tuple, isi_int_list, isi_str_int, isi_str_bool, isi_str_str, isi_str_tuple, isi_str_list, isi_tuple_int, isi_tuple_bool, isi_tuple_str, isi_tuple_tuple, isi_tuple_list, isi_list_int, isi_list_bool, isi_list_str, isi_list_tuple, isi_list_list, isi_dict_int, isi_dict_bool, isi_dict_str, isi_dict_tuple, isi_dict_list, hc, he]
    have deep : ∀ xs, seqOf v = some xs → (sortOf v = 4 ∨ sortOf v = 5) → xs.length ≤ 16777216 → fLen [v] = some (.val (.int xs.length)) → mSeq (mIfS (mTest (mBin pIn (mBor 2) (mTup (mACons (mK (.int 4)) (mACons (mK (.int 5)) mANil))))) (mRet (mAndV (mBin pEq (mApp fLen (mACons (mBor 0) mANil)) (mApp fLen (mACons (mBor 1) mANil))) (mBin pEq (eLike t) (mLst mANil)))) mNx) (mRet (mBin pEq (mBor 0) (mBor 1))) [some (.val v), some (.val v), some (.val (.int (sortOf v))), none, none] = .ok (.rt (.val (.bl true)), [some (.val v), some (.val v), some (.val (.int (sortOf v))), none, none]) := by
      intro xs hs4 h45 hz hl
      refine seq_rt ((ifs_t (ρ1 := [some (.val v), some (.val v), some (.val (.int (sortOf v))), none, none]) ?_).trans (ret_of ?_))
      · rcases h45 with h | h <;> rw [h] <;> simp [Res.bind, mSeq, mNx, mRet, mRetNm, mRetN, mIfS, mNever, mAsg, setR, setV, setO, isPar, mAug, mDrop, mAppend, mExtend, ownL?, ownO, setC, RV.lst?, mSrc, itemsOf, mOp, RV.fz, OB.pv, mBor, mNm, mK, mNew, mBin, mUn, deref, liftO, mANil, mACons, mApp, derefs, vals?, RV.val?, small, mTup, mLst, mCall, lone, avsOf, avOf, backs, findArg, back1, RV.bor?, mTest, RV.bl?, mTruth, truth, mTNot, mTAnd, mTOr, mAndV, mOrV, mNotV, mIf, mChain, mgNm, mAsgT, mgTup, mgCons, mgNil, iop, pAdd, pSub, pMul, pDiv, pMod, pNeg, pLt, pLe, pGt, pGe, pEq, pNe, pAddI, pMulS, pIs, pIsNot, isP, pIn, pNotIn, inP, flatP, cmpOk, cmpOks, eqP, eqPs, pIx, fLen, fAbs, fInt, fMin2, fMax2, fOrd, fList, fTuple, fIsi, tyName, AV.slot, runF, Res.nox, RV.out, outsOf, SV.lent, range1e, range2e, range3e, range4e, isi_NoneType_int, isi_NoneType_bool, isi_NoneType_str, isi_NoneType_tuple, isi_NoneType_list, isi_bool_int, isi_bool_bool, isi_bool_str, isi_bool_tuple, isi_bool_list, isi_int_int, isi_int_bool, isi_int_str, isi_int_tuple, isi_int_list, isi_str_int, isi_str_bool, isi_str_str, isi_str_tuple, isi_str_list, isi_tuple_int, isi_tuple_bool, isi_tuple_str, isi_tuple_tuple, isi_tuple_list, isi_list_int, isi_list_bool, isi_list_str, isi_list_tuple, isi_list_list, isi_dict_int, isi_dict_bool, isi_dict_str, isi_dict_tuple, isi_dict_list]
      · have e1 : mBin pEq (mApp fLen (mACons (mBor 0) mANil)) (mApp fLen (mACons (mBor 1) mANil)) [some (.val v), some (.val v), some (.val (.int (sortOf v))), none, none] = .ok (.val (.bl true), [some (.val v), some (.val v), some (.val (.int (sortOf v))), none, none]) := by
          simp [mBin, mApp, mOp, mACons, mANil, mBor, RV.fz, Res.bind, derefs, deref, liftO, hl, pEq, cmpOk, eqP]
        have e2 : mBin pEq (eLike t) (mLst mANil) [some (.val v), some (.val v), some (.val (.int (sortOf v))), none, none] = .ok (.val (.bl true), [some (.val v), some (.val v), some (.val (.int (sortOf v))), none, none]) := by
          have l := like_lc v (.int (sortOf v)) xs hs4 hz (hx xs hs4)
          unfold mBin mOp
          rw [l]
          simp [RV.fz, OB.pv, deref, liftO, Res.bind, mLst, mANil, vals?, small, pEq, cmpOk, cmpOks, eqP, eqPs]
        exact (andv_t e1).trans e2
    cases v with
    | non => exact leaf (fun _ z => by cases z) (by simp [sortOf]) (by simp [sortOf]) rfl rfl
    | bl b => exact leaf (fun _ z => by cases z) (by simp [sortOf]) (by simp [sortOf]) rfl (by simp [eqP])
    | int i => exact leaf (fun _ z => by cases z) (by simp [sortOf]) (by simp [sortOf]) rfl (by simp [eqP])
    | str x =>
      unfold lk at ok
      exact leaf (fun _ z => by cases z) (by simp [sortOf]) (by simp [sortOf]) ok (by simp [eqP])
    | tup xs =>
      cases n with
      | zero => unfold lk at ok; cases ok
      | succ n =>
        unfold lk at ok
        rw [Bool.and_eq_true] at ok
        exact deep xs rfl (.inl rfl) (of_decide_eq_true ok.1) rfl
    | lst xs =>
      cases n with
      | zero => unfold lk at ok; cases ok
      | succ n =>
        unfold lk at ok
        rw [Bool.and_eq_true] at ok
        exact deep xs rfl (.inr rfl) (of_decide_eq_true ok.1) rfl
    | _ => unfold lk at ok; cases ok
theorem like_T : ∀ (n j : Nat) (v : PV), lk n v = true → n ≤ 64 → (T C (n + j + 2)).law_like [.val v, .val v] = .ok (.val (.bl true), [none, none])
  | 0, j, v, ok, hn => like_step (C := C) (t := T C (0 + j + 1)) law_sort_ok 0 v ok hn fun xs e => by
      cases v <;> first | (cases e; done) | (unfold lk at ok; cases ok)
  | n + 1, j, v, ok, hn => by
    have e : n + 1 + j + 2 = (n + j + 2) + 1 := by omega
    rw [e]
    refine like_step (C := C) (t := T C (n + j + 2)) law_sort_ok (n + 1) v ok hn fun xs e x hx => ?_
    cases v with
    | tup ys =>
      cases e
      unfold lk at ok
      rw [Bool.and_eq_true] at ok
      exact like_T n j x (lks_mem ok.2 x hx) (by omega)
    | lst ys =>
      cases e
      unfold lk at ok
      rw [Bool.and_eq_true] at ok
      exact like_T n j x (lks_mem ok.2 x hx) (by omega)
    | _ => cases e
/-! ### few digits -/
theorem log448 : (128 ^ 64 : Int).natAbs.log2 < 9000 := by decide +kernel
theorem pow_ok (i j : Int) (h : 0 ≤ j ∧ j ≤ 1000000 ∧ i.natAbs < 18446744073709551616) : pPow (.int i) (.int j) = some (.val (.int (i ^ j.toNat))) := iop_eval (if_pos h)
theorem div_ok (i j : Int) (h : 0 < j ∧ j.natAbs.log2 < 9000) : pDiv (.int i) (.int j) = some (.val (.int (i / j))) := iop_eval (if_pos h)
def B64 : Nat := 128 ^ 64
def B54 : Nat := 128 ^ 54
theorem B64_int : (128 : Int) ^ (64 : Int).toNat = (B64 : Int) := by decide +kernel
theorem B54_int : (128 : Int) ^ (54 : Int).toNat = (B54 : Int) := by decide +kernel
theorem B64_ok : (0 : Int) < (B64 : Int) ∧ (B64 : Int).natAbs.log2 < 9000 := by decide +kernel
theorem B64_pos : 0 < B64 := by decide +kernel
theorem B950 : B54 * B64 ^ 14 = 128 ^ 950 := by
  unfold B54 B64
  rw [← Nat.pow_mul, ← Nat.pow_add]
theorem pow64 (ρ : Pu.Env) : mBin pPow (mK (.int 128)) (mK (.int 64)) ρ = .ok (.val (.int (B64 : Int)), ρ) := bin_val rfl rfl (by rw [pow_ok 128 64 (by decide), B64_int])
theorem pow54 (ρ : Pu.Env) : mBin pPow (mK (.int 128)) (mK (.int 54)) ρ = .ok (.val (.int (B54 : Int)), ρ) := bin_val rfl rfl (by rw [pow_ok 128 54 (by decide), B54_int])
theorem fd_step (k : Nat) (s : Option SV) : mAug 0 pDiv (mBin pPow (mK (.int 128)) (mK (.int 64))) [some (.val (.int k)), s] = .ok (.nx, [some (.val (.int ((k / B64 : Nat) : Int))), s]) :=
  aug_val (a := .int k) (ρ1 := [some (.val (.int k)), s]) rfl (pow64 _) (div_ok _ _ B64_ok) (by rw [← Int.natCast_ediv]; rfl)
theorem fd_loop : ∀ (xs : List PV) (k : Nat) (s : Option PV), ∃ s' : Option PV, Pu.forM (mgNm 1) (mAug 0 pDiv (mBin pPow (mK (.int 128)) (mK (.int 64)))) xs [some (.val (.int k)), s.map SV.val] = .ok (.nx, [some (.val (.int ((k / B64 ^ xs.length : Nat) : Int))), s'.map SV.val])
  | [], k, s => ⟨s, by rw [List.length_nil, Nat.pow_zero, Nat.div_one]; rfl⟩
  | x :: xs, k, s => by
    obtain ⟨s', e⟩ := fd_loop xs (k / B64) (some x)
    refine ⟨s', ?_⟩
    rw [for_cons (ρ1 := [some (.val (.int k)), some (.val x)]) (by cases s <;> rfl) (fd_step k (some (.val x)))]
    refine e.trans ?_
    rw [Nat.div_div_eq_div_mul, List.length_cons, Nat.pow_succ, Nat.mul_comm]
theorem rng14 : ∃ xs, mRng rng1 (mACons (mK (.int 14)) mANil) = (fun ρ => .ok (xs, ρ)) ∧ xs.length = 14 := by
  refine ⟨rangeOf 0 14, ?_, ?_⟩
  · funext ρ
    simp [Res.bind, mSeq, mNx, mRet, mRetNm, mRetN, mIfS, mNever, mAsg, setR, setV, setO, isPar, mAug, mDrop, mAppend, mExtend, ownL?, ownO, setC, RV.lst?, mSrc, itemsOf, mOp, RV.fz, OB.pv, mBor, mNm, mK, mNew, mBin, mUn, deref, liftO, mANil, mACons, mApp, derefs, vals?, RV.val?, small, mTup, mLst, mCall, lone, avsOf, avOf, backs, findArg, back1, RV.bor?, mTest, RV.bl?, mTruth, truth, mTNot, mTAnd, mTOr, mAndV, mOrV, mNotV, mIf, mChain, mgNm, mAsgT, mgTup, mgCons, mgNil, iop, pAdd, pSub, pMul, pDiv, pMod, pNeg, pLt, pLe, pGt, pGe, pEq, pNe, pAddI, pMulS, pIs, pIsNot, isP, pIn, pNotIn, inP, flatP, cmpOk, cmpOks, eqP, eqPs, pIx, fLen, fAbs, fInt, fMin2, fMax2, fOrd, fList, fTuple, fIsi, tyName, AV.slot, runF, Res.nox, RV.out, outsOf, SV.lent, range1e, range2e, range3e, range4e, isi_NoneType_int, isi_NoneType_bool, isi_NoneType_str, isi_NoneType_tuple, isi_NoneType_list, isi_bool_int, isi_bool_bool, isi_bool_str, isi_bool_tuple, isi_bool_list, isi_int_int, isi_int_bool, isi_int_str, isi_int_tuple, isi_int_list, isi_str_int, isi_str_bool, isi_str_str, isi_str_tuple, isi_str_list, isi_tuple_int, isi_tuple_bool, isi_tuple_str, isi_tuple_tuple, isi_tuple_list, isi_list_int, isi_list_bool, isi_list_str, isi_list_tuple, isi_list_list, isi_dict_int, isi_dict_bool, isi_dict_str, isi_dict_tuple, isi_dict_list, mRng, rng1, b62]
  · simp [rangeOf]
theorem few_digits_ok (k : Nat) : (stepT C t).few_digits [.val (.int k)] = .ok (.val (.bl (decide (k < 128 ^ 950))), [none]) := by
  obtain ⟨xs, e1, e2⟩ := rng14
  obtain ⟨s', e⟩ := fd_loop xs k none
  rw [e2] at e
  have hq : k / B64 ^ 14 < B54 ↔ k < 128 ^ 950 := by
    rw [Nat.div_lt_iff_lt_mul (Nat.pow_pos B64_pos), B950]
  generalize (128 : Nat) ^ 950 = D at hq ⊢
  generalize k / B64 ^ 14 = q at hq e
  have e4 : pLt (.int (q : Int)) (.int (B54 : Int)) = some (.val (.bl (decide (k < D)))) := by
    refine iop_eval ?_
    have : decide ((q : Int) < (B54 : Int)) = decide (k < D) := by
      rw [decide_eq_decide]
      exact Int.ofNat_lt.trans hq
    rw [this]
  generalize decide (k < D) = c at e4 ⊢
  have e0 : (stepT C t).few_digits = runF 2 (b_few_digits C t) := rfl
  rw [e0]
  refine run_rt (r := .val (.bl c)) (ρ1 := [some (.val (.int (q : Int))), s'.map SV.val]) [some (.val (.int k)), none] rfl ?_ rfl
  show mSeq (mFor (mRng rng1 (mACons (mK (.int 14)) mANil)) (mgNm 1) (mAug 0 pDiv (mBin pPow (mK (.int 128)) (mK (.int 64))))) (mRet (mBin pLt (mBor 0) (mBin pPow (mK (.int 128)) (mK (.int 54))))) _ = _
  refine (seq_nx ((mfor_of (xs := xs) (ρ1 := [some (.val (.int k)), none]) (by rw [e1])).trans e)).trans ?_
  exact ret_of (bin_val (a := .int (q : Int)) rfl (pow54 _) e4)

/-! ### how many parts -/
mutual
def cnt : PV → Nat
  | .tup xs => 1 + cnts xs
  | _ => 1
def cnts : List PV → Nat
  | [] => 0
  | x :: xs => cnt x + cnts xs
end
def FewOk (g : G) : Prop := ∀ k : Nat, k < 128 ^ 950 → g [.val (.int k)] = .ok (.val (.bl true), [none])
def SignOk (g : G) : Prop := ∀ i : Int, g [.val (.int i)] = .ok (.val (.bl (isSign i)), [none])
theorem bls_true (n : Nat) : blsOf (List.replicate n (.bl true)) = some (List.replicate n true) := by
  induction n with
  | zero => rfl
  | succ n ih =>
    rw [List.replicate_succ, List.replicate_succ]
    show (blsOf (List.replicate n (.bl true))).map _ = _
    rw [ih]
    rfl
theorem sgn_lc (hs : SignOk t.is_sign) (x : Str) (d : PV) (h : x.length ≤ 16777216) (hx : (x.cps.toList.all fun (c : Nat) => isSign (c : Int)) = true) : mLc [5] (mSrc (mNm 0)) (mgNm 5) mYes (mCall t.is_sign (mACons (mApp fOrd (mACons (mBor 5) mANil)) mANil)) [some (.val (.str x)), some (.val d), none, none, none, none] =
    .ok (.new (.lst (List.replicate x.cps.toList.length (.bl true))), [some (.val (.str x)), some (.val d), none, none, none, none]) := by
  have hz : (x.cps.toList.map fun c => PV.str ⟨#[c]⟩).length ≤ 16777216 := by
    simpa [Str.length] using h
  refine (mlc_of (ρ1 := [some (.val (.str x)), some (.val d), none, none, none, none]) (ρ2 := [some (.val (.str x)), some (.val d), none, none, none, none]) (ys := List.replicate x.cps.toList.length (.bl true)) (by simp [Res.bind, mSeq, mNx, mRet, mRetNm, mRetN, mIfS, mNever, mAsg, setR, setV, setO, isPar, mAug, mDrop, mAppend, mExtend, ownL?, ownO, setC, RV.lst?, mSrc, itemsOf, mOp, RV.fz, OB.pv, mBor, mNm, mK, mNew, mBin, mUn, deref, liftO, mANil, mACons, mApp, derefs, vals?, RV.val?, small, mTup, mLst, mCall, lone, avsOf, avOf, backs, findArg, back1, RV.bor?, mTest, RV.bl?, mTruth, truth, mTNot, mTAnd, mTOr, mAndV, mOrV, mNotV, mIf, mChain, mgNm, mAsgT, mgTup, mgCons, mgNil, iop, pAdd, pSub, pMul, pDiv, pMod, pNeg, pLt, pLe, pGt, pGe, pEq, pNe, pAddI, pMulS, pIs, pIsNot, isP, pIn, pNotIn, inP, flatP, cmpOk, cmpOks, eqP, eqPs, pIx, fLen, fAbs, fInt, fMin2, fMax2, fOrd, fList, fTuple, fIsi, tyName, AV.slot, runF, Res.nox, RV.out, outsOf, SV.lent, range1e, range2e, range3e, range4e, isi_NoneType_int, isi_NoneType_bool, isi_NoneType_str, isi_NoneType_tuple, isi_NoneType_list, isi_bool_int, isi_bool_bool, isi_bool_str, isi_bool_tuple, isi_bool_list, isi_int_int, isi_int_bool, isi_int_str, isi_int_tuple, isi_int_list, isi_str_int, isi_str_bool, isi_str_str, isi_str_tuple, isi_str_list, isi_tuple_int, isi_tuple_bool, isi_tuple_str, isi_tuple_tuple, isi_tuple_list, isi_list_int, isi_list_bool, isi_list_str, isi_list_tuple, isi_list_list, isi_dict_int, isi_dict_bool, isi_dict_str, isi_dict_tuple, isi_dict_list, str_items]) hz ?_).trans ?_
  · have e : wipeE [some (.val (.str x)), some (.val d), none, none, none, none] [5] = [some (.val (.str x)), some (.val d), none, none, none, none] := by simp [wipeE]
    rw [e]
    have key : ∀ l : List Nat, (l.all fun (c : Nat) => isSign (c : Int)) = true → lcM [5] (mgNm 5) mYes (mCall t.is_sign (mACons (mApp fOrd (mACons (mBor 5) mANil)) mANil)) (l.map fun c => PV.str ⟨#[c]⟩) [some (.val (.str x)), some (.val d), none, none, none, none] = .ok (List.replicate l.length (.bl true), [some (.val (.str x)), some (.val d), none, none, none, none]) := by
      intro l
      induction l with
      | nil => intro _; rfl
      | cons c l ih =>
        intro hl
        rw [List.all_cons, Bool.and_eq_true] at hl
        have hc := hs (c : Int)
        rw [hl.1] at hc
        rw [List.map_cons, lc_cons (ρ1 := [some (.val (.str x)), some (.val d), none, none, none, some (.val (.str ⟨#[c]⟩))]) (ρ2 := [some (.val (.str x)), some (.val d), none, none, none, some (.val (.str ⟨#[c]⟩))]) (ρ3 := [some (.val (.str x)), some (.val d), none, none, none, some (.val (.str ⟨#[c]⟩))]) (y := .bl true) (by simp [Res.bind, mSeq, mNx, mRet, mRetNm, mRetN, mIfS, mNever, mAsg, setR, setV, setO, isPar, mAug, mDrop, mAppend, mExtend, ownL?, ownO, setC, RV.lst?, mSrc, itemsOf, mOp, RV.fz, OB.pv, mBor, mNm, mK, mNew, mBin, mUn, deref, liftO, mANil, mACons, mApp, derefs, vals?, RV.val?, small, mTup, mLst, mCall, lone, avsOf, avOf, backs, findArg, back1, RV.bor?, mTest, RV.bl?, mTruth, truth, mTNot, mTAnd, mTOr, mAndV, mOrV, mNotV, mIf, mChain, mgNm, mAsgT, mgTup, mgCons, mgNil, iop, pAdd, pSub, pMul, pDiv, pMod, pNeg, pLt, pLe, pGt, pGe, pEq, pNe, pAddI, pMulS, pIs, pIsNot, isP, pIn, pNotIn, inP, flatP, cmpOk, cmpOks, eqP, eqPs, pIx, fLen, fAbs, fInt, fMin2, fMax2, fOrd, fList, fTuple, fIsi, tyName, AV.slot, runF, Res.nox, RV.out, outsOf, SV.lent, range1e, range2e, range3e, range4e, isi_NoneType_int, isi_NoneType_bool, isi_NoneType_str, isi_NoneType_tuple, isi_NoneType_list, isi_bool_int, isi_bool_bool, isi_bool_str, isi_bool_tuple, isi_bool_list, isi_int_int, isi_int_bool, isi_int_str, isi_int_tuple, isi_int_list, isi_str_int, isi_str_bool, isi_str_str, isi_str_tuple, isi_str_list, isi_tuple_int, isi_tuple_bool, isi_tuple_str, isi_tuple_tuple, isi_tuple_list, isi_list_int, isi_list_bool, isi_list_str, isi_list_tuple, isi_list_list, isi_dict_int, isi_dict_bool, isi_dict_str, isi_dict_tuple, isi_dict_list]) rfl (call1 (p := .int c) (by simp [Res.bind, mSeq, mNx, mRet, mRetNm, mRetN, mIfS, mNever, mAsg, setR, setV, setO, isPar, mAug, mDrop, mAppend, mExtend, ownL?, ownO, setC, RV.lst?, mSrc, itemsOf, mOp, RV.fz, OB.pv, mBor, mNm, mK, mNew, mBin, mUn, deref, liftO, mANil, mACons, mApp, derefs, vals?, RV.val?, small, mTup, mLst, mCall, lone, avsOf, avOf, backs, findArg, back1, RV.bor?, mTest, RV.bl?, mTruth, truth, mTNot, mTAnd, mTOr, mAndV, mOrV, mNotV, mIf, mChain, mgNm, mAsgT, mgTup, mgCons, mgNil, iop, pAdd, pSub, pMul, pDiv, pMod, pNeg, pLt, pLe, pGt, pGe, pEq, pNe, pAddI, pMulS, pIs, pIsNot, isP, pIn, pNotIn, inP, flatP, cmpOk, cmpOks, eqP, eqPs, pIx, fLen, fAbs, fInt, fMin2, fMax2, fOrd, fList, fTuple, fIsi, tyName, AV.slot, runF, Res.nox, RV.out, outsOf, SV.lent, range1e, range2e, range3e, range4e, isi_NoneType_int, isi_NoneType_bool, isi_NoneType_str, isi_NoneType_tuple, isi_NoneType_list, isi_bool_int, isi_bool_bool, isi_bool_str, isi_bool_tuple, isi_bool_list, isi_int_int, isi_int_bool, isi_int_str, isi_int_tuple, isi_int_list, isi_str_int, isi_str_bool, isi_str_str, isi_str_tuple, isi_str_list, isi_tuple_int, isi_tuple_bool, isi_tuple_str, isi_tuple_tuple, isi_tuple_list, isi_list_int, isi_list_bool, isi_list_str, isi_list_tuple, isi_list_list, isi_dict_int, isi_dict_bool, isi_dict_str, isi_dict_tuple, isi_dict_list, Str.length]) hc)]
        have e2 : wipeE [some (.val (.str x)), some (.val d), none, none, none, some (.val (.str ⟨#[c]⟩))] [5] = [some (.val (.str x)), some (.val d), none, none, none, none] := by simp [wipeE]
        rw [e2, ih hl.2]
        rfl
    exact key _ hx
  · simp [restoreE, keepV]
abbrev bCnt (t : Tb) : MS := mSeq (mAsg 4 (mCall t.counted (mACons (mNm 3) (mACons (mBin pAdd (mBor 1) (mK (.int 1))) mANil))))
    (mSeq (mIfS (mTOr (mTest (mBin pIs (mBor 4) (mK .non))) (mTest (mBin pGt (mBin pAdd (mBor 2) (mBor 4)) (mK (.int 500000))))) (mRet (mK .non)) mNx) (mAug 2 pAddI (mBor 4)))
theorem cnt_loop (v : PV) (d : Nat) : ∀ (xs : List PV) (m : Nat) (a b : Option PV), (∀ x ∈ xs, t.counted [.val x, .val (.int ((d + 1 : Nat) : Int))] = .ok (.val (.int (cnt x)), [none, none])) → m + cnts xs ≤ 500000 →
    ∃ a' b' : Option PV, Pu.forM (mgNm 3) (bCnt t) xs [some (.val v), some (.val (.int d)), some (.val (.int m)), a.map SV.val, b.map SV.val, none] = .ok (.nx, [some (.val v), some (.val (.int d)), some (.val (.int ((m + cnts xs : Nat) : Int))), a'.map SV.val, b'.map SV.val, none])
  | [], m, a, b, _, _ => ⟨a, b, by simp [Pu.forM, cnts]⟩
  | x :: xs, m, a, b, h, hz => by
    rw [show cnts (x :: xs) = cnt x + cnts xs from rfl] at hz
    obtain ⟨a', b', e⟩ := cnt_loop v d xs (m + cnt x) (some x) (some (.int (cnt x))) (fun y hy => h y (List.mem_cons_of_mem _ hy)) (by omega)
    have hx := h x (List.mem_cons_self ..)
    refine ⟨a', b', ?_⟩
    have c1 : ¬ (500000 : Int) < (m : Int) + (cnt x : Int) := by omega
    have c2 : mCall t.counted (mACons (mNm 3) (mACons (mBin pAdd (mBor 1) (mK (.int 1))) mANil)) [some (.val v), some (.val (.int d)), some (.val (.int m)), some (.val x), b.map SV.val, none] = .ok (.val (.int (cnt x)), [some (.val v), some (.val (.int d)), some (.val (.int m)), some (.val x), b.map SV.val, none]) :=
      call2 (p := x) (q := .int ((d + 1 : Nat) : Int)) (ρ1 := [some (.val v), some (.val (.int d)), some (.val (.int m)), some (.val x), b.map SV.val, none]) rfl (by simp [Res.bind, mSeq, mNx, mRet, mRetNm, mRetN, mIfS, mNever, mAsg, setR, setV, setO, isPar, mAug, mDrop, mAppend, mExtend, ownL?, ownO, setC, RV.lst?, mSrc, itemsOf, mOp, RV.fz, OB.pv, mBor, mNm, mK, mNew, mBin, mUn, deref, liftO, mANil, mACons, mApp, derefs, vals?, RV.val?, small, mTup, mLst, mCall, lone, avsOf, avOf, backs, findArg, back1, RV.bor?, mTest, RV.bl?, mTruth, truth, mTNot, mTAnd, mTOr, mAndV, mOrV, mNotV, mIf, mChain, mgNm, mAsgT, mgTup, mgCons, mgNil, iop, pAdd, pSub, pMul, pDiv, pMod, pNeg, pLt, pLe, pGt, pGe, pEq, pNe, pAddI, pMulS, pIs, pIsNot, isP, pIn, pNotIn, inP, flatP, cmpOk, cmpOks, eqP, eqPs, pIx, fLen, fAbs, fInt, fMin2, fMax2, fOrd, fList, fTuple, fIsi, tyName, AV.slot, runF, Res.nox, RV.out, outsOf, SV.lent, range1e, range2e, range3e, range4e, isi_NoneType_int, isi_NoneType_bool, isi_NoneType_str, isi_NoneType_tuple, isi_NoneType_list, isi_bool_int, isi_bool_bool, isi_bool_str, isi_bool_tuple, isi_bool_list, isi_int_int, isi_int_bool, isi_int_str, isi_int_tuple, isi_int_list, isi_str_int, isi_str_bool, isi_str_str, isi_str_tuple, isi_str_list, isi_tuple_int, isi_tuple_bool, isi_tuple_str, isi_tuple_tuple, isi_tuple_list, isi_list_int, isi_list_bool, isi_list_str, isi_list_tuple, isi_list_list, isi_dict_int, isi_dict_bool, isi_dict_str, isi_dict_tuple, isi_dict_list]) hx
    rw [for_cons (ρ1 := [some (.val v), some (.val (.int d)), some (.val (.int m)), some (.val x), b.map SV.val, none]) (ρ2 := [some (.val v), some (.val (.int d)), some (.val (.int ((m + cnt x : Nat) : Int))), some (.val x), some (.val (.int (cnt x))), none]) (by cases a <;> rfl) ?_]
    · refine e.trans ?_
      rw [show m + cnt x + cnts xs = m + cnts (x :: xs) by rw [show cnts (x :: xs) = cnt x + cnts xs from rfl]; omega]
    · refine (seq_nx (asg_of c2 (ρ2 := [some (.val v), some (.val (.int d)), some (.val (.int m)), some (.val x), some (.val (.int (cnt x))), none]) (by cases b <;> rfl))).trans ?_
      simp [Res.bind, mSeq, mNx, mRet, mRetNm, mRetN, mIfS, mNever, mAsg, setR, setV, setO, isPar, mAug, mDrop, mAppend, mExtend, ownL?, ownO, setC, RV.lst?, mSrc, itemsOf, mOp, RV.fz, OB.pv, mBor, mNm, mK, mNew, mBin, mUn, deref, liftO, mANil, mACons, mApp, derefs, vals?, RV.val?, small, mTup, mLst, mCall, lone, avsOf, avOf, backs, findArg, back1, RV.bor?, mTest, RV.bl?, mTruth, truth, mTNot, mTAnd, mTOr, mAndV, mOrV, mNotV, mIf, mChain, mgNm, mAsgT, mgTup, mgCons, mgNil, iop, pAdd, pSub, pMul, pDiv, pMod, pNeg, pLt, pLe, pGt, pGe, pEq, pNe, pAddI, pMulS, pIs, pIsNot, isP, pIn, pNotIn, inP, flatP, cmpOk, cmpOks, eqP, eqPs, pIx, fLen, fAbs, fInt, fMin2, fMax2, fOrd, fList, fTuple, fIsi, tyName, AV.slot, runF, Res.nox, RV.out, outsOf, SV.lent, range1e, range2e, range3e, range4e, isi_NoneType_int, isi_NoneType_bool, isi_NoneType_str, isi_NoneType_tuple, isi_NoneType_list, isi_bool_int, isi_bool_bool, isi_bool_str, isi_bool_tuple, isi_bool_list, isi_int_int, isi_int_bool, isi_int_str, isi_int_tuple, isi_int_list, isi_str_int, isi_str_bool, isi_str_str, isi_str_tuple, isi_str_list, isi_tuple_int, isi_tuple_bool, isi_tuple_str, isi_tuple_tuple, isi_tuple_list, isi_list_int, isi_list_bool, isi_list_str, isi_list_tuple, isi_list_list, isi_dict_int, isi_dict_bool, isi_dict_str, isi_dict_tuple, isi_dict_list, c1]
theorem counted_step (hf : FewOk t.few_digits) (hs : SignOk t.is_sign) : ∀ (n d : Nat) (v : PV), okV n v = true → n + d = 60 → cnt v ≤ 500000 → (∀ xs, v = .tup xs → ∀ x ∈ xs, t.counted [.val x, .val (.int ((d + 1 : Nat) : Int))] = .ok (.val (.int (cnt x)), [none, none])) →
    (stepT C t).counted [.val v, .val (.int d)] = .ok (.val (.int (cnt v)), [none, none]) := by
  intro n d v ok hn hz hx
  cases v with
  | non => simp [Res.bind, mSeq, mNx, mRet, mRetNm, mRetN, mIfS, mNever, mAsg, setR, setV, setO, isPar, mAug, mDrop, mAppend, mExtend, ownL?, ownO, setC, RV.lst?, mSrc, itemsOf, mOp, RV.fz, OB.pv, mBor, mNm, mK, mNew, mBin, mUn, deref, liftO, mANil, mACons, mApp, derefs, vals?, RV.val?, small, mTup, mLst, mCall, lone, avsOf, avOf, backs, findArg, back1, RV.bor?, mTest, RV.bl?, mTruth, truth, mTNot, mTAnd, mTOr, mAndV, mOrV, mNotV, mIf, mChain, mgNm, mAsgT, mgTup, mgCons, mgNil, iop, pAdd, pSub, pMul, pDiv, pMod, pNeg, pLt, pLe, pGt, pGe, pEq, pNe, pAddI, pMulS, pIs, pIsNot, isP, pIn, pNotIn, inP, flatP, cmpOk, cmpOks, eqP, eqPs, pIx, fLen, fAbs, fInt, fMin2, fMax2, fOrd, fList, fTuple, fIsi, tyName, AV.slot, runF, Res.nox, RV.out, outsOf, SV.lent, range1e, range2e, range3e, range4e, isi_NoneType_int, isi_NoneType_bool, isi_NoneType_str, isi_NoneType_tuple, isi_NoneType_list, isi_bool_int, isi_bool_bool, isi_bool_str, isi_bool_tuple, isi_bool_list, isi_int_int, isi_int_bool, isi_int_str, isi_int_tuple, isi_int_list, isi_str_int, isi_str_bool, isi_str_str, isi_str_tuple, isi_str_list, isi_tuple_int, isi_tuple_bool, isi_tuple_str, isi_tuple_tuple, isi_tuple_list, isi_list_int, isi_list_bool, isi_list_str, isi_list_tuple, isi_list_list, isi_dict_int, isi_dict_bool, isi_dict_str, isi_dict_tuple, isi_dict_list, stepT, b_counted, cnt]
  | bl b => simp [Res.bind, mSeq, mNx, mRet, mRetNm, mRetN, mIfS, mNever, mAsg, setR, setV, setO, isPar, mAug, mDrop, mAppend, mExtend, ownL?, ownO, setC, RV.lst?, mSrc, itemsOf, mOp, RV.fz, OB.pv, mBor, mNm, mK, mNew, mBin, mUn, deref, liftO, mANil, mACons, mApp, derefs, vals?, RV.val?, small, mTup, mLst, mCall, lone, avsOf, avOf, backs, findArg, back1, RV.bor?, mTest, RV.bl?, mTruth, truth, mTNot, mTAnd, mTOr, mAndV, mOrV, mNotV, mIf, mChain, mgNm, mAsgT, mgTup, mgCons, mgNil, iop, pAdd, pSub, pMul, pDiv, pMod, pNeg, pLt, pLe, pGt, pGe, pEq, pNe, pAddI, pMulS, pIs, pIsNot, isP, pIn, pNotIn, inP, flatP, cmpOk, cmpOks, eqP, eqPs, pIx, fLen, fAbs, fInt, fMin2, fMax2, fOrd, fList, fTuple, fIsi, tyName, AV.slot, runF, Res.nox, RV.out, outsOf, SV.lent, range1e, range2e, range3e, range4e, isi_NoneType_int, isi_NoneType_bool, isi_NoneType_str, isi_NoneType_tuple, isi_NoneType_list, isi_bool_int, isi_bool_bool, isi_bool_str, isi_bool_tuple, isi_bool_list, isi_int_int, isi_int_bool, isi_int_str, isi_int_tuple, isi_int_list, isi_str_int, isi_str_bool, isi_str_str, isi_str_tuple, isi_str_list, isi_tuple_int, isi_tuple_bool, isi_tuple_str, isi_tuple_tuple, isi_tuple_list, isi_list_int, isi_list_bool, isi_list_str, isi_list_tuple, isi_list_list, isi_dict_int, isi_dict_bool, isi_dict_str, isi_dict_tuple, isi_dict_list, stepT, b_counted, cnt]
  | int i =>
    have ok0 : okV 0 (.int i) = true := by
      unfold okV at ok ⊢
      exact ok
    obtain ⟨h1, h2⟩ := int950 ok0
    have fin : mCall t.few_digits (mACons (mIf (mTest (mBin pGe (mBor 0) (mK (.int 0)))) (mNm 0) (mBin pSub (mUn pNeg (mBor 0)) (mK (.int 1)))) mANil) [some (.val (.int i)), some (.val (.int d)), none, none, none, none] = .ok (.val (.bl true), [some (.val (.int i)), some (.val (.int d)), none, none, none, none]) := by
      by_cases hi : 0 ≤ i
      · have e : i = ((i.toNat : Nat) : Int) := by omega
        have hc := hf i.toNat (h1 hi)
        rw [← e] at hc
        exact call1 (p := .int i) ((mif_t (ρ1 := [some (.val (.int i)), some (.val (.int d)), none, none, none, none]) (by simp [Res.bind, mSeq, mNx, mRet, mRetNm, mRetN, mIfS, mNever, mAsg, setR, setV, setO, isPar, mAug, mDrop, mAppend, mExtend, ownL?, ownO, setC, RV.lst?, mSrc, itemsOf, mOp, RV.fz, OB.pv, mBor, mNm, mK, mNew, mBin, mUn, deref, liftO, mANil, mACons, mApp, derefs, vals?, RV.val?, small, mTup, mLst, mCall, lone, avsOf, avOf, backs, findArg, back1, RV.bor?, mTest, RV.bl?, mTruth, truth, mTNot, mTAnd, mTOr, mAndV, mOrV, mNotV, mIf, mChain, mgNm, mAsgT, mgTup, mgCons, mgNil, iop, pAdd, pSub, pMul, pDiv, pMod, pNeg, pLt, pLe, pGt, pGe, pEq, pNe, pAddI, pMulS, pIs, pIsNot, isP, pIn, pNotIn, inP, flatP, cmpOk, cmpOks, eqP, eqPs, pIx, fLen, fAbs, fInt, fMin2, fMax2, fOrd, fList, fTuple, fIsi, tyName, AV.slot, runF, Res.nox, RV.out, outsOf, SV.lent, range1e, range2e, range3e, range4e, isi_NoneType_int, isi_NoneType_bool, isi_NoneType_str, isi_NoneType_tuple, isi_NoneType_list, isi_bool_int, isi_bool_bool, isi_bool_str, isi_bool_tuple, isi_bool_list, isi_int_int, isi_int_bool, isi_int_str, isi_int_tuple, isi_int_list, isi_str_int, isi_str_bool, isi_str_str, isi_str_tuple, isi_str_list, isi_tuple_int, isi_tuple_bool, isi_tuple_str, isi_tuple_tuple, isi_tuple_list, isi_list_int, isi_list_bool, isi_list_str, isi_list_tuple, isi_list_list, isi_dict_int, isi_dict_bool, isi_dict_str, isi_dict_tuple, isi_dict_list, hi])).trans rfl) hc
      · have e : -i - 1 = (((-i - 1).toNat : Nat) : Int) := by omega
        have hc := hf (-i - 1).toNat (h2 hi)
        rw [← e] at hc
        exact call1 (p := .int (-i - 1)) ((mif_f (ρ1 := [some (.val (.int i)), some (.val (.int d)), none, none, none, none]) (by simp [Res.bind, mSeq, mNx, mRet, mRetNm, mRetN, mIfS, mNever, mAsg, setR, setV, setO, isPar, mAug, mDrop, mAppend, mExtend, ownL?, ownO, setC, RV.lst?, mSrc, itemsOf, mOp, RV.fz, OB.pv, mBor, mNm, mK, mNew, mBin, mUn, deref, liftO, mANil, mACons, mApp, derefs, vals?, RV.val?, small, mTup, mLst, mCall, lone, avsOf, avOf, backs, findArg, back1, RV.bor?, mTest, RV.bl?, mTruth, truth, mTNot, mTAnd, mTOr, mAndV, mOrV, mNotV, mIf, mChain, mgNm, mAsgT, mgTup, mgCons, mgNil, iop, pAdd, pSub, pMul, pDiv, pMod, pNeg, pLt, pLe, pGt, pGe, pEq, pNe, pAddI, pMulS, pIs, pIsNot, isP, pIn, pNotIn, inP, flatP, cmpOk, cmpOks, eqP, eqPs, pIx, fLen, fAbs, fInt, fMin2, fMax2, fOrd, fList, fTuple, fIsi, tyName, AV.slot, runF, Res.nox, RV.out, outsOf, SV.lent, range1e, range2e, range3e, range4e, isi_NoneType_int, isi_NoneType_bool, isi_NoneType_str, isi_NoneType_tuple, isi_NoneType_list, isi_bool_int, isi_bool_bool, isi_bool_str, isi_bool_tuple, isi_bool_list, isi_int_int, isi_int_bool, isi_int_str, isi_int_tuple, isi_int_list, isi_str_int, isi_str_bool, isi_str_str, isi_str_tuple, isi_str_list, isi_tuple_int, isi_tuple_bool, isi_tuple_str, isi_tuple_tuple, isi_tuple_list, isi_list_int, isi_list_bool, isi_list_str, isi_list_tuple, isi_list_list, isi_dict_int, isi_dict_bool, isi_dict_str, isi_dict_tuple, isi_dict_list, hi])).trans (by simp [Res.bind, mSeq, mNx, mRet, mRetNm, mRetN, mIfS, mNever, mAsg, setR, setV, setO, isPar, mAug, mDrop, mAppend, mExtend, ownL?, ownO, setC, RV.lst?, mSrc, itemsOf, mOp, RV.fz, OB.pv, mBor, mNm, mK, mNew, mBin, mUn, deref, liftO, mANil, mACons, mApp, derefs, vals?, RV.val?, small, mTup, mLst, mCall, lone, avsOf, avOf, backs, findArg, back1, RV.bor?, mTest, RV.bl?, mTruth, truth, mTNot, mTAnd, mTOr, mAndV, mOrV, mNotV, mIf, mChain, mgNm, mAsgT, mgTup, mgCons, mgNil, iop, pAdd, pSub, pMul, pDiv, pMod, pNeg, pLt, pLe, pGt, pGe, pEq, pNe, pAddI, pMulS, pIs, pIsNot, isP, pIn, pNotIn, inP, flatP, cmpOk, cmpOks, eqP, eqPs, pIx, fLen, fAbs, fInt, fMin2, fMax2, fOrd, fList, fTuple, fIsi, tyName, AV.slot, runF, Res.nox, RV.out, outsOf, SV.lent, range1e, range2e, range3e, range4e, isi_NoneType_int, isi_NoneType_bool, isi_NoneType_str, isi_NoneType_tuple, isi_NoneType_list, isi_bool_int, isi_bool_bool, isi_bool_str, isi_bool_tuple, isi_bool_list, isi_int_int, isi_int_bool, isi_int_str, isi_int_tuple, isi_int_list, isi_str_int, isi_str_bool, isi_str_str, isi_str_tuple, isi_str_list, isi_tuple_int, isi_tuple_bool, isi_tuple_str, isi_tuple_tuple, isi_tuple_list, isi_list_int, isi_list_bool, isi_list_str, isi_list_tuple, isi_list_list, isi_dict_int, isi_dict_bool, isi_dict_str, isi_dict_tuple, isi_dict_list])) hc
    refine run_rt (r := .val (.int 1)) (ρ1 := [some (.val (.int i)), some (.val (.int d)), none, none, none, none]) [some (.val (.int i)), some (.val (.int d)), none, none, none, none] rfl ?_ rfl
    refine (seq_nx (ρ1 := [some (.val (.int i)), some (.val (.int d)), none, none, none, none]) (by simp [Res.bind, mSeq, mNx, mRet, mRetNm, mRetN, mIfS, mNever, mAsg, setR, setV, setO, isPar, mAug, mDrop, mAppend, mExtend, ownL?, ownO, setC, RV.lst?, mSrc, itemsOf, mOp, RV.fz, OB.pv, mBor, mNm, mK, mNew, mBin, mUn, deref, liftO, mANil, mACons, mApp, derefs, vals?, RV.val?, small, mTup, mLst, mCall, lone, avsOf, avOf, backs, findArg, back1, RV.bor?, mTest, RV.bl?, mTruth, truth, mTNot, mTAnd, mTOr, mAndV, mOrV, mNotV, mIf, mChain, mgNm, mAsgT, mgTup, mgCons, mgNil, iop, pAdd, pSub, pMul, pDiv, pMod, pNeg, pLt, pLe, pGt, pGe, pEq, pNe, pAddI, pMulS, pIs, pIsNot, isP, pIn, pNotIn, inP, flatP, cmpOk, cmpOks, eqP, eqPs, pIx, fLen, fAbs, fInt, fMin2, fMax2, fOrd, fList, fTuple, fIsi, tyName, AV.slot, runF, Res.nox, RV.out, outsOf, SV.lent, range1e, range2e, range3e, range4e, isi_NoneType_int, isi_NoneType_bool, isi_NoneType_str, isi_NoneType_tuple, isi_NoneType_list, isi_bool_int, isi_bool_bool, isi_bool_str, isi_bool_tuple, isi_bool_list, isi_int_int, isi_int_bool, isi_int_str, isi_int_tuple, isi_int_list, isi_str_int, isi_str_bool, isi_str_str, isi_str_tuple, isi_str_list, isi_tuple_int, isi_tuple_bool, isi_tuple_str, isi_tuple_tuple, isi_tuple_list, isi_list_int, isi_list_bool, isi_list_str, isi_list_tuple, isi_list_list, isi_dict_int, isi_dict_bool, isi_dict_str, isi_dict_tuple, isi_dict_list])).trans ?_
    refine seq_rt ((ifs_t (ρ1 := [some (.val (.int i)), some (.val (.int d)), none, none, none, none]) (by simp [Res.bind, mSeq, mNx, mRet, mRetNm, mRetN, mIfS, mNever, mAsg, setR, setV, setO, isPar, mAug, mDrop, mAppend, mExtend, ownL?, ownO, setC, RV.lst?, mSrc, itemsOf, mOp, RV.fz, OB.pv, mBor, mNm, mK, mNew, mBin, mUn, deref, liftO, mANil, mACons, mApp, derefs, vals?, RV.val?, small, mTup, mLst, mCall, lone, avsOf, avOf, backs, findArg, back1, RV.bor?, mTest, RV.bl?, mTruth, truth, mTNot, mTAnd, mTOr, mAndV, mOrV, mNotV, mIf, mChain, mgNm, mAsgT, mgTup, mgCons, mgNil, iop, pAdd, pSub, pMul, pDiv, pMod, pNeg, pLt, pLe, pGt, pGe, pEq, pNe, pAddI, pMulS, pIs, pIsNot, isP, pIn, pNotIn, inP, flatP, cmpOk, cmpOks, eqP, eqPs, pIx, fLen, fAbs, fInt, fMin2, fMax2, fOrd, fList, fTuple, fIsi, tyName, AV.slot, runF, Res.nox, RV.out, outsOf, SV.lent, range1e, range2e, range3e, range4e, isi_NoneType_int, isi_NoneType_bool, isi_NoneType_str, isi_NoneType_tuple, isi_NoneType_list, isi_bool_int, isi_bool_bool, isi_bool_str, isi_bool_tuple, isi_bool_list, isi_int_int, isi_int_bool, isi_int_str, isi_int_tuple, isi_int_list, isi_str_int, isi_str_bool, isi_str_str, isi_str_tuple, isi_str_list, isi_tuple_int, isi_tuple_bool, isi_tuple_str, isi_tuple_tuple, isi_tuple_list, isi_list_int, isi_list_bool, isi_list_str, isi_list_tuple, isi_list_list, isi_dict_int, isi_dict_bool, isi_dict_str, isi_dict_tuple, isi_dict_list])).trans (ret_of ?_))
    exact (mif_t (truth_of' fin rfl)).trans rfl
  | str x =>
    unfold okV at ok
    rw [Bool.and_eq_true] at ok
    have hl := of_decide_eq_true ok.1
    have sz : szOk x.length = true := szOk_of (by omega)
    have hl' : (x.length : Int) ≤ 20000 := by omega
    refine run_rt (r := .val (.int 1)) (ρ1 := [some (.val (.str x)), some (.val (.int d)), none, none, none, none]) [some (.val (.str x)), some (.val (.int d)), none, none, none, none] rfl ?_ rfl
    refine (seq_nx (ρ1 := [some (.val (.str x)), some (.val (.int d)), none, none, none, none]) (by simp [Res.bind, mSeq, mNx, mRet, mRetNm, mRetN, mIfS, mNever, mAsg, setR, setV, setO, isPar, mAug, mDrop, mAppend, mExtend, ownL?, ownO, setC, RV.lst?, mSrc, itemsOf, mOp, RV.fz, OB.pv, mBor, mNm, mK, mNew, mBin, mUn, deref, liftO, mANil, mACons, mApp, derefs, vals?, RV.val?, small, mTup, mLst, mCall, lone, avsOf, avOf, backs, findArg, back1, RV.bor?, mTest, RV.bl?, mTruth, truth, mTNot, mTAnd, mTOr, mAndV, mOrV, mNotV, mIf, mChain, mgNm, mAsgT, mgTup, mgCons, mgNil, iop, pAdd, pSub, pMul, pDiv, pMod, pNeg, pLt, pLe, pGt, pGe, pEq, pNe, pAddI, pMulS, pIs, pIsNot, isP, pIn, pNotIn, inP, flatP, cmpOk, cmpOks, eqP, eqPs, pIx, fLen, fAbs, fInt, fMin2, fMax2, fOrd, fList, fTuple, fIsi, tyName, AV.slot, runF, Res.nox, RV.out, outsOf, SV.lent, range1e, range2e, range3e, range4e, isi_NoneType_int, isi_NoneType_bool, isi_NoneType_str, isi_NoneType_tuple, isi_NoneType_list, isi_bool_int, isi_bool_bool, isi_bool_str, isi_bool_tuple, isi_bool_list, isi_int_int, isi_int_bool, isi_int_str, isi_int_tuple, isi_int_list, isi_str_int, isi_str_bool, isi_str_str, isi_str_tuple, isi_str_list, isi_tuple_int, isi_tuple_bool, isi_tuple_str, isi_tuple_tuple, isi_tuple_list, isi_list_int, isi_list_bool, isi_list_str, isi_list_tuple, isi_list_list, isi_dict_int, isi_dict_bool, isi_dict_str, isi_dict_tuple, isi_dict_list])).trans ?_
    refine (seq_nx (ρ1 := [some (.val (.str x)), some (.val (.int d)), none, none, none, none]) (by simp [Res.bind, mSeq, mNx, mRet, mRetNm, mRetN, mIfS, mNever, mAsg, setR, setV, setO, isPar, mAug, mDrop, mAppend, mExtend, ownL?, ownO, setC, RV.lst?, mSrc, itemsOf, mOp, RV.fz, OB.pv, mBor, mNm, mK, mNew, mBin, mUn, deref, liftO, mANil, mACons, mApp, derefs, vals?, RV.val?, small, mTup, mLst, mCall, lone, avsOf, avOf, backs, findArg, back1, RV.bor?, mTest, RV.bl?, mTruth, truth, mTNot, mTAnd, mTOr, mAndV, mOrV, mNotV, mIf, mChain, mgNm, mAsgT, mgTup, mgCons, mgNil, iop, pAdd, pSub, pMul, pDiv, pMod, pNeg, pLt, pLe, pGt, pGe, pEq, pNe, pAddI, pMulS, pIs, pIsNot, isP, pIn, pNotIn, inP, flatP, cmpOk, cmpOks, eqP, eqPs, pIx, fLen, fAbs, fInt, fMin2, fMax2, fOrd, fList, fTuple, fIsi, tyName, AV.slot, runF, Res.nox, RV.out, outsOf, SV.lent, range1e, range2e, range3e, range4e, isi_NoneType_int, isi_NoneType_bool, isi_NoneType_str, isi_NoneType_tuple, isi_NoneType_list, isi_bool_int, isi_bool_bool, isi_bool_str, isi_bool_tuple, isi_bool_list, isi_int_int, isi_int_bool, isi_int_str, isi_int_tuple, isi_int_list, isi_str_int, isi_str_bool, isi_str_str, isi_str_tuple, isi_str_list, isi_tuple_int, isi_tuple_bool, isi_tuple_str, isi_tuple_tuple, isi_tuple_list, isi_list_int, isi_list_bool, isi_list_str, isi_list_tuple, isi_list_list, isi_dict_int, isi_dict_bool, isi_dict_str, isi_dict_tuple, isi_dict_list])).trans ?_
    refine seq_rt ((ifs_t (ρ1 := [some (.val (.str x)), some (.val (.int d)), none, none, none, none]) (by simp [Res.bind, mSeq, mNx, mRet, mRetNm, mRetN, mIfS, mNever, mAsg, setR, setV, setO, isPar, mAug, mDrop, mAppend, mExtend, ownL?, ownO, setC, RV.lst?, mSrc, itemsOf, mOp, RV.fz, OB.pv, mBor, mNm, mK, mNew, mBin, mUn, deref, liftO, mANil, mACons, mApp, derefs, vals?, RV.val?, small, mTup, mLst, mCall, lone, avsOf, avOf, backs, findArg, back1, RV.bor?, mTest, RV.bl?, mTruth, truth, mTNot, mTAnd, mTOr, mAndV, mOrV, mNotV, mIf, mChain, mgNm, mAsgT, mgTup, mgCons, mgNil, iop, pAdd, pSub, pMul, pDiv, pMod, pNeg, pLt, pLe, pGt, pGe, pEq, pNe, pAddI, pMulS, pIs, pIsNot, isP, pIn, pNotIn, inP, flatP, cmpOk, cmpOks, eqP, eqPs, pIx, fLen, fAbs, fInt, fMin2, fMax2, fOrd, fList, fTuple, fIsi, tyName, AV.slot, runF, Res.nox, RV.out, outsOf, SV.lent, range1e, range2e, range3e, range4e, isi_NoneType_int, isi_NoneType_bool, isi_NoneType_str, isi_NoneType_tuple, isi_NoneType_list, isi_bool_int, isi_bool_bool, isi_bool_str, isi_bool_tuple, isi_bool_list, isi_int_int, isi_int_bool, isi_int_str, isi_int_tuple, isi_int_list, isi_str_int, isi_str_bool, isi_str_str, isi_str_tuple, isi_str_list, isi_tuple_int, isi_tuple_bool, isi_tuple_str, isi_tuple_tuple, isi_tuple_list, isi_list_int, isi_list_bool, isi_list_str, isi_list_tuple, isi_list_list, isi_dict_int, isi_dict_bool, isi_dict_str, isi_dict_tuple, isi_dict_list])).trans (ret_of ?_))
    refine (mif_t (ρ1 := [some (.val (.str x)), some (.val (.int d)), none, none, none, none]) ?_).trans rfl
    refine (tand_t (ρ1 := [some (.val (.str x)), some (.val (.int d)), none, none, none, none]) (by simp [Res.bind, mSeq, mNx, mRet, mRetNm, mRetN, mIfS, mNever, mAsg, setR, setV, setO, isPar, mAug, mDrop, mAppend, mExtend, ownL?, ownO, setC, RV.lst?, mSrc, itemsOf, mOp, RV.fz, OB.pv, mBor, mNm, mK, mNew, mBin, mUn, deref, liftO, mANil, mACons, mApp, derefs, vals?, RV.val?, small, mTup, mLst, mCall, lone, avsOf, avOf, backs, findArg, back1, RV.bor?, mTest, RV.bl?, mTruth, truth, mTNot, mTAnd, mTOr, mAndV, mOrV, mNotV, mIf, mChain, mgNm, mAsgT, mgTup, mgCons, mgNil, iop, pAdd, pSub, pMul, pDiv, pMod, pNeg, pLt, pLe, pGt, pGe, pEq, pNe, pAddI, pMulS, pIs, pIsNot, isP, pIn, pNotIn, inP, flatP, cmpOk, cmpOks, eqP, eqPs, pIx, fLen, fAbs, fInt, fMin2, fMax2, fOrd, fList, fTuple, fIsi, tyName, AV.slot, runF, Res.nox, RV.out, outsOf, SV.lent, range1e, range2e, range3e, range4e, isi_NoneType_int, isi_NoneType_bool, isi_NoneType_str, isi_NoneType_tuple, isi_NoneType_list, isi_bool_int, isi_bool_bool, isi_bool_str, isi_bool_tuple, isi_bool_list, isi_int_int, isi_int_bool, isi_int_str, isi_int_tuple, isi_int_list, isi_str_int, isi_str_bool, isi_str_str, isi_str_tuple, isi_str_list, isi_tuple_int, isi_tuple_bool, isi_tuple_str, isi_tuple_tuple, isi_tuple_list, isi_list_int, isi_list_bool, isi_list_str, isi_list_tuple, isi_list_list, isi_dict_int, isi_dict_bool, isi_dict_str, isi_dict_tuple, isi_dict_list, sz, hl'])).trans ?_
    have l := sgn_lc hs x (.int d) (by omega) ok.2
    refine truth_of' (app1n (r := .val (.bl true)) l ?_) rfl
    show (blsOf (List.replicate x.cps.toList.length (.bl true))).map _ = _
    rw [bls_true]
    simp
  | tup xs =>
    cases n with
    | zero => unfold okV at ok; cases ok
    | succ n =>
      unfold okV at ok
      rw [Bool.and_eq_true] at ok
      have hl := of_decide_eq_true ok.1
      have hl' : ¬ (50000 : Int) < (xs.length : Int) := by omega
      have hd : ¬ (d : Int) = 60 := by omega
      unfold cnt at hz
      obtain ⟨a', b', e⟩ := cnt_loop (t := t) (.tup xs) d xs 1 none none (hx xs rfl) hz
      refine run_rt (r := .val (.int (cnt (.tup xs)))) (ρ1 := [some (.val (.tup xs)), some (.val (.int d)), some (.val (.int ((1 + cnts xs : Nat) : Int))), a'.map SV.val, b'.map SV.val, none]) [some (.val (.tup xs)), some (.val (.int d)), none, none, none, none] rfl ?_ rfl
      refine (seq_nx (ρ1 := [some (.val (.tup xs)), some (.val (.int d)), none, none, none, none]) (by simp [Res.bind, mSeq, mNx, mRet, mRetNm, mRetN, mIfS, mNever, mAsg, setR, setV, setO, isPar, mAug, mDrop, mAppend, mExtend, ownL?, ownO, setC, RV.lst?, mSrc, itemsOf, mOp, RV.fz, OB.pv, mBor, mNm, mK, mNew, mBin, mUn, deref, liftO, mANil, mACons, mApp, derefs, vals?, RV.val?, small, mTup, mLst, mCall, lone, avsOf, avOf, backs, findArg, back1, RV.bor?, mTest, RV.bl?, mTruth, truth, mTNot, mTAnd, mTOr, mAndV, mOrV, mNotV, mIf, mChain, mgNm, mAsgT, mgTup, mgCons, mgNil, iop, pAdd, pSub, pMul, pDiv, pMod, pNeg, pLt, pLe, pGt, pGe, pEq, pNe, pAddI, pMulS, pIs, pIsNot, isP, pIn, pNotIn, inP, flatP, cmpOk, cmpOks, eqP, eqPs, pIx, fLen, fAbs, fInt, fMin2, fMax2, fOrd, fList, fTuple, fIsi, tyName, AV.slot, runF, Res.nox, RV.out, outsOf, SV.lent, range1e, range2e, range3e, range4e, isi_NoneType_int, isi_NoneType_bool, isi_NoneType_str, isi_NoneType_tuple, isi_NoneType_list, isi_bool_int, isi_bool_bool, isi_bool_str, isi_bool_tuple, isi_bool_list, isi_int_int, isi_int_bool, isi_int_str, isi_int_tuple, isi_int_list, isi_str_int, isi_str_bool, isi_str_str, isi_str_tuple, isi_str_list, isi_tuple_int, isi_tuple_bool, isi_tuple_str, isi_tuple_tuple, isi_tuple_list, isi_list_int, isi_list_bool, isi_list_str, isi_list_tuple, isi_list_list, isi_dict_int, isi_dict_bool, isi_dict_str, isi_dict_tuple, isi_dict_list])).trans ?_
      refine (seq_nx (ρ1 := [some (.val (.tup xs)), some (.val (.int d)), none, none, none, none]) (by simp [Res.bind, mSeq, mNx, mRet, mRetNm, mRetN, mIfS, mNever, mAsg, setR, setV, setO, isPar, mAug, mDrop, mAppend, mExtend, ownL?, ownO, setC, RV.lst?, mSrc, itemsOf, mOp, RV.fz, OB.pv, mBor, mNm, mK, mNew, mBin, mUn, deref, liftO, mANil, mACons, mApp, derefs, vals?, RV.val?, small, mTup, mLst, mCall, lone, avsOf, avOf, backs, findArg, back1, RV.bor?, mTest, RV.bl?, mTruth, truth, mTNot, mTAnd, mTOr, mAndV, mOrV, mNotV, mIf, mChain, mgNm, mAsgT, mgTup, mgCons, mgNil, iop, pAdd, pSub, pMul, pDiv, pMod, pNeg, pLt, pLe, pGt, pGe, pEq, pNe, pAddI, pMulS, pIs, pIsNot, isP, pIn, pNotIn, inP, flatP, cmpOk, cmpOks, eqP, eqPs, pIx, fLen, fAbs, fInt, fMin2, fMax2, fOrd, fList, fTuple, fIsi, tyName, AV.slot, runF, Res.nox, RV.out, outsOf, SV.lent, range1e, range2e, range3e, range4e, isi_NoneType_int, isi_NoneType_bool, isi_NoneType_str, isi_NoneType_tuple, isi_NoneType_list, isi_bool_int, isi_bool_bool, isi_bool_str, isi_bool_tuple, isi_bool_list, isi_int_int, isi_int_bool, isi_int_str, isi_int_tuple, isi_int_list, isi_str_int, isi_str_bool, isi_str_str, isi_str_tuple, isi_str_list, isi_tuple_int, isi_tuple_bool, isi_tuple_str, isi_tuple_tuple, isi_tuple_list, isi_list_int, isi_list_bool, isi_list_str, isi_list_tuple, isi_list_list, isi_dict_int, isi_dict_bool, isi_dict_str, isi_dict_tuple, isi_dict_list])).trans ?_
      refine (seq_nx (ρ1 := [some (.val (.tup xs)), some (.val (.int d)), none, none, none, none]) (by simp [Res.bind, mSeq, mNx, mRet, mRetNm, mRetN, mIfS, mNever, mAsg, setR, setV, setO, isPar, mAug, mDrop, mAppend, mExtend, ownL?, ownO, setC, RV.lst?, mSrc, itemsOf, mOp, RV.fz, OB.pv, mBor, mNm, mK, mNew, mBin, mUn, deref, liftO, mANil, mACons, mApp, derefs, vals?, RV.val?, small, mTup, mLst, mCall, lone, avsOf, avOf, backs, findArg, back1, RV.bor?, mTest, RV.bl?, mTruth, truth, mTNot, mTAnd, mTOr, mAndV, mOrV, mNotV, mIf, mChain, mgNm, mAsgT, mgTup, mgCons, mgNil, iop, pAdd, pSub, pMul, pDiv, pMod, pNeg, pLt, pLe, pGt, pGe, pEq, pNe, pAddI, pMulS, pIs, pIsNot, isP, pIn, pNotIn, inP, flatP, cmpOk, cmpOks, eqP, eqPs, pIx, fLen, fAbs, fInt, fMin2, fMax2, fOrd, fList, fTuple, fIsi, tyName, AV.slot, runF, Res.nox, RV.out, outsOf, SV.lent, range1e, range2e, range3e, range4e, isi_NoneType_int, isi_NoneType_bool, isi_NoneType_str, isi_NoneType_tuple, isi_NoneType_list, isi_bool_int, isi_bool_bool, isi_bool_str, isi_bool_tuple, isi_bool_list, isi_int_int, isi_int_bool, isi_int_str, isi_int_tuple, isi_int_list, isi_str_int, isi_str_bool, isi_str_str, isi_str_tuple, isi_str_list, isi_tuple_int, isi_tuple_bool, isi_tuple_str, isi_tuple_tuple, isi_tuple_list, isi_list_int, isi_list_bool, isi_list_str, isi_list_tuple, isi_list_list, isi_dict_int, isi_dict_bool, isi_dict_str, isi_dict_tuple, isi_dict_list])).trans ?_
      refine (seq_nx (ρ1 := [some (.val (.tup xs)), some (.val (.int d)), none, none, none, none]) (by simp [Res.bind, mSeq, mNx, mRet, mRetNm, mRetN, mIfS, mNever, mAsg, setR, setV, setO, isPar, mAug, mDrop, mAppend, mExtend, ownL?, ownO, setC, RV.lst?, mSrc, itemsOf, mOp, RV.fz, OB.pv, mBor, mNm, mK, mNew, mBin, mUn, deref, liftO, mANil, mACons, mApp, derefs, vals?, RV.val?, small, mTup, mLst, mCall, lone, avsOf, avOf, backs, findArg, back1, RV.bor?, mTest, RV.bl?, mTruth, truth, mTNot, mTAnd, mTOr, mAndV, mOrV, mNotV, mIf, mChain, mgNm, mAsgT, mgTup, mgCons, mgNil, iop, pAdd, pSub, pMul, pDiv, pMod, pNeg, pLt, pLe, pGt, pGe, pEq, pNe, pAddI, pMulS, pIs, pIsNot, isP, pIn, pNotIn, inP, flatP, cmpOk, cmpOks, eqP, eqPs, pIx, fLen, fAbs, fInt, fMin2, fMax2, fOrd, fList, fTuple, fIsi, tyName, AV.slot, runF, Res.nox, RV.out, outsOf, SV.lent, range1e, range2e, range3e, range4e, isi_NoneType_int, isi_NoneType_bool, isi_NoneType_str, isi_NoneType_tuple, isi_NoneType_list, isi_bool_int, isi_bool_bool, isi_bool_str, isi_bool_tuple, isi_bool_list, isi_int_int, isi_int_bool, isi_int_str, isi_int_tuple, isi_int_list, isi_str_int, isi_str_bool, isi_str_str, isi_str_tuple, isi_str_list, isi_tuple_int, isi_tuple_bool, isi_tuple_str, isi_tuple_tuple, isi_tuple_list, isi_list_int, isi_list_bool, isi_list_str, isi_list_tuple, isi_list_list, isi_dict_int, isi_dict_bool, isi_dict_str, isi_dict_tuple, isi_dict_list, hd, hl'])).trans ?_
      refine (seq_nx (ρ1 := [some (.val (.tup xs)), some (.val (.int d)), some (.val (.int 1)), none, none, none]) (by simp [Res.bind, mSeq, mNx, mRet, mRetNm, mRetN, mIfS, mNever, mAsg, setR, setV, setO, isPar, mAug, mDrop, mAppend, mExtend, ownL?, ownO, setC, RV.lst?, mSrc, itemsOf, mOp, RV.fz, OB.pv, mBor, mNm, mK, mNew, mBin, mUn, deref, liftO, mANil, mACons, mApp, derefs, vals?, RV.val?, small, mTup, mLst, mCall, lone, avsOf, avOf, backs, findArg, back1, RV.bor?, mTest, RV.bl?, mTruth, truth, mTNot, mTAnd, mTOr, mAndV, mOrV, mNotV, mIf, mChain, mgNm, mAsgT, mgTup, mgCons, mgNil, iop, pAdd, pSub, pMul, pDiv, pMod, pNeg, pLt, pLe, pGt, pGe, pEq, pNe, pAddI, pMulS, pIs, pIsNot, isP, pIn, pNotIn, inP, flatP, cmpOk, cmpOks, eqP, eqPs, pIx, fLen, fAbs, fInt, fMin2, fMax2, fOrd, fList, fTuple, fIsi, tyName, AV.slot, runF, Res.nox, RV.out, outsOf, SV.lent, range1e, range2e, range3e, range4e, isi_NoneType_int, isi_NoneType_bool, isi_NoneType_str, isi_NoneType_tuple, isi_NoneType_list, isi_bool_int, isi_bool_bool, isi_bool_str, isi_bool_tuple, isi_bool_list, isi_int_int, isi_int_bool, isi_int_str, isi_int_tuple, isi_int_list, isi_str_int, isi_str_bool, isi_str_str, isi_str_tuple, isi_str_list, isi_tuple_int, isi_tuple_bool, isi_tuple_str, isi_tuple_tuple, isi_tuple_list, isi_list_int, isi_list_bool, isi_list_str, isi_list_tuple, isi_list_list, isi_dict_int, isi_dict_bool, isi_dict_str, isi_dict_tuple, isi_dict_list])).trans ?_
      refine (seq_nx ((mfor_of (xs := xs) (ρ1 := [some (.val (.tup xs)), some (.val (.int d)), some (.val (.int 1)), none, none, none]) (by simp [Res.bind, mSeq, mNx, mRet, mRetNm, mRetN, mIfS, mNever, mAsg, setR, setV, setO, isPar, mAug, mDrop, mAppend, mExtend, ownL?, ownO, setC, RV.lst?, mSrc, itemsOf, mOp, RV.fz, OB.pv, mBor, mNm, mK, mNew, mBin, mUn, deref, liftO, mANil, mACons, mApp, derefs, vals?, RV.val?, small, mTup, mLst, mCall, lone, avsOf, avOf, backs, findArg, back1, RV.bor?, mTest, RV.bl?, mTruth, truth, mTNot, mTAnd, mTOr, mAndV, mOrV, mNotV, mIf, mChain, mgNm, mAsgT, mgTup, mgCons, mgNil, iop, pAdd, pSub, pMul, pDiv, pMod, pNeg, pLt, pLe, pGt, pGe, pEq, pNe, pAddI, pMulS, pIs, pIsNot, isP, pIn, pNotIn, inP, flatP, cmpOk, cmpOks, eqP, eqPs, pIx, fLen, fAbs, fInt, fMin2, fMax2, fOrd, fList, fTuple, fIsi, tyName, AV.slot, runF, Res.nox, RV.out, outsOf, SV.lent, range1e, range2e, range3e, range4e, isi_NoneType_int, isi_NoneType_bool, isi_NoneType_str, isi_NoneType_tuple, isi_NoneType_list, isi_bool_int, isi_bool_bool, isi_bool_str, isi_bool_tuple, isi_bool_list, isi_int_int, isi_int_bool, isi_int_str, isi_int_tuple, isi_int_list, isi_str_int, isi_str_bool, isi_str_str, isi_str_tuple, isi_str_list, isi_tuple_int, isi_tuple_bool, isi_tuple_str, isi_tuple_tuple, isi_tuple_list, isi_list_int, isi_list_bool, isi_list_str, isi_list_tuple, isi_list_list, isi_dict_int, isi_dict_bool, isi_dict_str, isi_dict_tuple, isi_dict_list])).trans e)).trans ?_
      unfold cnt
      rfl
  | _ => unfold okV at ok; cases ok
theorem cnts_mem : ∀ {xs : List PV}, ∀ x ∈ xs, cnt x ≤ cnts xs
  | [], x, h => by cases h
  | y :: ys, x, h => by
    unfold cnts
    rcases List.mem_cons.mp h with rfl | h
    · omega
    · have := cnts_mem x h
      omega
theorem few_T (n : Nat) : FewOk (T C (n + 1)).few_digits := fun k h => by
  have := few_digits_ok (C := C) (t := T C n) k
  rw [decide_eq_true h] at this
  exact this
theorem sign_T (n : Nat) : SignOk (T C (n + 1)).is_sign := fun i => is_sign_ok (C := C) (t := T C n) i
theorem counted_T : ∀ (n j d : Nat) (v : PV), okV n v = true → n + d = 60 → cnt v ≤ 500000 → (T C (n + j + 2)).counted [.val v, .val (.int d)] = .ok (.val (.int (cnt v)), [none, none])
  | 0, j, d, v, ok, hn, hz => counted_step (few_T (0 + j)) (sign_T (0 + j)) 0 d v ok hn hz fun xs e => by subst e; unfold okV at ok; cases ok
  | n + 1, j, d, v, ok, hn, hz => by
    have e : n + 1 + j + 2 = (n + j + 2) + 1 := by omega
    rw [e]
    refine counted_step (few_T (n + j + 1)) (sign_T (n + j + 1)) (n + 1) d v ok hn hz fun xs e x hx => ?_
    subst e
    unfold okV at ok
    rw [Bool.and_eq_true] at ok
    unfold cnt at hz
    have := cnts_mem x hx
    exact counted_T n j (d + 1) x (okVs_mem ok.2 x hx) (by omega) (by omega)
theorem at_ok {os : List Int} {a : Nat} {i : Int} (h : os[a]? = some i) : pIx (.tup (os.map PV.int)) (.int (a : Int)) = some (.val (.int i)) := by
  show (L2.atI (os.map PV.int) (a : Int)).map RV.val = _
  rw [L2.atI_nat (v := PV.int i) (by rw [List.getElem?_map, h]; rfl)]
  rfl
theorem mul_small {i j : Int} (h : smallI i = true) : pMul (.int i) (.int j) = some (.val (.int (i * j))) := by simp [pMul, h]
abbrev nsR : List Str := ["octets", "at", "parts"]
abbrev xsR (os : List Int) (a p : Nat) : List PV := [.tup (os.map PV.int), .int a, .int p]
abbrev Rd (C : Addr) (os : List Int) (a p : Nat) : OB := .ob C nsR (xsR os a p)
theorem look_at (x y z : PV) : lookF nsR [x, y, z] "at" = some y := rfl
theorem look_oc (x y z : PV) : lookF nsR [x, y, z] "octets" = some x := rfl
theorem look_pa (x y z : PV) : lookF nsR [x, y, z] "parts" = some z := rfl
theorem put_at (x y z v : PV) : putVs nsR [x, y, z] "at" v = [x, v, z] := rfl
theorem put_pa (x y z v : PV) : putVs nsR [x, y, z] "parts" v = [x, y, v] := rfl
theorem putn_at : putNs nsR "at" = nsR := rfl
theorem putn_pa : putNs nsR "parts" = nsR := rfl
theorem hold0 {os : List Int} {a p : Nat} {r : Pu.Env} : Hold (some (.par (Rd C os a p)) :: r) 0 SV.par (Rd C os a p) := ⟨rfl, .inl rfl⟩
theorem join_singles (l : List Nat) : Txt.join "" (l.map fun c => (⟨#[c]⟩ : Str)) = ⟨l.toArray⟩ := by
  rw [TL.join_eq]
  refine TL.ext_tl ?_
  rw [TL.tl_join]
  have e : TL.tl ("" : Str) = [] := rfl
  rw [e, List.map_map]
  have key : ∀ l : List Nat, TL.joinL [] (l.map (TL.tl ∘ fun c => (⟨#[c]⟩ : Str))) = l := by
    intro l
    induction l with
    | nil => rfl
    | cons c l ih =>
      cases l with
      | nil => rfl
      | cons d l =>
        rw [List.map_cons] at ih ⊢
        show [c] ++ ([] ++ TL.joinL [] (List.map _ (d :: l))) = _
        rw [List.map_cons, ih]
        rfl
  rw [key]
theorem sign_range {c : Nat} (h : isSign (c : Int) = true) : c < 128 := by
  unfold isSign at h
  rw [Bool.or_eq_true, Bool.and_eq_true] at h
  rcases h with h | h
  · have := of_decide_eq_true h.2
    omega
  · have := eq_of_beq h
    omega
def SgnOk (g : G) : Prop := ∀ c : Nat, c < 128 → g [.val (.int (c : Int))] = .ok (.val (.str ⟨#[c]⟩), [none])
end K81

set_option Elab.async false
set_option linter.all false
set_option maxRecDepth 100000
set_option exponentiation.threshold 100000
namespace K81
open PySem Pu
variable {C : Addr} {t : Tb}
def oct (i : Int) : Bool := decide (0 ≤ i) && decide (i ≤ 255)
theorem dg_oct : ∀ k : Nat, (dg k).all oct = true := by
  intro k
  induction k using Nat.strongRecOn with
  | _ k ih =>
    by_cases hk : 127 < k
    · rw [dg_big hk, List.all_cons, ih (k / 128) (by omega), Bool.and_true]
      unfold oct
      rw [Bool.and_eq_true]
      exact ⟨decide_eq_true (by omega), decide_eq_true (by omega)⟩
    · rw [dg_small hk]
      simp [oct]
      omega
mutual
theorem enc_oct : ∀ (n : Nat) (v : PV), okV n v = true → (enc v).all oct = true
  | n, .non, _ => rfl
  | n, .bl b, _ => by cases b <;> rfl
  | n, .int i, _ => by
    unfold enc
    split
    · rw [List.all_cons, dg_oct]
      rfl
    · rw [List.all_cons, dg_oct]
      rfl
  | n, .str x, ok => by
    unfold okV at ok
    rw [Bool.and_eq_true] at ok
    unfold enc
    rw [List.all_cons, List.all_append, dg_oct, List.all_map]
    have : (x.cps.toList.all (oct ∘ fun (c : Nat) => (c : Int))) = true := by
      rw [List.all_eq_true]
      intro c hc
      have h := List.all_eq_true.mp ok.2 c hc
      have := sign_range h
      simp [oct]
      omega
    rw [this]
    rfl
  | n + 1, .tup xs, ok => by
    unfold okV at ok
    rw [Bool.and_eq_true] at ok
    unfold enc
    rw [List.all_cons, List.all_append, dg_oct, encs_oct n xs ok.2]
    rfl
  | 0, .tup xs, ok => by unfold okV at ok; cases ok
  | n, .ty _, ok => by unfold okV at ok; cases ok
  | n, .lst _, ok => by unfold okV at ok; cases ok
  | n, .dT _ _, ok => by unfold okV at ok; cases ok
  | n, .dK _ _, ok => by unfold okV at ok; cases ok
  | n, .ob _ _ _, ok => by unfold okV at ok; cases ok
  | n, .scr _, ok => by unfold okV at ok; cases ok
theorem encs_oct : ∀ (n : Nat) (v : List PV), okVs n v = true → (encs v).all oct = true
  | n, [], _ => rfl
  | n, x :: xs, ok => by
    unfold okVs at ok
    rw [Bool.and_eq_true] at ok
    unfold encs
    rw [List.all_append, enc_oct n x ok.1, encs_oct n xs ok.2]
    rfl
end
theorem are_octets_ok {os : List Int} (hz : os.length ≤ 16777216) (ho : os.all oct = true) : (stepT C t).are_octets [.val (.tup (os.map PV.int))] = .ok (.val (.bl true), [none]) := by
  have e0 : (stepT C t).are_octets = runF 2 (b_are_octets C t) := rfl
  rw [e0]
  refine run_rt (r := .val (.bl true)) (ρ1 := [some (.val (.tup (os.map PV.int))), none]) [some (.val (.tup (os.map PV.int))), none] rfl ?_ rfl
  refine (seq_nx (ρ1 := [some (.val (.tup (os.map PV.int))), none]) (by simp [Res.bind, mSeq, mNx, mRet, mRetNm, mRetN, mIfS, mNever, mAsg, setR, setV, setO, isPar, mAug, mDrop, mAppend, mExtend, ownL?, ownO, setC, RV.lst?, mSrc, itemsOf, mOp, RV.fz, OB.pv, mBor, mNm, mK, mNew, mBin, mUn, deref, liftO, mANil, mACons, mApp, derefs, vals?, RV.val?, small, mTup, mLst, mCall, lone, avsOf, avOf, backs, findArg, back1, RV.bor?, mTest, RV.bl?, mTruth, truth, mTNot, mTAnd, mTOr, mAndV, mOrV, mNotV, mIf, mChain, mgNm, mAsgT, mgTup, mgCons, mgNil, iop, pAdd, pSub, pMul, pDiv, pMod, pNeg, pLt, pLe, pGt, pGe, pEq, pNe, pAddI, pMulS, pIs, pIsNot, isP, pIn, pNotIn, inP, flatP, cmpOk, cmpOks, eqP, eqPs, pIx, fLen, fAbs, fInt, fMin2, fMax2, fOrd, fList, fTuple, fIsi, tyName, AV.slot, runF, Res.nox, RV.out, outsOf, SV.lent, range1e, range2e, range3e, range4e, isi_NoneType_int, isi_NoneType_bool, isi_NoneType_str, isi_NoneType_tuple, isi_NoneType_list, isi_bool_int, isi_bool_bool, isi_bool_str, isi_bool_tuple, isi_bool_list, isi_int_int, isi_int_bool, isi_int_str, isi_int_tuple, isi_int_list, isi_str_int, isi_str_bool, isi_str_str, isi_str_tuple, isi_str_list, isi_tuple_int, isi_tuple_bool, isi_tuple_str, isi_tuple_tuple, isi_tuple_list, isi_list_int, isi_list_bool, isi_list_str, isi_list_tuple, isi_list_list, isi_dict_int, isi_dict_bool, isi_dict_str, isi_dict_tuple, isi_dict_list])).trans ?_
  refine ret_of ?_
  have key : ∀ l : List Int, l.all oct = true → lcM [1] (mgNm 1) mYes (mAndV (mApp fIsi (mACons (mBor 1) (mACons (mK (.ty "int")) mANil))) (mAndV (mNotV (mApp fIsi (mACons (mBor 1) (mACons (mK (.ty "bool")) mANil)))) (mChain pLe pLe (mK (.int 0)) (mBor 1) (mK (.int 255))))) (l.map PV.int) [some (.val (.tup (os.map PV.int))), none] = .ok (List.replicate l.length (.bl true), [some (.val (.tup (os.map PV.int))), none]) := by
    intro l
    induction l with
    | nil => intro _; rfl
    | cons c l ih =>
      intro hl
      rw [List.all_cons, Bool.and_eq_true] at hl
      unfold oct at hl
      rw [Bool.and_eq_true] at hl
      have h1 := of_decide_eq_true hl.1.1
      have h2 := of_decide_eq_true hl.1.2
      rw [List.map_cons, lc_cons (ρ1 := [some (.val (.tup (os.map PV.int))), some (.val (.int c))]) (ρ2 := [some (.val (.tup (os.map PV.int))), some (.val (.int c))]) (ρ3 := [some (.val (.tup (os.map PV.int))), some (.val (.int c))]) (y := .bl true) rfl rfl (by simp [Res.bind, mSeq, mNx, mRet, mRetNm, mRetN, mIfS, mNever, mAsg, setR, setV, setO, isPar, mAug, mDrop, mAppend, mExtend, ownL?, ownO, setC, RV.lst?, mSrc, itemsOf, mOp, RV.fz, OB.pv, mBor, mNm, mK, mNew, mBin, mUn, deref, liftO, mANil, mACons, mApp, derefs, vals?, RV.val?, small, mTup, mLst, mCall, lone, avsOf, avOf, backs, findArg, back1, RV.bor?, mTest, RV.bl?, mTruth, truth, mTNot, mTAnd, mTOr, mAndV, mOrV, mNotV, mIf, mChain, mgNm, mAsgT, mgTup, mgCons, mgNil, iop, pAdd, pSub, pMul, pDiv, pMod, pNeg, pLt, pLe, pGt, pGe, pEq, pNe, pAddI, pMulS, pIs, pIsNot, isP, pIn, pNotIn, inP, flatP, cmpOk, cmpOks, eqP, eqPs, pIx, fLen, fAbs, fInt, fMin2, fMax2, fOrd, fList, fTuple, fIsi, tyName, AV.slot, runF, Res.nox, RV.out, outsOf, SV.lent, range1e, range2e, range3e, range4e, isi_NoneType_int, isi_NoneType_bool, isi_NoneType_str, isi_NoneType_tuple, isi_NoneType_list, isi_bool_int, isi_bool_bool, isi_bool_str, isi_bool_tuple, isi_bool_list, isi_int_int, isi_int_bool, isi_int_str, isi_int_tuple, isi_int_list, isi_str_int, isi_str_bool, isi_str_str, isi_str_tuple, isi_str_list, isi_tuple_int, isi_tuple_bool, isi_tuple_str, isi_tuple_tuple, isi_tuple_list, isi_list_int, isi_list_bool, isi_list_str, isi_list_tuple, isi_list_list, isi_dict_int, isi_dict_bool, isi_dict_str, isi_dict_tuple, isi_dict_list, h1, h2])]
      have e2 : wipeE [some (.val (.tup (os.map PV.int))), some (.val (.int c))] [1] = [some (.val (.tup (os.map PV.int))), none] := rfl
      rw [e2, ih hl.2]
      rfl
  have lc := mlc_of (vs := [1]) (mi := mSrc (mNm 0)) (xs := os.map PV.int) (ρ := [some (.val (.tup (os.map PV.int))), none]) (ρ1 := [some (.val (.tup (os.map PV.int))), none]) rfl (by rw [List.length_map]; exact hz) (key os ho)
  refine (app1n (r := .val (.bl true)) lc ?_).trans rfl
  show (blsOf (List.replicate os.length (.bl true))).map _ = _
  rw [bls_true]
  simp
def OctOk (g : G) : Prop := ∀ os : List Int, os.length ≤ 16777216 → os.all oct = true → g [.val (.tup (os.map PV.int))] = .ok (.val (.bl true), [none])
theorem init_ok (os : List Int) : g_Reader___init__ C [.own (.ob C [] []), .val (.tup (os.map PV.int))] = .ok (.val .non, [some (Rd C os 0 1), none]) := by
  refine run_nx (ρ1 := [some (.par (Rd C os 0 1)), some (.val (.tup (os.map PV.int)))]) [some (.par (.ob C [] [])), some (.val (.tup (os.map PV.int)))] rfl ?_
  refine (seq_nx (ρ1 := [some (.par (.ob C ["octets"] [.tup (os.map PV.int)])), some (.val (.tup (os.map PV.int)))]) (putf_of (w := SV.par) (ns := []) (xs := []) (ρ1 := [some (.par (.ob C [] [])), some (.val (.tup (os.map PV.int)))]) ⟨rfl, .inl rfl⟩ rfl (by decide))).trans ?_
  refine (seq_nx (ρ1 := [some (.par (.ob C ["octets", "at"] [.tup (os.map PV.int), .int 0])), some (.val (.tup (os.map PV.int)))]) (putf_of (w := SV.par) (ns := ["octets"]) (xs := [.tup (os.map PV.int)]) (ρ1 := [some (.par (.ob C ["octets"] [.tup (os.map PV.int)])), some (.val (.tup (os.map PV.int)))]) ⟨rfl, .inl rfl⟩ rfl (by decide))).trans ?_
  exact putf_of (w := SV.par) (ns := ["octets", "at"]) (xs := [.tup (os.map PV.int), .int 0]) (ρ1 := [some (.par (.ob C ["octets", "at"] [.tup (os.map PV.int), .int 0])), some (.val (.tup (os.map PV.int)))]) ⟨rfl, .inl rfl⟩ rfl (by decide)
theorem make_of {ma : MA} {g : G} {ρ : Pu.Env} {as : List PV} {o : OB} {outs : List (Option OB)} (h : ma ρ = .ok (as.map RV.val, ρ)) (hg : g (.own (.ob C [] []) :: as.map AV.val) = .ok (.val .non, some o :: outs)) : mMake C g ma ρ = .ok (.new o, ρ) := by
  have e : ∀ as : List PV, vals? (as.map RV.val) = some as := by
    intro as
    induction as with
    | nil => rfl
    | cons a as ih =>
      show (some a).bind _ = _
      rw [Option.bind_some, ih]
      rfl
  unfold mMake
  rw [h, Res.bind_ok]
  dsimp only
  rw [e, liftO_some, Res.bind_ok, hg]
  rfl
theorem oct_T (n : Nat) : OctOk (T C (n + 1)).are_octets := fun os h1 h2 => are_octets_ok h1 h2
theorem sgn_T (n : Nat) : SgnOk (T C (n + 1)).sign_of := fun c h => by
  refine run_rt (r := .val (.str ⟨#[c]⟩)) (ρ1 := [some (.val (.int (c : Int)))]) [some (.val (.int (c : Int)))] rfl (ret_of ?_) rfl
  have e0 : mOp (mNm 0) [some (.val (.int (c : Int)))] = .ok (.val (.int (c : Int)), [some (.val (.int (c : Int)))]) := rfl
  unfold mAsc
  rw [e0, Res.bind_ok]
  show (liftO (some (c : Int))).bind _ = _
  rw [liftO_some, Res.bind_ok, if_pos ⟨by omega, by omega⟩]
  rfl
theorem app2 {g : List PV → Option RV} {m1 m2 : M} {ρ ρ1 ρ2 : Pu.Env} {a b : PV} {r : RV} (h1 : m1 ρ = .ok (.val a, ρ1)) (h2 : m2 ρ1 = .ok (.val b, ρ2)) (hg : g [a, b] = some r) : mApp g (mACons m1 (mACons m2 mANil)) ρ = .ok (r, ρ2) := by
  unfold mApp
  rw [args_cons h1 (args_cons h2 args_nil)]
  simp [derefs, deref, liftO, Res.bind, hg]
theorem rng1_of {m : M} {ρ ρ1 : Pu.Env} {n : Nat} (h : m ρ = .ok (.val (.int (n : Int)), ρ1)) (hn : n < 1000000000) : mRng rng1 (mACons m mANil) ρ = .ok (rangeOf 0 n, ρ1) := by
  have e2 := args_cons h (args_nil (ρ := ρ1))
  unfold mRng
  rw [e2, Res.bind_ok]
  show (liftO (some [PV.int (n : Int)])).bind _ = _
  rw [liftO_some, Res.bind_ok]
  show (liftO (if b62 n then some (rangeOf 0 n) else none)).bind _ = _
  have hb : b62 (n : Int) = true := by
    unfold b62
    rw [Bool.and_eq_true]
    exact ⟨decide_eq_true (by omega), decide_eq_true (by omega)⟩
  rw [hb]
  rfl
theorem rangeOf_nat (m : Nat) : rangeOf 0 m = (List.range' 0 m).map fun (j : Nat) => PV.int j := by
  unfold rangeOf
  rw [← List.range_eq_range']
  simp
/-! ### draws -/
abbrev cupO (a b : Int) : OB := .lst [.int a, .int b]
def RollOk (g : G) : Prop := ∀ (a b : Int) (m : Nat), 0 < m → m ≤ 1000000000 → ∃ (r : Nat) (a' b' : Int), r < m ∧ g [.own (cupO a b), .val (.int m)] = .ok (.val (.int r), [some (cupO a' b'), none])
theorem log_small {m : Nat} (h : m ≤ 1000000000) : m.log2 < 9000 := by
  by_cases h0 : m = 0
  · subst h0; decide
  · have : m.log2 ≤ 1000000000 := Nat.le_trans (Nat.log2_le_self m) h
    have h2 : m < 2 ^ 9000 := Nat.lt_of_le_of_lt h (Nat.lt_of_lt_of_le (by decide : 1000000000 < 2 ^ 30) (Nat.pow_le_pow_right (by decide) (by decide)))
    exact (Nat.log2_lt h0).mpr h2
abbrev rE (a b : Int) (m : Nat) (d f : Option PV) : Pu.Env := [some (.par (cupO a b)), some (.val (.int m)), d.map SV.val, f.map SV.val]
theorem ix0 (a b : Int) (m : Nat) (d f : Option PV) : mBin pIx (mBor 0) (mK (.int 0)) (rE a b m d f) = .ok (.val (.int a), rE a b m d f) := rfl
theorem ix1 (a b : Int) (m : Nat) (d f : Option PV) : mBin pIx (mBor 0) (mK (.int 1)) (rE a b m d f) = .ok (.val (.int b), rE a b m d f) := rfl
theorem put0 {mv : M} {a b x : Int} {m : Nat} {d f : Option PV} (h : mv (rE a b m d f) = .ok (.val (.int x), rE a b m d f)) : mPutL 0 mv (mK (.int 0)) (rE a b m d f) = .ok (.nx, rE x b m d f) := by
  have e : mOp mv (rE a b m d f) = .ok (.val (.int x), rE a b m d f) := by unfold mOp; rw [h]; rfl
  unfold mPutL
  rw [e]
  rfl
theorem put1 {mv : M} {a b x : Int} {m : Nat} {d f : Option PV} (h : mv (rE a b m d f) = .ok (.val (.int x), rE a b m d f)) : mPutL 0 mv (mK (.int 1)) (rE a b m d f) = .ok (.nx, rE a x m d f) := by
  have e : mOp mv (rE a b m d f) = .ok (.val (.int x), rE a b m d f) := by unfold mOp; rw [h]; rfl
  unfold mPutL
  rw [e]
  rfl
theorem mod_ok {i j : Int} (h : 0 < j) : pMod (.int i) (.int j) = some (.val (.int (i % j))) := iop_eval (if_pos h)
theorem mul_small2 {i j : Int} (h : smallI j = true) : pMul (.int i) (.int j) = some (.val (.int (i * j))) := by simp [pMul, h]
theorem small_of {i : Int} (h1 : -18446744073709551616 < i) (h2 : i < 18446744073709551616) : smallI i = true := by
  unfold smallI
  rw [Bool.and_eq_true]
  exact ⟨decide_eq_true h1, decide_eq_true h2⟩
theorem roll_ok : RollOk (stepT C t).law_roll := fun a b m h0 hm => by
  have e0 : (stepT C t).law_roll = runF 4 (b_law_roll C t) := rfl
  rw [e0]
  have hm0 : (0 : Int) < (m : Int) := by omega
  have hdiv : ∀ x : Int, pDiv (.int x) (.int m) = some (.val (.int (x / m))) := fun x => div_ok _ _ ⟨hm0, by rw [Int.natAbs_natCast]; exact log_small hm⟩
  by_cases ha : 0 < a
  · have hr : (a % (m : Int)) = ((a % (m : Int)).toNat : Int) := by
      have := Int.emod_nonneg a (show (m : Int) ≠ 0 by omega)
      omega
    have hlt := Int.emod_lt_of_pos a hm0
    refine ⟨(a % (m : Int)).toNat, a / m, b, by omega, ?_⟩
    rw [← hr]
    have g1 : mBin pMod (mApp fInt (mACons (mBin pIx (mBor 0) (mK (.int 0))) mANil)) (mBor 1) (rE a b m none none) = .ok (.val (.int (a % m)), rE a b m none none) := bin_val (app1 (r := .val (.int a)) (ix0 a b m none none) rfl) (b := .int m) rfl (mod_ok hm0)
    have g2 : mBin pDiv (mBin pIx (mBor 0) (mK (.int 0))) (mBor 1) (rE a b m none (some (.int (a % m)))) = .ok (.val (.int (a / m)), rE a b m none (some (.int (a % m)))) := bin_val (ix0 a b m none (some (.int (a % m)))) (b := .int m) rfl (hdiv a)
    refine run_rt (r := .val (.int (a % m))) (ρ1 := rE (a / m) b m none (some (.int (a % m)))) (rE a b m none none) rfl ?_ rfl
    refine seq_rt ((ifs_t (ρ1 := rE a b m none none) (test_of (bin_val (ix0 a b m none none) (b := .int 0) rfl ?_))).trans ?_)
    · show some (RV.val (PV.bl (decide (0 < a)))) = _
      rw [decide_eq_true ha]
    · refine (seq_nx (ρ1 := rE a b m none (some (.int (a % m)))) (asg_of g1 rfl)).trans ?_
      exact (seq_nx (put0 g2)).trans rfl
  · let b' : Int := (b * 30269 + 9173) % 2147483579
    let dp : Int := (b' * (b' + 307)) % 2147483563
    have hb1 : 0 ≤ b' := Int.emod_nonneg _ (by decide)
    have hb2 : b' < 2147483579 := Int.emod_lt_of_pos _ (by decide)
    have hr : (dp / 887 % (m : Int)) = ((dp / 887 % (m : Int)).toNat : Int) := by
      have := Int.emod_nonneg (dp / 887) (show (m : Int) ≠ 0 by omega)
      omega
    have hlt := Int.emod_lt_of_pos (dp / 887) hm0
    refine ⟨(dp / 887 % (m : Int)).toNat, a, b', by omega, ?_⟩
    rw [← hr]
    have g1 : mBin pMod (mApp fInt (mACons (mBin pAdd (mBin pMul (mBin pIx (mBor 0) (mK (.int 1))) (mK (.int 30269))) (mK (.int 9173))) mANil)) (mK (.int 2147483579)) (rE a b m none none) = .ok (.val (.int b'), rE a b m none none) :=
      bin_val (b := .int 2147483579) (app1 (r := .val (.int (b * 30269 + 9173))) (bin_val (b := .int 9173) (bin_val (b := .int 30269) (ix1 a b m none none) rfl (mul_small2 (by decide))) rfl rfl) rfl) rfl (mod_ok (by decide))
    have g2 : mBin pMod (mApp fInt (mACons (mBin pMul (mBin pIx (mBor 0) (mK (.int 1))) (mBin pAdd (mBin pIx (mBor 0) (mK (.int 1))) (mK (.int 307)))) mANil)) (mK (.int 2147483563)) (rE a b' m none none) = .ok (.val (.int dp), rE a b' m none none) :=
      bin_val (b := .int 2147483563) (app1 (r := .val (.int (b' * (b' + 307)))) (bin_val (ix1 a b' m none none) (bin_val (b := .int 307) (ix1 a b' m none none) rfl rfl) (mul_small (small_of (by omega) (by omega)))) rfl) rfl (mod_ok (by decide))
    have g3 : mBin pMod (mApp fInt (mACons (mBin pDiv (mBor 2) (mK (.int 887))) mANil)) (mBor 1) (rE a b' m (some (.int dp)) none) = .ok (.val (.int (dp / 887 % m)), rE a b' m (some (.int dp)) none) :=
      bin_val (b := .int m) (app1 (r := .val (.int (dp / 887))) (bin_val (a := .int dp) (b := .int 887) rfl rfl (div_ok _ _ (by decide))) rfl) rfl (mod_ok hm0)
    refine run_rt (r := .val (.int (dp / 887 % m))) (ρ1 := rE a b' m (some (.int dp)) none) (rE a b m none none) rfl ?_ rfl
    refine (seq_nx (ρ1 := rE a b m none none) ((ifs_f (ρ1 := rE a b m none none) (test_of (bin_val (ix0 a b m none none) (b := .int 0) rfl ?_))).trans rfl)).trans ?_
    · show some (RV.val (PV.bl (decide (0 < a)))) = _
      rw [decide_eq_false ha]
    · refine (seq_nx (put1 g1)).trans ?_
      refine (seq_nx (ρ1 := rE a b' m (some (.int dp)) none) (asg_of g2 rfl)).trans ?_
      exact ret_of g3
def SomeOk (g : G) : Prop := ∀ (a b : Int) (ys : List PV), 0 < ys.length → ys.length ≤ 1000000 → ∃ (y : PV) (a' b' : Int), y ∈ ys ∧ g [.own (cupO a b), .val (.lst ys)] = .ok (.val y, [some (cupO a' b'), none])
theorem some_ok (hr : RollOk t.law_roll) : SomeOk (stepT C t).law_some := fun a b ys h0 hm => by
  obtain ⟨r, a', b', hlt, e⟩ := hr a b ys.length h0 (by omega)
  have hg : ys[r]? = some ys[r] := List.getElem?_eq_getElem hlt
  refine ⟨ys[r], a', b', List.getElem_mem hlt, ?_⟩
  have e0 : (stepT C t).law_some = runF 2 (b_law_some C t) := rfl
  rw [e0]
  refine run_rt (r := .val ys[r]) (ρ1 := [some (.par (cupO a' b')), some (.val (.lst ys))]) [some (.par (cupO a b)), some (.val (.lst ys))] rfl (ret_of ?_) rfl
  have hc := call_first (ρ := [some (.par (cupO a b)), some (.val (.lst ys))]) (j := 0) (w := SV.par) (o := cupO a b) (g := t.law_roll) (ma := mACons (mApp fLen (mACons (mBor 1) mANil)) mANil) (ps := [.int ys.length]) ⟨rfl, .inl rfl⟩ (args_cons (app1 (a := .lst ys) rfl rfl) args_nil) e
  refine bin_val (a := .lst ys) (ρ1 := [some (.par (cupO a b)), some (.val (.lst ys))]) rfl hc ?_
  show (L2.atI ys (r : Int)).map RV.val = _
  rw [L2.atI_nat hg]
  rfl
theorem roll_T (n : Nat) : RollOk (T C (n + 1)).law_roll := roll_ok
theorem some_T (n : Nat) : SomeOk (T C (n + 2)).law_some := some_ok (roll_T n)
def five (c : Nat) : Prop := c = 10 ∨ c = 32 ∨ c = 65 ∨ c = 97 ∨ c = 126
theorem five_sign {c : Nat} (h : five c) : isSign (c : Int) = true := by
  rcases h with rfl | rfl | rfl | rfl | rfl <;> decide
abbrev dSg : OB := .dK [.inl 10, .inl 32, .inl 65, .inl 97, .inl 126] [(.str "\n"), (.str " "), (.str "A"), (.str "a"), (.str "~")]
theorem get_five {c : Nat} (h : five c) : pGet dSg.pv (.int c) = some (.val (.str ⟨#[c]⟩)) := by
  rcases h with rfl | rfl | rfl | rfl | rfl <;> rfl
theorem signs_ok {l : List Nat} (hl : ∀ c ∈ l, five c) (hz : l.length ≤ 1000) : (stepT C t).law_signs [.val (.lst (l.map fun (c : Nat) => PV.int c))] = .ok (.val (.str ⟨l.toArray⟩), [none]) := by
  have e0 : (stepT C t).law_signs = runF 3 (b_law_signs C t) := rfl
  rw [e0]
  let v : PV := .lst (l.map fun (c : Nat) => PV.int c)
  refine run_rt (r := .val (.str ⟨l.toArray⟩)) (ρ1 := [some (.val v), some (.own dSg), none]) [some (.val v), none, none] rfl ?_ rfl
  refine (seq_nx (ρ1 := [some (.val v), some (.own dSg), none]) rfl).trans (ret_of ?_)
  have key : ∀ k : List Nat, (∀ c ∈ k, five c) → lcM [2] (mgNm 2) mYes (mBin pGet (mBor 1) (mBor 2)) (k.map fun (c : Nat) => PV.int c) [some (.val v), some (.own dSg), none] = .ok (k.map fun (c : Nat) => PV.str ⟨#[c]⟩, [some (.val v), some (.own dSg), none]) := by
    intro k
    induction k with
    | nil => intro _; rfl
    | cons c k ih =>
      intro hk
      have he : mBin pGet (mBor 1) (mBor 2) [some (.val v), some (.own dSg), some (.val (.int c))] = .ok (.val (.str ⟨#[c]⟩), [some (.val v), some (.own dSg), some (.val (.int c))]) := by
        have h0 : mOp (mBor 1) [some (.val v), some (.own dSg), some (.val (.int c))] = .ok (.bor 1, [some (.val v), some (.own dSg), some (.val (.int c))]) := rfl
        have h1 : mOp (mBor 2) [some (.val v), some (.own dSg), some (.val (.int c))] = .ok (.val (.int c), [some (.val v), some (.own dSg), some (.val (.int c))]) := rfl
        unfold mBin
        rw [h0, Res.bind_ok]
        dsimp only
        rw [h1, Res.bind_ok]
        show (liftO (pGet dSg.pv (.int c))).bind _ = _
        rw [get_five (hk c (List.mem_cons_self ..))]
        rfl
      rw [List.map_cons, lc_cons (ρ1 := [some (.val v), some (.own dSg), some (.val (.int c))]) (ρ2 := [some (.val v), some (.own dSg), some (.val (.int c))]) (ρ3 := [some (.val v), some (.own dSg), some (.val (.int c))]) (y := .str ⟨#[c]⟩) rfl rfl he]
      have e2 : wipeE [some (.val v), some (.own dSg), some (.val (.int c))] [2] = [some (.val v), some (.own dSg), none] := rfl
      rw [e2, ih fun y hy => hk y (List.mem_cons_of_mem _ hy)]
      rfl
  have lc := mlc_of (vs := [2]) (mi := mSrc (mNm 0)) (xs := l.map fun (c : Nat) => PV.int c) (ρ := [some (.val v), some (.own dSg), none]) (ρ1 := [some (.val v), some (.own dSg), none]) rfl (by rw [List.length_map]; omega) (key l hl)
  have hj : pJoin "" (.lst (l.map fun (c : Nat) => PV.str ⟨#[c]⟩)) = some (.val (.str ⟨l.toArray⟩)) := by
    have s1 : ∀ l : List Nat, strsOf (l.map fun c => PV.str ⟨#[c]⟩) = some (l.map fun c => (⟨#[c]⟩ : Str)) := by
      intro l
      induction l with
      | nil => rfl
      | cons c l ih =>
        show (strsOf (l.map fun c => PV.str ⟨#[c]⟩)).map _ = _
        rw [ih]
        rfl
    have s2 : ∀ l : List Nat, ((l.map fun c => (⟨#[c]⟩ : Str)).map (·.length)).sum = l.length := by
      intro l
      induction l with
      | nil => rfl
      | cons c l ih =>
        rw [List.map_cons, List.map_cons, List.sum_cons, ih, List.length_cons]
        show 1 + l.length = _
        omega
    unfold pJoin
    dsimp only
    rw [s1]
    show (if _ ≤ 16777216 then _ else _) = _
    rw [s2, if_pos (by show l.length + _ * 0 ≤ 16777216; omega), join_singles]
  unfold mUn mOp
  rw [lc]
  show (liftO (pJoin "" (.lst (l.map fun (c : Nat) => PV.str ⟨#[c]⟩)))).bind _ = _
  rw [hj]
  rfl
theorem vals_map : ∀ as : List PV, vals? (as.map RV.val) = some as
  | [] => rfl
  | a :: as => by
    show (some a).bind _ = _
    rw [Option.bind_some, vals_map as]
    rfl
theorem lst_of {ma : MA} {ρ ρ1 : Pu.Env} {ps : List PV} (h : ma ρ = .ok (ps.map RV.val, ρ1)) (hz : ps.length ≤ 16777216) : mLst ma ρ = .ok (.new (.lst ps), ρ1) := by
  unfold mLst
  rw [h, Res.bind_ok]
  dsimp only
  rw [vals_map, liftO_some, Res.bind_ok]
  unfold small
  rw [if_pos hz]
  rfl
theorem args_consN {m : M} {ma : MA} {ρ ρ1 ρ2 : Pu.Env} {o : OB} {ps : List PV} (h : m ρ = .ok (.new o, ρ1)) (t : ma ρ1 = .ok (ps.map RV.val, ρ2)) : mACons m ma ρ = .ok ((o.pv :: ps).map RV.val, ρ2) := by
  unfold mACons mOp
  rw [h, Res.bind_ok, Res.bind_ok]
  dsimp only
  rw [t]
  rfl
def P9 : Int := 10 ^ 9
def P18 : Int := 10 ^ 18
theorem P9e : (10 : Int) ^ (9 : Int).toNat = P9 := by decide +kernel
theorem P9n : P9 = ((1000000000 : Nat) : Int) := by decide +kernel
theorem P18e : (10 : Int) ^ (18 : Int).toNat = P18 := by decide +kernel
theorem pow9 (ρ : Pu.Env) : mBin pPow (mK (.int 10)) (mK (.int 9)) ρ = .ok (.val (.int P9), ρ) := bin_val rfl rfl (by rw [pow_ok 10 9 (by decide), P9e])
theorem pow18 (ρ : Pu.Env) : mBin pPow (mK (.int 10)) (mK (.int 18)) ρ = .ok (.val (.int P18), ρ) := bin_val rfl rfl (by rw [pow_ok 10 18 (by decide), P18e])
theorem mul_log {i j : Int} (h : i.natAbs.log2 + j.natAbs.log2 < 1000000) : pMul (.int i) (.int j) = some (.val (.int (i * j))) := by simp [pMul, h]
theorem bin_nv {ma mb : M} {f : PV → PV → Option RV} {ρ ρ1 ρ2 : Pu.Env} {o : OB} {b : PV} {r : RV} (h : ma ρ = .ok (.new o, ρ1)) (h2 : mb ρ1 = .ok (.val b, ρ2)) (hf : f o.pv b = some r) : mBin f ma mb ρ = .ok (r, ρ2) := by
  unfold mBin mOp
  rw [h, Res.bind_ok, Res.bind_ok]
  dsimp only
  rw [h2]
  simp [RV.fz, deref, liftO, Res.bind, hf]
/-! ### the cup -/
theorem cup_ok (ns : List Int) (hz : ns.length ≤ 1000) : ∃ a b : Int, (stepT C t).law_cup [.val (.scr ns)] = .ok (.new (cupO a b), [none]) := by
  have e0 : (stepT C t).law_cup = runF 2 (b_law_cup C t) := rfl
  rw [e0]
  obtain ⟨x, hx⟩ : ∃ x : Int, (ns.map PV.int ++ [PV.int 0])[0]? = some (PV.int x) := by
    cases ns with
    | nil => exact ⟨0, rfl⟩
    | cons n ns => exact ⟨n, rfl⟩
  let c : Int := if x < 0 then -x else x
  have g1 : mBin pAdd (mApp fList (mACons (mBor 0) mANil)) (mLst (mACons (mK (.int 0)) mANil)) [some (.val (.scr ns)), none] = .ok (.new (.lst (ns.map PV.int ++ [.int 0])), [some (.val (.scr ns)), none]) :=
    bin_new (app1 (a := .scr ns) rfl rfl) rfl (szOk_of (by simp; omega))
  have g2 : mBin pIx (mBin pAdd (mApp fList (mACons (mBor 0) mANil)) (mLst (mACons (mK (.int 0)) mANil))) (mK (.int 0)) [some (.val (.scr ns)), none] = .ok (.val (.int x), [some (.val (.scr ns)), none]) := by
    refine bin_nv (b := .int 0) g1 rfl ?_
    show (L2.atI (ns.map PV.int ++ [.int 0]) ((0 : Nat) : Int)).map RV.val = _
    rw [L2.atI_nat hx]
    rfl
  have e18 : mBin pPow (mK (.int 10)) (mK (.int 18)) [some (.val (.scr ns)), some (.val (.int c))] = .ok (.val (.int P18), [some (.val (.scr ns)), some (.val (.int c))]) := pow18 _
  have tst : mTest (mBin pGe (mBor 1) (mBin pPow (mK (.int 10)) (mK (.int 18)))) [some (.val (.scr ns)), some (.val (.int c))] = .ok (decide (P18 ≤ c), [some (.val (.scr ns)), some (.val (.int c))]) := test_of (bin_val (a := .int c) rfl e18 rfl)
  obtain ⟨a, ha⟩ : ∃ a : Int, mIf (mTest (mBin pGe (mBor 1) (mBin pPow (mK (.int 10)) (mK (.int 18))))) (mBin pDiv (mBor 1) (mK (.int 113))) (mK (.int 0)) [some (.val (.scr ns)), some (.val (.int c))] = .ok (.val (.int a), [some (.val (.scr ns)), some (.val (.int c))]) := by
    cases hd : decide (P18 ≤ c) with
    | true =>
      rw [hd] at tst
      exact ⟨c / 113, (mif_t tst).trans (bin_val (a := .int c) (b := .int 113) rfl rfl (div_ok _ _ (by decide)))⟩
    | false =>
      rw [hd] at tst
      exact ⟨0, (mif_f tst).trans rfl⟩
  have hb : mBin pAdd (mBin pMod (mApp fInt (mACons (mBin pAdd (mBin pMul (mBor 1) (mK (.int 367))) (mK (.int 5347))) mANil)) (mK (.int 1994132857))) (mK (.int 241)) [some (.val (.scr ns)), some (.val (.int c))] = .ok (.val (.int ((c * 367 + 5347) % 1994132857 + 241)), [some (.val (.scr ns)), some (.val (.int c))]) :=
    bin_val (b := .int 241) (bin_val (b := .int 1994132857) (app1 (r := .val (.int (c * 367 + 5347))) (bin_val (b := .int 5347) (bin_val (a := .int c) (b := .int 367) rfl rfl (mul_small2 (by decide))) rfl rfl) rfl) rfl (mod_ok (by decide))) rfl rfl
  refine ⟨a, (c * 367 + 5347) % 1994132857 + 241, ?_⟩
  refine run_rt (r := .new (cupO a ((c * 367 + 5347) % 1994132857 + 241))) (ρ1 := [some (.val (.scr ns)), some (.val (.int c))]) [some (.val (.scr ns)), none] rfl ?_ rfl
  refine (seq_nx (ρ1 := [some (.val (.scr ns)), some (.val (.int c))]) (asg_of (app1 (r := .val (.int c)) g2 rfl) rfl)).trans ?_
  exact ret_of (lst_of (args_cons ha (args_cons hb args_nil)) (show 2 ≤ 16777216 by decide))
mutual
theorem okV_lk : ∀ (n : Nat) (v : PV), okV n v = true → lk n v = true
  | n, .non, _ => by unfold lk; rfl
  | n, .bl _, _ => by unfold lk; rfl
  | n, .int _, _ => by unfold lk; rfl
  | n, .str x, ok => by
    unfold okV at ok
    rw [Bool.and_eq_true] at ok
    unfold lk PyData.strOk
    rw [← Array.all_toList, List.all_eq_true]
    intro c hc
    have := sign_range (List.all_eq_true.mp ok.2 c hc)
    exact decide_eq_true (by omega)
  | n + 1, .tup xs, ok => by
    unfold okV at ok
    rw [Bool.and_eq_true] at ok
    have := of_decide_eq_true ok.1
    unfold lk
    rw [Bool.and_eq_true]
    exact ⟨decide_eq_true (by omega), okVs_lks n xs ok.2⟩
  | 0, .tup xs, ok => by unfold okV at ok; cases ok
  | n, .ty _, ok => by unfold okV at ok; cases ok
  | n, .lst _, ok => by unfold okV at ok; cases ok
  | n, .dT _ _, ok => by unfold okV at ok; cases ok
  | n, .dK _ _, ok => by unfold okV at ok; cases ok
  | n, .ob _ _ _, ok => by unfold okV at ok; cases ok
  | n, .scr _, ok => by unfold okV at ok; cases ok
theorem okVs_lks : ∀ (n : Nat) (v : List PV), okVs n v = true → lks n v = true
  | n, [], _ => by unfold lks; rfl
  | n, x :: xs, ok => by
    unfold okVs at ok
    rw [Bool.and_eq_true] at ok
    unfold lks
    rw [okV_lk n x ok.1, okVs_lks n xs ok.2]
    rfl
end
mutual
theorem okV_up : ∀ (n m : Nat) (v : PV), okV n v = true → n ≤ m → okV m v = true
  | n, m, .non, _, _ => by unfold okV; rfl
  | n, m, .bl _, _, _ => by unfold okV; rfl
  | n, m, .int _, ok, _ => by unfold okV at ok ⊢; exact ok
  | n, m, .str x, ok, _ => by unfold okV at ok ⊢; exact ok
  | n + 1, 0, .tup xs, ok, h => by omega
  | n + 1, m + 1, .tup xs, ok, h => by
    unfold okV at ok ⊢
    rw [Bool.and_eq_true] at ok ⊢
    exact ⟨ok.1, okVs_up n m xs ok.2 (by omega)⟩
  | 0, m, .tup xs, ok, _ => by unfold okV at ok; cases ok
  | n, m, .ty _, ok, _ => by unfold okV at ok; cases ok
  | n, m, .lst _, ok, _ => by unfold okV at ok; cases ok
  | n, m, .dT _ _, ok, _ => by unfold okV at ok; cases ok
  | n, m, .dK _ _, ok, _ => by unfold okV at ok; cases ok
  | n, m, .ob _ _ _, ok, _ => by unfold okV at ok; cases ok
  | n, m, .scr _, ok, _ => by unfold okV at ok; cases ok
theorem okVs_up : ∀ (n m : Nat) (v : List PV), okVs n v = true → n ≤ m → okVs m v = true
  | n, m, [], _, _ => by unfold okVs; rfl
  | n, m, x :: xs, ok, h => by
    unfold okVs at ok ⊢
    rw [Bool.and_eq_true] at ok
    rw [okV_up n m x ok.1 h, okVs_up n m xs ok.2 h]
    rfl
end
theorem lks_ints (os : List Int) : lks 0 (os.map PV.int) = true := by
  induction os with
  | nil => unfold lks; rfl
  | cons o os ih =>
    rw [List.map_cons]
    unfold lks
    rw [ih]
    unfold lk
    rfl
theorem lk_octs (os : List Int) (h : os.length ≤ 16777216) : lk 1 (.tup (os.map PV.int)) = true := by
  unfold lk
  rw [lks_ints, decide_eq_true (by rw [List.length_map]; exact h)]
  rfl
/-- what the turns hand on: a value with its octets -/
def Good (v : PV) : Prop := okV 60 v = true ∧ (enc v).length < 16777216 ∧ cnt v ≤ 500000
def SigOk (g : G) : Prop := ∀ l : List Nat, (∀ c ∈ l, five c) → l.length ≤ 1000 → g [.val (.lst (l.map fun (c : Nat) => PV.int c))] = .ok (.val (.str ⟨l.toArray⟩), [none])
theorem sig_T (n : Nat) : SigOk (T C (n + 1)).law_signs := fun l h1 h2 => signs_ok h1 h2
end K81

set_option Elab.async false
set_option linter.all false
set_option maxRecDepth 100000
set_option exponentiation.threshold 100000
namespace K81
open PySem Pu
variable {C : Addr} {t : Tb}
/-! ### reading, in all cases: digits -/
def over (most : Option Nat) (n : Nat) : Bool := match most with
  | none => false
  | some q => decide (q < n)
def mostP : Option Nat → PV
  | none => .non
  | some q => .int q
def rdN (os : List Int) (most : Option Nat) : Nat → Nat → Nat → Nat → Nat → Except Nat (Nat × Nat)
  | 0, a, _, _, _ => .error a
  | f + 1, a, m, n, s => match os[a]? with
    | none => .error a
    | some i => if i < 128 then (if (i == 0 && decide (0 < m)) || over most (n + i.toNat % 128 * s) then .error a else .ok (n + i.toNat % 128 * s, a + 1))
        else rdN os most f (a + 1) (m + 1) (n + i.toNat % 128 * s) (s * 128)
def rdD (os : List Int) (most : Option Nat) (a : Nat) : Except Nat (Nat × Nat) := rdN os most 950 a 0 0 1
abbrev bX (e : Nat) : EX := ⟨"BadText", .int (e : Int)⟩
abbrev bRD : MS := mSeq (mIfS (mTOr (mTest (mBin pEq (mBor 1) (mApp fLen (mACons (mBor 0) mANil)))) (mTest (mBin pEq (mBor 4) (mK (.int 950)))))
    (mRaise "BadText" (mNm 1))
    mNx)
    (mSeq (mAsg 6 (mBin pIx (mBor 0) (mBor 1)))
    (mSeq (mAug 3 pAddI (mBin pMul (mBin pMod (mApp fInt (mACons (mBor 6) mANil)) (mK (.int 128))) (mBor 5)))
    (mSeq (mAug 5 pMulS (mK (.int 128)))
    (mSeq (mIfS (mTest (mBin pLt (mBor 6) (mK (.int 128))))
    (mSeq (mIfS (mTOr (mTAnd (mTest (mBin pEq (mBor 6) (mK (.int 0)))) (mTest (mBin pGt (mBor 4) (mK (.int 0))))) (mTAnd (mTest (mBin pIsNot (mBor 2) (mK .non))) (mTest (mBin pGt (mBor 3) (mBor 2)))))
    (mRaise "BadText" (mNm 1))
    mNx)
    (mRet (mTup (mACons (mNm 3) (mACons (mBin pAdd (mBor 1) (mK (.int 1))) mANil)))))
    mNx)
    (mSeq (mAug 4 pAddI (mK (.int 1)))
    (mAug 1 pAddI (mK (.int 1))))))))
abbrev rdE (os : List Int) (a : Nat) (q : PV) (n m s : Nat) (o : Option PV) : Pu.Env := [some (.val (.tup (os.map PV.int))), some (.val (.int a)), some (.val q), some (.val (.int n)), some (.val (.int m)), some (.val (.int s)), o.map SV.val]
theorem rd_head {os : List Int} {a : Nat} {q : PV} {n m s : Nat} {o : Option PV} {i : Nat} (hi : os[a]? = some (i : Int)) (hm : m < 950) (hn : os.length < 16777216) :
    ∀ b, mSeq (mIfS (mTOr (mTest (mBin pEq (mBor 1) (mApp fLen (mACons (mBor 0) mANil)))) (mTest (mBin pEq (mBor 4) (mK (.int 950))))) (mRaise "BadText" (mNm 1)) mNx)
    (mSeq (mAsg 6 (mBin pIx (mBor 0) (mBor 1)))
    (mSeq (mAug 3 pAddI (mBin pMul (mBin pMod (mApp fInt (mACons (mBor 6) mANil)) (mK (.int 128))) (mBor 5)))
    (mSeq (mAug 5 pMulS (mK (.int 128))) b))) (rdE os a q n m s o) = b (rdE os a q (n + i % 128 * s) m (s * 128) (some (.int i))) := by
  intro b
  have ha : a < os.length := (List.getElem?_eq_some_iff.mp hi).1
  have c1 : ¬ (a : Int) = (os.length : Int) := by omega
  have c2 : ¬ (m : Int) = 950 := by omega
  refine (seq_nx (ρ1 := rdE os a q n m s o) (by simp [Res.bind, mSeq, mNx, mRet, mRetNm, mRetN, mIfS, mNever, mAsg, setR, setV, setO, isPar, mAug, mDrop, mAppend, mExtend, ownL?, ownO, setC, RV.lst?, mSrc, itemsOf, mOp, RV.fz, OB.pv, mBor, mNm, mK, mNew, mBin, mUn, deref, liftO, mANil, mACons, mApp, derefs, vals?, RV.val?, small, mTup, mLst, mCall, lone, avsOf, avOf, backs, findArg, back1, RV.bor?, mTest, RV.bl?, mTruth, truth, mTNot, mTAnd, mTOr, mAndV, mOrV, mNotV, mIf, mChain, mgNm, mAsgT, mgTup, mgCons, mgNil, iop, pAdd, pSub, pMul, pDiv, pMod, pNeg, pLt, pLe, pGt, pGe, pEq, pNe, pAddI, pMulS, pIs, pIsNot, isP, pIn, pNotIn, inP, flatP, cmpOk, cmpOks, eqP, eqPs, pIx, fLen, fAbs, fInt, fMin2, fMax2, fOrd, fList, fTuple, fIsi, tyName, AV.slot, runF, Res.nox, RV.out, outsOf, SV.lent, range1e, range2e, range3e, range4e, isi_NoneType_int, isi_NoneType_bool, isi_NoneType_str, isi_NoneType_tuple, isi_NoneType_list, isi_bool_int, isi_bool_bool, isi_bool_str, isi_bool_tuple, isi_bool_list, isi_int_int, isi_int_bool, isi_int_str, isi_int_tuple, isi_int_list, isi_str_int, isi_str_bool, isi_str_str, isi_str_tuple, isi_str_list, isi_tuple_int, isi_tuple_bool, isi_tuple_str, isi_tuple_tuple, isi_tuple_list, isi_list_int, isi_list_bool, isi_list_str, isi_list_tuple, isi_list_list, isi_dict_int, isi_dict_bool, isi_dict_str, isi_dict_tuple, isi_dict_list, c1, c2])).trans ?_
  refine (seq_nx (ρ1 := rdE os a q n m s (some (.int i))) (asg_of (r := .val (.int i)) (ρ1 := rdE os a q n m s o) (bin_val rfl rfl (at_ok hi)) (by cases o <;> rfl))).trans ?_
  have sm : smallI ((i : Int) % 128) = true := by
    unfold smallI
    rw [Bool.and_eq_true]
    exact ⟨decide_eq_true (by omega), decide_eq_true (by omega)⟩
  have e1 : mBin pMod (mApp fInt (mACons (mBor 6) mANil)) (mK (.int 128)) (rdE os a q n m s (some (.int i))) = .ok (.val (.int ((i : Int) % 128)), rdE os a q n m s (some (.int i))) := bin_val (a := .int i) (b := .int 128) rfl rfl (iop_eval (if_pos (by decide)))
  have e2 : mBin pMul (mBin pMod (mApp fInt (mACons (mBor 6) mANil)) (mK (.int 128))) (mBor 5) (rdE os a q n m s (some (.int i))) = .ok (.val (.int ((i : Int) % 128 * s)), rdE os a q n m s (some (.int i))) :=
    bin_val (b := .int s) e1 rfl (mul_small sm)
  refine (seq_nx (ρ1 := rdE os a q (n + i % 128 * s) m s (some (.int i))) (aug_val (a := .int n) rfl e2 (iop_eval rfl) ?_)).trans ?_
  · show some [_, _, _, some (SV.val (PV.int ((n : Int) + (i : Int) % 128 * s))), _, _, _] = _
    rw [show ((n : Int) + (i : Int) % 128 * s) = ((n + i % 128 * s : Nat) : Int) by simp]
  · refine seq_nx (aug_val (a := .int s) (b := .int 128) (ρ1 := rdE os a q (n + i % 128 * s) m s (some (.int i))) rfl rfl (iop_eval (if_pos (.inr (by decide)))) ?_)
    show some [_, _, _, _, _, some (SV.val (PV.int ((s : Int) * 128))), _] = _
    rw [show ((s : Int) * 128) = ((s * 128 : Nat) : Int) by simp]
theorem rd_end {os : List Int} {a : Nat} {q : PV} {n m s : Nat} {o : Option PV} (h : a = os.length ∨ m = 950) : bRD (rdE os a q n m s o) = .exc (bX a) := by
  refine seq_ex ((ifs_t (ρ1 := rdE os a q n m s o) ?_).trans (raise_of (v := .int a) rfl))
  rcases h with h | h
  · subst h
    refine tor_t ?_
    simp [Res.bind, mSeq, mNx, mRet, mRetNm, mRetN, mIfS, mNever, mAsg, setR, setV, setO, isPar, mAug, mDrop, mAppend, mExtend, ownL?, ownO, setC, RV.lst?, mSrc, itemsOf, mOp, RV.fz, OB.pv, mBor, mNm, mK, mNew, mBin, mUn, deref, liftO, mANil, mACons, mApp, derefs, vals?, RV.val?, small, mTup, mLst, mCall, lone, avsOf, avOf, backs, findArg, back1, RV.bor?, mTest, RV.bl?, mTruth, truth, mTNot, mTAnd, mTOr, mAndV, mOrV, mNotV, mIf, mChain, mgNm, mAsgT, mgTup, mgCons, mgNil, iop, pAdd, pSub, pMul, pDiv, pMod, pNeg, pLt, pLe, pGt, pGe, pEq, pNe, pAddI, pMulS, pIs, pIsNot, isP, pIn, pNotIn, inP, flatP, cmpOk, cmpOks, eqP, eqPs, pIx, fLen, fAbs, fInt, fMin2, fMax2, fOrd, fList, fTuple, fIsi, tyName, AV.slot, runF, Res.nox, RV.out, outsOf, SV.lent, range1e, range2e, range3e, range4e, isi_NoneType_int, isi_NoneType_bool, isi_NoneType_str, isi_NoneType_tuple, isi_NoneType_list, isi_bool_int, isi_bool_bool, isi_bool_str, isi_bool_tuple, isi_bool_list, isi_int_int, isi_int_bool, isi_int_str, isi_int_tuple, isi_int_list, isi_str_int, isi_str_bool, isi_str_str, isi_str_tuple, isi_str_list, isi_tuple_int, isi_tuple_bool, isi_tuple_str, isi_tuple_tuple, isi_tuple_list, isi_list_int, isi_list_bool, isi_list_str, isi_list_tuple, isi_list_list, isi_dict_int, isi_dict_bool, isi_dict_str, isi_dict_tuple, isi_dict_list]
  · subst h
    by_cases c : (a : Int) = os.length <;> simp [Res.bind, mSeq, mNx, mRet, mRetNm, mRetN, mIfS, mNever, mAsg, setR, setV, setO, isPar, mAug, mDrop, mAppend, mExtend, ownL?, ownO, setC, RV.lst?, mSrc, itemsOf, mOp, RV.fz, OB.pv, mBor, mNm, mK, mNew, mBin, mUn, deref, liftO, mANil, mACons, mApp, derefs, vals?, RV.val?, small, mTup, mLst, mCall, lone, avsOf, avOf, backs, findArg, back1, RV.bor?, mTest, RV.bl?, mTruth, truth, mTNot, mTAnd, mTOr, mAndV, mOrV, mNotV, mIf, mChain, mgNm, mAsgT, mgTup, mgCons, mgNil, iop, pAdd, pSub, pMul, pDiv, pMod, pNeg, pLt, pLe, pGt, pGe, pEq, pNe, pAddI, pMulS, pIs, pIsNot, isP, pIn, pNotIn, inP, flatP, cmpOk, cmpOks, eqP, eqPs, pIx, fLen, fAbs, fInt, fMin2, fMax2, fOrd, fList, fTuple, fIsi, tyName, AV.slot, runF, Res.nox, RV.out, outsOf, SV.lent, range1e, range2e, range3e, range4e, isi_NoneType_int, isi_NoneType_bool, isi_NoneType_str, isi_NoneType_tuple, isi_NoneType_list, isi_bool_int, isi_bool_bool, isi_bool_str, isi_bool_tuple, isi_bool_list, isi_int_int, isi_int_bool, isi_int_str, isi_int_tuple, isi_int_list, isi_str_int, isi_str_bool, isi_str_str, isi_str_tuple, isi_str_list, isi_tuple_int, isi_tuple_bool, isi_tuple_str, isi_tuple_tuple, isi_tuple_list, isi_list_int, isi_list_bool, isi_list_str, isi_list_tuple, isi_list_list, isi_dict_int, isi_dict_bool, isi_dict_str, isi_dict_tuple, isi_dict_list, c]
theorem oct_nat {os : List Int} {a : Nat} {i : Int} (ho : os.all oct = true) (hi : os[a]? = some i) : ∃ k : Nat, i = (k : Int) ∧ k < 256 := by
  have := List.all_eq_true.mp ho i (List.mem_of_getElem? hi)
  unfold oct at this
  rw [Bool.and_eq_true] at this
  have h1 := of_decide_eq_true this.1
  have h2 := of_decide_eq_true this.2
  exact ⟨i.toNat, by omega, by omega⟩
theorem rd_tst {os : List Int} {a : Nat} {most : Option Nat} {n m s k : Nat} : mTOr (mTAnd (mTest (mBin pEq (mBor 6) (mK (.int 0)))) (mTest (mBin pGt (mBor 4) (mK (.int 0))))) (mTAnd (mTest (mBin pIsNot (mBor 2) (mK .non))) (mTest (mBin pGt (mBor 3) (mBor 2)))) (rdE os a (mostP most) n m s (some (.int k))) =
    .ok ((((k : Int) == 0 && decide (0 < m)) || over most n), rdE os a (mostP most) n m s (some (.int k))) := by
  have g1 : mTAnd (mTest (mBin pEq (mBor 6) (mK (.int 0)))) (mTest (mBin pGt (mBor 4) (mK (.int 0)))) (rdE os a (mostP most) n m s (some (.int k))) = .ok (((k : Int) == 0 && decide (0 < m)), rdE os a (mostP most) n m s (some (.int k))) := by
    by_cases c1 : (k : Int) = 0
    · by_cases c2 : 0 < m <;> simp [Res.bind, mSeq, mNx, mRet, mRetNm, mRetN, mIfS, mNever, mAsg, setR, setV, setO, isPar, mAug, mDrop, mAppend, mExtend, ownL?, ownO, setC, RV.lst?, mSrc, itemsOf, mOp, RV.fz, OB.pv, mBor, mNm, mK, mNew, mBin, mUn, deref, liftO, mANil, mACons, mApp, derefs, vals?, RV.val?, small, mTup, mLst, mCall, lone, avsOf, avOf, backs, findArg, back1, RV.bor?, mTest, RV.bl?, mTruth, truth, mTNot, mTAnd, mTOr, mAndV, mOrV, mNotV, mIf, mChain, mgNm, mAsgT, mgTup, mgCons, mgNil, iop, pAdd, pSub, pMul, pDiv, pMod, pNeg, pLt, pLe, pGt, pGe, pEq, pNe, pAddI, pMulS, pIs, pIsNot, isP, pIn, pNotIn, inP, flatP, cmpOk, cmpOks, eqP, eqPs, pIx, fLen, fAbs, fInt, fMin2, fMax2, fOrd, fList, fTuple, fIsi, tyName, AV.slot, runF, Res.nox, RV.out, outsOf, SV.lent, range1e, range2e, range3e, range4e, isi_NoneType_int, isi_NoneType_bool, isi_NoneType_str, isi_NoneType_tuple, isi_NoneType_list, isi_bool_int, isi_bool_bool, isi_bool_str, isi_bool_tuple, isi_bool_list, isi_int_int, isi_int_bool, isi_int_str, isi_int_tuple, isi_int_list, isi_str_int, isi_str_bool, isi_str_str, isi_str_tuple, isi_str_list, isi_tuple_int, isi_tuple_bool, isi_tuple_str, isi_tuple_tuple, isi_tuple_list, isi_list_int, isi_list_bool, isi_list_str, isi_list_tuple, isi_list_list, isi_dict_int, isi_dict_bool, isi_dict_str, isi_dict_tuple, isi_dict_list, c1, c2]
    · have c3 : ¬ k = 0 := by omega
      simp [Res.bind, mSeq, mNx, mRet, mRetNm, mRetN, mIfS, mNever, mAsg, setR, setV, setO, isPar, mAug, mDrop, mAppend, mExtend, ownL?, ownO, setC, RV.lst?, mSrc, itemsOf, mOp, RV.fz, OB.pv, mBor, mNm, mK, mNew, mBin, mUn, deref, liftO, mANil, mACons, mApp, derefs, vals?, RV.val?, small, mTup, mLst, mCall, lone, avsOf, avOf, backs, findArg, back1, RV.bor?, mTest, RV.bl?, mTruth, truth, mTNot, mTAnd, mTOr, mAndV, mOrV, mNotV, mIf, mChain, mgNm, mAsgT, mgTup, mgCons, mgNil, iop, pAdd, pSub, pMul, pDiv, pMod, pNeg, pLt, pLe, pGt, pGe, pEq, pNe, pAddI, pMulS, pIs, pIsNot, isP, pIn, pNotIn, inP, flatP, cmpOk, cmpOks, eqP, eqPs, pIx, fLen, fAbs, fInt, fMin2, fMax2, fOrd, fList, fTuple, fIsi, tyName, AV.slot, runF, Res.nox, RV.out, outsOf, SV.lent, range1e, range2e, range3e, range4e, isi_NoneType_int, isi_NoneType_bool, isi_NoneType_str, isi_NoneType_tuple, isi_NoneType_list, isi_bool_int, isi_bool_bool, isi_bool_str, isi_bool_tuple, isi_bool_list, isi_int_int, isi_int_bool, isi_int_str, isi_int_tuple, isi_int_list, isi_str_int, isi_str_bool, isi_str_str, isi_str_tuple, isi_str_list, isi_tuple_int, isi_tuple_bool, isi_tuple_str, isi_tuple_tuple, isi_tuple_list, isi_list_int, isi_list_bool, isi_list_str, isi_list_tuple, isi_list_list, isi_dict_int, isi_dict_bool, isi_dict_str, isi_dict_tuple, isi_dict_list, c3]
  have g2 : mTAnd (mTest (mBin pIsNot (mBor 2) (mK .non))) (mTest (mBin pGt (mBor 3) (mBor 2))) (rdE os a (mostP most) n m s (some (.int k))) = .ok (over most n, rdE os a (mostP most) n m s (some (.int k))) := by
    cases most with
    | none => simp [Res.bind, mSeq, mNx, mRet, mRetNm, mRetN, mIfS, mNever, mAsg, setR, setV, setO, isPar, mAug, mDrop, mAppend, mExtend, ownL?, ownO, setC, RV.lst?, mSrc, itemsOf, mOp, RV.fz, OB.pv, mBor, mNm, mK, mNew, mBin, mUn, deref, liftO, mANil, mACons, mApp, derefs, vals?, RV.val?, small, mTup, mLst, mCall, lone, avsOf, avOf, backs, findArg, back1, RV.bor?, mTest, RV.bl?, mTruth, truth, mTNot, mTAnd, mTOr, mAndV, mOrV, mNotV, mIf, mChain, mgNm, mAsgT, mgTup, mgCons, mgNil, iop, pAdd, pSub, pMul, pDiv, pMod, pNeg, pLt, pLe, pGt, pGe, pEq, pNe, pAddI, pMulS, pIs, pIsNot, isP, pIn, pNotIn, inP, flatP, cmpOk, cmpOks, eqP, eqPs, pIx, fLen, fAbs, fInt, fMin2, fMax2, fOrd, fList, fTuple, fIsi, tyName, AV.slot, runF, Res.nox, RV.out, outsOf, SV.lent, range1e, range2e, range3e, range4e, isi_NoneType_int, isi_NoneType_bool, isi_NoneType_str, isi_NoneType_tuple, isi_NoneType_list, isi_bool_int, isi_bool_bool, isi_bool_str, isi_bool_tuple, isi_bool_list, isi_int_int, isi_int_bool, isi_int_str, isi_int_tuple, isi_int_list, isi_str_int, isi_str_bool, isi_str_str, isi_str_tuple, isi_str_list, isi_tuple_int, isi_tuple_bool, isi_tuple_str, isi_tuple_tuple, isi_tuple_list, isi_list_int, isi_list_bool, isi_list_str, isi_list_tuple, isi_list_list, isi_dict_int, isi_dict_bool, isi_dict_str, isi_dict_tuple, isi_dict_list, mostP, over]
    | some q => by_cases c2 : q < n <;> simp [Res.bind, mSeq, mNx, mRet, mRetNm, mRetN, mIfS, mNever, mAsg, setR, setV, setO, isPar, mAug, mDrop, mAppend, mExtend, ownL?, ownO, setC, RV.lst?, mSrc, itemsOf, mOp, RV.fz, OB.pv, mBor, mNm, mK, mNew, mBin, mUn, deref, liftO, mANil, mACons, mApp, derefs, vals?, RV.val?, small, mTup, mLst, mCall, lone, avsOf, avOf, backs, findArg, back1, RV.bor?, mTest, RV.bl?, mTruth, truth, mTNot, mTAnd, mTOr, mAndV, mOrV, mNotV, mIf, mChain, mgNm, mAsgT, mgTup, mgCons, mgNil, iop, pAdd, pSub, pMul, pDiv, pMod, pNeg, pLt, pLe, pGt, pGe, pEq, pNe, pAddI, pMulS, pIs, pIsNot, isP, pIn, pNotIn, inP, flatP, cmpOk, cmpOks, eqP, eqPs, pIx, fLen, fAbs, fInt, fMin2, fMax2, fOrd, fList, fTuple, fIsi, tyName, AV.slot, runF, Res.nox, RV.out, outsOf, SV.lent, range1e, range2e, range3e, range4e, isi_NoneType_int, isi_NoneType_bool, isi_NoneType_str, isi_NoneType_tuple, isi_NoneType_list, isi_bool_int, isi_bool_bool, isi_bool_str, isi_bool_tuple, isi_bool_list, isi_int_int, isi_int_bool, isi_int_str, isi_int_tuple, isi_int_list, isi_str_int, isi_str_bool, isi_str_str, isi_str_tuple, isi_str_list, isi_tuple_int, isi_tuple_bool, isi_tuple_str, isi_tuple_tuple, isi_tuple_list, isi_list_int, isi_list_bool, isi_list_str, isi_list_tuple, isi_list_list, isi_dict_int, isi_dict_bool, isi_dict_str, isi_dict_tuple, isi_dict_list, mostP, over, c2]
  cases hc : ((k : Int) == 0 && decide (0 < m)) with
  | true => rw [hc] at g1; rw [tor_t g1]; rfl
  | false => rw [hc] at g1; rw [tor_f g1, g2]; rfl
def RdRes (r : Except Nat (Nat × Nat)) (x : Res (Fl × Pu.Env)) : Prop := match r with
  | .error e => x = .exc (bX e)
  | .ok (k, a') => ∃ ρ, x = .ok (.rt (.val (.tup [.int (k : Int), .int (a' : Int)])), ρ) ∧ outsOf 3 ρ = [none, none, none]
theorem rd_loop {os : List Int} (hn : os.length < 16777216) (ho : os.all oct = true) {most : Option Nat} : ∀ (f a m n s : Nat) (o : Option PV), m + f = 950 → a ≤ os.length →
    RdRes (rdN os most f a m n s) (whileM (mTruth (mK (.bl true))) bRD (f + 50) (rdE os a (mostP most) n m s o))
  | 0, a, m, n, s, o, hm, ha => by
    show whileM _ bRD (49 + 1) _ = _
    exact while_ex (ρ1 := rdE os a (mostP most) n m s o) rfl (rd_end (.inr (by omega)))
  | f + 1, a, m, n, s, o, hm, ha => by
    rw [show f + 1 + 50 = (f + 50) + 1 by omega]
    unfold rdN
    cases hi : os[a]? with
    | none =>
      have : os.length ≤ a := List.getElem?_eq_none_iff.mp hi
      exact while_ex (ρ1 := rdE os a (mostP most) n m s o) rfl (rd_end (.inl (by omega)))
    | some i =>
      obtain ⟨k, rfl, hk⟩ := oct_nat ho hi
      have hl := (List.getElem?_eq_some_iff.mp hi).1
      have e := rd_head (q := mostP most) (n := n) (m := m) (s := s) (o := o) hi (by omega) hn
      dsimp only
      rw [Int.toNat_natCast]
      by_cases c : (k : Int) < 128
      · rw [if_pos c]
        have tt := rd_tst (os := os) (a := a) (most := most) (n := n + k % 128 * s) (m := m) (s := s * 128) (k := k)
        have c' : k < 128 := by omega
        have t1 : mTest (mBin pLt (mBor 6) (mK (.int 128))) (rdE os a (mostP most) (n + k % 128 * s) m (s * 128) (some (.int k))) = .ok (true, rdE os a (mostP most) (n + k % 128 * s) m (s * 128) (some (.int k))) :=
          test_of (bin_val (a := .int k) (b := .int 128) rfl rfl (by rw [show pLt (.int (k : Int)) (.int 128) = some (.val (.bl (decide ((k : Int) < 128)))) from rfl, decide_eq_true c]))
        cases hb : (((k : Int) == 0 && decide (0 < m)) || over most (n + k % 128 * s)) with
        | true =>
          rw [hb] at tt
          rw [if_pos rfl]
          exact while_ex (ρ1 := rdE os a (mostP most) n m s o) rfl ((e _).trans (seq_ex ((ifs_t t1).trans (seq_ex ((ifs_t tt).trans (raise_of (v := .int a) rfl))))))
        | false =>
          rw [hb] at tt
          rw [if_neg (by decide)]
          refine ⟨rdE os a (mostP most) (n + k % 128 * s) m (s * 128) (some (.int k)), ?_, rfl⟩
          refine while_rt (ρ1 := rdE os a (mostP most) n m s o) rfl ((e _).trans (seq_rt ((ifs_t t1).trans ((seq_nx ((ifs_f tt).trans rfl)).trans ?_))))
          rfl
      · rw [if_neg c]
        have t1 : mTest (mBin pLt (mBor 6) (mK (.int 128))) (rdE os a (mostP most) (n + k % 128 * s) m (s * 128) (some (.int k))) = .ok (false, rdE os a (mostP most) (n + k % 128 * s) m (s * 128) (some (.int k))) :=
          test_of (bin_val (a := .int k) (b := .int 128) rfl rfl (by rw [show pLt (.int (k : Int)) (.int 128) = some (.val (.bl (decide ((k : Int) < 128)))) from rfl, decide_eq_false c]))
        have ih := rd_loop hn ho (most := most) f (a + 1) (m + 1) (n + k % 128 * s) (s * 128) (some (.int k)) (by omega) hl
        have st : whileM (mTruth (mK (.bl true))) bRD ((f + 50) + 1) (rdE os a (mostP most) n m s o) = whileM (mTruth (mK (.bl true))) bRD (f + 50) (rdE os (a + 1) (mostP most) (n + k % 128 * s) (m + 1) (s * 128) (some (.int k))) := by
          refine while_t (ρ1 := rdE os a (mostP most) n m s o) rfl ((e _).trans ((seq_nx ((ifs_f t1).trans rfl)).trans ?_))
          rfl
        rw [st]
        exact ih
/-- a number read -/
def DgRes (r : Except Nat (Nat × Nat)) (x : Res (RV × List (Option OB))) : Prop := match r with
  | .error e => x = .exc (bX e)
  | .ok (k, a') => x = .ok (.val (.tup [.int (k : Int), .int (a' : Int)]), [none, none, none])
def RdOk (g : G) : Prop := ∀ (os : List Int) (most : Option Nat) (a : Nat), os.length < 16777216 → os.all oct = true → a ≤ os.length → DgRes (rdD os most a) (g [.val (.tup (os.map PV.int)), .val (.int a), .val (mostP most)])
theorem read_digits_ok : RdOk (stepT C t).read_digits := fun os most a hn ho ha => by
  have l := rd_loop hn ho (most := most) 950 a 0 0 1 none rfl ha
  have e0 : (stepT C t).read_digits = runX 7 (b_read_digits C t) := rfl
  rw [e0]
  have st : b_read_digits C t [some (.val (.tup (os.map PV.int))), some (.val (.int a)), some (.val (mostP most)), none, none, none, none] = whileM (mTruth (mK (.bl true))) bRD (950 + 50) (rdE os a (mostP most) 0 0 1 none) := by
    refine (seq_nx (ρ1 := [some (.val (.tup (os.map PV.int))), some (.val (.int a)), some (.val (mostP most)), some (.val (.int 0)), none, none, none]) rfl).trans ?_
    refine (seq_nx (ρ1 := [some (.val (.tup (os.map PV.int))), some (.val (.int a)), some (.val (mostP most)), some (.val (.int 0)), some (.val (.int 0)), none, none]) rfl).trans ?_
    exact (seq_nx (ρ1 := rdE os a (mostP most) 0 0 1 none) rfl).trans rfl
  rw [← st] at l
  unfold rdD
  cases h : rdN os most 950 a 0 0 1 with
  | error e =>
    rw [h] at l
    exact runX_ex _ rfl l
  | ok p =>
    obtain ⟨k, a'⟩ := p
    rw [h] at l
    obtain ⟨ρ, h1, h2⟩ := l
    exact (runX_rt (r := .val (.tup [.int (k : Int), .int (a' : Int)])) (r' := .val (.tup [.int (k : Int), .int (a' : Int)])) (ρ1 := ρ) _ rfl h1 rfl).trans (by rw [show ([AV.val (PV.tup (os.map PV.int)), AV.val (PV.int a), AV.val (mostP most)] : List AV).length = 3 from rfl, h2])
end K81

set_option Elab.async false
set_option linter.all false
set_option maxRecDepth 100000
set_option exponentiation.threshold 100000
namespace K81
open PySem Pu
variable {C : Addr} {t : Tb}
/-! ### reading, in all cases: values -/
def rdS (os : List Int) : Nat → Nat → Except Nat (List Nat × Nat)
  | 0, a => .ok ([], a)
  | n + 1, a => match os[a]? with
    | none => .error a
    | some i => if isSign i = true then (match rdS os n (a + 1) with
      | .error e => .error e
      | .ok (l, a') => .ok (i.toNat :: l, a')) else .error a
abbrev VR := Except Nat (PV × Nat × Nat)
def rdL (rd : Nat → Nat → VR) : Nat → Nat → Nat → Except Nat (List PV × Nat × Nat)
  | 0, a, p => .ok ([], a, p)
  | n + 1, a, p => match rd a p with
    | .error e => .error e
    | .ok (v, a1, p1) => match rdL rd n a1 p1 with
      | .error e => .error e
      | .ok (vs, a2, p2) => .ok (v :: vs, a2, p2)
def rdK (os : List Int) (sub : Option (Nat → Nat → VR)) (a p : Nat) : VR := match os[a]? with
  | none => .error a
  | some i => if 6 < i then .error a else if i = 0 then .ok (.non, a + 1, p) else if i = 5 then .ok (.bl true, a + 1, p) else if i = 6 then .ok (.bl false, a + 1, p)
    else if i = 1 then (match rdD os none (a + 1) with
      | .error e => .error e
      | .ok (k, a') => .ok (.int k, a', p))
    else if i = 2 then (match rdD os none (a + 1) with
      | .error e => .error e
      | .ok (k, a') => .ok (.int (-(k : Int) - 1), a', p))
    else if i = 3 then (match rdD os (some 20000) (a + 1) with
      | .error e => .error e
      | .ok (k, a') => match rdS os k a' with
        | .error e => .error e
        | .ok (l, a2) => .ok (.str ⟨l.toArray⟩, a2, p))
    else match sub with
      | none => .error a
      | some rd => match rdD os (some (min 50000 (500000 - p))) (a + 1) with
        | .error e => .error e
        | .ok (k, a') => match rdL rd k a' (p + k) with
          | .error e => .error e
          | .ok (vs, a2, p2) => .ok (.tup vs, a2, p2)
def rdV (os : List Int) : Nat → Nat → Nat → VR
  | 0 => rdK os none
  | f + 1 => rdK os (some (rdV os f))
theorem rdN_le {os : List Int} {most : Option Nat} : ∀ (f a m n s k a' : Nat), rdN os most f a m n s = .ok (k, a') → a < a' ∧ a' ≤ os.length ∧ ∀ q, most = some q → k ≤ q
  | 0, a, m, n, s, k, a', h => by cases h
  | f + 1, a, m, n, s, k, a', h => by
    unfold rdN at h
    cases hi : os[a]? with
    | none => rw [hi] at h; cases h
    | some i =>
      have hl := (List.getElem?_eq_some_iff.mp hi).1
      rw [hi] at h
      dsimp only at h
      split at h
      · split at h
        · cases h
        · rename_i c
          cases h
          refine ⟨by omega, hl, fun q e => ?_⟩
          subst e
          simp only [over, Bool.or_eq_true, not_or, decide_eq_true_eq] at c
          omega
      · have := rdN_le f _ _ _ _ k a' h
        exact ⟨by omega, this.2⟩
theorem rdD_le {os : List Int} {most : Option Nat} {a k a' : Nat} (h : rdD os most a = .ok (k, a')) : a < a' ∧ a' ≤ os.length ∧ ∀ q, most = some q → k ≤ q := rdN_le 950 _ _ _ _ _ _ h
theorem rdS_le {os : List Int} : ∀ (n a a' : Nat) (l : List Nat), rdS os n a = .ok (l, a') → a ≤ os.length → a' = a + n ∧ a' ≤ os.length ∧ l.length = n
  | 0, a, a', l, h, ha => by cases h; exact ⟨rfl, ha, rfl⟩
  | n + 1, a, a', l, h, ha => by
    unfold rdS at h
    cases hi : os[a]? with
    | none => rw [hi] at h; cases h
    | some i =>
      have hl := (List.getElem?_eq_some_iff.mp hi).1
      rw [hi] at h
      dsimp only at h
      split at h
      · cases hr : rdS os n (a + 1) with
        | error e => rw [hr] at h; cases h
        | ok q =>
          obtain ⟨l', a2⟩ := q
          rw [hr] at h
          cases h
          obtain ⟨h1, h2, h3⟩ := rdS_le n (a + 1) _ _ hr hl
          exact ⟨by omega, h2, by rw [List.length_cons, h3]⟩
      · cases h
/-- what a def of the reader gives -/
def BRes (C : Addr) (os : List Int) (p : Nat) (r : Except Nat (PV × Nat)) (n : Nat) (x : Res (RV × List (Option OB))) : Prop := match r with
  | .error e => x = .exc (bX e)
  | .ok (v, a') => x = .ok (.val v, some (Rd C os a' p) :: List.replicate n none)
def BegOk (C : Addr) (g : G) : Prop := ∀ (os : List Int) (a p : Nat), os.length < 16777216 → os.all oct = true → a ≤ os.length →
    match os[a]? with
    | none => g [.own (Rd C os a p)] = .exc (bX a)
    | some i => if 6 < i then g [.own (Rd C os a p)] = .exc (bX a) else g [.own (Rd C os a p)] = .ok (.val (.int i), [some (Rd C os (a + 1) p)])
theorem begin_ok : BegOk C (stepT C t).Reader_begin := fun os a p hn ho ha => by
  have e0 : (stepT C t).Reader_begin = runX 1 (b_Reader_begin C t) := rfl
  rw [e0]
  have f1 : mFld C 0 "at" [some (.par (Rd C os a p))] = .ok (.val (.int a), [some (.par (Rd C os a p))]) := fld_of hold0 (look_at _ _ _)
  have f2 : mFld C 0 "octets" [some (.par (Rd C os a p))] = .ok (.val (.tup (os.map PV.int)), [some (.par (Rd C os a p))]) := fld_of hold0 (look_oc _ _ _)
  have fl : mApp fLen (mACons (mFld C 0 "octets") mANil) [some (.par (Rd C os a p))] = .ok (.val (.int os.length), [some (.par (Rd C os a p))]) := app1 f2 (by simp [fLen])
  cases hi : os[a]? with
  | none =>
    have hl : os.length ≤ a := List.getElem?_eq_none_iff.mp hi
    have ea : a = os.length := by omega
    refine runX_ex [some (.par (Rd C os a p))] rfl (seq_ex ((ifs_t (ρ1 := [some (.par (Rd C os a p))]) (tor_t (test_of (bin_val f1 fl ?_)))).trans (raise_of f1)))
    show pEq (.int a) (.int os.length) = _
    simp [pEq, cmpOk, eqP, ea]
  | some i =>
    have hl := (List.getElem?_eq_some_iff.mp hi).1
    have c1 : ¬ (a : Int) = (os.length : Int) := by omega
    have t1 : mTest (mBin pEq (mFld C 0 "at") (mApp fLen (mACons (mFld C 0 "octets") mANil))) [some (.par (Rd C os a p))] = .ok (false, [some (.par (Rd C os a p))]) := test_of (bin_val f1 fl (by
      show pEq (.int a) (.int os.length) = _
      simp [pEq, cmpOk, eqP, c1]))
    have t2 : mTest (mBin pGt (mBin pIx (mFld C 0 "octets") (mFld C 0 "at")) (mK (.int 6))) [some (.par (Rd C os a p))] = .ok (decide (6 < i), [some (.par (Rd C os a p))]) := test_of (bin_val (b := .int 6) (bin_val f2 f1 (at_ok hi)) rfl rfl)
    dsimp only
    by_cases c : 6 < i
    · rw [if_pos c]
      rw [decide_eq_true c] at t2
      exact runX_ex [some (.par (Rd C os a p))] rfl (seq_ex ((ifs_t (ρ1 := [some (.par (Rd C os a p))]) ((tor_f t1).trans t2)).trans (raise_of f1)))
    · rw [if_neg c]
      rw [decide_eq_false c] at t2
      have f1' : mFld C 0 "at" [some (.par (Rd C os (a + 1) p))] = .ok (.val (.int ((a + 1 : Nat) : Int)), [some (.par (Rd C os (a + 1) p))]) := fld_of hold0 (look_at _ _ _)
      have f2' : mFld C 0 "octets" [some (.par (Rd C os (a + 1) p))] = .ok (.val (.tup (os.map PV.int)), [some (.par (Rd C os (a + 1) p))]) := fld_of hold0 (look_oc _ _ _)
      refine runX_rt (r := .val (.int i)) (ρ1 := [some (.par (Rd C os (a + 1) p))]) [some (.par (Rd C os a p))] rfl ?_ rfl
      refine (seq_nx (ρ1 := [some (.par (Rd C os a p))]) ((ifs_f (ρ1 := [some (.par (Rd C os a p))]) ((tor_f t1).trans t2)).trans rfl)).trans ?_
      refine (seq_nx (ρ1 := [some (.par (Rd C os (a + 1) p))]) ?_).trans ?_
      · refine (augf_of hold0 (look_at _ _ _) rfl (v := .int ((a + 1 : Nat) : Int)) (b := .int 1) (iop_eval rfl) (by decide)).trans ?_
        rfl
      · refine ret_of (bin_val f2' (bin_val (r := .val (.int a)) (b := .int 1) f1' rfl ?_) (at_ok hi))
        show some (RV.val (PV.int (((a + 1 : Nat) : Int) - 1))) = _
        rw [show (((a + 1 : Nat) : Int) - 1) = (a : Int) by omega]
def NumOk (C : Addr) (g : G) : Prop := ∀ (os : List Int) (most : Option Nat) (a p : Nat), os.length < 16777216 → os.all oct = true → a ≤ os.length → match rdD os most a with
    | .error e => g [.own (Rd C os a p), .val (mostP most)] = .exc (bX e)
    | .ok (k, a') => g [.own (Rd C os a p), .val (mostP most)] = .ok (.val (.int (k : Int)), [some (Rd C os a' p), none])
theorem number_ok (hr : RdOk t.read_digits) : NumOk C (stepT C t).Reader_number := fun os most a p hn ho ha => by
  have hc := hr os most a hn ho ha
  have e0 : (stepT C t).Reader_number = runX 3 (b_Reader_number C t) := rfl
  rw [e0]
  have f1 : mFld C 0 "at" [some (.par (Rd C os a p)), some (.val (mostP most)), none] = .ok (.val (.int a), [some (.par (Rd C os a p)), some (.val (mostP most)), none]) := fld_of hold0 (look_at _ _ _)
  have f2 : mFld C 0 "octets" [some (.par (Rd C os a p)), some (.val (mostP most)), none] = .ok (.val (.tup (os.map PV.int)), [some (.par (Rd C os a p)), some (.val (mostP most)), none]) := fld_of hold0 (look_oc _ _ _)
  have ar := args_cons f2 (args_cons f1 (args_cons (m := mNm 1) (ρ := [some (.par (Rd C os a p)), some (.val (mostP most)), none]) (p := mostP most) (ρ1 := [some (.par (Rd C os a p)), some (.val (mostP most)), none]) rfl args_nil))
  cases h : rdD os most a with
  | error e =>
    rw [h] at hc
    exact runX_ex [some (.par (Rd C os a p)), some (.val (mostP most)), none] rfl (seq_ex (asgt_ex (call_ex (ps := [.tup (os.map PV.int), .int a, mostP most]) ar hc)))
  | ok q =>
    obtain ⟨k, a'⟩ := q
    rw [h] at hc
    refine runX_rt (r := .val (.int k)) (ρ1 := [some (.par (Rd C os a' p)), some (.val (mostP most)), some (.val (.int k))]) [some (.par (Rd C os a p)), some (.val (mostP most)), none] rfl ?_ rfl
    refine (seq_nx (ρ1 := [some (.par (Rd C os a' p)), some (.val (mostP most)), some (.val (.int k))]) (asgt_of (call_vals (ps := [.tup (os.map PV.int), .int a, mostP most]) ar hc) ?_)).trans rfl
    have e := putFld_of (ρ := [some (.par (Rd C os a p)), some (.val (mostP most)), some (.val (.int k))]) (f := "at") (v := .int (a' : Int)) (hold0 (r := [some (.val (mostP most)), some (.val (.int k))])) (by decide)
    have e1 : mgTup 2 (mgCons (mgNm 2) (mgCons (mgFld C 0 "at") mgNil)) (.tup [.int k, .int (a' : Int)]) [some (.par (Rd C os a p)), some (.val (mostP most)), none] = (putFld C 0 "at" (.int (a' : Int)) [some (.par (Rd C os a p)), some (.val (mostP most)), some (.val (.int k))]).bind fun ρ => some ρ := rfl
    rw [e1, e]
    rfl
abbrev bRS (C : Addr) (t : Tb) : MS := mSeq (mIfS (mTOr (mTest (mBin pEq (mFld C 0 "at") (mApp fLen (mACons (mFld C 0 "octets") mANil)))) (mTNot (mTruth (mCall t.is_sign (mACons (mBin pIx (mFld C 0 "octets") (mFld C 0 "at")) mANil)))))
    (mRaise "BadText" (mFld C 0 "at"))
    mNx)
    (mSeq (mAppend 2 (mCall t.sign_of (mACons (mBin pIx (mFld C 0 "octets") (mFld C 0 "at")) mANil)))
    (mAugFld C 0 "at" pAddI (mK (.int 1))))
abbrev stE (C : Addr) (os : List Int) (a p : Nat) (mn : PV) (r : List PV) (o : Option PV) : Pu.Env := [some (.par (Rd C os a p)), some (.val mn), some (.own (.lst r)), o.map SV.val]
theorem rs_loop (hs : SignOk t.is_sign) (hg : SgnOk t.sign_of) {os : List Int} {p : Nat} {mn : PV} (ho : os.all oct = true) : ∀ (xs : List PV) (a : Nat) (r : List PV) (o : Option PV), a ≤ os.length → r.length + xs.length < 16777216 → match rdS os xs.length a with
    | .error e => Pu.forM (mgNm 3) (bRS C t) xs (stE C os a p mn r o) = .exc (bX e)
    | .ok (l, a') => ∃ o' : Option PV, Pu.forM (mgNm 3) (bRS C t) xs (stE C os a p mn r o) = .ok (.nx, stE C os a' p mn (r ++ l.map fun c => .str ⟨#[c]⟩) o')
  | [], a, r, o, _, _ => ⟨o, by rw [List.map_nil, List.append_nil]; rfl⟩
  | x :: xs, a, r, o, ha, hz => by
    rw [List.length_cons] at hz ⊢
    have f1 : mFld C 0 "at" (stE C os a p mn r (some x)) = .ok (.val (.int a), stE C os a p mn r (some x)) := fld_of hold0 (look_at _ _ _)
    have f2 : mFld C 0 "octets" (stE C os a p mn r (some x)) = .ok (.val (.tup (os.map PV.int)), stE C os a p mn r (some x)) := fld_of hold0 (look_oc _ _ _)
    have fl : mApp fLen (mACons (mFld C 0 "octets") mANil) (stE C os a p mn r (some x)) = .ok (.val (.int os.length), stE C os a p mn r (some x)) := app1 f2 (by simp [fLen])
    have g : mgNm 3 x (stE C os a p mn r o) = some (stE C os a p mn r (some x)) := by cases o <;> rfl
    unfold rdS
    cases hi : os[a]? with
    | none =>
      have hl : os.length ≤ a := List.getElem?_eq_none_iff.mp hi
      have ea : a = os.length := by omega
      refine for_ex g (seq_ex ((ifs_t (ρ1 := stE C os a p mn r (some x)) (tor_t (test_of (bin_val f1 fl ?_)))).trans (raise_of f1)))
      show pEq (.int a) (.int os.length) = _
      simp [pEq, cmpOk, eqP, ea]
    | some i =>
      obtain ⟨c, rfl, hc⟩ := oct_nat ho hi
      have hl := (List.getElem?_eq_some_iff.mp hi).1
      have c1 : ¬ (a : Int) = (os.length : Int) := by omega
      have t1 : mTest (mBin pEq (mFld C 0 "at") (mApp fLen (mACons (mFld C 0 "octets") mANil))) (stE C os a p mn r (some x)) = .ok (false, stE C os a p mn r (some x)) := test_of (bin_val f1 fl (by
        show pEq (.int a) (.int os.length) = _
        simp [pEq, cmpOk, eqP, c1]))
      have f3 : mBin pIx (mFld C 0 "octets") (mFld C 0 "at") (stE C os a p mn r (some x)) = .ok (.val (.int (c : Int)), stE C os a p mn r (some x)) := bin_val f2 f1 (at_ok hi)
      have t2 : mTNot (mTruth (mCall t.is_sign (mACons (mBin pIx (mFld C 0 "octets") (mFld C 0 "at")) mANil))) (stE C os a p mn r (some x)) = .ok (!isSign (c : Int), stE C os a p mn r (some x)) := tnot_of (truth_of' (call1 (p := .int (c : Int)) f3 (hs (c : Int))) rfl)
      dsimp only
      by_cases hsg : isSign (c : Int) = true
      · rw [if_pos hsg]
        rw [hsg] at t2
        have g1 : mCall t.sign_of (mACons (mBin pIx (mFld C 0 "octets") (mFld C 0 "at")) mANil) (stE C os a p mn r (some x)) = .ok (.val (.str ⟨#[c]⟩), stE C os a p mn r (some x)) := call1 (p := .int (c : Int)) f3 (hg c (sign_range hsg))
        have c2 : r.length < 16777216 := by omega
        have st : bRS C t (stE C os a p mn r (some x)) = .ok (.nx, stE C os (a + 1) p mn (r ++ [.str ⟨#[c]⟩]) (some x)) := by
          refine (seq_nx (ρ1 := stE C os a p mn r (some x)) ((ifs_f (ρ1 := stE C os a p mn r (some x)) ((tor_f t1).trans t2)).trans rfl)).trans ?_
          refine (seq_nx (ρ1 := stE C os a p mn (r ++ [.str ⟨#[c]⟩]) (some x)) ?_).trans ?_
          · unfold mAppend mOp
            rw [g1]
            simp [Res.bind, ownL?, ownO, c2, setO, setV, RV.fz, deref, liftO, szOk, RV.val?, setC, isPar]
          · exact (augf_of hold0 (look_at _ _ _) rfl (v := .int ((a + 1 : Nat) : Int)) (b := .int 1) (iop_eval rfl) (by decide)).trans rfl
        rw [for_cons g st]
        have ih := rs_loop hs hg (p := p) (mn := mn) ho xs (a + 1) (r ++ [.str ⟨#[c]⟩]) (some x) hl (by rw [List.length_append]; simp; omega)
        cases hr : rdS os xs.length (a + 1) with
        | error e => rw [hr] at ih; exact ih
        | ok q =>
          obtain ⟨l, a'⟩ := q
          rw [hr] at ih
          obtain ⟨o', e⟩ := ih
          refine ⟨o', ?_⟩
          rw [e, Int.toNat_natCast, List.map_cons, List.append_assoc]
          rfl
      · rw [if_neg hsg]
        rw [Bool.not_eq_true] at hsg
        rw [hsg] at t2
        exact for_ex g (seq_ex ((ifs_t (ρ1 := stE C os a p mn r (some x)) ((tor_f t1).trans t2)).trans (raise_of f1)))
end K81

set_option Elab.async false
set_option linter.all false
set_option maxRecDepth 100000
set_option exponentiation.threshold 100000
namespace K81
open PySem Pu
variable {C : Addr} {t : Tb}
theorem rng_any (n : Nat) (h : n < 1000000000) (ρ : Pu.Env) (i : Nat) (hi : ρ[i]? = some (some (.val (.int (n : Int))))) : mRng rng1 (mACons (mNm i) mANil) ρ = .ok (rangeOf 0 n, ρ) ∧ (rangeOf 0 n).length = n := by
  refine ⟨rng1_of (n := n) ?_ h, by simp [rangeOf]⟩
  unfold mNm
  rw [hi]
def strR (os : List Int) (a : Nat) : Except Nat (List Nat × Nat) := match rdD os (some 20000) a with
  | .error e => .error e
  | .ok (k, a') => rdS os k a'
def StrOk (C : Addr) (g : G) : Prop := ∀ (os : List Int) (a p : Nat), os.length < 16777216 → os.all oct = true → a ≤ os.length → match strR os a with
    | .error e => g [.own (Rd C os a p)] = .exc (bX e)
    | .ok (l, a') => g [.own (Rd C os a p)] = .ok (.val (.str ⟨l.toArray⟩), [some (Rd C os a' p)])
theorem string_ok (hn : NumOk C t.Reader_number) (hs : SignOk t.is_sign) (hg : SgnOk t.sign_of) : StrOk C (stepT C t).Reader_string := fun os a p hz ho ha => by
  have e0 : (stepT C t).Reader_string = runX 4 (b_Reader_string C t) := rfl
  rw [e0]
  have h1 := hn os (some 20000) a p hz ho ha
  unfold strR
  cases h : rdD os (some 20000) a with
  | error e =>
    rw [h] at h1
    exact runX_ex [some (.par (Rd C os a p)), none, none, none] rfl (seq_ex (asg_ex (meth_ex (ps := [.int 20000]) hold0 (by decide) rfl h1)))
  | ok q =>
    obtain ⟨k, a'⟩ := q
    rw [h] at h1
    obtain ⟨l1, l2, l3⟩ := rdD_le h
    have hk := l3 20000 rfl
    obtain ⟨r1, r2⟩ := rng_any k (by omega) (stE C os a' p (.int k) [] none) 1 rfl
    have lp := rs_loop (C := C) hs hg (p := p) (mn := .int k) ho (rangeOf 0 k) a' [] none l2 (by rw [r2]; simp; omega)
    rw [r2] at lp
    have st : ∀ b, mSeq (mAsg 1 (mMeth C "number" t.Reader_number 0 (mACons (mK (.int 20000)) mANil))) (mSeq (mAsg 2 (mLst mANil)) b) [some (.par (Rd C os a p)), none, none, none] = b (stE C os a' p (.int k) [] none) := fun b =>
      (seq_nx (ρ1 := [some (.par (Rd C os a' p)), some (.val (.int k)), none, none]) (asg_of (meth_of (ps := [.int 20000]) hold0 (by decide) rfl h1) rfl)).trans (seq_nx (ρ1 := stE C os a' p (.int k) [] none) rfl)
    dsimp only
    cases hr : rdS os k a' with
    | error e =>
      rw [hr] at lp
      exact runX_ex [some (.par (Rd C os a p)), none, none, none] rfl ((st _).trans (seq_ex ((mfor_of r1).trans lp)))
    | ok q =>
      obtain ⟨l, a2⟩ := q
      rw [hr] at lp
      obtain ⟨o', e⟩ := lp
      rw [List.nil_append] at e
      have hll := (rdS_le _ _ _ _ hr l2).2.2
      refine runX_rt (r := .val (.str ⟨l.toArray⟩)) (ρ1 := stE C os a2 p (.int k) (l.map fun c => .str ⟨#[c]⟩) o') [some (.par (Rd C os a p)), none, none, none] rfl ?_ rfl
      refine (st _).trans ((seq_nx ((mfor_of r1).trans e)).trans (ret_of ?_))
      have s1 : ∀ l : List Nat, strsOf (l.map fun c => PV.str ⟨#[c]⟩) = some (l.map fun c => (⟨#[c]⟩ : Str)) := by
        intro l
        induction l with
        | nil => rfl
        | cons c l ih =>
          show (strsOf (l.map fun c => PV.str ⟨#[c]⟩)).map _ = _
          rw [ih]
          rfl
      have s2 : ∀ l : List Nat, ((l.map fun c => (⟨#[c]⟩ : Str)).map (·.length)).sum = l.length := by
        intro l
        induction l with
        | nil => rfl
        | cons c l ih =>
          rw [List.map_cons, List.map_cons, List.sum_cons, ih, List.length_cons]
          show 1 + l.length = _
          omega
      have hj : pJoin "" (.lst (l.map fun (c : Nat) => PV.str ⟨#[c]⟩)) = some (.val (.str ⟨l.toArray⟩)) := by
        unfold pJoin
        dsimp only
        rw [s1]
        show (if _ ≤ 16777216 then _ else _) = _
        rw [s2, if_pos (by show l.length + _ * 0 ≤ 16777216; omega), join_singles]
      have e1 : mOp (mBor 2) (stE C os a2 p (.int k) (l.map fun c => .str ⟨#[c]⟩) o') = .ok (.bor 2, stE C os a2 p (.int k) (l.map fun c => .str ⟨#[c]⟩) o') := rfl
      unfold mUn
      rw [e1]
      show (liftO (pJoin "" (.lst (l.map fun (c : Nat) => PV.str ⟨#[c]⟩)))).bind _ = _
      rw [hj]
      rfl
/-! ### values -/
def ValRes (C : Addr) (os : List Int) (r : VR) (x : Res (RV × List (Option OB))) : Prop := match r with
  | .error e => x = .exc (bX e)
  | .ok (v, a', p') => x = .ok (.val v, [some (Rd C os a' p'), none])
def ValAll (C : Addr) (g : G) (d f : Nat) : Prop := ∀ (os : List Int) (a p : Nat), os.length < 16777216 → os.all oct = true → a ≤ os.length → p ≤ 500000 → ValRes C os (rdV os f a p) (g [.own (Rd C os a p), .val (.int (d : Int))])
def Bd (os : List Int) (rd : Nat → Nat → VR) : Prop := ∀ a p v a' p', a ≤ os.length → p ≤ 500000 → rd a p = .ok (v, a', p') → a' ≤ os.length ∧ p' ≤ 500000 ∧ a ≤ a'
theorem rdL_bd {os : List Int} {rd : Nat → Nat → VR} (h : Bd os rd) : ∀ (n a p : Nat) (vs : List PV) (a' p' : Nat), a ≤ os.length → p ≤ 500000 → rdL rd n a p = .ok (vs, a', p') → a' ≤ os.length ∧ p' ≤ 500000 ∧ a ≤ a'
  | 0, a, p, vs, a', p', ha, hp, e => by cases e; exact ⟨ha, hp, Nat.le_refl _⟩
  | n + 1, a, p, vs, a', p', ha, hp, e => by
    unfold rdL at e
    cases h1 : rd a p with
    | error z => rw [h1] at e; cases e
    | ok q =>
      obtain ⟨v, a1, p1⟩ := q
      rw [h1] at e
      dsimp only at e
      obtain ⟨b1, b2, b3⟩ := h a p v a1 p1 ha hp h1
      cases h2 : rdL rd n a1 p1 with
      | error z => rw [h2] at e; cases e
      | ok q =>
        obtain ⟨vs', a2, p2⟩ := q
        rw [h2] at e
        cases e
        obtain ⟨c1, c2, c3⟩ := rdL_bd h n a1 p1 vs' _ _ b1 b2 h2
        exact ⟨c1, c2, by omega⟩
theorem rdK_bd {os : List Int} {sub : Option (Nat → Nat → VR)} (h : ∀ rd, sub = some rd → Bd os rd) : Bd os (rdK os sub) := fun a p v a' p' ha hp e => by
  unfold rdK at e
  cases hi : os[a]? with
  | none => rw [hi] at e; cases e
  | some i =>
    have hl := (List.getElem?_eq_some_iff.mp hi).1
    rw [hi] at e
    dsimp only at e
    split at e
    · cases e
    split at e
    · cases e; exact ⟨hl, hp, by omega⟩
    split at e
    · cases e; exact ⟨hl, hp, by omega⟩
    split at e
    · cases e; exact ⟨hl, hp, by omega⟩
    split at e
    · cases h1 : rdD os none (a + 1) with
      | error z => rw [h1] at e; cases e
      | ok q =>
        rw [h1] at e
        cases e
        have := rdD_le h1
        exact ⟨this.2.1, hp, by omega⟩
    split at e
    · cases h1 : rdD os none (a + 1) with
      | error z => rw [h1] at e; cases e
      | ok q =>
        rw [h1] at e
        cases e
        have := rdD_le h1
        exact ⟨this.2.1, hp, by omega⟩
    split at e
    · cases h1 : rdD os (some 20000) (a + 1) with
      | error z => rw [h1] at e; cases e
      | ok q =>
        rw [h1] at e
        dsimp only at e
        have b1 := rdD_le h1
        cases h2 : rdS os q.1 q.2 with
        | error z => rw [h2] at e; cases e
        | ok q2 =>
          rw [h2] at e
          cases e
          have b2 := rdS_le _ _ _ _ h2 b1.2.1
          exact ⟨b2.2.1, hp, by omega⟩
    · cases hs : sub with
      | none => rw [hs] at e; cases e
      | some rd =>
        rw [hs] at e
        dsimp only at e
        cases h1 : rdD os (some (min 50000 (500000 - p))) (a + 1) with
        | error z => rw [h1] at e; cases e
        | ok q =>
          rw [h1] at e
          dsimp only at e
          have b1 := rdD_le h1
          have b2 := b1.2.2 _ rfl
          cases h2 : rdL rd q.1 q.2 (p + q.1) with
          | error z => rw [h2] at e; cases e
          | ok q2 =>
            rw [h2] at e
            cases e
            have b3 := rdL_bd (h rd hs) _ _ _ _ _ _ b1.2.1 (by omega) h2
            exact ⟨b3.1, b3.2.1, by omega⟩
theorem rdV_bd (os : List Int) : ∀ f, Bd os (rdV os f)
  | 0 => rdK_bd fun rd e => by cases e
  | f + 1 => rdK_bd fun rd e => by cases e; exact rdV_bd os f
abbrev vE (C : Addr) (os : List Int) (a p : Nat) (d : Nat) (s k m : Option PV) : Pu.Env := [some (.par (Rd C os a p)), some (.val (.int (d : Int))), s.map SV.val, k.map SV.val, m.map SV.val, none]
theorem val_lc {os : List Int} (hz : os.length < 16777216) (ho : os.all oct = true) (d f : Nat) (s k m : Option PV) (hv : ValAll C t.Reader_value (d + 1) f) : ∀ (is : List PV) (a p : Nat), a ≤ os.length → p ≤ 500000 → match rdL (rdV os f) is.length a p with
    | .error e => lcM [5] (mgNm 5) mYes (mMeth C "value" t.Reader_value 0 (mACons (mBin pAdd (mBor 1) (mK (.int 1))) mANil)) is (vE C os a p d s k m) = .exc (bX e)
    | .ok (vs, a', p') => lcM [5] (mgNm 5) mYes (mMeth C "value" t.Reader_value 0 (mACons (mBin pAdd (mBor 1) (mK (.int 1))) mANil)) is (vE C os a p d s k m) = .ok (vs, vE C os a' p' d s k m)
  | [], a, p, _, _ => rfl
  | i :: is, a, p, ha, hp => by
    rw [List.length_cons]
    unfold rdL
    have hr := hv os a p hz ho ha hp
    have he : mBin pAdd (mBor 1) (mK (.int 1)) [some (.par (Rd C os a p)), some (.val (.int (d : Int))), s.map SV.val, k.map SV.val, m.map SV.val, some (.val i)] = .ok (.val (.int ((d + 1 : Nat) : Int)), [some (.par (Rd C os a p)), some (.val (.int (d : Int))), s.map SV.val, k.map SV.val, m.map SV.val, some (.val i)]) :=
      bin_val (a := .int d) (b := .int 1) rfl rfl rfl
    have g : mgNm 5 i (vE C os a p d s k m) = some [some (.par (Rd C os a p)), some (.val (.int (d : Int))), s.map SV.val, k.map SV.val, m.map SV.val, some (.val i)] := rfl
    cases h1 : rdV os f a p with
    | error e =>
      rw [h1] at hr
      exact lc_ex g (meth_ex (C := C) (mm := "value") (g := t.Reader_value) (ma := mACons (mBin pAdd (mBor 1) (mK (.int 1))) mANil) (ps := [.int ((d + 1 : Nat) : Int)]) (hold0 (C := C) (os := os) (a := a) (p := p) (r := [some (.val (.int (d : Int))), s.map SV.val, k.map SV.val, m.map SV.val, some (.val i)])) (by decide) (args_cons he args_nil) hr)
    | ok q =>
      obtain ⟨v, a1, p1⟩ := q
      rw [h1] at hr
      obtain ⟨b1, b2, b3⟩ := rdV_bd os f a p v a1 p1 ha hp h1
      have hm := meth_of (C := C) (mm := "value") (g := t.Reader_value) (ma := mACons (mBin pAdd (mBor 1) (mK (.int 1))) mANil) (ps := [.int ((d + 1 : Nat) : Int)]) (hold0 (C := C) (os := os) (a := a) (p := p) (r := [some (.val (.int (d : Int))), s.map SV.val, k.map SV.val, m.map SV.val, some (.val i)])) (by decide) (args_cons he args_nil) hr
      have ih := val_lc hz ho d f s k m hv is a1 p1 b1 b2
      have lc := lc_cons (vs := [5]) (g := mgNm 5) (t := mYes) (xs := is) (ρ := vE C os a p d s k m) (ρ1 := [some (.par (Rd C os a p)), some (.val (.int (d : Int))), s.map SV.val, k.map SV.val, m.map SV.val, some (.val i)]) (ρ2 := [some (.par (Rd C os a p)), some (.val (.int (d : Int))), s.map SV.val, k.map SV.val, m.map SV.val, some (.val i)]) (ρ3 := [some (.par (Rd C os a1 p1)), some (.val (.int (d : Int))), s.map SV.val, k.map SV.val, m.map SV.val, some (.val i)]) (y := v) (x := i) rfl rfl hm
      have ew : wipeE [some (.par (Rd C os a1 p1)), some (.val (.int (d : Int))), s.map SV.val, k.map SV.val, m.map SV.val, some (.val i)] [5] = vE C os a1 p1 d s k m := rfl
      rw [ew] at lc
      dsimp only
      cases h2 : rdL (rdV os f) is.length a1 p1 with
      | error e =>
        rw [h2] at ih
        rw [lc, ih]
        rfl
      | ok q =>
        obtain ⟨vs, a2, p2⟩ := q
        rw [h2] at ih
        rw [lc, ih]
        rfl
end K81

set_option Elab.async false
set_option linter.all false
set_option maxRecDepth 100000
set_option exponentiation.threshold 100000
namespace K81
open PySem Pu
variable {C : Addr} {t : Tb}
def subV (os : List Int) : Nat → Option (Nat → Nat → VR)
  | 0 => none
  | f + 1 => some (rdV os f)
theorem rdV_eq (os : List Int) : ∀ f, rdV os f = rdK os (subV os f)
  | 0 => rfl
  | f + 1 => rfl
theorem num_run (hn : NumOk C t.Reader_number) {os : List Int} (hz : os.length < 16777216) (ho : os.all oct = true) {a p d : Nat} {s kk m : Option PV} {mm : M} {most : Option Nat} (ha : a ≤ os.length) (hm : mACons mm mANil (vE C os a p d s kk m) = .ok ([mostP most].map RV.val, vE C os a p d s kk m)) :
    match rdD os most a with
    | .error e => mMeth C "number" t.Reader_number 0 (mACons mm mANil) (vE C os a p d s kk m) = .exc (bX e)
    | .ok (k, a') => mMeth C "number" t.Reader_number 0 (mACons mm mANil) (vE C os a p d s kk m) = .ok (.val (.int (k : Int)), vE C os a' p d s kk m) := by
  have h := hn os most a p hz ho ha
  cases e : rdD os most a with
  | error x => rw [e] at h; exact meth_ex (ps := [mostP most]) hold0 (by decide) hm h
  | ok q =>
    obtain ⟨k, a'⟩ := q
    rw [e] at h
    exact (meth_of (ps := [mostP most]) hold0 (by decide) hm h).trans rfl
theorem value_step (hb : BegOk C t.Reader_begin) (hn : NumOk C t.Reader_number) (hs : StrOk C t.Reader_string) (d f : Nat) (hdf : f + d = 60) (hv : ∀ f', f = f' + 1 → ValAll C t.Reader_value (d + 1) f') :
    ValAll C (stepT C t).Reader_value d f := by
  intro os a p hz ho ha hp
  have e0 : (stepT C t).Reader_value = runX 6 (b_Reader_value C t) := rfl
  rw [e0, rdV_eq]
  have hB := hb os a p hz ho ha
  unfold rdK
  have run : ∀ (res : PV) (a' p' : Nat) (s k m : Option PV), b_Reader_value C t [some (.par (Rd C os a p)), some (.val (.int (d : Int))), none, none, none, none] = .ok (.rt (.val res), vE C os a' p' d s k m) → runX 6 (b_Reader_value C t) [.own (Rd C os a p), .val (.int (d : Int))] = .ok (.val res, [some (Rd C os a' p'), none]) :=
    fun res a' p' s k m h => (runX_rt (avs := [.own (Rd C os a p), .val (.int (d : Int))]) (size := 6) (r := .val res) (ρ1 := vE C os a' p' d s k m) [some (.par (Rd C os a p)), some (.val (.int (d : Int))), none, none, none, none] rfl h rfl).trans rfl
  have runE : ∀ y, b_Reader_value C t [some (.par (Rd C os a p)), some (.val (.int (d : Int))), none, none, none, none] = .exc y → runX 6 (b_Reader_value C t) [.own (Rd C os a p), .val (.int (d : Int))] = .exc y :=
    fun y h => runX_ex (avs := [.own (Rd C os a p), .val (.int (d : Int))]) (size := 6) [some (.par (Rd C os a p)), some (.val (.int (d : Int))), none, none, none, none] rfl h
  have st1 : ∀ b, mSeq (mAsg 2 (mFld C 0 "at")) b [some (.par (Rd C os a p)), some (.val (.int (d : Int))), none, none, none, none] = b (vE C os a p d (some (.int a)) none none) := fun b =>
    seq_nx (asg_of (fld_of hold0 (look_at _ _ _)) rfl)
  have stE : ∀ b, b_Reader_value C t = mSeq (mAsg 2 (mFld C 0 "at")) (mSeq (mAsg 3 (mMeth C "begin" t.Reader_begin 0 mANil)) b) → (∀ y, t.Reader_begin [.own (Rd C os a p)] = .exc y → runX 6 (b_Reader_value C t) [.own (Rd C os a p), .val (.int (d : Int))] = .exc y) := fun b e y h =>
    runE y (by rw [e]; exact (st1 _).trans (seq_ex (asg_ex (meth_ex (ps := []) hold0 (by decide) rfl h))))
  cases hi : os[a]? with
  | none =>
    rw [hi] at hB
    exact stE _ rfl _ hB
  | some i =>
    have hl := (List.getElem?_eq_some_iff.mp hi).1
    rw [hi] at hB
    dsimp only at hB ⊢
    by_cases c6 : 6 < i
    · rw [if_pos c6] at hB ⊢
      exact stE _ rfl _ hB
    rw [if_neg c6] at hB ⊢
    obtain ⟨i, rfl, _⟩ := oct_nat ho hi
    have st2 : ∀ b, mSeq (mAsg 2 (mFld C 0 "at")) (mSeq (mAsg 3 (mMeth C "begin" t.Reader_begin 0 mANil)) b) [some (.par (Rd C os a p)), some (.val (.int (d : Int))), none, none, none, none] = b (vE C os (a + 1) p d (some (.int a)) (some (.int (i : Int))) none) := fun b =>
      (st1 _).trans (seq_nx (asg_of (meth_of (ps := []) hold0 (by decide) rfl hB) rfl))
    obtain rfl | rfl | rfl | rfl | rfl | rfl | rfl : i = 0 ∨ i = 1 ∨ i = 2 ∨ i = 3 ∨ i = 4 ∨ i = 5 ∨ i = 6 := by omega
    · exact run .non (a + 1) p (some (.int a)) (some (.int 0)) none ((st2 _).trans rfl)
    · have h1 := num_run hn hz ho (p := p) (d := d) (s := some (.int a)) (kk := some (.int 1)) (m := none) (mm := mK .non) (most := none) hl rfl
      have sk : ∀ b x, mSeq (mIfS (mTest (mBin pIn (mBor 3) (mTup (mACons (mK (.int 0)) (mACons (mK (.int 5)) (mACons (mK (.int 6)) mANil)))))) x mNx) b (vE C os (a + 1) p d (some (.int a)) (some (.int 1)) none) = b (vE C os (a + 1) p d (some (.int a)) (some (.int 1)) none) := fun b x => rfl
      show ValRes C os (match rdD os none (a + 1) with | .error e => .error e | .ok (k, a') => .ok (.int k, a', p)) _
      cases e : rdD os none (a + 1) with
      | error y =>
        rw [e] at h1
        refine runE _ ((st2 _).trans ((sk _ _).trans (seq_ex ((ifs_t (ρ1 := vE C os (a + 1) p d (some (.int a)) (some (.int 1)) none) rfl).trans (ret_ex h1)))))
      | ok q =>
        obtain ⟨k, a'⟩ := q
        rw [e] at h1
        exact run (.int k) a' p _ _ _ ((st2 _).trans ((sk _ _).trans (seq_rt ((ifs_t (ρ1 := vE C os (a + 1) p d (some (.int a)) (some (.int 1)) none) rfl).trans (ret_of h1)))))
    · have h1 := num_run hn hz ho (p := p) (d := d) (s := some (.int a)) (kk := some (.int 2)) (m := none) (mm := mK .non) (most := none) hl rfl
      have sk : ∀ b x y, mSeq (mIfS (mTest (mBin pIn (mBor 3) (mTup (mACons (mK (.int 0)) (mACons (mK (.int 5)) (mACons (mK (.int 6)) mANil)))))) x mNx) (mSeq (mIfS (mTest (mBin pEq (mBor 3) (mK (.int 1)))) y mNx) b) (vE C os (a + 1) p d (some (.int a)) (some (.int 2)) none) = b (vE C os (a + 1) p d (some (.int a)) (some (.int 2)) none) := fun b x y => rfl
      show ValRes C os (match rdD os none (a + 1) with | .error e => .error e | .ok (k, a') => .ok (.int (-(k : Int) - 1), a', p)) _
      cases e : rdD os none (a + 1) with
      | error y =>
        rw [e] at h1
        refine runE _ ((st2 _).trans ((sk _ _ _).trans (seq_ex ((ifs_t (ρ1 := vE C os (a + 1) p d (some (.int a)) (some (.int 2)) none) rfl).trans (ret_ex (bin_ex (un_ex h1)))))))
      | ok q =>
        obtain ⟨k, a'⟩ := q
        rw [e] at h1
        have hu : mUn pNeg (mMeth C "number" t.Reader_number 0 (mACons (mK .non) mANil)) (vE C os (a + 1) p d (some (.int a)) (some (.int 2)) none) = .ok (.val (.int (-(k : Int))), vE C os a' p d (some (.int a)) (some (.int 2)) none) := by
          unfold mUn mOp
          rw [h1]
          rfl
        exact run (.int (-(k : Int) - 1)) a' p _ _ _ ((st2 _).trans ((sk _ _ _).trans (seq_rt ((ifs_t (ρ1 := vE C os (a + 1) p d (some (.int a)) (some (.int 2)) none) rfl).trans (ret_of (bin_val (b := .int 1) hu rfl rfl))))))
    · have h1 := hs os (a + 1) p hz ho hl
      have sk : ∀ b x y z, mSeq (mIfS (mTest (mBin pIn (mBor 3) (mTup (mACons (mK (.int 0)) (mACons (mK (.int 5)) (mACons (mK (.int 6)) mANil)))))) x mNx) (mSeq (mIfS (mTest (mBin pEq (mBor 3) (mK (.int 1)))) y mNx) (mSeq (mIfS (mTest (mBin pEq (mBor 3) (mK (.int 2)))) z mNx) b)) (vE C os (a + 1) p d (some (.int a)) (some (.int 3)) none) = b (vE C os (a + 1) p d (some (.int a)) (some (.int 3)) none) := fun b x y z => rfl
      have er : ∀ {α} (f : List Nat → Nat → α), (match rdD os (some 20000) (a + 1) with | .error e => (.error e : Except Nat α) | .ok (k, a') => match rdS os k a' with | .error e => .error e | .ok (l, a2) => .ok (f l a2)) = (match strR os (a + 1) with | .error e => .error e | .ok (l, a2) => .ok (f l a2)) := fun f => by
        unfold strR
        cases rdD os (some 20000) (a + 1) with
        | error e => rfl
        | ok q => rfl
      have eg := er fun l a2 => (PV.str ⟨l.toArray⟩, a2, p)
      show ValRes C os (match rdD os (some 20000) (a + 1) with | .error e => .error e | .ok (k, a') => match rdS os k a' with | .error e => .error e | .ok (l, a2) => .ok (PV.str ⟨l.toArray⟩, a2, p)) _
      rw [eg]
      cases e : strR os (a + 1) with
      | error y =>
        rw [e] at h1
        exact runE _ ((st2 _).trans ((sk _ _ _ _).trans (seq_ex ((ifs_t (ρ1 := vE C os (a + 1) p d (some (.int a)) (some (.int 3)) none) rfl).trans (ret_ex (meth_ex (ps := []) hold0 (by decide) rfl h1))))))
      | ok q =>
        obtain ⟨l, a'⟩ := q
        rw [e] at h1
        exact run (.str ⟨l.toArray⟩) a' p (some (.int a)) (some (.int 3)) none ((st2 _).trans ((sk _ _ _ _).trans (seq_rt ((ifs_t (ρ1 := vE C os (a + 1) p d (some (.int a)) (some (.int 3)) none) rfl).trans (ret_of ((meth_of (ps := []) hold0 (by decide) rfl h1).trans rfl))))))
    · have sk : ∀ b x y z w, mSeq (mIfS (mTest (mBin pIn (mBor 3) (mTup (mACons (mK (.int 0)) (mACons (mK (.int 5)) (mACons (mK (.int 6)) mANil)))))) x mNx) (mSeq (mIfS (mTest (mBin pEq (mBor 3) (mK (.int 1)))) y mNx) (mSeq (mIfS (mTest (mBin pEq (mBor 3) (mK (.int 2)))) z mNx) (mSeq (mIfS (mTest (mBin pEq (mBor 3) (mK (.int 3)))) w mNx) b))) (vE C os (a + 1) p d (some (.int a)) (some (.int 4)) none) = b (vE C os (a + 1) p d (some (.int a)) (some (.int 4)) none) := fun b x y z w => rfl
      match f, hdf, hv with
      | 0, hdf, hv =>
        show runX 6 (b_Reader_value C t) _ = .exc (bX a)
        have ed : d = 60 := by omega
        subst ed
        exact runE _ ((st2 _).trans ((sk _ _ _ _ _).trans (seq_ex ((ifs_t (ρ1 := vE C os (a + 1) p 60 (some (.int a)) (some (.int 4)) none) rfl).trans (raise_of (v := .int a) rfl)))))
      | f + 1, hdf, hv =>
        have hv' := hv f rfl
        show ValRes C os (match rdD os (some (min 50000 (500000 - p))) (a + 1) with
          | .error e => .error e
          | .ok (k, a') => match rdL (rdV os f) k a' (p + k) with
            | .error e => .error e
            | .ok (vs, a2, p2) => .ok (.tup vs, a2, p2)) _
        have hd60 : ¬ (d : Int) = 60 := by omega
        have e60 : pEq (.int (d : Int)) (.int 60) = some (.val (.bl false)) := by simp [pEq, cmpOk, eqP, hd60]
        have sk2 : ∀ b x, mSeq (mIfS (mTest (mBin pEq (mBor 1) (mK (.int 60)))) x mNx) b (vE C os (a + 1) p d (some (.int a)) (some (.int 4)) none) = b (vE C os (a + 1) p d (some (.int a)) (some (.int 4)) none) := fun b x =>
          seq_nx ((ifs_f (test_of (bin_val (a := .int (d : Int)) (b := .int 60) (ρ1 := vE C os (a + 1) p d (some (.int a)) (some (.int 4)) none) rfl rfl e60))).trans rfl)
        have fp : mFld C 0 "parts" (vE C os (a + 1) p d (some (.int a)) (some (.int 4)) none) = .ok (.val (.int p), vE C os (a + 1) p d (some (.int a)) (some (.int 4)) none) := fld_of hold0 (look_pa _ _ _)
        have fs : mBin pSub (mK (.int 500000)) (mFld C 0 "parts") (vE C os (a + 1) p d (some (.int a)) (some (.int 4)) none) = .ok (.val (.int (500000 - (p : Int))), vE C os (a + 1) p d (some (.int a)) (some (.int 4)) none) := bin_val (a := .int 500000) (b := .int p) rfl fp rfl
        have em : (if 500000 - (p : Int) < 50000 then 500000 - (p : Int) else 50000) = ((min 50000 (500000 - p) : Nat) : Int) := by
          split <;> omega
        have fm : mApp fMin2 (mACons (mK (.int 50000)) (mACons (mBin pSub (mK (.int 500000)) (mFld C 0 "parts")) mANil)) (vE C os (a + 1) p d (some (.int a)) (some (.int 4)) none) = .ok (.val (mostP (some (min 50000 (500000 - p)))), vE C os (a + 1) p d (some (.int a)) (some (.int 4)) none) := by
          unfold mApp
          rw [args_cons (p := .int 50000) (ρ1 := vE C os (a + 1) p d (some (.int a)) (some (.int 4)) none) rfl (args_cons fs args_nil)]
          show Res.ok (RV.val (PV.int (if 500000 - (p : Int) < 50000 then 500000 - (p : Int) else 50000)), _) = _
          rw [em]
          rfl
        have h1 := num_run hn hz ho (p := p) (d := d) (s := some (.int a)) (kk := some (.int 4)) (m := none) (most := some (min 50000 (500000 - p))) hl (args_cons fm args_nil)
        cases e : rdD os (some (min 50000 (500000 - p))) (a + 1) with
        | error y =>
          rw [e] at h1
          exact runE _ ((st2 _).trans ((sk _ _ _ _ _).trans ((sk2 _ _).trans (seq_ex (asg_ex h1)))))
        | ok q =>
          obtain ⟨k, a'⟩ := q
          rw [e] at h1
          have b1 := rdD_le e
          have b2 := b1.2.2 _ rfl
          have g1 : ∀ b, mSeq (mAsg 4 (mMeth C "number" t.Reader_number 0 (mACons (mApp fMin2 (mACons (mK (.int 50000)) (mACons (mBin pSub (mK (.int 500000)) (mFld C 0 "parts")) mANil))) mANil))) (mSeq (mAugFld C 0 "parts" pAddI (mBor 4)) b) (vE C os (a + 1) p d (some (.int a)) (some (.int 4)) none) = b (vE C os a' (p + k) d (some (.int a)) (some (.int 4)) (some (.int k))) := fun b =>
            (seq_nx (ρ1 := vE C os a' p d (some (.int a)) (some (.int 4)) (some (.int k))) (asg_of h1 rfl)).trans
              (seq_nx (ρ1 := vE C os a' (p + k) d (some (.int a)) (some (.int 4)) (some (.int k))) ((augf_of hold0 (look_pa _ _ _) rfl (v := .int ((p + k : Nat) : Int)) (b := .int k) (iop_eval rfl) (by decide)).trans rfl))
          obtain ⟨r1, r2⟩ := rng_any k (by omega) (vE C os a' (p + k) d (some (.int a)) (some (.int 4)) (some (.int k))) 4 rfl
          have l := val_lc (C := C) (t := t) hz ho d f (some (.int a)) (some (.int 4)) (some (.int k)) hv' (rangeOf 0 k) a' (p + k) b1.2.1 (by omega)
          rw [r2] at l
          dsimp only
          cases e2 : rdL (rdV os f) k a' (p + k) with
          | error y =>
            rw [e2] at l
            have lc := mlcx_ex (vs := [5]) r1 (by rw [r2]; omega) (show lcM [5] (mgNm 5) mYes _ (rangeOf 0 k) (wipeE (vE C os a' (p + k) d (some (.int a)) (some (.int 4)) (some (.int k))) [5]) = _ from l)
            exact runE _ ((st2 _).trans ((sk _ _ _ _ _).trans ((sk2 _ _).trans ((g1 _).trans (ret_ex (app1_ex lc))))))
          | ok q =>
            obtain ⟨vs, a2, p2⟩ := q
            rw [e2] at l
            have lc := mlcx_of (vs := [5]) r1 (by rw [r2]; omega) (show lcM [5] (mgNm 5) mYes _ (rangeOf 0 k) (wipeE (vE C os a' (p + k) d (some (.int a)) (some (.int 4)) (some (.int k))) [5]) = _ from l)
            exact run (.tup vs) a2 p2 (some (.int a)) (some (.int 4)) (some (.int k)) ((st2 _).trans ((sk _ _ _ _ _).trans ((sk2 _ _).trans ((g1 _).trans (ret_of ((app1n lc rfl).trans rfl))))))
    · exact run (.bl true) (a + 1) p (some (.int a)) (some (.int 5)) none ((st2 _).trans rfl)
    · exact run (.bl false) (a + 1) p (some (.int a)) (some (.int 6)) none ((st2 _).trans rfl)
/-! ### by levels -/
theorem rd_T (n : Nat) : RdOk (T C (n + 1)).read_digits := read_digits_ok
theorem num_T (n : Nat) : NumOk C (T C (n + 2)).Reader_number := number_ok (rd_T n)
theorem beg_T (n : Nat) : BegOk C (T C (n + 1)).Reader_begin := begin_ok
theorem str_T (n : Nat) : StrOk C (T C (n + 3)).Reader_string := string_ok (num_T n) (sign_T (n + 1)) (sgn_T (n + 1))
theorem val_T : ∀ (f j d : Nat), f + d = 60 → ValAll C (T C (f + j + 4)).Reader_value d f
  | 0, j, d, h => value_step (beg_T (0 + j + 2)) (num_T (0 + j + 1)) (str_T (0 + j)) d 0 h fun f' e => by cases e
  | f + 1, j, d, h => by
    rw [show f + 1 + j + 4 = (f + j + 4) + 1 by omega]
    exact value_step (C := C) (t := T C (f + j + 4)) (beg_T (f + j + 3)) (num_T (f + j + 2)) (str_T (f + j + 1)) d (f + 1) h fun f' e => by
      cases e
      exact val_T f j (d + 1) (by omega)
/-- a row read -/
def told (os : List Int) : Except Nat PV := match rdV os 60 0 1 with
  | .error e => .error e
  | .ok (v, a, _) => if a < os.length then .error a else .ok v
def ReadOk (g : G) : Prop := ∀ os : List Int, os.length < 16777216 → os.all oct = true → match told os with
  | .error e => g [.val (.tup (os.map PV.int))] = .exc (bX e)
  | .ok v => g [.val (.tup (os.map PV.int))] = .ok (.val v, [none])
theorem read_octets_ok (ho : OctOk t.are_octets) (hv : ValAll C t.Reader_value 0 60) : ReadOk (stepT C t).read_octets := fun os hz hc => by
  have h1 := ho os (by omega) hc
  have h2 := hv os 0 1 hz hc (Nat.zero_le _) (by omega)
  have e0 : (stepT C t).read_octets = runX 3 (b_read_octets C t) := rfl
  rw [e0]
  have st : ∀ b, mSeq (mIfS (mTNot (mTruth (mCall t.are_octets (mACons (mNm 0) mANil)))) (mRaise0 "InvalidOctets") mNx) (mSeq (mAsg 1 (mMake C (g_Reader___init__ C) (mACons (mNm 0) mANil))) b) [some (.val (.tup (os.map PV.int))), none, none] = b [some (.val (.tup (os.map PV.int))), some (.own (Rd C os 0 1)), none] := fun b =>
    (seq_nx (ρ1 := [some (.val (.tup (os.map PV.int))), none, none]) ((ifs_f (ρ1 := [some (.val (.tup (os.map PV.int))), none, none]) (tnot_of (truth_of' (call1 (p := .tup (os.map PV.int)) rfl h1) rfl))).trans rfl)).trans
      (seq_nx (asg_of (make_of (as := [.tup (os.map PV.int)]) rfl (init_ok os)) rfl))
  have h3 : Hold [some (.val (.tup (os.map PV.int))), some (.own (Rd C os 0 1)), none] 1 SV.own (Rd C os 0 1) := ⟨rfl, .inr rfl⟩
  unfold told
  cases e : rdV os 60 0 1 with
  | error y =>
    rw [e] at h2
    exact runX_ex _ rfl ((st _).trans (seq_ex (asg_ex (meth_ex (ps := [.int 0]) h3 (by decide) rfl h2))))
  | ok q =>
    obtain ⟨v, a, p⟩ := q
    rw [e] at h2
    have st2 : ∀ b, mSeq (mAsg 2 (mMeth C "value" t.Reader_value 1 (mACons (mK (.int 0)) mANil))) b [some (.val (.tup (os.map PV.int))), some (.own (Rd C os 0 1)), none] = b [some (.val (.tup (os.map PV.int))), some (.own (Rd C os a p)), some (.val v)] := fun b =>
      seq_nx (asg_of (meth_of (ps := [.int 0]) h3 (by decide) rfl h2) rfl)
    have h4 : Hold [some (.val (.tup (os.map PV.int))), some (.own (Rd C os a p)), some (.val v)] 1 SV.own (Rd C os a p) := ⟨rfl, .inr rfl⟩
    have tt : mTest (mBin pLt (mFld C 1 "at") (mApp fLen (mACons (mBor 0) mANil))) [some (.val (.tup (os.map PV.int))), some (.own (Rd C os a p)), some (.val v)] = .ok (decide ((a : Int) < (os.length : Int)), [some (.val (.tup (os.map PV.int))), some (.own (Rd C os a p)), some (.val v)]) :=
      test_of (bin_val (fld_of h4 (look_at _ _ _)) (app1 (a := .tup (os.map PV.int)) (r := .val (.int os.length)) rfl (by simp [fLen])) rfl)
    dsimp only
    by_cases c : a < os.length
    · rw [if_pos c]
      rw [decide_eq_true (show (a : Int) < (os.length : Int) by omega)] at tt
      exact runX_ex _ rfl ((st _).trans ((st2 _).trans (seq_ex ((ifs_t tt).trans (raise_of (fld_of h4 (look_at _ _ _)))))))
    · rw [if_neg c]
      rw [decide_eq_false (show ¬ (a : Int) < (os.length : Int) by omega)] at tt
      exact runX_rt (r := .val v) (ρ1 := [some (.val (.tup (os.map PV.int))), some (.own (Rd C os a p)), some (.val v)]) _ rfl ((st _).trans ((st2 _).trans ((seq_nx ((ifs_f tt).trans rfl)).trans rfl))) rfl
theorem read_T (j : Nat) : ReadOk (T C (j + 65)).read_octets := read_octets_ok (C := C) (t := T C (j + 64)) (oct_T (j + 63)) (by
  have := val_T (C := C) 60 j 0 rfl
  rw [show 60 + j + 4 = j + 64 by omega] at this
  exact this)
/-- _law_told -/
def toldP (os : List Int) : PV := match told os with
  | .error e => .tup [.bl false, .int (e : Int)]
  | .ok v => .tup [.bl true, v]
def ToldOk (g : G) : Prop := ∀ os : List Int, os.length < 16777216 → os.all oct = true → g [.val (.tup (os.map PV.int))] = .ok (.val (toldP os), [none])
theorem told_T (j : Nat) : ToldOk (T C (j + 66)).law_told := fun os hz ho => by
  have h := read_T (C := C) j os hz ho
  show toldR ((T C (j + 65)).read_octets [.val (.tup (os.map PV.int))]) = _
  unfold toldP
  cases e : told os with
  | error x => rw [e] at h; rw [h]; rfl
  | ok v => rw [e] at h; rw [h]; rfl
end K81

set_option Elab.async false
set_option linter.all false
set_option maxRecDepth 100000
set_option exponentiation.threshold 100000
namespace K81
open PySem Pu
variable {C : Addr} {t : Tb}
/-! ### _law_first -/
abbrev bFD : MS := (mSeq (mIfS (mTOr (mTest (mBin pEq (mBor 2) (mApp fLen (mACons (mBor 0) mANil)))) (mTest (mBin pEq (mBor 8) (mK (.int 950)))))
    (mRetNm 2)
    mNx)
    (mSeq (mPar [7, 9] (mFCons (mBin pAdd (mBor 7) (mBin pMul (mBin pMod (mApp fInt (mACons (mBin pIx (mBor 0) (mBor 2)) mANil)) (mK (.int 128))) (mBor 9))) (mFCons (mBin pMul (mBor 9) (mK (.int 128))) mFNil)))
    (mSeq (mAsg 10 (mBin pLt (mBin pIx (mBor 0) (mBor 2)) (mK (.int 128))))
    (mSeq (mIfS (mTAnd (mTruth (mBor 10)) (mTAnd (mTest (mBin pEq (mBin pIx (mBor 0) (mBor 2)) (mK (.int 0)))) (mTest (mBin pGt (mBor 8) (mK (.int 0))))))
    (mRetNm 2)
    mNx)
    (mSeq (mIfS (mTAnd (mTruth (mBor 10)) (mTOr (mTAnd (mTest (mBin pEq (mBor 5) (mK (.int 3)))) (mTest (mBin pGt (mBor 7) (mK (.int 20000))))) (mTAnd (mTest (mBin pEq (mBor 5) (mK (.int 4)))) (mTest (mBin pGt (mBor 7) (mK (.int 50000)))))))
    (mRetNm 2)
    mNx)
    (mSeq (mPar [2, 8] (mFCons (mBin pAdd (mBor 2) (mK (.int 1))) (mFCons (mBin pAdd (mBor 8) (mK (.int 1))) mFNil)))
    (mIfS (mTruth (mBor 10))
    (fun ρ => .ok (.bk, ρ))
    mNx)))))))
abbrev bFS : MS := (mSeq (mIfS (mTOr (mTest (mBin pEq (mBor 2) (mApp fLen (mACons (mBor 0) mANil)))) (mTNot (mTOr (mTest (mChain pLe pLe (mK (.int 32)) (mBin pIx (mBor 0) (mBor 2)) (mK (.int 126)))) (mTest (mBin pEq (mBin pIx (mBor 0) (mBor 2)) (mK (.int 10)))))))
    (mRetNm 2)
    mNx)
    (mAsg 2 (mBin pAdd (mBor 2) (mK (.int 1)))))
abbrev bFT : MS := (mSeq (mIfS (mTest (mBin pEq (mBor 3) (mK (.int 0))))
    (mRet (mIf (mTest (mBin pEq (mBor 2) (mApp fLen (mACons (mBor 0) mANil)))) (mK .non) (mNm 2)))
    mNx)
    (mSeq (mIfS (mTOr (mTest (mBin pEq (mBor 2) (mApp fLen (mACons (mBor 0) mANil)))) (mTest (mBin pGt (mBin pIx (mBor 0) (mBor 2)) (mK (.int 6)))))
    (mRetNm 2)
    mNx)
    (mSeq (mPar [5, 6] (mFCons (mBin pIx (mBor 0) (mBor 2)) (mFCons (mNm 2) mFNil)))
    (mSeq (mAsg 2 (mBin pAdd (mBor 2) (mK (.int 1))))
    (mSeq (mAsg 3 (mBin pSub (mBor 3) (mK (.int 1))))
    (mSeq (mIfS (mTest (mBin pIn (mBor 5) (mTup (mACons (mK (.int 0)) (mACons (mK (.int 5)) (mACons (mK (.int 6)) mANil))))))
    (fun ρ => .ok (.ct, ρ))
    mNx)
    (mSeq (mAsgT (mgTup 3 (mgCons (mgNm 7) (mgCons (mgNm 8) (mgCons (mgNm 9) mgNil)))) (mTup (mACons (mK (.int 0)) (mACons (mK (.int 0)) (mACons (mK (.int 1)) mANil)))))
    (mSeq (mFor (mRng rng1 (mACons (mK (.int 1000)) mANil)) (mgNm 4)
    bFD)
    (mSeq (mIfS (mTest (mBin pEq (mBor 5) (mK (.int 3))))
    (mFor (mRng rng1 (mACons (mNm 7) mANil)) (mgNm 11)
    bFS)
    mNx)
    (mIfS (mTest (mBin pEq (mBor 5) (mK (.int 4))))
    (mAsg 3 (mBin pAdd (mBor 3) (mBor 7)))
    mNx))))))))))
abbrev fE (os : List Int) (tn : Option PV) (a left : Nat) (dt kd st nu ma sc la sg : Option PV) : Pu.Env := [some (.val (.tup (os.map PV.int))), tn.map SV.val, some (.val (.int (a : Int))), some (.val (.int (left : Int))), dt.map SV.val, kd.map SV.val, st.map SV.val, nu.map SV.val, ma.map SV.val, sc.map SV.val, la.map SV.val, sg.map SV.val]
def mostK (i : Nat) : Option Nat := if i = 3 then some 20000 else if i = 4 then some 50000 else none
theorem for_bk {g : MG} {b : MS} {x : PV} {xs : List PV} {ρ ρ1 ρ2 : Pu.Env} (hg : g x ρ = some ρ1) (hb : b ρ1 = .ok (.bk, ρ2)) : Pu.forM g b (x :: xs) ρ = .ok (.nx, ρ2) := by
  show (liftO (g x ρ)).bind _ = _
  rw [hg]
  show (b ρ1).bind _ = _
  rw [hb]
  rfl
theorem for_ct {g : MG} {b : MS} {x : PV} {xs : List PV} {ρ ρ1 ρ2 : Pu.Env} (hg : g x ρ = some ρ1) (hb : b ρ1 = .ok (.ct, ρ2)) : Pu.forM g b (x :: xs) ρ = Pu.forM g b xs ρ2 := by
  show (liftO (g x ρ)).bind _ = _
  rw [hg]
  show (b ρ1).bind _ = _
  rw [hb]
  rfl
theorem par2_of {m1 m2 : M} {i j : Nat} {ρ ρ' : Pu.Env} {a b : PV} (h1 : m1 ρ = .ok (.val a, ρ)) (h2 : m2 ρ = .ok (.val b, ρ)) (hs : setRs [i, j] [.val a, .val b] ρ = some ρ') : mPar [i, j] (mFCons m1 (mFCons m2 mFNil)) ρ = .ok (.nx, ρ') := by
  unfold mPar mFCons mFNil
  simp [h1, h2, Res.bind, hs, liftO]
theorem ix_at {os : List Int} {tn : Option PV} {a left i : Nat} {dt kd st nu ma sc la sg : Option PV} (hi : os[a]? = some (i : Int)) : mBin pIx (mBor 0) (mBor 2) (fE os tn a left dt kd st nu ma sc la sg) = .ok (.val (.int (i : Int)), fE os tn a left dt kd st nu ma sc la sg) := bin_val (a := .tup (os.map PV.int)) (b := .int a) rfl rfl (at_ok hi)
theorem at_len {os : List Int} {tn : Option PV} {a left : Nat} {dt kd st nu ma sc la sg : Option PV} : mTest (mBin pEq (mBor 2) (mApp fLen (mACons (mBor 0) mANil))) (fE os tn a left dt kd st nu ma sc la sg) = .ok (decide (a = os.length), fE os tn a left dt kd st nu ma sc la sg) := by
  refine test_of (bin_val (a := .int a) (b := .int os.length) rfl (app1 (a := .tup (os.map PV.int)) rfl (by simp [fLen])) ?_)
  by_cases c : a = os.length
  · rw [decide_eq_true c, c]; simp [pEq, cmpOk, eqP]
  · have c1 : ¬ (a : Int) = (os.length : Int) := by omega
    rw [decide_eq_false c]; simp [pEq, cmpOk, eqP, c1]
theorem eq_t {x : Int} {y : Int} {m : M} {ρ : Pu.Env} (h : m ρ = .ok (.val (.int x), ρ)) : mTest (mBin pEq m (mK (.int y))) ρ = .ok (decide (x = y), ρ) := by
  refine test_of (bin_val (b := .int y) h rfl ?_)
  by_cases c : x = y <;> simp [pEq, cmpOk, eqP, c]
theorem gt_t {x : Int} {y : Int} {m : M} {ρ : Pu.Env} (h : m ρ = .ok (.val (.int x), ρ)) : mTest (mBin pGt m (mK (.int y))) ρ = .ok (decide (y < x), ρ) := test_of (bin_val (b := .int y) h rfl rfl)
abbrev dE (os : List Int) (tn : Option PV) (a left : Nat) (dt : Option PV) (i : Nat) (st : Option PV) (n m s : Nat) (la sg : Option PV) : Pu.Env := fE os tn a left dt (some (.int (i : Int))) st (some (.int (n : Int))) (some (.int (m : Int))) (some (.int (s : Int))) la sg
theorem fd_over {os : List Int} {tn : Option PV} {a left i : Nat} {dt st : Option PV} {n m s : Nat} {sg : Option PV} : mTOr (mTAnd (mTest (mBin pEq (mBor 5) (mK (.int 3)))) (mTest (mBin pGt (mBor 7) (mK (.int 20000))))) (mTAnd (mTest (mBin pEq (mBor 5) (mK (.int 4)))) (mTest (mBin pGt (mBor 7) (mK (.int 50000))))) (dE os tn a left dt i st n m s (some (.bl true)) sg) =
    .ok (over (mostK i) n, dE os tn a left dt i st n m s (some (.bl true)) sg) := by
  have k3 : mTest (mBin pEq (mBor 5) (mK (.int 3))) (dE os tn a left dt i st n m s (some (.bl true)) sg) = .ok (decide ((i : Int) = 3), dE os tn a left dt i st n m s (some (.bl true)) sg) := eq_t rfl
  have k4 : mTest (mBin pEq (mBor 5) (mK (.int 4))) (dE os tn a left dt i st n m s (some (.bl true)) sg) = .ok (decide ((i : Int) = 4), dE os tn a left dt i st n m s (some (.bl true)) sg) := eq_t rfl
  have n3 : mTest (mBin pGt (mBor 7) (mK (.int 20000))) (dE os tn a left dt i st n m s (some (.bl true)) sg) = .ok (decide ((20000 : Int) < n), dE os tn a left dt i st n m s (some (.bl true)) sg) := gt_t rfl
  have n4 : mTest (mBin pGt (mBor 7) (mK (.int 50000))) (dE os tn a left dt i st n m s (some (.bl true)) sg) = .ok (decide ((50000 : Int) < n), dE os tn a left dt i st n m s (some (.bl true)) sg) := gt_t rfl
  unfold mostK
  by_cases c3 : i = 3
  · rw [decide_eq_true (show (i : Int) = 3 by omega)] at k3
    rw [decide_eq_false (show ¬ (i : Int) = 4 by omega)] at k4
    rw [if_pos c3]
    have g1 := (tand_t k3).trans n3
    unfold over
    dsimp only
    by_cases c : 20000 < n
    · rw [decide_eq_true (show (20000 : Int) < n by omega)] at g1
      rw [decide_eq_true c]
      exact tor_t g1
    · rw [decide_eq_false (show ¬ (20000 : Int) < n by omega)] at g1
      rw [decide_eq_false c]
      exact (tor_f g1).trans (tand_f k4)
  · rw [decide_eq_false (show ¬ (i : Int) = 3 by omega)] at k3
    rw [if_neg c3]
    by_cases c4 : i = 4
    · rw [decide_eq_true (show (i : Int) = 4 by omega)] at k4
      rw [if_pos c4]
      refine (tor_f (tand_f k3)).trans ((tand_t k4).trans (n4.trans ?_))
      unfold over
      dsimp only
      by_cases c : 50000 < n
      · rw [decide_eq_true (show (50000 : Int) < n by omega), decide_eq_true c]
      · rw [decide_eq_false (show ¬ (50000 : Int) < n by omega), decide_eq_false c]
    · rw [decide_eq_false (show ¬ (i : Int) = 4 by omega)] at k4
      rw [if_neg c4]
      exact (tor_f (tand_f k3)).trans (tand_f k4)
def FdRes (os : List Int) (tn : Option PV) (left i : Nat) (st sg : Option PV) (r : Except Nat (Nat × Nat)) (x : Res (Fl × Pu.Env)) : Prop := match r with
  | .error e => ∃ ρ, x = .ok (.rt (.val (.int (e : Int))), ρ) ∧ outsOf 1 ρ = [none]
  | .ok (k, a') => ∃ (dt : Option PV) (m' s' : Nat) (la : Option PV), x = .ok (.nx, dE os tn a' left dt i st k m' s' la sg)
theorem fdg_loop {os : List Int} (ho : os.all oct = true) {tn : Option PV} {left i : Nat} {st sg : Option PV} : ∀ (f : Nat) (xs : List PV) (a m n s : Nat) (dt la : Option PV), m + f = 950 → f < xs.length → a ≤ os.length →
    FdRes os tn left i st sg (rdN os (mostK i) f a m n s) (Pu.forM (mgNm 4) bFD xs (dE os tn a left dt i st n m s la sg))
  | f, [], a, m, n, s, dt, la, hm, hx, ha => by simp at hx
  | 0, x :: xs, a, m, n, s, dt, la, hm, hx, ha => by
    have g : mgNm 4 x (dE os tn a left dt i st n m s la sg) = some (dE os tn a left (some x) i st n m s la sg) := by cases dt <;> rfl
    have t2 : mTest (mBin pEq (mBor 8) (mK (.int 950))) (dE os tn a left (some x) i st n m s la sg) = .ok (decide ((m : Int) = 950), dE os tn a left (some x) i st n m s la sg) := eq_t rfl
    rw [decide_eq_true (show (m : Int) = 950 by omega)] at t2
    have t1 := at_len (os := os) (tn := tn) (a := a) (left := left) (dt := some x) (kd := some (.int (i : Int))) (st := st) (nu := some (.int (n : Int))) (ma := some (.int (m : Int))) (sc := some (.int (s : Int))) (la := la) (sg := sg)
    have tt : mTOr (mTest (mBin pEq (mBor 2) (mApp fLen (mACons (mBor 0) mANil)))) (mTest (mBin pEq (mBor 8) (mK (.int 950)))) (dE os tn a left (some x) i st n m s la sg) = .ok (true, dE os tn a left (some x) i st n m s la sg) := by
      cases hc : decide (a = os.length) with
      | true => rw [hc] at t1; exact tor_t t1
      | false => rw [hc] at t1; exact (tor_f t1).trans t2
    exact ⟨dE os tn a left (some x) i st n m s la sg, for_rt g (seq_rt ((ifs_t tt).trans rfl)), rfl⟩
  | f + 1, x :: xs, a, m, n, s, dt, la, hm, hx, ha => by
    rw [List.length_cons] at hx
    have g : mgNm 4 x (dE os tn a left dt i st n m s la sg) = some (dE os tn a left (some x) i st n m s la sg) := by cases dt <;> rfl
    have t2 : mTest (mBin pEq (mBor 8) (mK (.int 950))) (dE os tn a left (some x) i st n m s la sg) = .ok (decide ((m : Int) = 950), dE os tn a left (some x) i st n m s la sg) := eq_t rfl
    rw [decide_eq_false (show ¬ (m : Int) = 950 by omega)] at t2
    have t1 := at_len (os := os) (tn := tn) (a := a) (left := left) (dt := some x) (kd := some (.int (i : Int))) (st := st) (nu := some (.int (n : Int))) (ma := some (.int (m : Int))) (sc := some (.int (s : Int))) (la := la) (sg := sg)
    unfold rdN
    cases hi : os[a]? with
    | none =>
      have hl : os.length ≤ a := List.getElem?_eq_none_iff.mp hi
      rw [decide_eq_true (show a = os.length by omega)] at t1
      exact ⟨dE os tn a left (some x) i st n m s la sg, for_rt g (seq_rt ((ifs_t (tor_t t1)).trans rfl)), rfl⟩
    | some j =>
      obtain ⟨k, rfl, hk⟩ := oct_nat ho hi
      have hl := (List.getElem?_eq_some_iff.mp hi).1
      rw [decide_eq_false (show ¬ a = os.length by omega)] at t1
      dsimp only
      rw [Int.toNat_natCast]
      have sm : smallI ((k : Int) % 128) = true := by
        unfold smallI
        rw [Bool.and_eq_true]
        exact ⟨decide_eq_true (by omega), decide_eq_true (by omega)⟩
      have ix := ix_at (tn := tn) (left := left) (dt := some x) (kd := some (.int (i : Int))) (st := st) (nu := some (.int (n : Int))) (ma := some (.int (m : Int))) (sc := some (.int (s : Int))) (la := la) (sg := sg) hi
      have e1 : mBin pMod (mApp fInt (mACons (mBin pIx (mBor 0) (mBor 2)) mANil)) (mK (.int 128)) (dE os tn a left (some x) i st n m s la sg) = .ok (.val (.int ((k : Int) % 128)), dE os tn a left (some x) i st n m s la sg) := bin_val (a := .int k) (b := .int 128) (app1 ix rfl) rfl (iop_eval (if_pos (by decide)))
      have e2 : mBin pAdd (mBor 7) (mBin pMul (mBin pMod (mApp fInt (mACons (mBin pIx (mBor 0) (mBor 2)) mANil)) (mK (.int 128))) (mBor 9)) (dE os tn a left (some x) i st n m s la sg) = .ok (.val (.int ((n + k % 128 * s : Nat) : Int)), dE os tn a left (some x) i st n m s la sg) := by
        refine bin_val (a := .int n) (b := .int ((k : Int) % 128 * s)) rfl (bin_val (b := .int s) e1 rfl (mul_small sm)) ?_
        show some (RV.val (PV.int ((n : Int) + (k : Int) % 128 * s))) = _
        rw [show ((n : Int) + (k : Int) % 128 * s) = ((n + k % 128 * s : Nat) : Int) by simp]
      have e3 : mBin pMul (mBor 9) (mK (.int 128)) (dE os tn a left (some x) i st n m s la sg) = .ok (.val (.int ((s * 128 : Nat) : Int)), dE os tn a left (some x) i st n m s la sg) := by
        refine bin_val (a := .int s) (b := .int 128) rfl rfl ((mul_small2 (by decide)).trans ?_)
        rw [show ((s : Int) * 128) = ((s * 128 : Nat) : Int) by simp]
      have p1 : ∀ b, mSeq (mIfS (mTOr (mTest (mBin pEq (mBor 2) (mApp fLen (mACons (mBor 0) mANil)))) (mTest (mBin pEq (mBor 8) (mK (.int 950))))) (mRetNm 2) mNx) (mSeq (mPar [7, 9] (mFCons (mBin pAdd (mBor 7) (mBin pMul (mBin pMod (mApp fInt (mACons (mBin pIx (mBor 0) (mBor 2)) mANil)) (mK (.int 128))) (mBor 9))) (mFCons (mBin pMul (mBor 9) (mK (.int 128))) mFNil))) b) (dE os tn a left (some x) i st n m s la sg) =
          b (dE os tn a left (some x) i st (n + k % 128 * s) m (s * 128) la sg) := fun b =>
        (seq_nx ((ifs_f ((tor_f t1).trans t2)).trans rfl)).trans (seq_nx (par2_of e2 e3 rfl))
      have ix2 := ix_at (tn := tn) (left := left) (dt := some x) (kd := some (.int (i : Int))) (st := st) (nu := some (.int ((n + k % 128 * s : Nat) : Int))) (ma := some (.int (m : Int))) (sc := some (.int ((s * 128 : Nat) : Int))) (la := la) (sg := sg) hi
      have p2 : ∀ b, mSeq (mAsg 10 (mBin pLt (mBin pIx (mBor 0) (mBor 2)) (mK (.int 128)))) b (dE os tn a left (some x) i st (n + k % 128 * s) m (s * 128) la sg) = b (dE os tn a left (some x) i st (n + k % 128 * s) m (s * 128) (some (.bl (decide ((k : Int) < 128)))) sg) := fun b =>
        seq_nx (asg_of (bin_val (b := .int 128) ix2 rfl rfl) (by cases la <;> rfl))
      by_cases c : (k : Int) < 128
      · rw [if_pos c]
        rw [decide_eq_true c] at p2
        have ix3 := ix_at (tn := tn) (left := left) (dt := some x) (kd := some (.int (i : Int))) (st := st) (nu := some (.int ((n + k % 128 * s : Nat) : Int))) (ma := some (.int (m : Int))) (sc := some (.int ((s * 128 : Nat) : Int))) (la := some (.bl true)) (sg := sg) hi
        have la : mTruth (mBor 10) (dE os tn a left (some x) i st (n + k % 128 * s) m (s * 128) (some (.bl true)) sg) = .ok (true, dE os tn a left (some x) i st (n + k % 128 * s) m (s * 128) (some (.bl true)) sg) := truth_of' (a := .bl true) rfl rfl
        have z1 : mTest (mBin pEq (mBin pIx (mBor 0) (mBor 2)) (mK (.int 0))) (dE os tn a left (some x) i st (n + k % 128 * s) m (s * 128) (some (.bl true)) sg) = .ok (decide ((k : Int) = 0), dE os tn a left (some x) i st (n + k % 128 * s) m (s * 128) (some (.bl true)) sg) := eq_t ix3
        have z2 : mTest (mBin pGt (mBor 8) (mK (.int 0))) (dE os tn a left (some x) i st (n + k % 128 * s) m (s * 128) (some (.bl true)) sg) = .ok (decide ((0 : Int) < m), dE os tn a left (some x) i st (n + k % 128 * s) m (s * 128) (some (.bl true)) sg) := gt_t rfl
        have z3 : mTAnd (mTruth (mBor 10)) (mTAnd (mTest (mBin pEq (mBin pIx (mBor 0) (mBor 2)) (mK (.int 0)))) (mTest (mBin pGt (mBor 8) (mK (.int 0))))) (dE os tn a left (some x) i st (n + k % 128 * s) m (s * 128) (some (.bl true)) sg) = .ok (((k : Int) == 0 && decide (0 < m)), dE os tn a left (some x) i st (n + k % 128 * s) m (s * 128) (some (.bl true)) sg) := by
          refine (tand_t la).trans ?_
          by_cases c1 : (k : Int) = 0
          · rw [decide_eq_true c1] at z1
            refine (tand_t z1).trans (z2.trans ?_)
            by_cases c2 : 0 < m
            · rw [decide_eq_true (show (0 : Int) < m by omega), decide_eq_true c2, c1]; rfl
            · rw [decide_eq_false (show ¬ (0 : Int) < m by omega), decide_eq_false c2, c1]; rfl
          · rw [decide_eq_false c1] at z1
            rw [show ((k : Int) == 0) = false from beq_eq_false_iff_ne.mpr c1]
            exact tand_f z1
        have z4 := fd_over (os := os) (tn := tn) (a := a) (left := left) (i := i) (dt := some x) (st := st) (n := n + k % 128 * s) (m := m) (s := s * 128) (sg := sg)
        have z5 := (tand_t (tb := mTOr (mTAnd (mTest (mBin pEq (mBor 5) (mK (.int 3)))) (mTest (mBin pGt (mBor 7) (mK (.int 20000))))) (mTAnd (mTest (mBin pEq (mBor 5) (mK (.int 4)))) (mTest (mBin pGt (mBor 7) (mK (.int 50000)))))) la).trans z4
        cases hb1 : ((k : Int) == 0 && decide (0 < m)) with
        | true =>
          rw [hb1] at z3
          rw [Bool.true_or, if_pos rfl]
          exact ⟨_, for_rt g ((p1 _).trans ((p2 _).trans (seq_rt ((ifs_t z3).trans rfl)))), rfl⟩
        | false =>
          rw [hb1] at z3
          rw [Bool.false_or]
          cases hb2 : over (mostK i) (n + k % 128 * s) with
          | true =>
            rw [hb2] at z5
            rw [if_pos rfl]
            exact ⟨_, for_rt g ((p1 _).trans ((p2 _).trans ((seq_nx ((ifs_f z3).trans rfl)).trans (seq_rt ((ifs_t z5).trans rfl))))), rfl⟩
          | false =>
            rw [hb2] at z5
            rw [if_neg (by decide)]
            refine ⟨some x, m + 1, s * 128, some (.bl true), for_bk g ((p1 _).trans ((p2 _).trans ((seq_nx ((ifs_f z3).trans rfl)).trans ((seq_nx ((ifs_f z5).trans rfl)).trans ?_))))⟩
            exact (seq_nx (ρ1 := dE os tn (a + 1) left (some x) i st (n + k % 128 * s) (m + 1) (s * 128) (some (.bl true)) sg) (par2_of (a := .int ((a + 1 : Nat) : Int)) (b := .int ((m + 1 : Nat) : Int)) rfl rfl rfl)).trans rfl
      · rw [if_neg c]
        rw [decide_eq_false c] at p2
        have la' : mTruth (mBor 10) (dE os tn a left (some x) i st (n + k % 128 * s) m (s * 128) (some (.bl false)) sg) = .ok (false, dE os tn a left (some x) i st (n + k % 128 * s) m (s * 128) (some (.bl false)) sg) := truth_of' (a := .bl false) rfl rfl
        have ih := fdg_loop ho (tn := tn) (left := left) (i := i) (st := st) (sg := sg) f xs (a + 1) (m + 1) (n + k % 128 * s) (s * 128) (some x) (some (.bl false)) (by omega) (by omega) hl
        have st' : bFD (dE os tn a left (some x) i st n m s la sg) = .ok (.nx, dE os tn (a + 1) left (some x) i st (n + k % 128 * s) (m + 1) (s * 128) (some (.bl false)) sg) :=
          (p1 _).trans ((p2 _).trans ((seq_nx ((ifs_f (tand_f la')).trans rfl)).trans ((seq_nx ((ifs_f (tand_f la')).trans rfl)).trans ((seq_nx (ρ1 := dE os tn (a + 1) left (some x) i st (n + k % 128 * s) (m + 1) (s * 128) (some (.bl false)) sg) (par2_of (a := .int ((a + 1 : Nat) : Int)) (b := .int ((m + 1 : Nat) : Int)) rfl rfl rfl)).trans rfl))))
        rw [for_cons g st']
        exact ih
/-- the signs -/
def FsRes (os : List Int) (tn : Option PV) (left : Nat) (dt kd st nu ma sc la : Option PV) (r : Except Nat (List Nat × Nat)) (x : Res (Fl × Pu.Env)) : Prop := match r with
  | .error e => ∃ ρ, x = .ok (.rt (.val (.int (e : Int))), ρ) ∧ outsOf 1 ρ = [none]
  | .ok (_, a') => ∃ sg : Option PV, x = .ok (.nx, fE os tn a' left dt kd st nu ma sc la sg)
theorem fs_loop {os : List Int} (ho : os.all oct = true) {tn : Option PV} {left : Nat} {dt kd st nu ma sc la : Option PV} : ∀ (xs : List PV) (a : Nat) (sg : Option PV), a ≤ os.length →
    FsRes os tn left dt kd st nu ma sc la (rdS os xs.length a) (Pu.forM (mgNm 11) bFS xs (fE os tn a left dt kd st nu ma sc la sg))
  | [], a, sg, _ => ⟨sg, rfl⟩
  | x :: xs, a, sg, ha => by
    rw [List.length_cons]
    have g : mgNm 11 x (fE os tn a left dt kd st nu ma sc la sg) = some (fE os tn a left dt kd st nu ma sc la (some x)) := by cases sg <;> rfl
    have t1 := at_len (os := os) (tn := tn) (a := a) (left := left) (dt := dt) (kd := kd) (st := st) (nu := nu) (ma := ma) (sc := sc) (la := la) (sg := some x)
    unfold rdS
    cases hi : os[a]? with
    | none =>
      have hl : os.length ≤ a := List.getElem?_eq_none_iff.mp hi
      rw [decide_eq_true (show a = os.length by omega)] at t1
      exact ⟨_, for_rt g (seq_rt ((ifs_t (tor_t t1)).trans rfl)), rfl⟩
    | some j =>
      obtain ⟨k, rfl, hk⟩ := oct_nat ho hi
      have hl := (List.getElem?_eq_some_iff.mp hi).1
      rw [decide_eq_false (show ¬ a = os.length by omega)] at t1
      dsimp only
      have ix := ix_at (tn := tn) (left := left) (dt := dt) (kd := kd) (st := st) (nu := nu) (ma := ma) (sc := sc) (la := la) (sg := some x) hi
      have c1 : mTest (mChain pLe pLe (mK (.int 32)) (mBin pIx (mBor 0) (mBor 2)) (mK (.int 126))) (fE os tn a left dt kd st nu ma sc la (some x)) = .ok (decide ((32 : Int) ≤ k) && decide ((k : Int) ≤ 126), fE os tn a left dt kd st nu ma sc la (some x)) := by
        refine test_of ?_
        unfold mChain
        have o1 : mOp (mBin pIx (mBor 0) (mBor 2)) (fE os tn a left dt kd st nu ma sc la (some x)) = .ok (.val (.int k), fE os tn a left dt kd st nu ma sc la (some x)) := by unfold mOp; rw [ix]; rfl
        have o0 : mOp (mK (.int 32)) (fE os tn a left dt kd st nu ma sc la (some x)) = .ok (.val (.int 32), fE os tn a left dt kd st nu ma sc la (some x)) := rfl
        rw [o0, Res.bind_ok]
        dsimp only
        rw [o1]
        by_cases d1 : (32 : Int) ≤ k
        · by_cases d2 : (k : Int) ≤ 126 <;> simp [Res.bind, deref, liftO, pLe, iop, truth, d1, d2, mK, mOp, RV.fz, RV.val?, RV.bl?]
        · simp [Res.bind, deref, liftO, pLe, iop, truth, d1, mK, mOp, RV.fz, RV.val?, RV.bl?]
      have c2 : mTest (mBin pEq (mBin pIx (mBor 0) (mBor 2)) (mK (.int 10))) (fE os tn a left dt kd st nu ma sc la (some x)) = .ok (decide ((k : Int) = 10), fE os tn a left dt kd st nu ma sc la (some x)) := eq_t ix
      have c3 : mTOr (mTest (mChain pLe pLe (mK (.int 32)) (mBin pIx (mBor 0) (mBor 2)) (mK (.int 126)))) (mTest (mBin pEq (mBin pIx (mBor 0) (mBor 2)) (mK (.int 10)))) (fE os tn a left dt kd st nu ma sc la (some x)) = .ok (isSign (k : Int), fE os tn a left dt kd st nu ma sc la (some x)) := by
        unfold isSign
        cases hc : (decide ((32 : Int) ≤ k) && decide ((k : Int) ≤ 126)) with
        | true => rw [hc] at c1; rw [tor_t c1]; rfl
        | false =>
          rw [hc] at c1
          rw [tor_f c1, c2, Bool.false_or]
          by_cases d : (k : Int) = 10
          · rw [decide_eq_true d, d]; rfl
          · rw [decide_eq_false d, show ((k : Int) == 10) = false from beq_eq_false_iff_ne.mpr d]
      have c4 := tnot_of c3
      by_cases hsg : isSign (k : Int) = true
      · rw [if_pos hsg]
        rw [hsg] at c4
        have sx : bFS (fE os tn a left dt kd st nu ma sc la (some x)) = .ok (.nx, fE os tn (a + 1) left dt kd st nu ma sc la (some x)) :=
          (seq_nx ((ifs_f ((tor_f t1).trans c4)).trans rfl)).trans (asg_of (r := .val (.int ((a + 1 : Nat) : Int))) (bin_val (a := .int a) (b := .int 1) rfl rfl rfl) rfl)
        rw [for_cons g sx]
        have ih := fs_loop ho (tn := tn) (left := left) (dt := dt) (kd := kd) (st := st) (nu := nu) (ma := ma) (sc := sc) (la := la) xs (a + 1) (some x) hl
        cases hr : rdS os xs.length (a + 1) with
        | error e => rw [hr] at ih; exact ih
        | ok q => rw [hr] at ih; exact ih
      · rw [if_neg hsg]
        rw [Bool.not_eq_true] at hsg
        rw [hsg] at c4
        exact ⟨_, for_rt g (seq_rt ((ifs_t ((tor_f t1).trans c4)).trans rfl)), rfl⟩
end K81

set_option Elab.async false
set_option linter.all false
set_option maxRecDepth 100000
set_option exponentiation.threshold 100000
namespace K81
open PySem Pu
variable {C : Addr} {t : Tb}
/-! ### one turn of _law_first -/
inductive TR where
  | ret (r : Option Nat)
  | go (a left : Nat)
def turn1 (os : List Int) (a left : Nat) : TR := if left = 0 then .ret (if a = os.length then none else some a) else match os[a]? with
  | none => .ret (some a)
  | some i => if 6 < i then .ret (some a) else if i = 0 ∨ i = 5 ∨ i = 6 then .go (a + 1) (left - 1)
    else match rdD os (mostK i.toNat) (a + 1) with
      | .error e => .ret (some e)
      | .ok (k, a') => if i = 3 then (match rdS os k a' with
          | .error e => .ret (some e)
          | .ok (_, a2) => .go a2 (left - 1))
        else if i = 4 then .go a' (left - 1 + k) else .go a' (left - 1)
def optP : Option Nat → PV
  | none => .non
  | some e => .int (e : Int)
def FtRes (os : List Int) (tn : Option PV) (r : TR) (x : Res (Fl × Pu.Env)) : Prop := match r with
  | .ret r => ∃ ρ, x = .ok (.rt (.val (optP r)), ρ) ∧ outsOf 1 ρ = [none]
  | .go a left => ∃ (fl : Fl) (dt kd st nu ma sc la sg : Option PV), x = .ok (fl, fE os tn a left dt kd st nu ma sc la sg) ∧ (fl = .nx ∨ fl = .ct)
theorem rng1000 (ρ : Pu.Env) : ∃ xs, mRng rng1 (mACons (mK (.int 1000)) mANil) ρ = .ok (xs, ρ) ∧ xs.length = 1000 := by
  refine ⟨rangeOf 0 1000, ?_, by simp [rangeOf]⟩
  exact rng1_of (n := 1000) rfl (by decide)
theorem ft_turn {os : List Int} (ho : os.all oct = true) {tn : Option PV} {a left : Nat} {dt kd st nu ma sc la sg : Option PV} (ha : a ≤ os.length) : FtRes os tn (turn1 os a left) (bFT (fE os tn a left dt kd st nu ma sc la sg)) := by
  have l0 : mTest (mBin pEq (mBor 3) (mK (.int 0))) (fE os tn a left dt kd st nu ma sc la sg) = .ok (decide ((left : Int) = 0), fE os tn a left dt kd st nu ma sc la sg) := eq_t rfl
  have t1 := at_len (os := os) (tn := tn) (a := a) (left := left) (dt := dt) (kd := kd) (st := st) (nu := nu) (ma := ma) (sc := sc) (la := la) (sg := sg)
  unfold turn1
  by_cases h0 : left = 0
  · rw [if_pos h0]
    rw [decide_eq_true (show (left : Int) = 0 by omega)] at l0
    by_cases c : a = os.length
    · rw [if_pos c]
      rw [decide_eq_true c] at t1
      exact ⟨_, seq_rt ((ifs_t l0).trans (ret_of ((mif_t t1).trans rfl))), rfl⟩
    · rw [if_neg c]
      rw [decide_eq_false c] at t1
      exact ⟨_, seq_rt ((ifs_t l0).trans (ret_of ((mif_f t1).trans rfl))), rfl⟩
  · rw [if_neg h0]
    rw [decide_eq_false (show ¬ (left : Int) = 0 by omega)] at l0
    have s0 : ∀ b x, mSeq (mIfS (mTest (mBin pEq (mBor 3) (mK (.int 0)))) x mNx) b (fE os tn a left dt kd st nu ma sc la sg) = b (fE os tn a left dt kd st nu ma sc la sg) := fun b x => seq_nx ((ifs_f l0).trans rfl)
    cases hi : os[a]? with
    | none =>
      have hl : os.length ≤ a := List.getElem?_eq_none_iff.mp hi
      rw [decide_eq_true (show a = os.length by omega)] at t1
      exact ⟨_, (s0 _ _).trans (seq_rt ((ifs_t (tor_t t1)).trans rfl)), rfl⟩
    | some j =>
      obtain ⟨i, rfl, hk⟩ := oct_nat ho hi
      have hl := (List.getElem?_eq_some_iff.mp hi).1
      rw [decide_eq_false (show ¬ a = os.length by omega)] at t1
      have ix := ix_at (tn := tn) (left := left) (dt := dt) (kd := kd) (st := st) (nu := nu) (ma := ma) (sc := sc) (la := la) (sg := sg) hi
      have t6 : mTest (mBin pGt (mBin pIx (mBor 0) (mBor 2)) (mK (.int 6))) (fE os tn a left dt kd st nu ma sc la sg) = .ok (decide ((6 : Int) < i), fE os tn a left dt kd st nu ma sc la sg) := gt_t ix
      dsimp only
      by_cases c6 : (6 : Int) < i
      · rw [if_pos c6]
        rw [decide_eq_true c6] at t6
        exact ⟨_, (s0 _ _).trans (seq_rt ((ifs_t ((tor_f t1).trans t6)).trans rfl)), rfl⟩
      · rw [if_neg c6]
        rw [decide_eq_false c6] at t6
        obtain ⟨l, rfl⟩ : ∃ l, left = l + 1 := ⟨left - 1, by omega⟩
        have s1 : ∀ b, mSeq (mIfS (mTOr (mTest (mBin pEq (mBor 2) (mApp fLen (mACons (mBor 0) mANil)))) (mTest (mBin pGt (mBin pIx (mBor 0) (mBor 2)) (mK (.int 6))))) (mRetNm 2) mNx)
            (mSeq (mPar [5, 6] (mFCons (mBin pIx (mBor 0) (mBor 2)) (mFCons (mNm 2) mFNil))) (mSeq (mAsg 2 (mBin pAdd (mBor 2) (mK (.int 1)))) (mSeq (mAsg 3 (mBin pSub (mBor 3) (mK (.int 1)))) b))) (fE os tn a (l + 1) dt kd st nu ma sc la sg) = b (fE os tn (a + 1) l dt (some (.int (i : Int))) (some (.int (a : Int))) nu ma sc la sg) := fun b =>
          (seq_nx ((ifs_f ((tor_f t1).trans t6)).trans rfl)).trans ((seq_nx (ρ1 := fE os tn a (l + 1) dt (some (.int (i : Int))) (some (.int (a : Int))) nu ma sc la sg) (par2_of (a := .int (i : Int)) (b := .int (a : Int)) ix rfl (by cases kd <;> cases st <;> rfl))).trans
            ((seq_nx (ρ1 := fE os tn (a + 1) (l + 1) dt (some (.int (i : Int))) (some (.int (a : Int))) nu ma sc la sg) (asg_of (r := .val (.int ((a + 1 : Nat) : Int))) (bin_val (a := .int a) (b := .int 1) rfl rfl rfl) rfl)).trans
            (seq_nx (ρ1 := fE os tn (a + 1) l dt (some (.int (i : Int))) (some (.int (a : Int))) nu ma sc la sg) (asg_of (r := .val (.int (l : Int))) (bin_val (a := .int ((l + 1 : Nat) : Int)) (b := .int 1) rfl rfl (by
              show some (RV.val (PV.int (((l + 1 : Nat) : Int) - 1))) = _
              rw [show (((l + 1 : Nat) : Int) - 1) = (l : Int) by omega])) rfl))))
        rw [show l + 1 - 1 = l by omega]
        by_cases c0 : (i : Int) = 0 ∨ (i : Int) = 5 ∨ (i : Int) = 6
        · rw [if_pos c0]
          refine ⟨.ct, dt, some (.int (i : Int)), some (.int (a : Int)), nu, ma, sc, la, sg, ?_, .inr rfl⟩
          refine (s0 _ _).trans ((s1 _).trans ?_)
          rcases c0 with c0 | c0 | c0 <;> rw [c0] <;> rfl
        · rw [if_neg c0, Int.toNat_natCast]
          obtain ⟨xs, r1, r2⟩ := rng1000 (dE os tn (a + 1) l dt i (some (.int (a : Int))) 0 0 1 la sg)
          have lp := fdg_loop ho (tn := tn) (left := l) (i := i) (st := some (.int (a : Int))) (sg := sg) 950 xs (a + 1) 0 0 1 dt la rfl (by omega) hl
          have s2 : ∀ b x, mSeq (mIfS (mTest (mBin pIn (mBor 5) (mTup (mACons (mK (.int 0)) (mACons (mK (.int 5)) (mACons (mK (.int 6)) mANil)))))) x mNx) (mSeq (mAsgT (mgTup 3 (mgCons (mgNm 7) (mgCons (mgNm 8) (mgCons (mgNm 9) mgNil)))) (mTup (mACons (mK (.int 0)) (mACons (mK (.int 0)) (mACons (mK (.int 1)) mANil))))) b) (fE os tn (a + 1) l dt (some (.int (i : Int))) (some (.int (a : Int))) nu ma sc la sg) = b (dE os tn (a + 1) l dt i (some (.int (a : Int))) 0 0 1 la sg) := fun b x => by
            obtain rfl | rfl | rfl | rfl : i = 1 ∨ i = 2 ∨ i = 3 ∨ i = 4 := by omega
            all_goals
              refine (seq_nx (ρ1 := fE os tn (a + 1) l dt (some (.int _)) (some (.int (a : Int))) nu ma sc la sg) rfl).trans (seq_nx (asgt_of (v := .tup [.int 0, .int 0, .int 1]) (ρ1 := fE os tn (a + 1) l dt (some (.int _)) (some (.int (a : Int))) nu ma sc la sg) rfl ?_))
              cases nu <;> cases ma <;> cases sc <;> rfl
          unfold rdD
          cases e : rdN os (mostK i) 950 (a + 1) 0 0 1 with
          | error y =>
            rw [e] at lp
            obtain ⟨ρ, h1, h2⟩ := lp
            exact ⟨ρ, (s0 _ _).trans ((s1 _).trans ((s2 _ _).trans (seq_rt ((mfor_of r1).trans h1)))), h2⟩
          | ok q =>
            obtain ⟨k, a'⟩ := q
            rw [e] at lp
            obtain ⟨dt', m', s', la', h1⟩ := lp
            have bd := rdN_le _ _ _ _ _ _ _ e
            dsimp only
            have s3 : ∀ b, mSeq (mFor (mRng rng1 (mACons (mK (.int 1000)) mANil)) (mgNm 4) bFD) b (dE os tn (a + 1) l dt i (some (.int (a : Int))) 0 0 1 la sg) = b (dE os tn a' l dt' i (some (.int (a : Int))) k m' s' la' sg) := fun b => seq_nx ((mfor_of r1).trans h1)
            have k3 : mTest (mBin pEq (mBor 5) (mK (.int 3))) (dE os tn a' l dt' i (some (.int (a : Int))) k m' s' la' sg) = .ok (decide ((i : Int) = 3), dE os tn a' l dt' i (some (.int (a : Int))) k m' s' la' sg) := eq_t rfl
            by_cases c3 : (i : Int) = 3
            · rw [if_pos c3]
              rw [decide_eq_true c3] at k3
              have hk2 : k ≤ 20000 := bd.2.2 20000 (by unfold mostK; rw [if_pos (by omega)])
              obtain ⟨q1, q2⟩ := rng_any k (by omega) (dE os tn a' l dt' i (some (.int (a : Int))) k m' s' la' sg) 7 rfl
              have lp2 := fs_loop ho (tn := tn) (left := l) (dt := dt') (kd := some (.int (i : Int))) (st := some (.int (a : Int))) (nu := some (.int (k : Int))) (ma := some (.int (m' : Int))) (sc := some (.int (s' : Int))) (la := la') (rangeOf 0 k) a' sg bd.2.1
              rw [q2] at lp2
              cases e2 : rdS os k a' with
              | error y =>
                rw [e2] at lp2
                obtain ⟨ρ, g1, g2⟩ := lp2
                exact ⟨ρ, (s0 _ _).trans ((s1 _).trans ((s2 _ _).trans ((s3 _).trans (seq_rt ((ifs_t k3).trans ((mfor_of q1).trans g1)))))), g2⟩
              | ok q =>
                rw [e2] at lp2
                obtain ⟨sg', g1⟩ := lp2
                refine ⟨.nx, dt', some (.int (i : Int)), some (.int (a : Int)), some (.int (k : Int)), some (.int (m' : Int)), some (.int (s' : Int)), la', sg', ?_, .inl rfl⟩
                have k4 : mTest (mBin pEq (mBor 5) (mK (.int 4))) (dE os tn q.2 l dt' i (some (.int (a : Int))) k m' s' la' sg') = .ok (decide ((i : Int) = 4), dE os tn q.2 l dt' i (some (.int (a : Int))) k m' s' la' sg') := eq_t rfl
                rw [decide_eq_false (show ¬ (i : Int) = 4 by omega)] at k4
                exact (s0 _ _).trans ((s1 _).trans ((s2 _ _).trans ((s3 _).trans ((seq_nx ((ifs_t k3).trans ((mfor_of q1).trans g1))).trans ((ifs_f k4).trans rfl)))))
            · rw [if_neg c3]
              rw [decide_eq_false c3] at k3
              have k4 : mTest (mBin pEq (mBor 5) (mK (.int 4))) (dE os tn a' l dt' i (some (.int (a : Int))) k m' s' la' sg) = .ok (decide ((i : Int) = 4), dE os tn a' l dt' i (some (.int (a : Int))) k m' s' la' sg) := eq_t rfl
              by_cases c4 : (i : Int) = 4
              · rw [if_pos c4]
                rw [decide_eq_true c4] at k4
                refine ⟨.nx, dt', some (.int (i : Int)), some (.int (a : Int)), some (.int (k : Int)), some (.int (m' : Int)), some (.int (s' : Int)), la', sg, ?_, .inl rfl⟩
                exact (s0 _ _).trans ((s1 _).trans ((s2 _ _).trans ((s3 _).trans ((seq_nx ((ifs_f k3).trans rfl)).trans ((ifs_t k4).trans (asg_of (r := .val (.int ((l + k : Nat) : Int))) (bin_val (a := .int l) (b := .int k) rfl rfl rfl) rfl))))))
              · rw [if_neg c4]
                rw [decide_eq_false c4] at k4
                refine ⟨.nx, dt', some (.int (i : Int)), some (.int (a : Int)), some (.int (k : Int)), some (.int (m' : Int)), some (.int (s' : Int)), la', sg, ?_, .inl rfl⟩
                exact (s0 _ _).trans ((s1 _).trans ((s2 _ _).trans ((s3 _).trans ((seq_nx ((ifs_f k3).trans rfl)).trans ((ifs_f k4).trans rfl)))))
/-- all turns -/
def turns (os : List Int) : Nat → Nat → Nat → Option (Option Nat)
  | 0, _, _ => none
  | n + 1, a, left => match turn1 os a left with
    | .ret r => some r
    | .go a' left' => turns os n a' left'
theorem turn1_le {os : List Int} {a left a' left' : Nat} (h : turn1 os a left = .go a' left') : a' ≤ os.length := by
  unfold turn1 at h
  split at h
  · cases h
  · cases hi : os[a]? with
    | none => rw [hi] at h; cases h
    | some i =>
      have hl := (List.getElem?_eq_some_iff.mp hi).1
      rw [hi] at h
      dsimp only at h
      split at h
      · cases h
      split at h
      · cases h; exact hl
      cases e : rdD os (mostK i.toNat) (a + 1) with
      | error y => rw [e] at h; cases h
      | ok q =>
        obtain ⟨k, a1⟩ := q
        rw [e] at h
        have bd := rdD_le e
        dsimp only at h
        split at h
        · cases e2 : rdS os k a1 with
          | error y => rw [e2] at h; cases h
          | ok q2 =>
            rw [e2] at h
            cases h
            exact (rdS_le _ _ _ _ e2 bd.2.1).2.1
        · split at h
          · cases h; exact bd.2.1
          · cases h; exact bd.2.1
theorem ft_loop {os : List Int} (ho : os.all oct = true) {r : Option Nat} : ∀ (xs : List PV) (tn : Option PV) (a left : Nat) (dt kd st nu ma sc la sg : Option PV), a ≤ os.length → turns os xs.length a left = some r →
    ∃ ρ, Pu.forM (mgNm 1) bFT xs (fE os tn a left dt kd st nu ma sc la sg) = .ok (.rt (.val (optP r)), ρ) ∧ outsOf 1 ρ = [none]
  | [], tn, a, left, dt, kd, st, nu, ma, sc, la, sg, ha, h => by cases h
  | x :: xs, tn, a, left, dt, kd, st, nu, ma, sc, la, sg, ha, h => by
    have g : mgNm 1 x (fE os tn a left dt kd st nu ma sc la sg) = some (fE os (some x) a left dt kd st nu ma sc la sg) := by cases tn <;> rfl
    have tr := ft_turn ho (tn := some x) (a := a) (left := left) (dt := dt) (kd := kd) (st := st) (nu := nu) (ma := ma) (sc := sc) (la := la) (sg := sg) ha
    rw [List.length_cons] at h
    unfold turns at h
    cases e : turn1 os a left with
    | ret r' =>
      rw [e] at h tr
      cases h
      obtain ⟨ρ, h1, h2⟩ := tr
      exact ⟨ρ, for_rt g h1, h2⟩
    | go a' left' =>
      rw [e] at h tr
      have hl := turn1_le e
      obtain ⟨fl, dt', kd', st', nu', ma', sc', la', sg', h1, h2⟩ := tr
      obtain ⟨ρ, i1, i2⟩ := ft_loop ho xs (some x) a' left' dt' kd' st' nu' ma' sc' la' sg' hl h
      rcases h2 with rfl | rfl
      · exact ⟨ρ, (for_cons g h1).trans i1, i2⟩
      · exact ⟨ρ, (for_ct g h1).trans i1, i2⟩
def FirstOk (g : G) : Prop := ∀ (os : List Int) (r : Option Nat), os.all oct = true → turns os 4000 0 1 = some r → g [.val (.tup (os.map PV.int))] = .ok (.val (optP r), [none])
theorem law_first_ok : FirstOk (stepT C t).law_first := fun os r ho h => by
  have e0 : (stepT C t).law_first = runF 12 (b_law_first C t) := rfl
  rw [e0]
  have r1 : mRng rng1 (mACons (mK (.int 4000)) mANil) (fE os none 0 1 none none none none none none none none) = .ok (rangeOf 0 4000, fE os none 0 1 none none none none none none none none) := rng1_of (n := 4000) rfl (by decide)
  have r2 : (rangeOf 0 4000).length = 4000 := by simp [rangeOf]
  rw [← r2] at h
  obtain ⟨ρ, h1, h2⟩ := ft_loop ho (rangeOf 0 4000) none 0 1 none none none none none none none none (Nat.zero_le _) h
  refine (run_rt (r := .val (optP r)) (ρ1 := ρ) [some (.val (.tup (os.map PV.int))), none, none, none, none, none, none, none, none, none, none, none] rfl ?_ rfl).trans (by rw [show ([AV.val (PV.tup (os.map PV.int))] : List AV).length = 1 from rfl, h2])
  refine (seq_nx (ρ1 := fE os none 0 1 none none none none none none none none) (asgt_of (v := .tup [.int 0, .int 1]) rfl rfl)).trans ?_
  exact seq_rt ((mfor_of r1).trans h1)
theorem first_T (n : Nat) : FirstOk (T C (n + 1)).law_first := law_first_ok
end K81

set_option Elab.async false
set_option linter.all false
set_option maxRecDepth 100000
set_option exponentiation.threshold 100000
namespace K81
open PySem Pu
/-! ### what is read is what is written -/
theorem drop_at {os : List Int} {a : Nat} {i : Int} (h : os[a]? = some i) : os.drop a = i :: os.drop (a + 1) := by
  obtain ⟨hl, e⟩ := List.getElem?_eq_some_iff.mp h
  rw [List.drop_eq_getElem_cons hl, e]
theorem rdN_dg {os : List Int} (ho : os.all oct = true) {most : Option Nat} : ∀ (f a m n s K a' : Nat), rdN os most f a m n s = .ok (K, a') → ∃ k, K = n + s * k ∧ os.drop a = dg k ++ os.drop a' ∧ k < 128 ^ f ∧ (0 < m → 0 < k)
  | 0, a, m, n, s, K, a', h => by cases h
  | f + 1, a, m, n, s, K, a', h => by
    unfold rdN at h
    cases hi : os[a]? with
    | none => rw [hi] at h; cases h
    | some j =>
      obtain ⟨i, rfl, hk⟩ := oct_nat ho hi
      have hd := drop_at hi
      rw [hi] at h
      dsimp only at h
      rw [Int.toNat_natCast] at h
      have p1 : 0 < 128 ^ f := Nat.pow_pos (by decide)
      split at h
      · rename_i c
        split at h
        · cases h
        · rename_i c2
          cases h
          refine ⟨i, by rw [Nat.mod_eq_of_lt (by omega), Nat.mul_comm], ?_, by rw [Nat.pow_succ]; omega, fun hm => ?_⟩
          · rw [hd, dg_small (by omega)]; rfl
          · by_cases c0 : i = 0
            · exfalso
              apply c2
              subst c0
              rw [decide_eq_true hm]
              rfl
            · omega
      · rename_i c
        obtain ⟨k, h1, h2, h3, h4⟩ := rdN_dg ho f _ _ _ _ _ _ h
        have h5 := h4 (by omega)
        refine ⟨i % 128 + 128 * k, ?_, ?_, by rw [Nat.pow_succ]; omega, fun _ => by omega⟩
        · rw [h1, Nat.mul_add, Nat.mul_comm (i % 128) s, Nat.mul_assoc, Nat.add_assoc]
        · rw [dg_big (by omega), hd, h2, show (i % 128 + 128 * k) / 128 = k by omega, show (i % 128 + 128 * k) % 128 + 128 = i by omega]
          rfl
theorem rdD_dg {os : List Int} (ho : os.all oct = true) {most : Option Nat} {a k a' : Nat} (h : rdD os most a = .ok (k, a')) : os.drop a = dg k ++ os.drop a' ∧ k < 128 ^ 950 := by
  obtain ⟨k', h1, h2, h3, _⟩ := rdN_dg ho _ _ _ _ _ _ _ h
  rw [Nat.zero_add, Nat.one_mul] at h1
  subst h1
  exact ⟨h2, h3⟩
theorem rdS_dg {os : List Int} (ho : os.all oct = true) : ∀ (n a a' : Nat) (l : List Nat), rdS os n a = .ok (l, a') → os.drop a = l.map (fun (c : Nat) => (c : Int)) ++ os.drop a' ∧ (l.all fun (c : Nat) => isSign (c : Int)) = true
  | 0, a, a', l, h => by cases h; exact ⟨rfl, rfl⟩
  | n + 1, a, a', l, h => by
    unfold rdS at h
    cases hi : os[a]? with
    | none => rw [hi] at h; cases h
    | some j =>
      obtain ⟨i, rfl, hk⟩ := oct_nat ho hi
      have hd := drop_at hi
      rw [hi] at h
      dsimp only at h
      split at h
      · rename_i c
        cases hr : rdS os n (a + 1) with
        | error e => rw [hr] at h; cases h
        | ok q =>
          obtain ⟨l', a2⟩ := q
          rw [hr] at h
          cases h
          obtain ⟨h1, h2⟩ := rdS_dg ho n (a + 1) _ _ hr
          rw [hd, h1, Int.toNat_natCast, List.all_cons, c, h2]
          exact ⟨rfl, rfl⟩
      · cases h
/-! ### the limits -/
def hb : List Int → Nat
  | [] => 50000
  | j :: _ => if j < 128 then 127 else 50000
def wt : List Int → Nat
  | [] => 0
  | i :: r => (if i = 4 then hb r else 0) + wt r
def c4 : List Int → Nat
  | [] => 0
  | i :: r => (if i = 4 then 1 else 0) + c4 r
theorem wt_drop : ∀ (l : List Int) (n : Nat), wt (l.drop n) ≤ wt l
  | l, 0 => Nat.le_refl _
  | [], n + 1 => Nat.le_refl _
  | i :: r, n + 1 => by
    have := wt_drop r n
    show wt (r.drop n) ≤ (if i = 4 then hb r else 0) + wt r
    omega
theorem c4_drop : ∀ (l : List Int) (n : Nat), c4 (l.drop n) ≤ c4 l
  | l, 0 => Nat.le_refl _
  | [], n + 1 => Nat.le_refl _
  | i :: r, n + 1 => by
    have := c4_drop r n
    show c4 (r.drop n) ≤ (if i = 4 then 1 else 0) + c4 r
    omega
theorem wt_le {os : List Int} {a a' : Nat} (h : a ≤ a') : wt (os.drop a') ≤ wt (os.drop a) := by
  have := wt_drop (os.drop a) (a' - a)
  rw [List.drop_drop, show a + (a' - a) = a' by omega] at this
  exact this
theorem c4_le {os : List Int} {a a' : Nat} (h : a ≤ a') : c4 (os.drop a') ≤ c4 (os.drop a) := by
  have := c4_drop (os.drop a) (a' - a)
  rw [List.drop_drop, show a + (a' - a) = a' by omega] at this
  exact this
theorem rdD_hb {os : List Int} (ho : os.all oct = true) {a k a' : Nat} (h : rdD os (some 50000) a = .ok (k, a')) : k ≤ hb (os.drop a) := by
  have bd := (rdD_le h).2.2 50000 rfl
  unfold rdD rdN at h
  cases hi : os[a]? with
  | none => rw [hi] at h; cases h
  | some j =>
    obtain ⟨i, rfl, hk⟩ := oct_nat ho hi
    rw [drop_at hi]
    rw [hi] at h
    dsimp only at h
    show k ≤ if (i : Int) < 128 then 127 else 50000
    by_cases c : (i : Int) < 128
    · rw [if_pos c] at h ⊢
      split at h
      · cases h
      · cases h
        rw [Int.toNat_natCast]
        omega
    · rw [if_neg c]
      exact bd
def Lim (os : List Int) (a p f : Nat) : Prop := p + wt (os.drop a) ≤ 450000 ∧ c4 (os.drop a) ≤ f
/-- what a reading says to _law_first -/
def Said (os : List Int) (left a p f : Nat) (r : VR) : Prop := match r with
  | .error e => ∀ M, os.length - a + 1 ≤ M → turns os M a (left + 1) = some (some e)
  | .ok (v, a', p') => p' + wt (os.drop a') ≤ p + wt (os.drop a) ∧ a < a' ∧ a' ≤ os.length ∧ (∃ n, n ≤ a' - a ∧ ∀ M, turns os (n + M) a (left + 1) = turns os M a' left) ∧ os.drop a = enc v ++ os.drop a' ∧ okV f v = true ∧ cnt v ≤ a' - a
def SaidL (os : List Int) (left k a p f : Nat) (r : Except Nat (List PV × Nat × Nat)) : Prop := match r with
  | .error e => ∀ M, os.length - a + 1 ≤ M → turns os M a (left + k) = some (some e)
  | .ok (vs, a', p') => p' + wt (os.drop a') ≤ p + wt (os.drop a) ∧ a ≤ a' ∧ a' ≤ os.length ∧ (∃ n, n ≤ a' - a ∧ ∀ M, turns os (n + M) a (left + k) = turns os M a' left) ∧ os.drop a = encs vs ++ os.drop a' ∧ okVs f vs = true ∧ cnts vs ≤ a' - a ∧ vs.length = k
theorem said_list {os : List Int} {f : Nat} (h : ∀ left a p, a ≤ os.length → Lim os a p f → Said os left a p f (rdV os f a p)) : ∀ (k left a p : Nat), a ≤ os.length → Lim os a p f → SaidL os left k a p f (rdL (rdV os f) k a p)
  | 0, left, a, p, ha, hl => ⟨Nat.le_refl _, Nat.le_refl _, ha, ⟨0, Nat.zero_le _, fun M => by rw [Nat.zero_add]; rfl⟩, rfl, by unfold okVs; rfl, Nat.zero_le _, rfl⟩
  | k + 1, left, a, p, ha, hl => by
    unfold rdL
    have h1 := h (left + k) a p ha hl
    have el : left + (k + 1) = left + k + 1 := by omega
    cases e1 : rdV os f a p with
    | error e =>
      rw [e1] at h1
      intro M hM
      rw [el]
      exact h1 M hM
    | ok q =>
      obtain ⟨v, a1, p1⟩ := q
      rw [e1] at h1
      obtain ⟨b1, b2, b3, ⟨n, b4, b5⟩, b6, b7, b8⟩ := h1
      have hc := c4_le (os := os) (Nat.le_of_lt b2)
      have h2 := said_list h k left a1 p1 b3 ⟨by have := hl.1; omega, by have := hl.2; omega⟩
      dsimp only
      cases e2 : rdL (rdV os f) k a1 p1 with
      | error e =>
        rw [e2] at h2
        intro M hM
        have h3 := h2 (M - n) (by omega)
        rw [← b5, show n + (M - n) = M by omega] at h3
        rw [el]
        exact h3
      | ok q =>
        obtain ⟨vs, a2, p2⟩ := q
        rw [e2] at h2
        obtain ⟨d1, d2, d3, ⟨n2, d4, d5⟩, d6, d7, d8, d9⟩ := h2
        refine ⟨by omega, by omega, d3, ⟨n + n2, by omega, fun M => by rw [el, Nat.add_assoc, b5, d5]⟩, ?_, ?_, ?_, ?_⟩
        · show _ = (enc v ++ encs vs) ++ _
          rw [b6, d6, List.append_assoc]
        · unfold okVs
          rw [b7, d7]
          rfl
        · show cnt v + cnts vs ≤ _
          omega
        · rw [List.length_cons, d9]
theorem turns_ret {os : List Int} {a left : Nat} {r : Option Nat} (h : turn1 os a left = .ret r) {M : Nat} (hM : 1 ≤ M) : turns os M a left = some r := by
  obtain ⟨N, rfl⟩ : ∃ N, M = N + 1 := ⟨M - 1, by omega⟩
  unfold turns
  rw [h]
theorem turns_go {os : List Int} {a left a' left' : Nat} (h : turn1 os a left = .go a' left') (M : Nat) : turns os (1 + M) a left = turns os M a' left' := by
  rw [Nat.add_comm]
  show (match turn1 os a left with | .ret r => some r | .go a' left' => turns os M a' left') = _
  rw [h]
theorem said_aux (os : List Int) (ho : os.all oct = true) (f : Nat) (ih : ∀ f', f = f' + 1 → ∀ left a p, a ≤ os.length → Lim os a p f' → Said os left a p f' (rdV os f' a p)) (left a p : Nat) (ha : a ≤ os.length) (hl : Lim os a p f) : Said os left a p f (rdV os f a p) := by
  rw [rdV_eq]
  unfold rdK
  cases hi : os[a]? with
  | none =>
    have e : turn1 os a (left + 1) = .ret (some a) := by
      unfold turn1
      rw [if_neg (by omega), hi]
    exact fun M hM => turns_ret e (by omega)
  | some j =>
    obtain ⟨i, rfl, hk⟩ := oct_nat ho hi
    have hla := (List.getElem?_eq_some_iff.mp hi).1
    have hd := drop_at hi
    dsimp only
    by_cases c6 : (6 : Int) < i
    · rw [if_pos c6]
      have e : turn1 os a (left + 1) = .ret (some a) := by
        unfold turn1
        rw [if_neg (by omega), hi]
        dsimp only
        rw [if_pos c6]
      exact fun M hM => turns_ret e (by omega)
    rw [if_neg c6]
    have w1 : wt (os.drop (a + 1)) ≤ wt (os.drop a) := wt_le (Nat.le_succ a)
    have k1 : c4 (os.drop (a + 1)) ≤ c4 (os.drop a) := c4_le (Nat.le_succ a)
    -- the plain values
    have plain : ∀ (v : PV) (b : Int), (i : Int) = b → (b = 0 ∨ b = 5 ∨ b = 6) → enc v = [b] → okV f v = true → cnt v = 1 → Said os left a p f (.ok (v, a + 1, p)) := fun v b eb hb he hv hc => by
      have e : turn1 os a (left + 1) = .go (a + 1) left := by
        unfold turn1
        rw [if_neg (by omega), hi]
        dsimp only
        rw [if_neg c6, if_pos (by rw [eb]; exact hb)]
        rfl
      exact ⟨by omega, by omega, hla, ⟨1, by omega, fun M => turns_go e M⟩, by rw [he, hd, eb]; rfl, hv, by omega⟩
    -- a number
    have num : ∀ (most : Option Nat), mostK i = most → ¬ ((i : Int) = 0 ∨ (i : Int) = 5 ∨ (i : Int) = 6) → (∀ e, rdD os most (a + 1) = .error e → ∀ M, os.length - a + 1 ≤ M → turns os M a (left + 1) = some (some e)) := fun most hm hn e he M hM => by
      refine turns_ret ?_ (by omega)
      unfold turn1
      rw [if_neg (by omega), hi]
      dsimp only
      rw [if_neg c6, if_neg hn, Int.toNat_natCast, hm, he]
    obtain rfl | rfl | rfl | rfl | rfl | rfl | rfl : i = 0 ∨ i = 1 ∨ i = 2 ∨ i = 3 ∨ i = 4 ∨ i = 5 ∨ i = 6 := by omega
    · exact plain .non 0 rfl (.inl rfl) rfl (by unfold okV; rfl) rfl
    · show Said os left a p f (match rdD os none (a + 1) with | .error e => .error e | .ok (k, a') => .ok (.int k, a', p))
      cases e : rdD os none (a + 1) with
      | error y => exact num none rfl (by decide) y e
      | ok q =>
        obtain ⟨k, a'⟩ := q
        have bd := rdD_le e
        obtain ⟨g1, g2⟩ := rdD_dg ho e
        have tg : turn1 os a (left + 1) = .go a' left := by
          unfold turn1
          rw [if_neg (by omega), hi]
          dsimp only
          rw [if_neg c6, if_neg (by decide), Int.toNat_natCast, show mostK 1 = none from rfl, e]
          rfl
        have w2 := wt_le (os := os) (show a ≤ a' by omega)
        refine ⟨by omega, by omega, bd.2.1, ⟨1, by omega, fun M => turns_go tg M⟩, ?_, ?_, by show 1 ≤ _; omega⟩
        · have ee : enc (.int (k : Int)) = 1 :: dg k := by unfold enc; rw [if_pos (by omega), Int.toNat_natCast]
          rw [ee, hd, g1]
          rfl
        · have e950 : ((128 ^ 950 : Nat) : Int) = 128 ^ 950 := by simp
          unfold okV
          rw [← e950]
          generalize (128 ^ 950 : Nat) = B at g2 ⊢
          rw [Bool.and_eq_true]
          exact ⟨decide_eq_true (by omega), decide_eq_true (by omega)⟩
    · show Said os left a p f (match rdD os none (a + 1) with | .error e => .error e | .ok (k, a') => .ok (.int (-(k : Int) - 1), a', p))
      cases e : rdD os none (a + 1) with
      | error y => exact num none rfl (by decide) y e
      | ok q =>
        obtain ⟨k, a'⟩ := q
        have bd := rdD_le e
        obtain ⟨g1, g2⟩ := rdD_dg ho e
        have tg : turn1 os a (left + 1) = .go a' left := by
          unfold turn1
          rw [if_neg (by omega), hi]
          dsimp only
          rw [if_neg c6, if_neg (by decide), Int.toNat_natCast, show mostK 2 = none from rfl, e]
          rfl
        have w2 := wt_le (os := os) (show a ≤ a' by omega)
        refine ⟨by omega, by omega, bd.2.1, ⟨1, by omega, fun M => turns_go tg M⟩, ?_, ?_, by show 1 ≤ _; omega⟩
        · have ee : enc (.int (-(k : Int) - 1)) = 2 :: dg k := by
            unfold enc
            rw [if_neg (by omega), show (-(-(k : Int) - 1) - 1).toNat = k by omega]
          rw [ee, hd, g1]
          rfl
        · have e950 : ((128 ^ 950 : Nat) : Int) = 128 ^ 950 := by simp
          unfold okV
          rw [← e950]
          generalize (128 ^ 950 : Nat) = B at g2 ⊢
          rw [Bool.and_eq_true]
          exact ⟨decide_eq_true (by omega), decide_eq_true (by omega)⟩
    · show Said os left a p f (match rdD os (some 20000) (a + 1) with | .error e => .error e | .ok (k, a') => match rdS os k a' with | .error e => .error e | .ok (l, a2) => .ok (.str ⟨l.toArray⟩, a2, p))
      cases e : rdD os (some 20000) (a + 1) with
      | error y => exact num (some 20000) rfl (by decide) y e
      | ok q =>
        obtain ⟨k, a'⟩ := q
        have bd := rdD_le e
        obtain ⟨g1, g2⟩ := rdD_dg ho e
        have hk2 := bd.2.2 20000 rfl
        dsimp only
        have tg : turn1 os a (left + 1) = (match rdS os k a' with | .error e => .ret (some e) | .ok (_, a2) => .go a2 left) := by
          unfold turn1
          rw [if_neg (by omega), hi]
          dsimp only
          rw [if_neg c6, if_neg (by decide), Int.toNat_natCast, show mostK 3 = some 20000 from rfl, e]
          rfl
        cases e2 : rdS os k a' with
        | error y => rw [e2] at tg; exact fun M hM => turns_ret tg (by omega)
        | ok q =>
          obtain ⟨l, a2⟩ := q
          rw [e2] at tg
          have b2 := rdS_le _ _ _ _ e2 bd.2.1
          obtain ⟨s1, s2⟩ := rdS_dg ho _ _ _ _ e2
          have w2 := wt_le (os := os) (show a ≤ a2 by omega)
          have hll : (⟨l.toArray⟩ : Str).length = k := by show l.toArray.size = k; simp [b2.2.2]
          refine ⟨by omega, by omega, b2.2.1, ⟨1, by omega, fun M => turns_go tg M⟩, ?_, ?_, by show 1 ≤ _; omega⟩
          · show _ = (3 :: (dg (⟨l.toArray⟩ : Str).length ++ l.map fun (c : Nat) => (c : Int))) ++ _
            rw [hll, hd, g1, s1, List.cons_append, List.append_assoc]
            rfl
          · unfold okV
            rw [Bool.and_eq_true, hll]
            exact ⟨decide_eq_true (by omega), s2⟩
    · have hwt : wt (os.drop a) = hb (os.drop (a + 1)) + wt (os.drop (a + 1)) := by rw [hd]; rfl
      have hct : c4 (os.drop a) = 1 + c4 (os.drop (a + 1)) := by rw [hd]; rfl
      match f, ih, hl with
      | 0, ih, hl => have := hl.2; omega
      | f + 1, ih, hl =>
        have ih := ih f rfl
        have em : min 50000 (500000 - p) = 50000 := by have := hl.1; omega
        show Said os left a p (f + 1) (match rdD os (some (min 50000 (500000 - p))) (a + 1) with
          | .error e => .error e
          | .ok (k, a') => match rdL (rdV os f) k a' (p + k) with
            | .error e => .error e
            | .ok (vs, a2, p2) => .ok (.tup vs, a2, p2))
        rw [em]
        cases e : rdD os (some 50000) (a + 1) with
        | error y => exact num (some 50000) rfl (by decide) y e
        | ok q =>
          obtain ⟨k, a'⟩ := q
          have bd := rdD_le e
          obtain ⟨g1, g2⟩ := rdD_dg ho e
          have hk2 := bd.2.2 50000 rfl
          have hhb := rdD_hb ho e
          have tg : turn1 os a (left + 1) = .go a' (left + k) := by
            unfold turn1
            rw [if_neg (by omega), hi]
            dsimp only
            rw [if_neg c6, if_neg (by decide), Int.toNat_natCast, show mostK 4 = some 50000 from rfl, e]
            rfl
          have w2 := wt_le (os := os) (show a + 1 ≤ a' by omega)
          have c2 := c4_le (os := os) (show a + 1 ≤ a' by omega)
          have hl1 := hl.1
          have hl2 := hl.2
          have L := said_list ih k left a' (p + k) bd.2.1 ⟨by omega, by omega⟩
          dsimp only
          cases e2 : rdL (rdV os f) k a' (p + k) with
          | error y =>
            rw [e2] at L
            intro M hM
            have := L (M - 1) (by omega)
            rw [← turns_go tg, show 1 + (M - 1) = M by omega] at this
            exact this
          | ok q =>
            obtain ⟨vs, a2, p2⟩ := q
            rw [e2] at L
            obtain ⟨d1, d2, d3, ⟨n2, d4, d5⟩, d6, d7, d8, d9⟩ := L
            refine ⟨by omega, by omega, d3, ⟨1 + n2, by omega, fun M => by rw [Nat.add_assoc, turns_go tg, d5]⟩, ?_, ?_, ?_⟩
            · show _ = (4 :: (dg vs.length ++ encs vs)) ++ _
              rw [d9, hd, g1, d6, List.cons_append, List.append_assoc]
              rfl
            · unfold okV
              rw [d7, Bool.and_true]
              exact decide_eq_true (by omega)
            · show 1 + cnts vs ≤ _
              omega
    · exact plain (.bl true) 5 rfl (.inr (.inl rfl)) rfl (by unfold okV; rfl) rfl
    · exact plain (.bl false) 6 rfl (.inr (.inr rfl)) rfl (by unfold okV; rfl) rfl
theorem said (os : List Int) (ho : os.all oct = true) : ∀ (f left a p : Nat), a ≤ os.length → Lim os a p f → Said os left a p f (rdV os f a p) := by
  intro f
  induction f with
  | zero =>
    intro left a p ha hl
    exact said_aux os ho 0 (fun f' e => by cases e) left a p ha hl
  | succ f ih =>
    intro left a p ha hl
    exact said_aux os ho (f + 1) (fun f' e => by cases e; exact ih) left a p ha hl
/-- a row of the law: both say the same -/
structure RowOk (os : List Int) : Prop where
  oc : os.all oct = true
  len : os.length ≤ 3000
  w : wt os ≤ 449999
  c : c4 os ≤ 60
theorem agree {os : List Int} (h : RowOk os) : match told os with
    | .error e => turns os 4000 0 1 = some (some e)
    | .ok v => turns os 4000 0 1 = some none ∧ os = enc v ∧ okV 60 v = true ∧ cnt v ≤ os.length := by
  have S := said os h.oc 60 0 0 1 (Nat.zero_le _) ⟨by show 1 + wt os ≤ _; have := h.w; omega, h.c⟩
  have hz := h.len
  unfold told
  cases e : rdV os 60 0 1 with
  | error y => rw [e] at S; exact S 4000 (by omega)
  | ok q =>
    obtain ⟨v, a, p⟩ := q
    rw [e] at S
    obtain ⟨b1, b2, b3, ⟨n, b4, b5⟩, b6, b7, b8⟩ := S
    have t5 := b5 (4000 - n)
    rw [show n + (4000 - n) = 4000 by omega, Nat.zero_add] at t5
    dsimp only
    by_cases c : a < os.length
    · rw [if_pos c]
      show turns os 4000 0 1 = some (some a)
      rw [t5]
      refine turns_ret ?_ (by omega)
      unfold turn1
      rw [if_pos rfl, if_neg (by omega)]
    · rw [if_neg c]
      refine ⟨?_, ?_, b7, by omega⟩
      · rw [t5]
        refine turns_ret ?_ (by omega)
        unfold turn1
        rw [if_pos rfl, if_pos (by omega)]
      · have e1 : os.drop a = [] := List.drop_eq_nil_of_le (by omega)
        rw [e1, List.append_nil] at b6
        exact b6
end K81

set_option Elab.async false
set_option linter.all false
set_option maxRecDepth 100000
set_option exponentiation.threshold 100000
namespace K81
open PySem Pu
/-! ### the octets of drawn values: few fours, light headers -/
def W (l : List Int) : Prop := ∀ r, hb r ≤ 127 → wt (l ++ r) ≤ 127 * c4 l + wt r
def H127 (l : List Int) : Prop := ∀ r, hb (l ++ r) ≤ 127
theorem c4_append : ∀ a b : List Int, c4 (a ++ b) = c4 a + c4 b
  | [], b => by show c4 b = 0 + c4 b; omega
  | i :: a, b => by
    show (if i = 4 then 1 else 0) + c4 (a ++ b) = (if i = 4 then 1 else 0) + c4 a + c4 b
    rw [c4_append a b]
    omega
theorem W_nil : W [] := fun r _ => by show wt r ≤ 127 * 0 + wt r; omega
theorem W_cons {i : Int} {l : List Int} (hi : i ≠ 4) (h : W l) : W (i :: l) := fun r hr => by
  have := h r hr
  show (if i = 4 then hb (l ++ r) else 0) + wt (l ++ r) ≤ 127 * ((if i = 4 then 1 else 0) + c4 l) + wt r
  rw [if_neg hi, if_neg hi]
  omega
theorem W_append {a b : List Int} (ha : W a) (hb' : W b) (hh : ∀ r, hb r ≤ 127 → hb (b ++ r) ≤ 127) : W (a ++ b) := fun r hr => by
  have h1 := ha (b ++ r) (hh r hr)
  have h2 := hb' r hr
  rw [List.append_assoc, c4_append, Nat.mul_add]
  omega
theorem H127_of {i : Int} {l : List Int} (h : i < 128) : H127 (i :: l) := fun r => by
  show (if i < 128 then 127 else 50000) ≤ 127
  rw [if_pos h]
  exact Nat.le_refl _
theorem dg_W : ∀ k : Nat, W (dg k) ∧ c4 (dg k) ≤ 1 := by
  intro k
  induction k using Nat.strongRecOn with
  | _ k ih =>
    by_cases hk : 127 < k
    · rw [dg_big hk]
      obtain ⟨h1, h2⟩ := ih (k / 128) (by omega)
      have ne : ((k % 128 + 128 : Nat) : Int) ≠ 4 := by omega
      refine ⟨W_cons ne h1, ?_⟩
      show (if ((k % 128 + 128 : Nat) : Int) = 4 then 1 else 0) + c4 (dg (k / 128)) ≤ 1
      rw [if_neg ne]
      omega
    · rw [dg_small hk]
      refine ⟨fun r hr => ?_, ?_⟩
      · show (if (k : Int) = 4 then hb r else 0) + wt r ≤ 127 * ((if (k : Int) = 4 then 1 else 0) + 0) + wt r
        split <;> omega
      · show (if (k : Int) = 4 then 1 else 0) + 0 ≤ 1
        split <;> omega
theorem signs_W : ∀ l : List Nat, (∀ c ∈ l, 10 ≤ c ∧ c < 128) → W (l.map fun (c : Nat) => (c : Int)) ∧ c4 (l.map fun (c : Nat) => (c : Int)) = 0 ∧ ∀ r, hb r ≤ 127 → hb ((l.map fun (c : Nat) => (c : Int)) ++ r) ≤ 127
  | [], _ => ⟨W_nil, rfl, fun r h => h⟩
  | c :: l, h => by
    obtain ⟨h1, h2, h3⟩ := signs_W l fun z hz => h z (List.mem_cons_of_mem _ hz)
    have hc := h c (List.mem_cons_self ..)
    have ne : (c : Int) ≠ 4 := by omega
    refine ⟨W_cons ne h1, ?_, fun r _ => H127_of (i := (c : Int)) (by omega) r⟩
    show (if (c : Int) = 4 then 1 else 0) + c4 (l.map fun (c : Nat) => (c : Int)) = 0
    rw [if_neg ne, h2]
def Lg : Nat → Nat
  | 0 => 8
  | d + 1 => 2 + 3 * Lg d
def Kg : Nat → Nat
  | 0 => 1
  | d + 1 => 1 + 3 * Kg d
def Cg : Nat → Nat
  | 0 => 1
  | d + 1 => 1 + 3 * Cg d
theorem Lg_ge : ∀ d, 8 ≤ Lg d
  | 0 => Nat.le_refl _
  | d + 1 => by have := Lg_ge d; show 8 ≤ 2 + 3 * Lg d; omega
theorem Kg_ge : ∀ d, 1 ≤ Kg d
  | 0 => Nat.le_refl _
  | d + 1 => by show 1 ≤ 1 + 3 * Kg d; omega
theorem Cg_ge : ∀ d, 1 ≤ Cg d
  | 0 => Nat.le_refl _
  | d + 1 => by show 1 ≤ 1 + 3 * Cg d; omega
/-- a value as the law draws it -/
structure Drawn (d : Nat) (v : PV) : Prop where
  ok : okV d v = true
  ln : (enc v).length ≤ Lg d
  ct : cnt v ≤ Kg d
  fr : c4 (enc v) ≤ Cg d
  w : W (enc v)
  hd : H127 (enc v)
theorem drawn_int {d : Nat} {i : Int} (h1 : -1000000000 ≤ i) (h2 : i ≤ 1000000000) : Drawn d (.int i) := by
  have lg := Lg_ge d
  have cg := Cg_ge d
  have p : (1000000000 : Nat) < 128 ^ 5 := by decide
  have e950 : ((128 ^ 950 : Nat) : Int) = 128 ^ 950 := by simp
  have big : (1000000000 : Nat) < 128 ^ 950 := Nat.lt_of_lt_of_le p (Nat.pow_le_pow_right (by decide) (by decide))
  refine ⟨?_, ?_, Kg_ge d, ?_, ?_, ?_⟩
  · unfold okV
    rw [← e950]
    generalize (128 ^ 950 : Nat) = B at big ⊢
    rw [Bool.and_eq_true]
    exact ⟨decide_eq_true (by omega), decide_eq_true (by omega)⟩
  · unfold enc
    split
    · have := dg_len 5 i.toNat (by omega)
      rw [List.length_cons]
      omega
    · have := dg_len 5 (-i - 1).toNat (by omega)
      rw [List.length_cons]
      omega
  · unfold enc
    split
    · have := (dg_W i.toNat).2
      show 0 + c4 (dg i.toNat) ≤ _
      omega
    · have := (dg_W (-i - 1).toNat).2
      show 0 + c4 (dg (-i - 1).toNat) ≤ _
      omega
  · unfold enc
    split
    · exact W_cons (by decide) (dg_W _).1
    · exact W_cons (by decide) (dg_W _).1
  · unfold enc
    split
    · exact H127_of (by decide)
    · exact H127_of (by decide)
theorem five_range {c : Nat} (h : five c) : 10 ≤ c ∧ c < 128 := by
  rcases h with rfl | rfl | rfl | rfl | rfl <;> decide
theorem drawn_str {d : Nat} {l : List Nat} (hl : ∀ c ∈ l, five c) (hz : l.length < 5) : Drawn d (.str ⟨l.toArray⟩) := by
  have hlen : (⟨l.toArray⟩ : Str).length = l.length := by simp [Str.length]
  have lg := Lg_ge d
  have cg := Cg_ge d
  obtain ⟨s1, s2, s3⟩ := signs_W l fun c hc => five_range (hl c hc)
  have ee : enc (.str ⟨l.toArray⟩) = 3 :: (dg l.length ++ l.map fun (c : Nat) => (c : Int)) := by
    show 3 :: (dg (⟨l.toArray⟩ : Str).length ++ l.map fun (c : Nat) => (c : Int)) = _
    rw [hlen]
  refine ⟨?_, ?_, Kg_ge d, ?_, ?_, ?_⟩
  · unfold okV
    rw [Bool.and_eq_true, hlen]
    refine ⟨decide_eq_true (by omega), ?_⟩
    rw [List.all_eq_true]
    intro c hc
    exact five_sign (hl c (by simpa using hc))
  · rw [ee, dg_small (by omega)]
    simp
    omega
  · rw [ee]
    have := (dg_W l.length).2
    show 0 + c4 (dg l.length ++ _) ≤ _
    rw [c4_append, s2]
    omega
  · rw [ee]
    exact W_cons (by decide) (W_append (dg_W _).1 s1 s3)
  · rw [ee]
    exact H127_of (by decide)
theorem drawn_plain {d : Nat} {v : PV} {b : Int} (he : enc v = [b]) (hb0 : b ≠ 4) (hb1 : b < 128) (ho : okV d v = true) (hc : cnt v = 1) : Drawn d v := by
  have lg := Lg_ge d
  have cg := Cg_ge d
  refine ⟨ho, by rw [he]; simp; omega, by rw [hc]; exact Kg_ge d, ?_, ?_, ?_⟩
  · rw [he]
    show (if b = 4 then 1 else 0) + 0 ≤ _
    rw [if_neg hb0]
    omega
  · rw [he]; exact W_cons hb0 W_nil
  · rw [he]; exact H127_of hb1
theorem drawns {d : Nat} : ∀ {xs : List PV}, (∀ x ∈ xs, Drawn d x) → okVs d xs = true ∧ (encs xs).length ≤ xs.length * Lg d ∧ cnts xs ≤ xs.length * Kg d ∧ c4 (encs xs) ≤ xs.length * Cg d ∧ W (encs xs) ∧ ∀ r, hb r ≤ 127 → hb (encs xs ++ r) ≤ 127
  | [], _ => ⟨rfl, by simp [encs], by simp [cnts], by simp [encs, c4], W_nil, fun r h => h⟩
  | x :: xs, h => by
    obtain ⟨h1, h2, h3, h4, h5, h6⟩ := drawns (xs := xs) fun y hy => h y (List.mem_cons_of_mem _ hy)
    have g := h x (List.mem_cons_self ..)
    have g2 := g.ln
    have g3 := g.ct
    have g4 := g.fr
    refine ⟨?_, ?_, ?_, ?_, ?_, ?_⟩
    · unfold okVs
      rw [g.ok, h1]
      rfl
    · show (enc x ++ encs xs).length ≤ _
      rw [List.length_append, List.length_cons, Nat.add_mul]
      omega
    · show cnt x + cnts xs ≤ _
      rw [List.length_cons, Nat.add_mul]
      omega
    · show c4 (enc x ++ encs xs) ≤ _
      rw [c4_append, List.length_cons, Nat.add_mul]
      omega
    · exact W_append g.w h5 h6
    · intro r hr
      show hb ((enc x ++ encs xs) ++ r) ≤ 127
      rw [List.append_assoc]
      exact g.hd _
theorem drawn_tup {d : Nat} {xs : List PV} (h : ∀ x ∈ xs, Drawn d x) (hz : xs.length < 4) : Drawn (d + 1) (.tup xs) := by
  obtain ⟨h1, h2, h3, h4, h5, h6⟩ := drawns h
  have l1 : xs.length * Lg d ≤ 3 * Lg d := Nat.mul_le_mul_right _ (by omega)
  have l2 : xs.length * Kg d ≤ 3 * Kg d := Nat.mul_le_mul_right _ (by omega)
  have l3 : xs.length * Cg d ≤ 3 * Cg d := Nat.mul_le_mul_right _ (by omega)
  have ee : enc (.tup xs) = 4 :: (xs.length : Int) :: encs xs := by
    show 4 :: (dg xs.length ++ encs xs) = _
    rw [dg_small (by omega)]
    rfl
  refine ⟨?_, ?_, ?_, ?_, ?_, ?_⟩
  · unfold okV
    rw [h1, decide_eq_true (show xs.length ≤ 50000 by omega)]
    rfl
  · rw [ee, List.length_cons, List.length_cons]
    show _ ≤ 2 + 3 * Lg d
    omega
  · show 1 + cnts xs ≤ 1 + 3 * Kg d
    omega
  · rw [ee]
    show 1 + ((if (xs.length : Int) = 4 then 1 else 0) + c4 (encs xs)) ≤ 1 + 3 * Cg d
    rw [if_neg (by omega)]
    omega
  · rw [ee]
    intro r hr
    have w1 := W_cons (i := (xs.length : Int)) (by omega) h5 r hr
    show hb (((xs.length : Int) :: encs xs) ++ r) + wt (((xs.length : Int) :: encs xs) ++ r) ≤ 127 * (1 + c4 ((xs.length : Int) :: encs xs)) + wt r
    have h127 := H127_of (i := (xs.length : Int)) (l := encs xs) (by omega) r
    omega
  · rw [ee]
    exact H127_of (by decide)
/-! ### rows of one edit -/
theorem wt_last : ∀ (l : List Int), wt l ≤ wt (l ++ [0]) + 50000
  | [] => Nat.zero_le _
  | [i] => by
    show (if i = 4 then 50000 else 0) + 0 ≤ _
    split <;> omega
  | i :: j :: r => by
    have := wt_last (j :: r)
    show (if i = 4 then hb (j :: r) else 0) + wt (j :: r) ≤ (if i = 4 then hb (j :: (r ++ [0])) else 0) + wt ((j :: r) ++ [0]) + 50000
    have e : hb (j :: r) = hb (j :: (r ++ [0])) := rfl
    rw [e]
    omega
theorem hb_le (l : List Int) : hb l ≤ 50000 := by
  cases l with
  | nil => exact Nat.le_refl _
  | cons i r =>
    show (if i < 128 then 127 else 50000) ≤ 50000
    split <;> omega
theorem wt_append : ∀ (a b : List Int), wt (a ++ b) ≤ wt a + wt b
  | [], b => by show wt b ≤ 0 + wt b; omega
  | [i], b => by
    have := hb_le b
    show (if i = 4 then hb b else 0) + wt b ≤ (if i = 4 then 50000 else 0) + 0 + wt b
    split <;> omega
  | i :: j :: r, b => by
    have := wt_append (j :: r) b
    show (if i = 4 then hb (j :: (r ++ b)) else 0) + wt ((j :: r) ++ b) ≤ (if i = 4 then hb (j :: r) else 0) + wt (j :: r) + wt b
    have e : hb (j :: r) = hb (j :: (r ++ b)) := rfl
    rw [e]
    omega
theorem wt_take : ∀ (l : List Int) (n : Nat), wt (l.take n) ≤ wt l + 50000
  | l, 0 => Nat.zero_le _
  | [], n + 1 => Nat.zero_le _
  | [i], n + 1 => by
    rw [List.take_of_length_le (by simp)]
    omega
  | i :: j :: r, 1 => by
    show (if i = 4 then 50000 else 0) + 0 ≤ _
    split <;> omega
  | i :: j :: r, n + 2 => by
    have := wt_take (j :: r) (n + 1)
    show (if i = 4 then hb (j :: r.take n) else 0) + wt ((j :: r).take (n + 1)) ≤ (if i = 4 then hb (j :: r) else 0) + wt (j :: r) + 50000
    have e : hb (j :: r) = hb (j :: r.take n) := rfl
    rw [e]
    omega
theorem wt_one (i : Int) : wt [i] ≤ 50000 := by
  show (if i = 4 then 50000 else 0) + 0 ≤ 50000
  split <;> omega
theorem c4_one (i : Int) : c4 [i] ≤ 1 := by
  show (if i = 4 then 1 else 0) + 0 ≤ 1
  split <;> omega
theorem c4_cut (l : List Int) (n : Nat) : c4 (l.take n) + c4 (l.drop n) = c4 l := by
  rw [← c4_append, List.take_append_drop]
theorem all_take {l : List Int} (h : l.all oct = true) (n : Nat) : (l.take n).all oct = true := by
  rw [List.all_eq_true] at h ⊢
  exact fun x hx => h x (List.mem_of_mem_take hx)
theorem all_drop {l : List Int} (h : l.all oct = true) (n : Nat) : (l.drop n).all oct = true := by
  rw [List.all_eq_true] at h ⊢
  exact fun x hx => h x (List.mem_of_mem_drop hx)
/-- the octets of a whole draw -/
structure Base (os : List Int) : Prop where
  oc : os.all oct = true
  len : os.length ≤ 2000
  w : wt os ≤ 60000
  c : c4 os ≤ 59
theorem base_cut {os : List Int} (B : Base os) (n : Nat) : RowOk (os.take n) :=
  ⟨all_take B.oc n, by rw [List.length_take]; have := B.len; omega, by have := wt_take os n; have := B.w; omega, by have := c4_cut os n; have := B.c; omega⟩
theorem base_put {os : List Int} (B : Base os) (n k : Nat) (hk : n ≤ k) {i : Int} (hi : oct i = true) : RowOk (os.take n ++ ([i] ++ os.drop k)) := by
  have c1 := c4_cut os n
  have c2 := c4_le (os := os) hk
  have c3 := c4_one i
  have w1 := wt_take os n
  have w2 := wt_drop os k
  have w3 := wt_one i
  have w4 := wt_append (os.take n) ([i] ++ os.drop k)
  have w5 := wt_append [i] (os.drop k)
  have bc := B.c
  have bw := B.w
  have bl := B.len
  refine ⟨?_, ?_, by omega, ?_⟩
  · rw [List.all_append, List.all_append, all_take B.oc, all_drop B.oc]
    simp [hi]
  · simp
    omega
  · rw [c4_append, c4_append]
    omega
theorem base_del {os : List Int} (B : Base os) (n k : Nat) (hk : n ≤ k) : RowOk (os.take n ++ os.drop k) := by
  have c1 := c4_cut os n
  have c2 := c4_le (os := os) hk
  have w1 := wt_take os n
  have w2 := wt_drop os k
  have w4 := wt_append (os.take n) (os.drop k)
  have bc := B.c
  have bw := B.w
  have bl := B.len
  refine ⟨?_, ?_, by omega, ?_⟩
  · rw [List.all_append, all_take B.oc, all_drop B.oc]
    rfl
  · simp
    omega
  · rw [c4_append]
    omega
theorem base_end {os : List Int} (B : Base os) {i : Int} (hi : oct i = true) : RowOk (os ++ [i]) := by
  have c3 := c4_one i
  have w3 := wt_one i
  have w4 := wt_append os [i]
  have bc := B.c
  have bw := B.w
  have bl := B.len
  refine ⟨?_, ?_, by omega, ?_⟩
  · rw [List.all_append, B.oc]
    simp [hi]
  · simp
    omega
  · rw [c4_append]
    omega
/-- a tuple of drawn values -/
theorem top_base {xs : List PV} (h : ∀ x ∈ xs, Drawn 2 x) (h0 : 0 < xs.length) (hz : xs.length ≤ 4) : Base (enc (.tup xs)) ∧ 0 < (enc (.tup xs)).length ∧ okV 60 (.tup xs) = true ∧ cnt (.tup xs) ≤ 500000 := by
  obtain ⟨h1, h2, h3, h4, h5, h6⟩ := drawns h
  have l1 : xs.length * Lg 2 ≤ 4 * Lg 2 := Nat.mul_le_mul_right _ hz
  have l2 : xs.length * Kg 2 ≤ 4 * Kg 2 := Nat.mul_le_mul_right _ hz
  have l3 : xs.length * Cg 2 ≤ 4 * Cg 2 := Nat.mul_le_mul_right _ hz
  have e1 : Lg 2 = 80 := rfl
  have e2 : Kg 2 = 13 := rfl
  have e3 : Cg 2 = 13 := rfl
  have ee : enc (.tup xs) = 4 :: (xs.length : Int) :: encs xs := by
    show 4 :: (dg xs.length ++ encs xs) = _
    rw [dg_small (by omega)]
    rfl
  have ok3 : okV 3 (.tup xs) = true := by
    unfold okV
    rw [h1, decide_eq_true (show xs.length ≤ 50000 by omega)]
    rfl
  have hc : c4 (enc (.tup xs)) ≤ 54 := by
    rw [ee]
    show 1 + ((if (xs.length : Int) = 4 then 1 else 0) + c4 (encs xs)) ≤ 54
    split <;> omega
  refine ⟨⟨enc_oct 3 _ ok3, ?_, ?_, by omega⟩, by rw [ee]; simp, okV_up 3 60 _ ok3 (by decide), ?_⟩
  · rw [ee, List.length_cons, List.length_cons]
    omega
  · have w0 := wt_last (enc (.tup xs))
    have w1 : wt (enc (.tup xs) ++ [0]) ≤ 127 * c4 (enc (.tup xs)) + wt [0] := by
      rw [ee]
      have w2 : wt (encs xs ++ [0]) ≤ 127 * c4 (encs xs) + wt [0] := h5 [0] (by decide)
      have w3 : hb (encs xs ++ [0]) ≤ 127 := h6 [0] (by decide)
      have w4 := H127_of (i := (xs.length : Int)) (l := encs xs) (by omega) [0]
      show hb (((xs.length : Int) :: encs xs) ++ [0]) + ((if (xs.length : Int) = 4 then hb (encs xs ++ [0]) else 0) + wt (encs xs ++ [0])) ≤ 127 * (1 + ((if (xs.length : Int) = 4 then 1 else 0) + c4 (encs xs))) + wt [0]
      split <;> omega
    have w2 : wt [0] = 0 := rfl
    omega
  · show 1 + cnts xs ≤ _
    omega
end K81

set_option Elab.async false
set_option linter.all false
set_option maxRecDepth 100000
set_option exponentiation.threshold 100000
namespace K81
open PySem Pu
variable {C : Addr} {t : Tb}
/-! ### a drawn value -/
/-- f(x, ..) that changes x's object, also while its arguments are reckoned -/
theorem call_first2 {w w0 : OB → SV} {j : Nat} {o o0 o' : OB} {ma : MA} {ps : List PV} {g : G} {r : RV} {outs : List (Option OB)} {ρ ρ1 : Pu.Env} (h0 : Hold ρ j w0 o0) (h : Hold ρ1 j w o) (ha : ma ρ = .ok (ps.map RV.val, ρ1)) (hg : g (.own o :: ps.map AV.val) = .ok (r, some o' :: outs)) :
    mCall g (mACons (mBor j) ma) ρ = .ok (r, ρ1.set j (some (w o'))) := by
  have e : mACons (mBor j) ma ρ = .ok (.bor j :: ps.map RV.val, ρ1) := by
    unfold mACons mOp
    rw [h0.bor, Res.bind_ok, Res.bind_ok]
    dsimp only
    rw [ha]
    rfl
  have ea : avsOf ρ1 (.bor j :: ps.map RV.val) = some (.own o :: ps.map AV.val) := by
    show (avOf ρ1 (.bor j)).bind _ = _
    rw [h.av, avs_vals]
    rfl
  unfold mCall
  rw [e, Res.bind_ok]
  dsimp only
  rw [lone_first, if_pos rfl, ea, liftO_some, Res.bind_ok, hg, Res.bind_ok]
  dsimp only
  rw [backs_first h]
abbrev lE (a b : Int) (d : Int) (k : Int) (o : Option SV) : Pu.Env := [some (.par (cupO a b)), some (.val (.int d)), some (.val (.int k)), o]
theorem holdL {a b d k : Int} {o : Option SV} : Hold (lE a b d k o) 0 SV.par (cupO a b) := ⟨rfl, .inl rfl⟩
theorem call_roll (hr : RollOk t.law_roll) (a b d k : Int) (o : Option SV) {m : Nat} (h0 : 0 < m) (hm : m ≤ 1000000000) {mm : M} (hmm : ∀ ρ, mm ρ = .ok (.val (.int m), ρ)) : ∃ (r : Nat) (a' b' : Int), r < m ∧ mCall t.law_roll (mACons (mBor 0) (mACons mm mANil)) (lE a b d k o) = .ok (.val (.int r), lE a' b' d k o) := by
  obtain ⟨r, a', b', h1, h2⟩ := hr a b m h0 hm
  exact ⟨r, a', b', h1, (call_first (ps := [.int m]) holdL (args_cons (hmm _) args_nil) h2).trans rfl⟩
theorem call_some (hs : SomeOk t.law_some) (a b d k : Int) (o : Option SV) {ys : List PV} (h0 : 0 < ys.length) (hm : ys.length ≤ 1000) {ma : MA} (hma : ∀ ρ, ma ρ = .ok (ys.map RV.val, ρ)) : ∃ (y : PV) (a' b' : Int), y ∈ ys ∧ mCall t.law_some (mACons (mBor 0) (mACons (mLst ma) mANil)) (lE a b d k o) = .ok (.val y, lE a' b' d k o) := by
  obtain ⟨y, a', b', h1, h2⟩ := hs a b ys h0 (by omega)
  exact ⟨y, a', b', h1, (call_first (ps := [.lst ys]) holdL (args_consN (lst_of (hma _) (by omega)) args_nil) h2).trans rfl⟩
theorem cup_lc {P : PV → Prop} {e : M} {d k : Int} (he : ∀ (a b : Int) (x : PV), ∃ (y : PV) (a' b' : Int), P y ∧ e (lE a b d k (some (.val x))) = .ok (.val y, lE a' b' d k (some (.val x)))) : ∀ (is : List PV) (a b : Int), ∃ (ys : List PV) (a' b' : Int), ys.length = is.length ∧ (∀ y ∈ ys, P y) ∧
    lcM [3] (mgNm 3) mYes e is (lE a b d k none) = .ok (ys, lE a' b' d k none)
  | [], a, b => ⟨[], a, b, rfl, (fun y h => nomatch h), rfl⟩
  | x :: is, a, b => by
    obtain ⟨y, a1, b1, h1, h2⟩ := he a b x
    obtain ⟨ys, a2, b2, h3, h4, h5⟩ := cup_lc he is a1 b1
    refine ⟨y :: ys, a2, b2, by simp [h3], fun z hz => ?_, ?_⟩
    · rcases List.mem_cons.mp hz with rfl | hz
      · exact h1
      · exact h4 z hz
    · rw [lc_cons (ρ1 := lE a b d k (some (.val x))) (ρ2 := lE a b d k (some (.val x))) (ρ3 := lE a1 b1 d k (some (.val x))) (y := y) rfl rfl h2]
      have e2 : wipeE (lE a1 b1 d k (some (.val x))) [3] = lE a1 b1 d k none := rfl
      rw [e2, h5]
      rfl
def ValOk (g : G) (d : Nat) : Prop := ∀ a b : Int, ∃ (v : PV) (a' b' : Int), Drawn d v ∧ g [.own (cupO a b), .val (.int (d : Int))] = .ok (.val v, [some (cupO a' b'), none])
theorem run_cup {b : MS} {size : Nat} {a0 b0 a1 b1 d k : Int} {v : PV} (hz : size = 4) (h : b [some (.par (cupO a0 b0)), some (.val (.int d)), none, none] = .ok (.rt (.val v), lE a1 b1 d k none)) : runF size b [.own (cupO a0 b0), .val (.int d)] = .ok (.val v, [some (cupO a1 b1), none]) := by
  subst hz
  exact run_rt (avs := [.own (cupO a0 b0), .val (.int d)]) (r := .val v) (ρ1 := lE a1 b1 d k none) [some (.par (cupO a0 b0)), some (.val (.int d)), none, none] rfl h rfl
theorem kEq (a b d k : Int) (o : Option SV) (c : Int) : mTest (mBin pEq (mBor 2) (mK (.int c))) (lE a b d k o) = .ok (k == c, lE a b d k o) := by
  refine test_of (bin_val (a := .int k) (b := .int c) rfl rfl ?_)
  simp [pEq, cmpOk, eqP]
abbrev mInt (t : Tb) : M := mBin pMul (mBin pAdd (mCall t.law_roll (mACons (mBor 0) (mACons (mCall t.law_some (mACons (mBor 0) (mACons (mLst (mACons (mK (.int 3)) (mACons (mK (.int 130)) (mACons (mK (.int 20000)) (mACons (mBin pPow (mK (.int 10)) (mK (.int 9))) mANil))))) mANil))) mANil))) (mK (.int 1))) (mCall t.law_some (mACons (mBor 0) (mACons (mLst (mACons (mK (.int 1)) (mACons (mUn pNeg (mK (.int 1))) mANil))) mANil)))
theorem int_step (hr : RollOk t.law_roll) (hs : SomeOk t.law_some) (a b d k : Int) : ∃ (i a' b' : Int), -1000000000 ≤ i ∧ i ≤ 1000000000 ∧ mInt t (lE a b d k none) = .ok (.val (.int i), lE a' b' d k none) := by
  obtain ⟨y, a1, b1, hy, e1⟩ := call_some hs a b d k none (ys := [.int 3, .int 130, .int 20000, .int P9]) (by decide) (by decide) (ma := mACons (mK (.int 3)) (mACons (mK (.int 130)) (mACons (mK (.int 20000)) (mACons (mBin pPow (mK (.int 10)) (mK (.int 9))) mANil))))
    fun ρ => args_cons rfl (args_cons rfl (args_cons rfl (args_cons (pow9 ρ) args_nil)))
  obtain ⟨m, rfl, m0, m1⟩ : ∃ m : Nat, y = .int (m : Int) ∧ 0 < m ∧ m ≤ 1000000000 := by
    simp only [List.mem_cons, List.not_mem_nil, or_false] at hy
    rcases hy with rfl | rfl | rfl | rfl
    · exact ⟨3, rfl, by decide, by decide⟩
    · exact ⟨130, rfl, by decide, by decide⟩
    · exact ⟨20000, rfl, by decide, by decide⟩
    · exact ⟨1000000000, rfl, by decide, by decide⟩
  obtain ⟨r, a2, b2, hlt, e2⟩ := hr a1 b1 m m0 m1
  have e3 : mCall t.law_roll (mACons (mBor 0) (mACons (mCall t.law_some (mACons (mBor 0) (mACons (mLst (mACons (mK (.int 3)) (mACons (mK (.int 130)) (mACons (mK (.int 20000)) (mACons (mBin pPow (mK (.int 10)) (mK (.int 9))) mANil))))) mANil))) mANil)) (lE a b d k none) = .ok (.val (.int r), lE a2 b2 d k none) :=
    (call_first2 (ps := [.int m]) (w := SV.par) (o := cupO a1 b1) holdL holdL (args_cons e1 args_nil) e2).trans rfl
  obtain ⟨y2, a3, b3, hy2, e4⟩ := call_some hs a2 b2 d k none (ys := [.int 1, .int (-1)]) (by decide) (by decide) (ma := mACons (mK (.int 1)) (mACons (mUn pNeg (mK (.int 1))) mANil)) fun ρ => args_cons rfl (args_cons rfl args_nil)
  have e5 : mBin pAdd (mCall t.law_roll (mACons (mBor 0) (mACons (mCall t.law_some (mACons (mBor 0) (mACons (mLst (mACons (mK (.int 3)) (mACons (mK (.int 130)) (mACons (mK (.int 20000)) (mACons (mBin pPow (mK (.int 10)) (mK (.int 9))) mANil))))) mANil))) mANil))) (mK (.int 1)) (lE a b d k none) = .ok (.val (.int ((r : Int) + 1)), lE a2 b2 d k none) := bin_val (b := .int 1) e3 rfl rfl
  simp only [List.mem_cons, List.not_mem_nil, or_false] at hy2
  rcases hy2 with rfl | rfl
  · exact ⟨((r : Int) + 1) * 1, a3, b3, by omega, by omega, bin_val e5 e4 (mul_small2 (by decide))⟩
  · exact ⟨((r : Int) + 1) * (-1), a3, b3, by omega, by omega, bin_val e5 e4 (mul_small2 (by decide))⟩
theorem value_step_law (hr : RollOk t.law_roll) (hs : SomeOk t.law_some) (hg : SigOk t.law_signs) (d : Nat) (hv : ∀ e, d = e + 1 → ValOk t.law_value e) : ValOk (stepT C t).law_value d := by
  intro a b
  have e0 : (stepT C t).law_value = runF 4 (b_law_value C t) := rfl
  rw [e0]
  obtain ⟨k, a1, b1, hk, e1⟩ : ∃ (k : Nat) (a1 b1 : Int), k < 7 ∧ mCall t.law_roll (mACons (mBor 0) (mACons (mK (.int 7)) mANil)) [some (.par (cupO a b)), some (.val (.int (d : Int))), none, none] = .ok (.val (.int (k : Int)), [some (.par (cupO a1 b1)), some (.val (.int (d : Int))), none, none]) := by
    obtain ⟨r, a', b', h1, h2⟩ := hr a b 7 (by decide) (by decide)
    exact ⟨r, a', b', h1, (call_first (ρ := [some (.par (cupO a b)), some (.val (.int (d : Int))), none, none]) (j := 0) (w := SV.par) (ps := [.int 7]) ⟨rfl, .inl rfl⟩ (args_cons rfl args_nil) h2).trans rfl⟩
  have start : ∀ bb : MS, mSeq (mAsg 2 (mCall t.law_roll (mACons (mBor 0) (mACons (mK (.int 7)) mANil)))) bb [some (.par (cupO a b)), some (.val (.int (d : Int))), none, none] = bb (lE a1 b1 d k none) := fun bb => seq_nx (asg_of e1 rfl)
  have t1 : mTOr (mTest (mBin pLt (mBor 2) (mK (.int 3)))) (mTest (mBin pEq (mBor 1) (mK (.int 0)))) (lE a1 b1 d k none) = .ok (decide ((k : Int) < 3) || ((d : Int) == 0), lE a1 b1 d k none) := by
    have h1 : mTest (mBin pLt (mBor 2) (mK (.int 3))) (lE a1 b1 d k none) = .ok (decide ((k : Int) < 3), lE a1 b1 d k none) := test_of (bin_val (a := .int k) (b := .int 3) rfl rfl rfl)
    have h2 : mTest (mBin pEq (mBor 1) (mK (.int 0))) (lE a1 b1 d k none) = .ok ((d : Int) == 0, lE a1 b1 d k none) := test_of (bin_val (a := .int d) (b := .int 0) rfl rfl (by simp [pEq, cmpOk, eqP]))
    cases hc : decide ((k : Int) < 3) with
    | true => rw [hc] at h1; rw [tor_t h1]; rfl
    | false => rw [hc] at h1; rw [tor_f h1, h2]; rfl
  by_cases c1 : (decide ((k : Int) < 3) || ((d : Int) == 0)) = true
  · rw [c1] at t1
    obtain ⟨i, a2, b2, i1, i2, e2⟩ := int_step hr hs a1 b1 d k
    exact ⟨.int i, a2, b2, drawn_int i1 i2, run_cup rfl ((start _).trans (seq_rt ((ifs_t t1).trans (ret_of e2))))⟩
  · rw [Bool.not_eq_true] at c1
    rw [c1] at t1
    rw [Bool.or_eq_false_iff] at c1
    have hd0 : 0 < d := by
      have := c1.2
      simp at this
      omega
    obtain ⟨e, rfl⟩ : ∃ e, d = e + 1 := ⟨d - 1, by omega⟩
    have s1 : ∀ x b', mSeq (mIfS (mTOr (mTest (mBin pLt (mBor 2) (mK (.int 3)))) (mTest (mBin pEq (mBor 1) (mK (.int 0))))) x mNx) b' (lE a1 b1 ((e + 1 : Nat) : Int) k none) = b' (lE a1 b1 ((e + 1 : Nat) : Int) k none) := fun x b' => seq_nx ((ifs_f t1).trans rfl)
    have t3 := kEq a1 b1 ((e + 1 : Nat) : Int) k none 3
    by_cases c3 : (k : Int) = 3
    · rw [show ((k : Int) == 3) = true by rw [c3]; rfl] at t3
      obtain ⟨n, a2, b2, hn, e2⟩ := call_roll hr a1 b1 ((e + 1 : Nat) : Int) k none (m := 5) (by decide) (by decide) (mm := mK (.int 5)) fun ρ => rfl
      have rg := rng1_of e2 (show n < 1000000000 by omega)
      obtain ⟨ys, a3, b3, l1, l2, l3⟩ := cup_lc (P := fun y => ∃ c : Nat, y = .int c ∧ five c) (e := mCall t.law_some (mACons (mBor 0) (mACons (mLst (mACons (mK (.int 10)) (mACons (mK (.int 32)) (mACons (mK (.int 65)) (mACons (mK (.int 97)) (mACons (mK (.int 126)) mANil)))))) mANil))) (d := ((e + 1 : Nat) : Int)) (k := k) (fun a b x => by
        obtain ⟨y, a', b', hy, e⟩ := call_some hs a b ((e + 1 : Nat) : Int) k (some (.val x)) (ys := [.int 10, .int 32, .int 65, .int 97, .int 126]) (by decide) (by decide) (ma := mACons (mK (.int 10)) (mACons (mK (.int 32)) (mACons (mK (.int 65)) (mACons (mK (.int 97)) (mACons (mK (.int 126)) mANil))))) fun ρ => args_cons rfl (args_cons rfl (args_cons rfl (args_cons rfl (args_cons rfl args_nil))))
        refine ⟨y, a', b', ?_, e⟩
        simp only [List.mem_cons, List.not_mem_nil, or_false] at hy
        rcases hy with rfl | rfl | rfl | rfl | rfl
        · exact ⟨10, rfl, .inl rfl⟩
        · exact ⟨32, rfl, .inr (.inl rfl)⟩
        · exact ⟨65, rfl, .inr (.inr (.inl rfl))⟩
        · exact ⟨97, rfl, .inr (.inr (.inr (.inl rfl)))⟩
        · exact ⟨126, rfl, .inr (.inr (.inr (.inr rfl)))⟩) (rangeOf 0 n) a2 b2
      have ln : ys.length = n := by rw [l1]; simp [rangeOf]
      obtain ⟨cs, hcs, hf⟩ : ∃ cs : List Nat, ys = cs.map (fun (c : Nat) => PV.int c) ∧ ∀ c ∈ cs, five c := by
        clear l1 l3 ln
        induction ys with
        | nil => exact ⟨[], rfl, fun c h => nomatch h⟩
        | cons y ys ih =>
          obtain ⟨cs, h1, h2⟩ := ih fun y hy => l2 y (List.mem_cons_of_mem _ hy)
          obtain ⟨c, rfl, hc⟩ := l2 y (List.mem_cons_self ..)
          refine ⟨c :: cs, by rw [h1]; rfl, fun z hz => ?_⟩
          rcases List.mem_cons.mp hz with rfl | hz
          · exact hc
          · exact h2 z hz
      have lcs : cs.length = n := by rw [← ln, hcs, List.length_map]
      have lc := mlc_of (vs := [3]) rg (by simp [rangeOf]; omega) (show lcM [3] (mgNm 3) mYes _ (rangeOf 0 n) (wipeE (lE a2 b2 ((e + 1 : Nat) : Int) k none) [3]) = _ from l3)
      have hsg := hg cs hf (by omega)
      rw [← hcs] at hsg
      refine ⟨.str ⟨cs.toArray⟩, a3, b3, drawn_str hf (by omega), run_cup (k := (k : Int)) rfl ((start _).trans ((s1 _ _).trans (seq_rt ((ifs_t t3).trans (ret_of ?_)))))⟩
      exact (call_vals (ps := [.lst ys]) (args_consN lc args_nil) hsg).trans rfl
    · rw [show ((k : Int) == 3) = false from beq_eq_false_iff_ne.mpr c3] at t3
      have t4 := kEq a1 b1 ((e + 1 : Nat) : Int) k none 4
      by_cases c4' : (k : Int) = 4
      · rw [show ((k : Int) == 4) = true by rw [c4']; rfl] at t4
        obtain ⟨y, a2, b2, hy, e2⟩ := call_some hs a1 b1 ((e + 1 : Nat) : Int) k none (ys := [.non, .bl true, .bl false]) (by decide) (by decide) (ma := mACons (mK .non) (mACons (mK (.bl true)) (mACons (mK (.bl false)) mANil))) fun ρ => args_cons rfl (args_cons rfl (args_cons rfl args_nil))
        refine ⟨y, a2, b2, ?_, run_cup rfl ((start _).trans ((s1 _ _).trans ((seq_nx ((ifs_f t3).trans rfl)).trans (seq_rt ((ifs_t t4).trans (ret_of e2))))))⟩
        simp only [List.mem_cons, List.not_mem_nil, or_false] at hy
        rcases hy with rfl | rfl | rfl
        · exact drawn_plain (b := 0) rfl (by decide) (by decide) (by unfold okV; rfl) rfl
        · exact drawn_plain (b := 5) rfl (by decide) (by decide) (by unfold okV; rfl) rfl
        · exact drawn_plain (b := 6) rfl (by decide) (by decide) (by unfold okV; rfl) rfl
      · rw [show ((k : Int) == 4) = false from beq_eq_false_iff_ne.mpr c4'] at t4
        obtain ⟨n, a2, b2, hn, e2⟩ := call_roll hr a1 b1 ((e + 1 : Nat) : Int) k none (m := 4) (by decide) (by decide) (mm := mK (.int 4)) fun ρ => rfl
        have rg := rng1_of e2 (show n < 1000000000 by omega)
        obtain ⟨ys, a3, b3, l1, l2, l3⟩ := cup_lc (P := Drawn e) (e := mCall t.law_value (mACons (mBor 0) (mACons (mBin pSub (mBor 1) (mK (.int 1))) mANil))) (d := ((e + 1 : Nat) : Int)) (k := k) (fun a b x => by
          obtain ⟨y, a', b', hy, h2⟩ := hv e rfl a b
          refine ⟨y, a', b', hy, (call_first (ps := [.int (e : Int)]) holdL (args_cons (bin_val (a := .int ((e + 1 : Nat) : Int)) (b := .int 1) (r := .val (.int e)) rfl rfl ?_) args_nil) h2).trans rfl⟩
          show some (RV.val (PV.int (((e + 1 : Nat) : Int) - 1))) = _
          rw [show (((e + 1 : Nat) : Int) - 1) = (e : Int) by omega]) (rangeOf 0 n) a2 b2
        have ln : ys.length = n := by rw [l1]; simp [rangeOf]
        have lc := mlc_of (vs := [3]) rg (by simp [rangeOf]; omega) (show lcM [3] (mgNm 3) mYes _ (rangeOf 0 n) (wipeE (lE a2 b2 ((e + 1 : Nat) : Int) k none) [3]) = _ from l3)
        exact ⟨.tup ys, a3, b3, drawn_tup l2 (by omega), run_cup (k := (k : Int)) rfl ((start _).trans ((s1 _ _).trans ((seq_nx ((ifs_f t3).trans rfl)).trans ((seq_nx ((ifs_f t4).trans rfl)).trans (ret_of ((app1n lc rfl).trans rfl))))))⟩
theorem value_T : ∀ (d j : Nat), ValOk (T C (d + j + 3)).law_value d
  | 0, j => value_step_law (C := C) (t := T C (0 + j + 2)) (roll_T _) (some_T (0 + j)) (sig_T _) 0 fun e h => by omega
  | d + 1, j => by
    have e : d + 1 + j + 3 = (d + j + 3) + 1 := by omega
    rw [e]
    exact value_step_law (C := C) (t := T C (d + j + 3)) (roll_T _) (some_T (d + j + 1)) (sig_T _) (d + 1) fun e' h => by
      have h2 : d = e' := by omega
      rw [← h2]
      exact value_T d j
/-- the octets of a value -/
theorem write_T (j : Nat) (v : PV) (ok : okV 60 v = true) (hz : (enc v).length ≤ 16777216) (hc : cnt v ≤ 500000) : (T C (j + 63)).write_octets [.val v] = .ok (.val (.tup ((enc v).map PV.int)), [none]) := by
  have h1 := counted_T (C := C) 60 j 0 v ok rfl hc
  have h2 := laid_T (C := C) 60 j v ok hz
  rw [show 60 + j + 2 = j + 62 by omega] at h1 h2
  refine runX_rt (r := .val (.tup ((enc v).map PV.int))) (ρ1 := [some (.val v)]) [some (.val v)] rfl ?_ rfl
  refine (seq_nx (ρ1 := [some (.val v)]) ((ifs_f (ρ1 := [some (.val v)]) ?_).trans rfl)).trans ?_
  · refine test_of (bin_val (a := .int (cnt v)) (b := .non) (ρ1 := [some (.val v)]) (call2 (p := v) (q := .int 0) (ρ1 := [some (.val v)]) rfl rfl h1) rfl rfl)
  · exact ret_of (app1n (call1 (p := v) rfl h2) rfl)
end K81

set_option Elab.async false
set_option linter.all false
set_option maxRecDepth 100000
set_option exponentiation.threshold 100000
namespace K81
open PySem Pu
variable {C : Addr} {t : Tb}
/-! ### one turn of the law -/
abbrev zr_0 (t : Tb) : MS := (mPar [11, 4] (mFCons (mCall t.law_first (mACons (mNm 10) mANil)) (mFCons (mCall t.law_told (mACons (mNm 10) mANil)) mFNil)))
abbrev zr_1 (t : Tb) : MS := (mIfS (mTest (mBin pIs (mBor 11) (mK .non)))
    (mIfS (mTOr (mTNot (mTruth (mBin pIx (mBor 4) (mK (.int 0))))) (mTNot (mTruth (mCall t.law_like (mACons (mCall (G.nox t.write_octets) (mACons (mBin pIx (mBor 4) (mK (.int 1))) mANil)) (mACons (mNm 10) mANil))))))
    (mRet (mK (.bl false)))
    mNx)
    (mIfS (mTNot (mTruth (mCall t.law_like (mACons (mNm 4) (mACons (mTup (mACons (mK (.bl false)) (mACons (mNm 11) mANil))) mANil)))))
    (mRet (mK (.bl false)))
    mNx))
abbrev zr (t : Tb) : MS := mSeq (zr_0 t) (zr_1 t)
abbrev zt_0 (t : Tb) : MS := (mAsg 6 (mCall (G.nox t.write_octets) (mACons (mApp fTuple (mACons (mLc [8] (mRng rng1 (mACons (mBin pAdd (mK (.int 1)) (mCall t.law_roll (mACons (mBor 1) (mACons (mK (.int 4)) mANil)))) mANil)) (mgNm 8) mYes (mCall t.law_value (mACons (mBor 1) (mACons (mK (.int 2)) mANil)))) mANil)) mANil)))
abbrev zt_1 (t : Tb) : MS := (mAsg 7 (mCall t.law_roll (mACons (mBor 1) (mACons (mApp fLen (mACons (mBor 6) mANil)) mANil))))
abbrev zt_2 (t : Tb) : MS := (mAsg 8 (mCall t.law_some (mACons (mBor 1) (mACons (mLst (mACons (mK (.int 0)) (mACons (mK (.int 1)) (mACons (mK (.int 2)) (mACons (mK (.int 3)) (mACons (mK (.int 4)) (mACons (mK (.int 5)) (mACons (mK (.int 6)) (mACons (mK (.int 7)) (mACons (mK (.int 127)) (mACons (mK (.int 128)) (mACons (mK (.int 129)) (mACons (mK (.int 255)) (mACons (mCall t.law_roll (mACons (mBor 1) (mACons (mK (.int 256)) mANil))) mANil)))))))))))))) mANil))))
abbrev zt_3 (t : Tb) : MS := (mAsg 9 (mLst (mACons (mSl (mBor 6) mNoPart (mPart (mNm 7))) (mACons (mBin pAdd (mBin pAdd (mSl (mBor 6) mNoPart (mPart (mNm 7))) (mTup (mACons (mNm 8) mANil))) (mSl (mBor 6) (mPart (mBin pAdd (mBor 7) (mK (.int 1)))) mNoPart)) (mACons (mBin pAdd (mBin pAdd (mSl (mBor 6) mNoPart (mPart (mNm 7))) (mTup (mACons (mNm 8) mANil))) (mSl (mBor 6) (mPart (mNm 7)) mNoPart)) mANil)))))
abbrev zt_4 (t : Tb) : MS := (mAsg 9 (mBin pAdd (mBor 9) (mLst (mACons (mBin pAdd (mSl (mBor 6) mNoPart (mPart (mNm 7))) (mSl (mBor 6) (mPart (mBin pAdd (mBor 7) (mK (.int 1)))) mNoPart)) (mACons (mBin pAdd (mBor 6) (mTup (mACons (mNm 8) mANil))) mANil)))))
abbrev zt (t : Tb) : MS := mSeq (zt_0 t) (mSeq (zt_1 t) (mSeq (zt_2 t) (mSeq (zt_3 t) (mSeq (zt_4 t) (mFor (mSrc (mNm 9)) (mgNm 10) (zr t))))))
structure TurnOk (t : Tb) : Prop where
  roll : RollOk t.law_roll
  some : SomeOk t.law_some
  value : ValOk t.law_value 2
  write : ∀ v, Good v → t.write_octets [.val v] = .ok (.val (.tup ((enc v).map PV.int)), [none])
  like : ∀ (n : Nat) (v : PV), n ≤ 64 → lk n v = true → t.law_like [.val v, .val v] = .ok (.val (.bl true), [none, none])
  told : ToldOk t.law_told
  first : FirstOk t.law_first
theorem turn_T (j : Nat) : TurnOk (T C (j + 70)) where
  roll := roll_T (j + 69)
  some := some_T (j + 68)
  value := by
    have := value_T (C := C) 2 (j + 65)
    rw [show 2 + (j + 65) + 3 = j + 70 by omega] at this
    exact this
  write := fun v h => by
    have := write_T (C := C) (j + 7) v h.1 (by have := h.2.1; omega) h.2.2
    rw [show j + 7 + 63 = j + 70 by omega] at this
    exact this
  like := fun n v hn h => by
    have := like_T (C := C) n (68 + j - n) v h hn
    rw [show n + (68 + j - n) + 2 = j + 70 by omega] at this
    exact this
  told := told_T (j + 4)
  first := first_T (j + 69)
abbrev tE (sc : PV) (a b : Int) (tn told oc at_ one : Option PV) (rows : Option SV) (row due : Option PV) : Pu.Env := [some (.val sc), some (.own (cupO a b)), tn.map SV.val, none, told.map SV.val, none, oc.map SV.val, at_.map SV.val, one.map SV.val, rows, row.map SV.val, due.map SV.val, none]
abbrev octT (os : List Int) : PV := .tup (os.map PV.int)
theorem holdT {sc : PV} {a b : Int} {tn told oc at_ one : Option PV} {rows : Option SV} {row due : Option PV} : Hold (tE sc a b tn told oc at_ one rows row due) 1 SV.own (cupO a b) := ⟨rfl, .inr rfl⟩
theorem nox_of {g : G} {as : List AV} {q : RV × List (Option OB)} (h : g as = .ok q) : G.nox g as = .ok q := by
  unfold G.nox
  rw [h]
  rfl
theorem vals_lc (h : TurnOk t) {sc : PV} {tn told oc at_ : Option PV} {rows : Option SV} {row due : Option PV} : ∀ (is : List PV) (a b : Int), ∃ (ys : List PV) (a' b' : Int), ys.length = is.length ∧ (∀ y ∈ ys, Drawn 2 y) ∧
    lcM [8] (mgNm 8) mYes (mCall t.law_value (mACons (mBor 1) (mACons (mK (.int 2)) mANil))) is (tE sc a b tn told oc at_ none rows row due) = .ok (ys, tE sc a' b' tn told oc at_ none rows row due)
  | [], a, b => ⟨[], a, b, rfl, (fun y h => nomatch h), rfl⟩
  | x :: is, a, b => by
    obtain ⟨y, a1, b1, h1, h2⟩ := h.value a b
    obtain ⟨ys, a2, b2, h3, h4, h5⟩ := vals_lc h is a1 b1
    refine ⟨y :: ys, a2, b2, by simp [h3], fun z hz => ?_, ?_⟩
    · rcases List.mem_cons.mp hz with rfl | hz
      · exact h1
      · exact h4 z hz
    · have e1 : mCall t.law_value (mACons (mBor 1) (mACons (mK (.int 2)) mANil)) (tE sc a b tn told oc at_ (some x) rows row due) = .ok (.val y, tE sc a1 b1 tn told oc at_ (some x) rows row due) := (call_first (ps := [.int 2]) holdT (args_cons rfl args_nil) h2).trans rfl
      rw [lc_cons (ρ1 := tE sc a b tn told oc at_ (some x) rows row due) (ρ2 := tE sc a b tn told oc at_ (some x) rows row due) (ρ3 := tE sc a1 b1 tn told oc at_ (some x) rows row due) (y := y) rfl rfl e1]
      have e2 : wipeE (tE sc a1 b1 tn told oc at_ (some x) rows row due) [8] = tE sc a1 b1 tn told oc at_ none rows row due := rfl
      rw [e2, h5]
      rfl
theorem turn_a (h : TurnOk t) (sc : PV) (a b : Int) (tn told oc at_ one : Option PV) (rows : Option SV) (row due : Option PV) : ∃ (os : List Int) (a' b' : Int), Base os ∧ 0 < os.length ∧ zt_0 t (tE sc a b tn told oc at_ one rows row due) = .ok (.nx, tE sc a' b' tn told (some (octT os)) at_ one rows row due) := by
  obtain ⟨r, a1, b1, hr, e1⟩ := h.roll a b 4 (by decide) (by decide)
  have c1 : mCall t.law_roll (mACons (mBor 1) (mACons (mK (.int 4)) mANil)) (tE sc a b tn told oc at_ one rows row due) = .ok (.val (.int r), tE sc a1 b1 tn told oc at_ one rows row due) := (call_first (ps := [.int 4]) holdT (args_cons rfl args_nil) e1).trans rfl
  have c2 : mBin pAdd (mK (.int 1)) (mCall t.law_roll (mACons (mBor 1) (mACons (mK (.int 4)) mANil))) (tE sc a b tn told oc at_ one rows row due) = .ok (.val (.int ((1 + r : Nat) : Int)), tE sc a1 b1 tn told oc at_ one rows row due) := bin_val (a := .int 1) rfl c1 rfl
  have rg := rng1_of c2 (show 1 + r < 1000000000 by omega)
  obtain ⟨ys, a2, b2, l1, l2, l3⟩ := vals_lc h (sc := sc) (tn := tn) (told := told) (oc := oc) (at_ := at_) (rows := rows) (row := row) (due := due) (rangeOf 0 ((1 + r : Nat) : Int)) a1 b1
  have ln : ys.length = 1 + r := by rw [l1]; simp [rangeOf]; omega
  obtain ⟨B, B0, B1, B2⟩ := top_base l2 (by omega) (by omega)
  have lc := mlc_of (vs := [8]) rg (by rw [← l1]; omega) (show lcM [8] (mgNm 8) mYes _ _ (wipeE (tE sc a1 b1 tn told oc at_ one rows row due) [8]) = _ from l3)
  have er : restoreE [8] (tE sc a1 b1 tn told oc at_ one rows row due) (tE sc a2 b2 tn told oc at_ none rows row due) = tE sc a2 b2 tn told oc at_ one rows row due := by cases one <;> rfl
  rw [er] at lc
  have g : Good (.tup ys) := ⟨B1, by have := B.len; omega, B2⟩
  exact ⟨enc (.tup ys), a2, b2, B, B0, asg_of (call1 (p := .tup ys) (app1n lc rfl) (nox_of (h.write _ g))) (by cases oc <;> rfl)⟩
theorem turn_b (h : TurnOk t) (sc : PV) (a b : Int) {os : List Int} (hz : os.length ≤ 2000) (h0 : 0 < os.length) (tn told at_ one : Option PV) (rows : Option SV) (row due : Option PV) : ∃ (n : Nat) (a' b' : Int), n < os.length ∧ zt_1 t (tE sc a b tn told (some (octT os)) at_ one rows row due) = .ok (.nx, tE sc a' b' tn told (some (octT os)) (some (.int (n : Int))) one rows row due) := by
  obtain ⟨r, a1, b1, hr, e1⟩ := h.roll a b os.length h0 (by omega)
  have f1 : mApp fLen (mACons (mBor 6) mANil) (tE sc a b tn told (some (octT os)) at_ one rows row due) = .ok (.val (.int os.length), tE sc a b tn told (some (octT os)) at_ one rows row due) := app1 (a := octT os) rfl (by simp [fLen])
  exact ⟨r, a1, b1, hr, asg_of ((call_first (ps := [.int os.length]) holdT (args_cons f1 args_nil) e1).trans rfl) (by cases at_ <;> rfl)⟩
theorem turn_c (h : TurnOk t) (sc : PV) (a b : Int) (tn told oc at_ one : Option PV) (rows : Option SV) (row due : Option PV) : ∃ (i : Int) (a' b' : Int), oct i = true ∧ zt_2 t (tE sc a b tn told oc at_ one rows row due) = .ok (.nx, tE sc a' b' tn told oc at_ (some (.int i)) rows row due) := by
  obtain ⟨r, a1, b1, hr, e1⟩ := h.roll a b 256 (by decide) (by decide)
  have c1 : mCall t.law_roll (mACons (mBor 1) (mACons (mK (.int 256)) mANil)) (tE sc a b tn told oc at_ one rows row due) = .ok (.val (.int r), tE sc a1 b1 tn told oc at_ one rows row due) := (call_first (ps := [.int 256]) holdT (args_cons rfl args_nil) e1).trans rfl
  have ar := args_cons (m := mK (.int 0)) (ρ := tE sc a b tn told oc at_ one rows row due) rfl (args_cons (m := mK (.int 1)) rfl (args_cons (m := mK (.int 2)) rfl (args_cons (m := mK (.int 3)) rfl (args_cons (m := mK (.int 4)) rfl (args_cons (m := mK (.int 5)) rfl (args_cons (m := mK (.int 6)) rfl (args_cons (m := mK (.int 7)) rfl (args_cons (m := mK (.int 127)) rfl (args_cons (m := mK (.int 128)) rfl (args_cons (m := mK (.int 129)) rfl (args_cons (m := mK (.int 255)) rfl (args_cons c1 args_nil))))))))))))
  obtain ⟨y, a2, b2, hy, e2⟩ := h.some a1 b1 [.int 0, .int 1, .int 2, .int 3, .int 4, .int 5, .int 6, .int 7, .int 127, .int 128, .int 129, .int 255, .int r] (by simp) (by simp)
  obtain ⟨i, rfl, hi⟩ : ∃ i : Int, y = .int i ∧ oct i = true := by
    simp only [List.mem_cons, List.not_mem_nil, or_false] at hy
    rcases hy with rfl | rfl | rfl | rfl | rfl | rfl | rfl | rfl | rfl | rfl | rfl | rfl | rfl
    all_goals first
      | exact ⟨_, rfl, by decide⟩
      | (refine ⟨_, rfl, ?_⟩
         unfold oct
         rw [Bool.and_eq_true]
         exact ⟨decide_eq_true (by omega), decide_eq_true (by omega)⟩)
  refine ⟨i, a2, b2, hi, asg_of ((call_first2 (w0 := SV.own) (w := SV.own) (o := cupO a1 b1) (ps := [_]) holdT (holdT (a := a1) (b := b1)) (args_consN (lst_of ar (by simp)) args_nil) e2).trans rfl) (by cases one <;> rfl)⟩
/-! ### cuts -/
theorem sl_gen {m : M} {ml mh : MO} {ρ : Pu.Env} {xs : List PV} {lo hi : Option Int} (h : m ρ = .ok (.val (.tup xs), ρ)) (hl : ml ρ = .ok (lo, ρ)) (hh : mh ρ = .ok (hi, ρ)) : mSl m ml mh ρ = .ok (.val (.tup (cutL xs lo hi)), ρ) := by
  have e : mOp m ρ = .ok (.val (.tup xs), ρ) := by unfold mOp; rw [h]; rfl
  unfold mSl
  rw [e, Res.bind_ok]
  dsimp only
  rw [hl, Res.bind_ok]
  dsimp only
  rw [hh]
  rfl
theorem part_of {m : M} {ρ : Pu.Env} {i : Int} (h : m ρ = .ok (.val (.int i), ρ)) : mPart m ρ = .ok (some i, ρ) := by
  unfold mPart
  rw [h]
  rfl
theorem cut_take {α : Type} (xs : List α) (j : Nat) (h : j ≤ xs.length) : cutL xs none (some (j : Int)) = xs.take j := by
  unfold cutL
  have e1 : HT.sIx xs.length 0 none = 0 := rfl
  have e2 : HT.sIx xs.length xs.length (some (j : Int)) = j := by rw [HT.sIx_nat, Nat.min_eq_left h]
  rw [e1, e2]
  rfl
theorem cut_drop {α : Type} (xs : List α) (j : Nat) (h : j ≤ xs.length) : cutL xs (some (j : Int)) none = xs.drop j := by
  unfold cutL
  have e1 : HT.sIx xs.length 0 (some (j : Int)) = j := by rw [HT.sIx_nat, Nat.min_eq_left h]
  have e2 : HT.sIx xs.length xs.length none = xs.length := rfl
  rw [e1, e2]
  exact List.take_of_length_le (by rw [List.length_drop]; omega)
theorem cat_tup {m1 m2 : M} {ρ : Pu.Env} {x y : List Int} (h1 : m1 ρ = .ok (.val (octT x), ρ)) (h2 : m2 ρ = .ok (.val (octT y), ρ)) (hz : x.length + y.length ≤ 16777216) : mBin pAdd m1 m2 ρ = .ok (.val (octT (x ++ y)), ρ) := by
  refine bin_val h1 h2 ?_
  unfold pAdd
  dsimp only
  rw [if_pos (szOk_of (by rw [List.length_map, List.length_map]; exact hz)), ← List.map_append]
theorem one_tup {m : M} {ρ : Pu.Env} {i : Int} (h : m ρ = .ok (.val (.int i), ρ)) : mTup (mACons m mANil) ρ = .ok (.val (octT [i]), ρ) := by
  unfold mTup
  rw [args_cons h args_nil, Res.bind_ok]
  rfl
theorem lop_of {m : M} {ρ ρ1 : Pu.Env} {o : OB} (h : m ρ = .ok (.new o, ρ1)) : mOp m ρ = .ok (.val o.pv, ρ1) := by unfold mOp; rw [h]; rfl
theorem bin_bn {f : PV → PV → Option RV} {ma mb : M} {ρ : Pu.Env} {r : RV} {o : OB} {j : Nat} (h1 : mOp ma ρ = .ok (.bor j, ρ)) (h2 : mb ρ = .ok (.new o, ρ)) (hd : (deref ρ (.bor j)).bind (fun a => f a o.pv) = some r) : mBin f ma mb ρ = .ok (r, ρ) := by
  have e := lop_of h2
  unfold mBin
  rw [h1, Res.bind_ok]
  dsimp only
  rw [e, Res.bind_ok]
  cases hq : deref ρ (.bor j) with
  | none => rw [hq] at hd; cases hd
  | some a =>
    rw [hq] at hd
    have hd : f a o.pv = some r := hd
    show (liftO (some a)).bind _ = _
    rw [liftO_some, Res.bind_ok]
    show (liftO (some o.pv)).bind _ = _
    rw [liftO_some, Res.bind_ok, hd]
    rfl
def rows5 (os : List Int) (n : Nat) (i : Int) : List (List Int) := [os.take n, os.take n ++ ([i] ++ os.drop (n + 1)), os.take n ++ ([i] ++ os.drop n), os.take n ++ os.drop (n + 1), os ++ [i]]
theorem rows5_ok {os : List Int} {n : Nat} {i : Int} (B : Base os) (hi : oct i = true) : ∀ r ∈ rows5 os n i, RowOk r := fun r hr => by
  simp only [rows5, List.mem_cons, List.not_mem_nil, or_false] at hr
  rcases hr with rfl | rfl | rfl | rfl | rfl
  · exact base_cut B n
  · exact base_put B n (n + 1) (by omega) hi
  · exact base_put B n n (by omega) hi
  · exact base_del B n (n + 1) (by omega)
  · exact base_end B hi
theorem turn_de (sc : PV) (a b : Int) {os : List Int} (hz : os.length ≤ 2000) {n : Nat} (hn : n < os.length) (i : Int) (tn told : Option PV) (rows : Option SV) (hrw : isPar (tE sc a b tn told (some (octT os)) (some (.int (n : Int))) (some (.int i)) rows none none) 9 = false) (row due : Option PV) (rest : MS) :
    mSeq (zt_3 t) (mSeq (zt_4 t) rest) (tE sc a b tn told (some (octT os)) (some (.int (n : Int))) (some (.int i)) rows row due) = rest (tE sc a b tn told (some (octT os)) (some (.int (n : Int))) (some (.int i)) (some (.own (.lst ((rows5 os n i).map octT)))) row due) := by
  have body : ∀ rows : Option SV, let ρ := tE sc a b tn told (some (octT os)) (some (.int (n : Int))) (some (.int i)) rows row due
      mSl (mBor 6) mNoPart (mPart (mNm 7)) ρ = .ok (.val (octT (os.take n)), ρ) ∧ mSl (mBor 6) (mPart (mBin pAdd (mBor 7) (mK (.int 1)))) mNoPart ρ = .ok (.val (octT (os.drop (n + 1))), ρ) ∧ mSl (mBor 6) (mPart (mNm 7)) mNoPart ρ = .ok (.val (octT (os.drop n)), ρ) ∧ mTup (mACons (mNm 8) mANil) ρ = .ok (.val (octT [i]), ρ) := fun rows => by
    refine ⟨?_, ?_, ?_, one_tup rfl⟩
    · refine (sl_gen (xs := os.map PV.int) (lo := none) (hi := some (n : Int)) rfl rfl (part_of rfl)).trans ?_
      rw [cut_take _ _ (by rw [List.length_map]; omega), ← List.map_take]
    · refine (sl_gen (xs := os.map PV.int) (lo := some ((n + 1 : Nat) : Int)) (hi := none) rfl (part_of (bin_val (a := .int (n : Int)) (b := .int 1) rfl rfl rfl)) rfl).trans ?_
      rw [cut_drop _ _ (by rw [List.length_map]; omega), ← List.map_drop]
    · refine (sl_gen (xs := os.map PV.int) (lo := some (n : Int)) (hi := none) rfl (part_of rfl) rfl).trans ?_
      rw [cut_drop _ _ (by rw [List.length_map]; omega), ← List.map_drop]
  have lt : (os.take n).length ≤ 2000 := by rw [List.length_take]; omega
  have ld : ∀ k, (os.drop k).length ≤ 2000 := fun k => by rw [List.length_drop]; omega
  refine (seq_nx (ρ1 := tE sc a b tn told (some (octT os)) (some (.int (n : Int))) (some (.int i)) (some (.own (.lst [octT (os.take n), octT (os.take n ++ ([i] ++ os.drop (n + 1))), octT (os.take n ++ ([i] ++ os.drop n))]))) row due) ?_).trans ?_
  · obtain ⟨s1, s2, s3, s4⟩ := body rows
    have g1 := cat_tup s1 s4 (by simp; omega)
    have d1 := ld (n + 1)
    have d2 := ld n
    have g2 := cat_tup g1 s2 (by rw [List.length_append]; simp at lt d1 ⊢; omega)
    have g3 := cat_tup g1 s3 (by rw [List.length_append]; simp at lt d2 ⊢; omega)
    rw [List.append_assoc] at g2 g3
    refine asg_of (lst_of (args_cons s1 (args_cons g2 (args_cons g3 args_nil))) (by simp)) ?_
    unfold setR setO
    have e : isPar (tE sc a b tn told (some (octT os)) (some (.int (n : Int))) (some (.int i)) rows row due) 9 = false := hrw
    dsimp only
    rw [e]
    rfl
  · refine seq_nx ?_
    obtain ⟨s1, s2, s3, s4⟩ := body (some (.own (.lst [octT (os.take n), octT (os.take n ++ ([i] ++ os.drop (n + 1))), octT (os.take n ++ ([i] ++ os.drop n))])))
    have d1 := ld (n + 1)
    have g1 := cat_tup s1 s2 (by simp at lt d1 ⊢; omega)
    have g2 := cat_tup (m1 := mBor 6) (x := os) rfl s4 (by simp; omega)
    have l := lst_of (args_cons g1 (args_cons g2 args_nil)) (by simp)
    refine asg_of (r := .new (.lst ((rows5 os n i).map octT))) (ρ1 := tE sc a b tn told (some (octT os)) (some (.int (n : Int))) (some (.int i)) (some (.own (.lst [octT (os.take n), octT (os.take n ++ ([i] ++ os.drop (n + 1))), octT (os.take n ++ ([i] ++ os.drop n))]))) row due) ?_ rfl
    have e0 : mOp (mBor 9) (tE sc a b tn told (some (octT os)) (some (.int (n : Int))) (some (.int i)) (some (.own (.lst [octT (os.take n), octT (os.take n ++ ([i] ++ os.drop (n + 1))), octT (os.take n ++ ([i] ++ os.drop n))]))) row due) = .ok (.bor 9, tE sc a b tn told (some (octT os)) (some (.int (n : Int))) (some (.int i)) (some (.own (.lst [octT (os.take n), octT (os.take n ++ ([i] ++ os.drop (n + 1))), octT (os.take n ++ ([i] ++ os.drop n))]))) row due) := rfl
    exact bin_bn e0 l rfl
end K81

set_option Elab.async false
set_option linter.all false
set_option maxRecDepth 100000
set_option exponentiation.threshold 100000
namespace K81
open PySem Pu
variable {C : Addr} {t : Tb}
/-! ### the rows of a turn -/
theorem row_ok (h : TurnOk t) {sc : PV} {a b : Int} {tn told_ oc at_ one : Option PV} {rows : Option SV} {os : List Int} (R : RowOk os) (due : Option PV) :
    ∃ told' due', zr t (tE sc a b tn told_ oc at_ one rows (some (octT os)) due) = .ok (.nx, tE sc a b tn (some told') oc at_ one rows (some (octT os)) (some due')) := by
  have hz := R.len
  have ht := h.told os (by omega) R.oc
  have ag := agree R
  have par : ∀ r : Option Nat, turns os 4000 0 1 = some r → zr_0 t (tE sc a b tn told_ oc at_ one rows (some (octT os)) due) = .ok (.nx, tE sc a b tn (some (toldP os)) oc at_ one rows (some (octT os)) (some (optP r))) := fun r hr =>
    par2_of (call1 (p := octT os) rfl (h.first os r R.oc hr)) (call1 (p := octT os) rfl ht) (by cases told_ <;> cases due <;> rfl)
  cases e : told os with
  | error x =>
    rw [e] at ag
    have etp : toldP os = .tup [.bl false, .int (x : Int)] := by unfold toldP; rw [e]
    have p := par (some x) ag
    rw [etp] at p
    refine ⟨.tup [.bl false, .int (x : Int)], optP (some x), (seq_nx p).trans ?_⟩
    have l := h.like 1 (.tup [.bl false, .int (x : Int)]) (by decide) (by simp [lk, lks])
    refine (ifs_f (test_of (bin_val (a := .int (x : Int)) (b := .non) rfl rfl rfl))).trans ?_
    exact (ifs_f (tnot_of (truth_of' (call2 (p := .tup [.bl false, .int (x : Int)]) (q := .tup [.bl false, .int (x : Int)]) rfl rfl l) rfl))).trans rfl
  | ok v =>
    rw [e] at ag
    obtain ⟨g1, g2, g3, g4⟩ := ag
    have etp : toldP os = .tup [.bl true, v] := by unfold toldP; rw [e]
    have p := par none g1
    rw [etp] at p
    have gd : Good v := ⟨g3, by rw [← g2]; omega, by omega⟩
    have w := h.write v gd
    rw [← g2] at w
    have l := h.like 1 (octT os) (by decide) (lk_octs os (by omega))
    refine ⟨.tup [.bl true, v], optP none, (seq_nx p).trans ?_⟩
    refine (ifs_t (test_of (bin_val (a := .non) (b := .non) rfl rfl rfl))).trans ?_
    have t1 : mTNot (mTruth (mBin pIx (mBor 4) (mK (.int 0)))) (tE sc a b tn (some (.tup [.bl true, v])) oc at_ one rows (some (octT os)) (some (optP none))) = .ok (false, tE sc a b tn (some (.tup [.bl true, v])) oc at_ one rows (some (octT os)) (some (optP none))) :=
      tnot_of (truth_of' (bin_val (a := .tup [.bl true, v]) (b := .int 0) (r := .val (.bl true)) rfl rfl rfl) rfl)
    have t2 : mBin pIx (mBor 4) (mK (.int 1)) (tE sc a b tn (some (.tup [.bl true, v])) oc at_ one rows (some (octT os)) (some (optP none))) = .ok (.val v, tE sc a b tn (some (.tup [.bl true, v])) oc at_ one rows (some (octT os)) (some (optP none))) := bin_val (a := .tup [.bl true, v]) (b := .int 1) rfl rfl rfl
    have t3 := call1 (p := v) t2 (nox_of w)
    exact (ifs_f ((tor_f t1).trans (tnot_of (truth_of' (call2 (p := octT os) (q := octT os) t3 rfl l) rfl)))).trans rfl
theorem rows_ok (h : TurnOk t) {sc : PV} {a b : Int} {tn oc at_ one : Option PV} {rows : Option SV} : ∀ (rs : List (List Int)) (told_ row due : Option PV), (∀ r ∈ rs, RowOk r) →
    ∃ told' row' due' : Option PV, Pu.forM (mgNm 10) (zr t) (rs.map octT) (tE sc a b tn told_ oc at_ one rows row due) = .ok (.nx, tE sc a b tn told' oc at_ one rows row' due')
  | [], told_, row, due, _ => ⟨told_, row, due, rfl⟩
  | r :: rs, told_, row, due, hr => by
    obtain ⟨t1, d1, e1⟩ := row_ok h (sc := sc) (a := a) (b := b) (tn := tn) (told_ := told_) (oc := oc) (at_ := at_) (one := one) (rows := rows) (hr r (List.mem_cons_self ..)) due
    obtain ⟨t2, r2, d2, e2⟩ := rows_ok h (sc := sc) (a := a) (b := b) (tn := tn) (oc := oc) (at_ := at_) (one := one) (rows := rows) rs (some t1) (some (octT r)) (some d1) fun x hx => hr x (List.mem_cons_of_mem _ hx)
    refine ⟨t2, r2, d2, ?_⟩
    rw [List.map_cons, for_cons (ρ1 := tE sc a b tn told_ oc at_ one rows (some (octT r)) due) (by cases row <;> rfl) e1]
    exact e2
theorem turn_ok (h : TurnOk t) (sc : PV) (a b : Int) (tn told_ oc at_ one rv row due : Option PV) : ∃ (a' b' : Int) (told' oc' at' one' rv' row' due' : Option PV),
    zt t (tE sc a b tn told_ oc at_ one (rv.map SV.val) row due) = .ok (.nx, tE sc a' b' tn told' oc' at' one' (rv'.map SV.val) row' due') := by
  obtain ⟨os, a1, b1, B, h0, e1⟩ := turn_a h sc a b tn told_ oc at_ one (rv.map SV.val) row due
  obtain ⟨n, a2, b2, hn, e2⟩ := turn_b h sc a1 b1 B.len h0 tn told_ at_ one (rv.map SV.val) row due
  obtain ⟨i, a3, b3, hi, e3⟩ := turn_c h sc a2 b2 tn told_ (some (octT os)) (some (.int (n : Int))) one (rv.map SV.val) row due
  have e4 := turn_de (t := t) sc a3 b3 B.len hn i tn told_ (rv.map SV.val) (by cases rv <;> rfl) row due (mFor (mSrc (mNm 9)) (mgNm 10) (zr t))
  obtain ⟨t5, r5, d5, e5⟩ := rows_ok h (sc := sc) (a := a3) (b := b3) (tn := tn) (oc := some (octT os)) (at_ := some (.int (n : Int))) (one := some (.int i)) (rows := some (.val (.lst ((rows5 os n i).map octT)))) (rows5 os n i) told_ row due (rows5_ok B hi)
  refine ⟨a3, b3, t5, some (octT os), some (.int (n : Int)), some (.int i), some (.lst ((rows5 os n i).map octT)), r5, d5, ?_⟩
  refine (seq_nx e1).trans ((seq_nx e2).trans ((seq_nx e3).trans (e4.trans ?_)))
  refine (mfor_of (xs := (rows5 os n i).map octT) (ρ1 := tE sc a3 b3 tn told_ (some (octT os)) (some (.int (n : Int))) (some (.int i)) (some (.val (.lst ((rows5 os n i).map octT)))) row due) rfl).trans ?_
  exact e5
theorem turns_ok (h : TurnOk t) (sc : PV) : ∀ (xs : List PV) (a b : Int) (tn told_ oc at_ one rv row due : Option PV), ∃ (a' b' : Int) (tn' told' oc' at' one' rv' row' due' : Option PV),
    Pu.forM (mgNm 2) (zt t) xs (tE sc a b tn told_ oc at_ one (rv.map SV.val) row due) = .ok (.nx, tE sc a' b' tn' told' oc' at' one' (rv'.map SV.val) row' due')
  | [], a, b, tn, told_, oc, at_, one, rv, row, due => ⟨a, b, tn, told_, oc, at_, one, rv, row, due, rfl⟩
  | x :: xs, a, b, tn, told_, oc, at_, one, rv, row, due => by
    obtain ⟨a1, b1, t1, o1, at1, n1, v1, r1, d1, e1⟩ := turn_ok h sc a b (some x) told_ oc at_ one rv row due
    obtain ⟨a2, b2, tn2, t2, o2, at2, n2, v2, r2, d2, e2⟩ := turns_ok h sc xs a1 b1 (some x) t1 o1 at1 n1 v1 r1 d1
    refine ⟨a2, b2, tn2, t2, o2, at2, n2, v2, r2, d2, ?_⟩
    rw [for_cons (ρ1 := tE sc a b (some x) told_ oc at_ one (rv.map SV.val) row due) (by cases tn <;> rfl) e1]
    exact e2
theorem rng20 (ρ : Pu.Env) : ∃ xs, mRng rng1 (mACons (mK (.int 20)) mANil) ρ = .ok (xs, ρ) := ⟨rangeOf 0 (20 : Nat), rng1_of (n := 20) rfl (by decide)⟩
end K81

set_option Elab.async false
set_option linter.all false
set_option maxRecDepth 100000
set_option exponentiation.threshold 100000
namespace K81
open PySem Pu
variable {C : Addr} {t : Tb}
def great : Int := 128 ^ 950
theorem log_le {n B : Nat} (hB : B < 100000) (h : n ≤ 2 ^ B) : n.log2 ≤ B := by
  by_cases h0 : n = 0
  · subst h0; simp
  · have := (Nat.log2_lt h0 (k := B + 1)).mpr (Nat.lt_of_le_of_lt h (Nat.pow_lt_pow_right (by decide) (by omega)))
    omega
theorem B64_2 : B64 = 2 ^ 448 := by decide +kernel
theorem B54_2 : B54 = 2 ^ 378 := by decide +kernel
theorem gr_mul {k : Nat} (hk : k < 14) : pMul (.int ((B54 * B64 ^ k : Nat) : Int)) (.int (B64 : Int)) = some (.val (.int ((B54 * B64 ^ (k + 1) : Nat) : Int))) := by
  have h1 : B54 * B64 ^ k = 2 ^ (378 + 448 * k) := by rw [B64_2, B54_2, ← Nat.pow_mul, ← Nat.pow_add]
  have l1 : (B54 * B64 ^ k).log2 ≤ 378 + 448 * k := log_le (by omega) (by rw [h1]; exact Nat.le_refl _)
  have l2 : B64.log2 ≤ 448 := log_le (by decide) (by rw [B64_2]; exact Nat.le_refl _)
  rw [mul_log (by rw [Int.natAbs_natCast, Int.natAbs_natCast]; omega)]
  rw [Nat.pow_succ, ← Nat.mul_assoc]
  simp
theorem B950i : ((B54 * B64 ^ 14 : Nat) : Int) = great := by
  rw [B950]
  unfold great
  simp
/-! ### the law's statements -/
abbrev z_0 (t : Tb) : MS := (mAsg 1 (mCall t.law_cup (mACons (mNm 0) mANil)))
abbrev z_1 (t : Tb) : MS := mFor (mRng rng1 (mACons (mK (.int 20)) mANil)) (mgNm 2) (zt t)
abbrev z_2 (t : Tb) : MS := (mAsg 3 (mBin pAdd (mTup (mACons (mK (.int 1)) mANil)) (mBin pRepT (mTup (mACons (mK (.int 255)) mANil)) (mK (.int 949)))))
abbrev z_3 (t : Tb) : MS := (mAsg 4 (mLst (mACons (mCall t.law_told (mACons (mBin pAdd (mBor 3) (mTup (mACons (mK (.int 127)) mANil))) mANil)) (mACons (mCall t.law_told (mACons (mBin pAdd (mBor 3) (mTup (mACons (mK (.int 255)) mANil))) mANil)) (mACons (mCall t.law_told (mACons (mNm 3) mANil)) (mACons (mCall t.law_told (mACons (mTup (mACons (mK (.int 4)) (mACons (mK (.int 209)) (mACons (mK (.int 134)) (mACons (mK (.int 3)) mANil))))) mANil)) mANil))))))
abbrev z_4 (t : Tb) : MS := (mAsg 4 (mBin pAdd (mBor 4) (mLst (mACons (mCall t.law_told (mACons (mTup (mACons (mK (.int 3)) (mACons (mK (.int 161)) (mACons (mK (.int 156)) (mACons (mK (.int 1)) mANil))))) mANil)) (mACons (mCall t.law_told (mACons (mTup mANil) mANil)) (mACons (mCall t.law_told (mACons (mTup (mACons (mK (.int 1)) (mACons (mK (.int 128)) (mACons (mK (.int 0)) mANil)))) mANil)) mANil))))))
abbrev z_5 (t : Tb) : MS := (mAsg 4 (mBin pAdd (mBor 4) (mLst (mACons (mCall t.law_told (mACons (mBin pRepT (mTup (mACons (mK (.int 4)) (mACons (mK (.int 208)) (mACons (mK (.int 134)) (mACons (mK (.int 3)) mANil))))) (mK (.int 9))) mANil)) (mACons (mCall t.law_told (mACons (mBin pRepT (mTup (mACons (mK (.int 4)) (mACons (mK (.int 208)) (mACons (mK (.int 134)) (mACons (mK (.int 3)) mANil))))) (mK (.int 10))) mANil)) (mACons (mCall t.law_told (mACons (mTup (mACons (mK (.int 3)) (mACons (mK (.int 255)) (mACons (mK (.int 255)) mANil)))) mANil)) mANil))))))
abbrev z_6 (t : Tb) : MS := (mAsg 4 (mBin pAdd (mBor 4) (mLst (mACons (mCall t.law_told (mACons (mBin pAdd (mTup (mACons (mK (.int 3)) mANil)) (mBin pRepT (mTup (mACons (mK (.int 255)) mANil)) (mK (.int 951)))) mANil)) (mACons (mCall t.law_told (mACons (mBin pAdd (mBin pRepT (mTup (mACons (mK (.int 4)) (mACons (mK (.int 1)) mANil))) (mK (.int 60))) (mTup (mACons (mK (.int 0)) mANil))) mANil)) (mACons (mCall t.law_told (mACons (mBin pAdd (mBin pRepT (mTup (mACons (mK (.int 4)) (mACons (mK (.int 1)) mANil))) (mK (.int 60))) (mTup (mACons (mK (.int 4)) mANil))) mANil)) mANil))))))
abbrev z_7 (t : Tb) : MS := (mAsg 5 (mBin pPow (mK (.int 128)) (mK (.int 54))))
abbrev z_8 (t : Tb) : MS := (mFor (mRng rng1 (mACons (mK (.int 14)) mANil)) (mgNm 2)
    (mAsg 5 (mBin pMul (mBor 5) (mBin pPow (mK (.int 128)) (mK (.int 64))))))
abbrev z_9 (t : Tb) : MS := (mIfS (mTOr (mTest (mBin pIsNot (mBin pIx (mBin pIx (mBor 4) (mK (.int 0))) (mK (.int 0))) (mK (.bl true)))) (mTest (mBin pNe (mBin pIx (mBin pIx (mBor 4) (mK (.int 0))) (mK (.int 1))) (mBin pSub (mBor 5) (mK (.int 1))))))
    (mRet (mK (.bl false)))
    mNx)
abbrev z_10 (t : Tb) : MS := (mIfS (mTest (mBin pNe (mLc [12] (mSrc (mTup (mACons (mK (.int 9)) (mACons (mK (.int 10)) (mACons (mK (.int 11)) (mACons (mK (.int 13)) (mACons (mK (.int 31)) (mACons (mK (.int 127)) mANil)))))))) (mgNm 12) mYes (mCall t.law_told (mACons (mTup (mACons (mK (.int 3)) (mACons (mK (.int 1)) (mACons (mNm 12) mANil)))) mANil))) (mBin pAdd (mLst (mACons (mTup (mACons (mK (.bl false)) (mACons (mK (.int 2)) mANil))) (mACons (mTup (mACons (mK (.bl true)) (mACons (mK (.str "\n")) mANil))) mANil))) (mBin pMul (mLst (mACons (mTup (mACons (mK (.bl false)) (mACons (mK (.int 2)) mANil))) mANil)) (mK (.int 4))))))
    (mRet (mK (.bl false)))
    mNx)
abbrev z_11 (t : Tb) : MS := (mIfS (mTest (mBin pNe (mLc [8] (mSrc (mSl (mBor 4) (mPart (mK (.int 1))) mNoPart)) (mgNm 8) mYes (mBin pIx (mBor 8) (mK (.int 0)))) (mBin pAdd (mBin pMul (mLst (mACons (mK (.bl false)) mANil)) (mK (.int 10))) (mLst (mACons (mK (.bl true)) (mACons (mK (.bl false)) mANil))))))
    (mRet (mK (.bl false)))
    mNx)
abbrev z_12 (t : Tb) : MS := (mRet (mBin pEq (mLc [8] (mSrc (mBin pAdd (mSl (mBor 4) (mPart (mK (.int 1))) (mPart (mK (.int 11)))) (mSl (mBor 4) (mPart (mK (.int 12))) mNoPart))) (mgNm 8) mYes (mBin pIx (mBor 8) (mK (.int 1)))) (mLst (mACons (mK (.int 951)) (mACons (mK (.int 950)) (mACons (mK (.int 3)) (mACons (mK (.int 3)) (mACons (mK (.int 0)) (mACons (mK (.int 2)) (mACons (mK (.int 36)) (mACons (mK (.int 39)) (mACons (mK (.int 3)) (mACons (mK (.int 951)) (mACons (mK (.int 120)) mANil))))))))))))))
theorem b_law_eq {C : Addr} {t : Tb} : b_law C t = mSeq (z_0 t) (mSeq (z_1 t) (mSeq (z_2 t) (mSeq (z_3 t) (mSeq (z_4 t) (mSeq (z_5 t) (mSeq (z_6 t) (mSeq (z_7 t) (mSeq (z_8 t) (mSeq (z_9 t) (mSeq (z_10 t) (mSeq (z_11 t) (z_12 t)))))))))))) := rfl
abbrev hE (sc : PV) (a b : Int) (tn lg : Option PV) (td : Option SV) (gr oc at_ one : Option PV) (rows : Option SV) (row due : Option PV) : Pu.Env := [some (.val sc), some (.own (cupO a b)), tn.map SV.val, lg.map SV.val, td, gr.map SV.val, oc.map SV.val, at_.map SV.val, one.map SV.val, rows, row.map SV.val, due.map SV.val, none]
/-! ### fixed rows -/
def rL : List Int := 1 :: List.replicate 949 255
def rw (n : Nat) (l : List Int) : List Int := (List.replicate n l).flatten
def r0 : List Int := rL ++ [127]
def r1 : List Int := rL ++ [255]
def r3 : List Int := [4, 209, 134, 3]
def r4 : List Int := [3, 161, 156, 1]
def r6 : List Int := [1, 128, 0]
def rH : List Int := [4, 208, 134, 3]
def r9 : List Int := [3, 255, 255]
def r10 : List Int := [3] ++ rw 951 [255]
def r11 : List Int := rw 60 [4, 1] ++ [0]
def r12 : List Int := rw 60 [4, 1] ++ [4]
def isErr (r : Except Nat PV) (e : Nat) : Bool := match r with
  | .error x => x == e
  | .ok _ => false
def isInt (r : Except Nat PV) (n : Nat) : Bool := match r with
  | .ok (.int i) => i == (n : Int)
  | _ => false
def isOk (r : Except Nat PV) : Bool := match r with
  | .ok _ => true
  | .error _ => false
def isNl (r : Except Nat PV) : Bool := match r with
  | .ok (.str x) => x.cps == #[10]
  | _ => false
abbrev tF (e : Int) : PV := .tup [.bl false, .int e]
theorem err_of {os : List Int} {e : Nat} (h : isErr (told os) e = true) : toldP os = tF (e : Int) := by
  unfold toldP
  cases q : told os with
  | error x =>
    rw [q] at h
    have : x = e := eq_of_beq h
    rw [this]
  | ok v => rw [q] at h; cases h
theorem int_of {os : List Int} {n : Nat} (h : isInt (told os) n = true) : toldP os = .tup [.bl true, .int (n : Int)] := by
  unfold toldP
  cases q : told os with
  | error x => rw [q] at h; cases h
  | ok v =>
    rw [q] at h
    cases v with
    | int i =>
      have : i = (n : Int) := eq_of_beq h
      rw [this]
    | _ => cases h
theorem ok_of' {os : List Int} (h : isOk (told os) = true) : ∃ w, toldP os = .tup [.bl true, w] := by
  unfold toldP
  cases q : told os with
  | error x => rw [q] at h; cases h
  | ok v => exact ⟨v, rfl⟩
theorem nl_of {os : List Int} (h : isNl (told os) = true) : toldP os = .tup [.bl true, .str "\n"] := by
  unfold toldP
  cases q : told os with
  | error x => rw [q] at h; cases h
  | ok v =>
    rw [q] at h
    cases v with
    | str x =>
      have : x.cps = #[10] := eq_of_beq h
      cases x
      cases this
      rfl
    | _ => cases h
theorem k0 : isInt (told r0) (128 ^ 950 - 1) = true := by decide +kernel
theorem k1 : isErr (told r1) 951 = true := by decide +kernel
theorem k2 : isErr (told rL) 950 = true := by decide +kernel
theorem k3 : isErr (told r3) 3 = true := by decide +kernel
theorem k4 : isErr (told r4) 3 = true := by decide +kernel
theorem k5 : isErr (told []) 0 = true := by decide +kernel
theorem k6 : isErr (told r6) 2 = true := by decide +kernel
theorem k7 : isErr (told (rw 9 rH)) 36 = true := by decide +kernel
theorem k8 : isErr (told (rw 10 rH)) 39 = true := by decide +kernel
theorem k9 : isErr (told r9) 3 = true := by decide +kernel
theorem k10 : isErr (told r10) 951 = true := by decide +kernel
theorem k11 : isOk (told r11) = true := by decide +kernel
theorem k12 : isErr (told r12) 120 = true := by decide +kernel
theorem n9 : isErr (told [3, 1, 9]) 2 = true := by decide +kernel
theorem n10 : isNl (told [3, 1, 10]) = true := by decide +kernel
theorem n11 : isErr (told [3, 1, 11]) 2 = true := by decide +kernel
theorem n13 : isErr (told [3, 1, 13]) 2 = true := by decide +kernel
theorem n31 : isErr (told [3, 1, 31]) 2 = true := by decide +kernel
theorem n127 : isErr (told [3, 1, 127]) 2 = true := by decide +kernel
def tup2 (p : PV × PV) : PV := .tup [p.1, p.2]
def DP (w : PV) : List (PV × PV) := [(.bl true, .int ((128 ^ 950 - 1 : Nat) : Int)), (.bl false, .int 951), (.bl false, .int 950), (.bl false, .int 3), (.bl false, .int 3), (.bl false, .int 0), (.bl false, .int 2), (.bl false, .int 36), (.bl false, .int 39), (.bl false, .int 3), (.bl false, .int 951), (.bl true, w), (.bl false, .int 120)]
theorem told_call (h : TurnOk t) {m : M} {ρ : Pu.Env} {os : List Int} {p : PV} (hm : m ρ = .ok (.val (octT os), ρ)) (hp : toldP os = p) (hl : os.length < 16777216) (ho : os.all oct = true) : mCall t.law_told (mACons m mANil) ρ = .ok (.val p, ρ) := by
  subst hp
  exact call1 (p := octT os) hm (h.told os hl ho)
theorem rep_tup {m : M} {ρ : Pu.Env} {x : List Int} {k : Nat} (h : m ρ = .ok (.val (octT x), ρ)) (hx : x ≠ []) (h2 : 2 ≤ k) (h3 : k ≤ 1000) (h4 : x.length ≤ 1000) : mBin pRepT m (mK (.int (k : Int))) ρ = .ok (.val (octT (rw k x)), ρ) := by
  refine bin_val (b := .int (k : Int)) h rfl ?_
  unfold pRepT
  dsimp only
  rw [if_pos ⟨by simpa using hx, by omega, by omega, by rw [List.length_map]; exact h4⟩, Int.toNat_natCast]
  unfold octT rw
  rw [List.map_flatten, List.map_replicate]
theorem bin_nn {f : PV → PV → Option RV} {ma mb : M} {ρ ρ1 ρ2 : Pu.Env} {r : RV} {o1 o2 : OB} (h1 : ma ρ = .ok (.new o1, ρ1)) (h2 : mb ρ1 = .ok (.new o2, ρ2)) (hf : f o1.pv o2.pv = some r) : mBin f ma mb ρ = .ok (r, ρ2) := by
  have e1 := lop_of h1
  have e2 := lop_of h2
  unfold mBin
  unfold mOp
  rw [h1, Res.bind_ok, Res.bind_ok]
  dsimp only
  rw [h2]
  simp [RV.fz, deref, liftO, Res.bind, hf]
theorem z2_ok (sc : PV) (a b : Int) (tn : Option PV) (td : Option SV) (gr oc at_ one : Option PV) (rows : Option SV) (row due : Option PV) : z_2 t (hE sc a b tn none td gr oc at_ one rows row due) = .ok (.nx, hE sc a b tn (some (octT rL)) td gr oc at_ one rows row due) := by
  refine asg_of (cat_tup (one_tup (i := 1) rfl) (rep_tup (k := 949) (one_tup (i := 255) rfl) (by decide) (by decide) (by decide) (by decide)) (by decide +kernel)) ?_
  rfl
end K81

set_option Elab.async false
set_option linter.all false
set_option maxRecDepth 100000
set_option exponentiation.threshold 100000
namespace K81
open PySem Pu
variable {C : Addr} {t : Tb}
section
variable (h : TurnOk t) (sc : PV) (a b : Int) (tn : Option PV) (gr oc at_ one : Option PV) (rows : Option SV) (row due : Option PV)
abbrev G0 : PV := .tup [.bl true, .int ((128 ^ 950 - 1 : Nat) : Int)]
def D3 : List PV := [G0, tF 951, tF 950, tF 3]
def D4 : List PV := D3 ++ [tF 3, tF 0, tF 2]
def D5 : List PV := D4 ++ [tF 36, tF 39, tF 3]
theorem long_tup (td : Option SV) {i : Int} : mBin pAdd (mBor 3) (mTup (mACons (mK (.int i)) mANil)) (hE sc a b tn (some (octT rL)) td gr oc at_ one rows row due) = .ok (.val (octT (rL ++ [i])), hE sc a b tn (some (octT rL)) td gr oc at_ one rows row due) :=
  cat_tup (x := rL) (y := [i]) rfl (one_tup rfl) (by rw [show rL.length = 950 from rfl]; show 950 + 1 ≤ 16777216; decide)
include h
theorem z3_ok (told_ : Option PV) : z_3 t (hE sc a b tn (some (octT rL)) (told_.map SV.val) gr oc at_ one rows row due) = .ok (.nx, hE sc a b tn (some (octT rL)) (some (.own (.lst D3))) gr oc at_ one rows row due) := by
  have c0 := told_call h (long_tup sc a b tn gr oc at_ one rows row due (told_.map SV.val) (i := 127)) (int_of k0) (by decide +kernel) (by decide +kernel)
  have c1 := told_call h (long_tup sc a b tn gr oc at_ one rows row due (told_.map SV.val) (i := 255)) (err_of k1) (by decide +kernel) (by decide +kernel)
  have c2 := told_call h (m := mNm 3) (ρ := hE sc a b tn (some (octT rL)) (told_.map SV.val) gr oc at_ one rows row due) (os := rL) rfl (err_of k2) (by decide +kernel) (by decide +kernel)
  have c3 := told_call h (m := mTup (mACons (mK (.int 4)) (mACons (mK (.int 209)) (mACons (mK (.int 134)) (mACons (mK (.int 3)) mANil))))) (ρ := hE sc a b tn (some (octT rL)) (told_.map SV.val) gr oc at_ one rows row due) (os := r3) rfl (err_of k3) (by decide) (by decide)
  exact asg_of (lst_of (args_cons c0 (args_cons c1 (args_cons c2 (args_cons c3 args_nil)))) (by decide)) (by cases told_ <;> rfl)
theorem z4_ok : z_4 t (hE sc a b tn (some (octT rL)) (some (.own (.lst D3))) gr oc at_ one rows row due) = .ok (.nx, hE sc a b tn (some (octT rL)) (some (.own (.lst D4))) gr oc at_ one rows row due) := by
  have c0 := told_call h (m := mTup (mACons (mK (.int 3)) (mACons (mK (.int 161)) (mACons (mK (.int 156)) (mACons (mK (.int 1)) mANil))))) (ρ := hE sc a b tn (some (octT rL)) (some (.own (.lst D3))) gr oc at_ one rows row due) (os := r4) rfl (err_of k4) (by decide) (by decide)
  have c1 := told_call h (m := mTup mANil) (ρ := hE sc a b tn (some (octT rL)) (some (.own (.lst D3))) gr oc at_ one rows row due) (os := []) rfl (err_of k5) (by decide) (by decide)
  have c2 := told_call h (m := mTup (mACons (mK (.int 1)) (mACons (mK (.int 128)) (mACons (mK (.int 0)) mANil)))) (ρ := hE sc a b tn (some (octT rL)) (some (.own (.lst D3))) gr oc at_ one rows row due) (os := r6) rfl (err_of k6) (by decide) (by decide)
  exact asg_of (r := .new (.lst D4)) (bin_bn (j := 4) rfl (lst_of (args_cons c0 (args_cons c1 (args_cons c2 args_nil))) (by decide)) rfl) rfl
theorem z5_ok : z_5 t (hE sc a b tn (some (octT rL)) (some (.own (.lst D4))) gr oc at_ one rows row due) = .ok (.nx, hE sc a b tn (some (octT rL)) (some (.own (.lst D5))) gr oc at_ one rows row due) := by
  have m0 : mTup (mACons (mK (.int 4)) (mACons (mK (.int 208)) (mACons (mK (.int 134)) (mACons (mK (.int 3)) mANil)))) (hE sc a b tn (some (octT rL)) (some (.own (.lst D4))) gr oc at_ one rows row due) = .ok (.val (octT rH), hE sc a b tn (some (octT rL)) (some (.own (.lst D4))) gr oc at_ one rows row due) := rfl
  have c0 := told_call h (rep_tup (k := 9) m0 (by decide) (by decide) (by decide) (by decide)) (err_of k7) (by decide) (by decide)
  have c1 := told_call h (rep_tup (k := 10) m0 (by decide) (by decide) (by decide) (by decide)) (err_of k8) (by decide) (by decide)
  have c2 := told_call h (m := mTup (mACons (mK (.int 3)) (mACons (mK (.int 255)) (mACons (mK (.int 255)) mANil)))) (ρ := hE sc a b tn (some (octT rL)) (some (.own (.lst D4))) gr oc at_ one rows row due) (os := r9) rfl (err_of k9) (by decide) (by decide)
  exact asg_of (r := .new (.lst D5)) (bin_bn (j := 4) rfl (lst_of (args_cons c0 (args_cons c1 (args_cons c2 args_nil))) (by decide)) rfl) rfl
theorem z6_ok : ∃ w, z_6 t (hE sc a b tn (some (octT rL)) (some (.own (.lst D5))) gr oc at_ one rows row due) = .ok (.nx, hE sc a b tn (some (octT rL)) (some (.own (.lst ((DP w).map tup2)))) gr oc at_ one rows row due) := by
  obtain ⟨w, hw⟩ := ok_of' k11
  refine ⟨w, ?_⟩
  have m1 : mTup (mACons (mK (.int 4)) (mACons (mK (.int 1)) mANil)) (hE sc a b tn (some (octT rL)) (some (.own (.lst D5))) gr oc at_ one rows row due) = .ok (.val (octT [4, 1]), hE sc a b tn (some (octT rL)) (some (.own (.lst D5))) gr oc at_ one rows row due) := rfl
  have q0 := rep_tup (k := 951) (one_tup (m := mK (.int 255)) (ρ := hE sc a b tn (some (octT rL)) (some (.own (.lst D5))) gr oc at_ one rows row due) (i := 255) rfl) (by decide) (by decide) (by decide) (by decide)
  have q1 := rep_tup (k := 60) m1 (by decide) (by decide) (by decide) (by decide)
  have c0 := told_call h (cat_tup (one_tup (m := mK (.int 3)) (i := 3) rfl) q0 (by decide +kernel)) (err_of k10) (by decide +kernel) (by decide +kernel)
  have c1 := told_call h (cat_tup q1 (one_tup (m := mK (.int 0)) (i := 0) rfl) (by decide +kernel)) hw (by decide +kernel) (by decide +kernel)
  have c2 := told_call h (cat_tup q1 (one_tup (m := mK (.int 4)) (i := 4) rfl) (by decide +kernel)) (err_of k12) (by decide +kernel) (by decide +kernel)
  exact asg_of (r := .new (.lst ((DP w).map tup2))) (bin_bn (j := 4) rfl (lst_of (args_cons c0 (args_cons c1 (args_cons c2 args_nil))) (by show 3 ≤ 16777216; decide)) rfl) rfl
end
section
variable (sc : PV) (a b : Int) (lg : Option PV) (td : Option SV) (oc at_ one : Option PV) (rows : Option SV) (row due : Option PV)
theorem z7_ok (tn : Option PV) : z_7 t (hE sc a b tn lg td none oc at_ one rows row due) = .ok (.nx, hE sc a b tn lg td (some (.int ((B54 * B64 ^ 0 : Nat) : Int))) oc at_ one rows row due) := by
  refine asg_of (pow54 _) ?_
  rw [Nat.pow_zero, Nat.mul_one]
  rfl
theorem gr_step (tn : Option PV) {k : Nat} (hk : k < 14) : mAsg 5 (mBin pMul (mBor 5) (mBin pPow (mK (.int 128)) (mK (.int 64)))) (hE sc a b tn lg td (some (.int ((B54 * B64 ^ k : Nat) : Int))) oc at_ one rows row due) =
    .ok (.nx, hE sc a b tn lg td (some (.int ((B54 * B64 ^ (k + 1) : Nat) : Int))) oc at_ one rows row due) :=
  asg_of (bin_val (a := .int ((B54 * B64 ^ k : Nat) : Int)) rfl (pow64 _) (gr_mul hk)) rfl
theorem gr_loop : ∀ (xs : List PV) (k : Nat) (tn : Option PV), k + xs.length ≤ 14 →
    ∃ tn', Pu.forM (mgNm 2) (mAsg 5 (mBin pMul (mBor 5) (mBin pPow (mK (.int 128)) (mK (.int 64))))) xs (hE sc a b tn lg td (some (.int ((B54 * B64 ^ k : Nat) : Int))) oc at_ one rows row due) = .ok (.nx, hE sc a b tn' lg td (some (.int ((B54 * B64 ^ (k + xs.length) : Nat) : Int))) oc at_ one rows row due)
  | [], k, tn, _ => ⟨tn, rfl⟩
  | x :: xs, k, tn, h => by
    rw [List.length_cons] at h
    obtain ⟨tn', e⟩ := gr_loop xs (k + 1) (some x) (by omega)
    refine ⟨tn', ?_⟩
    rw [for_cons (ρ1 := hE sc a b (some x) lg td (some (.int ((B54 * B64 ^ k : Nat) : Int))) oc at_ one rows row due) (by cases tn <;> rfl) (gr_step sc a b lg td oc at_ one rows row due (some x) (by omega)), e, List.length_cons, show k + 1 + xs.length = k + (xs.length + 1) by omega]
theorem z8_ok (tn : Option PV) : ∃ tn', z_8 t (hE sc a b tn lg td (some (.int ((B54 * B64 ^ 0 : Nat) : Int))) oc at_ one rows row due) = .ok (.nx, hE sc a b tn' lg td (some (.int great)) oc at_ one rows row due) := by
  obtain ⟨xs, e1, e2⟩ := rng14
  obtain ⟨tn', e⟩ := gr_loop sc a b lg td oc at_ one rows row due xs 0 tn (by omega)
  rw [e2, Nat.zero_add, B950i] at e
  exact ⟨tn', (mfor_of (by rw [e1])).trans e⟩
end
section
variable (h : TurnOk t) (sc : PV) (a b : Int) (tn lg : Option PV) (w : PV) (oc at_ one : Option PV) (rows : Option SV) (row due : Option PV)
theorem great_pred : great - 1 = ((128 ^ 950 - 1 : Nat) : Int) := by
  have p : 0 < (128 ^ 950 : Nat) := Nat.pow_pos (by decide)
  have e : ((128 ^ 950 : Nat) : Int) = great := by unfold great; simp
  rw [← e]
  generalize (128 ^ 950 : Nat) = B at p ⊢
  omega
abbrev dE' : Pu.Env := hE sc a b tn lg (some (.own (.lst ((DP w).map tup2)))) (some (.int great)) oc at_ one rows row due
theorem pNe_self {x : PV} (h1 : cmpOk 64 x = true) (h2 : eqP x x = true) : pNe x x = some (.val (.bl false)) := by
  unfold pNe
  rw [h1, h2]
  rfl
theorem pEq_self {x : PV} (h1 : cmpOk 64 x = true) (h2 : eqP x x = true) : pEq x x = some (.val (.bl true)) := by
  unfold pEq
  rw [h1, h2]
  rfl
theorem z9_ok : z_9 t (dE' sc a b tn lg w oc at_ one rows row due) = .ok (.nx, dE' sc a b tn lg w oc at_ one rows row due) := by
  have e0 : mBin pIx (mBor 4) (mK (.int 0)) (dE' sc a b tn lg w oc at_ one rows row due) = .ok (.val G0, dE' sc a b tn lg w oc at_ one rows row due) := rfl
  have e1 : mBin pIx (mBin pIx (mBor 4) (mK (.int 0))) (mK (.int 0)) (dE' sc a b tn lg w oc at_ one rows row due) = .ok (.val (.bl true), dE' sc a b tn lg w oc at_ one rows row due) := bin_val (b := .int 0) e0 rfl rfl
  have e2 : mBin pIx (mBin pIx (mBor 4) (mK (.int 0))) (mK (.int 1)) (dE' sc a b tn lg w oc at_ one rows row due) = .ok (.val (.int ((128 ^ 950 - 1 : Nat) : Int)), dE' sc a b tn lg w oc at_ one rows row due) := bin_val (b := .int 1) e0 rfl rfl
  have e3 : mBin pSub (mBor 5) (mK (.int 1)) (dE' sc a b tn lg w oc at_ one rows row due) = .ok (.val (.int ((128 ^ 950 - 1 : Nat) : Int)), dE' sc a b tn lg w oc at_ one rows row due) := by
    rw [← great_pred]
    exact bin_val (a := .int great) (b := .int 1) rfl rfl rfl
  refine (ifs_f ((tor_f (test_of (bin_val (b := .bl true) e1 rfl rfl))).trans (test_of (bin_val e2 e3 ?_)))).trans rfl
  generalize ((128 ^ 950 - 1 : Nat) : Int) = B
  exact pNe_self (by unfold cmpOk; rfl) (by unfold eqP; exact beq_self_eq_true B)
def nlR : List PV := [tF 2, .tup [.bl true, .str "\n"], tF 2, tF 2, tF 2, tF 2]
include h in
theorem z10_ok : z_10 t (dE' sc a b tn lg w oc at_ one rows row due) = .ok (.nx, dE' sc a b tn lg w oc at_ one rows row due) := by
  have one_ : ∀ (i : Int) (p : PV), toldP [3, 1, i] = p → [3, 1, i].all oct = true → mCall t.law_told (mACons (mTup (mACons (mK (.int 3)) (mACons (mK (.int 1)) (mACons (mNm 12) mANil)))) mANil) ((dE' sc a b tn lg w oc at_ one rows row due).set 12 (some (.val (.int i)))) = .ok (.val p, (dE' sc a b tn lg w oc at_ one rows row due).set 12 (some (.val (.int i)))) := fun i p hp ho =>
    told_call h (m := mTup (mACons (mK (.int 3)) (mACons (mK (.int 1)) (mACons (mNm 12) mANil)))) (os := [3, 1, i]) rfl hp (by show 3 < 16777216; decide) ho
  have lc : lcM [12] (mgNm 12) mYes (mCall t.law_told (mACons (mTup (mACons (mK (.int 3)) (mACons (mK (.int 1)) (mACons (mNm 12) mANil)))) mANil)) [.int 9, .int 10, .int 11, .int 13, .int 31, .int 127] (dE' sc a b tn lg w oc at_ one rows row due) = .ok (nlR, dE' sc a b tn lg w oc at_ one rows row due) := by
    have st : ∀ (i : Int) (p : PV) (xs : List PV), toldP [3, 1, i] = p → [3, 1, i].all oct = true → lcM [12] (mgNm 12) mYes (mCall t.law_told (mACons (mTup (mACons (mK (.int 3)) (mACons (mK (.int 1)) (mACons (mNm 12) mANil)))) mANil)) (.int i :: xs) (dE' sc a b tn lg w oc at_ one rows row due) =
        (lcM [12] (mgNm 12) mYes (mCall t.law_told (mACons (mTup (mACons (mK (.int 3)) (mACons (mK (.int 1)) (mACons (mNm 12) mANil)))) mANil)) xs (dE' sc a b tn lg w oc at_ one rows row due)).bind fun r => .ok (p :: r.1, r.2) := fun i p xs hp ho =>
      (lc_cons (ρ1 := (dE' sc a b tn lg w oc at_ one rows row due).set 12 (some (.val (.int i)))) rfl rfl (one_ i p hp ho)).trans rfl
    rw [st 9 _ _ (err_of n9) (by decide), st 10 _ _ (nl_of n10) (by decide), st 11 _ _ (err_of n11) (by decide), st 13 _ _ (err_of n13) (by decide), st 31 _ _ (err_of n31) (by decide), st 127 _ _ (err_of n127) (by decide)]
    rfl
  have l1 := mlc_of (vs := [12]) (mi := mSrc (mTup (mACons (mK (.int 9)) (mACons (mK (.int 10)) (mACons (mK (.int 11)) (mACons (mK (.int 13)) (mACons (mK (.int 31)) (mACons (mK (.int 127)) mANil)))))))) (ρ := dE' sc a b tn lg w oc at_ one rows row due) (ρ1 := dE' sc a b tn lg w oc at_ one rows row due) rfl (by decide) lc
  have er : restoreE [12] (dE' sc a b tn lg w oc at_ one rows row due) (dE' sc a b tn lg w oc at_ one rows row due) = dE' sc a b tn lg w oc at_ one rows row due := rfl
  rw [er] at l1
  have l2 : mBin pAdd (mLst (mACons (mTup (mACons (mK (.bl false)) (mACons (mK (.int 2)) mANil))) (mACons (mTup (mACons (mK (.bl true)) (mACons (mK (.str "\n")) mANil))) mANil))) (mBin pMul (mLst (mACons (mTup (mACons (mK (.bl false)) (mACons (mK (.int 2)) mANil))) mANil)) (mK (.int 4))) (dE' sc a b tn lg w oc at_ one rows row due) = .ok (.new (.lst nlR), dE' sc a b tn lg w oc at_ one rows row due) :=
    bin_new (xs := [tF 2, .tup [.bl true, .str "\n"]]) (ys := [tF 2, tF 2, tF 2, tF 2]) rfl (bin_nv (o := .lst [tF 2]) (b := .int 4) rfl rfl (by
      show (if -(2 ^ 63) ≤ (4 : Int) ∧ (4 : Int) < 2 ^ 63 ∧ szOk (1 * (4 : Int).toNat) = true then _ else none) = _
      rw [if_pos ⟨by decide, by decide, by decide⟩]
      rfl)) (by decide)
  refine (ifs_f (test_of (bin_nn l1 l2 (pNe_self (x := .lst nlR) ?_ ?_)))).trans rfl
  · decide +kernel
  · decide +kernel
theorem pair_lc {j : Nat} {f : PV × PV → PV} (hf : ∀ p, (L2.atI [p.1, p.2] (j : Int)) = some (f p)) : ∀ (ps : List (PV × PV)), lcM [8] (mgNm 8) mYes (mBin pIx (mBor 8) (mK (.int (j : Int)))) (ps.map tup2) (dE' sc a b tn lg w oc at_ none rows row due) = .ok (ps.map f, dE' sc a b tn lg w oc at_ none rows row due)
  | [] => rfl
  | p :: ps => by
    have e : mBin pIx (mBor 8) (mK (.int (j : Int))) (dE' sc a b tn lg w oc at_ (some (tup2 p)) rows row due) = .ok (.val (f p), dE' sc a b tn lg w oc at_ (some (tup2 p)) rows row due) := by
      refine bin_val (a := tup2 p) (b := .int (j : Int)) rfl rfl ?_
      show (L2.atI [p.1, p.2] (j : Int)).map RV.val = _
      rw [hf]
      rfl
    have l := lc_cons (vs := [8]) (g := mgNm 8) (t := mYes) (x := tup2 p) (xs := ps.map tup2) (ρ := dE' sc a b tn lg w oc at_ none rows row due) (ρ1 := dE' sc a b tn lg w oc at_ (some (tup2 p)) rows row due) rfl rfl e
    have e2 : wipeE (dE' sc a b tn lg w oc at_ (some (tup2 p)) rows row due) [8] = dE' sc a b tn lg w oc at_ none rows row due := rfl
    rw [e2, pair_lc hf ps] at l
    exact l
theorem sl_bor {lo hi : Option Int} {ml mh : MO} (hl : ml (dE' sc a b tn lg w oc at_ one rows row due) = .ok (lo, dE' sc a b tn lg w oc at_ one rows row due)) (hh : mh (dE' sc a b tn lg w oc at_ one rows row due) = .ok (hi, dE' sc a b tn lg w oc at_ one rows row due)) :
    mSl (mBor 4) ml mh (dE' sc a b tn lg w oc at_ one rows row due) = .ok (.new (.lst (cutL ((DP w).map tup2) lo hi)), dE' sc a b tn lg w oc at_ one rows row due) := by
  have e : mOp (mBor 4) (dE' sc a b tn lg w oc at_ one rows row due) = .ok (.bor 4, dE' sc a b tn lg w oc at_ one rows row due) := rfl
  unfold mSl
  rw [e, Res.bind_ok]
  dsimp only
  rw [hl, Res.bind_ok]
  dsimp only
  rw [hh]
  rfl
theorem src_new {m : M} {ρ : Pu.Env} {xs : List PV} (h : m ρ = .ok (.new (.lst xs), ρ)) : mSrc m ρ = .ok (xs, ρ) := by
  have e := lop_of h
  unfold mSrc
  rw [e]
  rfl
theorem z11_ok : z_11 t (dE' sc a b tn lg w oc at_ one rows row due) = .ok (.nx, dE' sc a b tn lg w oc at_ one rows row due) := by
  have s := sl_bor sc a b tn lg w oc at_ one rows row due (lo := some 1) (hi := none) (ml := mPart (mK (.int 1))) (mh := mNoPart) rfl rfl
  have ec : cutL ((DP w).map tup2) (some 1) none = ((DP w).drop 1).map tup2 := rfl
  rw [ec] at s
  have lc := pair_lc sc a b tn lg w oc at_ rows row due (j := 0) (f := fun p => p.1) (fun p => rfl) ((DP w).drop 1)
  have l1 := mlc_of (vs := [8]) (src_new s) (by rw [List.length_map]; show 12 ≤ _; decide) (show lcM [8] (mgNm 8) mYes _ _ (wipeE (dE' sc a b tn lg w oc at_ one rows row due) [8]) = _ from lc)
  have er : restoreE [8] (dE' sc a b tn lg w oc at_ one rows row due) (dE' sc a b tn lg w oc at_ none rows row due) = dE' sc a b tn lg w oc at_ one rows row due := by cases one <;> rfl
  rw [er] at l1
  have l2 : mBin pAdd (mBin pMul (mLst (mACons (mK (.bl false)) mANil)) (mK (.int 10))) (mLst (mACons (mK (.bl true)) (mACons (mK (.bl false)) mANil))) (dE' sc a b tn lg w oc at_ one rows row due) = .ok (.new (.lst (((DP w).drop 1).map fun p => p.1)), dE' sc a b tn lg w oc at_ one rows row due) :=
    bin_new (xs := List.replicate 10 (.bl false)) (ys := [.bl true, .bl false]) (bin_nv (o := .lst [.bl false]) (b := .int 10) rfl rfl (by
      show (if -(2 ^ 63) ≤ (10 : Int) ∧ (10 : Int) < 2 ^ 63 ∧ szOk (1 * (10 : Int).toNat) = true then _ else none) = _
      rw [if_pos ⟨by decide, by decide, by decide⟩]
      rfl)) rfl (by decide)
  refine (ifs_f (test_of (bin_nn l1 l2 (pNe_self ?_ ?_)))).trans rfl
  · show cmpOk 64 (.lst [.bl false, .bl false, .bl false, .bl false, .bl false, .bl false, .bl false, .bl false, .bl false, .bl false, .bl true, .bl false]) = true
    decide +kernel
  · show eqP (.lst [.bl false, .bl false, .bl false, .bl false, .bl false, .bl false, .bl false, .bl false, .bl false, .bl false, .bl true, .bl false]) (.lst [.bl false, .bl false, .bl false, .bl false, .bl false, .bl false, .bl false, .bl false, .bl false, .bl false, .bl true, .bl false]) = true
    decide +kernel
theorem z12_ok : z_12 t (dE' sc a b tn lg w oc at_ one rows row due) = .ok (.rt (.val (.bl true)), dE' sc a b tn lg w oc at_ one rows row due) := by
  have s1 := sl_bor sc a b tn lg w oc at_ one rows row due (lo := some 1) (hi := some 11) (ml := mPart (mK (.int 1))) (mh := mPart (mK (.int 11))) rfl rfl
  have s2 := sl_bor sc a b tn lg w oc at_ one rows row due (lo := some 12) (hi := none) (ml := mPart (mK (.int 12))) (mh := mNoPart) rfl rfl
  have c1 : cutL ((DP w).map tup2) (some 1) (some 11) = (((DP w).drop 1).take 10).map tup2 := rfl
  have c2 : cutL ((DP w).map tup2) (some 12) none = ((DP w).drop 12).map tup2 := rfl
  rw [c1] at s1
  rw [c2] at s2
  have s3 := bin_new s1 s2 (szOk_of (by rw [List.length_map, List.length_map]; show 10 + 1 ≤ _; decide))
  rw [← List.map_append] at s3
  have lc := pair_lc sc a b tn lg w oc at_ rows row due (j := 1) (f := fun p => p.2) (fun p => rfl) (((DP w).drop 1).take 10 ++ (DP w).drop 12)
  have l1 := mlc_of (vs := [8]) (src_new s3) (by rw [List.length_map]; show 11 ≤ _; decide) (show lcM [8] (mgNm 8) mYes _ _ (wipeE (dE' sc a b tn lg w oc at_ one rows row due) [8]) = _ from lc)
  have er : restoreE [8] (dE' sc a b tn lg w oc at_ one rows row due) (dE' sc a b tn lg w oc at_ none rows row due) = dE' sc a b tn lg w oc at_ one rows row due := by cases one <;> rfl
  rw [er] at l1
  have l2 : mLst (mACons (mK (.int 951)) (mACons (mK (.int 950)) (mACons (mK (.int 3)) (mACons (mK (.int 3)) (mACons (mK (.int 0)) (mACons (mK (.int 2)) (mACons (mK (.int 36)) (mACons (mK (.int 39)) (mACons (mK (.int 3)) (mACons (mK (.int 951)) (mACons (mK (.int 120)) mANil))))))))))) (dE' sc a b tn lg w oc at_ one rows row due) = .ok (.new (.lst ((((DP w).drop 1).take 10 ++ (DP w).drop 12).map fun p => p.2)), dE' sc a b tn lg w oc at_ one rows row due) := rfl
  refine ret_of (bin_nn l1 l2 (pEq_self ?_ ?_))
  · show cmpOk 64 (.lst [.int 951, .int 950, .int 3, .int 3, .int 0, .int 2, .int 36, .int 39, .int 3, .int 951, .int 120]) = true
    decide +kernel
  · show eqP (.lst [.int 951, .int 950, .int 3, .int 3, .int 0, .int 2, .int 36, .int 39, .int 3, .int 951, .int 120]) (.lst [.int 951, .int 950, .int 3, .int 3, .int 0, .int 2, .int 36, .int 39, .int 3, .int 951, .int 120]) = true
    decide +kernel
end
/-- the law says True -/
theorem law_ok (hc : ∀ ns : List Int, ns.length ≤ 1000 → ∃ a b : Int, t.law_cup [.val (.scr ns)] = .ok (.new (cupO a b), [none])) (h : TurnOk t) (ns : List Int) (hz : ns.length ≤ 1000) : (stepT C t).law [.val (.scr ns)] = .ok (.val (.bl true), [none]) := by
  have e0 : (stepT C t).law = runF 13 (b_law C t) := rfl
  rw [e0, b_law_eq]
  obtain ⟨a, b, ec⟩ := hc ns hz
  obtain ⟨xs, ex⟩ := rng20 (tE (.scr ns) a b none none none none none none none none)
  obtain ⟨a1, b1, tn1, t1, o1, at1, n1, v1, r1, d1, e1⟩ := turns_ok h (.scr ns) xs a b none none none none none none none none
  obtain ⟨w, e6⟩ := z6_ok h (.scr ns) a1 b1 tn1 none o1 at1 n1 (v1.map SV.val) r1 d1
  obtain ⟨tn8, e8⟩ := z8_ok (t := t) (.scr ns) a1 b1 (some (octT rL)) (some (.own (.lst ((DP w).map tup2)))) o1 at1 n1 (v1.map SV.val) r1 d1 tn1
  refine run_rt (r := .val (.bl true)) (ρ1 := dE' (.scr ns) a1 b1 tn8 (some (octT rL)) w o1 at1 n1 (v1.map SV.val) r1 d1) [some (.val (.scr ns)), none, none, none, none, none, none, none, none, none, none, none, none] rfl ?_ rfl
  refine (seq_nx (ρ1 := tE (.scr ns) a b none none none none none none none none) (asg_of (call1 (p := .scr ns) rfl ec) rfl)).trans ?_
  refine (seq_nx ((mfor_of ex).trans e1)).trans ?_
  refine (seq_nx (z2_ok (t := t) (.scr ns) a1 b1 tn1 (t1.map SV.val) none o1 at1 n1 (v1.map SV.val) r1 d1)).trans ?_
  refine (seq_nx (z3_ok h (.scr ns) a1 b1 tn1 none o1 at1 n1 (v1.map SV.val) r1 d1 t1)).trans ?_
  refine (seq_nx (z4_ok h (.scr ns) a1 b1 tn1 none o1 at1 n1 (v1.map SV.val) r1 d1)).trans ?_
  refine (seq_nx (z5_ok h (.scr ns) a1 b1 tn1 none o1 at1 n1 (v1.map SV.val) r1 d1)).trans ?_
  refine (seq_nx e6).trans ?_
  refine (seq_nx (z7_ok (t := t) (.scr ns) a1 b1 (some (octT rL)) (some (.own (.lst ((DP w).map tup2)))) o1 at1 n1 (v1.map SV.val) r1 d1 tn1)).trans ?_
  refine (seq_nx e8).trans ?_
  refine (seq_nx (z9_ok (t := t) (.scr ns) a1 b1 tn8 (some (octT rL)) w o1 at1 n1 (v1.map SV.val) r1 d1)).trans ?_
  refine (seq_nx (z10_ok h (.scr ns) a1 b1 tn8 (some (octT rL)) w o1 at1 n1 (v1.map SV.val) r1 d1)).trans ?_
  refine (seq_nx (z11_ok (t := t) (.scr ns) a1 b1 tn8 (some (octT rL)) w o1 at1 n1 (v1.map SV.val) r1 d1)).trans ?_
  exact z12_ok (t := t) (.scr ns) a1 b1 tn8 (some (octT rL)) w o1 at1 n1 (v1.map SV.val) r1 d1
end K81

set_option Elab.async false
set_option linter.all false
set_option maxRecDepth 100000
set_option maxHeartbeats 4000000
namespace K81
open PySem PySem.Spec PyProof.Rows L2 Pu PySem.W PySem.HandSPX
/-! ### BadText's __init__, as the head finds it -/
abbrev sBad : Stmt := inS 3 0
theorem sB_of {P : Program} {K : Frag} {CB fB ccB cdaB : Addr} {nmB qB : Str} {NB : Addr} {bsB bmB : List Value}
    {oc : Value} {od : Option Addr} {osl : Array (Option Value)} {kV doc pm ct : Value} {an : Option Addr} {ccl : Value} {cdd : Option Addr} {vs : Array Value} {ccs : Array (Option Value)} {file : Str} {tf : Tok} {cl : Value} {cld : Option Addr} {csl : Array (Option Value)}
    (oex : OexC K CB)
    (hasI : findIn K (.ref CB) "__init__" = some (some (.ref fB))) (tyI : typeIn K (.ref fB) = some (.type "function"))
    (lB : K.lookup fB = some ⟨oc, od, .func (fnX "__init__" "BadText.__init__" (defArgs sBad) (defBody sBad) (defScope sBad) [("__class__", ccB)] .none kV doc pm an (.ref cdaB) ct), osl⟩)
    (cB : codeIn K (.ref cdaB) "BadText.__init__" = true) (lcd : K.lookup cdaB = some ⟨ccl, cdd, .fields vs, ccs⟩) (v2 : vs[2]? = some (.str file tf)) (fi : ((P.main.file : Str) == file) = true)
    (lcc : K.lookup ccB = some ⟨cl, cld, .cell (some (.ref CB)), csl⟩) (top : (P.main.scope.names.lookup ("super" : Str)).isSome = false)
    (sup : ks_superIn K CB CB "__init__" = some (some (.builtin "ValueError.__init__"))) (ve : subIn K (.ref CB) (.type "ValueError") = some true) (self : mroIn K CB (.ref CB) = some true)
    (any : nsIn K cStatics "thirdparty.any" = some none) (fld : findIn K (.ref CB) "at" = some none) :
    SupC P K CB "at" "at" "BadText.__init__" fB (fnX "__init__" "BadText.__init__" (defArgs sBad) (defBody sBad) (defScope sBad) [("__class__", ccB)] .none kV doc pm an (.ref cdaB) ct) where
  oex := oex
  hasI := hasI
  tyI := tyI
  fn := ⟨_, _, _, _, _, _, _, _, _, _, _, _, _, _, _, _, _, _, _, _, _, _, _, lB, rfl, cB, ⟨_, _, _, _, _, _, lcd, v2, fi⟩, ⟨_, _, _, lcc⟩, ⟨_, rfl, rfl⟩, by decide, rfl, rfl, rfl, rfl, rfl, rfl, rfl, fun L => ⟨⟨_, rfl⟩, rfl, rfl, rfl, rfl, rfl, rfl, rfl⟩⟩
  nx := by decide
  dx := by decide
  bind := fun us hl => match us, hl with | [_, _], _ => rfl
  top := top
  sup := sup
  ve := ve
  self := self
  any := any
  fld := fld
end K81

set_option Elab.async false
set_option linter.all false
set_option maxRecDepth 100000
set_option maxHeartbeats 4000000
namespace K81
open PySem PySem.Spec PyProof.Rows L2 Pu
/-! ### the law's promise -/
def spLaw (K : PySem.W.Frag) : Sp := fun vs H Q _ => ∃ (a : Addr) (ns : List Int), vs = [.ref a] ∧ SqL K H a (ns.map V.int) ∧ ns.length ≤ 1000 ∧ ∀ H', Q (.bl true) H'
theorem FnOk.imp {P : Program} {w : World} {K : PySem.W.Frag} {mg : Str → Option Value} {base : Heap} {CX : CXT} {k : Nat} {f : Addr} {fd : FuncData} {ps : List Str} {sp sp' : Sp} (F : FnOk P w K mg base CX k f fd ps sp) (key : ∀ vs H Q E, sp' vs H Q E → sp vs H Q E) : FnOk P w K mg base CX k f fd ps sp' :=
  ⟨fun vs H Q E h => F.len _ _ _ _ (key vs H Q E h), fun A outer s H args us vs Q E hr he hb hv h => F.run A outer s H args us vs Q E hr he hb hv (key vs H Q E h)⟩
theorem law_fn {P : Program} {w : World} {K : PySem.W.Frag} {mg : Str → Option Value} {base : Heap} {Md : Facts P K mg} : FnOk P w K mg base CX0 73 Md.law.f Md.law.fd ["script"] (spLaw K) := by
  refine FnOk.imp (all_ok (P := P) (w := w) (base := base) (Md := Md) 71).law fun vs H Q E ⟨a, ns, e, hS, hz, q⟩ => ?_
  subst e
  refine ⟨rfl, H, [.val (.scr ns)], ?_, ?_⟩
  · refine ⟨rfl, fun i s e => ?_, fun b u e => .inl e, fun i j b x _ => ?_⟩
    · match i, e with
      | 0, e =>
        cases e
        exact ⟨.ref a, rfl, by show RepV K H _ _; unfold RepV; exact ⟨a, rfl, hS⟩⟩
    · obtain ⟨(⟨o, e⟩ | ⟨o, e⟩), _⟩ := x
      · match i, e with
        | 0, e => cases e
      · match i, e with
        | 0, e => cases e
  · have e : (tbl Md.C_Reader 71).law [AV.val (.scr ns)] = .ok (.val (.bl true), [none]) := law_ok (C := Md.C_Reader) (t := T Md.C_Reader 70) (fun ns hz => cup_ok ns hz) (turn_T 0) ns hz
    rw [e]
    intro v F' H' st fh rn ro
    have rn : RepV K F' (.bl true) v := rn
    unfold RepV at rn
    subst rn
    exact q H'
end K81

set_option Elab.async false
set_option linter.all false
set_option maxRecDepth 100000
set_option maxHeartbeats 4000000
set_option exponentiation.threshold 100000
/-! Printed by head.py: what the law's head finds. -/
namespace K81
open PySem PySem.Spec PyProof.Rows L2 Pu
def mdOf {P : Program} {K : PySem.W.Frag} {h : Heap} {mg : Str → Option Value} {CI CB fB ccB cdaB : Addr} {nmB qB : Str} {NB : Addr} {bsB bmB : List Value} {snB : List Str} {subB : List Value} {abB : Bool} {colB : Option Bool} {ddB : Option Addr} {k0B k1B k2B k3B k5B : Option Value} {ocB : Value} {odB : Option Addr} {oslB : Array (Option Value)} {kVB docB pmB ctB : Value} {anB : Option Addr} {cclB : Value} {cddB : Option Addr} {vsB : Array Value} {ccsB : Array (Option Value)} {fileB : Str} {tfB : Tok} {clB : Value} {cldB : Option Addr} {cslB : Array (Option Value)} {C_Reader : Addr} {f_is_sign : Addr} {od_is_sign an_is_sign : Option Addr} {sl_is_sign : Array (Option Value)} {oc_is_sign kV_is_sign dc_is_sign pm_is_sign cd_is_sign ct_is_sign : Value} {f_sign_of : Addr} {od_sign_of an_sign_of : Option Addr} {sl_sign_of : Array (Option Value)} {oc_sign_of kV_sign_of dc_sign_of pm_sign_of cd_sign_of ct_sign_of : Value} {f_are_octets : Addr} {od_are_octets an_are_octets : Option Addr} {sl_are_octets : Array (Option Value)} {oc_are_octets kV_are_octets dc_are_octets pm_are_octets cd_are_octets ct_are_octets : Value} {f_few_digits : Addr} {od_few_digits an_few_digits : Option Addr} {sl_few_digits : Array (Option Value)} {oc_few_digits kV_few_digits dc_few_digits pm_few_digits cd_few_digits ct_few_digits : Value} {f_counted : Addr} {od_counted an_counted : Option Addr} {sl_counted : Array (Option Value)} {oc_counted kV_counted dc_counted pm_counted cd_counted ct_counted : Value} {f_digits_of : Addr} {od_digits_of an_digits_of : Option Addr} {sl_digits_of : Array (Option Value)} {oc_digits_of kV_digits_of dc_digits_of pm_digits_of cd_digits_of ct_digits_of : Value} {f_laid : Addr} {od_laid an_laid : Option Addr} {sl_laid : Array (Option Value)} {oc_laid kV_laid dc_laid pm_laid cd_laid ct_laid : Value} {f_write_octets : Addr} {od_write_octets an_write_octets : Option Addr} {sl_write_octets : Array (Option Value)} {oc_write_octets kV_write_octets dc_write_octets pm_write_octets cd_write_octets ct_write_octets : Value} {f_read_digits : Addr} {od_read_digits an_read_digits : Option Addr} {sl_read_digits : Array (Option Value)} {oc_read_digits kV_read_digits dc_read_digits pm_read_digits cd_read_digits ct_read_digits : Value} {f_Reader___init__ : Addr} {od_Reader___init__ an_Reader___init__ : Option Addr} {sl_Reader___init__ : Array (Option Value)} {oc_Reader___init__ kV_Reader___init__ dc_Reader___init__ pm_Reader___init__ cd_Reader___init__ ct_Reader___init__ : Value} {f_Reader_begin : Addr} {od_Reader_begin an_Reader_begin : Option Addr} {sl_Reader_begin : Array (Option Value)} {oc_Reader_begin kV_Reader_begin dc_Reader_begin pm_Reader_begin cd_Reader_begin ct_Reader_begin : Value} {f_Reader_number : Addr} {od_Reader_number an_Reader_number : Option Addr} {sl_Reader_number : Array (Option Value)} {oc_Reader_number kV_Reader_number dc_Reader_number pm_Reader_number cd_Reader_number ct_Reader_number : Value} {f_Reader_string : Addr} {od_Reader_string an_Reader_string : Option Addr} {sl_Reader_string : Array (Option Value)} {oc_Reader_string kV_Reader_string dc_Reader_string pm_Reader_string cd_Reader_string ct_Reader_string : Value} {f_Reader_value : Addr} {od_Reader_value an_Reader_value : Option Addr} {sl_Reader_value : Array (Option Value)} {oc_Reader_value kV_Reader_value dc_Reader_value pm_Reader_value cd_Reader_value ct_Reader_value : Value} {f_read_octets : Addr} {od_read_octets an_read_octets : Option Addr} {sl_read_octets : Array (Option Value)} {oc_read_octets kV_read_octets dc_read_octets pm_read_octets cd_read_octets ct_read_octets : Value} {f_law_cup : Addr} {od_law_cup an_law_cup : Option Addr} {sl_law_cup : Array (Option Value)} {oc_law_cup kV_law_cup dc_law_cup pm_law_cup cd_law_cup ct_law_cup : Value} {f_law_roll : Addr} {od_law_roll an_law_roll : Option Addr} {sl_law_roll : Array (Option Value)} {oc_law_roll kV_law_roll dc_law_roll pm_law_roll cd_law_roll ct_law_roll : Value} {f_law_some : Addr} {od_law_some an_law_some : Option Addr} {sl_law_some : Array (Option Value)} {oc_law_some kV_law_some dc_law_some pm_law_some cd_law_some ct_law_some : Value} {f_law_sort : Addr} {od_law_sort an_law_sort : Option Addr} {sl_law_sort : Array (Option Value)} {oc_law_sort kV_law_sort dc_law_sort pm_law_sort cd_law_sort ct_law_sort : Value} {f_law_like : Addr} {od_law_like an_law_like : Option Addr} {sl_law_like : Array (Option Value)} {oc_law_like kV_law_like dc_law_like pm_law_like cd_law_like ct_law_like : Value} {f_law_signs : Addr} {od_law_signs an_law_signs : Option Addr} {sl_law_signs : Array (Option Value)} {oc_law_signs kV_law_signs dc_law_signs pm_law_signs cd_law_signs ct_law_signs : Value} {f_law_value : Addr} {od_law_value an_law_value : Option Addr} {sl_law_value : Array (Option Value)} {oc_law_value kV_law_value dc_law_value pm_law_value cd_law_value ct_law_value : Value} {f_law_first : Addr} {od_law_first an_law_first : Option Addr} {sl_law_first : Array (Option Value)} {oc_law_first kV_law_first dc_law_first pm_law_first cd_law_first ct_law_first : Value} {f_law : Addr} {od_law an_law : Option Addr} {sl_law : Array (Option Value)} {oc_law kV_law dc_law pm_law cd_law ct_law : Value} {f_law_told : Addr} {od_law_told an_law_told : Option Addr} {sl_law_told : Array (Option Value)} {oc_law_told kV_law_told dc_law_told pm_law_told cd_law_told ct_law_told : Value} {t_DEEP : Tok} {t_DIGITS : Tok} {t_ITEMS : Tok} {t_PARTS : Tok} {t_SIGNS : Tok} (X : K.In h) (G : h.Ns mainGlobals mg)
    (aC_Reader : PySem.W.nsIn K mainGlobals "Reader" = some (some (.ref C_Reader)))
    (a_is_sign : PySem.W.nsIn K mainGlobals "is_sign" = some (some (.ref f_is_sign)))
    (l_is_sign : K.lookup f_is_sign = some ⟨oc_is_sign, od_is_sign, .func (PySem.W.fnOf "is_sign" "is_sign" (defArgs s_is_sign) (defBody s_is_sign) (defScope s_is_sign) .none kV_is_sign dc_is_sign pm_is_sign an_is_sign cd_is_sign ct_is_sign), sl_is_sign⟩)
    (c_is_sign : PySem.W.codeIn K cd_is_sign "is_sign" = true) (k_is_sign : PySem.W.keepIn K (.ref f_is_sign) = true)
    (a_sign_of : PySem.W.nsIn K mainGlobals "sign_of" = some (some (.ref f_sign_of)))
    (l_sign_of : K.lookup f_sign_of = some ⟨oc_sign_of, od_sign_of, .func (PySem.W.fnOf "sign_of" "sign_of" (defArgs s_sign_of) (defBody s_sign_of) (defScope s_sign_of) .none kV_sign_of dc_sign_of pm_sign_of an_sign_of cd_sign_of ct_sign_of), sl_sign_of⟩)
    (c_sign_of : PySem.W.codeIn K cd_sign_of "sign_of" = true) (k_sign_of : PySem.W.keepIn K (.ref f_sign_of) = true)
    (a_are_octets : PySem.W.nsIn K mainGlobals "are_octets" = some (some (.ref f_are_octets)))
    (l_are_octets : K.lookup f_are_octets = some ⟨oc_are_octets, od_are_octets, .func (PySem.W.fnOf "are_octets" "are_octets" (defArgs s_are_octets) (defBody s_are_octets) (defScope s_are_octets) .none kV_are_octets dc_are_octets pm_are_octets an_are_octets cd_are_octets ct_are_octets), sl_are_octets⟩)
    (c_are_octets : PySem.W.codeIn K cd_are_octets "are_octets" = true) (k_are_octets : PySem.W.keepIn K (.ref f_are_octets) = true)
    (a_few_digits : PySem.W.nsIn K mainGlobals "few_digits" = some (some (.ref f_few_digits)))
    (l_few_digits : K.lookup f_few_digits = some ⟨oc_few_digits, od_few_digits, .func (PySem.W.fnOf "few_digits" "few_digits" (defArgs s_few_digits) (defBody s_few_digits) (defScope s_few_digits) .none kV_few_digits dc_few_digits pm_few_digits an_few_digits cd_few_digits ct_few_digits), sl_few_digits⟩)
    (c_few_digits : PySem.W.codeIn K cd_few_digits "few_digits" = true) (k_few_digits : PySem.W.keepIn K (.ref f_few_digits) = true)
    (a_counted : PySem.W.nsIn K mainGlobals "counted" = some (some (.ref f_counted)))
    (l_counted : K.lookup f_counted = some ⟨oc_counted, od_counted, .func (PySem.W.fnOf "counted" "counted" (defArgs s_counted) (defBody s_counted) (defScope s_counted) .none kV_counted dc_counted pm_counted an_counted cd_counted ct_counted), sl_counted⟩)
    (c_counted : PySem.W.codeIn K cd_counted "counted" = true) (k_counted : PySem.W.keepIn K (.ref f_counted) = true)
    (a_digits_of : PySem.W.nsIn K mainGlobals "digits_of" = some (some (.ref f_digits_of)))
    (l_digits_of : K.lookup f_digits_of = some ⟨oc_digits_of, od_digits_of, .func (PySem.W.fnOf "digits_of" "digits_of" (defArgs s_digits_of) (defBody s_digits_of) (defScope s_digits_of) .none kV_digits_of dc_digits_of pm_digits_of an_digits_of cd_digits_of ct_digits_of), sl_digits_of⟩)
    (c_digits_of : PySem.W.codeIn K cd_digits_of "digits_of" = true) (k_digits_of : PySem.W.keepIn K (.ref f_digits_of) = true)
    (a_laid : PySem.W.nsIn K mainGlobals "laid" = some (some (.ref f_laid)))
    (l_laid : K.lookup f_laid = some ⟨oc_laid, od_laid, .func (PySem.W.fnOf "laid" "laid" (defArgs s_laid) (defBody s_laid) (defScope s_laid) .none kV_laid dc_laid pm_laid an_laid cd_laid ct_laid), sl_laid⟩)
    (c_laid : PySem.W.codeIn K cd_laid "laid" = true) (k_laid : PySem.W.keepIn K (.ref f_laid) = true)
    (a_write_octets : PySem.W.nsIn K mainGlobals "write_octets" = some (some (.ref f_write_octets)))
    (l_write_octets : K.lookup f_write_octets = some ⟨oc_write_octets, od_write_octets, .func (PySem.W.fnOf "write_octets" "write_octets" (defArgs s_write_octets) (defBody s_write_octets) (defScope s_write_octets) .none kV_write_octets dc_write_octets pm_write_octets an_write_octets cd_write_octets ct_write_octets), sl_write_octets⟩)
    (c_write_octets : PySem.W.codeIn K cd_write_octets "write_octets" = true) (k_write_octets : PySem.W.keepIn K (.ref f_write_octets) = true)
    (a_read_digits : PySem.W.nsIn K mainGlobals "read_digits" = some (some (.ref f_read_digits)))
    (l_read_digits : K.lookup f_read_digits = some ⟨oc_read_digits, od_read_digits, .func (PySem.W.fnOf "read_digits" "read_digits" (defArgs s_read_digits) (defBody s_read_digits) (defScope s_read_digits) .none kV_read_digits dc_read_digits pm_read_digits an_read_digits cd_read_digits ct_read_digits), sl_read_digits⟩)
    (c_read_digits : PySem.W.codeIn K cd_read_digits "read_digits" = true) (k_read_digits : PySem.W.keepIn K (.ref f_read_digits) = true)
    (a_Reader___init__ : PySem.W.findIn K (.ref C_Reader) "__init__" = some (some (.ref f_Reader___init__))) (i_Reader___init__ : PySem.W.isFn K (.ref f_Reader___init__) = true)
    (l_Reader___init__ : K.lookup f_Reader___init__ = some ⟨oc_Reader___init__, od_Reader___init__, .func (PySem.W.fnOf "__init__" "Reader.__init__" (defArgs s_Reader___init__) (defBody s_Reader___init__) (defScope s_Reader___init__) .none kV_Reader___init__ dc_Reader___init__ pm_Reader___init__ an_Reader___init__ cd_Reader___init__ ct_Reader___init__), sl_Reader___init__⟩)
    (c_Reader___init__ : PySem.W.codeIn K cd_Reader___init__ "Reader.__init__" = true) (k_Reader___init__ : PySem.W.keepIn K (.ref f_Reader___init__) = true)
    (a_Reader_begin : PySem.W.findIn K (.ref C_Reader) "begin" = some (some (.ref f_Reader_begin))) (i_Reader_begin : PySem.W.isFn K (.ref f_Reader_begin) = true)
    (l_Reader_begin : K.lookup f_Reader_begin = some ⟨oc_Reader_begin, od_Reader_begin, .func (PySem.W.fnOf "begin" "Reader.begin" (defArgs s_Reader_begin) (defBody s_Reader_begin) (defScope s_Reader_begin) .none kV_Reader_begin dc_Reader_begin pm_Reader_begin an_Reader_begin cd_Reader_begin ct_Reader_begin), sl_Reader_begin⟩)
    (c_Reader_begin : PySem.W.codeIn K cd_Reader_begin "Reader.begin" = true) (k_Reader_begin : PySem.W.keepIn K (.ref f_Reader_begin) = true)
    (a_Reader_number : PySem.W.findIn K (.ref C_Reader) "number" = some (some (.ref f_Reader_number))) (i_Reader_number : PySem.W.isFn K (.ref f_Reader_number) = true)
    (l_Reader_number : K.lookup f_Reader_number = some ⟨oc_Reader_number, od_Reader_number, .func (PySem.W.fnOf "number" "Reader.number" (defArgs s_Reader_number) (defBody s_Reader_number) (defScope s_Reader_number) .none kV_Reader_number dc_Reader_number pm_Reader_number an_Reader_number cd_Reader_number ct_Reader_number), sl_Reader_number⟩)
    (c_Reader_number : PySem.W.codeIn K cd_Reader_number "Reader.number" = true) (k_Reader_number : PySem.W.keepIn K (.ref f_Reader_number) = true)
    (a_Reader_string : PySem.W.findIn K (.ref C_Reader) "string" = some (some (.ref f_Reader_string))) (i_Reader_string : PySem.W.isFn K (.ref f_Reader_string) = true)
    (l_Reader_string : K.lookup f_Reader_string = some ⟨oc_Reader_string, od_Reader_string, .func (PySem.W.fnOf "string" "Reader.string" (defArgs s_Reader_string) (defBody s_Reader_string) (defScope s_Reader_string) .none kV_Reader_string dc_Reader_string pm_Reader_string an_Reader_string cd_Reader_string ct_Reader_string), sl_Reader_string⟩)
    (c_Reader_string : PySem.W.codeIn K cd_Reader_string "Reader.string" = true) (k_Reader_string : PySem.W.keepIn K (.ref f_Reader_string) = true)
    (a_Reader_value : PySem.W.findIn K (.ref C_Reader) "value" = some (some (.ref f_Reader_value))) (i_Reader_value : PySem.W.isFn K (.ref f_Reader_value) = true)
    (l_Reader_value : K.lookup f_Reader_value = some ⟨oc_Reader_value, od_Reader_value, .func (PySem.W.fnOf "value" "Reader.value" (defArgs s_Reader_value) (defBody s_Reader_value) (defScope s_Reader_value) .none kV_Reader_value dc_Reader_value pm_Reader_value an_Reader_value cd_Reader_value ct_Reader_value), sl_Reader_value⟩)
    (c_Reader_value : PySem.W.codeIn K cd_Reader_value "Reader.value" = true) (k_Reader_value : PySem.W.keepIn K (.ref f_Reader_value) = true)
    (a_read_octets : PySem.W.nsIn K mainGlobals "read_octets" = some (some (.ref f_read_octets)))
    (l_read_octets : K.lookup f_read_octets = some ⟨oc_read_octets, od_read_octets, .func (PySem.W.fnOf "read_octets" "read_octets" (defArgs s_read_octets) (defBody s_read_octets) (defScope s_read_octets) .none kV_read_octets dc_read_octets pm_read_octets an_read_octets cd_read_octets ct_read_octets), sl_read_octets⟩)
    (c_read_octets : PySem.W.codeIn K cd_read_octets "read_octets" = true) (k_read_octets : PySem.W.keepIn K (.ref f_read_octets) = true)
    (a_law_cup : PySem.W.nsIn K mainGlobals "_law_cup" = some (some (.ref f_law_cup)))
    (l_law_cup : K.lookup f_law_cup = some ⟨oc_law_cup, od_law_cup, .func (PySem.W.fnOf "_law_cup" "_law_cup" (defArgs s_law_cup) (defBody s_law_cup) (defScope s_law_cup) .none kV_law_cup dc_law_cup pm_law_cup an_law_cup cd_law_cup ct_law_cup), sl_law_cup⟩)
    (c_law_cup : PySem.W.codeIn K cd_law_cup "_law_cup" = true) (k_law_cup : PySem.W.keepIn K (.ref f_law_cup) = true)
    (a_law_roll : PySem.W.nsIn K mainGlobals "_law_roll" = some (some (.ref f_law_roll)))
    (l_law_roll : K.lookup f_law_roll = some ⟨oc_law_roll, od_law_roll, .func (PySem.W.fnOf "_law_roll" "_law_roll" (defArgs s_law_roll) (defBody s_law_roll) (defScope s_law_roll) .none kV_law_roll dc_law_roll pm_law_roll an_law_roll cd_law_roll ct_law_roll), sl_law_roll⟩)
    (c_law_roll : PySem.W.codeIn K cd_law_roll "_law_roll" = true) (k_law_roll : PySem.W.keepIn K (.ref f_law_roll) = true)
    (a_law_some : PySem.W.nsIn K mainGlobals "_law_some" = some (some (.ref f_law_some)))
    (l_law_some : K.lookup f_law_some = some ⟨oc_law_some, od_law_some, .func (PySem.W.fnOf "_law_some" "_law_some" (defArgs s_law_some) (defBody s_law_some) (defScope s_law_some) .none kV_law_some dc_law_some pm_law_some an_law_some cd_law_some ct_law_some), sl_law_some⟩)
    (c_law_some : PySem.W.codeIn K cd_law_some "_law_some" = true) (k_law_some : PySem.W.keepIn K (.ref f_law_some) = true)
    (a_law_sort : PySem.W.nsIn K mainGlobals "_law_sort" = some (some (.ref f_law_sort)))
    (l_law_sort : K.lookup f_law_sort = some ⟨oc_law_sort, od_law_sort, .func (PySem.W.fnOf "_law_sort" "_law_sort" (defArgs s_law_sort) (defBody s_law_sort) (defScope s_law_sort) .none kV_law_sort dc_law_sort pm_law_sort an_law_sort cd_law_sort ct_law_sort), sl_law_sort⟩)
    (c_law_sort : PySem.W.codeIn K cd_law_sort "_law_sort" = true) (k_law_sort : PySem.W.keepIn K (.ref f_law_sort) = true)
    (a_law_like : PySem.W.nsIn K mainGlobals "_law_like" = some (some (.ref f_law_like)))
    (l_law_like : K.lookup f_law_like = some ⟨oc_law_like, od_law_like, .func (PySem.W.fnOf "_law_like" "_law_like" (defArgs s_law_like) (defBody s_law_like) (defScope s_law_like) .none kV_law_like dc_law_like pm_law_like an_law_like cd_law_like ct_law_like), sl_law_like⟩)
    (c_law_like : PySem.W.codeIn K cd_law_like "_law_like" = true) (k_law_like : PySem.W.keepIn K (.ref f_law_like) = true)
    (a_law_signs : PySem.W.nsIn K mainGlobals "_law_signs" = some (some (.ref f_law_signs)))
    (l_law_signs : K.lookup f_law_signs = some ⟨oc_law_signs, od_law_signs, .func (PySem.W.fnOf "_law_signs" "_law_signs" (defArgs s_law_signs) (defBody s_law_signs) (defScope s_law_signs) .none kV_law_signs dc_law_signs pm_law_signs an_law_signs cd_law_signs ct_law_signs), sl_law_signs⟩)
    (c_law_signs : PySem.W.codeIn K cd_law_signs "_law_signs" = true) (k_law_signs : PySem.W.keepIn K (.ref f_law_signs) = true)
    (a_law_value : PySem.W.nsIn K mainGlobals "_law_value" = some (some (.ref f_law_value)))
    (l_law_value : K.lookup f_law_value = some ⟨oc_law_value, od_law_value, .func (PySem.W.fnOf "_law_value" "_law_value" (defArgs s_law_value) (defBody s_law_value) (defScope s_law_value) .none kV_law_value dc_law_value pm_law_value an_law_value cd_law_value ct_law_value), sl_law_value⟩)
    (c_law_value : PySem.W.codeIn K cd_law_value "_law_value" = true) (k_law_value : PySem.W.keepIn K (.ref f_law_value) = true)
    (a_law_first : PySem.W.nsIn K mainGlobals "_law_first" = some (some (.ref f_law_first)))
    (l_law_first : K.lookup f_law_first = some ⟨oc_law_first, od_law_first, .func (PySem.W.fnOf "_law_first" "_law_first" (defArgs s_law_first) (defBody s_law_first) (defScope s_law_first) .none kV_law_first dc_law_first pm_law_first an_law_first cd_law_first ct_law_first), sl_law_first⟩)
    (c_law_first : PySem.W.codeIn K cd_law_first "_law_first" = true) (k_law_first : PySem.W.keepIn K (.ref f_law_first) = true)
    (a_law : PySem.W.nsIn K mainGlobals "law" = some (some (.ref f_law)))
    (l_law : K.lookup f_law = some ⟨oc_law, od_law, .func (PySem.W.fnOf "law" "law" (defArgs s_law) (defBody s_law) (defScope s_law) .none kV_law dc_law pm_law an_law cd_law ct_law), sl_law⟩)
    (c_law : PySem.W.codeIn K cd_law "law" = true) (k_law : PySem.W.keepIn K (.ref f_law) = true)
    (a_law_told : PySem.W.nsIn K mainGlobals "_law_told" = some (some (.ref f_law_told)))
    (l_law_told : K.lookup f_law_told = some ⟨oc_law_told, od_law_told, .func (PySem.W.fnOf "_law_told" "_law_told" (defArgs s_law_told) (defBody s_law_told) (defScope s_law_told) .none kV_law_told dc_law_told pm_law_told an_law_told cd_law_told ct_law_told), sl_law_told⟩)
    (c_law_told : PySem.W.codeIn K cd_law_told "_law_told" = true) (k_law_told : PySem.W.keepIn K (.ref f_law_told) = true)
    (pg_Reader : PySem.W.plainGet K C_Reader Str.empty = true) (hd_Reader : PySem.W.hasDictIn K C_Reader = true) (po_Reader : PySem.W.plainOver K C_Reader = true) (sa_Reader : PySem.W.findIn K (.ref C_Reader) "__setattr__" = some (some (.builtin "object.__setattr__"))) (mk_Reader : PySem.W.makesIn K C_Reader = true) (kc_Reader : PySem.W.keepIn K (.ref C_Reader) = true)
    (na_Reader_octets : PySem.W.findIn K (.ref C_Reader) "octets" = some none)
    (na_Reader_at : PySem.W.findIn K (.ref C_Reader) "at" = some none)
    (na_Reader_parts : PySem.W.findIn K (.ref C_Reader) "parts" = some none)
    (z_abs : PySem.W.nsIn K mainGlobals "abs" = some none)
    (z_all : PySem.W.nsIn K mainGlobals "all" = some none)
    (z_bool : PySem.W.nsIn K mainGlobals "bool" = some none)
    (z_bytes : PySem.W.nsIn K mainGlobals "bytes" = some none)
    (z_int : PySem.W.nsIn K mainGlobals "int" = some none)
    (z_isinstance : PySem.W.nsIn K mainGlobals "isinstance" = some none)
    (z_len : PySem.W.nsIn K mainGlobals "len" = some none)
    (z_list : PySem.W.nsIn K mainGlobals "list" = some none)
    (z_min : PySem.W.nsIn K mainGlobals "min" = some none)
    (z_ord : PySem.W.nsIn K mainGlobals "ord" = some none)
    (z_range : PySem.W.nsIn K mainGlobals "range" = some none)
    (z_str : PySem.W.nsIn K mainGlobals "str" = some none)
    (z_tuple : PySem.W.nsIn K mainGlobals "tuple" = some none)
    (z_zip : PySem.W.nsIn K mainGlobals "zip" = some none)
    (v_DEEP : PySem.W.nsIn K mainGlobals "DEEP" = some (some (.int 60 t_DEEP)))
    (v_DIGITS : PySem.W.nsIn K mainGlobals "DIGITS" = some (some (.int 950 t_DIGITS)))
    (v_ITEMS : PySem.W.nsIn K mainGlobals "ITEMS" = some (some (.int 50000 t_ITEMS)))
    (v_PARTS : PySem.W.nsIn K mainGlobals "PARTS" = some (some (.int 500000 t_PARTS)))
    (v_SIGNS : PySem.W.nsIn K mainGlobals "SIGNS" = some (some (.int 20000 t_SIGNS)))
    (gI : PySem.W.nsIn K mainGlobals "InvalidOctets" = some (some (.ref CI)))
    (gB : PySem.W.nsIn K mainGlobals "BadText" = some (some (.ref CB)))
    (xI : PySem.W.excIn K CI [.type "ValueError", .type "Exception", .type "BaseException", .type "object"] "ValueError.__new__" = true)
    (kI : PySem.W.keepIn K (.ref CI) = true)
    (bI : PySem.W.subIn K (.ref CI) (.type "BaseException") = some true)
    (tI : PySem.W.typeIn K (.ref CI) = some (.type "type"))
    (zS : PySem.W.nsIn K mainGlobals "super" = some none)
    (eB : PySem.W.exmOne K (.ref CB) (.ref CB) = some true)
    (eI : PySem.W.exmOne K (.ref CI) (.ref CB) = some false)
    (x1 : PySem.W.findIn K (.ref CB) "__getattribute__" = some (some (.builtin "BaseException.__getattribute__")))
    (x2 : PySem.W.findIn K (.ref CB) "__getattr__" = some none)
    (x4 : PySem.W.hasDictIn K CB = true)
    (lC : K.lookup CB = some (excClassObj nmB qB CB NB bsB bmB true snB subB abB colB ddB k0B k1B k2B k3B k5B "ValueError.__new__"))
    (vC : PySem.HandSPX.refsVE bmB = true)
    (saB : PySem.W.findIn K (.ref CB) "__setattr__" = some (some (.builtin "object.__setattr__")))
    (bB : PySem.W.subIn K (.ref CB) (.type "BaseException") = some true)
    (tB : PySem.W.typeIn K (.ref CB) = some (.type "type"))
    (kB : PySem.W.keepIn K (.ref CB) = true)
    (hiB : PySem.W.findIn K (.ref CB) "__init__" = some (some (.ref fB)))
    (tfiB : PySem.W.typeIn K (.ref fB) = some (.type "function"))
    (lB : K.lookup fB = some ⟨ocB, odB, .func (PySem.W.fnX "__init__" "BadText.__init__" (defArgs sBad) (defBody sBad) (defScope sBad) [("__class__", ccB)] .none kVB docB pmB anB (.ref cdaB) ctB), oslB⟩)
    (cB : PySem.W.codeIn K (.ref cdaB) "BadText.__init__" = true)
    (lcdB : K.lookup cdaB = some ⟨cclB, cddB, .fields vsB, ccsB⟩)
    (v2B : vsB[2]? = some (.str fileB tfB))
    (fiB : ((P.main.file : Str) == fileB) = true)
    (lccB : K.lookup ccB = some ⟨clB, cldB, .cell (some (.ref CB)), cslB⟩)
    (topB : (P.main.scope.names.lookup ("super" : Str)).isSome = false)
    (suB : PySem.W.ks_superIn K CB CB "__init__" = some (some (.builtin "ValueError.__init__")))
    (veB : PySem.W.subIn K (.ref CB) (.type "ValueError") = some true)
    (seB : PySem.W.mroIn K CB (.ref CB) = some true)
    (anyB : PySem.W.nsIn K cStatics "thirdparty.any" = some none)
    (flB : PySem.W.findIn K (.ref CB) "at" = some none) : Facts P K mg where
  C_Reader := C_Reader
  is_sign := Pu.FnF.of X G a_is_sign l_is_sign c_is_sign k_is_sign (fun _ _ _ _ _ _ us hl => match us, hl with | [_], _ => rfl)
  sign_of := Pu.FnF.of X G a_sign_of l_sign_of c_sign_of k_sign_of (fun _ _ _ _ _ _ us hl => match us, hl with | [_], _ => rfl)
  are_octets := Pu.FnF.of X G a_are_octets l_are_octets c_are_octets k_are_octets (fun _ _ _ _ _ _ us hl => match us, hl with | [_], _ => rfl)
  few_digits := Pu.FnF.of X G a_few_digits l_few_digits c_few_digits k_few_digits (fun _ _ _ _ _ _ us hl => match us, hl with | [_], _ => rfl)
  counted := Pu.FnF.of X G a_counted l_counted c_counted k_counted (fun _ _ _ _ _ _ us hl => match us, hl with | [_, _], _ => rfl)
  digits_of := Pu.FnF.of X G a_digits_of l_digits_of c_digits_of k_digits_of (fun _ _ _ _ _ _ us hl => match us, hl with | [_], _ => rfl)
  laid := Pu.FnF.of X G a_laid l_laid c_laid k_laid (fun _ _ _ _ _ _ us hl => match us, hl with | [_], _ => rfl)
  write_octets := Pu.FnF.of X G a_write_octets l_write_octets c_write_octets k_write_octets (fun _ _ _ _ _ _ us hl => match us, hl with | [_], _ => rfl)
  read_digits := Pu.FnF.of X G a_read_digits l_read_digits c_read_digits k_read_digits (fun _ _ _ _ _ _ us hl => match us, hl with | [_, _, _], _ => rfl)
  Reader___init__ := Pu.FnM.of a_Reader___init__ i_Reader___init__ l_Reader___init__ c_Reader___init__ k_Reader___init__ (fun _ _ _ _ _ _ us hl => match us, hl with | [_, _], _ => rfl)
  Reader_begin := Pu.FnM.of a_Reader_begin i_Reader_begin l_Reader_begin c_Reader_begin k_Reader_begin (fun _ _ _ _ _ _ us hl => match us, hl with | [_], _ => rfl)
  Reader_number := Pu.FnM.of a_Reader_number i_Reader_number l_Reader_number c_Reader_number k_Reader_number (fun _ _ _ _ _ _ us hl => match us, hl with | [_, _], _ => rfl)
  Reader_string := Pu.FnM.of a_Reader_string i_Reader_string l_Reader_string c_Reader_string k_Reader_string (fun _ _ _ _ _ _ us hl => match us, hl with | [_], _ => rfl)
  Reader_value := Pu.FnM.of a_Reader_value i_Reader_value l_Reader_value c_Reader_value k_Reader_value (fun _ _ _ _ _ _ us hl => match us, hl with | [_, _], _ => rfl)
  read_octets := Pu.FnF.of X G a_read_octets l_read_octets c_read_octets k_read_octets (fun _ _ _ _ _ _ us hl => match us, hl with | [_], _ => rfl)
  law_cup := Pu.FnF.of X G a_law_cup l_law_cup c_law_cup k_law_cup (fun _ _ _ _ _ _ us hl => match us, hl with | [_], _ => rfl)
  law_roll := Pu.FnF.of X G a_law_roll l_law_roll c_law_roll k_law_roll (fun _ _ _ _ _ _ us hl => match us, hl with | [_, _], _ => rfl)
  law_some := Pu.FnF.of X G a_law_some l_law_some c_law_some k_law_some (fun _ _ _ _ _ _ us hl => match us, hl with | [_, _], _ => rfl)
  law_sort := Pu.FnF.of X G a_law_sort l_law_sort c_law_sort k_law_sort (fun _ _ _ _ _ _ us hl => match us, hl with | [_], _ => rfl)
  law_like := Pu.FnF.of X G a_law_like l_law_like c_law_like k_law_like (fun _ _ _ _ _ _ us hl => match us, hl with | [_, _], _ => rfl)
  law_signs := Pu.FnF.of X G a_law_signs l_law_signs c_law_signs k_law_signs (fun _ _ _ _ _ _ us hl => match us, hl with | [_], _ => rfl)
  law_value := Pu.FnF.of X G a_law_value l_law_value c_law_value k_law_value (fun _ _ _ _ _ _ us hl => match us, hl with | [_, _], _ => rfl)
  law_first := Pu.FnF.of X G a_law_first l_law_first c_law_first k_law_first (fun _ _ _ _ _ _ us hl => match us, hl with | [_], _ => rfl)
  law := Pu.FnF.of X G a_law l_law c_law k_law (fun _ _ _ _ _ _ us hl => match us, hl with | [_], _ => rfl)
  law_told := Pu.FnF.of X G a_law_told l_law_told c_law_told k_law_told (fun _ _ _ _ _ _ us hl => match us, hl with | [_], _ => rfl)
  cl_Reader := ⟨pg_Reader, hd_Reader, po_Reader, sa_Reader⟩
  cg_Reader := PySem.W.mg_of X G aC_Reader
  mk_Reader := ⟨mk_Reader, a_Reader___init__, i_Reader___init__, kc_Reader⟩
  na_Reader_octets := na_Reader_octets
  na_Reader_at := na_Reader_at
  na_Reader_parts := na_Reader_parts
  z_abs := PySem.W.mg_none_of X G z_abs
  z_all := PySem.W.mg_none_of X G z_all
  z_bool := PySem.W.mg_none_of X G z_bool
  z_bytes := PySem.W.mg_none_of X G z_bytes
  z_int := PySem.W.mg_none_of X G z_int
  z_isinstance := PySem.W.mg_none_of X G z_isinstance
  z_len := PySem.W.mg_none_of X G z_len
  z_list := PySem.W.mg_none_of X G z_list
  z_min := PySem.W.mg_none_of X G z_min
  z_ord := PySem.W.mg_none_of X G z_ord
  z_range := PySem.W.mg_none_of X G z_range
  z_str := PySem.W.mg_none_of X G z_str
  z_tuple := PySem.W.mg_none_of X G z_tuple
  z_zip := PySem.W.mg_none_of X G z_zip
  t_DEEP := t_DEEP
  c_DEEP := PySem.W.mg_of X G v_DEEP
  t_DIGITS := t_DIGITS
  c_DIGITS := PySem.W.mg_of X G v_DIGITS
  t_ITEMS := t_ITEMS
  c_ITEMS := PySem.W.mg_of X G v_ITEMS
  t_PARTS := t_PARTS
  c_PARTS := PySem.W.mg_of X G v_PARTS
  t_SIGNS := t_SIGNS
  c_SIGNS := PySem.W.mg_of X G v_SIGNS
  CI := CI
  CB := CB
  fB := fB
  fdB := PySem.W.fnX "__init__" "BadText.__init__" (defArgs sBad) (defBody sBad) (defScope sBad) [("__class__", ccB)] .none kVB docB pmB anB (.ref cdaB) ctB
  gI := PySem.W.mg_of X G gI
  xI := xI
  kI := kI
  bI := bI
  tI := tI
  gB := PySem.W.mg_of X G gB
  sB := sB_of (nmB := nmB) (qB := qB) (NB := NB) (bsB := bsB) (bmB := bmB) ⟨⟨_, _, _, _, _, _, _, _, _, _, _, _, _, _, _, lC, vC⟩, saB, bB, tB, kB⟩ hiB tfiB lB cB lcdB v2B fiB lccB topB suB veB seB anyB flB
  ms := PySem.W.mg_none_of X G zS
  eB := eB
  eI := eI
  xfB := ⟨x1, x2, bB, x4⟩
theorem all_mk {l : PySem.W.OpenLaw} {w : World} {K : PySem.W.Frag} {h : Heap} {mg : Str → Option Value} {fa : Addr} {CI CB fB ccB cdaB : Addr} {nmB qB : Str} {NB : Addr} {bsB bmB : List Value} {snB : List Str} {subB : List Value} {abB : Bool} {colB : Option Bool} {ddB : Option Addr} {k0B k1B k2B k3B k5B : Option Value} {ocB : Value} {odB : Option Addr} {oslB : Array (Option Value)} {kVB docB pmB ctB : Value} {anB : Option Addr} {cclB : Value} {cddB : Option Addr} {vsB : Array Value} {ccsB : Array (Option Value)} {fileB : Str} {tfB : Tok} {clB : Value} {cldB : Option Addr} {cslB : Array (Option Value)} {C_Reader : Addr} {f_is_sign : Addr} {od_is_sign an_is_sign : Option Addr} {sl_is_sign : Array (Option Value)} {oc_is_sign kV_is_sign dc_is_sign pm_is_sign cd_is_sign ct_is_sign : Value} {f_sign_of : Addr} {od_sign_of an_sign_of : Option Addr} {sl_sign_of : Array (Option Value)} {oc_sign_of kV_sign_of dc_sign_of pm_sign_of cd_sign_of ct_sign_of : Value} {f_are_octets : Addr} {od_are_octets an_are_octets : Option Addr} {sl_are_octets : Array (Option Value)} {oc_are_octets kV_are_octets dc_are_octets pm_are_octets cd_are_octets ct_are_octets : Value} {f_few_digits : Addr} {od_few_digits an_few_digits : Option Addr} {sl_few_digits : Array (Option Value)} {oc_few_digits kV_few_digits dc_few_digits pm_few_digits cd_few_digits ct_few_digits : Value} {f_counted : Addr} {od_counted an_counted : Option Addr} {sl_counted : Array (Option Value)} {oc_counted kV_counted dc_counted pm_counted cd_counted ct_counted : Value} {f_digits_of : Addr} {od_digits_of an_digits_of : Option Addr} {sl_digits_of : Array (Option Value)} {oc_digits_of kV_digits_of dc_digits_of pm_digits_of cd_digits_of ct_digits_of : Value} {f_laid : Addr} {od_laid an_laid : Option Addr} {sl_laid : Array (Option Value)} {oc_laid kV_laid dc_laid pm_laid cd_laid ct_laid : Value} {f_write_octets : Addr} {od_write_octets an_write_octets : Option Addr} {sl_write_octets : Array (Option Value)} {oc_write_octets kV_write_octets dc_write_octets pm_write_octets cd_write_octets ct_write_octets : Value} {f_read_digits : Addr} {od_read_digits an_read_digits : Option Addr} {sl_read_digits : Array (Option Value)} {oc_read_digits kV_read_digits dc_read_digits pm_read_digits cd_read_digits ct_read_digits : Value} {f_Reader___init__ : Addr} {od_Reader___init__ an_Reader___init__ : Option Addr} {sl_Reader___init__ : Array (Option Value)} {oc_Reader___init__ kV_Reader___init__ dc_Reader___init__ pm_Reader___init__ cd_Reader___init__ ct_Reader___init__ : Value} {f_Reader_begin : Addr} {od_Reader_begin an_Reader_begin : Option Addr} {sl_Reader_begin : Array (Option Value)} {oc_Reader_begin kV_Reader_begin dc_Reader_begin pm_Reader_begin cd_Reader_begin ct_Reader_begin : Value} {f_Reader_number : Addr} {od_Reader_number an_Reader_number : Option Addr} {sl_Reader_number : Array (Option Value)} {oc_Reader_number kV_Reader_number dc_Reader_number pm_Reader_number cd_Reader_number ct_Reader_number : Value} {f_Reader_string : Addr} {od_Reader_string an_Reader_string : Option Addr} {sl_Reader_string : Array (Option Value)} {oc_Reader_string kV_Reader_string dc_Reader_string pm_Reader_string cd_Reader_string ct_Reader_string : Value} {f_Reader_value : Addr} {od_Reader_value an_Reader_value : Option Addr} {sl_Reader_value : Array (Option Value)} {oc_Reader_value kV_Reader_value dc_Reader_value pm_Reader_value cd_Reader_value ct_Reader_value : Value} {f_read_octets : Addr} {od_read_octets an_read_octets : Option Addr} {sl_read_octets : Array (Option Value)} {oc_read_octets kV_read_octets dc_read_octets pm_read_octets cd_read_octets ct_read_octets : Value} {f_law_cup : Addr} {od_law_cup an_law_cup : Option Addr} {sl_law_cup : Array (Option Value)} {oc_law_cup kV_law_cup dc_law_cup pm_law_cup cd_law_cup ct_law_cup : Value} {f_law_roll : Addr} {od_law_roll an_law_roll : Option Addr} {sl_law_roll : Array (Option Value)} {oc_law_roll kV_law_roll dc_law_roll pm_law_roll cd_law_roll ct_law_roll : Value} {f_law_some : Addr} {od_law_some an_law_some : Option Addr} {sl_law_some : Array (Option Value)} {oc_law_some kV_law_some dc_law_some pm_law_some cd_law_some ct_law_some : Value} {f_law_sort : Addr} {od_law_sort an_law_sort : Option Addr} {sl_law_sort : Array (Option Value)} {oc_law_sort kV_law_sort dc_law_sort pm_law_sort cd_law_sort ct_law_sort : Value} {f_law_like : Addr} {od_law_like an_law_like : Option Addr} {sl_law_like : Array (Option Value)} {oc_law_like kV_law_like dc_law_like pm_law_like cd_law_like ct_law_like : Value} {f_law_signs : Addr} {od_law_signs an_law_signs : Option Addr} {sl_law_signs : Array (Option Value)} {oc_law_signs kV_law_signs dc_law_signs pm_law_signs cd_law_signs ct_law_signs : Value} {f_law_value : Addr} {od_law_value an_law_value : Option Addr} {sl_law_value : Array (Option Value)} {oc_law_value kV_law_value dc_law_value pm_law_value cd_law_value ct_law_value : Value} {f_law_first : Addr} {od_law_first an_law_first : Option Addr} {sl_law_first : Array (Option Value)} {oc_law_first kV_law_first dc_law_first pm_law_first cd_law_first ct_law_first : Value} {f_law : Addr} {od_law an_law : Option Addr} {sl_law : Array (Option Value)} {oc_law kV_law dc_law pm_law cd_law ct_law : Value} {f_law_told : Addr} {od_law_told an_law_told : Option Addr} {sl_law_told : Array (Option Value)} {oc_law_told kV_law_told dc_law_told pm_law_told cd_law_told ct_law_told : Value} {t_DEEP : Tok} {t_DIGITS : Tok} {t_ITEMS : Tok} {t_PARTS : Tok} {t_SIGNS : Tok}  (X : K.In h) (G : h.Ns mainGlobals mg) (hfa : mg "law" = some (.ref fa))
    (aC_Reader : PySem.W.nsIn K mainGlobals "Reader" = some (some (.ref C_Reader)))
    (a_is_sign : PySem.W.nsIn K mainGlobals "is_sign" = some (some (.ref f_is_sign)))
    (l_is_sign : K.lookup f_is_sign = some ⟨oc_is_sign, od_is_sign, .func (PySem.W.fnOf "is_sign" "is_sign" (defArgs s_is_sign) (defBody s_is_sign) (defScope s_is_sign) .none kV_is_sign dc_is_sign pm_is_sign an_is_sign cd_is_sign ct_is_sign), sl_is_sign⟩)
    (c_is_sign : PySem.W.codeIn K cd_is_sign "is_sign" = true) (k_is_sign : PySem.W.keepIn K (.ref f_is_sign) = true)
    (a_sign_of : PySem.W.nsIn K mainGlobals "sign_of" = some (some (.ref f_sign_of)))
    (l_sign_of : K.lookup f_sign_of = some ⟨oc_sign_of, od_sign_of, .func (PySem.W.fnOf "sign_of" "sign_of" (defArgs s_sign_of) (defBody s_sign_of) (defScope s_sign_of) .none kV_sign_of dc_sign_of pm_sign_of an_sign_of cd_sign_of ct_sign_of), sl_sign_of⟩)
    (c_sign_of : PySem.W.codeIn K cd_sign_of "sign_of" = true) (k_sign_of : PySem.W.keepIn K (.ref f_sign_of) = true)
    (a_are_octets : PySem.W.nsIn K mainGlobals "are_octets" = some (some (.ref f_are_octets)))
    (l_are_octets : K.lookup f_are_octets = some ⟨oc_are_octets, od_are_octets, .func (PySem.W.fnOf "are_octets" "are_octets" (defArgs s_are_octets) (defBody s_are_octets) (defScope s_are_octets) .none kV_are_octets dc_are_octets pm_are_octets an_are_octets cd_are_octets ct_are_octets), sl_are_octets⟩)
    (c_are_octets : PySem.W.codeIn K cd_are_octets "are_octets" = true) (k_are_octets : PySem.W.keepIn K (.ref f_are_octets) = true)
    (a_few_digits : PySem.W.nsIn K mainGlobals "few_digits" = some (some (.ref f_few_digits)))
    (l_few_digits : K.lookup f_few_digits = some ⟨oc_few_digits, od_few_digits, .func (PySem.W.fnOf "few_digits" "few_digits" (defArgs s_few_digits) (defBody s_few_digits) (defScope s_few_digits) .none kV_few_digits dc_few_digits pm_few_digits an_few_digits cd_few_digits ct_few_digits), sl_few_digits⟩)
    (c_few_digits : PySem.W.codeIn K cd_few_digits "few_digits" = true) (k_few_digits : PySem.W.keepIn K (.ref f_few_digits) = true)
    (a_counted : PySem.W.nsIn K mainGlobals "counted" = some (some (.ref f_counted)))
    (l_counted : K.lookup f_counted = some ⟨oc_counted, od_counted, .func (PySem.W.fnOf "counted" "counted" (defArgs s_counted) (defBody s_counted) (defScope s_counted) .none kV_counted dc_counted pm_counted an_counted cd_counted ct_counted), sl_counted⟩)
    (c_counted : PySem.W.codeIn K cd_counted "counted" = true) (k_counted : PySem.W.keepIn K (.ref f_counted) = true)
    (a_digits_of : PySem.W.nsIn K mainGlobals "digits_of" = some (some (.ref f_digits_of)))
    (l_digits_of : K.lookup f_digits_of = some ⟨oc_digits_of, od_digits_of, .func (PySem.W.fnOf "digits_of" "digits_of" (defArgs s_digits_of) (defBody s_digits_of) (defScope s_digits_of) .none kV_digits_of dc_digits_of pm_digits_of an_digits_of cd_digits_of ct_digits_of), sl_digits_of⟩)
    (c_digits_of : PySem.W.codeIn K cd_digits_of "digits_of" = true) (k_digits_of : PySem.W.keepIn K (.ref f_digits_of) = true)
    (a_laid : PySem.W.nsIn K mainGlobals "laid" = some (some (.ref f_laid)))
    (l_laid : K.lookup f_laid = some ⟨oc_laid, od_laid, .func (PySem.W.fnOf "laid" "laid" (defArgs s_laid) (defBody s_laid) (defScope s_laid) .none kV_laid dc_laid pm_laid an_laid cd_laid ct_laid), sl_laid⟩)
    (c_laid : PySem.W.codeIn K cd_laid "laid" = true) (k_laid : PySem.W.keepIn K (.ref f_laid) = true)
    (a_write_octets : PySem.W.nsIn K mainGlobals "write_octets" = some (some (.ref f_write_octets)))
    (l_write_octets : K.lookup f_write_octets = some ⟨oc_write_octets, od_write_octets, .func (PySem.W.fnOf "write_octets" "write_octets" (defArgs s_write_octets) (defBody s_write_octets) (defScope s_write_octets) .none kV_write_octets dc_write_octets pm_write_octets an_write_octets cd_write_octets ct_write_octets), sl_write_octets⟩)
    (c_write_octets : PySem.W.codeIn K cd_write_octets "write_octets" = true) (k_write_octets : PySem.W.keepIn K (.ref f_write_octets) = true)
    (a_read_digits : PySem.W.nsIn K mainGlobals "read_digits" = some (some (.ref f_read_digits)))
    (l_read_digits : K.lookup f_read_digits = some ⟨oc_read_digits, od_read_digits, .func (PySem.W.fnOf "read_digits" "read_digits" (defArgs s_read_digits) (defBody s_read_digits) (defScope s_read_digits) .none kV_read_digits dc_read_digits pm_read_digits an_read_digits cd_read_digits ct_read_digits), sl_read_digits⟩)
    (c_read_digits : PySem.W.codeIn K cd_read_digits "read_digits" = true) (k_read_digits : PySem.W.keepIn K (.ref f_read_digits) = true)
    (a_Reader___init__ : PySem.W.findIn K (.ref C_Reader) "__init__" = some (some (.ref f_Reader___init__))) (i_Reader___init__ : PySem.W.isFn K (.ref f_Reader___init__) = true)
    (l_Reader___init__ : K.lookup f_Reader___init__ = some ⟨oc_Reader___init__, od_Reader___init__, .func (PySem.W.fnOf "__init__" "Reader.__init__" (defArgs s_Reader___init__) (defBody s_Reader___init__) (defScope s_Reader___init__) .none kV_Reader___init__ dc_Reader___init__ pm_Reader___init__ an_Reader___init__ cd_Reader___init__ ct_Reader___init__), sl_Reader___init__⟩)
    (c_Reader___init__ : PySem.W.codeIn K cd_Reader___init__ "Reader.__init__" = true) (k_Reader___init__ : PySem.W.keepIn K (.ref f_Reader___init__) = true)
    (a_Reader_begin : PySem.W.findIn K (.ref C_Reader) "begin" = some (some (.ref f_Reader_begin))) (i_Reader_begin : PySem.W.isFn K (.ref f_Reader_begin) = true)
    (l_Reader_begin : K.lookup f_Reader_begin = some ⟨oc_Reader_begin, od_Reader_begin, .func (PySem.W.fnOf "begin" "Reader.begin" (defArgs s_Reader_begin) (defBody s_Reader_begin) (defScope s_Reader_begin) .none kV_Reader_begin dc_Reader_begin pm_Reader_begin an_Reader_begin cd_Reader_begin ct_Reader_begin), sl_Reader_begin⟩)
    (c_Reader_begin : PySem.W.codeIn K cd_Reader_begin "Reader.begin" = true) (k_Reader_begin : PySem.W.keepIn K (.ref f_Reader_begin) = true)
    (a_Reader_number : PySem.W.findIn K (.ref C_Reader) "number" = some (some (.ref f_Reader_number))) (i_Reader_number : PySem.W.isFn K (.ref f_Reader_number) = true)
    (l_Reader_number : K.lookup f_Reader_number = some ⟨oc_Reader_number, od_Reader_number, .func (PySem.W.fnOf "number" "Reader.number" (defArgs s_Reader_number) (defBody s_Reader_number) (defScope s_Reader_number) .none kV_Reader_number dc_Reader_number pm_Reader_number an_Reader_number cd_Reader_number ct_Reader_number), sl_Reader_number⟩)
    (c_Reader_number : PySem.W.codeIn K cd_Reader_number "Reader.number" = true) (k_Reader_number : PySem.W.keepIn K (.ref f_Reader_number) = true)
    (a_Reader_string : PySem.W.findIn K (.ref C_Reader) "string" = some (some (.ref f_Reader_string))) (i_Reader_string : PySem.W.isFn K (.ref f_Reader_string) = true)
    (l_Reader_string : K.lookup f_Reader_string = some ⟨oc_Reader_string, od_Reader_string, .func (PySem.W.fnOf "string" "Reader.string" (defArgs s_Reader_string) (defBody s_Reader_string) (defScope s_Reader_string) .none kV_Reader_string dc_Reader_string pm_Reader_string an_Reader_string cd_Reader_string ct_Reader_string), sl_Reader_string⟩)
    (c_Reader_string : PySem.W.codeIn K cd_Reader_string "Reader.string" = true) (k_Reader_string : PySem.W.keepIn K (.ref f_Reader_string) = true)
    (a_Reader_value : PySem.W.findIn K (.ref C_Reader) "value" = some (some (.ref f_Reader_value))) (i_Reader_value : PySem.W.isFn K (.ref f_Reader_value) = true)
    (l_Reader_value : K.lookup f_Reader_value = some ⟨oc_Reader_value, od_Reader_value, .func (PySem.W.fnOf "value" "Reader.value" (defArgs s_Reader_value) (defBody s_Reader_value) (defScope s_Reader_value) .none kV_Reader_value dc_Reader_value pm_Reader_value an_Reader_value cd_Reader_value ct_Reader_value), sl_Reader_value⟩)
    (c_Reader_value : PySem.W.codeIn K cd_Reader_value "Reader.value" = true) (k_Reader_value : PySem.W.keepIn K (.ref f_Reader_value) = true)
    (a_read_octets : PySem.W.nsIn K mainGlobals "read_octets" = some (some (.ref f_read_octets)))
    (l_read_octets : K.lookup f_read_octets = some ⟨oc_read_octets, od_read_octets, .func (PySem.W.fnOf "read_octets" "read_octets" (defArgs s_read_octets) (defBody s_read_octets) (defScope s_read_octets) .none kV_read_octets dc_read_octets pm_read_octets an_read_octets cd_read_octets ct_read_octets), sl_read_octets⟩)
    (c_read_octets : PySem.W.codeIn K cd_read_octets "read_octets" = true) (k_read_octets : PySem.W.keepIn K (.ref f_read_octets) = true)
    (a_law_cup : PySem.W.nsIn K mainGlobals "_law_cup" = some (some (.ref f_law_cup)))
    (l_law_cup : K.lookup f_law_cup = some ⟨oc_law_cup, od_law_cup, .func (PySem.W.fnOf "_law_cup" "_law_cup" (defArgs s_law_cup) (defBody s_law_cup) (defScope s_law_cup) .none kV_law_cup dc_law_cup pm_law_cup an_law_cup cd_law_cup ct_law_cup), sl_law_cup⟩)
    (c_law_cup : PySem.W.codeIn K cd_law_cup "_law_cup" = true) (k_law_cup : PySem.W.keepIn K (.ref f_law_cup) = true)
    (a_law_roll : PySem.W.nsIn K mainGlobals "_law_roll" = some (some (.ref f_law_roll)))
    (l_law_roll : K.lookup f_law_roll = some ⟨oc_law_roll, od_law_roll, .func (PySem.W.fnOf "_law_roll" "_law_roll" (defArgs s_law_roll) (defBody s_law_roll) (defScope s_law_roll) .none kV_law_roll dc_law_roll pm_law_roll an_law_roll cd_law_roll ct_law_roll), sl_law_roll⟩)
    (c_law_roll : PySem.W.codeIn K cd_law_roll "_law_roll" = true) (k_law_roll : PySem.W.keepIn K (.ref f_law_roll) = true)
    (a_law_some : PySem.W.nsIn K mainGlobals "_law_some" = some (some (.ref f_law_some)))
    (l_law_some : K.lookup f_law_some = some ⟨oc_law_some, od_law_some, .func (PySem.W.fnOf "_law_some" "_law_some" (defArgs s_law_some) (defBody s_law_some) (defScope s_law_some) .none kV_law_some dc_law_some pm_law_some an_law_some cd_law_some ct_law_some), sl_law_some⟩)
    (c_law_some : PySem.W.codeIn K cd_law_some "_law_some" = true) (k_law_some : PySem.W.keepIn K (.ref f_law_some) = true)
    (a_law_sort : PySem.W.nsIn K mainGlobals "_law_sort" = some (some (.ref f_law_sort)))
    (l_law_sort : K.lookup f_law_sort = some ⟨oc_law_sort, od_law_sort, .func (PySem.W.fnOf "_law_sort" "_law_sort" (defArgs s_law_sort) (defBody s_law_sort) (defScope s_law_sort) .none kV_law_sort dc_law_sort pm_law_sort an_law_sort cd_law_sort ct_law_sort), sl_law_sort⟩)
    (c_law_sort : PySem.W.codeIn K cd_law_sort "_law_sort" = true) (k_law_sort : PySem.W.keepIn K (.ref f_law_sort) = true)
    (a_law_like : PySem.W.nsIn K mainGlobals "_law_like" = some (some (.ref f_law_like)))
    (l_law_like : K.lookup f_law_like = some ⟨oc_law_like, od_law_like, .func (PySem.W.fnOf "_law_like" "_law_like" (defArgs s_law_like) (defBody s_law_like) (defScope s_law_like) .none kV_law_like dc_law_like pm_law_like an_law_like cd_law_like ct_law_like), sl_law_like⟩)
    (c_law_like : PySem.W.codeIn K cd_law_like "_law_like" = true) (k_law_like : PySem.W.keepIn K (.ref f_law_like) = true)
    (a_law_signs : PySem.W.nsIn K mainGlobals "_law_signs" = some (some (.ref f_law_signs)))
    (l_law_signs : K.lookup f_law_signs = some ⟨oc_law_signs, od_law_signs, .func (PySem.W.fnOf "_law_signs" "_law_signs" (defArgs s_law_signs) (defBody s_law_signs) (defScope s_law_signs) .none kV_law_signs dc_law_signs pm_law_signs an_law_signs cd_law_signs ct_law_signs), sl_law_signs⟩)
    (c_law_signs : PySem.W.codeIn K cd_law_signs "_law_signs" = true) (k_law_signs : PySem.W.keepIn K (.ref f_law_signs) = true)
    (a_law_value : PySem.W.nsIn K mainGlobals "_law_value" = some (some (.ref f_law_value)))
    (l_law_value : K.lookup f_law_value = some ⟨oc_law_value, od_law_value, .func (PySem.W.fnOf "_law_value" "_law_value" (defArgs s_law_value) (defBody s_law_value) (defScope s_law_value) .none kV_law_value dc_law_value pm_law_value an_law_value cd_law_value ct_law_value), sl_law_value⟩)
    (c_law_value : PySem.W.codeIn K cd_law_value "_law_value" = true) (k_law_value : PySem.W.keepIn K (.ref f_law_value) = true)
    (a_law_first : PySem.W.nsIn K mainGlobals "_law_first" = some (some (.ref f_law_first)))
    (l_law_first : K.lookup f_law_first = some ⟨oc_law_first, od_law_first, .func (PySem.W.fnOf "_law_first" "_law_first" (defArgs s_law_first) (defBody s_law_first) (defScope s_law_first) .none kV_law_first dc_law_first pm_law_first an_law_first cd_law_first ct_law_first), sl_law_first⟩)
    (c_law_first : PySem.W.codeIn K cd_law_first "_law_first" = true) (k_law_first : PySem.W.keepIn K (.ref f_law_first) = true)
    (a_law : PySem.W.nsIn K mainGlobals "law" = some (some (.ref f_law)))
    (l_law : K.lookup f_law = some ⟨oc_law, od_law, .func (PySem.W.fnOf "law" "law" (defArgs s_law) (defBody s_law) (defScope s_law) .none kV_law dc_law pm_law an_law cd_law ct_law), sl_law⟩)
    (c_law : PySem.W.codeIn K cd_law "law" = true) (k_law : PySem.W.keepIn K (.ref f_law) = true)
    (a_law_told : PySem.W.nsIn K mainGlobals "_law_told" = some (some (.ref f_law_told)))
    (l_law_told : K.lookup f_law_told = some ⟨oc_law_told, od_law_told, .func (PySem.W.fnOf "_law_told" "_law_told" (defArgs s_law_told) (defBody s_law_told) (defScope s_law_told) .none kV_law_told dc_law_told pm_law_told an_law_told cd_law_told ct_law_told), sl_law_told⟩)
    (c_law_told : PySem.W.codeIn K cd_law_told "_law_told" = true) (k_law_told : PySem.W.keepIn K (.ref f_law_told) = true)
    (pg_Reader : PySem.W.plainGet K C_Reader Str.empty = true) (hd_Reader : PySem.W.hasDictIn K C_Reader = true) (po_Reader : PySem.W.plainOver K C_Reader = true) (sa_Reader : PySem.W.findIn K (.ref C_Reader) "__setattr__" = some (some (.builtin "object.__setattr__"))) (mk_Reader : PySem.W.makesIn K C_Reader = true) (kc_Reader : PySem.W.keepIn K (.ref C_Reader) = true)
    (na_Reader_octets : PySem.W.findIn K (.ref C_Reader) "octets" = some none)
    (na_Reader_at : PySem.W.findIn K (.ref C_Reader) "at" = some none)
    (na_Reader_parts : PySem.W.findIn K (.ref C_Reader) "parts" = some none)
    (z_abs : PySem.W.nsIn K mainGlobals "abs" = some none)
    (z_all : PySem.W.nsIn K mainGlobals "all" = some none)
    (z_bool : PySem.W.nsIn K mainGlobals "bool" = some none)
    (z_bytes : PySem.W.nsIn K mainGlobals "bytes" = some none)
    (z_int : PySem.W.nsIn K mainGlobals "int" = some none)
    (z_isinstance : PySem.W.nsIn K mainGlobals "isinstance" = some none)
    (z_len : PySem.W.nsIn K mainGlobals "len" = some none)
    (z_list : PySem.W.nsIn K mainGlobals "list" = some none)
    (z_min : PySem.W.nsIn K mainGlobals "min" = some none)
    (z_ord : PySem.W.nsIn K mainGlobals "ord" = some none)
    (z_range : PySem.W.nsIn K mainGlobals "range" = some none)
    (z_str : PySem.W.nsIn K mainGlobals "str" = some none)
    (z_tuple : PySem.W.nsIn K mainGlobals "tuple" = some none)
    (z_zip : PySem.W.nsIn K mainGlobals "zip" = some none)
    (v_DEEP : PySem.W.nsIn K mainGlobals "DEEP" = some (some (.int 60 t_DEEP)))
    (v_DIGITS : PySem.W.nsIn K mainGlobals "DIGITS" = some (some (.int 950 t_DIGITS)))
    (v_ITEMS : PySem.W.nsIn K mainGlobals "ITEMS" = some (some (.int 50000 t_ITEMS)))
    (v_PARTS : PySem.W.nsIn K mainGlobals "PARTS" = some (some (.int 500000 t_PARTS)))
    (v_SIGNS : PySem.W.nsIn K mainGlobals "SIGNS" = some (some (.int 20000 t_SIGNS)))
    (gI : PySem.W.nsIn K mainGlobals "InvalidOctets" = some (some (.ref CI)))
    (gB : PySem.W.nsIn K mainGlobals "BadText" = some (some (.ref CB)))
    (xI : PySem.W.excIn K CI [.type "ValueError", .type "Exception", .type "BaseException", .type "object"] "ValueError.__new__" = true)
    (kI : PySem.W.keepIn K (.ref CI) = true)
    (bI : PySem.W.subIn K (.ref CI) (.type "BaseException") = some true)
    (tI : PySem.W.typeIn K (.ref CI) = some (.type "type"))
    (zS : PySem.W.nsIn K mainGlobals "super" = some none)
    (eB : PySem.W.exmOne K (.ref CB) (.ref CB) = some true)
    (eI : PySem.W.exmOne K (.ref CI) (.ref CB) = some false)
    (x1 : PySem.W.findIn K (.ref CB) "__getattribute__" = some (some (.builtin "BaseException.__getattribute__")))
    (x2 : PySem.W.findIn K (.ref CB) "__getattr__" = some none)
    (x4 : PySem.W.hasDictIn K CB = true)
    (lC : K.lookup CB = some (excClassObj nmB qB CB NB bsB bmB true snB subB abB colB ddB k0B k1B k2B k3B k5B "ValueError.__new__"))
    (vC : PySem.HandSPX.refsVE bmB = true)
    (saB : PySem.W.findIn K (.ref CB) "__setattr__" = some (some (.builtin "object.__setattr__")))
    (bB : PySem.W.subIn K (.ref CB) (.type "BaseException") = some true)
    (tB : PySem.W.typeIn K (.ref CB) = some (.type "type"))
    (kB : PySem.W.keepIn K (.ref CB) = true)
    (hiB : PySem.W.findIn K (.ref CB) "__init__" = some (some (.ref fB)))
    (tfiB : PySem.W.typeIn K (.ref fB) = some (.type "function"))
    (lB : K.lookup fB = some ⟨ocB, odB, .func (PySem.W.fnX "__init__" "BadText.__init__" (defArgs sBad) (defBody sBad) (defScope sBad) [("__class__", ccB)] .none kVB docB pmB anB (.ref cdaB) ctB), oslB⟩)
    (cB : PySem.W.codeIn K (.ref cdaB) "BadText.__init__" = true)
    (lcdB : K.lookup cdaB = some ⟨cclB, cddB, .fields vsB, ccsB⟩)
    (v2B : vsB[2]? = some (.str fileB tfB))
    (fiB : ((l.prog.main.file : Str) == fileB) = true)
    (lccB : K.lookup ccB = some ⟨clB, cldB, .cell (some (.ref CB)), cslB⟩)
    (topB : (l.prog.main.scope.names.lookup ("super" : Str)).isSome = false)
    (suB : PySem.W.ks_superIn K CB CB "__init__" = some (some (.builtin "ValueError.__init__")))
    (veB : PySem.W.subIn K (.ref CB) (.type "ValueError") = some true)
    (seB : PySem.W.mroIn K CB (.ref CB) = some true)
    (anyB : PySem.W.nsIn K cStatics "thirdparty.any" = some none)
    (flB : PySem.W.findIn K (.ref CB) "at" = some none) :
    ∃ fd : FuncData, (∀ (s : Shared) (u : Value), BindsTo s fd ⟨[u], []⟩ [("script", u)]) ∧ ∀ base : Heap, K.In base → base.Ns mainGlobals mg → FnOk l.prog w K mg base CX0 73 fa fd ["script"] (spLaw K) := by
  obtain ⟨Md, eMd⟩ : ∃ Md : Facts l.prog K mg, Md.law.f = f_law ∧ Md.law.fd = PySem.W.fnOf "law" "law" (defArgs s_law) (defBody s_law) (defScope s_law) .none kV_law dc_law pm_law an_law cd_law ct_law := ⟨mdOf (P := l.prog) X G aC_Reader a_is_sign l_is_sign c_is_sign k_is_sign a_sign_of l_sign_of c_sign_of k_sign_of a_are_octets l_are_octets c_are_octets k_are_octets a_few_digits l_few_digits c_few_digits k_few_digits a_counted l_counted c_counted k_counted a_digits_of l_digits_of c_digits_of k_digits_of a_laid l_laid c_laid k_laid a_write_octets l_write_octets c_write_octets k_write_octets a_read_digits l_read_digits c_read_digits k_read_digits a_Reader___init__ i_Reader___init__ l_Reader___init__ c_Reader___init__ k_Reader___init__ a_Reader_begin i_Reader_begin l_Reader_begin c_Reader_begin k_Reader_begin a_Reader_number i_Reader_number l_Reader_number c_Reader_number k_Reader_number a_Reader_string i_Reader_string l_Reader_string c_Reader_string k_Reader_string a_Reader_value i_Reader_value l_Reader_value c_Reader_value k_Reader_value a_read_octets l_read_octets c_read_octets k_read_octets a_law_cup l_law_cup c_law_cup k_law_cup a_law_roll l_law_roll c_law_roll k_law_roll a_law_some l_law_some c_law_some k_law_some a_law_sort l_law_sort c_law_sort k_law_sort a_law_like l_law_like c_law_like k_law_like a_law_signs l_law_signs c_law_signs k_law_signs a_law_value l_law_value c_law_value k_law_value a_law_first l_law_first c_law_first k_law_first a_law l_law c_law k_law a_law_told l_law_told c_law_told k_law_told pg_Reader hd_Reader po_Reader sa_Reader mk_Reader kc_Reader na_Reader_octets na_Reader_at na_Reader_parts z_abs z_all z_bool z_bytes z_int z_isinstance z_len z_list z_min z_ord z_range z_str z_tuple z_zip v_DEEP v_DIGITS v_ITEMS v_PARTS v_SIGNS gI gB xI kI bI tI zS eB eI x1 x2 x4 lC vC saB bB tB kB hiB tfiB lB cB lcdB v2B fiB lccB topB suB veB seB anyB flB, rfl, rfl⟩
  have e := hfa.symm.trans (PySem.W.mg_of X G a_law)
  cases e
  obtain ⟨e1, e2⟩ := eMd
  refine ⟨PySem.W.fnOf "law" "law" (defArgs s_law) (defBody s_law) (defScope s_law) .none kV_law dc_law pm_law an_law cd_law ct_law, fun s u => .of_eq rfl, fun base hK hns => ?_⟩
  have F := law_fn (P := l.prog) (w := w) (base := base) (Md := Md)
  rw [e1, e2] at F
  exact F
end K81

open PySem PySem.W PyProof.Rows
set_option maxRecDepth 100000 in
set_option maxHeartbeats 0 in
theorem PySem.Challenge.cw_humless_k81_whole_broken_octets_holds : PySem.Challenge.rw_humless_k81_whole_broken_octets.Holds := by
  w_on; o_law; k_head; (case hw => w_witness2)
  k_fill
  refine L2.walk_ofK (l := PySem.Challenge.rw_humless_k81_whole_broken_octets) (n := 63) (k := 73) (x := "script") (CX := L2.CX0) (sp := K81.spLaw) rfl (by decide) rfl ⟨rfl, by decide, by decide⟩ (fun w h Y => PySem.W.kIn_of Y) ?F ?S (fun _ _ _ _ z => z)
  case S =>
    exact fun K H a ns hl _ hS => ⟨a, ns, rfl, hS, by omega, fun _ => rfl⟩
  case F =>
    intro w mg fa h KX G hmg
    refine' K81.all_mk KX G hmg ?aC_Reader ?a_is_sign ?l_is_sign ?c_is_sign ?k_is_sign ?a_sign_of ?l_sign_of ?c_sign_of ?k_sign_of ?a_are_octets ?l_are_octets ?c_are_octets ?k_are_octets ?a_few_digits ?l_few_digits ?c_few_digits ?k_few_digits ?a_counted ?l_counted ?c_counted ?k_counted ?a_digits_of ?l_digits_of ?c_digits_of ?k_digits_of ?a_laid ?l_laid ?c_laid ?k_laid ?a_write_octets ?l_write_octets ?c_write_octets ?k_write_octets ?a_read_digits ?l_read_digits ?c_read_digits ?k_read_digits ?a_Reader___init__ ?i_Reader___init__ ?l_Reader___init__ ?c_Reader___init__ ?k_Reader___init__ ?a_Reader_begin ?i_Reader_begin ?l_Reader_begin ?c_Reader_begin ?k_Reader_begin ?a_Reader_number ?i_Reader_number ?l_Reader_number ?c_Reader_number ?k_Reader_number ?a_Reader_string ?i_Reader_string ?l_Reader_string ?c_Reader_string ?k_Reader_string ?a_Reader_value ?i_Reader_value ?l_Reader_value ?c_Reader_value ?k_Reader_value ?a_read_octets ?l_read_octets ?c_read_octets ?k_read_octets ?a_law_cup ?l_law_cup ?c_law_cup ?k_law_cup ?a_law_roll ?l_law_roll ?c_law_roll ?k_law_roll ?a_law_some ?l_law_some ?c_law_some ?k_law_some ?a_law_sort ?l_law_sort ?c_law_sort ?k_law_sort ?a_law_like ?l_law_like ?c_law_like ?k_law_like ?a_law_signs ?l_law_signs ?c_law_signs ?k_law_signs ?a_law_value ?l_law_value ?c_law_value ?k_law_value ?a_law_first ?l_law_first ?c_law_first ?k_law_first ?a_law ?l_law ?c_law ?k_law ?a_law_told ?l_law_told ?c_law_told ?k_law_told ?pg_Reader ?hd_Reader ?po_Reader ?sa_Reader ?mk_Reader ?kc_Reader ?na_Reader_octets ?na_Reader_at ?na_Reader_parts ?z_abs ?z_all ?z_bool ?z_bytes ?z_int ?z_isinstance ?z_len ?z_list ?z_min ?z_ord ?z_range ?z_str ?z_tuple ?z_zip ?v_DEEP ?v_DIGITS ?v_ITEMS ?v_PARTS ?v_SIGNS ?gI ?gB ?xI ?kI ?bI ?tI ?zS ?eB ?eI ?x1 ?x2 ?x4 ?lC ?vC ?saB ?bB ?tB ?kB ?hiB ?tfiB ?lB ?cB ?lcdB ?v2B ?fiB ?lccB ?topB ?suB ?veB ?seB ?anyB ?flB
    (case aC_Reader => k_is)
    (case a_is_sign => k_is)
    (case l_is_sign => k_is)
    (case c_is_sign => k_is)
    (case k_is_sign => k_is)
    (case a_sign_of => k_is)
    (case l_sign_of => k_is)
    (case c_sign_of => k_is)
    (case k_sign_of => k_is)
    (case a_are_octets => k_is)
    (case l_are_octets => k_is)
    (case c_are_octets => k_is)
    (case k_are_octets => k_is)
    (case a_few_digits => k_is)
    (case l_few_digits => k_is)
    (case c_few_digits => k_is)
    (case k_few_digits => k_is)
    (case a_counted => k_is)
    (case l_counted => k_is)
    (case c_counted => k_is)
    (case k_counted => k_is)
    (case a_digits_of => k_is)
    (case l_digits_of => k_is)
    (case c_digits_of => k_is)
    (case k_digits_of => k_is)
    (case a_laid => k_is)
    (case l_laid => k_is)
    (case c_laid => k_is)
    (case k_laid => k_is)
    (case a_write_octets => k_is)
    (case l_write_octets => k_is)
    (case c_write_octets => k_is)
    (case k_write_octets => k_is)
    (case a_read_digits => k_is)
    (case l_read_digits => k_is)
    (case c_read_digits => k_is)
    (case k_read_digits => k_is)
    (case a_Reader___init__ => k_is)
    (case i_Reader___init__ => k_is)
    (case l_Reader___init__ => k_is)
    (case c_Reader___init__ => k_is)
    (case k_Reader___init__ => k_is)
    (case a_Reader_begin => k_is)
    (case i_Reader_begin => k_is)
    (case l_Reader_begin => k_is)
    (case c_Reader_begin => k_is)
    (case k_Reader_begin => k_is)
    (case a_Reader_number => k_is)
    (case i_Reader_number => k_is)
    (case l_Reader_number => k_is)
    (case c_Reader_number => k_is)
    (case k_Reader_number => k_is)
    (case a_Reader_string => k_is)
    (case i_Reader_string => k_is)
    (case l_Reader_string => k_is)
    (case c_Reader_string => k_is)
    (case k_Reader_string => k_is)
    (case a_Reader_value => k_is)
    (case i_Reader_value => k_is)
    (case l_Reader_value => k_is)
    (case c_Reader_value => k_is)
    (case k_Reader_value => k_is)
    (case a_read_octets => k_is)
    (case l_read_octets => k_is)
    (case c_read_octets => k_is)
    (case k_read_octets => k_is)
    (case a_law_cup => k_is)
    (case l_law_cup => k_is)
    (case c_law_cup => k_is)
    (case k_law_cup => k_is)
    (case a_law_roll => k_is)
    (case l_law_roll => k_is)
    (case c_law_roll => k_is)
    (case k_law_roll => k_is)
    (case a_law_some => k_is)
    (case l_law_some => k_is)
    (case c_law_some => k_is)
    (case k_law_some => k_is)
    (case a_law_sort => k_is)
    (case l_law_sort => k_is)
    (case c_law_sort => k_is)
    (case k_law_sort => k_is)
    (case a_law_like => k_is)
    (case l_law_like => k_is)
    (case c_law_like => k_is)
    (case k_law_like => k_is)
    (case a_law_signs => k_is)
    (case l_law_signs => k_is)
    (case c_law_signs => k_is)
    (case k_law_signs => k_is)
    (case a_law_value => k_is)
    (case l_law_value => k_is)
    (case c_law_value => k_is)
    (case k_law_value => k_is)
    (case a_law_first => k_is)
    (case l_law_first => k_is)
    (case c_law_first => k_is)
    (case k_law_first => k_is)
    (case a_law => k_is)
    (case l_law => k_is)
    (case c_law => k_is)
    (case k_law => k_is)
    (case a_law_told => k_is)
    (case l_law_told => k_is)
    (case c_law_told => k_is)
    (case k_law_told => k_is)
    (case pg_Reader => k_is)
    (case hd_Reader => k_is)
    (case po_Reader => k_is)
    (case sa_Reader => k_is)
    (case mk_Reader => k_is)
    (case kc_Reader => k_is)
    (case na_Reader_octets => k_is)
    (case na_Reader_at => k_is)
    (case na_Reader_parts => k_is)
    (case z_abs => k_is)
    (case z_all => k_is)
    (case z_bool => k_is)
    (case z_bytes => k_is)
    (case z_int => k_is)
    (case z_isinstance => k_is)
    (case z_len => k_is)
    (case z_list => k_is)
    (case z_min => k_is)
    (case z_ord => k_is)
    (case z_range => k_is)
    (case z_str => k_is)
    (case z_tuple => k_is)
    (case z_zip => k_is)
    (case v_DEEP => k_is)
    (case v_DIGITS => k_is)
    (case v_ITEMS => k_is)
    (case v_PARTS => k_is)
    (case v_SIGNS => k_is)
    (case gI => k_is)
    (case gB => k_is)
    (case xI => k_exc)
    (case kI => k_is)
    (case bI => k_is)
    (case tI => k_is)
    (case zS => k_is)
    (case eB => first | k_is | kernel_rfl | rfl)
    (case eI => first | k_is | kernel_rfl | rfl)
    (case x1 => k_is)
    (case x2 => k_is)
    (case x4 => k_is)
    (case lC => first | k_is | kernel_rfl | rfl)
    (case vC => first | rfl | decide)
    (case saB => k_is)
    (case bB => k_is)
    (case tB => k_is)
    (case kB => k_is)
    (case hiB => first | k_is | kernel_rfl | rfl)
    (case tfiB => first | k_is | kernel_rfl | rfl)
    (case lB => first | k_is | kernel_rfl | rfl)
    (case cB => k_is)
    (case lcdB => first | k_is | kernel_rfl | rfl)
    (case v2B => rfl)
    (case fiB => first | rfl | kernel_rfl | decide)
    (case lccB => first | k_is | kernel_rfl | rfl)
    (case topB => first | rfl | decide)
    (case suB => first | k_is | kernel_rfl | rfl)
    (case veB => first | k_is | kernel_rfl | rfl)
    (case seB => first | k_is | kernel_rfl | rfl)
    (case anyB => first | k_is | kernel_rfl | rfl)
    (case flB => k_is)

