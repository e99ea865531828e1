import PyProof.Rows.All
import Wide.All
import OpenK.AllK
import Wide.FinOn
import HandS.ForMost
import HandS.Wide
import HandS.Style
import KE.GoesZip
import KE.GoesEnum
import KE.GoesMore
import HandS.Zip
import HandS.Rev
import HandS.Iter
import HandS.TupAny
import HandS.TupMul
import HandS.IsInst
import HandS.WideMore
import KE.KBytesDec
import HandS.BytesMake
import HandS.EndTab
import HandS.Lambda
import HandS.EndOwn
import HandS.ExcIs
import HandS.ExcOwn
import HandS.WordsExc
import PySem.Challenge.RW_humless_k80_whole_octets_and_back
set_option Elab.async false
set_option linter.all false
set_option maxRecDepth 100000
/-! Pu1: values as trees, slots, the relation to the layer's slots and heap; what an expression, a block is worth. -/
namespace Pu
open PySem PySem.Spec PyProof.Rows L2

/-- a value, whole -/
inductive PV where
  | non | bl (b : Bool) | int (i : Int) | str (x : Str) | ty (n : String) | tup (xs : List PV) | lst (xs : List PV)
  | dT (ks : List (List Key)) (xs : List PV) | dK (ks : List Key) (xs : List PV) | ob (C : Addr) (ns : List Str) (xs : List PV) | scr (ns : List Int)

/-- what may still change -/
inductive OB where
  | lst (xs : List PV) | dT (ks : List (List Key)) (xs : List PV) | dK (ks : List Key) (xs : List PV) | ob (C : Addr) (ns : List Str) (xs : List PV)
def OB.pv : OB → PV
  | .lst xs => .lst xs
  | .dT ks xs => .dT ks xs
  | .dK ks xs => .dK ks xs
  | .ob C ns xs => .ob C ns xs
/-- a slot: a value that nobody changes; an object of this frame's own; a parameter that the caller lends -/
inductive SV where
  | val (p : PV) | own (o : OB) | par (o : OB)
abbrev Env := List (Option SV)
structure EX where
  cls : Str
  arg : PV
inductive Res (α : Type) where
  | ok (a : α) | exc (x : EX) | bad
@[inline] def Res.bind {α β : Type} (r : Res α) (f : α → Res β) : Res β :=
  match r with
  | .ok a => f a
  | .exc x => .exc x
  | .bad => .bad
@[simp] theorem Res.bind_ok {α β : Type} (a : α) (f : α → Res β) : (Res.ok a).bind f = f a := rfl
@[simp] theorem Res.bind_exc {α β : Type} (x : EX) (f : α → Res β) : (Res.exc x : Res α).bind f = .exc x := rfl
@[simp] theorem Res.bind_bad {α β : Type} (f : α → Res β) : (Res.bad : Res α).bind f = .bad := rfl
/-- what an expression hands on: a value; what stands in an own slot; a new own object -/
inductive RV where
  | val (p : PV) | bor (i : Nat) | new (o : OB)
abbrev M := Env → Res (RV × Env)
inductive Fl where
  | nx | rt (r : RV) | bk | ct
abbrev MS := Env → Res (Fl × Env)

mutual
def RepV (K : PySem.W.Frag) (F : Hp) : PV → V → Prop
  | .non, v => v = .non
  | .bl b, v => v = .bl b
  | .int i, v => v = .int i
  | .str x, v => v = .str x
  | .ty n, v => v = .ty n
  | .tup xs, v => ∃ a vs, v = .ref a ∧ F a = some (.tup vs) ∧ RepVs K F xs vs
  | .lst xs, v => ∃ a vs, v = .ref a ∧ F a = some (.lst vs) ∧ RepVs K F xs vs
  | .dT ks xs, v => ∃ a vs, v = .ref a ∧ F a = some (.dT (ks.zip vs)) ∧ ks.length = vs.length ∧ RepVs K F xs vs
  | .dK ks xs, v => ∃ a vs, v = .ref a ∧ F a = some (.dK (ks.zip vs)) ∧ ks.length = vs.length ∧ RepVs K F xs vs
  | .ob C ns xs, v => ∃ a dx vs, v = .ref a ∧ F a = some (.ins C dx (ns.zip vs)) ∧ ns.length = vs.length ∧ RepVs K F xs vs
  | .scr ns, v => ∃ a, v = .ref a ∧ SqL K F a (ns.map V.int)
def RepVs (K : PySem.W.Frag) (F : Hp) : List PV → List V → Prop
  | [], vs => vs = []
  | x :: xs, vs => ∃ v r, vs = v :: r ∧ RepV K F x v ∧ RepVs K F xs r
end
/-- what is known of the heap that stays: dicts may be locked -/
def FH (F H : Hp) : Prop := ∀ a u, F a = some u → H a = some u ∨ (((∃ kvs, u = .dT kvs) ∨ (∃ kvs, u = .dK kvs)) ∧ ∃ o, H a = some (.frz o u))

theorem sqL_mono {K : PySem.W.Frag} {F F' : Hp} (h : Same F F') {a : Addr} {vs : List V} (q : SqL K F a vs) : SqL K F' a vs := h.seq q
theorem sqT_mono {K : PySem.W.Frag} {F F' : Hp} (h : Same F F') {a : Addr} {vs : List V} (q : SqT K F a vs) : SqT K F' a vs := by
  rcases q with (q | ⟨o, q⟩) | q
  · exact .inl (.inl (h _ _ q))
  · exact .inl (.inr ⟨o, h _ _ q⟩)
  · exact .inr q
theorem sqL_fh {K : PySem.W.Frag} {F H : Hp} (h : FH F H) {a : Addr} {vs : List V} (q : SqL K F a vs) : SqL K H a vs := by
  rcases q with (q | ⟨o, q⟩) | q
  · rcases h _ _ q with e | ⟨(⟨_, e⟩ | ⟨_, e⟩), _⟩
    · exact .inl (.inl e)
    · cases e
    · cases e
  · rcases h _ _ q with e | ⟨(⟨_, e⟩ | ⟨_, e⟩), _⟩
    · exact .inl (.inr ⟨o, e⟩)
    · cases e
    · cases e
  · exact .inr q
theorem sqT_fh {K : PySem.W.Frag} {F H : Hp} (h : FH F H) {a : Addr} {vs : List V} (q : SqT K F a vs) : SqT K H a vs := by
  rcases q with (q | ⟨o, q⟩) | q
  · rcases h _ _ q with e | ⟨(⟨_, e⟩ | ⟨_, e⟩), _⟩
    · exact .inl (.inl e)
    · cases e
    · cases e
  · rcases h _ _ q with e | ⟨(⟨_, e⟩ | ⟨_, e⟩), _⟩
    · exact .inl (.inr ⟨o, e⟩)
    · cases e
    · cases e
  · exact .inr q
theorem Same.fh {F F' H : Hp} (h : Same F F') (q : FH F' H) : FH F H := fun a u e => q a u (h a u e)

mutual
theorem RepV.mono {K : PySem.W.Frag} {F F' : Hp} (h : Same F F') : ∀ {p : PV} {v : V}, RepV K F p v → RepV K F' p v
  | .non, v, q => by unfold RepV at q ⊢; exact q
  | .bl b, v, q => by unfold RepV at q ⊢; exact q
  | .int i, v, q => by unfold RepV at q ⊢; exact q
  | .str i, v, q => by unfold RepV at q ⊢; exact q
  | .ty i, v, q => by unfold RepV at q ⊢; exact q
  | .tup xs, v, q => by
    unfold RepV at q ⊢
    obtain ⟨a, vs, e, s, r⟩ := q
    exact ⟨a, vs, e, h _ _ s, RepVs.mono h r⟩
  | .lst xs, v, q => by
    unfold RepV at q ⊢
    obtain ⟨a, vs, e, s, r⟩ := q
    exact ⟨a, vs, e, h _ _ s, RepVs.mono h r⟩
  | .dT ks xs, v, q => by
    unfold RepV at q ⊢
    obtain ⟨a, vs, e, s, l, r⟩ := q
    exact ⟨a, vs, e, h _ _ s, l, RepVs.mono h r⟩
  | .dK ks xs, v, q => by
    unfold RepV at q ⊢
    obtain ⟨a, vs, e, s, l, r⟩ := q
    exact ⟨a, vs, e, h _ _ s, l, RepVs.mono h r⟩
  | .ob C ns xs, v, q => by
    unfold RepV at q ⊢
    obtain ⟨a, dx, vs, e, s, l, r⟩ := q
    exact ⟨a, dx, vs, e, h _ _ s, l, RepVs.mono h r⟩
  | .scr ns, v, q => by
    unfold RepV at q ⊢
    obtain ⟨a, e, s⟩ := q
    exact ⟨a, e, sqL_mono h s⟩
theorem RepVs.mono {K : PySem.W.Frag} {F F' : Hp} (h : Same F F') : ∀ {p : List PV} {v : List V}, RepVs K F p v → RepVs K F' p v
  | [], v, q => by unfold RepVs at q ⊢; exact q
  | x :: xs, v, q => by
    unfold RepVs at q ⊢
    obtain ⟨a, r, e, s, t⟩ := q
    exact ⟨a, r, e, RepV.mono h s, RepVs.mono h t⟩
end
theorem RepVs.nil {K : PySem.W.Frag} {F : Hp} : RepVs K F [] [] := by unfold RepVs; rfl
theorem RepVs.cons {K : PySem.W.Frag} {F : Hp} {x : PV} {xs : List PV} {v : V} {vs : List V} (h : RepV K F x v) (t : RepVs K F xs vs) : RepVs K F (x :: xs) (v :: vs) := by
  unfold RepVs
  exact ⟨v, vs, rfl, h, t⟩
theorem RepVs.nil_inv {K : PySem.W.Frag} {F : Hp} {vs : List V} (h : RepVs K F [] vs) : vs = [] := by unfold RepVs at h; exact h
theorem RepVs.cons_inv {K : PySem.W.Frag} {F : Hp} {x : PV} {xs : List PV} {vs : List V} (h : RepVs K F (x :: xs) vs) : ∃ v r, vs = v :: r ∧ RepV K F x v ∧ RepVs K F xs r := by unfold RepVs at h; exact h
theorem RepVs.length {K : PySem.W.Frag} {F : Hp} : ∀ {xs : List PV} {vs : List V}, RepVs K F xs vs → xs.length = vs.length
  | [], _, h => by rw [h.nil_inv]; rfl
  | x :: xs, _, h => by
    obtain ⟨v, r, rfl, _, t⟩ := h.cons_inv
    simp [t.length]
theorem RepVs.get {K : PySem.W.Frag} {F : Hp} : ∀ {xs : List PV} {vs : List V} {i : Nat} {x : PV}, RepVs K F xs vs → xs[i]? = some x → ∃ v, vs[i]? = some v ∧ RepV K F x v
  | [], _, _, _, h, e => by simp at e
  | x :: xs, _, 0, y, h, e => by
    obtain ⟨v, r, rfl, q, t⟩ := h.cons_inv
    simp at e
    subst e
    exact ⟨v, rfl, q⟩
  | x :: xs, _, i + 1, y, h, e => by
    obtain ⟨v, r, rfl, q, t⟩ := h.cons_inv
    have := t.get (i := i) (x := y) (by simpa using e)
    simpa using this
theorem RepVs.get' {K : PySem.W.Frag} {F : Hp} {xs : List PV} {vs : List V} {i : Nat} {v : V} (h : RepVs K F xs vs) (e : vs[i]? = some v) : ∃ x, xs[i]? = some x ∧ RepV K F x v := by
  have hl := h.length
  have hi : i < vs.length := (List.getElem?_eq_some_iff.mp e).1
  obtain ⟨v', e', q⟩ := h.get (i := i) (x := xs[i]'(by omega)) (List.getElem?_eq_getElem (by omega))
  rw [e] at e'
  cases e'
  exact ⟨_, List.getElem?_eq_getElem (by omega), q⟩
theorem RepVs.append {K : PySem.W.Frag} {F : Hp} : ∀ {xs ys : List PV} {vs ws : List V}, RepVs K F xs vs → RepVs K F ys ws → RepVs K F (xs ++ ys) (vs ++ ws)
  | [], _, _, _, h, t => by rw [h.nil_inv]; exact t
  | x :: xs, _, _, _, h, t => by
    obtain ⟨v, r, rfl, q, u⟩ := h.cons_inv
    exact .cons q (u.append t)
theorem RepVs.take {K : PySem.W.Frag} {F : Hp} : ∀ {xs : List PV} {vs : List V} (n : Nat), RepVs K F xs vs → RepVs K F (xs.take n) (vs.take n)
  | _, _, 0, h => by simp; exact .nil
  | [], _, n + 1, h => by rw [h.nil_inv]; exact .nil
  | x :: xs, _, n + 1, h => by
    obtain ⟨v, r, rfl, q, u⟩ := h.cons_inv
    exact .cons q (u.take n)
theorem RepVs.drop {K : PySem.W.Frag} {F : Hp} : ∀ {xs : List PV} {vs : List V} (n : Nat), RepVs K F xs vs → RepVs K F (xs.drop n) (vs.drop n)
  | _, _, 0, h => by simpa using h
  | [], _, n + 1, h => by rw [h.nil_inv]; exact .nil
  | x :: xs, _, n + 1, h => by
    obtain ⟨v, r, rfl, q, u⟩ := h.cons_inv
    exact u.drop n
theorem RepVs.set {K : PySem.W.Frag} {F : Hp} : ∀ {xs : List PV} {vs : List V} (n : Nat) {x : PV} {v : V}, RepVs K F xs vs → RepV K F x v → RepVs K F (xs.set n x) (vs.set n v)
  | [], _, _, _, _, h, _ => by rw [h.nil_inv]; exact .nil
  | y :: xs, _, 0, _, _, h, q => by
    obtain ⟨w, r, rfl, p, u⟩ := h.cons_inv
    exact .cons q u
  | y :: xs, _, n + 1, _, _, h, q => by
    obtain ⟨w, r, rfl, p, u⟩ := h.cons_inv
    exact .cons p (u.set n q)
theorem RepVs.replicate {K : PySem.W.Frag} {F : Hp} {x : PV} {v : V} (h : RepV K F x v) : ∀ n, RepVs K F (List.replicate n x) (List.replicate n v)
  | 0 => .nil
  | n + 1 => .cons h (RepVs.replicate h n)
theorem RepVs.reverse {K : PySem.W.Frag} {F : Hp} : ∀ {xs : List PV} {vs : List V}, RepVs K F xs vs → RepVs K F xs.reverse vs.reverse
  | [], _, h => by rw [h.nil_inv]; exact .nil
  | x :: xs, _, h => by
    obtain ⟨v, r, rfl, q, u⟩ := h.cons_inv
    rw [List.reverse_cons, List.reverse_cons]
    exact u.reverse.append (.cons q .nil)

/-- an own object at a -/
def RepO (K : PySem.W.Frag) (F H : Hp) (a : Addr) : OB → Prop
  | .lst xs => ∃ vs, H a = some (.lst vs) ∧ RepVs K F xs vs
  | .dT ks xs => ∃ vs, H a = some (.dT (ks.zip vs)) ∧ ks.length = vs.length ∧ RepVs K F xs vs
  | .dK ks xs => ∃ vs, H a = some (.dK (ks.zip vs)) ∧ ks.length = vs.length ∧ RepVs K F xs vs
  | .ob C ns xs => ∃ vs, (∃ dx, H a = some (.ins C dx (ns.zip vs))) ∧ ns.length = vs.length ∧ RepVs K F xs vs
theorem RepO.there {K : PySem.W.Frag} {F H : Hp} {a : Addr} {o : OB} (h : RepO K F H a o) : H a ≠ none := by
  intro z
  cases o with
  | lst xs => obtain ⟨_, e, _⟩ := h; rw [z] at e; cases e
  | dT ks xs => obtain ⟨_, e, _⟩ := h; rw [z] at e; cases e
  | dK ks xs => obtain ⟨_, e, _⟩ := h; rw [z] at e; cases e
  | ob C ns xs => obtain ⟨_, ⟨_, e⟩, _⟩ := h; rw [z] at e; cases e
theorem RepO.mono {K : PySem.W.Frag} {F F' H H' : Hp} {a : Addr} {o : OB} (h : RepO K F H a o) (f : Same F F') (e : H' a = H a) : RepO K F' H' a o := by
  cases o with
  | lst xs => obtain ⟨vs, q, r⟩ := h; exact ⟨vs, e.trans q, r.mono f⟩
  | dT ks xs => obtain ⟨vs, q, l, r⟩ := h; exact ⟨vs, e.trans q, l, r.mono f⟩
  | dK ks xs => obtain ⟨vs, q, l, r⟩ := h; exact ⟨vs, e.trans q, l, r.mono f⟩
  | ob C ns xs => obtain ⟨vs, ⟨dx, q⟩, l, r⟩ := h; exact ⟨vs, ⟨dx, e.trans q⟩, l, r.mono f⟩
/-- what may be read: a value, or what stands at an own object -/
def RepB (K : PySem.W.Frag) (F H : Hp) : PV → V → Prop
  | .lst xs, v => ∃ a vs, v = .ref a ∧ H a = some (.lst vs) ∧ RepVs K F xs vs
  | .dT ks xs, v => ∃ a vs, v = .ref a ∧ Rd H a (.dT (ks.zip vs)) ∧ ks.length = vs.length ∧ RepVs K F xs vs
  | .dK ks xs, v => ∃ a vs, v = .ref a ∧ Rd H a (.dK (ks.zip vs)) ∧ ks.length = vs.length ∧ RepVs K F xs vs
  | .ob C ns xs, v => ∃ a vs, v = .ref a ∧ (∃ dx, H a = some (.ins C dx (ns.zip vs))) ∧ ns.length = vs.length ∧ RepVs K F xs vs
  | p, v => RepV K F p v
theorem FH.rdT {F H : Hp} (h : FH F H) {a : Addr} {kvs : List (List Key × V)} (e : F a = some (.dT kvs)) : Rd H a (.dT kvs) := by
  rcases h _ _ e with q | ⟨_, o, q⟩
  · exact .inl q
  · exact .inr ⟨o, q⟩
theorem FH.rdK {F H : Hp} (h : FH F H) {a : Addr} {kvs : List (Key × V)} (e : F a = some (.dK kvs)) : Rd H a (.dK kvs) := by
  rcases h _ _ e with q | ⟨_, o, q⟩
  · exact .inl q
  · exact .inr ⟨o, q⟩
theorem FH.tup {F H : Hp} (h : FH F H) {a : Addr} {vs : List V} (e : F a = some (.tup vs)) : H a = some (.tup vs) := by
  rcases h _ _ e with q | ⟨(⟨_, z⟩ | ⟨_, z⟩), _⟩
  · exact q
  · cases z
  · cases z
theorem FH.lst {F H : Hp} (h : FH F H) {a : Addr} {vs : List V} (e : F a = some (.lst vs)) : H a = some (.lst vs) := by
  rcases h _ _ e with q | ⟨(⟨_, z⟩ | ⟨_, z⟩), _⟩
  · exact q
  · cases z
  · cases z
theorem FH.ins {F H : Hp} (h : FH F H) {a C dx : Addr} {fs : List (Str × V)} (e : F a = some (.ins C dx fs)) : H a = some (.ins C dx fs) := by
  rcases h _ _ e with q | ⟨(⟨_, z⟩ | ⟨_, z⟩), _⟩
  · exact q
  · cases z
  · cases z
theorem RepV.b {K : PySem.W.Frag} {F H : Hp} (h : FH F H) {p : PV} {v : V} (q : RepV K F p v) : RepB K F H p v := by
  cases p with
  | lst xs =>
    unfold RepV at q
    obtain ⟨a, vs, e, s, r⟩ := q
    exact ⟨a, vs, e, h.lst s, r⟩
  | dT ks xs =>
    unfold RepV at q
    obtain ⟨a, vs, e, s, l, r⟩ := q
    exact ⟨a, vs, e, h.rdT s, l, r⟩
  | dK ks xs =>
    unfold RepV at q
    obtain ⟨a, vs, e, s, l, r⟩ := q
    exact ⟨a, vs, e, h.rdK s, l, r⟩
  | ob C ns xs =>
    unfold RepV at q
    obtain ⟨a, dx, vs, e, s, l, r⟩ := q
    exact ⟨a, vs, e, ⟨dx, h.ins s⟩, l, r⟩
  | _ => exact q
theorem RepO.b {K : PySem.W.Frag} {F H : Hp} {a : Addr} {o : OB} (q : RepO K F H a o) : RepB K F H o.pv (.ref a) := by
  cases o with
  | lst xs => obtain ⟨vs, e, r⟩ := q; exact ⟨a, vs, rfl, e, r⟩
  | dT ks xs => obtain ⟨vs, e, l, r⟩ := q; exact ⟨a, vs, rfl, .inl e, l, r⟩
  | dK ks xs => obtain ⟨vs, e, l, r⟩ := q; exact ⟨a, vs, rfl, .inl e, l, r⟩
  | ob C ns xs => obtain ⟨vs, e, l, r⟩ := q; exact ⟨a, vs, rfl, e, l, r⟩
/-- an own object, laid to what stays -/
theorem RepO.freeze {K : PySem.W.Frag} {F H : Hp} {a : Addr} {o : OB} (q : RepO K F H a o) (n : F a = none) (h : FH F H) :
    ∃ F', Same F F' ∧ (∀ b, b ≠ a → F' b = F b) ∧ FH F' H ∧ RepV K F' o.pv (.ref a) := by
  obtain ⟨u, hu⟩ : ∃ u, H a = some u := Option.ne_none_iff_exists'.mp q.there
  have hs : Same F (upd F a u) := fun b x e => by
    rw [upd_ne (ne_of_none e n)]
    exact e
  refine ⟨upd F a u, hs, fun b hb => upd_ne hb, fun b x e => ?_, ?_⟩
  · by_cases hb : b = a
    · subst hb
      rw [upd_same] at e
      cases e
      exact .inl hu
    · rw [upd_ne hb] at e
      exact h b x e
  · cases o with
    | lst xs =>
      obtain ⟨vs, e, r⟩ := q
      rw [hu] at e
      cases e
      unfold OB.pv RepV
      exact ⟨a, vs, rfl, upd_same, r.mono hs⟩
    | dT ks xs =>
      obtain ⟨vs, e, l, r⟩ := q
      rw [hu] at e
      cases e
      unfold OB.pv RepV
      exact ⟨a, vs, rfl, upd_same, l, r.mono hs⟩
    | dK ks xs =>
      obtain ⟨vs, e, l, r⟩ := q
      rw [hu] at e
      cases e
      unfold OB.pv RepV
      exact ⟨a, vs, rfl, upd_same, l, r.mono hs⟩
    | ob C ns xs =>
      obtain ⟨vs, ⟨dx, e⟩, l, r⟩ := q
      rw [hu] at e
      cases e
      unfold OB.pv RepV
      exact ⟨a, dx, vs, rfl, upd_same, l, r.mono hs⟩

/-! ### slots -/
def SlotR (K : PySem.W.Frag) (F H : Hp) : SV → V → Prop
  | .val p, v => RepV K F p v
  | .own o, v => ∃ a, v = .ref a ∧ F a = none ∧ RepO K F H a o
  | .par o, v => ∃ a, v = .ref a ∧ F a = none ∧ RepO K F H a o
def OwnAt (ρ : Env) (σ : L2.St) (i : Nat) (a : Addr) : Prop := ((∃ o, ρ[i]? = some (some (.own o))) ∨ ∃ o, ρ[i]? = some (some (.par o))) ∧ σ[i]? = some (some (.ref a))
def Own (ρ : Env) (σ : L2.St) (a : Addr) : Prop := ∃ i, OwnAt ρ σ i a
/-- .. of the frame's own alone, not lent -/
def OwnL (ρ : Env) (σ : L2.St) (a : Addr) : Prop := ∃ (i : Nat) (o : OB), ρ[i]? = some (some (.own o)) ∧ σ[i]? = some (some (.ref a))
theorem OwnL.own {ρ : Env} {σ : L2.St} {a : Addr} (h : OwnL ρ σ a) : Own ρ σ a := let ⟨i, o, e, q⟩ := h; ⟨i, .inl ⟨o, e⟩, q⟩
structure Rel (K : PySem.W.Frag) (F H : Hp) (ρ : Env) (σ : L2.St) : Prop where
  len : ρ.length = σ.length
  slot : ∀ (i : Nat) (s : SV), ρ[i]? = some (some s) → ∃ v, σ[i]? = some (some v) ∧ SlotR K F H s v
  fh : FH F H
  inj : ∀ (i j : Nat) (a : Addr), OwnAt ρ σ i a → OwnAt ρ σ j a → i = j
theorem Rel.own {K : PySem.W.Frag} {F H : Hp} {ρ : Env} {σ : L2.St} (R : Rel K F H ρ σ) {i : Nat} {a : Addr} (h : OwnAt ρ σ i a) : F a = none ∧ ∃ o, (ρ[i]? = some (some (.own o)) ∨ ρ[i]? = some (some (.par o))) ∧ RepO K F H a o := by
  obtain ⟨(⟨o, e⟩ | ⟨o, e⟩), q⟩ := h
  · obtain ⟨v, e1, b, rfl, n, r⟩ := R.slot i _ e
    rw [q] at e1
    cases e1
    exact ⟨n, o, .inl e, r⟩
  · obtain ⟨v, e1, b, rfl, n, r⟩ := R.slot i _ e
    rw [q] at e1
    cases e1
    exact ⟨n, o, .inr e, r⟩
theorem Rel.ownF {K : PySem.W.Frag} {F H : Hp} {ρ : Env} {σ : L2.St} (R : Rel K F H ρ σ) {a : Addr} (h : Own ρ σ a) : F a = none := let ⟨_, q⟩ := h; (R.own q).1
theorem Rel.ownH {K : PySem.W.Frag} {F H : Hp} {ρ : Env} {σ : L2.St} (R : Rel K F H ρ σ) {a : Addr} (h : Own ρ σ a) : H a ≠ none := let ⟨_, q⟩ := h; let ⟨_, _, _, r⟩ := R.own q; r.there

/-- free, or a tuple (it never changes) -/
def Fre (H : Hp) (a : Addr) : Prop := H a = none ∨ ∃ xs, H a = some (.tup xs)
theorem RepO.nfre {K : PySem.W.Frag} {F H : Hp} {a : Addr} {o : OB} (h : RepO K F H a o) : ¬ Fre H a := by
  rintro (z | ⟨xs, z⟩)
  · exact h.there z
  · cases o with
    | lst xs => obtain ⟨_, e, _⟩ := h; rw [z] at e; cases e
    | dT ks xs => obtain ⟨_, e, _⟩ := h; rw [z] at e; cases e
    | dK ks xs => obtain ⟨_, e, _⟩ := h; rw [z] at e; cases e
    | ob C ns xs => obtain ⟨_, ⟨_, e⟩, _⟩ := h; rw [z] at e; cases e
theorem Rel.ownN {K : PySem.W.Frag} {F H : Hp} {ρ : Env} {σ : L2.St} (R : Rel K F H ρ σ) {a : Addr} (h : Own ρ σ a) : ¬ Fre H a := let ⟨_, q⟩ := h; let ⟨_, _, _, r⟩ := R.own q; r.nfre
/-- how things may move on: what stays grows; what is new was free or own; all else stands -/
structure Step (O : Addr → Prop) (F H F' H' : Hp) : Prop where
  ff : Same F F'
  new : ∀ a, F' a ≠ none → F a ≠ none ∨ Fre H a ∨ O a
  fr : ∀ a o, H a = some o → ¬ O a → H' a = some o
  th : ∀ a, H a ≠ none → H' a ≠ none
theorem Step.refl (O : Addr → Prop) (F H : Hp) : Step O F H F H := ⟨Same.refl F, fun _ h => .inl h, fun _ _ h _ => h, fun _ h => h⟩
theorem Step.trans {O O1 : Addr → Prop} {F H F1 H1 F2 H2 : Hp} (a : Step O F H F1 H1) (ho : ∀ x, O1 x → O x ∨ H x = none) (b : Step O1 F1 H1 F2 H2) : Step O F H F2 H2 where
  ff := a.ff.trans b.ff
  new := fun x h => by
    rcases b.new x h with q | q | q
    · exact a.new x q
    · cases e : H x with
      | none => exact .inr (.inl (.inl e))
      | some u =>
        by_cases hx : O x
        · exact .inr (.inr hx)
        · refine .inr (.inl (.inr ?_))
          have e1 := a.fr x u e hx
          rcases q with q | ⟨xs, q⟩
          · rw [e1] at q; cases q
          · rw [e1] at q
            cases q
            exact ⟨xs, e⟩
    · rcases ho x q with z | z
      · exact .inr (.inr z)
      · exact .inr (.inl (.inl z))
  fr := fun x o h n => b.fr x o (a.fr x o h n) fun z => by
    rcases ho x z with q | q
    · exact n q
    · rw [h] at q; cases q
  th := fun x h => b.th x (a.th x h)
theorem Step.mono {O O1 : Addr → Prop} {F H F1 H1 : Hp} (a : Step O F H F1 H1) (ho : ∀ x, O x → O1 x) : Step O1 F H F1 H1 :=
  ⟨a.ff, fun x h => (a.new x h).imp id (Or.imp id (ho x)), fun x o h n => a.fr x o h fun z => n (ho x z), a.th⟩
/-- .. with the slots -/
structure ES (K : PySem.W.Frag) (ρ : Env) (σ : L2.St) (F H : Hp) (ρ' : Env) (σ' : L2.St) (F' H' : Hp) : Prop where
  st : Step (Own ρ σ) F H F' H'
  rel : Rel K F' H' ρ' σ'
  own : ∀ a, Own ρ' σ' a → Own ρ σ a ∨ H a = none
  ownl : ∀ a, OwnL ρ' σ' a → OwnL ρ σ a ∨ H a = none
  par : ∀ (i : Nat) (o' : OB), ρ'[i]? = some (some (.par o')) → (∃ o, ρ[i]? = some (some (.par o))) ∧ σ'[i]? = σ[i]?
theorem ES.refl {K : PySem.W.Frag} {ρ : Env} {σ : L2.St} {F H : Hp} (R : Rel K F H ρ σ) : ES K ρ σ F H ρ σ F H := ⟨Step.refl _ _ _, R, fun _ h => .inl h, fun _ h => .inl h, fun i o e => ⟨⟨o, e⟩, rfl⟩⟩

theorem ES.trans {K : PySem.W.Frag} {ρ ρ1 ρ2 : Env} {σ σ1 σ2 : L2.St} {F H F1 H1 F2 H2 : Hp} (a : ES K ρ σ F H ρ1 σ1 F1 H1) (b : ES K ρ1 σ1 F1 H1 ρ2 σ2 F2 H2) : ES K ρ σ F H ρ2 σ2 F2 H2 where
  st := a.st.trans a.own b.st
  rel := b.rel
  own := fun x h => by
    rcases b.own x h with q | q
    · exact a.own x q
    · refine .inr ?_
      cases e : H x with
      | none => rfl
      | some u => exact absurd q (a.st.th x (by rw [e]; simp))
  ownl := fun x h => by
    rcases b.ownl x h with q | q
    · exact a.ownl x q
    · refine .inr ?_
      cases e : H x with
      | none => rfl
      | some u => exact absurd q (a.st.th x (by rw [e]; simp))
  par := fun i o h => by
    obtain ⟨⟨o1, e1⟩, q1⟩ := b.par i o h
    obtain ⟨q0, e0⟩ := a.par i o1 e1
    exact ⟨q0, q1.trans e0⟩
theorem ES.free {K : PySem.W.Frag} {ρ ρ1 : Env} {σ σ1 : L2.St} {F H F1 H1 : Hp} (a : ES K ρ σ F H ρ1 σ1 F1 H1) {x : Addr} (h : H1 x = none) : H x = none := by
  cases e : H x with
  | none => rfl
  | some u => exact absurd h (a.st.th x (by rw [e]; simp))

theorem SlotR.mono {K : PySem.W.Frag} {F F' H H' : Hp} {s : SV} {v : V} (h : SlotR K F H s v) (f : Same F F') (e : ∀ a, F a = none → v = .ref a → (∀ p, s ≠ .val p) → F' a = none ∧ H' a = H a) : SlotR K F' H' s v := by
  cases s with
  | val p => exact RepV.mono f h
  | own o =>
    obtain ⟨a, rfl, n, r⟩ := h
    obtain ⟨n', e'⟩ := e a n rfl (fun _ z => nomatch z)
    exact ⟨a, rfl, n', r.mono f e'⟩
  | par o =>
    obtain ⟨a, rfl, n, r⟩ := h
    obtain ⟨n', e'⟩ := e a n rfl (fun _ z => nomatch z)
    exact ⟨a, rfl, n', r.mono f e'⟩
theorem OwnAt.of {ρ : Env} {σ : L2.St} {i : Nat} {s : SV} {a : Addr} (h : ρ[i]? = some (some s)) (hs : ∀ p, s ≠ .val p) (q : σ[i]? = some (some (.ref a))) : OwnAt ρ σ i a := by
  cases s with
  | val p => exact absurd rfl (hs p)
  | own o => exact ⟨.inl ⟨o, h⟩, q⟩
  | par o => exact ⟨.inr ⟨o, h⟩, q⟩
/-- the world goes on beside the slots -/
theorem Rel.go {K : PySem.W.Frag} {ρ : Env} {σ : L2.St} {F H F' H' : Hp} (R : Rel K F H ρ σ) (f : Same F F') (fh : FH F' H') (e : ∀ a, Own ρ σ a → F' a = none ∧ H' a = H a) : Rel K F' H' ρ σ :=
  ⟨R.len, fun i s h => by
    obtain ⟨v, q, r⟩ := R.slot i s h
    exact ⟨v, q, r.mono f fun a n ev hs => by
      subst ev
      exact e a ⟨i, .of h hs q⟩⟩, fh, R.inj⟩
theorem ES.go {K : PySem.W.Frag} {ρ ρ' : Env} {σ σ' : L2.St} {F H F1 H1 F2 H2 : Hp} (a : ES K ρ σ F H ρ' σ' F1 H1) (f : Same F1 F2) (fh : FH F2 H2) (e : ∀ x, Own ρ' σ' x → F2 x = none ∧ H2 x = H1 x)
    (new : ∀ x, F2 x ≠ none → F1 x ≠ none ∨ Fre H x ∨ Own ρ σ x) (fr : ∀ x o, H x = some o → ¬ Own ρ σ x → H1 x = some o → H2 x = some o) (th : ∀ x, H1 x ≠ none → H2 x ≠ none) : ES K ρ σ F H ρ' σ' F2 H2 where
  st := ⟨a.st.ff.trans f, fun x h => (new x h).elim (a.st.new x) .inr, fun x o h n => fr x o h n (a.st.fr x o h n), fun x h => th x (a.st.th x h)⟩
  rel := a.rel.go f fh e
  own := a.own
  ownl := a.ownl
  par := a.par
/-! ### what a reading by a pure meaning is -/
abbrev WX := EX → Hp → Hp → Prop
def Ok {α : Type} (W : WX) (ρ : Env) (σ : L2.St) (F H : Hp) (res : Res α) (R : α → Prop) : Prop :=
  match res with
  | .ok a => R a
  | .exc x => ∀ F' H', Step (Own ρ σ) F H F' H' → FH F' H' → W x F' H'
  | .bad => False
section
variable {α β : Type} {W : WX} {K : PySem.W.Frag} {ρ ρ1 : Env} {σ σ1 : L2.St} {F H F1 H1 : Hp}
theorem Ok.of_bind {x : Res α} {f : α → Res β} {R : β → Prop} (h : Ok W ρ σ F H (x.bind f) R) : Ok W ρ σ F H x fun a => Ok W ρ σ F H (f a) R := by
  cases x with
  | ok a => exact h
  | exc e => exact h
  | bad => exact h
theorem Ok.mono {x : Res α} {R R' : α → Prop} (h : Ok W ρ σ F H x R) (i : ∀ a, R a → R' a) : Ok W ρ σ F H x R' := by
  cases x with
  | ok a => exact i a h
  | exc e => exact h
  | bad => exact h
theorem Ok.shift {x : Res α} {R : α → Prop} (h : Ok W ρ σ F H x R) (e : ES K ρ σ F H ρ1 σ1 F1 H1) : Ok W ρ1 σ1 F1 H1 x R := by
  cases x with
  | ok a => exact h
  | exc y => exact fun F' H' s fh => h F' H' (e.st.trans e.own s) fh
  | bad => exact h
end
/-- what an expression hands on, as a value of the layer -/
def RepR (K : PySem.W.Frag) (fr : Addr → Prop) (F H : Hp) (ρ : Env) (σ : L2.St) : RV → V → Prop
  | .val p, v => RepV K F p v
  | .bor i, v => σ[i]? = some (some v)
  | .new o, v => ∃ a, v = .ref a ∧ F a = none ∧ fr a ∧ ¬ Own ρ σ a ∧ RepO K F H a o
abbrev Free (H : Hp) : Addr → Prop := fun a => H a = none
def tM (K : PySem.W.Frag) (W : WX) (m : M) : TE := fun σ H Q => ∃ ρ F, Rel K F H ρ σ ∧ Ok W ρ σ F H (m ρ) fun p =>
  ∀ v F' H', ES K ρ σ F H p.2 σ F' H' → RepR K (Free H) F' H' p.2 σ p.1 v → Q v H'
def SE (X : Cx) (W : WX) (e : Expr) (m : M) : Prop := PE X e (tM X.K W m)
theorem PE.imp {X : Cx} {e : Expr} {t t' : TE} (h : PE X e t) (i : ∀ σ H Q, t' σ H Q → t σ H Q) : PE X e t' := ⟨fun pins s σ H Q I q => h.run pins s σ H Q I (i _ _ _ q)⟩
theorem PT.imp {X : Cx} {e : Expr} {t t' : TT} (h : PT X e t) (i : ∀ σ H Q, t' σ H Q → t σ H Q) : PT X e t' := ⟨fun pins s σ H Q I q => h.run pins s σ H Q I (i _ _ _ q)⟩
theorem PS.imp {X : Cx} {e : Stmt} {t t' : TS} (h : PS X e t) (i : ∀ D σ H, t' D σ H → t D σ H) : PS X e t' := ⟨fun pins s σ H D I q => h.run pins s σ H D I (i _ _ _ q)⟩
theorem PSs.imp {X : Cx} {e : List Stmt} {t t' : TS} (h : PSs X e t) (i : ∀ D σ H, t' D σ H → t D σ H) : PSs X e t' := ⟨fun pins s σ H D I q => h.run pins s σ H D I (i _ _ _ q)⟩
theorem PA.imp {X : Cx} {e : List Expr} {t t' : TA} (h : PA X e t) (i : ∀ σ H Q, t' σ H Q → t σ H Q) : PA X e t' := ⟨fun pos pins s σ H Q I q => h.run pos pins s σ H Q I (i _ _ _ q)⟩

/-! ### operands: a new object is laid to what stays -/
def RV.fz : RV → RV
  | .new o => .val o.pv
  | r => r
def mOp (m : M) : M := fun ρ => (m ρ).bind fun p => .ok (p.1.fz, p.2)
theorem RepR.fz {K : PySem.W.Frag} {ρ ρ' : Env} {σ : L2.St} {F H F' H' : Hp} {r : RV} {v : V} (e : ES K ρ σ F H ρ' σ F' H') (h : RepR K (Free H) F' H' ρ' σ r v) :
    ∃ F2, ES K ρ σ F H ρ' σ F2 H' ∧ RepR K (Free H) F2 H' ρ' σ r.fz v := by
  cases r with
  | val p => exact ⟨F', e, h⟩
  | bor i => exact ⟨F', e, h⟩
  | new o =>
    obtain ⟨a, rfl, n, n0, no, r⟩ := h
    obtain ⟨F2, s, ne, fh, q⟩ := r.freeze n e.rel.fh
    refine ⟨F2, e.go s fh (fun x hx => ?_) (fun x hx => ?_) (fun _ _ _ _ q => q) fun _ q => q, q⟩
    · have hxa : x ≠ a := fun z => no (z ▸ hx)
      exact ⟨by rw [ne x hxa]; exact e.rel.ownF hx, rfl⟩
    · by_cases hxa : x = a
      · subst hxa
        exact .inr (.inl (.inl n0))
      · rw [ne x hxa] at hx
        exact .inl hx
theorem SE.op {X : Cx} {W : WX} {e : Expr} {m : M} (h : SE X W e m) : SE X W e (mOp m) := by
  refine PE.imp h fun σ H Q ⟨ρ, F, R, q⟩ => ⟨ρ, F, R, (Ok.of_bind q).mono fun p hp v F' H' es rr => ?_⟩
  obtain ⟨F2, es2, r2⟩ := rr.fz es
  exact hp v F2 H' es2 r2
end Pu

set_option Elab.async false
set_option linter.all false
set_option maxRecDepth 100000
/-! Pu2: operands, primitives, tests, statements. -/
namespace Pu
open PySem PySem.Spec PyProof.Rows L2

/-! ### operands read -/
def deref (ρ : Env) : RV → Option PV
  | .val p => some p
  | .bor i => match ρ[i]? with
    | some (some (.val p)) => some p
    | some (some (.own o)) => some o.pv
    | some (some (.par o)) => some o.pv
    | _ => none
  | .new _ => none
/-- an operand, as a value of the layer -/
def RepQ (K : PySem.W.Frag) (F : Hp) (σ : L2.St) : RV → V → Prop
  | .val p, v => RepV K F p v
  | .bor i, v => σ[i]? = some (some v)
  | .new _, _ => False
section
variable {K : PySem.W.Frag} {F F' H H' : Hp} {ρ ρ' : Env} {σ : L2.St} {r : RV} {v : V} {p : PV}
theorem RepQ.mono (h : RepQ K F σ r v) (f : Same F F') : RepQ K F' σ r v := by
  cases r with
  | val p => exact RepV.mono f h
  | bor i => exact h
  | new o => exact h
theorem RepR.q {fr : Addr → Prop} (h : RepR K fr F H ρ σ r.fz v) : RepQ K F σ r.fz v := by
  cases r with
  | val p => exact h
  | bor i => exact h
  | new o => exact h
theorem RepQ.b (h : RepQ K F σ r v) (R : Rel K F H ρ σ) (d : deref ρ r = some p) : RepB K F H p v := by
  cases r with
  | val q =>
    cases d
    exact RepV.b R.fh h
  | bor i =>
    have hs : σ[i]? = some (some v) := h
    have go : ∀ s : SV, ρ[i]? = some (some s) → (match s with | .val q => q | .own o => o.pv | .par o => o.pv) = p → RepB K F H p v := fun s e ep => by
      obtain ⟨w, ew, rw'⟩ := R.slot i _ e
      rw [hs] at ew
      cases ew
      cases s with
      | val q =>
        subst ep
        exact RepV.b R.fh rw'
      | own o =>
        obtain ⟨a, rfl, n, r⟩ := rw'
        subst ep
        exact r.b
      | par o =>
        obtain ⟨a, rfl, n, r⟩ := rw'
        subst ep
        exact r.b
    unfold deref at d
    dsimp only at d
    cases e : ρ[i]? with
    | none => rw [e] at d; cases d
    | some o =>
      cases o with
      | none => rw [e] at d; cases d
      | some s =>
        rw [e] at d
        refine go s e ?_
        cases s with
        | val q => exact Option.some.inj d
        | own o => exact Option.some.inj d
        | par o => exact Option.some.inj d
  | new o => cases d
end
/-! ### primitives: what they make is new or a value -/
structure Grow (F H F' H' : Hp) : Prop where
  ff : Same F F'
  new : ∀ a, F' a ≠ none → F a ≠ none ∨ Fre H a
  hh : Same H H'
  fh : FH F' H'
theorem Grow.refl {F H : Hp} (h : FH F H) : Grow F H F H := ⟨Same.refl F, fun _ h => .inl h, Same.refl H, h⟩
theorem FH.none {F H : Hp} (h : FH F H) {a : Addr} (e : H a = none) : F a = none := by
  cases q : F a with
  | none => rfl
  | some u =>
    rcases h a u q with z | ⟨_, o, z⟩
    · rw [e] at z; cases z
    · rw [e] at z; cases z
theorem same_upd' {H : Hp} {p : Addr} {o : HO} (h : H p = none) : Same H (upd H p o) := fun b x e => by
  rw [upd_ne (ne_of_none e h)]
  exact e
/-- a new object laid to what stays (a tuple) -/
theorem Grow.tup {F H : Hp} (h : FH F H) {p : Addr} {o : HO} (n : H p = none) : Grow F H (upd F p o) (upd H p o) where
  ff := same_upd' (h.none n)
  new := fun a q => by
    by_cases e : a = p
    · subst e; exact .inr (.inl n)
    · rw [upd_ne e] at q; exact .inl q
  hh := same_upd' n
  fh := fun a u q => by
    by_cases e : a = p
    · subst e
      rw [upd_same] at q ⊢
      cases q
      exact .inl rfl
    · rw [upd_ne e] at q ⊢
      exact h a u q
/-- a new object that may change -/
theorem Grow.obj {F H : Hp} (h : FH F H) {p : Addr} {o : HO} (n : H p = none) : Grow F H F (upd H p o) where
  ff := Same.refl F
  new := fun a q => .inl q
  hh := same_upd' n
  fh := fun a u q => by
    by_cases e : a = p
    · subst e
      rw [h.none n] at q
      cases q
    · rw [upd_ne e]
      exact h a u q
def RepN (K : PySem.W.Frag) (H0 F H : Hp) : RV → V → Prop
  | .val p, v => RepV K F p v
  | .bor _, _ => False
  | .new o, v => ∃ a, v = .ref a ∧ F a = none ∧ H0 a = none ∧ RepO K F H a o
section
variable {K : PySem.W.Frag} {F F' H H' : Hp} {ρ ρ' : Env} {σ : L2.St} {r : RV} {v : V} {p : PV}
theorem Grow.es (g : Grow F H F' H') (R : Rel K F H ρ σ) : ES K ρ σ F H ρ σ F' H' where
  st := ⟨g.ff, fun a h => (g.new a h).imp id .inl, fun a o h _ => g.hh a o h, fun a h => by
    obtain ⟨o, e⟩ := Option.ne_none_iff_exists'.mp h
    rw [g.hh a o e]
    simp⟩
  rel := R.go g.ff g.fh fun a ha => by
    obtain ⟨o, e⟩ := Option.ne_none_iff_exists'.mp (R.ownH ha)
    refine ⟨?_, (g.hh a o e).trans e.symm⟩
    cases q : F' a with
    | none => rfl
    | some u =>
      rcases g.new a (by rw [q]; simp) with z | z
      · exact absurd (R.ownF ha) z
      · exact absurd z (R.ownN ha)
  own := fun a h => .inl h
  ownl := fun a h => .inl h
  par := fun i o h => ⟨⟨o, h⟩, rfl⟩
theorem RepN.rr (R : Rel K F H ρ σ) (h : RepN K H F' H' r v) : RepR K (Free H) F' H' ρ σ r v := by
  cases r with
  | val p => exact h
  | bor i => exact h.elim
  | new o =>
    obtain ⟨a, e, n, n0, r⟩ := h
    exact ⟨a, e, n, n0, fun z => R.ownH z n0, r⟩
end
theorem RepR.weak {K : PySem.W.Frag} {fr fr' : Addr → Prop} {F H : Hp} {ρ : Env} {σ : L2.St} {r : RV} {v : V} (h : RepR K fr F H ρ σ r v) (i : ∀ a, fr a → fr' a) : RepR K fr' F H ρ σ r v := by
  cases r with
  | val p => exact h
  | bor i => exact h
  | new o =>
    obtain ⟨a, e, n, n0, no, r⟩ := h
    exact ⟨a, e, n, i a n0, no, r⟩
/-- a rule of two values does what f tells -/
def Prim2 (K : PySem.W.Frag) (r : R2) (f : PV → PV → Option RV) : Prop :=
  ∀ (x y : V) (F H : Hp) (Q : VK) (a b : PV) (res : RV), FH F H → RepB K F H a x → RepB K F H b y → f a b = some res → (∀ v F' H', Grow F H F' H' → RepN K H F' H' res v → Q v H') → r x y H Q
def Prim1 (K : PySem.W.Frag) (r : V → Hp → VK → Prop) (f : PV → Option RV) : Prop :=
  ∀ (x : V) (F H : Hp) (Q : VK) (a : PV) (res : RV), FH F H → RepB K F H a x → f a = some res → (∀ v F' H', Grow F H F' H' → RepN K H F' H' res v → Q v H') → r x H Q
inductive RepBs (K : PySem.W.Frag) (F H : Hp) : List PV → List V → Prop where
  | nil : RepBs K F H [] []
  | cons {p : PV} {v : V} {ps : List PV} {vs : List V} : RepB K F H p v → RepBs K F H ps vs → RepBs K F H (p :: ps) (v :: vs)
def PrimA (K : PySem.W.Frag) (r : List V → Hp → VK → Prop) (f : List PV → Option RV) : Prop :=
  ∀ (xs : List V) (F H : Hp) (Q : VK) (as : List PV) (res : RV), FH F H → RepBs K F H as xs → f as = some res → (∀ v F' H', Grow F H F' H' → RepN K H F' H' res v → Q v H') → r xs H Q

def liftO {α : Type} : Option α → Res α
  | some a => .ok a
  | none => .bad
@[simp] theorem liftO_some {α : Type} (a : α) : liftO (some a) = .ok a := rfl
@[simp] theorem liftO_none {α : Type} : liftO (none : Option α) = .bad := rfl
def mBin (f : PV → PV → Option RV) (ma mb : M) : M := fun ρ => (mOp ma ρ).bind fun p1 => (mOp mb p1.2).bind fun p2 =>
  (liftO (deref p2.2 p1.1)).bind fun a => (liftO (deref p2.2 p2.1)).bind fun b => (liftO (f a b)).bind fun r => .ok (r, p2.2)
def mUn (f : PV → Option RV) (ma : M) : M := fun ρ => (mOp ma ρ).bind fun p1 =>
  (liftO (deref p1.2 p1.1)).bind fun a => (liftO (f a)).bind fun r => .ok (r, p1.2)
section
variable {K : PySem.W.Frag} {W : WX} {ρ : Env} {σ : L2.St} {F H : Hp} {α β : Type}
theorem Ok.lift {o : Option α} {f : α → Res β} {R : β → Prop} (h : Ok W ρ σ F H ((liftO o).bind f) R) : ∃ a, o = some a ∧ Ok W ρ σ F H (f a) R := by
  cases o with
  | none => exact h.elim
  | some a => exact ⟨a, rfl, h⟩
/-- an operand, then what follows -/
theorem tM_op {m : M} {k : RV × Env → Res β} {R : β → Prop} {Q : VK} (rel : Rel K F H ρ σ) (h : Ok W ρ σ F H ((mOp m ρ).bind k) R)
    (go : ∀ r ρ1 v F1 H1, ES K ρ σ F H ρ1 σ F1 H1 → RepQ K F1 σ r v → Ok W ρ1 σ F1 H1 (k (r, ρ1)) R → Q v H1) : tM K W m σ H Q := by
  refine ⟨ρ, F, rel, ?_⟩
  unfold mOp at h
  cases e : m ρ with
  | ok p =>
    rw [e] at h
    intro v F' H' es rr
    obtain ⟨F2, es2, r2⟩ := rr.fz es
    have h' : Ok W ρ σ F H (k (p.1.fz, p.2)) R := h
    exact go _ _ v F2 H' es2 r2.q (h'.shift es2)
  | exc x => rw [e] at h; exact h
  | bad => rw [e] at h; exact h
theorem tM_bin {f : PV → PV → Option RV} {ma mb : M} {r : R2} {Q : VK} (hp : Prim2 K r f) (h : tM K W (mBin f ma mb) σ H Q) : tOp r (tM K W ma) (tM K W mb) σ H Q := by
  obtain ⟨ρ, F, rel, h⟩ := h
  refine tM_op rel h fun r1 ρ1 x F1 H1 es1 q1 h1 => ?_
  refine tM_op es1.rel h1 fun r2 ρ2 y F2 H2 es2 q2 h2 => ?_
  obtain ⟨a, ea, h3⟩ := h2.lift
  obtain ⟨b, eb, h4⟩ := h3.lift
  obtain ⟨res, er, h5⟩ := h4.lift
  have h5 : ∀ v F' H', ES K ρ σ F H ρ2 σ F' H' → RepR K (Free H) F' H' ρ2 σ res v → Q v H' := h5
  refine hp x y F2 H2 Q a b res es2.rel.fh ((q1.mono es2.st.ff).b es2.rel ea) (q2.b es2.rel eb) er fun v F' H' g rn => ?_
  refine h5 v F' H' ((es1.trans es2).trans (g.es es2.rel)) ?_
  exact (rn.rr es2.rel).weak fun a ha => (es1.trans es2).free ha
theorem tM_un {f : PV → Option RV} {ma : M} {r : V → Hp → VK → Prop} {Q : VK} (hp : Prim1 K r f) (h : tM K W (mUn f ma) σ H Q) : tUn r (tM K W ma) σ H Q := by
  obtain ⟨ρ, F, rel, h⟩ := h
  refine tM_op rel h fun r1 ρ1 x F1 H1 es1 q1 h1 => ?_
  obtain ⟨a, ea, h3⟩ := h1.lift
  obtain ⟨res, er, h5⟩ := h3.lift
  have h5 : ∀ v F' H', ES K ρ σ F H ρ1 σ F' H' → RepR K (Free H) F' H' ρ1 σ res v → Q v H' := h5
  refine hp x F1 H1 Q a res es1.rel.fh (q1.b es1.rel ea) er fun v F' H' g rn => ?_
  refine h5 v F' H' (es1.trans (g.es es1.rel)) ?_
  exact (rn.rr es1.rel).weak fun a ha => es1.free ha
end
section
variable {X : Cx} {W : WX} {a b : Expr} {ma mb : M} {pos : Pos}
theorem SE.bin {op : Operator} {r : R2} {f : PV → PV → Option RV} (ho : OpR X (binaryOp op) r) (hp : Prim2 X.K r f) (ha : SE X W a ma) (hb : SE X W b mb) : SE X W (.BinOp a op b pos) (mBin f ma mb) :=
  PE.imp (pe_op ho ha hb) fun _ _ _ h => tM_bin hp h
theorem SE.cmp {op : CmpOp} {r : R2} {f : PV → PV → Option RV} (ho : OpR X (compareOp op) r) (hp : Prim2 X.K r f) (ha : SE X W a ma) (hb : SE X W b mb) (hm : behindInMarks op b = false) : SE X W (.Compare a [op] [b] pos) (mBin f ma mb) :=
  PE.imp (pe_cmpR ho ha hb hm) fun _ _ _ h => tM_bin hp h
theorem SE.un {op : UnaryOp} {r : V → Hp → VK → Prop} {f : PV → Option RV} (ho : UnR X (unaryOp op) r) (hp : Prim1 X.K r f) (ha : SE X W a ma) : SE X W (.UnaryOp op a pos) (mUn f ma) :=
  PE.imp (pe_un ho ha) fun _ _ _ h => tM_un hp h
end
end Pu

set_option Elab.async false
set_option linter.all false
set_option maxRecDepth 100000
/-! Pu3: names, constants, argument lists, displays, calls of built-ins. -/
namespace Pu
open PySem PySem.Spec PyProof.Rows L2

/-! ### names -/
def mBor (i : Nat) : M := fun ρ => match ρ[i]? with
  | some (some (.val p)) => .ok (.val p, ρ)
  | some (some _) => .ok (.bor i, ρ)
  | _ => .bad
def mNm (i : Nat) : M := fun ρ => match ρ[i]? with
  | some (some (.val p)) => .ok (.val p, ρ)
  | some (some (.own o)) => .ok (.val o.pv, ρ.set i (some (.val o.pv)))
  | some (some (.par o)) => .ok (.val o.pv, ρ.set i (some (.val o.pv)))
  | _ => .bad
def mK (p : PV) : M := fun ρ => .ok (.val p, ρ)
theorem OwnAt.set {ρ : Env} {σ : L2.St} {i j : Nat} {p : PV} {a : Addr} (h : OwnAt (ρ.set i (some (.val p))) σ j a) : OwnAt ρ σ j a ∧ j ≠ i := by
  have key : ∀ s : SV, (∀ q, s ≠ .val q) → (ρ.set i (some (.val p)))[j]? = some (some s) → ρ[j]? = some (some s) ∧ j ≠ i := fun s hs e => by
    by_cases hj : j = i
    · subst hj
      rw [List.getElem?_set] at e
      rw [if_pos rfl] at e
      split at e
      · exact absurd (Option.some.inj (Option.some.inj e)).symm (hs p)
      · cases e
    · rw [List.getElem?_set_ne (Ne.symm hj)] at e
      exact ⟨e, hj⟩
  obtain ⟨(⟨o, e⟩ | ⟨o, e⟩), q⟩ := h
  · obtain ⟨e', n⟩ := key (.own o) (fun _ z => nomatch z) e
    exact ⟨⟨.inl ⟨o, e'⟩, q⟩, n⟩
  · obtain ⟨e', n⟩ := key (.par o) (fun _ z => nomatch z) e
    exact ⟨⟨.inr ⟨o, e'⟩, q⟩, n⟩
theorem ownL_set {ρ : Env} {σ : L2.St} {i : Nat} {p : PV} {a : Addr} (h : OwnL (ρ.set i (some (.val p))) σ a) : OwnL ρ σ a := by
  obtain ⟨j, o, e, q⟩ := h
  by_cases hj : j = i
  · subst hj
    rw [List.getElem?_set, if_pos rfl] at e
    split at e <;> cases e
  · rw [List.getElem?_set_ne (Ne.symm hj)] at e
    exact ⟨j, o, e, q⟩
section
variable {K : PySem.W.Frag} {W : WX} {ρ : Env} {σ : L2.St} {F H : Hp}
/-- an own slot's object is laid to what stays -/
theorem Rel.freeze {i : Nat} {o : OB} (R : Rel K F H ρ σ) (e : ρ[i]? = some (some (.own o)) ∨ ρ[i]? = some (some (.par o))) :
    ∃ F' v, σ[i]? = some (some v) ∧ ES K ρ σ F H (ρ.set i (some (.val o.pv))) σ F' H ∧ RepV K F' o.pv v := by
  have hi : i < ρ.length := by
    rcases e with e | e
    · exact (List.getElem?_eq_some_iff.mp e).1
    · exact (List.getElem?_eq_some_iff.mp e).1
  obtain ⟨a, hs, n, r⟩ : ∃ a, σ[i]? = some (some (V.ref a)) ∧ F a = none ∧ RepO K F H a o := by
    rcases e with e | e
    · obtain ⟨v, q, a, rfl, n, r⟩ := R.slot i _ e
      exact ⟨a, q, n, r⟩
    · obtain ⟨v, q, a, rfl, n, r⟩ := R.slot i _ e
      exact ⟨a, q, n, r⟩
  have own : OwnAt ρ σ i a := by
    rcases e with e | e
    · exact ⟨.inl ⟨o, e⟩, hs⟩
    · exact ⟨.inr ⟨o, e⟩, hs⟩
  obtain ⟨F', s, ne, fh, q⟩ := r.freeze n R.fh
  refine ⟨F', _, hs, ⟨⟨s, fun x h => ?_, fun _ _ h _ => h, fun _ h => h⟩, ⟨by simpa using R.len, fun j t h => ?_, fh, fun j k x h1 h2 => R.inj j k x h1.set.1 h2.set.1⟩, fun x ⟨j, h⟩ => .inl ⟨j, h.set.1⟩, fun x h => .inl (ownL_set h), fun j o' h => ?_⟩, q⟩
  · by_cases hx : x = a
    · subst hx
      exact .inr (.inr ⟨i, own⟩)
    · rw [ne x hx] at h
      exact .inl h
  · by_cases hj : j = i
    · subst hj
      rw [List.getElem?_set, if_pos rfl, if_pos hi] at h
      cases h
      exact ⟨_, hs, q⟩
    · rw [List.getElem?_set_ne (Ne.symm hj)] at h
      obtain ⟨v, e1, r1⟩ := R.slot j t h
      refine ⟨v, e1, r1.mono s fun b nb ev hsv => ?_⟩
      subst ev
      have hb : b ≠ a := fun z => hj (R.inj j i a (z ▸ OwnAt.of h hsv e1) own)
      exact ⟨by rw [ne b hb]; exact nb, rfl⟩
  · by_cases hj : j = i
    · subst hj
      rw [List.getElem?_set, if_pos rfl, if_pos hi] at h
      cases h
    · rw [List.getElem?_set_ne (Ne.symm hj)] at h
      exact ⟨⟨o', h⟩, rfl⟩
end
section
variable {X : Cx} {W : WX}
theorem SE.bor {i : Nat} {x : Str} {pos : Pos} (h : PE X (.Name x pos) (tVar i)) : SE X W (.Name x pos) (mBor i) := by
  refine PE.imp h fun σ H Q ⟨ρ, F, R, q⟩ => ?_
  unfold mBor at q
  cases e : ρ[i]? with
  | none => rw [e] at q; exact q.elim
  | some s =>
    cases s with
    | none => rw [e] at q; exact q.elim
    | some s =>
      obtain ⟨v, ev, r⟩ := R.slot i s e
      rw [e] at q
      refine ⟨v, ev, ?_⟩
      cases s with
      | val p => exact q v F H (ES.refl R) r
      | own o => exact q v F H (ES.refl R) ev
      | par o => exact q v F H (ES.refl R) ev
theorem SE.nm {i : Nat} {x : Str} {pos : Pos} (h : PE X (.Name x pos) (tVar i)) : SE X W (.Name x pos) (mNm i) := by
  refine PE.imp h fun σ H Q ⟨ρ, F, R, q⟩ => ?_
  unfold mNm at q
  cases e : ρ[i]? with
  | none => rw [e] at q; exact q.elim
  | some s =>
    cases s with
    | none => rw [e] at q; exact q.elim
    | some s =>
      cases s with
      | val p =>
        obtain ⟨v, ev, r⟩ := R.slot i _ e
        rw [e] at q
        exact ⟨v, ev, q v F H (ES.refl R) r⟩
      | own o =>
        obtain ⟨F', v, ev, es, r⟩ := R.freeze (.inl e)
        rw [e] at q
        exact ⟨v, ev, q v F' H es r⟩
      | par o =>
        obtain ⟨F', v, ev, es, r⟩ := R.freeze (.inr e)
        rw [e] at q
        exact ⟨v, ev, q v F' H es r⟩
/-- a constant -/
theorem SE.const {e : Expr} {v : V} {p : PV} (h : PE X e (tC v)) (r : ∀ F, RepV X.K F p v) : SE X W e (mK p) :=
  PE.imp h fun σ H Q ⟨ρ, F, R, q⟩ => q v F H (ES.refl R) (r F)
theorem SE.int {i : Int} {j pos} : SE X W (.Constant (.int i) j pos) (mK (.int i)) := SE.const pe_int fun F => by unfold RepV; rfl
theorem SE.str {i : Str} {j pos} : SE X W (.Constant (.str i) j pos) (mK (.str i)) := SE.const pe_str fun F => by unfold RepV; rfl
theorem SE.bl {i : Bool} {j pos} : SE X W (.Constant (.bool i) j pos) (mK (.bl i)) := SE.const pe_bl fun F => by unfold RepV; rfl
theorem SE.non {j pos} : SE X W (.Constant .none j pos) (mK .non) := SE.const pe_non fun F => by unfold RepV; rfl
/-- a module's constant that is a number -/
theorem SE.glI {x : Str} {i : Int} {t : Tok} {pos : Pos} (hm : X.mg x = some (.int i t)) (hg : Gl X x) (hd : (x == ("__debug__" : Str)) = false := by decide) : SE X W (.Name x pos) (mK (.int i)) :=
  SE.const (pe_glob (v := V.int i) hg hm ⟨t, rfl⟩ hd) fun F => by unfold RepV; rfl
end

/-! ### argument lists -/
abbrev MA := Env → Res (List RV × Env)
inductive RepQs (K : PySem.W.Frag) (F : Hp) (σ : L2.St) : List RV → List V → Prop where
  | nil : RepQs K F σ [] []
  | cons {r : RV} {v : V} {rs : List RV} {vs : List V} : RepQ K F σ r v → RepQs K F σ rs vs → RepQs K F σ (r :: rs) (v :: vs)
theorem RepQs.mono {K : PySem.W.Frag} {F F' : Hp} {σ : L2.St} {rs : List RV} {vs : List V} (h : RepQs K F σ rs vs) (f : Same F F') : RepQs K F' σ rs vs := by
  induction h with
  | nil => exact .nil
  | cons a b ih => exact .cons (a.mono f) ih
def derefs (ρ : Env) : List RV → Option (List PV)
  | [] => some []
  | r :: rs => (deref ρ r).bind fun p => (derefs ρ rs).map fun ps => p :: ps
theorem RepQs.b {K : PySem.W.Frag} {F H : Hp} {ρ : Env} {σ : L2.St} {rs : List RV} {vs : List V} (h : RepQs K F σ rs vs) (R : Rel K F H ρ σ) : ∀ {ps : List PV}, derefs ρ rs = some ps → RepBs K F H ps vs := by
  induction h with
  | nil =>
    intro ps e
    cases e
    exact .nil
  | cons a b ih =>
    intro ps e
    unfold derefs at e
    rename_i r v rs vs
    cases e1 : deref ρ r with
    | none => rw [e1] at e; cases e
    | some p =>
      rw [e1] at e
      cases e2 : derefs ρ rs with
      | none => rw [e2] at e; cases e
      | some qs =>
        rw [e2] at e
        cases e
        exact .cons (a.b R e1) (ih e2)
def tMA (K : PySem.W.Frag) (W : WX) (m : MA) : TA := fun σ H Q => ∃ ρ F, Rel K F H ρ σ ∧ Ok W ρ σ F H (m ρ) fun p =>
  ∀ vs F' H', ES K ρ σ F H p.2 σ F' H' → RepQs K F' σ p.1 vs → Q vs H'
def SA (X : Cx) (W : WX) (es : List Expr) (m : MA) : Prop := PA X es (tMA X.K W m)
def mANil : MA := fun ρ => .ok ([], ρ)
def mACons (m : M) (ma : MA) : MA := fun ρ => (mOp m ρ).bind fun p1 => (ma p1.2).bind fun p2 => .ok (p1.1 :: p2.1, p2.2)
section
variable {X : Cx} {W : WX} {e : Expr} {es : List Expr} {m : M} {ma : MA} {pos : Pos}
theorem SA.nil : SA X W [] mANil := PA.imp pa_nil fun σ H Q ⟨ρ, F, R, q⟩ => q [] F H (ES.refl R) .nil
theorem SA.cons (h : SE X W e m) (t : SA X W es ma) (hs : starEach (e :: es) X.env = (false, eval e X.env) :: starEach es X.env := by rfl) : SA X W (e :: es) (mACons m ma) := by
  refine PA.imp (pa_cons h t hs) fun σ H Q ⟨ρ, F, R, q⟩ => ?_
  refine tM_op R q fun r ρ1 x F1 H1 es1 q1 h1 => ?_
  refine ⟨ρ1, F1, es1.rel, h1.of_bind.mono fun p hp vs F' H' es2 qs => ?_⟩
  exact hp (x :: vs) F' H' (es1.trans es2) (.cons (q1.mono es2.st.ff) qs)

/-! ### displays -/
def RV.val? : RV → Option PV
  | .val p => some p
  | _ => none
def vals? : List RV → Option (List PV)
  | [] => some []
  | r :: rs => r.val?.bind fun p => (vals? rs).map fun ps => p :: ps
theorem RepQs.vals {K : PySem.W.Frag} {F : Hp} {σ : L2.St} {rs : List RV} {vs : List V} (h : RepQs K F σ rs vs) : ∀ {ps : List PV}, vals? rs = some ps → RepVs K F ps vs := by
  induction h with
  | nil =>
    intro ps e
    cases e
    exact .nil
  | cons a b ih =>
    intro ps e
    unfold vals? at e
    rename_i r v rs vs
    cases r with
    | val p =>
      cases e2 : vals? rs with
      | none => rw [e2] at e; cases e
      | some qs =>
        rw [e2] at e
        cases e
        exact .cons a (ih e2)
    | bor i => cases e
    | new o => cases e
def small (xs : List PV) : Option (List PV) := if xs.length ≤ 16777216 then some xs else none
def mTup (ma : MA) : M := fun ρ => (ma ρ).bind fun p => (liftO (vals? p.1)).bind fun xs => (liftO (small xs)).bind fun xs => .ok (.val (.tup xs), p.2)
def mLst (ma : MA) : M := fun ρ => (ma ρ).bind fun p => (liftO (vals? p.1)).bind fun xs => (liftO (small xs)).bind fun xs => .ok (.new (.lst xs), p.2)
theorem small_inv {xs ys : List PV} (h : small xs = some ys) : ys = xs ∧ xs.length ≤ sizeLine := by
  unfold small at h
  split at h
  · cases h
    exact ⟨rfl, by rw [sizeLine_eq]; assumption⟩
  · cases h
theorem SE.tup {k : Nat} (h : SA X W es ma) : SE X W (.Tuple es k pos) (mTup ma) := by
  refine PE.imp (pe_tup h) fun σ H Q ⟨ρ, F, R, q⟩ => ?_
  refine ⟨ρ, F, R, q.of_bind.mono fun p hp vs F1 H1 es1 qs => ?_⟩
  obtain ⟨xs, e1, h2⟩ := hp.lift
  obtain ⟨ys, e2, h3⟩ := h2.lift
  obtain ⟨rfl, hz⟩ := small_inv e2
  have h3 : ∀ v F' H', ES X.K ρ σ F H p.2 σ F' H' → RepR X.K (Free H) F' H' p.2 σ (.val (.tup ys)) v → Q v H' := h3
  have rv := qs.vals e1
  refine ⟨by rw [← rv.length]; exact hz, fun a n => ?_⟩
  have g := Grow.tup (o := .tup vs) es1.rel.fh n
  refine h3 _ _ _ (es1.trans (g.es es1.rel)) ?_
  show RepV _ _ _ _
  unfold RepV
  exact ⟨a, vs, rfl, upd_same, rv.mono g.ff⟩
theorem SE.lst (h : SA X W es ma) : SE X W (.List es pos) (mLst ma) := by
  refine PE.imp (pe_lst h) fun σ H Q ⟨ρ, F, R, q⟩ => ?_
  refine ⟨ρ, F, R, q.of_bind.mono fun p hp vs F1 H1 es1 qs => ?_⟩
  obtain ⟨xs, e1, h2⟩ := hp.lift
  obtain ⟨ys, e2, h3⟩ := h2.lift
  obtain ⟨rfl, hz⟩ := small_inv e2
  have h3 : ∀ v F' H', ES X.K ρ σ F H p.2 σ F' H' → RepR X.K (Free H) F' H' p.2 σ (.new (.lst ys)) v → Q v H' := h3
  have rv := qs.vals e1
  refine ⟨by rw [← rv.length]; exact hz, fun a n => ?_⟩
  have g := Grow.obj (o := .lst vs) es1.rel.fh n
  have e2 := es1.trans (g.es es1.rel)
  exact h3 _ _ _ e2 ⟨a, rfl, es1.rel.fh.none n, es1.free n, fun z => es1.rel.ownH z n, vs, upd_same, rv⟩

/-! ### calls of built-ins -/
def mApp (f : List PV → Option RV) (ma : MA) : M := fun ρ => (ma ρ).bind fun p => (liftO (derefs p.2 p.1)).bind fun as => (liftO (f as)).bind fun r => .ok (r, p.2)
theorem tM_app {f : List PV → Option RV} {K : PySem.W.Frag} {r : List V → Hp → VK → Prop} {σ : L2.St} {H : Hp} {Q : VK} (hp : PrimA K r f) (h : tM K W (mApp f ma) σ H Q) : tCB r (tMA K W ma) σ H Q := by
  obtain ⟨ρ, F, R, q⟩ := h
  refine ⟨ρ, F, R, q.of_bind.mono fun p h1 vs F1 H1 es1 qs => ?_⟩
  obtain ⟨as, e1, h2⟩ := h1.lift
  obtain ⟨res, e2, h3⟩ := h2.lift
  have h3 : ∀ v F' H', ES K ρ σ F H p.2 σ F' H' → RepR K (Free H) F' H' p.2 σ res v → Q v H' := h3
  refine hp vs F1 H1 Q as res es1.rel.fh (qs.b es1.rel e1) e2 fun v F' H' g rn => ?_
  exact h3 v F' H' (es1.trans (g.es es1.rel)) ((rn.rr es1.rel).weak fun a ha => es1.free ha)
variable {x : Str} {p : Pos} {id T : String} {r : List V → Hp → VK → Prop} {f : List PV → Option RV}
theorem SE.callB (hc : CallR X (.builtin id) r) (hp : PrimA X.K r f) (hm : X.mg x = none) (hg : Gl X x) (hv : bootBuiltins x = some (.builtin id)) (ha : SA X W (e :: es) ma) (hn : x ≠ "__name__" := by decide) (hdb : (x == ("__debug__" : Str)) = false := by decide)
    (he : starEach (e :: es) X.env = (false, eval e X.env) :: starEach es X.env := by rfl) (hpl : (backTo pos (starEach es X.env)).any (·.1) = false := by rfl) : SE X W (.Call (.Name x p) (e :: es) [] pos) (mApp f ma) :=
  PE.imp (pe_callB hc hg hm hv ha hn hdb he hpl) fun _ _ _ h => tM_app hp h
theorem SE.callTy (hc : CallR X (.type T) r) (hp : PrimA X.K r f) (hm : X.mg x = none) (hg : Gl X x) (hv : bootBuiltins x = some (.type T)) (ha : SA X W (e :: es) ma) (hn : x ≠ "__name__" := by decide) (hdb : (x == ("__debug__" : Str)) = false := by decide)
    (he : starEach (e :: es) X.env = (false, eval e X.env) :: starEach es X.env := by rfl) (hpl : (backTo pos (starEach es X.env)).any (·.1) = false := by rfl) : SE X W (.Call (.Name x p) (e :: es) [] pos) (mApp f ma) :=
  PE.imp (pe_callTy hc hg hm hv ha hn hdb he hpl) fun _ _ _ h => tM_app hp h
end
end Pu

set_option Elab.async false
set_option linter.all false
set_option maxRecDepth 100000
/-! Pu4: calls of defs; statements; what a def is worth. -/
namespace Pu
open PySem PySem.Spec PyProof.Rows L2

inductive AV where
  | val (p : PV) | own (o : OB)
def AV.slot : AV → Option SV
  | .val p => some (.val p)
  | .own o => some (.par o)
/-- a def's pure meaning: what it hands back, what is left of the objects lent to it -/
abbrev G := List AV → Res (RV × List (Option OB))
def RepOut (K : PySem.W.Frag) (F H : Hp) (vs : List V) (outs : List (Option OB)) : Prop :=
  ∀ (i : Nat) (o : OB), outs[i]? = some (some o) → ∃ a, vs[i]? = some (V.ref a) ∧ F a = none ∧ RepO K F H a o
abbrev RXT := EX → Value → Option Addr → Hp → Prop
/-- a def's promise by its pure meaning -/
def spF (K : PySem.W.Frag) (RX : RXT) (g : G) (n : Nat) : Sp := fun vs H Q E => vs.length = n ∧ ∃ F avs, Rel K F H (avs.map AV.slot) (vs.map some) ∧
  match g avs with
  | .ok q => ∀ v F' H', Step (Own (avs.map AV.slot) (vs.map some)) F H F' H' → FH F' H' → RepN K H F' H' q.1 v → RepOut K F' H' vs q.2 → Q v H'
  | .exc x => ∀ cls d F' H', Step (Own (avs.map AV.slot) (vs.map some)) F H F' H' → FH F' H' → RX x cls d H' → E cls d H'
  | .bad => False

def avOf (ρ : Env) : RV → Option AV
  | .val p => some (.val p)
  | .bor i => match ρ[i]? with
    | some (some (.val p)) => some (.val p)
    | some (some (.own o)) => some (.own o)
    | some (some (.par o)) => some (.own o)
    | _ => none
  | .new _ => none
def avsOf (ρ : Env) : List RV → Option (List AV)
  | [] => some []
  | r :: rs => (avOf ρ r).bind fun p => (avsOf ρ rs).map fun ps => p :: ps
def RV.bor? : RV → Option Nat
  | .bor i => some i
  | _ => none
/-- the place of the argument that lends slot j -/
def findArg (j : Nat) : List RV → Option Nat
  | [] => none
  | r :: rs => if r.bor? = some j then some 0 else (findArg j rs).map (· + 1)
def back1 (s : Option SV) (out : Option OB) : Option SV :=
  match s with
  | some (.own _) => out.map SV.own
  | some (.par _) => out.map SV.par
  | s => s
def backs (ρ : Env) (rs : List RV) (outs : List (Option OB)) : Env := ρ.mapIdx fun j s => match findArg j rs with
  | some k => back1 s (outs[k]?).join
  | none => s
def lone (rs : List RV) : Bool := decide (rs.filterMap RV.bor?).Nodup
def mCall (g : G) (ma : MA) : M := fun ρ => (ma ρ).bind fun p => (liftO (if lone p.1 then avsOf p.2 p.1 else none)).bind fun avs => (g avs).bind fun q => .ok (q.1, backs p.2 p.1 q.2)

theorem findArg_some {j : Nat} : ∀ {rs : List RV} {k : Nat}, findArg j rs = some k → rs[k]? = some (.bor j)
  | [], _, h => by cases h
  | r :: rs, k, h => by
    unfold findArg at h
    split at h
    · rename_i e
      cases h
      cases r with
      | bor i => cases e; rfl
      | val p => cases e
      | new o => cases e
    · cases e : findArg j rs with
      | none => rw [e] at h; cases h
      | some m =>
        rw [e] at h
        cases h
        simpa using findArg_some e
theorem findArg_none {j : Nat} : ∀ {rs : List RV}, findArg j rs = none → ∀ k : Nat, rs[k]? ≠ some (.bor j)
  | [], _, k => by simp
  | r :: rs, h, k => by
    unfold findArg at h
    split at h
    · cases h
    · rename_i n
      cases e : findArg j rs with
      | some m => rw [e] at h; cases h
      | none =>
        cases k with
        | zero =>
          intro z
          simp at z
          subst z
          exact n rfl
        | succ k => simpa using findArg_none e k
theorem lone_inj' {rs : List RV} (h : (rs.filterMap RV.bor?).Nodup) : ∀ (k m i : Nat), rs[k]? = some (.bor i) → rs[m]? = some (.bor i) → k = m := by
  induction rs with
  | nil => intro k m i h1; simp at h1
  | cons r rs ih =>
    intro k m i h1 h2
    have mem : ∀ (n : Nat), rs[n]? = some (.bor i) → i ∈ rs.filterMap RV.bor? := fun n hn => List.mem_filterMap.mpr ⟨_, List.mem_of_getElem? hn, rfl⟩
    have ht : (rs.filterMap RV.bor?).Nodup := by
      cases e : r.bor? with
      | none => rw [List.filterMap_cons_none e] at h; exact h
      | some j => rw [List.filterMap_cons_some e] at h; exact (List.nodup_cons.mp h).2
    have hd : r = .bor i → i ∉ rs.filterMap RV.bor? := fun z => by
      subst z
      rw [List.filterMap_cons_some (show RV.bor? (.bor i) = some i from rfl)] at h
      exact (List.nodup_cons.mp h).1
    cases k with
    | zero =>
      cases m with
      | zero => rfl
      | succ m =>
        simp at h1 h2
        exact absurd (mem m h2) (hd h1)
    | succ k =>
      cases m with
      | zero =>
        simp at h1 h2
        exact absurd (mem k h1) (hd h2)
      | succ m =>
        simp at h1 h2
        rw [ih ht k m i h1 h2]
theorem lone_inj {rs : List RV} (h : lone rs = true) : ∀ (k m i : Nat), rs[k]? = some (.bor i) → rs[m]? = some (.bor i) → k = m := lone_inj' (of_decide_eq_true h)
theorem RepQs.get {K : PySem.W.Frag} {F : Hp} {σ : L2.St} {rs : List RV} {vs : List V} (h : RepQs K F σ rs vs) : ∀ (k : Nat) (r : RV), rs[k]? = some r → ∃ v, vs[k]? = some v ∧ RepQ K F σ r v := by
  induction h with
  | nil => intro k r e; simp at e
  | cons a b ih =>
    intro k r e
    cases k with
    | zero => simp at e; subst e; exact ⟨_, rfl, a⟩
    | succ k => simpa using ih k r (by simpa using e)
theorem RepQs.length {K : PySem.W.Frag} {F : Hp} {σ : L2.St} {rs : List RV} {vs : List V} (h : RepQs K F σ rs vs) : rs.length = vs.length := by
  induction h with
  | nil => rfl
  | cons a b ih => simp [ih]
theorem avsOf_get {ρ : Env} : ∀ {rs : List RV} {avs : List AV}, avsOf ρ rs = some avs → avs.length = rs.length ∧ ∀ (k : Nat) (av : AV), avs[k]? = some av → ∃ r, rs[k]? = some r ∧ avOf ρ r = some av
  | [], avs, h => by
    cases h
    exact ⟨rfl, fun k av e => by simp at e⟩
  | r :: rs, avs, h => by
    unfold avsOf at h
    cases e1 : avOf ρ r with
    | none => rw [e1] at h; cases h
    | some p =>
      rw [e1] at h
      cases e2 : avsOf ρ rs with
      | none => rw [e2] at h; cases h
      | some ps =>
        rw [e2] at h
        cases h
        obtain ⟨l, g⟩ := avsOf_get e2
        refine ⟨by simp [l], fun k av e => ?_⟩
        cases k with
        | zero => simp at e; subst e; exact ⟨r, rfl, e1⟩
        | succ k => simpa using g k av (by simpa using e)
/-- what an argument lends -/
theorem avOf_own {ρ : Env} {r : RV} {o : OB} (h : avOf ρ r = some (.own o)) : ∃ i, r = .bor i ∧ (ρ[i]? = some (some (.own o)) ∨ ρ[i]? = some (some (.par o))) := by
  cases r with
  | val p => cases h
  | new o => cases h
  | bor i =>
    unfold avOf at h
    dsimp only at h
    refine ⟨i, rfl, ?_⟩
    cases e : ρ[i]? with
    | none => rw [e] at h; cases h
    | some s =>
      cases s with
      | none => rw [e] at h; cases h
      | some s =>
        rw [e] at h
        cases s with
        | val p => cases h
        | own o' => cases h; exact .inl rfl
        | par o' => cases h; exact .inr rfl
theorem avOf_val {K : PySem.W.Frag} {F H : Hp} {ρ : Env} {σ : L2.St} {r : RV} {p : PV} {v : V} (R : Rel K F H ρ σ) (q : RepQ K F σ r v) (h : avOf ρ r = some (.val p)) : RepV K F p v := by
  cases r with
  | val p => cases h; exact q
  | new o => cases h
  | bor i =>
    unfold avOf at h
    dsimp only at h
    cases e : ρ[i]? with
    | none => rw [e] at h; cases h
    | some s =>
      cases s with
      | none => rw [e] at h; cases h
      | some s =>
        rw [e] at h
        cases s with
        | val p' =>
          cases h
          obtain ⟨w, ew, rw'⟩ := R.slot i _ e
          have q : σ[i]? = some (some v) := q
          rw [q] at ew
          cases ew
          exact rw'
        | own o' => cases h
        | par o' => cases h
section
variable {K : PySem.W.Frag} {W : WX} {ρ : Env} {σ : L2.St} {F H F' H' : Hp} {rs : List RV} {vs : List V} {avs : List AV} {outs : List (Option OB)}
theorem slot_own {avs : List AV} {k : Nat} {o : OB} (h : (avs.map AV.slot)[k]? = some (some (.own o))) : False := by
  rw [List.getElem?_map] at h
  cases e : avs[k]? with
  | none => rw [e] at h; cases h
  | some av => rw [e] at h; cases av <;> cases h
theorem slot_par {avs : List AV} {k : Nat} {o : OB} (h : (avs.map AV.slot)[k]? = some (some (.par o))) : avs[k]? = some (.own o) := by
  rw [List.getElem?_map] at h
  cases e : avs[k]? with
  | none => rw [e] at h; cases h
  | some av =>
    rw [e] at h
    cases av with
    | val p => cases h
    | own o' => cases h; rfl
theorem slot_val {avs : List AV} {k : Nat} {p : PV} (h : (avs.map AV.slot)[k]? = some (some (.val p))) : avs[k]? = some (.val p) := by
  rw [List.getElem?_map] at h
  cases e : avs[k]? with
  | none => rw [e] at h; cases h
  | some av =>
    rw [e] at h
    cases av with
    | val p => cases h; rfl
    | own o' => cases h
/-- whose objects the arguments lend -/
theorem lent (R : Rel K F H ρ σ) (q : RepQs K F σ rs vs) (e : avsOf ρ rs = some avs) {k : Nat} {a : Addr} (h : OwnAt (avs.map AV.slot) (vs.map some) k a) : ∃ i, rs[k]? = some (.bor i) ∧ OwnAt ρ σ i a := by
  obtain ⟨(⟨o, h1⟩ | ⟨o, h1⟩), h2⟩ := h
  · exact (slot_own h1).elim
  · obtain ⟨r, er, ea⟩ := (avsOf_get e).2 k _ (slot_par h1)
    obtain ⟨i, rfl, hi⟩ := avOf_own ea
    obtain ⟨v, ev, qv⟩ := q.get k _ er
    rw [List.getElem?_map, ev] at h2
    cases h2
    refine ⟨i, er, ?_, qv⟩
    rcases hi with z | z
    · exact .inl ⟨o, z⟩
    · exact .inr ⟨o, z⟩
theorem call_entry (R : Rel K F H ρ σ) (q : RepQs K F σ rs vs) (e : avsOf ρ rs = some avs) (l : lone rs = true) : Rel K F H (avs.map AV.slot) (vs.map some) where
  len := by simp [(avsOf_get e).1, q.length]
  slot := fun k s h => by
    cases s with
    | own o => exact (slot_own h).elim
    | val p =>
      obtain ⟨r, er, ea⟩ := (avsOf_get e).2 k _ (slot_val h)
      obtain ⟨v, ev, qv⟩ := q.get k _ er
      exact ⟨v, by rw [List.getElem?_map, ev]; rfl, avOf_val R qv ea⟩
    | par o =>
      obtain ⟨r, er, ea⟩ := (avsOf_get e).2 k _ (slot_par h)
      obtain ⟨i, rfl, hi⟩ := avOf_own ea
      obtain ⟨v, ev, qv⟩ := q.get k _ er
      have qv : σ[i]? = some (some v) := qv
      refine ⟨v, by rw [List.getElem?_map, ev]; rfl, ?_⟩
      rcases hi with z | z
      · obtain ⟨w, ew, a, rfl, n, r⟩ := R.slot i _ z
        rw [qv] at ew
        cases ew
        exact ⟨a, rfl, n, r⟩
      · obtain ⟨w, ew, a, rfl, n, r⟩ := R.slot i _ z
        rw [qv] at ew
        cases ew
        exact ⟨a, rfl, n, r⟩
  fh := R.fh
  inj := fun k m a h1 h2 => by
    obtain ⟨i, e1, o1⟩ := lent R q e h1
    obtain ⟨j, e2, o2⟩ := lent R q e h2
    have := R.inj i j a o1 o2
    subst this
    exact lone_inj l k m i e1 e2
theorem backs_get {ρ : Env} {rs : List RV} {outs : List (Option OB)} {j : Nat} {s : SV} (h : (backs ρ rs outs)[j]? = some (some s)) :
    (ρ[j]? = some (some s) ∧ ((∃ p, s = .val p) ∨ findArg j rs = none)) ∨ ∃ k o, findArg j rs = some k ∧ outs[k]? = some (some o) ∧ (((∃ o', ρ[j]? = some (some (.own o'))) ∧ s = .own o) ∨ ((∃ o', ρ[j]? = some (some (.par o'))) ∧ s = .par o)) := by
  unfold backs at h
  rw [List.getElem?_mapIdx] at h
  cases e : ρ[j]? with
  | none => rw [e] at h; cases h
  | some t =>
    rw [e] at h
    have h := Option.some.inj h
    cases f : findArg j rs with
    | none =>
      rw [f] at h
      exact .inl ⟨by rw [← h], .inr rfl⟩
    | some k =>
      rw [f] at h
      dsimp only at h
      cases t with
      | none => cases h
      | some t =>
        cases t with
        | val p =>
          have h : some (SV.val p) = some s := h
          cases h
          exact .inl ⟨rfl, .inl ⟨p, rfl⟩⟩
        | own o' =>
          have h : (outs[k]?).join.map SV.own = some s := h
          cases g : outs[k]? with
          | none => rw [g] at h; cases h
          | some o =>
            rw [g] at h
            cases o with
            | none => cases h
            | some o =>
              cases h
              exact .inr ⟨k, o, rfl, g, .inl ⟨⟨o', rfl⟩, rfl⟩⟩
        | par o' =>
          have h : (outs[k]?).join.map SV.par = some s := h
          cases g : outs[k]? with
          | none => rw [g] at h; cases h
          | some o =>
            rw [g] at h
            cases o with
            | none => cases h
            | some o =>
              cases h
              exact .inr ⟨k, o, rfl, g, .inr ⟨⟨o', rfl⟩, rfl⟩⟩
theorem backs_own {j : Nat} {a : Addr} (h : OwnAt (backs ρ rs outs) σ j a) : OwnAt ρ σ j a := by
  obtain ⟨(⟨o, h1⟩ | ⟨o, h1⟩), h2⟩ := h
  · rcases backs_get h1 with ⟨e, _⟩ | ⟨k, o', _, _, (⟨⟨o2, e⟩, _⟩ | ⟨⟨o2, e⟩, z⟩)⟩
    · exact ⟨.inl ⟨o, e⟩, h2⟩
    · exact ⟨.inl ⟨o2, e⟩, h2⟩
    · cases z
  · rcases backs_get h1 with ⟨e, _⟩ | ⟨k, o', _, _, (⟨⟨o2, e⟩, z⟩ | ⟨⟨o2, e⟩, _⟩)⟩
    · exact ⟨.inr ⟨o, e⟩, h2⟩
    · cases z
    · exact ⟨.inr ⟨o2, e⟩, h2⟩
/-- behind a call -/
theorem call_exit (R : Rel K F H ρ σ) (q : RepQs K F σ rs vs) (e : avsOf ρ rs = some avs) (st : Step (Own (avs.map AV.slot) (vs.map some)) F H F' H') (fh : FH F' H') (ro : RepOut K F' H' vs outs) :
    ES K ρ σ F H (backs ρ rs outs) σ F' H' where
  st := st.mono fun a ⟨k, h⟩ => let ⟨i, _, o⟩ := lent R q e h; ⟨i, o⟩
  rel := by
    refine ⟨by unfold backs; simpa using R.len, fun j s h => ?_, fh, fun i j a h1 h2 => R.inj i j a (backs_own h1) (backs_own h2)⟩
    rcases backs_get h with ⟨es, hv⟩ | ⟨k, o, hf, ho, hk⟩
    · obtain ⟨v, ev, r⟩ := R.slot j s es
      refine ⟨v, ev, r.mono st.ff fun a n ea hs => ?_⟩
      subst ea
      have ow := OwnAt.of es hs ev
      have hn : findArg j rs = none := by
        rcases hv with ⟨p, z⟩ | z
        · exact absurd z (hs p)
        · exact z
      have nl : ¬ Own (avs.map AV.slot) (vs.map some) a := fun ⟨k, hk⟩ => by
        obtain ⟨i, ei, oi⟩ := lent R q e hk
        have := R.inj i j a oi ow
        subst this
        exact findArg_none hn k ei
      obtain ⟨u, hu⟩ := Option.ne_none_iff_exists'.mp (R.ownH ⟨j, ow⟩)
      refine ⟨?_, (st.fr a u hu nl).trans hu.symm⟩
      cases z : F' a with
      | none => rfl
      | some w =>
        rcases st.new a (by rw [z]; simp) with y | y | y
        · exact absurd n y
        · exact absurd y (R.ownN ⟨j, ow⟩)
        · exact absurd y nl
    · have er := findArg_some hf
      obtain ⟨v, ev, qv⟩ := q.get k _ er
      have qv : σ[j]? = some (some v) := qv
      obtain ⟨a, ea, n, r⟩ := ro k o ho
      rw [ev] at ea
      cases ea
      refine ⟨_, qv, ?_⟩
      rcases hk with ⟨_, rfl⟩ | ⟨_, rfl⟩
      · exact ⟨a, rfl, n, r⟩
      · exact ⟨a, rfl, n, r⟩
  own := fun a ⟨j, h⟩ => .inl ⟨j, backs_own h⟩
  ownl := fun a ⟨j, o, h, hs⟩ => by
    rcases backs_get h with ⟨e, _⟩ | ⟨k, o', _, _, (⟨⟨o2, e⟩, _⟩ | ⟨⟨o2, e⟩, z⟩)⟩
    · exact .inl ⟨j, o, e, hs⟩
    · exact .inl ⟨j, o2, e, hs⟩
    · cases z
  par := fun j o h => by
    refine ⟨?_, rfl⟩
    rcases backs_get h with ⟨e, _⟩ | ⟨k, o', _, _, (⟨⟨o2, e⟩, z⟩ | ⟨⟨o2, e⟩, _⟩)⟩
    · exact ⟨o, e⟩
    · cases z
    · exact ⟨o2, e⟩
end
section
variable {X : Cx} {W : WX} {CX : CXT} {k n : Nat} {f : Addr} {fd : FuncData} {ps : List Str} {RX : RXT} {g : G} {E : XK} {x : Str} {p pos : Pos} {e : Expr} {es : List Expr} {ma : MA}
theorem tM_call {K : PySem.W.Frag} {σ : L2.St} {H : Hp} {Q : VK} (hW : ∀ x cls d F' H', W x F' H' → RX x cls d H' → E cls d H') (hl : ∀ ρ p, ma ρ = .ok p → p.1.length = n) (h : tM K W (mCall g ma) σ H Q) : tCall (spF K RX g n) [] E (tMA K W ma) σ H Q := by
  obtain ⟨ρ, F, R, q⟩ := h
  have q' := q.of_bind
  refine ⟨ρ, F, R, ?_⟩
  cases em : ma ρ with
  | exc y => rw [em] at q'; exact q'
  | bad => rw [em] at q'; exact q'
  | ok p =>
  rw [em] at q'
  intro vs F1 H1 es1 qs
  have hp : Ok W ρ σ F H _ _ := q'
  obtain ⟨avs, e1, h2⟩ := hp.lift
  have hln : lone p.1 = true := by
    cases z : lone p.1 with
    | true => rfl
    | false => rw [z] at e1; cases e1
  rw [hln, if_pos rfl] at e1
  have h2 := h2.of_bind.shift es1
  show spF K RX g n (vs ++ []) H1 Q E
  rw [List.append_nil]
  refine ⟨by rw [← qs.length, hl ρ p em], F1, avs, call_entry es1.rel qs e1 hln, ?_⟩
  cases eg : g avs with
  | bad => rw [eg] at h2; exact h2
  | exc y =>
    rw [eg] at h2
    intro cls d F' H' st fh rx
    exact hW y cls d F' H' (h2 F' H' (st.mono fun a ⟨k, h⟩ => let ⟨i, _, o⟩ := lent es1.rel qs e1 h; ⟨i, o⟩) fh) rx
  | ok r =>
    rw [eg] at h2
    have h2 : ∀ v F' H', ES K ρ σ F H (backs p.2 p.1 r.2) σ F' H' → RepR K (Free H) F' H' (backs p.2 p.1 r.2) σ r.1 v → Q v H' := h2
    intro v F' H' st fh rn ro
    have ce := call_exit es1.rel qs e1 st fh ro
    refine h2 v F' H' (es1.trans ce) ?_
    cases er : r.1 with
    | val p => rw [er] at rn; exact rn
    | bor i => rw [er] at rn; exact rn.elim
    | new o =>
      rw [er] at rn
      obtain ⟨a, ea, n, n0, ro'⟩ := rn
      refine ⟨a, ea, n, es1.free n0, fun z => ?_, ro'⟩
      obtain ⟨j, z⟩ := z
      exact es1.rel.ownH ⟨j, backs_own z⟩ n0
theorem SE.call (F : FnOk X.prog X.w X.K X.mg X.base CX k f fd ps (spF X.K RX g n)) (hr : Room k X.A) (hm : X.mg x = some (.ref f)) (hk : PySem.W.keepIn X.K (.ref f) = true) (hb : Binds X.K fd ps []) (hx : Passes CX X E)
    (hW : ∀ x cls d F' H', W x F' H' → RX x cls d H' → E cls d H') (hg : Gl X x) (ha : SA X W (e :: es) ma) (hl : ∀ ρ p, ma ρ = .ok p → p.1.length = n) (hdb : (x == ("__debug__" : Str)) = false := by decide) (he : starEach (e :: es) X.env = (false, eval e X.env) :: starEach es X.env := by rfl) (hpl : (backTo pos (starEach es X.env)).any (·.1) = false := by rfl) :
    SE X W (.Call (.Name x p) (e :: es) [] pos) (mCall g ma) :=
  PE.imp (pe_call F hr hg hm hk hb .nil hx ha hdb he hpl) fun _ _ _ h => tM_call hW hl h
end
theorem mALen (m : M) {ma : MA} {n : Nat} (h : ∀ ρ p, ma ρ = .ok p → p.1.length = n) : ∀ ρ p, mACons m ma ρ = .ok p → p.1.length = n + 1 := fun ρ p e => by
  unfold mACons at e
  cases e1 : mOp m ρ with
  | exc x => rw [e1] at e; cases e
  | bad => rw [e1] at e; cases e
  | ok q =>
    rw [e1, Res.bind_ok] at e
    cases e2 : ma q.2 with
    | exc x => rw [e2] at e; cases e
    | bad => rw [e2] at e; cases e
    | ok q2 =>
      rw [e2, Res.bind_ok] at e
      cases e
      simp [h _ _ e2]
theorem mALen0 : ∀ ρ p, mANil ρ = .ok p → p.1.length = 0 := fun ρ p e => by
  unfold mANil at e
  cases e
  rfl
end Pu

set_option Elab.async false
set_option linter.all false
set_option maxRecDepth 100000
/-! Pu5: tests, statements, a def by its body. -/
namespace Pu
open PySem PySem.Spec PyProof.Rows L2

/-! ### tests -/
abbrev MT := Env → Res (Bool × Env)
def tMT (K : PySem.W.Frag) (W : WX) (m : MT) : TT := fun σ H Q => ∃ ρ F, Rel K F H ρ σ ∧ Ok W ρ σ F H (m ρ) fun p =>
  ∀ F' H', ES K ρ σ F H p.2 σ F' H' → Q p.1 H'
def ST (X : Cx) (W : WX) (e : Expr) (m : MT) : Prop := PT X e (tMT X.K W m)
def RV.bl? : RV → Option Bool
  | .val (.bl k) => some k
  | _ => none
def mTest (m : M) : MT := fun ρ => (m ρ).bind fun p => (liftO p.1.bl?).bind fun k => .ok (k, p.2)
theorem bl?_inv {r : RV} {k : Bool} (h : r.bl? = some k) : r = .val (.bl k) := by
  cases r with
  | val p => cases p <;> first | (cases h; rfl) | cases h
  | bor i => cases h
  | new o => cases h
section
variable {K : PySem.W.Frag} {W : WX} {σ : L2.St} {H : Hp}
theorem tM_test {m : M} {Q : Bool → Hp → Prop} (h : tMT K W (mTest m) σ H Q) : tM K W m σ H fun x H' => ∃ k, x = .bl k ∧ Q k H' := by
  obtain ⟨ρ, F, R, q⟩ := h
  refine ⟨ρ, F, R, q.of_bind.mono fun p hp v F' H' es rr => ?_⟩
  obtain ⟨k, e, h2⟩ := hp.lift
  have h2 : ∀ F' H', ES K ρ σ F H p.2 σ F' H' → Q k H' := h2
  have er := bl?_inv e
  rw [er] at rr
  have rr : RepV K F' (.bl k) v := rr
  unfold RepV at rr
  exact ⟨k, rr, h2 F' H' es⟩
end
/-- a value's truth -/
def truth : PV → Option Bool
  | .non => some false
  | .bl b => some b
  | .int i => some (i != 0)
  | .str x => if x.length ≤ 16777216 then some ((x.length : Int) != 0) else none
  | .tup xs => some (!xs.isEmpty)
  | .lst xs => some (!xs.isEmpty)
  | .dK _ _ => none
  | .ob _ _ _ => none
  | .scr _ => none
  | .dT _ _ => none
  | .ty _ => none
def mTruth (m : M) : MT := fun ρ => (mOp m ρ).bind fun p => (liftO (deref p.2 p.1)).bind fun a => (liftO (truth a)).bind fun k => .ok (k, p.2)
theorem truth_ok {K : PySem.W.Frag} {F H : Hp} {p : PV} {v : V} {k : Bool} (r : RepB K F H p v) (fh : FH F H) (h : truth p = some k) : TruV K v H k := by
  have emp : ∀ {xs : List PV} {vs : List V}, RepVs K F xs vs → (!xs.isEmpty) = !vs.isEmpty := fun {xs vs} q => by
    cases xs with
    | nil => rw [q.nil_inv]; rfl
    | cons x xs =>
      obtain ⟨v, r, rfl, _⟩ := q.cons_inv
      rfl
  cases p with
  | non =>
    have r : RepV K F .non v := r
    unfold RepV at r
    subst r
    cases h
    rfl
  | bl b =>
    have r : RepV K F (.bl b) v := r
    unfold RepV at r
    subst r
    cases h
    rfl
  | int i =>
    have r : RepV K F (.int i) v := r
    unfold RepV at r
    subst r
    cases h
    rfl
  | str x =>
    have r : RepV K F (.str x) v := r
    unfold RepV at r
    subst r
    have h : (if x.length ≤ 16777216 then some ((x.length : Int) != 0) else none) = some k := h
    split at h
    · cases h
      exact ⟨by rw [sizeLine_eq]; assumption, rfl⟩
    · cases h
  | tup xs =>
    have r : RepV K F (.tup xs) v := r
    unfold RepV at r
    obtain ⟨a, vs, rfl, s, q⟩ := r
    cases h
    exact .inr (.inl ⟨vs, .of (fh.tup s), emp q⟩)
  | lst xs =>
    obtain ⟨a, vs, rfl, s, q⟩ := r
    cases h
    exact .inl ⟨vs, .inl (.inl s), emp q⟩
  | dT ks xs => cases h
  | dK ks xs => cases h
  | ob C ns xs => cases h
  | scr ns => cases h
  | ty n => cases h
section
variable {X : Cx} {W : WX} {a b : Expr} {ma mb : M} {ta tb : MT} {pos : Pos}
theorem ST.cmp {op : CmpOp} {r : R2} {f : PV → PV → Option RV} (ho : OpR X (compareOp op) r) (hp : Prim2 X.K r f) (ha : SE X W a ma) (hb : SE X W b mb) (hm : behindInMarks op b = false) : ST X W (.Compare a [op] [b] pos) (mTest (mBin f ma mb)) :=
  PT.imp (pt_cmpR ho ha hb hm) fun _ _ _ h => by
    obtain ⟨ρ, F, R, q⟩ := tM_test h
    exact tM_bin hp ⟨ρ, F, R, q⟩
/-- an expression that gives True or False -/
theorem ST.val (ha : SE X W a ma) (he : ∀ whole, isTrue a X.env whole = (do let v ← whole; standAt a.pos; holding [v] (truthy v)) := by intro _; rfl) : ST X W a (mTest ma) :=
  PT.imp (pt_val ha he) fun _ _ _ h => tM_test h
theorem ST.not (ha : ST X W a ta) : ST X W (.UnaryOp .Not a pos) (fun ρ => (ta ρ).bind fun p => .ok (!p.1, p.2)) :=
  PT.imp (pt_not ha) fun σ H Q ⟨ρ, F, R, q⟩ => ⟨ρ, F, R, q.of_bind.mono fun _ hp => hp⟩
end
def mTNot (ta : MT) : MT := fun ρ => (ta ρ).bind fun p => .ok (!p.1, p.2)
def mTAnd (ta tb : MT) : MT := fun ρ => (ta ρ).bind fun p => if p.1 = true then tb p.2 else .ok (false, p.2)
def mTOr (ta tb : MT) : MT := fun ρ => (ta ρ).bind fun p => if p.1 = true then .ok (true, p.2) else tb p.2
/-- a chain of and, or -/
def SW (X : Cx) (W : WX) (e : Expr) (m : MT) : Prop := PW X e (tMT X.K W m)
section
variable {X : Cx} {W : WX} {a b : Expr} {rest : List Expr} {ma mb mc : M} {ta tb : MT} {pos : Pos}
theorem ST.tnot (ha : ST X W a ta) : ST X W (.UnaryOp .Not a pos) (mTNot ta) := ST.not ha
theorem PW.imp {e : Expr} {t t' : TT} (h : PW X e t) (i : ∀ σ H Q, t' σ H Q → t σ H Q) : PW X e t' := ⟨fun wh pins s σ H Q I q => h.run wh pins s σ H Q I (i _ _ _ q)⟩
theorem SW.and1 (ha : ST X W a ta) : SW X W (.BoolOp .And [a] pos) ta := pw_and1 ha
theorem SW.or1 (ha : ST X W a ta) : SW X W (.BoolOp .Or [a] pos) ta := pw_or1 ha
theorem SW.and (ha : ST X W a ta) (hb : SW X W (.BoolOp .And (b :: rest) pos) tb) : SW X W (.BoolOp .And (a :: b :: rest) pos) (mTAnd ta tb) :=
  PW.imp (pw_and ha hb) fun σ H Q ⟨ρ, F, R, q⟩ => ⟨ρ, F, R, q.of_bind.mono fun p hp F1 H1 es => by
    refine ite2 (fun c => ?_) (fun c => ?_)
    · rw [if_pos c] at hp
      exact ⟨p.2, F1, es.rel, (hp.shift es).mono fun p2 h2 F' H' es2 => h2 F' H' (es.trans es2)⟩
    · skip
      rw [if_neg c] at hp
      exact hp F1 H1 es⟩
theorem SW.or (ha : ST X W a ta) (hb : SW X W (.BoolOp .Or (b :: rest) pos) tb) : SW X W (.BoolOp .Or (a :: b :: rest) pos) (mTOr ta tb) :=
  PW.imp (pw_or ha hb) fun σ H Q ⟨ρ, F, R, q⟩ => ⟨ρ, F, R, q.of_bind.mono fun p hp F1 H1 es => by
    refine ite2 (fun c => ?_) (fun c => ?_)
    · rw [if_pos c] at hp
      exact hp F1 H1 es
    · skip
      rw [if_neg c] at hp
      exact ⟨p.2, F1, es.rel, (hp.shift es).mono fun p2 h2 F' H' es2 => h2 F' H' (es.trans es2)⟩⟩
theorem SW.st (h : SW X W a ta) : ST X W a ta := L2.PW.pt h
/-- an expression by its truth -/
theorem ST.truth (ha : SE X W a ma) (he : ∀ whole, isTrue a X.env whole = (do let v ← whole; standAt a.pos; holding [v] (truthy v)) := by intro _; rfl) : ST X W a (mTruth ma) :=
  PT.imp (pt_truth ha he) fun σ H Q ⟨ρ, F, R, q⟩ => by
    refine tM_op R q fun r ρ1 x F1 H1 es1 q1 h1 => ?_
    obtain ⟨p, e, h2⟩ := h1.lift
    obtain ⟨k, ek, h3⟩ := h2.lift
    have h3 : ∀ F' H', ES X.K ρ σ F H ρ1 σ F' H' → Q k H' := h3
    have b := q1.b es1.rel e
    exact ⟨k, truth_ok b es1.rel.fh ek, h3 F1 H1 es1⟩

/-! ### and, or, not, if as values (True, False) -/
def mAndV (ma mb : M) : M := fun ρ => (ma ρ).bind fun p => (liftO p.1.bl?).bind fun c => if c = true then mb p.2 else .ok (.val (.bl false), p.2)
def mOrV (ma mb : M) : M := fun ρ => (ma ρ).bind fun p => (liftO p.1.bl?).bind fun c => if c = true then .ok (.val (.bl true), p.2) else mb p.2
def mNotV (ma : M) : M := fun ρ => (ma ρ).bind fun p => (liftO p.1.bl?).bind fun c => .ok (.val (.bl (!c)), p.2)
def mIf (t : MT) (ma mb : M) : M := fun ρ => (t ρ).bind fun p => if p.1 = true then ma p.2 else mb p.2
theorem repBl {K : PySem.W.Frag} {F : Hp} {c : Bool} : RepV K F (.bl c) (.bl c) := by unfold RepV; rfl
theorem SE.one {op} (ha : SE X W a ma) : SE X W (.BoolOp op [a] pos) ma := pe_one ha
theorem SE.and (ha : SE X W a ma) (hb : SE X W (.BoolOp .And (b :: rest) pos) mb) : SE X W (.BoolOp .And (a :: b :: rest) pos) (mAndV ma mb) :=
  PE.imp (pe_and ha hb) fun σ H Q ⟨ρ, F, R, q⟩ => ⟨ρ, F, R, q.of_bind.mono fun p hp v F1 H1 es rr => by
    obtain ⟨c, e, h2⟩ := hp.lift
    rw [bl?_inv e] at rr
    have rr : RepV X.K F1 (.bl c) v := rr
    unfold RepV at rr
    refine ⟨c, rr, ?_⟩
    refine ite2 (fun z => ?_) (fun z => ?_)
    · rw [if_pos z] at h2
      exact ⟨p.2, F1, es.rel, (h2.shift es).mono fun p2 h3 v' F' H' es2 r2 => h3 v' F' H' (es.trans es2) (r2.weak fun a ha => es.free ha)⟩
    · skip
      rw [if_neg z] at h2
      exact h2 _ F1 H1 es (repBl (K := X.K) (F := F1))⟩
theorem SE.or (ha : SE X W a ma) (hb : SE X W (.BoolOp .Or (b :: rest) pos) mb) : SE X W (.BoolOp .Or (a :: b :: rest) pos) (mOrV ma mb) :=
  PE.imp (pe_or ha hb) fun σ H Q ⟨ρ, F, R, q⟩ => ⟨ρ, F, R, q.of_bind.mono fun p hp v F1 H1 es rr => by
    obtain ⟨c, e, h2⟩ := hp.lift
    rw [bl?_inv e] at rr
    have rr : RepV X.K F1 (.bl c) v := rr
    unfold RepV at rr
    refine ⟨c, rr, ?_⟩
    refine ite2 (fun z => ?_) (fun z => ?_)
    · rw [if_pos z] at h2
      exact h2 _ F1 H1 es (repBl (K := X.K) (F := F1))
    · skip
      rw [if_neg z] at h2
      exact ⟨p.2, F1, es.rel, (h2.shift es).mono fun p2 h3 v' F' H' es2 r2 => h3 v' F' H' (es.trans es2) (r2.weak fun a ha => es.free ha)⟩⟩
theorem SE.not (ha : SE X W a ma) : SE X W (.UnaryOp .Not a pos) (mNotV ma) :=
  PE.imp (pe_not ha) fun σ H Q ⟨ρ, F, R, q⟩ => ⟨ρ, F, R, q.of_bind.mono fun p hp v F1 H1 es rr => by
    obtain ⟨c, e, h2⟩ := hp.lift
    rw [bl?_inv e] at rr
    have rr : RepV X.K F1 (.bl c) v := rr
    unfold RepV at rr
    exact ⟨c, rr, h2 _ F1 H1 es (repBl (K := X.K) (F := F1))⟩⟩
theorem SE.ifE {c : Expr} (hc : ST X W c ta) (ha : SE X W a ma) (hb : SE X W b mb) : SE X W (.IfExp c a b pos) (mIf ta ma mb) :=
  PE.imp (pe_ifExp hc ha hb) fun σ H Q ⟨ρ, F, R, q⟩ => ⟨ρ, F, R, q.of_bind.mono fun p hp F1 H1 es => by
    refine ite2 (fun z => ?_) (fun z => ?_)
    · rw [if_pos z] at hp
      exact ⟨p.2, F1, es.rel, (hp.shift es).mono fun p2 h3 v' F' H' es2 r2 => h3 v' F' H' (es.trans es2) (r2.weak fun a ha => es.free ha)⟩
    · skip
      rw [if_neg z] at hp
      exact ⟨p.2, F1, es.rel, (hp.shift es).mono fun p2 h3 v' F' H' es2 r2 => h3 v' F' H' (es.trans es2) (r2.weak fun a ha => es.free ha)⟩⟩
end

/-! ### statements -/
def FrL (H : Hp) (ρ : Env) (σ : L2.St) : Addr → Prop := fun a => H a = none ∨ OwnL ρ σ a
def tMS (K : PySem.W.Frag) (W : WX) (m : MS) : TS := fun D σ H => ∃ ρ F, Rel K F H ρ σ ∧ Ok W ρ σ F H (m ρ) fun p =>
  match p.1 with
  | .nx => ∀ σ' F' H', ES K ρ σ F H p.2 σ' F' H' → D.nx σ' H'
  | .bk => ∀ σ' F' H', ES K ρ σ F H p.2 σ' F' H' → D.bk σ' H'
  | .ct => ∀ σ' F' H', ES K ρ σ F H p.2 σ' F' H' → D.ct σ' H'
  | .rt r => ∀ v σ' F' H', ES K ρ σ F H p.2 σ' F' H' → RepR K (FrL H ρ σ) F' H' p.2 σ' r v → D.rt v H'
def SS (X : Cx) (W : WX) (st : Stmt) (m : MS) : Prop := PS X st (tMS X.K W m)
def SSs (X : Cx) (W : WX) (st : List Stmt) (m : MS) : Prop := PSs X st (tMS X.K W m)
def mNx : MS := fun ρ => .ok (.nx, ρ)
def mSeq (a b : MS) : MS := fun ρ => (a ρ).bind fun p => match p.1 with
  | .nx => b p.2
  | f => .ok (f, p.2)
section
variable {K : PySem.W.Frag} {W : WX} {ρ ρ1 : Env} {σ σ1 : L2.St} {F H F1 H1 : Hp}
theorem FrL.back {a : Addr} (es : ES K ρ σ F H ρ1 σ1 F1 H1) (h : FrL H1 ρ1 σ1 a) : FrL H ρ σ a := by
  rcases h with h | h
  · exact .inl (es.free h)
  · rcases es.ownl a h with z | z
    · exact .inr z
    · exact .inl z
/-- what follows a first part, its own way on -/
def RestS (K : PySem.W.Frag) (ρ : Env) (σ : L2.St) (F H : Hp) (D : Ends) (p : Fl × Env) : Prop :=
  match p.1 with
  | .nx => ∀ σ' F' H', ES K ρ σ F H p.2 σ' F' H' → D.nx σ' H'
  | .bk => ∀ σ' F' H', ES K ρ σ F H p.2 σ' F' H' → D.bk σ' H'
  | .ct => ∀ σ' F' H', ES K ρ σ F H p.2 σ' F' H' → D.ct σ' H'
  | .rt r => ∀ v σ' F' H', ES K ρ σ F H p.2 σ' F' H' → RepR K (FrL H ρ σ) F' H' p.2 σ' r v → D.rt v H'
theorem RestS.go {D : Ends} {p : Fl × Env} (h : RestS K ρ σ F H D p) (es : ES K ρ σ F H ρ1 σ1 F1 H1) : RestS K ρ1 σ1 F1 H1 D p := by
  obtain ⟨f, ρ2⟩ := p
  cases f with
  | nx => exact fun σ' F' H' e => h σ' F' H' (es.trans e)
  | bk => exact fun σ' F' H' e => h σ' F' H' (es.trans e)
  | ct => exact fun σ' F' H' e => h σ' F' H' (es.trans e)
  | rt r => exact fun v σ' F' H' e rr => h v σ' F' H' (es.trans e) (rr.weak fun a ha => ha.back es)
theorem tMS_mk {m : MS} {D : Ends} (R : Rel K F H ρ σ) (h : Ok W ρ σ F H (m ρ) (RestS K ρ σ F H D)) : tMS K W m D σ H := ⟨ρ, F, R, h⟩
end
section
variable {X : Cx} {W : WX} {st : Stmt} {rest : List Stmt} {m m1 m2 : MS} {e : Expr} {me : M} {pos : Pos}
theorem SSs.nil : SSs X W [] mNx := PSs.imp pss_nil fun D σ H ⟨ρ, F, R, q⟩ => q σ F H (ES.refl R)
theorem SSs.cons (h1 : SS X W st m1) (h2 : SSs X W rest m2) : SSs X W (st :: rest) (mSeq m1 m2) := by
  refine PSs.imp (pss_cons h1 h2) fun D σ H ⟨ρ, F, R, q⟩ => ?_
  refine ⟨ρ, F, R, q.of_bind.mono fun p hp => ?_⟩
  obtain ⟨f, ρ1⟩ := p
  cases f with
  | nx => exact fun σ1 F1 H1 es => tMS_mk es.rel ((hp.shift es).mono fun p2 h3 => RestS.go h3 es)
  | bk => exact hp
  | ct => exact hp
  | rt r => exact hp
theorem SSs.one (h : SS X W st m) : SSs X W [st] m := pss_one h
theorem SS.pass : SS X W (.Pass pos) mNx := PS.imp ps_pass fun D σ H ⟨ρ, F, R, q⟩ => q σ F H (ES.refl R)
theorem SS.brk : SS X W (.Break pos) (fun ρ => .ok (.bk, ρ)) := PS.imp ps_break fun D σ H ⟨ρ, F, R, q⟩ => q σ F H (ES.refl R)
theorem SS.cont : SS X W (.Continue pos) (fun ρ => .ok (.ct, ρ)) := PS.imp ps_continue fun D σ H ⟨ρ, F, R, q⟩ => q σ F H (ES.refl R)
def mDrop (m : M) : MS := fun ρ => (m ρ).bind fun p => .ok (.nx, p.2)
theorem SS.expr (h : SE X W e me) (hs : swapsWith e none pos.line X.env = pure false := by rfl) : SS X W (.Expr e pos) (mDrop me) :=
  PS.imp (ps_expr h hs) fun D σ H ⟨ρ, F, R, q⟩ => ⟨ρ, F, R, q.of_bind.mono fun p hp v F1 H1 es _ => hp σ F1 H1 es⟩
/-- return -/
def mRet (m : M) : MS := fun ρ => (m ρ).bind fun p => .ok (.rt p.1, p.2)
theorem SS.ret (h : SE X W e me) : SS X W (.Return (some e) pos) (mRet me) :=
  PS.imp (ps_ret h) fun D σ H ⟨ρ, F, R, q⟩ => ⟨ρ, F, R, q.of_bind.mono fun p hp v F1 H1 es rr => hp v σ F1 H1 es (rr.weak fun a ha => .inl ha)⟩
def mRetN : MS := fun ρ => .ok (.rt (.val .non), ρ)
theorem SS.retN : SS X W (.Return none pos) mRetN := PS.imp ps_retN fun D σ H ⟨ρ, F, R, q⟩ => q .non σ F H (ES.refl R) (show RepV _ _ _ _ by unfold RepV; rfl)
def mIfS (t : MT) (a b : MS) : MS := fun ρ => (t ρ).bind fun p => if p.1 = true then a p.2 else b p.2
theorem SS.ifS {c : Expr} {a b : List Stmt} {tc : MT} (hc : ST X W c tc) (ha : SSs X W a m1) (hb : SSs X W b m2) : SS X W (.If c a b pos) (mIfS tc m1 m2) :=
  PS.imp (ps_if hc ha hb) fun D σ H ⟨ρ, F, R, q⟩ => ⟨ρ, F, R, q.of_bind.mono fun p hp F1 H1 es => by
    refine ite2 (fun z => ?_) (fun z => ?_)
    · rw [if_pos z] at hp
      exact tMS_mk es.rel ((hp.shift es).mono fun p2 h3 => RestS.go h3 es)
    · skip
      rw [if_neg z] at hp
      exact tMS_mk es.rel ((hp.shift es).mono fun p2 h3 => RestS.go h3 es)⟩
/-- never come to -/
def mNever : MS := fun _ => .bad
theorem SS.never : SS X W st mNever := PS.imp ps_never fun D σ H ⟨ρ, F, R, q⟩ => q
theorem SSs.never : SSs X W rest mNever := PSs.imp pss_never fun D σ H ⟨ρ, F, R, q⟩ => q
end
end Pu

set_option Elab.async false
set_option linter.all false
set_option maxRecDepth 100000
/-! Pu6: stores to names, targets, own lists and dicts; a def by its body; while. -/
namespace Pu
open PySem PySem.Spec PyProof.Rows L2

/-! ### a slot stored -/
def isPar (ρ : Env) (i : Nat) : Bool := match ρ[i]? with
  | some (some (.par _)) => true
  | _ => false
def setV (i : Nat) (p : PV) (ρ : Env) : Option Env := if isPar ρ i then none else some (ρ.set i (some (.val p)))
def setO (i : Nat) (o : OB) (ρ : Env) : Option Env := if isPar ρ i then none else some (ρ.set i (some (.own o)))
/-- a value or a new object to a name -/
def setR (i : Nat) (r : RV) (ρ : Env) : Option Env := match r with
  | .val p => setV i p ρ
  | .new o => setO i o ρ
  | .bor _ => none
theorem set_get {ρ : Env} {i j : Nat} {s t : SV} (h : (ρ.set i (some t))[j]? = some (some s)) : (j = i ∧ s = t ∧ i < ρ.length) ∨ (j ≠ i ∧ ρ[j]? = some (some s)) := by
  by_cases hj : j = i
  · subst hj
    rw [List.getElem?_set, if_pos rfl] at h
    split at h
    · cases h
      exact .inl ⟨rfl, rfl, by assumption⟩
    · cases h
  · rw [List.getElem?_set_ne (Ne.symm hj)] at h
    exact .inr ⟨hj, h⟩
section
variable {K : PySem.W.Frag} {ρ ρ' : Env} {σ : L2.St} {F H : Hp}
theorem isPar_false {i : Nat} (h : isPar ρ i = false) : ∀ o, ρ[i]? ≠ some (some (.par o)) := fun o e => by
  unfold isPar at h
  rw [e] at h
  cases h
/-- a value stored -/
theorem Rel.setV {i : Nat} {p : PV} {v : V} (R : Rel K F H ρ σ) (r : RepV K F p v) (np : isPar ρ i = false) : ES K ρ σ F H (ρ.set i (some (.val p))) (σ.set i (some v)) F H := by
  have own : ∀ j a, OwnAt (ρ.set i (some (.val p))) (σ.set i (some v)) j a → OwnAt ρ σ j a := fun j a h => by
    obtain ⟨h1, h2⟩ := h
    have nj : j ≠ i := by
      rintro rfl
      rcases h1 with ⟨o, e⟩ | ⟨o, e⟩
      · rcases set_get e with ⟨_, z, _⟩ | ⟨z, _⟩
        · cases z
        · exact z rfl
      · rcases set_get e with ⟨_, z, _⟩ | ⟨z, _⟩
        · cases z
        · exact z rfl
    rw [List.getElem?_set_ne (Ne.symm nj)] at h2
    refine ⟨?_, h2⟩
    rcases h1 with ⟨o, e⟩ | ⟨o, e⟩
    · rw [List.getElem?_set_ne (Ne.symm nj)] at e
      exact .inl ⟨o, e⟩
    · rw [List.getElem?_set_ne (Ne.symm nj)] at e
      exact .inr ⟨o, e⟩
  refine ⟨Step.refl _ _ _, ⟨by simpa using R.len, fun j s h => ?_, R.fh, fun j k a h1 h2 => R.inj j k a (own _ _ h1) (own _ _ h2)⟩, fun a ⟨j, h⟩ => .inl ⟨j, own j a h⟩, fun a ⟨j, o, h1, h2⟩ => .inl ?_, fun j o h => ?_⟩
  · rcases set_get h with ⟨rfl, rfl, hl⟩ | ⟨nj, h⟩
    · exact ⟨v, by rw [List.getElem?_set, if_pos rfl, if_pos (by rw [← R.len]; exact hl)], r⟩
    · rw [List.getElem?_set_ne (Ne.symm nj)]
      exact R.slot j s h
  · rcases set_get h1 with ⟨_, z, _⟩ | ⟨nj, h1⟩
    · cases z
    · rw [List.getElem?_set_ne (Ne.symm nj)] at h2
      exact ⟨j, o, h1, h2⟩
  · rcases set_get h with ⟨_, z, _⟩ | ⟨nj, h⟩
    · cases z
    · exact ⟨⟨o, h⟩, List.getElem?_set_ne (Ne.symm nj)⟩
/-- a new object stored: it was free at the entry (H0) -/
theorem ES.setO {ρ0 : Env} {σ0 : L2.St} {F0 H0 : Hp} {i : Nat} {o : OB} {a : Addr} (es : ES K ρ0 σ0 F0 H0 ρ σ F H) (n : F a = none) (n0 : H0 a = none) (no : ¬ Own ρ σ a) (r : RepO K F H a o) (np : isPar ρ i = false) :
    ES K ρ0 σ0 F0 H0 (ρ.set i (some (.own o))) (σ.set i (some (.ref a))) F H := by
  have R := es.rel
  have own : ∀ j b, OwnAt (ρ.set i (some (.own o))) (σ.set i (some (.ref a))) j b → (j = i ∧ b = a) ∨ (j ≠ i ∧ OwnAt ρ σ j b) := fun j b h => by
    obtain ⟨h1, h2⟩ := h
    by_cases nj : j = i
    · subst nj
      refine .inl ⟨rfl, ?_⟩
      rw [List.getElem?_set, if_pos rfl] at h2
      split at h2
      · cases h2; rfl
      · cases h2
    · rw [List.getElem?_set_ne (Ne.symm nj)] at h2
      refine .inr ⟨nj, ?_, h2⟩
      rcases h1 with ⟨o, e⟩ | ⟨o, e⟩
      · rw [List.getElem?_set_ne (Ne.symm nj)] at e
        exact .inl ⟨o, e⟩
      · rw [List.getElem?_set_ne (Ne.symm nj)] at e
        exact .inr ⟨o, e⟩
  refine ⟨es.st, ⟨by simpa using R.len, fun j s h => ?_, R.fh, fun j k b h1 h2 => ?_⟩, fun b ⟨j, h⟩ => ?_, fun b ⟨j, o', h1, h2⟩ => ?_, fun j o' h => ?_⟩
  · rcases set_get h with ⟨rfl, rfl, hl⟩ | ⟨nj, h⟩
    · exact ⟨_, by rw [List.getElem?_set, if_pos rfl, if_pos (by rw [← R.len]; exact hl)], a, rfl, n, r⟩
    · rw [List.getElem?_set_ne (Ne.symm nj)]
      exact R.slot j s h
  · rcases own _ _ h1 with ⟨rfl, rfl⟩ | ⟨n1, o1⟩
    · rcases own _ _ h2 with ⟨rfl, _⟩ | ⟨n2, o2⟩
      · rfl
      · exact absurd ⟨k, o2⟩ no
    · rcases own _ _ h2 with ⟨rfl, rfl⟩ | ⟨n2, o2⟩
      · exact absurd ⟨j, o1⟩ no
      · exact R.inj j k b o1 o2
  · rcases own _ _ h with ⟨_, rfl⟩ | ⟨_, z⟩
    · exact .inr n0
    · exact es.own b ⟨j, z⟩
  · rcases set_get h1 with ⟨rfl, z, hl⟩ | ⟨nj, h1⟩
    · rw [List.getElem?_set, if_pos rfl, if_pos (by rw [← R.len]; exact hl)] at h2
      cases h2
      exact .inr n0
    · rw [List.getElem?_set_ne (Ne.symm nj)] at h2
      exact es.ownl b ⟨j, o', h1, h2⟩
  · rcases set_get h with ⟨_, z, _⟩ | ⟨nj, h⟩
    · cases z
    · obtain ⟨e, q⟩ := es.par j o' h
      exact ⟨e, (List.getElem?_set_ne (Ne.symm nj)).trans q⟩
theorem setR_ok {ρ0 : Env} {σ0 : L2.St} {F0 H0 : Hp} {i : Nat} {r : RV} {v : V} (es : ES K ρ0 σ0 F0 H0 ρ σ F H) (rr : RepR K (Free H0) F H ρ σ r v) (h : setR i r ρ = some ρ') : ES K ρ0 σ0 F0 H0 ρ' (σ.set i (some v)) F H := by
  cases r with
  | val p =>
    have h : (if isPar ρ i then none else some (ρ.set i (some (.val p)))) = some ρ' := h
    split at h
    · cases h
    · rename_i np
      cases h
      exact es.trans (es.rel.setV rr (by simpa using np))
  | new o =>
    have h : (if isPar ρ i then none else some (ρ.set i (some (.own o)))) = some ρ' := h
    obtain ⟨a, rfl, n, n0, no, q⟩ := rr
    split at h
    · cases h
    · rename_i np
      cases h
      exact es.setO n n0 no q (by simpa using np)
  | bor j => cases h
end
def mAsg (i : Nat) (m : M) : MS := fun ρ => (m ρ).bind fun p => (liftO (setR i p.1 p.2)).bind fun ρ' => .ok (.nx, ρ')
section
variable {X : Cx} {W : WX} {e : Expr} {m : M} {pos pos' : Pos} {x : Str} {i : Nat}
theorem SS.asg (h : SE X W e m) (hN : X.N.Nodup) (hi : X.N[i]? = some x) (hx : Loc X.env.scope x) (hs : swapsWith e (some (.Name x pos')) pos.line X.env = pure false := by rfl) (hf : X.fn x = true ∨ X.env.scope.names.lookup x = some .local := by first | exact .inl rfl | exact .inr rfl | assumption) :
    SS X W (.Assign [.Name x pos'] e pos) (mAsg i m) :=
  PS.imp (ps_set hN hi hx h hs hf) fun D σ H ⟨ρ, F, R, q⟩ => ⟨ρ, F, R, q.of_bind.mono fun p hp v F1 H1 es rr => by
    obtain ⟨ρ', e1, h2⟩ := hp.lift
    exact h2 _ F1 H1 (setR_ok es rr e1)⟩
end

/-! ### targets of values -/
abbrev MG := PV → Env → Option Env
abbrev MGs := List PV → Env → Option Env
/-- nothing but these slots is another -/
def Only (S : List Nat) (σ σ' : L2.St) : Prop := σ'.length = σ.length ∧ ∀ i, i ∉ S → σ'[i]? = σ[i]?
theorem Only.refl {σ : L2.St} : Only [] σ σ := ⟨rfl, fun _ _ => rfl⟩
theorem Only.set {σ : L2.St} {i : Nat} {v : Option V} : Only [i] σ (σ.set i v) := ⟨by simp, fun j hj => List.getElem?_set_ne (by simp at hj; exact fun e => hj e.symm)⟩
theorem Only.trans {S T : List Nat} {σ σ1 σ2 : L2.St} (a : Only S σ σ1) (b : Only T σ1 σ2) : Only (S ++ T) σ σ2 :=
  ⟨b.1.trans a.1, fun i hi => by
    simp only [List.mem_append, not_or] at hi
    exact (b.2 i hi.2).trans (a.2 i hi.1)⟩
def tMG (K : PySem.W.Frag) (S : List Nat) (g : MG) : TG := fun v σ H Q => ∃ ρ F p ρ', Rel K F H ρ σ ∧ RepV K F p v ∧ g p ρ = some ρ' ∧ ∀ σ' F' H', ES K ρ σ F H ρ' σ' F' H' → Only S σ σ' → Q σ' H'
def tMGs (K : PySem.W.Frag) (S : List Nat) (g : MGs) : TGs := fun vs σ H Q => ∃ ρ F ps ρ', Rel K F H ρ σ ∧ RepVs K F ps vs ∧ g ps ρ = some ρ' ∧ ∀ σ' F' H', ES K ρ σ F H ρ' σ' F' H' → Only S σ σ' → Q σ' H'
def SG (X : Cx) (S : List Nat) (tg : Expr) (g : MG) : Prop := PG X tg (tMG X.K S g)
def SGs (X : Cx) (S : List Nat) (tgs : List Expr) (g : MGs) : Prop := PGs X tgs (tMGs X.K S g)
theorem PG.imp {X : Cx} {e : Expr} {t t' : TG} (h : PG X e t) (i : ∀ v σ H Q, t' v σ H Q → t v σ H Q) : PG X e t' := ⟨fun pins s σ H v u Q I r q => h.run pins s σ H v u Q I r (i _ _ _ _ q)⟩
theorem PGs.imp {X : Cx} {e : List Expr} {t t' : TGs} (h : PGs X e t) (i : ∀ v σ H Q, t' v σ H Q → t v σ H Q) : PGs X e t' := ⟨fun pins s σ H v u Q I r q => h.run pins s σ H v u Q I r (i _ _ _ _ q)⟩
def mgNm (i : Nat) : MG := setV i
def mgNil : MGs := fun ps ρ => match ps with
  | [] => some ρ
  | _ => none
def mgCons (g : MG) (gs : MGs) : MGs := fun ps ρ => match ps with
  | p :: ps => (g p ρ).bind fun ρ1 => gs ps ρ1
  | [] => none
def mgTup (n : Nat) (gs : MGs) : MG := fun p ρ => match p with
  | .tup ps => if ps.length = n then gs ps ρ else none
  | _ => none
theorem setV_inv {i : Nat} {p : PV} {ρ ρ' : Env} (h : setV i p ρ = some ρ') : isPar ρ i = false ∧ ρ' = ρ.set i (some (.val p)) := by
  unfold setV at h
  split at h
  · cases h
  · rename_i np
    cases h
    exact ⟨by simpa using np, rfl⟩
section
variable {X : Cx} {W : WX} {e tg : Expr} {es : List Expr} {m : M} {pos pos' : Pos} {x : Str} {i n : Nat} {g : MG} {gs : MGs} {S T : List Nat}
theorem SG.nm (hN : X.N.Nodup) (hi : X.N[i]? = some x) (hx : Loc X.env.scope x) (hf : X.fn x = true ∨ X.env.scope.names.lookup x = some .local := by first | exact .inl rfl | exact .inr rfl | assumption) : SG X [i] (.Name x pos) (mgNm i) :=
  PG.imp (pg_name hN hi hx hf) fun v σ H Q ⟨ρ, F, p, ρ', R, r, e, q⟩ => by
    obtain ⟨np, rfl⟩ := setV_inv e
    exact q _ F H (R.setV r np) Only.set
theorem SGs.nil : SGs X [] [] mgNil := PGs.imp pgs_nil fun vs σ H Q ⟨ρ, F, ps, ρ', R, r, e, q⟩ => by
  cases ps with
  | nil =>
    cases e
    exact ⟨r.nil_inv, q σ F H (ES.refl R) Only.refl⟩
  | cons p ps => cases e
theorem SGs.cons (h : SG X S tg g) (t : SGs X T es gs) (hs : (assignEach (tg :: es) X.env).map (·.2) = assign tg X.env :: (assignEach es X.env).map (·.2) := by rfl) : SGs X (S ++ T) (tg :: es) (mgCons g gs) :=
  PGs.imp (pgs_cons h t hs) fun vs σ H Q ⟨ρ, F, ps, ρ', R, r, e, q⟩ => by
    cases ps with
    | nil => cases e
    | cons p ps =>
      obtain ⟨v, vr, rfl, rp, rt⟩ := r.cons_inv
      have e : (g p ρ).bind (fun ρ1 => gs ps ρ1) = some ρ' := e
      cases eg : g p ρ with
      | none => rw [eg] at e; cases e
      | some ρ1 =>
        rw [eg] at e
        exact ⟨v, vr, rfl, ρ, F, p, ρ1, R, rp, eg, fun σ1 F1 H1 es1 o1 => ⟨ρ1, F1, ps, ρ', es1.rel, rt.mono es1.st.ff, e, fun σ' F' H' es2 o2 => q σ' F' H' (es1.trans es2) (o1.trans o2)⟩⟩
theorem SG.tup {k : Nat} (h : SGs X S es gs) (hc : X.calm = true) (hn : (assignEach es X.env).length = n := by rfl) (hst : (assignEach es X.env).findIdx? (·.1) = none := by rfl) : SG X S (.Tuple es k pos) (mgTup n gs) :=
  PG.imp (pg_tup hc h hn hst) fun v σ H Q ⟨ρ, F, p, ρ', R, r, e, q⟩ => by
    cases p with
    | tup ps =>
      have e : (if ps.length = n then gs ps ρ else none) = some ρ' := e
      unfold RepV at r
      obtain ⟨a, vs, rfl, s, rv⟩ := r
      split at e
      · rename_i hl
        exact ⟨a, vs, rfl, .of (R.fh.tup s), by rw [← rv.length]; exact hl, ρ, F, ps, ρ', R, rv, e, q⟩
      · cases e
    | _ => cases e
def mAsgT (g : MG) (m : M) : MS := fun ρ => (mOp m ρ).bind fun p => (liftO p.1.val?).bind fun v => (liftO (g v p.2)).bind fun ρ' => .ok (.nx, ρ')
theorem val?_inv {r : RV} {p : PV} (h : r.val? = some p) : r = .val p := by
  cases r with
  | val q => cases h; rfl
  | bor i => cases h
  | new o => cases h
/-- target = value -/
theorem SS.asgT (h : SE X W e m) (t : SG X S tg g) (hs : swapsWithSole [tg] e pos.line X.env = pure false := by rfl) (hw : swappedStores [tg] e X.env = pure none := by rfl) (h1 : (assignEach [tg] X.env).map (·.2) = [assign tg X.env] := by rfl) :
    SS X W (.Assign [tg] e pos) (mAsgT g m) :=
  PS.imp (ps_asg h t hs hw h1) fun D σ H ⟨ρ, F, R, q⟩ => by
    refine tM_op R q fun r ρ1 x F1 H1 es1 q1 h1 => ?_
    obtain ⟨p, ep, h2⟩ := h1.lift
    obtain ⟨ρ', er, h3⟩ := h2.lift
    have ev := val?_inv ep
    have h3 : ∀ σ' F' H', ES X.K ρ σ F H ρ' σ' F' H' → D.nx σ' H' := h3
    have ev : r = .val p := ev
    subst ev
    exact ⟨ρ1, F1, p, ρ', es1.rel, q1, er, fun σ' F' H' es2 _ => h3 σ' F' H' (es1.trans es2)⟩
end
end Pu

set_option Elab.async false
set_option linter.all false
set_option maxRecDepth 100000
/-! Pu7: own objects changed; several names at once; what is handed back; while; a def by its body. -/
namespace Pu
open PySem PySem.Spec PyProof.Rows L2

/-! ### an own object changed -/
def ownO (ρ : Env) (i : Nat) : Option OB := match ρ[i]? with
  | some (some (.own o)) => some o
  | some (some (.par o)) => some o
  | _ => none
def setC (i : Nat) (o : OB) (ρ : Env) : Env := match ρ[i]? with
  | some (some (.par _)) => ρ.set i (some (.par o))
  | _ => ρ.set i (some (.own o))
section
variable {K : PySem.W.Frag} {ρ : Env} {σ : L2.St} {F H : Hp}
theorem ownO_at {i : Nat} {o : OB} (R : Rel K F H ρ σ) (h : ownO ρ i = some o) : ∃ a, σ[i]? = some (some (.ref a)) ∧ OwnAt ρ σ i a ∧ F a = none ∧ RepO K F H a o := by
  unfold ownO at h
  cases e : ρ[i]? with
  | none => rw [e] at h; cases h
  | some s =>
    cases s with
    | none => rw [e] at h; cases h
    | some s =>
      rw [e] at h
      cases s with
      | val p => cases h
      | own o' =>
        cases h
        obtain ⟨v, ev, a, rfl, n, r⟩ := R.slot i _ e
        exact ⟨a, ev, ⟨.inl ⟨o, e⟩, ev⟩, n, r⟩
      | par o' =>
        cases h
        obtain ⟨v, ev, a, rfl, n, r⟩ := R.slot i _ e
        exact ⟨a, ev, ⟨.inr ⟨o, e⟩, ev⟩, n, r⟩
theorem setC_get {i j : Nat} {o : OB} {s : SV} (h0 : ∃ o0, ownO ρ i = some o0) (h : (setC i o ρ)[j]? = some (some s)) :
    (j = i ∧ ((s = .own o ∧ ∃ o0, ρ[i]? = some (some (.own o0))) ∨ (s = .par o ∧ ∃ o0, ρ[i]? = some (some (.par o0))))) ∨ (j ≠ i ∧ ρ[j]? = some (some s)) := by
  obtain ⟨o0, h0⟩ := h0
  unfold ownO at h0
  unfold setC at h
  cases e : ρ[i]? with
  | none => rw [e] at h0; cases h0
  | some t =>
    cases t with
    | none => rw [e] at h0; cases h0
    | some t =>
      rw [e] at h0 h
      cases t with
      | val p => cases h0
      | own o' =>
        rcases set_get h with ⟨rfl, rfl, _⟩ | z
        · exact .inl ⟨rfl, .inl ⟨rfl, o', rfl⟩⟩
        · exact .inr z
      | par o' =>
        rcases set_get h with ⟨rfl, rfl, _⟩ | z
        · exact .inl ⟨rfl, .inr ⟨rfl, o', rfl⟩⟩
        · exact .inr z
theorem Rel.write {i : Nat} {o o' : OB} {a : Addr} {u : HO} (R : Rel K F H ρ σ) (h : ownO ρ i = some o) (ha : σ[i]? = some (some (.ref a))) (r : RepO K F (upd H a u) a o') :
    ES K ρ σ F H (setC i o' ρ) σ F (upd H a u) := by
  obtain ⟨b, hb, ow, n, r0⟩ := ownO_at R h
  rw [ha] at hb
  cases hb
  have len : (setC i o' ρ).length = ρ.length := by
    unfold setC
    split <;> simp
  have own : ∀ j x, OwnAt (setC i o' ρ) σ j x → OwnAt ρ σ j x := fun j x hj => by
    obtain ⟨h1, h2⟩ := hj
    rcases h1 with ⟨q, e⟩ | ⟨q, e⟩
    · rcases setC_get ⟨o, h⟩ e with ⟨rfl, (⟨_, o0, z⟩ | ⟨z, _⟩)⟩ | ⟨_, z⟩
      · exact ⟨.inl ⟨o0, z⟩, h2⟩
      · cases z
      · exact ⟨.inl ⟨q, z⟩, h2⟩
    · rcases setC_get ⟨o, h⟩ e with ⟨rfl, (⟨z, _⟩ | ⟨_, o0, z⟩)⟩ | ⟨_, z⟩
      · cases z
      · exact ⟨.inr ⟨o0, z⟩, h2⟩
      · exact ⟨.inr ⟨q, z⟩, h2⟩
  refine ⟨⟨Same.refl F, fun x hx => .inl hx, fun x w hx nx => ?_, fun x hx => ?_⟩, ⟨by rw [len]; exact R.len, fun j s hj => ?_, fun x w hx => ?_, fun j k x h1 h2 => R.inj j k x (own _ _ h1) (own _ _ h2)⟩, fun x ⟨j, hj⟩ => .inl ⟨j, own j x hj⟩, fun x ⟨j, q, hj, hs⟩ => ?_, fun j q hj => ?_⟩
  · rw [upd_ne (show x ≠ a from fun z => nx ⟨i, by rw [z]; exact ow⟩)]
    exact hx
  · by_cases e : x = a
    · subst e
      rw [upd_same]
      simp
    · rw [upd_ne e]
      exact hx
  · rcases setC_get ⟨o, h⟩ hj with ⟨rfl, (⟨rfl, _⟩ | ⟨rfl, _⟩)⟩ | ⟨nj, e⟩
    · exact ⟨_, ha, a, rfl, n, r⟩
    · exact ⟨_, ha, a, rfl, n, r⟩
    · obtain ⟨v, ev, sr⟩ := R.slot j s e
      refine ⟨v, ev, sr.mono (Same.refl F) fun b nb eb hs => ⟨nb, ?_⟩⟩
      subst eb
      have hb : b ≠ a := fun z => nj (R.inj j i a (z ▸ OwnAt.of e hs ev) ow)
      rw [upd_ne hb]
  · have hxa : x ≠ a := fun z => by rw [z, n] at hx; cases hx
    rw [upd_ne hxa]
    exact R.fh x w hx
  · rcases setC_get ⟨o, h⟩ hj with ⟨rfl, (⟨_, o0, z⟩ | ⟨z, _⟩)⟩ | ⟨_, z⟩
    · exact .inl ⟨j, o0, z, hs⟩
    · cases z
    · exact .inl ⟨j, q, z, hs⟩
  · rcases setC_get ⟨o, h⟩ hj with ⟨rfl, (⟨z, _⟩ | ⟨_, o0, z⟩)⟩ | ⟨_, z⟩
    · cases z
    · exact ⟨⟨o0, z⟩, rfl⟩
    · exact ⟨⟨q, z⟩, rfl⟩
end

/-! ### things in flight -/
def NewIn (a : Addr) (rs : List RV) (vs : List V) : Prop := ∃ (k : Nat) (o : OB), rs[k]? = some (.new o) ∧ vs[k]? = some (.ref a)
def Fly (K : PySem.W.Frag) (fr : Addr → Prop) (F H : Hp) (ρ : Env) (σ : L2.St) : List RV → List V → Prop
  | [], vs => vs = []
  | r :: rs, vs => ∃ v ws, vs = v :: ws ∧ RepR K fr F H ρ σ r v ∧ (∀ a, v = .ref a → (∃ o, r = .new o) → ¬ NewIn a rs ws) ∧ Fly K fr F H ρ σ rs ws
section
variable {K : PySem.W.Frag} {fr fr' : Addr → Prop} {ρ ρ' : Env} {σ σ' : L2.St} {F H F' H' : Hp}
/-- something in flight while the world goes on -/
theorem RepR.fly {r : RV} {v : V} (h : RepR K fr F H ρ σ r v) (R : Rel K F H ρ σ) (es : ES K ρ σ F H ρ' σ F' H') : RepR K fr F' H' ρ' σ r v := by
  cases r with
  | val p => exact RepV.mono es.st.ff h
  | bor i => exact h
  | new o =>
    obtain ⟨a, rfl, n, f, no, r⟩ := h
    obtain ⟨u, hu⟩ := Option.ne_none_iff_exists'.mp r.there
    have e : H' a = H a := (es.st.fr a u hu no).trans hu.symm
    refine ⟨a, rfl, ?_, f, fun z => ?_, r.mono es.st.ff e⟩
    · cases z : F' a with
      | none => rfl
      | some w =>
        rcases es.st.new a (by rw [z]; simp) with y | y | y
        · exact absurd n y
        · exact absurd y r.nfre
        · exact absurd y no
    · rcases es.own a z with y | y
      · exact no y
      · rw [hu] at y; cases y
theorem Fly.fly : ∀ {rs : List RV} {vs : List V}, Fly K fr F H ρ σ rs vs → Rel K F H ρ σ → ES K ρ σ F H ρ' σ F' H' → Fly K fr F' H' ρ' σ rs vs
  | [], _, h, _, _ => h
  | r :: rs, _, h, R, es => by
    obtain ⟨v, ws, rfl, q, d, t⟩ := h
    exact ⟨v, ws, rfl, q.fly R es, d, t.fly R es⟩
theorem Fly.weak : ∀ {rs : List RV} {vs : List V}, Fly K fr F H ρ σ rs vs → (∀ a, fr a → fr' a) → Fly K fr' F H ρ σ rs vs
  | [], _, h, _ => h
  | r :: rs, _, h, i => by
    obtain ⟨v, ws, rfl, q, d, t⟩ := h
    exact ⟨v, ws, rfl, q.weak i, d, t.weak i⟩
theorem Fly.new : ∀ {rs : List RV} {vs : List V} {a : Addr}, Fly K fr F H ρ σ rs vs → NewIn a rs vs → fr a
  | [], _, a, h, ⟨k, o, e, _⟩ => by simp at e
  | r :: rs, _, a, h, ⟨k, o, e1, e2⟩ => by
    obtain ⟨v, ws, rfl, q, d, t⟩ := h
    cases k with
    | zero =>
      simp at e1 e2
      subst e1 e2
      obtain ⟨b, eb, _, f, _⟩ := q
      cases eb
      exact f
    | succ k => exact t.new ⟨k, o, by simpa using e1, by simpa using e2⟩
end
abbrev MF := Env → Res (List RV × Env)
def tMF (K : PySem.W.Frag) (W : WX) (m : MF) : TA := fun σ H Q => ∃ ρ F, Rel K F H ρ σ ∧ Ok W ρ σ F H (m ρ) fun p =>
  ∀ vs F' H', ES K ρ σ F H p.2 σ F' H' → Fly K (Free H) F' H' p.2 σ p.1 vs → Q vs H'
def SF (X : Cx) (W : WX) (es : List Expr) (m : MF) : Prop := PA X es (tMF X.K W m)
def mFNil : MF := fun ρ => .ok ([], ρ)
def mFCons (m : M) (mf : MF) : MF := fun ρ => (m ρ).bind fun p1 => (mf p1.2).bind fun p2 => .ok (p1.1 :: p2.1, p2.2)
section
variable {X : Cx} {W : WX} {e : Expr} {es : List Expr} {m : M} {mf : MF} {pos : Pos}
theorem SF.nil : SF X W [] mFNil := PA.imp pa_nil fun σ H Q ⟨ρ, F, R, q⟩ => q [] F H (ES.refl R) (show ([] : List V) = [] from rfl)
theorem SF.cons (h : SE X W e m) (t : SF X W es mf) (hs : starEach (e :: es) X.env = (false, eval e X.env) :: starEach es X.env := by rfl) : SF X W (e :: es) (mFCons m mf) :=
  PA.imp (pa_cons h t hs) fun σ H Q ⟨ρ, F, R, q⟩ => ⟨ρ, F, R, q.of_bind.mono fun p1 h1 v F1 H1 es1 rr =>
    ⟨p1.2, F1, es1.rel, (h1.of_bind.shift es1).mono fun p2 h2 vs F2 H2 es2 fl => by
      have h2 : ∀ vs F' H', ES X.K ρ σ F H p2.2 σ F' H' → Fly X.K (Free H) F' H' p2.2 σ (p1.1 :: p2.1) vs → Q vs H' := h2
      refine h2 (v :: vs) F2 H2 (es1.trans es2) ⟨v, vs, rfl, rr.fly es1.rel es2, fun a ea ⟨o, eo⟩ ni => ?_, fl.weak fun a ha => es1.free ha⟩
      rw [eo] at rr
      obtain ⟨b, eb, _, _, _, ro⟩ := rr
      rw [ea] at eb
      cases eb
      exact ro.there (fl.new ni)⟩⟩
end
/-- things in flight to names -/
def setRs : List Nat → List RV → Env → Option Env
  | [], [], ρ => some ρ
  | i :: is, r :: rs, ρ => (setR i r ρ).bind fun ρ1 => setRs is rs ρ1
  | _, _, _ => none
def stSet : List Nat → List V → L2.St → L2.St
  | i :: is, v :: vs, σ => stSet is vs (σ.set i (some v))
  | _, _, σ => σ
section
variable {K : PySem.W.Frag} {ρ ρ' : Env} {σ : L2.St} {F H : Hp}
theorem RepR.after {H0 : Hp} {i : Nat} {r r2 : RV} {v v2 : V} (h2 : RepR K (Free H0) F H ρ σ r2 v2) (np : ∀ j, r2 ≠ .bor j) (hr : RepR K (Free H0) F H ρ σ r v) (d : ∀ a, v = .ref a → (∃ o, r = .new o) → (∃ o, r2 = .new o) → v2 ≠ .ref a) (e : setR i r ρ = some ρ') :
    RepR K (Free H0) F H ρ' (σ.set i (some v)) r2 v2 := by
  cases r2 with
  | val p => exact h2
  | bor j => exact absurd rfl (np j)
  | new o =>
    obtain ⟨a, rfl, n, n0, no, q⟩ := h2
    refine ⟨a, rfl, n, n0, fun ⟨j, oj⟩ => ?_, q⟩
    cases r with
    | val p =>
      obtain ⟨np, rfl⟩ := setV_inv (show setV i p ρ = some ρ' from e)
      have hj : j ≠ i := by
        rintro rfl
        rcases oj.1 with ⟨o, z⟩ | ⟨o, z⟩
        · rcases set_get z with ⟨_, y, _⟩ | ⟨y, _⟩
          · cases y
          · exact y rfl
        · rcases set_get z with ⟨_, y, _⟩ | ⟨y, _⟩
          · cases y
          · exact y rfl
      obtain ⟨h1, h2⟩ := oj
      rw [List.getElem?_set_ne (Ne.symm hj)] at h2
      refine no ⟨j, ?_, h2⟩
      rcases h1 with ⟨o, z⟩ | ⟨o, z⟩
      · rw [List.getElem?_set_ne (Ne.symm hj)] at z
        exact .inl ⟨o, z⟩
      · rw [List.getElem?_set_ne (Ne.symm hj)] at z
        exact .inr ⟨o, z⟩
    | bor k => cases e
    | new o1 =>
      obtain ⟨b, rfl, _⟩ := hr
      have e : (if isPar ρ i then none else some (ρ.set i (some (.own o1)))) = some ρ' := e
      split at e
      · cases e
      · cases e
        obtain ⟨h1, h2⟩ := oj
        by_cases hj : j = i
        · subst hj
          rw [List.getElem?_set, if_pos rfl] at h2
          split at h2
          · have h2 := Option.some.inj (Option.some.inj h2)
            exact d b rfl ⟨o1, rfl⟩ ⟨o, rfl⟩ h2.symm
          · cases h2
        · rw [List.getElem?_set_ne (Ne.symm hj)] at h2
          refine no ⟨j, ?_, h2⟩
          rcases h1 with ⟨o, z⟩ | ⟨o, z⟩
          · rw [List.getElem?_set_ne (Ne.symm hj)] at z
            exact .inl ⟨o, z⟩
          · rw [List.getElem?_set_ne (Ne.symm hj)] at z
            exact .inr ⟨o, z⟩
theorem setRs_nobor : ∀ {is : List Nat} {rs : List RV} {ρ ρ' : Env}, setRs is rs ρ = some ρ' → ∀ (k j : Nat), rs[k]? ≠ some (.bor j)
  | [], [], _, _, _, k, j => by simp
  | [], _ :: _, _, _, h, _, _ => by cases h
  | _ :: _, [], _, _, h, _, _ => by cases h
  | i :: is, r :: rs, ρ, ρ', h, k, j => by
    have h : (setR i r ρ).bind (fun ρ1 => setRs is rs ρ1) = some ρ' := h
    cases e : setR i r ρ with
    | none => rw [e] at h; cases h
    | some ρ1 =>
      rw [e] at h
      cases k with
      | zero =>
        intro z
        simp at z
        subst z
        cases e
      | succ k => simpa using setRs_nobor h k j
theorem setRs_ok {ρ0 : Env} {σ0 : L2.St} {F0 H0 : Hp} : ∀ {is : List Nat} {rs : List RV} {vs : List V} {ρ ρ' : Env} {σ : L2.St}, ES K ρ0 σ0 F0 H0 ρ σ F H → Fly K (Free H0) F H ρ σ rs vs → setRs is rs ρ = some ρ' → ES K ρ0 σ0 F0 H0 ρ' (stSet is vs σ) F H ∧ vs.length = is.length
  | [], [], _, _, _, _, es, fl, h => by
    cases h
    have fl : _ = [] := fl
    subst fl
    exact ⟨es, rfl⟩
  | [], _ :: _, _, _, _, _, _, _, h => by cases h
  | _ :: _, [], _, _, _, _, _, _, h => by cases h
  | i :: is, r :: rs, _, ρ, ρ', σ, es, fl, h => by
    obtain ⟨v, ws, rfl, q, d, t⟩ := fl
    have h : (setR i r ρ).bind (fun ρ1 => setRs is rs ρ1) = some ρ' := h
    cases e : setR i r ρ with
    | none => rw [e] at h; cases h
    | some ρ1 =>
      rw [e] at h
      have es1 := setR_ok es q e
      have tr : ∀ {rs : List RV} {ws : List V}, (∀ (k j : Nat), rs[k]? ≠ some (.bor j)) → (∀ a, v = .ref a → (∃ o, r = .new o) → ¬ NewIn a rs ws) → Fly K (Free H0) F H ρ σ rs ws → Fly K (Free H0) F H ρ1 (σ.set i (some v)) rs ws := by
        intro rs
        induction rs with
        | nil => intro ws _ _ h; exact h
        | cons r2 rs ih =>
          intro ws nb d h
          obtain ⟨v2, w2, rfl, q2, d2, t2⟩ := h
          refine ⟨v2, w2, rfl, q2.after (fun j z => nb 0 j (by simp [z])) q (fun a ea hr ⟨o, eo⟩ z => d a ea hr ⟨0, o, by simp [eo], by simp [z]⟩) e, d2, ih (fun k j => by simpa using nb (k + 1) j) (fun a ea hr ⟨k, o, z1, z2⟩ => d a ea hr ⟨k + 1, o, by simpa using z1, by simpa using z2⟩) t2⟩
      obtain ⟨z1, z2⟩ := setRs_ok es1 (tr (setRs_nobor h) d t) h
      exact ⟨z1, by simp [z2]⟩
end
def gNms : List Nat → TGs
  | [] => gNil
  | i :: is => gCons (gName i) (gNms is)
theorem gNms_ok : ∀ {is : List Nat} {vs : List V} {σ : L2.St} {H : Hp} {Q : L2.St → Hp → Prop}, vs.length = is.length → Q (stSet is vs σ) H → gNms is vs σ H Q
  | [], [], _, _, _, _, h => ⟨rfl, h⟩
  | [], _ :: _, _, _, _, l, _ => by cases l
  | _ :: _, [], _, _, _, l, _ => by cases l
  | i :: is, v :: vs, σ, H, Q, l, h => ⟨v, vs, rfl, gNms_ok (by simpa using l) h⟩
/-- a, b, .. = x, y, .. with names -/
def mPar (is : List Nat) (mf : MF) : MS := fun ρ => (mf ρ).bind fun p => (liftO (if p.1.length ≤ 16777216 then setRs is p.1 p.2 else none)).bind fun ρ' => .ok (.nx, ρ')
section
variable {X : Cx} {W : WX} {es tgs : List Expr} {mf : MF} {pos pos' pos'' : Pos} {k k' : Nat} {is : List Nat}
/-- by way of the pair itself -/
theorem SS.parT (h : SF X W es mf) (t : PGs X tgs (gNms is)) (hc : X.calm = true) (hs : swapsWithSole [.Tuple tgs k pos'] (.Tuple es k' pos'') pos.line X.env = pure false := by rfl) (hw : swappedStores [.Tuple tgs k pos'] (.Tuple es k' pos'') X.env = pure none := by rfl)
    (h1 : (assignEach [.Tuple tgs k pos'] X.env).map (·.2) = [assign (.Tuple tgs k pos') X.env] := by rfl) (hn : (assignEach tgs X.env).length = is.length := by rfl) (hst : (assignEach tgs X.env).findIdx? (·.1) = none := by rfl) :
    SS X W (.Assign [.Tuple tgs k pos'] (.Tuple es k' pos'') pos) (mPar is mf) :=
  PS.imp (ps_asg (pe_tup h) (pg_tup hc t hn hst) hs hw h1) fun D σ H ⟨ρ, F, R, q⟩ => ⟨ρ, F, R, q.of_bind.mono fun p h2 vs F1 H1 es1 fl => by
    obtain ⟨ρ', e, h3⟩ := h2.lift
    split at e
    · rename_i hz
      have h3 : ∀ σ' F' H', ES X.K ρ σ F H ρ' σ' F' H' → D.nx σ' H' := h3
      have hlen : ∀ {rs : List RV} {vs : List V}, Fly X.K (Free H) F1 H1 p.2 σ rs vs → vs.length = rs.length := by
        intro rs
        induction rs with
        | nil => intro vs h; have h : vs = [] := h; rw [h]; rfl
        | cons r rs ih => intro vs h; obtain ⟨v, w, rfl, _, _, t⟩ := h; simp [ih t]
      have l1 := hlen fl
      refine ⟨by rw [sizeLine_eq, l1]; exact hz, fun a n => ?_⟩
      have g := Grow.obj (o := .tup vs) es1.rel.fh n
      have es2 := g.es es1.rel
      obtain ⟨es3, l2⟩ := setRs_ok (es1.trans es2) (fl.fly es1.rel es2) e
      exact ⟨a, vs, rfl, .of upd_same, l2, gNms_ok l2 (h3 _ _ _ es3)⟩
    · cases e⟩
end
/-- two plain local names -/
theorem SS.par2 {X : Cx} {W : WX} {mf : MF} {i j : Nat} {x y : Str} {a b : Expr} {px py pt pos : Pos} {kt k2 pt2} (h : SF X W [a, b] mf) (hc : X.calm = true) (hN : X.N.Nodup) (hi : X.N[i]? = some x) (hj : X.N[j]? = some y) (hij : i ≠ j)
    (hx : X.env.scope.names.lookup x = some .local) (hy : X.env.scope.names.lookup y = some .local)
    (hw : swappedStores [.Tuple [.Name x px, .Name y py] kt pt] (.Tuple [a, b] k2 pt2) X.env = pure (some [x, y]) := by rfl)
    (hs : swapsWithSole [.Tuple [.Name x px, .Name y py] kt pt] (.Tuple [a, b] k2 pt2) pos.line X.env = pure false := by rfl) :
    SS X W (.Assign [.Tuple [.Name x px, .Name y py] kt pt] (.Tuple [a, b] k2 pt2) pos) (mPar [i, j] mf) :=
  PS.imp (ps_par hc hN hi hj hij hx hy h hw hs) fun D σ H ⟨ρ, F, R, q⟩ => ⟨ρ, F, R, q.of_bind.mono fun p h2 vs F1 H1 es1 fl => by
    obtain ⟨ρ', e, h3⟩ := h2.lift
    split at e
    · have h3 : ∀ σ' F' H', ES X.K ρ σ F H ρ' σ' F' H' → D.nx σ' H' := h3
      obtain ⟨es3, l2⟩ := setRs_ok es1 fl e
      match vs, l2 with
      | [v, w], _ => exact ⟨v, w, rfl, h3 _ _ _ es3⟩
    · cases e⟩
theorem SS.par3 {X : Cx} {W : WX} {mf : MF} {i j l : Nat} {x y z : Str} {a b c : Expr} {px py pz pt pos : Pos} {kt k2 pt2} (h : SF X W [a, b, c] mf) (hc : X.calm = true) (hN : X.N.Nodup) (hi : X.N[i]? = some x) (hj : X.N[j]? = some y) (hl : X.N[l]? = some z) (hij : i ≠ j) (hil : i ≠ l) (hjl : j ≠ l)
    (hx : X.env.scope.names.lookup x = some .local) (hy : X.env.scope.names.lookup y = some .local) (hz : X.env.scope.names.lookup z = some .local)
    (hw : swappedStores [.Tuple [.Name x px, .Name y py, .Name z pz] kt pt] (.Tuple [a, b, c] k2 pt2) X.env = pure (some [x, y, z]) := by rfl)
    (hs : swapsWithSole [.Tuple [.Name x px, .Name y py, .Name z pz] kt pt] (.Tuple [a, b, c] k2 pt2) pos.line X.env = pure false := by rfl) :
    SS X W (.Assign [.Tuple [.Name x px, .Name y py, .Name z pz] kt pt] (.Tuple [a, b, c] k2 pt2) pos) (mPar [i, j, l] mf) :=
  PS.imp (ps_par3 hc hN hi hj hl hij hil hjl hx hy hz h hw hs) fun D σ H ⟨ρ, F, R, q⟩ => ⟨ρ, F, R, q.of_bind.mono fun p h2 vs F1 H1 es1 fl => by
    obtain ⟨ρ', e, h3⟩ := h2.lift
    split at e
    · have h3 : ∀ σ' F' H', ES X.K ρ σ F H ρ' σ' F' H' → D.nx σ' H' := h3
      obtain ⟨es3, l2⟩ := setRs_ok es1 fl e
      match vs, l2 with
      | [v, w, u], _ => exact ⟨v, w, u, rfl, h3 _ _ _ es3⟩
    · cases e⟩
end Pu

set_option Elab.async false
set_option linter.all false
set_option maxRecDepth 100000
/-! Pu8: append, x[i] = v, x op= e, a name handed back, while, a def by its body. -/
namespace Pu
open PySem PySem.Spec PyProof.Rows L2

/-! ### dicts as rows of keys and values -/
section
variable {κ : Type} [DecidableEq κ]
def look : List κ → List PV → κ → Option PV
  | k' :: ks, x :: xs, k => if k' = k then some x else look ks xs k
  | _, _, _ => none
def repl : List κ → List PV → κ → PV → List PV
  | k' :: ks, x :: xs, k, y => (if k' = k then y else x) :: repl ks xs k y
  | _, _, _, _ => []
def putKs (ks : List κ) (k : κ) : List κ := if k ∈ ks then ks else ks ++ [k]
def putXs (ks : List κ) (xs : List PV) (k : κ) (y : PV) : List PV := if k ∈ ks then repl ks xs k y else xs ++ [y]
variable {K : PySem.W.Frag} {F : Hp}
theorem look_rep : ∀ {ks : List κ} {xs : List PV} {vs : List V} {k : κ}, RepVs K F xs vs → ks.length = vs.length →
    (∀ x, look ks xs k = some x → ∃ v, valV (ks.zip vs) k = some v ∧ RepV K F x v) ∧ (look ks xs k = none → valV (ks.zip vs) k = none)
  | [], xs, vs, k, _, _ => by
    refine ⟨fun x h => ?_, fun _ => rfl⟩
    cases xs <;> cases h
  | k' :: ks, [], vs, k, h, l => by
    rw [h.nil_inv] at l
    cases l
  | k' :: ks, x :: xs, vs, k, h, l => by
    obtain ⟨v, r, rfl, q, t⟩ := h.cons_inv
    have ih := look_rep (k := k) t (by simpa using l)
    show (∀ y, (if k' = k then some x else look ks xs k) = some y → _) ∧ ((if k' = k then some x else look ks xs k) = none → _)
    rw [List.zip_cons_cons]
    by_cases e : k' = k
    · rw [if_pos e, valV_pos (p := (k', v)) e]
      exact ⟨fun y hy => by cases hy; exact ⟨v, rfl, q⟩, fun z => by cases z⟩
    · rw [if_neg e, valV_neg (p := (k', v)) e]
      exact ih
theorem repl_rep : ∀ {ks : List κ} {xs : List PV} {vs : List V} {k : κ} {y : PV} {w : V}, RepVs K F xs vs → ks.length = vs.length → RepV K F y w →
    ∃ ws, (ks.zip vs).map (fun kv => if kv.1 = k then (kv.1, w) else kv) = ks.zip ws ∧ ks.length = ws.length ∧ RepVs K F (repl ks xs k y) ws
  | [], xs, vs, k, y, w, h, l, _ => by
    refine ⟨[], rfl, rfl, ?_⟩
    cases xs <;> exact .nil
  | k' :: ks, [], vs, k, y, w, h, l, _ => by
    rw [h.nil_inv] at l
    cases l
  | k' :: ks, x :: xs, vs, k, y, w, h, l, q => by
    obtain ⟨v, r, rfl, qv, t⟩ := h.cons_inv
    obtain ⟨ws, e, l2, t2⟩ := repl_rep (k := k) t (by simpa using l) q
    refine ⟨(if k' = k then w else v) :: ws, ?_, by simp [l2], ?_⟩
    · rw [List.zip_cons_cons, List.map_cons, e, List.zip_cons_cons]
      by_cases z : k' = k
      · simp [z]
      · simp [z]
    · show RepVs K F ((if k' = k then y else x) :: repl ks xs k y) _
      by_cases z : k' = k
      · rw [if_pos z, if_pos z]; exact .cons q t2
      · rw [if_neg z, if_neg z]; exact .cons qv t2
theorem any_zip : ∀ {ks : List κ} {vs : List V} {k : κ}, ks.length = vs.length → ((ks.zip vs).any fun kv => decide (kv.1 = k)) = decide (k ∈ ks)
  | [], vs, k, _ => by simp
  | k' :: ks, [], k, l => by cases l
  | k' :: ks, v :: vs, k, l => by
    rw [List.zip_cons_cons, List.any_cons, any_zip (by simpa using l)]
    by_cases e : k' = k
    · subst e; simp
    · have e' : ¬ k = k' := fun z => e z.symm
      simp [e, e']
theorem put_rep {ks : List κ} {xs : List PV} {vs : List V} {k : κ} {y : PV} {w : V} (h : RepVs K F xs vs) (l : ks.length = vs.length) (q : RepV K F y w) :
    ∃ ws, putK (ks.zip vs) k w = (putKs ks k).zip ws ∧ (putKs ks k).length = ws.length ∧ RepVs K F (putXs ks xs k y) ws := by
  unfold putK putKs putXs
  rw [any_zip l]
  by_cases e : k ∈ ks
  · rw [if_pos (decide_eq_true e), if_pos e, if_pos e]
    exact repl_rep h l q
  · rw [if_neg (by simpa using e), if_neg e, if_neg e]
    refine ⟨vs ++ [w], ?_, by simp [l], h.append (.cons q .nil)⟩
    rw [List.zip_append l]
    rfl
theorem look_len {ks : List κ} {xs : List PV} {vs : List V} (h : RepVs K F xs vs) (l : ks.length = vs.length) : ks.length = xs.length := by rw [l, h.length]
end
def keyOf : PV → Option Key
  | .int i => some (.inl i)
  | .str x => some (.inr x)
  | _ => none
def keysOf : List PV → Option (List Key)
  | [] => some []
  | p :: ps => (keyOf p).bind fun k => (keysOf ps).map fun ks => k :: ks
def tkeyOf : PV → Option (List Key)
  | .tup ps => keysOf ps
  | _ => none
theorem keyOf_rep {K : PySem.W.Frag} {F : Hp} {p : PV} {v : V} {k : Key} (h : RepV K F p v) (e : keyOf p = some k) : v = kV k := by
  cases p with
  | int i => cases e; unfold RepV at h; exact h
  | str i => cases e; unfold RepV at h; exact h
  | _ => cases e
theorem keysOf_rep {K : PySem.W.Frag} {F : Hp} : ∀ {ps : List PV} {vs : List V} {ks : List Key}, RepVs K F ps vs → keysOf ps = some ks → vs = ks.map kV
  | [], vs, ks, h, e => by
    cases e
    exact h.nil_inv
  | p :: ps, vs, ks, h, e => by
    obtain ⟨v, r, rfl, q, t⟩ := h.cons_inv
    have e : (keyOf p).bind (fun k => (keysOf ps).map fun ks => k :: ks) = some ks := e
    cases e1 : keyOf p with
    | none => rw [e1] at e; cases e
    | some k =>
      rw [e1] at e
      cases e2 : keysOf ps with
      | none => rw [e2] at e; cases e
      | some ks2 =>
        rw [e2] at e
        cases e
        rw [keyOf_rep q e1, keysOf_rep t e2]
        rfl
theorem tkeyOf_rep {K : PySem.W.Frag} {F H : Hp} (fh : FH F H) {p : PV} {v : V} {ks : List Key} (h : RepB K F H p v) (e : tkeyOf p = some ks) : ∃ b, v = .ref b ∧ H b = some (.tup (ks.map kV)) := by
  cases p with
  | tup ps =>
    have h : RepV K F (.tup ps) v := h
    unfold RepV at h
    obtain ⟨a, vs, rfl, s, r⟩ := h
    have e : keysOf ps = some ks := e
    rw [keysOf_rep r e] at s
    exact ⟨a, rfl, fh.tup s⟩
  | _ => cases e
theorem skeyOf_rep {K : PySem.W.Frag} {F H : Hp} {p : PV} {v : V} {k : Key} (h : RepB K F H p v) (e : keyOf p = some k) : v = kV k := by
  cases p with
  | int i => exact keyOf_rep (show RepV K F _ _ from h) e
  | str i => exact keyOf_rep (show RepV K F _ _ from h) e
  | _ => cases e

/-! ### append -/
def ownL? (ρ : Env) (i : Nat) : Option (List PV) := match ownO ρ i with
  | some (.lst xs) => some xs
  | _ => none
theorem ownL?_inv {ρ : Env} {i : Nat} {xs : List PV} (h : ownL? ρ i = some xs) : ownO ρ i = some (.lst xs) := by
  unfold ownL? at h
  cases e : ownO ρ i with
  | none => rw [e] at h; cases h
  | some o =>
    rw [e] at h
    cases o with
    | lst ys => cases h; rfl
    | dT _ _ => cases h
    | dK _ _ => cases h
    | ob _ _ _ => cases h
def mAppend (i : Nat) (m : M) : MS := fun ρ => (liftO (ownL? ρ i)).bind fun _ => (mOp m ρ).bind fun p => (liftO p.1.val?).bind fun x => (liftO (ownL? p.2 i)).bind fun xs =>
  if xs.length < 16777216 then .ok (.nx, setC i (.lst (xs ++ [x])) p.2) else .bad
/-- x[i] = e -/
def putO (o : OB) (k v : PV) : Option OB := match o with
  | .lst xs => match k with
    | .int j => (ixN xs.length j).map fun n => .lst (xs.set n v)
    | _ => none
  | .dT ks xs => (tkeyOf k).bind fun key => if ks.length < 16777216 then some (.dT (putKs ks key) (putXs ks xs key v)) else none
  | .dK ks xs => (keyOf k).bind fun key => if ks.length < 16777216 then some (.dK (putKs ks key) (putXs ks xs key v)) else none
  | .ob _ _ _ => none
def mPut (j : Nat) (mv mi : M) : MS := fun ρ => (mOp mv ρ).bind fun p => (liftO p.1.val?).bind fun x => (liftO (ownO p.2 j)).bind fun _ => (mOp mi p.2).bind fun q =>
  (liftO (deref q.2 q.1)).bind fun k => (liftO (ownO q.2 j)).bind fun o => (liftO (putO o k x)).bind fun o' => .ok (.nx, setC j o' q.2)
section
variable {X : Cx} {W : WX} {e i : Expr} {m mi mv : M} {pos pos' apos cpos : Pos} {x : Str} {j : Nat}
theorem SS.append (hx : PE X (.Name x pos') (tVar j)) (h : SE X W e m) (hs : swapsWith (.Call (.Attribute (.Name x pos') "append" apos) [e] [] cpos) none pos.line X.env = pure false := by rfl)
    (hbase : attributeBase (.Name x pos') "append" X.env (eval (.Name x pos') X.env) = eval (.Name x pos') X.env := by rfl)
    (hfew : ((backTo cpos (starEach [e] X.env)).all (fun x => !x.1) && (backToKw cpos (keywordEach [] X.env)).all (fun x => x.1.isSome)
      && decide ([e].length + ([] : List Keyword).length + (if ([] : List Keyword).isEmpty then 0 else 1) < 30)) = true := by rfl)
    (hline : (apos.endLine == cpos.line) = true := by rfl) (hst : starEach [e] X.env = (false, eval e X.env) :: starEach [] X.env := by rfl) :
    SS X W (.Expr (.Call (.Attribute (.Name x pos') "append" apos) [e] [] cpos) pos) (mAppend j m) := by
  refine PS.imp (ps_expr (pe_bm PySem.F.plainAttrs_list PySem.F.slot_list_append PySem.F.type_list_append mt_append hx (SA.cons (W := W) h SA.nil hst) hbase hfew hline hst rfl) hs) fun D σ H ⟨ρ, F, R, q⟩ => ?_
  obtain ⟨xs0, e0, q⟩ := q.lift
  obtain ⟨a, ea, ow, n, r⟩ := ownO_at R (ownL?_inv e0)
  refine ⟨.ref a, ea, .inl ⟨rfl, ?_⟩, ?_⟩
  · obtain ⟨vs, hv, _⟩ := r
    exact ⟨vs, .of hv⟩
  · refine ⟨ρ, F, R, ?_⟩
    unfold mACons
    cases em : mOp m ρ with
    | exc y => rw [em] at q; exact q
    | bad => rw [em] at q; exact q
    | ok p =>
      rw [em] at q
      intro vs F1 H1 es1 qs
      obtain ⟨y, ey, q⟩ := Ok.lift (show Ok W ρ σ F H ((liftO p.1.val?).bind _) _ from q)
      obtain ⟨xs, ex, q⟩ := q.lift
      have es1 : ES X.K ρ σ F H p.2 σ F1 H1 := es1
      cases qs with
      | cons q1 q2 =>
      cases q2
      have ev := val?_inv ey
      rw [ev] at q1
      have q1 : RepV X.K F1 y _ := q1
      obtain ⟨b, eb, _, _, r1⟩ := ownO_at es1.rel (ownL?_inv ex)
      rw [ea] at eb
      cases eb
      obtain ⟨vs, hv, rv⟩ := r1
      by_cases hz : xs.length < 16777216
      · rw [if_pos hz] at q
        have q : ∀ σ' F' H', ES X.K ρ σ F H _ σ' F' H' → D.nx σ' H' := q
        refine ⟨a, vs, _, rfl, rfl, hv, by rw [← rv.length, sizeLine_eq]; exact hz, ?_⟩
        exact q _ _ _ (es1.trans (es1.rel.write (ownL?_inv ex) ea ⟨_, upd_same, rv.append (.cons q1 .nil)⟩))
      · rw [if_neg hz] at q
        exact q.elim
theorem putO_lst {K : PySem.W.Frag} {F H : Hp} {a : Addr} {o o' : OB} {k v : PV} {kv vv : V} {Q : Hp → Prop} (r : RepO K F H a o) (rk : RepB K F H k kv) (rv : RepV K F v vv) (hl : ∃ xs, o = .lst xs) (e : putO o k v = some o')
    (go : ∀ u, RepO K F (upd H a u) a o' → Q (upd H a u)) : rSetL (.ref a) kv vv H Q := by
  obtain ⟨xs, rfl⟩ := hl
  obtain ⟨vs, hv, rvs⟩ := r
  cases k with
  | int i =>
    have rk : RepV K F (.int i) kv := rk
    unfold RepV at rk
    subst rk
    have e : (ixN xs.length i).map (fun n => OB.lst (xs.set n v)) = some o' := e
    cases ei : ixN xs.length i with
    | none => rw [ei] at e; cases e
    | some n =>
      rw [ei] at e
      cases e
      exact ⟨a, vs, i, n, rfl, rfl, hv, by rw [← rvs.length]; exact ei, go _ ⟨_, upd_same, rvs.set n rv⟩⟩
  | _ => cases e
theorem putO_dict {K : PySem.W.Frag} {F H : Hp} {a : Addr} {o o' : OB} {k v : PV} {kv vv : V} (fh : FH F H) (r : RepO K F H a o) (rk : RepB K F H k kv) (rv : RepV K F v vv) (hl : ∀ xs, o ≠ .lst xs) (e : putO o k v = some o') :
    ∃ u, DPut H a kv vv (upd H a u) ∧ RepO K F (upd H a u) a o' := by
  cases o with
  | lst xs => exact absurd rfl (hl xs)
  | dT ks xs =>
    obtain ⟨vs, hv, l, rvs⟩ := r
    have e : (tkeyOf k).bind (fun key => if ks.length < 16777216 then some (OB.dT (putKs ks key) (putXs ks xs key v)) else none) = some o' := e
    cases ek : tkeyOf k with
    | none => rw [ek] at e; cases e
    | some key =>
      rw [ek] at e
      have e : (if ks.length < 16777216 then some (OB.dT (putKs ks key) (putXs ks xs key v)) else none) = some o' := e
      split at e
      · rename_i hz
        cases e
        obtain ⟨b, rfl, hb⟩ := tkeyOf_rep fh rk ek
        obtain ⟨ws, e1, e2, e3⟩ := put_rep (k := key) rvs l rv
        refine ⟨_, DPut.t hv hb (by rw [List.length_zip, ← l, Nat.min_self, sizeLine_eq]; exact hz), ?_⟩
        rw [e1]
        exact ⟨ws, upd_same, e2, e3⟩
      · cases e
  | dK ks xs =>
    obtain ⟨vs, hv, l, rvs⟩ := r
    have e : (keyOf k).bind (fun key => if ks.length < 16777216 then some (OB.dK (putKs ks key) (putXs ks xs key v)) else none) = some o' := e
    cases ek : keyOf k with
    | none => rw [ek] at e; cases e
    | some key =>
      rw [ek] at e
      have e : (if ks.length < 16777216 then some (OB.dK (putKs ks key) (putXs ks xs key v)) else none) = some o' := e
      split at e
      · rename_i hz
        cases e
        have := skeyOf_rep rk ek
        subst this
        obtain ⟨ws, e1, e2, e3⟩ := put_rep (k := key) rvs l rv
        refine ⟨_, DPut.k hv (by rw [List.length_zip, ← l, Nat.min_self, sizeLine_eq]; exact hz), ?_⟩
        rw [e1]
        exact ⟨ws, upd_same, e2, e3⟩
      · cases e
  | ob C ns xs => cases e
/-- d[k] = e, d an own dict -/
theorem SS.putD (hu : X.A.units + 1 < cLine) (hx : PE X (.Name x pos') (tVar j)) (hi : SE X W i mi) (h : SE X W e mv) (hs : swapsWith e (some (.Subscript (.Name x pos') i apos)) pos.line X.env = pure false := by rfl) (hd : ∀ ρ xs, ownO ρ j ≠ some (.lst xs) ∨ True := by exact fun _ _ => .inr trivial) :
    SS X W (.Assign [.Subscript (.Name x pos') i apos] e pos) (fun ρ => (mOp mv ρ).bind fun p => (liftO p.1.val?).bind fun x => (liftO (ownO p.2 j)).bind fun _ => (mOp mi p.2).bind fun q =>
      (liftO (deref q.2 q.1)).bind fun k => (liftO (ownO q.2 j)).bind fun o => (liftO (match o with | .lst _ => none | o => putO o k x)).bind fun o' => .ok (.nx, setC j o' q.2)) := by
  refine PS.imp (ps_dput hu hx hi h hs) fun D σ H ⟨ρ, F, R, q⟩ => ?_
  refine tM_op R q fun r1 ρ1 v F1 H1 es1 q1 h1 => ?_
  obtain ⟨y, ey, h2⟩ := h1.lift
  obtain ⟨o0, eo0, h3⟩ := h2.lift
  have ev : r1 = .val y := val?_inv ey
  subst ev
  have q1 : RepV X.K F1 y v := q1
  obtain ⟨a, ea, _, _, _⟩ := ownO_at es1.rel eo0
  refine ⟨.ref a, ea, ?_⟩
  refine tM_op es1.rel h3 fun r2 ρ2 kv F2 H2 es2 q2 h4 => ?_
  obtain ⟨k, ek, h5⟩ := h4.lift
  obtain ⟨o, eo, h6⟩ := h5.lift
  obtain ⟨o', eo', h7⟩ := h6.lift
  have eo : ownO ρ2 j = some o := eo
  have h7 : ∀ σ' F' H', ES X.K ρ σ F H (setC j o' ρ2) σ' F' H' → D.nx σ' H' := h7
  obtain ⟨b, eb, _, _, ro⟩ := ownO_at es2.rel eo
  rw [ea] at eb
  cases eb
  have nl : ∀ xs, o ≠ .lst xs := fun xs z => by rw [z] at eo'; cases eo'
  have eo' : putO o k y = some o' := by
    cases o with
    | lst xs => exact absurd rfl (nl xs)
    | dT _ _ => exact eo'
    | dK _ _ => exact eo'
    | ob _ _ _ => cases eo'
  obtain ⟨u, dp, ro'⟩ := putO_dict es2.rel.fh ro (q2.b es2.rel ek) (RepV.mono es2.st.ff q1) nl eo'
  exact ⟨a, _, rfl, dp, h7 _ _ _ ((es1.trans es2).trans (es2.rel.write eo ea ro'))⟩
/-- xs[i] = e, xs an own list -/
theorem SS.putL (hx : PE X (.Name x pos') (tVar j)) (hi : SE X W i mi) (h : SE X W e mv) (hs : swapsWithSole [.Subscript (.Name x pos') i apos] e pos.line X.env = pure false := by rfl) (hw : swappedStores [.Subscript (.Name x pos') i apos] e X.env = pure none := by rfl)
    (h1 : (assignEach [.Subscript (.Name x pos') i apos] X.env).map (·.2) = [assign (.Subscript (.Name x pos') i apos) X.env] := by rfl)
    (ha : ∀ v, assign (.Subscript (.Name x pos') i apos) X.env v = (do
      let ov ← holding [v] (eval (.Name x pos') X.env)
      let iv ← holding [v, ov] (eval i X.env)
      standAt apos
      holding [v, ov, iv] (setItem ov iv v)
      release [v, ov, iv] []) := by intro _; rfl) :
    SS X W (.Assign [.Subscript (.Name x pos') i apos] e pos) (fun ρ => (mOp mv ρ).bind fun p => (liftO p.1.val?).bind fun x => (liftO (ownO p.2 j)).bind fun _ => (mOp mi p.2).bind fun q =>
      (liftO (deref q.2 q.1)).bind fun k => (liftO ((ownL? q.2 j).map OB.lst)).bind fun o => (liftO (putO o k x)).bind fun o' => .ok (.nx, setC j o' q.2)) := by
  refine PS.imp (ps_asg h (pg_sub hx hi set_list ha) hs hw h1) fun D σ H ⟨ρ, F, R, q⟩ => ?_
  refine tM_op R q fun r1 ρ1 v F1 H1 es1 q1 h1 => ?_
  obtain ⟨y, ey, h2⟩ := h1.lift
  obtain ⟨o0, eo0, h3⟩ := h2.lift
  have ev : r1 = .val y := val?_inv ey
  subst ev
  have q1 : RepV X.K F1 y v := q1
  obtain ⟨a, ea, _, _, _⟩ := ownO_at es1.rel eo0
  refine ⟨.ref a, ea, ?_⟩
  refine tM_op es1.rel h3 fun r2 ρ2 kv F2 H2 es2 q2 h4 => ?_
  obtain ⟨k, ek, h5⟩ := h4.lift
  obtain ⟨o, eo, h6⟩ := h5.lift
  obtain ⟨o', eo', h7⟩ := h6.lift
  have eo : (ownL? ρ2 j).map OB.lst = some o := eo
  have h7 : ∀ σ' F' H', ES X.K ρ σ F H (setC j o' ρ2) σ' F' H' → D.nx σ' H' := h7
  cases el : ownL? ρ2 j with
  | none => rw [el] at eo; cases eo
  | some xs =>
    rw [el] at eo
    cases eo
    obtain ⟨b, eb, _, _, ro⟩ := ownO_at es2.rel (ownL?_inv el)
    rw [ea] at eb
    cases eb
    exact putO_lst ro (q2.b es2.rel ek) (RepV.mono es2.st.ff q1) ⟨xs, rfl⟩ eo' fun u ro' => h7 _ _ _ ((es1.trans es2).trans (es2.rel.write (ownL?_inv el) ea ro'))
end
def mPutD (j : Nat) (mv mi : M) : MS := fun ρ => (mOp mv ρ).bind fun p => (liftO p.1.val?).bind fun x => (liftO (ownO p.2 j)).bind fun _ => (mOp mi p.2).bind fun q =>
      (liftO (deref q.2 q.1)).bind fun k => (liftO (ownO q.2 j)).bind fun o => (liftO (match o with | .lst _ => none | o => putO o k x)).bind fun o' => .ok (.nx, setC j o' q.2)
def mPutL (j : Nat) (mv mi : M) : MS := fun ρ => (mOp mv ρ).bind fun p => (liftO p.1.val?).bind fun x => (liftO (ownO p.2 j)).bind fun _ => (mOp mi p.2).bind fun q =>
      (liftO (deref q.2 q.1)).bind fun k => (liftO ((ownL? q.2 j).map OB.lst)).bind fun o => (liftO (putO o k x)).bind fun o' => .ok (.nx, setC j o' q.2)

/-! ### x op= e -/
def mAug (i : Nat) (f : PV → PV → Option RV) (m : M) : MS := fun ρ => (mBor i ρ).bind fun p0 => (mOp m p0.2).bind fun p => (liftO (deref p.2 p0.1)).bind fun a => (liftO (deref p.2 p.1)).bind fun b => (liftO (f a b)).bind fun r =>
  (liftO (setR i r p.2)).bind fun ρ' => .ok (.nx, ρ')
theorem mBor_q {K : PySem.W.Frag} {W : WX} {ρ : Env} {σ : L2.St} {F H : Hp} {i : Nat} {β : Type} {k : RV × Env → Res β} {R : β → Prop} (rel : Rel K F H ρ σ) (h : Ok W ρ σ F H ((mBor i ρ).bind k) R) :
    ∃ r v, σ[i]? = some (some v) ∧ RepQ K F σ r v ∧ Ok W ρ σ F H (k (r, ρ)) R := by
  unfold mBor at h
  cases e : ρ[i]? with
  | none => rw [e] at h; exact h.elim
  | some s =>
    cases s with
    | none => rw [e] at h; exact h.elim
    | some s =>
      obtain ⟨v, ev, r⟩ := rel.slot i s e
      rw [e] at h
      cases s with
      | val p => exact ⟨.val p, v, ev, r, h⟩
      | own o => exact ⟨.bor i, v, ev, ev, h⟩
      | par o => exact ⟨.bor i, v, ev, ev, h⟩
section
variable {X : Cx} {W : WX} {e : Expr} {m : M} {pos pos' : Pos} {x : Str} {i : Nat} {op : Operator} {ti : TIp} {f : PV → PV → Option RV}
theorem SS.aug (ho : PIp X op ti) (hp : Prim2 X.K ti f) (h : SE X W e m) (hN : X.N.Nodup) (hi : X.N[i]? = some x) (hx : Loc X.env.scope x) (hf : X.fn x = true ∨ X.env.scope.names.lookup x = some .local := by first | exact .inl rfl | exact .inr rfl | assumption) :
    SS X W (.AugAssign (.Name x pos') op e pos) (mAug i f m) :=
  PS.imp (ps_aug hN hi hx h ho hf) fun D σ H ⟨ρ, F, R, q⟩ => by
    obtain ⟨r0, v, ev, q0, q⟩ := mBor_q R q
    refine ⟨v, ev, ?_⟩
    refine tM_op R q fun r ρ1 y F1 H1 es1 q1 h1 => ?_
    obtain ⟨a, ea, h2⟩ := h1.lift
    obtain ⟨b, eb, h3⟩ := h2.lift
    obtain ⟨res, er, h4⟩ := h3.lift
    obtain ⟨ρ', e', h5⟩ := h4.lift
    have h5 : ∀ σ' F' H', ES X.K ρ σ F H ρ' σ' F' H' → D.nx σ' H' := h5
    refine hp v y F1 H1 _ a b res es1.rel.fh ((q0.mono es1.st.ff).b es1.rel ea) (q1.b es1.rel eb) er fun z F' H' g rn => ?_
    exact h5 _ _ _ (setR_ok (es1.trans (g.es es1.rel)) ((rn.rr es1.rel).weak fun a ha => es1.free ha) e')

/-! ### a name handed back -/
def mRetNm (i : Nat) : MS := fun ρ => match ρ[i]? with
  | some (some (.val p)) => .ok (.rt (.val p), ρ)
  | some (some (.own o)) => .ok (.rt (.new o), ρ.set i none)
  | some (some (.par o)) => .ok (.rt (.val o.pv), ρ.set i (some (.val o.pv)))
  | _ => .bad
theorem Rel.drop {K : PySem.W.Frag} {ρ : Env} {σ : L2.St} {F H : Hp} {i : Nat} (R : Rel K F H ρ σ) : ES K ρ σ F H (ρ.set i none) σ F H ∧ ∀ j a, OwnAt (ρ.set i none) σ j a → OwnAt ρ σ j a ∧ j ≠ i := by
  have get : ∀ (j : Nat) (s : SV), (ρ.set i none)[j]? = some (some s) → ρ[j]? = some (some s) ∧ j ≠ i := fun j s h => by
    by_cases hj : j = i
    · subst hj
      rw [List.getElem?_set, if_pos rfl] at h
      split at h <;> cases h
    · rw [List.getElem?_set_ne (Ne.symm hj)] at h
      exact ⟨h, hj⟩
  have own : ∀ j a, OwnAt (ρ.set i none) σ j a → OwnAt ρ σ j a ∧ j ≠ i := fun j a ⟨h1, h2⟩ => by
    rcases h1 with ⟨o, e⟩ | ⟨o, e⟩
    · obtain ⟨e', n⟩ := get _ _ e
      exact ⟨⟨.inl ⟨o, e'⟩, h2⟩, n⟩
    · obtain ⟨e', n⟩ := get _ _ e
      exact ⟨⟨.inr ⟨o, e'⟩, h2⟩, n⟩
  refine ⟨⟨Step.refl _ _ _, ⟨by simpa using R.len, fun j s h => R.slot j s (get j s h).1, R.fh, fun j k a h1 h2 => R.inj j k a (own j a h1).1 (own k a h2).1⟩, fun a ⟨j, h⟩ => .inl ⟨j, (own j a h).1⟩, fun a ⟨j, o, h1, h2⟩ => .inl ⟨j, o, (get j _ h1).1, h2⟩, fun j o h => ⟨⟨o, (get j _ h).1⟩, rfl⟩⟩, own⟩
theorem SS.retNm (h : PE X (.Name x pos') (tVar i)) : SS X W (.Return (some (.Name x pos')) pos) (mRetNm i) :=
  PS.imp (ps_ret h) fun D σ H ⟨ρ, F, R, q⟩ => by
    unfold mRetNm at q
    cases e : ρ[i]? with
    | none => rw [e] at q; exact q.elim
    | some s =>
      cases s with
      | none => rw [e] at q; exact q.elim
      | some s =>
        obtain ⟨v, ev, r⟩ := R.slot i s e
        rw [e] at q
        refine ⟨v, ev, ?_⟩
        cases s with
        | val p => exact q v σ F H (ES.refl R) r
        | own o =>
          obtain ⟨a, rfl, n, ro⟩ := r
          obtain ⟨es, own⟩ := R.drop (i := i)
          refine q _ σ F H es ⟨a, rfl, n, .inr ⟨i, o, e, ev⟩, fun ⟨j, oj⟩ => ?_, ro⟩
          obtain ⟨o1, nj⟩ := own j a oj
          exact nj (R.inj j i a o1 ⟨.inl ⟨o, e⟩, ev⟩)
        | par o =>
          obtain ⟨F', v', ev', es, rr⟩ := R.freeze (.inr e)
          rw [ev] at ev'
          cases ev'
          exact q _ σ F' H es rr

/-! ### while -/
def whileM (t : MT) (b : MS) : Nat → MS
  | 0 => fun _ => .bad
  | n + 1 => fun ρ => (t ρ).bind fun p => if p.1 = true then (b p.2).bind fun q => match q.1 with
      | .nx => whileM t b n q.2
      | .ct => whileM t b n q.2
      | .bk => .ok (.nx, q.2)
      | .rt r => .ok (.rt r, q.2)
    else .ok (.nx, p.2)
theorem SS.while {c : Expr} {body : List Stmt} {tc : MT} {mb : MS} (n : Nat) (hc : ST X W c tc) (hb : SSs X W body mb) (hp : PassesOwn (model X.prog X.w) X.A X.env X.xe) : SS X W (.While c body [] pos) (whileM tc mb n) :=
  PS.imp (ps_while hp hc hb) fun D σ H h => by
    refine ⟨fun n σ H => tMS X.K W (whileM tc mb n) D σ H, ⟨n, h⟩, fun m σ H ⟨ρ, F, R, q⟩ => ?_⟩
    cases m with
    | zero => exact q.elim
    | succ m =>
      refine ⟨ρ, F, R, q.of_bind.mono fun p hp F1 H1 es => ?_⟩
      refine ite2 (fun z => ?_) (fun z => ?_)
      · rw [if_pos z] at hp
        refine ⟨fun σ' H' => tMS X.K W (whileM tc mb m) D σ' H', fun σ' H' h => ⟨m, Nat.lt_succ_self _, h⟩, ?_⟩
        refine ⟨p.2, F1, es.rel, (hp.of_bind.shift es).mono fun p2 h3 => ?_⟩
        obtain ⟨fl, ρ2⟩ := p2
        cases fl with
        | nx => exact fun σ2 F2 H2 es2 => tMS_mk es2.rel ((h3.shift (es.trans es2)).mono fun p3 h4 => RestS.go h4 (es.trans es2))
        | ct => exact fun σ2 F2 H2 es2 => tMS_mk es2.rel ((h3.shift (es.trans es2)).mono fun p3 h4 => RestS.go h4 (es.trans es2))
        | bk =>
          have h3 : ∀ σ' F' H', ES X.K ρ σ F H ρ2 σ' F' H' → D.nx σ' H' := h3
          exact fun σ2 F2 H2 es2 => h3 σ2 F2 H2 (es.trans es2)
        | rt r =>
          have h3 : ∀ v σ' F' H', ES X.K ρ σ F H ρ2 σ' F' H' → RepR X.K (FrL H ρ σ) F' H' ρ2 σ' r v → D.rt v H' := h3
          exact fun v σ2 F2 H2 es2 rr => h3 v σ2 F2 H2 (es.trans es2) (rr.weak fun a ha => ha.back es)
      · rw [if_neg z] at hp
        have hp : ∀ σ' F' H', ES X.K ρ σ F H p.2 σ' F' H' → D.nx σ' H' := hp
        exact hp σ F1 H1 es
end

/-! ### a def by its body -/
def SV.lent : SV → Option OB
  | .par o => some o
  | _ => none
def outsOf (n : Nat) (ρ : Env) : List (Option OB) := (List.range n).map fun k => (ρ[k]?).join.bind SV.lent
/-- an exception here is not told of -/
def Res.nox {α : Type} : Res α → Res α
  | .exc _ => .bad
  | r => r
def RV.out : RV → Option RV
  | .bor _ => none
  | r => some r
def runF (size : Nat) (b : MS) : G := fun avs => (b (avs.map AV.slot ++ List.replicate (size - avs.length) none)).nox.bind fun p => match p.1 with
  | .rt r => (liftO r.out).bind fun r => .ok (r, outsOf avs.length p.2)
  | .nx => .ok (.val .non, outsOf avs.length p.2)
  | _ => .bad
theorem Rel.pad {K : PySem.W.Frag} {ρ : Env} {σ : L2.St} {F H : Hp} (R : Rel K F H ρ σ) (n : Nat) : Rel K F H (ρ ++ List.replicate n none) (σ ++ List.replicate n none) ∧ (∀ j a, OwnAt (ρ ++ List.replicate n none) (σ ++ List.replicate n none) j a → OwnAt ρ σ j a) := by
  have get : ∀ (j : Nat) (s : SV), (ρ ++ List.replicate n none)[j]? = some (some s) → ρ[j]? = some (some s) ∧ j < ρ.length := fun j s h => by
    by_cases hj : j < ρ.length
    · rw [List.getElem?_append_left hj] at h
      exact ⟨h, hj⟩
    · rw [List.getElem?_append_right (by omega), List.getElem?_replicate] at h
      split at h <;> cases h
  have own : ∀ j a, OwnAt (ρ ++ List.replicate n none) (σ ++ List.replicate n none) j a → OwnAt ρ σ j a := fun j a ⟨h1, h2⟩ => by
    rcases h1 with ⟨o, e⟩ | ⟨o, e⟩
    · obtain ⟨e', n⟩ := get _ _ e
      rw [List.getElem?_append_left (by rw [← R.len]; exact n)] at h2
      exact ⟨.inl ⟨o, e'⟩, h2⟩
    · obtain ⟨e', n⟩ := get _ _ e
      rw [List.getElem?_append_left (by rw [← R.len]; exact n)] at h2
      exact ⟨.inr ⟨o, e'⟩, h2⟩
  refine ⟨⟨by simp [R.len], fun j s h => ?_, R.fh, fun j k a h1 h2 => R.inj j k a (own _ _ h1) (own _ _ h2)⟩, own⟩
  obtain ⟨e, l⟩ := get j s h
  obtain ⟨v, ev, r⟩ := R.slot j s e
  exact ⟨v, by rw [List.getElem?_append_left (by rw [← R.len]; exact l)]; exact ev, r⟩
abbrev W0 : WX := fun _ _ _ => False
section
variable {P : Program} {w : World} {K : PySem.W.Frag} {mg : Str → Option Value} {base : Heap}
theorem fn_mk {x qual : Str} {st : Stmt} {f : Addr} {fd : FuncData} {N ps : List Str} {k : Nat} {b : MS} {RX : RXT} (Fn : Fun K x qual st f fd) (S : FnScope N ps (defScope st))
    (hb : ∀ (cdv : Value) (A : Around) (outer : List PySem.Env) (s : Shared) (H : Hp) (E : XK), Room k (A.deeper (envOfC qual (defScope st) s.heap.objs.size f cdv)) → SSs (cxOf CX0 P w K mg base N qual (defScope st) f cdv A outer s H E).nox W0 (defBody st) b) :
    FnOk P w K mg base CX0 (k + 1) f fd ps (spF K RX (runF N.length b) ps.length) := by
  refine Fn.ok S (fun vs H Q E h => h.1) fun cdv A outer s H vs Q E hr ⟨hl, F, avs, R, q⟩ => ?_
  refine ⟨_, hb cdv A outer s H E hr, ?_⟩
  have hla : avs.length = vs.length := by have := R.len; simpa using this
  obtain ⟨R', own⟩ := R.pad (N.length - vs.length)
  have est : start N vs = vs.map some ++ List.replicate (N.length - vs.length) none := rfl
  rw [est]
  rw [← hla] at R' own ⊢
  refine ⟨_, F, R', ?_⟩
  have ownO' : ∀ x, Own (avs.map AV.slot ++ List.replicate (N.length - avs.length) none) (vs.map some ++ List.replicate (N.length - avs.length) none) x → Own (avs.map AV.slot) (vs.map some) x := fun x ⟨j, h⟩ => ⟨j, own j x h⟩
  unfold runF at q
  cases e : b (avs.map AV.slot ++ List.replicate (N.length - avs.length) none) with
  | bad => rw [e] at q; exact q.elim
  | exc y => rw [e] at q; exact q.elim
  | ok p =>
    rw [e] at q
    obtain ⟨fl, ρ'⟩ := p
    -- what is left of the lent
    have outs : ∀ {σ' : L2.St} {F' H' : Hp}, ES K (avs.map AV.slot ++ List.replicate (N.length - avs.length) none) (vs.map some ++ List.replicate (N.length - avs.length) none) F H ρ' σ' F' H' →
        RepOut K F' H' vs (outsOf avs.length ρ') := fun {σ' F' H'} es i o ho => by
      unfold outsOf at ho
      rw [List.getElem?_map] at ho
      cases er : (List.range avs.length)[i]? with
      | none => rw [er] at ho; cases ho
      | some k =>
        rw [er] at ho
        have hk : k = i ∧ i < avs.length := by
          have hi := (List.getElem?_eq_some_iff.mp er).1
          rw [List.getElem?_range (by simpa using hi)] at er
          cases er
          exact ⟨rfl, by simpa using hi⟩
        obtain ⟨rfl, hi⟩ := hk
        have ho : (ρ'[k]?).join.bind SV.lent = some o := Option.some.inj ho
        cases es2 : ρ'[k]? with
        | none => rw [es2] at ho; cases ho
        | some s =>
          cases s with
          | none => rw [es2] at ho; cases ho
          | some s =>
            rw [es2] at ho
            cases s with
            | val p => cases ho
            | own p => cases ho
            | par o' =>
              cases ho
              obtain ⟨v, ev, a, rfl, n, r⟩ := es.rel.slot k _ es2
              have z := (es.par k o es2).2
              rw [ev, List.getElem?_append_left (by simpa [hla] using hi), List.getElem?_map] at z
              cases ew : vs[k]? with
              | none => rw [ew] at z; cases z
              | some w =>
                rw [ew] at z
                cases z
                exact ⟨a, rfl, n, r⟩
    have ownE : ∀ {σ' : L2.St} {F' H' : Hp}, ES K (avs.map AV.slot ++ List.replicate (N.length - avs.length) none) (vs.map some ++ List.replicate (N.length - avs.length) none) F H ρ' σ' F' H' → Step (Own (avs.map AV.slot) (vs.map some)) F H F' H' := fun es => es.st.mono ownO'
    cases fl with
    | nx =>
      have q : ∀ v F' H', Step (Own (avs.map AV.slot) (vs.map some)) F H F' H' → FH F' H' → RepN K H F' H' (.val .non) v → RepOut K F' H' vs (outsOf avs.length ρ') → Q v H' := q
      exact fun σ' F' H' es => q .non F' H' (ownE es) es.rel.fh (show RepV K F' .non .non by unfold RepV; rfl) (outs es)
    | bk => exact q.elim
    | ct => exact q.elim
    | rt r =>
      cases er : r.out with
      | none =>
        have q : match ((liftO r.out).bind fun r => Res.ok (r, outsOf avs.length ρ')) with
          | .ok q => ∀ v F' H', Step (Own (avs.map AV.slot) (vs.map some)) F H F' H' → FH F' H' → RepN K H F' H' q.1 v → RepOut K F' H' vs q.2 → Q v H'
          | .exc x => ∀ cls d F' H', Step (Own (avs.map AV.slot) (vs.map some)) F H F' H' → FH F' H' → RX x cls d H' → E cls d H'
          | .bad => False := q
        rw [er] at q
        exact q.elim
      | some r' =>
        have q : match ((liftO r.out).bind fun r => Res.ok (r, outsOf avs.length ρ')) with
          | .ok q => ∀ v F' H', Step (Own (avs.map AV.slot) (vs.map some)) F H F' H' → FH F' H' → RepN K H F' H' q.1 v → RepOut K F' H' vs q.2 → Q v H'
          | .exc x => ∀ cls d F' H', Step (Own (avs.map AV.slot) (vs.map some)) F H F' H' → FH F' H' → RX x cls d H' → E cls d H'
          | .bad => False := q
        rw [er] at q
        have q3 : ∀ v F' H', Step (Own (avs.map AV.slot) (vs.map some)) F H F' H' → FH F' H' → RepN K H F' H' r' v → RepOut K F' H' vs (outsOf avs.length ρ') → Q v H' := q
        clear q
        have err : r' = r := by
          cases r with
          | val p => cases er; rfl
          | bor i => cases er
          | new o => cases er; rfl
        subst err
        refine fun v σ' F' H' es rr => q3 v F' H' (ownE es) es.rel.fh ?_ (outs es)
        cases r' with
        | val p => exact rr
        | bor i => cases er
        | new o =>
          obtain ⟨a, ea, n, fr, no, ro⟩ := rr
          refine ⟨a, ea, n, ?_, ro⟩
          rcases fr with z | ⟨i, o', h1, h2⟩
          · exact z
          · exfalso
            by_cases hj : i < (avs.map AV.slot).length
            · rw [List.getElem?_append_left hj] at h1
              exact slot_own h1
            · rw [List.getElem?_append_right (by omega), List.getElem?_replicate] at h1
              split at h1 <;> cases h1
end
end Pu

set_option Elab.async false
set_option linter.all false
set_option maxRecDepth 100000
/-! Pu9: what is walked: lists and tuples in any mix under zip and enumerate. -/
namespace Pu
open PySem PySem.Spec PyProof.Rows L2

/-! ### a source: a list (false), a tuple (true) -/
def SqA (k : Bool) (K : PySem.W.Frag) (H : Hp) (a : Addr) (xs : List V) : Prop := match k with
  | false => SqL K H a xs
  | true => SqT K H a xs
def ItAt (k : Bool) (h : Heap) (it a : Addr) (i : Nat) : Prop := match k with
  | false => h.IsListIter it a i
  | true => h.IsTupleIter it a i
def SqO (k : Bool) (h : Heap) (a : Addr) (its : Array Value) : Prop := match k with
  | false => h.IsList a its
  | true => h.IsTuple a its
def itObj (k : Bool) (a : Addr) : Obj := match k with
  | false => { cls := .type "list_iterator", data := .fields #[.ref a, .int 0 0] }
  | true => { cls := .type "tuple_iterator", data := .fields #[.ref a, .int 0 0] }
theorem srcDraws (k : Bool) {prog : Program} {w : World} {A : Around} (hh : A.handled = none) (it a : Addr) (hne : a ≠ it) (its : Array Value) :
    Draws prog w A it [it, a] its.size (fun i v => its[i]? = some v) (fun i h => ItAt k h it a i ∧ SqO k h a its) := by
  cases k
  · exact Draws.list hh it a hne its
  · exact Draws.tuple hh it a hne its
theorem srcBegins (k : Bool) (a : Addr) (its : Array Value) : Begins (.ref a) (itObj k a) fun h => SqO k h a its := by
  cases k
  · exact begins_list a its
  · exact begins_tuple a its
theorem ItAt.first (k : Bool) {h : Heap} {it a : Addr} (e : h.get? it = some (itObj k a)) : ItAt k h it a 0 := by
  cases k
  · exact ⟨_, e, rfl, rfl⟩
  · exact ⟨_, e, rfl, rfl⟩
theorem ItAt.obj {k : Bool} {h : Heap} {it a : Addr} {i : Nat} (x : ItAt k h it a i) : ∃ o, h.get? it = some o ∧ ∀ v, o.data ≠ .cell v := by
  cases k
  · obtain ⟨o, e, _, d⟩ := x
    exact ⟨o, e, fun v z => by rw [d] at z; cases z⟩
  · obtain ⟨o, e, _, d⟩ := x
    exact ⟨o, e, fun v z => by rw [d] at z; cases z⟩
theorem ItAt.at {k : Bool} {h h' : Heap} {it a : Addr} {i : Nat} (x : ItAt k h it a i) (f : ∀ o, h.get? it = some o → h'.get? it = some o) : ItAt k h' it a i := by
  cases k
  · exact Heap.IsListIter.at x f
  · exact Heap.IsTupleIter.at x f
section
variable {X : Cx} {pins : List (Addr × Obj)} {σ : L2.St} {H : Hp} {s : Shared} {a : Addr} {xs ys : List V} {k : Bool}
theorem Inv.src (I : Inv X pins σ H s) (h : SqA k X.K H a xs) : ∃ its : List Value, Vals xs its ∧ SqO k s.heap a its.toArray ∧ a < s.heap.objs.size := by
  cases k
  · obtain ⟨its, rv, p, _⟩ := I.list h
    exact ⟨its, rv, p.isList, p.lt⟩
  · obtain ⟨its, rv, p, _⟩ := I.tuple h
    obtain ⟨o, ho, _⟩ := id p
    exact ⟨its, rv, p, Heap.lt_size ho⟩
theorem Inv.src_inj (I : Inv X pins σ H s) (h : SqA k X.K H a xs) (h' : SqA k X.K H a ys) : xs = ys := by
  cases k
  · exact I.list_inj h h'
  · exact I.tuple_inj h h'
end
/-- the sources at a and b as they stand at each turn, the items in new pairs -/
def Itz2 (k1 k2 : Bool) (K : PySem.W.Frag) (a b : Addr) : It :=
  ⟨fun i H => ∃ (xs ys : List V) (x y : V), SqA k1 K H a xs ∧ SqA k2 K H b ys ∧ xs[i]? = some x ∧ ys[i]? = some y,
    fun i H v H' => ∃ T x y, v = .ref T ∧ H T = none ∧ H' = upd H T (.tup [x, y]) ∧ (∀ xs, SqA k1 K H a xs → xs[i]? = some x) ∧ ∀ ys, SqA k2 K H b ys → ys[i]? = some y,
    fun i H => ∃ xs ys : List V, SqA k1 K H a xs ∧ SqA k2 K H b ys ∧ i ≤ xs.length ∧ i ≤ ys.length ∧ (i = xs.length ∨ i = ys.length)⟩
theorem turn_zip2 {P : Program} {w : World} {K : PySem.W.Frag} {elts : List Expr} {kk : Nat} {tpos : Pos} {k1 k2 : Bool} {a b z TI TO i1 i2 : Addr} (D : ZipSep2 z TI TO i1 i2 [i1, a] [i2, b]) (na : a ≠ i1) (nb : b ≠ i2) :
    Turn P w K (.Tuple elts kk tpos) (Itz2 k1 k2 K a b) [z, TI, TO, i1, i2] z (fun i h => IsZip h z TI TO .none ∧ IsTupOf2 h TI (.ref i1) (.ref i2) ∧ (∃ x y, IsTupOf2 h TO x y) ∧ ItAt k1 h i1 a i ∧ ItAt k2 h i2 b i) where
  mem := by simp
  obj := fun i h st c hc => by
    obtain ⟨hz, hTI, ⟨x, y, hTO⟩, h1, h2⟩ := st
    have e' : c = z ∨ c = TI ∨ c = TO ∨ c = i1 ∨ c = i2 := by simpa using hc
    rcases e' with q | q | q | q | q
    · rw [q]; exact ⟨_, hz, fun v q => nomatch q⟩
    · rw [q]; exact ⟨_, hTI, fun v q => nomatch q⟩
    · rw [q]; exact ⟨_, hTO, fun v q => nomatch q⟩
    · rw [q]; exact h1.obj
    · rw [q]; exact h2.obj
  keep := fun i h h' st k => by
    obtain ⟨hz, hTI, ⟨x, y, hTO⟩, h1, h2⟩ := st
    exact ⟨k z (by simp) _ hz, k TI (by simp) _ hTI, ⟨x, y, k TO (by simp) _ hTO⟩, h1.at fun o q => k i1 (by simp) o q, h2.at fun o q => k i2 (by simp) o q⟩
  item := by
    intro X hP hw hK hc i pins s σ H E I hf st hg
    subst hP hw hK
    obtain ⟨hz, hTI, ⟨x0, y0, hTO⟩, h1, h2⟩ := st
    obtain ⟨xs, ys, x, y, hqx, hqy, hx, hy⟩ := hg
    obtain ⟨its, rv, p, la⟩ := Inv.src I hqx
    obtain ⟨its2, rv2, p2, lb⟩ := Inv.src I hqy
    obtain ⟨u, hu, ru⟩ := rv.get hx
    obtain ⟨u2, hu2, ru2⟩ := rv2.get hy
    have hzl : z < s.heap.objs.size := Heap.lt_size hz
    have hh : X.A.in1.handled = none := I.ok.hd hc
    have hu' : i < its.toArray.size := by
      have := (List.getElem?_eq_some_iff.mp hu).1
      simpa using this
    have hu2' : i < its2.toArray.size := by
      have := (List.getElem?_eq_some_iff.mp hu2).1
      simpa using this
    refine wpAny_pyNext_zipD2_item D (srcDraws k1 hh i1 a na its.toArray) (srcDraws k2 hh i2 b nb its2.toArray) hz hTI hTO ⟨h1, p⟩ ⟨h2, p2⟩ hu' hu2' fun x1 x2 h' tk e1 e2 z' TO' h1' h2' hT hsz hk => ?_
    have e1 : x1 = u := by
      have e1 : its.toArray[i]? = some x1 := e1
      rw [List.getElem?_toArray, hu] at e1
      exact (Option.some.inj e1).symm
    have e2 : x2 = u2 := by
      have e2 : its2.toArray[i]? = some x2 := e2
      rw [List.getElem?_toArray, hu2] at e2
      exact (Option.some.inj e2).symm
    subst e1 e2
    refine ⟨_, rfl, wpAny_letOwnedTupleGo_zip (s := { s with heap := h', toks := tk }) z' fun h'' z'' sb => ?_⟩
    have hT2 : h''.get? s.heap.objs.size = some { cls := .type "tuple", data := .seq #[x1, x2] } := (sb.2 _ (Nat.ne_of_gt hzl)).trans hT
    have new : ObjOk X.prog X.w (upd H s.heap.objs.size (.tup [x, y])) h'' s.heap.objs.size (.tup [x, y]) :=
      ⟨by show 2 ≤ sizeLine; decide, [x1, x2], .cons ru (.cons ru2 .nil), ⟨_, hT2, rfl, _, rfl⟩⟩
    have I1 : Inv X pins σ (upd H s.heap.objs.size (.tup [x, y])) { s with heap := h'', toks := tk } :=
      I.turnedNew (ch := [z, TI, TO, i1, i2]) (fun c o hb q => (sb.2 c (fun q' => hb (by simp [q']))).trans (hk c o (fun q' => hb (by simp [q'])) (fun q' => hb (by simp [q'])) (fun q' => hb (by simp [q'])) (fun q' => hb (by simp [q'])) q)) hf (Nat.le_refl _) new
    refine ⟨.ref s.heap.objs.size, _, I1, rfl, ⟨_, x, y, rfl, I.hok.fresh (Nat.le_refl _), rfl, fun l hl => by rw [Inv.src_inj I hl hqx]; exact hx, fun l hl => by rw [Inv.src_inj I hl hqy]; exact hy⟩, ⟨z'', ?_, ⟨x1, x2, ?_⟩, ?_, ?_⟩, fun c hcm => ?_⟩
    · exact (sb.2 _ D.TIz).trans (hk _ _ D.TIz D.TITO D.TIi1 D.TIi2 hTI)
    · exact (sb.2 _ D.TOz).trans TO'
    · exact h1'.1.at fun o q => (sb.2 _ (Ne.symm D.zi1)).trans q
    · exact h2'.1.at fun o q => (sb.2 _ (Ne.symm D.zi2)).trans q
    · have hlt : c < s.heap.objs.size := by
        have e' : c = z ∨ c = TI ∨ c = TO ∨ c = i1 ∨ c = i2 := by simpa using hcm
        rcases e' with q | q | q | q | q
        · rw [q]; exact hzl
        · rw [q]; exact Heap.lt_size hTI
        · rw [q]; exact Heap.lt_size hTO
        · rw [q]; obtain ⟨_, e1, _⟩ := h1.obj; exact Heap.lt_size e1
        · rw [q]; obtain ⟨_, e2, _⟩ := h2.obj; exact Heap.lt_size e2
      rw [upd_ne (Nat.ne_of_lt hlt)]
      exact (hf c hcm).1
  done := by
    intro X hP hw hK hc i pins s σ H E I hf st hg
    subst hP hw hK
    obtain ⟨hz, hTI, ⟨x0, y0, hTO⟩, h1, h2⟩ := st
    obtain ⟨xs, ys, hqx, hqy, l1, l2, hend⟩ := hg
    obtain ⟨its, rv, p, la⟩ := Inv.src I hqx
    obtain ⟨its2, rv2, p2, lb⟩ := Inv.src I hqy
    have hh : X.A.in1.handled = none := I.ok.hd hc
    have q1 := rv.length
    have q2 := rv2.length
    exact wpAny_pyNext_zipD2_end D (srcDraws k1 hh i1 a na its.toArray) (srcDraws k2 hh i2 b nb its2.toArray) hz hTI hTO ⟨h1, p⟩ ⟨h2, p2⟩ (by simp; omega) (by simp; omega) (by simp; omega) fun h' tk hk => ⟨rfl, I.turnedL (ch := [z, TI, TO, i1, i2]) (fun c o hb q =>
      hk c o (fun q' => hb (by simp [q'])) (fun q' => hb (by simp [q'])) (fun q' => hb (by simp [q'])) (fun q' => hb (by simp [q'])) q) hf⟩
  self := fun A i s Q E st h => wpAny_pyIter_zip st.1 h

/-- zip of two sources -/
def iZip2 (K : PySem.W.Frag) (ta : TA) : TI := fun σ H R => ta σ H fun vs H1 => ∃ (k1 k2 : Bool) (a b : Addr) (xs ys : List V), vs = [.ref a, .ref b] ∧ SqA k1 K H1 a xs ∧ SqA k2 K H1 b ys ∧ R (Itz2 k1 k2 K a b) H1
theorem pi_zip2 {X : Cx} {e e2 : Expr} {ta : TA} {p pos tpos : Pos} {elts : List Expr} {kk : Nat} (hg : Gl X "zip") (hm : X.mg "zip" = none) (ha : PA X [e, e2] ta)
    (hs : starEach [e, e2] X.env = (false, eval e X.env) :: starEach [e2] X.env := by rfl) (hpl : (backTo pos (starEach [e2] X.env)).any (·.1) = false := by rfl) :
    PI X (.Tuple elts kk tpos) (.Call (.Name "zip" p) [e, e2] [] pos) (iZip2 X.K ta) := by
  refine ⟨fun pins s σ H R I h => ?_⟩
  refine Call_ (ld_blt I hg hm PyProof.Rows.boot_zip (PyProof.Rows.callWith_type1 (thn (ha.run pos pins s σ H _ I h) fun us s1 ⟨vs, H1, I1, r1, q1⟩ => ?_) hs hpl))
  obtain ⟨k1, k2, a, b, xs, ys, ex, hqx, hqy, q⟩ := q1
  subst ex
  cases r1 with
  | cons r rr =>
    cases rr with
    | cons r' rr =>
      cases rr
      cases r
      cases r'
      obtain ⟨its, rv, p1, la⟩ := Inv.src I1 hqx
      obtain ⟨its2, rv2, p2, lb⟩ := Inv.src I1 hqy
      refine zip_begins2 (srcBegins k1 a its.toArray) (srcBegins k2 b its2.toArray) p1 p2 fun h' hz hTI hTO h1 h2 hsz hk => wpAny_pyIter_zip hz ?_
      have I2 : Inv X pins σ H1 { s1 with heap := h' } := I1.kept (t' := s1.toks) hk
      have na : a ≠ s1.heap.objs.size := Nat.ne_of_lt la
      have nb : b ≠ s1.heap.objs.size + 1 := Nat.ne_of_lt (Nat.lt_succ_of_lt lb)
      have sep : ZipSep2 (s1.heap.objs.size + 4) (s1.heap.objs.size + 2) (s1.heap.objs.size + 3) s1.heap.objs.size (s1.heap.objs.size + 1) [s1.heap.objs.size, a] [s1.heap.objs.size + 1, b] :=
        zip_sep2 (fun c hc => by have e : c = a := by simpa using hc
                                 rw [e]; exact la) (fun c hc => by have e : c = b := by simpa using hc
                                                                   rw [e]; exact lb)
      refine ⟨s1.heap.objs.size + 4, [s1.heap.objs.size + 4, s1.heap.objs.size + 2, s1.heap.objs.size + 3, s1.heap.objs.size, s1.heap.objs.size + 1], _, _, H1, rfl, I2, turn_zip2 sep na nb, ⟨hz, hTI, ⟨_, _, hTO⟩, .first k1 h1, .first k2 h2⟩, fun c hcm => ?_, q⟩
      have e' : c = s1.heap.objs.size + 4 ∨ c = s1.heap.objs.size + 2 ∨ c = s1.heap.objs.size + 3 ∨ c = s1.heap.objs.size ∨ c = s1.heap.objs.size + 1 := by simpa using hcm
      have hle : s1.heap.objs.size ≤ c := by
        rcases e' with z | z | z | z | z
        · rw [z]; exact Nat.le_add_right _ _
        · rw [z]; exact Nat.le_add_right _ _
        · rw [z]; exact Nat.le_add_right _ _
        · rw [z]; exact Nat.le_refl _
        · rw [z]; exact Nat.le_add_right _ _
      exact I1.fpOk hle (I1.hok.fresh hle)

/-! ### enumerate of a source -/
set_option maxHeartbeats 1000000 in
theorem meets_enumerate_newB1 {v : Value} {o : Obj} {H : Heap → Prop} (B : Begins v o H) :
    Meets (Builtin.«enumerate.__new__» ⟨[.type "enumerate", v], []⟩) (fun _ R s => H s.heap ∧
      R (.ok (.ret (.ref (s.heap.push o).objs.size))) { s with heap := (s.heap.push o).push { cls := .type "enumerate", data := .fields #[.none, .bool false, .ref s.heap.objs.size, rawInt 0, .none, .none] } }) :=
  .of_wp fun prog w A R s h => by
    obtain ⟨hp, g, d, tk, os⟩ := s; obtain ⟨h1, h⟩ := h
    have hsub := sub_enumerate
    have q1 : ∀ {A' : Around} {E : Value → Shared → Prop} {Q : Value → Shared → Prop}, Q (.ref hp.objs.size) ⟨hp.push o, g, d, tk, os⟩ → wpAny (model prog w) A' (pyIter v) Q E ⟨hp, g, d, tk, os⟩ :=
      fun q => B.iter prog w _ _ ⟨hp, g, d, tk, os⟩ _ h1 q
    wp_walk using q1
    refine wpAny_stack_any fun st => wpAny_pure ?_
    split
    · rename_i c _ _ _ _ _
      cases (c == Value.type "enumerate")
      · wp_walk using q1
        exact ⟨_, rfl, h⟩
      · wp_walk using q1
        exact ⟨_, rfl, h⟩
    · wp_walk using q1
      exact ⟨_, rfl, h⟩
theorem enum_begins1 {prog : Program} {w : World} {A : Around} {E : Value → Shared → Prop} {s : Shared} {v : Value} {o : Obj} {H : Heap → Prop} {Q : Value → Shared → Prop} (B : Begins v o H) (h1 : H s.heap)
    (h : ∀ h', IsEnum h' (s.heap.objs.size + 1) s.heap.objs.size 0 .none → h'.get? s.heap.objs.size = some o → h'.objs.size = s.heap.objs.size + 2 →
      (∀ b o, s.heap.get? b = some o → h'.get? b = some o) → Q (.ref (s.heap.objs.size + 1)) { s with heap := h' }) :
    wpAny (model prog w) A (call (.type "enumerate") [v]) Q E s := by
  refine callType_new F.called_enumerate (by decide) (F.typeCall_enumerate_1 _) (F.newCall_enumerate_1 _) (fun obj => F.args_object_init_2 obj _) F.entry_enumerate_new
    (meets_enumerate_newB1 B) ⟨h1, ?_⟩
  have hz : (s.heap.push o).objs.size = s.heap.objs.size + 1 := Heap.size_push ..
  show _ ∧ _
  rw [hz]
  have he : IsEnum ((s.heap.push o).push { cls := .type "enumerate", data := .fields #[.none, .bool false, .ref s.heap.objs.size, rawInt 0, .none, .none] }) (s.heap.objs.size + 1) s.heap.objs.size 0 .none := by
    have := Heap.get?_push_size (s.heap.push o) (o := { cls := .type "enumerate", data := .fields #[.none, .bool false, .ref s.heap.objs.size, rawInt 0, .none, .none] }) rfl
    rw [hz] at this; exact this
  refine ⟨⟨_, he, rfl⟩, h _ he (Heap.get?_push_of_some _ (Heap.get?_push_size _ B.free)) (by rw [Heap.size_push, hz]) fun b o x => Heap.get?_push_of_some _ (Heap.get?_push_of_some _ x)⟩
def IteA (k : Bool) (K : PySem.W.Frag) (a : Addr) : It :=
  ⟨fun i H => ∃ (xs : List V) (x : V), SqA k K H a xs ∧ xs[i]? = some x, fun i H v H' => ∃ T x, v = .ref T ∧ H T = none ∧ H' = upd H T (.tup [.int (i : Nat), x]) ∧ ∀ xs, SqA k K H a xs → xs[i]? = some x, fun i H => ∃ xs : List V, SqA k K H a xs ∧ xs.length = i⟩
theorem turn_enumA {P : Program} {w : World} {K : PySem.W.Frag} {elts : List Expr} {kk : Nat} {tpos : Pos} {k : Bool} (a e it : Addr) (na : a ≠ it) (ea : e ≠ a) :
    Turn P w K (.Tuple elts kk tpos) (IteA k K a) [e, it] e (fun i h => (∃ old, IsEnum h e it ((i : Nat) : Int) old) ∧ ItAt k h it a i ∧ e ≠ it) where
  mem := by simp
  obj := fun i h st b hb => by
    obtain ⟨⟨old, he⟩, hi, _⟩ := st
    have e' : b = e ∨ b = it := by simpa using hb
    rcases e' with z | z
    · rw [z]; exact ⟨_, he, fun v q => nomatch q⟩
    · rw [z]; exact hi.obj
  keep := fun i h h' st k => let ⟨⟨old, he⟩, hi, hne⟩ := st; ⟨⟨old, k e (by simp) _ he⟩, hi.at fun o q => k it (by simp) o q, hne⟩
  item := by
    intro X hP hw hK hc i pins s σ H E I hf st hg
    subst hP hw hK
    obtain ⟨⟨old, he⟩, hit, hne⟩ := st
    obtain ⟨xs, x, hq, hx⟩ := hg
    obtain ⟨its, rv, p, la⟩ := Inv.src I hq
    obtain ⟨u, hu, ru⟩ := rv.get hx
    have hh : X.A.in1.handled = none := I.ok.hd hc
    have hel : e < s.heap.objs.size := Heap.lt_size he
    have hil : it < s.heap.objs.size := by obtain ⟨_, q, _⟩ := hit.obj; exact Heap.lt_size q
    have hu' : i < its.toArray.size := by
      have := (List.getElem?_eq_some_iff.mp hu).1
      simpa using this
    refine wpAny_pyNext_enum_itemD (srcDraws k hh it a na its.toArray) he ⟨hit, p⟩ hu' hne (by simp [hne, ea]) fun x1 h' tk e1 ho hit' hT hsz hk => ?_
    have e1 : x1 = u := by
      have e1 : its.toArray[i]? = some x1 := e1
      rw [List.getElem?_toArray, hu] at e1
      exact (Option.some.inj e1).symm
    subst e1
    refine ⟨_, rfl, wpAny_letOwnedTupleGo_enum (s := { s with heap := h', toks := tk + 1 }) ho fun h'' he' sb => ?_⟩
    have hT2 : h''.get? s.heap.objs.size = some { cls := .type "tuple", data := .seq #[.int i tk, x1] } := (sb.2 _ (Nat.ne_of_gt hel)).trans hT
    have new : ObjOk X.prog X.w (upd H s.heap.objs.size (.tup [.int (i : Nat), x])) h'' s.heap.objs.size (.tup [.int (i : Nat), x]) :=
      ⟨by show 2 ≤ sizeLine; decide, [.int i tk, x1], .cons ⟨_, rfl⟩ (.cons ru .nil), ⟨_, hT2, rfl, _, rfl⟩⟩
    have I1 : Inv X pins σ (upd H s.heap.objs.size (.tup [.int (i : Nat), x])) { s with heap := h'', toks := tk + 1 } :=
      I.turnedNew (ch := [e, it]) (fun b ob hb q => (sb.2 b (fun z => hb (by simp [z]))).trans (hk b ob (fun z => hb (by simp [z])) (fun z => hb (by simp [z])) q)) hf (Nat.le_refl _) new
    refine ⟨.ref s.heap.objs.size, _, I1, rfl, ⟨_, x, rfl, I.hok.fresh (Nat.le_refl _), rfl, fun ys hy => by rw [Inv.src_inj I hy hq]; exact hx⟩, ⟨⟨x1, ?_⟩, hit'.1.at fun o q => (sb.2 it (Ne.symm hne)).trans q, hne⟩, fun b hb => ?_⟩
    · have e1 : ((i + 1 : Nat) : Int) = (i : Int) + 1 := by omega
      rw [e1]; exact he'
    · have hb' : b < s.heap.objs.size := by
        have e' : b = e ∨ b = it := by simpa using hb
        rcases e' with z | z
        · rw [z]; exact hel
        · rw [z]; exact hil
      rw [upd_ne (Nat.ne_of_lt hb')]
      exact (hf b hb).1
  done := by
    intro X hP hw hK hc i pins s σ H E I hf st hg
    subst hP hw hK
    obtain ⟨⟨old, he⟩, hit, hne⟩ := st
    obtain ⟨xs, hq, hx⟩ := hg
    obtain ⟨its, rv, p, la⟩ := Inv.src I hq
    have hh : X.A.in1.handled = none := I.ok.hd hc
    obtain ⟨f0, f1, f2, f3, f4, f5⟩ := hf it (by simp)
    have hl := rv.length
    have es : its.toArray.size = i := by simp; omega
    exact wpAny_pyNext_enum_endD (srcDraws k hh it a na its.toArray) he (by rw [es]; exact ⟨hit, p⟩) fun h' eb => ⟨rfl, I.turned (t' := s.toks) (fun b o hb q => eb b o hb q) f0 f1 f3 f4 f5⟩
  self := fun A i s Q E st h => let ⟨⟨_, he⟩, _⟩ := st; wpAny_pyIter_enum he h
def iEnumA (K : PySem.W.Frag) (ta : TA) : TI := fun σ H R => ta σ H fun vs H1 => ∃ (k : Bool) (a : Addr) (xs : List V), vs = [.ref a] ∧ SqA k K H1 a xs ∧ R (IteA k K a) H1
theorem pi_enumA {X : Cx} {e : Expr} {ta : TA} {p pos tpos : Pos} {elts : List Expr} {kk : Nat} (hg : Gl X "enumerate") (hm : X.mg "enumerate" = none) (ha : PA X [e] ta) (hs : starEach [e] X.env = [(false, eval e X.env)] := by rfl) :
    PI X (.Tuple elts kk tpos) (.Call (.Name "enumerate" p) [e] [] pos) (iEnumA X.K ta) := by
  refine ⟨fun pins s σ H R I h => ?_⟩
  refine Call_ (ld_blt I hg hm boot_enumerate (PyProof.Rows.callWith_type1 (thn (ha.run pos pins s σ H _ I h) fun us s1 ⟨vs, H1, I1, r1, q1⟩ => ?_) hs rfl))
  obtain ⟨k, a, xs, ex, hq, q⟩ := q1
  subst ex
  cases r1 with
  | cons r rr =>
    cases rr
    cases r
    obtain ⟨its, rv, p', la⟩ := Inv.src I1 hq
    refine enum_begins1 (srcBegins k a its.toArray) p' fun h' he hit hsz hk => wpAny_pyIter_enum he ?_
    have I2 : Inv X pins σ H1 { s1 with heap := h' } := I1.kept (t' := s1.toks) hk
    have na : a ≠ s1.heap.objs.size := Nat.ne_of_lt la
    have ea : s1.heap.objs.size + 1 ≠ a := fun z => Nat.ne_of_lt (Nat.lt_succ_of_lt la) z.symm
    refine ⟨s1.heap.objs.size + 1, [s1.heap.objs.size + 1, s1.heap.objs.size], _, _, H1, rfl, I2, turn_enumA a (s1.heap.objs.size + 1) s1.heap.objs.size na ea, ⟨⟨.none, he⟩, .first k hit, Nat.succ_ne_self _⟩, fun b hb => ?_, q⟩
    have e' : b = s1.heap.objs.size + 1 ∨ b = s1.heap.objs.size := by simpa using hb
    have hle : s1.heap.objs.size ≤ b := by
      rcases e' with z | z
      · rw [z]; exact Nat.le_add_right _ _
      · rw [z]; exact Nat.le_refl _
    exact I1.fpOk hle (I1.hok.fresh hle)
/-! ### a list, a tuple, a text walked -/
def ItA (k : Bool) (K : PySem.W.Frag) (a : Addr) : It := match k with
  | false => Itl K a
  | true => Itt K a
def iSrc (K : PySem.W.Frag) (tl : TE) : TI := fun σ H R => tl σ H fun x H1 => (∃ (k : Bool) (a : Addr), x = .ref a ∧ (∃ xs, SqA k K H1 a xs) ∧ R (ItA k K a) H1) ∨ ∃ x', x = .str x' ∧ R (Its x') H1
theorem pi_src {X : Cx} {tg l : Expr} {tl : TE} (hl : PE X l tl) : PI X tg l (iSrc X.K tl) := by
  refine ⟨fun pins s σ H R I h => ?_⟩
  refine thn (hl.run pins s σ H _ I h) fun v s1 ⟨x, H1, I1, r1, q1⟩ => ?_
  rcases q1 with ⟨k, a, e, ⟨xs, hq⟩, q⟩ | ⟨x', ex, q⟩
  · subst e
    cases r1
    have fin : ∀ (o : Obj), FpOk X pins H1 s1.heap.objs.size := fun o => I1.fpOk (Nat.le_refl _) (I1.hok.fresh (Nat.le_refl _))
    cases k
    · obtain ⟨its, rv, p, hz⟩ := I1.list hq
      refine wpAny_pyIter_list p.isList ?_
      refine ⟨s1.heap.objs.size, [s1.heap.objs.size], _, _, H1, rfl, I1.kept (t' := s1.toks) fun b o e => Heap.get?_push_of_some _ e, turn_list a _, ⟨_, Heap.get?_push_size _ rfl, rfl, rfl⟩, fun b hb => ?_, q⟩
      have e : b = s1.heap.objs.size := by simpa using hb
      subst e
      exact fin default
    · obtain ⟨its, rv, p, hz⟩ := I1.tuple hq
      refine wpAny_pyIter_tuple (show s1.heap.IsTuple a its.toArray from p) ?_
      refine ⟨s1.heap.objs.size, [s1.heap.objs.size], _, _, H1, rfl, I1.kept (t' := s1.toks) fun b o e => Heap.get?_push_of_some _ e, turn_tuple a _, ⟨_, Heap.get?_push_size _ rfl, rfl, rfl⟩, fun b hb => ?_, q⟩
      have e : b = s1.heap.objs.size := by simpa using hb
      subst e
      exact fin default
  · subst ex
    obtain ⟨t, rfl⟩ := r1
    cases ha : x'.cps.all (· < 128)
    · exact wpAny_pyIter_wide ha (pi_one (tk := s1.toks) I1 _ (turn_str _ x' t "str_iterator" (.inr rfl)) ⟨_, Heap.get?_push_size _ rfl, rfl, rfl⟩ q)
    · exact wpAny_pyIter_ascii ha (pi_one (tk := s1.toks) I1 _ (turn_str _ x' t "str_ascii_iterator" (.inl rfl)) ⟨_, Heap.get?_push_size _ rfl, rfl, rfl⟩ q)
end Pu

set_option Elab.async false
set_option linter.all false
set_option maxRecDepth 100000
/-! Pu10: walks by their items; for; comprehensions. -/
namespace Pu
open PySem PySem.Spec PyProof.Rows L2

structure ItOk (K : PySem.W.Frag) (F : Hp) (items : List PV) (J : It) : Prop where
  go : ∀ (i : Nat) (H F' : Hp), Same F F' → FH F' H → i < items.length → J.go i H
  yld : ∀ (i : Nat) (H F' : Hp) (x : V) (H' : Hp) (p : PV), Same F F' → FH F' H → items[i]? = some p → J.yld i H x H' → ∃ F2, Grow F' H F2 H' ∧ RepV K F2 p x
  stop : ∀ (H F' : Hp), Same F F' → FH F' H → J.stop items.length H
abbrev MI := Env → Res (List PV × Env)
def tMI (K : PySem.W.Frag) (W : WX) (m : MI) : TI := fun σ H R => ∃ ρ F, Rel K F H ρ σ ∧ Ok W ρ σ F H (m ρ) fun p =>
  ∀ J F' H', ES K ρ σ F H p.2 σ F' H' → ItOk K F' p.1 J → R J H'
def SI (X : Cx) (W : WX) (tg iter : Expr) (m : MI) : Prop := PI X tg iter (tMI X.K W m)
theorem PI.imp {X : Cx} {tg e : Expr} {t t' : TI} (h : PI X tg e t) (i : ∀ σ H R, t' σ H R → t σ H R) : PI X tg e t' := ⟨fun pins s σ H R I q => h.run pins s σ H R I (i _ _ _ q)⟩
/-- the items of a list, a tuple, a text -/
def seqOf : PV → Option (List PV)
  | .lst xs => some xs
  | .tup xs => some xs
  | _ => none
def itemsOf : PV → Option (List PV)
  | .lst xs => some xs
  | .tup xs => some xs
  | .str x => some (x.cps.toList.map fun c => .str ⟨#[c]⟩)
  | _ => none
theorem seq_rep {K : PySem.W.Frag} {F : Hp} {p : PV} {v : V} {xs : List PV} (h : RepV K F p v) (e : seqOf p = some xs) :
    ∃ (k : Bool) (a : Addr) (vs : List V), v = .ref a ∧ RepVs K F xs vs ∧ ∀ (F' H : Hp), Same F F' → FH F' H → SqA k K H a vs := by
  cases p with
  | lst ys =>
    cases e
    unfold RepV at h
    obtain ⟨a, vs, rfl, s, r⟩ := h
    exact ⟨false, a, vs, rfl, r, fun F' H f fh => sqL_fh fh (.inl (.inl (f _ _ s)))⟩
  | tup ys =>
    cases e
    unfold RepV at h
    obtain ⟨a, vs, rfl, s, r⟩ := h
    exact ⟨true, a, vs, rfl, r, fun F' H f fh => .of (fh.tup (f _ _ s))⟩
  | _ => cases e
theorem itOk_A {K : PySem.W.Frag} {F : Hp} {k : Bool} {a : Addr} {xs : List PV} {vs : List V} (r : RepVs K F xs vs) (s : ∀ (F' H : Hp), Same F F' → FH F' H → SqA k K H a vs) : ItOk K F xs (ItA k K a) where
  go := fun i H F' f fh hi => by
    have q := s F' H f fh
    have hl := r.length
    cases k
    · exact ⟨vs, vs[i], q, List.getElem?_eq_getElem (by omega)⟩
    · exact ⟨vs, vs[i], q, List.getElem?_eq_getElem (by omega)⟩
  yld := fun i H F' x H' p f fh e y => by
    have q := s F' H f fh
    obtain ⟨v, ev, rv⟩ := r.get e
    have z : H' = H ∧ vs[i]? = some x := by
      cases k
      · exact ⟨y.1, y.2 vs q⟩
      · exact ⟨y.1, y.2 vs q⟩
    obtain ⟨rfl, z⟩ := z
    rw [ev] at z
    cases z
    exact ⟨F', Grow.refl fh, rv.mono f⟩
  stop := fun H F' f fh => by
    have q := s F' H f fh
    have hl := r.length
    cases k
    · exact ⟨vs, q, by omega⟩
    · exact ⟨vs, q, by omega⟩
theorem itOk_str {K : PySem.W.Frag} {F : Hp} {x : Str} : ItOk K F (x.cps.toList.map fun c => PV.str ⟨#[c]⟩) (Its x) where
  go := fun i H F' f fh hi => by
    show i < x.cps.size
    simpa using hi
  yld := fun i H F' v H' p f fh e y => by
    obtain ⟨rfl, c, hc, rfl⟩ := y
    refine ⟨F', Grow.refl fh, ?_⟩
    rw [List.getElem?_map, Array.getElem?_toList, hc] at e
    cases e
    unfold RepV
    rfl
  stop := fun H F' f fh => by
    show x.cps.size ≤ _
    simp
def mSrc (m : M) : MI := fun ρ => (mOp m ρ).bind fun p => (liftO p.1.val?).bind fun v => (liftO (itemsOf v)).bind fun xs => .ok (xs, p.2)
def rangeOf (lo hi : Int) : List PV := (List.range (hi - lo).toNat).map fun i => .int (lo + (i : Nat))
def b62 (i : Int) : Bool := decide (-(2 ^ 62) ≤ i) && decide (i < 2 ^ 62)
def rng1 : List PV → Option (List PV)
  | [.int j] => if b62 j then some (rangeOf 0 j) else none
  | _ => none
def rng2 : List PV → Option (List PV)
  | [.int i, .int j] => if b62 i && b62 j then some (rangeOf i j) else none
  | _ => none
def mRng (f : List PV → Option (List PV)) (ma : MA) : MI := fun ρ => (ma ρ).bind fun p => (liftO (vals? p.1)).bind fun as => (liftO (f as)).bind fun xs => .ok (xs, p.2)
def zipOf : List PV → Option (List PV)
  | [a, b] => (seqOf a).bind fun xs => (seqOf b).map fun ys => (xs.zip ys).map fun p => .tup [p.1, p.2]
  | _ => none
def enumOf : List PV → Option (List PV)
  | [a] => (seqOf a).map fun xs => xs.mapIdx fun i x => .tup [.int (i : Nat), x]
  | _ => none
def revOf : List PV → Option (List PV)
  | [a] => (seqOf a).map fun xs => xs.reverse
  | _ => none
theorem itOk_r {K : PySem.W.Frag} {F : Hp} {lo hi : Int} : ItOk K F (rangeOf lo hi) (Itr lo (hi - lo).toNat) where
  go := fun i H F' f fh hi => by
    show i < _
    simpa [rangeOf] using hi
  yld := fun i H F' v H' p f fh e y => by
    obtain ⟨rfl, rfl⟩ := y
    refine ⟨F', Grow.refl fh, ?_⟩
    unfold rangeOf at e
    rw [List.getElem?_map] at e
    cases er : (List.range (hi - lo).toNat)[i]? with
    | none => rw [er] at e; cases e
    | some k =>
      rw [er] at e
      have hi := (List.getElem?_eq_some_iff.mp er).1
      rw [List.getElem?_range (by simpa using hi)] at er
      cases er
      cases e
      unfold RepV
      rfl
  stop := fun H F' f fh => by
    show _ ≤ _
    simp [rangeOf]
section
variable {X : Cx} {W : WX} {tg e e2 : Expr} {es : List Expr} {m : M} {ma : MA} {p pos tpos : Pos} {elts : List Expr} {kk : Nat}
theorem SI.src (h : SE X W e m) : SI X W tg e (mSrc m) :=
  PI.imp (pi_src h) fun σ H Q ⟨ρ, F, R, q⟩ => by
    refine tM_op R q fun r ρ1 x F1 H1 es1 q1 h1 => ?_
    obtain ⟨v, ev, h2⟩ := h1.lift
    obtain ⟨xs, ex, h3⟩ := h2.lift
    have h3 : ∀ J F' H', ES X.K ρ σ F H ρ1 σ F' H' → ItOk X.K F' xs J → Q J H' := h3
    have ev : r = .val v := val?_inv ev
    subst ev
    have q1 : RepV X.K F1 v x := q1
    cases es : seqOf v with
    | some ys =>
      have : ys = xs := by
        cases v with
        | lst _ => cases es; cases ex; rfl
        | tup _ => cases es; cases ex; rfl
        | _ => cases es
      subst this
      obtain ⟨k, a, vs, rfl, r, s⟩ := seq_rep q1 es
      exact .inl ⟨k, a, rfl, ⟨vs, s F1 H1 (Same.refl _) es1.rel.fh⟩, h3 _ F1 H1 es1 (itOk_A r s)⟩
    | none =>
      cases v with
      | str x' =>
        cases ex
        unfold RepV at q1
        subst q1
        exact .inr ⟨x', rfl, h3 _ F1 H1 es1 itOk_str⟩
      | lst _ => cases es
      | tup _ => cases es
      | _ => cases ex
theorem mRng_inv {K : PySem.W.Frag} {σ : L2.St} {H : Hp} {f : List PV → Option (List PV)} {Q : It → Hp → Prop} (h : tMI K W (mRng f ma) σ H Q) :
    tMA K W ma σ H fun vs H1 => ∃ F1 as xs, FH F1 H1 ∧ RepVs K F1 as vs ∧ f as = some xs ∧ ∀ J, ItOk K F1 xs J → Q J H1 := by
  obtain ⟨ρ, F, R, q⟩ := h
  refine ⟨ρ, F, R, q.of_bind.mono fun p hp vs F1 H1 es1 qs => ?_⟩
  obtain ⟨as, ea, h2⟩ := hp.lift
  obtain ⟨xs, ex, h3⟩ := h2.lift
  exact ⟨F1, as, xs, es1.rel.fh, qs.vals ea, ex, fun J hJ => h3 J F1 H1 es1 hJ⟩
theorem b62_inv {i : Int} (h : b62 i = true) : -(2 ^ 62) ≤ i ∧ i < 2 ^ 62 := by
  unfold b62 at h
  rw [Bool.and_eq_true] at h
  exact ⟨of_decide_eq_true h.1, of_decide_eq_true h.2⟩
theorem repI {K : PySem.W.Frag} {F : Hp} {i : Int} {v : V} (h : RepV K F (.int i) v) : v = .int i := by unfold RepV at h; exact h
theorem SI.range1 (ha : SA X W [e] ma) (hm : X.mg "range" = none) (hg : Gl X "range") (hs : starEach [e] X.env = [(false, eval e X.env)] := by rfl) : SI X W tg (.Call (.Name "range" p) [e] [] pos) (mRng rng1 ma) :=
  PI.imp (pi_range1 hg hm ha hs) fun σ H Q h => by
    obtain ⟨ρ, F, R, q⟩ := mRng_inv h
    refine ⟨ρ, F, R, q.mono fun p hp vs F' H' es1 qs => ?_⟩
    obtain ⟨F1, as, xs, fh, rv, ef, go⟩ := hp vs F' H' es1 qs
    unfold rng1 at ef
    split at ef
    · rename_i j
      split at ef
      · rename_i hb
        cases ef
        obtain ⟨b1, b2⟩ := b62_inv hb
        obtain ⟨v, r, rfl, q1, q2⟩ := rv.cons_inv
        rw [q2.nil_inv, repI q1]
        have z := itOk_r (K := X.K) (F := F1) (lo := 0) (hi := j)
        rw [Int.sub_zero] at z
        exact ⟨j, rfl, b1, b2, go _ z⟩
      · cases ef
    · cases ef
theorem SI.range2 (ha : SA X W [e, e2] ma) (hm : X.mg "range" = none) (hg : Gl X "range") (hs : starEach [e, e2] X.env = [(false, eval e X.env), (false, eval e2 X.env)] := by rfl) (hs2 : starEach [e2] X.env = [(false, eval e2 X.env)] := by rfl) : SI X W tg (.Call (.Name "range" p) [e, e2] [] pos) (mRng rng2 ma) :=
  PI.imp (pi_range2 hg hm ha hs hs2) fun σ H Q h => by
    obtain ⟨ρ, F, R, q⟩ := mRng_inv h
    refine ⟨ρ, F, R, q.mono fun p hp vs F' H' es1 qs => ?_⟩
    obtain ⟨F1, as, xs, fh, rv, ef, go⟩ := hp vs F' H' es1 qs
    unfold rng2 at ef
    split at ef
    · rename_i i j
      split at ef
      · rename_i hb
        rw [Bool.and_eq_true] at hb
        cases ef
        obtain ⟨b1, b2⟩ := b62_inv hb.1
        obtain ⟨b3, b4⟩ := b62_inv hb.2
        obtain ⟨v, r, rfl, q1, q2⟩ := rv.cons_inv
        obtain ⟨v2, r2, rfl, q3, q4⟩ := q2.cons_inv
        rw [q4.nil_inv, repI q1, repI q3]
        exact ⟨i, j, rfl, ⟨b1, b2, b3, b4⟩, go _ itOk_r⟩
      · cases ef
    · cases ef
theorem SI.zip (ha : SA X W [e, e2] ma) (hm : X.mg "zip" = none) (hg : Gl X "zip") (hs : starEach [e, e2] X.env = (false, eval e X.env) :: starEach [e2] X.env := by rfl) (hpl : (backTo pos (starEach [e2] X.env)).any (·.1) = false := by rfl) :
    SI X W (.Tuple elts kk tpos) (.Call (.Name "zip" p) [e, e2] [] pos) (mRng zipOf ma) :=
  PI.imp (pi_zip2 hg hm ha hs hpl) fun σ H Q h => by
    obtain ⟨ρ, F, R, q⟩ := mRng_inv h
    refine ⟨ρ, F, R, q.mono fun p hp vs F' H' es1 qs => ?_⟩
    obtain ⟨F1, as, xs, fh, rv, ef, go⟩ := hp vs F' H' es1 qs
    match as, ef, rv with
    | [a, b], ef, rv =>
      obtain ⟨v, r, rfl, q1, q2⟩ := rv.cons_inv
      obtain ⟨v2, r2, rfl, q3, q4⟩ := q2.cons_inv
      rw [q4.nil_inv]
      have ef : ((seqOf a).bind fun xs => (seqOf b).map fun ys => (xs.zip ys).map fun p => PV.tup [p.1, p.2]) = some xs := ef
      cases e1 : seqOf a with
      | none => rw [e1] at ef; cases ef
      | some us =>
        rw [e1] at ef
        cases e2 : seqOf b with
        | none => rw [e2] at ef; cases ef
        | some ws =>
          rw [e2] at ef
          cases ef
          obtain ⟨k1, a1, vs1, rfl, r1, s1⟩ := seq_rep q1 e1
          obtain ⟨k2, a2, vs2, rfl, r2, s2⟩ := seq_rep q3 e2
          have l1 := r1.length
          have l2 := r2.length
          refine ⟨k1, k2, a1, a2, vs1, vs2, rfl, s1 F1 H' (Same.refl _) fh, s2 F1 H' (Same.refl _) fh, go _ ⟨fun i H F' f fh hi => ?_, fun i H F' x H' p f fh e y => ?_, fun H F' f fh => ?_⟩⟩
          · simp at hi
            exact ⟨vs1, vs2, vs1[i]'(by omega), vs2[i]'(by omega), s1 F' H f fh, s2 F' H f fh, List.getElem?_eq_getElem (by omega), List.getElem?_eq_getElem (by omega)⟩
          · obtain ⟨T, x1, x2, rfl, nT, rfl, f1, f2⟩ := y
            have z1 := f1 _ (s1 F' H f fh)
            have z2 := f2 _ (s2 F' H f fh)
            obtain ⟨p1, ep1, rp1⟩ := r1.get' z1
            obtain ⟨p2, ep2, rp2⟩ := r2.get' z2
            have ep : ((us.zip ws).map fun p => PV.tup [p.1, p.2])[i]? = some (.tup [p1, p2]) := by
              rw [List.getElem?_map, (List.getElem?_zip_eq_some (z := (p1, p2))).mpr ⟨ep1, ep2⟩]
              rfl
            rw [ep] at e
            cases e
            have g := Grow.tup (o := .tup [x1, x2]) fh nT
            refine ⟨_, g, ?_⟩
            unfold RepV
            exact ⟨T, [x1, x2], rfl, upd_same, .cons (rp1.mono (f.trans g.ff)) (.cons (rp2.mono (f.trans g.ff)) .nil)⟩
          · refine ⟨vs1, vs2, s1 F' H f fh, s2 F' H f fh, ?_⟩
            simp only [List.length_map, List.length_zip]
            omega
theorem SI.enum (ha : SA X W [e] ma) (hm : X.mg "enumerate" = none) (hg : Gl X "enumerate") (hs : starEach [e] X.env = [(false, eval e X.env)] := by rfl) :
    SI X W (.Tuple elts kk tpos) (.Call (.Name "enumerate" p) [e] [] pos) (mRng enumOf ma) :=
  PI.imp (pi_enumA hg hm ha hs) fun σ H Q h => by
    obtain ⟨ρ, F, R, q⟩ := mRng_inv h
    refine ⟨ρ, F, R, q.mono fun p hp vs F' H' es1 qs => ?_⟩
    obtain ⟨F1, as, xs, fh, rv, ef, go⟩ := hp vs F' H' es1 qs
    match as, ef, rv with
    | [a], ef, rv =>
      obtain ⟨v, r, rfl, q1, q2⟩ := rv.cons_inv
      rw [q2.nil_inv]
      have ef : ((seqOf a).map fun xs => xs.mapIdx fun i x => PV.tup [.int (i : Nat), x]) = some xs := ef
      cases e1 : seqOf a with
      | none => rw [e1] at ef; cases ef
      | some us =>
        rw [e1] at ef
        cases ef
        obtain ⟨k1, a1, vs1, rfl, r1, s1⟩ := seq_rep q1 e1
        have l1 := r1.length
        refine ⟨k1, a1, vs1, rfl, s1 F1 H' (Same.refl _) fh, go _ ⟨fun i H F' f fh hi => ?_, fun i H F' x H' p f fh e y => ?_, fun H F' f fh => ?_⟩⟩
        · simp at hi
          exact ⟨vs1, vs1[i]'(by omega), s1 F' H f fh, List.getElem?_eq_getElem (by omega)⟩
        · obtain ⟨T, x1, rfl, nT, rfl, f1⟩ := y
          have z1 := f1 _ (s1 F' H f fh)
          obtain ⟨p1, ep1, rp1⟩ := r1.get' z1
          rw [List.getElem?_mapIdx, ep1] at e
          cases e
          have g := Grow.tup (o := .tup [.int (i : Nat), x1]) fh nT
          refine ⟨_, g, ?_⟩
          unfold RepV
          exact ⟨T, [.int (i : Nat), x1], rfl, upd_same, .cons (by unfold RepV; rfl) (.cons (rp1.mono (f.trans g.ff)) .nil)⟩
        · exact ⟨vs1, s1 F' H f fh, by simp [l1]⟩
def mRev (m : M) : MI := fun ρ => (mOp m ρ).bind fun p => (liftO p.1.val?).bind fun v => (liftO (seqOf v)).bind fun xs => .ok (xs.reverse, p.2)
theorem SI.rev (h : SE X W e m) (hm : X.mg "reversed" = none) (hg : Gl X "reversed") (hs : starEach [e] X.env = (false, eval e X.env) :: starEach [] X.env := by rfl) :
    SI X W tg (.Call (.Name "reversed" p) [e] [] pos) (mRev m) :=
  PI.imp (RT.pi_revA hg hm h hs) fun σ H Q ⟨ρ, F, R, q⟩ => by
    refine tM_op R q fun r ρ1 x F1 H1 es1 q1 h1 => ?_
    obtain ⟨v, ev, h2⟩ := h1.lift
    obtain ⟨xs, ex, h3⟩ := h2.lift
    have h3 : ∀ J F' H', ES X.K ρ σ F H ρ1 σ F' H' → ItOk X.K F' xs.reverse J → Q J H' := h3
    have ev : r = .val v := val?_inv ev
    subst ev
    have q1 : RepV X.K F1 v x := q1
    obtain ⟨k, a, vs, rfl, r, s⟩ := seq_rep q1 ex
    have hl := r.length
    have rr : ∀ (i : Nat) (p : PV), xs.reverse[i]? = some p → ∃ v, vs[vs.length - 1 - i]? = some v ∧ RepV X.K F1 p v := fun i p e => by
      have hi : i < xs.length := by
        have := (List.getElem?_eq_some_iff.mp e).1
        simpa using this
      rw [List.getElem?_reverse hi] at e
      rw [← hl]
      exact r.get e
    cases k
    · refine ⟨a, vs, rfl, .inl ⟨s F1 H1 (Same.refl _) es1.rel.fh, h3 _ F1 H1 es1 ⟨fun i H F' f fh hi => ?_, fun i H F' x H' p f fh e y => ?_, fun H F' f fh => ?_⟩⟩⟩
      · have hi : i < vs.length := by simpa [hl] using hi
        exact ⟨hi, vs, vs[vs.length - 1 - i]'(by omega), s F' H f fh, List.getElem?_eq_getElem (by omega)⟩
      · obtain ⟨rfl, z⟩ := y
        obtain ⟨v, ev, rv⟩ := rr i p e
        have z := z vs (s F' _ f fh)
        rw [ev] at z
        cases z
        exact ⟨F', Grow.refl fh, rv.mono f⟩
      · show vs.length ≤ _
        simp [hl]
    · refine ⟨a, vs, rfl, .inr ⟨s F1 H1 (Same.refl _) es1.rel.fh, h3 _ F1 H1 es1 ⟨fun i H F' f fh hi => ?_, fun i H F' x H' p f fh e y => ?_, fun H F' f fh => ?_⟩⟩⟩
      · have hi : i < vs.length := by simpa [hl] using hi
        exact ⟨hi, vs, vs[vs.length - 1 - i]'(by omega), s F' H f fh, List.getElem?_eq_getElem (by omega)⟩
      · obtain ⟨rfl, z⟩ := y
        obtain ⟨v, ev, rv⟩ := rr i p e
        have z := z vs (s F' _ f fh)
        rw [ev] at z
        cases z
        exact ⟨F', Grow.refl fh, rv.mono f⟩
      · show vs.length ≤ _
        simp [hl]
end

/-! ### for -/
def forM (g : MG) (b : MS) : List PV → MS
  | [] => fun ρ => .ok (.nx, ρ)
  | x :: xs => fun ρ => (liftO (g x ρ)).bind fun ρ1 => (b ρ1).bind fun q => match q.1 with
    | .nx => forM g b xs q.2
    | .ct => forM g b xs q.2
    | .bk => .ok (.nx, q.2)
    | .rt r => .ok (.rt r, q.2)
def mFor (mi : MI) (g : MG) (b : MS) : MS := fun ρ => (mi ρ).bind fun p => forM g b p.1 p.2
theorem Grow.step {O : Addr → Prop} {F H F' H' : Hp} (g : Grow F H F' H') : Step O F H F' H' :=
  ⟨g.ff, fun a h => (g.new a h).imp id .inl, fun a o h _ => g.hh a o h, fun a h => by
    obtain ⟨o, e⟩ := Option.ne_none_iff_exists'.mp h
    rw [g.hh a o e]
    simp⟩
section
variable {X : Cx} {W : WX} {tg iter : Expr} {body : List Stmt} {mi : MI} {g : MG} {mb : MS} {pos : Pos} {S : List Nat}
theorem SS.for (hi : SI X W tg iter mi) (hg : SG X S tg g) (hb : SSs X W body mb) (hp : PassesOwn (model X.prog X.w) X.A X.env X.xe) (hc : X.calm = true) (hs : ∀ x, foldedSetIterable iter X.env x = pure x := by intro _; rfl) :
    SS X W (.For tg iter body [] pos) (mFor mi g mb) :=
  PS.imp (ps_for hp hc hi hg hb hs) fun D σ H ⟨ρ, F, R, q⟩ => ⟨ρ, F, R, q.of_bind.mono fun p h1 J F1 H1 es1 ok => by
    refine ⟨fun i m σ' H' => m = p.1.length - i ∧ i ≤ p.1.length ∧ ∃ ρ' F', Same F1 F' ∧ ES X.K ρ σ F H ρ' σ' F' H' ∧ Ok W ρ' σ' F' H' (forM g mb (p.1.drop i) ρ') (RestS X.K ρ σ F H D), ⟨p.1.length, by simp, Nat.zero_le _, p.2, F1, Same.refl _, es1, h1.shift es1⟩, ?_⟩
    rintro i m σ' H' ⟨rfl, hi, ρ', F', f, es, h⟩
    by_cases hlt : i < p.1.length
    · refine .inr ⟨ok.go i H' F' f es.rel.fh hlt, fun σ2 H2 => ∃ ρ2 F2, Same F1 F2 ∧ ES X.K ρ σ F H ρ2 σ2 F2 H2 ∧ Ok W ρ2 σ2 F2 H2 (forM g mb (p.1.drop (i + 1)) ρ2) (RestS X.K ρ σ F H D), fun σ2 H2 ⟨ρ2, F2, f2, es2, h2⟩ => ⟨p.1.length - (i + 1), by omega, rfl, hlt, ρ2, F2, f2, es2, h2⟩, fun x H2 y => ?_⟩
      obtain ⟨F2, gr, rx⟩ := ok.yld i H' F' x H2 p.1[i] f es.rel.fh (List.getElem?_eq_getElem hlt) y
      rw [List.drop_eq_getElem_cons hlt] at h
      have es2 := es.trans (gr.es es.rel)
      obtain ⟨ρ1, eg, h⟩ := Ok.lift (show Ok W ρ' σ' F' H' ((liftO (g p.1[i] ρ')).bind fun ρ1 => (mb ρ1).bind fun q => match q.1 with
        | .nx => forM g mb (p.1.drop (i + 1)) q.2
        | .ct => forM g mb (p.1.drop (i + 1)) q.2
        | .bk => .ok (.nx, q.2)
        | .rt r => .ok (.rt r, q.2)) _ from h)
      refine ⟨ρ', F2, p.1[i], ρ1, es2.rel, rx, eg, fun σ3 F3 H3 es3 _ => ?_⟩
      have es4 := es2.trans es3
      refine ⟨ρ1, F3, es4.rel, (h.of_bind.shift ((gr.es es.rel).trans es3)).mono fun p2 h3 => ?_⟩
      obtain ⟨fl, ρ2⟩ := p2
      cases fl with
      | nx => exact fun σ5 F5 H5 es5 => ⟨ρ2, F5, f.trans (gr.ff.trans (es3.st.ff.trans es5.st.ff)), es4.trans es5, h3.shift (((gr.es es.rel).trans es3).trans es5)⟩
      | ct => exact fun σ5 F5 H5 es5 => ⟨ρ2, F5, f.trans (gr.ff.trans (es3.st.ff.trans es5.st.ff)), es4.trans es5, h3.shift (((gr.es es.rel).trans es3).trans es5)⟩
      | bk =>
        have h3 : ∀ σ' F' H', ES X.K ρ σ F H ρ2 σ' F' H' → D.nx σ' H' := h3
        exact fun σ5 F5 H5 es5 => h3 σ5 F5 H5 (es4.trans es5)
      | rt r =>
        have h3 : ∀ v σ' F' H', ES X.K ρ σ F H ρ2 σ' F' H' → RepR X.K (FrL H ρ σ) F' H' ρ2 σ' r v → D.rt v H' := h3
        exact fun v σ5 F5 H5 es5 rr => h3 v σ5 F5 H5 (es4.trans es5) (rr.weak fun a ha => ha.back es4)
    · have e : i = p.1.length := by omega
      subst e
      rw [List.drop_length] at h
      have h : ∀ σ2 F2 H2, ES X.K ρ σ F H ρ' σ2 F2 H2 → D.nx σ2 H2 := h
      exact .inl ⟨ok.stop H' F' f es.rel.fh, h σ' F' H' es⟩⟩
end
end Pu

set_option Elab.async false
set_option linter.all false
set_option maxRecDepth 100000
/-! Pu11: comprehensions. -/
namespace Pu
open PySem PySem.Spec PyProof.Rows L2

def wipeE (ρ : Env) : List Nat → Env
  | [] => ρ
  | v :: vs => (wipeE ρ vs).set v none
theorem wipeE_get {ρ : Env} : ∀ {vs : List Nat} {j : Nat} {s : SV}, (wipeE ρ vs)[j]? = some (some s) → ρ[j]? = some (some s) ∧ j ∉ vs
  | [], j, s, h => ⟨h, by simp⟩
  | v :: vs, j, s, h => by
    unfold wipeE at h
    by_cases hj : j = v
    · subst hj
      rw [List.getElem?_set, if_pos rfl] at h
      split at h <;> cases h
    · rw [List.getElem?_set_ne (Ne.symm hj)] at h
      obtain ⟨h1, h2⟩ := wipeE_get h
      exact ⟨h1, by simp [hj, h2]⟩
theorem wipeE_len (ρ : Env) : ∀ vs : List Nat, (wipeE ρ vs).length = ρ.length
  | [] => rfl
  | v :: vs => by unfold wipeE; rw [List.length_set, wipeE_len ρ vs]
theorem wipe_get {σ : L2.St} : ∀ {vs : List Nat} {j : Nat}, j ∉ vs → (wipe σ vs)[j]? = σ[j]?
  | [], _, _ => rfl
  | v :: vs, j, h => by
    simp only [List.mem_cons, not_or] at h
    unfold wipe
    rw [List.getElem?_set_ne (Ne.symm h.1)]
    exact wipe_get h.2
theorem wipe_at {σ : L2.St} : ∀ {vs : List Nat} {j : Nat}, j ∈ vs → j < σ.length → (wipe σ vs)[j]? = some none
  | [], _, h, _ => by simp at h
  | v :: vs, j, h, l => by
    unfold wipe
    by_cases e : j = v
    · subst e
      rw [List.getElem?_set, if_pos rfl, if_pos (by rw [wipe_length]; exact l)]
    · rw [List.getElem?_set_ne (Ne.symm e)]
      exact wipe_at (by simpa [e] using h) l
theorem wipe_only {σ σ' : L2.St} {S vs : List Nat} (h : Only S (wipe σ vs) σ') (hs : ∀ i ∈ S, i ∈ vs) : wipe σ' vs = wipe σ vs := by
  apply List.ext_getElem?
  intro i
  by_cases hi : i ∈ vs
  · by_cases hl : i < σ.length
    · rw [wipe_at hi hl, wipe_at hi (by rw [h.1, wipe_length]; exact hl)]
    · rw [List.getElem?_eq_none (by rw [wipe_length, h.1, wipe_length]; omega), List.getElem?_eq_none (by rw [wipe_length]; omega)]
  · rw [wipe_get hi, h.2 i (fun z => hi (hs i z))]
section
variable {K : PySem.W.Frag} {ρ ρ' : Env} {σ σ' : L2.St} {F H F' H' : Hp}
theorem wipe_own {vs : List Nat} {j : Nat} {a : Addr} (h : OwnAt (wipeE ρ vs) (wipe σ vs) j a) : OwnAt ρ σ j a ∧ j ∉ vs := by
  obtain ⟨h1, h2⟩ := h
  rcases h1 with ⟨o, e⟩ | ⟨o, e⟩
  · obtain ⟨e', n⟩ := wipeE_get e
    rw [wipe_get n] at h2
    exact ⟨⟨.inl ⟨o, e'⟩, h2⟩, n⟩
  · obtain ⟨e', n⟩ := wipeE_get e
    rw [wipe_get n] at h2
    exact ⟨⟨.inr ⟨o, e'⟩, h2⟩, n⟩
theorem Rel.wipe (R : Rel K F H ρ σ) (vs : List Nat) : ES K ρ σ F H (wipeE ρ vs) (wipe σ vs) F H where
  st := Step.refl _ _ _
  rel := ⟨by rw [wipeE_len, wipe_length]; exact R.len, fun j s h => by
    obtain ⟨e, n⟩ := wipeE_get h
    rw [wipe_get n]
    exact R.slot j s e, R.fh, fun j k a h1 h2 => R.inj j k a (wipe_own h1).1 (wipe_own h2).1⟩
  own := fun a ⟨j, h⟩ => .inl ⟨j, (wipe_own h).1⟩
  ownl := fun a ⟨j, o, h1, h2⟩ => by
    obtain ⟨e, n⟩ := wipeE_get h1
    rw [wipe_get n] at h2
    exact .inl ⟨j, o, e, h2⟩
  par := fun j o h => by
    obtain ⟨e, n⟩ := wipeE_get h
    exact ⟨⟨o, e⟩, wipe_get n⟩
/-- behind the block: its own names' slots as they were, if values -/
def keepV : Option SV → Option SV
  | some (.val p) => some (.val p)
  | _ => none
def restoreE (vs : List Nat) (ρ ρ' : Env) : Env := ρ'.mapIdx fun j s => if j ∈ vs then keepV (ρ[j]?).join else s
theorem restore_get {vs : List Nat} {j : Nat} {s : SV} (h : (restoreE vs ρ ρ')[j]? = some (some s)) : (j ∈ vs ∧ ρ[j]? = some (some s) ∧ ∃ p, s = .val p) ∨ (j ∉ vs ∧ ρ'[j]? = some (some s)) := by
  unfold restoreE at h
  rw [List.getElem?_mapIdx] at h
  cases e : ρ'[j]? with
  | none => rw [e] at h; cases h
  | some t =>
    rw [e] at h
    have h : (if j ∈ vs then keepV (ρ[j]?).join else t) = some s := Option.some.inj h
    by_cases hj : j ∈ vs
    · rw [if_pos hj] at h
      cases e2 : ρ[j]? with
      | none => rw [e2] at h; cases h
      | some u =>
        rw [e2] at h
        cases u with
        | none => cases h
        | some u =>
          cases u with
          | val p => cases h; exact .inl ⟨hj, rfl, p, rfl⟩
          | own o => cases h
          | par o => cases h
    · rw [if_neg hj] at h
      exact .inr ⟨hj, by rw [h]⟩
theorem ES.restore {vs : List Nat} (R : Rel K F H ρ σ) (es : ES K ρ σ F H ρ' (wipe σ vs) F' H') : ES K ρ σ F H (restoreE vs ρ ρ') σ F' H' := by
  have own : ∀ j a, OwnAt (restoreE vs ρ ρ') σ j a → OwnAt ρ' (wipe σ vs) j a := fun j a ⟨h1, h2⟩ => by
    rcases h1 with ⟨o, e⟩ | ⟨o, e⟩
    · rcases restore_get e with ⟨_, _, p, z⟩ | ⟨n, e'⟩
      · cases z
      · exact ⟨.inl ⟨o, e'⟩, by rw [wipe_get n]; exact h2⟩
    · rcases restore_get e with ⟨_, _, p, z⟩ | ⟨n, e'⟩
      · cases z
      · exact ⟨.inr ⟨o, e'⟩, by rw [wipe_get n]; exact h2⟩
  refine ⟨es.st, ⟨?_, fun j s h => ?_, es.rel.fh, fun j k a h1 h2 => es.rel.inj j k a (own _ _ h1) (own _ _ h2)⟩, fun a ⟨j, h⟩ => es.own a ⟨j, own j a h⟩, fun a ⟨j, o, h1, h2⟩ => ?_, fun j o h => ?_⟩
  · unfold restoreE
    have := es.rel.len
    rw [wipe_length] at this
    simpa using this
  · rcases restore_get h with ⟨hj, e, p, rfl⟩ | ⟨n, e⟩
    · obtain ⟨v, ev, r⟩ := R.slot j _ e
      exact ⟨v, ev, RepV.mono es.st.ff r⟩
    · obtain ⟨v, ev, r⟩ := es.rel.slot j s e
      rw [wipe_get n] at ev
      exact ⟨v, ev, r⟩
  · rcases restore_get h1 with ⟨_, _, p, z⟩ | ⟨n, e⟩
    · cases z
    · exact es.ownl a ⟨j, o, e, by rw [wipe_get n]; exact h2⟩
  · rcases restore_get h with ⟨_, _, p, z⟩ | ⟨n, e⟩
    · cases z
    · obtain ⟨e1, e2⟩ := es.par j o e
      exact ⟨e1, rfl⟩
/-- an object of nobody's is changed -/
theorem ES.other {D : Addr} {u : HO} (es : ES K ρ σ F H ρ' σ' F' H') (n0 : H D = none) (n : F' D = none) (no : ¬ Own ρ' σ' D) : ES K ρ σ F H ρ' σ' F' (upd H' D u) :=
  es.go (Same.refl _) (fun a x e => by
    rw [upd_ne (fun z => by rw [z, n] at e; cases e)]
    exact es.rel.fh a x e) (fun x hx => by
    have nx : x ≠ D := fun z => no (z ▸ hx)
    exact ⟨es.rel.ownF hx, upd_ne nx⟩) (fun x h => .inl h) (fun x o h _ h1 => by
    rw [upd_ne (fun z => by rw [z, n0] at h; cases h)]
    exact h1) fun x h => by
    by_cases e : x = D
    · subst e
      rw [upd_same]
      simp
    · rw [upd_ne e]
      exact h
end
/-- the tests of a comprehension -/
def STs (X : Cx) (W : WX) (ifs : List Expr) (m : MT) : Prop := PTs X ifs (tMT X.K W m)
def mYes : MT := fun ρ => .ok (true, ρ)
def lcM (vs : List Nat) (g : MG) (t : MT) (e : M) : List PV → Env → Res (List PV × Env)
  | [], ρ => .ok ([], ρ)
  | x :: xs, ρ => (liftO (g x ρ)).bind fun ρ1 => (t ρ1).bind fun p => if p.1 = true then (mOp e p.2).bind fun q => (liftO q.1.val?).bind fun y => (lcM vs g t e xs (wipeE q.2 vs)).bind fun r => .ok (y :: r.1, r.2)
      else lcM vs g t e xs (wipeE p.2 vs)
def mLc (vs : List Nat) (mi : MI) (g : MG) (t : MT) (e : M) : M := fun ρ => (mi ρ).bind fun p => if p.1.length ≤ 16777216 then (lcM vs g t e p.1 (wipeE p.2 vs)).nox.bind fun q => .ok (.new (.lst q.1), restoreE vs p.2 q.2) else .bad
theorem nox_ok {α : Type} {r : Res α} {a : α} (h : r.nox = .ok a) : r = .ok a := by
  cases r with
  | ok b => exact h
  | exc x => cases h
  | bad => cases h
theorem Ok.nox {α β : Type} {W : WX} {ρ : Env} {σ : L2.St} {F H : Hp} {r : Res α} {k : α → Res β} {R : β → Prop} (h : Ok W ρ σ F H (r.nox.bind k) R) : ∃ a, r = .ok a ∧ Ok W ρ σ F H (k a) R := by
  cases r with
  | ok a => exact ⟨a, rfl, h⟩
  | exc x => exact h.elim
  | bad => exact h.elim
/-- a run that ends well -/
theorem Ok.good {α : Type} {W : WX} {ρ : Env} {σ : L2.St} {F H : Hp} {r : Res α} {a : α} {R : α → Prop} (e : r = .ok a) (h : R a) : Ok W ρ σ F H r R := by rw [e]; exact h
theorem bind_ok {α β : Type} {r : Res α} {k : α → Res β} {b : β} (h : r.bind k = .ok b) : ∃ a, r = .ok a ∧ k a = .ok b := by
  cases r with
  | ok a => exact ⟨a, rfl, h⟩
  | exc x => cases h
  | bad => cases h
theorem lift_ok {α : Type} {o : Option α} {a : α} (h : liftO o = .ok a) : o = some a := by
  cases o with
  | none => cases h
  | some b => cases h; rfl
theorem tM_lc {K : PySem.W.Frag} {W : WX} {σ : L2.St} {H : Hp} {Q : VK} {S vs : List Nat} {mi : MI} {g : MG} {t : MT} {e : M} (hS : ∀ i ∈ S, i ∈ vs) (h : tM K W (mLc vs mi g t e) σ H Q) :
    tLc (tMI K W mi) (tMG K S g) (tMT K W0 t) (tM K W0 e) vs σ H Q := by
  obtain ⟨ρ, F, R, q⟩ := h
  refine ⟨ρ, F, R, q.of_bind.mono fun p h1 J F1 H1 es1 ok => ?_⟩
  by_cases hz : p.1.length ≤ 16777216
  case neg => rw [if_neg hz] at h1; exact h1.elim
  rw [if_pos hz] at h1
  obtain ⟨r, er, h2⟩ := Ok.nox h1
  have h2 : ∀ v F' H', ES K ρ σ F H (restoreE vs p.2 r.2) σ F' H' → RepR K (Free H) F' H' (restoreE vs p.2 r.2) σ (.new (.lst r.1)) v → Q v H' := h2
  intro D nD
  have nD0 : H D = none := es1.free nD
  refine ⟨fun i m H' => m = p.1.length - i ∧ i ≤ p.1.length ∧ ∃ ρ' F' acc vacc ys, Same F1 F' ∧ ES K p.2 σ F1 H1 ρ' (wipe σ vs) F' H' ∧ H' D = some (.lst vacc) ∧ RepVs K F' acc vacc ∧ F' D = none ∧ ¬ Own ρ' (wipe σ vs) D ∧ acc.length ≤ i ∧
      lcM vs g t e (p.1.drop i) ρ' = .ok (ys, r.2) ∧ acc ++ ys = r.1, ⟨p.1.length, by simp, Nat.zero_le _, wipeE p.2 vs, F1, [], [], r.1, Same.refl _, ?_, upd_same, .nil, es1.rel.fh.none nD, ?_, Nat.le_refl _, er, rfl⟩, ?_⟩
  · exact (es1.rel.wipe vs).other nD (es1.rel.fh.none nD) fun z => (es1.rel.wipe vs).rel.ownH z nD
  · exact fun z => (es1.rel.wipe vs).rel.ownH z nD
  rintro i m H' ⟨rfl, hi, ρ', F', acc, vacc, ys, f, es, hD, rv, nF, nO, hl, el, ea⟩
  by_cases hlt : i < p.1.length
  · refine .inr ⟨ok.go i H' F' f es.rel.fh hlt, fun H2 => ∃ ρ2 F2 acc vacc ys, Same F1 F2 ∧ ES K p.2 σ F1 H1 ρ2 (wipe σ vs) F2 H2 ∧ H2 D = some (.lst vacc) ∧ RepVs K F2 acc vacc ∧ F2 D = none ∧ ¬ Own ρ2 (wipe σ vs) D ∧ acc.length ≤ i + 1 ∧
      lcM vs g t e (p.1.drop (i + 1)) ρ2 = .ok (ys, r.2) ∧ acc ++ ys = r.1, fun H2 h => ⟨p.1.length - (i + 1), by omega, rfl, hlt, h⟩, fun x H2 y => ?_⟩
    obtain ⟨F2, gr, rx⟩ := ok.yld i H' F' x H2 p.1[i] f es.rel.fh (List.getElem?_eq_getElem hlt) y
    rw [List.drop_eq_getElem_cons hlt] at el
    have esg := gr.es es.rel
    have el : ((liftO (g p.1[i] ρ')).bind fun ρ1 => (t ρ1).bind fun p2 => if p2.1 = true then (mOp e p2.2).bind fun q => (liftO q.1.val?).bind fun y => (lcM vs g t e (p.1.drop (i + 1)) (wipeE q.2 vs)).bind fun r => .ok (y :: r.1, r.2)
      else lcM vs g t e (p.1.drop (i + 1)) (wipeE p2.2 vs)) = .ok (ys, r.2) := el
    obtain ⟨ρ1, e1, el⟩ := bind_ok el
    have e1 := lift_ok e1
    obtain ⟨p2, e2, el⟩ := bind_ok el
    -- D through a part of the turn
    have keep : ∀ {ρa : Env} {σa : L2.St} {Fa Ha : Hp}, ES K ρ' (wipe σ vs) F' H' ρa σa Fa Ha → Ha D = some (.lst vacc) ∧ Fa D = none ∧ ¬ Own ρa σa D := fun {ρa σa Fa Ha} z => by
      refine ⟨z.st.fr D _ hD nO, ?_, fun o => ?_⟩
      · cases w : Fa D with
        | none => rfl
        | some u =>
          rcases z.st.new D (by rw [w]; simp) with y | y | y
          · exact absurd nF y
          · rcases y with y | ⟨xs, y⟩
            · rw [hD] at y; cases y
            · rw [hD] at y; cases y
          · exact absurd y nO
      · rcases z.own D o with y | y
        · exact nO y
        · rw [hD] at y; cases y
    refine ⟨ρ', F2, p.1[i], ρ1, (es.trans esg).rel, rx, e1, fun σ2 F3 H3 es3 o3 => ?_⟩
    have hw := wipe_only o3 hS
    refine ⟨hw, ?_⟩
    refine ⟨ρ1, F3, es3.rel, .good e2 fun F4 H4 es4 => ?_⟩
    have esA := (esg.trans es3).trans es4
    refine ite2 (fun hb => ?_) (fun hb => ?_)
    · rw [if_pos hb] at el
      obtain ⟨p3, e3, el⟩ := bind_ok el
      obtain ⟨y', e4, el⟩ := bind_ok el
      have e4 := val?_inv (lift_ok e4)
      obtain ⟨r2, e5, el⟩ := bind_ok el
      have el := Res.ok.inj el
      have el1 : y' :: r2.1 = ys := (Prod.mk.inj el).1
      have el2 : r2.2 = r.2 := (Prod.mk.inj el).2
      have e3' : mOp e p2.2 = .ok (.val y', p3.2) := by rw [e3, ← e4]
      · exact tM_op (k := fun p => .ok p) es4.rel (show Ok W0 p2.2 σ2 F4 H4 ((mOp e p2.2).bind fun p => .ok p) (fun p => p = (.val y', p3.2)) by rw [e3']; rfl) fun rq ρ5 v F5 H5 es5 rr hq => by
          cases hq
          have rr : RepV K F5 y' v := rr
          have esB := esA.trans es5
          obtain ⟨d1, d2, d3⟩ := keep esB
          have esC := es.trans esB
          have esD := esC.trans (esC.rel.wipe vs)
          rw [hw] at esD
          have no : ¬ Own (wipeE p3.2 vs) (wipe σ vs) D := fun z => by
            rw [← hw] at z
            obtain ⟨j, z⟩ := z
            exact d3 ⟨j, (wipe_own z).1⟩
          refine ⟨vacc, d1, ?_, wipeE p3.2 vs, F5, acc ++ [y'], vacc ++ [v], r2.1, f.trans esB.st.ff, esD.other nD d2 no, upd_same, (rv.mono esB.st.ff).append (.cons rr .nil), d2, no, by simp; omega, ?_, by rw [← ea, ← el1]; simp⟩
          · rw [← rv.length, sizeLine_eq]
            omega
          · rw [e5, ← el2]
    · rw [if_neg hb] at el
      obtain ⟨d1, d2, d3⟩ := keep esA
      have esC := es.trans esA
      have esD := esC.trans (esC.rel.wipe vs)
      rw [hw] at esD
      have no : ¬ Own (wipeE p2.2 vs) (wipe σ vs) D := fun z => by
        rw [← hw] at z
        obtain ⟨j, z⟩ := z
        exact d3 ⟨j, (wipe_own z).1⟩
      exact ⟨wipeE p2.2 vs, F4, acc, vacc, ys, f.trans esA.st.ff, esD, d1, rv.mono esA.st.ff, d2, no, by omega, el, ea⟩
  · have e : i = p.1.length := by omega
    subst e
    rw [List.drop_length] at el
    cases el
    rw [List.append_nil] at ea
    subst ea
    have es' := es1.trans (ES.restore es1.rel es)
    refine .inl ⟨ok.stop H' F' f es.rel.fh, h2 _ F' H' es' ⟨D, rfl, nF, nD0, fun z => ?_, vacc, hD, rv⟩⟩
    obtain ⟨j, z1, z2⟩ := z
    rcases z1 with ⟨o, z1⟩ | ⟨o, z1⟩
    · rcases restore_get z1 with ⟨_, _, p, y⟩ | ⟨n, y⟩
      · cases y
      · exact nO ⟨j, .inl ⟨o, y⟩, by rw [wipe_get n]; exact z2⟩
    · rcases restore_get z1 with ⟨_, _, p, y⟩ | ⟨n, y⟩
      · cases y
      · exact nO ⟨j, .inr ⟨o, y⟩, by rw [wipe_get n]; exact z2⟩

section
variable {X : Cx} {W : WX} {tg iter elt : Expr} {ifs : List Expr} {scope : Scope} {own : List (Str × Nat)} {pos spos py : Pos} {S : List Nat} {mi : MI} {g : MG} {t : MT} {me : M}
theorem STs.nil : STs X W [] mYes := ⟨fun pins s σ H Q I ⟨ρ, F, R, q⟩ => pts_nil.run pins s σ H Q I (q F H (ES.refl R))⟩
theorem STs.one {c : Expr} (h : ST X W c t) : STs X W [c] t := pts_one h
theorem SE.lc (hi : SI X W tg iter mi) (ok : BlkOk X.N X.env.scope scope own) (hN : X.N.Nodup)
    (hg : ∀ (s : Shared) (H : Hp) (C : Addr) (cl : List (Str × Addr)) (fp : List Addr), SG (X.blk s H scope (compEnvC scope cl C X.env) fp) S tg g) (ht : ∀ (s : Shared) (H : Hp) (C : Addr) (cl : List (Str × Addr)) (fp : List Addr), STs (X.blk s H scope (compEnvC scope cl C X.env) fp) W0 ifs t)
    (he : ∀ (s : Shared) (H : Hp) (C : Addr) (cl : List (Str × Addr)) (fp : List Addr), SE (X.blk s H scope (compEnvC scope cl C X.env) fp) W0 elt me) (hS : ∀ i ∈ S, i ∈ own.map (·.2)) (hc : X.calm = true) (hs : ∀ x, foldedSetIterable iter X.env x = pure x := by intro _; rfl) :
    SE X W (.ListComp elt [⟨tg, iter, ifs, 0⟩] scope pos) (mLc (own.map (·.2)) mi g t me) :=
  PE.imp (pe_lc (g := tMG X.K S g) (tt := tMT X.K W0 t) (te := tM X.K W0 me) hc hN hi ok (fun s H C cl fp => hg s H C cl fp) (fun s H C cl fp => ht s H C cl fp) (fun s H C cl fp => he s H C cl fp) hs) fun σ H Q h => tM_lc hS h
theorem SS.asgLc {i : Nat} {y : Str} (hi : SI X W tg iter mi) (ok : BlkOk X.N X.env.scope scope own) (hN : X.N.Nodup) (hy : X.N[i]? = some y) (hyl : X.env.scope.names.lookup y = some .local)
    (hsw : swapsWith (.ListComp elt [⟨tg, iter, ifs, 0⟩] scope pos) (some (.Name y py)) spos.line X.env = pure true)
    (hg : ∀ (s : Shared) (H : Hp) (C : Addr) (cl : List (Str × Addr)) (fp : List Addr), SG (X.blk s H scope (compEnvC scope cl C X.env) fp) S tg g) (ht : ∀ (s : Shared) (H : Hp) (C : Addr) (cl : List (Str × Addr)) (fp : List Addr), STs (X.blk s H scope (compEnvC scope cl C X.env) fp) W0 ifs t)
    (he : ∀ (s : Shared) (H : Hp) (C : Addr) (cl : List (Str × Addr)) (fp : List Addr), SE (X.blk s H scope (compEnvC scope cl C X.env) fp) W0 elt me) (hS : ∀ i ∈ S, i ∈ own.map (·.2)) (hc : X.calm = true) (hs : ∀ x, foldedSetIterable iter X.env x = pure x := by intro _; rfl) :
    SS X W (.Assign [.Name y py] (.ListComp elt [⟨tg, iter, ifs, 0⟩] scope pos) spos) (mAsg i (mLc (own.map (·.2)) mi g t me)) :=
  PS.imp (ps_setLc (g := tMG X.K S g) (tt := tMT X.K W0 t) (te := tM X.K W0 me) hc hN hy hyl hsw hi ok (fun s H C cl fp => hg s H C cl fp) (fun s H C cl fp => ht s H C cl fp) (fun s H C cl fp => he s H C cl fp) hs) fun D σ H ⟨ρ, F, R, q⟩ => tM_lc hS ⟨ρ, F, R, q.of_bind.mono fun p hp v F1 H1 es rr => by
    obtain ⟨ρ', e1, h2⟩ := hp.lift
    exact h2 _ F1 H1 (setR_ok es rr e1)⟩

/-! ### the keys of a dict, walked in a comprehension -/
def kPV : Key → PV
  | .inl i => .int i
  | .inr x => .str x
def dkeys : PV → Option (List PV)
  | .dT ks _ => some (ks.map fun k => .tup (k.map kPV))
  | .dK ks _ => some (ks.map kPV)
  | _ => none
theorem kPV_rep {K : PySem.W.Frag} {F : Hp} (k : Key) : RepV K F (kPV k) (kV k) := by
  cases k with
  | inl i => unfold kPV kV RepV; rfl
  | inr x => unfold kPV kV RepV; rfl
theorem kPVs_rep {K : PySem.W.Frag} {F : Hp} : ∀ ks : List Key, RepVs K F (ks.map kPV) (ks.map kV)
  | [] => .nil
  | k :: ks => .cons (kPV_rep k) (kPVs_rep ks)
/-- a tuple of the heap, told -/
theorem growOld {F H : Hp} (h : FH F H) {p : Addr} {xs : List V} (e : H p = some (.tup xs)) (hF : F p = none ∨ F p = some (.tup xs)) : Grow F H (upd F p (.tup xs)) H where
  ff := fun b x q => by
    by_cases z : b = p
    · subst z
      rcases hF with y | y
      · rw [y] at q; cases q
      · rw [y] at q; rw [upd_same]; exact q
    · rw [upd_ne z]; exact q
  new := fun a q => by
    by_cases z : a = p
    · subst z; exact .inr (.inr ⟨xs, e⟩)
    · rw [upd_ne z] at q; exact .inl q
  hh := Same.refl H
  fh := fun a u q => by
    by_cases z : a = p
    · subst z; rw [upd_same] at q; cases q; exact .inl e
    · rw [upd_ne z] at q; exact h a u q
theorem fhTupF {F H : Hp} (h : FH F H) {p : Addr} {xs : List V} (e : H p = some (.tup xs)) : F p = none ∨ F p = some (.tup xs) := by
  cases q : F p with
  | none => exact .inl rfl
  | some u =>
    rcases h p u q with z | ⟨(⟨_, z⟩ | ⟨_, z⟩), o, y⟩
    · rw [e] at z; cases z; exact .inr rfl
    · rw [e] at y; cases y
    · rw [e] at y; cases y
end
end Pu

set_option Elab.async false
set_option linter.all false
set_option maxRecDepth 100000
/-! Pu12: primitives. -/
namespace Pu
open PySem PySem.Spec PyProof.Rows L2

section
variable {K : PySem.W.Frag} {F H : Hp}
theorem repBI {i : Int} {x : V} (h : RepB K F H (.int i) x) : x = .int i := by
  have h : RepV K F (.int i) x := h
  unfold RepV at h
  exact h
theorem repBB {i : Bool} {x : V} (h : RepB K F H (.bl i) x) : x = .bl i := by
  have h : RepV K F (.bl i) x := h
  unfold RepV at h
  exact h
theorem repBS {i : Str} {x : V} (h : RepB K F H (.str i) x) : x = .str i := by
  have h : RepV K F (.str i) x := h
  unfold RepV at h
  exact h
theorem repBN {x : V} (h : RepB K F H .non x) : x = .non := by
  have h : RepV K F .non x := h
  unfold RepV at h
  exact h
theorem repBT {xs : List PV} {x : V} (h : RepB K F H (.tup xs) x) : ∃ a vs, x = .ref a ∧ F a = some (.tup vs) ∧ RepVs K F xs vs := by
  have h : RepV K F (.tup xs) x := h
  unfold RepV at h
  exact h
theorem repNI {H0 : Hp} {i : Int} : RepN K H0 F H (.val (.int i)) (.int i) := show RepV _ _ _ _ by unfold RepV; rfl
theorem repNB {H0 : Hp} {i : Bool} : RepN K H0 F H (.val (.bl i)) (.bl i) := show RepV _ _ _ _ by unfold RepV; rfl
theorem repNS {H0 : Hp} {i : Str} : RepN K H0 F H (.val (.str i)) (.str i) := show RepV _ _ _ _ by unfold RepV; rfl
/-- a number, with nothing made -/
theorem giveI {Q : VK} {i : Int} (fh : FH F H) (q : ∀ v F' H', Grow F H F' H' → RepN K H F' H' (.val (.int i)) v → Q v H') : Q (.int i) H := q _ F H (Grow.refl fh) repNI
theorem giveB {Q : VK} {i : Bool} (fh : FH F H) (q : ∀ v F' H', Grow F H F' H' → RepN K H F' H' (.val (.bl i)) v → Q v H') : Q (.bl i) H := q _ F H (Grow.refl fh) repNB
theorem giveS {Q : VK} {i : Str} (fh : FH F H) (q : ∀ v F' H', Grow F H F' H' → RepN K H F' H' (.val (.str i)) v → Q v H') : Q (.str i) H := q _ F H (Grow.refl fh) repNS
/-- a new tuple -/
theorem giveT {Q : VK} {xs : List PV} {vs : List V} (fh : FH F H) (r : RepVs K F xs vs) (q : ∀ v F' H', Grow F H F' H' → RepN K H F' H' (.val (.tup xs)) v → Q v H') : ∀ p, H p = none → Q (.ref p) (upd H p (.tup vs)) := fun p n => by
  have g := Grow.tup (o := .tup vs) fh n
  refine q _ _ _ g (show RepV _ _ _ _ from ?_)
  unfold RepV
  exact ⟨p, vs, rfl, upd_same, r.mono g.ff⟩
/-- .. an old one -/
theorem giveT0 {Q : VK} {xs : List PV} {vs : List V} {a : Addr} (fh : FH F H) (e : F a = some (.tup vs)) (r : RepVs K F xs vs) (q : ∀ v F' H', Grow F H F' H' → RepN K H F' H' (.val (.tup xs)) v → Q v H') : Q (.ref a) H := by
  refine q _ F H (Grow.refl fh) (show RepV _ _ _ _ from ?_)
  unfold RepV
  exact ⟨a, vs, rfl, e, r⟩
/-- a new list -/
theorem giveL {Q : VK} {xs : List PV} {vs : List V} (fh : FH F H) (r : RepVs K F xs vs) (q : ∀ v F' H', Grow F H F' H' → RepN K H F' H' (.new (.lst xs)) v → Q v H') : ∀ p, H p = none → Q (.ref p) (upd H p (.lst vs)) := fun p n =>
  q _ _ _ (Grow.obj fh n) ⟨p, rfl, fh.none n, n, vs, upd_same, r⟩
end
abbrev V0 (p : PV) : Option RV := some (.val p)

/-! ### int operators -/
def iop (g : Int → Int → Option PV) : PV → PV → Option RV := fun a b => match a, b with
  | .int i, .int j => (g i j).map RV.val
  | _, _ => none
def pSub : PV → PV → Option RV := iop fun i j => some (.int (i - j))
def pDiv : PV → PV → Option RV := iop fun i j => if 0 < j ∧ j.natAbs.log2 < 9000 then some (.int (i / j)) else none
def pMod : PV → PV → Option RV := iop fun i j => if 0 < j then some (.int (i % j)) else none
def pPow : PV → PV → Option RV := iop fun i j => if 0 ≤ j ∧ j ≤ 1000000 ∧ i.natAbs < 18446744073709551616 then some (.int (i ^ j.toNat)) else none
def pLt : PV → PV → Option RV := iop fun i j => some (.bl (decide (i < j)))
def pLe : PV → PV → Option RV := iop fun i j => some (.bl (decide (i ≤ j)))
def pGt : PV → PV → Option RV := iop fun i j => some (.bl (decide (j < i)))
def pGe : PV → PV → Option RV := iop fun i j => some (.bl (decide (j ≤ i)))
section
variable {K : PySem.W.Frag} {F H : Hp}
theorem iop_inv {g : Int → Int → Option PV} {a b : PV} {r : RV} (h : iop g a b = some r) : ∃ i j p, a = .int i ∧ b = .int j ∧ g i j = some p ∧ r = .val p := by
  unfold iop at h
  split at h
  · rename_i i j
    cases e : g i j with
    | none => rw [e] at h; cases h
    | some p => rw [e] at h; cases h; exact ⟨i, j, p, rfl, rfl, e, rfl⟩
  · cases h
theorem prim_i {g : Int → Int → Option PV} {r : R2} (h : ∀ (i j : Int) (p : PV) (F H : Hp) (Q : VK), FH F H → g i j = some p → (∀ v F' H', Grow F H F' H' → RepN K H F' H' (.val p) v → Q v H') → r (.int i) (.int j) H Q) : Prim2 K r (iop g) := by
  intro x y F H Q a b res fh ra rb e q
  obtain ⟨i, j, p, rfl, rfl, eg, rfl⟩ := iop_inv e
  rw [repBI ra, repBI rb]
  exact h i j p F H Q fh eg q
theorem prim_i0 {g : Int → Int → Int} : Prim2 K (rI0 fun i j => .int (g i j)) (iop fun i j => some (.int (g i j))) := prim_i fun i j p F H Q fh e q => by
  cases e
  exact ⟨i, j, rfl, rfl, giveI fh q⟩
theorem prim_b0 {g : Int → Int → Bool} : Prim2 K (rI0 fun i j => .bl (g i j)) (iop fun i j => some (.bl (g i j))) := prim_i fun i j p F H Q fh e q => by
  cases e
  exact ⟨i, j, rfl, rfl, giveB fh q⟩
theorem prim_sub : Prim2 K (rI0 fun i j => .int (i - j)) pSub := prim_i0
theorem prim_div : Prim2 K (rI CDivW fun i j => .int (i / j)) pDiv := prim_i fun i j p F H Q fh e q => by
  split at e
  · rename_i h
    cases e
    exact ⟨i, j, rfl, rfl, ⟨h.1, h.2⟩, giveI fh q⟩
  · cases e
theorem prim_mod : Prim2 K (rI (fun _ j => 0 < j) fun i j => .int (i % j)) pMod := prim_i fun i j p F H Q fh e q => by
  split at e
  · rename_i h
    cases e
    exact ⟨i, j, rfl, rfl, h, giveI fh q⟩
  · cases e
theorem prim_pow : Prim2 K (rI CPow fun i j => .int (i ^ j.toNat)) pPow := prim_i fun i j p F H Q fh e q => by
  split at e
  · rename_i h
    cases e
    exact ⟨i, j, rfl, rfl, ⟨h.1, h.2.1, by simpa using h.2.2⟩, giveI fh q⟩
  · cases e
theorem prim_lt : Prim2 K (rI0 fun i j => .bl (decide (i < j))) pLt := prim_b0
theorem prim_le : Prim2 K (rI0 fun i j => .bl (decide (i ≤ j))) pLe := prim_b0
theorem prim_gt : Prim2 K (rI0 fun i j => .bl (decide (j < i))) pGt := prim_b0
theorem prim_ge : Prim2 K (rI0 fun i j => .bl (decide (j ≤ i))) pGe := prim_b0
end

/-! ### + and * -/
def szOk (n : Nat) : Bool := decide (n ≤ 16777216)
theorem szOk_inv {n : Nat} (h : szOk n = true) : n ≤ sizeLine := by rw [sizeLine_eq]; exact of_decide_eq_true h
def pAdd : PV → PV → Option RV := fun a b => match a, b with
  | .int i, .int j => some (.val (.int (i + j)))
  | .tup xs, .tup ys => if szOk (xs.length + ys.length) = true then some (.val (.tup (xs ++ ys))) else none
  | .lst xs, .lst ys => if szOk (xs.length + ys.length) = true then some (.new (.lst (xs ++ ys))) else none
  | _, _ => none
def rAdd (K : PySem.W.Frag) : R2 := fun x y H Q => rI0 (fun i j => .int (i + j)) x y H Q ∨ (rCatA K x y H Q ∨ rCat x y H Q)
theorem prim_add {K : PySem.W.Frag} : Prim2 K (rAdd K) pAdd := by
  intro x y F H Q a b res fh ra rb e q
  unfold pAdd at e
  split at e
  · cases e
    rw [repBI ra, repBI rb]
    exact .inl ⟨_, _, rfl, rfl, giveI fh q⟩
  · split at e
    · rename_i hz
      cases e
      obtain ⟨a, vs, rfl, ea, r1⟩ := repBT ra
      obtain ⟨b, ws, rfl, eb, r2⟩ := repBT rb
      refine .inr (.inl ⟨a, b, vs, ws, rfl, rfl, .of (fh.tup ea), .of (fh.tup eb), by rw [← r1.length, ← r2.length]; exact szOk_inv hz, fun z => ?_, fun z1 z2 => ?_, fun _ _ => giveT fh (r1.append r2) q⟩)
      · subst z
        have e0 := List.eq_nil_of_length_eq_zero r1.length
        rw [e0, List.nil_append] at q
        exact giveT0 fh eb r2 q
      · subst z2
        have e0 := List.eq_nil_of_length_eq_zero r2.length
        rw [e0, List.append_nil] at q
        exact giveT0 fh ea r1 q
    · cases e
  · split at e
    · rename_i hz
      cases e
      obtain ⟨a, vs, rfl, ea, r1⟩ := ra
      obtain ⟨b, ws, rfl, eb, r2⟩ := rb
      exact .inr (.inr ⟨a, b, vs, ws, rfl, rfl, ea, eb, by rw [← r1.length, ← r2.length]; exact szOk_inv hz, giveL fh (r1.append r2) q⟩)
    · cases e
  · cases e
def smallI (i : Int) : Bool := decide (-18446744073709551616 < i) && decide (i < 18446744073709551616)
def pMul : PV → PV → Option RV := fun a b => match a, b with
  | .int i, .int j => if (smallI i || smallI j || decide (i.natAbs.log2 + j.natAbs.log2 < 1000000)) = true then some (.val (.int (i * j))) else none
  | .lst xs, .int k => if -(2 ^ 63) ≤ k ∧ k < 2 ^ 63 ∧ szOk (xs.length * k.toNat) = true then some (.new (.lst (List.replicate k.toNat xs).flatten)) else none
  | _, _ => none
def rMul (K : PySem.W.Frag) : R2 := fun x y H Q => rI CMul (fun i j => .int (i * j)) x y H Q ∨ (rI CMulW (fun i j => .int (i * j)) x y H Q ∨ rRep x y H Q)
theorem RepVs.flat {K : PySem.W.Frag} {F : Hp} {xs : List PV} {vs : List V} (h : RepVs K F xs vs) : ∀ n, RepVs K F (List.replicate n xs).flatten (List.replicate n vs).flatten
  | 0 => .nil
  | n + 1 => by
    rw [List.replicate_succ, List.replicate_succ, List.flatten_cons, List.flatten_cons]
    exact h.append (h.flat n)
theorem smallI_inv {i : Int} (h : smallI i = true) : -(2 ^ 64) < i ∧ i < 2 ^ 64 := by
  unfold smallI at h
  rw [Bool.and_eq_true] at h
  have z : (2 : Int) ^ 64 = 18446744073709551616 := by decide
  rw [z]
  exact ⟨of_decide_eq_true h.1, of_decide_eq_true h.2⟩
theorem prim_mul {K : PySem.W.Frag} : Prim2 K (rMul K) pMul := by
  intro x y F H Q a b res fh ra rb e q
  unfold pMul at e
  split at e
  · split at e
    · rename_i hz
      cases e
      rw [repBI ra, repBI rb]
      rw [Bool.or_eq_true, Bool.or_eq_true] at hz
      rcases hz with (hz | hz) | hz
      · exact .inl ⟨_, _, rfl, rfl, .inl (smallI_inv hz), giveI fh q⟩
      · exact .inl ⟨_, _, rfl, rfl, .inr (smallI_inv hz), giveI fh q⟩
      · have hz2 := of_decide_eq_true hz
        exact .inr (.inl ⟨_, _, rfl, rfl, hz2, giveI fh q⟩)
    · cases e
  · split at e
    · rename_i hz
      cases e
      obtain ⟨a, vs, rfl, ea, r1⟩ := ra
      rw [repBI rb]
      exact .inr (.inr ⟨a, _, vs, rfl, rfl, ea, hz.1, hz.2.1, by rw [← r1.length]; exact szOk_inv hz.2.2, giveL fh (r1.flat _) q⟩)
    · cases e
  · cases e

/-! ### minus -/
def pNeg : PV → Option RV := fun a => match a with
  | .int i => some (.val (.int (-i)))
  | _ => none
theorem prim_neg {K : PySem.W.Frag} : Prim1 K (rU fun i => .int (-i)) pNeg := by
  intro x F H Q a res fh ra e q
  unfold pNeg at e
  split at e
  · cases e
    rw [repBI ra]
    exact ⟨_, rfl, giveI fh q⟩
  · cases e

/-! ### == and != -/
mutual
def eqP : PV → PV → Bool
  | .non, .non => true
  | .bl a, .bl b => a == b
  | .bl a, .int j => (if a then 1 else 0) == j
  | .int i, .bl b => i == (if b then 1 else 0)
  | .int i, .int j => i == j
  | .str x, .str y => x == y
  | .lst xs, .lst ys => eqPs xs ys
  | .tup xs, .tup ys => eqPs xs ys
  | _, _ => false
def eqPs : List PV → List PV → Bool
  | [], [] => true
  | x :: xs, y :: ys => eqP x y && eqPs xs ys
  | _, _ => false
end
mutual
/-- may be compared: at most n deep -/
def cmpOk : Nat → PV → Bool
  | _, .non => true
  | _, .bl _ => true
  | _, .int _ => true
  | _, .str x => PyData.strOk x
  | n + 1, .lst xs => cmpOks n xs
  | n + 1, .tup xs => cmpOks n xs
  | _, _ => false
def cmpOks : Nat → List PV → Bool
  | _, [] => true
  | n, x :: xs => cmpOk n x && cmpOks n xs
end
mutual
/-- as plain data -/
def PV.data : PV → PyData
  | .bl b => .bool b
  | .int i => .int i
  | .str x => .str x
  | .tup xs => .tuple (PV.datas xs)
  | .lst xs => .list (PV.datas xs)
  | _ => .none
def PV.datas : List PV → List PyData
  | [] => []
  | x :: xs => x.data :: PV.datas xs
end
mutual
theorem data_ok : ∀ (n : Nat) (p : PV), cmpOk n p = true → p.data.canLay0 = true ∧ p.data.depth ≤ n
  | n, .non, h => ⟨rfl, Nat.zero_le _⟩
  | n, .bl _, h => ⟨rfl, Nat.zero_le _⟩
  | n, .int _, h => ⟨rfl, Nat.zero_le _⟩
  | n, .str x, h => by
    unfold cmpOk at h
    exact ⟨h, Nat.zero_le _⟩
  | n + 1, .lst xs, h => by
    unfold cmpOk at h
    obtain ⟨a, b⟩ := datas_ok n xs h
    exact ⟨a, Nat.succ_le_succ b⟩
  | n + 1, .tup xs, h => by
    unfold cmpOk at h
    obtain ⟨a, b⟩ := datas_ok n xs h
    exact ⟨a, Nat.succ_le_succ b⟩
  | 0, .lst xs, h => by unfold cmpOk at h; cases h
  | 0, .tup xs, h => by unfold cmpOk at h; cases h
  | n, .dT _ _, h => by unfold cmpOk at h; cases h
  | n, .scr _, h => by unfold cmpOk at h; cases h
  | n, .ob _ _ _, h => by unfold cmpOk at h; cases h
  | n, .ty _, h => by unfold cmpOk at h; cases h
  | n, .dK _ _, h => by unfold cmpOk at h; cases h
theorem datas_ok : ∀ (n : Nat) (p : List PV), cmpOks n p = true → PyData.canLayAll0 (PV.datas p) = true ∧ PyData.depthAll (PV.datas p) ≤ n
  | n, [], h => ⟨rfl, Nat.zero_le _⟩
  | n, x :: xs, h => by
    unfold cmpOks at h
    rw [Bool.and_eq_true] at h
    obtain ⟨a, b⟩ := data_ok n x h.1
    obtain ⟨c, d⟩ := datas_ok n xs h.2
    refine ⟨?_, ?_⟩
    · show (x.data.canLay0 && PyData.canLayAll0 (PV.datas xs)) = true
      rw [a, c]
      rfl
    · show max x.data.depth (PyData.depthAll (PV.datas xs)) ≤ n
      omega
end
mutual
theorem eqP_data : ∀ (n : Nat) (p : PV), cmpOk n p = true → ∀ (m : Nat) (q : PV), cmpOk m q = true → PyData.eqv p.data q.data = eqP p q
  | n, .non, h, m, q, hq => by cases q <;> first | rfl | (unfold cmpOk at hq; cases hq)
  | n, .bl _, h, m, q, hq => by cases q <;> first | rfl | (unfold cmpOk at hq; cases hq)
  | n, .int _, h, m, q, hq => by cases q <;> first | rfl | (unfold cmpOk at hq; cases hq)
  | n, .str x, h, m, q, hq => by cases q <;> first | rfl | (unfold cmpOk at hq; cases hq)
  | n + 1, .lst xs, h, m, q, hq => by
    cases q with
    | lst ys =>
      cases m with
      | zero => unfold cmpOk at hq; cases hq
      | succ m =>
        unfold cmpOk at h hq
        show PyData.eqvAll (PV.datas xs) (PV.datas ys) = eqPs xs ys
        exact eqPs_data n xs h m ys hq
    | dT _ _ => unfold cmpOk at hq; cases hq
    | scr _ => unfold cmpOk at hq; cases hq
    | ob _ _ _ => unfold cmpOk at hq; cases hq
    | ty _ => unfold cmpOk at hq; cases hq
    | dK _ _ => unfold cmpOk at hq; cases hq
    | _ => rfl
  | n + 1, .tup xs, h, m, q, hq => by
    cases q with
    | tup ys =>
      cases m with
      | zero => unfold cmpOk at hq; cases hq
      | succ m =>
        unfold cmpOk at h hq
        show PyData.eqvAll (PV.datas xs) (PV.datas ys) = eqPs xs ys
        exact eqPs_data n xs h m ys hq
    | dT _ _ => unfold cmpOk at hq; cases hq
    | scr _ => unfold cmpOk at hq; cases hq
    | ob _ _ _ => unfold cmpOk at hq; cases hq
    | ty _ => unfold cmpOk at hq; cases hq
    | dK _ _ => unfold cmpOk at hq; cases hq
    | _ => rfl
  | 0, .lst xs, h, _, _, _ => by unfold cmpOk at h; cases h
  | 0, .tup xs, h, _, _, _ => by unfold cmpOk at h; cases h
  | n, .dT _ _, h, _, _, _ => by unfold cmpOk at h; cases h
  | n, .scr _, h, _, _, _ => by unfold cmpOk at h; cases h
  | n, .ob _ _ _, h, _, _, _ => by unfold cmpOk at h; cases h
  | n, .ty _, h, _, _, _ => by unfold cmpOk at h; cases h
  | n, .dK _ _, h, _, _, _ => by unfold cmpOk at h; cases h
theorem eqPs_data : ∀ (n : Nat) (p : List PV), cmpOks n p = true → ∀ (m : Nat) (q : List PV), cmpOks m q = true → PyData.eqvAll (PV.datas p) (PV.datas q) = eqPs p q
  | n, [], h, m, q, hq => by cases q <;> rfl
  | n, x :: xs, h, m, q, hq => by
    cases q with
    | nil => rfl
    | cons y ys =>
      unfold cmpOks at h hq
      rw [Bool.and_eq_true] at h hq
      show (PyData.eqv x.data y.data && PyData.eqvAll (PV.datas xs) (PV.datas ys)) = (eqP x y && eqPs xs ys)
      rw [eqP_data n x h.1 m y hq.1, eqPs_data n xs h.2 m ys hq.2]
end
section
variable {K : PySem.W.Frag} {F H : Hp}
mutual
theorem dp_of (fh : FH F H) : ∀ (n : Nat) (p : PV), cmpOk n p = true → ∀ v, RepV K F p v → Dp K H v p.data
  | n, .non, h, v, r => by unfold RepV at r; subst r; exact .non
  | n, .bl _, h, v, r => by unfold RepV at r; subst r; exact .bl _
  | n, .int _, h, v, r => by unfold RepV at r; subst r; exact .int _
  | n, .str x, h, v, r => by unfold RepV at r; subst r; exact .str _
  | n + 1, .lst xs, h, v, r => by
    unfold RepV at r
    unfold cmpOk at h
    obtain ⟨a, vs, rfl, e, r⟩ := r
    exact .lst (.inl (.inl (fh.lst e))) (dps_of fh n xs h vs r)
  | n + 1, .tup xs, h, v, r => by
    unfold RepV at r
    unfold cmpOk at h
    obtain ⟨a, vs, rfl, e, r⟩ := r
    exact .tup (.of (fh.tup e)) (dps_of fh n xs h vs r)
  | 0, .lst xs, h, _, _ => by unfold cmpOk at h; cases h
  | 0, .tup xs, h, _, _ => by unfold cmpOk at h; cases h
  | n, .dT _ _, h, _, _ => by unfold cmpOk at h; cases h
  | n, .scr _, h, _, _ => by unfold cmpOk at h; cases h
  | n, .ob _ _ _, h, _, _ => by unfold cmpOk at h; cases h
  | n, .ty _, h, _, _ => by unfold cmpOk at h; cases h
  | n, .dK _ _, h, _, _ => by unfold cmpOk at h; cases h
theorem dps_of (fh : FH F H) : ∀ (n : Nat) (p : List PV), cmpOks n p = true → ∀ vs, RepVs K F p vs → DpAll K H vs (PV.datas p)
  | n, [], h, vs, r => by rw [r.nil_inv]; exact .nil
  | n, x :: xs, h, vs, r => by
    obtain ⟨v, t, rfl, r1, r2⟩ := r.cons_inv
    unfold cmpOks at h
    rw [Bool.and_eq_true] at h
    exact .cons (dp_of fh n x h.1 v r1) (dps_of fh n xs h.2 t r2)
end
theorem dpB_of (fh : FH F H) {n : Nat} {p : PV} {v : V} (h : cmpOk n p = true) (r : RepB K F H p v) : Dp K H v p.data := by
  cases p with
  | lst xs =>
    cases n with
    | zero => unfold cmpOk at h; cases h
    | succ n =>
      unfold cmpOk at h
      obtain ⟨a, vs, rfl, e, r⟩ := r
      exact .lst (.inl (.inl e)) (dps_of fh n xs h vs r)
  | dT _ _ => unfold cmpOk at h; cases h
  | scr _ => unfold cmpOk at h; cases h
  | ob _ _ _ => unfold cmpOk at h; cases h
  | ty _ => unfold cmpOk at h; cases h
  | dK _ _ => unfold cmpOk at h; cases h
  | non => exact dp_of fh n _ h v r
  | bl _ => exact dp_of fh n _ h v r
  | int _ => exact dp_of fh n _ h v r
  | str _ => exact dp_of fh n _ h v r
  | tup _ => exact dp_of fh n _ h v r
end
theorem shaped_of {p : PV} (h : cmpOk 64 p = true) : SeqAt.shaped p.data = true := by
  obtain ⟨a, b⟩ := data_ok 64 p h
  unfold SeqAt.shaped
  rw [a, decide_eq_true b]
  rfl
def pEq : PV → PV → Option RV := fun a b => if (cmpOk 64 a && cmpOk 64 b) = true then some (.val (.bl (eqP a b))) else none
def pNe : PV → PV → Option RV := fun a b => if (cmpOk 64 a && cmpOk 64 b) = true then some (.val (.bl (!eqP a b))) else none
theorem prim_eq {K : PySem.W.Frag} : Prim2 K (rEqD K) pEq := by
  intro x y F H Q a b res fh ra rb e q
  unfold pEq at e
  split at e
  · rename_i h
    rw [Bool.and_eq_true] at h
    cases e
    exact ⟨_, _, dpB_of fh h.1 ra, dpB_of fh h.2 rb, shaped_of h.1, shaped_of h.2, by rw [eqP_data 64 a h.1 64 b h.2]; exact giveB fh q⟩
  · cases e
theorem prim_ne {K : PySem.W.Frag} : Prim2 K (rNeD K) pNe := by
  intro x y F H Q a b res fh ra rb e q
  unfold pNe at e
  split at e
  · rename_i h
    rw [Bool.and_eq_true] at h
    cases e
    exact ⟨_, _, dpB_of fh h.1 ra, dpB_of fh h.2 rb, shaped_of h.1, shaped_of h.2, by rw [eqP_data 64 a h.1 64 b h.2]; exact giveB fh q⟩
  · cases e
end Pu

set_option Elab.async false
set_option linter.all false
set_option maxRecDepth 100000
/-! Pu13: is, in, chains, isinstance, calls of built-ins, subscripts, slices. -/
namespace Pu
open PySem PySem.Spec PyProof.Rows L2

/-! ### is None, is True -/
def isP : PV → PV → Option Bool := fun a b => match b with
  | .non => some (match a with | .non => true | _ => false)
  | .bl k => some (match a with | .bl j => j == k | _ => false)
  | _ => none
def pIs : PV → PV → Option RV := fun a b => (isP a b).map fun k => .val (.bl k)
def pIsNot : PV → PV → Option RV := fun a b => (isP a b).map fun k => .val (.bl (!k))
def rIs : R2 := fun x y H Q => (y = .non ∨ ∃ k, y = .bl k) ∧ Q (.bl (decide (x = y))) H
def rIsNot : R2 := fun x y H Q => (y = .non ∨ ∃ k, y = .bl k) ∧ Q (.bl (!decide (x = y))) H
section
variable {X : Cx}
theorem isSame_B {M : Model} {A : Around} {E : Value → Shared → Prop} {s : Shared} {x : V} {v : Value} {k : Bool} {Q : Bool → Shared → Prop} (rx : RelV x v) (h : Q (decide (x = .bl k)) s) : wpAny M A (isSame v (.bool k)) Q E s := by
  cases x with
  | non => cases rx; exact wpAny_pure h
  | bl b =>
    cases rx
    have e : (Value.bool b == Value.bool k) = decide (V.bl b = V.bl k) := by cases b <;> cases k <;> rfl
    exact wpAny_pure (by rw [e]; exact h)
  | int i => obtain ⟨t, rfl⟩ := rx; exact wpAny_pure h
  | str i => obtain ⟨t, rfl⟩ := rx; exact wpAny_pure h
  | byt i => obtain ⟨t, rfl⟩ := rx; exact wpAny_pure h
  | flt i => obtain ⟨t, rfl⟩ := rx; exact wpAny_pure h
  | ref a => cases rx; exact wpAny_pure h
  | ty n => cases rx; exact wpAny_pure h
theorem op_is : OpR X (compareOp .Is) rIs := by
  intro pins s σ H x y v u Q I rx ry h
  obtain ⟨(rfl | ⟨k, rfl⟩), q⟩ := h
  · exact op_isN pins s σ H x _ v u Q I rx ry ⟨rfl, q⟩
  · cases (show u = Value.bool k from ry)
    show wpAny _ _ ((do return Value.bool (← isSame v (.bool k))) : Sem Value) _ _ s
    exact wpAny_bind (isSame_B rx (wpAny_pure ⟨.bl _, H, I, rfl, q⟩))
theorem op_isNot : OpR X (compareOp .IsNot) rIsNot := by
  intro pins s σ H x y v u Q I rx ry h
  obtain ⟨(rfl | ⟨k, rfl⟩), q⟩ := h
  · exact op_notN pins s σ H x _ v u Q I rx ry ⟨rfl, q⟩
  · cases (show u = Value.bool k from ry)
    show wpAny _ _ ((do return Value.bool (!(← isSame v (.bool k)))) : Sem Value) _ _ s
    exact wpAny_bind (isSame_B rx (wpAny_pure ⟨.bl _, H, I, rfl, q⟩))
end
section
variable {K : PySem.W.Frag} {F H : Hp}
theorem repB_ref {p : PV} {v : V} (r : RepB K F H p v) : (p = .non ∧ v = .non) ∨ (∃ b, p = .bl b ∧ v = .bl b) ∨ (∃ i, p = .int i ∧ v = .int i) ∨ (∃ x, p = .str x ∧ v = .str x) ∨ (∃ n, p = .ty n ∧ v = .ty n) ∨ ((∃ a, v = .ref a) ∧ ((∃ xs, p = .tup xs) ∨ (∃ xs, p = .lst xs) ∨ (∃ ks xs, p = .dT ks xs) ∨ (∃ ks xs, p = .dK ks xs) ∨ (∃ C ns xs, p = .ob C ns xs) ∨ ∃ ns, p = .scr ns)) := by
  cases p with
  | non => exact .inl ⟨rfl, repBN r⟩
  | bl b => exact .inr (.inl ⟨b, rfl, repBB r⟩)
  | int i => exact .inr (.inr (.inl ⟨i, rfl, repBI r⟩))
  | str x => exact .inr (.inr (.inr (.inl ⟨x, rfl, repBS r⟩)))
  | ty n =>
    have r : RepV K F (.ty n) v := r
    unfold RepV at r
    exact .inr (.inr (.inr (.inr (.inl ⟨n, rfl, r⟩))))
  | tup xs => obtain ⟨a, vs, rfl, _⟩ := repBT r; exact .inr (.inr (.inr (.inr (.inr ⟨⟨a, rfl⟩, .inl ⟨xs, rfl⟩⟩))))
  | lst xs => obtain ⟨a, vs, rfl, _⟩ := r; exact .inr (.inr (.inr (.inr (.inr ⟨⟨a, rfl⟩, .inr (.inl ⟨xs, rfl⟩)⟩))))
  | dT ks xs => obtain ⟨a, vs, rfl, _⟩ := r; exact .inr (.inr (.inr (.inr (.inr ⟨⟨a, rfl⟩, .inr (.inr (.inl ⟨ks, xs, rfl⟩))⟩))))
  | dK ks xs => obtain ⟨a, vs, rfl, _⟩ := r; exact .inr (.inr (.inr (.inr (.inr ⟨⟨a, rfl⟩, .inr (.inr (.inr (.inl ⟨ks, xs, rfl⟩)))⟩))))
  | ob C ns xs => obtain ⟨a, vs, rfl, _⟩ := r; exact .inr (.inr (.inr (.inr (.inr ⟨⟨a, rfl⟩, .inr (.inr (.inr (.inr (.inl ⟨C, ns, xs, rfl⟩))))⟩))))
  | scr ns =>
    have r : RepV K F (.scr ns) v := r
    unfold RepV at r
    obtain ⟨a, rfl, _⟩ := r
    exact .inr (.inr (.inr (.inr (.inr ⟨⟨a, rfl⟩, .inr (.inr (.inr (.inr (.inr ⟨ns, rfl⟩))))⟩))))
theorem isP_ok {a b : PV} {x y : V} {k : Bool} (ra : RepB K F H a x) (rb : RepB K F H b y) (e : isP a b = some k) : (y = .non ∨ ∃ k, y = .bl k) ∧ decide (x = y) = k := by
  cases b with
  | non =>
    rw [repBN rb]
    refine ⟨.inl rfl, ?_⟩
    rcases repB_ref ra with ⟨rfl, rfl⟩ | ⟨_, rfl, rfl⟩ | ⟨_, rfl, rfl⟩ | ⟨_, rfl, rfl⟩ | ⟨_, rfl, rfl⟩ | ⟨⟨_, rfl⟩, (⟨_, rfl⟩ | ⟨_, rfl⟩ | ⟨_, _, rfl⟩ | ⟨_, _, rfl⟩ | ⟨_, _, _, rfl⟩ | ⟨_, rfl⟩)⟩ <;> (cases e; rfl)
  | bl j =>
    rw [repBB rb]
    refine ⟨.inr ⟨j, rfl⟩, ?_⟩
    rcases repB_ref ra with ⟨rfl, rfl⟩ | ⟨i, rfl, rfl⟩ | ⟨_, rfl, rfl⟩ | ⟨_, rfl, rfl⟩ | ⟨_, rfl, rfl⟩ | ⟨⟨_, rfl⟩, (⟨_, rfl⟩ | ⟨_, rfl⟩ | ⟨_, _, rfl⟩ | ⟨_, _, rfl⟩ | ⟨_, _, _, rfl⟩ | ⟨_, rfl⟩)⟩ <;> first
      | (cases e; rfl)
      | (cases e; cases i <;> cases j <;> rfl)
  | _ => cases e
theorem prim_is : Prim2 K rIs pIs := by
  intro x y F H Q a b res fh ra rb e q
  unfold pIs at e
  cases ek : isP a b with
  | none => rw [ek] at e; cases e
  | some k =>
    rw [ek] at e
    cases e
    obtain ⟨h1, h2⟩ := isP_ok ra rb ek
    exact ⟨h1, by rw [h2]; exact giveB fh q⟩
theorem prim_isNot : Prim2 K rIsNot pIsNot := by
  intro x y F H Q a b res fh ra rb e q
  unfold pIsNot at e
  cases ek : isP a b with
  | none => rw [ek] at e; cases e
  | some k =>
    rw [ek] at e
    cases e
    obtain ⟨h1, h2⟩ := isP_ok ra rb ek
    exact ⟨h1, by rw [h2]; exact giveB fh q⟩
end

/-! ### in, not in: lists and tuples of flat items -/
def flatP : PV → Bool
  | .non => true
  | .bl _ => true
  | .int _ => true
  | .str _ => true
  | _ => false
def inP (a b : PV) : Option Bool := match b with
  | .tup ys => if (flatP a && ys.all flatP) = true then some (ys.any fun y => eqP y a) else none
  | .lst ys => if (flatP a && ys.all flatP) = true then some (ys.any fun y => eqP y a) else none
  | _ => none
def pIn : PV → PV → Option RV := fun a b => (inP a b).map fun k => .val (.bl k)
def pNotIn : PV → PV → Option RV := fun a b => (inP a b).map fun k => .val (.bl (!k))
section
variable {K : PySem.W.Frag} {F H : Hp}
theorem flat_ok {p : PV} {v : V} (h : flatP p = true) (r : RepB K F H p v) : flatV v = true ∧ ∀ {q : PV} {w : V}, flatP q = true → RepB K F H q w → eqV v w = eqP p q := by
  rcases repB_ref r with ⟨rfl, rfl⟩ | ⟨_, rfl, rfl⟩ | ⟨_, rfl, rfl⟩ | ⟨_, rfl, rfl⟩ | ⟨_, rfl, rfl⟩ | ⟨⟨_, rfl⟩, (⟨_, rfl⟩ | ⟨_, rfl⟩ | ⟨_, _, rfl⟩ | ⟨_, _, rfl⟩ | ⟨_, _, _, rfl⟩ | ⟨_, rfl⟩)⟩ <;> first
    | (refine ⟨rfl, fun {q w} hq rq => ?_⟩
       rcases repB_ref rq with ⟨rfl, rfl⟩ | ⟨_, rfl, rfl⟩ | ⟨_, rfl, rfl⟩ | ⟨_, rfl, rfl⟩ | ⟨_, rfl, rfl⟩ | ⟨⟨_, rfl⟩, (⟨_, rfl⟩ | ⟨_, rfl⟩ | ⟨_, _, rfl⟩ | ⟨_, _, rfl⟩ | ⟨_, _, _, rfl⟩ | ⟨_, rfl⟩)⟩ <;> first
         | rfl
         | cases hq)
    | cases h
theorem flats_ok (fh : FH F H) {a : PV} {x : V} (ha : flatP a = true) (ra : RepB K F H a x) : ∀ {ys : List PV} {vs : List V}, RepVs K F ys vs → ys.all flatP = true → vs.all flatV = true ∧ inV x vs = ys.any fun y => eqP y a
  | [], _, r, _ => by rw [r.nil_inv]; exact ⟨rfl, rfl⟩
  | y :: ys, _, r, h => by
    obtain ⟨v, t, rfl, r1, r2⟩ := r.cons_inv
    rw [List.all_cons, Bool.and_eq_true] at h
    obtain ⟨f1, f2⟩ := flat_ok h.1 (r1.b fh)
    obtain ⟨g1, g2⟩ := flats_ok fh ha ra r2 h.2
    refine ⟨by rw [List.all_cons, f1, g1]; rfl, ?_⟩
    show (List.any (v :: t) fun y => eqV y x) = _
    rw [List.any_cons, List.any_cons, f2 ha ra]
    exact congrArg _ g2
theorem inP_ok (fh : FH F H) {a b : PV} {x y : V} {k : Bool} (ra : RepB K F H a x) (rb : RepB K F H b y) (e : inP a b = some k) : ∃ p xs, y = .ref p ∧ (SqL K H p xs ∨ SqT K H p xs) ∧ flatV x = true ∧ xs.all flatV = true ∧ inV x xs = k := by
  cases b with
  | tup ys =>
    have e : (if (flatP a && ys.all flatP) = true then some (ys.any fun y => eqP y a) else none) = some k := e
    split at e
    · rename_i h
      rw [Bool.and_eq_true] at h
      cases e
      obtain ⟨p, vs, rfl, s, r⟩ := repBT rb
      obtain ⟨g1, g2⟩ := flats_ok fh h.1 ra r h.2
      exact ⟨p, vs, rfl, .inr (.of (fh.tup s)), (flat_ok h.1 ra).1, g1, g2⟩
    · cases e
  | lst ys =>
    have e : (if (flatP a && ys.all flatP) = true then some (ys.any fun y => eqP y a) else none) = some k := e
    split at e
    · rename_i h
      rw [Bool.and_eq_true] at h
      cases e
      obtain ⟨p, vs, rfl, s, r⟩ := rb
      obtain ⟨g1, g2⟩ := flats_ok fh h.1 ra r h.2
      exact ⟨p, vs, rfl, .inl (.inl (.inl s)), (flat_ok h.1 ra).1, g1, g2⟩
    · cases e
  | _ => cases e
theorem prim_in : Prim2 K (rIn K false) pIn := by
  intro x y F H Q a b res fh ra rb e q
  unfold pIn at e
  cases ek : inP a b with
  | none => rw [ek] at e; cases e
  | some k =>
    rw [ek] at e
    cases e
    obtain ⟨p, xs, h1, h2, h3, h4, h5⟩ := inP_ok fh ra rb ek
    exact ⟨p, xs, h1, h2, h3, h4, by rw [if_neg Bool.false_ne_true, h5]; exact giveB fh q⟩
theorem prim_notIn : Prim2 K (rIn K true) pNotIn := by
  intro x y F H Q a b res fh ra rb e q
  unfold pNotIn at e
  cases ek : inP a b with
  | none => rw [ek] at e; cases e
  | some k =>
    rw [ek] at e
    cases e
    obtain ⟨p, xs, h1, h2, h3, h4, h5⟩ := inP_ok fh ra rb ek
    exact ⟨p, xs, h1, h2, h3, h4, by rw [if_pos rfl, h5]; exact giveB fh q⟩
end

/-! ### a op b op c -/
def mChain (f g : PV → PV → Option RV) (ma mb mc : M) : M := fun ρ => (mOp ma ρ).bind fun p1 => (mOp mb p1.2).bind fun p2 =>
  (liftO (deref p2.2 p1.1)).bind fun a => (liftO (deref p2.2 p2.1)).bind fun b => (liftO (f a b)).bind fun r => (liftO r.bl?).bind fun k =>
    if k = true then (mOp mc p2.2).bind fun p3 => (liftO (deref p3.2 p2.1)).bind fun b => (liftO (deref p3.2 p3.1)).bind fun c => (liftO (g b c)).bind fun r => .ok (r, p3.2)
    else .ok (.val (.bl false), p2.2)
theorem tM_chain {K : PySem.W.Frag} {W : WX} {σ : L2.St} {H : Hp} {f g : PV → PV → Option RV} {ma mb mc : M} {r r' : R2} {Q : VK} (hp : Prim2 K r f) (hp' : Prim2 K r' g) (h : tM K W (mChain f g ma mb mc) σ H Q) : tChain r r' (tM K W ma) (tM K W mb) (tM K W mc) σ H Q := by
  obtain ⟨ρ, F, rel, h⟩ := h
  refine tM_op rel h fun r1 ρ1 x F1 H1 es1 q1 h1 => ?_
  refine tM_op es1.rel h1 fun r2 ρ2 y F2 H2 es2 q2 h2 => ?_
  obtain ⟨a, ea, h3⟩ := h2.lift
  obtain ⟨b, eb, h4⟩ := h3.lift
  obtain ⟨res, er, h5⟩ := h4.lift
  obtain ⟨k, ek, h6⟩ := h5.lift
  have er' := bl?_inv ek
  subst er'
  refine hp x y F2 H2 _ a b _ es2.rel.fh ((q1.mono es2.st.ff).b es2.rel ea) (q2.b es2.rel eb) er fun z F3 H3 gr rn => ?_
  have rz : z = .bl k := by
    have rn : RepV K F3 (.bl k) z := rn
    unfold RepV at rn
    exact rn
  subst rz
  refine ⟨k, rfl, ?_⟩
  have es3 := gr.es es2.rel
  have esA := (es1.trans es2).trans es3
  cases k with
  | true =>
    rw [if_pos rfl] at h6 ⊢
    refine tM_op es3.rel (h6.shift es3) fun r3 ρ4 w F4 H4 es4 q4 h7 => ?_
    obtain ⟨b', eb', h8⟩ := h7.lift
    obtain ⟨c, ec, h9⟩ := h8.lift
    obtain ⟨res, er2, h10⟩ := h9.lift
    have h10 : ∀ v F' H', ES K ρ σ F H ρ4 σ F' H' → RepR K (Free H) F' H' ρ4 σ res v → Q v H' := h10
    refine hp' y w F4 H4 _ b' c _ es4.rel.fh ((q2.mono (es3.trans es4).st.ff).b es4.rel eb') (q4.b es4.rel ec) er2 fun z F5 H5 gr5 rn5 => ?_
    refine h10 z F5 H5 ((esA.trans es4).trans (gr5.es es4.rel)) ?_
    exact (rn5.rr es4.rel).weak fun a ha => (esA.trans es4).free ha
  | false =>
    rw [if_neg Bool.false_ne_true] at h6 ⊢
    have h6 : ∀ v F' H', ES K ρ σ F H ρ2 σ F' H' → RepR K (Free H) F' H' ρ2 σ (.val (.bl false)) v → Q v H' := h6
    exact h6 _ F3 H3 esA (repBl (K := K) (F := F3))
section
variable {X : Cx} {W : WX} {a b c : Expr} {ma mb mc : M} {pos : Pos}
theorem SE.chain {op op' : CmpOp} {r r' : R2} {f g : PV → PV → Option RV} (ho : OpR X (compareOp op) r) (hp : Prim2 X.K r f) (ho' : OpR X (compareOp op') r') (hp' : Prim2 X.K r' g) (ha : SE X W a ma) (hb : SE X W b mb) (hc : SE X W c mc)
    (hm : lastMarks [op, op'] [b, c] = false := by with_unfolding_all rfl) : SE X W (.Compare a [op, op'] [b, c] pos) (mChain f g ma mb mc) :=
  PE.imp (pe_chain ho ho' ha hb hc hm) fun _ _ _ h => tM_chain hp hp' h
theorem ST.chain {op op' : CmpOp} {r r' : R2} {f g : PV → PV → Option RV} (ho : OpR X (compareOp op) r) (hp : Prim2 X.K r f) (ho' : OpR X (compareOp op') r') (hp' : Prim2 X.K r' g) (ha : SE X W a ma) (hb : SE X W b mb) (hc : SE X W c mc)
    (hm : lastMarks [op, op'] [b, c] = false := by with_unfolding_all rfl) : ST X W (.Compare a [op, op'] [b, c] pos) (mTest (mChain f g ma mb mc)) :=
  PT.imp (pt_chain ho ho' ha hb hc hm) fun _ _ _ h => by
    obtain ⟨ρ, F, R, q⟩ := tM_test h
    exact tM_chain hp hp' ⟨ρ, F, R, q⟩
end

/-! ### isinstance -/
def tyName : PV → Option String
  | .non => some "NoneType"
  | .bl _ => some "bool"
  | .int _ => some "int"
  | .str _ => some "str"
  | .tup _ => some "tuple"
  | .lst _ => some "list"
  | .dT _ _ => none
  | .dK _ _ => some "dict"
  | .ty _ => none
  | .ob _ _ _ => none
  | .scr _ => none
def isiB (t n : String) : Option Bool := kitB t n
def fIsi : List PV → Option RV := fun as => match as with
  | [a, .ty n] => (tyName a).bind fun t => (isiB t n).map fun b => .val (.bl b)
  | _ => none
section
variable {K : PySem.W.Frag} {F H : Hp}
theorem tyX_of (fh : FH F H) {p : PV} {v : V} {t : String} (r : RepB K F H p v) (e : tyName p = some t) : TyX K H v (.type t) := by
  cases p with
  | non => cases e; rw [repBN r]; exact .base .non
  | bl b => cases e; rw [repBB r]; exact .base (.bl b)
  | int i => cases e; rw [repBI r]; exact .base (.int i)
  | str x => cases e; rw [repBS r]; exact .base (.str x)
  | tup xs => cases e; obtain ⟨a, vs, rfl, s, _⟩ := repBT r; exact .base (.tup (fh.tup s))
  | lst xs => cases e; obtain ⟨a, vs, rfl, s, _⟩ := r; exact .base (.lst s)
  | dT ks xs => cases e
  | dK ks xs =>
    cases e
    obtain ⟨a, vs, rfl, s, _⟩ := r
    rcases s with s | ⟨o, s⟩
    · exact .base (.dK s)
    · exact .fDict s
  | ty n => cases e
  | ob C ns xs => cases e
  | scr ns => cases e
theorem repBTy {n : String} {x : V} (h : RepB K F H (.ty n) x) : x = .ty n := by
  have h : RepV K F (.ty n) x := h
  unfold RepV at h
  exact h
theorem prim_isi : PrimA K (rIsi K) fIsi := by
  intro xs F H Q as res fh ra e q
  unfold fIsi at e
  split at e
  · rename_i a n
    cases ra with
    | cons r1 r2 =>
      cases r2 with
      | cons r2 r3 =>
        cases r3
        cases et : tyName a with
        | none => rw [et] at e; cases e
        | some t =>
          rw [et] at e
          have e : ((isiB t n).map fun b => RV.val (.bl b)) = some res := e
          cases eb : isiB t n with
          | none => rw [eb] at e; cases e
          | some b =>
            rw [eb] at e
            cases e
            rw [repBTy r2]
            exact ⟨_, _, _, _, b, rfl, .ty n, tyX_of fh r1 et, kit_ty eb, giveB fh q⟩
  · cases e
end

/-! ### calls of built-ins -/
def fLen : List PV → Option RV := fun as => match as with
  | [.str x] => if szOk x.length = true then some (.val (.int x.length)) else none
  | [.tup xs] => some (.val (.int xs.length))
  | [.lst xs] => some (.val (.int xs.length))
  | _ => none
def fAbs : List PV → Option RV := fun as => match as with
  | [.int i] => some (.val (.int (if i < 0 then -i else i)))
  | _ => none
def fInt : List PV → Option RV := fun as => match as with
  | [.int i] => some (.val (.int i))
  | _ => none
def fMin2 : List PV → Option RV := fun as => match as with
  | [.int i, .int j] => some (.val (.int (if j < i then j else i)))
  | _ => none
def fMax2 : List PV → Option RV := fun as => match as with
  | [.int i, .int j] => some (.val (.int (if j > i then j else i)))
  | _ => none
def fOrd : List PV → Option RV := fun as => match as with
  | [.str x] => if x.length = 1 then some (.val (.int (x.cps.getD 0 0 : Nat))) else none
  | _ => none
def fList : List PV → Option RV := fun as => match as with
  | [.tup xs] => some (.new (.lst xs))
  | [.lst xs] => some (.new (.lst xs))
  | [.scr ns] => some (.new (.lst (ns.map PV.int)))
  | _ => none
def fTuple : List PV → Option RV := fun as => match as with
  | [.tup xs] => some (.val (.tup xs))
  | [.lst xs] => some (.val (.tup xs))
  | _ => none
def blsOf : List PV → Option (List Bool)
  | [] => some []
  | .bl b :: xs => (blsOf xs).map fun bs => b :: bs
  | _ => none
def fAll : List PV → Option RV := fun as => match as with
  | [.lst xs] => (blsOf xs).map fun bs => .val (.bl (bs.all id))
  | _ => none
def fAny : List PV → Option RV := fun as => match as with
  | [.lst xs] => (blsOf xs).map fun bs => .val (.bl (bs.any id))
  | _ => none
section
variable {K : PySem.W.Frag} {F H : Hp}
theorem repBs1 {a : PV} {xs : List V} (h : RepBs K F H [a] xs) : ∃ v, xs = [v] ∧ RepB K F H a v := by
  cases h with
  | cons r1 r2 => cases r2; exact ⟨_, rfl, r1⟩
theorem repBs2 {a b : PV} {xs : List V} (h : RepBs K F H [a, b] xs) : ∃ v w, xs = [v, w] ∧ RepB K F H a v ∧ RepB K F H b w := by
  cases h with
  | cons r1 r2 =>
    cases r2 with
    | cons r2 r3 => cases r3; exact ⟨_, _, rfl, r1, r2⟩
theorem prim_len : PrimA K (fun xs H Q => ∃ x n, xs = [x] ∧ LenV K x H n ∧ Q (.int n) H) fLen := by
  intro xs F H Q as res fh ra e q
  unfold fLen at e
  split at e
  · obtain ⟨v, rfl, r⟩ := repBs1 ra
    split at e
    · rename_i hz
      cases e
      rw [repBS r]
      exact ⟨_, _, rfl, ⟨szOk_inv hz, rfl⟩, giveI fh q⟩
    · cases e
  · obtain ⟨v, rfl, r⟩ := repBs1 ra
    cases e
    obtain ⟨a, vs, rfl, s, r⟩ := repBT r
    exact ⟨_, vs.length, rfl, .inr ⟨vs, .of (fh.tup s), rfl⟩, by rw [← r.length]; exact giveI fh q⟩
  · obtain ⟨v, rfl, r⟩ := repBs1 ra
    cases e
    obtain ⟨a, vs, rfl, s, r⟩ := r
    exact ⟨_, vs.length, rfl, .inl ⟨vs, .inl (.inl s), rfl⟩, by rw [← r.length]; exact giveI fh q⟩
  · cases e
theorem prim_abs : PrimA K (fun xs H Q => ∃ i, xs = [.int i] ∧ Q (.int (if i < 0 then -i else i)) H) fAbs := by
  intro xs F H Q as res fh ra e q
  unfold fAbs at e
  split at e
  · obtain ⟨v, rfl, r⟩ := repBs1 ra
    cases e
    rw [repBI r]
    exact ⟨_, rfl, giveI fh q⟩
  · cases e
theorem prim_int : PrimA K (fun xs H Q => (∃ i, xs = [.int i] ∧ Q (.int i) H) ∨ ∃ k, xs = [.bl k] ∧ Q (.int (if k then 1 else 0)) H) fInt := by
  intro xs F H Q as res fh ra e q
  unfold fInt at e
  split at e
  · obtain ⟨v, rfl, r⟩ := repBs1 ra
    cases e
    rw [repBI r]
    exact .inl ⟨_, rfl, giveI fh q⟩
  · cases e
theorem prim_min2 : PrimA K (fun xs H Q => ∃ i j, xs = [.int i, .int j] ∧ Q (.int (if j < i then j else i)) H) fMin2 := by
  intro xs F H Q as res fh ra e q
  unfold fMin2 at e
  split at e
  · obtain ⟨v, w, rfl, r, r2⟩ := repBs2 ra
    cases e
    rw [repBI r, repBI r2]
    exact ⟨_, _, rfl, giveI fh q⟩
  · cases e
theorem prim_max2 : PrimA K (fun xs H Q => ∃ i j, xs = [.int i, .int j] ∧ Q (.int (if j > i then j else i)) H) fMax2 := by
  intro xs F H Q as res fh ra e q
  unfold fMax2 at e
  split at e
  · obtain ⟨v, w, rfl, r, r2⟩ := repBs2 ra
    cases e
    rw [repBI r, repBI r2]
    exact ⟨_, _, rfl, giveI fh q⟩
  · cases e
theorem prim_ord : PrimA K (fun xs H Q => ∃ x, xs = [.str x] ∧ x.length = 1 ∧ Q (.int (x.cps.getD 0 0 : Nat)) H) fOrd := by
  intro xs F H Q as res fh ra e q
  unfold fOrd at e
  split at e
  · obtain ⟨v, rfl, r⟩ := repBs1 ra
    split at e
    · rename_i hz
      cases e
      rw [repBS r]
      exact ⟨_, rfl, hz, giveI fh q⟩
    · cases e
  · cases e
theorem reps_int : ∀ ns : List Int, RepVs K F (ns.map PV.int) (ns.map V.int)
  | [] => .nil
  | n :: ns => .cons (by unfold RepV; rfl) (reps_int ns)
theorem prim_list : PrimA K (fun xs H Q => ∃ p ys, xs = [.ref p] ∧ (SqL K H p ys ∨ SqT K H p ys) ∧ ∀ l, H l = none → Q (.ref l) (upd H l (.lst ys))) fList := by
  intro xs F H Q as res fh ra e q
  unfold fList at e
  split at e
  · obtain ⟨v, rfl, r⟩ := repBs1 ra
    cases e
    obtain ⟨a, vs, rfl, s, r⟩ := repBT r
    exact ⟨_, vs, rfl, .inr (.of (fh.tup s)), giveL fh r q⟩
  · obtain ⟨v, rfl, r⟩ := repBs1 ra
    cases e
    obtain ⟨a, vs, rfl, s, r⟩ := r
    exact ⟨_, vs, rfl, .inl (.inl (.inl s)), giveL fh r q⟩
  · obtain ⟨v, rfl, r⟩ := repBs1 ra
    cases e
    rename_i ns
    have r : RepV K F (.scr ns) v := r
    unfold RepV at r
    obtain ⟨a, rfl, s⟩ := r
    exact ⟨_, _, rfl, .inl (sqL_fh fh s), giveL fh (reps_int ns) q⟩
  · cases e
theorem prim_tuple : PrimA K (fun xs H Q => ∃ p ys, xs = [.ref p] ∧ ((SqL K H p ys ∧ ∀ l, H l = none → Q (.ref l) (upd H l (.tup ys))) ∨ (SqT K H p ys ∧ Q (.ref p) H))) fTuple := by
  intro xs F H Q as res fh ra e q
  unfold fTuple at e
  split at e
  · obtain ⟨v, rfl, r⟩ := repBs1 ra
    cases e
    obtain ⟨a, vs, rfl, s, r⟩ := repBT r
    exact ⟨_, vs, rfl, .inr ⟨.of (fh.tup s), giveT0 fh s r q⟩⟩
  · obtain ⟨v, rfl, r⟩ := repBs1 ra
    cases e
    obtain ⟨a, vs, rfl, s, r⟩ := r
    exact ⟨_, vs, rfl, .inl ⟨.inl (.inl s), giveT fh r q⟩⟩
  · cases e
theorem bls_ok : ∀ {xs : List PV} {bs : List Bool} {vs : List V}, blsOf xs = some bs → RepVs K F xs vs → vs = bs.map V.bl
  | [], bs, vs, e, r => by cases e; rw [r.nil_inv]; rfl
  | x :: xs, bs, vs, e, r => by
    obtain ⟨v, t, rfl, r1, r2⟩ := r.cons_inv
    cases x with
    | bl b =>
      have e : (blsOf xs).map (fun bs => b :: bs) = some bs := e
      cases eb : blsOf xs with
      | none => rw [eb] at e; cases e
      | some cs =>
        rw [eb] at e
        cases e
        unfold RepV at r1
        rw [r1, bls_ok eb r2]
        rfl
    | _ => cases e
theorem prim_all : PrimA K (rAll K) fAll := by
  intro xs F H Q as res fh ra e q
  unfold fAll at e
  split at e
  · obtain ⟨v, rfl, r⟩ := repBs1 ra
    rename_i ys
    cases eb : blsOf ys with
    | none => rw [eb] at e; cases e
    | some bs =>
      rw [eb] at e
      cases e
      obtain ⟨a, vs, rfl, s, r⟩ := r
      rw [bls_ok eb r] at s
      exact ⟨_, bs, rfl, .inl (.inl s), giveB fh q⟩
  · cases e
theorem prim_any : PrimA K (rAny K) fAny := by
  intro xs F H Q as res fh ra e q
  unfold fAny at e
  split at e
  · obtain ⟨v, rfl, r⟩ := repBs1 ra
    rename_i ys
    cases eb : blsOf ys with
    | none => rw [eb] at e; cases e
    | some bs =>
      rw [eb] at e
      cases e
      obtain ⟨a, vs, rfl, s, r⟩ := r
      rw [bls_ok eb r] at s
      exact ⟨_, bs, rfl, .inl (.inl s), giveB fh q⟩
  · cases e
end
section
variable {X : Cx} {W : WX}
/-- a built-in type's name -/
theorem SE.tyNm {x : Str} {n : String} {pos : Pos} (hg : Gl X x) (hm : X.mg x = none) (hv : bootBuiltins x = some (.type n)) (hn : x ≠ "__name__" := by decide) (hd : (x == ("__debug__" : Str)) = false := by decide) : SE X W (.Name x pos) (mK (.ty n)) :=
  SE.const (pe_bltn (v := V.ty n) hg hm hv rfl hn hd) fun F => by unfold RepV; rfl
end

/-! ### subscripts -/
def pIx : PV → PV → Option RV := fun a b => match a, b with
  | .tup xs, .int i => (atI xs i).map RV.val
  | .lst xs, .int i => (atI xs i).map RV.val
  | _, _ => none
section
variable {K : PySem.W.Frag} {F H : Hp}
theorem at_rep {xs : List PV} {vs : List V} {i : Int} {p : PV} (r : RepVs K F xs vs) (e : atI xs i = some p) : ∃ v, atI vs i = some v ∧ RepV K F p v := by
  unfold atI at e ⊢
  rw [← r.length]
  cases ej : ixN xs.length i with
  | none => rw [ej] at e; cases e
  | some j =>
    rw [ej] at e
    exact r.get e
theorem prim_ix : Prim2 K (rIx K) pIx := by
  intro x y F H Q a b res fh ra rb e q
  unfold pIx at e
  split at e
  · rename_i xs i
    cases ea : atI xs i with
    | none => rw [ea] at e; cases e
    | some p =>
      rw [ea] at e
      cases e
      obtain ⟨a, vs, rfl, s, r⟩ := repBT ra
      obtain ⟨v, ev, rv⟩ := at_rep r ea
      rw [repBI rb]
      exact .inr (.inl ⟨a, vs, i, v, rfl, rfl, .of (fh.tup s), ev, q v F H (Grow.refl fh) rv⟩)
  · rename_i xs i
    cases ea : atI xs i with
    | none => rw [ea] at e; cases e
    | some p =>
      rw [ea] at e
      cases e
      obtain ⟨a, vs, rfl, s, r⟩ := ra
      obtain ⟨v, ev, rv⟩ := at_rep r ea
      rw [repBI rb]
      exact .inl ⟨a, vs, i, v, rfl, rfl, .inl (.inl s), ev, q v F H (Grow.refl fh) rv⟩
  · cases e
end
section
variable {X : Cx} {W : WX} {a b : Expr} {ma mb : M} {pos : Pos}
theorem SE.ix (ha : SE X W a ma) (hb : SE X W b mb) (hs : PlainIx b := by intro _ _; rfl) : SE X W (.Subscript a b pos) (mBin pIx ma mb) :=
  PE.imp (pe_ix ix_seq ha hb hs) fun _ _ _ h => tM_bin prim_ix h
end

/-! ### slices -/
abbrev MO := Env → Res (Option Int × Env)
def tMO (K : PySem.W.Frag) (W : WX) (m : MO) : TO := fun σ H Q => ∃ ρ F, Rel K F H ρ σ ∧ Ok W ρ σ F H (m ρ) fun p => ∀ F' H', ES K ρ σ F H p.2 σ F' H' → Q p.1 H'
def SO (X : Cx) (W : WX) (e : Option Expr) (m : MO) : Prop := PO X e (tMO X.K W m)
def RV.int? : RV → Option Int
  | .val (.int i) => some i
  | _ => none
theorem int?_inv {r : RV} {i : Int} (h : r.int? = some i) : r = .val (.int i) := by
  cases r with
  | val p => cases p <;> first | (cases h; rfl) | cases h
  | bor i => cases h
  | new o => cases h
def mNoPart : MO := fun ρ => .ok (none, ρ)
def mPart (m : M) : MO := fun ρ => (m ρ).bind fun p => (liftO p.1.int?).bind fun i => .ok (some i, p.2)
theorem PO.imp {X : Cx} {e : Option Expr} {t t' : TO} (h : PO X e t) (i : ∀ σ H Q, t' σ H Q → t σ H Q) : PO X e t' := ⟨fun pins s σ H Q I q => h.run pins s σ H Q I (i _ _ _ q)⟩
/-- the items of xs[lo:hi] -/
def cutL {α : Type} (xs : List α) (lo hi : Option Int) : List α := (xs.drop (HT.sIx xs.length 0 lo)).take (HT.sIx xs.length xs.length hi - HT.sIx xs.length 0 lo)
theorem cut_rep {K : PySem.W.Frag} {F : Hp} {xs : List PV} {vs : List V} {lo hi : Option Int} (r : RepVs K F xs vs) : RepVs K F (cutL xs lo hi) (cutV vs lo hi) := by
  unfold cutL cutV
  rw [← r.length]
  exact (r.drop _).take _
theorem cut_all {α : Type} {xs : List α} {lo hi : Option Int} (h : HT.sIx xs.length 0 lo = 0 ∧ HT.sIx xs.length xs.length hi = xs.length) : cutL xs lo hi = xs := by
  unfold cutL
  rw [h.1, h.2, List.drop_zero, Nat.sub_zero, List.take_length]
def pSl (a : PV) (lo hi : Option Int) : Option RV := match a with
  | .tup xs => some (.val (.tup (cutL xs lo hi)))
  | .lst xs => some (.new (.lst (cutL xs lo hi)))
  | _ => none
def mSl (m : M) (ml mh : MO) : M := fun ρ => (mOp m ρ).bind fun p => (ml p.2).bind fun l => (mh l.2).bind fun h => (liftO (deref h.2 p.1)).bind fun a => (liftO (pSl a l.1 h.1)).bind fun r => .ok (r, h.2)
section
variable {X : Cx} {W : WX} {e : Expr} {lo hi : Option Expr} {m : M} {ml mh : MO} {pos p2 : Pos}
theorem SO.none : SO X W none mNoPart := PO.imp po_none fun σ H Q ⟨ρ, F, R, q⟩ => q F H (ES.refl R)
theorem SO.some (h : SE X W e m) : SO X W (some e) (mPart m) := PO.imp (po_some h) fun σ H Q ⟨ρ, F, R, q⟩ => ⟨ρ, F, R, q.of_bind.mono fun p hp v F1 H1 es rr => by
  obtain ⟨i, ei, h2⟩ := hp.lift
  have h2 : ∀ F' H', ES X.K ρ σ F H p.2 σ F' H' → Q (Option.some i) H' := h2
  rw [int?_inv ei] at rr
  have rr : RepV X.K F1 (.int i) v := rr
  unfold RepV at rr
  exact ⟨i, rr, h2 F1 H1 es⟩⟩
theorem SE.slice (h : SE X W e m) (hl : SO X W lo ml) (hh : SO X W hi mh) : SE X W (.Subscript e (.Slice lo hi Option.none p2) pos) (mSl m ml mh) :=
  PE.imp (pe_slice (sl_list.or sl_tupA) h hl hh) fun σ H Q ⟨ρ, F, R, q⟩ => by
    refine tM_op R q fun r ρ1 x F1 H1 es1 q1 h1 => ?_
    refine ⟨ρ1, F1, es1.rel, h1.of_bind.mono fun l h2 F2 H2 es2 => ?_⟩
    refine ⟨l.2, F2, es2.rel, (h2.shift es2).of_bind.mono fun u h3 F3 H3 es3 => ?_⟩
    have es := (es1.trans es2).trans es3
    obtain ⟨a, ea, h4⟩ := (h3.shift es3).lift
    obtain ⟨res, er, h5⟩ := h4.lift
    have h5 : ∀ v F' H', ES X.K ρ σ F H u.2 σ F' H' → RepR X.K (Free H) F' H' u.2 σ res v → Q v H' := h5
    have fh := es.rel.fh
    have rb := (q1.mono (es2.trans es3).st.ff).b es3.rel ea
    have fin : ∀ v F' H', Grow F3 H3 F' H' → RepN X.K H3 F' H' res v → Q v H' := fun v F' H' g rn => h5 v F' H' (es.trans (g.es es.rel)) ((rn.rr es.rel).weak fun a ha => es.free ha)
    cases a with
    | tup xs =>
      cases er
      obtain ⟨a, vs, rfl, s, r⟩ := repBT rb
      refine .inr ⟨a, vs, rfl, .of (fh.tup s), fun z => ?_, fun _ => giveT fh (cut_rep r) fin⟩
      rw [← r.length] at z
      rw [cut_all z] at fin
      exact giveT0 fh s r fin
    | lst xs =>
      cases er
      obtain ⟨a, vs, rfl, s, r⟩ := rb
      exact .inl ⟨a, vs, rfl, .inl (.inl s), giveL fh (cut_rep r) fin⟩
    | _ => cases er
end
end Pu

set_option Elab.async false
set_option linter.all false
set_option maxRecDepth 100000
/-! Pu14: what the printed texts want. -/
namespace Pu
open PySem PySem.Spec PyProof.Rows L2
def pAddI : PV → PV → Option RV := iop fun i j => some (.int (i + j))
theorem prim_addI {K : PySem.W.Frag} : Prim2 K (rI0 fun i j => .int (i + j)) pAddI := prim_i0
def pMulS : PV → PV → Option RV := iop fun i j => if (-18446744073709551616 < i ∧ i < 18446744073709551616) ∨ (-18446744073709551616 < j ∧ j < 18446744073709551616) then some (.int (i * j)) else none
theorem prim_mulS {K : PySem.W.Frag} : Prim2 K (rI CMul fun i j => .int (i * j)) pMulS := prim_i fun i j p F H Q fh e q => by
  split at e
  · rename_i h
    cases e
    refine ⟨i, j, rfl, rfl, ?_, giveI fh q⟩
    have z : (2 : Int) ^ 64 = 18446744073709551616 := by decide
    unfold CMul
    rw [z]
    exact h
  · cases e
/-- a def of the module, as the law's head finds it -/
structure FnF (K : PySem.W.Frag) (mg : Str → Option Value) (x qual : Str) (st : Stmt) (ps : List Str) where
  f : Addr
  fd : FuncData
  fn : Fun K x qual st f fd
  gl : mg x = some (.ref f)
  bd : Binds K fd ps []
abbrev RX0 : RXT := fun _ _ _ _ => False
theorem passZ {X : Cx} : Passes CX0 X (fun _ _ _ => False) := fun _ _ _ _ _ _ _ h => h.elim
theorem bt_len : bootBuiltins "len" = some (.builtin "len") := by decide +kernel
theorem bt_abs : bootBuiltins "abs" = some (.builtin "abs") := by decide +kernel
theorem bt_min : bootBuiltins "min" = some (.builtin "min") := by decide +kernel
theorem bt_max : bootBuiltins "max" = some (.builtin "max") := by decide +kernel
theorem bt_ord : bootBuiltins "ord" = some (.builtin "ord") := by decide +kernel
theorem bt_all : bootBuiltins "all" = some (.builtin "all") := by decide +kernel
theorem bt_any : bootBuiltins "any" = some (.builtin "any") := by decide +kernel
theorem bt_isinstance : bootBuiltins "isinstance" = some (.builtin "isinstance") := by decide +kernel
theorem bt_sum : bootBuiltins "sum" = some (.builtin "sum") := by decide +kernel
theorem bt_sorted : bootBuiltins "sorted" = some (.builtin "sorted") := by decide +kernel
theorem bt_int : bootBuiltins "int" = some (.type "int") := by decide +kernel
theorem bt_bool : bootBuiltins "bool" = some (.type "bool") := by decide +kernel
theorem bt_str : bootBuiltins "str" = some (.type "str") := by decide +kernel
theorem bt_tuple : bootBuiltins "tuple" = some (.type "tuple") := by decide +kernel
theorem bt_list : bootBuiltins "list" = some (.type "list") := by decide +kernel
theorem bt_dict : bootBuiltins "dict" = some (.type "dict") := by decide +kernel
theorem bt_range : bootBuiltins "range" = some (.type "range") := by decide +kernel
theorem bt_zip : bootBuiltins "zip" = some (.type "zip") := by decide +kernel
theorem bt_enumerate : bootBuiltins "enumerate" = some (.type "enumerate") := by decide +kernel
theorem bt_reversed : bootBuiltins "reversed" = some (.type "reversed") := by decide +kernel
theorem bt_set : bootBuiltins "set" = some (.type "set") := by decide +kernel
theorem bt_bytes : bootBuiltins "bytes" = some (.type "bytes") := by decide +kernel
section
variable {X : Cx} {W : WX} {tg iter elt : Expr} {ifs : List Expr} {scope : Scope} {own : List (Str × Nat)} {pos spos py : Pos} {S : List Nat} {mi : MI} {g : MG} {t : MT} {me : M}
/-- a comprehension stored to a local -/
theorem SS.asgLcL {y : Str} (hi : SI X W tg iter mi) (ok : BlkOk X.N X.env.scope scope own) (hN : X.N.Nodup)
    (hg : ∀ (s : Shared) (H : Hp) (C : Addr) (cl : List (Str × Addr)) (fp : List Addr), SG (X.blk s H scope (compEnvC scope cl C X.env) fp) S tg g) (ht : ∀ (s : Shared) (H : Hp) (C : Addr) (cl : List (Str × Addr)) (fp : List Addr), STs (X.blk s H scope (compEnvC scope cl C X.env) fp) W0 ifs t)
    (he : ∀ (s : Shared) (H : Hp) (C : Addr) (cl : List (Str × Addr)) (fp : List Addr), SE (X.blk s H scope (compEnvC scope cl C X.env) fp) W0 elt me) (hS : ∀ i ∈ S, i ∈ own.map (·.2)) (hc : X.calm = true) {i : Nat} (hy : X.N[i]? = some y) (hyl : X.env.scope.names.lookup y = some .local)
    (hsw : swapsWith (.ListComp elt [⟨tg, iter, ifs, 0⟩] scope pos) (some (.Name y py)) spos.line X.env = pure true := by rfl)
    (hs : ∀ x, foldedSetIterable iter X.env x = pure x := by intro _; rfl) :
    SS X W (.Assign [.Name y py] (.ListComp elt [⟨tg, iter, ifs, 0⟩] scope pos) spos) (mAsg i (mLc (own.map (·.2)) mi g t me)) :=
  SS.asgLc hi ok hN hy hyl hsw hg ht he hS hc hs
end
end Pu

set_option Elab.async false
set_option linter.all false
set_option maxRecDepth 100000
/-! Pu15: dicts of constants, d[k], join, extend. -/
namespace Pu
open PySem PySem.Spec PyProof.Rows L2

/-! ### {k: v, ..} of constants -/
def mNew (o : OB) : M := fun ρ => .ok (.new o, ρ)
def cPairs (kvs : List (Key × V)) : List (TE × TE) := kvs.map fun p => (tC (kV p.1), tC p.2)
theorem tPairs_c {σ : L2.St} {H : Hp} {Q : List (V × V) → Hp → Prop} : ∀ {kvs : List (Key × V)}, Q (kvs.map fun kv => (kV kv.1, kv.2)) H → tPairs (cPairs kvs) σ H Q
  | [], h => h
  | p :: kvs, h => tPairs_c (kvs := kvs) (Q := fun ps H3 => Q ((kV p.1, p.2) :: ps) H3) h
section
variable {X : Cx} {W : WX} {pos : Pos}
theorem cps_nil : PPs X pos [] [] (cPairs []) := pps_nil
theorem cps_cons {k v : Expr} {ks : List (Option Expr)} {vs : List Expr} {key : Key} {w : V} {kvs : List (Key × V)} (hk : PE X k (tC (kV key))) (hv : PE X v (tC w)) (hr : PPs X pos ks vs (cPairs kvs)) : PPs X pos (some k :: ks) (v :: vs) (cPairs ((key, w) :: kvs)) := pps_cons hk hv hr
theorem SE.dispC {keys : List (Option Expr)} {values : List Expr} {kvs : List (Key × V)} (ks : List Key) (xs : List PV) (vs : List V) (h : PPs X pos keys values (cPairs kvs)) (hm : mergeK [] kvs = ks.zip vs) (hl : ks.length = vs.length) (h15 : kvs.length ≤ 15)
    (hr : ∀ F, RepVs X.K F xs vs) (hall : keys.all (·.isSome) = true := by rfl) (hll : keys.length = values.length := by rfl) (h0 : keys ≠ [] := by simp) (hk15 : keys.length ≤ 15 := by simp) : SE X W (.Dict keys values pos) (mNew (.dK ks xs)) :=
  PE.imp (pe_disp h hall hll h0 hk15) fun σ H Q ⟨ρ, F, R, q⟩ => by
    have q : ∀ v F' H', ES X.K ρ σ F H ρ σ F' H' → RepR X.K (Free H) F' H' ρ σ (.new (.dK ks xs)) v → Q v H' := q
    intro p np
    refine tPairs_c ⟨upd_same, kvs, rfl, h15, ?_⟩
    have e : upd (upd H p (.dK [])) p (.dK (mergeK [] kvs)) = upd H p (.dK (ks.zip vs)) := by
      rw [hm]
      funext a
      by_cases z : a = p
      · subst z; rw [upd_same, upd_same]
      · rw [upd_ne z, upd_ne z, upd_ne z]
    rw [e]
    have g := Grow.obj (o := .dK (ks.zip vs)) R.fh np
    exact q _ F _ (g.es R) ⟨p, rfl, R.fh.none np, np, fun z => R.ownH z np, vs, upd_same, hl, hr F⟩
end

/-! ### d[k] -/
def pGet : PV → PV → Option RV := fun d k => match d with
  | .dK ks xs => (keyOf k).bind fun key => (look ks xs key).map RV.val
  | .dT ks xs => (tkeyOf k).bind fun key => (look ks xs key).map RV.val
  | _ => none
def rDGet : R2 := fun x y H Q => ∃ a v, x = .ref a ∧ DGet H a y (some v) ∧ Q v H
theorem prim_get {K : PySem.W.Frag} : Prim2 K rDGet pGet := by
  intro x y F H Q a b res fh ra rb e q
  unfold pGet at e
  split at e
  · rename_i ks xs
    cases ek : keyOf b with
    | none => rw [ek] at e; cases e
    | some key =>
      rw [ek] at e
      have e : (look ks xs key).map RV.val = some res := e
      cases el : look ks xs key with
      | none => rw [el] at e; cases e
      | some p =>
        rw [el] at e
        cases e
        obtain ⟨a, vs, rfl, s, l, r⟩ := ra
        obtain ⟨v, ev, rv⟩ := (look_rep (k := key) r l).1 p el
        rw [skeyOf_rep rb ek]
        exact ⟨a, v, rfl, .inl ⟨_, key, s, rfl, ev.symm⟩, q v F H (Grow.refl fh) rv⟩
  · rename_i ks xs
    cases ek : tkeyOf b with
    | none => rw [ek] at e; cases e
    | some key =>
      rw [ek] at e
      have e : (look ks xs key).map RV.val = some res := e
      cases el : look ks xs key with
      | none => rw [el] at e; cases e
      | some p =>
        rw [el] at e
        cases e
        obtain ⟨a, vs, rfl, s, l, r⟩ := ra
        obtain ⟨v, ev, rv⟩ := (look_rep (k := key) r l).1 p el
        obtain ⟨c, rfl, ec⟩ := tkeyOf_rep fh rb ek
        exact ⟨a, v, rfl, .inr ⟨_, key, c, s, rfl, ec, ev.symm⟩, q v F H (Grow.refl fh) rv⟩
  · cases e
section
variable {X : Cx} {W : WX} {o i e : Expr} {md mi m : M} {pos apos : Pos} {a : Str} {jk : Nat} {jp : Pos}
theorem SE.dget (hu : X.A.units + 1 < cLine) (ho : SE X W o md) (hi : SE X W i mi) (hs : NoSl i := by intro _ _; rfl) : SE X W (.Subscript o i pos) (mBin pGet md mi) :=
  PE.imp (pe_dget hu ho hi hs) fun _ _ _ h => tM_bin prim_get h

/-! ### sep.join(list of texts) -/
def strsOf : List PV → Option (List Str)
  | [] => some []
  | .str b :: xs => (strsOf xs).map fun bs => b :: bs
  | _ => none
theorem strs_ok {K : PySem.W.Frag} {F : Hp} : ∀ {xs : List PV} {bs : List Str} {vs : List V}, strsOf xs = some bs → RepVs K F xs vs → vs = bs.map V.str
  | [], bs, vs, e, r => by cases e; rw [r.nil_inv]; rfl
  | x :: xs, bs, vs, e, r => by
    obtain ⟨v, t, rfl, r1, r2⟩ := r.cons_inv
    cases x with
    | str b =>
      have e : (strsOf xs).map (fun bs => b :: bs) = some bs := e
      cases eb : strsOf xs with
      | none => rw [eb] at e; cases e
      | some cs =>
        rw [eb] at e
        cases e
        unfold RepV at r1
        rw [r1, strs_ok eb r2]
        rfl
    | _ => cases e
def pJoin (a : Str) : PV → Option RV := fun p => match p with
  | .lst xs => (strsOf xs).bind fun ys => if (ys.map (·.length)).sum + ys.length * a.length ≤ 16777216 then some (.val (.str (Txt.join a ys))) else none
  | _ => none
theorem SE.join (h : SE X W e m) (hs : starEach [e] X.env = [(false, eval e X.env)] := by rfl) (hbase : attributeBase (.Constant (.str a) jk jp) "join" X.env (eval (.Constant (.str a) jk jp) X.env) = eval (.Constant (.str a) jk jp) X.env := by rfl) (hline : (apos.endLine == pos.line) = true := by rfl) :
    SE X W (.Call (.Attribute (.Constant (.str a) jk jp) "join" apos) [e] [] pos) (mUn (pJoin a) m) :=
  PE.imp (pe_join pe_str h hs hbase hline) fun σ H Q ⟨ρ, F, R, q⟩ => by
    refine ⟨⟨a, rfl⟩, ?_⟩
    refine tM_op R q fun r ρ1 x F1 H1 es1 q1 h1 => ?_
    obtain ⟨p, ep, h2⟩ := h1.lift
    obtain ⟨res, er, h3⟩ := h2.lift
    have h3 : ∀ v F' H', ES X.K ρ σ F H ρ1 σ F' H' → RepR X.K (Free H) F' H' ρ1 σ res v → Q v H' := h3
    have rb := q1.b es1.rel ep
    cases p with
    | lst xs =>
      have er : ((strsOf xs).bind fun ys => if (ys.map (·.length)).sum + ys.length * a.length ≤ 16777216 then some (RV.val (.str (Txt.join a ys))) else none) = some res := er
      cases es : strsOf xs with
      | none => rw [es] at er; cases er
      | some ys =>
        rw [es] at er
        have er : (if (ys.map (·.length)).sum + ys.length * a.length ≤ 16777216 then some (RV.val (.str (Txt.join a ys))) else none) = some res := er
        split at er
        · rename_i hz
          cases er
          obtain ⟨b, vs, rfl, s, r⟩ := rb
          rw [strs_ok es r] at s
          exact ⟨a, b, ys, rfl, rfl, .inl (.inl (.inl s)), hz, h3 _ F1 H1 es1 (show RepV _ _ _ _ by unfold RepV; rfl)⟩
        · cases er
    | _ => cases er
end

/-! ### x.extend(e), e a list -/
def RV.lst? : RV → Option (List PV)
  | .val (.lst xs) => some xs
  | _ => none
theorem lst?_inv {r : RV} {xs : List PV} (h : r.lst? = some xs) : r = .val (.lst xs) := by
  cases r with
  | val p => cases p <;> first | (cases h; rfl) | cases h
  | bor i => cases h
  | new o => cases h
def mExtend (i : Nat) (m : M) : MS := fun ρ => (liftO (ownL? ρ i)).bind fun _ => (mOp m ρ).bind fun p => (liftO p.1.lst?).bind fun ys => (liftO (ownL? p.2 i)).bind fun xs =>
  if szOk (xs.length + ys.length) = true then .ok (.nx, setC i (.lst (xs ++ ys)) p.2) else .bad
section
variable {X : Cx} {W : WX} {e : Expr} {m : M} {pos pos' apos cpos : Pos} {x : Str} {j : Nat}
theorem SS.extend (hx : PE X (.Name x pos') (tVar j)) (h : SE X W e m) (hs : swapsWith (.Call (.Attribute (.Name x pos') "extend" apos) [e] [] cpos) none pos.line X.env = pure false := by rfl)
    (hbase : attributeBase (.Name x pos') "extend" X.env (eval (.Name x pos') X.env) = eval (.Name x pos') X.env := by rfl)
    (hfew : ((backTo cpos (starEach [e] X.env)).all (fun x => !x.1) && (backToKw cpos (keywordEach [] X.env)).all (fun x => x.1.isSome)
      && decide ([e].length + ([] : List Keyword).length + (if ([] : List Keyword).isEmpty then 0 else 1) < 30)) = true := by rfl)
    (hline : (apos.endLine == cpos.line) = true := by rfl) (hst : starEach [e] X.env = (false, eval e X.env) :: starEach [] X.env := by rfl) :
    SS X W (.Expr (.Call (.Attribute (.Name x pos') "extend" apos) [e] [] cpos) pos) (mExtend j m) := by
  refine PS.imp (ps_expr (pe_bm PySem.F.plainAttrs_list PySem.F.slot_list_extend PySem.F.type_list_extend mt_extend hx (SA.cons (W := W) h SA.nil hst) hbase hfew hline hst rfl) hs) fun D σ H ⟨ρ, F, R, q⟩ => ?_
  obtain ⟨xs0, e0, q⟩ := q.lift
  obtain ⟨a, ea, ow, n, r⟩ := ownO_at R (ownL?_inv e0)
  refine ⟨.ref a, ea, .inl ⟨rfl, ?_⟩, ?_⟩
  · obtain ⟨vs, hv, _⟩ := r
    exact ⟨vs, .of hv⟩
  · refine ⟨ρ, F, R, ?_⟩
    unfold mACons
    cases em : mOp m ρ with
    | exc y => rw [em] at q; exact q
    | bad => rw [em] at q; exact q
    | ok p =>
      rw [em] at q
      intro vs F1 H1 es1 qs
      obtain ⟨y, ey, q⟩ := Ok.lift (show Ok W ρ σ F H ((liftO p.1.lst?).bind _) _ from q)
      obtain ⟨xs, ex, q⟩ := q.lift
      have es1 : ES X.K ρ σ F H p.2 σ F1 H1 := es1
      cases qs with
      | cons q1 q2 =>
      cases q2
      have ev := lst?_inv ey
      rw [ev] at q1
      have q1 : RepV X.K F1 (.lst y) _ := q1
      unfold RepV at q1
      obtain ⟨c, ws, rfl, hc, rw1⟩ := q1
      obtain ⟨b, eb, _, _, r1⟩ := ownO_at es1.rel (ownL?_inv ex)
      rw [ea] at eb
      cases eb
      obtain ⟨vs, hv, rv⟩ := r1
      by_cases hz : szOk (xs.length + y.length) = true
      · rw [if_pos hz] at q
        have q : ∀ σ' F' H', ES X.K ρ σ F H _ σ' F' H' → D.nx σ' H' := q
        refine ⟨a, c, vs, ws, rfl, rfl, hv, es1.rel.fh.lst hc, by rw [← rv.length, ← rw1.length]; exact szOk_inv hz, ?_⟩
        exact q _ _ _ (es1.trans (es1.rel.write (ownL?_inv ex) ea ⟨_, upd_same, rv.append rw1⟩))
      · rw [if_neg hz] at q
        exact q.elim
end
end Pu

set_option Elab.async false
set_option linter.all false
set_option maxRecDepth 100000
/-! Pu16: own instances: fields read and stored, methods called, instances made. -/
namespace Pu
open PySem PySem.Spec PyProof.Rows L2

def lookF : List Str → List PV → Str → Option PV
  | g :: ns, x :: xs, f => if f = g then some x else lookF ns xs f
  | _, _, _ => none
def putNs : List Str → Str → List Str
  | [], f => [f]
  | g :: r, f => if g = f then g :: r else g :: putNs r f
def putVs : List Str → List PV → Str → PV → List PV
  | [], _, _, y => [y]
  | g :: r, x :: xs, f, y => if g = f then y :: xs else x :: putVs r xs f y
  | _ :: _, [], _, _ => []
section
variable {K : PySem.W.Frag} {F : Hp}
theorem lookup_cons' (f g : Str) (v : V) (r : List (Str × V)) : List.lookup f ((g, v) :: r) = if f = g then some v else List.lookup f r := by
  rw [List.lookup_cons]
  by_cases h : f = g
  · subst h
    simp
  · rw [if_neg h, beq_eq_false_iff_ne.mpr h]
theorem lookF_rep : ∀ {ns : List Str} {xs : List PV} {vs : List V} {f : Str} {x : PV}, RepVs K F xs vs → ns.length = vs.length → lookF ns xs f = some x → ∃ v, (ns.zip vs).lookup f = some v ∧ RepV K F x v
  | [], xs, vs, f, x, _, _, h => by cases h
  | g :: ns, [], vs, f, x, _, _, h => by cases h
  | g :: ns, y :: xs, vs, f, x, r, l, h => by
    obtain ⟨v, t, rfl, r1, r2⟩ := r.cons_inv
    have h : (if f = g then some y else lookF ns xs f) = some x := h
    rw [List.zip_cons_cons, lookup_cons']
    by_cases e : f = g
    · rw [if_pos e] at h ⊢
      cases h
      exact ⟨v, rfl, r1⟩
    · rw [if_neg e] at h ⊢
      exact lookF_rep r2 (by simpa using l) h
theorem lookup_no : ∀ {ns : List Str} {vs : List V} {f : Str}, f ∉ ns → (ns.zip vs).lookup f = none
  | [], vs, f, _ => rfl
  | g :: ns, [], f, _ => rfl
  | g :: ns, v :: vs, f, h => by
    simp only [List.mem_cons, not_or] at h
    rw [List.zip_cons_cons, lookup_cons', if_neg h.1]
    exact lookup_no h.2
theorem putF_rep : ∀ {ns : List Str} {xs : List PV} {vs : List V} {f : Str} {y : PV} {w : V}, RepVs K F xs vs → ns.length = vs.length → RepV K F y w →
    ∃ ws, putF f w (ns.zip vs) = (putNs ns f).zip ws ∧ (putNs ns f).length = ws.length ∧ RepVs K F (putVs ns xs f y) ws
  | [], xs, vs, f, y, w, r, l, q => ⟨[w], by cases vs <;> rfl, rfl, .cons q .nil⟩
  | g :: ns, [], vs, f, y, w, r, l, q => by
    rw [r.nil_inv] at l
    cases l
  | g :: ns, x :: xs, vs, f, y, w, r, l, q => by
    obtain ⟨v, t, rfl, r1, r2⟩ := r.cons_inv
    rw [List.zip_cons_cons]
    have l : ns.length = t.length := by simpa using l
    by_cases e : g = f
    · refine ⟨w :: t, ?_, ?_, ?_⟩
      · show (if g = f then (g, w) :: ns.zip t else (g, v) :: putF f w (ns.zip t)) = (if g = f then g :: ns else g :: putNs ns f).zip (w :: t)
        rw [if_pos e, if_pos e]
        rfl
      · show (if g = f then g :: ns else g :: putNs ns f).length = _
        rw [if_pos e]
        simp [l]
      · show RepVs K F (if g = f then y :: xs else x :: putVs ns xs f y) _
        rw [if_pos e]
        exact .cons q r2
    · obtain ⟨ws, e1, e2, e3⟩ := putF_rep (f := f) r2 l q
      refine ⟨v :: ws, ?_, ?_, ?_⟩
      · show (if g = f then (g, w) :: ns.zip t else (g, v) :: putF f w (ns.zip t)) = (if g = f then g :: ns else g :: putNs ns f).zip (v :: ws)
        rw [if_neg e, if_neg e, e1]
        rfl
      · show (if g = f then g :: ns else g :: putNs ns f).length = _
        rw [if_neg e]
        simp [e2]
      · show RepVs K F (if g = f then y :: xs else x :: putVs ns xs f y) _
        rw [if_neg e]
        exact .cons r1 e3
end
/-- an own instance of C in slot j -/
def obO (ρ : Env) (j : Nat) (C : Addr) : Option (List Str × List PV) := match ownO ρ j with
  | some (.ob C' ns xs) => if C' = C then some (ns, xs) else none
  | _ => none
theorem obO_inv {ρ : Env} {j : Nat} {C : Addr} {p : List Str × List PV} (h : obO ρ j C = some p) : ownO ρ j = some (.ob C p.1 p.2) := by
  unfold obO at h
  cases e : ownO ρ j with
  | none => rw [e] at h; cases h
  | some o =>
    rw [e] at h
    cases o with
    | ob C' ns xs =>
      have h : (if C' = C then some (ns, xs) else none) = some p := h
      by_cases hc : C' = C
      · rw [if_pos hc] at h
        cases h
        rw [hc]
      · rw [if_neg hc] at h
        cases h
    | _ => cases h
/-- x.f -/
def mFld (C : Addr) (j : Nat) (f : Str) : M := fun ρ => (liftO (obO ρ j C)).bind fun p => (liftO (lookF p.1 p.2 f)).bind fun v => .ok (.val v, ρ)
/-- x.f = e -/
def putFld (C : Addr) (j : Nat) (f : Str) (v : PV) (ρ : Env) : Option Env := (obO ρ j C).bind fun p => if p.1.length < 1000 then some (setC j (.ob C (putNs p.1 f) (putVs p.1 p.2 f v)) ρ) else none
def mPutFld (C : Addr) (j : Nat) (f : Str) (m : M) : MS := fun ρ => (mOp m ρ).bind fun p => (liftO p.1.val?).bind fun v => (liftO (putFld C j f v p.2)).bind fun ρ' => .ok (.nx, ρ')
def mgFld (C : Addr) (j : Nat) (f : Str) : MG := putFld C j f
/-- x.f op= e -/
def mAugFld (C : Addr) (j : Nat) (f : Str) (g : PV → PV → Option RV) (m : M) : MS := fun ρ => (liftO (obO ρ j C)).bind fun q => (liftO (lookF q.1 q.2 f)).bind fun a => (mOp m ρ).bind fun p => (liftO (deref p.2 p.1)).bind fun b => (liftO (g a b)).bind fun r =>
  (liftO r.val?).bind fun v => (liftO (putFld C j f v p.2)).bind fun ρ' => .ok (.nx, ρ')
section
variable {X : Cx} {W : WX} {C : Addr} {j : Nat} {f x : Str} {pos pos' apos : Pos} {e : Expr} {m : M}
theorem obO_at {K : PySem.W.Frag} {F H : Hp} {ρ : Env} {σ : L2.St} {p : List Str × List PV} (R : Rel K F H ρ σ) (h : obO ρ j C = some p) : ∃ a dx vs, σ[j]? = some (some (.ref a)) ∧ F a = none ∧ OwnAt ρ σ j a ∧ H a = some (.ins C dx (p.1.zip vs)) ∧ p.1.length = vs.length ∧ RepVs K F p.2 vs := by
  obtain ⟨a, h1, h2, h3, vs, ⟨dx, h4⟩, h5, h6⟩ := ownO_at R (obO_inv h)
  exact ⟨a, dx, vs, h1, h3, h2, h4, h5, h6⟩
theorem SE.fld (hx : PE X (.Name x pos') (tVar j)) (c : Cls X.K C) (n : NoAttr X.K C f) (hb : attributeBase (.Name x pos') f X.env (eval (.Name x pos') X.env) = eval (.Name x pos') X.env := by rfl) : SE X W (.Attribute (.Name x pos') f pos) (mFld C j f) :=
  PE.imp (pe_fld hx hb) fun σ H Q ⟨ρ, F, R, q⟩ => by
    obtain ⟨p, ep, q⟩ := q.lift
    obtain ⟨v, ev, q⟩ := q.lift
    have q : ∀ v' F' H', ES X.K ρ σ F H ρ σ F' H' → RepR X.K (Free H) F' H' ρ σ (.val v) v' → Q v' H' := q
    obtain ⟨a, dx, vs, h1, h2, _, h3, h4, h5⟩ := obO_at R ep
    obtain ⟨w, ew, rw'⟩ := lookF_rep h5 h4 ev
    exact ⟨.ref a, h1, a, C, dx, _, w, rfl, h3, c, n, ew, q w F H (ES.refl R) rw'⟩
/-- the store itself -/
theorem put_at {K : PySem.W.Frag} {F H : Hp} {ρ ρ' : Env} {σ : L2.St} {v : PV} {w : V} (R : Rel K F H ρ σ) (r : RepV K F v w) (h : putFld C j f v ρ = some ρ') :
    ∃ a dx fs, σ[j]? = some (some (.ref a)) ∧ H a = some (.ins C dx fs) ∧ fs.length < 1000 ∧ ES K ρ σ F H ρ' σ F (upd H a (.ins C dx (putF f w fs))) := by
  unfold putFld at h
  cases ep : obO ρ j C with
  | none => rw [ep] at h; cases h
  | some p =>
    rw [ep] at h
    have h : (if p.1.length < 1000 then some (setC j (.ob C (putNs p.1 f) (putVs p.1 p.2 f v)) ρ) else none) = some ρ' := h
    split at h
    · rename_i hz
      cases h
      obtain ⟨a, dx, vs, h1, h2, _, h3, h4, h5⟩ := obO_at R ep
      obtain ⟨ws, e1, e2, e3⟩ := putF_rep (f := f) h5 h4 r
      refine ⟨a, dx, _, h1, h3, by rw [List.length_zip, ← h4, Nat.min_self]; exact hz, ?_⟩
      refine R.write (obO_inv ep) h1 ?_
      rw [e1]
      exact ⟨ws, ⟨dx, upd_same⟩, e2, e3⟩
    · cases h
theorem SS.fld (hx : PE X (.Name x pos') (tVar j)) (c : Cls X.K C) (n : NoAttr X.K C f) (h : SE X W e m) (hs : swapsWith e (some (.Attribute (.Name x pos') f apos)) pos.line X.env = pure false := by rfl) : SS X W (.Assign [.Attribute (.Name x pos') f apos] e pos) (mPutFld C j f m) :=
  PS.imp (ps_fld hx h hs) fun D σ H ⟨ρ, F, R, q⟩ => by
    refine tM_op R q fun r ρ1 y F1 H1 es1 q1 h1 => ?_
    obtain ⟨v, ev, h2⟩ := h1.lift
    obtain ⟨ρ', e', h3⟩ := h2.lift
    have h3 : ∀ σ' F' H', ES X.K ρ σ F H ρ' σ' F' H' → D.nx σ' H' := h3
    have ev : r = .val v := val?_inv ev
    subst ev
    obtain ⟨a, dx, fs, g1, g2, g3, es⟩ := put_at es1.rel (show RepV X.K F1 v y from q1) e'
    exact ⟨.ref a, g1, a, C, dx, fs, rfl, g2, c, n, g3, h3 _ _ _ (es1.trans es)⟩
theorem pg_fld {o : Expr} {to : TE} (ho : PE X o to) (ha : ∀ v, assign (.Attribute o f pos) X.env v = (do
      let ov ← holding [v] (eval o X.env)
      standAt pos.atName
      holding [v, ov] (setAttr ov f v)
      release [v, ov] []) := by intro _; rfl) : PG X (.Attribute o f pos) (fun y σ H Q => to σ H fun x H1 => ∃ a C dx fs, x = .ref a ∧ H1 a = some (.ins C dx fs) ∧ Cls X.K C ∧ NoAttr X.K C f ∧ fs.length < 1000 ∧ Q σ (upd H1 a (.ins C dx (putF f y fs)))) := by
  refine ⟨fun pins s σ H v u Q I r h => ?_⟩
  rw [ha]
  refine wpAny_bind (wpAny_holding (thn (ho.run pins s σ H _ I h) fun ov s1 ⟨x, H1, I1, r1, a, C, dx, fs, ex, ea, c, n, l, q⟩ => ?_))
  subst ex
  obtain rfl : ov = Value.ref a := r1
  refine wpAny_bind (wpAny_standAt (wpAny_bind (wpAny_holding (setattr_ok I1 ea c n l r fun s3 I3 => ?_))))
  exact wpAny_release ⟨σ, _, I3, q⟩
theorem SG.fld (hx : PE X (.Name x pos') (tVar j)) (c : Cls X.K C) (n : NoAttr X.K C f) (ha : ∀ v, assign (.Attribute (.Name x pos') f pos) X.env v = (do
      let ov ← holding [v] (eval (.Name x pos') X.env)
      standAt pos.atName
      holding [v, ov] (setAttr ov f v)
      release [v, ov] []) := by intro _; rfl) : SG X [] (.Attribute (.Name x pos') f pos) (mgFld C j f) :=
  PG.imp (pg_fld hx ha) fun v σ H Q ⟨ρ, F, p, ρ', R, r, e, q⟩ => by
    obtain ⟨a, dx, fs, g1, g2, g3, es⟩ := put_at R r e
    exact ⟨.ref a, g1, a, C, dx, fs, rfl, g2, c, n, g3, q σ F _ es Only.refl⟩
theorem SS.augFld {op : Operator} {ti : V → V → Hp → VK → Prop} {g : PV → PV → Option RV} (ho : InOp X op ti) (hp : Prim2 X.K ti g) (hx : PE X (.Name x pos') (tVar j)) (c : Cls X.K C) (n : NoAttr X.K C f) (h : SE X W e m) : SS X W (.AugAssign (.Attribute (.Name x pos') f apos) op e pos) (mAugFld C j f g m) :=
  PS.imp (ps_fldaug hx h ho) fun D σ H ⟨ρ, F, R, q⟩ => by
    obtain ⟨p, ep, q⟩ := q.lift
    obtain ⟨a0, ea0, q⟩ := q.lift
    obtain ⟨a, dx, vs, h1, h2, _, h3, h4, h5⟩ := obO_at R ep
    obtain ⟨w, ew, rw'⟩ := lookF_rep h5 h4 ea0
    refine ⟨.ref a, h1, a, C, dx, _, w, rfl, h3, c, n, ew, ?_⟩
    refine tM_op R q fun r ρ1 y F1 H1 es1 q1 k1 => ?_
    obtain ⟨b, eb, k2⟩ := k1.lift
    obtain ⟨res, er, k3⟩ := k2.lift
    obtain ⟨v, ev, k4⟩ := k3.lift
    obtain ⟨ρ', e', k5⟩ := k4.lift
    have k5 : ∀ σ' F' H', ES X.K ρ σ F H ρ' σ' F' H' → D.nx σ' H' := k5
    have ev : res = .val v := val?_inv ev
    subst ev
    refine hp w y F1 H1 _ a0 b _ es1.rel.fh ((RepV.mono es1.st.ff rw').b es1.rel.fh) (q1.b es1.rel eb) er fun z F2 H2 gr rn => ?_
    have es2 := gr.es es1.rel
    obtain ⟨a', dx', fs', g1, g2, g3, es⟩ := put_at es2.rel (show RepV X.K F2 v z from rn) e'
    rw [h1] at g1
    cases g1
    exact ⟨dx', fs', g2, g3, k5 _ _ _ ((es1.trans es2).trans es)⟩
end

/-! ### methods -/
def mMeth (C : Addr) (mm : Str) (g : G) (j : Nat) (ma : MA) : M := fun ρ => (liftO (obO ρ j C)).bind fun p => if mm ∈ p.1 then .bad else mCall g (mACons (mBor j) ma) ρ
theorem mBor_own {ρ : Env} {j : Nat} {o : OB} (h : ownO ρ j = some o) : mBor j ρ = .ok (.bor j, ρ) := by
  unfold ownO at h
  unfold mBor
  cases e : ρ[j]? with
  | none => rw [e] at h; cases h
  | some s =>
    cases s with
    | none => rw [e] at h; cases h
    | some s =>
      rw [e] at h
      cases s with
      | val p => cases h
      | own p => rfl
      | par p => rfl
theorem tMA_first {K : PySem.W.Frag} {W : WX} {σ : L2.St} {H : Hp} {j : Nat} {ma : MA} {P : List V → Hp → Prop} {a : Addr} {ρ : Env} {F : Hp} (R : Rel K F H ρ σ) (h0 : mBor j ρ = .ok (.bor j, ρ)) (hs : σ[j]? = some (some (.ref a)))
    (h : Ok W ρ σ F H (mACons (mBor j) ma ρ) fun p => ∀ vs F' H', ES K ρ σ F H p.2 σ F' H' → RepQs K F' σ p.1 vs → P vs H') : tMA K W ma σ H fun vs H' => P (.ref a :: vs) H' := by
  have e : mACons (mBor j) ma ρ = (ma ρ).bind fun p2 => .ok (.bor j :: p2.1, p2.2) := by
    unfold mACons mOp
    rw [h0]
    rfl
  rw [e] at h
  exact ⟨ρ, F, R, h.of_bind.mono fun p hp vs F' H' es qs => hp (.ref a :: vs) F' H' es (.cons hs qs)⟩
section
variable {X : Cx} {W : WX} {CX : CXT} {k n : Nat} {fa C : Addr} {fd : FuncData} {ps : List Str} {RX : RXT} {g : G} {E : XK} {x mm : Str} {p pos pos' apos : Pos} {e : Expr} {es : List Expr} {ma : MA} {j : Nat}
/-- a call, as the reading of its arguments -/
theorem call_ok {K : PySem.W.Frag} {σ : L2.St} {H : Hp} {Q : VK} {ρ : Env} {F : Hp} (hW : ∀ x cls d F' H', W x F' H' → RX x cls d H' → E cls d H') (hl : ∀ ρ p, ma ρ = .ok p → p.1.length = n) (q : Ok W ρ σ F H (mCall g ma ρ) fun p => ∀ v F' H', ES K ρ σ F H p.2 σ F' H' → RepR K (Free H) F' H' p.2 σ p.1 v → Q v H') :
    Ok W ρ σ F H (ma ρ) fun p => ∀ vs F' H', ES K ρ σ F H p.2 σ F' H' → RepQs K F' σ p.1 vs → spF K RX g n vs H' Q E := by
  have q' := q.of_bind
  cases em : ma ρ with
  | exc y => rw [em] at q'; exact q'
  | bad => rw [em] at q'; exact q'
  | ok p =>
  rw [em] at q'
  intro vs F1 H1 es1 qs
  have hp : Ok W ρ σ F H _ _ := q'
  obtain ⟨avs, e1, h2⟩ := hp.lift
  have hln : lone p.1 = true := by
    cases z : lone p.1 with
    | true => rfl
    | false => rw [z] at e1; cases e1
  rw [hln, if_pos rfl] at e1
  have h2 := h2.of_bind.shift es1
  refine ⟨by rw [← qs.length, hl ρ p em], F1, avs, call_entry es1.rel qs e1 hln, ?_⟩
  cases eg : g avs with
  | bad => rw [eg] at h2; exact h2
  | exc y =>
    rw [eg] at h2
    intro cls d F' H' st fh rx
    exact hW y cls d F' H' (h2 F' H' (st.mono fun a ⟨k, h⟩ => let ⟨i, _, o⟩ := lent es1.rel qs e1 h; ⟨i, o⟩) fh) rx
  | ok r =>
    rw [eg] at h2
    have h2 : ∀ v F' H', ES K ρ σ F H (backs p.2 p.1 r.2) σ F' H' → RepR K (Free H) F' H' (backs p.2 p.1 r.2) σ r.1 v → Q v H' := h2
    intro v F' H' st fh rn ro
    have ce := call_exit es1.rel qs e1 st fh ro
    refine h2 v F' H' (es1.trans ce) ?_
    cases er : r.1 with
    | val p => rw [er] at rn; exact rn
    | bor i => rw [er] at rn; exact rn.elim
    | new o =>
      rw [er] at rn
      obtain ⟨a, ea, n, n0, ro'⟩ := rn
      refine ⟨a, ea, n, es1.free n0, fun z => ?_, ro'⟩
      obtain ⟨j, z⟩ := z
      exact es1.rel.ownH ⟨j, backs_own z⟩ n0
theorem meth_ok {K : PySem.W.Frag} {σ : L2.St} {H : Hp} {Q : VK} (hW : ∀ x cls d F' H', W x F' H' → RX x cls d H' → E cls d H') (hl : ∀ ρ p, ma ρ = .ok p → p.1.length = n) (h : tM K W (mMeth C mm g j ma) σ H Q) :
    tMeth C mm (spF K RX g (n + 1)) [] E (tVar j) (tMA K W ma) σ H Q := by
  obtain ⟨ρ, F, R, q⟩ := h
  obtain ⟨p, ep, q⟩ := q.lift
  split at q
  · exact q.elim
  · rename_i hn
    obtain ⟨a, dx, vs, h1, h2, _, h3, h4, h5⟩ := obO_at R ep
    refine ⟨.ref a, h1, a, dx, _, rfl, h3, lookup_no hn, ?_⟩
    have q2 := call_ok (E := E) (RX := RX) (n := n + 1) hW (mALen (mBor j) hl) q
    obtain ⟨ρ', F', R', z⟩ := tMA_first R (mBor_own (obO_inv ep)) h1 q2
    exact ⟨ρ', F', R', z.mono fun p hp vs F' H' es qs => by
      show spF K RX g (n + 1) (V.ref a :: (vs ++ [])) H' Q E
      rw [List.append_nil]
      exact hp vs F' H' es qs⟩
theorem SE.meth {pl : Sem Bool} (hx : PE X (.Name x pos') (tVar j)) (c : Cls X.K C) (hm : Meth X.K C mm fa) (F : FnOk X.prog X.w X.K X.mg X.base CX k fa fd ps (spF X.K RX g (n + 1))) (hr : Room k X.A) (hb : Binds X.K fd ps []) (hp : Passes CX X E)
    (hW : ∀ x cls d F' H', W x F' H' → RX x cls d H' → E cls d H') (ha : SA X W (e :: es) ma) (hl : ∀ ρ p, ma ρ = .ok p → p.1.length = n)
    (hst : starEach (e :: es) X.env = (false, eval e X.env) :: starEach es X.env := by rfl) (hpl : (backTo pos (starEach es X.env)).any (·.1) = false := by rfl)
    (ht : eval (.Call (.Attribute (.Name x pos') mm apos) (e :: es) [] pos) X.env = (do
      let ov ← eval (.Name x pos') X.env
      standAt apos.atName
      let (f, first) ← holding [ov] (getMethod ov mm pl)
      callWith pos f first (backTo pos (starEach (e :: es) X.env)) (backToKw pos (keywordEach [] X.env))) := by rfl) :
    SE X W (.Call (.Attribute (.Name x pos') mm apos) (e :: es) [] pos) (mMeth C mm g j ma) :=
  PE.imp (pe_meth hx c hm F hr hb .nil hp ha hst hpl ht) fun _ _ _ h => meth_ok hW hl h
theorem SE.meth0 {pl : Sem Bool} (hx : PE X (.Name x pos') (tVar j)) (c : Cls X.K C) (hm : Meth X.K C mm fa) (F : FnOk X.prog X.w X.K X.mg X.base CX k fa fd ps (spF X.K RX g 1)) (hr : Room k X.A) (hb : Binds X.K fd ps []) (hp : Passes CX X E)
    (hW : ∀ x cls d F' H', W x F' H' → RX x cls d H' → E cls d H')
    (ht : eval (.Call (.Attribute (.Name x pos') mm apos) [] [] pos) X.env = (do
      let ov ← eval (.Name x pos') X.env
      standAt apos.atName
      let (f, first) ← holding [ov] (getMethod ov mm pl)
      callWith pos f first (backTo pos (starEach [] X.env)) (backToKw pos (keywordEach [] X.env))) := by rfl) :
    SE X W (.Call (.Attribute (.Name x pos') mm apos) [] [] pos) (mMeth C mm g j mANil) :=
  PE.imp (pe_meth0 hx c hm F hr hb .nil hp ht) fun σ H Q h => by
    obtain ⟨x, hx, a, dx, fs, e1, e2, e3, ρ, F, R, q⟩ := meth_ok (n := 0) (E := E) (RX := RX) hW mALen0 h
    have q : ∀ vs F' H', ES X.K ρ σ F H ρ σ F' H' → RepQs X.K F' σ [] vs → spF X.K RX g 1 (x :: (vs ++ [])) H' Q E := q
    exact ⟨x, hx, a, dx, fs, e1, e2, e3, q [] F H (ES.refl R) .nil⟩

/-! ### C(..) -/
def mMake (C : Addr) (g : G) (ma : MA) : M := fun ρ => (ma ρ).bind fun p => (liftO (vals? p.1)).bind fun as => (g (.own (.ob C [] []) :: as.map AV.val)).bind fun q => match q.1, q.2 with
  | .val .non, some o :: _ => .ok (.new o, p.2)
  | _, _ => .bad
theorem RepVs.at {K : PySem.W.Frag} {F : Hp} {as : List PV} {vs : List V} (r : RepVs K F as vs) {i : Nat} {p : PV} (e : as[i]? = some p) : ∃ v, vs[i]? = some v ∧ RepV K F p v := r.get e
theorem make_entry {K : PySem.W.Frag} {F H : Hp} {as : List PV} {vs : List V} {x dx : Addr} (fh : FH F H) (r : RepVs K F as vs) (nx : H x = none) (nd : H dx = none) :
    Rel K F (upd (upd H dx (.own x)) x (.ins C dx [])) ((AV.own (.ob C [] []) :: as.map AV.val).map AV.slot) ((V.ref x :: vs).map some) ∧ (∀ j a, OwnAt ((AV.own (.ob C [] []) :: as.map AV.val).map AV.slot) ((V.ref x :: vs).map some) j a → j = 0 ∧ a = x) := by
  have sl : ∀ (j : Nat) (s : SV), ((AV.own (.ob C [] []) :: as.map AV.val).map AV.slot)[j]? = some (some s) → (j = 0 ∧ s = .par (.ob C [] [])) ∨ ∃ i p, j = i + 1 ∧ as[i]? = some p ∧ s = .val p := fun j s h => by
    cases j with
    | zero =>
      cases h
      exact .inl ⟨rfl, rfl⟩
    | succ i =>
      have h : ((as.map AV.val).map AV.slot)[i]? = some (some s) := h
      rw [List.map_map, List.getElem?_map] at h
      cases e : as[i]? with
      | none => rw [e] at h; cases h
      | some p =>
        rw [e] at h
        cases h
        exact .inr ⟨i, p, rfl, e, rfl⟩
  have own : ∀ j a, OwnAt ((AV.own (.ob C [] []) :: as.map AV.val).map AV.slot) ((V.ref x :: vs).map some) j a → j = 0 ∧ a = x := fun j a ⟨h1, h2⟩ => by
    have hj : j = 0 := by
      rcases h1 with ⟨o, e⟩ | ⟨o, e⟩
      · rcases sl j _ e with ⟨z, _⟩ | ⟨i, p, _, _, z⟩
        · exact z
        · cases z
      · rcases sl j _ e with ⟨z, _⟩ | ⟨i, p, _, _, z⟩
        · exact z
        · cases z
    subst hj
    cases h2
    exact ⟨rfl, rfl⟩
  refine ⟨⟨by simp [r.length], fun j s h => ?_, fun a u e => ?_, fun i j a h1 h2 => (own i a h1).1.trans (own j a h2).1.symm⟩, own⟩
  · rcases sl j s h with ⟨rfl, rfl⟩ | ⟨i, p, rfl, e, rfl⟩
    · exact ⟨.ref x, rfl, x, rfl, fh.none nx, [], ⟨dx, upd_same⟩, rfl, .nil⟩
    · obtain ⟨v, ev, rv⟩ := r.get e
      refine ⟨v, ?_, rv⟩
      show (vs.map some)[i]? = some (some v)
      rw [List.getElem?_map, ev]
      rfl
  · have h1 : a ≠ x := fun z => by rw [z, fh.none nx] at e; cases e
    have h2 : a ≠ dx := fun z => by rw [z, fh.none nd] at e; cases e
    rw [upd_ne h1, upd_ne h2]
    exact fh a u e
theorem make_ok {K : PySem.W.Frag} {σ : L2.St} {H : Hp} {Q : VK} (hW : ∀ x cls d F' H', W x F' H' → RX x cls d H' → E cls d H') (hX : ∀ as y, g as ≠ .exc y) (hl : ∀ ρ p, ma ρ = .ok p → p.1.length = n) (h : tM K W (mMake C g ma) σ H Q) :
    tMake C (spF K RX g (n + 1)) [] E (tMA K W ma) σ H Q := by
  obtain ⟨ρ, F, R, q⟩ := h
  refine ⟨ρ, F, R, ?_⟩
  have q' := q.of_bind
  cases em : ma ρ with
  | exc y => rw [em] at q'; exact q'
  | bad => rw [em] at q'; exact q'
  | ok p =>
  rw [em] at q'
  intro vs F1 H1 es1 qs x dx nx nd ne
  obtain ⟨as, ea, q⟩ := Ok.lift (show Ok W ρ σ F H ((liftO (vals? p.1)).bind _) _ from q')
  have rv := qs.vals ea
  obtain ⟨R2, own⟩ := make_entry (C := C) es1.rel.fh rv nx nd
  rw [List.append_nil]
  refine ⟨by simp [← qs.length, hl ρ p em], F1, _, R2, ?_⟩
  cases eg : g (AV.own (.ob C [] []) :: as.map AV.val) with
  | bad => rw [eg] at q; exact q
  | exc y => exact absurd eg (hX _ y)
  | ok r =>
    rw [eg] at q
    obtain ⟨r1, outs⟩ := r
    intro v F' H' st fh rn ro
    cases r1 with
    | bor i => exact q.elim
    | new o => exact q.elim
    | val p0 =>
      cases p0 with
      | non =>
        have rn : RepV K F' .non v := rn
        unfold RepV at rn
        subst rn
        cases outs with
        | nil => exact q.elim
        | cons o outs =>
          cases o with
          | none => exact q.elim
          | some o =>
            have q : ∀ v F' H', ES K ρ σ F H p.2 σ F' H' → RepR K (Free H) F' H' p.2 σ (.new o) v → Q v H' := q
            refine ⟨rfl, ?_⟩
            obtain ⟨a, e0, nF, rO⟩ := ro 0 o rfl
            cases e0
            have xo : ¬ Own p.2 σ x := fun z => es1.rel.ownH z nx
            have other : ∀ z, H1 z ≠ none → z ≠ x ∧ z ≠ dx := fun z hz => ⟨fun e => hz (e ▸ nx), fun e => hz (e ▸ nd)⟩
            have up : ∀ z, z ≠ x → z ≠ dx → upd (upd H1 dx (.own x)) x (.ins C dx []) z = H1 z := fun z h1 h2 => by rw [upd_ne h1, upd_ne h2]
            have nown : ∀ z, z ≠ x → ¬ Own ((AV.own (.ob C [] []) :: as.map AV.val).map AV.slot) ((V.ref x :: vs).map some) z := fun z hz ⟨j, hj⟩ => hz (own j z hj).2
            have es2 : ES K p.2 σ F1 H1 p.2 σ F' H' := (ES.refl es1.rel).go st.ff fh (fun z hz => by
              have hH := es1.rel.ownH hz
              obtain ⟨z1, z2⟩ := other z hH
              obtain ⟨u, hu⟩ := Option.ne_none_iff_exists'.mp hH
              refine ⟨?_, (st.fr z u (by rw [up z z1 z2]; exact hu) (nown z z1)).trans hu.symm⟩
              cases w : F' z with
              | none => rfl
              | some t =>
                rcases st.new z (by rw [w]; simp) with y | y | y
                · exact absurd (es1.rel.ownF hz) y
                · refine absurd ?_ (es1.rel.ownN hz)
                  unfold Fre at y ⊢
                  rw [up z z1 z2] at y
                  exact y
                · exact absurd y (nown z z1)) (fun z hz => by
              rcases st.new z hz with y | y | ⟨j, y⟩
              · exact .inl y
              · refine .inr (.inl ?_)
                by_cases z1 : z = x
                · exact .inl (z1 ▸ nx)
                · by_cases z2 : z = dx
                  · exact .inl (z2 ▸ nd)
                  · unfold Fre at y ⊢
                    rw [up z z1 z2] at y
                    exact y
              · rw [(own j z y).2]
                exact .inr (.inl (.inl nx))) (fun z o hz _ _ => by
              obtain ⟨z1, z2⟩ := other z (by rw [hz]; simp)
              exact st.fr z o (by rw [up z z1 z2]; exact hz) (nown z z1)) fun z hz => by
              obtain ⟨z1, z2⟩ := other z hz
              exact st.th z (by rw [up z z1 z2]; exact hz)
            exact q _ F' H' (es1.trans es2) ⟨x, rfl, nF, es1.free nx, xo, rO⟩
      | _ => exact q.elim
theorem SE.make (M : Mk X.K C fa) (F : FnOk X.prog X.w X.K X.mg X.base CX k fa fd ps (spF X.K RX g (n + 1))) (hr : Room (k + 1) X.A) (hm : X.mg x = some (.ref C)) (hb : Binds X.K fd ps []) (hp : Passes CX X E) (hW : ∀ x cls d F' H', W x F' H' → RX x cls d H' → E cls d H') (hX : ∀ as y, g as ≠ .exc y)
    (hg : Gl X x) (ha : SA X W (e :: es) ma) (hl : ∀ ρ p, ma ρ = .ok p → p.1.length = n) (hdb : (x == ("__debug__" : Str)) = false := by decide) (he : starEach (e :: es) X.env = (false, eval e X.env) :: starEach es X.env := by rfl) (hpl : (backTo pos (starEach es X.env)).any (·.1) = false := by rfl) :
    SE X W (.Call (.Name x p) (e :: es) [] pos) (mMake C g ma) :=
  PE.imp (pe_make M F hr hg hm hb .nil hp ha hdb he hpl) fun _ _ _ h => make_ok hW hX hl h
end
/-- a def without exceptions -/
theorem runF_nox {size : Nat} {b : MS} : ∀ as y, runF size b as ≠ .exc y := fun as y e => by
  unfold runF at e
  cases h : b (as.map AV.slot ++ List.replicate (size - as.length) none) with
  | exc z => rw [h] at e; cases e
  | bad => rw [h] at e; cases e
  | ok p =>
    rw [h] at e
    obtain ⟨fl, ρ⟩ := p
    cases fl with
    | nx => cases e
    | bk => cases e
    | ct => cases e
    | rt r =>
      have e : ((liftO r.out).bind fun r => Res.ok (r, outsOf as.length ρ)) = .exc y := e
      cases h2 : r.out with
      | none => rw [h2] at e; cases e
      | some r' => rw [h2] at e; cases e
end Pu

set_option Elab.async false
set_option linter.all false
set_option maxRecDepth 100000
/-! Pu17: what the printed texts want, further. -/
namespace Pu
open PySem PySem.Spec PyProof.Rows L2
def clsBody : Stmt → List Stmt
  | .ClassDef _ _ _ body _ _ _ _ _ _ _ => body
  | _ => []
/-- a method of an own class -/
structure FnM (K : PySem.W.Frag) (C : Addr) (x qual : Str) (st : Stmt) (ps : List Str) where
  f : Addr
  fd : FuncData
  fn : Fun K x qual st f fd
  mt : Meth K C x f
  bd : Binds K fd ps []
/-- bytes((one,)).decode('ascii') -/
def gSign : G := fun avs => match avs with
  | [.val (.int i)] => if 0 ≤ i ∧ i < 128 then .ok (.val (.str ⟨#[i.toNat]⟩), [none]) else .bad
  | _ => .bad
theorem fn_bad {P : Program} {w : World} {K : PySem.W.Frag} {mg : Str → Option Value} {base : Heap} {k n : Nat} {f : Addr} {fd : FuncData} {ps : List Str} : FnOk P w K mg base CX0 k f fd ps (spF K RX0 (fun _ => .bad) n) :=
  ⟨fun vs H Q E h => let ⟨_, _, _, _, z⟩ := h; z.elim, fun A outer s H args us vs Q E _ _ _ _ h => let ⟨_, _, _, _, z⟩ := h; z.elim⟩
end Pu

set_option Elab.async false
set_option linter.all false
/-! Pu18: how the pure meanings run. -/
namespace Pu
open PySem
section
variable {a b : MS} {t : MT} {g : MG} {ρ ρ1 ρ2 : Env} {r r' : RV} {n size : Nat} {x : PV} {xs : List PV} {avs : List AV}
theorem seq_nx (h : a ρ = .ok (.nx, ρ1)) : mSeq a b ρ = b ρ1 := by unfold mSeq; rw [h]; rfl
theorem seq_rt (h : a ρ = .ok (.rt r, ρ1)) : mSeq a b ρ = .ok (.rt r, ρ1) := by unfold mSeq; rw [h]; rfl
theorem seq_bk (h : a ρ = .ok (.bk, ρ1)) : mSeq a b ρ = .ok (.bk, ρ1) := by unfold mSeq; rw [h]; rfl
theorem seq_ct (h : a ρ = .ok (.ct, ρ1)) : mSeq a b ρ = .ok (.ct, ρ1) := by unfold mSeq; rw [h]; rfl
theorem run_rt (ρ0 : Env) (e : avs.map AV.slot ++ List.replicate (size - avs.length) none = ρ0) (h : a ρ0 = .ok (.rt r, ρ1)) (ho : r.out = some r') : runF size a avs = .ok (r', outsOf avs.length ρ1) := by
  unfold runF
  rw [e, h]
  show (liftO r.out).bind _ = _
  rw [ho]
  rfl
theorem run_nx (ρ0 : Env) (e : avs.map AV.slot ++ List.replicate (size - avs.length) none = ρ0) (h : a ρ0 = .ok (.nx, ρ1)) : runF size a avs = .ok (.val .non, outsOf avs.length ρ1) := by
  unfold runF
  rw [e, h]
  rfl
theorem while_t (ht : t ρ = .ok (true, ρ1)) (hb : b ρ1 = .ok (.nx, ρ2)) : whileM t b (n + 1) ρ = whileM t b n ρ2 := by
  show (t ρ).bind _ = _
  rw [ht, Res.bind_ok]
  dsimp only
  rw [if_pos rfl, hb]
  rfl
theorem while_rt (ht : t ρ = .ok (true, ρ1)) (hb : b ρ1 = .ok (.rt r, ρ2)) : whileM t b (n + 1) ρ = .ok (.rt r, ρ2) := by
  show (t ρ).bind _ = _
  rw [ht, Res.bind_ok]
  dsimp only
  rw [if_pos rfl, hb]
  rfl
theorem while_f (ht : t ρ = .ok (false, ρ1)) : whileM t b (n + 1) ρ = .ok (.nx, ρ1) := by
  show (t ρ).bind _ = _
  rw [ht]
  rfl
theorem for_nil : forM g b [] ρ = .ok (.nx, ρ) := rfl
theorem for_cons (hg : g x ρ = some ρ1) (hb : b ρ1 = .ok (.nx, ρ2)) : forM g b (x :: xs) ρ = forM g b xs ρ2 := by
  show (liftO (g x ρ)).bind _ = _
  rw [hg]
  show (b ρ1).bind _ = _
  rw [hb]
  rfl
theorem for_rt (hg : g x ρ = some ρ1) (hb : b ρ1 = .ok (.rt r, ρ2)) : forM g b (x :: xs) ρ = .ok (.rt r, ρ2) := by
  show (liftO (g x ρ)).bind _ = _
  rw [hg]
  show (b ρ1).bind _ = _
  rw [hb]
  rfl
theorem ifs_t (ht : t ρ = .ok (true, ρ1)) : mIfS t a b ρ = a ρ1 := by
  show (t ρ).bind _ = _
  rw [ht]
  rfl
theorem ifs_f (ht : t ρ = .ok (false, ρ1)) : mIfS t a b ρ = b ρ1 := by
  show (t ρ).bind _ = _
  rw [ht]
  rfl
theorem mfor_of {mi : MI} (h : mi ρ = .ok (xs, ρ1)) : mFor mi g b ρ = forM g b xs ρ1 := by
  show (mi ρ).bind _ = _
  rw [h]
  rfl
theorem lc_nil {vs : List Nat} {e : M} : lcM vs g t e [] ρ = .ok ([], ρ) := rfl
theorem lc_cons {vs : List Nat} {e : M} {ρ3 : Env} {y : PV} (hg : g x ρ = some ρ1) (ht : t ρ1 = .ok (true, ρ2)) (he : e ρ2 = .ok (.val y, ρ3)) : lcM vs g t e (x :: xs) ρ = (lcM vs g t e xs (wipeE ρ3 vs)).bind fun r => .ok (y :: r.1, r.2) := by
  show (liftO (g x ρ)).bind _ = _
  rw [hg]
  show (t ρ1).bind _ = _
  rw [ht, Res.bind_ok]
  dsimp only
  rw [if_pos rfl]
  unfold mOp
  rw [he]
  rfl
theorem lc_skip {vs : List Nat} {e : M} (hg : g x ρ = some ρ1) (ht : t ρ1 = .ok (false, ρ2)) : lcM vs g t e (x :: xs) ρ = lcM vs g t e xs (wipeE ρ2 vs) := by
  show (liftO (g x ρ)).bind _ = _
  rw [hg]
  show (t ρ1).bind _ = _
  rw [ht]
  rfl
/-- a comprehension whose items leave all as it was -/
theorem lc_all {vs : List Nat} {e : M} {f : PV → Option PV} (ρ0 : Env) : ∀ (xs ys : List PV), (∀ x ∈ xs, ∀ y, f x = some y → ∃ ρ1 ρ2 ρ3, g x ρ0 = some ρ1 ∧ t ρ1 = .ok (true, ρ2) ∧ e ρ2 = .ok (.val y, ρ3) ∧ wipeE ρ3 vs = ρ0) → xs.mapM f = some ys → lcM vs g t e xs ρ0 = .ok (ys, ρ0)
  | [], ys, _, h => by cases h; rfl
  | x :: xs, ys, hx, h => by
    rw [List.mapM_cons] at h
    cases e1 : f x with
    | none => rw [e1] at h; cases h
    | some y =>
      rw [e1] at h
      cases e2 : xs.mapM f with
      | none => rw [e2] at h; cases h
      | some zs =>
        rw [e2] at h
        cases h
        obtain ⟨ρ1, ρ2, ρ3, h1, h2, h3, h4⟩ := hx x (List.mem_cons_self ..) y e1
        rw [lc_cons h1 h2 h3, h4, lc_all ρ0 xs zs (fun z hz => hx z (List.mem_cons_of_mem _ hz)) e2]
        rfl
theorem lc_map {vs : List Nat} {e : M} {f : PV → PV} (ρ0 : Env) : ∀ (xs : List PV), (∀ x ∈ xs, ∃ ρ1 ρ2 ρ3, g x ρ0 = some ρ1 ∧ t ρ1 = .ok (true, ρ2) ∧ e ρ2 = .ok (.val (f x), ρ3) ∧ wipeE ρ3 vs = ρ0) → lcM vs g t e xs ρ0 = .ok (xs.map f, ρ0)
  | [], _ => rfl
  | x :: xs, hx => by
    obtain ⟨ρ1, ρ2, ρ3, h1, h2, h3, h4⟩ := hx x (List.mem_cons_self ..)
    rw [lc_cons h1 h2 h3, h4, lc_map ρ0 xs fun z hz => hx z (List.mem_cons_of_mem _ hz)]
    rfl
theorem mlc_of {vs : List Nat} {mi : MI} {e : M} {ys : List PV} (hi : mi ρ = .ok (xs, ρ1)) (hz : xs.length ≤ 16777216) (h : lcM vs g t e xs (wipeE ρ1 vs) = .ok (ys, ρ2)) : mLc vs mi g t e ρ = .ok (.new (.lst ys), restoreE vs ρ1 ρ2) := by
  unfold mLc
  rw [hi]
  rw [Res.bind_ok]
  dsimp only
  rw [if_pos hz, h]
  rfl
end
section
variable {ρ ρ1 ρ2 : Env} {ma : MA} {m mb : M} {g : G} {ps : List PV} {p q : PV} {r : RV} {outs : List (Option OB)} {xs ys : List PV}
theorem findArg_vals (j : Nat) : ∀ ps : List PV, findArg j (ps.map RV.val) = none
  | [] => rfl
  | p :: ps => by
    show (if RV.bor? (.val p) = some j then some 0 else (findArg j (ps.map RV.val)).map (· + 1)) = none
    rw [if_neg (by intro z; cases z), findArg_vals j ps]
    rfl
theorem backs_vals (ρ : Env) (ps : List PV) (outs : List (Option OB)) : backs ρ (ps.map RV.val) outs = ρ := by
  unfold backs
  apply List.ext_getElem?
  intro j
  rw [List.getElem?_mapIdx]
  cases e : ρ[j]? with
  | none => rfl
  | some s =>
    show some (match findArg j (ps.map RV.val) with | some k => back1 s (outs[k]?).join | none => s) = some s
    rw [findArg_vals]
theorem lone_vals (ps : List PV) : lone (ps.map RV.val) = true := by
  have e : (ps.map RV.val).filterMap RV.bor? = [] := by
    induction ps with
    | nil => rfl
    | cons p ps ih => exact ih
  unfold lone
  rw [e]
  rfl
theorem avs_vals (ρ : Env) : ∀ ps : List PV, avsOf ρ (ps.map RV.val) = some (ps.map AV.val)
  | [] => rfl
  | p :: ps => by
    show (avOf ρ (.val p)).bind _ = _
    rw [show avOf ρ (.val p) = some (.val p) from rfl, avs_vals ρ ps]
    rfl
theorem args_nil : mANil ρ = .ok (([] : List PV).map RV.val, ρ) := rfl
theorem args_cons (h : m ρ = .ok (.val p, ρ1)) (t : ma ρ1 = .ok (ps.map RV.val, ρ2)) : mACons m ma ρ = .ok ((p :: ps).map RV.val, ρ2) := by
  unfold mACons mOp
  rw [h, Res.bind_ok, Res.bind_ok]
  dsimp only
  rw [t]
  rfl
theorem call_vals (h : ma ρ = .ok (ps.map RV.val, ρ1)) (hg : g (ps.map AV.val) = .ok (r, outs)) : mCall g ma ρ = .ok (r, ρ1) := by
  unfold mCall
  rw [h, Res.bind_ok]
  dsimp only
  rw [lone_vals, if_pos rfl, avs_vals]
  show (g (ps.map AV.val)).bind _ = _
  rw [hg]
  show Res.ok (r, backs ρ1 (ps.map RV.val) outs) = _
  rw [backs_vals]
theorem call1 (h : m ρ = .ok (.val p, ρ1)) (hg : g [.val p] = .ok (r, outs)) : mCall g (mACons m mANil) ρ = .ok (r, ρ1) := call_vals (args_cons h args_nil) hg
theorem call2 {m2 : M} (h : m ρ = .ok (.val p, ρ1)) (h2 : m2 ρ1 = .ok (.val q, ρ2)) (hg : g [.val p, .val q] = .ok (r, outs)) : mCall g (mACons m (mACons m2 mANil)) ρ = .ok (r, ρ2) := call_vals (args_cons h (args_cons h2 args_nil)) hg
theorem ret_of (h : m ρ = .ok (r, ρ1)) : mRet m ρ = .ok (.rt r, ρ1) := by unfold mRet; rw [h]; rfl
theorem asg_of {i : Nat} (h : m ρ = .ok (r, ρ1)) (hs : setR i r ρ1 = some ρ2) : mAsg i m ρ = .ok (.nx, ρ2) := by
  unfold mAsg
  rw [h, Res.bind_ok]
  dsimp only
  rw [hs]
  rfl
theorem bin_new (h : m ρ = .ok (.new (.lst xs), ρ1)) (h2 : mb ρ1 = .ok (.new (.lst ys), ρ2)) (hz : szOk (xs.length + ys.length) = true) : mBin pAdd m mb ρ = .ok (.new (.lst (xs ++ ys)), ρ2) := by
  unfold mBin mOp
  rw [h, Res.bind_ok, Res.bind_ok]
  dsimp only
  rw [h2]
  simp [RV.fz, OB.pv, deref, pAdd, hz, liftO, Res.bind]
end
section
variable {ρ ρ1 ρ2 : Env} {ma mb : M} {ta tb : MT} {a b : PV} {r : RV} {f : PV → PV → Option RV}
theorem andv_t (h : ma ρ = .ok (.val (.bl true), ρ1)) : mAndV ma mb ρ = mb ρ1 := by unfold mAndV; rw [h]; rfl
theorem andv_f (h : ma ρ = .ok (.val (.bl false), ρ1)) : mAndV ma mb ρ = .ok (.val (.bl false), ρ1) := by unfold mAndV; rw [h]; rfl
theorem orv_t (h : ma ρ = .ok (.val (.bl true), ρ1)) : mOrV ma mb ρ = .ok (.val (.bl true), ρ1) := by unfold mOrV; rw [h]; rfl
theorem orv_f (h : ma ρ = .ok (.val (.bl false), ρ1)) : mOrV ma mb ρ = mb ρ1 := by unfold mOrV; rw [h]; rfl
theorem mif_t (h : ta ρ = .ok (true, ρ1)) : mIf ta ma mb ρ = ma ρ1 := by unfold mIf; rw [h]; rfl
theorem mif_f (h : ta ρ = .ok (false, ρ1)) : mIf ta ma mb ρ = mb ρ1 := by unfold mIf; rw [h]; rfl
theorem tor_t (h : ta ρ = .ok (true, ρ1)) : mTOr ta tb ρ = .ok (true, ρ1) := by unfold mTOr; rw [h]; rfl
theorem tor_f (h : ta ρ = .ok (false, ρ1)) : mTOr ta tb ρ = tb ρ1 := by unfold mTOr; rw [h]; rfl
theorem tand_t (h : ta ρ = .ok (true, ρ1)) : mTAnd ta tb ρ = tb ρ1 := by unfold mTAnd; rw [h]; rfl
theorem tand_f (h : ta ρ = .ok (false, ρ1)) : mTAnd ta tb ρ = .ok (false, ρ1) := by unfold mTAnd; rw [h]; rfl
theorem tnot_of {c : Bool} (h : ta ρ = .ok (c, ρ1)) : mTNot ta ρ = .ok (!c, ρ1) := by unfold mTNot; rw [h]; rfl
theorem test_of {c : Bool} (h : ma ρ = .ok (.val (.bl c), ρ1)) : mTest ma ρ = .ok (c, ρ1) := by unfold mTest; rw [h]; rfl
theorem truth_of' {c : Bool} (h : ma ρ = .ok (.val a, ρ1)) (ht : truth a = some c) : mTruth ma ρ = .ok (c, ρ1) := by
  unfold mTruth mOp
  rw [h]
  show ((liftO (truth a)).bind fun k => Res.ok (k, ρ1)) = _
  rw [ht]
  rfl
/-- an operator on two values -/
theorem bin_val (h : ma ρ = .ok (.val a, ρ1)) (h2 : mb ρ1 = .ok (.val b, ρ2)) (hf : f a b = some r) : mBin f ma mb ρ = .ok (r, ρ2) := by
  unfold mBin mOp
  rw [h, Res.bind_ok, Res.bind_ok]
  dsimp only
  rw [h2]
  simp [RV.fz, deref, liftO, Res.bind, hf]
theorem app1 {g : List PV → Option RV} (h : ma ρ = .ok (.val a, ρ1)) (hg : g [a] = some r) : mApp g (mACons ma mANil) ρ = .ok (r, ρ1) := by
  unfold mApp mACons mOp
  rw [h]
  simp [RV.fz, derefs, deref, liftO, Res.bind, mANil, hg]
theorem app1n {g : List PV → Option RV} {o : OB} (h : ma ρ = .ok (.new o, ρ1)) (hg : g [o.pv] = some r) : mApp g (mACons ma mANil) ρ = .ok (r, ρ1) := by
  unfold mApp mACons mOp
  rw [h]
  simp [RV.fz, derefs, deref, liftO, Res.bind, mANil, hg]
end
theorem range1e : List.range 1 = [0] := rfl
theorem range2e : List.range 2 = [0, 1] := rfl
theorem range3e : List.range 3 = [0, 1, 2] := rfl
theorem range4e : List.range 4 = [0, 1, 2, 3] := rfl
theorem iop_eval {g : Int → Int → Option PV} {i j : Int} {p : PV} (h : g i j = some p) : iop g (.int i) (.int j) = some (.val p) := by
  show (g i j).map RV.val = _
  rw [h]
  rfl
/-- x op= e on a value -/
theorem aug_val {i : Nat} {f : PV → PV → Option RV} {m : M} {ρ ρ1 ρ2 : Env} {a b : PV} {r : RV} (h0 : ρ[i]? = some (some (.val a))) (h : m ρ = .ok (.val b, ρ1)) (hf : f a b = some r) (hs : setR i r ρ1 = some ρ2) : mAug i f m ρ = .ok (.nx, ρ2) := by
  have e0 : mBor i ρ = .ok (.val a, ρ) := by
    unfold mBor
    rw [h0]
  have e1 : mOp m ρ = .ok (.val b, ρ1) := by
    unfold mOp
    rw [h]
    rfl
  unfold mAug
  rw [e0, Res.bind_ok]
  dsimp only
  rw [e1, Res.bind_ok]
  dsimp only
  rw [show deref ρ1 (.val a) = some a from rfl, show deref ρ1 (.val b) = some b from rfl, liftO_some, liftO_some, Res.bind_ok, Res.bind_ok, hf, liftO_some, Res.bind_ok, hs]
  rfl
theorem isi_NoneType_int : isiB "NoneType" "int" = some false := by decide +kernel
theorem isi_NoneType_bool : isiB "NoneType" "bool" = some false := by decide +kernel
theorem isi_NoneType_str : isiB "NoneType" "str" = some false := by decide +kernel
theorem isi_NoneType_tuple : isiB "NoneType" "tuple" = some false := by decide +kernel
theorem isi_NoneType_list : isiB "NoneType" "list" = some false := by decide +kernel
theorem isi_bool_int : isiB "bool" "int" = some true := by decide +kernel
theorem isi_bool_bool : isiB "bool" "bool" = some true := by decide +kernel
theorem isi_bool_str : isiB "bool" "str" = some false := by decide +kernel
theorem isi_bool_tuple : isiB "bool" "tuple" = some false := by decide +kernel
theorem isi_bool_list : isiB "bool" "list" = some false := by decide +kernel
theorem isi_int_int : isiB "int" "int" = some true := by decide +kernel
theorem isi_int_bool : isiB "int" "bool" = some false := by decide +kernel
theorem isi_int_str : isiB "int" "str" = some false := by decide +kernel
theorem isi_int_tuple : isiB "int" "tuple" = some false := by decide +kernel
theorem isi_int_list : isiB "int" "list" = some false := by decide +kernel
theorem isi_str_int : isiB "str" "int" = some false := by decide +kernel
theorem isi_str_bool : isiB "str" "bool" = some false := by decide +kernel
theorem isi_str_str : isiB "str" "str" = some true := by decide +kernel
theorem isi_str_tuple : isiB "str" "tuple" = some false := by decide +kernel
theorem isi_str_list : isiB "str" "list" = some false := by decide +kernel
theorem isi_tuple_int : isiB "tuple" "int" = some false := by decide +kernel
theorem isi_tuple_bool : isiB "tuple" "bool" = some false := by decide +kernel
theorem isi_tuple_str : isiB "tuple" "str" = some false := by decide +kernel
theorem isi_tuple_tuple : isiB "tuple" "tuple" = some true := by decide +kernel
theorem isi_tuple_list : isiB "tuple" "list" = some false := by decide +kernel
theorem isi_list_int : isiB "list" "int" = some false := by decide +kernel
theorem isi_list_bool : isiB "list" "bool" = some false := by decide +kernel
theorem isi_list_str : isiB "list" "str" = some false := by decide +kernel
theorem isi_list_tuple : isiB "list" "tuple" = some false := by decide +kernel
theorem isi_list_list : isiB "list" "list" = some true := by decide +kernel
theorem isi_dict_int : isiB "dict" "int" = some false := by decide +kernel
theorem isi_dict_bool : isiB "dict" "bool" = some false := by decide +kernel
theorem isi_dict_str : isiB "dict" "str" = some false := by decide +kernel
theorem isi_dict_tuple : isiB "dict" "tuple" = some false := by decide +kernel
theorem isi_dict_list : isiB "dict" "list" = some false := by decide +kernel
end Pu

set_option Elab.async false
set_option linter.all false
/-! Pu19: how fields, methods and lent objects run. -/
namespace Pu
open PySem
section
variable {ρ ρ1 : Env} {ma : MA} {m : M} {g : G} {ps : List PV} {p v : PV} {r : RV} {outs : List (Option OB)} {ns : List Str} {xs : List PV} {C : Addr} {j : Nat} {f mm : Str} {o o' : OB}
/-- the slot holds o, own or lent -/
def Hold (ρ : Env) (j : Nat) (w : OB → SV) (o : OB) : Prop := ρ[j]? = some (some (w o)) ∧ (w = SV.par ∨ w = SV.own)
theorem Hold.own {w : OB → SV} (h : Hold ρ j w o) : ownO ρ j = some o := by
  obtain ⟨h, rfl | rfl⟩ := h
  · unfold ownO; rw [h]
  · unfold ownO; rw [h]
theorem Hold.setC {w : OB → SV} (h : Hold ρ j w o) (o' : OB) : setC j o' ρ = ρ.set j (some (w o')) := by
  obtain ⟨h, rfl | rfl⟩ := h
  · unfold Pu.setC; rw [h]
  · unfold Pu.setC; rw [h]
theorem Hold.bor {w : OB → SV} (h : Hold ρ j w o) : mBor j ρ = .ok (.bor j, ρ) := by
  obtain ⟨h, rfl | rfl⟩ := h
  · unfold mBor; rw [h]
  · unfold mBor; rw [h]
theorem Hold.av {w : OB → SV} (h : Hold ρ j w o) : avOf ρ (.bor j) = some (.own o) := by
  obtain ⟨h, rfl | rfl⟩ := h
  · unfold avOf; dsimp only; rw [h]
  · unfold avOf; dsimp only; rw [h]
theorem Hold.ob {w : OB → SV} (h : Hold ρ j w (.ob C ns xs)) : obO ρ j C = some (ns, xs) := by
  unfold obO
  rw [h.own]
  show (if C = C then some (ns, xs) else none) = _
  rw [if_pos rfl]
theorem fld_of {w : OB → SV} (h : Hold ρ j w (.ob C ns xs)) (hl : lookF ns xs f = some v) : mFld C j f ρ = .ok (.val v, ρ) := by
  unfold mFld
  rw [h.ob, liftO_some, Res.bind_ok]
  dsimp only
  rw [hl]
  rfl
theorem putFld_of {w : OB → SV} (h : Hold ρ j w (.ob C ns xs)) (hn : ns.length < 1000) : putFld C j f v ρ = some (ρ.set j (some (w (.ob C (putNs ns f) (putVs ns xs f v))))) := by
  unfold putFld
  rw [h.ob]
  show (if ns.length < 1000 then _ else _) = _
  rw [if_pos hn, h.setC]
theorem putf_of {w : OB → SV} (h : Hold ρ1 j w (.ob C ns xs)) (hm : m ρ = .ok (.val v, ρ1)) (hn : ns.length < 1000) : mPutFld C j f m ρ = .ok (.nx, ρ1.set j (some (w (.ob C (putNs ns f) (putVs ns xs f v))))) := by
  have e : mOp m ρ = .ok (.val v, ρ1) := by unfold mOp; rw [hm]; rfl
  unfold mPutFld
  rw [e, Res.bind_ok]
  show (liftO (putFld C j f v ρ1)).bind _ = _
  rw [putFld_of h hn]
  rfl
theorem augf_of {w : OB → SV} {h2 : PV → PV → Option RV} {a b : PV} (h : Hold ρ j w (.ob C ns xs)) (hl : lookF ns xs f = some a) (hm : m ρ = .ok (.val b, ρ)) (hf : h2 a b = some (.val v)) (hn : ns.length < 1000) : mAugFld C j f h2 m ρ = .ok (.nx, ρ.set j (some (w (.ob C (putNs ns f) (putVs ns xs f v))))) := by
  have e : mOp m ρ = .ok (.val b, ρ) := by unfold mOp; rw [hm]; rfl
  unfold mAugFld
  rw [h.ob, liftO_some, Res.bind_ok]
  dsimp only
  rw [hl, liftO_some, Res.bind_ok, e, Res.bind_ok]
  show (liftO (h2 a b)).bind _ = _
  rw [hf]
  show (liftO (putFld C j f v ρ)).bind _ = _
  rw [putFld_of h hn]
  rfl
theorem lone_first (j : Nat) (ps : List PV) : lone (.bor j :: ps.map RV.val) = true := by
  have e : (ps.map RV.val).filterMap RV.bor? = [] := by
    induction ps with
    | nil => rfl
    | cons p ps ih => exact ih
  unfold lone
  rw [List.filterMap_cons_some (show RV.bor? (.bor j) = some j from rfl), e]
  simp
theorem backs_first {w : OB → SV} (h : Hold ρ j w o) (ps : List PV) : backs ρ (.bor j :: ps.map RV.val) (some o' :: outs) = ρ.set j (some (w o')) := by
  unfold backs
  apply List.ext_getElem?
  intro i
  rw [List.getElem?_mapIdx]
  by_cases hi : i = j
  · subst hi
    have hl : i < ρ.length := (List.getElem?_eq_some_iff.mp h.1).1
    rw [h.1, List.getElem?_set, if_pos rfl, if_pos hl]
    have e : findArg i (.bor i :: ps.map RV.val) = some 0 := by
      unfold findArg
      rw [if_pos (show RV.bor? (.bor i) = some i from rfl)]
    show some (match findArg i (.bor i :: ps.map RV.val) with | some k => back1 (some (w o)) ((some o' :: outs)[k]?).join | none => some (w o)) = _
    rw [e]
    obtain ⟨_, rfl | rfl⟩ := h
    · rfl
    · rfl
  · rw [List.getElem?_set_ne (Ne.symm hi)]
    have e : findArg i (.bor j :: ps.map RV.val) = none := by
      unfold findArg
      rw [if_neg (show ¬ RV.bor? (.bor j) = some i from fun z => hi (Option.some.inj z).symm), findArg_vals]
      rfl
    cases es : ρ[i]? with
    | none => rfl
    | some s =>
      show some (match findArg i (.bor j :: ps.map RV.val) with | some k => back1 s ((some o' :: outs)[k]?).join | none => s) = _
      rw [e]
/-- f(x, ..) that changes x's object -/
theorem call_first {w : OB → SV} (h : Hold ρ j w o) (ha : ma ρ = .ok (ps.map RV.val, ρ)) (hg : g (.own o :: ps.map AV.val) = .ok (r, some o' :: outs)) : mCall g (mACons (mBor j) ma) ρ = .ok (r, ρ.set j (some (w o'))) := by
  have e : mACons (mBor j) ma ρ = .ok (.bor j :: ps.map RV.val, ρ) := by
    unfold mACons mOp
    rw [h.bor, Res.bind_ok, Res.bind_ok]
    dsimp only
    rw [ha]
    rfl
  have ea : avsOf ρ (.bor j :: ps.map RV.val) = some (.own o :: ps.map AV.val) := by
    show (avOf ρ (.bor j)).bind _ = _
    rw [h.av, avs_vals]
    rfl
  unfold mCall
  rw [e, Res.bind_ok]
  dsimp only
  rw [lone_first, if_pos rfl, ea, liftO_some, Res.bind_ok, hg, Res.bind_ok]
  dsimp only
  rw [backs_first h]
theorem meth_of {w : OB → SV} (h : Hold ρ j w (.ob C ns xs)) (hm : mm ∉ ns) (ha : ma ρ = .ok (ps.map RV.val, ρ)) (hg : g (.own (.ob C ns xs) :: ps.map AV.val) = .ok (r, some o' :: outs)) : mMeth C mm g j ma ρ = .ok (r, ρ.set j (some (w o'))) := by
  unfold mMeth
  rw [h.ob, liftO_some, Res.bind_ok]
  dsimp only
  rw [if_neg hm]
  exact call_first h ha hg
theorem asgt_of {gt : MG} {ρ2 : Env} (h : m ρ = .ok (.val v, ρ1)) (hg : gt v ρ1 = some ρ2) : mAsgT gt m ρ = .ok (.nx, ρ2) := by
  have e : mOp m ρ = .ok (.val v, ρ1) := by unfold mOp; rw [h]; rfl
  unfold mAsgT
  rw [e, Res.bind_ok]
  show (liftO (gt v ρ1)).bind _ = _
  rw [hg]
  rfl
end
end Pu

set_option Elab.async false
set_option linter.all false
set_option maxRecDepth 100000
/-! Pu20: bytes((one,)).decode('ascii'). -/
namespace Pu
open PySem PySem.Spec PyProof.Rows L2 PySem.W PySem.Calls Builtin
section
variable {c : UInt8} {t t2 : Tok}
theorem asc_entry : «bytes.decode» ⟨[.bytes #[c] t, .str (PySem.Str.ofString "ascii") t2], []⟩ = (mkStr (PySem.Str.ofString "utf-8") >>= fun _ => mkStr (PySem.Str.ofString "ascii") >>= fun e => mkStr (PySem.Str.ofString "bytes.decode") >>= fun d =>
    call (.builtin "_codecs.decode.text") [.bytes #[c] t, e, .none, d] >>= fun v => ret v) := by kernel_rfl
theorem asc_road {id : String} {b : Array UInt8} : _codecs.decodeRoad id b (PySem.Str.ofString "ascii") none [] = (_codecs.runDecoder id _codecs.asciiDecoder none true b 0 [] >>= fun r => mkStr ⟨r.1⟩) := by kernel_rfl
theorem asc_found {b : Array UInt8} {p : Nat} (h : (b.getD p 0).toNat < 128) : _codecs.asciiDecoder.find true b p = .text [(b.getD p 0).toNat] (p + 1) := by
  show (if (b.getD p 0).toNat < 128 then _ else _) = _
  rw [if_pos h]
  rfl
theorem asc_run {b : Array UInt8} (ha : ∀ p, p < b.size → (b.getD p 0).toNat < 128) (hz : b.size ≤ 16777216) (id : String) :
    _codecs.runDecoder id _codecs.asciiDecoder none true b 0 [] = pure ((b.toList.map UInt8.toNat).toArray, b.size) := by
  have big : ∀ p, ¬ ((KBdo.out b p).size > sizeLine) := fun p => by
    have h := KBdo.out_size b p
    rw [sizeLine_eq]
    omega
  unfold _codecs.runDecoder
  refine (KBdo.loop_bind (mk := fun p => ((p, KBdo.out b p, ({} : _codecs.Faults)) : Nat × Array Nat × _codecs.Faults)) (n := b.size) (fun x p hp => ?_)).trans ?_
  · simp only [if_neg (big p), if_neg (Nat.not_le.mpr hp), asc_found (ha p hp), KBdo.out_next hp]
  · show pure (KBdo.out b b.size, b.size) = _
    rw [KBdo.out_whole]
theorem args_dec2 (a b : Value) : argsOk "bytes.decode" ⟨[a, b], []⟩ := by
  unfold argsOk; rw [signature?_of (id := "bytes.decode") (n := ['e', 'd', 'o', 'c', 'e', 'd']) (o := ['s', 'e', 't', 'y', 'b']) (by kernel_rfl) FB.owner_bytes]; kernel_rfl
theorem asc_text {b : Array UInt8} {t1 t2 t3 : Tok} {x : PySem.Str} {n : Nat} {d : PySem.Str} (hd : ∀ id, _codecs.runDecoder id _codecs.asciiDecoder none true b 0 [] = pure (x.cps, n)) :
    Meets («_codecs.decode.text» ⟨[.bytes b t3, .str (PySem.Str.ofString "ascii") t1, .none, .str d t2], []⟩) (fun _ R s => x.length ≤ sizeLine ∧ R (.ok (.ret (.str x s.toks))) { s with toks := s.toks + 1 }) := by
  refine .of_wp fun prog w A R s hS => ?_
  obtain ⟨hsz, h⟩ := hS
  show wpAny _ _ (Bytes.bytesLike _ (.bytes b t3) >>= fun r => _) _ _ s
  refine wpAny_bind (wpAny_of_eq KBd.like_eq ?_)
  refine wpAny_bind (wpAny_of_eq KBd.held_eq ?_)
  show wpAny _ _ (_codecs.decodeRoad _ b (PySem.Str.ofString "ascii") none [] >>= fun v => _) _ _ s
  rw [asc_road, hd]
  refine wpAny_bind (wpAny_bind (wpAny_pure ?_))
  exact wpAny_mkStr (wpAny_pure ⟨_, rfl, h⟩) hsz
theorem asc_decode (hc : c.toNat < 128) : Meets («bytes.decode» ⟨[.bytes #[c] t, .str (PySem.Str.ofString "ascii") t2], []⟩) (fun _ R s => ∀ t' k, R (.ok (.ret (.str ⟨#[c.toNat]⟩ t'))) { s with toks := k }) := by
  refine .of_wp fun prog w A R s h => ?_
  have hd : ∀ id, _codecs.runDecoder id _codecs.asciiDecoder none true #[c] 0 [] = pure ((⟨#[c.toNat]⟩ : PySem.Str).cps, 1) := fun id => by
    refine (asc_run (b := #[c]) (fun p hp => ?_) (by simp) id).trans rfl
    have : p = 0 := by simpa using hp
    subst this
    exact hc
  rw [asc_entry]
  refine wpAny_bind (wpAny_mkStr ?_ (by decide))
  refine wpAny_bind (wpAny_mkStr ?_ (by decide))
  refine wpAny_bind (wpAny_mkStr ?_ (by decide))
  exact wpAny_bind (call_function_meets KBd.kind_text KBd.plain_text KBd.entry_text (KBd.args_text _ _ _ _) (asc_text hd) ⟨by rw [sizeLine_eq]; exact (by decide : 1 ≤ 16777216), wpAny_pure ⟨_, rfl, h _ _⟩⟩)
end
section
variable {X : Cx}
/-- b.decode('ascii'), one octet below 128 -/
theorem mt_asc : MtR X "bytes.decode" (fun x xs H Q => ∃ c : UInt8, x = .byt #[c] ∧ xs = [.str (PySem.Str.ofString "ascii")] ∧ c.toNat < 128 ∧ Q (.str ⟨#[c.toNat]⟩) H) := by
  intro pins s σ H x xs v us Q I rx rs h
  obtain ⟨c, rfl, rfl, hc, q⟩ := h
  obtain ⟨t, rfl⟩ := (show ∃ t, v = Value.bytes #[c] t from rx)
  obtain ⟨u, rfl, t2, rfl⟩ := vals1 rs
  exact call_meets FB.slot_bytes_decode (typeIs_bytes _ _ _) FB.entry_bytes_decode (args_dec2 _ _) (asc_decode hc) fun t' k => ⟨.str _, H, I.tok _, ⟨_, rfl⟩, q⟩
variable {o e : Expr} {es : List Expr} {to : TE} {t : TA} {name : Str} {apos cpos : Pos} {id : String} {r : V → List V → Hp → VK → Prop}
theorem pe_bmB (pa : PlainAttrs "bytes") (slot : Slot "bytes" name id) (hty : typeOf (.builtin id) = pure (.type "method_descriptor")) (hm : MtR X id r) (ho : PE X o to) (ha : PA X (e :: es) t)
    (hbase : attributeBase o name X.env (eval o X.env) = eval o X.env := by rfl)
    (hfew : ((backTo cpos (starEach (e :: es) X.env)).all (fun x => !x.1) && (backToKw cpos (keywordEach [] X.env)).all (fun x => x.1.isSome)
      && decide ((e :: es).length + ([] : List Keyword).length + (if ([] : List Keyword).isEmpty then 0 else 1) < 30)) = true := by rfl)
    (hline : (apos.endLine == cpos.line) = true := by rfl) (hs : starEach (e :: es) X.env = (false, eval e X.env) :: starEach es X.env := by rfl) (hplain : (backTo cpos (starEach es X.env)).any (·.1) = false := by rfl) :
    PE X (.Call (.Attribute o name apos) (e :: es) [] cpos) (fun σ H Q => to σ H fun x H1 => (∃ b, x = .byt b) ∧ t σ H1 fun xs H2 => r x xs H2 Q) := by
  refine ⟨fun pins s σ H Q I h => ?_⟩
  refine wpAny_Call_method_late hbase hfew hline rfl (thn (ho.run pins s σ H _ I h) fun v s1 ⟨x, H1, I1, r1, ty, q1⟩ => ?_)
  obtain ⟨b, rfl⟩ := ty
  obtain ⟨tk, rfl⟩ := (show ∃ t, v = Value.bytes b t from r1)
  refine ⟨"bytes", id, pa, slot, hty, typeIs_bytes _ _ _, (fun a z => nomatch z), ?_⟩
  have hA := ha.run cpos pins s1 σ H1 _ I1 q1
  rw [hs] at hA ⊢
  refine Calls.callWith_builtin (by show (false || (backTo cpos (starEach es X.env)).any (·.1)) = false; rw [hplain] <;> rfl) (Calls.evalArgs_plain ?_)
  exact thn hA fun us s2 ⟨vs, H2, I2, r2, q2⟩ => hm pins s2 σ H2 (.byt b) vs _ us Q I2 r1 r2 q2
end
/-- bytes((e,)).decode('ascii') -/
def mAsc (m : M) : M := fun ρ => (mOp m ρ).bind fun p => (liftO p.1.int?).bind fun i => if 0 ≤ i ∧ i < 128 then .ok (.val (.str ⟨#[i.toNat]⟩), p.2) else .bad
section
variable {X : Cx} {W : WX} {e : Expr} {m : M} {p1 p2 p3 p4 apos cpos : Pos} {k j : Nat}
theorem SE.asc (he : SE X W e m) (hg : Gl X "bytes") (hm : X.mg "bytes" = none) (hc : X.calm = true)
    (hline : (apos.endLine == cpos.line) = true := by rfl) (hs0 : starEach [e] X.env = (false, eval e X.env) :: starEach [] X.env := by rfl) :
    SE X W (.Call (.Attribute (.Call (.Name "bytes" p1) [.Tuple [e] k p2] [] p3) "decode" apos) [.Constant (.str "ascii") j p4] [] cpos) (mAsc m) :=
  PE.imp (pe_bmB FB.plainAttrs_bytes FB.slot_bytes_decode FB.type_bytes_decode mt_asc (pe_callTy (call_bytes_tup hc) hg hm bt_bytes (SA.cons (W := W) (SE.tup (SA.cons he SA.nil hs0)) SA.nil)) (SA.cons (W := W) SE.str SA.nil) (hline := hline)) fun σ H Q ⟨ρ, F, R, q⟩ => by
    have key : mACons (mTup (mACons m mANil)) mANil ρ = (mOp m ρ).bind fun p => (liftO p.1.val?).bind fun x => .ok ([.val (.tup [x])], p.2) := by
      unfold mACons mANil mTup mOp
      dsimp only
      cases m ρ with
      | exc x => rfl
      | bad => rfl
      | ok p =>
        obtain ⟨r, ρ1⟩ := p
        cases r <;> rfl
    refine ⟨ρ, F, R, ?_⟩
    rw [key]
    have q' : Ok W ρ σ F H (mOp m ρ) _ := q.of_bind
    cases h : mOp m ρ with
    | exc x => rw [h] at q'; exact q'
    | bad => rw [h] at q'; exact q'
    | ok p =>
      rw [h] at q'
      obtain ⟨i, ei, q2⟩ := Ok.lift (show Ok W ρ σ F H ((liftO p.1.int?).bind _) _ from q')
      have er := int?_inv ei
      by_cases hi : 0 ≤ i ∧ i < 128
      · rw [if_pos hi] at q2
        have q2 : ∀ v F' H', ES X.K ρ σ F H p.2 σ F' H' → RepR X.K (Free H) F' H' p.2 σ (.val (.str ⟨#[i.toNat]⟩)) v → Q v H' := q2
        show Ok W ρ σ F H ((liftO p.1.val?).bind fun x => .ok ([RV.val (.tup [x])], p.2)) _
        rw [er]
        intro vs F1 H1 es1 qs
        cases qs with
        | cons r1 r2 =>
          cases r2
          have r1 : RepV X.K F1 (.tup [.int i]) _ := r1
          unfold RepV at r1
          obtain ⟨a, ws, rfl, s, rw1⟩ := r1
          obtain ⟨w, t, rfl, rw2, rw3⟩ := rw1.cons_inv
          rw [rw3.nil_inv, repI rw2] at s
          have hc8 : i.toNat.toUInt8.toNat = i.toNat := by
            simp
            omega
          refine ⟨a, [i], rfl, .of (es1.rel.fh.tup s), fun n hn => ?_, ⟨_, rfl⟩, p.2, F1, es1.rel, ?_⟩
          · have : n = i := by simpa using hn
            subst this
            exact ⟨hi.1, by omega⟩
          · refine fun vs2 F2 H2 es2 qs2 => ?_
            cases qs2 with
            | cons t1 t2 =>
              cases t2
              have t1 : RepV X.K F2 (.str "ascii") _ := t1
              unfold RepV at t1
              subst t1
              refine ⟨i.toNat.toUInt8, rfl, rfl, by rw [hc8]; omega, ?_⟩
              rw [hc8]
              exact q2 _ F2 H2 (es1.trans es2) (show RepV _ _ _ _ by unfold RepV; rfl)
      · rw [if_neg hi] at q2
        exact q2.elim
end
end Pu

set_option Elab.async false
set_option linter.all false
set_option maxRecDepth 100000
/-! Pu21: defs and methods as the law's head finds them. -/
namespace Pu
open PySem PySem.Spec PyProof.Rows L2
section
variable {K : PySem.W.Frag} {h : Heap} {mg : Str → Option Value} {x qual : Str} {st : Stmt} {ps : List Str} {f C : Addr} {oc : Value} {od an : Option Addr} {osl : Array (Option Value)} {kV doc pm cdv ct : Value}
def FnF.of (X : K.In h) (G : h.Ns mainGlobals mg) (a : PySem.W.nsIn K mainGlobals x = some (some (.ref f))) (l : K.lookup f = some ⟨oc, od, .func (PySem.W.fnOf x qual (defArgs st) (defBody st) (defScope st) .none kV doc pm an cdv ct), osl⟩)
    (c : PySem.W.codeIn K cdv qual = true) (k : PySem.W.keepIn K (.ref f) = true)
    (hb : ∀ (kV doc pm : Value) (an : Option Addr) (cdv ct : Value) (us : List Value), us.length = ps.length → bindArgs (PySem.W.fnOf x qual (defArgs st) (defBody st) (defScope st) .none kV doc pm an cdv ct) ⟨us, []⟩ = pure (ps.zip us)) : FnF K mg x qual st ps :=
  ⟨f, _, fun_mk l c k, PySem.W.mg_of X G a, (fun_mk l c k).binds hb⟩
def FnM.of (a : PySem.W.findIn K (.ref C) x = some (some (.ref f))) (i : PySem.W.isFn K (.ref f) = true) (l : K.lookup f = some ⟨oc, od, .func (PySem.W.fnOf x qual (defArgs st) (defBody st) (defScope st) .none kV doc pm an cdv ct), osl⟩)
    (c : PySem.W.codeIn K cdv qual = true) (k : PySem.W.keepIn K (.ref f) = true)
    (hb : ∀ (kV doc pm : Value) (an : Option Addr) (cdv ct : Value) (us : List Value), us.length = ps.length → bindArgs (PySem.W.fnOf x qual (defArgs st) (defBody st) (defScope st) .none kV doc pm an cdv ct) ⟨us, []⟩ = pure (ps.zip us)) : FnM K C x qual st ps :=
  ⟨f, _, fun_mk l c k, ⟨a, i, k⟩, (fun_mk l c k).binds hb⟩
end
end Pu

set_option Elab.async false
set_option linter.all false
set_option maxRecDepth 100000
set_option maxHeartbeats 4000000
/-! Printed by gen.py: the defs, their pure meanings, their walks. -/
namespace K80
open PySem PySem.Spec PyProof.Rows L2 Pu
def topS (i : Nat) : Stmt := PySem.Challenge.pw_humless_k80_whole_octets_and_back.main.body.getD i (.Pass ⟨0, 0, 0, 0⟩)
def inS (i j : Nat) : Stmt := (clsBody (topS i)).getD j (.Pass ⟨0, 0, 0, 0⟩)
abbrev s_is_sign : Stmt := topS 10
theorem sc_is_sign : FnScope ["one"] ["one"] (defScope s_is_sign) := ⟨rfl, rfl, rfl, by decide +kernel, rfl, by decide +kernel, by decide +kernel⟩
abbrev s_sign_of : Stmt := topS 11
theorem sc_sign_of : FnScope ["one"] ["one"] (defScope s_sign_of) := ⟨rfl, rfl, rfl, by decide +kernel, rfl, by decide +kernel, by decide +kernel⟩
abbrev s_are_octets : Stmt := topS 12
theorem sc_are_octets : FnScope ["value", "one"] ["value"] (defScope s_are_octets) := ⟨rfl, rfl, rfl, by decide +kernel, rfl, by decide +kernel, by decide +kernel⟩
abbrev s_few_digits : Stmt := topS 13
theorem sc_few_digits : FnScope ["number", "_"] ["number"] (defScope s_few_digits) := ⟨rfl, rfl, rfl, by decide +kernel, rfl, by decide +kernel, by decide +kernel⟩
abbrev s_counted : Stmt := topS 14
theorem sc_counted : FnScope ["value", "deep", "many", "item", "part", "sign"] ["value", "deep"] (defScope s_counted) := ⟨rfl, rfl, rfl, by decide +kernel, rfl, by decide +kernel, by decide +kernel⟩
abbrev s_digits_of : Stmt := topS 15
theorem sc_digits_of : FnScope ["number", "result"] ["number"] (defScope s_digits_of) := ⟨rfl, rfl, rfl, by decide +kernel, rfl, by decide +kernel, by decide +kernel⟩
abbrev s_laid : Stmt := topS 16
theorem sc_laid : FnScope ["value", "result", "item", "sign"] ["value"] (defScope s_laid) := ⟨rfl, rfl, rfl, by decide +kernel, rfl, by decide +kernel, by decide +kernel⟩
abbrev s_write_octets : Stmt := topS 17
theorem sc_write_octets : FnScope ["value"] ["value"] (defScope s_write_octets) := ⟨rfl, rfl, rfl, by decide +kernel, rfl, by decide +kernel, by decide +kernel⟩
abbrev s_read_digits : Stmt := topS 18
theorem sc_read_digits : FnScope ["octets", "at", "most", "number", "many", "scale", "one"] ["octets", "at", "most"] (defScope s_read_digits) := ⟨rfl, rfl, rfl, by decide +kernel, rfl, by decide +kernel, by decide +kernel⟩
abbrev s_Reader___init__ : Stmt := inS 19 0
theorem sc_Reader___init__ : FnScope ["self", "octets"] ["self", "octets"] (defScope s_Reader___init__) := ⟨rfl, rfl, rfl, by decide +kernel, rfl, by decide +kernel, by decide +kernel⟩
abbrev s_Reader_begin : Stmt := inS 19 1
theorem sc_Reader_begin : FnScope ["self"] ["self"] (defScope s_Reader_begin) := ⟨rfl, rfl, rfl, by decide +kernel, rfl, by decide +kernel, by decide +kernel⟩
abbrev s_Reader_number : Stmt := inS 19 2
theorem sc_Reader_number : FnScope ["self", "most", "result"] ["self", "most"] (defScope s_Reader_number) := ⟨rfl, rfl, rfl, by decide +kernel, rfl, by decide +kernel, by decide +kernel⟩
abbrev s_Reader_string : Stmt := inS 19 3
theorem sc_Reader_string : FnScope ["self", "many", "signs", "_"] ["self"] (defScope s_Reader_string) := ⟨rfl, rfl, rfl, by decide +kernel, rfl, by decide +kernel, by decide +kernel⟩
abbrev s_Reader_value : Stmt := inS 19 4
theorem sc_Reader_value : FnScope ["self", "deep", "start", "kind", "many", "_"] ["self", "deep"] (defScope s_Reader_value) := ⟨rfl, rfl, rfl, by decide +kernel, rfl, by decide +kernel, by decide +kernel⟩
abbrev s_read_octets : Stmt := topS 20
theorem sc_read_octets : FnScope ["octets", "reader", "result"] ["octets"] (defScope s_read_octets) := ⟨rfl, rfl, rfl, by decide +kernel, rfl, by decide +kernel, by decide +kernel⟩
abbrev s_first_unlike : Stmt := topS 21
theorem sc_first_unlike : FnScope ["one", "other", "at"] ["one", "other"] (defScope s_first_unlike) := ⟨rfl, rfl, rfl, by decide +kernel, rfl, by decide +kernel, by decide +kernel⟩
abbrev s_law_cup : Stmt := topS 23
theorem sc_law_cup : FnScope ["script", "cell"] ["script"] (defScope s_law_cup) := ⟨rfl, rfl, rfl, by decide +kernel, rfl, by decide +kernel, by decide +kernel⟩
abbrev s_law_roll : Stmt := topS 24
theorem sc_law_roll : FnScope ["cup", "many", "deep", "found"] ["cup", "many"] (defScope s_law_roll) := ⟨rfl, rfl, rfl, by decide +kernel, rfl, by decide +kernel, by decide +kernel⟩
abbrev s_law_some : Stmt := topS 25
theorem sc_law_some : FnScope ["cup", "things"] ["cup", "things"] (defScope s_law_some) := ⟨rfl, rfl, rfl, by decide +kernel, rfl, by decide +kernel, by decide +kernel⟩
abbrev s_law_sort : Stmt := topS 26
theorem sc_law_sort : FnScope ["value"] ["value"] (defScope s_law_sort) := ⟨rfl, rfl, rfl, by decide +kernel, rfl, by decide +kernel, by decide +kernel⟩
abbrev s_law_like : Stmt := topS 27
theorem sc_law_like : FnScope ["one", "other", "sort", "first", "second"] ["one", "other"] (defScope s_law_like) := ⟨rfl, rfl, rfl, by decide +kernel, rfl, by decide +kernel, by decide +kernel⟩
abbrev s_law_signs : Stmt := topS 28
theorem sc_law_signs : FnScope ["numbers", "signs", "one"] ["numbers"] (defScope s_law_signs) := ⟨rfl, rfl, rfl, by decide +kernel, rfl, by decide +kernel, by decide +kernel⟩
abbrev s_law_value : Stmt := topS 29
theorem sc_law_value : FnScope ["cup", "deep", "kind", "size", "turn"] ["cup", "deep"] (defScope s_law_value) := ⟨rfl, rfl, rfl, by decide +kernel, rfl, by decide +kernel, by decide +kernel⟩
abbrev s_law_digits : Stmt := topS 30
theorem sc_law_digits : FnScope ["number", "found", "turn", "one"] ["number"] (defScope s_law_digits) := ⟨rfl, rfl, rfl, by decide +kernel, rfl, by decide +kernel, by decide +kernel⟩
abbrev s_law_octets : Stmt := topS 31
theorem sc_law_octets : FnScope ["value", "found", "one", "sign"] ["value"] (defScope s_law_octets) := ⟨rfl, rfl, rfl, by decide +kernel, rfl, by decide +kernel, by decide +kernel⟩
abbrev s_law : Stmt := topS 33
abbrev N_law : List Str := ["script", "cup", "last", "turn", "great", "deep", "bad", "odd", "told", "value", "due", "at", "one"]
theorem sc_law : FnScope N_law ["script"] (defScope s_law) := ⟨rfl, rfl, rfl, by decide +kernel, rfl, by decide +kernel, by decide +kernel⟩
/-- the pure meanings of the defs -/
structure Tb where
  is_sign : G
  sign_of : G
  are_octets : G
  few_digits : G
  counted : G
  digits_of : G
  laid : G
  write_octets : G
  read_digits : G
  Reader_begin : G
  Reader_number : G
  Reader_string : G
  Reader_value : G
  read_octets : G
  first_unlike : G
  law_cup : G
  law_roll : G
  law_some : G
  law_sort : G
  law_like : G
  law_signs : G
  law_value : G
  law_digits : G
  law_octets : G
def b_Reader___init__ (C_Reader : Addr) : MS :=
    (mSeq (mPutFld C_Reader 0 "octets" (mNm 1))
    (mSeq (mPutFld C_Reader 0 "at" (mK (.int 0)))
    (mPutFld C_Reader 0 "parts" (mK (.int 1)))))
def g_Reader___init__ (C_Reader : Addr) : G := runF 2 (b_Reader___init__ C_Reader)
def b_is_sign (C_Reader : Addr) (t : Tb) : MS :=
    (mRet (mOrV (mChain pLe pLe (mK (.int 32)) (mBor 0) (mK (.int 126))) (mBin pEq (mBor 0) (mK (.int 10)))))
def b_sign_of (C_Reader : Addr) (t : Tb) : MS :=
    (mRet (mAsc (mNm 0)))
def b_are_octets (C_Reader : Addr) (t : Tb) : MS :=
    (mSeq (mIfS (mTNot (mTruth (mApp fIsi (mACons (mBor 0) (mACons (mK (.ty "tuple")) mANil)))))
    (mRet (mK (.bl false)))
    mNx)
    (mRet (mApp fAll (mACons (mLc [1] (mSrc (mNm 0)) (mgNm 1) mYes (mAndV (mApp fIsi (mACons (mBor 1) (mACons (mK (.ty "int")) mANil))) (mAndV (mNotV (mApp fIsi (mACons (mBor 1) (mACons (mK (.ty "bool")) mANil)))) (mChain pLe pLe (mK (.int 0)) (mBor 1) (mK (.int 255)))))) mANil))))
def b_few_digits (C_Reader : Addr) (t : Tb) : MS :=
    (mSeq (mFor (mRng rng1 (mACons (mK (.int 14)) mANil)) (mgNm 1)
    (mAug 0 pDiv (mBin pPow (mK (.int 128)) (mK (.int 64)))))
    (mRet (mBin pLt (mBor 0) (mBin pPow (mK (.int 128)) (mK (.int 54))))))
def b_counted (C_Reader : Addr) (t : Tb) : MS :=
    (mSeq (mIfS (mTOr (mTest (mBin pIs (mBor 0) (mK .non))) (mTruth (mApp fIsi (mACons (mBor 0) (mACons (mK (.ty "bool")) mANil)))))
    (mRet (mK (.int 1)))
    mNx)
    (mSeq (mIfS (mTruth (mApp fIsi (mACons (mBor 0) (mACons (mK (.ty "int")) mANil))))
    (mRet (mIf (mTruth (mCall t.few_digits (mACons (mIf (mTest (mBin pGe (mBor 0) (mK (.int 0)))) (mNm 0) (mBin pSub (mUn pNeg (mBor 0)) (mK (.int 1)))) mANil))) (mK (.int 1)) (mK .non)))
    mNx)
    (mSeq (mIfS (mTruth (mApp fIsi (mACons (mBor 0) (mACons (mK (.ty "str")) mANil))))
    (mRet (mIf (mTAnd (mTest (mBin pLe (mApp fLen (mACons (mBor 0) mANil)) (mK (.int 20000)))) (mTruth (mApp fAll (mACons (mLc [5] (mSrc (mNm 0)) (mgNm 5) mYes (mCall t.is_sign (mACons (mApp fOrd (mACons (mBor 5) mANil)) mANil))) mANil)))) (mK (.int 1)) (mK .non)))
    mNx)
    (mSeq (mIfS (mTOr (mTNot (mTruth (mApp fIsi (mACons (mBor 0) (mACons (mK (.ty "tuple")) mANil))))) (mTOr (mTest (mBin pEq (mBor 1) (mK (.int 60)))) (mTest (mBin pGt (mApp fLen (mACons (mBor 0) mANil)) (mK (.int 50000))))))
    (mRet (mK .non))
    mNx)
    (mSeq (mAsg 2 (mK (.int 1)))
    (mSeq (mFor (mSrc (mNm 0)) (mgNm 3)
    (mSeq (mAsg 4 (mCall t.counted (mACons (mNm 3) (mACons (mBin pAdd (mBor 1) (mK (.int 1))) mANil))))
    (mSeq (mIfS (mTOr (mTest (mBin pIs (mBor 4) (mK .non))) (mTest (mBin pGt (mBin pAdd (mBor 2) (mBor 4)) (mK (.int 500000)))))
    (mRet (mK .non))
    mNx)
    (mAug 2 pAddI (mBor 4)))))
    (mRetNm 2)))))))
def b_digits_of (C_Reader : Addr) (t : Tb) : MS :=
    (mSeq (mAsg 1 (mLst mANil))
    (mSeq (whileM (mTest (mBin pGt (mBor 0) (mK (.int 127)))) (mSeq (mAppend 1 (mBin pAdd (mBin pMod (mApp fInt (mACons (mBor 0) mANil)) (mK (.int 128))) (mK (.int 128))))
    (mAug 0 pDiv (mK (.int 128)))) 1000)
    (mSeq (mAppend 1 (mNm 0))
    (mRetNm 1))))
def b_laid (C_Reader : Addr) (t : Tb) : MS :=
    (mSeq (mIfS (mTest (mBin pIs (mBor 0) (mK .non)))
    (mRet (mLst (mACons (mK (.int 0)) mANil)))
    mNx)
    (mSeq (mIfS (mTest (mBin pIs (mBor 0) (mK (.bl true))))
    (mRet (mLst (mACons (mK (.int 5)) mANil)))
    mNx)
    (mSeq (mIfS (mTest (mBin pIs (mBor 0) (mK (.bl false))))
    (mRet (mLst (mACons (mK (.int 6)) mANil)))
    mNx)
    (mSeq (mIfS (mTruth (mApp fIsi (mACons (mBor 0) (mACons (mK (.ty "int")) mANil))))
    (mRet (mIf (mTest (mBin pGe (mBor 0) (mK (.int 0)))) (mBin pAdd (mLst (mACons (mK (.int 1)) mANil)) (mCall t.digits_of (mACons (mNm 0) mANil))) (mBin pAdd (mLst (mACons (mK (.int 2)) mANil)) (mCall t.digits_of (mACons (mBin pSub (mUn pNeg (mBor 0)) (mK (.int 1))) mANil)))))
    mNx)
    (mSeq (mIfS (mTruth (mApp fIsi (mACons (mBor 0) (mACons (mK (.ty "str")) mANil))))
    (mRet (mBin pAdd (mBin pAdd (mLst (mACons (mK (.int 3)) mANil)) (mCall t.digits_of (mACons (mApp fLen (mACons (mBor 0) mANil)) mANil))) (mLc [3] (mSrc (mNm 0)) (mgNm 3) mYes (mApp fOrd (mACons (mBor 3) mANil)))))
    mNx)
    (mSeq (mAsg 1 (mBin pAdd (mLst (mACons (mK (.int 4)) mANil)) (mCall t.digits_of (mACons (mApp fLen (mACons (mBor 0) mANil)) mANil))))
    (mSeq (mFor (mSrc (mNm 0)) (mgNm 2)
    (mExtend 1 (mCall t.laid (mACons (mNm 2) mANil))))
    (mRetNm 1))))))))
def b_write_octets (C_Reader : Addr) (t : Tb) : MS :=
    (mSeq (mIfS (mTest (mBin pIs (mCall t.counted (mACons (mNm 0) (mACons (mK (.int 0)) mANil))) (mK .non)))
    mNever
    mNx)
    (mRet (mApp fTuple (mACons (mCall t.laid (mACons (mNm 0) mANil)) mANil))))
def b_read_digits (C_Reader : Addr) (t : Tb) : MS :=
    (mSeq (mAsg 3 (mK (.int 0)))
    (mSeq (mAsg 4 (mK (.int 0)))
    (mSeq (mAsg 5 (mK (.int 1)))
    (whileM (mTruth (mK (.bl true))) (mSeq (mIfS (mTOr (mTest (mBin pEq (mBor 1) (mApp fLen (mACons (mBor 0) mANil)))) (mTest (mBin pEq (mBor 4) (mK (.int 950)))))
    mNever
    mNx)
    (mSeq (mAsg 6 (mBin pIx (mBor 0) (mBor 1)))
    (mSeq (mAug 3 pAddI (mBin pMul (mBin pMod (mApp fInt (mACons (mBor 6) mANil)) (mK (.int 128))) (mBor 5)))
    (mSeq (mAug 5 pMulS (mK (.int 128)))
    (mSeq (mIfS (mTest (mBin pLt (mBor 6) (mK (.int 128))))
    (mSeq (mIfS (mTOr (mTAnd (mTest (mBin pEq (mBor 6) (mK (.int 0)))) (mTest (mBin pGt (mBor 4) (mK (.int 0))))) (mTAnd (mTest (mBin pIsNot (mBor 2) (mK .non))) (mTest (mBin pGt (mBor 3) (mBor 2)))))
    mNever
    mNx)
    (mRet (mTup (mACons (mNm 3) (mACons (mBin pAdd (mBor 1) (mK (.int 1))) mANil)))))
    mNx)
    (mSeq (mAug 4 pAddI (mK (.int 1)))
    (mAug 1 pAddI (mK (.int 1))))))))) 1000))))
def b_Reader_begin (C_Reader : Addr) (t : Tb) : MS :=
    (mSeq (mIfS (mTOr (mTest (mBin pEq (mFld C_Reader 0 "at") (mApp fLen (mACons (mFld C_Reader 0 "octets") mANil)))) (mTest (mBin pGt (mBin pIx (mFld C_Reader 0 "octets") (mFld C_Reader 0 "at")) (mK (.int 6)))))
    mNever
    mNx)
    (mSeq (mAugFld C_Reader 0 "at" pAddI (mK (.int 1)))
    (mRet (mBin pIx (mFld C_Reader 0 "octets") (mBin pSub (mFld C_Reader 0 "at") (mK (.int 1)))))))
def b_Reader_number (C_Reader : Addr) (t : Tb) : MS :=
    (mSeq (mAsgT (mgTup 2 (mgCons (mgNm 2) (mgCons (mgFld C_Reader 0 "at") mgNil))) (mCall t.read_digits (mACons (mFld C_Reader 0 "octets") (mACons (mFld C_Reader 0 "at") (mACons (mNm 1) mANil)))))
    (mRetNm 2))
def b_Reader_string (C_Reader : Addr) (t : Tb) : MS :=
    (mSeq (mAsg 1 (mMeth C_Reader "number" t.Reader_number 0 (mACons (mK (.int 20000)) mANil)))
    (mSeq (mAsg 2 (mLst mANil))
    (mSeq (mFor (mRng rng1 (mACons (mNm 1) mANil)) (mgNm 3)
    (mSeq (mIfS (mTOr (mTest (mBin pEq (mFld C_Reader 0 "at") (mApp fLen (mACons (mFld C_Reader 0 "octets") mANil)))) (mTNot (mTruth (mCall t.is_sign (mACons (mBin pIx (mFld C_Reader 0 "octets") (mFld C_Reader 0 "at")) mANil)))))
    mNever
    mNx)
    (mSeq (mAppend 2 (mCall t.sign_of (mACons (mBin pIx (mFld C_Reader 0 "octets") (mFld C_Reader 0 "at")) mANil)))
    (mAugFld C_Reader 0 "at" pAddI (mK (.int 1))))))
    (mRet (mUn (pJoin "") (mBor 2))))))
def b_Reader_value (C_Reader : Addr) (t : Tb) : MS :=
    (mSeq (mAsg 2 (mFld C_Reader 0 "at"))
    (mSeq (mAsg 3 (mMeth C_Reader "begin" t.Reader_begin 0 mANil))
    (mSeq (mIfS (mTest (mBin pIn (mBor 3) (mTup (mACons (mK (.int 0)) (mACons (mK (.int 5)) (mACons (mK (.int 6)) mANil))))))
    (mRet (mBin pGet (mNew (.dK [.inl 0, .inl 5, .inl 6] [.non, (.bl true), (.bl false)])) (mBor 3)))
    mNx)
    (mSeq (mIfS (mTest (mBin pEq (mBor 3) (mK (.int 1))))
    (mRet (mMeth C_Reader "number" t.Reader_number 0 (mACons (mK .non) mANil)))
    mNx)
    (mSeq (mIfS (mTest (mBin pEq (mBor 3) (mK (.int 2))))
    (mRet (mBin pSub (mUn pNeg (mMeth C_Reader "number" t.Reader_number 0 (mACons (mK .non) mANil))) (mK (.int 1))))
    mNx)
    (mSeq (mIfS (mTest (mBin pEq (mBor 3) (mK (.int 3))))
    (mRet (mMeth C_Reader "string" t.Reader_string 0 mANil))
    mNx)
    (mSeq (mIfS (mTest (mBin pEq (mBor 1) (mK (.int 60))))
    mNever
    mNx)
    (mSeq (mAsg 4 (mMeth C_Reader "number" t.Reader_number 0 (mACons (mApp fMin2 (mACons (mK (.int 50000)) (mACons (mBin pSub (mK (.int 500000)) (mFld C_Reader 0 "parts")) mANil))) mANil)))
    (mSeq (mAugFld C_Reader 0 "parts" pAddI (mBor 4))
    (mRet (mApp fTuple (mACons (mLc [5] (mRng rng1 (mACons (mNm 4) mANil)) (mgNm 5) mYes (mMeth C_Reader "value" t.Reader_value 0 (mACons (mBin pAdd (mBor 1) (mK (.int 1))) mANil))) mANil))))))))))))
def b_read_octets (C_Reader : Addr) (t : Tb) : MS :=
    (mSeq (mIfS (mTNot (mTruth (mCall t.are_octets (mACons (mNm 0) mANil))))
    mNever
    mNx)
    (mSeq (mAsg 1 (mMake C_Reader (g_Reader___init__ C_Reader) (mACons (mNm 0) mANil)))
    (mSeq (mAsg 2 (mMeth C_Reader "value" t.Reader_value 1 (mACons (mK (.int 0)) mANil)))
    (mSeq (mIfS (mTest (mBin pLt (mFld C_Reader 1 "at") (mApp fLen (mACons (mBor 0) mANil))))
    mNever
    mNx)
    (mRetNm 2)))))
def b_first_unlike (C_Reader : Addr) (t : Tb) : MS :=
    (mSeq (mIfS (mTOr (mTNot (mTruth (mCall t.are_octets (mACons (mNm 0) mANil)))) (mTNot (mTruth (mCall t.are_octets (mACons (mNm 1) mANil)))))
    mNever
    mNx)
    (mSeq (mFor (mRng rng1 (mACons (mApp fMin2 (mACons (mApp fLen (mACons (mBor 0) mANil)) (mACons (mApp fLen (mACons (mBor 1) mANil)) mANil))) mANil)) (mgNm 2)
    (mIfS (mTest (mBin pNe (mBin pIx (mBor 0) (mBor 2)) (mBin pIx (mBor 1) (mBor 2))))
    (mRetNm 2)
    mNx))
    (mRet (mIf (mTest (mBin pEq (mApp fLen (mACons (mBor 0) mANil)) (mApp fLen (mACons (mBor 1) mANil)))) (mK .non) (mApp fMin2 (mACons (mApp fLen (mACons (mBor 0) mANil)) (mACons (mApp fLen (mACons (mBor 1) mANil)) mANil)))))))
def b_law_cup (C_Reader : Addr) (t : Tb) : MS :=
    (mSeq (mAsg 1 (mApp fAbs (mACons (mBin pIx (mBin pAdd (mApp fList (mACons (mBor 0) mANil)) (mLst (mACons (mK (.int 0)) mANil))) (mK (.int 0))) mANil)))
    (mRet (mLst (mACons (mIf (mTest (mBin pGe (mBor 1) (mBin pPow (mK (.int 10)) (mK (.int 18))))) (mBin pDiv (mBor 1) (mK (.int 113))) (mK (.int 0))) (mACons (mBin pAdd (mBin pMod (mApp fInt (mACons (mBin pAdd (mBin pMul (mBor 1) (mK (.int 367))) (mK (.int 5347))) mANil)) (mK (.int 1994132857))) (mK (.int 241))) mANil)))))
def b_law_roll (C_Reader : Addr) (t : Tb) : MS :=
    (mSeq (mIfS (mTest (mBin pGt (mBin pIx (mBor 0) (mK (.int 0))) (mK (.int 0))))
    (mSeq (mAsg 3 (mBin pMod (mApp fInt (mACons (mBin pIx (mBor 0) (mK (.int 0))) mANil)) (mBor 1)))
    (mSeq (mPutL 0 (mBin pDiv (mBin pIx (mBor 0) (mK (.int 0))) (mBor 1)) (mK (.int 0)))
    (mRetNm 3)))
    mNx)
    (mSeq (mPutL 0 (mBin pMod (mApp fInt (mACons (mBin pAdd (mBin pMul (mBin pIx (mBor 0) (mK (.int 1))) (mK (.int 30269))) (mK (.int 9173))) mANil)) (mK (.int 2147483579))) (mK (.int 1)))
    (mSeq (mAsg 2 (mBin pMod (mApp fInt (mACons (mBin pMul (mBin pIx (mBor 0) (mK (.int 1))) (mBin pAdd (mBin pIx (mBor 0) (mK (.int 1))) (mK (.int 307)))) mANil)) (mK (.int 2147483563))))
    (mRet (mBin pMod (mApp fInt (mACons (mBin pDiv (mBor 2) (mK (.int 887))) mANil)) (mBor 1))))))
def b_law_some (C_Reader : Addr) (t : Tb) : MS :=
    (mRet (mBin pIx (mBor 1) (mCall t.law_roll (mACons (mBor 0) (mACons (mApp fLen (mACons (mBor 1) mANil)) mANil)))))
def b_law_sort (C_Reader : Addr) (t : Tb) : MS :=
    (mSeq (mIfS (mTOr (mTest (mBin pIs (mBor 0) (mK .non))) (mTruth (mApp fIsi (mACons (mBor 0) (mACons (mK (.ty "bool")) mANil)))))
    (mRet (mIf (mTest (mBin pIs (mBor 0) (mK .non))) (mK (.int 0)) (mK (.int 1))))
    mNx)
    (mSeq (mIfS (mTOr (mTruth (mApp fIsi (mACons (mBor 0) (mACons (mK (.ty "int")) mANil)))) (mTruth (mApp fIsi (mACons (mBor 0) (mACons (mK (.ty "str")) mANil)))))
    (mRet (mIf (mTruth (mApp fIsi (mACons (mBor 0) (mACons (mK (.ty "int")) mANil)))) (mK (.int 2)) (mK (.int 3))))
    mNx)
    (mRet (mIf (mTruth (mApp fIsi (mACons (mBor 0) (mACons (mK (.ty "tuple")) mANil)))) (mK (.int 4)) (mIf (mTruth (mApp fIsi (mACons (mBor 0) (mACons (mK (.ty "list")) mANil)))) (mK (.int 5)) (mK (.int 6)))))))
def b_law_like (C_Reader : Addr) (t : Tb) : MS :=
    (mSeq (mAsg 2 (mCall t.law_sort (mACons (mNm 1) mANil)))
    (mSeq (mIfS (mTOr (mTest (mBin pNe (mCall t.law_sort (mACons (mNm 0) mANil)) (mBor 2))) (mTest (mBin pEq (mBor 2) (mK (.int 6)))))
    (mRet (mK (.bl false)))
    mNx)
    (mSeq (mIfS (mTest (mBin pIn (mBor 2) (mTup (mACons (mK (.int 4)) (mACons (mK (.int 5)) mANil)))))
    (mRet (mAndV (mBin pEq (mApp fLen (mACons (mBor 0) mANil)) (mApp fLen (mACons (mBor 1) mANil))) (mBin pEq (mLc [3, 4] (mRng zipOf (mACons (mNm 0) (mACons (mNm 1) mANil))) (mgTup 2 (mgCons (mgNm 3) (mgCons (mgNm 4) mgNil))) (mTNot (mTruth (mCall t.law_like (mACons (mNm 3) (mACons (mNm 4) mANil))))) (mK (.int 1))) (mLst mANil))))
    mNx)
    (mRet (mBin pEq (mBor 0) (mBor 1))))))
def b_law_signs (C_Reader : Addr) (t : Tb) : MS :=
    (mSeq (mAsg 1 (mNew (.dK [.inl 10, .inl 32, .inl 65, .inl 97, .inl 126] [(.str "\n"), (.str " "), (.str "A"), (.str "a"), (.str "~")])))
    (mRet (mUn (pJoin "") (mLc [2] (mSrc (mNm 0)) (mgNm 2) mYes (mBin pGet (mBor 1) (mBor 2))))))
def b_law_value (C_Reader : Addr) (t : Tb) : MS :=
    (mSeq (mAsg 2 (mCall t.law_roll (mACons (mBor 0) (mACons (mK (.int 8)) mANil))))
    (mSeq (mIfS (mTOr (mTest (mBin pLt (mBor 2) (mK (.int 4)))) (mTest (mBin pEq (mBor 1) (mK (.int 0)))))
    (mSeq (mAsg 3 (mCall t.law_some (mACons (mBor 0) (mACons (mLst (mACons (mK (.int 1)) (mACons (mK (.int 127)) (mACons (mK (.int 128)) (mACons (mK (.int 300)) (mACons (mK (.int 16384)) (mACons (mBin pPow (mK (.int 10)) (mK (.int 18))) (mACons (mBin pMul (mBin pMul (mBin pPow (mK (.int 10)) (mK (.int 60))) (mBin pPow (mK (.int 10)) (mK (.int 60)))) (mBin pPow (mK (.int 10)) (mK (.int 60)))) mANil)))))))) mANil))))
    (mRet (mBin pMul (mBin pAdd (mBin pDiv (mBin pMul (mCall t.law_roll (mACons (mBor 0) (mACons (mBin pPow (mK (.int 10)) (mK (.int 9))) mANil))) (mBor 3)) (mBin pPow (mK (.int 10)) (mK (.int 9)))) (mCall t.law_roll (mACons (mBor 0) (mACons (mK (.int 3)) mANil)))) (mCall t.law_some (mACons (mBor 0) (mACons (mLst (mACons (mK (.int 1)) (mACons (mUn pNeg (mK (.int 1))) mANil))) mANil))))))
    mNx)
    (mSeq (mIfS (mTest (mBin pEq (mBor 2) (mK (.int 4))))
    (mRet (mCall t.law_some (mACons (mBor 0) (mACons (mLst (mACons (mK .non) (mACons (mK (.bl true)) (mACons (mK (.bl false)) mANil)))) mANil))))
    mNx)
    (mSeq (mIfS (mTest (mBin pEq (mBor 2) (mK (.int 5))))
    (mRet (mCall t.law_signs (mACons (mLc [4] (mRng rng1 (mACons (mCall t.law_roll (mACons (mBor 0) (mACons (mK (.int 140)) mANil))) mANil)) (mgNm 4) mYes (mCall t.law_some (mACons (mBor 0) (mACons (mLst (mACons (mK (.int 10)) (mACons (mK (.int 32)) (mACons (mK (.int 65)) (mACons (mK (.int 97)) (mACons (mK (.int 126)) mANil)))))) mANil)))) mANil)))
    mNx)
    (mRet (mApp fTuple (mACons (mLc [4] (mRng rng1 (mACons (mCall t.law_roll (mACons (mBor 0) (mACons (mK (.int 5)) mANil))) mANil)) (mgNm 4) mYes (mCall t.law_value (mACons (mBor 0) (mACons (mBin pSub (mBor 1) (mK (.int 1))) mANil)))) mANil)))))))
def b_law_digits (C_Reader : Addr) (t : Tb) : MS :=
    (mSeq (mAsg 1 (mLst mANil))
    (mSeq (mFor (mRng rng1 (mACons (mK (.int 960)) mANil)) (mgNm 2)
    (mSeq (mPar [3, 0] (mFCons (mBin pMod (mApp fInt (mACons (mBor 0) mANil)) (mK (.int 128))) (mFCons (mBin pDiv (mBor 0) (mK (.int 128))) mFNil)))
    (mSeq (mIfS (mTest (mBin pEq (mBor 0) (mK (.int 0))))
    (mRet (mBin pAdd (mBor 1) (mLst (mACons (mNm 3) mANil))))
    mNx)
    (mAsg 1 (mBin pAdd (mBor 1) (mLst (mACons (mBin pAdd (mBor 3) (mK (.int 128))) mANil)))))))
    (mRetNm 1)))
def b_law_octets (C_Reader : Addr) (t : Tb) : MS :=
    (mSeq (mIfS (mTOr (mTest (mBin pIs (mBor 0) (mK .non))) (mTruth (mApp fIsi (mACons (mBor 0) (mACons (mK (.ty "bool")) mANil)))))
    (mRet (mLst (mACons (mIf (mTest (mBin pIs (mBor 0) (mK .non))) (mK (.int 0)) (mIf (mTruth (mBor 0)) (mK (.int 5)) (mK (.int 6)))) mANil)))
    mNx)
    (mSeq (mIfS (mTruth (mApp fIsi (mACons (mBor 0) (mACons (mK (.ty "int")) mANil))))
    (mRet (mIf (mTest (mBin pGe (mBor 0) (mK (.int 0)))) (mBin pAdd (mLst (mACons (mK (.int 1)) mANil)) (mCall t.law_digits (mACons (mNm 0) mANil))) (mBin pAdd (mLst (mACons (mK (.int 2)) mANil)) (mCall t.law_digits (mACons (mBin pSub (mUn pNeg (mBor 0)) (mK (.int 1))) mANil)))))
    mNx)
    (mSeq (mIfS (mTruth (mApp fIsi (mACons (mBor 0) (mACons (mK (.ty "str")) mANil))))
    (mRet (mBin pAdd (mBin pAdd (mLst (mACons (mK (.int 3)) mANil)) (mCall t.law_digits (mACons (mApp fLen (mACons (mBor 0) mANil)) mANil))) (mLc [3] (mSrc (mNm 0)) (mgNm 3) mYes (mApp fOrd (mACons (mBor 3) mANil)))))
    mNx)
    (mSeq (mAsg 1 (mBin pAdd (mLst (mACons (mK (.int 4)) mANil)) (mCall t.law_digits (mACons (mApp fLen (mACons (mBor 0) mANil)) mANil))))
    (mSeq (mFor (mSrc (mNm 0)) (mgNm 2)
    (mAsg 1 (mBin pAdd (mBor 1) (mCall t.law_octets (mACons (mNm 2) mANil)))))
    (mRetNm 1))))))
structure Facts (K : PySem.W.Frag) (mg : Str → Option Value) where
  C_Reader : Addr
  is_sign : FnF K mg "is_sign" "is_sign" s_is_sign ["one"]
  sign_of : FnF K mg "sign_of" "sign_of" s_sign_of ["one"]
  are_octets : FnF K mg "are_octets" "are_octets" s_are_octets ["value"]
  few_digits : FnF K mg "few_digits" "few_digits" s_few_digits ["number"]
  counted : FnF K mg "counted" "counted" s_counted ["value", "deep"]
  digits_of : FnF K mg "digits_of" "digits_of" s_digits_of ["number"]
  laid : FnF K mg "laid" "laid" s_laid ["value"]
  write_octets : FnF K mg "write_octets" "write_octets" s_write_octets ["value"]
  read_digits : FnF K mg "read_digits" "read_digits" s_read_digits ["octets", "at", "most"]
  Reader___init__ : FnM K C_Reader "__init__" "Reader.__init__" s_Reader___init__ ["self", "octets"]
  Reader_begin : FnM K C_Reader "begin" "Reader.begin" s_Reader_begin ["self"]
  Reader_number : FnM K C_Reader "number" "Reader.number" s_Reader_number ["self", "most"]
  Reader_string : FnM K C_Reader "string" "Reader.string" s_Reader_string ["self"]
  Reader_value : FnM K C_Reader "value" "Reader.value" s_Reader_value ["self", "deep"]
  read_octets : FnF K mg "read_octets" "read_octets" s_read_octets ["octets"]
  first_unlike : FnF K mg "first_unlike" "first_unlike" s_first_unlike ["one", "other"]
  law_cup : FnF K mg "_law_cup" "_law_cup" s_law_cup ["script"]
  law_roll : FnF K mg "_law_roll" "_law_roll" s_law_roll ["cup", "many"]
  law_some : FnF K mg "_law_some" "_law_some" s_law_some ["cup", "things"]
  law_sort : FnF K mg "_law_sort" "_law_sort" s_law_sort ["value"]
  law_like : FnF K mg "_law_like" "_law_like" s_law_like ["one", "other"]
  law_signs : FnF K mg "_law_signs" "_law_signs" s_law_signs ["numbers"]
  law_value : FnF K mg "_law_value" "_law_value" s_law_value ["cup", "deep"]
  law_digits : FnF K mg "_law_digits" "_law_digits" s_law_digits ["number"]
  law_octets : FnF K mg "_law_octets" "_law_octets" s_law_octets ["value"]
  cl_Reader : Cls K C_Reader
  cg_Reader : mg "Reader" = some (.ref C_Reader)
  mk_Reader : Mk K C_Reader Reader___init__.f
  na_Reader_octets : NoAttr K C_Reader "octets"
  na_Reader_at : NoAttr K C_Reader "at"
  na_Reader_parts : NoAttr K C_Reader "parts"
  z_abs : mg "abs" = none
  z_all : mg "all" = none
  z_bool : mg "bool" = none
  z_bytes : mg "bytes" = none
  z_int : mg "int" = none
  z_isinstance : mg "isinstance" = none
  z_len : mg "len" = none
  z_list : mg "list" = none
  z_min : mg "min" = none
  z_ord : mg "ord" = none
  z_range : mg "range" = none
  z_str : mg "str" = none
  z_tuple : mg "tuple" = none
  z_zip : mg "zip" = none
  t_DEEP : Tok
  c_DEEP : mg "DEEP" = some (.int 60 t_DEEP)
  t_DIGITS : Tok
  c_DIGITS : mg "DIGITS" = some (.int 950 t_DIGITS)
  t_ITEMS : Tok
  c_ITEMS : mg "ITEMS" = some (.int 50000 t_ITEMS)
  t_PARTS : Tok
  c_PARTS : mg "PARTS" = some (.int 500000 t_PARTS)
  t_SIGNS : Tok
  c_SIGNS : mg "SIGNS" = some (.int 20000 t_SIGNS)
section
variable {P : Program} {w : World} {K : PySem.W.Frag} {mg : Str → Option Value} {base : Heap}
/-- all defs keep their promises at level n -/
structure AllOk (P : Program) (w : World) (K : PySem.W.Frag) (mg : Str → Option Value) (base : Heap) (Md : Facts K mg) (t : Tb) (n : Nat) : Prop where
  is_sign : FnOk P w K mg base CX0 n Md.is_sign.f Md.is_sign.fd ["one"] (spF K RX0 t.is_sign 1)
  sign_of : FnOk P w K mg base CX0 n Md.sign_of.f Md.sign_of.fd ["one"] (spF K RX0 t.sign_of 1)
  are_octets : FnOk P w K mg base CX0 n Md.are_octets.f Md.are_octets.fd ["value"] (spF K RX0 t.are_octets 1)
  few_digits : FnOk P w K mg base CX0 n Md.few_digits.f Md.few_digits.fd ["number"] (spF K RX0 t.few_digits 1)
  counted : FnOk P w K mg base CX0 n Md.counted.f Md.counted.fd ["value", "deep"] (spF K RX0 t.counted 2)
  digits_of : FnOk P w K mg base CX0 n Md.digits_of.f Md.digits_of.fd ["number"] (spF K RX0 t.digits_of 1)
  laid : FnOk P w K mg base CX0 n Md.laid.f Md.laid.fd ["value"] (spF K RX0 t.laid 1)
  write_octets : FnOk P w K mg base CX0 n Md.write_octets.f Md.write_octets.fd ["value"] (spF K RX0 t.write_octets 1)
  read_digits : FnOk P w K mg base CX0 n Md.read_digits.f Md.read_digits.fd ["octets", "at", "most"] (spF K RX0 t.read_digits 3)
  Reader_begin : FnOk P w K mg base CX0 n Md.Reader_begin.f Md.Reader_begin.fd ["self"] (spF K RX0 t.Reader_begin 1)
  Reader_number : FnOk P w K mg base CX0 n Md.Reader_number.f Md.Reader_number.fd ["self", "most"] (spF K RX0 t.Reader_number 2)
  Reader_string : FnOk P w K mg base CX0 n Md.Reader_string.f Md.Reader_string.fd ["self"] (spF K RX0 t.Reader_string 1)
  Reader_value : FnOk P w K mg base CX0 n Md.Reader_value.f Md.Reader_value.fd ["self", "deep"] (spF K RX0 t.Reader_value 2)
  read_octets : FnOk P w K mg base CX0 n Md.read_octets.f Md.read_octets.fd ["octets"] (spF K RX0 t.read_octets 1)
  first_unlike : FnOk P w K mg base CX0 n Md.first_unlike.f Md.first_unlike.fd ["one", "other"] (spF K RX0 t.first_unlike 2)
  law_cup : FnOk P w K mg base CX0 n Md.law_cup.f Md.law_cup.fd ["script"] (spF K RX0 t.law_cup 1)
  law_roll : FnOk P w K mg base CX0 n Md.law_roll.f Md.law_roll.fd ["cup", "many"] (spF K RX0 t.law_roll 2)
  law_some : FnOk P w K mg base CX0 n Md.law_some.f Md.law_some.fd ["cup", "things"] (spF K RX0 t.law_some 2)
  law_sort : FnOk P w K mg base CX0 n Md.law_sort.f Md.law_sort.fd ["value"] (spF K RX0 t.law_sort 1)
  law_like : FnOk P w K mg base CX0 n Md.law_like.f Md.law_like.fd ["one", "other"] (spF K RX0 t.law_like 2)
  law_signs : FnOk P w K mg base CX0 n Md.law_signs.f Md.law_signs.fd ["numbers"] (spF K RX0 t.law_signs 1)
  law_value : FnOk P w K mg base CX0 n Md.law_value.f Md.law_value.fd ["cup", "deep"] (spF K RX0 t.law_value 2)
  law_digits : FnOk P w K mg base CX0 n Md.law_digits.f Md.law_digits.fd ["number"] (spF K RX0 t.law_digits 1)
  law_octets : FnOk P w K mg base CX0 n Md.law_octets.f Md.law_octets.fd ["value"] (spF K RX0 t.law_octets 1)
variable {Md : Facts K mg} {t : Tb} {m : Nat}
theorem ok_is_sign (ih : AllOk P w K mg base Md t (m + 2)) : FnOk P w K mg base CX0 (m + 3) Md.is_sign.f Md.is_sign.fd ["one"] (spF K RX0 (runF 1 (b_is_sign Md.C_Reader t)) 1) :=
  Pu.fn_mk Md.is_sign.fn sc_is_sign fun cdv A outer s H E hr =>
    (SSs.one (SS.ret (SE.or (SE.chain op_le prim_le op_le prim_le SE.int (SE.bor (pv 0)) SE.int) (SE.one (SE.cmp (op_eqD hr.units) prim_eq (SE.bor (pv 0)) SE.int (by rfl))))))
theorem ok_sign_of (ih : AllOk P w K mg base Md t (m + 2)) : FnOk P w K mg base CX0 (m + 3) Md.sign_of.f Md.sign_of.fd ["one"] (spF K RX0 (runF 1 (b_sign_of Md.C_Reader t)) 1) :=
  Pu.fn_mk Md.sign_of.fn sc_sign_of fun cdv A outer s H E hr =>
    (SSs.one (SS.ret (SE.asc (SE.nm (pv 0)) rfl Md.z_bytes rfl)))
theorem ok_are_octets (ih : AllOk P w K mg base Md t (m + 2)) : FnOk P w K mg base CX0 (m + 3) Md.are_octets.f Md.are_octets.fd ["value"] (spF K RX0 (runF 2 (b_are_octets Md.C_Reader t)) 1) :=
  Pu.fn_mk Md.are_octets.fn sc_are_octets fun cdv A outer s H E hr =>
    (SSs.cons (SS.ifS (ST.tnot (ST.truth (SE.callB call_isi prim_isi Md.z_isinstance rfl bt_isinstance (SA.cons (SE.bor (pv 0)) (SA.cons (SE.tyNm rfl Md.z_tuple bt_tuple) SA.nil)))))
    (SSs.one (SS.ret SE.bl))
    SSs.nil)
    (SSs.one (SS.ret (SE.callB (cr_all rfl) prim_all Md.z_all rfl bt_all (SA.cons (SE.lc (SI.src (SE.nm (pv 0))) (own := [("one", 1)]) (blkOk_by (by rfl)) sc_are_octets.nd (fun s H C cl fp => (SG.nm (i := 1) sc_are_octets.nd rfl (by first | exact Or.inl rfl | exact Or.inr rfl))) (fun s H C cl fp => STs.nil) (fun s H C cl fp => (SE.and (SE.callB call_isi prim_isi Md.z_isinstance rfl bt_isinstance (SA.cons (SE.bor (pv 1)) (SA.cons (SE.tyNm rfl Md.z_int bt_int) SA.nil))) (SE.and (SE.not (SE.callB call_isi prim_isi Md.z_isinstance rfl bt_isinstance (SA.cons (SE.bor (pv 1)) (SA.cons (SE.tyNm rfl Md.z_bool bt_bool) SA.nil)))) (SE.one (SE.chain op_le prim_le op_le prim_le SE.int (SE.bor (pv 1)) SE.int))))) (S := [1]) (by decide) rfl) SA.nil)))))
theorem ok_few_digits (ih : AllOk P w K mg base Md t (m + 2)) : FnOk P w K mg base CX0 (m + 3) Md.few_digits.f Md.few_digits.fd ["number"] (spF K RX0 (runF 2 (b_few_digits Md.C_Reader t)) 1) :=
  Pu.fn_mk Md.few_digits.fn sc_few_digits fun cdv A outer s H E hr =>
    (SSs.cons (SS.for (SI.range1 (SA.cons SE.int SA.nil) Md.z_range rfl) (SG.nm (i := 1) sc_few_digits.nd rfl (by first | exact Or.inl rfl | exact Or.inr rfl))
    (SSs.one (SS.aug iop_fdivW prim_div (SE.bin op_pow prim_pow SE.int SE.int) sc_few_digits.nd (i := 0) rfl (by first | exact Or.inl rfl | exact Or.inr rfl))) PassesOwn.never rfl)
    (SSs.one (SS.ret (SE.cmp op_lt prim_lt (SE.bor (pv 0)) (SE.bin op_pow prim_pow SE.int SE.int) (by rfl)))))
theorem ok_counted (ih : AllOk P w K mg base Md t (m + 2)) : FnOk P w K mg base CX0 (m + 3) Md.counted.f Md.counted.fd ["value", "deep"] (spF K RX0 (runF 6 (b_counted Md.C_Reader t)) 2) :=
  Pu.fn_mk Md.counted.fn sc_counted fun cdv A outer s H E hr =>
    (SSs.cons (SS.ifS (SW.st (SW.or (ST.cmp op_is prim_is (SE.bor (pv 0)) SE.non (by rfl)) (SW.or1 (ST.truth (SE.callB call_isi prim_isi Md.z_isinstance rfl bt_isinstance (SA.cons (SE.bor (pv 0)) (SA.cons (SE.tyNm rfl Md.z_bool bt_bool) SA.nil)))))))
    (SSs.one (SS.ret SE.int))
    SSs.nil)
    (SSs.cons (SS.ifS (ST.truth (SE.callB call_isi prim_isi Md.z_isinstance rfl bt_isinstance (SA.cons (SE.bor (pv 0)) (SA.cons (SE.tyNm rfl Md.z_int bt_int) SA.nil))))
    (SSs.one (SS.ret (SE.ifE (ST.truth (SE.call ih.few_digits hr Md.few_digits.gl Md.few_digits.fn.kp Md.few_digits.bd passZ (fun _ _ _ _ _ h => h.elim) rfl (SA.cons (SE.ifE (ST.cmp op_ge prim_ge (SE.bor (pv 0)) SE.int (by rfl)) (SE.nm (pv 0)) (SE.bin op_sub prim_sub (SE.un un_neg prim_neg (SE.bor (pv 0))) SE.int)) SA.nil) (mALen _ mALen0))) SE.int SE.non)))
    SSs.nil)
    (SSs.cons (SS.ifS (ST.truth (SE.callB call_isi prim_isi Md.z_isinstance rfl bt_isinstance (SA.cons (SE.bor (pv 0)) (SA.cons (SE.tyNm rfl Md.z_str bt_str) SA.nil))))
    (SSs.one (SS.ret (SE.ifE (SW.st (SW.and (ST.cmp op_le prim_le (SE.callB call_len prim_len Md.z_len rfl bt_len (SA.cons (SE.bor (pv 0)) SA.nil)) (SE.glI Md.c_SIGNS rfl) (by rfl)) (SW.and1 (ST.truth (SE.callB (cr_all rfl) prim_all Md.z_all rfl bt_all (SA.cons (SE.lc (SI.src (SE.nm (pv 0))) (own := [("sign", 5)]) (blkOk_by (by rfl)) sc_counted.nd (fun s H C cl fp => (SG.nm (i := 5) sc_counted.nd rfl (by first | exact Or.inl rfl | exact Or.inr rfl))) (fun s H C cl fp => STs.nil) (fun s H C cl fp => (SE.call ih.is_sign hr Md.is_sign.gl Md.is_sign.fn.kp Md.is_sign.bd passZ (fun _ _ _ _ _ h => h.elim) rfl (SA.cons (SE.callB call_ord prim_ord Md.z_ord rfl bt_ord (SA.cons (SE.bor (pv 5)) SA.nil)) SA.nil) (mALen _ mALen0))) (S := [5]) (by decide) rfl) SA.nil)))))) SE.int SE.non)))
    SSs.nil)
    (SSs.cons (SS.ifS (SW.st (SW.or (ST.tnot (ST.truth (SE.callB call_isi prim_isi Md.z_isinstance rfl bt_isinstance (SA.cons (SE.bor (pv 0)) (SA.cons (SE.tyNm rfl Md.z_tuple bt_tuple) SA.nil))))) (SW.or (ST.cmp (op_eqD hr.units) prim_eq (SE.bor (pv 1)) (SE.glI Md.c_DEEP rfl) (by rfl)) (SW.or1 (ST.cmp op_gt prim_gt (SE.callB call_len prim_len Md.z_len rfl bt_len (SA.cons (SE.bor (pv 0)) SA.nil)) (SE.glI Md.c_ITEMS rfl) (by rfl))))))
    (SSs.one (SS.ret SE.non))
    SSs.nil)
    (SSs.cons (SS.asg SE.int sc_counted.nd (i := 2) rfl (by first | exact Or.inl rfl | exact Or.inr rfl))
    (SSs.cons (SS.for (SI.src (SE.nm (pv 0))) (SG.nm (i := 3) sc_counted.nd rfl (by first | exact Or.inl rfl | exact Or.inr rfl))
    (SSs.cons (SS.asg (SE.call ih.counted hr Md.counted.gl Md.counted.fn.kp Md.counted.bd passZ (fun _ _ _ _ _ h => h.elim) rfl (SA.cons (SE.nm (pv 3)) (SA.cons (SE.bin (op_add.or (op_catA.or op_cat)) prim_add (SE.bor (pv 1)) SE.int) SA.nil)) (mALen _ (mALen _ mALen0))) sc_counted.nd (i := 4) rfl (by first | exact Or.inl rfl | exact Or.inr rfl))
    (SSs.cons (SS.ifS (SW.st (SW.or (ST.cmp op_is prim_is (SE.bor (pv 4)) SE.non (by rfl)) (SW.or1 (ST.cmp op_gt prim_gt (SE.bin (op_add.or (op_catA.or op_cat)) prim_add (SE.bor (pv 2)) (SE.bor (pv 4))) (SE.glI Md.c_PARTS rfl) (by rfl)))))
    (SSs.one (SS.ret SE.non))
    SSs.nil)
    (SSs.one (SS.aug iop_add prim_addI (SE.bor (pv 4)) sc_counted.nd (i := 2) rfl (by first | exact Or.inl rfl | exact Or.inr rfl))))) PassesOwn.never rfl)
    (SSs.one (SS.retNm (pv 2)))))))))
theorem ok_digits_of (ih : AllOk P w K mg base Md t (m + 2)) : FnOk P w K mg base CX0 (m + 3) Md.digits_of.f Md.digits_of.fd ["number"] (spF K RX0 (runF 2 (b_digits_of Md.C_Reader t)) 1) :=
  Pu.fn_mk Md.digits_of.fn sc_digits_of fun cdv A outer s H E hr =>
    (SSs.cons (SS.asg (SE.lst SA.nil) sc_digits_of.nd (i := 1) rfl (by first | exact Or.inl rfl | exact Or.inr rfl))
    (SSs.cons (SS.while 1000 (ST.cmp op_gt prim_gt (SE.bor (pv 0)) SE.int (by rfl)) (SSs.cons (SS.append (pv 1) (SE.bin (op_add.or (op_catA.or op_cat)) prim_add (SE.bin op_mod prim_mod (SE.callTy call_int1 prim_int Md.z_int rfl bt_int (SA.cons (SE.bor (pv 0)) SA.nil)) SE.int) SE.int))
    (SSs.one (SS.aug iop_fdivW prim_div SE.int sc_digits_of.nd (i := 0) rfl (by first | exact Or.inl rfl | exact Or.inr rfl)))) PassesOwn.never)
    (SSs.cons (SS.append (pv 1) (SE.nm (pv 0)))
    (SSs.one (SS.retNm (pv 1))))))
theorem ok_laid (ih : AllOk P w K mg base Md t (m + 2)) : FnOk P w K mg base CX0 (m + 3) Md.laid.f Md.laid.fd ["value"] (spF K RX0 (runF 4 (b_laid Md.C_Reader t)) 1) :=
  Pu.fn_mk Md.laid.fn sc_laid fun cdv A outer s H E hr =>
    (SSs.cons (SS.ifS (ST.cmp op_is prim_is (SE.bor (pv 0)) SE.non (by rfl))
    (SSs.one (SS.ret (SE.lst (SA.cons SE.int SA.nil))))
    SSs.nil)
    (SSs.cons (SS.ifS (ST.cmp op_is prim_is (SE.bor (pv 0)) SE.bl (by rfl))
    (SSs.one (SS.ret (SE.lst (SA.cons SE.int SA.nil))))
    SSs.nil)
    (SSs.cons (SS.ifS (ST.cmp op_is prim_is (SE.bor (pv 0)) SE.bl (by rfl))
    (SSs.one (SS.ret (SE.lst (SA.cons SE.int SA.nil))))
    SSs.nil)
    (SSs.cons (SS.ifS (ST.truth (SE.callB call_isi prim_isi Md.z_isinstance rfl bt_isinstance (SA.cons (SE.bor (pv 0)) (SA.cons (SE.tyNm rfl Md.z_int bt_int) SA.nil))))
    (SSs.one (SS.ret (SE.ifE (ST.cmp op_ge prim_ge (SE.bor (pv 0)) SE.int (by rfl)) (SE.bin (op_add.or (op_catA.or op_cat)) prim_add (SE.lst (SA.cons SE.int SA.nil)) (SE.call ih.digits_of hr Md.digits_of.gl Md.digits_of.fn.kp Md.digits_of.bd passZ (fun _ _ _ _ _ h => h.elim) rfl (SA.cons (SE.nm (pv 0)) SA.nil) (mALen _ mALen0))) (SE.bin (op_add.or (op_catA.or op_cat)) prim_add (SE.lst (SA.cons SE.int SA.nil)) (SE.call ih.digits_of hr Md.digits_of.gl Md.digits_of.fn.kp Md.digits_of.bd passZ (fun _ _ _ _ _ h => h.elim) rfl (SA.cons (SE.bin op_sub prim_sub (SE.un un_neg prim_neg (SE.bor (pv 0))) SE.int) SA.nil) (mALen _ mALen0))))))
    SSs.nil)
    (SSs.cons (SS.ifS (ST.truth (SE.callB call_isi prim_isi Md.z_isinstance rfl bt_isinstance (SA.cons (SE.bor (pv 0)) (SA.cons (SE.tyNm rfl Md.z_str bt_str) SA.nil))))
    (SSs.one (SS.ret (SE.bin (op_add.or (op_catA.or op_cat)) prim_add (SE.bin (op_add.or (op_catA.or op_cat)) prim_add (SE.lst (SA.cons SE.int SA.nil)) (SE.call ih.digits_of hr Md.digits_of.gl Md.digits_of.fn.kp Md.digits_of.bd passZ (fun _ _ _ _ _ h => h.elim) rfl (SA.cons (SE.callB call_len prim_len Md.z_len rfl bt_len (SA.cons (SE.bor (pv 0)) SA.nil)) SA.nil) (mALen _ mALen0))) (SE.lc (SI.src (SE.nm (pv 0))) (own := [("sign", 3)]) (blkOk_by (by rfl)) sc_laid.nd (fun s H C cl fp => (SG.nm (i := 3) sc_laid.nd rfl (by first | exact Or.inl rfl | exact Or.inr rfl))) (fun s H C cl fp => STs.nil) (fun s H C cl fp => (SE.callB call_ord prim_ord Md.z_ord rfl bt_ord (SA.cons (SE.bor (pv 3)) SA.nil))) (S := [3]) (by decide) rfl))))
    SSs.nil)
    (SSs.cons (SS.asg (SE.bin (op_add.or (op_catA.or op_cat)) prim_add (SE.lst (SA.cons SE.int SA.nil)) (SE.call ih.digits_of hr Md.digits_of.gl Md.digits_of.fn.kp Md.digits_of.bd passZ (fun _ _ _ _ _ h => h.elim) rfl (SA.cons (SE.callB call_len prim_len Md.z_len rfl bt_len (SA.cons (SE.bor (pv 0)) SA.nil)) SA.nil) (mALen _ mALen0))) sc_laid.nd (i := 1) rfl (by first | exact Or.inl rfl | exact Or.inr rfl))
    (SSs.cons (SS.for (SI.src (SE.nm (pv 0))) (SG.nm (i := 2) sc_laid.nd rfl (by first | exact Or.inl rfl | exact Or.inr rfl))
    (SSs.one (SS.extend (pv 1) (SE.call ih.laid hr Md.laid.gl Md.laid.fn.kp Md.laid.bd passZ (fun _ _ _ _ _ h => h.elim) rfl (SA.cons (SE.nm (pv 2)) SA.nil) (mALen _ mALen0)))) PassesOwn.never rfl)
    (SSs.one (SS.retNm (pv 1))))))))))
theorem ok_write_octets (ih : AllOk P w K mg base Md t (m + 2)) : FnOk P w K mg base CX0 (m + 3) Md.write_octets.f Md.write_octets.fd ["value"] (spF K RX0 (runF 1 (b_write_octets Md.C_Reader t)) 1) :=
  Pu.fn_mk Md.write_octets.fn sc_write_octets fun cdv A outer s H E hr =>
    (SSs.cons (SS.ifS (ST.cmp op_is prim_is (SE.call ih.counted hr Md.counted.gl Md.counted.fn.kp Md.counted.bd passZ (fun _ _ _ _ _ h => h.elim) rfl (SA.cons (SE.nm (pv 0)) (SA.cons SE.int SA.nil)) (mALen _ (mALen _ mALen0))) SE.non (by rfl))
    (SSs.one SS.never)
    SSs.nil)
    (SSs.one (SS.ret (SE.callTy call_tuple_of prim_tuple Md.z_tuple rfl bt_tuple (SA.cons (SE.call ih.laid hr Md.laid.gl Md.laid.fn.kp Md.laid.bd passZ (fun _ _ _ _ _ h => h.elim) rfl (SA.cons (SE.nm (pv 0)) SA.nil) (mALen _ mALen0)) SA.nil)))))
theorem ok_read_digits (ih : AllOk P w K mg base Md t (m + 2)) : FnOk P w K mg base CX0 (m + 3) Md.read_digits.f Md.read_digits.fd ["octets", "at", "most"] (spF K RX0 (runF 7 (b_read_digits Md.C_Reader t)) 3) :=
  Pu.fn_mk Md.read_digits.fn sc_read_digits fun cdv A outer s H E hr =>
    (SSs.cons (SS.asg SE.int sc_read_digits.nd (i := 3) rfl (by first | exact Or.inl rfl | exact Or.inr rfl))
    (SSs.cons (SS.asg SE.int sc_read_digits.nd (i := 4) rfl (by first | exact Or.inl rfl | exact Or.inr rfl))
    (SSs.cons (SS.asg SE.int sc_read_digits.nd (i := 5) rfl (by first | exact Or.inl rfl | exact Or.inr rfl))
    (SSs.one (SS.while 1000 (ST.truth SE.bl) (SSs.cons (SS.ifS (SW.st (SW.or (ST.cmp (op_eqD hr.units) prim_eq (SE.bor (pv 1)) (SE.callB call_len prim_len Md.z_len rfl bt_len (SA.cons (SE.bor (pv 0)) SA.nil)) (by rfl)) (SW.or1 (ST.cmp (op_eqD hr.units) prim_eq (SE.bor (pv 4)) (SE.glI Md.c_DIGITS rfl) (by rfl)))))
    (SSs.one SS.never)
    SSs.nil)
    (SSs.cons (SS.asg (SE.ix (SE.bor (pv 0)) (SE.bor (pv 1))) sc_read_digits.nd (i := 6) rfl (by first | exact Or.inl rfl | exact Or.inr rfl))
    (SSs.cons (SS.aug iop_add prim_addI (SE.bin (op_mul.or (op_mulW.or op_rep)) prim_mul (SE.bin op_mod prim_mod (SE.callTy call_int1 prim_int Md.z_int rfl bt_int (SA.cons (SE.bor (pv 6)) SA.nil)) SE.int) (SE.bor (pv 5))) sc_read_digits.nd (i := 3) rfl (by first | exact Or.inl rfl | exact Or.inr rfl))
    (SSs.cons (SS.aug iop_mul prim_mulS SE.int sc_read_digits.nd (i := 5) rfl (by first | exact Or.inl rfl | exact Or.inr rfl))
    (SSs.cons (SS.ifS (ST.cmp op_lt prim_lt (SE.bor (pv 6)) SE.int (by rfl))
    (SSs.cons (SS.ifS (SW.st (SW.or (SW.st (SW.and (ST.cmp (op_eqD hr.units) prim_eq (SE.bor (pv 6)) SE.int (by rfl)) (SW.and1 (ST.cmp op_gt prim_gt (SE.bor (pv 4)) SE.int (by rfl))))) (SW.or1 (SW.st (SW.and (ST.cmp op_isNot prim_isNot (SE.bor (pv 2)) SE.non (by rfl)) (SW.and1 (ST.cmp op_gt prim_gt (SE.bor (pv 3)) (SE.bor (pv 2)) (by rfl))))))))
    (SSs.one SS.never)
    SSs.nil)
    (SSs.one (SS.ret (SE.tup (SA.cons (SE.nm (pv 3)) (SA.cons (SE.bin (op_add.or (op_catA.or op_cat)) prim_add (SE.bor (pv 1)) SE.int) SA.nil))))))
    SSs.nil)
    (SSs.cons (SS.aug iop_add prim_addI SE.int sc_read_digits.nd (i := 4) rfl (by first | exact Or.inl rfl | exact Or.inr rfl))
    (SSs.one (SS.aug iop_add prim_addI SE.int sc_read_digits.nd (i := 1) rfl (by first | exact Or.inl rfl | exact Or.inr rfl))))))))) PassesOwn.never)))))
theorem ok_Reader___init__ : FnOk P w K mg base CX0 1 Md.Reader___init__.f Md.Reader___init__.fd ["self", "octets"] (spF K RX0 (g_Reader___init__ Md.C_Reader) 2) :=
  Pu.fn_mk Md.Reader___init__.fn sc_Reader___init__ fun cdv A outer s H E hr =>
    (SSs.cons (SS.fld (pv 0) Md.cl_Reader Md.na_Reader_octets (SE.nm (pv 1)))
    (SSs.cons (SS.fld (pv 0) Md.cl_Reader Md.na_Reader_at SE.int)
    (SSs.one (SS.fld (pv 0) Md.cl_Reader Md.na_Reader_parts SE.int))))
theorem ok_Reader_begin (ih : AllOk P w K mg base Md t (m + 2)) : FnOk P w K mg base CX0 (m + 3) Md.Reader_begin.f Md.Reader_begin.fd ["self"] (spF K RX0 (runF 1 (b_Reader_begin Md.C_Reader t)) 1) :=
  Pu.fn_mk Md.Reader_begin.fn sc_Reader_begin fun cdv A outer s H E hr =>
    (SSs.cons (SS.ifS (SW.st (SW.or (ST.cmp (op_eqD hr.units) prim_eq (SE.fld (pv 0) Md.cl_Reader Md.na_Reader_at) (SE.callB call_len prim_len Md.z_len rfl bt_len (SA.cons (SE.fld (pv 0) Md.cl_Reader Md.na_Reader_octets) SA.nil)) (by rfl)) (SW.or1 (ST.cmp op_gt prim_gt (SE.ix (SE.fld (pv 0) Md.cl_Reader Md.na_Reader_octets) (SE.fld (pv 0) Md.cl_Reader Md.na_Reader_at)) SE.int (by rfl)))))
    (SSs.one SS.never)
    SSs.nil)
    (SSs.cons (SS.augFld iop_add prim_addI (pv 0) Md.cl_Reader Md.na_Reader_at SE.int)
    (SSs.one (SS.ret (SE.ix (SE.fld (pv 0) Md.cl_Reader Md.na_Reader_octets) (SE.bin op_sub prim_sub (SE.fld (pv 0) Md.cl_Reader Md.na_Reader_at) SE.int))))))
theorem ok_Reader_number (ih : AllOk P w K mg base Md t (m + 2)) : FnOk P w K mg base CX0 (m + 3) Md.Reader_number.f Md.Reader_number.fd ["self", "most"] (spF K RX0 (runF 3 (b_Reader_number Md.C_Reader t)) 2) :=
  Pu.fn_mk Md.Reader_number.fn sc_Reader_number fun cdv A outer s H E hr =>
    (SSs.cons (SS.asgT (SE.call ih.read_digits hr Md.read_digits.gl Md.read_digits.fn.kp Md.read_digits.bd passZ (fun _ _ _ _ _ h => h.elim) rfl (SA.cons (SE.fld (pv 0) Md.cl_Reader Md.na_Reader_octets) (SA.cons (SE.fld (pv 0) Md.cl_Reader Md.na_Reader_at) (SA.cons (SE.nm (pv 1)) SA.nil))) (mALen _ (mALen _ (mALen _ mALen0)))) (SG.tup (SGs.cons (SG.nm (i := 2) sc_Reader_number.nd rfl (by first | exact Or.inl rfl | exact Or.inr rfl)) (SGs.cons (SG.fld (pv 0) Md.cl_Reader Md.na_Reader_at) SGs.nil)) rfl))
    (SSs.one (SS.retNm (pv 2))))
theorem ok_Reader_string (ih : AllOk P w K mg base Md t (m + 2)) : FnOk P w K mg base CX0 (m + 3) Md.Reader_string.f Md.Reader_string.fd ["self"] (spF K RX0 (runF 4 (b_Reader_string Md.C_Reader t)) 1) :=
  Pu.fn_mk Md.Reader_string.fn sc_Reader_string fun cdv A outer s H E hr =>
    (SSs.cons (SS.asg (SE.meth (pv 0) Md.cl_Reader Md.Reader_number.mt ih.Reader_number hr Md.Reader_number.bd passZ (fun _ _ _ _ _ h => h.elim) (SA.cons (SE.glI Md.c_SIGNS rfl) SA.nil) (mALen _ mALen0)) sc_Reader_string.nd (i := 1) rfl (by first | exact Or.inl rfl | exact Or.inr rfl))
    (SSs.cons (SS.asg (SE.lst SA.nil) sc_Reader_string.nd (i := 2) rfl (by first | exact Or.inl rfl | exact Or.inr rfl))
    (SSs.cons (SS.for (SI.range1 (SA.cons (SE.nm (pv 1)) SA.nil) Md.z_range rfl) (SG.nm (i := 3) sc_Reader_string.nd rfl (by first | exact Or.inl rfl | exact Or.inr rfl))
    (SSs.cons (SS.ifS (SW.st (SW.or (ST.cmp (op_eqD hr.units) prim_eq (SE.fld (pv 0) Md.cl_Reader Md.na_Reader_at) (SE.callB call_len prim_len Md.z_len rfl bt_len (SA.cons (SE.fld (pv 0) Md.cl_Reader Md.na_Reader_octets) SA.nil)) (by rfl)) (SW.or1 (ST.tnot (ST.truth (SE.call ih.is_sign hr Md.is_sign.gl Md.is_sign.fn.kp Md.is_sign.bd passZ (fun _ _ _ _ _ h => h.elim) rfl (SA.cons (SE.ix (SE.fld (pv 0) Md.cl_Reader Md.na_Reader_octets) (SE.fld (pv 0) Md.cl_Reader Md.na_Reader_at)) SA.nil) (mALen _ mALen0)))))))
    (SSs.one SS.never)
    SSs.nil)
    (SSs.cons (SS.append (pv 2) (SE.call ih.sign_of hr Md.sign_of.gl Md.sign_of.fn.kp Md.sign_of.bd passZ (fun _ _ _ _ _ h => h.elim) rfl (SA.cons (SE.ix (SE.fld (pv 0) Md.cl_Reader Md.na_Reader_octets) (SE.fld (pv 0) Md.cl_Reader Md.na_Reader_at)) SA.nil) (mALen _ mALen0)))
    (SSs.one (SS.augFld iop_add prim_addI (pv 0) Md.cl_Reader Md.na_Reader_at SE.int)))) PassesOwn.never rfl)
    (SSs.one (SS.ret (SE.join (SE.bor (pv 2))))))))
theorem ok_Reader_value (ih : AllOk P w K mg base Md t (m + 2)) : FnOk P w K mg base CX0 (m + 3) Md.Reader_value.f Md.Reader_value.fd ["self", "deep"] (spF K RX0 (runF 6 (b_Reader_value Md.C_Reader t)) 2) :=
  Pu.fn_mk Md.Reader_value.fn sc_Reader_value fun cdv A outer s H E hr =>
    (SSs.cons (SS.asg (SE.fld (pv 0) Md.cl_Reader Md.na_Reader_at) sc_Reader_value.nd (i := 2) rfl (by first | exact Or.inl rfl | exact Or.inr rfl))
    (SSs.cons (SS.asg (SE.meth0 (pv 0) Md.cl_Reader Md.Reader_begin.mt ih.Reader_begin hr Md.Reader_begin.bd passZ (fun _ _ _ _ _ h => h.elim)) sc_Reader_value.nd (i := 3) rfl (by first | exact Or.inl rfl | exact Or.inr rfl))
    (SSs.cons (SS.ifS (ST.cmp op_in_seq prim_in (SE.bor (pv 3)) (SE.tup (SA.cons SE.int (SA.cons SE.int (SA.cons SE.int SA.nil)))) (by rfl))
    (SSs.one (SS.ret (SE.dget (hu_of hr) (SE.dispC (kvs := [(.inl 0, .non), (.inl 5, (.bl true)), (.inl 6, (.bl false))]) [.inl 0, .inl 5, .inl 6] [.non, (.bl true), (.bl false)] [.non, (.bl true), (.bl false)] (cps_cons pe_int pe_non (cps_cons pe_int pe_bl (cps_cons pe_int pe_bl cps_nil))) (by rfl) rfl (by decide) (fun F => (.cons (by unfold RepV; rfl) (.cons (by unfold RepV; rfl) (.cons (by unfold RepV; rfl) .nil))))) (SE.bor (pv 3)))))
    SSs.nil)
    (SSs.cons (SS.ifS (ST.cmp (op_eqD hr.units) prim_eq (SE.bor (pv 3)) SE.int (by rfl))
    (SSs.one (SS.ret (SE.meth (pv 0) Md.cl_Reader Md.Reader_number.mt ih.Reader_number hr Md.Reader_number.bd passZ (fun _ _ _ _ _ h => h.elim) (SA.cons SE.non SA.nil) (mALen _ mALen0))))
    SSs.nil)
    (SSs.cons (SS.ifS (ST.cmp (op_eqD hr.units) prim_eq (SE.bor (pv 3)) SE.int (by rfl))
    (SSs.one (SS.ret (SE.bin op_sub prim_sub (SE.un un_neg prim_neg (SE.meth (pv 0) Md.cl_Reader Md.Reader_number.mt ih.Reader_number hr Md.Reader_number.bd passZ (fun _ _ _ _ _ h => h.elim) (SA.cons SE.non SA.nil) (mALen _ mALen0))) SE.int)))
    SSs.nil)
    (SSs.cons (SS.ifS (ST.cmp (op_eqD hr.units) prim_eq (SE.bor (pv 3)) SE.int (by rfl))
    (SSs.one (SS.ret (SE.meth0 (pv 0) Md.cl_Reader Md.Reader_string.mt ih.Reader_string hr Md.Reader_string.bd passZ (fun _ _ _ _ _ h => h.elim))))
    SSs.nil)
    (SSs.cons (SS.ifS (ST.cmp (op_eqD hr.units) prim_eq (SE.bor (pv 1)) (SE.glI Md.c_DEEP rfl) (by rfl))
    (SSs.one SS.never)
    SSs.nil)
    (SSs.cons (SS.asg (SE.meth (pv 0) Md.cl_Reader Md.Reader_number.mt ih.Reader_number hr Md.Reader_number.bd passZ (fun _ _ _ _ _ h => h.elim) (SA.cons (SE.callB (call_min2 rfl) prim_min2 Md.z_min rfl bt_min (SA.cons (SE.glI Md.c_ITEMS rfl) (SA.cons (SE.bin op_sub prim_sub (SE.glI Md.c_PARTS rfl) (SE.fld (pv 0) Md.cl_Reader Md.na_Reader_parts)) SA.nil))) SA.nil) (mALen _ mALen0)) sc_Reader_value.nd (i := 4) rfl (by first | exact Or.inl rfl | exact Or.inr rfl))
    (SSs.cons (SS.augFld iop_add prim_addI (pv 0) Md.cl_Reader Md.na_Reader_parts (SE.bor (pv 4)))
    (SSs.one (SS.ret (SE.callTy call_tuple_of prim_tuple Md.z_tuple rfl bt_tuple (SA.cons (SE.lc (SI.range1 (SA.cons (SE.nm (pv 4)) SA.nil) Md.z_range rfl) (own := [("_", 5)]) (blkOk_by (by rfl)) sc_Reader_value.nd (fun s H C cl fp => (SG.nm (i := 5) sc_Reader_value.nd rfl (by first | exact Or.inl rfl | exact Or.inr rfl))) (fun s H C cl fp => STs.nil) (fun s H C cl fp => (SE.meth (pv 0) Md.cl_Reader Md.Reader_value.mt ih.Reader_value hr Md.Reader_value.bd passZ (fun _ _ _ _ _ h => h.elim) (SA.cons (SE.bin (op_add.or (op_catA.or op_cat)) prim_add (SE.bor (pv 1)) SE.int) SA.nil) (mALen _ mALen0))) (S := [5]) (by decide) rfl) SA.nil)))))))))))))
theorem ok_read_octets (ih : AllOk P w K mg base Md t (m + 2)) : FnOk P w K mg base CX0 (m + 3) Md.read_octets.f Md.read_octets.fd ["octets"] (spF K RX0 (runF 3 (b_read_octets Md.C_Reader t)) 1) :=
  Pu.fn_mk Md.read_octets.fn sc_read_octets fun cdv A outer s H E hr =>
    (SSs.cons (SS.ifS (ST.tnot (ST.truth (SE.call ih.are_octets hr Md.are_octets.gl Md.are_octets.fn.kp Md.are_octets.bd passZ (fun _ _ _ _ _ h => h.elim) rfl (SA.cons (SE.nm (pv 0)) SA.nil) (mALen _ mALen0))))
    (SSs.one SS.never)
    SSs.nil)
    (SSs.cons (SS.asg (SE.make Md.mk_Reader (ok_Reader___init__.mono (Nat.succ_le_succ (Nat.zero_le m))) hr Md.cg_Reader Md.Reader___init__.bd passZ (fun _ _ _ _ _ h => h.elim) runF_nox rfl (SA.cons (SE.nm (pv 0)) SA.nil) (mALen _ mALen0)) sc_read_octets.nd (i := 1) rfl (by first | exact Or.inl rfl | exact Or.inr rfl))
    (SSs.cons (SS.asg (SE.meth (pv 1) Md.cl_Reader Md.Reader_value.mt ih.Reader_value hr Md.Reader_value.bd passZ (fun _ _ _ _ _ h => h.elim) (SA.cons SE.int SA.nil) (mALen _ mALen0)) sc_read_octets.nd (i := 2) rfl (by first | exact Or.inl rfl | exact Or.inr rfl))
    (SSs.cons (SS.ifS (ST.cmp op_lt prim_lt (SE.fld (pv 1) Md.cl_Reader Md.na_Reader_at) (SE.callB call_len prim_len Md.z_len rfl bt_len (SA.cons (SE.bor (pv 0)) SA.nil)) (by rfl))
    (SSs.one SS.never)
    SSs.nil)
    (SSs.one (SS.retNm (pv 2)))))))
theorem ok_first_unlike (ih : AllOk P w K mg base Md t (m + 2)) : FnOk P w K mg base CX0 (m + 3) Md.first_unlike.f Md.first_unlike.fd ["one", "other"] (spF K RX0 (runF 3 (b_first_unlike Md.C_Reader t)) 2) :=
  Pu.fn_mk Md.first_unlike.fn sc_first_unlike fun cdv A outer s H E hr =>
    (SSs.cons (SS.ifS (SW.st (SW.or (ST.tnot (ST.truth (SE.call ih.are_octets hr Md.are_octets.gl Md.are_octets.fn.kp Md.are_octets.bd passZ (fun _ _ _ _ _ h => h.elim) rfl (SA.cons (SE.nm (pv 0)) SA.nil) (mALen _ mALen0)))) (SW.or1 (ST.tnot (ST.truth (SE.call ih.are_octets hr Md.are_octets.gl Md.are_octets.fn.kp Md.are_octets.bd passZ (fun _ _ _ _ _ h => h.elim) rfl (SA.cons (SE.nm (pv 1)) SA.nil) (mALen _ mALen0)))))))
    (SSs.one SS.never)
    SSs.nil)
    (SSs.cons (SS.for (SI.range1 (SA.cons (SE.callB (call_min2 rfl) prim_min2 Md.z_min rfl bt_min (SA.cons (SE.callB call_len prim_len Md.z_len rfl bt_len (SA.cons (SE.bor (pv 0)) SA.nil)) (SA.cons (SE.callB call_len prim_len Md.z_len rfl bt_len (SA.cons (SE.bor (pv 1)) SA.nil)) SA.nil))) SA.nil) Md.z_range rfl) (SG.nm (i := 2) sc_first_unlike.nd rfl (by first | exact Or.inl rfl | exact Or.inr rfl))
    (SSs.one (SS.ifS (ST.cmp (op_neD hr.units) prim_ne (SE.ix (SE.bor (pv 0)) (SE.bor (pv 2))) (SE.ix (SE.bor (pv 1)) (SE.bor (pv 2))) (by rfl))
    (SSs.one (SS.retNm (pv 2)))
    SSs.nil)) PassesOwn.never rfl)
    (SSs.one (SS.ret (SE.ifE (ST.cmp (op_eqD hr.units) prim_eq (SE.callB call_len prim_len Md.z_len rfl bt_len (SA.cons (SE.bor (pv 0)) SA.nil)) (SE.callB call_len prim_len Md.z_len rfl bt_len (SA.cons (SE.bor (pv 1)) SA.nil)) (by rfl)) SE.non (SE.callB (call_min2 rfl) prim_min2 Md.z_min rfl bt_min (SA.cons (SE.callB call_len prim_len Md.z_len rfl bt_len (SA.cons (SE.bor (pv 0)) SA.nil)) (SA.cons (SE.callB call_len prim_len Md.z_len rfl bt_len (SA.cons (SE.bor (pv 1)) SA.nil)) SA.nil))))))))
theorem ok_law_cup (ih : AllOk P w K mg base Md t (m + 2)) : FnOk P w K mg base CX0 (m + 3) Md.law_cup.f Md.law_cup.fd ["script"] (spF K RX0 (runF 2 (b_law_cup Md.C_Reader t)) 1) :=
  Pu.fn_mk Md.law_cup.fn sc_law_cup fun cdv A outer s H E hr =>
    (SSs.cons (SS.asg (SE.callB call_abs prim_abs Md.z_abs rfl bt_abs (SA.cons (SE.ix (SE.bin (op_add.or (op_catA.or op_cat)) prim_add (SE.callTy call_list_of prim_list Md.z_list rfl bt_list (SA.cons (SE.bor (pv 0)) SA.nil)) (SE.lst (SA.cons SE.int SA.nil))) SE.int) SA.nil)) sc_law_cup.nd (i := 1) rfl (by first | exact Or.inl rfl | exact Or.inr rfl))
    (SSs.one (SS.ret (SE.lst (SA.cons (SE.ifE (ST.cmp op_ge prim_ge (SE.bor (pv 1)) (SE.bin op_pow prim_pow SE.int SE.int) (by rfl)) (SE.bin op_fdivW prim_div (SE.bor (pv 1)) SE.int) SE.int) (SA.cons (SE.bin (op_add.or (op_catA.or op_cat)) prim_add (SE.bin op_mod prim_mod (SE.callTy call_int1 prim_int Md.z_int rfl bt_int (SA.cons (SE.bin (op_add.or (op_catA.or op_cat)) prim_add (SE.bin (op_mul.or (op_mulW.or op_rep)) prim_mul (SE.bor (pv 1)) SE.int) SE.int) SA.nil)) SE.int) SE.int) SA.nil))))))
theorem ok_law_roll (ih : AllOk P w K mg base Md t (m + 2)) : FnOk P w K mg base CX0 (m + 3) Md.law_roll.f Md.law_roll.fd ["cup", "many"] (spF K RX0 (runF 4 (b_law_roll Md.C_Reader t)) 2) :=
  Pu.fn_mk Md.law_roll.fn sc_law_roll fun cdv A outer s H E hr =>
    (SSs.cons (SS.ifS (ST.cmp op_gt prim_gt (SE.ix (SE.bor (pv 0)) SE.int) SE.int (by rfl))
    (SSs.cons (SS.asg (SE.bin op_mod prim_mod (SE.callTy call_int1 prim_int Md.z_int rfl bt_int (SA.cons (SE.ix (SE.bor (pv 0)) SE.int) SA.nil)) (SE.bor (pv 1))) sc_law_roll.nd (i := 3) rfl (by first | exact Or.inl rfl | exact Or.inr rfl))
    (SSs.cons (SS.putL (pv 0) SE.int (SE.bin op_fdivW prim_div (SE.ix (SE.bor (pv 0)) SE.int) (SE.bor (pv 1))))
    (SSs.one (SS.retNm (pv 3)))))
    SSs.nil)
    (SSs.cons (SS.putL (pv 0) SE.int (SE.bin op_mod prim_mod (SE.callTy call_int1 prim_int Md.z_int rfl bt_int (SA.cons (SE.bin (op_add.or (op_catA.or op_cat)) prim_add (SE.bin (op_mul.or (op_mulW.or op_rep)) prim_mul (SE.ix (SE.bor (pv 0)) SE.int) SE.int) SE.int) SA.nil)) SE.int))
    (SSs.cons (SS.asg (SE.bin op_mod prim_mod (SE.callTy call_int1 prim_int Md.z_int rfl bt_int (SA.cons (SE.bin (op_mul.or (op_mulW.or op_rep)) prim_mul (SE.ix (SE.bor (pv 0)) SE.int) (SE.bin (op_add.or (op_catA.or op_cat)) prim_add (SE.ix (SE.bor (pv 0)) SE.int) SE.int)) SA.nil)) SE.int) sc_law_roll.nd (i := 2) rfl (by first | exact Or.inl rfl | exact Or.inr rfl))
    (SSs.one (SS.ret (SE.bin op_mod prim_mod (SE.callTy call_int1 prim_int Md.z_int rfl bt_int (SA.cons (SE.bin op_fdivW prim_div (SE.bor (pv 2)) SE.int) SA.nil)) (SE.bor (pv 1))))))))
theorem ok_law_some (ih : AllOk P w K mg base Md t (m + 2)) : FnOk P w K mg base CX0 (m + 3) Md.law_some.f Md.law_some.fd ["cup", "things"] (spF K RX0 (runF 2 (b_law_some Md.C_Reader t)) 2) :=
  Pu.fn_mk Md.law_some.fn sc_law_some fun cdv A outer s H E hr =>
    (SSs.one (SS.ret (SE.ix (SE.bor (pv 1)) (SE.call ih.law_roll hr Md.law_roll.gl Md.law_roll.fn.kp Md.law_roll.bd passZ (fun _ _ _ _ _ h => h.elim) rfl (SA.cons (SE.bor (pv 0)) (SA.cons (SE.callB call_len prim_len Md.z_len rfl bt_len (SA.cons (SE.bor (pv 1)) SA.nil)) SA.nil)) (mALen _ (mALen _ mALen0))))))
theorem ok_law_sort (ih : AllOk P w K mg base Md t (m + 2)) : FnOk P w K mg base CX0 (m + 3) Md.law_sort.f Md.law_sort.fd ["value"] (spF K RX0 (runF 1 (b_law_sort Md.C_Reader t)) 1) :=
  Pu.fn_mk Md.law_sort.fn sc_law_sort fun cdv A outer s H E hr =>
    (SSs.cons (SS.ifS (SW.st (SW.or (ST.cmp op_is prim_is (SE.bor (pv 0)) SE.non (by rfl)) (SW.or1 (ST.truth (SE.callB call_isi prim_isi Md.z_isinstance rfl bt_isinstance (SA.cons (SE.bor (pv 0)) (SA.cons (SE.tyNm rfl Md.z_bool bt_bool) SA.nil)))))))
    (SSs.one (SS.ret (SE.ifE (ST.cmp op_is prim_is (SE.bor (pv 0)) SE.non (by rfl)) SE.int SE.int)))
    SSs.nil)
    (SSs.cons (SS.ifS (SW.st (SW.or (ST.truth (SE.callB call_isi prim_isi Md.z_isinstance rfl bt_isinstance (SA.cons (SE.bor (pv 0)) (SA.cons (SE.tyNm rfl Md.z_int bt_int) SA.nil)))) (SW.or1 (ST.truth (SE.callB call_isi prim_isi Md.z_isinstance rfl bt_isinstance (SA.cons (SE.bor (pv 0)) (SA.cons (SE.tyNm rfl Md.z_str bt_str) SA.nil)))))))
    (SSs.one (SS.ret (SE.ifE (ST.truth (SE.callB call_isi prim_isi Md.z_isinstance rfl bt_isinstance (SA.cons (SE.bor (pv 0)) (SA.cons (SE.tyNm rfl Md.z_int bt_int) SA.nil)))) SE.int SE.int)))
    SSs.nil)
    (SSs.one (SS.ret (SE.ifE (ST.truth (SE.callB call_isi prim_isi Md.z_isinstance rfl bt_isinstance (SA.cons (SE.bor (pv 0)) (SA.cons (SE.tyNm rfl Md.z_tuple bt_tuple) SA.nil)))) SE.int (SE.ifE (ST.truth (SE.callB call_isi prim_isi Md.z_isinstance rfl bt_isinstance (SA.cons (SE.bor (pv 0)) (SA.cons (SE.tyNm rfl Md.z_list bt_list) SA.nil)))) SE.int SE.int))))))
theorem ok_law_like (ih : AllOk P w K mg base Md t (m + 2)) : FnOk P w K mg base CX0 (m + 3) Md.law_like.f Md.law_like.fd ["one", "other"] (spF K RX0 (runF 5 (b_law_like Md.C_Reader t)) 2) :=
  Pu.fn_mk Md.law_like.fn sc_law_like fun cdv A outer s H E hr =>
    (SSs.cons (SS.asg (SE.call ih.law_sort hr Md.law_sort.gl Md.law_sort.fn.kp Md.law_sort.bd passZ (fun _ _ _ _ _ h => h.elim) rfl (SA.cons (SE.nm (pv 1)) SA.nil) (mALen _ mALen0)) sc_law_like.nd (i := 2) rfl (by first | exact Or.inl rfl | exact Or.inr rfl))
    (SSs.cons (SS.ifS (SW.st (SW.or (ST.cmp (op_neD hr.units) prim_ne (SE.call ih.law_sort hr Md.law_sort.gl Md.law_sort.fn.kp Md.law_sort.bd passZ (fun _ _ _ _ _ h => h.elim) rfl (SA.cons (SE.nm (pv 0)) SA.nil) (mALen _ mALen0)) (SE.bor (pv 2)) (by rfl)) (SW.or1 (ST.cmp (op_eqD hr.units) prim_eq (SE.bor (pv 2)) SE.int (by rfl)))))
    (SSs.one (SS.ret SE.bl))
    SSs.nil)
    (SSs.cons (SS.ifS (ST.cmp op_in_seq prim_in (SE.bor (pv 2)) (SE.tup (SA.cons SE.int (SA.cons SE.int SA.nil))) (by rfl))
    (SSs.one (SS.ret (SE.and (SE.cmp (op_eqD hr.units) prim_eq (SE.callB call_len prim_len Md.z_len rfl bt_len (SA.cons (SE.bor (pv 0)) SA.nil)) (SE.callB call_len prim_len Md.z_len rfl bt_len (SA.cons (SE.bor (pv 1)) SA.nil)) (by rfl)) (SE.one (SE.cmp (op_eqD hr.units) prim_eq (SE.lc (SI.zip (SA.cons (SE.nm (pv 0)) (SA.cons (SE.nm (pv 1)) SA.nil)) Md.z_zip rfl) (own := [("first", 3), ("second", 4)]) (blkOk_by (by rfl)) sc_law_like.nd (fun s H C cl fp => (SG.tup (SGs.cons (SG.nm (i := 3) sc_law_like.nd rfl (by first | exact Or.inl rfl | exact Or.inr rfl)) (SGs.cons (SG.nm (i := 4) sc_law_like.nd rfl (by first | exact Or.inl rfl | exact Or.inr rfl)) SGs.nil)) rfl)) (fun s H C cl fp => (STs.one (ST.tnot (ST.truth (SE.call ih.law_like hr Md.law_like.gl Md.law_like.fn.kp Md.law_like.bd passZ (fun _ _ _ _ _ h => h.elim) rfl (SA.cons (SE.nm (pv 3)) (SA.cons (SE.nm (pv 4)) SA.nil)) (mALen _ (mALen _ mALen0))))))) (fun s H C cl fp => SE.int) (S := [3, 4]) (by decide) rfl) (SE.lst SA.nil) (by rfl))))))
    SSs.nil)
    (SSs.one (SS.ret (SE.cmp (op_eqD hr.units) prim_eq (SE.bor (pv 0)) (SE.bor (pv 1)) (by rfl)))))))
theorem ok_law_signs (ih : AllOk P w K mg base Md t (m + 2)) : FnOk P w K mg base CX0 (m + 3) Md.law_signs.f Md.law_signs.fd ["numbers"] (spF K RX0 (runF 3 (b_law_signs Md.C_Reader t)) 1) :=
  Pu.fn_mk Md.law_signs.fn sc_law_signs fun cdv A outer s H E hr =>
    (SSs.cons (SS.asg (SE.dispC (kvs := [(.inl 10, (.str "\n")), (.inl 32, (.str " ")), (.inl 65, (.str "A")), (.inl 97, (.str "a")), (.inl 126, (.str "~"))]) [.inl 10, .inl 32, .inl 65, .inl 97, .inl 126] [(.str "\n"), (.str " "), (.str "A"), (.str "a"), (.str "~")] [(.str "\n"), (.str " "), (.str "A"), (.str "a"), (.str "~")] (cps_cons pe_int pe_str (cps_cons pe_int pe_str (cps_cons pe_int pe_str (cps_cons pe_int pe_str (cps_cons pe_int pe_str cps_nil))))) (by rfl) rfl (by decide) (fun F => (.cons (by unfold RepV; rfl) (.cons (by unfold RepV; rfl) (.cons (by unfold RepV; rfl) (.cons (by unfold RepV; rfl) (.cons (by unfold RepV; rfl) .nil))))))) sc_law_signs.nd (i := 1) rfl (by first | exact Or.inl rfl | exact Or.inr rfl))
    (SSs.one (SS.ret (SE.join (SE.lc (SI.src (SE.nm (pv 0))) (own := [("one", 2)]) (blkOk_by (by rfl)) sc_law_signs.nd (fun s H C cl fp => (SG.nm (i := 2) sc_law_signs.nd rfl (by first | exact Or.inl rfl | exact Or.inr rfl))) (fun s H C cl fp => STs.nil) (fun s H C cl fp => (SE.dget (hu_of hr) (SE.bor (pv 1)) (SE.bor (pv 2)))) (S := [2]) (by decide) rfl)))))
theorem ok_law_value (ih : AllOk P w K mg base Md t (m + 2)) : FnOk P w K mg base CX0 (m + 3) Md.law_value.f Md.law_value.fd ["cup", "deep"] (spF K RX0 (runF 5 (b_law_value Md.C_Reader t)) 2) :=
  Pu.fn_mk Md.law_value.fn sc_law_value fun cdv A outer s H E hr =>
    (SSs.cons (SS.asg (SE.call ih.law_roll hr Md.law_roll.gl Md.law_roll.fn.kp Md.law_roll.bd passZ (fun _ _ _ _ _ h => h.elim) rfl (SA.cons (SE.bor (pv 0)) (SA.cons SE.int SA.nil)) (mALen _ (mALen _ mALen0))) sc_law_value.nd (i := 2) rfl (by first | exact Or.inl rfl | exact Or.inr rfl))
    (SSs.cons (SS.ifS (SW.st (SW.or (ST.cmp op_lt prim_lt (SE.bor (pv 2)) SE.int (by rfl)) (SW.or1 (ST.cmp (op_eqD hr.units) prim_eq (SE.bor (pv 1)) SE.int (by rfl)))))
    (SSs.cons (SS.asg (SE.call ih.law_some hr Md.law_some.gl Md.law_some.fn.kp Md.law_some.bd passZ (fun _ _ _ _ _ h => h.elim) rfl (SA.cons (SE.bor (pv 0)) (SA.cons (SE.lst (SA.cons SE.int (SA.cons SE.int (SA.cons SE.int (SA.cons SE.int (SA.cons SE.int (SA.cons (SE.bin op_pow prim_pow SE.int SE.int) (SA.cons (SE.bin (op_mul.or (op_mulW.or op_rep)) prim_mul (SE.bin (op_mul.or (op_mulW.or op_rep)) prim_mul (SE.bin op_pow prim_pow SE.int SE.int) (SE.bin op_pow prim_pow SE.int SE.int)) (SE.bin op_pow prim_pow SE.int SE.int)) SA.nil)))))))) SA.nil)) (mALen _ (mALen _ mALen0))) sc_law_value.nd (i := 3) rfl (by first | exact Or.inl rfl | exact Or.inr rfl))
    (SSs.one (SS.ret (SE.bin (op_mul.or (op_mulW.or op_rep)) prim_mul (SE.bin (op_add.or (op_catA.or op_cat)) prim_add (SE.bin op_fdivW prim_div (SE.bin (op_mul.or (op_mulW.or op_rep)) prim_mul (SE.call ih.law_roll hr Md.law_roll.gl Md.law_roll.fn.kp Md.law_roll.bd passZ (fun _ _ _ _ _ h => h.elim) rfl (SA.cons (SE.bor (pv 0)) (SA.cons (SE.bin op_pow prim_pow SE.int SE.int) SA.nil)) (mALen _ (mALen _ mALen0))) (SE.bor (pv 3))) (SE.bin op_pow prim_pow SE.int SE.int)) (SE.call ih.law_roll hr Md.law_roll.gl Md.law_roll.fn.kp Md.law_roll.bd passZ (fun _ _ _ _ _ h => h.elim) rfl (SA.cons (SE.bor (pv 0)) (SA.cons SE.int SA.nil)) (mALen _ (mALen _ mALen0)))) (SE.call ih.law_some hr Md.law_some.gl Md.law_some.fn.kp Md.law_some.bd passZ (fun _ _ _ _ _ h => h.elim) rfl (SA.cons (SE.bor (pv 0)) (SA.cons (SE.lst (SA.cons SE.int (SA.cons (SE.un un_neg prim_neg SE.int) SA.nil))) SA.nil)) (mALen _ (mALen _ mALen0)))))))
    SSs.nil)
    (SSs.cons (SS.ifS (ST.cmp (op_eqD hr.units) prim_eq (SE.bor (pv 2)) SE.int (by rfl))
    (SSs.one (SS.ret (SE.call ih.law_some hr Md.law_some.gl Md.law_some.fn.kp Md.law_some.bd passZ (fun _ _ _ _ _ h => h.elim) rfl (SA.cons (SE.bor (pv 0)) (SA.cons (SE.lst (SA.cons SE.non (SA.cons SE.bl (SA.cons SE.bl SA.nil)))) SA.nil)) (mALen _ (mALen _ mALen0)))))
    SSs.nil)
    (SSs.cons (SS.ifS (ST.cmp (op_eqD hr.units) prim_eq (SE.bor (pv 2)) SE.int (by rfl))
    (SSs.one (SS.ret (SE.call ih.law_signs hr Md.law_signs.gl Md.law_signs.fn.kp Md.law_signs.bd passZ (fun _ _ _ _ _ h => h.elim) rfl (SA.cons (SE.lc (SI.range1 (SA.cons (SE.call ih.law_roll hr Md.law_roll.gl Md.law_roll.fn.kp Md.law_roll.bd passZ (fun _ _ _ _ _ h => h.elim) rfl (SA.cons (SE.bor (pv 0)) (SA.cons SE.int SA.nil)) (mALen _ (mALen _ mALen0))) SA.nil) Md.z_range rfl) (own := [("turn", 4)]) (blkOk_by (by rfl)) sc_law_value.nd (fun s H C cl fp => (SG.nm (i := 4) sc_law_value.nd rfl (by first | exact Or.inl rfl | exact Or.inr rfl))) (fun s H C cl fp => STs.nil) (fun s H C cl fp => (SE.call ih.law_some hr Md.law_some.gl Md.law_some.fn.kp Md.law_some.bd passZ (fun _ _ _ _ _ h => h.elim) rfl (SA.cons (SE.bor (pv 0)) (SA.cons (SE.lst (SA.cons SE.int (SA.cons SE.int (SA.cons SE.int (SA.cons SE.int (SA.cons SE.int SA.nil)))))) SA.nil)) (mALen _ (mALen _ mALen0)))) (S := [4]) (by decide) rfl) SA.nil) (mALen _ mALen0))))
    SSs.nil)
    (SSs.one (SS.ret (SE.callTy call_tuple_of prim_tuple Md.z_tuple rfl bt_tuple (SA.cons (SE.lc (SI.range1 (SA.cons (SE.call ih.law_roll hr Md.law_roll.gl Md.law_roll.fn.kp Md.law_roll.bd passZ (fun _ _ _ _ _ h => h.elim) rfl (SA.cons (SE.bor (pv 0)) (SA.cons SE.int SA.nil)) (mALen _ (mALen _ mALen0))) SA.nil) Md.z_range rfl) (own := [("turn", 4)]) (blkOk_by (by rfl)) sc_law_value.nd (fun s H C cl fp => (SG.nm (i := 4) sc_law_value.nd rfl (by first | exact Or.inl rfl | exact Or.inr rfl))) (fun s H C cl fp => STs.nil) (fun s H C cl fp => (SE.call ih.law_value hr Md.law_value.gl Md.law_value.fn.kp Md.law_value.bd passZ (fun _ _ _ _ _ h => h.elim) rfl (SA.cons (SE.bor (pv 0)) (SA.cons (SE.bin op_sub prim_sub (SE.bor (pv 1)) SE.int) SA.nil)) (mALen _ (mALen _ mALen0)))) (S := [4]) (by decide) rfl) SA.nil))))))))
theorem ok_law_digits (ih : AllOk P w K mg base Md t (m + 2)) : FnOk P w K mg base CX0 (m + 3) Md.law_digits.f Md.law_digits.fd ["number"] (spF K RX0 (runF 4 (b_law_digits Md.C_Reader t)) 1) :=
  Pu.fn_mk Md.law_digits.fn sc_law_digits fun cdv A outer s H E hr =>
    (SSs.cons (SS.asg (SE.lst SA.nil) sc_law_digits.nd (i := 1) rfl (by first | exact Or.inl rfl | exact Or.inr rfl))
    (SSs.cons (SS.for (SI.range1 (SA.cons SE.int SA.nil) Md.z_range rfl) (SG.nm (i := 2) sc_law_digits.nd rfl (by first | exact Or.inl rfl | exact Or.inr rfl))
    (SSs.cons (SS.par2 (SF.cons (SE.bin op_mod prim_mod (SE.callTy call_int1 prim_int Md.z_int rfl bt_int (SA.cons (SE.bor (pv 0)) SA.nil)) SE.int) (SF.cons (SE.bin op_fdivW prim_div (SE.bor (pv 0)) SE.int) SF.nil)) rfl sc_law_digits.nd (i := 3) (j := 0) rfl rfl (by decide) rfl rfl)
    (SSs.cons (SS.ifS (ST.cmp (op_eqD hr.units) prim_eq (SE.bor (pv 0)) SE.int (by rfl))
    (SSs.one (SS.ret (SE.bin (op_add.or (op_catA.or op_cat)) prim_add (SE.bor (pv 1)) (SE.lst (SA.cons (SE.nm (pv 3)) SA.nil)))))
    SSs.nil)
    (SSs.one (SS.asg (SE.bin (op_add.or (op_catA.or op_cat)) prim_add (SE.bor (pv 1)) (SE.lst (SA.cons (SE.bin (op_add.or (op_catA.or op_cat)) prim_add (SE.bor (pv 3)) SE.int) SA.nil))) sc_law_digits.nd (i := 1) rfl (by first | exact Or.inl rfl | exact Or.inr rfl))))) PassesOwn.never rfl)
    (SSs.one (SS.retNm (pv 1)))))
theorem ok_law_octets (ih : AllOk P w K mg base Md t (m + 2)) : FnOk P w K mg base CX0 (m + 3) Md.law_octets.f Md.law_octets.fd ["value"] (spF K RX0 (runF 4 (b_law_octets Md.C_Reader t)) 1) :=
  Pu.fn_mk Md.law_octets.fn sc_law_octets fun cdv A outer s H E hr =>
    (SSs.cons (SS.ifS (SW.st (SW.or (ST.cmp op_is prim_is (SE.bor (pv 0)) SE.non (by rfl)) (SW.or1 (ST.truth (SE.callB call_isi prim_isi Md.z_isinstance rfl bt_isinstance (SA.cons (SE.bor (pv 0)) (SA.cons (SE.tyNm rfl Md.z_bool bt_bool) SA.nil)))))))
    (SSs.one (SS.ret (SE.lst (SA.cons (SE.ifE (ST.cmp op_is prim_is (SE.bor (pv 0)) SE.non (by rfl)) SE.int (SE.ifE (ST.truth (SE.bor (pv 0))) SE.int SE.int)) SA.nil))))
    SSs.nil)
    (SSs.cons (SS.ifS (ST.truth (SE.callB call_isi prim_isi Md.z_isinstance rfl bt_isinstance (SA.cons (SE.bor (pv 0)) (SA.cons (SE.tyNm rfl Md.z_int bt_int) SA.nil))))
    (SSs.one (SS.ret (SE.ifE (ST.cmp op_ge prim_ge (SE.bor (pv 0)) SE.int (by rfl)) (SE.bin (op_add.or (op_catA.or op_cat)) prim_add (SE.lst (SA.cons SE.int SA.nil)) (SE.call ih.law_digits hr Md.law_digits.gl Md.law_digits.fn.kp Md.law_digits.bd passZ (fun _ _ _ _ _ h => h.elim) rfl (SA.cons (SE.nm (pv 0)) SA.nil) (mALen _ mALen0))) (SE.bin (op_add.or (op_catA.or op_cat)) prim_add (SE.lst (SA.cons SE.int SA.nil)) (SE.call ih.law_digits hr Md.law_digits.gl Md.law_digits.fn.kp Md.law_digits.bd passZ (fun _ _ _ _ _ h => h.elim) rfl (SA.cons (SE.bin op_sub prim_sub (SE.un un_neg prim_neg (SE.bor (pv 0))) SE.int) SA.nil) (mALen _ mALen0))))))
    SSs.nil)
    (SSs.cons (SS.ifS (ST.truth (SE.callB call_isi prim_isi Md.z_isinstance rfl bt_isinstance (SA.cons (SE.bor (pv 0)) (SA.cons (SE.tyNm rfl Md.z_str bt_str) SA.nil))))
    (SSs.one (SS.ret (SE.bin (op_add.or (op_catA.or op_cat)) prim_add (SE.bin (op_add.or (op_catA.or op_cat)) prim_add (SE.lst (SA.cons SE.int SA.nil)) (SE.call ih.law_digits hr Md.law_digits.gl Md.law_digits.fn.kp Md.law_digits.bd passZ (fun _ _ _ _ _ h => h.elim) rfl (SA.cons (SE.callB call_len prim_len Md.z_len rfl bt_len (SA.cons (SE.bor (pv 0)) SA.nil)) SA.nil) (mALen _ mALen0))) (SE.lc (SI.src (SE.nm (pv 0))) (own := [("sign", 3)]) (blkOk_by (by rfl)) sc_law_octets.nd (fun s H C cl fp => (SG.nm (i := 3) sc_law_octets.nd rfl (by first | exact Or.inl rfl | exact Or.inr rfl))) (fun s H C cl fp => STs.nil) (fun s H C cl fp => (SE.callB call_ord prim_ord Md.z_ord rfl bt_ord (SA.cons (SE.bor (pv 3)) SA.nil))) (S := [3]) (by decide) rfl))))
    SSs.nil)
    (SSs.cons (SS.asg (SE.bin (op_add.or (op_catA.or op_cat)) prim_add (SE.lst (SA.cons SE.int SA.nil)) (SE.call ih.law_digits hr Md.law_digits.gl Md.law_digits.fn.kp Md.law_digits.bd passZ (fun _ _ _ _ _ h => h.elim) rfl (SA.cons (SE.callB call_len prim_len Md.z_len rfl bt_len (SA.cons (SE.bor (pv 0)) SA.nil)) SA.nil) (mALen _ mALen0))) sc_law_octets.nd (i := 1) rfl (by first | exact Or.inl rfl | exact Or.inr rfl))
    (SSs.cons (SS.for (SI.src (SE.nm (pv 0))) (SG.nm (i := 2) sc_law_octets.nd rfl (by first | exact Or.inl rfl | exact Or.inr rfl))
    (SSs.one (SS.asg (SE.bin (op_add.or (op_catA.or op_cat)) prim_add (SE.bor (pv 1)) (SE.call ih.law_octets hr Md.law_octets.gl Md.law_octets.fn.kp Md.law_octets.bd passZ (fun _ _ _ _ _ h => h.elim) rfl (SA.cons (SE.nm (pv 2)) SA.nil) (mALen _ mALen0))) sc_law_octets.nd (i := 1) rfl (by first | exact Or.inl rfl | exact Or.inr rfl))) PassesOwn.never rfl)
    (SSs.one (SS.retNm (pv 1))))))))
end
/-- nothing is known -/
def badG : G := fun _ => .bad
def stepT (C_Reader : Addr) (t : Tb) : Tb where
  is_sign := runF 1 (b_is_sign C_Reader t)
  sign_of := runF 1 (b_sign_of C_Reader t)
  are_octets := runF 2 (b_are_octets C_Reader t)
  few_digits := runF 2 (b_few_digits C_Reader t)
  counted := runF 6 (b_counted C_Reader t)
  digits_of := runF 2 (b_digits_of C_Reader t)
  laid := runF 4 (b_laid C_Reader t)
  write_octets := runF 1 (b_write_octets C_Reader t)
  read_digits := runF 7 (b_read_digits C_Reader t)
  Reader_begin := runF 1 (b_Reader_begin C_Reader t)
  Reader_number := runF 3 (b_Reader_number C_Reader t)
  Reader_string := runF 4 (b_Reader_string C_Reader t)
  Reader_value := runF 6 (b_Reader_value C_Reader t)
  read_octets := runF 3 (b_read_octets C_Reader t)
  first_unlike := runF 3 (b_first_unlike C_Reader t)
  law_cup := runF 2 (b_law_cup C_Reader t)
  law_roll := runF 4 (b_law_roll C_Reader t)
  law_some := runF 2 (b_law_some C_Reader t)
  law_sort := runF 1 (b_law_sort C_Reader t)
  law_like := runF 5 (b_law_like C_Reader t)
  law_signs := runF 3 (b_law_signs C_Reader t)
  law_value := runF 5 (b_law_value C_Reader t)
  law_digits := runF 4 (b_law_digits C_Reader t)
  law_octets := runF 4 (b_law_octets C_Reader t)
def tbl (C_Reader : Addr) : Nat → Tb
  | 0 => ⟨badG, badG, badG, badG, badG, badG, badG, badG, badG, badG, badG, badG, badG, badG, badG, badG, badG, badG, badG, badG, badG, badG, badG, badG⟩
  | n + 1 => stepT C_Reader (tbl C_Reader n)
section
variable {P : Program} {w : World} {K : PySem.W.Frag} {mg : Str → Option Value} {base : Heap} {Md : Facts K mg}
theorem all_ok  : ∀ n : Nat, AllOk P w K mg base Md (tbl Md.C_Reader n) (n + 2)
  | 0 => ⟨fn_bad, fn_bad, fn_bad, fn_bad, fn_bad, fn_bad, fn_bad, fn_bad, fn_bad, fn_bad, fn_bad, fn_bad, fn_bad, fn_bad, fn_bad, fn_bad, fn_bad, fn_bad, fn_bad, fn_bad, fn_bad, fn_bad, fn_bad, fn_bad⟩
  | n + 1 => have ih := all_ok  n
    ⟨ok_is_sign ih, ok_sign_of ih, ok_are_octets ih, ok_few_digits ih, ok_counted ih, ok_digits_of ih, ok_laid ih, ok_write_octets ih, ok_read_digits ih, ok_Reader_begin ih, ok_Reader_number ih, ok_Reader_string ih, ok_Reader_value ih, ok_read_octets ih, ok_first_unlike ih, ok_law_cup ih, ok_law_roll ih, ok_law_some ih, ok_law_sort ih, ok_law_like ih, ok_law_signs ih, ok_law_value ih, ok_law_digits ih, ok_law_octets ih⟩
end
/-! the law, statement by statement -/
def l_0 (C_Reader : Addr) (t : Tb) : MS :=
    (mAsg 1 (mCall t.law_cup (mACons (mNm 0) mANil)))
def l_1 (C_Reader : Addr) (t : Tb) : MS :=
    (mAsg 2 (mTup (mACons (mTup (mACons (mK .non) mANil)) (mACons (mTup (mACons (mK (.int 4)) (mACons (mK (.int 1)) (mACons (mK (.int 0)) mANil)))) mANil))))
def l_2 (C_Reader : Addr) (t : Tb) : MS :=
    (mFor (mRng rng1 (mACons (mK (.int 10)) mANil)) (mgNm 3)
    (mSeq (mAsg 9 (mCall t.law_value (mACons (mBor 1) (mACons (mK (.int 4)) mANil))))
    (mSeq (mAsg 10 (mApp fTuple (mACons (mCall t.law_octets (mACons (mNm 9) mANil)) mANil)))
    (mSeq (mAsg 8 (mCall t.write_octets (mACons (mNm 9) mANil)))
    (mSeq (mIfS (mTOr (mTNot (mTruth (mCall t.law_like (mACons (mNm 8) (mACons (mNm 10) mANil))))) (mTNot (mTruth (mCall t.law_like (mACons (mCall t.read_octets (mACons (mNm 10) mANil)) (mACons (mNm 9) mANil))))))
    (mRet (mK (.bl false)))
    mNx)
    (mSeq (mAsg 11 (mCall t.first_unlike (mACons (mNm 10) (mACons (mBin pIx (mBor 2) (mK (.int 1))) mANil))))
    (mSeq (mIfS (mTest (mBin pIs (mBor 11) (mK .non)))
    (mIfS (mTNot (mTruth (mCall t.law_like (mACons (mNm 9) (mACons (mBin pIx (mBor 2) (mK (.int 0))) mANil)))))
    (mRet (mK (.bl false)))
    mNx)
    (mIfS (mTOr (mTest (mBin pNe (mSl (mBor 10) mNoPart (mPart (mNm 11))) (mSl (mBin pIx (mBor 2) (mK (.int 1))) mNoPart (mPart (mNm 11))))) (mTOr (mTAnd (mTest (mBin pLt (mBor 11) (mApp fLen (mACons (mBor 10) mANil)))) (mTAnd (mTest (mBin pLt (mBor 11) (mApp fLen (mACons (mBin pIx (mBor 2) (mK (.int 1))) mANil)))) (mTest (mBin pEq (mBin pIx (mBor 10) (mBor 11)) (mBin pIx (mBin pIx (mBor 2) (mK (.int 1))) (mBor 11)))))) (mTest (mBin pGt (mBor 11) (mApp fMin2 (mACons (mApp fLen (mACons (mBor 10) mANil)) (mACons (mApp fLen (mACons (mBin pIx (mBor 2) (mK (.int 1))) mANil)) mANil)))))))
    (mRet (mK (.bl false)))
    mNx))
    (mAsg 2 (mTup (mACons (mNm 9) (mACons (mNm 10) mANil)))))))))))
def l_3 (C_Reader : Addr) (t : Tb) : MS :=
    (mAsg 4 (mBin pPow (mK (.int 128)) (mK (.int 54))))
def l_4 (C_Reader : Addr) (t : Tb) : MS :=
    (mFor (mRng rng1 (mACons (mK (.int 14)) mANil)) (mgNm 3)
    (mAsg 4 (mBin pMul (mBor 4) (mBin pPow (mK (.int 128)) (mK (.int 64))))))
def l_5 (C_Reader : Addr) (t : Tb) : MS :=
    (mIfS (mTNot (mTruth (mCall t.law_like (mACons (mCall t.read_octets (mACons (mCall t.write_octets (mACons (mTup (mACons (mBin pSub (mBor 4) (mK (.int 1))) (mACons (mUn pNeg (mBor 4)) mANil))) mANil)) mANil)) (mACons (mTup (mACons (mBin pSub (mBor 4) (mK (.int 1))) (mACons (mUn pNeg (mBor 4)) mANil))) mANil)))))
    (mRet (mK (.bl false)))
    mNx)
def l_6 (C_Reader : Addr) (t : Tb) : MS :=
    (mAsg 5 (mTup mANil))
def l_7 (C_Reader : Addr) (t : Tb) : MS :=
    (mFor (mRng rng1 (mACons (mK (.int 59)) mANil)) (mgNm 3)
    (mAsg 5 (mTup (mACons (mNm 5) mANil))))
def l_8 (C_Reader : Addr) (t : Tb) : MS :=
    (mIfS (mTNot (mTruth (mCall t.law_like (mACons (mCall t.read_octets (mACons (mCall t.write_octets (mACons (mNm 5) mANil)) mANil)) (mACons (mNm 5) mANil)))))
    (mRet (mK (.bl false)))
    mNx)
def l_9 (C_Reader : Addr) (t : Tb) : MS :=
    (mAsg 6 (mLst (mACons (mNm 4) (mACons (mBin pSub (mUn pNeg (mBor 4)) (mK (.int 1))) (mACons (mLst (mACons (mK (.int 1)) mANil)) (mACons (mLst mANil) (mACons (mTup (mACons (mK (.int 1)) (mACons (mTup (mACons (mK (.int 2)) (mACons (mLst (mACons (mK (.int 3)) mANil)) mANil))) mANil))) (mACons (mTup (mACons (mTup (mACons (mNm 4) mANil)) mANil)) (mACons (mTup (mACons (mK (.str "a")) (mACons (mLst (mACons (mK (.str "b")) mANil)) mANil))) mANil)))))))))
def l_11 (C_Reader : Addr) (t : Tb) : MS :=
    (mAsg 7 (mLst (mACons (mK .non) (mACons (mLst (mACons (mK (.int 1)) (mACons (mK (.int 0)) mANil))) (mACons (mTup (mACons (mK (.int 256)) mANil)) (mACons (mTup (mACons (mUn pNeg (mK (.int 1))) mANil)) (mACons (mTup (mACons (mK (.bl true)) mANil)) (mACons (mTup (mACons (mK (.int 0)) (mACons (mK (.str "a")) mANil))) (mACons (mK (.str "a")) mANil)))))))))
def l_12 (C_Reader : Addr) (t : Tb) : MS :=
    (mAsg 8 (mLst (mACons (mCall t.first_unlike (mACons (mTup (mACons (mK (.int 1)) (mACons (mK (.int 2)) mANil))) (mACons (mTup (mACons (mK (.int 1)) (mACons (mK (.int 2)) (mACons (mK (.int 3)) mANil)))) mANil))) (mACons (mCall t.first_unlike (mACons (mTup (mACons (mK (.int 1)) (mACons (mK (.int 2)) (mACons (mK (.int 3)) mANil)))) (mACons (mTup (mACons (mK (.int 1)) (mACons (mK (.int 2)) mANil))) mANil))) (mACons (mCall t.first_unlike (mACons (mTup (mACons (mK (.int 7)) mANil)) (mACons (mTup (mACons (mK (.int 7)) mANil)) mANil))) (mACons (mCall t.first_unlike (mACons (mTup mANil) (mACons (mTup (mACons (mK (.int 0)) mANil)) mANil))) mANil))))))
def l_13 (C_Reader : Addr) (t : Tb) : MS :=
    (mIfS (mTNot (mTruth (mCall t.law_like (mACons (mNm 8) (mACons (mLst (mACons (mK (.int 2)) (mACons (mK (.int 2)) (mACons (mK .non) (mACons (mK (.int 0)) mANil))))) mANil)))))
    (mRet (mK (.bl false)))
    mNx)
section
variable {P : Program} {w : World} {K : PySem.W.Frag} {mg : Str → Option Value} {base : Heap} {Md : Facts K mg} {t : Tb} {m : Nat}
theorem ok_l_0 (ih : AllOk P w K mg base Md t (m + 2)) (f : Addr) (cdv : Value) (A : Around) (outer : List PySem.Env) (s : Shared) (H : Hp) (E : XK) (hr : Room (m + 2) (A.deeper (envOfC "law" (defScope s_law) s.heap.objs.size f cdv))) :
    SS (cxOf CX0 P w K mg base N_law "law" (defScope s_law) f cdv A outer s H E).nox W0 ((defBody s_law).getD 0 (.Pass ⟨0, 0, 0, 0⟩)) (l_0 Md.C_Reader t) :=
    (SS.asg (SE.call ih.law_cup hr Md.law_cup.gl Md.law_cup.fn.kp Md.law_cup.bd passZ (fun _ _ _ _ _ h => h.elim) rfl (SA.cons (SE.nm (pv 0)) SA.nil) (mALen _ mALen0)) sc_law.nd (i := 1) rfl (by first | exact Or.inl rfl | exact Or.inr rfl))
theorem ok_l_1 (ih : AllOk P w K mg base Md t (m + 2)) (f : Addr) (cdv : Value) (A : Around) (outer : List PySem.Env) (s : Shared) (H : Hp) (E : XK) (hr : Room (m + 2) (A.deeper (envOfC "law" (defScope s_law) s.heap.objs.size f cdv))) :
    SS (cxOf CX0 P w K mg base N_law "law" (defScope s_law) f cdv A outer s H E).nox W0 ((defBody s_law).getD 1 (.Pass ⟨0, 0, 0, 0⟩)) (l_1 Md.C_Reader t) :=
    (SS.asg (SE.tup (SA.cons (SE.tup (SA.cons SE.non SA.nil)) (SA.cons (SE.tup (SA.cons SE.int (SA.cons SE.int (SA.cons SE.int SA.nil)))) SA.nil))) sc_law.nd (i := 2) rfl (by first | exact Or.inl rfl | exact Or.inr rfl))
theorem ok_l_2 (ih : AllOk P w K mg base Md t (m + 2)) (f : Addr) (cdv : Value) (A : Around) (outer : List PySem.Env) (s : Shared) (H : Hp) (E : XK) (hr : Room (m + 2) (A.deeper (envOfC "law" (defScope s_law) s.heap.objs.size f cdv))) :
    SS (cxOf CX0 P w K mg base N_law "law" (defScope s_law) f cdv A outer s H E).nox W0 ((defBody s_law).getD 2 (.Pass ⟨0, 0, 0, 0⟩)) (l_2 Md.C_Reader t) :=
    (SS.for (SI.range1 (SA.cons SE.int SA.nil) Md.z_range rfl) (SG.nm (i := 3) sc_law.nd rfl (by first | exact Or.inl rfl | exact Or.inr rfl))
    (SSs.cons (SS.asg (SE.call ih.law_value hr Md.law_value.gl Md.law_value.fn.kp Md.law_value.bd passZ (fun _ _ _ _ _ h => h.elim) rfl (SA.cons (SE.bor (pv 1)) (SA.cons SE.int SA.nil)) (mALen _ (mALen _ mALen0))) sc_law.nd (i := 9) rfl (by first | exact Or.inl rfl | exact Or.inr rfl))
    (SSs.cons (SS.asg (SE.callTy call_tuple_of prim_tuple Md.z_tuple rfl bt_tuple (SA.cons (SE.call ih.law_octets hr Md.law_octets.gl Md.law_octets.fn.kp Md.law_octets.bd passZ (fun _ _ _ _ _ h => h.elim) rfl (SA.cons (SE.nm (pv 9)) SA.nil) (mALen _ mALen0)) SA.nil)) sc_law.nd (i := 10) rfl (by first | exact Or.inl rfl | exact Or.inr rfl))
    (SSs.cons (SS.asg (SE.call ih.write_octets hr Md.write_octets.gl Md.write_octets.fn.kp Md.write_octets.bd passZ (fun _ _ _ _ _ h => h.elim) rfl (SA.cons (SE.nm (pv 9)) SA.nil) (mALen _ mALen0)) sc_law.nd (i := 8) rfl (by first | exact Or.inl rfl | exact Or.inr rfl))
    (SSs.cons (SS.ifS (SW.st (SW.or (ST.tnot (ST.truth (SE.call ih.law_like hr Md.law_like.gl Md.law_like.fn.kp Md.law_like.bd passZ (fun _ _ _ _ _ h => h.elim) rfl (SA.cons (SE.nm (pv 8)) (SA.cons (SE.nm (pv 10)) SA.nil)) (mALen _ (mALen _ mALen0))))) (SW.or1 (ST.tnot (ST.truth (SE.call ih.law_like hr Md.law_like.gl Md.law_like.fn.kp Md.law_like.bd passZ (fun _ _ _ _ _ h => h.elim) rfl (SA.cons (SE.call ih.read_octets hr Md.read_octets.gl Md.read_octets.fn.kp Md.read_octets.bd passZ (fun _ _ _ _ _ h => h.elim) rfl (SA.cons (SE.nm (pv 10)) SA.nil) (mALen _ mALen0)) (SA.cons (SE.nm (pv 9)) SA.nil)) (mALen _ (mALen _ mALen0))))))))
    (SSs.one (SS.ret SE.bl))
    SSs.nil)
    (SSs.cons (SS.asg (SE.call ih.first_unlike hr Md.first_unlike.gl Md.first_unlike.fn.kp Md.first_unlike.bd passZ (fun _ _ _ _ _ h => h.elim) rfl (SA.cons (SE.nm (pv 10)) (SA.cons (SE.ix (SE.bor (pv 2)) SE.int) SA.nil)) (mALen _ (mALen _ mALen0))) sc_law.nd (i := 11) rfl (by first | exact Or.inl rfl | exact Or.inr rfl))
    (SSs.cons (SS.ifS (ST.cmp op_is prim_is (SE.bor (pv 11)) SE.non (by rfl))
    (SSs.one (SS.ifS (ST.tnot (ST.truth (SE.call ih.law_like hr Md.law_like.gl Md.law_like.fn.kp Md.law_like.bd passZ (fun _ _ _ _ _ h => h.elim) rfl (SA.cons (SE.nm (pv 9)) (SA.cons (SE.ix (SE.bor (pv 2)) SE.int) SA.nil)) (mALen _ (mALen _ mALen0)))))
    (SSs.one (SS.ret SE.bl))
    SSs.nil))
    (SSs.one (SS.ifS (SW.st (SW.or (ST.cmp (op_neD hr.units) prim_ne (SE.slice (SE.bor (pv 10)) SO.none (SO.some (SE.nm (pv 11)))) (SE.slice (SE.ix (SE.bor (pv 2)) SE.int) SO.none (SO.some (SE.nm (pv 11)))) (by rfl)) (SW.or (SW.st (SW.and (ST.cmp op_lt prim_lt (SE.bor (pv 11)) (SE.callB call_len prim_len Md.z_len rfl bt_len (SA.cons (SE.bor (pv 10)) SA.nil)) (by rfl)) (SW.and (ST.cmp op_lt prim_lt (SE.bor (pv 11)) (SE.callB call_len prim_len Md.z_len rfl bt_len (SA.cons (SE.ix (SE.bor (pv 2)) SE.int) SA.nil)) (by rfl)) (SW.and1 (ST.cmp (op_eqD hr.units) prim_eq (SE.ix (SE.bor (pv 10)) (SE.bor (pv 11))) (SE.ix (SE.ix (SE.bor (pv 2)) SE.int) (SE.bor (pv 11))) (by rfl)))))) (SW.or1 (ST.cmp op_gt prim_gt (SE.bor (pv 11)) (SE.callB (call_min2 rfl) prim_min2 Md.z_min rfl bt_min (SA.cons (SE.callB call_len prim_len Md.z_len rfl bt_len (SA.cons (SE.bor (pv 10)) SA.nil)) (SA.cons (SE.callB call_len prim_len Md.z_len rfl bt_len (SA.cons (SE.ix (SE.bor (pv 2)) SE.int) SA.nil)) SA.nil))) (by rfl))))))
    (SSs.one (SS.ret SE.bl))
    SSs.nil)))
    (SSs.one (SS.asg (SE.tup (SA.cons (SE.nm (pv 9)) (SA.cons (SE.nm (pv 10)) SA.nil))) sc_law.nd (i := 2) rfl (by first | exact Or.inl rfl | exact Or.inr rfl))))))))) PassesOwn.never rfl)
theorem ok_l_3 (ih : AllOk P w K mg base Md t (m + 2)) (f : Addr) (cdv : Value) (A : Around) (outer : List PySem.Env) (s : Shared) (H : Hp) (E : XK) (hr : Room (m + 2) (A.deeper (envOfC "law" (defScope s_law) s.heap.objs.size f cdv))) :
    SS (cxOf CX0 P w K mg base N_law "law" (defScope s_law) f cdv A outer s H E).nox W0 ((defBody s_law).getD 3 (.Pass ⟨0, 0, 0, 0⟩)) (l_3 Md.C_Reader t) :=
    (SS.asg (SE.bin op_pow prim_pow SE.int SE.int) sc_law.nd (i := 4) rfl (by first | exact Or.inl rfl | exact Or.inr rfl))
theorem ok_l_4 (ih : AllOk P w K mg base Md t (m + 2)) (f : Addr) (cdv : Value) (A : Around) (outer : List PySem.Env) (s : Shared) (H : Hp) (E : XK) (hr : Room (m + 2) (A.deeper (envOfC "law" (defScope s_law) s.heap.objs.size f cdv))) :
    SS (cxOf CX0 P w K mg base N_law "law" (defScope s_law) f cdv A outer s H E).nox W0 ((defBody s_law).getD 4 (.Pass ⟨0, 0, 0, 0⟩)) (l_4 Md.C_Reader t) :=
    (SS.for (SI.range1 (SA.cons SE.int SA.nil) Md.z_range rfl) (SG.nm (i := 3) sc_law.nd rfl (by first | exact Or.inl rfl | exact Or.inr rfl))
    (SSs.one (SS.asg (SE.bin (op_mul.or (op_mulW.or op_rep)) prim_mul (SE.bor (pv 4)) (SE.bin op_pow prim_pow SE.int SE.int)) sc_law.nd (i := 4) rfl (by first | exact Or.inl rfl | exact Or.inr rfl))) PassesOwn.never rfl)
theorem ok_l_5 (ih : AllOk P w K mg base Md t (m + 2)) (f : Addr) (cdv : Value) (A : Around) (outer : List PySem.Env) (s : Shared) (H : Hp) (E : XK) (hr : Room (m + 2) (A.deeper (envOfC "law" (defScope s_law) s.heap.objs.size f cdv))) :
    SS (cxOf CX0 P w K mg base N_law "law" (defScope s_law) f cdv A outer s H E).nox W0 ((defBody s_law).getD 5 (.Pass ⟨0, 0, 0, 0⟩)) (l_5 Md.C_Reader t) :=
    (SS.ifS (ST.tnot (ST.truth (SE.call ih.law_like hr Md.law_like.gl Md.law_like.fn.kp Md.law_like.bd passZ (fun _ _ _ _ _ h => h.elim) rfl (SA.cons (SE.call ih.read_octets hr Md.read_octets.gl Md.read_octets.fn.kp Md.read_octets.bd passZ (fun _ _ _ _ _ h => h.elim) rfl (SA.cons (SE.call ih.write_octets hr Md.write_octets.gl Md.write_octets.fn.kp Md.write_octets.bd passZ (fun _ _ _ _ _ h => h.elim) rfl (SA.cons (SE.tup (SA.cons (SE.bin op_sub prim_sub (SE.bor (pv 4)) SE.int) (SA.cons (SE.un un_neg prim_neg (SE.bor (pv 4))) SA.nil))) SA.nil) (mALen _ mALen0)) SA.nil) (mALen _ mALen0)) (SA.cons (SE.tup (SA.cons (SE.bin op_sub prim_sub (SE.bor (pv 4)) SE.int) (SA.cons (SE.un un_neg prim_neg (SE.bor (pv 4))) SA.nil))) SA.nil)) (mALen _ (mALen _ mALen0)))))
    (SSs.one (SS.ret SE.bl))
    SSs.nil)
theorem ok_l_6 (ih : AllOk P w K mg base Md t (m + 2)) (f : Addr) (cdv : Value) (A : Around) (outer : List PySem.Env) (s : Shared) (H : Hp) (E : XK) (hr : Room (m + 2) (A.deeper (envOfC "law" (defScope s_law) s.heap.objs.size f cdv))) :
    SS (cxOf CX0 P w K mg base N_law "law" (defScope s_law) f cdv A outer s H E).nox W0 ((defBody s_law).getD 6 (.Pass ⟨0, 0, 0, 0⟩)) (l_6 Md.C_Reader t) :=
    (SS.asg (SE.tup SA.nil) sc_law.nd (i := 5) rfl (by first | exact Or.inl rfl | exact Or.inr rfl))
theorem ok_l_7 (ih : AllOk P w K mg base Md t (m + 2)) (f : Addr) (cdv : Value) (A : Around) (outer : List PySem.Env) (s : Shared) (H : Hp) (E : XK) (hr : Room (m + 2) (A.deeper (envOfC "law" (defScope s_law) s.heap.objs.size f cdv))) :
    SS (cxOf CX0 P w K mg base N_law "law" (defScope s_law) f cdv A outer s H E).nox W0 ((defBody s_law).getD 7 (.Pass ⟨0, 0, 0, 0⟩)) (l_7 Md.C_Reader t) :=
    (SS.for (SI.range1 (SA.cons SE.int SA.nil) Md.z_range rfl) (SG.nm (i := 3) sc_law.nd rfl (by first | exact Or.inl rfl | exact Or.inr rfl))
    (SSs.one (SS.asg (SE.tup (SA.cons (SE.nm (pv 5)) SA.nil)) sc_law.nd (i := 5) rfl (by first | exact Or.inl rfl | exact Or.inr rfl))) PassesOwn.never rfl)
theorem ok_l_8 (ih : AllOk P w K mg base Md t (m + 2)) (f : Addr) (cdv : Value) (A : Around) (outer : List PySem.Env) (s : Shared) (H : Hp) (E : XK) (hr : Room (m + 2) (A.deeper (envOfC "law" (defScope s_law) s.heap.objs.size f cdv))) :
    SS (cxOf CX0 P w K mg base N_law "law" (defScope s_law) f cdv A outer s H E).nox W0 ((defBody s_law).getD 8 (.Pass ⟨0, 0, 0, 0⟩)) (l_8 Md.C_Reader t) :=
    (SS.ifS (ST.tnot (ST.truth (SE.call ih.law_like hr Md.law_like.gl Md.law_like.fn.kp Md.law_like.bd passZ (fun _ _ _ _ _ h => h.elim) rfl (SA.cons (SE.call ih.read_octets hr Md.read_octets.gl Md.read_octets.fn.kp Md.read_octets.bd passZ (fun _ _ _ _ _ h => h.elim) rfl (SA.cons (SE.call ih.write_octets hr Md.write_octets.gl Md.write_octets.fn.kp Md.write_octets.bd passZ (fun _ _ _ _ _ h => h.elim) rfl (SA.cons (SE.nm (pv 5)) SA.nil) (mALen _ mALen0)) SA.nil) (mALen _ mALen0)) (SA.cons (SE.nm (pv 5)) SA.nil)) (mALen _ (mALen _ mALen0)))))
    (SSs.one (SS.ret SE.bl))
    SSs.nil)
theorem ok_l_9 (ih : AllOk P w K mg base Md t (m + 2)) (f : Addr) (cdv : Value) (A : Around) (outer : List PySem.Env) (s : Shared) (H : Hp) (E : XK) (hr : Room (m + 2) (A.deeper (envOfC "law" (defScope s_law) s.heap.objs.size f cdv))) :
    SS (cxOf CX0 P w K mg base N_law "law" (defScope s_law) f cdv A outer s H E).nox W0 ((defBody s_law).getD 9 (.Pass ⟨0, 0, 0, 0⟩)) (l_9 Md.C_Reader t) :=
    (SS.asg (SE.lst (SA.cons (SE.nm (pv 4)) (SA.cons (SE.bin op_sub prim_sub (SE.un un_neg prim_neg (SE.bor (pv 4))) SE.int) (SA.cons (SE.lst (SA.cons SE.int SA.nil)) (SA.cons (SE.lst SA.nil) (SA.cons (SE.tup (SA.cons SE.int (SA.cons (SE.tup (SA.cons SE.int (SA.cons (SE.lst (SA.cons SE.int SA.nil)) SA.nil))) SA.nil))) (SA.cons (SE.tup (SA.cons (SE.tup (SA.cons (SE.nm (pv 4)) SA.nil)) SA.nil)) (SA.cons (SE.tup (SA.cons SE.str (SA.cons (SE.lst (SA.cons SE.str SA.nil)) SA.nil))) SA.nil)))))))) sc_law.nd (i := 6) rfl (by first | exact Or.inl rfl | exact Or.inr rfl))
theorem ok_l_11 (ih : AllOk P w K mg base Md t (m + 2)) (f : Addr) (cdv : Value) (A : Around) (outer : List PySem.Env) (s : Shared) (H : Hp) (E : XK) (hr : Room (m + 2) (A.deeper (envOfC "law" (defScope s_law) s.heap.objs.size f cdv))) :
    SS (cxOf CX0 P w K mg base N_law "law" (defScope s_law) f cdv A outer s H E).nox W0 ((defBody s_law).getD 11 (.Pass ⟨0, 0, 0, 0⟩)) (l_11 Md.C_Reader t) :=
    (SS.asg (SE.lst (SA.cons SE.non (SA.cons (SE.lst (SA.cons SE.int (SA.cons SE.int SA.nil))) (SA.cons (SE.tup (SA.cons SE.int SA.nil)) (SA.cons (SE.tup (SA.cons (SE.un un_neg prim_neg SE.int) SA.nil)) (SA.cons (SE.tup (SA.cons SE.bl SA.nil)) (SA.cons (SE.tup (SA.cons SE.int (SA.cons SE.str SA.nil))) (SA.cons SE.str SA.nil)))))))) sc_law.nd (i := 7) rfl (by first | exact Or.inl rfl | exact Or.inr rfl))
theorem ok_l_12 (ih : AllOk P w K mg base Md t (m + 2)) (f : Addr) (cdv : Value) (A : Around) (outer : List PySem.Env) (s : Shared) (H : Hp) (E : XK) (hr : Room (m + 2) (A.deeper (envOfC "law" (defScope s_law) s.heap.objs.size f cdv))) :
    SS (cxOf CX0 P w K mg base N_law "law" (defScope s_law) f cdv A outer s H E).nox W0 ((defBody s_law).getD 12 (.Pass ⟨0, 0, 0, 0⟩)) (l_12 Md.C_Reader t) :=
    (SS.asg (SE.lst (SA.cons (SE.call ih.first_unlike hr Md.first_unlike.gl Md.first_unlike.fn.kp Md.first_unlike.bd passZ (fun _ _ _ _ _ h => h.elim) rfl (SA.cons (SE.tup (SA.cons SE.int (SA.cons SE.int SA.nil))) (SA.cons (SE.tup (SA.cons SE.int (SA.cons SE.int (SA.cons SE.int SA.nil)))) SA.nil)) (mALen _ (mALen _ mALen0))) (SA.cons (SE.call ih.first_unlike hr Md.first_unlike.gl Md.first_unlike.fn.kp Md.first_unlike.bd passZ (fun _ _ _ _ _ h => h.elim) rfl (SA.cons (SE.tup (SA.cons SE.int (SA.cons SE.int (SA.cons SE.int SA.nil)))) (SA.cons (SE.tup (SA.cons SE.int (SA.cons SE.int SA.nil))) SA.nil)) (mALen _ (mALen _ mALen0))) (SA.cons (SE.call ih.first_unlike hr Md.first_unlike.gl Md.first_unlike.fn.kp Md.first_unlike.bd passZ (fun _ _ _ _ _ h => h.elim) rfl (SA.cons (SE.tup (SA.cons SE.int SA.nil)) (SA.cons (SE.tup (SA.cons SE.int SA.nil)) SA.nil)) (mALen _ (mALen _ mALen0))) (SA.cons (SE.call ih.first_unlike hr Md.first_unlike.gl Md.first_unlike.fn.kp Md.first_unlike.bd passZ (fun _ _ _ _ _ h => h.elim) rfl (SA.cons (SE.tup SA.nil) (SA.cons (SE.tup (SA.cons SE.int SA.nil)) SA.nil)) (mALen _ (mALen _ mALen0))) SA.nil))))) sc_law.nd (i := 8) rfl (by first | exact Or.inl rfl | exact Or.inr rfl))
theorem ok_l_13 (ih : AllOk P w K mg base Md t (m + 2)) (f : Addr) (cdv : Value) (A : Around) (outer : List PySem.Env) (s : Shared) (H : Hp) (E : XK) (hr : Room (m + 2) (A.deeper (envOfC "law" (defScope s_law) s.heap.objs.size f cdv))) :
    SS (cxOf CX0 P w K mg base N_law "law" (defScope s_law) f cdv A outer s H E).nox W0 ((defBody s_law).getD 13 (.Pass ⟨0, 0, 0, 0⟩)) (l_13 Md.C_Reader t) :=
    (SS.ifS (ST.tnot (ST.truth (SE.call ih.law_like hr Md.law_like.gl Md.law_like.fn.kp Md.law_like.bd passZ (fun _ _ _ _ _ h => h.elim) rfl (SA.cons (SE.nm (pv 8)) (SA.cons (SE.lst (SA.cons SE.int (SA.cons SE.int (SA.cons SE.non (SA.cons SE.int SA.nil))))) SA.nil)) (mALen _ (mALen _ mALen0)))))
    (SSs.one (SS.ret SE.bl))
    SSs.nil)
end
end K80

set_option Elab.async false
set_option linter.all false
set_option maxRecDepth 100000
namespace K80
open PySem Pu
def isSign (i : Int) : Bool := (decide (32 ≤ i) && decide (i ≤ 126)) || i == 10
variable {C : Addr} {t : Tb}
theorem is_sign_ok (i : Int) : (stepT C t).is_sign [.val (.int i)] = .ok (.val (.bl (isSign i)), [none]) := by
  by_cases h1 : 32 ≤ i <;> by_cases h2 : i ≤ 126 <;> simp [Res.bind, mSeq, mNx, mRet, mRetNm, mRetN, mIfS, mNever, mAsg, setR, setV, setO, isPar, mAug, mDrop, mAppend, mExtend, ownL?, ownO, setC, RV.lst?, mSrc, itemsOf, mOp, RV.fz, OB.pv, mBor, mNm, mK, mNew, mBin, mUn, deref, liftO, mANil, mACons, mApp, derefs, vals?, RV.val?, small, mTup, mLst, mCall, lone, avsOf, avOf, backs, findArg, back1, RV.bor?, mTest, RV.bl?, mTruth, truth, mTNot, mTAnd, mTOr, mAndV, mOrV, mNotV, mIf, mChain, mgNm, mAsgT, mgTup, mgCons, mgNil, iop, pAdd, pSub, pMul, pDiv, pMod, pNeg, pLt, pLe, pGt, pGe, pEq, pNe, pAddI, pMulS, pIs, pIsNot, isP, pIn, pNotIn, inP, flatP, cmpOk, cmpOks, eqP, eqPs, pIx, fLen, fAbs, fInt, fMin2, fMax2, fOrd, fList, fTuple, fIsi, tyName, AV.slot, runF, Res.nox, RV.out, outsOf, SV.lent, range1e, range2e, range3e, range4e, isi_NoneType_int, isi_NoneType_bool, isi_NoneType_str, isi_NoneType_tuple, isi_NoneType_list, isi_bool_int, isi_bool_bool, isi_bool_str, isi_bool_tuple, isi_bool_list, isi_int_int, isi_int_bool, isi_int_str, isi_int_tuple, isi_int_list, isi_str_int, isi_str_bool, isi_str_str, isi_str_tuple, isi_str_list, isi_tuple_int, isi_tuple_bool, isi_tuple_str, isi_tuple_tuple, isi_tuple_list, isi_list_int, isi_list_bool, isi_list_str, isi_list_tuple, isi_list_list, isi_dict_int, isi_dict_bool, isi_dict_str, isi_dict_tuple, isi_dict_list, stepT, b_is_sign, isSign, h1, h2]

/-! ### digits -/
def dg (k : Nat) : List Int := if 127 < k then ((k % 128 + 128 : Nat) : Int) :: dg (k / 128) else [(k : Int)]
termination_by k
decreasing_by omega
theorem dg_big {k : Nat} (h : 127 < k) : dg k = ((k % 128 + 128 : Nat) : Int) :: dg (k / 128) := by rw [dg, if_pos h]
theorem dg_small {k : Nat} (h : ¬ 127 < k) : dg k = [(k : Int)] := by rw [dg, if_neg h]
theorem dg_len : ∀ (n k : Nat), k < 128 ^ n → (dg k).length ≤ n + 1
  | 0, k, h => by
    have : k = 0 := by simpa using h
    subst this
    rw [dg_small (by omega)]
    simp
  | n + 1, k, h => by
    by_cases hk : 127 < k
    · rw [dg_big hk, List.length_cons]
      have := dg_len n (k / 128) (by rw [Nat.pow_succ] at h; omega)
      omega
    · rw [dg_small hk]
      simp
theorem log128 : Nat.log2 128 < 9000 := by decide
def wDig : MT := mTest (mBin pGt (mBor 0) (mK (.int 127)))
def bDig : MS := mSeq (mAppend 1 (mBin pAdd (mBin pMod (mApp fInt (mACons (mBor 0) mANil)) (mK (.int 128))) (mK (.int 128)))) (mAug 0 pDiv (mK (.int 128)))
theorem dig_loop : ∀ (n k : Nat) (r : List PV), k < 128 ^ n → r.length + n < 16777216 →
    ∃ (i : List Int) (l : Nat), dg k = i ++ [(l : Int)] ∧ whileM wDig bDig (n + 1) [some (.val (.int k)), some (.own (.lst r))] = .ok (.nx, [some (.val (.int l)), some (.own (.lst (r ++ i.map PV.int)))])
  | n, k, r, h, hr => by
    by_cases hk : 127 < k
    · cases n with
      | zero => simp at h; omega
      | succ n =>
        obtain ⟨i, l, e1, e2⟩ := dig_loop n (k / 128) (r ++ [.int ((k % 128 + 128 : Nat) : Int)]) (by rw [Nat.pow_succ] at h; omega) (by simp; omega)
        refine ⟨((k % 128 + 128 : Nat) : Int) :: i, l, by rw [dg_big hk, e1]; rfl, ?_⟩
        have c1 : (127 : Int) < (k : Int) := by omega
        have c2 : r.length < 16777216 := by omega
        rw [while_t (ρ1 := [some (.val (.int k)), some (.own (.lst r))]) (ρ2 := [some (.val (.int ((k / 128 : Nat) : Int))), some (.own (.lst (r ++ [.int ((k % 128 + 128 : Nat) : Int)])))]) (by simp [Res.bind, mSeq, mNx, mRet, mRetNm, mRetN, mIfS, mNever, mAsg, setR, setV, setO, isPar, mAug, mDrop, mAppend, mExtend, ownL?, ownO, setC, RV.lst?, mSrc, itemsOf, mOp, RV.fz, OB.pv, mBor, mNm, mK, mNew, mBin, mUn, deref, liftO, mANil, mACons, mApp, derefs, vals?, RV.val?, small, mTup, mLst, mCall, lone, avsOf, avOf, backs, findArg, back1, RV.bor?, mTest, RV.bl?, mTruth, truth, mTNot, mTAnd, mTOr, mAndV, mOrV, mNotV, mIf, mChain, mgNm, mAsgT, mgTup, mgCons, mgNil, iop, pAdd, pSub, pMul, pDiv, pMod, pNeg, pLt, pLe, pGt, pGe, pEq, pNe, pAddI, pMulS, pIs, pIsNot, isP, pIn, pNotIn, inP, flatP, cmpOk, cmpOks, eqP, eqPs, pIx, fLen, fAbs, fInt, fMin2, fMax2, fOrd, fList, fTuple, fIsi, tyName, AV.slot, runF, Res.nox, RV.out, outsOf, SV.lent, range1e, range2e, range3e, range4e, isi_NoneType_int, isi_NoneType_bool, isi_NoneType_str, isi_NoneType_tuple, isi_NoneType_list, isi_bool_int, isi_bool_bool, isi_bool_str, isi_bool_tuple, isi_bool_list, isi_int_int, isi_int_bool, isi_int_str, isi_int_tuple, isi_int_list, isi_str_int, isi_str_bool, isi_str_str, isi_str_tuple, isi_str_list, isi_tuple_int, isi_tuple_bool, isi_tuple_str, isi_tuple_tuple, isi_tuple_list, isi_list_int, isi_list_bool, isi_list_str, isi_list_tuple, isi_list_list, isi_dict_int, isi_dict_bool, isi_dict_str, isi_dict_tuple, isi_dict_list, wDig, c1]) (by simp [Res.bind, mSeq, mNx, mRet, mRetNm, mRetN, mIfS, mNever, mAsg, setR, setV, setO, isPar, mAug, mDrop, mAppend, mExtend, ownL?, ownO, setC, RV.lst?, mSrc, itemsOf, mOp, RV.fz, OB.pv, mBor, mNm, mK, mNew, mBin, mUn, deref, liftO, mANil, mACons, mApp, derefs, vals?, RV.val?, small, mTup, mLst, mCall, lone, avsOf, avOf, backs, findArg, back1, RV.bor?, mTest, RV.bl?, mTruth, truth, mTNot, mTAnd, mTOr, mAndV, mOrV, mNotV, mIf, mChain, mgNm, mAsgT, mgTup, mgCons, mgNil, iop, pAdd, pSub, pMul, pDiv, pMod, pNeg, pLt, pLe, pGt, pGe, pEq, pNe, pAddI, pMulS, pIs, pIsNot, isP, pIn, pNotIn, inP, flatP, cmpOk, cmpOks, eqP, eqPs, pIx, fLen, fAbs, fInt, fMin2, fMax2, fOrd, fList, fTuple, fIsi, tyName, AV.slot, runF, Res.nox, RV.out, outsOf, SV.lent, range1e, range2e, range3e, range4e, isi_NoneType_int, isi_NoneType_bool, isi_NoneType_str, isi_NoneType_tuple, isi_NoneType_list, isi_bool_int, isi_bool_bool, isi_bool_str, isi_bool_tuple, isi_bool_list, isi_int_int, isi_int_bool, isi_int_str, isi_int_tuple, isi_int_list, isi_str_int, isi_str_bool, isi_str_str, isi_str_tuple, isi_str_list, isi_tuple_int, isi_tuple_bool, isi_tuple_str, isi_tuple_tuple, isi_tuple_list, isi_list_int, isi_list_bool, isi_list_str, isi_list_tuple, isi_list_list, isi_dict_int, isi_dict_bool, isi_dict_str, isi_dict_tuple, isi_dict_list, bDig, c2, log128]), e2]
        simp
    · refine ⟨[], k, by rw [dg_small hk]; rfl, ?_⟩
      have c1 : ¬ (127 : Int) < (k : Int) := by omega
      rw [while_f (ρ1 := [some (.val (.int k)), some (.own (.lst r))]) (by simp [Res.bind, mSeq, mNx, mRet, mRetNm, mRetN, mIfS, mNever, mAsg, setR, setV, setO, isPar, mAug, mDrop, mAppend, mExtend, ownL?, ownO, setC, RV.lst?, mSrc, itemsOf, mOp, RV.fz, OB.pv, mBor, mNm, mK, mNew, mBin, mUn, deref, liftO, mANil, mACons, mApp, derefs, vals?, RV.val?, small, mTup, mLst, mCall, lone, avsOf, avOf, backs, findArg, back1, RV.bor?, mTest, RV.bl?, mTruth, truth, mTNot, mTAnd, mTOr, mAndV, mOrV, mNotV, mIf, mChain, mgNm, mAsgT, mgTup, mgCons, mgNil, iop, pAdd, pSub, pMul, pDiv, pMod, pNeg, pLt, pLe, pGt, pGe, pEq, pNe, pAddI, pMulS, pIs, pIsNot, isP, pIn, pNotIn, inP, flatP, cmpOk, cmpOks, eqP, eqPs, pIx, fLen, fAbs, fInt, fMin2, fMax2, fOrd, fList, fTuple, fIsi, tyName, AV.slot, runF, Res.nox, RV.out, outsOf, SV.lent, range1e, range2e, range3e, range4e, isi_NoneType_int, isi_NoneType_bool, isi_NoneType_str, isi_NoneType_tuple, isi_NoneType_list, isi_bool_int, isi_bool_bool, isi_bool_str, isi_bool_tuple, isi_bool_list, isi_int_int, isi_int_bool, isi_int_str, isi_int_tuple, isi_int_list, isi_str_int, isi_str_bool, isi_str_str, isi_str_tuple, isi_str_list, isi_tuple_int, isi_tuple_bool, isi_tuple_str, isi_tuple_tuple, isi_tuple_list, isi_list_int, isi_list_bool, isi_list_str, isi_list_tuple, isi_list_list, isi_dict_int, isi_dict_bool, isi_dict_str, isi_dict_tuple, isi_dict_list, wDig, c1])]
      simp
theorem digits_of_ok {k : Nat} (h : k < 128 ^ 999) : (stepT C t).digits_of [.val (.int k)] = .ok (.new (.lst ((dg k).map PV.int)), [none]) := by
  obtain ⟨i, l, e1, e2⟩ := dig_loop 999 k [] h (by simp)
  have hl : i.length ≤ 999 := by
    have := dg_len 999 k h
    rw [e1] at this
    simp at this
    omega
  have c : i.length < 16777216 := by omega
  refine run_rt (r := .new (.lst ((dg k).map PV.int))) (ρ1 := [some (.val (.int l)), none]) [some (.val (.int k)), none] rfl ?_ rfl
  refine (seq_nx (ρ1 := [some (.val (.int k)), some (.own (.lst []))]) (by simp [Res.bind, mSeq, mNx, mRet, mRetNm, mRetN, mIfS, mNever, mAsg, setR, setV, setO, isPar, mAug, mDrop, mAppend, mExtend, ownL?, ownO, setC, RV.lst?, mSrc, itemsOf, mOp, RV.fz, OB.pv, mBor, mNm, mK, mNew, mBin, mUn, deref, liftO, mANil, mACons, mApp, derefs, vals?, RV.val?, small, mTup, mLst, mCall, lone, avsOf, avOf, backs, findArg, back1, RV.bor?, mTest, RV.bl?, mTruth, truth, mTNot, mTAnd, mTOr, mAndV, mOrV, mNotV, mIf, mChain, mgNm, mAsgT, mgTup, mgCons, mgNil, iop, pAdd, pSub, pMul, pDiv, pMod, pNeg, pLt, pLe, pGt, pGe, pEq, pNe, pAddI, pMulS, pIs, pIsNot, isP, pIn, pNotIn, inP, flatP, cmpOk, cmpOks, eqP, eqPs, pIx, fLen, fAbs, fInt, fMin2, fMax2, fOrd, fList, fTuple, fIsi, tyName, AV.slot, runF, Res.nox, RV.out, outsOf, SV.lent, range1e, range2e, range3e, range4e, isi_NoneType_int, isi_NoneType_bool, isi_NoneType_str, isi_NoneType_tuple, isi_NoneType_list, isi_bool_int, isi_bool_bool, isi_bool_str, isi_bool_tuple, isi_bool_list, isi_int_int, isi_int_bool, isi_int_str, isi_int_tuple, isi_int_list, isi_str_int, isi_str_bool, isi_str_str, isi_str_tuple, isi_str_list, isi_tuple_int, isi_tuple_bool, isi_tuple_str, isi_tuple_tuple, isi_tuple_list, isi_list_int, isi_list_bool, isi_list_str, isi_list_tuple, isi_list_list, isi_dict_int, isi_dict_bool, isi_dict_str, isi_dict_tuple, isi_dict_list])).trans ?_
  refine (seq_nx e2).trans ?_
  simp [Res.bind, mSeq, mNx, mRet, mRetNm, mRetN, mIfS, mNever, mAsg, setR, setV, setO, isPar, mAug, mDrop, mAppend, mExtend, ownL?, ownO, setC, RV.lst?, mSrc, itemsOf, mOp, RV.fz, OB.pv, mBor, mNm, mK, mNew, mBin, mUn, deref, liftO, mANil, mACons, mApp, derefs, vals?, RV.val?, small, mTup, mLst, mCall, lone, avsOf, avOf, backs, findArg, back1, RV.bor?, mTest, RV.bl?, mTruth, truth, mTNot, mTAnd, mTOr, mAndV, mOrV, mNotV, mIf, mChain, mgNm, mAsgT, mgTup, mgCons, mgNil, iop, pAdd, pSub, pMul, pDiv, pMod, pNeg, pLt, pLe, pGt, pGe, pEq, pNe, pAddI, pMulS, pIs, pIsNot, isP, pIn, pNotIn, inP, flatP, cmpOk, cmpOks, eqP, eqPs, pIx, fLen, fAbs, fInt, fMin2, fMax2, fOrd, fList, fTuple, fIsi, tyName, AV.slot, runF, Res.nox, RV.out, outsOf, SV.lent, range1e, range2e, range3e, range4e, isi_NoneType_int, isi_NoneType_bool, isi_NoneType_str, isi_NoneType_tuple, isi_NoneType_list, isi_bool_int, isi_bool_bool, isi_bool_str, isi_bool_tuple, isi_bool_list, isi_int_int, isi_int_bool, isi_int_str, isi_int_tuple, isi_int_list, isi_str_int, isi_str_bool, isi_str_str, isi_str_tuple, isi_str_list, isi_tuple_int, isi_tuple_bool, isi_tuple_str, isi_tuple_tuple, isi_tuple_list, isi_list_int, isi_list_bool, isi_list_str, isi_list_tuple, isi_list_list, isi_dict_int, isi_dict_bool, isi_dict_str, isi_dict_tuple, isi_dict_list, c, e1]

/-! ### the law's digits -/
abbrev bLD : MS := mSeq (mPar [3, 0] (mFCons (mBin pMod (mApp fInt (mACons (mBor 0) mANil)) (mK (.int 128))) (mFCons (mBin pDiv (mBor 0) (mK (.int 128))) mFNil)))
    (mSeq (mIfS (mTest (mBin pEq (mBor 0) (mK (.int 0)))) (mRet (mBin pAdd (mBor 1) (mLst (mACons (mNm 3) mANil)))) mNx)
    (mAsg 1 (mBin pAdd (mBor 1) (mLst (mACons (mBin pAdd (mBor 3) (mK (.int 128))) mANil)))))
theorem ld_par (k : Nat) (r : List PV) (x : PV) (ov : Option PV) : mPar [3, 0] (mFCons (mBin pMod (mApp fInt (mACons (mBor 0) mANil)) (mK (.int 128))) (mFCons (mBin pDiv (mBor 0) (mK (.int 128))) mFNil)) [some (.val (.int k)), some (.own (.lst r)), some (.val x), ov.map SV.val] =
    .ok (.nx, [some (.val (.int ((k / 128 : Nat) : Int))), some (.own (.lst r)), some (.val x), some (.val (.int ((k % 128 : Nat) : Int)))]) := by
  cases ov <;> simp [Res.bind, mSeq, mNx, mRet, mRetNm, mRetN, mIfS, mNever, mAsg, setR, setV, setO, isPar, mAug, mDrop, mAppend, mExtend, ownL?, ownO, setC, RV.lst?, mSrc, itemsOf, mOp, RV.fz, OB.pv, mBor, mNm, mK, mNew, mBin, mUn, deref, liftO, mANil, mACons, mApp, derefs, vals?, RV.val?, small, mTup, mLst, mCall, lone, avsOf, avOf, backs, findArg, back1, RV.bor?, mTest, RV.bl?, mTruth, truth, mTNot, mTAnd, mTOr, mAndV, mOrV, mNotV, mIf, mChain, mgNm, mAsgT, mgTup, mgCons, mgNil, iop, pAdd, pSub, pMul, pDiv, pMod, pNeg, pLt, pLe, pGt, pGe, pEq, pNe, pAddI, pMulS, pIs, pIsNot, isP, pIn, pNotIn, inP, flatP, cmpOk, cmpOks, eqP, eqPs, pIx, fLen, fAbs, fInt, fMin2, fMax2, fOrd, fList, fTuple, fIsi, tyName, AV.slot, runF, Res.nox, RV.out, outsOf, SV.lent, range1e, range2e, range3e, range4e, isi_NoneType_int, isi_NoneType_bool, isi_NoneType_str, isi_NoneType_tuple, isi_NoneType_list, isi_bool_int, isi_bool_bool, isi_bool_str, isi_bool_tuple, isi_bool_list, isi_int_int, isi_int_bool, isi_int_str, isi_int_tuple, isi_int_list, isi_str_int, isi_str_bool, isi_str_str, isi_str_tuple, isi_str_list, isi_tuple_int, isi_tuple_bool, isi_tuple_str, isi_tuple_tuple, isi_tuple_list, isi_list_int, isi_list_bool, isi_list_str, isi_list_tuple, isi_list_list, isi_dict_int, isi_dict_bool, isi_dict_str, isi_dict_tuple, isi_dict_list, mPar, mFCons, mFNil, setRs, log128]
theorem ld_loop : ∀ (xs : List PV) (k : Nat) (r : List PV) (tv ov : Option PV), k < 128 ^ xs.length → 0 < xs.length → r.length + xs.length < 16777216 →
    ∃ ρ, forM (mgNm 2) bLD xs [some (.val (.int k)), some (.own (.lst r)), tv.map SV.val, ov.map SV.val] = .ok (.rt (.new (.lst (r ++ (dg k).map PV.int))), ρ) ∧ ∃ s, ρ[0]? = some (some (.val s))
  | [], k, r, tv, ov, h, h0, hr => by simp at h0
  | x :: xs, k, r, tv, ov, h, h0, hr => by
    have hg : mgNm 2 x [some (.val (.int k)), some (.own (.lst r)), tv.map SV.val, ov.map SV.val] = some [some (.val (.int k)), some (.own (.lst r)), some (.val x), ov.map SV.val] := by
      cases tv <;> simp [Res.bind, mSeq, mNx, mRet, mRetNm, mRetN, mIfS, mNever, mAsg, setR, setV, setO, isPar, mAug, mDrop, mAppend, mExtend, ownL?, ownO, setC, RV.lst?, mSrc, itemsOf, mOp, RV.fz, OB.pv, mBor, mNm, mK, mNew, mBin, mUn, deref, liftO, mANil, mACons, mApp, derefs, vals?, RV.val?, small, mTup, mLst, mCall, lone, avsOf, avOf, backs, findArg, back1, RV.bor?, mTest, RV.bl?, mTruth, truth, mTNot, mTAnd, mTOr, mAndV, mOrV, mNotV, mIf, mChain, mgNm, mAsgT, mgTup, mgCons, mgNil, iop, pAdd, pSub, pMul, pDiv, pMod, pNeg, pLt, pLe, pGt, pGe, pEq, pNe, pAddI, pMulS, pIs, pIsNot, isP, pIn, pNotIn, inP, flatP, cmpOk, cmpOks, eqP, eqPs, pIx, fLen, fAbs, fInt, fMin2, fMax2, fOrd, fList, fTuple, fIsi, tyName, AV.slot, runF, Res.nox, RV.out, outsOf, SV.lent, range1e, range2e, range3e, range4e, isi_NoneType_int, isi_NoneType_bool, isi_NoneType_str, isi_NoneType_tuple, isi_NoneType_list, isi_bool_int, isi_bool_bool, isi_bool_str, isi_bool_tuple, isi_bool_list, isi_int_int, isi_int_bool, isi_int_str, isi_int_tuple, isi_int_list, isi_str_int, isi_str_bool, isi_str_str, isi_str_tuple, isi_str_list, isi_tuple_int, isi_tuple_bool, isi_tuple_str, isi_tuple_tuple, isi_tuple_list, isi_list_int, isi_list_bool, isi_list_str, isi_list_tuple, isi_list_list, isi_dict_int, isi_dict_bool, isi_dict_str, isi_dict_tuple, isi_dict_list]
    rw [List.length_cons] at hr
    by_cases hk : 127 < k
    · have hx : 0 < xs.length := by
        cases xs with
        | nil => simp at h; omega
        | cons _ _ => simp
      have c1 : ¬ (((k / 128 : Nat) : Int) = 0) := by omega
      have c2 : r.length + 1 ≤ 16777216 := by omega
      have c1' : ¬ ((k : Int) / 128 = 0) := by omega
      obtain ⟨ρ, e, s, es⟩ := ld_loop xs (k / 128) (r ++ [.int ((k % 128 + 128 : Nat) : Int)]) (some x) (some (.int ((k % 128 : Nat) : Int))) (by rw [List.length_cons, Nat.pow_succ] at h; omega) hx (by simp; omega)
      refine ⟨ρ, ?_, s, es⟩
      rw [for_cons hg (ρ2 := [some (.val (.int ((k / 128 : Nat) : Int))), some (.own (.lst (r ++ [.int ((k % 128 + 128 : Nat) : Int)]))), some (.val x), some (.val (.int ((k % 128 : Nat) : Int)))]) ?_]
      · show forM _ _ xs [_, _, (some x).map SV.val, (some (PV.int ((k % 128 : Nat) : Int))).map SV.val] = _
        rw [e, dg_big hk]
        simp
      · refine (seq_nx (ld_par k r x ov)).trans ?_
        simp [Res.bind, mSeq, mNx, mRet, mRetNm, mRetN, mIfS, mNever, mAsg, setR, setV, setO, isPar, mAug, mDrop, mAppend, mExtend, ownL?, ownO, setC, RV.lst?, mSrc, itemsOf, mOp, RV.fz, OB.pv, mBor, mNm, mK, mNew, mBin, mUn, deref, liftO, mANil, mACons, mApp, derefs, vals?, RV.val?, small, mTup, mLst, mCall, lone, avsOf, avOf, backs, findArg, back1, RV.bor?, mTest, RV.bl?, mTruth, truth, mTNot, mTAnd, mTOr, mAndV, mOrV, mNotV, mIf, mChain, mgNm, mAsgT, mgTup, mgCons, mgNil, iop, pAdd, pSub, pMul, pDiv, pMod, pNeg, pLt, pLe, pGt, pGe, pEq, pNe, pAddI, pMulS, pIs, pIsNot, isP, pIn, pNotIn, inP, flatP, cmpOk, cmpOks, eqP, eqPs, pIx, fLen, fAbs, fInt, fMin2, fMax2, fOrd, fList, fTuple, fIsi, tyName, AV.slot, runF, Res.nox, RV.out, outsOf, SV.lent, range1e, range2e, range3e, range4e, isi_NoneType_int, isi_NoneType_bool, isi_NoneType_str, isi_NoneType_tuple, isi_NoneType_list, isi_bool_int, isi_bool_bool, isi_bool_str, isi_bool_tuple, isi_bool_list, isi_int_int, isi_int_bool, isi_int_str, isi_int_tuple, isi_int_list, isi_str_int, isi_str_bool, isi_str_str, isi_str_tuple, isi_str_list, isi_tuple_int, isi_tuple_bool, isi_tuple_str, isi_tuple_tuple, isi_tuple_list, isi_list_int, isi_list_bool, isi_list_str, isi_list_tuple, isi_list_list, isi_dict_int, isi_dict_bool, isi_dict_str, isi_dict_tuple, isi_dict_list, c1', szOk, c2]
    · have c1 : (k : Int) / 128 = 0 := by omega
      have c2 : r.length + 1 ≤ 16777216 := by omega
      have c3 : (k : Int) % 128 = k := by omega
      refine ⟨[some (.val (.int ((k / 128 : Nat) : Int))), some (.own (.lst r)), some (.val x), some (.val (.int ((k % 128 : Nat) : Int)))], ?_, _, rfl⟩
      rw [for_rt hg (r := .new (.lst (r ++ (dg k).map PV.int))) (ρ2 := [some (.val (.int ((k / 128 : Nat) : Int))), some (.own (.lst r)), some (.val x), some (.val (.int ((k % 128 : Nat) : Int)))])]
      refine (seq_nx (ld_par k r x ov)).trans ?_
      rw [dg_small hk]
      simp [Res.bind, mSeq, mNx, mRet, mRetNm, mRetN, mIfS, mNever, mAsg, setR, setV, setO, isPar, mAug, mDrop, mAppend, mExtend, ownL?, ownO, setC, RV.lst?, mSrc, itemsOf, mOp, RV.fz, OB.pv, mBor, mNm, mK, mNew, mBin, mUn, deref, liftO, mANil, mACons, mApp, derefs, vals?, RV.val?, small, mTup, mLst, mCall, lone, avsOf, avOf, backs, findArg, back1, RV.bor?, mTest, RV.bl?, mTruth, truth, mTNot, mTAnd, mTOr, mAndV, mOrV, mNotV, mIf, mChain, mgNm, mAsgT, mgTup, mgCons, mgNil, iop, pAdd, pSub, pMul, pDiv, pMod, pNeg, pLt, pLe, pGt, pGe, pEq, pNe, pAddI, pMulS, pIs, pIsNot, isP, pIn, pNotIn, inP, flatP, cmpOk, cmpOks, eqP, eqPs, pIx, fLen, fAbs, fInt, fMin2, fMax2, fOrd, fList, fTuple, fIsi, tyName, AV.slot, runF, Res.nox, RV.out, outsOf, SV.lent, range1e, range2e, range3e, range4e, isi_NoneType_int, isi_NoneType_bool, isi_NoneType_str, isi_NoneType_tuple, isi_NoneType_list, isi_bool_int, isi_bool_bool, isi_bool_str, isi_bool_tuple, isi_bool_list, isi_int_int, isi_int_bool, isi_int_str, isi_int_tuple, isi_int_list, isi_str_int, isi_str_bool, isi_str_str, isi_str_tuple, isi_str_list, isi_tuple_int, isi_tuple_bool, isi_tuple_str, isi_tuple_tuple, isi_tuple_list, isi_list_int, isi_list_bool, isi_list_str, isi_list_tuple, isi_list_list, isi_dict_int, isi_dict_bool, isi_dict_str, isi_dict_tuple, isi_dict_list, c1, c3, szOk, c2]
theorem rng960 : ∃ xs, mRng rng1 (mACons (mK (.int 960)) mANil) = (fun ρ => .ok (xs, ρ)) ∧ xs.length = 960 := by
  refine ⟨rangeOf 0 960, ?_, ?_⟩
  · funext ρ
    simp [Res.bind, mSeq, mNx, mRet, mRetNm, mRetN, mIfS, mNever, mAsg, setR, setV, setO, isPar, mAug, mDrop, mAppend, mExtend, ownL?, ownO, setC, RV.lst?, mSrc, itemsOf, mOp, RV.fz, OB.pv, mBor, mNm, mK, mNew, mBin, mUn, deref, liftO, mANil, mACons, mApp, derefs, vals?, RV.val?, small, mTup, mLst, mCall, lone, avsOf, avOf, backs, findArg, back1, RV.bor?, mTest, RV.bl?, mTruth, truth, mTNot, mTAnd, mTOr, mAndV, mOrV, mNotV, mIf, mChain, mgNm, mAsgT, mgTup, mgCons, mgNil, iop, pAdd, pSub, pMul, pDiv, pMod, pNeg, pLt, pLe, pGt, pGe, pEq, pNe, pAddI, pMulS, pIs, pIsNot, isP, pIn, pNotIn, inP, flatP, cmpOk, cmpOks, eqP, eqPs, pIx, fLen, fAbs, fInt, fMin2, fMax2, fOrd, fList, fTuple, fIsi, tyName, AV.slot, runF, Res.nox, RV.out, outsOf, SV.lent, range1e, range2e, range3e, range4e, isi_NoneType_int, isi_NoneType_bool, isi_NoneType_str, isi_NoneType_tuple, isi_NoneType_list, isi_bool_int, isi_bool_bool, isi_bool_str, isi_bool_tuple, isi_bool_list, isi_int_int, isi_int_bool, isi_int_str, isi_int_tuple, isi_int_list, isi_str_int, isi_str_bool, isi_str_str, isi_str_tuple, isi_str_list, isi_tuple_int, isi_tuple_bool, isi_tuple_str, isi_tuple_tuple, isi_tuple_list, isi_list_int, isi_list_bool, isi_list_str, isi_list_tuple, isi_list_list, isi_dict_int, isi_dict_bool, isi_dict_str, isi_dict_tuple, isi_dict_list, mRng, rng1, b62]
  · simp [rangeOf]
theorem law_digits_ok {k : Nat} (h : k < 128 ^ 960) : (stepT C t).law_digits [.val (.int k)] = .ok (.new (.lst ((dg k).map PV.int)), [none]) := by
  obtain ⟨xs, e1, e2⟩ := rng960
  obtain ⟨ρ, e, s, es⟩ := ld_loop xs k [] none none (by rw [e2]; exact h) (by omega) (by simp [e2])
  have eo : outsOf 1 ρ = [none] := by
    simp [outsOf, List.range_succ, es, SV.lent]
  refine (run_rt (r := .new (.lst ((dg k).map PV.int))) (ρ1 := ρ) [some (.val (.int k)), none, none, none] rfl ?_ rfl).trans (by rw [show ([AV.val (PV.int k)] : List AV).length = 1 from rfl, eo])
  refine (seq_nx (ρ1 := [some (.val (.int k)), some (.own (.lst [])), none, none]) (by simp [Res.bind, mSeq, mNx, mRet, mRetNm, mRetN, mIfS, mNever, mAsg, setR, setV, setO, isPar, mAug, mDrop, mAppend, mExtend, ownL?, ownO, setC, RV.lst?, mSrc, itemsOf, mOp, RV.fz, OB.pv, mBor, mNm, mK, mNew, mBin, mUn, deref, liftO, mANil, mACons, mApp, derefs, vals?, RV.val?, small, mTup, mLst, mCall, lone, avsOf, avOf, backs, findArg, back1, RV.bor?, mTest, RV.bl?, mTruth, truth, mTNot, mTAnd, mTOr, mAndV, mOrV, mNotV, mIf, mChain, mgNm, mAsgT, mgTup, mgCons, mgNil, iop, pAdd, pSub, pMul, pDiv, pMod, pNeg, pLt, pLe, pGt, pGe, pEq, pNe, pAddI, pMulS, pIs, pIsNot, isP, pIn, pNotIn, inP, flatP, cmpOk, cmpOks, eqP, eqPs, pIx, fLen, fAbs, fInt, fMin2, fMax2, fOrd, fList, fTuple, fIsi, tyName, AV.slot, runF, Res.nox, RV.out, outsOf, SV.lent, range1e, range2e, range3e, range4e, isi_NoneType_int, isi_NoneType_bool, isi_NoneType_str, isi_NoneType_tuple, isi_NoneType_list, isi_bool_int, isi_bool_bool, isi_bool_str, isi_bool_tuple, isi_bool_list, isi_int_int, isi_int_bool, isi_int_str, isi_int_tuple, isi_int_list, isi_str_int, isi_str_bool, isi_str_str, isi_str_tuple, isi_str_list, isi_tuple_int, isi_tuple_bool, isi_tuple_str, isi_tuple_tuple, isi_tuple_list, isi_list_int, isi_list_bool, isi_list_str, isi_list_tuple, isi_list_list, isi_dict_int, isi_dict_bool, isi_dict_str, isi_dict_tuple, isi_dict_list])).trans ?_
  refine (seq_rt (r := .new (.lst ((dg k).map PV.int))) (ρ1 := ρ) ?_).trans rfl
  rw [mfor_of (xs := xs) (ρ1 := [some (.val (.int k)), some (.own (.lst [])), none, none]) (by rw [e1])]
  exact e

/-! ### octets -/
mutual
def enc : PV → List Int
  | .non => [0]
  | .bl b => [if b then 5 else 6]
  | .int i => if 0 ≤ i then 1 :: dg i.toNat else 2 :: dg (-i - 1).toNat
  | .str x => 3 :: (dg x.length ++ x.cps.toList.map fun (c : Nat) => (c : Int))
  | .tup xs => 4 :: (dg xs.length ++ encs xs)
  | _ => []
def encs : List PV → List Int
  | [] => []
  | x :: xs => enc x ++ encs xs
end
mutual
/-- a value that has octets, tuples at most n deep -/
def okV : Nat → PV → Bool
  | _, .non => true
  | _, .bl _ => true
  | _, .int i => decide (-(128 ^ 950) ≤ i) && decide (i < 128 ^ 950)
  | _, .str x => decide (x.length ≤ 20000) && x.cps.toList.all fun (c : Nat) => isSign (c : Int)
  | n + 1, .tup xs => decide (xs.length ≤ 50000) && okVs n xs
  | _, _ => false
def okVs : Nat → List PV → Bool
  | _, [] => true
  | n, x :: xs => okV n x && okVs n xs
end
end K80

set_option Elab.async false
set_option linter.all false
set_option maxRecDepth 100000
set_option exponentiation.threshold 100000
namespace K80
open PySem Pu
variable {C : Addr} {t : Tb}
theorem szOk_of {n : Nat} (h : n ≤ 16777216) : szOk n = true := decide_eq_true h
theorem str_items (x : Str) : itemsOf (.str x) = some (x.cps.toList.map fun c => .str ⟨#[c]⟩) := rfl
def ords (x : Str) : List Int := x.cps.toList.map fun (c : Nat) => (c : Int)
theorem ord_lc (x : Str) (h : x.length ≤ 16777216) (a b : Option SV) : mLc [3] (mSrc (mNm 0)) (mgNm 3) mYes (mApp fOrd (mACons (mBor 3) mANil)) [some (.val (.str x)), a, b, none] =
    .ok (.new (.lst ((ords x).map PV.int)), [some (.val (.str x)), a, b, none]) := by
  have hz : (x.cps.toList.map fun c => PV.str ⟨#[c]⟩).length ≤ 16777216 := by
    simpa [Str.length] using h
  rw [mlc_of (ρ1 := [some (.val (.str x)), a, b, none]) (ρ2 := [some (.val (.str x)), a, b, none]) (ys := (ords x).map PV.int) (by simp [Res.bind, mSeq, mNx, mRet, mRetNm, mRetN, mIfS, mNever, mAsg, setR, setV, setO, isPar, mAug, mDrop, mAppend, mExtend, ownL?, ownO, setC, RV.lst?, mSrc, itemsOf, mOp, RV.fz, OB.pv, mBor, mNm, mK, mNew, mBin, mUn, deref, liftO, mANil, mACons, mApp, derefs, vals?, RV.val?, small, mTup, mLst, mCall, lone, avsOf, avOf, backs, findArg, back1, RV.bor?, mTest, RV.bl?, mTruth, truth, mTNot, mTAnd, mTOr, mAndV, mOrV, mNotV, mIf, mChain, mgNm, mAsgT, mgTup, mgCons, mgNil, iop, pAdd, pSub, pMul, pDiv, pMod, pNeg, pLt, pLe, pGt, pGe, pEq, pNe, pAddI, pMulS, pIs, pIsNot, isP, pIn, pNotIn, inP, flatP, cmpOk, cmpOks, eqP, eqPs, pIx, fLen, fAbs, fInt, fMin2, fMax2, fOrd, fList, fTuple, fIsi, tyName, AV.slot, runF, Res.nox, RV.out, outsOf, SV.lent, range1e, range2e, range3e, range4e, isi_NoneType_int, isi_NoneType_bool, isi_NoneType_str, isi_NoneType_tuple, isi_NoneType_list, isi_bool_int, isi_bool_bool, isi_bool_str, isi_bool_tuple, isi_bool_list, isi_int_int, isi_int_bool, isi_int_str, isi_int_tuple, isi_int_list, isi_str_int, isi_str_bool, isi_str_str, isi_str_tuple, isi_str_list, isi_tuple_int, isi_tuple_bool, isi_tuple_str, isi_tuple_tuple, isi_tuple_list, isi_list_int, isi_list_bool, isi_list_str, isi_list_tuple, isi_list_list, isi_dict_int, isi_dict_bool, isi_dict_str, isi_dict_tuple, isi_dict_list, str_items]) hz ?_]
  · simp [restoreE, keepV]
  · have e : wipeE [some (.val (.str x)), a, b, none] [3] = [some (.val (.str x)), a, b, none] := by simp [wipeE]
    rw [e]
    have key : ∀ l : List Nat, lcM [3] (mgNm 3) mYes (mApp fOrd (mACons (mBor 3) mANil)) (l.map fun c => PV.str ⟨#[c]⟩) [some (.val (.str x)), a, b, none] = .ok ((l.map fun (c : Nat) => (c : Int)).map PV.int, [some (.val (.str x)), a, b, none]) := by
      intro l
      induction l with
      | nil => rfl
      | cons c l ih =>
        rw [List.map_cons, lc_cons (ρ1 := [some (.val (.str x)), a, b, some (.val (.str ⟨#[c]⟩))]) (ρ2 := [some (.val (.str x)), a, b, some (.val (.str ⟨#[c]⟩))]) (ρ3 := [some (.val (.str x)), a, b, some (.val (.str ⟨#[c]⟩))]) (y := .int c) (by simp [Res.bind, mSeq, mNx, mRet, mRetNm, mRetN, mIfS, mNever, mAsg, setR, setV, setO, isPar, mAug, mDrop, mAppend, mExtend, ownL?, ownO, setC, RV.lst?, mSrc, itemsOf, mOp, RV.fz, OB.pv, mBor, mNm, mK, mNew, mBin, mUn, deref, liftO, mANil, mACons, mApp, derefs, vals?, RV.val?, small, mTup, mLst, mCall, lone, avsOf, avOf, backs, findArg, back1, RV.bor?, mTest, RV.bl?, mTruth, truth, mTNot, mTAnd, mTOr, mAndV, mOrV, mNotV, mIf, mChain, mgNm, mAsgT, mgTup, mgCons, mgNil, iop, pAdd, pSub, pMul, pDiv, pMod, pNeg, pLt, pLe, pGt, pGe, pEq, pNe, pAddI, pMulS, pIs, pIsNot, isP, pIn, pNotIn, inP, flatP, cmpOk, cmpOks, eqP, eqPs, pIx, fLen, fAbs, fInt, fMin2, fMax2, fOrd, fList, fTuple, fIsi, tyName, AV.slot, runF, Res.nox, RV.out, outsOf, SV.lent, range1e, range2e, range3e, range4e, isi_NoneType_int, isi_NoneType_bool, isi_NoneType_str, isi_NoneType_tuple, isi_NoneType_list, isi_bool_int, isi_bool_bool, isi_bool_str, isi_bool_tuple, isi_bool_list, isi_int_int, isi_int_bool, isi_int_str, isi_int_tuple, isi_int_list, isi_str_int, isi_str_bool, isi_str_str, isi_str_tuple, isi_str_list, isi_tuple_int, isi_tuple_bool, isi_tuple_str, isi_tuple_tuple, isi_tuple_list, isi_list_int, isi_list_bool, isi_list_str, isi_list_tuple, isi_list_list, isi_dict_int, isi_dict_bool, isi_dict_str, isi_dict_tuple, isi_dict_list]) rfl (by simp [Res.bind, mSeq, mNx, mRet, mRetNm, mRetN, mIfS, mNever, mAsg, setR, setV, setO, isPar, mAug, mDrop, mAppend, mExtend, ownL?, ownO, setC, RV.lst?, mSrc, itemsOf, mOp, RV.fz, OB.pv, mBor, mNm, mK, mNew, mBin, mUn, deref, liftO, mANil, mACons, mApp, derefs, vals?, RV.val?, small, mTup, mLst, mCall, lone, avsOf, avOf, backs, findArg, back1, RV.bor?, mTest, RV.bl?, mTruth, truth, mTNot, mTAnd, mTOr, mAndV, mOrV, mNotV, mIf, mChain, mgNm, mAsgT, mgTup, mgCons, mgNil, iop, pAdd, pSub, pMul, pDiv, pMod, pNeg, pLt, pLe, pGt, pGe, pEq, pNe, pAddI, pMulS, pIs, pIsNot, isP, pIn, pNotIn, inP, flatP, cmpOk, cmpOks, eqP, eqPs, pIx, fLen, fAbs, fInt, fMin2, fMax2, fOrd, fList, fTuple, fIsi, tyName, AV.slot, runF, Res.nox, RV.out, outsOf, SV.lent, range1e, range2e, range3e, range4e, isi_NoneType_int, isi_NoneType_bool, isi_NoneType_str, isi_NoneType_tuple, isi_NoneType_list, isi_bool_int, isi_bool_bool, isi_bool_str, isi_bool_tuple, isi_bool_list, isi_int_int, isi_int_bool, isi_int_str, isi_int_tuple, isi_int_list, isi_str_int, isi_str_bool, isi_str_str, isi_str_tuple, isi_str_list, isi_tuple_int, isi_tuple_bool, isi_tuple_str, isi_tuple_tuple, isi_tuple_list, isi_list_int, isi_list_bool, isi_list_str, isi_list_tuple, isi_list_list, isi_dict_int, isi_dict_bool, isi_dict_str, isi_dict_tuple, isi_dict_list, Str.length])]
        have e2 : wipeE [some (.val (.str x)), a, b, some (.val (.str ⟨#[c]⟩))] [3] = [some (.val (.str x)), a, b, none] := by simp [wipeE]
        rw [e2, ih]
        rfl
    exact key _
theorem laid_loop (v : PV) : ∀ (xs : List PV) (r : List Int) (tv : Option PV), (∀ x ∈ xs, t.laid [.val x] = .ok (.new (.lst ((enc x).map PV.int)), [none])) → r.length + (encs xs).length ≤ 16777216 →
    ∃ tv' : Option PV, Pu.forM (mgNm 2) (mExtend 1 (mCall t.laid (mACons (mNm 2) mANil))) xs [some (.val v), some (.own (.lst (r.map PV.int))), tv.map SV.val, none] = .ok (.nx, [some (.val v), some (.own (.lst ((r ++ encs xs).map PV.int))), tv'.map SV.val, none])
  | [], r, tv, _, _ => ⟨tv, by simp [Pu.forM, encs]⟩
  | x :: xs, r, tv, h, hz => by
    have hx := h x (List.mem_cons_self ..)
    unfold encs at hz
    rw [List.length_append] at hz
    obtain ⟨tv', e⟩ := laid_loop v xs (r ++ enc x) (some x) (fun y hy => h y (List.mem_cons_of_mem _ hy)) (by rw [List.length_append]; omega)
    refine ⟨tv', ?_⟩
    have c : r.length + (enc x).length ≤ 16777216 := by omega
    rw [for_cons (ρ1 := [some (.val v), some (.own (.lst (r.map PV.int))), some (.val x), none]) (ρ2 := [some (.val v), some (.own (.lst ((r ++ enc x).map PV.int))), some (.val x), none]) (by cases tv <;> simp [Res.bind, mSeq, mNx, mRet, mRetNm, mRetN, mIfS, mNever, mAsg, setR, setV, setO, isPar, mAug, mDrop, mAppend, mExtend, ownL?, ownO, setC, RV.lst?, mSrc, itemsOf, mOp, RV.fz, OB.pv, mBor, mNm, mK, mNew, mBin, mUn, deref, liftO, mANil, mACons, mApp, derefs, vals?, RV.val?, small, mTup, mLst, mCall, lone, avsOf, avOf, backs, findArg, back1, RV.bor?, mTest, RV.bl?, mTruth, truth, mTNot, mTAnd, mTOr, mAndV, mOrV, mNotV, mIf, mChain, mgNm, mAsgT, mgTup, mgCons, mgNil, iop, pAdd, pSub, pMul, pDiv, pMod, pNeg, pLt, pLe, pGt, pGe, pEq, pNe, pAddI, pMulS, pIs, pIsNot, isP, pIn, pNotIn, inP, flatP, cmpOk, cmpOks, eqP, eqPs, pIx, fLen, fAbs, fInt, fMin2, fMax2, fOrd, fList, fTuple, fIsi, tyName, AV.slot, runF, Res.nox, RV.out, outsOf, SV.lent, range1e, range2e, range3e, range4e, isi_NoneType_int, isi_NoneType_bool, isi_NoneType_str, isi_NoneType_tuple, isi_NoneType_list, isi_bool_int, isi_bool_bool, isi_bool_str, isi_bool_tuple, isi_bool_list, isi_int_int, isi_int_bool, isi_int_str, isi_int_tuple, isi_int_list, isi_str_int, isi_str_bool, isi_str_str, isi_str_tuple, isi_str_list, isi_tuple_int, isi_tuple_bool, isi_tuple_str, isi_tuple_tuple, isi_tuple_list, isi_list_int, isi_list_bool, isi_list_str, isi_list_tuple, isi_list_list, isi_dict_int, isi_dict_bool, isi_dict_str, isi_dict_tuple, isi_dict_list]) ?_]
    · rw [show encs (x :: xs) = enc x ++ encs xs from rfl, ← List.append_assoc]
      exact e
    · have e1 : mCall t.laid (mACons (mNm 2) mANil) [some (.val v), some (.own (.lst (r.map PV.int))), some (.val x), none] = .ok (.new (.lst ((enc x).map PV.int)), [some (.val v), some (.own (.lst (r.map PV.int))), some (.val x), none]) := call1 (p := x) (by simp [Res.bind, mSeq, mNx, mRet, mRetNm, mRetN, mIfS, mNever, mAsg, setR, setV, setO, isPar, mAug, mDrop, mAppend, mExtend, ownL?, ownO, setC, RV.lst?, mSrc, itemsOf, mOp, RV.fz, OB.pv, mBor, mNm, mK, mNew, mBin, mUn, deref, liftO, mANil, mACons, mApp, derefs, vals?, RV.val?, small, mTup, mLst, mCall, lone, avsOf, avOf, backs, findArg, back1, RV.bor?, mTest, RV.bl?, mTruth, truth, mTNot, mTAnd, mTOr, mAndV, mOrV, mNotV, mIf, mChain, mgNm, mAsgT, mgTup, mgCons, mgNil, iop, pAdd, pSub, pMul, pDiv, pMod, pNeg, pLt, pLe, pGt, pGe, pEq, pNe, pAddI, pMulS, pIs, pIsNot, isP, pIn, pNotIn, inP, flatP, cmpOk, cmpOks, eqP, eqPs, pIx, fLen, fAbs, fInt, fMin2, fMax2, fOrd, fList, fTuple, fIsi, tyName, AV.slot, runF, Res.nox, RV.out, outsOf, SV.lent, range1e, range2e, range3e, range4e, isi_NoneType_int, isi_NoneType_bool, isi_NoneType_str, isi_NoneType_tuple, isi_NoneType_list, isi_bool_int, isi_bool_bool, isi_bool_str, isi_bool_tuple, isi_bool_list, isi_int_int, isi_int_bool, isi_int_str, isi_int_tuple, isi_int_list, isi_str_int, isi_str_bool, isi_str_str, isi_str_tuple, isi_str_list, isi_tuple_int, isi_tuple_bool, isi_tuple_str, isi_tuple_tuple, isi_tuple_list, isi_list_int, isi_list_bool, isi_list_str, isi_list_tuple, isi_list_list, isi_dict_int, isi_dict_bool, isi_dict_str, isi_dict_tuple, isi_dict_list]) hx
      unfold mExtend mOp
      rw [e1]
      simp [RV.fz, OB.pv, ownL?, ownO, liftO, Res.bind, RV.lst?, szOk, c, setC]
theorem pow950 : (128 : Nat) ^ 950 < 128 ^ 960 := Nat.pow_lt_pow_right (by decide) (by decide)
theorem pow950' : (128 : Nat) ^ 950 < 128 ^ 999 := Nat.pow_lt_pow_right (by decide) (by decide)
/-- the digits' def of a table does as told -/
def DigOk (g : G) : Prop := ∀ k : Nat, k < 128 ^ 950 → g [.val (.int k)] = .ok (.new (.lst ((dg k).map PV.int)), [none])
theorem small950 : (50000 : Nat) < 128 ^ 950 := Nat.lt_of_lt_of_le (by decide : 50000 < 128 ^ 3) (Nat.pow_le_pow_right (by decide) (by decide))
theorem int950 {i : Int} (h : okV 0 (.int i) = true) : (0 ≤ i → i.toNat < 128 ^ 950) ∧ (¬ 0 ≤ i → (-i - 1).toNat < 128 ^ 950) := by
  unfold okV at h
  rw [Bool.and_eq_true] at h
  have h1 := of_decide_eq_true h.1
  have h2 := of_decide_eq_true h.2
  have e : ((128 ^ 950 : Nat) : Int) = 128 ^ 950 := by simp
  rw [← e] at h1 h2
  generalize (128 : Nat) ^ 950 = B at h1 h2 ⊢
  exact ⟨fun _ => by omega, fun _ => by omega⟩
theorem laid_step (hd : DigOk t.digits_of) : ∀ (n : Nat) (v : PV), okV n v = true → (enc v).length ≤ 16777216 → (∀ xs, v = .tup xs → ∀ x ∈ xs, t.laid [.val x] = .ok (.new (.lst ((enc x).map PV.int)), [none])) →
    (stepT C t).laid [.val v] = .ok (.new (.lst ((enc v).map PV.int)), [none]) := by
  intro n v ok hz hx
  cases v with
  | non => simp [Res.bind, mSeq, mNx, mRet, mRetNm, mRetN, mIfS, mNever, mAsg, setR, setV, setO, isPar, mAug, mDrop, mAppend, mExtend, ownL?, ownO, setC, RV.lst?, mSrc, itemsOf, mOp, RV.fz, OB.pv, mBor, mNm, mK, mNew, mBin, mUn, deref, liftO, mANil, mACons, mApp, derefs, vals?, RV.val?, small, mTup, mLst, mCall, lone, avsOf, avOf, backs, findArg, back1, RV.bor?, mTest, RV.bl?, mTruth, truth, mTNot, mTAnd, mTOr, mAndV, mOrV, mNotV, mIf, mChain, mgNm, mAsgT, mgTup, mgCons, mgNil, iop, pAdd, pSub, pMul, pDiv, pMod, pNeg, pLt, pLe, pGt, pGe, pEq, pNe, pAddI, pMulS, pIs, pIsNot, isP, pIn, pNotIn, inP, flatP, cmpOk, cmpOks, eqP, eqPs, pIx, fLen, fAbs, fInt, fMin2, fMax2, fOrd, fList, fTuple, fIsi, tyName, AV.slot, runF, Res.nox, RV.out, outsOf, SV.lent, range1e, range2e, range3e, range4e, isi_NoneType_int, isi_NoneType_bool, isi_NoneType_str, isi_NoneType_tuple, isi_NoneType_list, isi_bool_int, isi_bool_bool, isi_bool_str, isi_bool_tuple, isi_bool_list, isi_int_int, isi_int_bool, isi_int_str, isi_int_tuple, isi_int_list, isi_str_int, isi_str_bool, isi_str_str, isi_str_tuple, isi_str_list, isi_tuple_int, isi_tuple_bool, isi_tuple_str, isi_tuple_tuple, isi_tuple_list, isi_list_int, isi_list_bool, isi_list_str, isi_list_tuple, isi_list_list, isi_dict_int, isi_dict_bool, isi_dict_str, isi_dict_tuple, isi_dict_list, stepT, b_laid, enc]
  | bl b => cases b <;> simp [Res.bind, mSeq, mNx, mRet, mRetNm, mRetN, mIfS, mNever, mAsg, setR, setV, setO, isPar, mAug, mDrop, mAppend, mExtend, ownL?, ownO, setC, RV.lst?, mSrc, itemsOf, mOp, RV.fz, OB.pv, mBor, mNm, mK, mNew, mBin, mUn, deref, liftO, mANil, mACons, mApp, derefs, vals?, RV.val?, small, mTup, mLst, mCall, lone, avsOf, avOf, backs, findArg, back1, RV.bor?, mTest, RV.bl?, mTruth, truth, mTNot, mTAnd, mTOr, mAndV, mOrV, mNotV, mIf, mChain, mgNm, mAsgT, mgTup, mgCons, mgNil, iop, pAdd, pSub, pMul, pDiv, pMod, pNeg, pLt, pLe, pGt, pGe, pEq, pNe, pAddI, pMulS, pIs, pIsNot, isP, pIn, pNotIn, inP, flatP, cmpOk, cmpOks, eqP, eqPs, pIx, fLen, fAbs, fInt, fMin2, fMax2, fOrd, fList, fTuple, fIsi, tyName, AV.slot, runF, Res.nox, RV.out, outsOf, SV.lent, range1e, range2e, range3e, range4e, isi_NoneType_int, isi_NoneType_bool, isi_NoneType_str, isi_NoneType_tuple, isi_NoneType_list, isi_bool_int, isi_bool_bool, isi_bool_str, isi_bool_tuple, isi_bool_list, isi_int_int, isi_int_bool, isi_int_str, isi_int_tuple, isi_int_list, isi_str_int, isi_str_bool, isi_str_str, isi_str_tuple, isi_str_list, isi_tuple_int, isi_tuple_bool, isi_tuple_str, isi_tuple_tuple, isi_tuple_list, isi_list_int, isi_list_bool, isi_list_str, isi_list_tuple, isi_list_list, isi_dict_int, isi_dict_bool, isi_dict_str, isi_dict_tuple, isi_dict_list, stepT, b_laid, enc]
  | int i =>
    have ok0 : okV 0 (.int i) = true := by
      unfold okV at ok ⊢
      exact ok
    obtain ⟨h1, h2⟩ := int950 ok0
    refine run_rt (r := .new (.lst ((enc (.int i)).map PV.int))) (ρ1 := [some (.val (.int i)), none, none, none]) [some (.val (.int i)), none, none, none] rfl ?_ rfl
    refine (seq_nx (ρ1 := [some (.val (.int i)), none, none, none]) (by simp [Res.bind, mSeq, mNx, mRet, mRetNm, mRetN, mIfS, mNever, mAsg, setR, setV, setO, isPar, mAug, mDrop, mAppend, mExtend, ownL?, ownO, setC, RV.lst?, mSrc, itemsOf, mOp, RV.fz, OB.pv, mBor, mNm, mK, mNew, mBin, mUn, deref, liftO, mANil, mACons, mApp, derefs, vals?, RV.val?, small, mTup, mLst, mCall, lone, avsOf, avOf, backs, findArg, back1, RV.bor?, mTest, RV.bl?, mTruth, truth, mTNot, mTAnd, mTOr, mAndV, mOrV, mNotV, mIf, mChain, mgNm, mAsgT, mgTup, mgCons, mgNil, iop, pAdd, pSub, pMul, pDiv, pMod, pNeg, pLt, pLe, pGt, pGe, pEq, pNe, pAddI, pMulS, pIs, pIsNot, isP, pIn, pNotIn, inP, flatP, cmpOk, cmpOks, eqP, eqPs, pIx, fLen, fAbs, fInt, fMin2, fMax2, fOrd, fList, fTuple, fIsi, tyName, AV.slot, runF, Res.nox, RV.out, outsOf, SV.lent, range1e, range2e, range3e, range4e, isi_NoneType_int, isi_NoneType_bool, isi_NoneType_str, isi_NoneType_tuple, isi_NoneType_list, isi_bool_int, isi_bool_bool, isi_bool_str, isi_bool_tuple, isi_bool_list, isi_int_int, isi_int_bool, isi_int_str, isi_int_tuple, isi_int_list, isi_str_int, isi_str_bool, isi_str_str, isi_str_tuple, isi_str_list, isi_tuple_int, isi_tuple_bool, isi_tuple_str, isi_tuple_tuple, isi_tuple_list, isi_list_int, isi_list_bool, isi_list_str, isi_list_tuple, isi_list_list, isi_dict_int, isi_dict_bool, isi_dict_str, isi_dict_tuple, isi_dict_list])).trans ?_
    refine (seq_nx (ρ1 := [some (.val (.int i)), none, none, none]) (by simp [Res.bind, mSeq, mNx, mRet, mRetNm, mRetN, mIfS, mNever, mAsg, setR, setV, setO, isPar, mAug, mDrop, mAppend, mExtend, ownL?, ownO, setC, RV.lst?, mSrc, itemsOf, mOp, RV.fz, OB.pv, mBor, mNm, mK, mNew, mBin, mUn, deref, liftO, mANil, mACons, mApp, derefs, vals?, RV.val?, small, mTup, mLst, mCall, lone, avsOf, avOf, backs, findArg, back1, RV.bor?, mTest, RV.bl?, mTruth, truth, mTNot, mTAnd, mTOr, mAndV, mOrV, mNotV, mIf, mChain, mgNm, mAsgT, mgTup, mgCons, mgNil, iop, pAdd, pSub, pMul, pDiv, pMod, pNeg, pLt, pLe, pGt, pGe, pEq, pNe, pAddI, pMulS, pIs, pIsNot, isP, pIn, pNotIn, inP, flatP, cmpOk, cmpOks, eqP, eqPs, pIx, fLen, fAbs, fInt, fMin2, fMax2, fOrd, fList, fTuple, fIsi, tyName, AV.slot, runF, Res.nox, RV.out, outsOf, SV.lent, range1e, range2e, range3e, range4e, isi_NoneType_int, isi_NoneType_bool, isi_NoneType_str, isi_NoneType_tuple, isi_NoneType_list, isi_bool_int, isi_bool_bool, isi_bool_str, isi_bool_tuple, isi_bool_list, isi_int_int, isi_int_bool, isi_int_str, isi_int_tuple, isi_int_list, isi_str_int, isi_str_bool, isi_str_str, isi_str_tuple, isi_str_list, isi_tuple_int, isi_tuple_bool, isi_tuple_str, isi_tuple_tuple, isi_tuple_list, isi_list_int, isi_list_bool, isi_list_str, isi_list_tuple, isi_list_list, isi_dict_int, isi_dict_bool, isi_dict_str, isi_dict_tuple, isi_dict_list])).trans ?_
    refine (seq_nx (ρ1 := [some (.val (.int i)), none, none, none]) (by simp [Res.bind, mSeq, mNx, mRet, mRetNm, mRetN, mIfS, mNever, mAsg, setR, setV, setO, isPar, mAug, mDrop, mAppend, mExtend, ownL?, ownO, setC, RV.lst?, mSrc, itemsOf, mOp, RV.fz, OB.pv, mBor, mNm, mK, mNew, mBin, mUn, deref, liftO, mANil, mACons, mApp, derefs, vals?, RV.val?, small, mTup, mLst, mCall, lone, avsOf, avOf, backs, findArg, back1, RV.bor?, mTest, RV.bl?, mTruth, truth, mTNot, mTAnd, mTOr, mAndV, mOrV, mNotV, mIf, mChain, mgNm, mAsgT, mgTup, mgCons, mgNil, iop, pAdd, pSub, pMul, pDiv, pMod, pNeg, pLt, pLe, pGt, pGe, pEq, pNe, pAddI, pMulS, pIs, pIsNot, isP, pIn, pNotIn, inP, flatP, cmpOk, cmpOks, eqP, eqPs, pIx, fLen, fAbs, fInt, fMin2, fMax2, fOrd, fList, fTuple, fIsi, tyName, AV.slot, runF, Res.nox, RV.out, outsOf, SV.lent, range1e, range2e, range3e, range4e, isi_NoneType_int, isi_NoneType_bool, isi_NoneType_str, isi_NoneType_tuple, isi_NoneType_list, isi_bool_int, isi_bool_bool, isi_bool_str, isi_bool_tuple, isi_bool_list, isi_int_int, isi_int_bool, isi_int_str, isi_int_tuple, isi_int_list, isi_str_int, isi_str_bool, isi_str_str, isi_str_tuple, isi_str_list, isi_tuple_int, isi_tuple_bool, isi_tuple_str, isi_tuple_tuple, isi_tuple_list, isi_list_int, isi_list_bool, isi_list_str, isi_list_tuple, isi_list_list, isi_dict_int, isi_dict_bool, isi_dict_str, isi_dict_tuple, isi_dict_list])).trans ?_
    refine seq_rt ?_
    refine (ifs_t (ρ1 := [some (.val (.int i)), none, none, none]) (by simp [Res.bind, mSeq, mNx, mRet, mRetNm, mRetN, mIfS, mNever, mAsg, setR, setV, setO, isPar, mAug, mDrop, mAppend, mExtend, ownL?, ownO, setC, RV.lst?, mSrc, itemsOf, mOp, RV.fz, OB.pv, mBor, mNm, mK, mNew, mBin, mUn, deref, liftO, mANil, mACons, mApp, derefs, vals?, RV.val?, small, mTup, mLst, mCall, lone, avsOf, avOf, backs, findArg, back1, RV.bor?, mTest, RV.bl?, mTruth, truth, mTNot, mTAnd, mTOr, mAndV, mOrV, mNotV, mIf, mChain, mgNm, mAsgT, mgTup, mgCons, mgNil, iop, pAdd, pSub, pMul, pDiv, pMod, pNeg, pLt, pLe, pGt, pGe, pEq, pNe, pAddI, pMulS, pIs, pIsNot, isP, pIn, pNotIn, inP, flatP, cmpOk, cmpOks, eqP, eqPs, pIx, fLen, fAbs, fInt, fMin2, fMax2, fOrd, fList, fTuple, fIsi, tyName, AV.slot, runF, Res.nox, RV.out, outsOf, SV.lent, range1e, range2e, range3e, range4e, isi_NoneType_int, isi_NoneType_bool, isi_NoneType_str, isi_NoneType_tuple, isi_NoneType_list, isi_bool_int, isi_bool_bool, isi_bool_str, isi_bool_tuple, isi_bool_list, isi_int_int, isi_int_bool, isi_int_str, isi_int_tuple, isi_int_list, isi_str_int, isi_str_bool, isi_str_str, isi_str_tuple, isi_str_list, isi_tuple_int, isi_tuple_bool, isi_tuple_str, isi_tuple_tuple, isi_tuple_list, isi_list_int, isi_list_bool, isi_list_str, isi_list_tuple, isi_list_list, isi_dict_int, isi_dict_bool, isi_dict_str, isi_dict_tuple, isi_dict_list])).trans ?_
    refine ret_of ?_
    unfold enc at hz ⊢
    by_cases hi : 0 ≤ i
    · rw [if_pos hi] at hz ⊢
      have e : i = ((i.toNat : Nat) : Int) := by omega
      have hc := hd i.toNat (h1 hi)
      rw [← e] at hc
      have : mIf (mTest (mBin pGe (mBor 0) (mK (.int 0)))) (mBin pAdd (mLst (mACons (mK (.int 1)) mANil)) (mCall t.digits_of (mACons (mNm 0) mANil))) (mBin pAdd (mLst (mACons (mK (.int 2)) mANil)) (mCall t.digits_of (mACons (mBin pSub (mUn pNeg (mBor 0)) (mK (.int 1))) mANil))) [some (.val (.int i)), none, none, none] =
          mBin pAdd (mLst (mACons (mK (.int 1)) mANil)) (mCall t.digits_of (mACons (mNm 0) mANil)) [some (.val (.int i)), none, none, none] := by
        have hg : mTest (mBin pGe (mBor 0) (mK (.int 0))) [some (.val (.int i)), none, none, none] = .ok (true, [some (.val (.int i)), none, none, none]) := by simp [Res.bind, mSeq, mNx, mRet, mRetNm, mRetN, mIfS, mNever, mAsg, setR, setV, setO, isPar, mAug, mDrop, mAppend, mExtend, ownL?, ownO, setC, RV.lst?, mSrc, itemsOf, mOp, RV.fz, OB.pv, mBor, mNm, mK, mNew, mBin, mUn, deref, liftO, mANil, mACons, mApp, derefs, vals?, RV.val?, small, mTup, mLst, mCall, lone, avsOf, avOf, backs, findArg, back1, RV.bor?, mTest, RV.bl?, mTruth, truth, mTNot, mTAnd, mTOr, mAndV, mOrV, mNotV, mIf, mChain, mgNm, mAsgT, mgTup, mgCons, mgNil, iop, pAdd, pSub, pMul, pDiv, pMod, pNeg, pLt, pLe, pGt, pGe, pEq, pNe, pAddI, pMulS, pIs, pIsNot, isP, pIn, pNotIn, inP, flatP, cmpOk, cmpOks, eqP, eqPs, pIx, fLen, fAbs, fInt, fMin2, fMax2, fOrd, fList, fTuple, fIsi, tyName, AV.slot, runF, Res.nox, RV.out, outsOf, SV.lent, range1e, range2e, range3e, range4e, isi_NoneType_int, isi_NoneType_bool, isi_NoneType_str, isi_NoneType_tuple, isi_NoneType_list, isi_bool_int, isi_bool_bool, isi_bool_str, isi_bool_tuple, isi_bool_list, isi_int_int, isi_int_bool, isi_int_str, isi_int_tuple, isi_int_list, isi_str_int, isi_str_bool, isi_str_str, isi_str_tuple, isi_str_list, isi_tuple_int, isi_tuple_bool, isi_tuple_str, isi_tuple_tuple, isi_tuple_list, isi_list_int, isi_list_bool, isi_list_str, isi_list_tuple, isi_list_list, isi_dict_int, isi_dict_bool, isi_dict_str, isi_dict_tuple, isi_dict_list, hi]
        unfold mIf
        rw [hg]
        rfl
      refine this.trans ?_
      refine (bin_new (xs := [.int 1]) (ys := (dg i.toNat).map PV.int) (ρ1 := [some (.val (.int i)), none, none, none]) (by simp [Res.bind, mSeq, mNx, mRet, mRetNm, mRetN, mIfS, mNever, mAsg, setR, setV, setO, isPar, mAug, mDrop, mAppend, mExtend, ownL?, ownO, setC, RV.lst?, mSrc, itemsOf, mOp, RV.fz, OB.pv, mBor, mNm, mK, mNew, mBin, mUn, deref, liftO, mANil, mACons, mApp, derefs, vals?, RV.val?, small, mTup, mLst, mCall, lone, avsOf, avOf, backs, findArg, back1, RV.bor?, mTest, RV.bl?, mTruth, truth, mTNot, mTAnd, mTOr, mAndV, mOrV, mNotV, mIf, mChain, mgNm, mAsgT, mgTup, mgCons, mgNil, iop, pAdd, pSub, pMul, pDiv, pMod, pNeg, pLt, pLe, pGt, pGe, pEq, pNe, pAddI, pMulS, pIs, pIsNot, isP, pIn, pNotIn, inP, flatP, cmpOk, cmpOks, eqP, eqPs, pIx, fLen, fAbs, fInt, fMin2, fMax2, fOrd, fList, fTuple, fIsi, tyName, AV.slot, runF, Res.nox, RV.out, outsOf, SV.lent, range1e, range2e, range3e, range4e, isi_NoneType_int, isi_NoneType_bool, isi_NoneType_str, isi_NoneType_tuple, isi_NoneType_list, isi_bool_int, isi_bool_bool, isi_bool_str, isi_bool_tuple, isi_bool_list, isi_int_int, isi_int_bool, isi_int_str, isi_int_tuple, isi_int_list, isi_str_int, isi_str_bool, isi_str_str, isi_str_tuple, isi_str_list, isi_tuple_int, isi_tuple_bool, isi_tuple_str, isi_tuple_tuple, isi_tuple_list, isi_list_int, isi_list_bool, isi_list_str, isi_list_tuple, isi_list_list, isi_dict_int, isi_dict_bool, isi_dict_str, isi_dict_tuple, isi_dict_list]) (call1 (p := .int i) (by simp [Res.bind, mSeq, mNx, mRet, mRetNm, mRetN, mIfS, mNever, mAsg, setR, setV, setO, isPar, mAug, mDrop, mAppend, mExtend, ownL?, ownO, setC, RV.lst?, mSrc, itemsOf, mOp, RV.fz, OB.pv, mBor, mNm, mK, mNew, mBin, mUn, deref, liftO, mANil, mACons, mApp, derefs, vals?, RV.val?, small, mTup, mLst, mCall, lone, avsOf, avOf, backs, findArg, back1, RV.bor?, mTest, RV.bl?, mTruth, truth, mTNot, mTAnd, mTOr, mAndV, mOrV, mNotV, mIf, mChain, mgNm, mAsgT, mgTup, mgCons, mgNil, iop, pAdd, pSub, pMul, pDiv, pMod, pNeg, pLt, pLe, pGt, pGe, pEq, pNe, pAddI, pMulS, pIs, pIsNot, isP, pIn, pNotIn, inP, flatP, cmpOk, cmpOks, eqP, eqPs, pIx, fLen, fAbs, fInt, fMin2, fMax2, fOrd, fList, fTuple, fIsi, tyName, AV.slot, runF, Res.nox, RV.out, outsOf, SV.lent, range1e, range2e, range3e, range4e, isi_NoneType_int, isi_NoneType_bool, isi_NoneType_str, isi_NoneType_tuple, isi_NoneType_list, isi_bool_int, isi_bool_bool, isi_bool_str, isi_bool_tuple, isi_bool_list, isi_int_int, isi_int_bool, isi_int_str, isi_int_tuple, isi_int_list, isi_str_int, isi_str_bool, isi_str_str, isi_str_tuple, isi_str_list, isi_tuple_int, isi_tuple_bool, isi_tuple_str, isi_tuple_tuple, isi_tuple_list, isi_list_int, isi_list_bool, isi_list_str, isi_list_tuple, isi_list_list, isi_dict_int, isi_dict_bool, isi_dict_str, isi_dict_tuple, isi_dict_list]) hc) ?_).trans rfl
      rw [List.length_cons] at hz
      exact szOk_of (by simp only [List.length_cons, List.length_map, List.length_nil]; omega)
    · rw [if_neg hi] at hz ⊢
      have e : -i - 1 = (((-i - 1).toNat : Nat) : Int) := by omega
      have hc := hd (-i - 1).toNat (h2 hi)
      rw [← e] at hc
      have : mIf (mTest (mBin pGe (mBor 0) (mK (.int 0)))) (mBin pAdd (mLst (mACons (mK (.int 1)) mANil)) (mCall t.digits_of (mACons (mNm 0) mANil))) (mBin pAdd (mLst (mACons (mK (.int 2)) mANil)) (mCall t.digits_of (mACons (mBin pSub (mUn pNeg (mBor 0)) (mK (.int 1))) mANil))) [some (.val (.int i)), none, none, none] =
          mBin pAdd (mLst (mACons (mK (.int 2)) mANil)) (mCall t.digits_of (mACons (mBin pSub (mUn pNeg (mBor 0)) (mK (.int 1))) mANil)) [some (.val (.int i)), none, none, none] := by
        have hg : mTest (mBin pGe (mBor 0) (mK (.int 0))) [some (.val (.int i)), none, none, none] = .ok (false, [some (.val (.int i)), none, none, none]) := by simp [Res.bind, mSeq, mNx, mRet, mRetNm, mRetN, mIfS, mNever, mAsg, setR, setV, setO, isPar, mAug, mDrop, mAppend, mExtend, ownL?, ownO, setC, RV.lst?, mSrc, itemsOf, mOp, RV.fz, OB.pv, mBor, mNm, mK, mNew, mBin, mUn, deref, liftO, mANil, mACons, mApp, derefs, vals?, RV.val?, small, mTup, mLst, mCall, lone, avsOf, avOf, backs, findArg, back1, RV.bor?, mTest, RV.bl?, mTruth, truth, mTNot, mTAnd, mTOr, mAndV, mOrV, mNotV, mIf, mChain, mgNm, mAsgT, mgTup, mgCons, mgNil, iop, pAdd, pSub, pMul, pDiv, pMod, pNeg, pLt, pLe, pGt, pGe, pEq, pNe, pAddI, pMulS, pIs, pIsNot, isP, pIn, pNotIn, inP, flatP, cmpOk, cmpOks, eqP, eqPs, pIx, fLen, fAbs, fInt, fMin2, fMax2, fOrd, fList, fTuple, fIsi, tyName, AV.slot, runF, Res.nox, RV.out, outsOf, SV.lent, range1e, range2e, range3e, range4e, isi_NoneType_int, isi_NoneType_bool, isi_NoneType_str, isi_NoneType_tuple, isi_NoneType_list, isi_bool_int, isi_bool_bool, isi_bool_str, isi_bool_tuple, isi_bool_list, isi_int_int, isi_int_bool, isi_int_str, isi_int_tuple, isi_int_list, isi_str_int, isi_str_bool, isi_str_str, isi_str_tuple, isi_str_list, isi_tuple_int, isi_tuple_bool, isi_tuple_str, isi_tuple_tuple, isi_tuple_list, isi_list_int, isi_list_bool, isi_list_str, isi_list_tuple, isi_list_list, isi_dict_int, isi_dict_bool, isi_dict_str, isi_dict_tuple, isi_dict_list, hi]
        unfold mIf
        rw [hg]
        rfl
      refine this.trans ?_
      refine (bin_new (xs := [.int 2]) (ys := (dg (-i - 1).toNat).map PV.int) (ρ1 := [some (.val (.int i)), none, none, none]) (by simp [Res.bind, mSeq, mNx, mRet, mRetNm, mRetN, mIfS, mNever, mAsg, setR, setV, setO, isPar, mAug, mDrop, mAppend, mExtend, ownL?, ownO, setC, RV.lst?, mSrc, itemsOf, mOp, RV.fz, OB.pv, mBor, mNm, mK, mNew, mBin, mUn, deref, liftO, mANil, mACons, mApp, derefs, vals?, RV.val?, small, mTup, mLst, mCall, lone, avsOf, avOf, backs, findArg, back1, RV.bor?, mTest, RV.bl?, mTruth, truth, mTNot, mTAnd, mTOr, mAndV, mOrV, mNotV, mIf, mChain, mgNm, mAsgT, mgTup, mgCons, mgNil, iop, pAdd, pSub, pMul, pDiv, pMod, pNeg, pLt, pLe, pGt, pGe, pEq, pNe, pAddI, pMulS, pIs, pIsNot, isP, pIn, pNotIn, inP, flatP, cmpOk, cmpOks, eqP, eqPs, pIx, fLen, fAbs, fInt, fMin2, fMax2, fOrd, fList, fTuple, fIsi, tyName, AV.slot, runF, Res.nox, RV.out, outsOf, SV.lent, range1e, range2e, range3e, range4e, isi_NoneType_int, isi_NoneType_bool, isi_NoneType_str, isi_NoneType_tuple, isi_NoneType_list, isi_bool_int, isi_bool_bool, isi_bool_str, isi_bool_tuple, isi_bool_list, isi_int_int, isi_int_bool, isi_int_str, isi_int_tuple, isi_int_list, isi_str_int, isi_str_bool, isi_str_str, isi_str_tuple, isi_str_list, isi_tuple_int, isi_tuple_bool, isi_tuple_str, isi_tuple_tuple, isi_tuple_list, isi_list_int, isi_list_bool, isi_list_str, isi_list_tuple, isi_list_list, isi_dict_int, isi_dict_bool, isi_dict_str, isi_dict_tuple, isi_dict_list]) (call1 (p := .int (-i - 1)) (by simp [Res.bind, mSeq, mNx, mRet, mRetNm, mRetN, mIfS, mNever, mAsg, setR, setV, setO, isPar, mAug, mDrop, mAppend, mExtend, ownL?, ownO, setC, RV.lst?, mSrc, itemsOf, mOp, RV.fz, OB.pv, mBor, mNm, mK, mNew, mBin, mUn, deref, liftO, mANil, mACons, mApp, derefs, vals?, RV.val?, small, mTup, mLst, mCall, lone, avsOf, avOf, backs, findArg, back1, RV.bor?, mTest, RV.bl?, mTruth, truth, mTNot, mTAnd, mTOr, mAndV, mOrV, mNotV, mIf, mChain, mgNm, mAsgT, mgTup, mgCons, mgNil, iop, pAdd, pSub, pMul, pDiv, pMod, pNeg, pLt, pLe, pGt, pGe, pEq, pNe, pAddI, pMulS, pIs, pIsNot, isP, pIn, pNotIn, inP, flatP, cmpOk, cmpOks, eqP, eqPs, pIx, fLen, fAbs, fInt, fMin2, fMax2, fOrd, fList, fTuple, fIsi, tyName, AV.slot, runF, Res.nox, RV.out, outsOf, SV.lent, range1e, range2e, range3e, range4e, isi_NoneType_int, isi_NoneType_bool, isi_NoneType_str, isi_NoneType_tuple, isi_NoneType_list, isi_bool_int, isi_bool_bool, isi_bool_str, isi_bool_tuple, isi_bool_list, isi_int_int, isi_int_bool, isi_int_str, isi_int_tuple, isi_int_list, isi_str_int, isi_str_bool, isi_str_str, isi_str_tuple, isi_str_list, isi_tuple_int, isi_tuple_bool, isi_tuple_str, isi_tuple_tuple, isi_tuple_list, isi_list_int, isi_list_bool, isi_list_str, isi_list_tuple, isi_list_list, isi_dict_int, isi_dict_bool, isi_dict_str, isi_dict_tuple, isi_dict_list]) hc) ?_).trans rfl
      rw [List.length_cons] at hz
      exact szOk_of (by simp only [List.length_cons, List.length_map, List.length_nil]; omega)
  | str x =>
    unfold okV at ok
    rw [Bool.and_eq_true] at ok
    have hl := of_decide_eq_true ok.1
    refine run_rt (r := .new (.lst ((enc (.str x)).map PV.int))) (ρ1 := [some (.val (.str x)), none, none, none]) [some (.val (.str x)), none, none, none] rfl ?_ rfl
    refine (seq_nx (ρ1 := [some (.val (.str x)), none, none, none]) (by simp [Res.bind, mSeq, mNx, mRet, mRetNm, mRetN, mIfS, mNever, mAsg, setR, setV, setO, isPar, mAug, mDrop, mAppend, mExtend, ownL?, ownO, setC, RV.lst?, mSrc, itemsOf, mOp, RV.fz, OB.pv, mBor, mNm, mK, mNew, mBin, mUn, deref, liftO, mANil, mACons, mApp, derefs, vals?, RV.val?, small, mTup, mLst, mCall, lone, avsOf, avOf, backs, findArg, back1, RV.bor?, mTest, RV.bl?, mTruth, truth, mTNot, mTAnd, mTOr, mAndV, mOrV, mNotV, mIf, mChain, mgNm, mAsgT, mgTup, mgCons, mgNil, iop, pAdd, pSub, pMul, pDiv, pMod, pNeg, pLt, pLe, pGt, pGe, pEq, pNe, pAddI, pMulS, pIs, pIsNot, isP, pIn, pNotIn, inP, flatP, cmpOk, cmpOks, eqP, eqPs, pIx, fLen, fAbs, fInt, fMin2, fMax2, fOrd, fList, fTuple, fIsi, tyName, AV.slot, runF, Res.nox, RV.out, outsOf, SV.lent, range1e, range2e, range3e, range4e, isi_NoneType_int, isi_NoneType_bool, isi_NoneType_str, isi_NoneType_tuple, isi_NoneType_list, isi_bool_int, isi_bool_bool, isi_bool_str, isi_bool_tuple, isi_bool_list, isi_int_int, isi_int_bool, isi_int_str, isi_int_tuple, isi_int_list, isi_str_int, isi_str_bool, isi_str_str, isi_str_tuple, isi_str_list, isi_tuple_int, isi_tuple_bool, isi_tuple_str, isi_tuple_tuple, isi_tuple_list, isi_list_int, isi_list_bool, isi_list_str, isi_list_tuple, isi_list_list, isi_dict_int, isi_dict_bool, isi_dict_str, isi_dict_tuple, isi_dict_list])).trans ?_
    refine (seq_nx (ρ1 := [some (.val (.str x)), none, none, none]) (by simp [Res.bind, mSeq, mNx, mRet, mRetNm, mRetN, mIfS, mNever, mAsg, setR, setV, setO, isPar, mAug, mDrop, mAppend, mExtend, ownL?, ownO, setC, RV.lst?, mSrc, itemsOf, mOp, RV.fz, OB.pv, mBor, mNm, mK, mNew, mBin, mUn, deref, liftO, mANil, mACons, mApp, derefs, vals?, RV.val?, small, mTup, mLst, mCall, lone, avsOf, avOf, backs, findArg, back1, RV.bor?, mTest, RV.bl?, mTruth, truth, mTNot, mTAnd, mTOr, mAndV, mOrV, mNotV, mIf, mChain, mgNm, mAsgT, mgTup, mgCons, mgNil, iop, pAdd, pSub, pMul, pDiv, pMod, pNeg, pLt, pLe, pGt, pGe, pEq, pNe, pAddI, pMulS, pIs, pIsNot, isP, pIn, pNotIn, inP, flatP, cmpOk, cmpOks, eqP, eqPs, pIx, fLen, fAbs, fInt, fMin2, fMax2, fOrd, fList, fTuple, fIsi, tyName, AV.slot, runF, Res.nox, RV.out, outsOf, SV.lent, range1e, range2e, range3e, range4e, isi_NoneType_int, isi_NoneType_bool, isi_NoneType_str, isi_NoneType_tuple, isi_NoneType_list, isi_bool_int, isi_bool_bool, isi_bool_str, isi_bool_tuple, isi_bool_list, isi_int_int, isi_int_bool, isi_int_str, isi_int_tuple, isi_int_list, isi_str_int, isi_str_bool, isi_str_str, isi_str_tuple, isi_str_list, isi_tuple_int, isi_tuple_bool, isi_tuple_str, isi_tuple_tuple, isi_tuple_list, isi_list_int, isi_list_bool, isi_list_str, isi_list_tuple, isi_list_list, isi_dict_int, isi_dict_bool, isi_dict_str, isi_dict_tuple, isi_dict_list])).trans ?_
    refine (seq_nx (ρ1 := [some (.val (.str x)), none, none, none]) (by simp [Res.bind, mSeq, mNx, mRet, mRetNm, mRetN, mIfS, mNever, mAsg, setR, setV, setO, isPar, mAug, mDrop, mAppend, mExtend, ownL?, ownO, setC, RV.lst?, mSrc, itemsOf, mOp, RV.fz, OB.pv, mBor, mNm, mK, mNew, mBin, mUn, deref, liftO, mANil, mACons, mApp, derefs, vals?, RV.val?, small, mTup, mLst, mCall, lone, avsOf, avOf, backs, findArg, back1, RV.bor?, mTest, RV.bl?, mTruth, truth, mTNot, mTAnd, mTOr, mAndV, mOrV, mNotV, mIf, mChain, mgNm, mAsgT, mgTup, mgCons, mgNil, iop, pAdd, pSub, pMul, pDiv, pMod, pNeg, pLt, pLe, pGt, pGe, pEq, pNe, pAddI, pMulS, pIs, pIsNot, isP, pIn, pNotIn, inP, flatP, cmpOk, cmpOks, eqP, eqPs, pIx, fLen, fAbs, fInt, fMin2, fMax2, fOrd, fList, fTuple, fIsi, tyName, AV.slot, runF, Res.nox, RV.out, outsOf, SV.lent, range1e, range2e, range3e, range4e, isi_NoneType_int, isi_NoneType_bool, isi_NoneType_str, isi_NoneType_tuple, isi_NoneType_list, isi_bool_int, isi_bool_bool, isi_bool_str, isi_bool_tuple, isi_bool_list, isi_int_int, isi_int_bool, isi_int_str, isi_int_tuple, isi_int_list, isi_str_int, isi_str_bool, isi_str_str, isi_str_tuple, isi_str_list, isi_tuple_int, isi_tuple_bool, isi_tuple_str, isi_tuple_tuple, isi_tuple_list, isi_list_int, isi_list_bool, isi_list_str, isi_list_tuple, isi_list_list, isi_dict_int, isi_dict_bool, isi_dict_str, isi_dict_tuple, isi_dict_list])).trans ?_
    refine (seq_nx (ρ1 := [some (.val (.str x)), none, none, none]) (by simp [Res.bind, mSeq, mNx, mRet, mRetNm, mRetN, mIfS, mNever, mAsg, setR, setV, setO, isPar, mAug, mDrop, mAppend, mExtend, ownL?, ownO, setC, RV.lst?, mSrc, itemsOf, mOp, RV.fz, OB.pv, mBor, mNm, mK, mNew, mBin, mUn, deref, liftO, mANil, mACons, mApp, derefs, vals?, RV.val?, small, mTup, mLst, mCall, lone, avsOf, avOf, backs, findArg, back1, RV.bor?, mTest, RV.bl?, mTruth, truth, mTNot, mTAnd, mTOr, mAndV, mOrV, mNotV, mIf, mChain, mgNm, mAsgT, mgTup, mgCons, mgNil, iop, pAdd, pSub, pMul, pDiv, pMod, pNeg, pLt, pLe, pGt, pGe, pEq, pNe, pAddI, pMulS, pIs, pIsNot, isP, pIn, pNotIn, inP, flatP, cmpOk, cmpOks, eqP, eqPs, pIx, fLen, fAbs, fInt, fMin2, fMax2, fOrd, fList, fTuple, fIsi, tyName, AV.slot, runF, Res.nox, RV.out, outsOf, SV.lent, range1e, range2e, range3e, range4e, isi_NoneType_int, isi_NoneType_bool, isi_NoneType_str, isi_NoneType_tuple, isi_NoneType_list, isi_bool_int, isi_bool_bool, isi_bool_str, isi_bool_tuple, isi_bool_list, isi_int_int, isi_int_bool, isi_int_str, isi_int_tuple, isi_int_list, isi_str_int, isi_str_bool, isi_str_str, isi_str_tuple, isi_str_list, isi_tuple_int, isi_tuple_bool, isi_tuple_str, isi_tuple_tuple, isi_tuple_list, isi_list_int, isi_list_bool, isi_list_str, isi_list_tuple, isi_list_list, isi_dict_int, isi_dict_bool, isi_dict_str, isi_dict_tuple, isi_dict_list])).trans ?_
    refine seq_rt ?_
    refine (ifs_t (ρ1 := [some (.val (.str x)), none, none, none]) (by simp [Res.bind, mSeq, mNx, mRet, mRetNm, mRetN, mIfS, mNever, mAsg, setR, setV, setO, isPar, mAug, mDrop, mAppend, mExtend, ownL?, ownO, setC, RV.lst?, mSrc, itemsOf, mOp, RV.fz, OB.pv, mBor, mNm, mK, mNew, mBin, mUn, deref, liftO, mANil, mACons, mApp, derefs, vals?, RV.val?, small, mTup, mLst, mCall, lone, avsOf, avOf, backs, findArg, back1, RV.bor?, mTest, RV.bl?, mTruth, truth, mTNot, mTAnd, mTOr, mAndV, mOrV, mNotV, mIf, mChain, mgNm, mAsgT, mgTup, mgCons, mgNil, iop, pAdd, pSub, pMul, pDiv, pMod, pNeg, pLt, pLe, pGt, pGe, pEq, pNe, pAddI, pMulS, pIs, pIsNot, isP, pIn, pNotIn, inP, flatP, cmpOk, cmpOks, eqP, eqPs, pIx, fLen, fAbs, fInt, fMin2, fMax2, fOrd, fList, fTuple, fIsi, tyName, AV.slot, runF, Res.nox, RV.out, outsOf, SV.lent, range1e, range2e, range3e, range4e, isi_NoneType_int, isi_NoneType_bool, isi_NoneType_str, isi_NoneType_tuple, isi_NoneType_list, isi_bool_int, isi_bool_bool, isi_bool_str, isi_bool_tuple, isi_bool_list, isi_int_int, isi_int_bool, isi_int_str, isi_int_tuple, isi_int_list, isi_str_int, isi_str_bool, isi_str_str, isi_str_tuple, isi_str_list, isi_tuple_int, isi_tuple_bool, isi_tuple_str, isi_tuple_tuple, isi_tuple_list, isi_list_int, isi_list_bool, isi_list_str, isi_list_tuple, isi_list_list, isi_dict_int, isi_dict_bool, isi_dict_str, isi_dict_tuple, isi_dict_list])).trans ?_
    refine ret_of ?_
    have hlen : (enc (.str x)).length = 1 + (dg x.length).length + (ords x).length := by
      unfold enc ords
      simp
      omega
    have hc := hd x.length (by have := small950; omega)
    have sz : szOk x.length = true := by simp [szOk]; omega
    refine (bin_new (xs := [.int 3] ++ (dg x.length).map PV.int) (ys := (ords x).map PV.int) (ρ1 := [some (.val (.str x)), none, none, none]) (bin_new (xs := [.int 3]) (ρ1 := [some (.val (.str x)), none, none, none]) (by simp [Res.bind, mSeq, mNx, mRet, mRetNm, mRetN, mIfS, mNever, mAsg, setR, setV, setO, isPar, mAug, mDrop, mAppend, mExtend, ownL?, ownO, setC, RV.lst?, mSrc, itemsOf, mOp, RV.fz, OB.pv, mBor, mNm, mK, mNew, mBin, mUn, deref, liftO, mANil, mACons, mApp, derefs, vals?, RV.val?, small, mTup, mLst, mCall, lone, avsOf, avOf, backs, findArg, back1, RV.bor?, mTest, RV.bl?, mTruth, truth, mTNot, mTAnd, mTOr, mAndV, mOrV, mNotV, mIf, mChain, mgNm, mAsgT, mgTup, mgCons, mgNil, iop, pAdd, pSub, pMul, pDiv, pMod, pNeg, pLt, pLe, pGt, pGe, pEq, pNe, pAddI, pMulS, pIs, pIsNot, isP, pIn, pNotIn, inP, flatP, cmpOk, cmpOks, eqP, eqPs, pIx, fLen, fAbs, fInt, fMin2, fMax2, fOrd, fList, fTuple, fIsi, tyName, AV.slot, runF, Res.nox, RV.out, outsOf, SV.lent, range1e, range2e, range3e, range4e, isi_NoneType_int, isi_NoneType_bool, isi_NoneType_str, isi_NoneType_tuple, isi_NoneType_list, isi_bool_int, isi_bool_bool, isi_bool_str, isi_bool_tuple, isi_bool_list, isi_int_int, isi_int_bool, isi_int_str, isi_int_tuple, isi_int_list, isi_str_int, isi_str_bool, isi_str_str, isi_str_tuple, isi_str_list, isi_tuple_int, isi_tuple_bool, isi_tuple_str, isi_tuple_tuple, isi_tuple_list, isi_list_int, isi_list_bool, isi_list_str, isi_list_tuple, isi_list_list, isi_dict_int, isi_dict_bool, isi_dict_str, isi_dict_tuple, isi_dict_list]) (call1 (p := .int x.length) (by simp [Res.bind, mSeq, mNx, mRet, mRetNm, mRetN, mIfS, mNever, mAsg, setR, setV, setO, isPar, mAug, mDrop, mAppend, mExtend, ownL?, ownO, setC, RV.lst?, mSrc, itemsOf, mOp, RV.fz, OB.pv, mBor, mNm, mK, mNew, mBin, mUn, deref, liftO, mANil, mACons, mApp, derefs, vals?, RV.val?, small, mTup, mLst, mCall, lone, avsOf, avOf, backs, findArg, back1, RV.bor?, mTest, RV.bl?, mTruth, truth, mTNot, mTAnd, mTOr, mAndV, mOrV, mNotV, mIf, mChain, mgNm, mAsgT, mgTup, mgCons, mgNil, iop, pAdd, pSub, pMul, pDiv, pMod, pNeg, pLt, pLe, pGt, pGe, pEq, pNe, pAddI, pMulS, pIs, pIsNot, isP, pIn, pNotIn, inP, flatP, cmpOk, cmpOks, eqP, eqPs, pIx, fLen, fAbs, fInt, fMin2, fMax2, fOrd, fList, fTuple, fIsi, tyName, AV.slot, runF, Res.nox, RV.out, outsOf, SV.lent, range1e, range2e, range3e, range4e, isi_NoneType_int, isi_NoneType_bool, isi_NoneType_str, isi_NoneType_tuple, isi_NoneType_list, isi_bool_int, isi_bool_bool, isi_bool_str, isi_bool_tuple, isi_bool_list, isi_int_int, isi_int_bool, isi_int_str, isi_int_tuple, isi_int_list, isi_str_int, isi_str_bool, isi_str_str, isi_str_tuple, isi_str_list, isi_tuple_int, isi_tuple_bool, isi_tuple_str, isi_tuple_tuple, isi_tuple_list, isi_list_int, isi_list_bool, isi_list_str, isi_list_tuple, isi_list_list, isi_dict_int, isi_dict_bool, isi_dict_str, isi_dict_tuple, isi_dict_list, sz]) hc) ?_) (ord_lc x (by omega) none none) ?_).trans ?_
    · exact szOk_of (by simp only [List.length_cons, List.length_map, List.length_append, List.length_nil]; omega)
    · exact szOk_of (by simp only [List.length_cons, List.length_map, List.length_append, List.length_nil]; omega)
    · unfold enc ords
      simp
  | tup xs =>
    cases n with
    | zero => unfold okV at ok; cases ok
    | succ n =>
      unfold okV at ok
      rw [Bool.and_eq_true] at ok
      have hl := of_decide_eq_true ok.1
      have hc := hd xs.length (by have := small950; omega)
      have hlen : (enc (.tup xs)).length = 1 + (dg xs.length).length + (encs xs).length := by
        unfold enc
        simp
        omega
      obtain ⟨tv', e⟩ := laid_loop (t := t) (.tup xs) xs (4 :: dg xs.length) none (hx xs rfl) (by rw [List.length_cons]; omega)
      refine run_rt (r := .new (.lst ((enc (.tup xs)).map PV.int))) (ρ1 := [some (.val (.tup xs)), none, tv'.map SV.val, none]) [some (.val (.tup xs)), none, none, none] rfl ?_ rfl
      refine (seq_nx (ρ1 := [some (.val (.tup xs)), none, none, none]) (by simp [Res.bind, mSeq, mNx, mRet, mRetNm, mRetN, mIfS, mNever, mAsg, setR, setV, setO, isPar, mAug, mDrop, mAppend, mExtend, ownL?, ownO, setC, RV.lst?, mSrc, itemsOf, mOp, RV.fz, OB.pv, mBor, mNm, mK, mNew, mBin, mUn, deref, liftO, mANil, mACons, mApp, derefs, vals?, RV.val?, small, mTup, mLst, mCall, lone, avsOf, avOf, backs, findArg, back1, RV.bor?, mTest, RV.bl?, mTruth, truth, mTNot, mTAnd, mTOr, mAndV, mOrV, mNotV, mIf, mChain, mgNm, mAsgT, mgTup, mgCons, mgNil, iop, pAdd, pSub, pMul, pDiv, pMod, pNeg, pLt, pLe, pGt, pGe, pEq, pNe, pAddI, pMulS, pIs, pIsNot, isP, pIn, pNotIn, inP, flatP, cmpOk, cmpOks, eqP, eqPs, pIx, fLen, fAbs, fInt, fMin2, fMax2, fOrd, fList, fTuple, fIsi, tyName, AV.slot, runF, Res.nox, RV.out, outsOf, SV.lent, range1e, range2e, range3e, range4e, isi_NoneType_int, isi_NoneType_bool, isi_NoneType_str, isi_NoneType_tuple, isi_NoneType_list, isi_bool_int, isi_bool_bool, isi_bool_str, isi_bool_tuple, isi_bool_list, isi_int_int, isi_int_bool, isi_int_str, isi_int_tuple, isi_int_list, isi_str_int, isi_str_bool, isi_str_str, isi_str_tuple, isi_str_list, isi_tuple_int, isi_tuple_bool, isi_tuple_str, isi_tuple_tuple, isi_tuple_list, isi_list_int, isi_list_bool, isi_list_str, isi_list_tuple, isi_list_list, isi_dict_int, isi_dict_bool, isi_dict_str, isi_dict_tuple, isi_dict_list])).trans ?_
      refine (seq_nx (ρ1 := [some (.val (.tup xs)), none, none, none]) (by simp [Res.bind, mSeq, mNx, mRet, mRetNm, mRetN, mIfS, mNever, mAsg, setR, setV, setO, isPar, mAug, mDrop, mAppend, mExtend, ownL?, ownO, setC, RV.lst?, mSrc, itemsOf, mOp, RV.fz, OB.pv, mBor, mNm, mK, mNew, mBin, mUn, deref, liftO, mANil, mACons, mApp, derefs, vals?, RV.val?, small, mTup, mLst, mCall, lone, avsOf, avOf, backs, findArg, back1, RV.bor?, mTest, RV.bl?, mTruth, truth, mTNot, mTAnd, mTOr, mAndV, mOrV, mNotV, mIf, mChain, mgNm, mAsgT, mgTup, mgCons, mgNil, iop, pAdd, pSub, pMul, pDiv, pMod, pNeg, pLt, pLe, pGt, pGe, pEq, pNe, pAddI, pMulS, pIs, pIsNot, isP, pIn, pNotIn, inP, flatP, cmpOk, cmpOks, eqP, eqPs, pIx, fLen, fAbs, fInt, fMin2, fMax2, fOrd, fList, fTuple, fIsi, tyName, AV.slot, runF, Res.nox, RV.out, outsOf, SV.lent, range1e, range2e, range3e, range4e, isi_NoneType_int, isi_NoneType_bool, isi_NoneType_str, isi_NoneType_tuple, isi_NoneType_list, isi_bool_int, isi_bool_bool, isi_bool_str, isi_bool_tuple, isi_bool_list, isi_int_int, isi_int_bool, isi_int_str, isi_int_tuple, isi_int_list, isi_str_int, isi_str_bool, isi_str_str, isi_str_tuple, isi_str_list, isi_tuple_int, isi_tuple_bool, isi_tuple_str, isi_tuple_tuple, isi_tuple_list, isi_list_int, isi_list_bool, isi_list_str, isi_list_tuple, isi_list_list, isi_dict_int, isi_dict_bool, isi_dict_str, isi_dict_tuple, isi_dict_list])).trans ?_
      refine (seq_nx (ρ1 := [some (.val (.tup xs)), none, none, none]) (by simp [Res.bind, mSeq, mNx, mRet, mRetNm, mRetN, mIfS, mNever, mAsg, setR, setV, setO, isPar, mAug, mDrop, mAppend, mExtend, ownL?, ownO, setC, RV.lst?, mSrc, itemsOf, mOp, RV.fz, OB.pv, mBor, mNm, mK, mNew, mBin, mUn, deref, liftO, mANil, mACons, mApp, derefs, vals?, RV.val?, small, mTup, mLst, mCall, lone, avsOf, avOf, backs, findArg, back1, RV.bor?, mTest, RV.bl?, mTruth, truth, mTNot, mTAnd, mTOr, mAndV, mOrV, mNotV, mIf, mChain, mgNm, mAsgT, mgTup, mgCons, mgNil, iop, pAdd, pSub, pMul, pDiv, pMod, pNeg, pLt, pLe, pGt, pGe, pEq, pNe, pAddI, pMulS, pIs, pIsNot, isP, pIn, pNotIn, inP, flatP, cmpOk, cmpOks, eqP, eqPs, pIx, fLen, fAbs, fInt, fMin2, fMax2, fOrd, fList, fTuple, fIsi, tyName, AV.slot, runF, Res.nox, RV.out, outsOf, SV.lent, range1e, range2e, range3e, range4e, isi_NoneType_int, isi_NoneType_bool, isi_NoneType_str, isi_NoneType_tuple, isi_NoneType_list, isi_bool_int, isi_bool_bool, isi_bool_str, isi_bool_tuple, isi_bool_list, isi_int_int, isi_int_bool, isi_int_str, isi_int_tuple, isi_int_list, isi_str_int, isi_str_bool, isi_str_str, isi_str_tuple, isi_str_list, isi_tuple_int, isi_tuple_bool, isi_tuple_str, isi_tuple_tuple, isi_tuple_list, isi_list_int, isi_list_bool, isi_list_str, isi_list_tuple, isi_list_list, isi_dict_int, isi_dict_bool, isi_dict_str, isi_dict_tuple, isi_dict_list])).trans ?_
      refine (seq_nx (ρ1 := [some (.val (.tup xs)), none, none, none]) (by simp [Res.bind, mSeq, mNx, mRet, mRetNm, mRetN, mIfS, mNever, mAsg, setR, setV, setO, isPar, mAug, mDrop, mAppend, mExtend, ownL?, ownO, setC, RV.lst?, mSrc, itemsOf, mOp, RV.fz, OB.pv, mBor, mNm, mK, mNew, mBin, mUn, deref, liftO, mANil, mACons, mApp, derefs, vals?, RV.val?, small, mTup, mLst, mCall, lone, avsOf, avOf, backs, findArg, back1, RV.bor?, mTest, RV.bl?, mTruth, truth, mTNot, mTAnd, mTOr, mAndV, mOrV, mNotV, mIf, mChain, mgNm, mAsgT, mgTup, mgCons, mgNil, iop, pAdd, pSub, pMul, pDiv, pMod, pNeg, pLt, pLe, pGt, pGe, pEq, pNe, pAddI, pMulS, pIs, pIsNot, isP, pIn, pNotIn, inP, flatP, cmpOk, cmpOks, eqP, eqPs, pIx, fLen, fAbs, fInt, fMin2, fMax2, fOrd, fList, fTuple, fIsi, tyName, AV.slot, runF, Res.nox, RV.out, outsOf, SV.lent, range1e, range2e, range3e, range4e, isi_NoneType_int, isi_NoneType_bool, isi_NoneType_str, isi_NoneType_tuple, isi_NoneType_list, isi_bool_int, isi_bool_bool, isi_bool_str, isi_bool_tuple, isi_bool_list, isi_int_int, isi_int_bool, isi_int_str, isi_int_tuple, isi_int_list, isi_str_int, isi_str_bool, isi_str_str, isi_str_tuple, isi_str_list, isi_tuple_int, isi_tuple_bool, isi_tuple_str, isi_tuple_tuple, isi_tuple_list, isi_list_int, isi_list_bool, isi_list_str, isi_list_tuple, isi_list_list, isi_dict_int, isi_dict_bool, isi_dict_str, isi_dict_tuple, isi_dict_list])).trans ?_
      refine (seq_nx (ρ1 := [some (.val (.tup xs)), none, none, none]) (by simp [Res.bind, mSeq, mNx, mRet, mRetNm, mRetN, mIfS, mNever, mAsg, setR, setV, setO, isPar, mAug, mDrop, mAppend, mExtend, ownL?, ownO, setC, RV.lst?, mSrc, itemsOf, mOp, RV.fz, OB.pv, mBor, mNm, mK, mNew, mBin, mUn, deref, liftO, mANil, mACons, mApp, derefs, vals?, RV.val?, small, mTup, mLst, mCall, lone, avsOf, avOf, backs, findArg, back1, RV.bor?, mTest, RV.bl?, mTruth, truth, mTNot, mTAnd, mTOr, mAndV, mOrV, mNotV, mIf, mChain, mgNm, mAsgT, mgTup, mgCons, mgNil, iop, pAdd, pSub, pMul, pDiv, pMod, pNeg, pLt, pLe, pGt, pGe, pEq, pNe, pAddI, pMulS, pIs, pIsNot, isP, pIn, pNotIn, inP, flatP, cmpOk, cmpOks, eqP, eqPs, pIx, fLen, fAbs, fInt, fMin2, fMax2, fOrd, fList, fTuple, fIsi, tyName, AV.slot, runF, Res.nox, RV.out, outsOf, SV.lent, range1e, range2e, range3e, range4e, isi_NoneType_int, isi_NoneType_bool, isi_NoneType_str, isi_NoneType_tuple, isi_NoneType_list, isi_bool_int, isi_bool_bool, isi_bool_str, isi_bool_tuple, isi_bool_list, isi_int_int, isi_int_bool, isi_int_str, isi_int_tuple, isi_int_list, isi_str_int, isi_str_bool, isi_str_str, isi_str_tuple, isi_str_list, isi_tuple_int, isi_tuple_bool, isi_tuple_str, isi_tuple_tuple, isi_tuple_list, isi_list_int, isi_list_bool, isi_list_str, isi_list_tuple, isi_list_list, isi_dict_int, isi_dict_bool, isi_dict_str, isi_dict_tuple, isi_dict_list])).trans ?_
      refine (seq_nx (ρ1 := [some (.val (.tup xs)), some (.own (.lst ((4 :: dg xs.length).map PV.int))), none, none]) (asg_of (ρ1 := [some (.val (.tup xs)), none, none, none]) (r := .new (.lst ([.int 4] ++ (dg xs.length).map PV.int))) (bin_new (ρ1 := [some (.val (.tup xs)), none, none, none]) (by simp [Res.bind, mSeq, mNx, mRet, mRetNm, mRetN, mIfS, mNever, mAsg, setR, setV, setO, isPar, mAug, mDrop, mAppend, mExtend, ownL?, ownO, setC, RV.lst?, mSrc, itemsOf, mOp, RV.fz, OB.pv, mBor, mNm, mK, mNew, mBin, mUn, deref, liftO, mANil, mACons, mApp, derefs, vals?, RV.val?, small, mTup, mLst, mCall, lone, avsOf, avOf, backs, findArg, back1, RV.bor?, mTest, RV.bl?, mTruth, truth, mTNot, mTAnd, mTOr, mAndV, mOrV, mNotV, mIf, mChain, mgNm, mAsgT, mgTup, mgCons, mgNil, iop, pAdd, pSub, pMul, pDiv, pMod, pNeg, pLt, pLe, pGt, pGe, pEq, pNe, pAddI, pMulS, pIs, pIsNot, isP, pIn, pNotIn, inP, flatP, cmpOk, cmpOks, eqP, eqPs, pIx, fLen, fAbs, fInt, fMin2, fMax2, fOrd, fList, fTuple, fIsi, tyName, AV.slot, runF, Res.nox, RV.out, outsOf, SV.lent, range1e, range2e, range3e, range4e, isi_NoneType_int, isi_NoneType_bool, isi_NoneType_str, isi_NoneType_tuple, isi_NoneType_list, isi_bool_int, isi_bool_bool, isi_bool_str, isi_bool_tuple, isi_bool_list, isi_int_int, isi_int_bool, isi_int_str, isi_int_tuple, isi_int_list, isi_str_int, isi_str_bool, isi_str_str, isi_str_tuple, isi_str_list, isi_tuple_int, isi_tuple_bool, isi_tuple_str, isi_tuple_tuple, isi_tuple_list, isi_list_int, isi_list_bool, isi_list_str, isi_list_tuple, isi_list_list, isi_dict_int, isi_dict_bool, isi_dict_str, isi_dict_tuple, isi_dict_list]) (call1 (p := .int xs.length) (by simp [Res.bind, mSeq, mNx, mRet, mRetNm, mRetN, mIfS, mNever, mAsg, setR, setV, setO, isPar, mAug, mDrop, mAppend, mExtend, ownL?, ownO, setC, RV.lst?, mSrc, itemsOf, mOp, RV.fz, OB.pv, mBor, mNm, mK, mNew, mBin, mUn, deref, liftO, mANil, mACons, mApp, derefs, vals?, RV.val?, small, mTup, mLst, mCall, lone, avsOf, avOf, backs, findArg, back1, RV.bor?, mTest, RV.bl?, mTruth, truth, mTNot, mTAnd, mTOr, mAndV, mOrV, mNotV, mIf, mChain, mgNm, mAsgT, mgTup, mgCons, mgNil, iop, pAdd, pSub, pMul, pDiv, pMod, pNeg, pLt, pLe, pGt, pGe, pEq, pNe, pAddI, pMulS, pIs, pIsNot, isP, pIn, pNotIn, inP, flatP, cmpOk, cmpOks, eqP, eqPs, pIx, fLen, fAbs, fInt, fMin2, fMax2, fOrd, fList, fTuple, fIsi, tyName, AV.slot, runF, Res.nox, RV.out, outsOf, SV.lent, range1e, range2e, range3e, range4e, isi_NoneType_int, isi_NoneType_bool, isi_NoneType_str, isi_NoneType_tuple, isi_NoneType_list, isi_bool_int, isi_bool_bool, isi_bool_str, isi_bool_tuple, isi_bool_list, isi_int_int, isi_int_bool, isi_int_str, isi_int_tuple, isi_int_list, isi_str_int, isi_str_bool, isi_str_str, isi_str_tuple, isi_str_list, isi_tuple_int, isi_tuple_bool, isi_tuple_str, isi_tuple_tuple, isi_tuple_list, isi_list_int, isi_list_bool, isi_list_str, isi_list_tuple, isi_list_list, isi_dict_int, isi_dict_bool, isi_dict_str, isi_dict_tuple, isi_dict_list]) hc) ?_) (by simp [Res.bind, mSeq, mNx, mRet, mRetNm, mRetN, mIfS, mNever, mAsg, setR, setV, setO, isPar, mAug, mDrop, mAppend, mExtend, ownL?, ownO, setC, RV.lst?, mSrc, itemsOf, mOp, RV.fz, OB.pv, mBor, mNm, mK, mNew, mBin, mUn, deref, liftO, mANil, mACons, mApp, derefs, vals?, RV.val?, small, mTup, mLst, mCall, lone, avsOf, avOf, backs, findArg, back1, RV.bor?, mTest, RV.bl?, mTruth, truth, mTNot, mTAnd, mTOr, mAndV, mOrV, mNotV, mIf, mChain, mgNm, mAsgT, mgTup, mgCons, mgNil, iop, pAdd, pSub, pMul, pDiv, pMod, pNeg, pLt, pLe, pGt, pGe, pEq, pNe, pAddI, pMulS, pIs, pIsNot, isP, pIn, pNotIn, inP, flatP, cmpOk, cmpOks, eqP, eqPs, pIx, fLen, fAbs, fInt, fMin2, fMax2, fOrd, fList, fTuple, fIsi, tyName, AV.slot, runF, Res.nox, RV.out, outsOf, SV.lent, range1e, range2e, range3e, range4e, isi_NoneType_int, isi_NoneType_bool, isi_NoneType_str, isi_NoneType_tuple, isi_NoneType_list, isi_bool_int, isi_bool_bool, isi_bool_str, isi_bool_tuple, isi_bool_list, isi_int_int, isi_int_bool, isi_int_str, isi_int_tuple, isi_int_list, isi_str_int, isi_str_bool, isi_str_str, isi_str_tuple, isi_str_list, isi_tuple_int, isi_tuple_bool, isi_tuple_str, isi_tuple_tuple, isi_tuple_list, isi_list_int, isi_list_bool, isi_list_str, isi_list_tuple, isi_list_list, isi_dict_int, isi_dict_bool, isi_dict_str, isi_dict_tuple, isi_dict_list]))).trans ?_
      · exact szOk_of (by simp only [List.length_cons, List.length_map, List.length_append, List.length_nil]; omega)
      · refine (seq_nx ?_).trans (show mRetNm 1 [some (.val (.tup xs)), some (.own (.lst ((4 :: dg xs.length ++ encs xs).map PV.int))), tv'.map SV.val, none] = _ from ?_)
        · exact (mfor_of (xs := xs) (ρ1 := [some (.val (.tup xs)), some (.own (.lst ((4 :: dg xs.length).map PV.int))), none, none]) (by simp [Res.bind, mSeq, mNx, mRet, mRetNm, mRetN, mIfS, mNever, mAsg, setR, setV, setO, isPar, mAug, mDrop, mAppend, mExtend, ownL?, ownO, setC, RV.lst?, mSrc, itemsOf, mOp, RV.fz, OB.pv, mBor, mNm, mK, mNew, mBin, mUn, deref, liftO, mANil, mACons, mApp, derefs, vals?, RV.val?, small, mTup, mLst, mCall, lone, avsOf, avOf, backs, findArg, back1, RV.bor?, mTest, RV.bl?, mTruth, truth, mTNot, mTAnd, mTOr, mAndV, mOrV, mNotV, mIf, mChain, mgNm, mAsgT, mgTup, mgCons, mgNil, iop, pAdd, pSub, pMul, pDiv, pMod, pNeg, pLt, pLe, pGt, pGe, pEq, pNe, pAddI, pMulS, pIs, pIsNot, isP, pIn, pNotIn, inP, flatP, cmpOk, cmpOks, eqP, eqPs, pIx, fLen, fAbs, fInt, fMin2, fMax2, fOrd, fList, fTuple, fIsi, tyName, AV.slot, runF, Res.nox, RV.out, outsOf, SV.lent, range1e, range2e, range3e, range4e, isi_NoneType_int, isi_NoneType_bool, isi_NoneType_str, isi_NoneType_tuple, isi_NoneType_list, isi_bool_int, isi_bool_bool, isi_bool_str, isi_bool_tuple, isi_bool_list, isi_int_int, isi_int_bool, isi_int_str, isi_int_tuple, isi_int_list, isi_str_int, isi_str_bool, isi_str_str, isi_str_tuple, isi_str_list, isi_tuple_int, isi_tuple_bool, isi_tuple_str, isi_tuple_tuple, isi_tuple_list, isi_list_int, isi_list_bool, isi_list_str, isi_list_tuple, isi_list_list, isi_dict_int, isi_dict_bool, isi_dict_str, isi_dict_tuple, isi_dict_list])).trans e
        · simp [Res.bind, mSeq, mNx, mRet, mRetNm, mRetN, mIfS, mNever, mAsg, setR, setV, setO, isPar, mAug, mDrop, mAppend, mExtend, ownL?, ownO, setC, RV.lst?, mSrc, itemsOf, mOp, RV.fz, OB.pv, mBor, mNm, mK, mNew, mBin, mUn, deref, liftO, mANil, mACons, mApp, derefs, vals?, RV.val?, small, mTup, mLst, mCall, lone, avsOf, avOf, backs, findArg, back1, RV.bor?, mTest, RV.bl?, mTruth, truth, mTNot, mTAnd, mTOr, mAndV, mOrV, mNotV, mIf, mChain, mgNm, mAsgT, mgTup, mgCons, mgNil, iop, pAdd, pSub, pMul, pDiv, pMod, pNeg, pLt, pLe, pGt, pGe, pEq, pNe, pAddI, pMulS, pIs, pIsNot, isP, pIn, pNotIn, inP, flatP, cmpOk, cmpOks, eqP, eqPs, pIx, fLen, fAbs, fInt, fMin2, fMax2, fOrd, fList, fTuple, fIsi, tyName, AV.slot, runF, Res.nox, RV.out, outsOf, SV.lent, range1e, range2e, range3e, range4e, isi_NoneType_int, isi_NoneType_bool, isi_NoneType_str, isi_NoneType_tuple, isi_NoneType_list, isi_bool_int, isi_bool_bool, isi_bool_str, isi_bool_tuple, isi_bool_list, isi_int_int, isi_int_bool, isi_int_str, isi_int_tuple, isi_int_list, isi_str_int, isi_str_bool, isi_str_str, isi_str_tuple, isi_str_list, isi_tuple_int, isi_tuple_bool, isi_tuple_str, isi_tuple_tuple, isi_tuple_list, isi_list_int, isi_list_bool, isi_list_str, isi_list_tuple, isi_list_list, isi_dict_int, isi_dict_bool, isi_dict_str, isi_dict_tuple, isi_dict_list, enc]
  | _ => unfold okV at ok; cases ok
end K80

set_option Elab.async false
set_option linter.all false
set_option maxRecDepth 100000
set_option exponentiation.threshold 100000
namespace K80
open PySem Pu
variable {C : Addr} {t : Tb}
theorem lo_loop (v : PV) : ∀ (xs : List PV) (r : List Int) (tv : Option PV), (∀ x ∈ xs, t.law_octets [.val x] = .ok (.new (.lst ((enc x).map PV.int)), [none])) → r.length + (encs xs).length ≤ 16777216 →
    ∃ tv' : Option PV, Pu.forM (mgNm 2) (mAsg 1 (mBin pAdd (mBor 1) (mCall t.law_octets (mACons (mNm 2) mANil)))) xs [some (.val v), some (.own (.lst (r.map PV.int))), tv.map SV.val, none] = .ok (.nx, [some (.val v), some (.own (.lst ((r ++ encs xs).map PV.int))), tv'.map SV.val, none])
  | [], r, tv, _, _ => ⟨tv, by simp [Pu.forM, encs]⟩
  | x :: xs, r, tv, h, hz => by
    have hx := h x (List.mem_cons_self ..)
    unfold encs at hz
    rw [List.length_append] at hz
    obtain ⟨tv', e⟩ := lo_loop v xs (r ++ enc x) (some x) (fun y hy => h y (List.mem_cons_of_mem _ hy)) (by rw [List.length_append]; omega)
    refine ⟨tv', ?_⟩
    have c : r.length + (enc x).length ≤ 16777216 := by omega
    rw [for_cons (ρ1 := [some (.val v), some (.own (.lst (r.map PV.int))), some (.val x), none]) (ρ2 := [some (.val v), some (.own (.lst ((r ++ enc x).map PV.int))), some (.val x), none]) (by cases tv <;> simp [Res.bind, mSeq, mNx, mRet, mRetNm, mRetN, mIfS, mNever, mAsg, setR, setV, setO, isPar, mAug, mDrop, mAppend, mExtend, ownL?, ownO, setC, RV.lst?, mSrc, itemsOf, mOp, RV.fz, OB.pv, mBor, mNm, mK, mNew, mBin, mUn, deref, liftO, mANil, mACons, mApp, derefs, vals?, RV.val?, small, mTup, mLst, mCall, lone, avsOf, avOf, backs, findArg, back1, RV.bor?, mTest, RV.bl?, mTruth, truth, mTNot, mTAnd, mTOr, mAndV, mOrV, mNotV, mIf, mChain, mgNm, mAsgT, mgTup, mgCons, mgNil, iop, pAdd, pSub, pMul, pDiv, pMod, pNeg, pLt, pLe, pGt, pGe, pEq, pNe, pAddI, pMulS, pIs, pIsNot, isP, pIn, pNotIn, inP, flatP, cmpOk, cmpOks, eqP, eqPs, pIx, fLen, fAbs, fInt, fMin2, fMax2, fOrd, fList, fTuple, fIsi, tyName, AV.slot, runF, Res.nox, RV.out, outsOf, SV.lent, range1e, range2e, range3e, range4e, isi_NoneType_int, isi_NoneType_bool, isi_NoneType_str, isi_NoneType_tuple, isi_NoneType_list, isi_bool_int, isi_bool_bool, isi_bool_str, isi_bool_tuple, isi_bool_list, isi_int_int, isi_int_bool, isi_int_str, isi_int_tuple, isi_int_list, isi_str_int, isi_str_bool, isi_str_str, isi_str_tuple, isi_str_list, isi_tuple_int, isi_tuple_bool, isi_tuple_str, isi_tuple_tuple, isi_tuple_list, isi_list_int, isi_list_bool, isi_list_str, isi_list_tuple, isi_list_list, isi_dict_int, isi_dict_bool, isi_dict_str, isi_dict_tuple, isi_dict_list]) ?_]
    · rw [show encs (x :: xs) = enc x ++ encs xs from rfl, ← List.append_assoc]
      exact e
    · have e1 : mCall t.law_octets (mACons (mNm 2) mANil) [some (.val v), some (.own (.lst (r.map PV.int))), some (.val x), none] = .ok (.new (.lst ((enc x).map PV.int)), [some (.val v), some (.own (.lst (r.map PV.int))), some (.val x), none]) := call1 (p := x) (by simp [Res.bind, mSeq, mNx, mRet, mRetNm, mRetN, mIfS, mNever, mAsg, setR, setV, setO, isPar, mAug, mDrop, mAppend, mExtend, ownL?, ownO, setC, RV.lst?, mSrc, itemsOf, mOp, RV.fz, OB.pv, mBor, mNm, mK, mNew, mBin, mUn, deref, liftO, mANil, mACons, mApp, derefs, vals?, RV.val?, small, mTup, mLst, mCall, lone, avsOf, avOf, backs, findArg, back1, RV.bor?, mTest, RV.bl?, mTruth, truth, mTNot, mTAnd, mTOr, mAndV, mOrV, mNotV, mIf, mChain, mgNm, mAsgT, mgTup, mgCons, mgNil, iop, pAdd, pSub, pMul, pDiv, pMod, pNeg, pLt, pLe, pGt, pGe, pEq, pNe, pAddI, pMulS, pIs, pIsNot, isP, pIn, pNotIn, inP, flatP, cmpOk, cmpOks, eqP, eqPs, pIx, fLen, fAbs, fInt, fMin2, fMax2, fOrd, fList, fTuple, fIsi, tyName, AV.slot, runF, Res.nox, RV.out, outsOf, SV.lent, range1e, range2e, range3e, range4e, isi_NoneType_int, isi_NoneType_bool, isi_NoneType_str, isi_NoneType_tuple, isi_NoneType_list, isi_bool_int, isi_bool_bool, isi_bool_str, isi_bool_tuple, isi_bool_list, isi_int_int, isi_int_bool, isi_int_str, isi_int_tuple, isi_int_list, isi_str_int, isi_str_bool, isi_str_str, isi_str_tuple, isi_str_list, isi_tuple_int, isi_tuple_bool, isi_tuple_str, isi_tuple_tuple, isi_tuple_list, isi_list_int, isi_list_bool, isi_list_str, isi_list_tuple, isi_list_list, isi_dict_int, isi_dict_bool, isi_dict_str, isi_dict_tuple, isi_dict_list]) hx
      have e2 : mBin pAdd (mBor 1) (mCall t.law_octets (mACons (mNm 2) mANil)) [some (.val v), some (.own (.lst (r.map PV.int))), some (.val x), none] = .ok (.new (.lst (r.map PV.int ++ (enc x).map PV.int)), [some (.val v), some (.own (.lst (r.map PV.int))), some (.val x), none]) := by
        have e0 : mOp (mBor 1) [some (.val v), some (.own (.lst (r.map PV.int))), some (.val x), none] = .ok (.bor 1, [some (.val v), some (.own (.lst (r.map PV.int))), some (.val x), none]) := rfl
        have e3 : mOp (mCall t.law_octets (mACons (mNm 2) mANil)) [some (.val v), some (.own (.lst (r.map PV.int))), some (.val x), none] = .ok (.val (.lst ((enc x).map PV.int)), [some (.val v), some (.own (.lst (r.map PV.int))), some (.val x), none]) := by
          unfold mOp
          rw [e1]
          rfl
        unfold mBin
        rw [e0, Res.bind_ok]
        dsimp only
        rw [e3]
        simp [deref, OB.pv, pAdd, liftO, Res.bind, szOk, c]
      exact asg_of e2 (by simp [Res.bind, mSeq, mNx, mRet, mRetNm, mRetN, mIfS, mNever, mAsg, setR, setV, setO, isPar, mAug, mDrop, mAppend, mExtend, ownL?, ownO, setC, RV.lst?, mSrc, itemsOf, mOp, RV.fz, OB.pv, mBor, mNm, mK, mNew, mBin, mUn, deref, liftO, mANil, mACons, mApp, derefs, vals?, RV.val?, small, mTup, mLst, mCall, lone, avsOf, avOf, backs, findArg, back1, RV.bor?, mTest, RV.bl?, mTruth, truth, mTNot, mTAnd, mTOr, mAndV, mOrV, mNotV, mIf, mChain, mgNm, mAsgT, mgTup, mgCons, mgNil, iop, pAdd, pSub, pMul, pDiv, pMod, pNeg, pLt, pLe, pGt, pGe, pEq, pNe, pAddI, pMulS, pIs, pIsNot, isP, pIn, pNotIn, inP, flatP, cmpOk, cmpOks, eqP, eqPs, pIx, fLen, fAbs, fInt, fMin2, fMax2, fOrd, fList, fTuple, fIsi, tyName, AV.slot, runF, Res.nox, RV.out, outsOf, SV.lent, range1e, range2e, range3e, range4e, isi_NoneType_int, isi_NoneType_bool, isi_NoneType_str, isi_NoneType_tuple, isi_NoneType_list, isi_bool_int, isi_bool_bool, isi_bool_str, isi_bool_tuple, isi_bool_list, isi_int_int, isi_int_bool, isi_int_str, isi_int_tuple, isi_int_list, isi_str_int, isi_str_bool, isi_str_str, isi_str_tuple, isi_str_list, isi_tuple_int, isi_tuple_bool, isi_tuple_str, isi_tuple_tuple, isi_tuple_list, isi_list_int, isi_list_bool, isi_list_str, isi_list_tuple, isi_list_list, isi_dict_int, isi_dict_bool, isi_dict_str, isi_dict_tuple, isi_dict_list])
theorem lo_step (hd : DigOk t.law_digits) : ∀ (n : Nat) (v : PV), okV n v = true → (enc v).length ≤ 16777216 → (∀ xs, v = .tup xs → ∀ x ∈ xs, t.law_octets [.val x] = .ok (.new (.lst ((enc x).map PV.int)), [none])) →
    (stepT C t).law_octets [.val v] = .ok (.new (.lst ((enc v).map PV.int)), [none]) := by
  intro n v ok hz hx
  cases v with
  | non => simp [Res.bind, mSeq, mNx, mRet, mRetNm, mRetN, mIfS, mNever, mAsg, setR, setV, setO, isPar, mAug, mDrop, mAppend, mExtend, ownL?, ownO, setC, RV.lst?, mSrc, itemsOf, mOp, RV.fz, OB.pv, mBor, mNm, mK, mNew, mBin, mUn, deref, liftO, mANil, mACons, mApp, derefs, vals?, RV.val?, small, mTup, mLst, mCall, lone, avsOf, avOf, backs, findArg, back1, RV.bor?, mTest, RV.bl?, mTruth, truth, mTNot, mTAnd, mTOr, mAndV, mOrV, mNotV, mIf, mChain, mgNm, mAsgT, mgTup, mgCons, mgNil, iop, pAdd, pSub, pMul, pDiv, pMod, pNeg, pLt, pLe, pGt, pGe, pEq, pNe, pAddI, pMulS, pIs, pIsNot, isP, pIn, pNotIn, inP, flatP, cmpOk, cmpOks, eqP, eqPs, pIx, fLen, fAbs, fInt, fMin2, fMax2, fOrd, fList, fTuple, fIsi, tyName, AV.slot, runF, Res.nox, RV.out, outsOf, SV.lent, range1e, range2e, range3e, range4e, isi_NoneType_int, isi_NoneType_bool, isi_NoneType_str, isi_NoneType_tuple, isi_NoneType_list, isi_bool_int, isi_bool_bool, isi_bool_str, isi_bool_tuple, isi_bool_list, isi_int_int, isi_int_bool, isi_int_str, isi_int_tuple, isi_int_list, isi_str_int, isi_str_bool, isi_str_str, isi_str_tuple, isi_str_list, isi_tuple_int, isi_tuple_bool, isi_tuple_str, isi_tuple_tuple, isi_tuple_list, isi_list_int, isi_list_bool, isi_list_str, isi_list_tuple, isi_list_list, isi_dict_int, isi_dict_bool, isi_dict_str, isi_dict_tuple, isi_dict_list, stepT, b_law_octets, enc]
  | bl b => cases b <;> simp [Res.bind, mSeq, mNx, mRet, mRetNm, mRetN, mIfS, mNever, mAsg, setR, setV, setO, isPar, mAug, mDrop, mAppend, mExtend, ownL?, ownO, setC, RV.lst?, mSrc, itemsOf, mOp, RV.fz, OB.pv, mBor, mNm, mK, mNew, mBin, mUn, deref, liftO, mANil, mACons, mApp, derefs, vals?, RV.val?, small, mTup, mLst, mCall, lone, avsOf, avOf, backs, findArg, back1, RV.bor?, mTest, RV.bl?, mTruth, truth, mTNot, mTAnd, mTOr, mAndV, mOrV, mNotV, mIf, mChain, mgNm, mAsgT, mgTup, mgCons, mgNil, iop, pAdd, pSub, pMul, pDiv, pMod, pNeg, pLt, pLe, pGt, pGe, pEq, pNe, pAddI, pMulS, pIs, pIsNot, isP, pIn, pNotIn, inP, flatP, cmpOk, cmpOks, eqP, eqPs, pIx, fLen, fAbs, fInt, fMin2, fMax2, fOrd, fList, fTuple, fIsi, tyName, AV.slot, runF, Res.nox, RV.out, outsOf, SV.lent, range1e, range2e, range3e, range4e, isi_NoneType_int, isi_NoneType_bool, isi_NoneType_str, isi_NoneType_tuple, isi_NoneType_list, isi_bool_int, isi_bool_bool, isi_bool_str, isi_bool_tuple, isi_bool_list, isi_int_int, isi_int_bool, isi_int_str, isi_int_tuple, isi_int_list, isi_str_int, isi_str_bool, isi_str_str, isi_str_tuple, isi_str_list, isi_tuple_int, isi_tuple_bool, isi_tuple_str, isi_tuple_tuple, isi_tuple_list, isi_list_int, isi_list_bool, isi_list_str, isi_list_tuple, isi_list_list, isi_dict_int, isi_dict_bool, isi_dict_str, isi_dict_tuple, isi_dict_list, stepT, b_law_octets, enc]
  | int i =>
    have ok0 : okV 0 (.int i) = true := by
      unfold okV at ok ⊢
      exact ok
    obtain ⟨h1, h2⟩ := int950 ok0
    refine run_rt (r := .new (.lst ((enc (.int i)).map PV.int))) (ρ1 := [some (.val (.int i)), none, none, none]) [some (.val (.int i)), none, none, none] rfl ?_ rfl
    refine (seq_nx (ρ1 := [some (.val (.int i)), none, none, none]) (by simp [Res.bind, mSeq, mNx, mRet, mRetNm, mRetN, mIfS, mNever, mAsg, setR, setV, setO, isPar, mAug, mDrop, mAppend, mExtend, ownL?, ownO, setC, RV.lst?, mSrc, itemsOf, mOp, RV.fz, OB.pv, mBor, mNm, mK, mNew, mBin, mUn, deref, liftO, mANil, mACons, mApp, derefs, vals?, RV.val?, small, mTup, mLst, mCall, lone, avsOf, avOf, backs, findArg, back1, RV.bor?, mTest, RV.bl?, mTruth, truth, mTNot, mTAnd, mTOr, mAndV, mOrV, mNotV, mIf, mChain, mgNm, mAsgT, mgTup, mgCons, mgNil, iop, pAdd, pSub, pMul, pDiv, pMod, pNeg, pLt, pLe, pGt, pGe, pEq, pNe, pAddI, pMulS, pIs, pIsNot, isP, pIn, pNotIn, inP, flatP, cmpOk, cmpOks, eqP, eqPs, pIx, fLen, fAbs, fInt, fMin2, fMax2, fOrd, fList, fTuple, fIsi, tyName, AV.slot, runF, Res.nox, RV.out, outsOf, SV.lent, range1e, range2e, range3e, range4e, isi_NoneType_int, isi_NoneType_bool, isi_NoneType_str, isi_NoneType_tuple, isi_NoneType_list, isi_bool_int, isi_bool_bool, isi_bool_str, isi_bool_tuple, isi_bool_list, isi_int_int, isi_int_bool, isi_int_str, isi_int_tuple, isi_int_list, isi_str_int, isi_str_bool, isi_str_str, isi_str_tuple, isi_str_list, isi_tuple_int, isi_tuple_bool, isi_tuple_str, isi_tuple_tuple, isi_tuple_list, isi_list_int, isi_list_bool, isi_list_str, isi_list_tuple, isi_list_list, isi_dict_int, isi_dict_bool, isi_dict_str, isi_dict_tuple, isi_dict_list])).trans ?_
    refine seq_rt ?_
    refine (ifs_t (ρ1 := [some (.val (.int i)), none, none, none]) (by simp [Res.bind, mSeq, mNx, mRet, mRetNm, mRetN, mIfS, mNever, mAsg, setR, setV, setO, isPar, mAug, mDrop, mAppend, mExtend, ownL?, ownO, setC, RV.lst?, mSrc, itemsOf, mOp, RV.fz, OB.pv, mBor, mNm, mK, mNew, mBin, mUn, deref, liftO, mANil, mACons, mApp, derefs, vals?, RV.val?, small, mTup, mLst, mCall, lone, avsOf, avOf, backs, findArg, back1, RV.bor?, mTest, RV.bl?, mTruth, truth, mTNot, mTAnd, mTOr, mAndV, mOrV, mNotV, mIf, mChain, mgNm, mAsgT, mgTup, mgCons, mgNil, iop, pAdd, pSub, pMul, pDiv, pMod, pNeg, pLt, pLe, pGt, pGe, pEq, pNe, pAddI, pMulS, pIs, pIsNot, isP, pIn, pNotIn, inP, flatP, cmpOk, cmpOks, eqP, eqPs, pIx, fLen, fAbs, fInt, fMin2, fMax2, fOrd, fList, fTuple, fIsi, tyName, AV.slot, runF, Res.nox, RV.out, outsOf, SV.lent, range1e, range2e, range3e, range4e, isi_NoneType_int, isi_NoneType_bool, isi_NoneType_str, isi_NoneType_tuple, isi_NoneType_list, isi_bool_int, isi_bool_bool, isi_bool_str, isi_bool_tuple, isi_bool_list, isi_int_int, isi_int_bool, isi_int_str, isi_int_tuple, isi_int_list, isi_str_int, isi_str_bool, isi_str_str, isi_str_tuple, isi_str_list, isi_tuple_int, isi_tuple_bool, isi_tuple_str, isi_tuple_tuple, isi_tuple_list, isi_list_int, isi_list_bool, isi_list_str, isi_list_tuple, isi_list_list, isi_dict_int, isi_dict_bool, isi_dict_str, isi_dict_tuple, isi_dict_list])).trans ?_
    refine ret_of ?_
    unfold enc at hz ⊢
    by_cases hi : 0 ≤ i
    · rw [if_pos hi] at hz ⊢
      have e : i = ((i.toNat : Nat) : Int) := by omega
      have hc := hd i.toNat (h1 hi)
      rw [← e] at hc
      have : mIf (mTest (mBin pGe (mBor 0) (mK (.int 0)))) (mBin pAdd (mLst (mACons (mK (.int 1)) mANil)) (mCall t.law_digits (mACons (mNm 0) mANil))) (mBin pAdd (mLst (mACons (mK (.int 2)) mANil)) (mCall t.law_digits (mACons (mBin pSub (mUn pNeg (mBor 0)) (mK (.int 1))) mANil))) [some (.val (.int i)), none, none, none] =
          mBin pAdd (mLst (mACons (mK (.int 1)) mANil)) (mCall t.law_digits (mACons (mNm 0) mANil)) [some (.val (.int i)), none, none, none] := by
        have hg : mTest (mBin pGe (mBor 0) (mK (.int 0))) [some (.val (.int i)), none, none, none] = .ok (true, [some (.val (.int i)), none, none, none]) := by simp [Res.bind, mSeq, mNx, mRet, mRetNm, mRetN, mIfS, mNever, mAsg, setR, setV, setO, isPar, mAug, mDrop, mAppend, mExtend, ownL?, ownO, setC, RV.lst?, mSrc, itemsOf, mOp, RV.fz, OB.pv, mBor, mNm, mK, mNew, mBin, mUn, deref, liftO, mANil, mACons, mApp, derefs, vals?, RV.val?, small, mTup, mLst, mCall, lone, avsOf, avOf, backs, findArg, back1, RV.bor?, mTest, RV.bl?, mTruth, truth, mTNot, mTAnd, mTOr, mAndV, mOrV, mNotV, mIf, mChain, mgNm, mAsgT, mgTup, mgCons, mgNil, iop, pAdd, pSub, pMul, pDiv, pMod, pNeg, pLt, pLe, pGt, pGe, pEq, pNe, pAddI, pMulS, pIs, pIsNot, isP, pIn, pNotIn, inP, flatP, cmpOk, cmpOks, eqP, eqPs, pIx, fLen, fAbs, fInt, fMin2, fMax2, fOrd, fList, fTuple, fIsi, tyName, AV.slot, runF, Res.nox, RV.out, outsOf, SV.lent, range1e, range2e, range3e, range4e, isi_NoneType_int, isi_NoneType_bool, isi_NoneType_str, isi_NoneType_tuple, isi_NoneType_list, isi_bool_int, isi_bool_bool, isi_bool_str, isi_bool_tuple, isi_bool_list, isi_int_int, isi_int_bool, isi_int_str, isi_int_tuple, isi_int_list, isi_str_int, isi_str_bool, isi_str_str, isi_str_tuple, isi_str_list, isi_tuple_int, isi_tuple_bool, isi_tuple_str, isi_tuple_tuple, isi_tuple_list, isi_list_int, isi_list_bool, isi_list_str, isi_list_tuple, isi_list_list, isi_dict_int, isi_dict_bool, isi_dict_str, isi_dict_tuple, isi_dict_list, hi]
        unfold mIf
        rw [hg]
        rfl
      refine this.trans ?_
      refine (bin_new (xs := [.int 1]) (ys := (dg i.toNat).map PV.int) (ρ1 := [some (.val (.int i)), none, none, none]) (by simp [Res.bind, mSeq, mNx, mRet, mRetNm, mRetN, mIfS, mNever, mAsg, setR, setV, setO, isPar, mAug, mDrop, mAppend, mExtend, ownL?, ownO, setC, RV.lst?, mSrc, itemsOf, mOp, RV.fz, OB.pv, mBor, mNm, mK, mNew, mBin, mUn, deref, liftO, mANil, mACons, mApp, derefs, vals?, RV.val?, small, mTup, mLst, mCall, lone, avsOf, avOf, backs, findArg, back1, RV.bor?, mTest, RV.bl?, mTruth, truth, mTNot, mTAnd, mTOr, mAndV, mOrV, mNotV, mIf, mChain, mgNm, mAsgT, mgTup, mgCons, mgNil, iop, pAdd, pSub, pMul, pDiv, pMod, pNeg, pLt, pLe, pGt, pGe, pEq, pNe, pAddI, pMulS, pIs, pIsNot, isP, pIn, pNotIn, inP, flatP, cmpOk, cmpOks, eqP, eqPs, pIx, fLen, fAbs, fInt, fMin2, fMax2, fOrd, fList, fTuple, fIsi, tyName, AV.slot, runF, Res.nox, RV.out, outsOf, SV.lent, range1e, range2e, range3e, range4e, isi_NoneType_int, isi_NoneType_bool, isi_NoneType_str, isi_NoneType_tuple, isi_NoneType_list, isi_bool_int, isi_bool_bool, isi_bool_str, isi_bool_tuple, isi_bool_list, isi_int_int, isi_int_bool, isi_int_str, isi_int_tuple, isi_int_list, isi_str_int, isi_str_bool, isi_str_str, isi_str_tuple, isi_str_list, isi_tuple_int, isi_tuple_bool, isi_tuple_str, isi_tuple_tuple, isi_tuple_list, isi_list_int, isi_list_bool, isi_list_str, isi_list_tuple, isi_list_list, isi_dict_int, isi_dict_bool, isi_dict_str, isi_dict_tuple, isi_dict_list]) (call1 (p := .int i) (by simp [Res.bind, mSeq, mNx, mRet, mRetNm, mRetN, mIfS, mNever, mAsg, setR, setV, setO, isPar, mAug, mDrop, mAppend, mExtend, ownL?, ownO, setC, RV.lst?, mSrc, itemsOf, mOp, RV.fz, OB.pv, mBor, mNm, mK, mNew, mBin, mUn, deref, liftO, mANil, mACons, mApp, derefs, vals?, RV.val?, small, mTup, mLst, mCall, lone, avsOf, avOf, backs, findArg, back1, RV.bor?, mTest, RV.bl?, mTruth, truth, mTNot, mTAnd, mTOr, mAndV, mOrV, mNotV, mIf, mChain, mgNm, mAsgT, mgTup, mgCons, mgNil, iop, pAdd, pSub, pMul, pDiv, pMod, pNeg, pLt, pLe, pGt, pGe, pEq, pNe, pAddI, pMulS, pIs, pIsNot, isP, pIn, pNotIn, inP, flatP, cmpOk, cmpOks, eqP, eqPs, pIx, fLen, fAbs, fInt, fMin2, fMax2, fOrd, fList, fTuple, fIsi, tyName, AV.slot, runF, Res.nox, RV.out, outsOf, SV.lent, range1e, range2e, range3e, range4e, isi_NoneType_int, isi_NoneType_bool, isi_NoneType_str, isi_NoneType_tuple, isi_NoneType_list, isi_bool_int, isi_bool_bool, isi_bool_str, isi_bool_tuple, isi_bool_list, isi_int_int, isi_int_bool, isi_int_str, isi_int_tuple, isi_int_list, isi_str_int, isi_str_bool, isi_str_str, isi_str_tuple, isi_str_list, isi_tuple_int, isi_tuple_bool, isi_tuple_str, isi_tuple_tuple, isi_tuple_list, isi_list_int, isi_list_bool, isi_list_str, isi_list_tuple, isi_list_list, isi_dict_int, isi_dict_bool, isi_dict_str, isi_dict_tuple, isi_dict_list]) hc) ?_).trans rfl
      rw [List.length_cons] at hz
      exact szOk_of (by simp only [List.length_cons, List.length_map, List.length_nil]; omega)
    · rw [if_neg hi] at hz ⊢
      have e : -i - 1 = (((-i - 1).toNat : Nat) : Int) := by omega
      have hc := hd (-i - 1).toNat (h2 hi)
      rw [← e] at hc
      have : mIf (mTest (mBin pGe (mBor 0) (mK (.int 0)))) (mBin pAdd (mLst (mACons (mK (.int 1)) mANil)) (mCall t.law_digits (mACons (mNm 0) mANil))) (mBin pAdd (mLst (mACons (mK (.int 2)) mANil)) (mCall t.law_digits (mACons (mBin pSub (mUn pNeg (mBor 0)) (mK (.int 1))) mANil))) [some (.val (.int i)), none, none, none] =
          mBin pAdd (mLst (mACons (mK (.int 2)) mANil)) (mCall t.law_digits (mACons (mBin pSub (mUn pNeg (mBor 0)) (mK (.int 1))) mANil)) [some (.val (.int i)), none, none, none] := by
        have hg : mTest (mBin pGe (mBor 0) (mK (.int 0))) [some (.val (.int i)), none, none, none] = .ok (false, [some (.val (.int i)), none, none, none]) := by simp [Res.bind, mSeq, mNx, mRet, mRetNm, mRetN, mIfS, mNever, mAsg, setR, setV, setO, isPar, mAug, mDrop, mAppend, mExtend, ownL?, ownO, setC, RV.lst?, mSrc, itemsOf, mOp, RV.fz, OB.pv, mBor, mNm, mK, mNew, mBin, mUn, deref, liftO, mANil, mACons, mApp, derefs, vals?, RV.val?, small, mTup, mLst, mCall, lone, avsOf, avOf, backs, findArg, back1, RV.bor?, mTest, RV.bl?, mTruth, truth, mTNot, mTAnd, mTOr, mAndV, mOrV, mNotV, mIf, mChain, mgNm, mAsgT, mgTup, mgCons, mgNil, iop, pAdd, pSub, pMul, pDiv, pMod, pNeg, pLt, pLe, pGt, pGe, pEq, pNe, pAddI, pMulS, pIs, pIsNot, isP, pIn, pNotIn, inP, flatP, cmpOk, cmpOks, eqP, eqPs, pIx, fLen, fAbs, fInt, fMin2, fMax2, fOrd, fList, fTuple, fIsi, tyName, AV.slot, runF, Res.nox, RV.out, outsOf, SV.lent, range1e, range2e, range3e, range4e, isi_NoneType_int, isi_NoneType_bool, isi_NoneType_str, isi_NoneType_tuple, isi_NoneType_list, isi_bool_int, isi_bool_bool, isi_bool_str, isi_bool_tuple, isi_bool_list, isi_int_int, isi_int_bool, isi_int_str, isi_int_tuple, isi_int_list, isi_str_int, isi_str_bool, isi_str_str, isi_str_tuple, isi_str_list, isi_tuple_int, isi_tuple_bool, isi_tuple_str, isi_tuple_tuple, isi_tuple_list, isi_list_int, isi_list_bool, isi_list_str, isi_list_tuple, isi_list_list, isi_dict_int, isi_dict_bool, isi_dict_str, isi_dict_tuple, isi_dict_list, hi]
        unfold mIf
        rw [hg]
        rfl
      refine this.trans ?_
      refine (bin_new (xs := [.int 2]) (ys := (dg (-i - 1).toNat).map PV.int) (ρ1 := [some (.val (.int i)), none, none, none]) (by simp [Res.bind, mSeq, mNx, mRet, mRetNm, mRetN, mIfS, mNever, mAsg, setR, setV, setO, isPar, mAug, mDrop, mAppend, mExtend, ownL?, ownO, setC, RV.lst?, mSrc, itemsOf, mOp, RV.fz, OB.pv, mBor, mNm, mK, mNew, mBin, mUn, deref, liftO, mANil, mACons, mApp, derefs, vals?, RV.val?, small, mTup, mLst, mCall, lone, avsOf, avOf, backs, findArg, back1, RV.bor?, mTest, RV.bl?, mTruth, truth, mTNot, mTAnd, mTOr, mAndV, mOrV, mNotV, mIf, mChain, mgNm, mAsgT, mgTup, mgCons, mgNil, iop, pAdd, pSub, pMul, pDiv, pMod, pNeg, pLt, pLe, pGt, pGe, pEq, pNe, pAddI, pMulS, pIs, pIsNot, isP, pIn, pNotIn, inP, flatP, cmpOk, cmpOks, eqP, eqPs, pIx, fLen, fAbs, fInt, fMin2, fMax2, fOrd, fList, fTuple, fIsi, tyName, AV.slot, runF, Res.nox, RV.out, outsOf, SV.lent, range1e, range2e, range3e, range4e, isi_NoneType_int, isi_NoneType_bool, isi_NoneType_str, isi_NoneType_tuple, isi_NoneType_list, isi_bool_int, isi_bool_bool, isi_bool_str, isi_bool_tuple, isi_bool_list, isi_int_int, isi_int_bool, isi_int_str, isi_int_tuple, isi_int_list, isi_str_int, isi_str_bool, isi_str_str, isi_str_tuple, isi_str_list, isi_tuple_int, isi_tuple_bool, isi_tuple_str, isi_tuple_tuple, isi_tuple_list, isi_list_int, isi_list_bool, isi_list_str, isi_list_tuple, isi_list_list, isi_dict_int, isi_dict_bool, isi_dict_str, isi_dict_tuple, isi_dict_list]) (call1 (p := .int (-i - 1)) (by simp [Res.bind, mSeq, mNx, mRet, mRetNm, mRetN, mIfS, mNever, mAsg, setR, setV, setO, isPar, mAug, mDrop, mAppend, mExtend, ownL?, ownO, setC, RV.lst?, mSrc, itemsOf, mOp, RV.fz, OB.pv, mBor, mNm, mK, mNew, mBin, mUn, deref, liftO, mANil, mACons, mApp, derefs, vals?, RV.val?, small, mTup, mLst, mCall, lone, avsOf, avOf, backs, findArg, back1, RV.bor?, mTest, RV.bl?, mTruth, truth, mTNot, mTAnd, mTOr, mAndV, mOrV, mNotV, mIf, mChain, mgNm, mAsgT, mgTup, mgCons, mgNil, iop, pAdd, pSub, pMul, pDiv, pMod, pNeg, pLt, pLe, pGt, pGe, pEq, pNe, pAddI, pMulS, pIs, pIsNot, isP, pIn, pNotIn, inP, flatP, cmpOk, cmpOks, eqP, eqPs, pIx, fLen, fAbs, fInt, fMin2, fMax2, fOrd, fList, fTuple, fIsi, tyName, AV.slot, runF, Res.nox, RV.out, outsOf, SV.lent, range1e, range2e, range3e, range4e, isi_NoneType_int, isi_NoneType_bool, isi_NoneType_str, isi_NoneType_tuple, isi_NoneType_list, isi_bool_int, isi_bool_bool, isi_bool_str, isi_bool_tuple, isi_bool_list, isi_int_int, isi_int_bool, isi_int_str, isi_int_tuple, isi_int_list, isi_str_int, isi_str_bool, isi_str_str, isi_str_tuple, isi_str_list, isi_tuple_int, isi_tuple_bool, isi_tuple_str, isi_tuple_tuple, isi_tuple_list, isi_list_int, isi_list_bool, isi_list_str, isi_list_tuple, isi_list_list, isi_dict_int, isi_dict_bool, isi_dict_str, isi_dict_tuple, isi_dict_list]) hc) ?_).trans rfl
      rw [List.length_cons] at hz
      exact szOk_of (by simp only [List.length_cons, List.length_map, List.length_nil]; omega)
  | str x =>
    unfold okV at ok
    rw [Bool.and_eq_true] at ok
    have hl := of_decide_eq_true ok.1
    refine run_rt (r := .new (.lst ((enc (.str x)).map PV.int))) (ρ1 := [some (.val (.str x)), none, none, none]) [some (.val (.str x)), none, none, none] rfl ?_ rfl
    refine (seq_nx (ρ1 := [some (.val (.str x)), none, none, none]) (by simp [Res.bind, mSeq, mNx, mRet, mRetNm, mRetN, mIfS, mNever, mAsg, setR, setV, setO, isPar, mAug, mDrop, mAppend, mExtend, ownL?, ownO, setC, RV.lst?, mSrc, itemsOf, mOp, RV.fz, OB.pv, mBor, mNm, mK, mNew, mBin, mUn, deref, liftO, mANil, mACons, mApp, derefs, vals?, RV.val?, small, mTup, mLst, mCall, lone, avsOf, avOf, backs, findArg, back1, RV.bor?, mTest, RV.bl?, mTruth, truth, mTNot, mTAnd, mTOr, mAndV, mOrV, mNotV, mIf, mChain, mgNm, mAsgT, mgTup, mgCons, mgNil, iop, pAdd, pSub, pMul, pDiv, pMod, pNeg, pLt, pLe, pGt, pGe, pEq, pNe, pAddI, pMulS, pIs, pIsNot, isP, pIn, pNotIn, inP, flatP, cmpOk, cmpOks, eqP, eqPs, pIx, fLen, fAbs, fInt, fMin2, fMax2, fOrd, fList, fTuple, fIsi, tyName, AV.slot, runF, Res.nox, RV.out, outsOf, SV.lent, range1e, range2e, range3e, range4e, isi_NoneType_int, isi_NoneType_bool, isi_NoneType_str, isi_NoneType_tuple, isi_NoneType_list, isi_bool_int, isi_bool_bool, isi_bool_str, isi_bool_tuple, isi_bool_list, isi_int_int, isi_int_bool, isi_int_str, isi_int_tuple, isi_int_list, isi_str_int, isi_str_bool, isi_str_str, isi_str_tuple, isi_str_list, isi_tuple_int, isi_tuple_bool, isi_tuple_str, isi_tuple_tuple, isi_tuple_list, isi_list_int, isi_list_bool, isi_list_str, isi_list_tuple, isi_list_list, isi_dict_int, isi_dict_bool, isi_dict_str, isi_dict_tuple, isi_dict_list])).trans ?_
    refine (seq_nx (ρ1 := [some (.val (.str x)), none, none, none]) (by simp [Res.bind, mSeq, mNx, mRet, mRetNm, mRetN, mIfS, mNever, mAsg, setR, setV, setO, isPar, mAug, mDrop, mAppend, mExtend, ownL?, ownO, setC, RV.lst?, mSrc, itemsOf, mOp, RV.fz, OB.pv, mBor, mNm, mK, mNew, mBin, mUn, deref, liftO, mANil, mACons, mApp, derefs, vals?, RV.val?, small, mTup, mLst, mCall, lone, avsOf, avOf, backs, findArg, back1, RV.bor?, mTest, RV.bl?, mTruth, truth, mTNot, mTAnd, mTOr, mAndV, mOrV, mNotV, mIf, mChain, mgNm, mAsgT, mgTup, mgCons, mgNil, iop, pAdd, pSub, pMul, pDiv, pMod, pNeg, pLt, pLe, pGt, pGe, pEq, pNe, pAddI, pMulS, pIs, pIsNot, isP, pIn, pNotIn, inP, flatP, cmpOk, cmpOks, eqP, eqPs, pIx, fLen, fAbs, fInt, fMin2, fMax2, fOrd, fList, fTuple, fIsi, tyName, AV.slot, runF, Res.nox, RV.out, outsOf, SV.lent, range1e, range2e, range3e, range4e, isi_NoneType_int, isi_NoneType_bool, isi_NoneType_str, isi_NoneType_tuple, isi_NoneType_list, isi_bool_int, isi_bool_bool, isi_bool_str, isi_bool_tuple, isi_bool_list, isi_int_int, isi_int_bool, isi_int_str, isi_int_tuple, isi_int_list, isi_str_int, isi_str_bool, isi_str_str, isi_str_tuple, isi_str_list, isi_tuple_int, isi_tuple_bool, isi_tuple_str, isi_tuple_tuple, isi_tuple_list, isi_list_int, isi_list_bool, isi_list_str, isi_list_tuple, isi_list_list, isi_dict_int, isi_dict_bool, isi_dict_str, isi_dict_tuple, isi_dict_list])).trans ?_
    refine seq_rt ?_
    refine (ifs_t (ρ1 := [some (.val (.str x)), none, none, none]) (by simp [Res.bind, mSeq, mNx, mRet, mRetNm, mRetN, mIfS, mNever, mAsg, setR, setV, setO, isPar, mAug, mDrop, mAppend, mExtend, ownL?, ownO, setC, RV.lst?, mSrc, itemsOf, mOp, RV.fz, OB.pv, mBor, mNm, mK, mNew, mBin, mUn, deref, liftO, mANil, mACons, mApp, derefs, vals?, RV.val?, small, mTup, mLst, mCall, lone, avsOf, avOf, backs, findArg, back1, RV.bor?, mTest, RV.bl?, mTruth, truth, mTNot, mTAnd, mTOr, mAndV, mOrV, mNotV, mIf, mChain, mgNm, mAsgT, mgTup, mgCons, mgNil, iop, pAdd, pSub, pMul, pDiv, pMod, pNeg, pLt, pLe, pGt, pGe, pEq, pNe, pAddI, pMulS, pIs, pIsNot, isP, pIn, pNotIn, inP, flatP, cmpOk, cmpOks, eqP, eqPs, pIx, fLen, fAbs, fInt, fMin2, fMax2, fOrd, fList, fTuple, fIsi, tyName, AV.slot, runF, Res.nox, RV.out, outsOf, SV.lent, range1e, range2e, range3e, range4e, isi_NoneType_int, isi_NoneType_bool, isi_NoneType_str, isi_NoneType_tuple, isi_NoneType_list, isi_bool_int, isi_bool_bool, isi_bool_str, isi_bool_tuple, isi_bool_list, isi_int_int, isi_int_bool, isi_int_str, isi_int_tuple, isi_int_list, isi_str_int, isi_str_bool, isi_str_str, isi_str_tuple, isi_str_list, isi_tuple_int, isi_tuple_bool, isi_tuple_str, isi_tuple_tuple, isi_tuple_list, isi_list_int, isi_list_bool, isi_list_str, isi_list_tuple, isi_list_list, isi_dict_int, isi_dict_bool, isi_dict_str, isi_dict_tuple, isi_dict_list])).trans ?_
    refine ret_of ?_
    have hlen : (enc (.str x)).length = 1 + (dg x.length).length + (ords x).length := by
      unfold enc ords
      simp
      omega
    have hc := hd x.length (by have := small950; omega)
    have sz : szOk x.length = true := by simp [szOk]; omega
    refine (bin_new (xs := [.int 3] ++ (dg x.length).map PV.int) (ys := (ords x).map PV.int) (ρ1 := [some (.val (.str x)), none, none, none]) (bin_new (xs := [.int 3]) (ρ1 := [some (.val (.str x)), none, none, none]) (by simp [Res.bind, mSeq, mNx, mRet, mRetNm, mRetN, mIfS, mNever, mAsg, setR, setV, setO, isPar, mAug, mDrop, mAppend, mExtend, ownL?, ownO, setC, RV.lst?, mSrc, itemsOf, mOp, RV.fz, OB.pv, mBor, mNm, mK, mNew, mBin, mUn, deref, liftO, mANil, mACons, mApp, derefs, vals?, RV.val?, small, mTup, mLst, mCall, lone, avsOf, avOf, backs, findArg, back1, RV.bor?, mTest, RV.bl?, mTruth, truth, mTNot, mTAnd, mTOr, mAndV, mOrV, mNotV, mIf, mChain, mgNm, mAsgT, mgTup, mgCons, mgNil, iop, pAdd, pSub, pMul, pDiv, pMod, pNeg, pLt, pLe, pGt, pGe, pEq, pNe, pAddI, pMulS, pIs, pIsNot, isP, pIn, pNotIn, inP, flatP, cmpOk, cmpOks, eqP, eqPs, pIx, fLen, fAbs, fInt, fMin2, fMax2, fOrd, fList, fTuple, fIsi, tyName, AV.slot, runF, Res.nox, RV.out, outsOf, SV.lent, range1e, range2e, range3e, range4e, isi_NoneType_int, isi_NoneType_bool, isi_NoneType_str, isi_NoneType_tuple, isi_NoneType_list, isi_bool_int, isi_bool_bool, isi_bool_str, isi_bool_tuple, isi_bool_list, isi_int_int, isi_int_bool, isi_int_str, isi_int_tuple, isi_int_list, isi_str_int, isi_str_bool, isi_str_str, isi_str_tuple, isi_str_list, isi_tuple_int, isi_tuple_bool, isi_tuple_str, isi_tuple_tuple, isi_tuple_list, isi_list_int, isi_list_bool, isi_list_str, isi_list_tuple, isi_list_list, isi_dict_int, isi_dict_bool, isi_dict_str, isi_dict_tuple, isi_dict_list]) (call1 (p := .int x.length) (by simp [Res.bind, mSeq, mNx, mRet, mRetNm, mRetN, mIfS, mNever, mAsg, setR, setV, setO, isPar, mAug, mDrop, mAppend, mExtend, ownL?, ownO, setC, RV.lst?, mSrc, itemsOf, mOp, RV.fz, OB.pv, mBor, mNm, mK, mNew, mBin, mUn, deref, liftO, mANil, mACons, mApp, derefs, vals?, RV.val?, small, mTup, mLst, mCall, lone, avsOf, avOf, backs, findArg, back1, RV.bor?, mTest, RV.bl?, mTruth, truth, mTNot, mTAnd, mTOr, mAndV, mOrV, mNotV, mIf, mChain, mgNm, mAsgT, mgTup, mgCons, mgNil, iop, pAdd, pSub, pMul, pDiv, pMod, pNeg, pLt, pLe, pGt, pGe, pEq, pNe, pAddI, pMulS, pIs, pIsNot, isP, pIn, pNotIn, inP, flatP, cmpOk, cmpOks, eqP, eqPs, pIx, fLen, fAbs, fInt, fMin2, fMax2, fOrd, fList, fTuple, fIsi, tyName, AV.slot, runF, Res.nox, RV.out, outsOf, SV.lent, range1e, range2e, range3e, range4e, isi_NoneType_int, isi_NoneType_bool, isi_NoneType_str, isi_NoneType_tuple, isi_NoneType_list, isi_bool_int, isi_bool_bool, isi_bool_str, isi_bool_tuple, isi_bool_list, isi_int_int, isi_int_bool, isi_int_str, isi_int_tuple, isi_int_list, isi_str_int, isi_str_bool, isi_str_str, isi_str_tuple, isi_str_list, isi_tuple_int, isi_tuple_bool, isi_tuple_str, isi_tuple_tuple, isi_tuple_list, isi_list_int, isi_list_bool, isi_list_str, isi_list_tuple, isi_list_list, isi_dict_int, isi_dict_bool, isi_dict_str, isi_dict_tuple, isi_dict_list, sz]) hc) ?_) (ord_lc x (by omega) none none) ?_).trans ?_
    · exact szOk_of (by simp only [List.length_cons, List.length_map, List.length_append, List.length_nil]; omega)
    · exact szOk_of (by simp only [List.length_cons, List.length_map, List.length_append, List.length_nil]; omega)
    · unfold enc ords
      simp
  | tup xs =>
    cases n with
    | zero => unfold okV at ok; cases ok
    | succ n =>
      unfold okV at ok
      rw [Bool.and_eq_true] at ok
      have hl := of_decide_eq_true ok.1
      have hc := hd xs.length (by have := small950; omega)
      have hlen : (enc (.tup xs)).length = 1 + (dg xs.length).length + (encs xs).length := by
        unfold enc
        simp
        omega
      obtain ⟨tv', e⟩ := lo_loop (t := t) (.tup xs) xs (4 :: dg xs.length) none (hx xs rfl) (by rw [List.length_cons]; omega)
      refine run_rt (r := .new (.lst ((enc (.tup xs)).map PV.int))) (ρ1 := [some (.val (.tup xs)), none, tv'.map SV.val, none]) [some (.val (.tup xs)), none, none, none] rfl ?_ rfl
      refine (seq_nx (ρ1 := [some (.val (.tup xs)), none, none, none]) (by simp [Res.bind, mSeq, mNx, mRet, mRetNm, mRetN, mIfS, mNever, mAsg, setR, setV, setO, isPar, mAug, mDrop, mAppend, mExtend, ownL?, ownO, setC, RV.lst?, mSrc, itemsOf, mOp, RV.fz, OB.pv, mBor, mNm, mK, mNew, mBin, mUn, deref, liftO, mANil, mACons, mApp, derefs, vals?, RV.val?, small, mTup, mLst, mCall, lone, avsOf, avOf, backs, findArg, back1, RV.bor?, mTest, RV.bl?, mTruth, truth, mTNot, mTAnd, mTOr, mAndV, mOrV, mNotV, mIf, mChain, mgNm, mAsgT, mgTup, mgCons, mgNil, iop, pAdd, pSub, pMul, pDiv, pMod, pNeg, pLt, pLe, pGt, pGe, pEq, pNe, pAddI, pMulS, pIs, pIsNot, isP, pIn, pNotIn, inP, flatP, cmpOk, cmpOks, eqP, eqPs, pIx, fLen, fAbs, fInt, fMin2, fMax2, fOrd, fList, fTuple, fIsi, tyName, AV.slot, runF, Res.nox, RV.out, outsOf, SV.lent, range1e, range2e, range3e, range4e, isi_NoneType_int, isi_NoneType_bool, isi_NoneType_str, isi_NoneType_tuple, isi_NoneType_list, isi_bool_int, isi_bool_bool, isi_bool_str, isi_bool_tuple, isi_bool_list, isi_int_int, isi_int_bool, isi_int_str, isi_int_tuple, isi_int_list, isi_str_int, isi_str_bool, isi_str_str, isi_str_tuple, isi_str_list, isi_tuple_int, isi_tuple_bool, isi_tuple_str, isi_tuple_tuple, isi_tuple_list, isi_list_int, isi_list_bool, isi_list_str, isi_list_tuple, isi_list_list, isi_dict_int, isi_dict_bool, isi_dict_str, isi_dict_tuple, isi_dict_list])).trans ?_
      refine (seq_nx (ρ1 := [some (.val (.tup xs)), none, none, none]) (by simp [Res.bind, mSeq, mNx, mRet, mRetNm, mRetN, mIfS, mNever, mAsg, setR, setV, setO, isPar, mAug, mDrop, mAppend, mExtend, ownL?, ownO, setC, RV.lst?, mSrc, itemsOf, mOp, RV.fz, OB.pv, mBor, mNm, mK, mNew, mBin, mUn, deref, liftO, mANil, mACons, mApp, derefs, vals?, RV.val?, small, mTup, mLst, mCall, lone, avsOf, avOf, backs, findArg, back1, RV.bor?, mTest, RV.bl?, mTruth, truth, mTNot, mTAnd, mTOr, mAndV, mOrV, mNotV, mIf, mChain, mgNm, mAsgT, mgTup, mgCons, mgNil, iop, pAdd, pSub, pMul, pDiv, pMod, pNeg, pLt, pLe, pGt, pGe, pEq, pNe, pAddI, pMulS, pIs, pIsNot, isP, pIn, pNotIn, inP, flatP, cmpOk, cmpOks, eqP, eqPs, pIx, fLen, fAbs, fInt, fMin2, fMax2, fOrd, fList, fTuple, fIsi, tyName, AV.slot, runF, Res.nox, RV.out, outsOf, SV.lent, range1e, range2e, range3e, range4e, isi_NoneType_int, isi_NoneType_bool, isi_NoneType_str, isi_NoneType_tuple, isi_NoneType_list, isi_bool_int, isi_bool_bool, isi_bool_str, isi_bool_tuple, isi_bool_list, isi_int_int, isi_int_bool, isi_int_str, isi_int_tuple, isi_int_list, isi_str_int, isi_str_bool, isi_str_str, isi_str_tuple, isi_str_list, isi_tuple_int, isi_tuple_bool, isi_tuple_str, isi_tuple_tuple, isi_tuple_list, isi_list_int, isi_list_bool, isi_list_str, isi_list_tuple, isi_list_list, isi_dict_int, isi_dict_bool, isi_dict_str, isi_dict_tuple, isi_dict_list])).trans ?_
      refine (seq_nx (ρ1 := [some (.val (.tup xs)), none, none, none]) (by simp [Res.bind, mSeq, mNx, mRet, mRetNm, mRetN, mIfS, mNever, mAsg, setR, setV, setO, isPar, mAug, mDrop, mAppend, mExtend, ownL?, ownO, setC, RV.lst?, mSrc, itemsOf, mOp, RV.fz, OB.pv, mBor, mNm, mK, mNew, mBin, mUn, deref, liftO, mANil, mACons, mApp, derefs, vals?, RV.val?, small, mTup, mLst, mCall, lone, avsOf, avOf, backs, findArg, back1, RV.bor?, mTest, RV.bl?, mTruth, truth, mTNot, mTAnd, mTOr, mAndV, mOrV, mNotV, mIf, mChain, mgNm, mAsgT, mgTup, mgCons, mgNil, iop, pAdd, pSub, pMul, pDiv, pMod, pNeg, pLt, pLe, pGt, pGe, pEq, pNe, pAddI, pMulS, pIs, pIsNot, isP, pIn, pNotIn, inP, flatP, cmpOk, cmpOks, eqP, eqPs, pIx, fLen, fAbs, fInt, fMin2, fMax2, fOrd, fList, fTuple, fIsi, tyName, AV.slot, runF, Res.nox, RV.out, outsOf, SV.lent, range1e, range2e, range3e, range4e, isi_NoneType_int, isi_NoneType_bool, isi_NoneType_str, isi_NoneType_tuple, isi_NoneType_list, isi_bool_int, isi_bool_bool, isi_bool_str, isi_bool_tuple, isi_bool_list, isi_int_int, isi_int_bool, isi_int_str, isi_int_tuple, isi_int_list, isi_str_int, isi_str_bool, isi_str_str, isi_str_tuple, isi_str_list, isi_tuple_int, isi_tuple_bool, isi_tuple_str, isi_tuple_tuple, isi_tuple_list, isi_list_int, isi_list_bool, isi_list_str, isi_list_tuple, isi_list_list, isi_dict_int, isi_dict_bool, isi_dict_str, isi_dict_tuple, isi_dict_list])).trans ?_
      refine (seq_nx (ρ1 := [some (.val (.tup xs)), some (.own (.lst ((4 :: dg xs.length).map PV.int))), none, none]) (asg_of (ρ1 := [some (.val (.tup xs)), none, none, none]) (r := .new (.lst ([.int 4] ++ (dg xs.length).map PV.int))) (bin_new (ρ1 := [some (.val (.tup xs)), none, none, none]) (by simp [Res.bind, mSeq, mNx, mRet, mRetNm, mRetN, mIfS, mNever, mAsg, setR, setV, setO, isPar, mAug, mDrop, mAppend, mExtend, ownL?, ownO, setC, RV.lst?, mSrc, itemsOf, mOp, RV.fz, OB.pv, mBor, mNm, mK, mNew, mBin, mUn, deref, liftO, mANil, mACons, mApp, derefs, vals?, RV.val?, small, mTup, mLst, mCall, lone, avsOf, avOf, backs, findArg, back1, RV.bor?, mTest, RV.bl?, mTruth, truth, mTNot, mTAnd, mTOr, mAndV, mOrV, mNotV, mIf, mChain, mgNm, mAsgT, mgTup, mgCons, mgNil, iop, pAdd, pSub, pMul, pDiv, pMod, pNeg, pLt, pLe, pGt, pGe, pEq, pNe, pAddI, pMulS, pIs, pIsNot, isP, pIn, pNotIn, inP, flatP, cmpOk, cmpOks, eqP, eqPs, pIx, fLen, fAbs, fInt, fMin2, fMax2, fOrd, fList, fTuple, fIsi, tyName, AV.slot, runF, Res.nox, RV.out, outsOf, SV.lent, range1e, range2e, range3e, range4e, isi_NoneType_int, isi_NoneType_bool, isi_NoneType_str, isi_NoneType_tuple, isi_NoneType_list, isi_bool_int, isi_bool_bool, isi_bool_str, isi_bool_tuple, isi_bool_list, isi_int_int, isi_int_bool, isi_int_str, isi_int_tuple, isi_int_list, isi_str_int, isi_str_bool, isi_str_str, isi_str_tuple, isi_str_list, isi_tuple_int, isi_tuple_bool, isi_tuple_str, isi_tuple_tuple, isi_tuple_list, isi_list_int, isi_list_bool, isi_list_str, isi_list_tuple, isi_list_list, isi_dict_int, isi_dict_bool, isi_dict_str, isi_dict_tuple, isi_dict_list]) (call1 (p := .int xs.length) (by simp [Res.bind, mSeq, mNx, mRet, mRetNm, mRetN, mIfS, mNever, mAsg, setR, setV, setO, isPar, mAug, mDrop, mAppend, mExtend, ownL?, ownO, setC, RV.lst?, mSrc, itemsOf, mOp, RV.fz, OB.pv, mBor, mNm, mK, mNew, mBin, mUn, deref, liftO, mANil, mACons, mApp, derefs, vals?, RV.val?, small, mTup, mLst, mCall, lone, avsOf, avOf, backs, findArg, back1, RV.bor?, mTest, RV.bl?, mTruth, truth, mTNot, mTAnd, mTOr, mAndV, mOrV, mNotV, mIf, mChain, mgNm, mAsgT, mgTup, mgCons, mgNil, iop, pAdd, pSub, pMul, pDiv, pMod, pNeg, pLt, pLe, pGt, pGe, pEq, pNe, pAddI, pMulS, pIs, pIsNot, isP, pIn, pNotIn, inP, flatP, cmpOk, cmpOks, eqP, eqPs, pIx, fLen, fAbs, fInt, fMin2, fMax2, fOrd, fList, fTuple, fIsi, tyName, AV.slot, runF, Res.nox, RV.out, outsOf, SV.lent, range1e, range2e, range3e, range4e, isi_NoneType_int, isi_NoneType_bool, isi_NoneType_str, isi_NoneType_tuple, isi_NoneType_list, isi_bool_int, isi_bool_bool, isi_bool_str, isi_bool_tuple, isi_bool_list, isi_int_int, isi_int_bool, isi_int_str, isi_int_tuple, isi_int_list, isi_str_int, isi_str_bool, isi_str_str, isi_str_tuple, isi_str_list, isi_tuple_int, isi_tuple_bool, isi_tuple_str, isi_tuple_tuple, isi_tuple_list, isi_list_int, isi_list_bool, isi_list_str, isi_list_tuple, isi_list_list, isi_dict_int, isi_dict_bool, isi_dict_str, isi_dict_tuple, isi_dict_list]) hc) ?_) (by simp [Res.bind, mSeq, mNx, mRet, mRetNm, mRetN, mIfS, mNever, mAsg, setR, setV, setO, isPar, mAug, mDrop, mAppend, mExtend, ownL?, ownO, setC, RV.lst?, mSrc, itemsOf, mOp, RV.fz, OB.pv, mBor, mNm, mK, mNew, mBin, mUn, deref, liftO, mANil, mACons, mApp, derefs, vals?, RV.val?, small, mTup, mLst, mCall, lone, avsOf, avOf, backs, findArg, back1, RV.bor?, mTest, RV.bl?, mTruth, truth, mTNot, mTAnd, mTOr, mAndV, mOrV, mNotV, mIf, mChain, mgNm, mAsgT, mgTup, mgCons, mgNil, iop, pAdd, pSub, pMul, pDiv, pMod, pNeg, pLt, pLe, pGt, pGe, pEq, pNe, pAddI, pMulS, pIs, pIsNot, isP, pIn, pNotIn, inP, flatP, cmpOk, cmpOks, eqP, eqPs, pIx, fLen, fAbs, fInt, fMin2, fMax2, fOrd, fList, fTuple, fIsi, tyName, AV.slot, runF, Res.nox, RV.out, outsOf, SV.lent, range1e, range2e, range3e, range4e, isi_NoneType_int, isi_NoneType_bool, isi_NoneType_str, isi_NoneType_tuple, isi_NoneType_list, isi_bool_int, isi_bool_bool, isi_bool_str, isi_bool_tuple, isi_bool_list, isi_int_int, isi_int_bool, isi_int_str, isi_int_tuple, isi_int_list, isi_str_int, isi_str_bool, isi_str_str, isi_str_tuple, isi_str_list, isi_tuple_int, isi_tuple_bool, isi_tuple_str, isi_tuple_tuple, isi_tuple_list, isi_list_int, isi_list_bool, isi_list_str, isi_list_tuple, isi_list_list, isi_dict_int, isi_dict_bool, isi_dict_str, isi_dict_tuple, isi_dict_list]))).trans ?_
      · exact szOk_of (by simp only [List.length_cons, List.length_map, List.length_append, List.length_nil]; omega)
      · refine (seq_nx ?_).trans (show mRetNm 1 [some (.val (.tup xs)), some (.own (.lst ((4 :: dg xs.length ++ encs xs).map PV.int))), tv'.map SV.val, none] = _ from ?_)
        · exact (mfor_of (xs := xs) (ρ1 := [some (.val (.tup xs)), some (.own (.lst ((4 :: dg xs.length).map PV.int))), none, none]) (by simp [Res.bind, mSeq, mNx, mRet, mRetNm, mRetN, mIfS, mNever, mAsg, setR, setV, setO, isPar, mAug, mDrop, mAppend, mExtend, ownL?, ownO, setC, RV.lst?, mSrc, itemsOf, mOp, RV.fz, OB.pv, mBor, mNm, mK, mNew, mBin, mUn, deref, liftO, mANil, mACons, mApp, derefs, vals?, RV.val?, small, mTup, mLst, mCall, lone, avsOf, avOf, backs, findArg, back1, RV.bor?, mTest, RV.bl?, mTruth, truth, mTNot, mTAnd, mTOr, mAndV, mOrV, mNotV, mIf, mChain, mgNm, mAsgT, mgTup, mgCons, mgNil, iop, pAdd, pSub, pMul, pDiv, pMod, pNeg, pLt, pLe, pGt, pGe, pEq, pNe, pAddI, pMulS, pIs, pIsNot, isP, pIn, pNotIn, inP, flatP, cmpOk, cmpOks, eqP, eqPs, pIx, fLen, fAbs, fInt, fMin2, fMax2, fOrd, fList, fTuple, fIsi, tyName, AV.slot, runF, Res.nox, RV.out, outsOf, SV.lent, range1e, range2e, range3e, range4e, isi_NoneType_int, isi_NoneType_bool, isi_NoneType_str, isi_NoneType_tuple, isi_NoneType_list, isi_bool_int, isi_bool_bool, isi_bool_str, isi_bool_tuple, isi_bool_list, isi_int_int, isi_int_bool, isi_int_str, isi_int_tuple, isi_int_list, isi_str_int, isi_str_bool, isi_str_str, isi_str_tuple, isi_str_list, isi_tuple_int, isi_tuple_bool, isi_tuple_str, isi_tuple_tuple, isi_tuple_list, isi_list_int, isi_list_bool, isi_list_str, isi_list_tuple, isi_list_list, isi_dict_int, isi_dict_bool, isi_dict_str, isi_dict_tuple, isi_dict_list])).trans e
        · simp [Res.bind, mSeq, mNx, mRet, mRetNm, mRetN, mIfS, mNever, mAsg, setR, setV, setO, isPar, mAug, mDrop, mAppend, mExtend, ownL?, ownO, setC, RV.lst?, mSrc, itemsOf, mOp, RV.fz, OB.pv, mBor, mNm, mK, mNew, mBin, mUn, deref, liftO, mANil, mACons, mApp, derefs, vals?, RV.val?, small, mTup, mLst, mCall, lone, avsOf, avOf, backs, findArg, back1, RV.bor?, mTest, RV.bl?, mTruth, truth, mTNot, mTAnd, mTOr, mAndV, mOrV, mNotV, mIf, mChain, mgNm, mAsgT, mgTup, mgCons, mgNil, iop, pAdd, pSub, pMul, pDiv, pMod, pNeg, pLt, pLe, pGt, pGe, pEq, pNe, pAddI, pMulS, pIs, pIsNot, isP, pIn, pNotIn, inP, flatP, cmpOk, cmpOks, eqP, eqPs, pIx, fLen, fAbs, fInt, fMin2, fMax2, fOrd, fList, fTuple, fIsi, tyName, AV.slot, runF, Res.nox, RV.out, outsOf, SV.lent, range1e, range2e, range3e, range4e, isi_NoneType_int, isi_NoneType_bool, isi_NoneType_str, isi_NoneType_tuple, isi_NoneType_list, isi_bool_int, isi_bool_bool, isi_bool_str, isi_bool_tuple, isi_bool_list, isi_int_int, isi_int_bool, isi_int_str, isi_int_tuple, isi_int_list, isi_str_int, isi_str_bool, isi_str_str, isi_str_tuple, isi_str_list, isi_tuple_int, isi_tuple_bool, isi_tuple_str, isi_tuple_tuple, isi_tuple_list, isi_list_int, isi_list_bool, isi_list_str, isi_list_tuple, isi_list_list, isi_dict_int, isi_dict_bool, isi_dict_str, isi_dict_tuple, isi_dict_list, enc]
  | _ => unfold okV at ok; cases ok

/-! ### by levels -/
abbrev T (C : Addr) (n : Nat) : Tb := tbl C n
theorem dig_T (n : Nat) : DigOk (T C (n + 1)).digits_of := fun k h => digits_of_ok (Nat.lt_trans h pow950')
theorem ldig_T (n : Nat) : DigOk (T C (n + 1)).law_digits := fun k h => law_digits_ok (Nat.lt_trans h pow950)
theorem okVs_mem {n : Nat} : ∀ {xs : List PV}, okVs n xs = true → ∀ x ∈ xs, okV n x = true
  | [], _, x, h => by cases h
  | y :: ys, ok, x, h => by
    unfold okVs at ok
    rw [Bool.and_eq_true] at ok
    rcases List.mem_cons.mp h with rfl | h
    · exact ok.1
    · exact okVs_mem ok.2 x h
theorem encs_mem : ∀ {xs : List PV}, ∀ x ∈ xs, (enc x).length ≤ (encs xs).length
  | [], x, h => by cases h
  | y :: ys, x, h => by
    unfold encs
    rw [List.length_append]
    rcases List.mem_cons.mp h with rfl | h
    · omega
    · have := encs_mem x h
      omega
theorem laid_T : ∀ (n j : Nat) (v : PV), okV n v = true → (enc v).length ≤ 16777216 → (T C (n + j + 2)).laid [.val v] = .ok (.new (.lst ((enc v).map PV.int)), [none])
  | 0, j, v, ok, hz => laid_step (dig_T (0 + j)) 0 v ok hz fun xs e => by subst e; unfold okV at ok; cases ok
  | n + 1, j, v, ok, hz => by
    have e : n + 1 + j + 2 = (n + j + 2) + 1 := by omega
    rw [e]
    refine laid_step (dig_T (n + j + 1)) (n + 1) v ok hz fun xs e x hx => ?_
    subst e
    unfold okV at ok
    rw [Bool.and_eq_true] at ok
    unfold enc at hz
    rw [List.length_cons, List.length_append] at hz
    have := encs_mem x hx
    exact laid_T n j x (okVs_mem ok.2 x hx) (by omega)
theorem lo_T : ∀ (n j : Nat) (v : PV), okV n v = true → (enc v).length ≤ 16777216 → (T C (n + j + 2)).law_octets [.val v] = .ok (.new (.lst ((enc v).map PV.int)), [none])
  | 0, j, v, ok, hz => lo_step (ldig_T (0 + j)) 0 v ok hz fun xs e => by subst e; unfold okV at ok; cases ok
  | n + 1, j, v, ok, hz => by
    have e : n + 1 + j + 2 = (n + j + 2) + 1 := by omega
    rw [e]
    refine lo_step (ldig_T (n + j + 1)) (n + 1) v ok hz fun xs e x hx => ?_
    subst e
    unfold okV at ok
    rw [Bool.and_eq_true] at ok
    unfold enc at hz
    rw [List.length_cons, List.length_append] at hz
    have := encs_mem x hx
    exact lo_T n j x (okVs_mem ok.2 x hx) (by omega)
end K80

set_option Elab.async false
set_option linter.all false
set_option maxRecDepth 100000
set_option exponentiation.threshold 100000
namespace K80
open PySem Pu
variable {C : Addr} {t : Tb}
/-! ### like itself -/
def sortOf : PV → Int
  | .non => 0
  | .bl _ => 1
  | .int _ => 2
  | .str _ => 3
  | .tup _ => 4
  | .lst _ => 5
  | _ => 6
mutual
def lk : Nat → PV → Bool
  | _, .non => true
  | _, .bl _ => true
  | _, .int _ => true
  | _, .str x => PyData.strOk x
  | n + 1, .lst xs => decide (xs.length ≤ 16777216) && lks n xs
  | n + 1, .tup xs => decide (xs.length ≤ 16777216) && lks n xs
  | _, _ => false
def lks : Nat → List PV → Bool
  | _, [] => true
  | n, x :: xs => lk n x && lks n xs
end
def SortOk (g : G) : Prop := ∀ (n : Nat) (v : PV), lk n v = true → g [.val v] = .ok (.val (.int (sortOf v)), [none])
theorem law_sort_ok : SortOk (stepT C t).law_sort := fun n v h => by
  cases v with
  | non => simp [Res.bind, mSeq, mNx, mRet, mRetNm, mRetN, mIfS, mNever, mAsg, setR, setV, setO, isPar, mAug, mDrop, mAppend, mExtend, ownL?, ownO, setC, RV.lst?, mSrc, itemsOf, mOp, RV.fz, OB.pv, mBor, mNm, mK, mNew, mBin, mUn, deref, liftO, mANil, mACons, mApp, derefs, vals?, RV.val?, small, mTup, mLst, mCall, lone, avsOf, avOf, backs, findArg, back1, RV.bor?, mTest, RV.bl?, mTruth, truth, mTNot, mTAnd, mTOr, mAndV, mOrV, mNotV, mIf, mChain, mgNm, mAsgT, mgTup, mgCons, mgNil, iop, pAdd, pSub, pMul, pDiv, pMod, pNeg, pLt, pLe, pGt, pGe, pEq, pNe, pAddI, pMulS, pIs, pIsNot, isP, pIn, pNotIn, inP, flatP, cmpOk, cmpOks, eqP, eqPs, pIx, fLen, fAbs, fInt, fMin2, fMax2, fOrd, fList, fTuple, fIsi, tyName, AV.slot, runF, Res.nox, RV.out, outsOf, SV.lent, range1e, range2e, range3e, range4e, isi_NoneType_int, isi_NoneType_bool, isi_NoneType_str, isi_NoneType_tuple, isi_NoneType_list, isi_bool_int, isi_bool_bool, isi_bool_str, isi_bool_tuple, isi_bool_list, isi_int_int, isi_int_bool, isi_int_str, isi_int_tuple, isi_int_list, isi_str_int, isi_str_bool, isi_str_str, isi_str_tuple, isi_str_list, isi_tuple_int, isi_tuple_bool, isi_tuple_str, isi_tuple_tuple, isi_tuple_list, isi_list_int, isi_list_bool, isi_list_str, isi_list_tuple, isi_list_list, isi_dict_int, isi_dict_bool, isi_dict_str, isi_dict_tuple, isi_dict_list, stepT, b_law_sort, sortOf]
  | bl b => simp [Res.bind, mSeq, mNx, mRet, mRetNm, mRetN, mIfS, mNever, mAsg, setR, setV, setO, isPar, mAug, mDrop, mAppend, mExtend, ownL?, ownO, setC, RV.lst?, mSrc, itemsOf, mOp, RV.fz, OB.pv, mBor, mNm, mK, mNew, mBin, mUn, deref, liftO, mANil, mACons, mApp, derefs, vals?, RV.val?, small, mTup, mLst, mCall, lone, avsOf, avOf, backs, findArg, back1, RV.bor?, mTest, RV.bl?, mTruth, truth, mTNot, mTAnd, mTOr, mAndV, mOrV, mNotV, mIf, mChain, mgNm, mAsgT, mgTup, mgCons, mgNil, iop, pAdd, pSub, pMul, pDiv, pMod, pNeg, pLt, pLe, pGt, pGe, pEq, pNe, pAddI, pMulS, pIs, pIsNot, isP, pIn, pNotIn, inP, flatP, cmpOk, cmpOks, eqP, eqPs, pIx, fLen, fAbs, fInt, fMin2, fMax2, fOrd, fList, fTuple, fIsi, tyName, AV.slot, runF, Res.nox, RV.out, outsOf, SV.lent, range1e, range2e, range3e, range4e, isi_NoneType_int, isi_NoneType_bool, isi_NoneType_str, isi_NoneType_tuple, isi_NoneType_list, isi_bool_int, isi_bool_bool, isi_bool_str, isi_bool_tuple, isi_bool_list, isi_int_int, isi_int_bool, isi_int_str, isi_int_tuple, isi_int_list, isi_str_int, isi_str_bool, isi_str_str, isi_str_tuple, isi_str_list, isi_tuple_int, isi_tuple_bool, isi_tuple_str, isi_tuple_tuple, isi_tuple_list, isi_list_int, isi_list_bool, isi_list_str, isi_list_tuple, isi_list_list, isi_dict_int, isi_dict_bool, isi_dict_str, isi_dict_tuple, isi_dict_list, stepT, b_law_sort, sortOf]
  | int i => simp [Res.bind, mSeq, mNx, mRet, mRetNm, mRetN, mIfS, mNever, mAsg, setR, setV, setO, isPar, mAug, mDrop, mAppend, mExtend, ownL?, ownO, setC, RV.lst?, mSrc, itemsOf, mOp, RV.fz, OB.pv, mBor, mNm, mK, mNew, mBin, mUn, deref, liftO, mANil, mACons, mApp, derefs, vals?, RV.val?, small, mTup, mLst, mCall, lone, avsOf, avOf, backs, findArg, back1, RV.bor?, mTest, RV.bl?, mTruth, truth, mTNot, mTAnd, mTOr, mAndV, mOrV, mNotV, mIf, mChain, mgNm, mAsgT, mgTup, mgCons, mgNil, iop, pAdd, pSub, pMul, pDiv, pMod, pNeg, pLt, pLe, pGt, pGe, pEq, pNe, pAddI, pMulS, pIs, pIsNot, isP, pIn, pNotIn, inP, flatP, cmpOk, cmpOks, eqP, eqPs, pIx, fLen, fAbs, fInt, fMin2, fMax2, fOrd, fList, fTuple, fIsi, tyName, AV.slot, runF, Res.nox, RV.out, outsOf, SV.lent, range1e, range2e, range3e, range4e, isi_NoneType_int, isi_NoneType_bool, isi_NoneType_str, isi_NoneType_tuple, isi_NoneType_list, isi_bool_int, isi_bool_bool, isi_bool_str, isi_bool_tuple, isi_bool_list, isi_int_int, isi_int_bool, isi_int_str, isi_int_tuple, isi_int_list, isi_str_int, isi_str_bool, isi_str_str, isi_str_tuple, isi_str_list, isi_tuple_int, isi_tuple_bool, isi_tuple_str, isi_tuple_tuple, isi_tuple_list, isi_list_int, isi_list_bool, isi_list_str, isi_list_tuple, isi_list_list, isi_dict_int, isi_dict_bool, isi_dict_str, isi_dict_tuple, isi_dict_list, stepT, b_law_sort, sortOf]
  | str x => simp [Res.bind, mSeq, mNx, mRet, mRetNm, mRetN, mIfS, mNever, mAsg, setR, setV, setO, isPar, mAug, mDrop, mAppend, mExtend, ownL?, ownO, setC, RV.lst?, mSrc, itemsOf, mOp, RV.fz, OB.pv, mBor, mNm, mK, mNew, mBin, mUn, deref, liftO, mANil, mACons, mApp, derefs, vals?, RV.val?, small, mTup, mLst, mCall, lone, avsOf, avOf, backs, findArg, back1, RV.bor?, mTest, RV.bl?, mTruth, truth, mTNot, mTAnd, mTOr, mAndV, mOrV, mNotV, mIf, mChain, mgNm, mAsgT, mgTup, mgCons, mgNil, iop, pAdd, pSub, pMul, pDiv, pMod, pNeg, pLt, pLe, pGt, pGe, pEq, pNe, pAddI, pMulS, pIs, pIsNot, isP, pIn, pNotIn, inP, flatP, cmpOk, cmpOks, eqP, eqPs, pIx, fLen, fAbs, fInt, fMin2, fMax2, fOrd, fList, fTuple, fIsi, tyName, AV.slot, runF, Res.nox, RV.out, outsOf, SV.lent, range1e, range2e, range3e, range4e, isi_NoneType_int, isi_NoneType_bool, isi_NoneType_str, isi_NoneType_tuple, isi_NoneType_list, isi_bool_int, isi_bool_bool, isi_bool_str, isi_bool_tuple, isi_bool_list, isi_int_int, isi_int_bool, isi_int_str, isi_int_tuple, isi_int_list, isi_str_int, isi_str_bool, isi_str_str, isi_str_tuple, isi_str_list, isi_tuple_int, isi_tuple_bool, isi_tuple_str, isi_tuple_tuple, isi_tuple_list, isi_list_int, isi_list_bool, isi_list_str, isi_list_tuple, isi_list_list, isi_dict_int, isi_dict_bool, isi_dict_str, isi_dict_tuple, isi_dict_list, stepT, b_law_sort, sortOf]
  | tup xs => simp [Res.bind, mSeq, mNx, mRet, mRetNm, mRetN, mIfS, mNever, mAsg, setR, setV, setO, isPar, mAug, mDrop, mAppend, mExtend, ownL?, ownO, setC, RV.lst?, mSrc, itemsOf, mOp, RV.fz, OB.pv, mBor, mNm, mK, mNew, mBin, mUn, deref, liftO, mANil, mACons, mApp, derefs, vals?, RV.val?, small, mTup, mLst, mCall, lone, avsOf, avOf, backs, findArg, back1, RV.bor?, mTest, RV.bl?, mTruth, truth, mTNot, mTAnd, mTOr, mAndV, mOrV, mNotV, mIf, mChain, mgNm, mAsgT, mgTup, mgCons, mgNil, iop, pAdd, pSub, pMul, pDiv, pMod, pNeg, pLt, pLe, pGt, pGe, pEq, pNe, pAddI, pMulS, pIs, pIsNot, isP, pIn, pNotIn, inP, flatP, cmpOk, cmpOks, eqP, eqPs, pIx, fLen, fAbs, fInt, fMin2, fMax2, fOrd, fList, fTuple, fIsi, tyName, AV.slot, runF, Res.nox, RV.out, outsOf, SV.lent, range1e, range2e, range3e, range4e, isi_NoneType_int, isi_NoneType_bool, isi_NoneType_str, isi_NoneType_tuple, isi_NoneType_list, isi_bool_int, isi_bool_bool, isi_bool_str, isi_bool_tuple, isi_bool_list, isi_int_int, isi_int_bool, isi_int_str, isi_int_tuple, isi_int_list, isi_str_int, isi_str_bool, isi_str_str, isi_str_tuple, isi_str_list, isi_tuple_int, isi_tuple_bool, isi_tuple_str, isi_tuple_tuple, isi_tuple_list, isi_list_int, isi_list_bool, isi_list_str, isi_list_tuple, isi_list_list, isi_dict_int, isi_dict_bool, isi_dict_str, isi_dict_tuple, isi_dict_list, stepT, b_law_sort, sortOf]
  | lst xs => simp [Res.bind, mSeq, mNx, mRet, mRetNm, mRetN, mIfS, mNever, mAsg, setR, setV, setO, isPar, mAug, mDrop, mAppend, mExtend, ownL?, ownO, setC, RV.lst?, mSrc, itemsOf, mOp, RV.fz, OB.pv, mBor, mNm, mK, mNew, mBin, mUn, deref, liftO, mANil, mACons, mApp, derefs, vals?, RV.val?, small, mTup, mLst, mCall, lone, avsOf, avOf, backs, findArg, back1, RV.bor?, mTest, RV.bl?, mTruth, truth, mTNot, mTAnd, mTOr, mAndV, mOrV, mNotV, mIf, mChain, mgNm, mAsgT, mgTup, mgCons, mgNil, iop, pAdd, pSub, pMul, pDiv, pMod, pNeg, pLt, pLe, pGt, pGe, pEq, pNe, pAddI, pMulS, pIs, pIsNot, isP, pIn, pNotIn, inP, flatP, cmpOk, cmpOks, eqP, eqPs, pIx, fLen, fAbs, fInt, fMin2, fMax2, fOrd, fList, fTuple, fIsi, tyName, AV.slot, runF, Res.nox, RV.out, outsOf, SV.lent, range1e, range2e, range3e, range4e, isi_NoneType_int, isi_NoneType_bool, isi_NoneType_str, isi_NoneType_tuple, isi_NoneType_list, isi_bool_int, isi_bool_bool, isi_bool_str, isi_bool_tuple, isi_bool_list, isi_int_int, isi_int_bool, isi_int_str, isi_int_tuple, isi_int_list, isi_str_int, isi_str_bool, isi_str_str, isi_str_tuple, isi_str_list, isi_tuple_int, isi_tuple_bool, isi_tuple_str, isi_tuple_tuple, isi_tuple_list, isi_list_int, isi_list_bool, isi_list_str, isi_list_tuple, isi_list_list, isi_dict_int, isi_dict_bool, isi_dict_str, isi_dict_tuple, isi_dict_list, stepT, b_law_sort, sortOf]
  | _ => unfold lk at h; cases h
theorem lks_mem {n : Nat} : ∀ {xs : List PV}, lks n xs = true → ∀ x ∈ xs, lk n x = true
  | [], _, x, h => by cases h
  | y :: ys, ok, x, h => by
    unfold lks at ok
    rw [Bool.and_eq_true] at ok
    rcases List.mem_cons.mp h with rfl | h
    · exact ok.1
    · exact lks_mem ok.2 x h
abbrev eLike (t : Tb) : M := mLc [3, 4] (mRng zipOf (mACons (mNm 0) (mACons (mNm 1) mANil))) (mgTup 2 (mgCons (mgNm 3) (mgCons (mgNm 4) mgNil))) (mTNot (mTruth (mCall t.law_like (mACons (mNm 3) (mACons (mNm 4) mANil))))) (mK (.int 1))
theorem like_lc (v : PV) (s : PV) (xs : List PV) (hs : seqOf v = some xs) (hz : xs.length ≤ 16777216) (h : ∀ x ∈ xs, t.law_like [.val x, .val x] = .ok (.val (.bl true), [none, none])) :
    eLike t [some (.val v), some (.val v), some (.val s), none, none] = .ok (.new (.lst []), [some (.val v), some (.val v), some (.val s), none, none]) := by
  refine (mlc_of (xs := (xs.zip xs).map fun p => PV.tup [p.1, p.2]) (ρ1 := [some (.val v), some (.val v), some (.val s), none, none]) (ρ2 := [some (.val v), some (.val v), some (.val s), none, none]) (ys := []) ?_ (by simpa using hz) ?_).trans ?_
  · simp [Res.bind, mSeq, mNx, mRet, mRetNm, mRetN, mIfS, mNever, mAsg, setR, setV, setO, isPar, mAug, mDrop, mAppend, mExtend, ownL?, ownO, setC, RV.lst?, mSrc, itemsOf, mOp, RV.fz, OB.pv, mBor, mNm, mK, mNew, mBin, mUn, deref, liftO, mANil, mACons, mApp, derefs, vals?, RV.val?, small, mTup, mLst, mCall, lone, avsOf, avOf, backs, findArg, back1, RV.bor?, mTest, RV.bl?, mTruth, truth, mTNot, mTAnd, mTOr, mAndV, mOrV, mNotV, mIf, mChain, mgNm, mAsgT, mgTup, mgCons, mgNil, iop, pAdd, pSub, pMul, pDiv, pMod, pNeg, pLt, pLe, pGt, pGe, pEq, pNe, pAddI, pMulS, pIs, pIsNot, isP, pIn, pNotIn, inP, flatP, cmpOk, cmpOks, eqP, eqPs, pIx, fLen, fAbs, fInt, fMin2, fMax2, fOrd, fList, fTuple, fIsi, tyName, AV.slot, runF, Res.nox, RV.out, outsOf, SV.lent, range1e, range2e, range3e, range4e, isi_NoneType_int, isi_NoneType_bool, isi_NoneType_str, isi_NoneType_tuple, isi_NoneType_list, isi_bool_int, isi_bool_bool, isi_bool_str, isi_bool_tuple, isi_bool_list, isi_int_int, isi_int_bool, isi_int_str, isi_int_tuple, isi_int_list, isi_str_int, isi_str_bool, isi_str_str, isi_str_tuple, isi_str_list, isi_tuple_int, isi_tuple_bool, isi_tuple_str, isi_tuple_tuple, isi_tuple_list, isi_list_int, isi_list_bool, isi_list_str, isi_list_tuple, isi_list_list, isi_dict_int, isi_dict_bool, isi_dict_str, isi_dict_tuple, isi_dict_list, mRng, zipOf, hs]
  · have e : wipeE [some (.val v), some (.val v), some (.val s), none, none] [3, 4] = [some (.val v), some (.val v), some (.val s), none, none] := by simp [wipeE]
    rw [e]
    have key : ∀ l : List PV, (∀ x ∈ l, t.law_like [.val x, .val x] = .ok (.val (.bl true), [none, none])) → lcM [3, 4] (mgTup 2 (mgCons (mgNm 3) (mgCons (mgNm 4) mgNil))) (mTNot (mTruth (mCall t.law_like (mACons (mNm 3) (mACons (mNm 4) mANil))))) (mK (.int 1)) ((l.zip l).map fun p => PV.tup [p.1, p.2]) [some (.val v), some (.val v), some (.val s), none, none] = .ok ([], [some (.val v), some (.val v), some (.val s), none, none]) := by
      intro l
      induction l with
      | nil => intro _; rfl
      | cons x l ih =>
        intro hl
        have hc : mCall t.law_like (mACons (mNm 3) (mACons (mNm 4) mANil)) [some (.val v), some (.val v), some (.val s), some (.val x), some (.val x)] = .ok (.val (.bl true), [some (.val v), some (.val v), some (.val s), some (.val x), some (.val x)]) :=
          call2 (p := x) (q := x) (ρ1 := [some (.val v), some (.val v), some (.val s), some (.val x), some (.val x)]) (by simp [Res.bind, mSeq, mNx, mRet, mRetNm, mRetN, mIfS, mNever, mAsg, setR, setV, setO, isPar, mAug, mDrop, mAppend, mExtend, ownL?, ownO, setC, RV.lst?, mSrc, itemsOf, mOp, RV.fz, OB.pv, mBor, mNm, mK, mNew, mBin, mUn, deref, liftO, mANil, mACons, mApp, derefs, vals?, RV.val?, small, mTup, mLst, mCall, lone, avsOf, avOf, backs, findArg, back1, RV.bor?, mTest, RV.bl?, mTruth, truth, mTNot, mTAnd, mTOr, mAndV, mOrV, mNotV, mIf, mChain, mgNm, mAsgT, mgTup, mgCons, mgNil, iop, pAdd, pSub, pMul, pDiv, pMod, pNeg, pLt, pLe, pGt, pGe, pEq, pNe, pAddI, pMulS, pIs, pIsNot, isP, pIn, pNotIn, inP, flatP, cmpOk, cmpOks, eqP, eqPs, pIx, fLen, fAbs, fInt, fMin2, fMax2, fOrd, fList, fTuple, fIsi, tyName, AV.slot, runF, Res.nox, RV.out, outsOf, SV.lent, range1e, range2e, range3e, range4e, isi_NoneType_int, isi_NoneType_bool, isi_NoneType_str, isi_NoneType_tuple, isi_NoneType_list, isi_bool_int, isi_bool_bool, isi_bool_str, isi_bool_tuple, isi_bool_list, isi_int_int, isi_int_bool, isi_int_str, isi_int_tuple, isi_int_list, isi_str_int, isi_str_bool, isi_str_str, isi_str_tuple, isi_str_list, isi_tuple_int, isi_tuple_bool, isi_tuple_str, isi_tuple_tuple, isi_tuple_list, isi_list_int, isi_list_bool, isi_list_str, isi_list_tuple, isi_list_list, isi_dict_int, isi_dict_bool, isi_dict_str, isi_dict_tuple, isi_dict_list]) (by simp [Res.bind, mSeq, mNx, mRet, mRetNm, mRetN, mIfS, mNever, mAsg, setR, setV, setO, isPar, mAug, mDrop, mAppend, mExtend, ownL?, ownO, setC, RV.lst?, mSrc, itemsOf, mOp, RV.fz, OB.pv, mBor, mNm, mK, mNew, mBin, mUn, deref, liftO, mANil, mACons, mApp, derefs, vals?, RV.val?, small, mTup, mLst, mCall, lone, avsOf, avOf, backs, findArg, back1, RV.bor?, mTest, RV.bl?, mTruth, truth, mTNot, mTAnd, mTOr, mAndV, mOrV, mNotV, mIf, mChain, mgNm, mAsgT, mgTup, mgCons, mgNil, iop, pAdd, pSub, pMul, pDiv, pMod, pNeg, pLt, pLe, pGt, pGe, pEq, pNe, pAddI, pMulS, pIs, pIsNot, isP, pIn, pNotIn, inP, flatP, cmpOk, cmpOks, eqP, eqPs, pIx, fLen, fAbs, fInt, fMin2, fMax2, fOrd, fList, fTuple, fIsi, tyName, AV.slot, runF, Res.nox, RV.out, outsOf, SV.lent, range1e, range2e, range3e, range4e, isi_NoneType_int, isi_NoneType_bool, isi_NoneType_str, isi_NoneType_tuple, isi_NoneType_list, isi_bool_int, isi_bool_bool, isi_bool_str, isi_bool_tuple, isi_bool_list, isi_int_int, isi_int_bool, isi_int_str, isi_int_tuple, isi_int_list, isi_str_int, isi_str_bool, isi_str_str, isi_str_tuple, isi_str_list, isi_tuple_int, isi_tuple_bool, isi_tuple_str, isi_tuple_tuple, isi_tuple_list, isi_list_int, isi_list_bool, isi_list_str, isi_list_tuple, isi_list_list, isi_dict_int, isi_dict_bool, isi_dict_str, isi_dict_tuple, isi_dict_list]) (hl x (List.mem_cons_self ..))
        rw [List.zip_cons_cons, List.map_cons, lc_skip (ρ1 := [some (.val v), some (.val v), some (.val s), some (.val x), some (.val x)]) (ρ2 := [some (.val v), some (.val v), some (.val s), some (.val x), some (.val x)]) (by simp [Res.bind, mSeq, mNx, mRet, mRetNm, mRetN, mIfS, mNever, mAsg, setR, setV, setO, isPar, mAug, mDrop, mAppend, mExtend, ownL?, ownO, setC, RV.lst?, mSrc, itemsOf, mOp, RV.fz, OB.pv, mBor, mNm, mK, mNew, mBin, mUn, deref, liftO, mANil, mACons, mApp, derefs, vals?, RV.val?, small, mTup, mLst, mCall, lone, avsOf, avOf, backs, findArg, back1, RV.bor?, mTest, RV.bl?, mTruth, truth, mTNot, mTAnd, mTOr, mAndV, mOrV, mNotV, mIf, mChain, mgNm, mAsgT, mgTup, mgCons, mgNil, iop, pAdd, pSub, pMul, pDiv, pMod, pNeg, pLt, pLe, pGt, pGe, pEq, pNe, pAddI, pMulS, pIs, pIsNot, isP, pIn, pNotIn, inP, flatP, cmpOk, cmpOks, eqP, eqPs, pIx, fLen, fAbs, fInt, fMin2, fMax2, fOrd, fList, fTuple, fIsi, tyName, AV.slot, runF, Res.nox, RV.out, outsOf, SV.lent, range1e, range2e, range3e, range4e, isi_NoneType_int, isi_NoneType_bool, isi_NoneType_str, isi_NoneType_tuple, isi_NoneType_list, isi_bool_int, isi_bool_bool, isi_bool_str, isi_bool_tuple, isi_bool_list, isi_int_int, isi_int_bool, isi_int_str, isi_int_tuple, isi_int_list, isi_str_int, isi_str_bool, isi_str_str, isi_str_tuple, isi_str_list, isi_tuple_int, isi_tuple_bool, isi_tuple_str, isi_tuple_tuple, isi_tuple_list, isi_list_int, isi_list_bool, isi_list_str, isi_list_tuple, isi_list_list, isi_dict_int, isi_dict_bool, isi_dict_str, isi_dict_tuple, isi_dict_list]) ?_]
        · have e2 : wipeE [some (.val v), some (.val v), some (.val s), some (.val x), some (.val x)] [3, 4] = [some (.val v), some (.val v), some (.val s), none, none] := by simp [wipeE]
          rw [e2]
          exact ih fun y hy => hl y (List.mem_cons_of_mem _ hy)
        · unfold mTNot mTruth mOp
          rw [hc]
          simp [RV.fz, deref, truth, liftO, Res.bind]
    exact key xs h
  · simp [restoreE, keepV]
theorem like_step (hs : SortOk t.law_sort) : ∀ (n : Nat) (v : PV), lk n v = true → n ≤ 64 → (∀ xs, seqOf v = some xs → ∀ x ∈ xs, t.law_like [.val x, .val x] = .ok (.val (.bl true), [none, none])) →
    (stepT C t).law_like [.val v, .val v] = .ok (.val (.bl true), [none, none]) := by
  intro n v ok hn hx
  have h1 := hs n v ok
  have c1 : mCall t.law_sort (mACons (mNm 1) mANil) [some (.val v), some (.val v), none, none, none] = .ok (.val (.int (sortOf v)), [some (.val v), some (.val v), none, none, none]) := call1 (p := v) (by simp [Res.bind, mSeq, mNx, mRet, mRetNm, mRetN, mIfS, mNever, mAsg, setR, setV, setO, isPar, mAug, mDrop, mAppend, mExtend, ownL?, ownO, setC, RV.lst?, mSrc, itemsOf, mOp, RV.fz, OB.pv, mBor, mNm, mK, mNew, mBin, mUn, deref, liftO, mANil, mACons, mApp, derefs, vals?, RV.val?, small, mTup, mLst, mCall, lone, avsOf, avOf, backs, findArg, back1, RV.bor?, mTest, RV.bl?, mTruth, truth, mTNot, mTAnd, mTOr, mAndV, mOrV, mNotV, mIf, mChain, mgNm, mAsgT, mgTup, mgCons, mgNil, iop, pAdd, pSub, pMul, pDiv, pMod, pNeg, pLt, pLe, pGt, pGe, pEq, pNe, pAddI, pMulS, pIs, pIsNot, isP, pIn, pNotIn, inP, flatP, cmpOk, cmpOks, eqP, eqPs, pIx, fLen, fAbs, fInt, fMin2, fMax2, fOrd, fList, fTuple, fIsi, tyName, AV.slot, runF, Res.nox, RV.out, outsOf, SV.lent, range1e, range2e, range3e, range4e, isi_NoneType_int, isi_NoneType_bool, isi_NoneType_str, isi_NoneType_tuple, isi_NoneType_list, isi_bool_int, isi_bool_bool, isi_bool_str, isi_bool_tuple, isi_bool_list, isi_int_int, isi_int_bool, isi_int_str, isi_int_tuple, isi_int_list, isi_str_int, isi_str_bool, isi_str_str, isi_str_tuple, isi_str_list, isi_tuple_int, isi_tuple_bool, isi_tuple_str, isi_tuple_tuple, isi_tuple_list, isi_list_int, isi_list_bool, isi_list_str, isi_list_tuple, isi_list_list, isi_dict_int, isi_dict_bool, isi_dict_str, isi_dict_tuple, isi_dict_list]) h1
  have c2 : mCall t.law_sort (mACons (mNm 0) mANil) [some (.val v), some (.val v), some (.val (.int (sortOf v))), none, none] = .ok (.val (.int (sortOf v)), [some (.val v), some (.val v), some (.val (.int (sortOf v))), none, none]) := call1 (p := v) (by simp [Res.bind, mSeq, mNx, mRet, mRetNm, mRetN, mIfS, mNever, mAsg, setR, setV, setO, isPar, mAug, mDrop, mAppend, mExtend, ownL?, ownO, setC, RV.lst?, mSrc, itemsOf, mOp, RV.fz, OB.pv, mBor, mNm, mK, mNew, mBin, mUn, deref, liftO, mANil, mACons, mApp, derefs, vals?, RV.val?, small, mTup, mLst, mCall, lone, avsOf, avOf, backs, findArg, back1, RV.bor?, mTest, RV.bl?, mTruth, truth, mTNot, mTAnd, mTOr, mAndV, mOrV, mNotV, mIf, mChain, mgNm, mAsgT, mgTup, mgCons, mgNil, iop, pAdd, pSub, pMul, pDiv, pMod, pNeg, pLt, pLe, pGt, pGe, pEq, pNe, pAddI, pMulS, pIs, pIsNot, isP, pIn, pNotIn, inP, flatP, cmpOk, cmpOks, eqP, eqPs, pIx, fLen, fAbs, fInt, fMin2, fMax2, fOrd, fList, fTuple, fIsi, tyName, AV.slot, runF, Res.nox, RV.out, outsOf, SV.lent, range1e, range2e, range3e, range4e, isi_NoneType_int, isi_NoneType_bool, isi_NoneType_str, isi_NoneType_tuple, isi_NoneType_list, isi_bool_int, isi_bool_bool, isi_bool_str, isi_bool_tuple, isi_bool_list, isi_int_int, isi_int_bool, isi_int_str, isi_int_tuple, isi_int_list, isi_str_int, isi_str_bool, isi_str_str, isi_str_tuple, isi_str_list, isi_tuple_int, isi_tuple_bool, isi_tuple_str, isi_tuple_tuple, isi_tuple_list, isi_list_int, isi_list_bool, isi_list_str, isi_list_tuple, isi_list_list, isi_dict_int, isi_dict_bool, isi_dict_str, isi_dict_tuple, isi_dict_list]) h1
  have n6 : ¬ sortOf v = 6 := by
    cases v <;> first | (unfold lk at ok; cases ok; done) | (simp [sortOf]; done)
  refine run_rt (r := .val (.bl true)) (ρ1 := [some (.val v), some (.val v), some (.val (.int (sortOf v))), none, none]) [some (.val v), some (.val v), none, none, none] rfl ?_ rfl
  refine (seq_nx (asg_of c1 (ρ2 := [some (.val v), some (.val v), some (.val (.int (sortOf v))), none, none]) (by simp [Res.bind, mSeq, mNx, mRet, mRetNm, mRetN, mIfS, mNever, mAsg, setR, setV, setO, isPar, mAug, mDrop, mAppend, mExtend, ownL?, ownO, setC, RV.lst?, mSrc, itemsOf, mOp, RV.fz, OB.pv, mBor, mNm, mK, mNew, mBin, mUn, deref, liftO, mANil, mACons, mApp, derefs, vals?, RV.val?, small, mTup, mLst, mCall, lone, avsOf, avOf, backs, findArg, back1, RV.bor?, mTest, RV.bl?, mTruth, truth, mTNot, mTAnd, mTOr, mAndV, mOrV, mNotV, mIf, mChain, mgNm, mAsgT, mgTup, mgCons, mgNil, iop, pAdd, pSub, pMul, pDiv, pMod, pNeg, pLt, pLe, pGt, pGe, pEq, pNe, pAddI, pMulS, pIs, pIsNot, isP, pIn, pNotIn, inP, flatP, cmpOk, cmpOks, eqP, eqPs, pIx, fLen, fAbs, fInt, fMin2, fMax2, fOrd, fList, fTuple, fIsi, tyName, AV.slot, runF, Res.nox, RV.out, outsOf, SV.lent, range1e, range2e, range3e, range4e, isi_NoneType_int, isi_NoneType_bool, isi_NoneType_str, isi_NoneType_tuple, isi_NoneType_list, isi_bool_int, isi_bool_bool, isi_bool_str, isi_bool_tuple, isi_bool_list, isi_int_int, isi_int_bool, isi_int_str, isi_int_tuple, isi_int_list, isi_str_int, isi_str_bool, isi_str_str, isi_str_tuple, isi_str_list, isi_tuple_int, isi_tuple_bool, isi_tuple_str, isi_tuple_tuple, isi_tuple_list, isi_list_int, isi_list_bool, isi_list_str, isi_list_tuple, isi_list_list, isi_dict_int, isi_dict_bool, isi_dict_str, isi_dict_tuple, isi_dict_list]))).trans ?_
  refine (seq_nx (ρ1 := [some (.val v), some (.val v), some (.val (.int (sortOf v))), none, none]) ((ifs_f (ρ1 := [some (.val v), some (.val v), some (.val (.int (sortOf v))), none, none]) ?_).trans rfl)).trans ?_
  · unfold mTOr mTest mBin mOp
    rw [c2]
    simp [RV.fz, deref, liftO, Res.bind, pNe, cmpOk, eqP, RV.bl?, mBor, mK, pEq, n6]
  · have leaf : (∀ xs, seqOf v ≠ some xs) → sortOf v ≠ 4 → sortOf v ≠ 5 → cmpOk 64 v = true → eqP v v = true → mSeq (mIfS (mTest (mBin pIn (mBor 2) (mTup (mACons (mK (.int 4)) (mACons (mK (.int 5)) mANil))))) (mRet (mAndV (mBin pEq (mApp fLen (mACons (mBor 0) mANil)) (mApp fLen (mACons (mBor 1) mANil))) (mBin pEq (eLike t) (mLst mANil)))) mNx) (mRet (mBin pEq (mBor 0) (mBor 1))) [some (.val v), some (.val v), some (.val (.int (sortOf v))), none, none] = .ok (.rt (.val (.bl true)), [some (.val v), some (.val v), some (.val (.int (sortOf v))), none, none]) := by
      intro _ h4 h5 hc he
      refine (seq_nx (ρ1 := [some (.val v), some (.val v), some (.val (.int (sortOf v))), none, none]) ((ifs_f (ρ1 := [some (.val v), some (.val v), some (.val (.int (sortOf v))), none, none]) ?_).trans rfl)).trans ?_
      · have h4' : ¬ 4 = sortOf v := fun z => h4 z.symm
        have h5' : ¬ 5 = sortOf v := fun z => h5 z.symm
        simp [Res.bind, mSeq, mNx, mRet, mRetNm, mRetN, mIfS, mNever, mAsg, setR, setV, setO, isPar, mAug, mDrop, mAppend, mExtend, ownL?, ownO, setC, RV.lst?, mSrc, itemsOf, mOp, RV.fz, OB.pv, mBor, mNm, mK, mNew, mBin, mUn, deref, liftO, mANil, mACons, mApp, derefs, vals?, RV.val?, small, mTup, mLst, mCall, lone, avsOf, avOf, backs, findArg, back1, RV.bor?, mTest, RV.bl?, mTruth, truth, mTNot, mTAnd, mTOr, mAndV, mOrV, mNotV, mIf, mChain, mgNm, mAsgT, mgTup, mgCons, mgNil, iop, pAdd, pSub, pMul, pDiv, pMod, pNeg, pLt, pLe, pGt, pGe, pEq, pNe, pAddI, pMulS, pIs, pIsNot, isP, pIn, pNotIn, inP, flatP, cmpOk, cmpOks, eqP, eqPs, pIx, fLen, fAbs, fInt, fMin2, fMax2, fOrd, fList, fTuple, fIsi, tyName, AV.slot, runF, Res.nox, RV.out, outsOf, SV.lent, range1e, range2e, range3e, range4e, isi_NoneType_int, isi_NoneType_bool, isi_NoneType_str, isi_NoneType_tuple, isi_NoneType_list, isi_bool_int, isi_bool_bool, isi_bool_str, isi_bool_tuple, isi_bool_list, isi_int_int, isi_int_bool, isi_int_str, isi_int_tuple, isi_int_list, isi_str_int, isi_str_bool, isi_str_str, isi_str_tuple, isi_str_list, isi_tuple_int, isi_tuple_bool, isi_tuple_str, isi_tuple_tuple, isi_tuple_list, isi_list_int, isi_list_bool, isi_list_str, isi_list_tuple, isi_list_list, isi_dict_int, isi_dict_bool, isi_dict_str, isi_dict_tuple, isi_dict_list, h4', h5']
      · simp [Res.bind, mSeq, mNx, mRet, mRetNm, mRetN, mIfS, mNever, mAsg, setR, setV, setO, isPar, mAug, mDrop, mAppend, mExtend, ownL?, ownO, setC, RV.lst?, mSrc, itemsOf, mOp, RV.fz, OB.pv, mBor, mNm, mK, mNew, mBin, mUn, deref, liftO, mANil, mACons, mApp, derefs, vals?, RV.val?, small, mTup, mLst, mCall, lone, avsOf, avOf, backs, findArg, back1, RV.bor?, mTest, RV.bl?, mTruth, truth, mTNot, mTAnd, mTOr, mAndV, mOrV, mNotV, mIf, mChain, mgNm, mAsgT, mgTup, mgCons, mgNil, iop, pAdd, pSub, pMul, pDiv, pMod, pNeg, pLt, pLe, pGt, pGe, pEq, pNe, pAddI, pMulS, pIs, pIsNot, isP, pIn, pNotIn, inP, flatP, cmpOk, cmpOks, eqP, eqPs, pIx, fLen, fAbs, fInt, fMin2, fMax2, fOrd, fList, fTuple, fIsi, tyName, AV.slot, runF, Res.nox, RV.out, outsOf, SV.lent, range1e, range2e, range3e, range4e, isi_NoneType_int, isi_NoneType_bool, isi_NoneType_str, isi_NoneType_tuple, isi_NoneType_list, isi_bool_int, isi_bool_bool, isi_bool_str, isi_bool_tuple, isi_bool_list, isi_int_int, isi_int_bool, isi_int_str, isi_int_tuple, isi_int_list, isi_str_int, isi_str_bool, isi_str_str, isi_str_tuple, isi_str_list, isi_tuple_int, isi_tuple_bool, isi_tuple_str, isi_tuple_tuple, isi_tuple_list, isi_list_int, isi_list_bool, isi_list_str, isi_list_tuple, isi_list_list, isi_dict_int, isi_dict_bool, isi_dict_str, isi_dict_tuple, isi_dict_list, hc, he]
    have deep : ∀ xs, seqOf v = some xs → (sortOf v = 4 ∨ sortOf v = 5) → xs.length ≤ 16777216 → fLen [v] = some (.val (.int xs.length)) → mSeq (mIfS (mTest (mBin pIn (mBor 2) (mTup (mACons (mK (.int 4)) (mACons (mK (.int 5)) mANil))))) (mRet (mAndV (mBin pEq (mApp fLen (mACons (mBor 0) mANil)) (mApp fLen (mACons (mBor 1) mANil))) (mBin pEq (eLike t) (mLst mANil)))) mNx) (mRet (mBin pEq (mBor 0) (mBor 1))) [some (.val v), some (.val v), some (.val (.int (sortOf v))), none, none] = .ok (.rt (.val (.bl true)), [some (.val v), some (.val v), some (.val (.int (sortOf v))), none, none]) := by
      intro xs hs4 h45 hz hl
      refine seq_rt ((ifs_t (ρ1 := [some (.val v), some (.val v), some (.val (.int (sortOf v))), none, none]) ?_).trans (ret_of ?_))
      · rcases h45 with h | h <;> rw [h] <;> simp [Res.bind, mSeq, mNx, mRet, mRetNm, mRetN, mIfS, mNever, mAsg, setR, setV, setO, isPar, mAug, mDrop, mAppend, mExtend, ownL?, ownO, setC, RV.lst?, mSrc, itemsOf, mOp, RV.fz, OB.pv, mBor, mNm, mK, mNew, mBin, mUn, deref, liftO, mANil, mACons, mApp, derefs, vals?, RV.val?, small, mTup, mLst, mCall, lone, avsOf, avOf, backs, findArg, back1, RV.bor?, mTest, RV.bl?, mTruth, truth, mTNot, mTAnd, mTOr, mAndV, mOrV, mNotV, mIf, mChain, mgNm, mAsgT, mgTup, mgCons, mgNil, iop, pAdd, pSub, pMul, pDiv, pMod, pNeg, pLt, pLe, pGt, pGe, pEq, pNe, pAddI, pMulS, pIs, pIsNot, isP, pIn, pNotIn, inP, flatP, cmpOk, cmpOks, eqP, eqPs, pIx, fLen, fAbs, fInt, fMin2, fMax2, fOrd, fList, fTuple, fIsi, tyName, AV.slot, runF, Res.nox, RV.out, outsOf, SV.lent, range1e, range2e, range3e, range4e, isi_NoneType_int, isi_NoneType_bool, isi_NoneType_str, isi_NoneType_tuple, isi_NoneType_list, isi_bool_int, isi_bool_bool, isi_bool_str, isi_bool_tuple, isi_bool_list, isi_int_int, isi_int_bool, isi_int_str, isi_int_tuple, isi_int_list, isi_str_int, isi_str_bool, isi_str_str, isi_str_tuple, isi_str_list, isi_tuple_int, isi_tuple_bool, isi_tuple_str, isi_tuple_tuple, isi_tuple_list, isi_list_int, isi_list_bool, isi_list_str, isi_list_tuple, isi_list_list, isi_dict_int, isi_dict_bool, isi_dict_str, isi_dict_tuple, isi_dict_list]
      · have e1 : mBin pEq (mApp fLen (mACons (mBor 0) mANil)) (mApp fLen (mACons (mBor 1) mANil)) [some (.val v), some (.val v), some (.val (.int (sortOf v))), none, none] = .ok (.val (.bl true), [some (.val v), some (.val v), some (.val (.int (sortOf v))), none, none]) := by
          simp [mBin, mApp, mOp, mACons, mANil, mBor, RV.fz, Res.bind, derefs, deref, liftO, hl, pEq, cmpOk, eqP]
        have e2 : mBin pEq (eLike t) (mLst mANil) [some (.val v), some (.val v), some (.val (.int (sortOf v))), none, none] = .ok (.val (.bl true), [some (.val v), some (.val v), some (.val (.int (sortOf v))), none, none]) := by
          have l := like_lc v (.int (sortOf v)) xs hs4 hz (hx xs hs4)
          unfold mBin mOp
          rw [l]
          simp [RV.fz, OB.pv, deref, liftO, Res.bind, mLst, mANil, vals?, small, pEq, cmpOk, cmpOks, eqP, eqPs]
        exact (andv_t e1).trans e2
    cases v with
    | non => exact leaf (fun _ z => by cases z) (by simp [sortOf]) (by simp [sortOf]) rfl rfl
    | bl b => exact leaf (fun _ z => by cases z) (by simp [sortOf]) (by simp [sortOf]) rfl (by simp [eqP])
    | int i => exact leaf (fun _ z => by cases z) (by simp [sortOf]) (by simp [sortOf]) rfl (by simp [eqP])
    | str x =>
      unfold lk at ok
      exact leaf (fun _ z => by cases z) (by simp [sortOf]) (by simp [sortOf]) ok (by simp [eqP])
    | tup xs =>
      cases n with
      | zero => unfold lk at ok; cases ok
      | succ n =>
        unfold lk at ok
        rw [Bool.and_eq_true] at ok
        exact deep xs rfl (.inl rfl) (of_decide_eq_true ok.1) rfl
    | lst xs =>
      cases n with
      | zero => unfold lk at ok; cases ok
      | succ n =>
        unfold lk at ok
        rw [Bool.and_eq_true] at ok
        exact deep xs rfl (.inr rfl) (of_decide_eq_true ok.1) rfl
    | _ => unfold lk at ok; cases ok
theorem like_T : ∀ (n j : Nat) (v : PV), lk n v = true → n ≤ 64 → (T C (n + j + 2)).law_like [.val v, .val v] = .ok (.val (.bl true), [none, none])
  | 0, j, v, ok, hn => like_step (C := C) (t := T C (0 + j + 1)) law_sort_ok 0 v ok hn fun xs e => by
      cases v <;> first | (cases e; done) | (unfold lk at ok; cases ok)
  | n + 1, j, v, ok, hn => by
    have e : n + 1 + j + 2 = (n + j + 2) + 1 := by omega
    rw [e]
    refine like_step (C := C) (t := T C (n + j + 2)) law_sort_ok (n + 1) v ok hn fun xs e x hx => ?_
    cases v with
    | tup ys =>
      cases e
      unfold lk at ok
      rw [Bool.and_eq_true] at ok
      exact like_T n j x (lks_mem ok.2 x hx) (by omega)
    | lst ys =>
      cases e
      unfold lk at ok
      rw [Bool.and_eq_true] at ok
      exact like_T n j x (lks_mem ok.2 x hx) (by omega)
    | _ => cases e
end K80

set_option Elab.async false
set_option linter.all false
set_option maxRecDepth 100000
set_option exponentiation.threshold 100000
namespace K80
open PySem Pu
variable {C : Addr} {t : Tb}
/-! ### few digits -/
theorem log448 : (128 ^ 64 : Int).natAbs.log2 < 9000 := by decide +kernel
theorem pow_ok (i j : Int) (h : 0 ≤ j ∧ j ≤ 1000000 ∧ i.natAbs < 18446744073709551616) : pPow (.int i) (.int j) = some (.val (.int (i ^ j.toNat))) := iop_eval (if_pos h)
theorem div_ok (i j : Int) (h : 0 < j ∧ j.natAbs.log2 < 9000) : pDiv (.int i) (.int j) = some (.val (.int (i / j))) := iop_eval (if_pos h)
def B64 : Nat := 128 ^ 64
def B54 : Nat := 128 ^ 54
theorem B64_int : (128 : Int) ^ (64 : Int).toNat = (B64 : Int) := by decide +kernel
theorem B54_int : (128 : Int) ^ (54 : Int).toNat = (B54 : Int) := by decide +kernel
theorem B64_ok : (0 : Int) < (B64 : Int) ∧ (B64 : Int).natAbs.log2 < 9000 := by decide +kernel
theorem B64_pos : 0 < B64 := by decide +kernel
theorem B950 : B54 * B64 ^ 14 = 128 ^ 950 := by
  unfold B54 B64
  rw [← Nat.pow_mul, ← Nat.pow_add]
theorem pow64 (ρ : Pu.Env) : mBin pPow (mK (.int 128)) (mK (.int 64)) ρ = .ok (.val (.int (B64 : Int)), ρ) := bin_val rfl rfl (by rw [pow_ok 128 64 (by decide), B64_int])
theorem pow54 (ρ : Pu.Env) : mBin pPow (mK (.int 128)) (mK (.int 54)) ρ = .ok (.val (.int (B54 : Int)), ρ) := bin_val rfl rfl (by rw [pow_ok 128 54 (by decide), B54_int])
theorem fd_step (k : Nat) (s : Option SV) : mAug 0 pDiv (mBin pPow (mK (.int 128)) (mK (.int 64))) [some (.val (.int k)), s] = .ok (.nx, [some (.val (.int ((k / B64 : Nat) : Int))), s]) :=
  aug_val (a := .int k) (ρ1 := [some (.val (.int k)), s]) rfl (pow64 _) (div_ok _ _ B64_ok) (by rw [← Int.natCast_ediv]; rfl)
theorem fd_loop : ∀ (xs : List PV) (k : Nat) (s : Option PV), ∃ s' : Option PV, Pu.forM (mgNm 1) (mAug 0 pDiv (mBin pPow (mK (.int 128)) (mK (.int 64)))) xs [some (.val (.int k)), s.map SV.val] = .ok (.nx, [some (.val (.int ((k / B64 ^ xs.length : Nat) : Int))), s'.map SV.val])
  | [], k, s => ⟨s, by rw [List.length_nil, Nat.pow_zero, Nat.div_one]; rfl⟩
  | x :: xs, k, s => by
    obtain ⟨s', e⟩ := fd_loop xs (k / B64) (some x)
    refine ⟨s', ?_⟩
    rw [for_cons (ρ1 := [some (.val (.int k)), some (.val x)]) (by cases s <;> rfl) (fd_step k (some (.val x)))]
    refine e.trans ?_
    rw [Nat.div_div_eq_div_mul, List.length_cons, Nat.pow_succ, Nat.mul_comm]
theorem rng14 : ∃ xs, mRng rng1 (mACons (mK (.int 14)) mANil) = (fun ρ => .ok (xs, ρ)) ∧ xs.length = 14 := by
  refine ⟨rangeOf 0 14, ?_, ?_⟩
  · funext ρ
    simp [Res.bind, mSeq, mNx, mRet, mRetNm, mRetN, mIfS, mNever, mAsg, setR, setV, setO, isPar, mAug, mDrop, mAppend, mExtend, ownL?, ownO, setC, RV.lst?, mSrc, itemsOf, mOp, RV.fz, OB.pv, mBor, mNm, mK, mNew, mBin, mUn, deref, liftO, mANil, mACons, mApp, derefs, vals?, RV.val?, small, mTup, mLst, mCall, lone, avsOf, avOf, backs, findArg, back1, RV.bor?, mTest, RV.bl?, mTruth, truth, mTNot, mTAnd, mTOr, mAndV, mOrV, mNotV, mIf, mChain, mgNm, mAsgT, mgTup, mgCons, mgNil, iop, pAdd, pSub, pMul, pDiv, pMod, pNeg, pLt, pLe, pGt, pGe, pEq, pNe, pAddI, pMulS, pIs, pIsNot, isP, pIn, pNotIn, inP, flatP, cmpOk, cmpOks, eqP, eqPs, pIx, fLen, fAbs, fInt, fMin2, fMax2, fOrd, fList, fTuple, fIsi, tyName, AV.slot, runF, Res.nox, RV.out, outsOf, SV.lent, range1e, range2e, range3e, range4e, isi_NoneType_int, isi_NoneType_bool, isi_NoneType_str, isi_NoneType_tuple, isi_NoneType_list, isi_bool_int, isi_bool_bool, isi_bool_str, isi_bool_tuple, isi_bool_list, isi_int_int, isi_int_bool, isi_int_str, isi_int_tuple, isi_int_list, isi_str_int, isi_str_bool, isi_str_str, isi_str_tuple, isi_str_list, isi_tuple_int, isi_tuple_bool, isi_tuple_str, isi_tuple_tuple, isi_tuple_list, isi_list_int, isi_list_bool, isi_list_str, isi_list_tuple, isi_list_list, isi_dict_int, isi_dict_bool, isi_dict_str, isi_dict_tuple, isi_dict_list, mRng, rng1, b62]
  · simp [rangeOf]
theorem few_digits_ok (k : Nat) : (stepT C t).few_digits [.val (.int k)] = .ok (.val (.bl (decide (k < 128 ^ 950))), [none]) := by
  obtain ⟨xs, e1, e2⟩ := rng14
  obtain ⟨s', e⟩ := fd_loop xs k none
  rw [e2] at e
  have hq : k / B64 ^ 14 < B54 ↔ k < 128 ^ 950 := by
    rw [Nat.div_lt_iff_lt_mul (Nat.pow_pos B64_pos), B950]
  generalize (128 : Nat) ^ 950 = D at hq ⊢
  generalize k / B64 ^ 14 = q at hq e
  have e4 : pLt (.int (q : Int)) (.int (B54 : Int)) = some (.val (.bl (decide (k < D)))) := by
    refine iop_eval ?_
    have : decide ((q : Int) < (B54 : Int)) = decide (k < D) := by
      rw [decide_eq_decide]
      exact Int.ofNat_lt.trans hq
    rw [this]
  generalize decide (k < D) = c at e4 ⊢
  have e0 : (stepT C t).few_digits = runF 2 (b_few_digits C t) := rfl
  rw [e0]
  refine run_rt (r := .val (.bl c)) (ρ1 := [some (.val (.int (q : Int))), s'.map SV.val]) [some (.val (.int k)), none] rfl ?_ rfl
  show mSeq (mFor (mRng rng1 (mACons (mK (.int 14)) mANil)) (mgNm 1) (mAug 0 pDiv (mBin pPow (mK (.int 128)) (mK (.int 64))))) (mRet (mBin pLt (mBor 0) (mBin pPow (mK (.int 128)) (mK (.int 54))))) _ = _
  refine (seq_nx ((mfor_of (xs := xs) (ρ1 := [some (.val (.int k)), none]) (by rw [e1])).trans e)).trans ?_
  exact ret_of (bin_val (a := .int (q : Int)) rfl (pow54 _) e4)

/-! ### how many parts -/
mutual
def cnt : PV → Nat
  | .tup xs => 1 + cnts xs
  | _ => 1
def cnts : List PV → Nat
  | [] => 0
  | x :: xs => cnt x + cnts xs
end
def FewOk (g : G) : Prop := ∀ k : Nat, k < 128 ^ 950 → g [.val (.int k)] = .ok (.val (.bl true), [none])
def SignOk (g : G) : Prop := ∀ i : Int, g [.val (.int i)] = .ok (.val (.bl (isSign i)), [none])
theorem bls_true (n : Nat) : blsOf (List.replicate n (.bl true)) = some (List.replicate n true) := by
  induction n with
  | zero => rfl
  | succ n ih =>
    rw [List.replicate_succ, List.replicate_succ]
    show (blsOf (List.replicate n (.bl true))).map _ = _
    rw [ih]
    rfl
theorem sgn_lc (hs : SignOk t.is_sign) (x : Str) (d : PV) (h : x.length ≤ 16777216) (hx : (x.cps.toList.all fun (c : Nat) => isSign (c : Int)) = true) : mLc [5] (mSrc (mNm 0)) (mgNm 5) mYes (mCall t.is_sign (mACons (mApp fOrd (mACons (mBor 5) mANil)) mANil)) [some (.val (.str x)), some (.val d), none, none, none, none] =
    .ok (.new (.lst (List.replicate x.cps.toList.length (.bl true))), [some (.val (.str x)), some (.val d), none, none, none, none]) := by
  have hz : (x.cps.toList.map fun c => PV.str ⟨#[c]⟩).length ≤ 16777216 := by
    simpa [Str.length] using h
  refine (mlc_of (ρ1 := [some (.val (.str x)), some (.val d), none, none, none, none]) (ρ2 := [some (.val (.str x)), some (.val d), none, none, none, none]) (ys := List.replicate x.cps.toList.length (.bl true)) (by simp [Res.bind, mSeq, mNx, mRet, mRetNm, mRetN, mIfS, mNever, mAsg, setR, setV, setO, isPar, mAug, mDrop, mAppend, mExtend, ownL?, ownO, setC, RV.lst?, mSrc, itemsOf, mOp, RV.fz, OB.pv, mBor, mNm, mK, mNew, mBin, mUn, deref, liftO, mANil, mACons, mApp, derefs, vals?, RV.val?, small, mTup, mLst, mCall, lone, avsOf, avOf, backs, findArg, back1, RV.bor?, mTest, RV.bl?, mTruth, truth, mTNot, mTAnd, mTOr, mAndV, mOrV, mNotV, mIf, mChain, mgNm, mAsgT, mgTup, mgCons, mgNil, iop, pAdd, pSub, pMul, pDiv, pMod, pNeg, pLt, pLe, pGt, pGe, pEq, pNe, pAddI, pMulS, pIs, pIsNot, isP, pIn, pNotIn, inP, flatP, cmpOk, cmpOks, eqP, eqPs, pIx, fLen, fAbs, fInt, fMin2, fMax2, fOrd, fList, fTuple, fIsi, tyName, AV.slot, runF, Res.nox, RV.out, outsOf, SV.lent, range1e, range2e, range3e, range4e, isi_NoneType_int, isi_NoneType_bool, isi_NoneType_str, isi_NoneType_tuple, isi_NoneType_list, isi_bool_int, isi_bool_bool, isi_bool_str, isi_bool_tuple, isi_bool_list, isi_int_int, isi_int_bool, isi_int_str, isi_int_tuple, isi_int_list, isi_str_int, isi_str_bool, isi_str_str, isi_str_tuple, isi_str_list, isi_tuple_int, isi_tuple_bool, isi_tuple_str, isi_tuple_tuple, isi_tuple_list, isi_list_int, isi_list_bool, isi_list_str, isi_list_tuple, isi_list_list, isi_dict_int, isi_dict_bool, isi_dict_str, isi_dict_tuple, isi_dict_list, str_items]) hz ?_).trans ?_
  · have e : wipeE [some (.val (.str x)), some (.val d), none, none, none, none] [5] = [some (.val (.str x)), some (.val d), none, none, none, none] := by simp [wipeE]
    rw [e]
    have key : ∀ l : List Nat, (l.all fun (c : Nat) => isSign (c : Int)) = true → lcM [5] (mgNm 5) mYes (mCall t.is_sign (mACons (mApp fOrd (mACons (mBor 5) mANil)) mANil)) (l.map fun c => PV.str ⟨#[c]⟩) [some (.val (.str x)), some (.val d), none, none, none, none] = .ok (List.replicate l.length (.bl true), [some (.val (.str x)), some (.val d), none, none, none, none]) := by
      intro l
      induction l with
      | nil => intro _; rfl
      | cons c l ih =>
        intro hl
        rw [List.all_cons, Bool.and_eq_true] at hl
        have hc := hs (c : Int)
        rw [hl.1] at hc
        rw [List.map_cons, lc_cons (ρ1 := [some (.val (.str x)), some (.val d), none, none, none, some (.val (.str ⟨#[c]⟩))]) (ρ2 := [some (.val (.str x)), some (.val d), none, none, none, some (.val (.str ⟨#[c]⟩))]) (ρ3 := [some (.val (.str x)), some (.val d), none, none, none, some (.val (.str ⟨#[c]⟩))]) (y := .bl true) (by simp [Res.bind, mSeq, mNx, mRet, mRetNm, mRetN, mIfS, mNever, mAsg, setR, setV, setO, isPar, mAug, mDrop, mAppend, mExtend, ownL?, ownO, setC, RV.lst?, mSrc, itemsOf, mOp, RV.fz, OB.pv, mBor, mNm, mK, mNew, mBin, mUn, deref, liftO, mANil, mACons, mApp, derefs, vals?, RV.val?, small, mTup, mLst, mCall, lone, avsOf, avOf, backs, findArg, back1, RV.bor?, mTest, RV.bl?, mTruth, truth, mTNot, mTAnd, mTOr, mAndV, mOrV, mNotV, mIf, mChain, mgNm, mAsgT, mgTup, mgCons, mgNil, iop, pAdd, pSub, pMul, pDiv, pMod, pNeg, pLt, pLe, pGt, pGe, pEq, pNe, pAddI, pMulS, pIs, pIsNot, isP, pIn, pNotIn, inP, flatP, cmpOk, cmpOks, eqP, eqPs, pIx, fLen, fAbs, fInt, fMin2, fMax2, fOrd, fList, fTuple, fIsi, tyName, AV.slot, runF, Res.nox, RV.out, outsOf, SV.lent, range1e, range2e, range3e, range4e, isi_NoneType_int, isi_NoneType_bool, isi_NoneType_str, isi_NoneType_tuple, isi_NoneType_list, isi_bool_int, isi_bool_bool, isi_bool_str, isi_bool_tuple, isi_bool_list, isi_int_int, isi_int_bool, isi_int_str, isi_int_tuple, isi_int_list, isi_str_int, isi_str_bool, isi_str_str, isi_str_tuple, isi_str_list, isi_tuple_int, isi_tuple_bool, isi_tuple_str, isi_tuple_tuple, isi_tuple_list, isi_list_int, isi_list_bool, isi_list_str, isi_list_tuple, isi_list_list, isi_dict_int, isi_dict_bool, isi_dict_str, isi_dict_tuple, isi_dict_list]) rfl (call1 (p := .int c) (by simp [Res.bind, mSeq, mNx, mRet, mRetNm, mRetN, mIfS, mNever, mAsg, setR, setV, setO, isPar, mAug, mDrop, mAppend, mExtend, ownL?, ownO, setC, RV.lst?, mSrc, itemsOf, mOp, RV.fz, OB.pv, mBor, mNm, mK, mNew, mBin, mUn, deref, liftO, mANil, mACons, mApp, derefs, vals?, RV.val?, small, mTup, mLst, mCall, lone, avsOf, avOf, backs, findArg, back1, RV.bor?, mTest, RV.bl?, mTruth, truth, mTNot, mTAnd, mTOr, mAndV, mOrV, mNotV, mIf, mChain, mgNm, mAsgT, mgTup, mgCons, mgNil, iop, pAdd, pSub, pMul, pDiv, pMod, pNeg, pLt, pLe, pGt, pGe, pEq, pNe, pAddI, pMulS, pIs, pIsNot, isP, pIn, pNotIn, inP, flatP, cmpOk, cmpOks, eqP, eqPs, pIx, fLen, fAbs, fInt, fMin2, fMax2, fOrd, fList, fTuple, fIsi, tyName, AV.slot, runF, Res.nox, RV.out, outsOf, SV.lent, range1e, range2e, range3e, range4e, isi_NoneType_int, isi_NoneType_bool, isi_NoneType_str, isi_NoneType_tuple, isi_NoneType_list, isi_bool_int, isi_bool_bool, isi_bool_str, isi_bool_tuple, isi_bool_list, isi_int_int, isi_int_bool, isi_int_str, isi_int_tuple, isi_int_list, isi_str_int, isi_str_bool, isi_str_str, isi_str_tuple, isi_str_list, isi_tuple_int, isi_tuple_bool, isi_tuple_str, isi_tuple_tuple, isi_tuple_list, isi_list_int, isi_list_bool, isi_list_str, isi_list_tuple, isi_list_list, isi_dict_int, isi_dict_bool, isi_dict_str, isi_dict_tuple, isi_dict_list, Str.length]) hc)]
        have e2 : wipeE [some (.val (.str x)), some (.val d), none, none, none, some (.val (.str ⟨#[c]⟩))] [5] = [some (.val (.str x)), some (.val d), none, none, none, none] := by simp [wipeE]
        rw [e2, ih hl.2]
        rfl
    exact key _ hx
  · simp [restoreE, keepV]
abbrev bCnt (t : Tb) : MS := mSeq (mAsg 4 (mCall t.counted (mACons (mNm 3) (mACons (mBin pAdd (mBor 1) (mK (.int 1))) mANil))))
    (mSeq (mIfS (mTOr (mTest (mBin pIs (mBor 4) (mK .non))) (mTest (mBin pGt (mBin pAdd (mBor 2) (mBor 4)) (mK (.int 500000))))) (mRet (mK .non)) mNx) (mAug 2 pAddI (mBor 4)))
theorem cnt_loop (v : PV) (d : Nat) : ∀ (xs : List PV) (m : Nat) (a b : Option PV), (∀ x ∈ xs, t.counted [.val x, .val (.int ((d + 1 : Nat) : Int))] = .ok (.val (.int (cnt x)), [none, none])) → m + cnts xs ≤ 500000 →
    ∃ a' b' : Option PV, Pu.forM (mgNm 3) (bCnt t) xs [some (.val v), some (.val (.int d)), some (.val (.int m)), a.map SV.val, b.map SV.val, none] = .ok (.nx, [some (.val v), some (.val (.int d)), some (.val (.int ((m + cnts xs : Nat) : Int))), a'.map SV.val, b'.map SV.val, none])
  | [], m, a, b, _, _ => ⟨a, b, by simp [Pu.forM, cnts]⟩
  | x :: xs, m, a, b, h, hz => by
    rw [show cnts (x :: xs) = cnt x + cnts xs from rfl] at hz
    obtain ⟨a', b', e⟩ := cnt_loop v d xs (m + cnt x) (some x) (some (.int (cnt x))) (fun y hy => h y (List.mem_cons_of_mem _ hy)) (by omega)
    have hx := h x (List.mem_cons_self ..)
    refine ⟨a', b', ?_⟩
    have c1 : ¬ (500000 : Int) < (m : Int) + (cnt x : Int) := by omega
    have c2 : mCall t.counted (mACons (mNm 3) (mACons (mBin pAdd (mBor 1) (mK (.int 1))) mANil)) [some (.val v), some (.val (.int d)), some (.val (.int m)), some (.val x), b.map SV.val, none] = .ok (.val (.int (cnt x)), [some (.val v), some (.val (.int d)), some (.val (.int m)), some (.val x), b.map SV.val, none]) :=
      call2 (p := x) (q := .int ((d + 1 : Nat) : Int)) (ρ1 := [some (.val v), some (.val (.int d)), some (.val (.int m)), some (.val x), b.map SV.val, none]) rfl (by simp [Res.bind, mSeq, mNx, mRet, mRetNm, mRetN, mIfS, mNever, mAsg, setR, setV, setO, isPar, mAug, mDrop, mAppend, mExtend, ownL?, ownO, setC, RV.lst?, mSrc, itemsOf, mOp, RV.fz, OB.pv, mBor, mNm, mK, mNew, mBin, mUn, deref, liftO, mANil, mACons, mApp, derefs, vals?, RV.val?, small, mTup, mLst, mCall, lone, avsOf, avOf, backs, findArg, back1, RV.bor?, mTest, RV.bl?, mTruth, truth, mTNot, mTAnd, mTOr, mAndV, mOrV, mNotV, mIf, mChain, mgNm, mAsgT, mgTup, mgCons, mgNil, iop, pAdd, pSub, pMul, pDiv, pMod, pNeg, pLt, pLe, pGt, pGe, pEq, pNe, pAddI, pMulS, pIs, pIsNot, isP, pIn, pNotIn, inP, flatP, cmpOk, cmpOks, eqP, eqPs, pIx, fLen, fAbs, fInt, fMin2, fMax2, fOrd, fList, fTuple, fIsi, tyName, AV.slot, runF, Res.nox, RV.out, outsOf, SV.lent, range1e, range2e, range3e, range4e, isi_NoneType_int, isi_NoneType_bool, isi_NoneType_str, isi_NoneType_tuple, isi_NoneType_list, isi_bool_int, isi_bool_bool, isi_bool_str, isi_bool_tuple, isi_bool_list, isi_int_int, isi_int_bool, isi_int_str, isi_int_tuple, isi_int_list, isi_str_int, isi_str_bool, isi_str_str, isi_str_tuple, isi_str_list, isi_tuple_int, isi_tuple_bool, isi_tuple_str, isi_tuple_tuple, isi_tuple_list, isi_list_int, isi_list_bool, isi_list_str, isi_list_tuple, isi_list_list, isi_dict_int, isi_dict_bool, isi_dict_str, isi_dict_tuple, isi_dict_list]) hx
    rw [for_cons (ρ1 := [some (.val v), some (.val (.int d)), some (.val (.int m)), some (.val x), b.map SV.val, none]) (ρ2 := [some (.val v), some (.val (.int d)), some (.val (.int ((m + cnt x : Nat) : Int))), some (.val x), some (.val (.int (cnt x))), none]) (by cases a <;> rfl) ?_]
    · refine e.trans ?_
      rw [show m + cnt x + cnts xs = m + cnts (x :: xs) by rw [show cnts (x :: xs) = cnt x + cnts xs from rfl]; omega]
    · refine (seq_nx (asg_of c2 (ρ2 := [some (.val v), some (.val (.int d)), some (.val (.int m)), some (.val x), some (.val (.int (cnt x))), none]) (by cases b <;> rfl))).trans ?_
      simp [Res.bind, mSeq, mNx, mRet, mRetNm, mRetN, mIfS, mNever, mAsg, setR, setV, setO, isPar, mAug, mDrop, mAppend, mExtend, ownL?, ownO, setC, RV.lst?, mSrc, itemsOf, mOp, RV.fz, OB.pv, mBor, mNm, mK, mNew, mBin, mUn, deref, liftO, mANil, mACons, mApp, derefs, vals?, RV.val?, small, mTup, mLst, mCall, lone, avsOf, avOf, backs, findArg, back1, RV.bor?, mTest, RV.bl?, mTruth, truth, mTNot, mTAnd, mTOr, mAndV, mOrV, mNotV, mIf, mChain, mgNm, mAsgT, mgTup, mgCons, mgNil, iop, pAdd, pSub, pMul, pDiv, pMod, pNeg, pLt, pLe, pGt, pGe, pEq, pNe, pAddI, pMulS, pIs, pIsNot, isP, pIn, pNotIn, inP, flatP, cmpOk, cmpOks, eqP, eqPs, pIx, fLen, fAbs, fInt, fMin2, fMax2, fOrd, fList, fTuple, fIsi, tyName, AV.slot, runF, Res.nox, RV.out, outsOf, SV.lent, range1e, range2e, range3e, range4e, isi_NoneType_int, isi_NoneType_bool, isi_NoneType_str, isi_NoneType_tuple, isi_NoneType_list, isi_bool_int, isi_bool_bool, isi_bool_str, isi_bool_tuple, isi_bool_list, isi_int_int, isi_int_bool, isi_int_str, isi_int_tuple, isi_int_list, isi_str_int, isi_str_bool, isi_str_str, isi_str_tuple, isi_str_list, isi_tuple_int, isi_tuple_bool, isi_tuple_str, isi_tuple_tuple, isi_tuple_list, isi_list_int, isi_list_bool, isi_list_str, isi_list_tuple, isi_list_list, isi_dict_int, isi_dict_bool, isi_dict_str, isi_dict_tuple, isi_dict_list, c1]
theorem counted_step (hf : FewOk t.few_digits) (hs : SignOk t.is_sign) : ∀ (n d : Nat) (v : PV), okV n v = true → n + d = 60 → cnt v ≤ 500000 → (∀ xs, v = .tup xs → ∀ x ∈ xs, t.counted [.val x, .val (.int ((d + 1 : Nat) : Int))] = .ok (.val (.int (cnt x)), [none, none])) →
    (stepT C t).counted [.val v, .val (.int d)] = .ok (.val (.int (cnt v)), [none, none]) := by
  intro n d v ok hn hz hx
  cases v with
  | non => simp [Res.bind, mSeq, mNx, mRet, mRetNm, mRetN, mIfS, mNever, mAsg, setR, setV, setO, isPar, mAug, mDrop, mAppend, mExtend, ownL?, ownO, setC, RV.lst?, mSrc, itemsOf, mOp, RV.fz, OB.pv, mBor, mNm, mK, mNew, mBin, mUn, deref, liftO, mANil, mACons, mApp, derefs, vals?, RV.val?, small, mTup, mLst, mCall, lone, avsOf, avOf, backs, findArg, back1, RV.bor?, mTest, RV.bl?, mTruth, truth, mTNot, mTAnd, mTOr, mAndV, mOrV, mNotV, mIf, mChain, mgNm, mAsgT, mgTup, mgCons, mgNil, iop, pAdd, pSub, pMul, pDiv, pMod, pNeg, pLt, pLe, pGt, pGe, pEq, pNe, pAddI, pMulS, pIs, pIsNot, isP, pIn, pNotIn, inP, flatP, cmpOk, cmpOks, eqP, eqPs, pIx, fLen, fAbs, fInt, fMin2, fMax2, fOrd, fList, fTuple, fIsi, tyName, AV.slot, runF, Res.nox, RV.out, outsOf, SV.lent, range1e, range2e, range3e, range4e, isi_NoneType_int, isi_NoneType_bool, isi_NoneType_str, isi_NoneType_tuple, isi_NoneType_list, isi_bool_int, isi_bool_bool, isi_bool_str, isi_bool_tuple, isi_bool_list, isi_int_int, isi_int_bool, isi_int_str, isi_int_tuple, isi_int_list, isi_str_int, isi_str_bool, isi_str_str, isi_str_tuple, isi_str_list, isi_tuple_int, isi_tuple_bool, isi_tuple_str, isi_tuple_tuple, isi_tuple_list, isi_list_int, isi_list_bool, isi_list_str, isi_list_tuple, isi_list_list, isi_dict_int, isi_dict_bool, isi_dict_str, isi_dict_tuple, isi_dict_list, stepT, b_counted, cnt]
  | bl b => simp [Res.bind, mSeq, mNx, mRet, mRetNm, mRetN, mIfS, mNever, mAsg, setR, setV, setO, isPar, mAug, mDrop, mAppend, mExtend, ownL?, ownO, setC, RV.lst?, mSrc, itemsOf, mOp, RV.fz, OB.pv, mBor, mNm, mK, mNew, mBin, mUn, deref, liftO, mANil, mACons, mApp, derefs, vals?, RV.val?, small, mTup, mLst, mCall, lone, avsOf, avOf, backs, findArg, back1, RV.bor?, mTest, RV.bl?, mTruth, truth, mTNot, mTAnd, mTOr, mAndV, mOrV, mNotV, mIf, mChain, mgNm, mAsgT, mgTup, mgCons, mgNil, iop, pAdd, pSub, pMul, pDiv, pMod, pNeg, pLt, pLe, pGt, pGe, pEq, pNe, pAddI, pMulS, pIs, pIsNot, isP, pIn, pNotIn, inP, flatP, cmpOk, cmpOks, eqP, eqPs, pIx, fLen, fAbs, fInt, fMin2, fMax2, fOrd, fList, fTuple, fIsi, tyName, AV.slot, runF, Res.nox, RV.out, outsOf, SV.lent, range1e, range2e, range3e, range4e, isi_NoneType_int, isi_NoneType_bool, isi_NoneType_str, isi_NoneType_tuple, isi_NoneType_list, isi_bool_int, isi_bool_bool, isi_bool_str, isi_bool_tuple, isi_bool_list, isi_int_int, isi_int_bool, isi_int_str, isi_int_tuple, isi_int_list, isi_str_int, isi_str_bool, isi_str_str, isi_str_tuple, isi_str_list, isi_tuple_int, isi_tuple_bool, isi_tuple_str, isi_tuple_tuple, isi_tuple_list, isi_list_int, isi_list_bool, isi_list_str, isi_list_tuple, isi_list_list, isi_dict_int, isi_dict_bool, isi_dict_str, isi_dict_tuple, isi_dict_list, stepT, b_counted, cnt]
  | int i =>
    have ok0 : okV 0 (.int i) = true := by
      unfold okV at ok ⊢
      exact ok
    obtain ⟨h1, h2⟩ := int950 ok0
    have fin : mCall t.few_digits (mACons (mIf (mTest (mBin pGe (mBor 0) (mK (.int 0)))) (mNm 0) (mBin pSub (mUn pNeg (mBor 0)) (mK (.int 1)))) mANil) [some (.val (.int i)), some (.val (.int d)), none, none, none, none] = .ok (.val (.bl true), [some (.val (.int i)), some (.val (.int d)), none, none, none, none]) := by
      by_cases hi : 0 ≤ i
      · have e : i = ((i.toNat : Nat) : Int) := by omega
        have hc := hf i.toNat (h1 hi)
        rw [← e] at hc
        exact call1 (p := .int i) ((mif_t (ρ1 := [some (.val (.int i)), some (.val (.int d)), none, none, none, none]) (by simp [Res.bind, mSeq, mNx, mRet, mRetNm, mRetN, mIfS, mNever, mAsg, setR, setV, setO, isPar, mAug, mDrop, mAppend, mExtend, ownL?, ownO, setC, RV.lst?, mSrc, itemsOf, mOp, RV.fz, OB.pv, mBor, mNm, mK, mNew, mBin, mUn, deref, liftO, mANil, mACons, mApp, derefs, vals?, RV.val?, small, mTup, mLst, mCall, lone, avsOf, avOf, backs, findArg, back1, RV.bor?, mTest, RV.bl?, mTruth, truth, mTNot, mTAnd, mTOr, mAndV, mOrV, mNotV, mIf, mChain, mgNm, mAsgT, mgTup, mgCons, mgNil, iop, pAdd, pSub, pMul, pDiv, pMod, pNeg, pLt, pLe, pGt, pGe, pEq, pNe, pAddI, pMulS, pIs, pIsNot, isP, pIn, pNotIn, inP, flatP, cmpOk, cmpOks, eqP, eqPs, pIx, fLen, fAbs, fInt, fMin2, fMax2, fOrd, fList, fTuple, fIsi, tyName, AV.slot, runF, Res.nox, RV.out, outsOf, SV.lent, range1e, range2e, range3e, range4e, isi_NoneType_int, isi_NoneType_bool, isi_NoneType_str, isi_NoneType_tuple, isi_NoneType_list, isi_bool_int, isi_bool_bool, isi_bool_str, isi_bool_tuple, isi_bool_list, isi_int_int, isi_int_bool, isi_int_str, isi_int_tuple, isi_int_list, isi_str_int, isi_str_bool, isi_str_str, isi_str_tuple, isi_str_list, isi_tuple_int, isi_tuple_bool, isi_tuple_str, isi_tuple_tuple, isi_tuple_list, isi_list_int, isi_list_bool, isi_list_str, isi_list_tuple, isi_list_list, isi_dict_int, isi_dict_bool, isi_dict_str, isi_dict_tuple, isi_dict_list, hi])).trans rfl) hc
      · have e : -i - 1 = (((-i - 1).toNat : Nat) : Int) := by omega
        have hc := hf (-i - 1).toNat (h2 hi)
        rw [← e] at hc
        exact call1 (p := .int (-i - 1)) ((mif_f (ρ1 := [some (.val (.int i)), some (.val (.int d)), none, none, none, none]) (by simp [Res.bind, mSeq, mNx, mRet, mRetNm, mRetN, mIfS, mNever, mAsg, setR, setV, setO, isPar, mAug, mDrop, mAppend, mExtend, ownL?, ownO, setC, RV.lst?, mSrc, itemsOf, mOp, RV.fz, OB.pv, mBor, mNm, mK, mNew, mBin, mUn, deref, liftO, mANil, mACons, mApp, derefs, vals?, RV.val?, small, mTup, mLst, mCall, lone, avsOf, avOf, backs, findArg, back1, RV.bor?, mTest, RV.bl?, mTruth, truth, mTNot, mTAnd, mTOr, mAndV, mOrV, mNotV, mIf, mChain, mgNm, mAsgT, mgTup, mgCons, mgNil, iop, pAdd, pSub, pMul, pDiv, pMod, pNeg, pLt, pLe, pGt, pGe, pEq, pNe, pAddI, pMulS, pIs, pIsNot, isP, pIn, pNotIn, inP, flatP, cmpOk, cmpOks, eqP, eqPs, pIx, fLen, fAbs, fInt, fMin2, fMax2, fOrd, fList, fTuple, fIsi, tyName, AV.slot, runF, Res.nox, RV.out, outsOf, SV.lent, range1e, range2e, range3e, range4e, isi_NoneType_int, isi_NoneType_bool, isi_NoneType_str, isi_NoneType_tuple, isi_NoneType_list, isi_bool_int, isi_bool_bool, isi_bool_str, isi_bool_tuple, isi_bool_list, isi_int_int, isi_int_bool, isi_int_str, isi_int_tuple, isi_int_list, isi_str_int, isi_str_bool, isi_str_str, isi_str_tuple, isi_str_list, isi_tuple_int, isi_tuple_bool, isi_tuple_str, isi_tuple_tuple, isi_tuple_list, isi_list_int, isi_list_bool, isi_list_str, isi_list_tuple, isi_list_list, isi_dict_int, isi_dict_bool, isi_dict_str, isi_dict_tuple, isi_dict_list, hi])).trans (by simp [Res.bind, mSeq, mNx, mRet, mRetNm, mRetN, mIfS, mNever, mAsg, setR, setV, setO, isPar, mAug, mDrop, mAppend, mExtend, ownL?, ownO, setC, RV.lst?, mSrc, itemsOf, mOp, RV.fz, OB.pv, mBor, mNm, mK, mNew, mBin, mUn, deref, liftO, mANil, mACons, mApp, derefs, vals?, RV.val?, small, mTup, mLst, mCall, lone, avsOf, avOf, backs, findArg, back1, RV.bor?, mTest, RV.bl?, mTruth, truth, mTNot, mTAnd, mTOr, mAndV, mOrV, mNotV, mIf, mChain, mgNm, mAsgT, mgTup, mgCons, mgNil, iop, pAdd, pSub, pMul, pDiv, pMod, pNeg, pLt, pLe, pGt, pGe, pEq, pNe, pAddI, pMulS, pIs, pIsNot, isP, pIn, pNotIn, inP, flatP, cmpOk, cmpOks, eqP, eqPs, pIx, fLen, fAbs, fInt, fMin2, fMax2, fOrd, fList, fTuple, fIsi, tyName, AV.slot, runF, Res.nox, RV.out, outsOf, SV.lent, range1e, range2e, range3e, range4e, isi_NoneType_int, isi_NoneType_bool, isi_NoneType_str, isi_NoneType_tuple, isi_NoneType_list, isi_bool_int, isi_bool_bool, isi_bool_str, isi_bool_tuple, isi_bool_list, isi_int_int, isi_int_bool, isi_int_str, isi_int_tuple, isi_int_list, isi_str_int, isi_str_bool, isi_str_str, isi_str_tuple, isi_str_list, isi_tuple_int, isi_tuple_bool, isi_tuple_str, isi_tuple_tuple, isi_tuple_list, isi_list_int, isi_list_bool, isi_list_str, isi_list_tuple, isi_list_list, isi_dict_int, isi_dict_bool, isi_dict_str, isi_dict_tuple, isi_dict_list])) hc
    refine run_rt (r := .val (.int 1)) (ρ1 := [some (.val (.int i)), some (.val (.int d)), none, none, none, none]) [some (.val (.int i)), some (.val (.int d)), none, none, none, none] rfl ?_ rfl
    refine (seq_nx (ρ1 := [some (.val (.int i)), some (.val (.int d)), none, none, none, none]) (by simp [Res.bind, mSeq, mNx, mRet, mRetNm, mRetN, mIfS, mNever, mAsg, setR, setV, setO, isPar, mAug, mDrop, mAppend, mExtend, ownL?, ownO, setC, RV.lst?, mSrc, itemsOf, mOp, RV.fz, OB.pv, mBor, mNm, mK, mNew, mBin, mUn, deref, liftO, mANil, mACons, mApp, derefs, vals?, RV.val?, small, mTup, mLst, mCall, lone, avsOf, avOf, backs, findArg, back1, RV.bor?, mTest, RV.bl?, mTruth, truth, mTNot, mTAnd, mTOr, mAndV, mOrV, mNotV, mIf, mChain, mgNm, mAsgT, mgTup, mgCons, mgNil, iop, pAdd, pSub, pMul, pDiv, pMod, pNeg, pLt, pLe, pGt, pGe, pEq, pNe, pAddI, pMulS, pIs, pIsNot, isP, pIn, pNotIn, inP, flatP, cmpOk, cmpOks, eqP, eqPs, pIx, fLen, fAbs, fInt, fMin2, fMax2, fOrd, fList, fTuple, fIsi, tyName, AV.slot, runF, Res.nox, RV.out, outsOf, SV.lent, range1e, range2e, range3e, range4e, isi_NoneType_int, isi_NoneType_bool, isi_NoneType_str, isi_NoneType_tuple, isi_NoneType_list, isi_bool_int, isi_bool_bool, isi_bool_str, isi_bool_tuple, isi_bool_list, isi_int_int, isi_int_bool, isi_int_str, isi_int_tuple, isi_int_list, isi_str_int, isi_str_bool, isi_str_str, isi_str_tuple, isi_str_list, isi_tuple_int, isi_tuple_bool, isi_tuple_str, isi_tuple_tuple, isi_tuple_list, isi_list_int, isi_list_bool, isi_list_str, isi_list_tuple, isi_list_list, isi_dict_int, isi_dict_bool, isi_dict_str, isi_dict_tuple, isi_dict_list])).trans ?_
    refine seq_rt ((ifs_t (ρ1 := [some (.val (.int i)), some (.val (.int d)), none, none, none, none]) (by simp [Res.bind, mSeq, mNx, mRet, mRetNm, mRetN, mIfS, mNever, mAsg, setR, setV, setO, isPar, mAug, mDrop, mAppend, mExtend, ownL?, ownO, setC, RV.lst?, mSrc, itemsOf, mOp, RV.fz, OB.pv, mBor, mNm, mK, mNew, mBin, mUn, deref, liftO, mANil, mACons, mApp, derefs, vals?, RV.val?, small, mTup, mLst, mCall, lone, avsOf, avOf, backs, findArg, back1, RV.bor?, mTest, RV.bl?, mTruth, truth, mTNot, mTAnd, mTOr, mAndV, mOrV, mNotV, mIf, mChain, mgNm, mAsgT, mgTup, mgCons, mgNil, iop, pAdd, pSub, pMul, pDiv, pMod, pNeg, pLt, pLe, pGt, pGe, pEq, pNe, pAddI, pMulS, pIs, pIsNot, isP, pIn, pNotIn, inP, flatP, cmpOk, cmpOks, eqP, eqPs, pIx, fLen, fAbs, fInt, fMin2, fMax2, fOrd, fList, fTuple, fIsi, tyName, AV.slot, runF, Res.nox, RV.out, outsOf, SV.lent, range1e, range2e, range3e, range4e, isi_NoneType_int, isi_NoneType_bool, isi_NoneType_str, isi_NoneType_tuple, isi_NoneType_list, isi_bool_int, isi_bool_bool, isi_bool_str, isi_bool_tuple, isi_bool_list, isi_int_int, isi_int_bool, isi_int_str, isi_int_tuple, isi_int_list, isi_str_int, isi_str_bool, isi_str_str, isi_str_tuple, isi_str_list, isi_tuple_int, isi_tuple_bool, isi_tuple_str, isi_tuple_tuple, isi_tuple_list, isi_list_int, isi_list_bool, isi_list_str, isi_list_tuple, isi_list_list, isi_dict_int, isi_dict_bool, isi_dict_str, isi_dict_tuple, isi_dict_list])).trans (ret_of ?_))
    exact (mif_t (truth_of' fin rfl)).trans rfl
  | str x =>
    unfold okV at ok
    rw [Bool.and_eq_true] at ok
    have hl := of_decide_eq_true ok.1
    have sz : szOk x.length = true := szOk_of (by omega)
    have hl' : (x.length : Int) ≤ 20000 := by omega
    refine run_rt (r := .val (.int 1)) (ρ1 := [some (.val (.str x)), some (.val (.int d)), none, none, none, none]) [some (.val (.str x)), some (.val (.int d)), none, none, none, none] rfl ?_ rfl
    refine (seq_nx (ρ1 := [some (.val (.str x)), some (.val (.int d)), none, none, none, none]) (by simp [Res.bind, mSeq, mNx, mRet, mRetNm, mRetN, mIfS, mNever, mAsg, setR, setV, setO, isPar, mAug, mDrop, mAppend, mExtend, ownL?, ownO, setC, RV.lst?, mSrc, itemsOf, mOp, RV.fz, OB.pv, mBor, mNm, mK, mNew, mBin, mUn, deref, liftO, mANil, mACons, mApp, derefs, vals?, RV.val?, small, mTup, mLst, mCall, lone, avsOf, avOf, backs, findArg, back1, RV.bor?, mTest, RV.bl?, mTruth, truth, mTNot, mTAnd, mTOr, mAndV, mOrV, mNotV, mIf, mChain, mgNm, mAsgT, mgTup, mgCons, mgNil, iop, pAdd, pSub, pMul, pDiv, pMod, pNeg, pLt, pLe, pGt, pGe, pEq, pNe, pAddI, pMulS, pIs, pIsNot, isP, pIn, pNotIn, inP, flatP, cmpOk, cmpOks, eqP, eqPs, pIx, fLen, fAbs, fInt, fMin2, fMax2, fOrd, fList, fTuple, fIsi, tyName, AV.slot, runF, Res.nox, RV.out, outsOf, SV.lent, range1e, range2e, range3e, range4e, isi_NoneType_int, isi_NoneType_bool, isi_NoneType_str, isi_NoneType_tuple, isi_NoneType_list, isi_bool_int, isi_bool_bool, isi_bool_str, isi_bool_tuple, isi_bool_list, isi_int_int, isi_int_bool, isi_int_str, isi_int_tuple, isi_int_list, isi_str_int, isi_str_bool, isi_str_str, isi_str_tuple, isi_str_list, isi_tuple_int, isi_tuple_bool, isi_tuple_str, isi_tuple_tuple, isi_tuple_list, isi_list_int, isi_list_bool, isi_list_str, isi_list_tuple, isi_list_list, isi_dict_int, isi_dict_bool, isi_dict_str, isi_dict_tuple, isi_dict_list])).trans ?_
    refine (seq_nx (ρ1 := [some (.val (.str x)), some (.val (.int d)), none, none, none, none]) (by simp [Res.bind, mSeq, mNx, mRet, mRetNm, mRetN, mIfS, mNever, mAsg, setR, setV, setO, isPar, mAug, mDrop, mAppend, mExtend, ownL?, ownO, setC, RV.lst?, mSrc, itemsOf, mOp, RV.fz, OB.pv, mBor, mNm, mK, mNew, mBin, mUn, deref, liftO, mANil, mACons, mApp, derefs, vals?, RV.val?, small, mTup, mLst, mCall, lone, avsOf, avOf, backs, findArg, back1, RV.bor?, mTest, RV.bl?, mTruth, truth, mTNot, mTAnd, mTOr, mAndV, mOrV, mNotV, mIf, mChain, mgNm, mAsgT, mgTup, mgCons, mgNil, iop, pAdd, pSub, pMul, pDiv, pMod, pNeg, pLt, pLe, pGt, pGe, pEq, pNe, pAddI, pMulS, pIs, pIsNot, isP, pIn, pNotIn, inP, flatP, cmpOk, cmpOks, eqP, eqPs, pIx, fLen, fAbs, fInt, fMin2, fMax2, fOrd, fList, fTuple, fIsi, tyName, AV.slot, runF, Res.nox, RV.out, outsOf, SV.lent, range1e, range2e, range3e, range4e, isi_NoneType_int, isi_NoneType_bool, isi_NoneType_str, isi_NoneType_tuple, isi_NoneType_list, isi_bool_int, isi_bool_bool, isi_bool_str, isi_bool_tuple, isi_bool_list, isi_int_int, isi_int_bool, isi_int_str, isi_int_tuple, isi_int_list, isi_str_int, isi_str_bool, isi_str_str, isi_str_tuple, isi_str_list, isi_tuple_int, isi_tuple_bool, isi_tuple_str, isi_tuple_tuple, isi_tuple_list, isi_list_int, isi_list_bool, isi_list_str, isi_list_tuple, isi_list_list, isi_dict_int, isi_dict_bool, isi_dict_str, isi_dict_tuple, isi_dict_list])).trans ?_
    refine seq_rt ((ifs_t (ρ1 := [some (.val (.str x)), some (.val (.int d)), none, none, none, none]) (by simp [Res.bind, mSeq, mNx, mRet, mRetNm, mRetN, mIfS, mNever, mAsg, setR, setV, setO, isPar, mAug, mDrop, mAppend, mExtend, ownL?, ownO, setC, RV.lst?, mSrc, itemsOf, mOp, RV.fz, OB.pv, mBor, mNm, mK, mNew, mBin, mUn, deref, liftO, mANil, mACons, mApp, derefs, vals?, RV.val?, small, mTup, mLst, mCall, lone, avsOf, avOf, backs, findArg, back1, RV.bor?, mTest, RV.bl?, mTruth, truth, mTNot, mTAnd, mTOr, mAndV, mOrV, mNotV, mIf, mChain, mgNm, mAsgT, mgTup, mgCons, mgNil, iop, pAdd, pSub, pMul, pDiv, pMod, pNeg, pLt, pLe, pGt, pGe, pEq, pNe, pAddI, pMulS, pIs, pIsNot, isP, pIn, pNotIn, inP, flatP, cmpOk, cmpOks, eqP, eqPs, pIx, fLen, fAbs, fInt, fMin2, fMax2, fOrd, fList, fTuple, fIsi, tyName, AV.slot, runF, Res.nox, RV.out, outsOf, SV.lent, range1e, range2e, range3e, range4e, isi_NoneType_int, isi_NoneType_bool, isi_NoneType_str, isi_NoneType_tuple, isi_NoneType_list, isi_bool_int, isi_bool_bool, isi_bool_str, isi_bool_tuple, isi_bool_list, isi_int_int, isi_int_bool, isi_int_str, isi_int_tuple, isi_int_list, isi_str_int, isi_str_bool, isi_str_str, isi_str_tuple, isi_str_list, isi_tuple_int, isi_tuple_bool, isi_tuple_str, isi_tuple_tuple, isi_tuple_list, isi_list_int, isi_list_bool, isi_list_str, isi_list_tuple, isi_list_list, isi_dict_int, isi_dict_bool, isi_dict_str, isi_dict_tuple, isi_dict_list])).trans (ret_of ?_))
    refine (mif_t (ρ1 := [some (.val (.str x)), some (.val (.int d)), none, none, none, none]) ?_).trans rfl
    refine (tand_t (ρ1 := [some (.val (.str x)), some (.val (.int d)), none, none, none, none]) (by simp [Res.bind, mSeq, mNx, mRet, mRetNm, mRetN, mIfS, mNever, mAsg, setR, setV, setO, isPar, mAug, mDrop, mAppend, mExtend, ownL?, ownO, setC, RV.lst?, mSrc, itemsOf, mOp, RV.fz, OB.pv, mBor, mNm, mK, mNew, mBin, mUn, deref, liftO, mANil, mACons, mApp, derefs, vals?, RV.val?, small, mTup, mLst, mCall, lone, avsOf, avOf, backs, findArg, back1, RV.bor?, mTest, RV.bl?, mTruth, truth, mTNot, mTAnd, mTOr, mAndV, mOrV, mNotV, mIf, mChain, mgNm, mAsgT, mgTup, mgCons, mgNil, iop, pAdd, pSub, pMul, pDiv, pMod, pNeg, pLt, pLe, pGt, pGe, pEq, pNe, pAddI, pMulS, pIs, pIsNot, isP, pIn, pNotIn, inP, flatP, cmpOk, cmpOks, eqP, eqPs, pIx, fLen, fAbs, fInt, fMin2, fMax2, fOrd, fList, fTuple, fIsi, tyName, AV.slot, runF, Res.nox, RV.out, outsOf, SV.lent, range1e, range2e, range3e, range4e, isi_NoneType_int, isi_NoneType_bool, isi_NoneType_str, isi_NoneType_tuple, isi_NoneType_list, isi_bool_int, isi_bool_bool, isi_bool_str, isi_bool_tuple, isi_bool_list, isi_int_int, isi_int_bool, isi_int_str, isi_int_tuple, isi_int_list, isi_str_int, isi_str_bool, isi_str_str, isi_str_tuple, isi_str_list, isi_tuple_int, isi_tuple_bool, isi_tuple_str, isi_tuple_tuple, isi_tuple_list, isi_list_int, isi_list_bool, isi_list_str, isi_list_tuple, isi_list_list, isi_dict_int, isi_dict_bool, isi_dict_str, isi_dict_tuple, isi_dict_list, sz, hl'])).trans ?_
    have l := sgn_lc hs x (.int d) (by omega) ok.2
    refine truth_of' (app1n (r := .val (.bl true)) l ?_) rfl
    show (blsOf (List.replicate x.cps.toList.length (.bl true))).map _ = _
    rw [bls_true]
    simp
  | tup xs =>
    cases n with
    | zero => unfold okV at ok; cases ok
    | succ n =>
      unfold okV at ok
      rw [Bool.and_eq_true] at ok
      have hl := of_decide_eq_true ok.1
      have hl' : ¬ (50000 : Int) < (xs.length : Int) := by omega
      have hd : ¬ (d : Int) = 60 := by omega
      unfold cnt at hz
      obtain ⟨a', b', e⟩ := cnt_loop (t := t) (.tup xs) d xs 1 none none (hx xs rfl) hz
      refine run_rt (r := .val (.int (cnt (.tup xs)))) (ρ1 := [some (.val (.tup xs)), some (.val (.int d)), some (.val (.int ((1 + cnts xs : Nat) : Int))), a'.map SV.val, b'.map SV.val, none]) [some (.val (.tup xs)), some (.val (.int d)), none, none, none, none] rfl ?_ rfl
      refine (seq_nx (ρ1 := [some (.val (.tup xs)), some (.val (.int d)), none, none, none, none]) (by simp [Res.bind, mSeq, mNx, mRet, mRetNm, mRetN, mIfS, mNever, mAsg, setR, setV, setO, isPar, mAug, mDrop, mAppend, mExtend, ownL?, ownO, setC, RV.lst?, mSrc, itemsOf, mOp, RV.fz, OB.pv, mBor, mNm, mK, mNew, mBin, mUn, deref, liftO, mANil, mACons, mApp, derefs, vals?, RV.val?, small, mTup, mLst, mCall, lone, avsOf, avOf, backs, findArg, back1, RV.bor?, mTest, RV.bl?, mTruth, truth, mTNot, mTAnd, mTOr, mAndV, mOrV, mNotV, mIf, mChain, mgNm, mAsgT, mgTup, mgCons, mgNil, iop, pAdd, pSub, pMul, pDiv, pMod, pNeg, pLt, pLe, pGt, pGe, pEq, pNe, pAddI, pMulS, pIs, pIsNot, isP, pIn, pNotIn, inP, flatP, cmpOk, cmpOks, eqP, eqPs, pIx, fLen, fAbs, fInt, fMin2, fMax2, fOrd, fList, fTuple, fIsi, tyName, AV.slot, runF, Res.nox, RV.out, outsOf, SV.lent, range1e, range2e, range3e, range4e, isi_NoneType_int, isi_NoneType_bool, isi_NoneType_str, isi_NoneType_tuple, isi_NoneType_list, isi_bool_int, isi_bool_bool, isi_bool_str, isi_bool_tuple, isi_bool_list, isi_int_int, isi_int_bool, isi_int_str, isi_int_tuple, isi_int_list, isi_str_int, isi_str_bool, isi_str_str, isi_str_tuple, isi_str_list, isi_tuple_int, isi_tuple_bool, isi_tuple_str, isi_tuple_tuple, isi_tuple_list, isi_list_int, isi_list_bool, isi_list_str, isi_list_tuple, isi_list_list, isi_dict_int, isi_dict_bool, isi_dict_str, isi_dict_tuple, isi_dict_list])).trans ?_
      refine (seq_nx (ρ1 := [some (.val (.tup xs)), some (.val (.int d)), none, none, none, none]) (by simp [Res.bind, mSeq, mNx, mRet, mRetNm, mRetN, mIfS, mNever, mAsg, setR, setV, setO, isPar, mAug, mDrop, mAppend, mExtend, ownL?, ownO, setC, RV.lst?, mSrc, itemsOf, mOp, RV.fz, OB.pv, mBor, mNm, mK, mNew, mBin, mUn, deref, liftO, mANil, mACons, mApp, derefs, vals?, RV.val?, small, mTup, mLst, mCall, lone, avsOf, avOf, backs, findArg, back1, RV.bor?, mTest, RV.bl?, mTruth, truth, mTNot, mTAnd, mTOr, mAndV, mOrV, mNotV, mIf, mChain, mgNm, mAsgT, mgTup, mgCons, mgNil, iop, pAdd, pSub, pMul, pDiv, pMod, pNeg, pLt, pLe, pGt, pGe, pEq, pNe, pAddI, pMulS, pIs, pIsNot, isP, pIn, pNotIn, inP, flatP, cmpOk, cmpOks, eqP, eqPs, pIx, fLen, fAbs, fInt, fMin2, fMax2, fOrd, fList, fTuple, fIsi, tyName, AV.slot, runF, Res.nox, RV.out, outsOf, SV.lent, range1e, range2e, range3e, range4e, isi_NoneType_int, isi_NoneType_bool, isi_NoneType_str, isi_NoneType_tuple, isi_NoneType_list, isi_bool_int, isi_bool_bool, isi_bool_str, isi_bool_tuple, isi_bool_list, isi_int_int, isi_int_bool, isi_int_str, isi_int_tuple, isi_int_list, isi_str_int, isi_str_bool, isi_str_str, isi_str_tuple, isi_str_list, isi_tuple_int, isi_tuple_bool, isi_tuple_str, isi_tuple_tuple, isi_tuple_list, isi_list_int, isi_list_bool, isi_list_str, isi_list_tuple, isi_list_list, isi_dict_int, isi_dict_bool, isi_dict_str, isi_dict_tuple, isi_dict_list])).trans ?_
      refine (seq_nx (ρ1 := [some (.val (.tup xs)), some (.val (.int d)), none, none, none, none]) (by simp [Res.bind, mSeq, mNx, mRet, mRetNm, mRetN, mIfS, mNever, mAsg, setR, setV, setO, isPar, mAug, mDrop, mAppend, mExtend, ownL?, ownO, setC, RV.lst?, mSrc, itemsOf, mOp, RV.fz, OB.pv, mBor, mNm, mK, mNew, mBin, mUn, deref, liftO, mANil, mACons, mApp, derefs, vals?, RV.val?, small, mTup, mLst, mCall, lone, avsOf, avOf, backs, findArg, back1, RV.bor?, mTest, RV.bl?, mTruth, truth, mTNot, mTAnd, mTOr, mAndV, mOrV, mNotV, mIf, mChain, mgNm, mAsgT, mgTup, mgCons, mgNil, iop, pAdd, pSub, pMul, pDiv, pMod, pNeg, pLt, pLe, pGt, pGe, pEq, pNe, pAddI, pMulS, pIs, pIsNot, isP, pIn, pNotIn, inP, flatP, cmpOk, cmpOks, eqP, eqPs, pIx, fLen, fAbs, fInt, fMin2, fMax2, fOrd, fList, fTuple, fIsi, tyName, AV.slot, runF, Res.nox, RV.out, outsOf, SV.lent, range1e, range2e, range3e, range4e, isi_NoneType_int, isi_NoneType_bool, isi_NoneType_str, isi_NoneType_tuple, isi_NoneType_list, isi_bool_int, isi_bool_bool, isi_bool_str, isi_bool_tuple, isi_bool_list, isi_int_int, isi_int_bool, isi_int_str, isi_int_tuple, isi_int_list, isi_str_int, isi_str_bool, isi_str_str, isi_str_tuple, isi_str_list, isi_tuple_int, isi_tuple_bool, isi_tuple_str, isi_tuple_tuple, isi_tuple_list, isi_list_int, isi_list_bool, isi_list_str, isi_list_tuple, isi_list_list, isi_dict_int, isi_dict_bool, isi_dict_str, isi_dict_tuple, isi_dict_list])).trans ?_
      refine (seq_nx (ρ1 := [some (.val (.tup xs)), some (.val (.int d)), none, none, none, none]) (by simp [Res.bind, mSeq, mNx, mRet, mRetNm, mRetN, mIfS, mNever, mAsg, setR, setV, setO, isPar, mAug, mDrop, mAppend, mExtend, ownL?, ownO, setC, RV.lst?, mSrc, itemsOf, mOp, RV.fz, OB.pv, mBor, mNm, mK, mNew, mBin, mUn, deref, liftO, mANil, mACons, mApp, derefs, vals?, RV.val?, small, mTup, mLst, mCall, lone, avsOf, avOf, backs, findArg, back1, RV.bor?, mTest, RV.bl?, mTruth, truth, mTNot, mTAnd, mTOr, mAndV, mOrV, mNotV, mIf, mChain, mgNm, mAsgT, mgTup, mgCons, mgNil, iop, pAdd, pSub, pMul, pDiv, pMod, pNeg, pLt, pLe, pGt, pGe, pEq, pNe, pAddI, pMulS, pIs, pIsNot, isP, pIn, pNotIn, inP, flatP, cmpOk, cmpOks, eqP, eqPs, pIx, fLen, fAbs, fInt, fMin2, fMax2, fOrd, fList, fTuple, fIsi, tyName, AV.slot, runF, Res.nox, RV.out, outsOf, SV.lent, range1e, range2e, range3e, range4e, isi_NoneType_int, isi_NoneType_bool, isi_NoneType_str, isi_NoneType_tuple, isi_NoneType_list, isi_bool_int, isi_bool_bool, isi_bool_str, isi_bool_tuple, isi_bool_list, isi_int_int, isi_int_bool, isi_int_str, isi_int_tuple, isi_int_list, isi_str_int, isi_str_bool, isi_str_str, isi_str_tuple, isi_str_list, isi_tuple_int, isi_tuple_bool, isi_tuple_str, isi_tuple_tuple, isi_tuple_list, isi_list_int, isi_list_bool, isi_list_str, isi_list_tuple, isi_list_list, isi_dict_int, isi_dict_bool, isi_dict_str, isi_dict_tuple, isi_dict_list, hd, hl'])).trans ?_
      refine (seq_nx (ρ1 := [some (.val (.tup xs)), some (.val (.int d)), some (.val (.int 1)), none, none, none]) (by simp [Res.bind, mSeq, mNx, mRet, mRetNm, mRetN, mIfS, mNever, mAsg, setR, setV, setO, isPar, mAug, mDrop, mAppend, mExtend, ownL?, ownO, setC, RV.lst?, mSrc, itemsOf, mOp, RV.fz, OB.pv, mBor, mNm, mK, mNew, mBin, mUn, deref, liftO, mANil, mACons, mApp, derefs, vals?, RV.val?, small, mTup, mLst, mCall, lone, avsOf, avOf, backs, findArg, back1, RV.bor?, mTest, RV.bl?, mTruth, truth, mTNot, mTAnd, mTOr, mAndV, mOrV, mNotV, mIf, mChain, mgNm, mAsgT, mgTup, mgCons, mgNil, iop, pAdd, pSub, pMul, pDiv, pMod, pNeg, pLt, pLe, pGt, pGe, pEq, pNe, pAddI, pMulS, pIs, pIsNot, isP, pIn, pNotIn, inP, flatP, cmpOk, cmpOks, eqP, eqPs, pIx, fLen, fAbs, fInt, fMin2, fMax2, fOrd, fList, fTuple, fIsi, tyName, AV.slot, runF, Res.nox, RV.out, outsOf, SV.lent, range1e, range2e, range3e, range4e, isi_NoneType_int, isi_NoneType_bool, isi_NoneType_str, isi_NoneType_tuple, isi_NoneType_list, isi_bool_int, isi_bool_bool, isi_bool_str, isi_bool_tuple, isi_bool_list, isi_int_int, isi_int_bool, isi_int_str, isi_int_tuple, isi_int_list, isi_str_int, isi_str_bool, isi_str_str, isi_str_tuple, isi_str_list, isi_tuple_int, isi_tuple_bool, isi_tuple_str, isi_tuple_tuple, isi_tuple_list, isi_list_int, isi_list_bool, isi_list_str, isi_list_tuple, isi_list_list, isi_dict_int, isi_dict_bool, isi_dict_str, isi_dict_tuple, isi_dict_list])).trans ?_
      refine (seq_nx ((mfor_of (xs := xs) (ρ1 := [some (.val (.tup xs)), some (.val (.int d)), some (.val (.int 1)), none, none, none]) (by simp [Res.bind, mSeq, mNx, mRet, mRetNm, mRetN, mIfS, mNever, mAsg, setR, setV, setO, isPar, mAug, mDrop, mAppend, mExtend, ownL?, ownO, setC, RV.lst?, mSrc, itemsOf, mOp, RV.fz, OB.pv, mBor, mNm, mK, mNew, mBin, mUn, deref, liftO, mANil, mACons, mApp, derefs, vals?, RV.val?, small, mTup, mLst, mCall, lone, avsOf, avOf, backs, findArg, back1, RV.bor?, mTest, RV.bl?, mTruth, truth, mTNot, mTAnd, mTOr, mAndV, mOrV, mNotV, mIf, mChain, mgNm, mAsgT, mgTup, mgCons, mgNil, iop, pAdd, pSub, pMul, pDiv, pMod, pNeg, pLt, pLe, pGt, pGe, pEq, pNe, pAddI, pMulS, pIs, pIsNot, isP, pIn, pNotIn, inP, flatP, cmpOk, cmpOks, eqP, eqPs, pIx, fLen, fAbs, fInt, fMin2, fMax2, fOrd, fList, fTuple, fIsi, tyName, AV.slot, runF, Res.nox, RV.out, outsOf, SV.lent, range1e, range2e, range3e, range4e, isi_NoneType_int, isi_NoneType_bool, isi_NoneType_str, isi_NoneType_tuple, isi_NoneType_list, isi_bool_int, isi_bool_bool, isi_bool_str, isi_bool_tuple, isi_bool_list, isi_int_int, isi_int_bool, isi_int_str, isi_int_tuple, isi_int_list, isi_str_int, isi_str_bool, isi_str_str, isi_str_tuple, isi_str_list, isi_tuple_int, isi_tuple_bool, isi_tuple_str, isi_tuple_tuple, isi_tuple_list, isi_list_int, isi_list_bool, isi_list_str, isi_list_tuple, isi_list_list, isi_dict_int, isi_dict_bool, isi_dict_str, isi_dict_tuple, isi_dict_list])).trans e)).trans ?_
      unfold cnt
      rfl
  | _ => unfold okV at ok; cases ok
theorem cnts_mem : ∀ {xs : List PV}, ∀ x ∈ xs, cnt x ≤ cnts xs
  | [], x, h => by cases h
  | y :: ys, x, h => by
    unfold cnts
    rcases List.mem_cons.mp h with rfl | h
    · omega
    · have := cnts_mem x h
      omega
theorem few_T (n : Nat) : FewOk (T C (n + 1)).few_digits := fun k h => by
  have := few_digits_ok (C := C) (t := T C n) k
  rw [decide_eq_true h] at this
  exact this
theorem sign_T (n : Nat) : SignOk (T C (n + 1)).is_sign := fun i => is_sign_ok (C := C) (t := T C n) i
theorem counted_T : ∀ (n j d : Nat) (v : PV), okV n v = true → n + d = 60 → cnt v ≤ 500000 → (T C (n + j + 2)).counted [.val v, .val (.int d)] = .ok (.val (.int (cnt v)), [none, none])
  | 0, j, d, v, ok, hn, hz => counted_step (few_T (0 + j)) (sign_T (0 + j)) 0 d v ok hn hz fun xs e => by subst e; unfold okV at ok; cases ok
  | n + 1, j, d, v, ok, hn, hz => by
    have e : n + 1 + j + 2 = (n + j + 2) + 1 := by omega
    rw [e]
    refine counted_step (few_T (n + j + 1)) (sign_T (n + j + 1)) (n + 1) d v ok hn hz fun xs e x hx => ?_
    subst e
    unfold okV at ok
    rw [Bool.and_eq_true] at ok
    unfold cnt at hz
    have := cnts_mem x hx
    exact counted_T n j (d + 1) x (okVs_mem ok.2 x hx) (by omega) (by omega)
/-- the octets of a value -/
theorem write_T (j : Nat) (v : PV) (ok : okV 60 v = true) (hz : (enc v).length ≤ 16777216) (hc : cnt v ≤ 500000) : (T C (j + 63)).write_octets [.val v] = .ok (.val (.tup ((enc v).map PV.int)), [none]) := by
  have h1 := counted_T (C := C) 60 j 0 v ok rfl hc
  have h2 := laid_T (C := C) 60 j v ok hz
  rw [show 60 + j + 2 = j + 62 by omega] at h1 h2
  refine run_rt (r := .val (.tup ((enc v).map PV.int))) (ρ1 := [some (.val v)]) [some (.val v)] rfl ?_ rfl
  refine (seq_nx (ρ1 := [some (.val v)]) ((ifs_f (ρ1 := [some (.val v)]) ?_).trans rfl)).trans ?_
  · refine test_of (bin_val (a := .int (cnt v)) (b := .non) (ρ1 := [some (.val v)]) (call2 (p := v) (q := .int 0) (ρ1 := [some (.val v)]) rfl rfl h1) rfl rfl)
  · exact ret_of (app1n (call1 (p := v) rfl h2) rfl)
end K80

set_option Elab.async false
set_option linter.all false
set_option maxRecDepth 100000
set_option exponentiation.threshold 100000
namespace K80
open PySem Pu
variable {C : Addr} {t : Tb}
/-! ### reading: digits -/
theorem at_ok {os : List Int} {a : Nat} {i : Int} (h : os[a]? = some i) : pIx (.tup (os.map PV.int)) (.int (a : Int)) = some (.val (.int i)) := by
  show (L2.atI (os.map PV.int) (a : Int)).map RV.val = _
  rw [L2.atI_nat (v := PV.int i) (by rw [List.getElem?_map, h]; rfl)]
  rfl
theorem mul_small {i j : Int} (h : smallI i = true) : pMul (.int i) (.int j) = some (.val (.int (i * j))) := by simp [pMul, h]
abbrev bRD : MS := mSeq (mIfS (mTOr (mTest (mBin pEq (mBor 1) (mApp fLen (mACons (mBor 0) mANil)))) (mTest (mBin pEq (mBor 4) (mK (.int 950))))) mNever mNx)
    (mSeq (mAsg 6 (mBin pIx (mBor 0) (mBor 1)))
    (mSeq (mAug 3 pAddI (mBin pMul (mBin pMod (mApp fInt (mACons (mBor 6) mANil)) (mK (.int 128))) (mBor 5)))
    (mSeq (mAug 5 pMulS (mK (.int 128)))
    (mSeq (mIfS (mTest (mBin pLt (mBor 6) (mK (.int 128))))
    (mSeq (mIfS (mTOr (mTAnd (mTest (mBin pEq (mBor 6) (mK (.int 0)))) (mTest (mBin pGt (mBor 4) (mK (.int 0))))) (mTAnd (mTest (mBin pIsNot (mBor 2) (mK .non))) (mTest (mBin pGt (mBor 3) (mBor 2))))) mNever mNx)
    (mRet (mTup (mACons (mNm 3) (mACons (mBin pAdd (mBor 1) (mK (.int 1))) mANil)))))
    mNx)
    (mSeq (mAug 4 pAddI (mK (.int 1))) (mAug 1 pAddI (mK (.int 1))))))))
/-- what may be read at most -/
def Most (q : PV) (k : Nat) : Prop := q = .non ∨ ∃ m : Int, q = .int m ∧ (k : Int) ≤ m
abbrev rdE (os : List Int) (a : Nat) (q : PV) (n m s : Nat) (o : Option PV) : Pu.Env := [some (.val (.tup (os.map PV.int))), some (.val (.int a)), some (.val q), some (.val (.int n)), some (.val (.int m)), some (.val (.int s)), o.map SV.val]
theorem rd_head {os : List Int} {a : Nat} {q : PV} {n m s : Nat} {o : Option PV} {i : Nat} (hi : os[a]? = some (i : Int)) (hm : m < 950) (hn : os.length < 16777216) :
    ∀ b, mSeq (mIfS (mTOr (mTest (mBin pEq (mBor 1) (mApp fLen (mACons (mBor 0) mANil)))) (mTest (mBin pEq (mBor 4) (mK (.int 950))))) mNever mNx)
    (mSeq (mAsg 6 (mBin pIx (mBor 0) (mBor 1)))
    (mSeq (mAug 3 pAddI (mBin pMul (mBin pMod (mApp fInt (mACons (mBor 6) mANil)) (mK (.int 128))) (mBor 5)))
    (mSeq (mAug 5 pMulS (mK (.int 128))) b))) (rdE os a q n m s o) = b (rdE os a q (n + i % 128 * s) m (s * 128) (some (.int i))) := by
  intro b
  have ha : a < os.length := (List.getElem?_eq_some_iff.mp hi).1
  have c1 : ¬ (a : Int) = (os.length : Int) := by omega
  have c2 : ¬ (m : Int) = 950 := by omega
  refine (seq_nx (ρ1 := rdE os a q n m s o) (by simp [Res.bind, mSeq, mNx, mRet, mRetNm, mRetN, mIfS, mNever, mAsg, setR, setV, setO, isPar, mAug, mDrop, mAppend, mExtend, ownL?, ownO, setC, RV.lst?, mSrc, itemsOf, mOp, RV.fz, OB.pv, mBor, mNm, mK, mNew, mBin, mUn, deref, liftO, mANil, mACons, mApp, derefs, vals?, RV.val?, small, mTup, mLst, mCall, lone, avsOf, avOf, backs, findArg, back1, RV.bor?, mTest, RV.bl?, mTruth, truth, mTNot, mTAnd, mTOr, mAndV, mOrV, mNotV, mIf, mChain, mgNm, mAsgT, mgTup, mgCons, mgNil, iop, pAdd, pSub, pMul, pDiv, pMod, pNeg, pLt, pLe, pGt, pGe, pEq, pNe, pAddI, pMulS, pIs, pIsNot, isP, pIn, pNotIn, inP, flatP, cmpOk, cmpOks, eqP, eqPs, pIx, fLen, fAbs, fInt, fMin2, fMax2, fOrd, fList, fTuple, fIsi, tyName, AV.slot, runF, Res.nox, RV.out, outsOf, SV.lent, range1e, range2e, range3e, range4e, isi_NoneType_int, isi_NoneType_bool, isi_NoneType_str, isi_NoneType_tuple, isi_NoneType_list, isi_bool_int, isi_bool_bool, isi_bool_str, isi_bool_tuple, isi_bool_list, isi_int_int, isi_int_bool, isi_int_str, isi_int_tuple, isi_int_list, isi_str_int, isi_str_bool, isi_str_str, isi_str_tuple, isi_str_list, isi_tuple_int, isi_tuple_bool, isi_tuple_str, isi_tuple_tuple, isi_tuple_list, isi_list_int, isi_list_bool, isi_list_str, isi_list_tuple, isi_list_list, isi_dict_int, isi_dict_bool, isi_dict_str, isi_dict_tuple, isi_dict_list, c1, c2])).trans ?_
  refine (seq_nx (ρ1 := rdE os a q n m s (some (.int i))) (asg_of (r := .val (.int i)) (ρ1 := rdE os a q n m s o) (bin_val rfl rfl (at_ok hi)) (by cases o <;> rfl))).trans ?_
  have sm : smallI ((i : Int) % 128) = true := by
    unfold smallI
    rw [Bool.and_eq_true]
    exact ⟨decide_eq_true (by omega), decide_eq_true (by omega)⟩
  have e1 : mBin pMod (mApp fInt (mACons (mBor 6) mANil)) (mK (.int 128)) (rdE os a q n m s (some (.int i))) = .ok (.val (.int ((i : Int) % 128)), rdE os a q n m s (some (.int i))) := bin_val (a := .int i) (b := .int 128) rfl rfl (iop_eval (if_pos (by decide)))
  have e2 : mBin pMul (mBin pMod (mApp fInt (mACons (mBor 6) mANil)) (mK (.int 128))) (mBor 5) (rdE os a q n m s (some (.int i))) = .ok (.val (.int ((i : Int) % 128 * s)), rdE os a q n m s (some (.int i))) :=
    bin_val (b := .int s) e1 rfl (mul_small sm)
  refine (seq_nx (ρ1 := rdE os a q (n + i % 128 * s) m s (some (.int i))) (aug_val (a := .int n) rfl e2 (iop_eval rfl) ?_)).trans ?_
  · show some [_, _, _, some (SV.val (PV.int ((n : Int) + (i : Int) % 128 * s))), _, _, _] = _
    rw [show ((n : Int) + (i : Int) % 128 * s) = ((n + i % 128 * s : Nat) : Int) by simp]
  · refine seq_nx (aug_val (a := .int s) (b := .int 128) (ρ1 := rdE os a q (n + i % 128 * s) m s (some (.int i))) rfl rfl (iop_eval (if_pos (.inr (by decide)))) ?_)
    show some [_, _, _, _, _, some (SV.val (PV.int ((s : Int) * 128))), _] = _
    rw [show ((s : Int) * 128) = ((s * 128 : Nat) : Int) by simp]
theorem rd_loop {os : List Int} (hn : os.length < 16777216) {q : PV} : ∀ (f k a n m s : Nat) (o : Option PV) (rest : List Int), os.drop a = dg k ++ rest → k < 128 ^ (f + 1) → m + f < 950 → (m = 0 ∨ 0 < k) → Most q (n + s * k) →
    ∃ ρ, whileM (mTruth (mK (.bl true))) bRD (f + 1) (rdE os a q n m s o) = .ok (.rt (.val (.tup [.int ((n + s * k : Nat) : Int), .int ((a + (dg k).length : Nat) : Int)])), ρ) ∧ outsOf 3 ρ = [none, none, none] := by
  intro f
  induction f with
  | zero =>
    intro k a n m s o rest hd hk hm h0 hq
    have hk' : ¬ 127 < k := by simp at hk; omega
    rw [dg_small hk'] at hd ⊢
    have hi : os[a]? = some ((k : Nat) : Int) := by
      rw [show os[a]? = (os.drop a)[0]? by rw [List.getElem?_drop]; rfl, hd]
      rfl
    have e := rd_head (q := q) (n := n) (m := m) (s := s) (o := o) hi (by omega) hn
    refine ⟨rdE os a q (n + s * k) m (s * 128) (some (.int k)), ?_, rfl⟩
    refine while_rt (ρ1 := rdE os a q n m s o) (by simp [Res.bind, mSeq, mNx, mRet, mRetNm, mRetN, mIfS, mNever, mAsg, setR, setV, setO, isPar, mAug, mDrop, mAppend, mExtend, ownL?, ownO, setC, RV.lst?, mSrc, itemsOf, mOp, RV.fz, OB.pv, mBor, mNm, mK, mNew, mBin, mUn, deref, liftO, mANil, mACons, mApp, derefs, vals?, RV.val?, small, mTup, mLst, mCall, lone, avsOf, avOf, backs, findArg, back1, RV.bor?, mTest, RV.bl?, mTruth, truth, mTNot, mTAnd, mTOr, mAndV, mOrV, mNotV, mIf, mChain, mgNm, mAsgT, mgTup, mgCons, mgNil, iop, pAdd, pSub, pMul, pDiv, pMod, pNeg, pLt, pLe, pGt, pGe, pEq, pNe, pAddI, pMulS, pIs, pIsNot, isP, pIn, pNotIn, inP, flatP, cmpOk, cmpOks, eqP, eqPs, pIx, fLen, fAbs, fInt, fMin2, fMax2, fOrd, fList, fTuple, fIsi, tyName, AV.slot, runF, Res.nox, RV.out, outsOf, SV.lent, range1e, range2e, range3e, range4e, isi_NoneType_int, isi_NoneType_bool, isi_NoneType_str, isi_NoneType_tuple, isi_NoneType_list, isi_bool_int, isi_bool_bool, isi_bool_str, isi_bool_tuple, isi_bool_list, isi_int_int, isi_int_bool, isi_int_str, isi_int_tuple, isi_int_list, isi_str_int, isi_str_bool, isi_str_str, isi_str_tuple, isi_str_list, isi_tuple_int, isi_tuple_bool, isi_tuple_str, isi_tuple_tuple, isi_tuple_list, isi_list_int, isi_list_bool, isi_list_str, isi_list_tuple, isi_list_list, isi_dict_int, isi_dict_bool, isi_dict_str, isi_dict_tuple, isi_dict_list]) ((e _).trans ?_)
    have e1 : k % 128 * s = s * k := by rw [Nat.mod_eq_of_lt (by omega), Nat.mul_comm]
    rw [e1]
    generalize hN : n + s * k = N at hq ⊢
    have c1 : (k : Int) < 128 := by omega
    refine seq_rt ((ifs_t (ρ1 := rdE os a q N m (s * 128) (some (.int k))) (by simp [Res.bind, mSeq, mNx, mRet, mRetNm, mRetN, mIfS, mNever, mAsg, setR, setV, setO, isPar, mAug, mDrop, mAppend, mExtend, ownL?, ownO, setC, RV.lst?, mSrc, itemsOf, mOp, RV.fz, OB.pv, mBor, mNm, mK, mNew, mBin, mUn, deref, liftO, mANil, mACons, mApp, derefs, vals?, RV.val?, small, mTup, mLst, mCall, lone, avsOf, avOf, backs, findArg, back1, RV.bor?, mTest, RV.bl?, mTruth, truth, mTNot, mTAnd, mTOr, mAndV, mOrV, mNotV, mIf, mChain, mgNm, mAsgT, mgTup, mgCons, mgNil, iop, pAdd, pSub, pMul, pDiv, pMod, pNeg, pLt, pLe, pGt, pGe, pEq, pNe, pAddI, pMulS, pIs, pIsNot, isP, pIn, pNotIn, inP, flatP, cmpOk, cmpOks, eqP, eqPs, pIx, fLen, fAbs, fInt, fMin2, fMax2, fOrd, fList, fTuple, fIsi, tyName, AV.slot, runF, Res.nox, RV.out, outsOf, SV.lent, range1e, range2e, range3e, range4e, isi_NoneType_int, isi_NoneType_bool, isi_NoneType_str, isi_NoneType_tuple, isi_NoneType_list, isi_bool_int, isi_bool_bool, isi_bool_str, isi_bool_tuple, isi_bool_list, isi_int_int, isi_int_bool, isi_int_str, isi_int_tuple, isi_int_list, isi_str_int, isi_str_bool, isi_str_str, isi_str_tuple, isi_str_list, isi_tuple_int, isi_tuple_bool, isi_tuple_str, isi_tuple_tuple, isi_tuple_list, isi_list_int, isi_list_bool, isi_list_str, isi_list_tuple, isi_list_list, isi_dict_int, isi_dict_bool, isi_dict_str, isi_dict_tuple, isi_dict_list, c1])).trans ?_)
    refine (seq_nx (ρ1 := rdE os a q N m (s * 128) (some (.int k))) ((ifs_f (ρ1 := rdE os a q N m (s * 128) (some (.int k))) ?_).trans rfl)).trans ?_
    · have g1 : mTAnd (mTest (mBin pEq (mBor 6) (mK (.int 0)))) (mTest (mBin pGt (mBor 4) (mK (.int 0)))) (rdE os a q N m (s * 128) (some (.int k))) = .ok (false, rdE os a q N m (s * 128) (some (.int k))) := by
        rcases h0 with h0 | h0
        · subst h0
          by_cases hk0 : (k : Int) = 0 <;> simp [Res.bind, mSeq, mNx, mRet, mRetNm, mRetN, mIfS, mNever, mAsg, setR, setV, setO, isPar, mAug, mDrop, mAppend, mExtend, ownL?, ownO, setC, RV.lst?, mSrc, itemsOf, mOp, RV.fz, OB.pv, mBor, mNm, mK, mNew, mBin, mUn, deref, liftO, mANil, mACons, mApp, derefs, vals?, RV.val?, small, mTup, mLst, mCall, lone, avsOf, avOf, backs, findArg, back1, RV.bor?, mTest, RV.bl?, mTruth, truth, mTNot, mTAnd, mTOr, mAndV, mOrV, mNotV, mIf, mChain, mgNm, mAsgT, mgTup, mgCons, mgNil, iop, pAdd, pSub, pMul, pDiv, pMod, pNeg, pLt, pLe, pGt, pGe, pEq, pNe, pAddI, pMulS, pIs, pIsNot, isP, pIn, pNotIn, inP, flatP, cmpOk, cmpOks, eqP, eqPs, pIx, fLen, fAbs, fInt, fMin2, fMax2, fOrd, fList, fTuple, fIsi, tyName, AV.slot, runF, Res.nox, RV.out, outsOf, SV.lent, range1e, range2e, range3e, range4e, isi_NoneType_int, isi_NoneType_bool, isi_NoneType_str, isi_NoneType_tuple, isi_NoneType_list, isi_bool_int, isi_bool_bool, isi_bool_str, isi_bool_tuple, isi_bool_list, isi_int_int, isi_int_bool, isi_int_str, isi_int_tuple, isi_int_list, isi_str_int, isi_str_bool, isi_str_str, isi_str_tuple, isi_str_list, isi_tuple_int, isi_tuple_bool, isi_tuple_str, isi_tuple_tuple, isi_tuple_list, isi_list_int, isi_list_bool, isi_list_str, isi_list_tuple, isi_list_list, isi_dict_int, isi_dict_bool, isi_dict_str, isi_dict_tuple, isi_dict_list, hk0]
        · have : ¬ (k : Int) = 0 := by omega
          have : ¬ k = 0 := by omega
          simp [Res.bind, mSeq, mNx, mRet, mRetNm, mRetN, mIfS, mNever, mAsg, setR, setV, setO, isPar, mAug, mDrop, mAppend, mExtend, ownL?, ownO, setC, RV.lst?, mSrc, itemsOf, mOp, RV.fz, OB.pv, mBor, mNm, mK, mNew, mBin, mUn, deref, liftO, mANil, mACons, mApp, derefs, vals?, RV.val?, small, mTup, mLst, mCall, lone, avsOf, avOf, backs, findArg, back1, RV.bor?, mTest, RV.bl?, mTruth, truth, mTNot, mTAnd, mTOr, mAndV, mOrV, mNotV, mIf, mChain, mgNm, mAsgT, mgTup, mgCons, mgNil, iop, pAdd, pSub, pMul, pDiv, pMod, pNeg, pLt, pLe, pGt, pGe, pEq, pNe, pAddI, pMulS, pIs, pIsNot, isP, pIn, pNotIn, inP, flatP, cmpOk, cmpOks, eqP, eqPs, pIx, fLen, fAbs, fInt, fMin2, fMax2, fOrd, fList, fTuple, fIsi, tyName, AV.slot, runF, Res.nox, RV.out, outsOf, SV.lent, range1e, range2e, range3e, range4e, isi_NoneType_int, isi_NoneType_bool, isi_NoneType_str, isi_NoneType_tuple, isi_NoneType_list, isi_bool_int, isi_bool_bool, isi_bool_str, isi_bool_tuple, isi_bool_list, isi_int_int, isi_int_bool, isi_int_str, isi_int_tuple, isi_int_list, isi_str_int, isi_str_bool, isi_str_str, isi_str_tuple, isi_str_list, isi_tuple_int, isi_tuple_bool, isi_tuple_str, isi_tuple_tuple, isi_tuple_list, isi_list_int, isi_list_bool, isi_list_str, isi_list_tuple, isi_list_list, isi_dict_int, isi_dict_bool, isi_dict_str, isi_dict_tuple, isi_dict_list, this]
      refine (tor_f g1).trans ?_
      rcases hq with rfl | ⟨M, rfl, hM⟩
      · simp [Res.bind, mSeq, mNx, mRet, mRetNm, mRetN, mIfS, mNever, mAsg, setR, setV, setO, isPar, mAug, mDrop, mAppend, mExtend, ownL?, ownO, setC, RV.lst?, mSrc, itemsOf, mOp, RV.fz, OB.pv, mBor, mNm, mK, mNew, mBin, mUn, deref, liftO, mANil, mACons, mApp, derefs, vals?, RV.val?, small, mTup, mLst, mCall, lone, avsOf, avOf, backs, findArg, back1, RV.bor?, mTest, RV.bl?, mTruth, truth, mTNot, mTAnd, mTOr, mAndV, mOrV, mNotV, mIf, mChain, mgNm, mAsgT, mgTup, mgCons, mgNil, iop, pAdd, pSub, pMul, pDiv, pMod, pNeg, pLt, pLe, pGt, pGe, pEq, pNe, pAddI, pMulS, pIs, pIsNot, isP, pIn, pNotIn, inP, flatP, cmpOk, cmpOks, eqP, eqPs, pIx, fLen, fAbs, fInt, fMin2, fMax2, fOrd, fList, fTuple, fIsi, tyName, AV.slot, runF, Res.nox, RV.out, outsOf, SV.lent, range1e, range2e, range3e, range4e, isi_NoneType_int, isi_NoneType_bool, isi_NoneType_str, isi_NoneType_tuple, isi_NoneType_list, isi_bool_int, isi_bool_bool, isi_bool_str, isi_bool_tuple, isi_bool_list, isi_int_int, isi_int_bool, isi_int_str, isi_int_tuple, isi_int_list, isi_str_int, isi_str_bool, isi_str_str, isi_str_tuple, isi_str_list, isi_tuple_int, isi_tuple_bool, isi_tuple_str, isi_tuple_tuple, isi_tuple_list, isi_list_int, isi_list_bool, isi_list_str, isi_list_tuple, isi_list_list, isi_dict_int, isi_dict_bool, isi_dict_str, isi_dict_tuple, isi_dict_list]
      · have : ¬ M < (N : Int) := by omega
        simp [Res.bind, mSeq, mNx, mRet, mRetNm, mRetN, mIfS, mNever, mAsg, setR, setV, setO, isPar, mAug, mDrop, mAppend, mExtend, ownL?, ownO, setC, RV.lst?, mSrc, itemsOf, mOp, RV.fz, OB.pv, mBor, mNm, mK, mNew, mBin, mUn, deref, liftO, mANil, mACons, mApp, derefs, vals?, RV.val?, small, mTup, mLst, mCall, lone, avsOf, avOf, backs, findArg, back1, RV.bor?, mTest, RV.bl?, mTruth, truth, mTNot, mTAnd, mTOr, mAndV, mOrV, mNotV, mIf, mChain, mgNm, mAsgT, mgTup, mgCons, mgNil, iop, pAdd, pSub, pMul, pDiv, pMod, pNeg, pLt, pLe, pGt, pGe, pEq, pNe, pAddI, pMulS, pIs, pIsNot, isP, pIn, pNotIn, inP, flatP, cmpOk, cmpOks, eqP, eqPs, pIx, fLen, fAbs, fInt, fMin2, fMax2, fOrd, fList, fTuple, fIsi, tyName, AV.slot, runF, Res.nox, RV.out, outsOf, SV.lent, range1e, range2e, range3e, range4e, isi_NoneType_int, isi_NoneType_bool, isi_NoneType_str, isi_NoneType_tuple, isi_NoneType_list, isi_bool_int, isi_bool_bool, isi_bool_str, isi_bool_tuple, isi_bool_list, isi_int_int, isi_int_bool, isi_int_str, isi_int_tuple, isi_int_list, isi_str_int, isi_str_bool, isi_str_str, isi_str_tuple, isi_str_list, isi_tuple_int, isi_tuple_bool, isi_tuple_str, isi_tuple_tuple, isi_tuple_list, isi_list_int, isi_list_bool, isi_list_str, isi_list_tuple, isi_list_list, isi_dict_int, isi_dict_bool, isi_dict_str, isi_dict_tuple, isi_dict_list, this]
    · simp [Res.bind, mSeq, mNx, mRet, mRetNm, mRetN, mIfS, mNever, mAsg, setR, setV, setO, isPar, mAug, mDrop, mAppend, mExtend, ownL?, ownO, setC, RV.lst?, mSrc, itemsOf, mOp, RV.fz, OB.pv, mBor, mNm, mK, mNew, mBin, mUn, deref, liftO, mANil, mACons, mApp, derefs, vals?, RV.val?, small, mTup, mLst, mCall, lone, avsOf, avOf, backs, findArg, back1, RV.bor?, mTest, RV.bl?, mTruth, truth, mTNot, mTAnd, mTOr, mAndV, mOrV, mNotV, mIf, mChain, mgNm, mAsgT, mgTup, mgCons, mgNil, iop, pAdd, pSub, pMul, pDiv, pMod, pNeg, pLt, pLe, pGt, pGe, pEq, pNe, pAddI, pMulS, pIs, pIsNot, isP, pIn, pNotIn, inP, flatP, cmpOk, cmpOks, eqP, eqPs, pIx, fLen, fAbs, fInt, fMin2, fMax2, fOrd, fList, fTuple, fIsi, tyName, AV.slot, runF, Res.nox, RV.out, outsOf, SV.lent, range1e, range2e, range3e, range4e, isi_NoneType_int, isi_NoneType_bool, isi_NoneType_str, isi_NoneType_tuple, isi_NoneType_list, isi_bool_int, isi_bool_bool, isi_bool_str, isi_bool_tuple, isi_bool_list, isi_int_int, isi_int_bool, isi_int_str, isi_int_tuple, isi_int_list, isi_str_int, isi_str_bool, isi_str_str, isi_str_tuple, isi_str_list, isi_tuple_int, isi_tuple_bool, isi_tuple_str, isi_tuple_tuple, isi_tuple_list, isi_list_int, isi_list_bool, isi_list_str, isi_list_tuple, isi_list_list, isi_dict_int, isi_dict_bool, isi_dict_str, isi_dict_tuple, isi_dict_list]
  | succ f ih =>
    intro k a n m s o rest hd hk hm h0 hq
    by_cases hk' : 127 < k
    · rw [dg_big hk'] at hd ⊢
      have hi : os[a]? = some ((k % 128 + 128 : Nat) : Int) := by
        rw [show os[a]? = (os.drop a)[0]? by rw [List.getElem?_drop]; rfl, hd]
        rfl
      have hd2 : os.drop (a + 1) = dg (k / 128) ++ rest := by
        rw [← List.drop_drop, hd]
        rfl
      have e := rd_head (q := q) (n := n) (m := m) (s := s) (o := o) hi (by omega) hn
      have e1 : (k % 128 + 128) % 128 * s = s * (k % 128) := by
        rw [Nat.add_mod_right, Nat.mod_mod, Nat.mul_comm]
      have e2 : n + s * (k % 128) + s * 128 * (k / 128) = n + s * k := by
        rw [Nat.mul_assoc, Nat.add_assoc, ← Nat.mul_add]
        congr 2
        omega
      obtain ⟨ρ, h1, h2⟩ := ih (k / 128) (a + 1) (n + s * (k % 128)) (m + 1) (s * 128) (some (.int ((k % 128 + 128 : Nat) : Int))) rest hd2 (by rw [Nat.pow_succ] at hk; omega) (by omega) (.inr (by omega)) (by rw [e2]; exact hq)
      refine ⟨ρ, ?_, h2⟩
      rw [e2] at h1
      have c1 : ¬ ((k % 128 + 128 : Nat) : Int) < 128 := by omega
      rw [while_t (ρ1 := rdE os a q n m s o) (ρ2 := rdE os (a + 1) q (n + s * (k % 128)) (m + 1) (s * 128) (some (.int ((k % 128 + 128 : Nat) : Int)))) (by simp [Res.bind, mSeq, mNx, mRet, mRetNm, mRetN, mIfS, mNever, mAsg, setR, setV, setO, isPar, mAug, mDrop, mAppend, mExtend, ownL?, ownO, setC, RV.lst?, mSrc, itemsOf, mOp, RV.fz, OB.pv, mBor, mNm, mK, mNew, mBin, mUn, deref, liftO, mANil, mACons, mApp, derefs, vals?, RV.val?, small, mTup, mLst, mCall, lone, avsOf, avOf, backs, findArg, back1, RV.bor?, mTest, RV.bl?, mTruth, truth, mTNot, mTAnd, mTOr, mAndV, mOrV, mNotV, mIf, mChain, mgNm, mAsgT, mgTup, mgCons, mgNil, iop, pAdd, pSub, pMul, pDiv, pMod, pNeg, pLt, pLe, pGt, pGe, pEq, pNe, pAddI, pMulS, pIs, pIsNot, isP, pIn, pNotIn, inP, flatP, cmpOk, cmpOks, eqP, eqPs, pIx, fLen, fAbs, fInt, fMin2, fMax2, fOrd, fList, fTuple, fIsi, tyName, AV.slot, runF, Res.nox, RV.out, outsOf, SV.lent, range1e, range2e, range3e, range4e, isi_NoneType_int, isi_NoneType_bool, isi_NoneType_str, isi_NoneType_tuple, isi_NoneType_list, isi_bool_int, isi_bool_bool, isi_bool_str, isi_bool_tuple, isi_bool_list, isi_int_int, isi_int_bool, isi_int_str, isi_int_tuple, isi_int_list, isi_str_int, isi_str_bool, isi_str_str, isi_str_tuple, isi_str_list, isi_tuple_int, isi_tuple_bool, isi_tuple_str, isi_tuple_tuple, isi_tuple_list, isi_list_int, isi_list_bool, isi_list_str, isi_list_tuple, isi_list_list, isi_dict_int, isi_dict_bool, isi_dict_str, isi_dict_tuple, isi_dict_list]) ?_]
      · rw [h1]
        simp only [List.length_cons]
        rw [show a + 1 + (dg (k / 128)).length = a + ((dg (k / 128)).length + 1) by omega]
      · refine (e _).trans ?_
        rw [e1]
        refine (seq_nx (ρ1 := rdE os a q (n + s * (k % 128)) m (s * 128) (some (.int ((k % 128 + 128 : Nat) : Int)))) ((ifs_f (ρ1 := rdE os a q (n + s * (k % 128)) m (s * 128) (some (.int ((k % 128 + 128 : Nat) : Int)))) ?_).trans rfl)).trans ?_
        · exact test_of (bin_val (a := .int ((k % 128 + 128 : Nat) : Int)) (b := .int 128) rfl rfl (by rw [show pLt (.int ((k % 128 + 128 : Nat) : Int)) (.int 128) = some (.val (.bl (decide (((k % 128 + 128 : Nat) : Int) < 128)))) from rfl, decide_eq_false c1]))
        · rfl
    · rw [dg_small hk'] at hd ⊢
      have hi : os[a]? = some ((k : Nat) : Int) := by
        rw [show os[a]? = (os.drop a)[0]? by rw [List.getElem?_drop]; rfl, hd]
        rfl
      have e := rd_head (q := q) (n := n) (m := m) (s := s) (o := o) hi (by omega) hn
      refine ⟨rdE os a q (n + s * k) m (s * 128) (some (.int k)), ?_, rfl⟩
      refine while_rt (ρ1 := rdE os a q n m s o) (by simp [Res.bind, mSeq, mNx, mRet, mRetNm, mRetN, mIfS, mNever, mAsg, setR, setV, setO, isPar, mAug, mDrop, mAppend, mExtend, ownL?, ownO, setC, RV.lst?, mSrc, itemsOf, mOp, RV.fz, OB.pv, mBor, mNm, mK, mNew, mBin, mUn, deref, liftO, mANil, mACons, mApp, derefs, vals?, RV.val?, small, mTup, mLst, mCall, lone, avsOf, avOf, backs, findArg, back1, RV.bor?, mTest, RV.bl?, mTruth, truth, mTNot, mTAnd, mTOr, mAndV, mOrV, mNotV, mIf, mChain, mgNm, mAsgT, mgTup, mgCons, mgNil, iop, pAdd, pSub, pMul, pDiv, pMod, pNeg, pLt, pLe, pGt, pGe, pEq, pNe, pAddI, pMulS, pIs, pIsNot, isP, pIn, pNotIn, inP, flatP, cmpOk, cmpOks, eqP, eqPs, pIx, fLen, fAbs, fInt, fMin2, fMax2, fOrd, fList, fTuple, fIsi, tyName, AV.slot, runF, Res.nox, RV.out, outsOf, SV.lent, range1e, range2e, range3e, range4e, isi_NoneType_int, isi_NoneType_bool, isi_NoneType_str, isi_NoneType_tuple, isi_NoneType_list, isi_bool_int, isi_bool_bool, isi_bool_str, isi_bool_tuple, isi_bool_list, isi_int_int, isi_int_bool, isi_int_str, isi_int_tuple, isi_int_list, isi_str_int, isi_str_bool, isi_str_str, isi_str_tuple, isi_str_list, isi_tuple_int, isi_tuple_bool, isi_tuple_str, isi_tuple_tuple, isi_tuple_list, isi_list_int, isi_list_bool, isi_list_str, isi_list_tuple, isi_list_list, isi_dict_int, isi_dict_bool, isi_dict_str, isi_dict_tuple, isi_dict_list]) ((e _).trans ?_)
      have e1 : k % 128 * s = s * k := by rw [Nat.mod_eq_of_lt (by omega), Nat.mul_comm]
      rw [e1]
      generalize hN : n + s * k = N at hq ⊢
      have c1 : (k : Int) < 128 := by omega
      refine seq_rt ((ifs_t (ρ1 := rdE os a q N m (s * 128) (some (.int k))) (by simp [Res.bind, mSeq, mNx, mRet, mRetNm, mRetN, mIfS, mNever, mAsg, setR, setV, setO, isPar, mAug, mDrop, mAppend, mExtend, ownL?, ownO, setC, RV.lst?, mSrc, itemsOf, mOp, RV.fz, OB.pv, mBor, mNm, mK, mNew, mBin, mUn, deref, liftO, mANil, mACons, mApp, derefs, vals?, RV.val?, small, mTup, mLst, mCall, lone, avsOf, avOf, backs, findArg, back1, RV.bor?, mTest, RV.bl?, mTruth, truth, mTNot, mTAnd, mTOr, mAndV, mOrV, mNotV, mIf, mChain, mgNm, mAsgT, mgTup, mgCons, mgNil, iop, pAdd, pSub, pMul, pDiv, pMod, pNeg, pLt, pLe, pGt, pGe, pEq, pNe, pAddI, pMulS, pIs, pIsNot, isP, pIn, pNotIn, inP, flatP, cmpOk, cmpOks, eqP, eqPs, pIx, fLen, fAbs, fInt, fMin2, fMax2, fOrd, fList, fTuple, fIsi, tyName, AV.slot, runF, Res.nox, RV.out, outsOf, SV.lent, range1e, range2e, range3e, range4e, isi_NoneType_int, isi_NoneType_bool, isi_NoneType_str, isi_NoneType_tuple, isi_NoneType_list, isi_bool_int, isi_bool_bool, isi_bool_str, isi_bool_tuple, isi_bool_list, isi_int_int, isi_int_bool, isi_int_str, isi_int_tuple, isi_int_list, isi_str_int, isi_str_bool, isi_str_str, isi_str_tuple, isi_str_list, isi_tuple_int, isi_tuple_bool, isi_tuple_str, isi_tuple_tuple, isi_tuple_list, isi_list_int, isi_list_bool, isi_list_str, isi_list_tuple, isi_list_list, isi_dict_int, isi_dict_bool, isi_dict_str, isi_dict_tuple, isi_dict_list, c1])).trans ?_)
      refine (seq_nx (ρ1 := rdE os a q N m (s * 128) (some (.int k))) ((ifs_f (ρ1 := rdE os a q N m (s * 128) (some (.int k))) ?_).trans rfl)).trans ?_
      · have g1 : mTAnd (mTest (mBin pEq (mBor 6) (mK (.int 0)))) (mTest (mBin pGt (mBor 4) (mK (.int 0)))) (rdE os a q N m (s * 128) (some (.int k))) = .ok (false, rdE os a q N m (s * 128) (some (.int k))) := by
          rcases h0 with h0 | h0
          · subst h0
            by_cases hk0 : (k : Int) = 0 <;> simp [Res.bind, mSeq, mNx, mRet, mRetNm, mRetN, mIfS, mNever, mAsg, setR, setV, setO, isPar, mAug, mDrop, mAppend, mExtend, ownL?, ownO, setC, RV.lst?, mSrc, itemsOf, mOp, RV.fz, OB.pv, mBor, mNm, mK, mNew, mBin, mUn, deref, liftO, mANil, mACons, mApp, derefs, vals?, RV.val?, small, mTup, mLst, mCall, lone, avsOf, avOf, backs, findArg, back1, RV.bor?, mTest, RV.bl?, mTruth, truth, mTNot, mTAnd, mTOr, mAndV, mOrV, mNotV, mIf, mChain, mgNm, mAsgT, mgTup, mgCons, mgNil, iop, pAdd, pSub, pMul, pDiv, pMod, pNeg, pLt, pLe, pGt, pGe, pEq, pNe, pAddI, pMulS, pIs, pIsNot, isP, pIn, pNotIn, inP, flatP, cmpOk, cmpOks, eqP, eqPs, pIx, fLen, fAbs, fInt, fMin2, fMax2, fOrd, fList, fTuple, fIsi, tyName, AV.slot, runF, Res.nox, RV.out, outsOf, SV.lent, range1e, range2e, range3e, range4e, isi_NoneType_int, isi_NoneType_bool, isi_NoneType_str, isi_NoneType_tuple, isi_NoneType_list, isi_bool_int, isi_bool_bool, isi_bool_str, isi_bool_tuple, isi_bool_list, isi_int_int, isi_int_bool, isi_int_str, isi_int_tuple, isi_int_list, isi_str_int, isi_str_bool, isi_str_str, isi_str_tuple, isi_str_list, isi_tuple_int, isi_tuple_bool, isi_tuple_str, isi_tuple_tuple, isi_tuple_list, isi_list_int, isi_list_bool, isi_list_str, isi_list_tuple, isi_list_list, isi_dict_int, isi_dict_bool, isi_dict_str, isi_dict_tuple, isi_dict_list, hk0]
          · have : ¬ (k : Int) = 0 := by omega
            have : ¬ k = 0 := by omega
            simp [Res.bind, mSeq, mNx, mRet, mRetNm, mRetN, mIfS, mNever, mAsg, setR, setV, setO, isPar, mAug, mDrop, mAppend, mExtend, ownL?, ownO, setC, RV.lst?, mSrc, itemsOf, mOp, RV.fz, OB.pv, mBor, mNm, mK, mNew, mBin, mUn, deref, liftO, mANil, mACons, mApp, derefs, vals?, RV.val?, small, mTup, mLst, mCall, lone, avsOf, avOf, backs, findArg, back1, RV.bor?, mTest, RV.bl?, mTruth, truth, mTNot, mTAnd, mTOr, mAndV, mOrV, mNotV, mIf, mChain, mgNm, mAsgT, mgTup, mgCons, mgNil, iop, pAdd, pSub, pMul, pDiv, pMod, pNeg, pLt, pLe, pGt, pGe, pEq, pNe, pAddI, pMulS, pIs, pIsNot, isP, pIn, pNotIn, inP, flatP, cmpOk, cmpOks, eqP, eqPs, pIx, fLen, fAbs, fInt, fMin2, fMax2, fOrd, fList, fTuple, fIsi, tyName, AV.slot, runF, Res.nox, RV.out, outsOf, SV.lent, range1e, range2e, range3e, range4e, isi_NoneType_int, isi_NoneType_bool, isi_NoneType_str, isi_NoneType_tuple, isi_NoneType_list, isi_bool_int, isi_bool_bool, isi_bool_str, isi_bool_tuple, isi_bool_list, isi_int_int, isi_int_bool, isi_int_str, isi_int_tuple, isi_int_list, isi_str_int, isi_str_bool, isi_str_str, isi_str_tuple, isi_str_list, isi_tuple_int, isi_tuple_bool, isi_tuple_str, isi_tuple_tuple, isi_tuple_list, isi_list_int, isi_list_bool, isi_list_str, isi_list_tuple, isi_list_list, isi_dict_int, isi_dict_bool, isi_dict_str, isi_dict_tuple, isi_dict_list, this]
        refine (tor_f g1).trans ?_
        rcases hq with rfl | ⟨M, rfl, hM⟩
        · simp [Res.bind, mSeq, mNx, mRet, mRetNm, mRetN, mIfS, mNever, mAsg, setR, setV, setO, isPar, mAug, mDrop, mAppend, mExtend, ownL?, ownO, setC, RV.lst?, mSrc, itemsOf, mOp, RV.fz, OB.pv, mBor, mNm, mK, mNew, mBin, mUn, deref, liftO, mANil, mACons, mApp, derefs, vals?, RV.val?, small, mTup, mLst, mCall, lone, avsOf, avOf, backs, findArg, back1, RV.bor?, mTest, RV.bl?, mTruth, truth, mTNot, mTAnd, mTOr, mAndV, mOrV, mNotV, mIf, mChain, mgNm, mAsgT, mgTup, mgCons, mgNil, iop, pAdd, pSub, pMul, pDiv, pMod, pNeg, pLt, pLe, pGt, pGe, pEq, pNe, pAddI, pMulS, pIs, pIsNot, isP, pIn, pNotIn, inP, flatP, cmpOk, cmpOks, eqP, eqPs, pIx, fLen, fAbs, fInt, fMin2, fMax2, fOrd, fList, fTuple, fIsi, tyName, AV.slot, runF, Res.nox, RV.out, outsOf, SV.lent, range1e, range2e, range3e, range4e, isi_NoneType_int, isi_NoneType_bool, isi_NoneType_str, isi_NoneType_tuple, isi_NoneType_list, isi_bool_int, isi_bool_bool, isi_bool_str, isi_bool_tuple, isi_bool_list, isi_int_int, isi_int_bool, isi_int_str, isi_int_tuple, isi_int_list, isi_str_int, isi_str_bool, isi_str_str, isi_str_tuple, isi_str_list, isi_tuple_int, isi_tuple_bool, isi_tuple_str, isi_tuple_tuple, isi_tuple_list, isi_list_int, isi_list_bool, isi_list_str, isi_list_tuple, isi_list_list, isi_dict_int, isi_dict_bool, isi_dict_str, isi_dict_tuple, isi_dict_list]
        · have : ¬ M < (N : Int) := by omega
          simp [Res.bind, mSeq, mNx, mRet, mRetNm, mRetN, mIfS, mNever, mAsg, setR, setV, setO, isPar, mAug, mDrop, mAppend, mExtend, ownL?, ownO, setC, RV.lst?, mSrc, itemsOf, mOp, RV.fz, OB.pv, mBor, mNm, mK, mNew, mBin, mUn, deref, liftO, mANil, mACons, mApp, derefs, vals?, RV.val?, small, mTup, mLst, mCall, lone, avsOf, avOf, backs, findArg, back1, RV.bor?, mTest, RV.bl?, mTruth, truth, mTNot, mTAnd, mTOr, mAndV, mOrV, mNotV, mIf, mChain, mgNm, mAsgT, mgTup, mgCons, mgNil, iop, pAdd, pSub, pMul, pDiv, pMod, pNeg, pLt, pLe, pGt, pGe, pEq, pNe, pAddI, pMulS, pIs, pIsNot, isP, pIn, pNotIn, inP, flatP, cmpOk, cmpOks, eqP, eqPs, pIx, fLen, fAbs, fInt, fMin2, fMax2, fOrd, fList, fTuple, fIsi, tyName, AV.slot, runF, Res.nox, RV.out, outsOf, SV.lent, range1e, range2e, range3e, range4e, isi_NoneType_int, isi_NoneType_bool, isi_NoneType_str, isi_NoneType_tuple, isi_NoneType_list, isi_bool_int, isi_bool_bool, isi_bool_str, isi_bool_tuple, isi_bool_list, isi_int_int, isi_int_bool, isi_int_str, isi_int_tuple, isi_int_list, isi_str_int, isi_str_bool, isi_str_str, isi_str_tuple, isi_str_list, isi_tuple_int, isi_tuple_bool, isi_tuple_str, isi_tuple_tuple, isi_tuple_list, isi_list_int, isi_list_bool, isi_list_str, isi_list_tuple, isi_list_list, isi_dict_int, isi_dict_bool, isi_dict_str, isi_dict_tuple, isi_dict_list, this]
      · simp [Res.bind, mSeq, mNx, mRet, mRetNm, mRetN, mIfS, mNever, mAsg, setR, setV, setO, isPar, mAug, mDrop, mAppend, mExtend, ownL?, ownO, setC, RV.lst?, mSrc, itemsOf, mOp, RV.fz, OB.pv, mBor, mNm, mK, mNew, mBin, mUn, deref, liftO, mANil, mACons, mApp, derefs, vals?, RV.val?, small, mTup, mLst, mCall, lone, avsOf, avOf, backs, findArg, back1, RV.bor?, mTest, RV.bl?, mTruth, truth, mTNot, mTAnd, mTOr, mAndV, mOrV, mNotV, mIf, mChain, mgNm, mAsgT, mgTup, mgCons, mgNil, iop, pAdd, pSub, pMul, pDiv, pMod, pNeg, pLt, pLe, pGt, pGe, pEq, pNe, pAddI, pMulS, pIs, pIsNot, isP, pIn, pNotIn, inP, flatP, cmpOk, cmpOks, eqP, eqPs, pIx, fLen, fAbs, fInt, fMin2, fMax2, fOrd, fList, fTuple, fIsi, tyName, AV.slot, runF, Res.nox, RV.out, outsOf, SV.lent, range1e, range2e, range3e, range4e, isi_NoneType_int, isi_NoneType_bool, isi_NoneType_str, isi_NoneType_tuple, isi_NoneType_list, isi_bool_int, isi_bool_bool, isi_bool_str, isi_bool_tuple, isi_bool_list, isi_int_int, isi_int_bool, isi_int_str, isi_int_tuple, isi_int_list, isi_str_int, isi_str_bool, isi_str_str, isi_str_tuple, isi_str_list, isi_tuple_int, isi_tuple_bool, isi_tuple_str, isi_tuple_tuple, isi_tuple_list, isi_list_int, isi_list_bool, isi_list_str, isi_list_tuple, isi_list_list, isi_dict_int, isi_dict_bool, isi_dict_str, isi_dict_tuple, isi_dict_list]
theorem while_more {t : MT} {b : MS} {ρ ρ' : Pu.Env} {r : RV} : ∀ (n d : Nat), whileM t b n ρ = .ok (.rt r, ρ') → whileM t b (n + d) ρ = .ok (.rt r, ρ') := by
  intro n
  induction n generalizing ρ with
  | zero => intro d h; cases h
  | succ n ih =>
    intro d h
    rw [show n + 1 + d = (n + d) + 1 by omega]
    unfold whileM at h ⊢
    cases e1 : t ρ with
    | bad => rw [e1] at h; cases h
    | exc x => rw [e1] at h; cases h
    | ok p =>
      rw [e1, Res.bind_ok] at h
      rw [Res.bind_ok]
      by_cases c : p.1 = true
      · rw [if_pos c] at h ⊢
        cases e2 : b p.2 with
        | bad => rw [e2] at h; cases h
        | exc x => rw [e2] at h; cases h
        | ok q =>
          rw [e2, Res.bind_ok] at h
          rw [Res.bind_ok]
          obtain ⟨fl, ρ2⟩ := q
          cases fl with
          | nx => exact ih d h
          | ct => exact ih d h
          | bk => exact h
          | rt r => exact h
      · rw [if_neg c] at h
        cases h
/-- a row's digits, read -/
theorem read_digits_ok {os rest : List Int} {a k : Nat} {q : PV} (hn : os.length < 16777216) (hd : os.drop a = dg k ++ rest) (hk : k < 128 ^ 950) (hq : Most q k) :
    (stepT C t).read_digits [.val (.tup (os.map PV.int)), .val (.int a), .val q] = .ok (.val (.tup [.int k, .int ((a + (dg k).length : Nat) : Int)]), [none, none, none]) := by
  obtain ⟨ρ, h1, h2⟩ := rd_loop hn (q := q) 949 k a 0 0 1 none rest hd hk (by omega) (.inl rfl) (by rw [Nat.zero_add, Nat.one_mul]; exact hq)
  rw [Nat.zero_add, Nat.one_mul] at h1
  have h3 := while_more (949 + 1) 50 h1
  refine (run_rt (r := .val (.tup [.int k, .int ((a + (dg k).length : Nat) : Int)])) (ρ1 := ρ) [some (.val (.tup (os.map PV.int))), some (.val (.int a)), some (.val q), none, none, none, none] rfl ?_ rfl).trans (by rw [show ([AV.val (PV.tup (os.map PV.int)), AV.val (PV.int a), AV.val q] : List AV).length = 3 from rfl, h2])
  refine (seq_nx (ρ1 := [some (.val (.tup (os.map PV.int))), some (.val (.int a)), some (.val q), some (.val (.int 0)), none, none, none]) rfl).trans ?_
  refine (seq_nx (ρ1 := [some (.val (.tup (os.map PV.int))), some (.val (.int a)), some (.val q), some (.val (.int 0)), some (.val (.int 0)), none, none]) rfl).trans ?_
  refine (seq_nx (ρ1 := rdE os a q 0 0 1 none) rfl).trans ?_
  exact h3
end K80

set_option Elab.async false
set_option linter.all false
set_option maxRecDepth 100000
set_option exponentiation.threshold 100000
namespace K80
open PySem Pu
variable {C : Addr} {t : Tb}
/-! ### the reader -/
abbrev nsR : List Str := ["octets", "at", "parts"]
abbrev xsR (os : List Int) (a p : Nat) : List PV := [.tup (os.map PV.int), .int a, .int p]
abbrev Rd (C : Addr) (os : List Int) (a p : Nat) : OB := .ob C nsR (xsR os a p)
theorem look_at (x y z : PV) : lookF nsR [x, y, z] "at" = some y := rfl
theorem look_oc (x y z : PV) : lookF nsR [x, y, z] "octets" = some x := rfl
theorem look_pa (x y z : PV) : lookF nsR [x, y, z] "parts" = some z := rfl
theorem put_at (x y z v : PV) : putVs nsR [x, y, z] "at" v = [x, v, z] := rfl
theorem put_pa (x y z v : PV) : putVs nsR [x, y, z] "parts" v = [x, y, v] := rfl
theorem putn_at : putNs nsR "at" = nsR := rfl
theorem putn_pa : putNs nsR "parts" = nsR := rfl
theorem hold0 {os : List Int} {a p : Nat} {r : Pu.Env} : Hold (some (.par (Rd C os a p)) :: r) 0 SV.par (Rd C os a p) := ⟨rfl, .inl rfl⟩
theorem begin_ok {os : List Int} {a p : Nat} {i : Int} (hi : os[a]? = some i) (h6 : i ≤ 6) :
    (stepT C t).Reader_begin [.own (Rd C os a p)] = .ok (.val (.int i), [some (Rd C os (a + 1) p)]) := by
  have ha : a < os.length := (List.getElem?_eq_some_iff.mp hi).1
  have c1 : ¬ (a : Int) = (os.length : Int) := by omega
  have c2 : ¬ 6 < i := by omega
  refine run_rt (r := .val (.int i)) (ρ1 := [some (.par (Rd C os (a + 1) p))]) [some (.par (Rd C os a p))] rfl ?_ rfl
  have f1 : mFld C 0 "at" [some (.par (Rd C os a p))] = .ok (.val (.int a), [some (.par (Rd C os a p))]) := fld_of hold0 (look_at _ _ _)
  have f2 : mFld C 0 "octets" [some (.par (Rd C os a p))] = .ok (.val (.tup (os.map PV.int)), [some (.par (Rd C os a p))]) := fld_of hold0 (look_oc _ _ _)
  have f1' : mFld C 0 "at" [some (.par (Rd C os (a + 1) p))] = .ok (.val (.int ((a + 1 : Nat) : Int)), [some (.par (Rd C os (a + 1) p))]) := fld_of hold0 (look_at _ _ _)
  have f2' : mFld C 0 "octets" [some (.par (Rd C os (a + 1) p))] = .ok (.val (.tup (os.map PV.int)), [some (.par (Rd C os (a + 1) p))]) := fld_of hold0 (look_oc _ _ _)
  refine (seq_nx (ρ1 := [some (.par (Rd C os a p))]) ((ifs_f (ρ1 := [some (.par (Rd C os a p))]) ?_).trans rfl)).trans ?_
  · refine (tor_f (test_of (bin_val f1 (app1 (r := .val (.int os.length)) f2 (by simp [fLen])) ?_))).trans ?_
    · show pEq (.int a) (.int os.length) = _
      simp [pEq, cmpOk, eqP, c1]
    · exact test_of (bin_val (bin_val f2 f1 (at_ok hi)) rfl (by rw [show pGt (.int i) (.int 6) = some (.val (.bl (decide (6 < i)))) from rfl, decide_eq_false c2]))
  refine (seq_nx (ρ1 := [some (.par (Rd C os (a + 1) p))]) ?_).trans ?_
  · refine (augf_of hold0 (look_at _ _ _) rfl (v := .int ((a + 1 : Nat) : Int)) (b := .int 1) (iop_eval rfl) (by decide)).trans ?_
    rfl
  · refine ret_of (bin_val f2' (bin_val (r := .val (.int a)) (b := .int 1) f1' rfl ?_) (at_ok hi))
    show some (RV.val (PV.int (((a + 1 : Nat) : Int) - 1))) = _
    rw [show (((a + 1 : Nat) : Int) - 1) = (a : Int) by omega]
def RdOk (g : G) : Prop := ∀ (os rest : List Int) (a k : Nat) (q : PV), os.length < 16777216 → os.drop a = dg k ++ rest → k < 128 ^ 950 → Most q k →
    g [.val (.tup (os.map PV.int)), .val (.int a), .val q] = .ok (.val (.tup [.int k, .int ((a + (dg k).length : Nat) : Int)]), [none, none, none])
theorem number_ok (hr : RdOk t.read_digits) {os rest : List Int} {a k p : Nat} {q : PV} (hn : os.length < 16777216) (hd : os.drop a = dg k ++ rest) (hk : k < 128 ^ 950) (hq : Most q k) :
    (stepT C t).Reader_number [.own (Rd C os a p), .val q] = .ok (.val (.int k), [some (Rd C os (a + (dg k).length) p), none]) := by
  have hc := hr os rest a k q hn hd hk hq
  refine run_rt (r := .val (.int k)) (ρ1 := [some (.par (Rd C os (a + (dg k).length) p)), some (.val q), some (.val (.int k))]) [some (.par (Rd C os a p)), some (.val q), none] rfl ?_ rfl
  have f1 : mFld C 0 "at" [some (.par (Rd C os a p)), some (.val q), none] = .ok (.val (.int a), [some (.par (Rd C os a p)), some (.val q), none]) := fld_of hold0 (look_at _ _ _)
  have f2 : mFld C 0 "octets" [some (.par (Rd C os a p)), some (.val q), none] = .ok (.val (.tup (os.map PV.int)), [some (.par (Rd C os a p)), some (.val q), none]) := fld_of hold0 (look_oc _ _ _)
  refine (seq_nx (ρ1 := [some (.par (Rd C os (a + (dg k).length) p)), some (.val q), some (.val (.int k))]) (asgt_of (call_vals (ps := [.tup (os.map PV.int), .int a, q]) (args_cons f2 (args_cons f1 (args_cons (ρ1 := [some (.par (Rd C os a p)), some (.val q), none]) rfl args_nil))) hc) ?_)).trans rfl
  have e := putFld_of (ρ := [some (.par (Rd C os a p)), some (.val q), some (.val (.int k))]) (f := "at") (v := .int ((a + (dg k).length : Nat) : Int)) (hold0 (r := [some (.val q), some (.val (.int k))])) (by decide)
  have e1 : mgTup 2 (mgCons (mgNm 2) (mgCons (mgFld C 0 "at") mgNil)) (.tup [.int k, .int ((a + (dg k).length : Nat) : Int)]) [some (.par (Rd C os a p)), some (.val q), none] = (putFld C 0 "at" (.int ((a + (dg k).length : Nat) : Int)) [some (.par (Rd C os a p)), some (.val q), some (.val (.int k))]).bind fun ρ => some ρ := rfl
  rw [e1, e]
  rfl
end K80

set_option Elab.async false
set_option linter.all false
set_option maxRecDepth 100000
set_option exponentiation.threshold 100000
namespace K80
open PySem Pu
variable {C : Addr} {t : Tb}
/-! ### texts read -/
theorem join_singles (l : List Nat) : Txt.join "" (l.map fun c => (⟨#[c]⟩ : Str)) = ⟨l.toArray⟩ := by
  rw [TL.join_eq]
  refine TL.ext_tl ?_
  rw [TL.tl_join]
  have e : TL.tl ("" : Str) = [] := rfl
  rw [e, List.map_map]
  have key : ∀ l : List Nat, TL.joinL [] (l.map (TL.tl ∘ fun c => (⟨#[c]⟩ : Str))) = l := by
    intro l
    induction l with
    | nil => rfl
    | cons c l ih =>
      cases l with
      | nil => rfl
      | cons d l =>
        rw [List.map_cons] at ih ⊢
        show [c] ++ ([] ++ TL.joinL [] (List.map _ (d :: l))) = _
        rw [List.map_cons, ih]
        rfl
  rw [key]
abbrev bRS (C : Addr) (t : Tb) : MS := mSeq (mIfS (mTOr (mTest (mBin pEq (mFld C 0 "at") (mApp fLen (mACons (mFld C 0 "octets") mANil)))) (mTNot (mTruth (mCall t.is_sign (mACons (mBin pIx (mFld C 0 "octets") (mFld C 0 "at")) mANil))))) mNever mNx)
    (mSeq (mAppend 2 (mCall t.sign_of (mACons (mBin pIx (mFld C 0 "octets") (mFld C 0 "at")) mANil)))
    (mAugFld C 0 "at" pAddI (mK (.int 1))))
theorem sign_range {c : Nat} (h : isSign (c : Int) = true) : c < 128 := by
  unfold isSign at h
  rw [Bool.or_eq_true, Bool.and_eq_true] at h
  rcases h with h | h
  · have := of_decide_eq_true h.2
    omega
  · have := eq_of_beq h
    omega
def SgnOk (g : G) : Prop := ∀ c : Nat, c < 128 → g [.val (.int (c : Int))] = .ok (.val (.str ⟨#[c]⟩), [none])
abbrev stE (C : Addr) (os : List Int) (a p : Nat) (mn : PV) (r : List PV) (o : Option PV) : Pu.Env := [some (.par (Rd C os a p)), some (.val mn), some (.own (.lst r)), o.map SV.val]
theorem rs_loop (hs : SignOk t.is_sign) (hg : SgnOk t.sign_of) {os : List Int} {p : Nat} {mn : PV} : ∀ (l : List Nat) (xs : List PV) (a : Nat) (r : List PV) (o : Option PV) (rest : List Int), xs.length = l.length → os.drop a = l.map (fun (c : Nat) => (c : Int)) ++ rest → (l.all fun (c : Nat) => isSign (c : Int)) = true → r.length + l.length < 16777216 →
    ∃ o' : Option PV, Pu.forM (mgNm 3) (bRS C t) xs (stE C os a p mn r o) = .ok (.nx, stE C os (a + l.length) p mn (r ++ l.map fun c => .str ⟨#[c]⟩) o')
  | [], xs, a, r, o, rest, hl, _, _, _ => by
    have : xs = [] := List.eq_nil_of_length_eq_zero hl
    subst this
    exact ⟨o, by rw [List.map_nil, List.append_nil]; rfl⟩
  | c :: l, [], a, r, o, rest, hl, _, _, _ => by cases hl
  | c :: l, x :: xs, a, r, o, rest, hl, hd, hsg, hz => by
    rw [List.all_cons, Bool.and_eq_true] at hsg
    rw [List.length_cons] at hz
    have hi : os[a]? = some ((c : Nat) : Int) := by
      rw [show os[a]? = (os.drop a)[0]? by rw [List.getElem?_drop]; rfl, hd]
      rfl
    have hd2 : os.drop (a + 1) = l.map (fun (c : Nat) => (c : Int)) ++ rest := by
      rw [← List.drop_drop, hd]
      rfl
    obtain ⟨o', e⟩ := rs_loop hs hg (mn := mn) (p := p) l xs (a + 1) (r ++ [.str ⟨#[c]⟩]) (some x) rest (by simpa using hl) hd2 hsg.2 (by rw [List.length_append]; simp; omega)
    refine ⟨o', ?_⟩
    have ha : a < os.length := (List.getElem?_eq_some_iff.mp hi).1
    have c1 : ¬ (a : Int) = (os.length : Int) := by omega
    have c2 : r.length < 16777216 := by omega
    have f1 : mFld C 0 "at" (stE C os a p mn r (some x)) = .ok (.val (.int a), stE C os a p mn r (some x)) := fld_of hold0 (look_at _ _ _)
    have f2 : mFld C 0 "octets" (stE C os a p mn r (some x)) = .ok (.val (.tup (os.map PV.int)), stE C os a p mn r (some x)) := fld_of hold0 (look_oc _ _ _)
    have f3 : mBin pIx (mFld C 0 "octets") (mFld C 0 "at") (stE C os a p mn r (some x)) = .ok (.val (.int (c : Int)), stE C os a p mn r (some x)) := bin_val f2 f1 (at_ok hi)
    have hc := hs (c : Int)
    rw [hsg.1] at hc
    have g1 : mCall t.sign_of (mACons (mBin pIx (mFld C 0 "octets") (mFld C 0 "at")) mANil) (stE C os a p mn r (some x)) = .ok (.val (.str ⟨#[c]⟩), stE C os a p mn r (some x)) := call1 (p := .int (c : Int)) f3 (hg c (sign_range hsg.1))
    rw [for_cons (ρ1 := stE C os a p mn r (some x)) (ρ2 := stE C os (a + 1) p mn (r ++ [.str ⟨#[c]⟩]) (some x)) (by cases o <;> rfl) ?_]
    · rw [e]
      simp only [List.length_cons, List.map_cons, List.append_assoc, List.singleton_append]
      rw [show a + 1 + l.length = a + (l.length + 1) by omega]
    · refine (seq_nx (ρ1 := stE C os a p mn r (some x)) ((ifs_f (ρ1 := stE C os a p mn r (some x)) ?_).trans rfl)).trans ?_
      · refine (tor_f (test_of (bin_val f1 (app1 (r := .val (.int os.length)) f2 (by simp [fLen])) ?_))).trans ?_
        · show pEq (.int a) (.int os.length) = _
          simp [pEq, cmpOk, eqP, c1]
        · exact tnot_of (truth_of' (call1 (p := .int (c : Int)) f3 hc) rfl)
      · refine (seq_nx (ρ1 := stE C os a p mn (r ++ [.str ⟨#[c]⟩]) (some x)) ?_).trans ?_
        · unfold mAppend mOp
          rw [g1]
          simp [ownL?, ownO, liftO, Res.bind, RV.fz, RV.val?, c2, setC]
        · exact (augf_of hold0 (look_at _ _ _) rfl (v := .int ((a + 1 : Nat) : Int)) (b := .int 1) (iop_eval rfl) (by decide)).trans rfl
def NumOk (C : Addr) (g : G) : Prop := ∀ (os rest : List Int) (a k p : Nat) (q : PV), os.length < 16777216 → os.drop a = dg k ++ rest → k < 128 ^ 950 → Most q k →
    g [.own (Rd C os a p), .val q] = .ok (.val (.int k), [some (Rd C os (a + (dg k).length) p), none])
theorem rng_any (n : Nat) (h : n < 1000000000) (ρ : Pu.Env) (i : Nat) (hi : ρ[i]? = some (some (.val (.int (n : Int))))) : mRng rng1 (mACons (mNm i) mANil) ρ = .ok (rangeOf 0 n, ρ) ∧ (rangeOf 0 n).length = n := by
  refine ⟨?_, by simp [rangeOf]⟩
  have e : mNm i ρ = .ok (.val (.int n), ρ) := by
    unfold mNm
    rw [hi]
  have e2 := args_cons e (args_nil (ρ := ρ))
  unfold mRng
  rw [e2, Res.bind_ok]
  show (liftO (some [PV.int (n : Int)])).bind _ = _
  rw [liftO_some, Res.bind_ok]
  show (liftO (if b62 n then some (rangeOf 0 n) else none)).bind _ = _
  have hb : b62 (n : Int) = true := by
    unfold b62
    rw [Bool.and_eq_true]
    exact ⟨decide_eq_true (by omega), decide_eq_true (by omega)⟩
  rw [hb]
  rfl
theorem string_ok (hn : NumOk C t.Reader_number) (hs : SignOk t.is_sign) (hg : SgnOk t.sign_of) {os rest : List Int} {a p : Nat} {x : Str} (hl : os.length < 16777216) (hd : os.drop a = dg x.length ++ (x.cps.toList.map (fun (c : Nat) => (c : Int)) ++ rest)) (hx : x.length ≤ 20000) (hsg : (x.cps.toList.all fun (c : Nat) => isSign (c : Int)) = true) :
    (stepT C t).Reader_string [.own (Rd C os a p)] = .ok (.val (.str x), [some (Rd C os (a + (dg x.length).length + x.length) p)]) := by
  have hlen : x.cps.toList.length = x.length := by simp [Str.length]
  have h1 := hn os _ a x.length p (.int 20000) hl hd (by have := small950; omega) (.inr ⟨20000, rfl, by omega⟩)
  have hd2 : os.drop (a + (dg x.length).length) = x.cps.toList.map (fun (c : Nat) => (c : Int)) ++ rest := by
    rw [← List.drop_drop, hd, List.drop_left]
  obtain ⟨r1, r2⟩ := rng_any x.length (by omega) (stE C os (a + (dg x.length).length) p (.int x.length) [] none) 1 rfl
  obtain ⟨o', e⟩ := rs_loop (C := C) hs hg (mn := .int x.length) (p := p) x.cps.toList (rangeOf 0 x.length) (a + (dg x.length).length) [] none rest (by rw [r2, hlen]) hd2 hsg (by rw [hlen]; simp; omega)
  rw [hlen, List.nil_append] at e
  refine run_rt (r := .val (.str x)) (ρ1 := stE C os (a + (dg x.length).length + x.length) p (.int x.length) (x.cps.toList.map fun c => .str ⟨#[c]⟩) o') [some (.par (Rd C os a p)), none, none, none] rfl ?_ rfl
  refine (seq_nx (ρ1 := [some (.par (Rd C os (a + (dg x.length).length) p)), some (.val (.int x.length)), none, none]) (asg_of (meth_of (ps := [.int 20000]) hold0 (by decide) rfl h1) rfl)).trans ?_
  refine (seq_nx (ρ1 := stE C os (a + (dg x.length).length) p (.int x.length) [] none) rfl).trans ?_
  refine (seq_nx ((mfor_of r1).trans e)).trans ?_
  refine ret_of ?_
  have hj : pJoin "" (.lst (x.cps.toList.map fun c => .str ⟨#[c]⟩)) = some (.val (.str x)) := by
    have s1 : ∀ l : List Nat, strsOf (l.map fun c => PV.str ⟨#[c]⟩) = some (l.map fun c => (⟨#[c]⟩ : Str)) := by
      intro l
      induction l with
      | nil => rfl
      | cons c l ih =>
        show (strsOf (l.map fun c => PV.str ⟨#[c]⟩)).map _ = _
        rw [ih]
        rfl
    have s2 : ∀ l : List Nat, ((l.map fun c => (⟨#[c]⟩ : Str)).map (·.length)).sum = l.length := by
      intro l
      induction l with
      | nil => rfl
      | cons c l ih =>
        rw [List.map_cons, List.map_cons, List.sum_cons, ih, List.length_cons]
        show 1 + l.length = _
        omega
    unfold pJoin
    dsimp only
    rw [s1]
    show (if _ ≤ 16777216 then _ else _) = _
    rw [s2, if_pos (by rw [hlen]; show x.length + _ * 0 ≤ 16777216; omega), join_singles]
  have e0 : mOp (mBor 2) (stE C os (a + (dg x.length).length + x.length) p (.int x.length) (x.cps.toList.map fun c => .str ⟨#[c]⟩) o') = .ok (.bor 2, stE C os (a + (dg x.length).length + x.length) p (.int x.length) (x.cps.toList.map fun c => .str ⟨#[c]⟩) o') := rfl
  unfold mUn
  rw [e0, Res.bind_ok]
  show (liftO (pJoin "" (.lst (x.cps.toList.map fun c => .str ⟨#[c]⟩)))).bind _ = _
  rw [hj]
  rfl
end K80

set_option Elab.async false
set_option linter.all false
set_option maxRecDepth 100000
set_option exponentiation.threshold 100000
namespace K80
open PySem Pu
variable {C : Addr} {t : Tb}
/-! ### values read -/
abbrev vE (C : Addr) (os : List Int) (a p : Nat) (d : Nat) (s k m : Option PV) : Pu.Env := [some (.par (Rd C os a p)), some (.val (.int (d : Int))), s.map SV.val, k.map SV.val, m.map SV.val, none]
def BegOk (C : Addr) (g : G) : Prop := ∀ (os : List Int) (a p : Nat) (i : Int), os[a]? = some i → i ≤ 6 → g [.own (Rd C os a p)] = .ok (.val (.int i), [some (Rd C os (a + 1) p)])
def StrOk (C : Addr) (g : G) : Prop := ∀ (os rest : List Int) (a p : Nat) (x : Str), os.length < 16777216 → os.drop a = dg x.length ++ (x.cps.toList.map (fun (c : Nat) => (c : Int)) ++ rest) → x.length ≤ 20000 → (x.cps.toList.all fun (c : Nat) => isSign (c : Int)) = true →
    g [.own (Rd C os a p)] = .ok (.val (.str x), [some (Rd C os (a + (dg x.length).length + x.length) p)])
/-- v read at a, where its octets stand -/
def ValAt (C : Addr) (g : G) (d : Nat) (v : PV) : Prop := ∀ (os rest : List Int) (a p : Nat), os.length < 16777216 → os.drop a = enc v ++ rest → p + cnt v ≤ 500001 →
    g [.own (Rd C os a p), .val (.int (d : Int))] = .ok (.val v, [some (Rd C os (a + (enc v).length) (p + cnt v - 1)), none])
theorem cnt_pos (v : PV) : 1 ≤ cnt v := by cases v <;> (unfold cnt; omega)
theorem cnts_len : ∀ xs : List PV, xs.length ≤ cnts xs
  | [] => Nat.zero_le _
  | x :: xs => by
    have h1 := cnts_len xs
    have h2 := cnt_pos x
    rw [List.length_cons]
    show xs.length + 1 ≤ cnt x + cnts xs
    omega
theorem val_lc {os : List Int} (hl : os.length < 16777216) (d : Nat) (s k m : Option PV) : ∀ (xs is : List PV) (a p : Nat) (rest : List Int), is.length = xs.length → (∀ x ∈ xs, ValAt C t.Reader_value (d + 1) x) → os.drop a = encs xs ++ rest → p + cnts xs ≤ 500000 + xs.length →
    lcM [5] (mgNm 5) mYes (mMeth C "value" t.Reader_value 0 (mACons (mBin pAdd (mBor 1) (mK (.int 1))) mANil)) is (vE C os a p d s k m) = .ok (xs, vE C os (a + (encs xs).length) (p + cnts xs - xs.length) d s k m)
  | [], is, a, p, rest, hi, _, _, _ => by
    have : is = [] := List.eq_nil_of_length_eq_zero hi
    subst this
    rfl
  | x :: xs, [], a, p, rest, hi, _, _, _ => by cases hi
  | x :: xs, i :: is, a, p, rest, hi, hx, hd, hp => by
    have e1 : encs (x :: xs) = enc x ++ encs xs := rfl
    have e2 : cnts (x :: xs) = cnt x + cnts xs := rfl
    rw [e2, List.length_cons] at hp
    rw [e1, List.append_assoc] at hd
    have c1 := cnt_pos x
    have c2 := cnts_len xs
    have hv := hx x (List.mem_cons_self ..) os (encs xs ++ rest) a p hl hd (by omega)
    have hd2 : os.drop (a + (enc x).length) = encs xs ++ rest := by
      rw [← List.drop_drop, hd, List.drop_left]
    have ih := val_lc hl d s k m xs is (a + (enc x).length) (p + cnt x - 1) rest (by simpa using hi) (fun y hy => hx y (List.mem_cons_of_mem _ hy)) hd2 (by omega)
    have he : mBin pAdd (mBor 1) (mK (.int 1)) [some (.par (Rd C os a p)), some (.val (.int (d : Int))), s.map SV.val, k.map SV.val, m.map SV.val, some (.val i)] = .ok (.val (.int ((d + 1 : Nat) : Int)), [some (.par (Rd C os a p)), some (.val (.int (d : Int))), s.map SV.val, k.map SV.val, m.map SV.val, some (.val i)]) :=
      bin_val (a := .int d) (b := .int 1) rfl rfl rfl
    have hm := meth_of (C := C) (mm := "value") (g := t.Reader_value) (ma := mACons (mBin pAdd (mBor 1) (mK (.int 1))) mANil) (ps := [.int ((d + 1 : Nat) : Int)]) (hold0 (C := C) (os := os) (a := a) (p := p) (r := [some (.val (.int (d : Int))), s.map SV.val, k.map SV.val, m.map SV.val, some (.val i)])) (by decide) (args_cons he args_nil) hv
    rw [lc_cons (ρ1 := [some (.par (Rd C os a p)), some (.val (.int (d : Int))), s.map SV.val, k.map SV.val, m.map SV.val, some (.val i)]) (ρ2 := [some (.par (Rd C os a p)), some (.val (.int (d : Int))), s.map SV.val, k.map SV.val, m.map SV.val, some (.val i)]) (ρ3 := [some (.par (Rd C os (a + (enc x).length) (p + cnt x - 1))), some (.val (.int (d : Int))), s.map SV.val, k.map SV.val, m.map SV.val, some (.val i)]) (y := x) rfl rfl hm]
    have ew : wipeE [some (.par (Rd C os (a + (enc x).length) (p + cnt x - 1))), some (.val (.int (d : Int))), s.map SV.val, k.map SV.val, m.map SV.val, some (.val i)] [5] = vE C os (a + (enc x).length) (p + cnt x - 1) d s k m := rfl
    rw [ew, ih, e1, e2, List.length_append, List.length_cons]
    show Res.ok (x :: xs, vE C os (a + (enc x).length + (encs xs).length) (p + cnt x - 1 + cnts xs - xs.length) d s k m) = _
    rw [show a + (enc x).length + (encs xs).length = a + ((enc x).length + (encs xs).length) by omega, show p + cnt x - 1 + cnts xs - xs.length = p + (cnt x + cnts xs) - (xs.length + 1) by omega]
theorem head_at {os r : List Int} {a : Nat} {i : Int} (h : os.drop a = i :: r) : os[a]? = some i ∧ os.drop (a + 1) = r := by
  refine ⟨?_, by rw [← List.drop_drop, h]; rfl⟩
  rw [show os[a]? = (os.drop a)[0]? by rw [List.getElem?_drop]; rfl, h]
  rfl
theorem num_none (hn : NumOk C t.Reader_number) {os rest : List Int} (hl : os.length < 16777216) {a p k d : Nat} {s kk m : Option PV} (hd : os.drop a = dg k ++ rest) (hk : k < 128 ^ 950) : mMeth C "number" t.Reader_number 0 (mACons (mK .non) mANil) (vE C os a p d s kk m) = .ok (.val (.int k), vE C os (a + (dg k).length) p d s kk m) :=
  meth_of (ps := [.non]) hold0 (by decide) rfl (hn os rest a k p .non hl hd hk (.inl rfl))
theorem value_step (hb : BegOk C t.Reader_begin) (hn : NumOk C t.Reader_number) (hs : StrOk C t.Reader_string) : ∀ (n d : Nat) (v : PV), okV n v = true → n + d = 60 → (∀ xs, v = .tup xs → ∀ x ∈ xs, ValAt C t.Reader_value (d + 1) x) →
    ValAt C (stepT C t).Reader_value d v := by
  intro n d v ok hnd hx os rest a p hl hd hp
  have start : ∀ (i : Int) (r : List Int) (hd : os.drop a = i :: r) (h6 : i ≤ 6) (res : RV) (ρ' : Pu.Env) (b : MS) (e0 : b_Reader_value C t = mSeq (mAsg 2 (mFld C 0 "at")) (mSeq (mAsg 3 (mMeth C "begin" t.Reader_begin 0 mANil)) b)),
      b (vE C os (a + 1) p d (some (.int a)) (some (.int i)) none) = .ok (.rt res, ρ') → b_Reader_value C t [some (.par (Rd C os a p)), some (.val (.int (d : Int))), none, none, none, none] = .ok (.rt res, ρ') := by
    intro i r hd h6 res ρ' b e0 h
    obtain ⟨h1, h2⟩ := head_at hd
    rw [e0]
    refine (seq_nx (ρ1 := vE C os a p d (some (.int a)) none none) (asg_of (fld_of hold0 (look_at _ _ _)) rfl)).trans ?_
    refine (seq_nx (ρ1 := vE C os (a + 1) p d (some (.int a)) (some (.int i)) none) (asg_of (meth_of (ps := []) hold0 (by decide) rfl (hb os a p i h1 h6)) rfl)).trans ?_
    exact h
  have e0 : (stepT C t).Reader_value = runF 6 (b_Reader_value C t) := rfl
  rw [e0]
  have run : ∀ (res : PV) (a' p' : Nat) (k m : Option PV), b_Reader_value C t [some (.par (Rd C os a p)), some (.val (.int (d : Int))), none, none, none, none] = .ok (.rt (.val res), vE C os a' p' d (some (.int a)) k m) → runF 6 (b_Reader_value C t) [.own (Rd C os a p), .val (.int (d : Int))] = .ok (.val res, [some (Rd C os a' p'), none]) :=
    fun res a' p' k m h => (run_rt (avs := [.own (Rd C os a p), .val (.int (d : Int))]) (size := 6) (r := .val res) (ρ1 := vE C os a' p' d (some (.int a)) k m) [some (.par (Rd C os a p)), some (.val (.int (d : Int))), none, none, none, none] rfl h rfl).trans rfl
  cases v with
  | non =>
    rw [show enc .non = [0] from rfl] at hd ⊢
    refine run .non (a + 1) p (some (.int 0)) none (start 0 rest hd (by decide) _ _ _ rfl ?_)
    rfl
  | bl b =>
    cases b with
    | true =>
      rw [show enc (.bl true) = [5] from rfl] at hd ⊢
      refine run (.bl true) (a + 1) p (some (.int 5)) none (start 5 rest hd (by decide) _ _ _ rfl ?_)
      rfl
    | false =>
      rw [show enc (.bl false) = [6] from rfl] at hd ⊢
      refine run (.bl false) (a + 1) p (some (.int 6)) none (start 6 rest hd (by decide) _ _ _ rfl ?_)
      rfl
  | int i =>
    have ok0 : okV 0 (.int i) = true := by
      unfold okV at ok ⊢
      exact ok
    obtain ⟨h1, h2⟩ := int950 ok0
    by_cases hi : 0 ≤ i
    · have ee : enc (.int i) = 1 :: dg i.toNat := by unfold enc; rw [if_pos hi]
      rw [ee] at hd ⊢
      have en : i = ((i.toNat : Nat) : Int) := by omega
      have hr := num_none hn hl (p := p) (d := d) (s := some (.int a)) (kk := some (.int 1)) (m := none) (head_at hd).2 (h1 hi)
      rw [← en] at hr
      rw [List.length_cons, show a + ((dg i.toNat).length + 1) = a + 1 + (dg i.toNat).length by omega]
      refine run (.int i) _ p (some (.int 1)) none (start 1 _ hd (by decide) _ _ _ rfl ?_)
      refine (seq_nx (ρ1 := vE C os (a + 1) p d (some (.int a)) (some (.int 1)) none) rfl).trans ?_
      refine seq_rt ((ifs_t (ρ1 := vE C os (a + 1) p d (some (.int a)) (some (.int 1)) none) rfl).trans (ret_of hr))
    · have ee : enc (.int i) = 2 :: dg (-i - 1).toNat := by unfold enc; rw [if_neg hi]
      rw [ee] at hd ⊢
      have en : i = -(((-i - 1).toNat : Nat) : Int) - 1 := by omega
      have hr := num_none hn hl (p := p) (d := d) (s := some (.int a)) (kk := some (.int 2)) (m := none) (head_at hd).2 (h2 hi)
      rw [List.length_cons, show a + ((dg (-i - 1).toNat).length + 1) = a + 1 + (dg (-i - 1).toNat).length by omega]
      refine run (.int i) _ p (some (.int 2)) none (start 2 _ hd (by decide) _ _ _ rfl ?_)
      refine (seq_nx (ρ1 := vE C os (a + 1) p d (some (.int a)) (some (.int 2)) none) rfl).trans ?_
      refine (seq_nx (ρ1 := vE C os (a + 1) p d (some (.int a)) (some (.int 2)) none) rfl).trans ?_
      refine seq_rt ((ifs_t (ρ1 := vE C os (a + 1) p d (some (.int a)) (some (.int 2)) none) rfl).trans (ret_of ?_))
      have hu : mUn pNeg (mMeth C "number" t.Reader_number 0 (mACons (mK .non) mANil)) (vE C os (a + 1) p d (some (.int a)) (some (.int 2)) none) = .ok (.val (.int (-(((-i - 1).toNat : Nat) : Int))), vE C os (a + 1 + (dg (-i - 1).toNat).length) p d (some (.int a)) (some (.int 2)) none) := by
        unfold mUn mOp
        rw [hr]
        rfl
      refine (bin_val (b := .int 1) hu rfl rfl).trans ?_
      rw [← en]
  | str x =>
    unfold okV at ok
    rw [Bool.and_eq_true] at ok
    have hlx := of_decide_eq_true ok.1
    have ee : enc (.str x) = 3 :: (dg x.length ++ x.cps.toList.map fun (c : Nat) => (c : Int)) := rfl
    rw [ee] at hd ⊢
    have hlen : (x.cps.toList.map fun (c : Nat) => (c : Int)).length = x.length := by simp [Str.length]
    rw [List.cons_append, List.append_assoc] at hd
    have h2 := (head_at hd).2
    have hr := hs os rest (a + 1) p x hl h2 hlx ok.2
    rw [List.length_cons, List.length_append, hlen, show a + ((dg x.length).length + x.length + 1) = a + 1 + (dg x.length).length + x.length by omega]
    refine run (.str x) _ p (some (.int 3)) none (start 3 _ hd (by decide) _ _ _ rfl ?_)
    refine (seq_nx (ρ1 := vE C os (a + 1) p d (some (.int a)) (some (.int 3)) none) rfl).trans ?_
    refine (seq_nx (ρ1 := vE C os (a + 1) p d (some (.int a)) (some (.int 3)) none) rfl).trans ?_
    refine (seq_nx (ρ1 := vE C os (a + 1) p d (some (.int a)) (some (.int 3)) none) rfl).trans ?_
    refine seq_rt ((ifs_t (ρ1 := vE C os (a + 1) p d (some (.int a)) (some (.int 3)) none) rfl).trans (ret_of ?_))
    exact meth_of (ps := []) hold0 (by decide) rfl hr
  | tup xs =>
    cases n with
    | zero => unfold okV at ok; cases ok
    | succ n =>
      unfold okV at ok
      rw [Bool.and_eq_true] at ok
      have hlx := of_decide_eq_true ok.1
      have ee : enc (.tup xs) = 4 :: (dg xs.length ++ encs xs) := rfl
      have ec : cnt (.tup xs) = 1 + cnts xs := rfl
      have cl := cnts_len xs
      rw [ec] at hp
      rw [ee] at hd ⊢
      rw [List.cons_append, List.append_assoc] at hd
      have h2 := (head_at hd).2
      have h3 : os.drop (a + 1 + (dg xs.length).length) = encs xs ++ rest := by
        rw [← List.drop_drop, h2, List.drop_left]
      have hd60 : ¬ (d : Int) = 60 := by omega
      have e60 : pEq (.int (d : Int)) (.int 60) = some (.val (.bl false)) := by simp [pEq, cmpOk, eqP, hd60]
      rw [List.length_cons, List.length_append, ec, show a + ((dg xs.length).length + (encs xs).length + 1) = a + 1 + (dg xs.length).length + (encs xs).length by omega]
      refine run (.tup xs) _ (p + (1 + cnts xs) - 1) (some (.int 4)) (some (.int xs.length)) (start 4 _ hd (by decide) _ _ _ rfl ?_)
      refine (seq_nx (ρ1 := vE C os (a + 1) p d (some (.int a)) (some (.int 4)) none) rfl).trans ?_
      refine (seq_nx (ρ1 := vE C os (a + 1) p d (some (.int a)) (some (.int 4)) none) rfl).trans ?_
      refine (seq_nx (ρ1 := vE C os (a + 1) p d (some (.int a)) (some (.int 4)) none) rfl).trans ?_
      refine (seq_nx (ρ1 := vE C os (a + 1) p d (some (.int a)) (some (.int 4)) none) rfl).trans ?_
      refine (seq_nx (ρ1 := vE C os (a + 1) p d (some (.int a)) (some (.int 4)) none) ((ifs_f (test_of (bin_val (a := .int (d : Int)) (b := .int 60) (ρ1 := vE C os (a + 1) p d (some (.int a)) (some (.int 4)) none) rfl rfl e60))).trans rfl)).trans ?_
      have fp : mFld C 0 "parts" (vE C os (a + 1) p d (some (.int a)) (some (.int 4)) none) = .ok (.val (.int p), vE C os (a + 1) p d (some (.int a)) (some (.int 4)) none) := fld_of hold0 (look_pa _ _ _)
      have fs : mBin pSub (mK (.int 500000)) (mFld C 0 "parts") (vE C os (a + 1) p d (some (.int a)) (some (.int 4)) none) = .ok (.val (.int (500000 - (p : Int))), vE C os (a + 1) p d (some (.int a)) (some (.int 4)) none) := bin_val (a := .int 500000) (b := .int p) rfl fp rfl
      have fm : mApp fMin2 (mACons (mK (.int 50000)) (mACons (mBin pSub (mK (.int 500000)) (mFld C 0 "parts")) mANil)) (vE C os (a + 1) p d (some (.int a)) (some (.int 4)) none) = .ok (.val (.int (if 500000 - (p : Int) < 50000 then 500000 - (p : Int) else 50000)), vE C os (a + 1) p d (some (.int a)) (some (.int 4)) none) := by
        unfold mApp
        rw [args_cons (p := .int 50000) (ρ1 := vE C os (a + 1) p d (some (.int a)) (some (.int 4)) none) rfl (args_cons fs args_nil)]
        rfl
      have hq : Most (.int (if 500000 - (p : Int) < 50000 then 500000 - (p : Int) else 50000)) xs.length := by
        refine .inr ⟨_, rfl, ?_⟩
        split <;> omega
      have hr := hn os (encs xs ++ rest) (a + 1) xs.length p _ hl h2 (by have := small950; omega) hq
      refine (seq_nx (ρ1 := vE C os (a + 1 + (dg xs.length).length) p d (some (.int a)) (some (.int 4)) (some (.int xs.length))) (asg_of (meth_of (ps := [_]) hold0 (by decide) (args_cons fm args_nil) hr) rfl)).trans ?_
      refine (seq_nx (ρ1 := vE C os (a + 1 + (dg xs.length).length) (p + xs.length) d (some (.int a)) (some (.int 4)) (some (.int xs.length))) ?_).trans ?_
      · exact (augf_of hold0 (look_pa _ _ _) rfl (v := .int ((p + xs.length : Nat) : Int)) (b := .int xs.length) (iop_eval rfl) (by decide)).trans rfl
      · obtain ⟨r1, r2⟩ := rng_any xs.length (by omega) (vE C os (a + 1 + (dg xs.length).length) (p + xs.length) d (some (.int a)) (some (.int 4)) (some (.int xs.length))) 4 rfl
        have l := val_lc (C := C) (t := t) hl d (some (.int a)) (some (.int 4)) (some (.int xs.length)) xs (rangeOf 0 xs.length) (a + 1 + (dg xs.length).length) (p + xs.length) rest r2 (hx xs rfl) h3 (by omega)
        have lc := mlc_of (vs := [5]) r1 (by rw [r2]; omega) (show lcM [5] (mgNm 5) mYes _ (rangeOf 0 xs.length) (wipeE (vE C os (a + 1 + (dg xs.length).length) (p + xs.length) d (some (.int a)) (some (.int 4)) (some (.int xs.length))) [5]) = _ from l)
        refine ret_of ((app1n lc rfl).trans ?_)
        rw [show p + xs.length + cnts xs - xs.length = p + (1 + cnts xs) - 1 by omega]
        rfl
  | _ => unfold okV at ok; cases ok
end K80

set_option Elab.async false
set_option linter.all false
set_option maxRecDepth 100000
set_option exponentiation.threshold 100000
namespace K80
open PySem Pu
variable {C : Addr} {t : Tb}
/-! ### octets -/
def oct (i : Int) : Bool := decide (0 ≤ i) && decide (i ≤ 255)
theorem dg_oct : ∀ k : Nat, (dg k).all oct = true := by
  intro k
  induction k using Nat.strongRecOn with
  | _ k ih =>
    by_cases hk : 127 < k
    · rw [dg_big hk, List.all_cons, ih (k / 128) (by omega), Bool.and_true]
      unfold oct
      rw [Bool.and_eq_true]
      exact ⟨decide_eq_true (by omega), decide_eq_true (by omega)⟩
    · rw [dg_small hk]
      simp [oct]
      omega
mutual
theorem enc_oct : ∀ (n : Nat) (v : PV), okV n v = true → (enc v).all oct = true
  | n, .non, _ => rfl
  | n, .bl b, _ => by cases b <;> rfl
  | n, .int i, _ => by
    unfold enc
    split
    · rw [List.all_cons, dg_oct]
      rfl
    · rw [List.all_cons, dg_oct]
      rfl
  | n, .str x, ok => by
    unfold okV at ok
    rw [Bool.and_eq_true] at ok
    unfold enc
    rw [List.all_cons, List.all_append, dg_oct, List.all_map]
    have : (x.cps.toList.all (oct ∘ fun (c : Nat) => (c : Int))) = true := by
      rw [List.all_eq_true]
      intro c hc
      have h := List.all_eq_true.mp ok.2 c hc
      have := sign_range h
      simp [oct]
      omega
    rw [this]
    rfl
  | n + 1, .tup xs, ok => by
    unfold okV at ok
    rw [Bool.and_eq_true] at ok
    unfold enc
    rw [List.all_cons, List.all_append, dg_oct, encs_oct n xs ok.2]
    rfl
  | 0, .tup xs, ok => by unfold okV at ok; cases ok
  | n, .ty _, ok => by unfold okV at ok; cases ok
  | n, .lst _, ok => by unfold okV at ok; cases ok
  | n, .dT _ _, ok => by unfold okV at ok; cases ok
  | n, .dK _ _, ok => by unfold okV at ok; cases ok
  | n, .ob _ _ _, ok => by unfold okV at ok; cases ok
  | n, .scr _, ok => by unfold okV at ok; cases ok
theorem encs_oct : ∀ (n : Nat) (v : List PV), okVs n v = true → (encs v).all oct = true
  | n, [], _ => rfl
  | n, x :: xs, ok => by
    unfold okVs at ok
    rw [Bool.and_eq_true] at ok
    unfold encs
    rw [List.all_append, enc_oct n x ok.1, encs_oct n xs ok.2]
    rfl
end
theorem are_octets_ok {os : List Int} (hz : os.length ≤ 16777216) (ho : os.all oct = true) : (stepT C t).are_octets [.val (.tup (os.map PV.int))] = .ok (.val (.bl true), [none]) := by
  have e0 : (stepT C t).are_octets = runF 2 (b_are_octets C t) := rfl
  rw [e0]
  refine run_rt (r := .val (.bl true)) (ρ1 := [some (.val (.tup (os.map PV.int))), none]) [some (.val (.tup (os.map PV.int))), none] rfl ?_ rfl
  refine (seq_nx (ρ1 := [some (.val (.tup (os.map PV.int))), none]) (by simp [Res.bind, mSeq, mNx, mRet, mRetNm, mRetN, mIfS, mNever, mAsg, setR, setV, setO, isPar, mAug, mDrop, mAppend, mExtend, ownL?, ownO, setC, RV.lst?, mSrc, itemsOf, mOp, RV.fz, OB.pv, mBor, mNm, mK, mNew, mBin, mUn, deref, liftO, mANil, mACons, mApp, derefs, vals?, RV.val?, small, mTup, mLst, mCall, lone, avsOf, avOf, backs, findArg, back1, RV.bor?, mTest, RV.bl?, mTruth, truth, mTNot, mTAnd, mTOr, mAndV, mOrV, mNotV, mIf, mChain, mgNm, mAsgT, mgTup, mgCons, mgNil, iop, pAdd, pSub, pMul, pDiv, pMod, pNeg, pLt, pLe, pGt, pGe, pEq, pNe, pAddI, pMulS, pIs, pIsNot, isP, pIn, pNotIn, inP, flatP, cmpOk, cmpOks, eqP, eqPs, pIx, fLen, fAbs, fInt, fMin2, fMax2, fOrd, fList, fTuple, fIsi, tyName, AV.slot, runF, Res.nox, RV.out, outsOf, SV.lent, range1e, range2e, range3e, range4e, isi_NoneType_int, isi_NoneType_bool, isi_NoneType_str, isi_NoneType_tuple, isi_NoneType_list, isi_bool_int, isi_bool_bool, isi_bool_str, isi_bool_tuple, isi_bool_list, isi_int_int, isi_int_bool, isi_int_str, isi_int_tuple, isi_int_list, isi_str_int, isi_str_bool, isi_str_str, isi_str_tuple, isi_str_list, isi_tuple_int, isi_tuple_bool, isi_tuple_str, isi_tuple_tuple, isi_tuple_list, isi_list_int, isi_list_bool, isi_list_str, isi_list_tuple, isi_list_list, isi_dict_int, isi_dict_bool, isi_dict_str, isi_dict_tuple, isi_dict_list])).trans ?_
  refine ret_of ?_
  have key : ∀ l : List Int, l.all oct = true → lcM [1] (mgNm 1) mYes (mAndV (mApp fIsi (mACons (mBor 1) (mACons (mK (.ty "int")) mANil))) (mAndV (mNotV (mApp fIsi (mACons (mBor 1) (mACons (mK (.ty "bool")) mANil)))) (mChain pLe pLe (mK (.int 0)) (mBor 1) (mK (.int 255))))) (l.map PV.int) [some (.val (.tup (os.map PV.int))), none] = .ok (List.replicate l.length (.bl true), [some (.val (.tup (os.map PV.int))), none]) := by
    intro l
    induction l with
    | nil => intro _; rfl
    | cons c l ih =>
      intro hl
      rw [List.all_cons, Bool.and_eq_true] at hl
      unfold oct at hl
      rw [Bool.and_eq_true] at hl
      have h1 := of_decide_eq_true hl.1.1
      have h2 := of_decide_eq_true hl.1.2
      rw [List.map_cons, lc_cons (ρ1 := [some (.val (.tup (os.map PV.int))), some (.val (.int c))]) (ρ2 := [some (.val (.tup (os.map PV.int))), some (.val (.int c))]) (ρ3 := [some (.val (.tup (os.map PV.int))), some (.val (.int c))]) (y := .bl true) rfl rfl (by simp [Res.bind, mSeq, mNx, mRet, mRetNm, mRetN, mIfS, mNever, mAsg, setR, setV, setO, isPar, mAug, mDrop, mAppend, mExtend, ownL?, ownO, setC, RV.lst?, mSrc, itemsOf, mOp, RV.fz, OB.pv, mBor, mNm, mK, mNew, mBin, mUn, deref, liftO, mANil, mACons, mApp, derefs, vals?, RV.val?, small, mTup, mLst, mCall, lone, avsOf, avOf, backs, findArg, back1, RV.bor?, mTest, RV.bl?, mTruth, truth, mTNot, mTAnd, mTOr, mAndV, mOrV, mNotV, mIf, mChain, mgNm, mAsgT, mgTup, mgCons, mgNil, iop, pAdd, pSub, pMul, pDiv, pMod, pNeg, pLt, pLe, pGt, pGe, pEq, pNe, pAddI, pMulS, pIs, pIsNot, isP, pIn, pNotIn, inP, flatP, cmpOk, cmpOks, eqP, eqPs, pIx, fLen, fAbs, fInt, fMin2, fMax2, fOrd, fList, fTuple, fIsi, tyName, AV.slot, runF, Res.nox, RV.out, outsOf, SV.lent, range1e, range2e, range3e, range4e, isi_NoneType_int, isi_NoneType_bool, isi_NoneType_str, isi_NoneType_tuple, isi_NoneType_list, isi_bool_int, isi_bool_bool, isi_bool_str, isi_bool_tuple, isi_bool_list, isi_int_int, isi_int_bool, isi_int_str, isi_int_tuple, isi_int_list, isi_str_int, isi_str_bool, isi_str_str, isi_str_tuple, isi_str_list, isi_tuple_int, isi_tuple_bool, isi_tuple_str, isi_tuple_tuple, isi_tuple_list, isi_list_int, isi_list_bool, isi_list_str, isi_list_tuple, isi_list_list, isi_dict_int, isi_dict_bool, isi_dict_str, isi_dict_tuple, isi_dict_list, h1, h2])]
      have e2 : wipeE [some (.val (.tup (os.map PV.int))), some (.val (.int c))] [1] = [some (.val (.tup (os.map PV.int))), none] := rfl
      rw [e2, ih hl.2]
      rfl
  have lc := mlc_of (vs := [1]) (mi := mSrc (mNm 0)) (xs := os.map PV.int) (ρ := [some (.val (.tup (os.map PV.int))), none]) (ρ1 := [some (.val (.tup (os.map PV.int))), none]) rfl (by rw [List.length_map]; exact hz) (key os ho)
  refine (app1n (r := .val (.bl true)) lc ?_).trans rfl
  show (blsOf (List.replicate os.length (.bl true))).map _ = _
  rw [bls_true]
  simp
def OctOk (g : G) : Prop := ∀ os : List Int, os.length ≤ 16777216 → os.all oct = true → g [.val (.tup (os.map PV.int))] = .ok (.val (.bl true), [none])
theorem init_ok (os : List Int) : g_Reader___init__ C [.own (.ob C [] []), .val (.tup (os.map PV.int))] = .ok (.val .non, [some (Rd C os 0 1), none]) := by
  refine run_nx (ρ1 := [some (.par (Rd C os 0 1)), some (.val (.tup (os.map PV.int)))]) [some (.par (.ob C [] [])), some (.val (.tup (os.map PV.int)))] rfl ?_
  refine (seq_nx (ρ1 := [some (.par (.ob C ["octets"] [.tup (os.map PV.int)])), some (.val (.tup (os.map PV.int)))]) (putf_of (w := SV.par) (ns := []) (xs := []) (ρ1 := [some (.par (.ob C [] [])), some (.val (.tup (os.map PV.int)))]) ⟨rfl, .inl rfl⟩ rfl (by decide))).trans ?_
  refine (seq_nx (ρ1 := [some (.par (.ob C ["octets", "at"] [.tup (os.map PV.int), .int 0])), some (.val (.tup (os.map PV.int)))]) (putf_of (w := SV.par) (ns := ["octets"]) (xs := [.tup (os.map PV.int)]) (ρ1 := [some (.par (.ob C ["octets"] [.tup (os.map PV.int)])), some (.val (.tup (os.map PV.int)))]) ⟨rfl, .inl rfl⟩ rfl (by decide))).trans ?_
  exact putf_of (w := SV.par) (ns := ["octets", "at"]) (xs := [.tup (os.map PV.int), .int 0]) (ρ1 := [some (.par (.ob C ["octets", "at"] [.tup (os.map PV.int), .int 0])), some (.val (.tup (os.map PV.int)))]) ⟨rfl, .inl rfl⟩ rfl (by decide)
theorem make_of {ma : MA} {g : G} {ρ : Pu.Env} {as : List PV} {o : OB} {outs : List (Option OB)} (h : ma ρ = .ok (as.map RV.val, ρ)) (hg : g (.own (.ob C [] []) :: as.map AV.val) = .ok (.val .non, some o :: outs)) : mMake C g ma ρ = .ok (.new o, ρ) := by
  have e : ∀ as : List PV, vals? (as.map RV.val) = some as := by
    intro as
    induction as with
    | nil => rfl
    | cons a as ih =>
      show (some a).bind _ = _
      rw [Option.bind_some, ih]
      rfl
  unfold mMake
  rw [h, Res.bind_ok]
  dsimp only
  rw [e, liftO_some, Res.bind_ok, hg]
  rfl
theorem read_octets_ok (ho : OctOk t.are_octets) {v : PV} {n : Nat} (ok : okV n v = true) (hv : ValAt C t.Reader_value 0 v) (hz : (enc v).length < 16777216) (hc : cnt v ≤ 500000) :
    (stepT C t).read_octets [.val (.tup ((enc v).map PV.int))] = .ok (.val v, [none]) := by
  have h1 := ho (enc v) (by omega) (enc_oct n v ok)
  have h2 := hv (enc v) [] 0 1 hz (by simp) (by omega)
  rw [Nat.zero_add] at h2
  have e0 : (stepT C t).read_octets = runF 3 (b_read_octets C t) := rfl
  rw [e0]
  refine (run_rt (r := .val v) (ρ1 := [some (.val (.tup ((enc v).map PV.int))), some (.own (Rd C (enc v) (enc v).length (1 + cnt v - 1))), some (.val v)]) [some (.val (.tup ((enc v).map PV.int))), none, none] rfl ?_ rfl)
  refine (seq_nx (ρ1 := [some (.val (.tup ((enc v).map PV.int))), none, none]) ((ifs_f (ρ1 := [some (.val (.tup ((enc v).map PV.int))), none, none]) (tnot_of (truth_of' (call1 (p := .tup ((enc v).map PV.int)) rfl h1) rfl))).trans rfl)).trans ?_
  refine (seq_nx (ρ1 := [some (.val (.tup ((enc v).map PV.int))), some (.own (Rd C (enc v) 0 1)), none]) (asg_of (make_of (as := [.tup ((enc v).map PV.int)]) rfl (init_ok (enc v))) rfl)).trans ?_
  have h3 : Hold [some (.val (.tup ((enc v).map PV.int))), some (.own (Rd C (enc v) 0 1)), none] 1 SV.own (Rd C (enc v) 0 1) := ⟨rfl, .inr rfl⟩
  refine (seq_nx (ρ1 := [some (.val (.tup ((enc v).map PV.int))), some (.own (Rd C (enc v) (enc v).length (1 + cnt v - 1))), some (.val v)]) (asg_of (meth_of (ps := [.int 0]) h3 (by decide) rfl h2) rfl)).trans ?_
  have h4 : Hold [some (.val (.tup ((enc v).map PV.int))), some (.own (Rd C (enc v) (enc v).length (1 + cnt v - 1))), some (.val v)] 1 SV.own (Rd C (enc v) (enc v).length (1 + cnt v - 1)) := ⟨rfl, .inr rfl⟩
  refine (seq_nx (ρ1 := [some (.val (.tup ((enc v).map PV.int))), some (.own (Rd C (enc v) (enc v).length (1 + cnt v - 1))), some (.val v)]) ((ifs_f (ρ1 := [some (.val (.tup ((enc v).map PV.int))), some (.own (Rd C (enc v) (enc v).length (1 + cnt v - 1))), some (.val v)]) (test_of (bin_val (fld_of h4 (look_at _ _ _)) (app1 (a := .tup ((enc v).map PV.int)) (r := .val (.int (enc v).length)) rfl (by simp [fLen])) ?_))).trans rfl)).trans ?_
  · show some (RV.val (PV.bl (decide (((enc v).length : Int) < ((enc v).length : Int))))) = _
    rw [decide_eq_false (by omega)]
  · rfl
/-! ### by levels -/
theorem oct_T (n : Nat) : OctOk (T C (n + 1)).are_octets := fun os h1 h2 => are_octets_ok h1 h2
theorem rd_T (n : Nat) : RdOk (T C (n + 1)).read_digits := fun os rest a k q h1 h2 h3 h4 => read_digits_ok h1 h2 h3 h4
theorem num_T (n : Nat) : NumOk C (T C (n + 2)).Reader_number := fun os rest a k p q h1 h2 h3 h4 => number_ok (rd_T n) h1 h2 h3 h4
theorem beg_T (n : Nat) : BegOk C (T C (n + 1)).Reader_begin := fun os a p i h1 h2 => begin_ok h1 h2
theorem sgn_T (n : Nat) : SgnOk (T C (n + 1)).sign_of := fun c h => by
  refine run_rt (r := .val (.str ⟨#[c]⟩)) (ρ1 := [some (.val (.int (c : Int)))]) [some (.val (.int (c : Int)))] rfl (ret_of ?_) rfl
  have e0 : mOp (mNm 0) [some (.val (.int (c : Int)))] = .ok (.val (.int (c : Int)), [some (.val (.int (c : Int)))]) := rfl
  unfold mAsc
  rw [e0, Res.bind_ok]
  show (liftO (some (c : Int))).bind _ = _
  rw [liftO_some, Res.bind_ok, if_pos ⟨by omega, by omega⟩]
  rfl
theorem str_T (n : Nat) : StrOk C (T C (n + 3)).Reader_string := fun os rest a p x h1 h2 h3 h4 => string_ok (num_T n) (sign_T (n + 1)) (sgn_T (n + 1)) h1 h2 h3 h4
theorem val_T : ∀ (n j d : Nat) (v : PV), okV n v = true → n + d = 60 → ValAt C (T C (n + j + 4)).Reader_value d v
  | 0, j, d, v, ok, h => value_step (beg_T _) (num_T (0 + j + 1)) (str_T (0 + j)) 0 d v ok h fun xs e => by subst e; unfold okV at ok; cases ok
  | n + 1, j, d, v, ok, h => by
    have e : n + 1 + j + 4 = (n + j + 4) + 1 := by omega
    rw [e]
    refine value_step (beg_T _) (num_T (n + j + 2)) (str_T (n + j + 1)) (n + 1) d v ok h fun xs e x hx => ?_
    subst e
    unfold okV at ok
    rw [Bool.and_eq_true] at ok
    exact val_T n j (d + 1) x (okVs_mem ok.2 x hx) (by omega)
theorem read_T (j : Nat) (v : PV) (ok : okV 60 v = true) (hz : (enc v).length < 16777216) (hc : cnt v ≤ 500000) : (T C (j + 65)).read_octets [.val (.tup ((enc v).map PV.int))] = .ok (.val v, [none]) := by
  have h := val_T (C := C) 60 j 0 v ok rfl
  rw [show 60 + j + 4 = j + 64 by omega] at h
  exact read_octets_ok (oct_T _) ok h hz hc
/-- no two values have the same octets -/
theorem enc_inj {v w : PV} (ok : okV 60 v = true) (hz : (enc v).length < 16777216) (hc : cnt v ≤ 500000) (ok2 : okV 60 w = true) (hz2 : (enc w).length < 16777216) (hc2 : cnt w ≤ 500000) (h : enc v = enc w) : v = w := by
  have h1 := read_T (C := 0) 0 v ok hz hc
  have h2 := read_T (C := 0) 0 w ok2 hz2 hc2
  rw [h] at h1
  rw [h1] at h2
  injection h2 with h3
  injection h3 with h4
  injection h4
end K80

set_option Elab.async false
set_option linter.all false
set_option maxRecDepth 100000
set_option exponentiation.threshold 100000
namespace K80
open PySem Pu
variable {C : Addr} {t : Tb}
theorem app2 {g : List PV → Option RV} {m1 m2 : M} {ρ ρ1 ρ2 : Pu.Env} {a b : PV} {r : RV} (h1 : m1 ρ = .ok (.val a, ρ1)) (h2 : m2 ρ1 = .ok (.val b, ρ2)) (hg : g [a, b] = some r) : mApp g (mACons m1 (mACons m2 mANil)) ρ = .ok (r, ρ2) := by
  unfold mApp
  rw [args_cons h1 (args_cons h2 args_nil)]
  simp [derefs, deref, liftO, Res.bind, hg]
theorem rng1_of {m : M} {ρ ρ1 : Pu.Env} {n : Nat} (h : m ρ = .ok (.val (.int (n : Int)), ρ1)) (hn : n < 1000000000) : mRng rng1 (mACons m mANil) ρ = .ok (rangeOf 0 n, ρ1) := by
  have e2 := args_cons h (args_nil (ρ := ρ1))
  unfold mRng
  rw [e2, Res.bind_ok]
  show (liftO (some [PV.int (n : Int)])).bind _ = _
  rw [liftO_some, Res.bind_ok]
  show (liftO (if b62 n then some (rangeOf 0 n) else none)).bind _ = _
  have hb : b62 (n : Int) = true := by
    unfold b62
    rw [Bool.and_eq_true]
    exact ⟨decide_eq_true (by omega), decide_eq_true (by omega)⟩
  rw [hb]
  rfl
/-! ### the first that is unlike -/
abbrev fE (o1 o2 : List Int) (s : Option PV) : Pu.Env := [some (.val (.tup (o1.map PV.int))), some (.val (.tup (o2.map PV.int))), s.map SV.val]
abbrev bFU : MS := mIfS (mTest (mBin pNe (mBin pIx (mBor 0) (mBor 2)) (mBin pIx (mBor 1) (mBor 2)))) (mRetNm 2) mNx
theorem fu_step {o1 o2 : List Int} {i : Nat} {a b : Int} (h1 : o1[i]? = some a) (h2 : o2[i]? = some b) : bFU (fE o1 o2 (some (.int i))) = if a = b then .ok (.nx, fE o1 o2 (some (.int i))) else .ok (.rt (.val (.int i)), fE o1 o2 (some (.int i))) := by
  have e1 : mBin pIx (mBor 0) (mBor 2) (fE o1 o2 (some (.int i))) = .ok (.val (.int a), fE o1 o2 (some (.int i))) := bin_val rfl rfl (at_ok h1)
  have e2 : mBin pIx (mBor 1) (mBor 2) (fE o1 o2 (some (.int i))) = .ok (.val (.int b), fE o1 o2 (some (.int i))) := bin_val rfl rfl (at_ok h2)
  by_cases h : a = b
  · rw [if_pos h]
    exact (ifs_f (test_of (bin_val e1 e2 (by simp [pNe, cmpOk, eqP, h])))).trans rfl
  · rw [if_neg h]
    exact (ifs_t (test_of (bin_val e1 e2 (by simp [pNe, cmpOk, eqP, h])))).trans rfl
theorem fu_loop {o1 o2 : List Int} : ∀ (k i : Nat) (s : Option PV), i + k ≤ o1.length → i + k ≤ o2.length →
    (∃ j, i ≤ j ∧ j < i + k ∧ o1[j]? ≠ o2[j]? ∧ (∀ l, i ≤ l → l < j → o1[l]? = o2[l]?) ∧ Pu.forM (mgNm 2) bFU ((List.range' i k).map fun (j : Nat) => PV.int j) (fE o1 o2 s) = .ok (.rt (.val (.int j)), fE o1 o2 (some (.int j)))) ∨
    ((∀ l, i ≤ l → l < i + k → o1[l]? = o2[l]?) ∧ ∃ s', Pu.forM (mgNm 2) bFU ((List.range' i k).map fun (j : Nat) => PV.int j) (fE o1 o2 s) = .ok (.nx, fE o1 o2 s'))
  | 0, i, s, _, _ => .inr ⟨fun l h1 h2 => by omega, s, rfl⟩
  | k + 1, i, s, h1, h2 => by
    have g : mgNm 2 (.int i) (fE o1 o2 s) = some (fE o1 o2 (some (.int i))) := by cases s <;> rfl
    have a1 : o1[i]? = some o1[i] := List.getElem?_eq_getElem (by omega)
    have a2 : o2[i]? = some o2[i] := List.getElem?_eq_getElem (by omega)
    have st := fu_step a1 a2
    rw [List.range'_succ, List.map_cons]
    by_cases h : o1[i] = o2[i]
    · rw [if_pos h] at st
      rw [for_cons g st]
      rcases fu_loop (o1 := o1) (o2 := o2) k (i + 1) (some (.int i)) (by omega) (by omega) with ⟨j, b1, b2, b3, b4, b5⟩ | ⟨b1, b2⟩
      · refine .inl ⟨j, by omega, by omega, b3, fun l c1 c2 => ?_, b5⟩
        by_cases e : l = i
        · subst e; rw [a1, a2, h]
        · exact b4 l (by omega) c2
      · refine .inr ⟨fun l c1 c2 => ?_, b2⟩
        by_cases e : l = i
        · subst e; rw [a1, a2, h]
        · exact b1 l (by omega) (by omega)
    · rw [if_neg h] at st
      refine .inl ⟨i, Nat.le_refl _, by omega, by rw [a1, a2]; exact fun z => h (Option.some.inj z), fun l c1 c2 => by omega, for_rt g st⟩
theorem rangeOf_nat (m : Nat) : rangeOf 0 m = (List.range' 0 m).map fun (j : Nat) => PV.int j := by
  unfold rangeOf
  rw [← List.range_eq_range']
  simp
/-- what first_unlike says -/
def Unlike (o1 o2 : List Int) (r : PV) : Prop := (r = .non ∧ o1 = o2) ∨ ∃ j : Nat, r = .int j ∧ j ≤ o1.length ∧ j ≤ o2.length ∧ o1.take j = o2.take j ∧ (j < o1.length → j < o2.length → o1[j]? ≠ o2[j]?) ∧ o1 ≠ o2
theorem take_eq {o1 o2 : List Int} {j : Nat} (h1 : j ≤ o1.length) (h2 : j ≤ o2.length) (h : ∀ l, l < j → o1[l]? = o2[l]?) : o1.take j = o2.take j := by
  apply List.ext_getElem?
  intro i
  rw [List.getElem?_take, List.getElem?_take]
  split
  · exact h i (by assumption)
  · rfl
theorem first_unlike_ok (ho : OctOk t.are_octets) {o1 o2 : List Int} (l1 : o1.length ≤ 16777216) (l2 : o2.length ≤ 16777216) (c1 : o1.all oct = true) (c2 : o2.all oct = true) :
    ∃ r, (stepT C t).first_unlike [.val (.tup (o1.map PV.int)), .val (.tup (o2.map PV.int))] = .ok (.val r, [none, none]) ∧ Unlike o1 o2 r := by
  have e0 : (stepT C t).first_unlike = runF 3 (b_first_unlike C t) := rfl
  rw [e0]
  have h1 := ho o1 l1 c1
  have h2 := ho o2 l2 c2
  have m1 : mApp fLen (mACons (mBor 0) mANil) (fE o1 o2 none) = .ok (.val (.int o1.length), fE o1 o2 none) := app1 (a := .tup (o1.map PV.int)) rfl (by simp [fLen])
  have start : ∀ b : MS, mSeq (mIfS (mTOr (mTNot (mTruth (mCall t.are_octets (mACons (mNm 0) mANil)))) (mTNot (mTruth (mCall t.are_octets (mACons (mNm 1) mANil))))) mNever mNx) b (fE o1 o2 none) = b (fE o1 o2 none) := fun b =>
    seq_nx ((ifs_f (ρ1 := fE o1 o2 none) ((tor_f (tnot_of (truth_of' (call1 (p := .tup (o1.map PV.int)) rfl h1) rfl))).trans (tnot_of (truth_of' (call1 (p := .tup (o2.map PV.int)) rfl h2) rfl)))).trans rfl)
  have mn : ∀ s, mApp fMin2 (mACons (mApp fLen (mACons (mBor 0) mANil)) (mACons (mApp fLen (mACons (mBor 1) mANil)) mANil)) (fE o1 o2 s) = .ok (.val (.int (min o1.length o2.length : Nat)), fE o1 o2 s) := fun s => by
    have f1 : mApp fLen (mACons (mBor 0) mANil) (fE o1 o2 s) = .ok (.val (.int o1.length), fE o1 o2 s) := app1 (a := .tup (o1.map PV.int)) rfl (by simp [fLen])
    have f2 : mApp fLen (mACons (mBor 1) mANil) (fE o1 o2 s) = .ok (.val (.int o2.length), fE o1 o2 s) := app1 (a := .tup (o2.map PV.int)) rfl (by simp [fLen])
    have : (if (o2.length : Int) < (o1.length : Int) then (o2.length : Int) else (o1.length : Int)) = ((min o1.length o2.length : Nat) : Int) := by
      split <;> omega
    exact app2 f1 f2 (by unfold fMin2; dsimp only; rw [this])
  have rg : mRng rng1 (mACons (mApp fMin2 (mACons (mApp fLen (mACons (mBor 0) mANil)) (mACons (mApp fLen (mACons (mBor 1) mANil)) mANil))) mANil) (fE o1 o2 none) = .ok ((List.range' 0 (min o1.length o2.length)).map fun (j : Nat) => PV.int j, fE o1 o2 none) := by
    rw [← rangeOf_nat]
    exact rng1_of (mn none) (by omega)
  rcases fu_loop (o1 := o1) (o2 := o2) (min o1.length o2.length) 0 none (by omega) (by omega) with ⟨j, b1, b2, b3, b4, b5⟩ | ⟨b1, s', b2⟩
  · refine ⟨.int j, run_rt (r := .val (.int j)) (ρ1 := fE o1 o2 (some (.int j))) (fE o1 o2 none) rfl ((start _).trans (seq_rt ((mfor_of rg).trans b5))) rfl, .inr ⟨j, rfl, by omega, by omega, take_eq (by omega) (by omega) fun l hl => b4 l (Nat.zero_le _) hl, fun _ _ => b3, fun z => b3 (by rw [z])⟩⟩
  · have f1 : mApp fLen (mACons (mBor 0) mANil) (fE o1 o2 s') = .ok (.val (.int o1.length), fE o1 o2 s') := app1 (a := .tup (o1.map PV.int)) rfl (by simp [fLen])
    have f2 : mApp fLen (mACons (mBor 1) mANil) (fE o1 o2 s') = .ok (.val (.int o2.length), fE o1 o2 s') := app1 (a := .tup (o2.map PV.int)) rfl (by simp [fLen])
    by_cases hl : o1.length = o2.length
    · refine ⟨.non, run_rt (r := .val .non) (ρ1 := fE o1 o2 s') (fE o1 o2 none) rfl ((start _).trans ((seq_nx ((mfor_of rg).trans b2)).trans (ret_of ((mif_t (test_of (bin_val f1 f2 ?_))).trans rfl)))) rfl, .inl ⟨rfl, ?_⟩⟩
      · simp [pEq, cmpOk, eqP, hl]
      · have := take_eq (j := o1.length) (o1 := o1) (o2 := o2) (Nat.le_refl _) (by omega) fun l h => b1 l (Nat.zero_le _) (by omega)
        rw [List.take_length, hl, List.take_length] at this
        exact this
    · have hl' : ¬ (o1.length : Int) = (o2.length : Int) := by omega
      refine ⟨.int (min o1.length o2.length : Nat), run_rt (r := .val (.int (min o1.length o2.length : Nat))) (ρ1 := fE o1 o2 s') (fE o1 o2 none) rfl ((start _).trans ((seq_nx ((mfor_of rg).trans b2)).trans (ret_of ((mif_f (test_of (bin_val f1 f2 ?_))).trans (mn s'))))) rfl, .inr ⟨_, rfl, by omega, by omega, take_eq (by omega) (by omega) fun l h => b1 l (Nat.zero_le _) (by omega), fun h1 h2 => by omega, fun z => hl (by rw [z])⟩⟩
      simp [pEq, cmpOk, eqP, hl']
end K80

set_option Elab.async false
set_option linter.all false
set_option maxRecDepth 100000
set_option exponentiation.threshold 100000
namespace K80
open PySem Pu
variable {C : Addr} {t : Tb}
/-! ### draws -/
abbrev cupO (a b : Int) : OB := .lst [.int a, .int b]
def RollOk (g : G) : Prop := ∀ (a b : Int) (m : Nat), 0 < m → m ≤ 1000000000 → ∃ (r : Nat) (a' b' : Int), r < m ∧ g [.own (cupO a b), .val (.int m)] = .ok (.val (.int r), [some (cupO a' b'), none])
theorem log_small {m : Nat} (h : m ≤ 1000000000) : m.log2 < 9000 := by
  by_cases h0 : m = 0
  · subst h0; decide
  · have : m.log2 ≤ 1000000000 := Nat.le_trans (Nat.log2_le_self m) h
    have h2 : m < 2 ^ 9000 := Nat.lt_of_le_of_lt h (Nat.lt_of_lt_of_le (by decide : 1000000000 < 2 ^ 30) (Nat.pow_le_pow_right (by decide) (by decide)))
    exact (Nat.log2_lt h0).mpr h2
abbrev rE (a b : Int) (m : Nat) (d f : Option PV) : Pu.Env := [some (.par (cupO a b)), some (.val (.int m)), d.map SV.val, f.map SV.val]
theorem ix0 (a b : Int) (m : Nat) (d f : Option PV) : mBin pIx (mBor 0) (mK (.int 0)) (rE a b m d f) = .ok (.val (.int a), rE a b m d f) := rfl
theorem ix1 (a b : Int) (m : Nat) (d f : Option PV) : mBin pIx (mBor 0) (mK (.int 1)) (rE a b m d f) = .ok (.val (.int b), rE a b m d f) := rfl
theorem put0 {mv : M} {a b x : Int} {m : Nat} {d f : Option PV} (h : mv (rE a b m d f) = .ok (.val (.int x), rE a b m d f)) : mPutL 0 mv (mK (.int 0)) (rE a b m d f) = .ok (.nx, rE x b m d f) := by
  have e : mOp mv (rE a b m d f) = .ok (.val (.int x), rE a b m d f) := by unfold mOp; rw [h]; rfl
  unfold mPutL
  rw [e]
  rfl
theorem put1 {mv : M} {a b x : Int} {m : Nat} {d f : Option PV} (h : mv (rE a b m d f) = .ok (.val (.int x), rE a b m d f)) : mPutL 0 mv (mK (.int 1)) (rE a b m d f) = .ok (.nx, rE a x m d f) := by
  have e : mOp mv (rE a b m d f) = .ok (.val (.int x), rE a b m d f) := by unfold mOp; rw [h]; rfl
  unfold mPutL
  rw [e]
  rfl
theorem mod_ok {i j : Int} (h : 0 < j) : pMod (.int i) (.int j) = some (.val (.int (i % j))) := iop_eval (if_pos h)
theorem mul_small2 {i j : Int} (h : smallI j = true) : pMul (.int i) (.int j) = some (.val (.int (i * j))) := by simp [pMul, h]
theorem small_of {i : Int} (h1 : -18446744073709551616 < i) (h2 : i < 18446744073709551616) : smallI i = true := by
  unfold smallI
  rw [Bool.and_eq_true]
  exact ⟨decide_eq_true h1, decide_eq_true h2⟩
theorem roll_ok : RollOk (stepT C t).law_roll := fun a b m h0 hm => by
  have e0 : (stepT C t).law_roll = runF 4 (b_law_roll C t) := rfl
  rw [e0]
  have hm0 : (0 : Int) < (m : Int) := by omega
  have hdiv : ∀ x : Int, pDiv (.int x) (.int m) = some (.val (.int (x / m))) := fun x => div_ok _ _ ⟨hm0, by rw [Int.natAbs_natCast]; exact log_small hm⟩
  by_cases ha : 0 < a
  · have hr : (a % (m : Int)) = ((a % (m : Int)).toNat : Int) := by
      have := Int.emod_nonneg a (show (m : Int) ≠ 0 by omega)
      omega
    have hlt := Int.emod_lt_of_pos a hm0
    refine ⟨(a % (m : Int)).toNat, a / m, b, by omega, ?_⟩
    rw [← hr]
    have g1 : mBin pMod (mApp fInt (mACons (mBin pIx (mBor 0) (mK (.int 0))) mANil)) (mBor 1) (rE a b m none none) = .ok (.val (.int (a % m)), rE a b m none none) := bin_val (app1 (r := .val (.int a)) (ix0 a b m none none) rfl) (b := .int m) rfl (mod_ok hm0)
    have g2 : mBin pDiv (mBin pIx (mBor 0) (mK (.int 0))) (mBor 1) (rE a b m none (some (.int (a % m)))) = .ok (.val (.int (a / m)), rE a b m none (some (.int (a % m)))) := bin_val (ix0 a b m none (some (.int (a % m)))) (b := .int m) rfl (hdiv a)
    refine run_rt (r := .val (.int (a % m))) (ρ1 := rE (a / m) b m none (some (.int (a % m)))) (rE a b m none none) rfl ?_ rfl
    refine seq_rt ((ifs_t (ρ1 := rE a b m none none) (test_of (bin_val (ix0 a b m none none) (b := .int 0) rfl ?_))).trans ?_)
    · show some (RV.val (PV.bl (decide (0 < a)))) = _
      rw [decide_eq_true ha]
    · refine (seq_nx (ρ1 := rE a b m none (some (.int (a % m)))) (asg_of g1 rfl)).trans ?_
      exact (seq_nx (put0 g2)).trans rfl
  · let b' : Int := (b * 30269 + 9173) % 2147483579
    let dp : Int := (b' * (b' + 307)) % 2147483563
    have hb1 : 0 ≤ b' := Int.emod_nonneg _ (by decide)
    have hb2 : b' < 2147483579 := Int.emod_lt_of_pos _ (by decide)
    have hr : (dp / 887 % (m : Int)) = ((dp / 887 % (m : Int)).toNat : Int) := by
      have := Int.emod_nonneg (dp / 887) (show (m : Int) ≠ 0 by omega)
      omega
    have hlt := Int.emod_lt_of_pos (dp / 887) hm0
    refine ⟨(dp / 887 % (m : Int)).toNat, a, b', by omega, ?_⟩
    rw [← hr]
    have g1 : mBin pMod (mApp fInt (mACons (mBin pAdd (mBin pMul (mBin pIx (mBor 0) (mK (.int 1))) (mK (.int 30269))) (mK (.int 9173))) mANil)) (mK (.int 2147483579)) (rE a b m none none) = .ok (.val (.int b'), rE a b m none none) :=
      bin_val (b := .int 2147483579) (app1 (r := .val (.int (b * 30269 + 9173))) (bin_val (b := .int 9173) (bin_val (b := .int 30269) (ix1 a b m none none) rfl (mul_small2 (by decide))) rfl rfl) rfl) rfl (mod_ok (by decide))
    have g2 : mBin pMod (mApp fInt (mACons (mBin pMul (mBin pIx (mBor 0) (mK (.int 1))) (mBin pAdd (mBin pIx (mBor 0) (mK (.int 1))) (mK (.int 307)))) mANil)) (mK (.int 2147483563)) (rE a b' m none none) = .ok (.val (.int dp), rE a b' m none none) :=
      bin_val (b := .int 2147483563) (app1 (r := .val (.int (b' * (b' + 307)))) (bin_val (ix1 a b' m none none) (bin_val (b := .int 307) (ix1 a b' m none none) rfl rfl) (mul_small (small_of (by omega) (by omega)))) rfl) rfl (mod_ok (by decide))
    have g3 : mBin pMod (mApp fInt (mACons (mBin pDiv (mBor 2) (mK (.int 887))) mANil)) (mBor 1) (rE a b' m (some (.int dp)) none) = .ok (.val (.int (dp / 887 % m)), rE a b' m (some (.int dp)) none) :=
      bin_val (b := .int m) (app1 (r := .val (.int (dp / 887))) (bin_val (a := .int dp) (b := .int 887) rfl rfl (div_ok _ _ (by decide))) rfl) rfl (mod_ok hm0)
    refine run_rt (r := .val (.int (dp / 887 % m))) (ρ1 := rE a b' m (some (.int dp)) none) (rE a b m none none) rfl ?_ rfl
    refine (seq_nx (ρ1 := rE a b m none none) ((ifs_f (ρ1 := rE a b m none none) (test_of (bin_val (ix0 a b m none none) (b := .int 0) rfl ?_))).trans rfl)).trans ?_
    · show some (RV.val (PV.bl (decide (0 < a)))) = _
      rw [decide_eq_false ha]
    · refine (seq_nx (put1 g1)).trans ?_
      refine (seq_nx (ρ1 := rE a b' m (some (.int dp)) none) (asg_of g2 rfl)).trans ?_
      exact ret_of g3
def SomeOk (g : G) : Prop := ∀ (a b : Int) (ys : List PV), 0 < ys.length → ys.length ≤ 1000000 → ∃ (y : PV) (a' b' : Int), y ∈ ys ∧ g [.own (cupO a b), .val (.lst ys)] = .ok (.val y, [some (cupO a' b'), none])
theorem some_ok (hr : RollOk t.law_roll) : SomeOk (stepT C t).law_some := fun a b ys h0 hm => by
  obtain ⟨r, a', b', hlt, e⟩ := hr a b ys.length h0 (by omega)
  have hg : ys[r]? = some ys[r] := List.getElem?_eq_getElem hlt
  refine ⟨ys[r], a', b', List.getElem_mem hlt, ?_⟩
  have e0 : (stepT C t).law_some = runF 2 (b_law_some C t) := rfl
  rw [e0]
  refine run_rt (r := .val ys[r]) (ρ1 := [some (.par (cupO a' b')), some (.val (.lst ys))]) [some (.par (cupO a b)), some (.val (.lst ys))] rfl (ret_of ?_) rfl
  have hc := call_first (ρ := [some (.par (cupO a b)), some (.val (.lst ys))]) (j := 0) (w := SV.par) (o := cupO a b) (g := t.law_roll) (ma := mACons (mApp fLen (mACons (mBor 1) mANil)) mANil) (ps := [.int ys.length]) ⟨rfl, .inl rfl⟩ (args_cons (app1 (a := .lst ys) rfl rfl) args_nil) e
  refine bin_val (a := .lst ys) (ρ1 := [some (.par (cupO a b)), some (.val (.lst ys))]) rfl hc ?_
  show (L2.atI ys (r : Int)).map RV.val = _
  rw [L2.atI_nat hg]
  rfl
theorem roll_T (n : Nat) : RollOk (T C (n + 1)).law_roll := roll_ok
theorem some_T (n : Nat) : SomeOk (T C (n + 2)).law_some := some_ok (roll_T n)
end K80

set_option Elab.async false
set_option linter.all false
set_option maxRecDepth 100000
set_option exponentiation.threshold 100000
namespace K80
open PySem Pu
variable {C : Addr} {t : Tb}
/-! ### a row of signs -/
def five (c : Nat) : Prop := c = 10 ∨ c = 32 ∨ c = 65 ∨ c = 97 ∨ c = 126
theorem five_sign {c : Nat} (h : five c) : isSign (c : Int) = true := by
  rcases h with rfl | rfl | rfl | rfl | rfl <;> decide
abbrev dSg : OB := .dK [.inl 10, .inl 32, .inl 65, .inl 97, .inl 126] [(.str "\n"), (.str " "), (.str "A"), (.str "a"), (.str "~")]
theorem get_five {c : Nat} (h : five c) : pGet dSg.pv (.int c) = some (.val (.str ⟨#[c]⟩)) := by
  rcases h with rfl | rfl | rfl | rfl | rfl <;> rfl
theorem signs_ok {l : List Nat} (hl : ∀ c ∈ l, five c) (hz : l.length ≤ 1000) : (stepT C t).law_signs [.val (.lst (l.map fun (c : Nat) => PV.int c))] = .ok (.val (.str ⟨l.toArray⟩), [none]) := by
  have e0 : (stepT C t).law_signs = runF 3 (b_law_signs C t) := rfl
  rw [e0]
  let v : PV := .lst (l.map fun (c : Nat) => PV.int c)
  refine run_rt (r := .val (.str ⟨l.toArray⟩)) (ρ1 := [some (.val v), some (.own dSg), none]) [some (.val v), none, none] rfl ?_ rfl
  refine (seq_nx (ρ1 := [some (.val v), some (.own dSg), none]) rfl).trans (ret_of ?_)
  have key : ∀ k : List Nat, (∀ c ∈ k, five c) → lcM [2] (mgNm 2) mYes (mBin pGet (mBor 1) (mBor 2)) (k.map fun (c : Nat) => PV.int c) [some (.val v), some (.own dSg), none] = .ok (k.map fun (c : Nat) => PV.str ⟨#[c]⟩, [some (.val v), some (.own dSg), none]) := by
    intro k
    induction k with
    | nil => intro _; rfl
    | cons c k ih =>
      intro hk
      have he : mBin pGet (mBor 1) (mBor 2) [some (.val v), some (.own dSg), some (.val (.int c))] = .ok (.val (.str ⟨#[c]⟩), [some (.val v), some (.own dSg), some (.val (.int c))]) := by
        have h0 : mOp (mBor 1) [some (.val v), some (.own dSg), some (.val (.int c))] = .ok (.bor 1, [some (.val v), some (.own dSg), some (.val (.int c))]) := rfl
        have h1 : mOp (mBor 2) [some (.val v), some (.own dSg), some (.val (.int c))] = .ok (.val (.int c), [some (.val v), some (.own dSg), some (.val (.int c))]) := rfl
        unfold mBin
        rw [h0, Res.bind_ok]
        dsimp only
        rw [h1, Res.bind_ok]
        show (liftO (pGet dSg.pv (.int c))).bind _ = _
        rw [get_five (hk c (List.mem_cons_self ..))]
        rfl
      rw [List.map_cons, lc_cons (ρ1 := [some (.val v), some (.own dSg), some (.val (.int c))]) (ρ2 := [some (.val v), some (.own dSg), some (.val (.int c))]) (ρ3 := [some (.val v), some (.own dSg), some (.val (.int c))]) (y := .str ⟨#[c]⟩) rfl rfl he]
      have e2 : wipeE [some (.val v), some (.own dSg), some (.val (.int c))] [2] = [some (.val v), some (.own dSg), none] := rfl
      rw [e2, ih fun y hy => hk y (List.mem_cons_of_mem _ hy)]
      rfl
  have lc := mlc_of (vs := [2]) (mi := mSrc (mNm 0)) (xs := l.map fun (c : Nat) => PV.int c) (ρ := [some (.val v), some (.own dSg), none]) (ρ1 := [some (.val v), some (.own dSg), none]) rfl (by rw [List.length_map]; omega) (key l hl)
  have hj : pJoin "" (.lst (l.map fun (c : Nat) => PV.str ⟨#[c]⟩)) = some (.val (.str ⟨l.toArray⟩)) := by
    have s1 : ∀ l : List Nat, strsOf (l.map fun c => PV.str ⟨#[c]⟩) = some (l.map fun c => (⟨#[c]⟩ : Str)) := by
      intro l
      induction l with
      | nil => rfl
      | cons c l ih =>
        show (strsOf (l.map fun c => PV.str ⟨#[c]⟩)).map _ = _
        rw [ih]
        rfl
    have s2 : ∀ l : List Nat, ((l.map fun c => (⟨#[c]⟩ : Str)).map (·.length)).sum = l.length := by
      intro l
      induction l with
      | nil => rfl
      | cons c l ih =>
        rw [List.map_cons, List.map_cons, List.sum_cons, ih, List.length_cons]
        show 1 + l.length = _
        omega
    unfold pJoin
    dsimp only
    rw [s1]
    show (if _ ≤ 16777216 then _ else _) = _
    rw [s2, if_pos (by show l.length + _ * 0 ≤ 16777216; omega), join_singles]
  unfold mUn mOp
  rw [lc]
  show (liftO (pJoin "" (.lst (l.map fun (c : Nat) => PV.str ⟨#[c]⟩)))).bind _ = _
  rw [hj]
  rfl
/-! ### lists as arguments -/
theorem vals_map : ∀ as : List PV, vals? (as.map RV.val) = some as
  | [] => rfl
  | a :: as => by
    show (some a).bind _ = _
    rw [Option.bind_some, vals_map as]
    rfl
theorem lst_of {ma : MA} {ρ ρ1 : Pu.Env} {ps : List PV} (h : ma ρ = .ok (ps.map RV.val, ρ1)) (hz : ps.length ≤ 16777216) : mLst ma ρ = .ok (.new (.lst ps), ρ1) := by
  unfold mLst
  rw [h, Res.bind_ok]
  dsimp only
  rw [vals_map, liftO_some, Res.bind_ok]
  unfold small
  rw [if_pos hz]
  rfl
theorem args_consN {m : M} {ma : MA} {ρ ρ1 ρ2 : Pu.Env} {o : OB} {ps : List PV} (h : m ρ = .ok (.new o, ρ1)) (t : ma ρ1 = .ok (ps.map RV.val, ρ2)) : mACons m ma ρ = .ok ((o.pv :: ps).map RV.val, ρ2) := by
  unfold mACons mOp
  rw [h, Res.bind_ok, Res.bind_ok]
  dsimp only
  rw [t]
  rfl
/-! ### a drawn value -/
abbrev lE (a b : Int) (d : Int) (k : Int) (s : Option PV) (o : Option SV) : Pu.Env := [some (.par (cupO a b)), some (.val (.int d)), some (.val (.int k)), s.map SV.val, o]
theorem holdL {a b d k : Int} {s : Option PV} {o : Option SV} : Hold (lE a b d k s o) 0 SV.par (cupO a b) := ⟨rfl, .inl rfl⟩
theorem call_roll (hr : RollOk t.law_roll) (a b d k : Int) (s : Option PV) (o : Option SV) {m : Nat} (h0 : 0 < m) (hm : m ≤ 1000000000) {mm : M} (hmm : ∀ ρ, mm ρ = .ok (.val (.int m), ρ)) : ∃ (r : Nat) (a' b' : Int), r < m ∧ mCall t.law_roll (mACons (mBor 0) (mACons mm mANil)) (lE a b d k s o) = .ok (.val (.int r), lE a' b' d k s o) := by
  obtain ⟨r, a', b', h1, h2⟩ := hr a b m h0 hm
  exact ⟨r, a', b', h1, (call_first (ps := [.int m]) holdL (args_cons (hmm _) args_nil) h2).trans rfl⟩
theorem call_some (hs : SomeOk t.law_some) (a b d k : Int) (s : Option PV) (o : Option SV) {ys : List PV} (h0 : 0 < ys.length) (hm : ys.length ≤ 1000) {ma : MA} (hma : ∀ ρ, ma ρ = .ok (ys.map RV.val, ρ)) : ∃ (y : PV) (a' b' : Int), y ∈ ys ∧ mCall t.law_some (mACons (mBor 0) (mACons (mLst ma) mANil)) (lE a b d k s o) = .ok (.val y, lE a' b' d k s o) := by
  obtain ⟨y, a', b', h1, h2⟩ := hs a b ys h0 (by omega)
  exact ⟨y, a', b', h1, (call_first (ps := [.lst ys]) holdL (args_consN (lst_of (hma _) (by omega)) args_nil) h2).trans rfl⟩
theorem cup_lc {P : PV → Prop} {e : M} {d k : Int} (he : ∀ (a b : Int) (x : PV), ∃ (y : PV) (a' b' : Int), P y ∧ e (lE a b d k none (some (.val x))) = .ok (.val y, lE a' b' d k none (some (.val x)))) : ∀ (is : List PV) (a b : Int), ∃ (ys : List PV) (a' b' : Int), ys.length = is.length ∧ (∀ y ∈ ys, P y) ∧
    lcM [4] (mgNm 4) mYes e is (lE a b d k none none) = .ok (ys, lE a' b' d k none none)
  | [], a, b => ⟨[], a, b, rfl, (fun y h => nomatch h), rfl⟩
  | x :: is, a, b => by
    obtain ⟨y, a1, b1, h1, h2⟩ := he a b x
    obtain ⟨ys, a2, b2, h3, h4, h5⟩ := cup_lc he is a1 b1
    refine ⟨y :: ys, a2, b2, by simp [h3], fun z hz => ?_, ?_⟩
    · rcases List.mem_cons.mp hz with rfl | hz
      · exact h1
      · exact h4 z hz
    · rw [lc_cons (ρ1 := lE a b d k none (some (.val x))) (ρ2 := lE a b d k none (some (.val x))) (ρ3 := lE a1 b1 d k none (some (.val x))) (y := y) rfl rfl h2]
      have e2 : wipeE (lE a1 b1 d k none (some (.val x))) [4] = lE a1 b1 d k none none := rfl
      rw [e2, h5]
      rfl
def Lg : Nat → Nat
  | 0 => 1000
  | d + 1 => 2 + 4 * Lg d
def Kg : Nat → Nat
  | 0 => 1
  | d + 1 => 1 + 4 * Kg d
theorem Lg_ge : ∀ d, 1000 ≤ Lg d
  | 0 => Nat.le_refl _
  | d + 1 => by have := Lg_ge d; show 1000 ≤ 2 + 4 * Lg d; omega
theorem Kg_ge : ∀ d, 1 ≤ Kg d
  | 0 => Nat.le_refl _
  | d + 1 => by show 1 ≤ 1 + 4 * Kg d; omega
/-- a value as the law draws it -/
def Drawn (d : Nat) (v : PV) : Prop := okV d v = true ∧ (enc v).length ≤ Lg d ∧ cnt v ≤ Kg d
def ValOk (g : G) (d : Nat) : Prop := ∀ a b : Int, ∃ (v : PV) (a' b' : Int), Drawn d v ∧ g [.own (cupO a b), .val (.int (d : Int))] = .ok (.val v, [some (cupO a' b'), none])
def P9 : Int := 10 ^ 9
def P18 : Int := 10 ^ 18
def P60 : Int := 10 ^ 60
def P180 : Int := 10 ^ 180
theorem P9e : (10 : Int) ^ (9 : Int).toNat = P9 := by decide +kernel
theorem P9n : P9 = ((1000000000 : Nat) : Int) := by decide +kernel
theorem P18e : (10 : Int) ^ (18 : Int).toNat = P18 := by decide +kernel
theorem P60e : (10 : Int) ^ (60 : Int).toNat = P60 := by decide +kernel
theorem P180e : P60 * P60 * P60 = P180 := by decide +kernel
theorem P60l : P60.natAbs.log2 + P60.natAbs.log2 < 1000000 := by decide +kernel
theorem P120l : (P60 * P60).natAbs.log2 + P60.natAbs.log2 < 1000000 := by decide +kernel
theorem P180_big : P180 + 2 < ((128 ^ 950 : Nat) : Int) := by decide +kernel
theorem P180_pos : 0 ≤ P180 ∧ P18 ≤ P180 ∧ 16384 ≤ P180 ∧ 0 ≤ P18 := by decide +kernel
theorem pow9 (ρ : Pu.Env) : mBin pPow (mK (.int 10)) (mK (.int 9)) ρ = .ok (.val (.int P9), ρ) := bin_val rfl rfl (by rw [pow_ok 10 9 (by decide), P9e])
theorem pow18 (ρ : Pu.Env) : mBin pPow (mK (.int 10)) (mK (.int 18)) ρ = .ok (.val (.int P18), ρ) := bin_val rfl rfl (by rw [pow_ok 10 18 (by decide), P18e])
theorem pow60 (ρ : Pu.Env) : mBin pPow (mK (.int 10)) (mK (.int 60)) ρ = .ok (.val (.int P60), ρ) := bin_val rfl rfl (by rw [pow_ok 10 60 (by decide), P60e])
theorem mul_log {i j : Int} (h : i.natAbs.log2 + j.natAbs.log2 < 1000000) : pMul (.int i) (.int j) = some (.val (.int (i * j))) := by simp [pMul, h]
theorem pow180 (ρ : Pu.Env) : mBin pMul (mBin pMul (mBin pPow (mK (.int 10)) (mK (.int 60))) (mBin pPow (mK (.int 10)) (mK (.int 60)))) (mBin pPow (mK (.int 10)) (mK (.int 60))) ρ = .ok (.val (.int P180), ρ) :=
  bin_val (bin_val (pow60 ρ) (pow60 ρ) (mul_log P60l)) (pow60 ρ) (by rw [mul_log P120l, P180e])
abbrev sizes : List PV := [.int 1, .int 127, .int 128, .int 300, .int 16384, .int P18, .int P180]
theorem sizes_ok {y : PV} (h : y ∈ sizes) : ∃ s : Int, y = .int s ∧ 0 ≤ s ∧ s ≤ P180 := by
  obtain ⟨p1, p2, p3, p4⟩ := P180_pos
  simp only [List.mem_cons, List.not_mem_nil, or_false] at h
  rcases h with rfl | rfl | rfl | rfl | rfl | rfl | rfl
  · exact ⟨1, rfl, by omega, by omega⟩
  · exact ⟨127, rfl, by omega, by omega⟩
  · exact ⟨128, rfl, by omega, by omega⟩
  · exact ⟨300, rfl, by omega, by omega⟩
  · exact ⟨16384, rfl, by omega, by omega⟩
  · exact ⟨P18, rfl, p4, p2⟩
  · exact ⟨P180, rfl, p1, Int.le_refl _⟩
theorem okV_int {n : Nat} {i : Int} (h1 : -(P180 + 2) ≤ i) (h2 : i ≤ P180 + 2) : okV n (.int i) = true := by
  have hb := P180_big
  have e : ((128 ^ 950 : Nat) : Int) = 128 ^ 950 := by simp
  unfold okV
  rw [← e]
  generalize ((128 ^ 950 : Nat) : Int) = B at hb ⊢
  rw [Bool.and_eq_true]
  exact ⟨decide_eq_true (by omega), decide_eq_true (by omega)⟩
theorem drawn_int {d : Nat} {i : Int} (h1 : -(P180 + 2) ≤ i) (h2 : i ≤ P180 + 2) : Drawn d (.int i) := by
  have ok := okV_int (n := d) h1 h2
  obtain ⟨g1, g2⟩ := int950 (okV_int (n := 0) h1 h2)
  refine ⟨ok, ?_, Kg_ge d⟩
  have := Lg_ge d
  unfold enc
  split
  · rename_i h
    have := dg_len 950 i.toNat (g1 h)
    rw [List.length_cons]
    omega
  · rename_i h
    have := dg_len 950 (-i - 1).toNat (g2 h)
    rw [List.length_cons]
    omega
end K80

set_option Elab.async false
set_option linter.all false
set_option maxRecDepth 100000
set_option exponentiation.threshold 100000
namespace K80
open PySem Pu
variable {C : Addr} {t : Tb}
def SigOk (g : G) : Prop := ∀ l : List Nat, (∀ c ∈ l, five c) → l.length ≤ 1000 → g [.val (.lst (l.map fun (c : Nat) => PV.int c))] = .ok (.val (.str ⟨l.toArray⟩), [none])
theorem run_cup {b : MS} {size : Nat} {a0 b0 a1 b1 d k : Int} {s : Option PV} {v : PV} (hz : size = 5) (h : b [some (.par (cupO a0 b0)), some (.val (.int d)), none, none, none] = .ok (.rt (.val v), lE a1 b1 d k s none)) : runF size b [.own (cupO a0 b0), .val (.int d)] = .ok (.val v, [some (cupO a1 b1), none]) := by
  subst hz
  exact run_rt (avs := [.own (cupO a0 b0), .val (.int d)]) (r := .val v) (ρ1 := lE a1 b1 d k s none) [some (.par (cupO a0 b0)), some (.val (.int d)), none, none, none] rfl h rfl
theorem drawn_str {d : Nat} (hd : 0 < d) {l : List Nat} (hl : ∀ c ∈ l, five c) (hz : l.length < 140) : Drawn d (.str ⟨l.toArray⟩) := by
  have hlen : (⟨l.toArray⟩ : Str).length = l.length := by simp [Str.length]
  refine ⟨?_, ?_, Kg_ge d⟩
  · unfold okV
    rw [Bool.and_eq_true, hlen]
    refine ⟨decide_eq_true (by omega), ?_⟩
    rw [List.all_eq_true]
    intro c hc
    exact five_sign (hl c (by simpa using hc))
  · have := Lg_ge d
    unfold enc
    rw [List.length_cons, List.length_append, List.length_map, hlen]
    have h2 := dg_len 2 l.length (by omega)
    simp
    omega
theorem drawns {d : Nat} : ∀ {xs : List PV}, (∀ x ∈ xs, Drawn d x) → okVs d xs = true ∧ (encs xs).length ≤ xs.length * Lg d ∧ cnts xs ≤ xs.length * Kg d
  | [], _ => ⟨rfl, by simp [encs], by simp [cnts]⟩
  | x :: xs, h => by
    obtain ⟨h1, h2, h3⟩ := drawns (xs := xs) fun y hy => h y (List.mem_cons_of_mem _ hy)
    obtain ⟨g1, g2, g3⟩ := h x (List.mem_cons_self ..)
    refine ⟨?_, ?_, ?_⟩
    · unfold okVs
      rw [g1, h1]
      rfl
    · show (enc x ++ encs xs).length ≤ _
      rw [List.length_append, List.length_cons, Nat.add_mul]
      omega
    · show cnt x + cnts xs ≤ _
      rw [List.length_cons, Nat.add_mul]
      omega
theorem drawn_tup {d : Nat} {xs : List PV} (h : ∀ x ∈ xs, Drawn d x) (hz : xs.length < 5) : Drawn (d + 1) (.tup xs) := by
  obtain ⟨h1, h2, h3⟩ := drawns h
  have l1 : xs.length * Lg d ≤ 4 * Lg d := Nat.mul_le_mul_right _ (by omega)
  have l2 : xs.length * Kg d ≤ 4 * Kg d := Nat.mul_le_mul_right _ (by omega)
  refine ⟨?_, ?_, ?_⟩
  · unfold okV
    rw [h1, decide_eq_true (show xs.length ≤ 50000 by omega)]
    rfl
  · unfold enc
    rw [List.length_cons, List.length_append, dg_small (by omega)]
    show 1 + (encs xs).length + 1 ≤ 2 + 4 * Lg d
    omega
  · show 1 + cnts xs ≤ 1 + 4 * Kg d
    omega
theorem kEq (a b d k : Int) (s : Option PV) (o : Option SV) (c : Int) : mTest (mBin pEq (mBor 2) (mK (.int c))) (lE a b d k s o) = .ok (k == c, lE a b d k s o) := by
  refine test_of (bin_val (a := .int k) (b := .int c) rfl rfl ?_)
  simp [pEq, cmpOk, eqP]
theorem int_step (hr : RollOk t.law_roll) (hs : SomeOk t.law_some) (a b d k : Int) : ∃ (i : Int) (a' b' : Int) (s : PV), -(P180 + 2) ≤ i ∧ i ≤ P180 + 2 ∧
    mSeq (mAsg 3 (mCall t.law_some (mACons (mBor 0) (mACons (mLst (mACons (mK (.int 1)) (mACons (mK (.int 127)) (mACons (mK (.int 128)) (mACons (mK (.int 300)) (mACons (mK (.int 16384)) (mACons (mBin pPow (mK (.int 10)) (mK (.int 18))) (mACons (mBin pMul (mBin pMul (mBin pPow (mK (.int 10)) (mK (.int 60))) (mBin pPow (mK (.int 10)) (mK (.int 60)))) (mBin pPow (mK (.int 10)) (mK (.int 60)))) mANil)))))))) mANil))))
    (mRet (mBin pMul (mBin pAdd (mBin pDiv (mBin pMul (mCall t.law_roll (mACons (mBor 0) (mACons (mBin pPow (mK (.int 10)) (mK (.int 9))) mANil))) (mBor 3)) (mBin pPow (mK (.int 10)) (mK (.int 9)))) (mCall t.law_roll (mACons (mBor 0) (mACons (mK (.int 3)) mANil)))) (mCall t.law_some (mACons (mBor 0) (mACons (mLst (mACons (mK (.int 1)) (mACons (mUn pNeg (mK (.int 1))) mANil))) mANil)))))
    (lE a b d k none none) = .ok (.rt (.val (.int i)), lE a' b' d k (some s) none) := by
  obtain ⟨y, a1, b1, hy, e1⟩ := call_some hs a b d k none none (ys := sizes) (by decide) (by decide) (ma := mACons (mK (.int 1)) (mACons (mK (.int 127)) (mACons (mK (.int 128)) (mACons (mK (.int 300)) (mACons (mK (.int 16384)) (mACons (mBin pPow (mK (.int 10)) (mK (.int 18))) (mACons (mBin pMul (mBin pMul (mBin pPow (mK (.int 10)) (mK (.int 60))) (mBin pPow (mK (.int 10)) (mK (.int 60)))) (mBin pPow (mK (.int 10)) (mK (.int 60)))) mANil)))))))
    fun ρ => args_cons rfl (args_cons rfl (args_cons rfl (args_cons rfl (args_cons rfl (args_cons (pow18 ρ) (args_cons (pow180 ρ) args_nil))))))
  obtain ⟨s, rfl, s0, s1⟩ := sizes_ok hy
  obtain ⟨r1, a2, b2, hr1, e2⟩ := call_roll hr a1 b1 d k (some (.int s)) none (m := 1000000000) (by decide) (by decide) (mm := mBin pPow (mK (.int 10)) (mK (.int 9))) fun ρ => by rw [pow9 ρ, P9n]
  obtain ⟨r2, a3, b3, hr2, e3⟩ := call_roll hr a2 b2 d k (some (.int s)) none (m := 3) (by decide) (by decide) (mm := mK (.int 3)) fun ρ => rfl
  obtain ⟨y2, a4, b4, hy2, e4⟩ := call_some hs a3 b3 d k (some (.int s)) none (ys := [.int 1, .int (-1)]) (by decide) (by decide) (ma := mACons (mK (.int 1)) (mACons (mUn pNeg (mK (.int 1))) mANil)) fun ρ => args_cons rfl (args_cons rfl args_nil)
  obtain ⟨z, rfl, hz⟩ : ∃ z : Int, y2 = .int z ∧ (z = 1 ∨ z = -1) := by
    simp only [List.mem_cons, List.not_mem_nil, or_false] at hy2
    rcases hy2 with rfl | rfl
    · exact ⟨1, rfl, .inl rfl⟩
    · exact ⟨-1, rfl, .inr rfl⟩
  have hq0 : 0 ≤ (r1 : Int) * s := Int.mul_nonneg (by omega) s0
  have hq1 : (r1 : Int) * s ≤ 1000000000 * P180 := Int.le_trans (Int.mul_le_mul_of_nonneg_right (by omega) s0) (Int.mul_le_mul_of_nonneg_left s1 (by decide))
  have hq2 : 0 ≤ (r1 : Int) * s / 1000000000 := Int.ediv_nonneg hq0 (by decide)
  have hq3 : (r1 : Int) * s / 1000000000 ≤ P180 := by
    have := Int.ediv_le_ediv (show (0 : Int) < 1000000000 by decide) hq1
    rw [Int.mul_ediv_cancel_left _ (by decide)] at this
    exact this
  have m1 : mBin pMul (mCall t.law_roll (mACons (mBor 0) (mACons (mBin pPow (mK (.int 10)) (mK (.int 9))) mANil))) (mBor 3) (lE a1 b1 d k (some (.int s)) none) = .ok (.val (.int ((r1 : Int) * s)), lE a2 b2 d k (some (.int s)) none) :=
    bin_val e2 (b := .int s) rfl (mul_small (small_of (by omega) (by omega)))
  have m2 : mBin pDiv (mBin pMul (mCall t.law_roll (mACons (mBor 0) (mACons (mBin pPow (mK (.int 10)) (mK (.int 9))) mANil))) (mBor 3)) (mBin pPow (mK (.int 10)) (mK (.int 9))) (lE a1 b1 d k (some (.int s)) none) = .ok (.val (.int ((r1 : Int) * s / 1000000000)), lE a2 b2 d k (some (.int s)) none) :=
    bin_val m1 (pow9 _) (by rw [P9n]; exact div_ok _ _ (by decide))
  have m3 := bin_val (f := pAdd) (r := .val (.int ((r1 : Int) * s / 1000000000 + r2))) m2 e3 rfl
  have zs : smallI z = true := by rcases hz with rfl | rfl <;> decide
  have m4 := bin_val (f := pMul) (r := .val (.int (((r1 : Int) * s / 1000000000 + r2) * z))) m3 e4 (mul_small2 zs)
  refine ⟨((r1 : Int) * s / 1000000000 + r2) * z, a4, b4, .int s, ?_, ?_, ?_⟩
  · rcases hz with rfl | rfl <;> omega
  · rcases hz with rfl | rfl <;> omega
  · exact (seq_nx (ρ1 := lE a1 b1 d k (some (.int s)) none) (asg_of e1 rfl)).trans (ret_of m4)
theorem value_step_law (hr : RollOk t.law_roll) (hs : SomeOk t.law_some) (hg : SigOk t.law_signs) (d : Nat) (hd : d ≤ 4) (hv : ∀ e, d = e + 1 → ValOk t.law_value e) : ValOk (stepT C t).law_value d := by
  intro a b
  have e0 : (stepT C t).law_value = runF 5 (b_law_value C t) := rfl
  rw [e0]
  obtain ⟨k, a1, b1, hk, e1⟩ : ∃ (k : Nat) (a' b' : Int), k < 8 ∧ mCall t.law_roll (mACons (mBor 0) (mACons (mK (.int 8)) mANil)) [some (.par (cupO a b)), some (.val (.int (d : Int))), none, none, none] = .ok (.val (.int k), [some (.par (cupO a' b')), some (.val (.int (d : Int))), none, none, none]) := by
    obtain ⟨r, a', b', h1, h2⟩ := hr a b 8 (by decide) (by decide)
    exact ⟨r, a', b', h1, (call_first (ps := [.int 8]) (w := SV.par) ⟨rfl, .inl rfl⟩ (args_cons rfl args_nil) h2).trans rfl⟩
  have start : ∀ b' : MS, mSeq (mAsg 2 (mCall t.law_roll (mACons (mBor 0) (mACons (mK (.int 8)) mANil)))) b' [some (.par (cupO a b)), some (.val (.int (d : Int))), none, none, none] = b' (lE a1 b1 d k none none) := fun b' => seq_nx (asg_of e1 rfl)
  have t1 : mTOr (mTest (mBin pLt (mBor 2) (mK (.int 4)))) (mTest (mBin pEq (mBor 1) (mK (.int 0)))) (lE a1 b1 d k none none) = .ok (decide ((k : Int) < 4) || ((d : Int) == 0), lE a1 b1 d k none none) := by
    have h1 : mTest (mBin pLt (mBor 2) (mK (.int 4))) (lE a1 b1 d k none none) = .ok (decide ((k : Int) < 4), lE a1 b1 d k none none) := test_of (bin_val (a := .int k) (b := .int 4) rfl rfl rfl)
    have h2 : mTest (mBin pEq (mBor 1) (mK (.int 0))) (lE a1 b1 d k none none) = .ok ((d : Int) == 0, lE a1 b1 d k none none) := test_of (bin_val (a := .int d) (b := .int 0) rfl rfl (by simp [pEq, cmpOk, eqP]))
    cases hc : decide ((k : Int) < 4) with
    | true => rw [hc] at h1; rw [tor_t h1]; rfl
    | false => rw [hc] at h1; rw [tor_f h1, h2]; rfl
  by_cases c1 : (decide ((k : Int) < 4) || ((d : Int) == 0)) = true
  · rw [c1] at t1
    obtain ⟨i, a2, b2, s, i1, i2, e2⟩ := int_step hr hs a1 b1 d k
    exact ⟨.int i, a2, b2, drawn_int i1 i2, run_cup rfl ((start _).trans (seq_rt ((ifs_t t1).trans e2)))⟩
  · rw [Bool.not_eq_true] at c1
    rw [c1] at t1
    rw [Bool.or_eq_false_iff] at c1
    have hd0 : 0 < d := by
      have := c1.2
      simp at this
      omega
    obtain ⟨e, rfl⟩ : ∃ e, d = e + 1 := ⟨d - 1, by omega⟩
    have s1 : ∀ b' : MS, mSeq (mIfS (mTOr (mTest (mBin pLt (mBor 2) (mK (.int 4)))) (mTest (mBin pEq (mBor 1) (mK (.int 0))))) (mSeq (mAsg 3 (mCall t.law_some (mACons (mBor 0) (mACons (mLst (mACons (mK (.int 1)) (mACons (mK (.int 127)) (mACons (mK (.int 128)) (mACons (mK (.int 300)) (mACons (mK (.int 16384)) (mACons (mBin pPow (mK (.int 10)) (mK (.int 18))) (mACons (mBin pMul (mBin pMul (mBin pPow (mK (.int 10)) (mK (.int 60))) (mBin pPow (mK (.int 10)) (mK (.int 60)))) (mBin pPow (mK (.int 10)) (mK (.int 60)))) mANil)))))))) mANil))))
    (mRet (mBin pMul (mBin pAdd (mBin pDiv (mBin pMul (mCall t.law_roll (mACons (mBor 0) (mACons (mBin pPow (mK (.int 10)) (mK (.int 9))) mANil))) (mBor 3)) (mBin pPow (mK (.int 10)) (mK (.int 9)))) (mCall t.law_roll (mACons (mBor 0) (mACons (mK (.int 3)) mANil)))) (mCall t.law_some (mACons (mBor 0) (mACons (mLst (mACons (mK (.int 1)) (mACons (mUn pNeg (mK (.int 1))) mANil))) mANil)))))) mNx) b' (lE a1 b1 ((e + 1 : Nat) : Int) k none none) = b' (lE a1 b1 ((e + 1 : Nat) : Int) k none none) := fun b' => seq_nx ((ifs_f t1).trans rfl)
    by_cases c4 : (k : Int) = 4
    · obtain ⟨y, a2, b2, hy, e2⟩ := call_some hs a1 b1 ((e + 1 : Nat) : Int) k none none (ys := [.non, .bl true, .bl false]) (by decide) (by decide) (ma := mACons (mK .non) (mACons (mK (.bl true)) (mACons (mK (.bl false)) mANil))) fun ρ => args_cons rfl (args_cons rfl (args_cons rfl args_nil))
      have t4 := kEq a1 b1 ((e + 1 : Nat) : Int) k none none 4
      rw [show ((k : Int) == 4) = true by rw [c4]; rfl] at t4
      refine ⟨y, a2, b2, ?_, run_cup rfl ((start _).trans ((s1 _).trans (seq_rt ((ifs_t t4).trans (ret_of e2)))))⟩
      have lg := Lg_ge (e + 1)
      have kg := Kg_ge (e + 1)
      simp only [List.mem_cons, List.not_mem_nil, or_false] at hy
      rcases hy with rfl | rfl | rfl
      · exact ⟨rfl, by unfold enc; simp; omega, kg⟩
      · exact ⟨rfl, by unfold enc; simp; omega, kg⟩
      · exact ⟨rfl, by unfold enc; simp; omega, kg⟩
    · have t4 := kEq a1 b1 ((e + 1 : Nat) : Int) k none none 4
      rw [show ((k : Int) == 4) = false from beq_eq_false_iff_ne.mpr c4] at t4
      by_cases c5 : (k : Int) = 5
      · have t5 := kEq a1 b1 ((e + 1 : Nat) : Int) k none none 5
        rw [show ((k : Int) == 5) = true by rw [c5]; rfl] at t5
        obtain ⟨n, a2, b2, hn, e2⟩ := call_roll hr a1 b1 ((e + 1 : Nat) : Int) k none none (m := 140) (by decide) (by decide) (mm := mK (.int 140)) fun ρ => rfl
        have rg := rng1_of e2 (show n < 1000000000 by omega)
        obtain ⟨ys, a3, b3, l1, l2, l3⟩ := cup_lc (P := fun y => ∃ c : Nat, y = .int c ∧ five c) (e := mCall t.law_some (mACons (mBor 0) (mACons (mLst (mACons (mK (.int 10)) (mACons (mK (.int 32)) (mACons (mK (.int 65)) (mACons (mK (.int 97)) (mACons (mK (.int 126)) mANil)))))) mANil))) (d := ((e + 1 : Nat) : Int)) (k := k) (fun a b x => by
          obtain ⟨y, a', b', hy, e⟩ := call_some hs a b ((e + 1 : Nat) : Int) k none (some (.val x)) (ys := [.int 10, .int 32, .int 65, .int 97, .int 126]) (by decide) (by decide) (ma := mACons (mK (.int 10)) (mACons (mK (.int 32)) (mACons (mK (.int 65)) (mACons (mK (.int 97)) (mACons (mK (.int 126)) mANil))))) fun ρ => args_cons rfl (args_cons rfl (args_cons rfl (args_cons rfl (args_cons rfl args_nil))))
          refine ⟨y, a', b', ?_, e⟩
          simp only [List.mem_cons, List.not_mem_nil, or_false] at hy
          rcases hy with rfl | rfl | rfl | rfl | rfl
          · exact ⟨10, rfl, .inl rfl⟩
          · exact ⟨32, rfl, .inr (.inl rfl)⟩
          · exact ⟨65, rfl, .inr (.inr (.inl rfl))⟩
          · exact ⟨97, rfl, .inr (.inr (.inr (.inl rfl)))⟩
          · exact ⟨126, rfl, .inr (.inr (.inr (.inr rfl)))⟩) (rangeOf 0 n) a2 b2
        have ln : ys.length = n := by rw [l1]; simp [rangeOf]
        obtain ⟨cs, hcs, hf⟩ : ∃ cs : List Nat, ys = cs.map (fun (c : Nat) => PV.int c) ∧ ∀ c ∈ cs, five c := by
          clear l1 l3 ln
          induction ys with
          | nil => exact ⟨[], rfl, fun c h => nomatch h⟩
          | cons y ys ih =>
            obtain ⟨cs, h1, h2⟩ := ih fun y hy => l2 y (List.mem_cons_of_mem _ hy)
            obtain ⟨c, rfl, hc⟩ := l2 y (List.mem_cons_self ..)
            refine ⟨c :: cs, by rw [h1]; rfl, fun z hz => ?_⟩
            rcases List.mem_cons.mp hz with rfl | hz
            · exact hc
            · exact h2 z hz
        have lcs : cs.length = n := by rw [← ln, hcs, List.length_map]
        have lc := mlc_of (vs := [4]) rg (by simp [rangeOf]; omega) (show lcM [4] (mgNm 4) mYes _ (rangeOf 0 n) (wipeE (lE a2 b2 ((e + 1 : Nat) : Int) k none none) [4]) = _ from l3)
        have hsg := hg cs hf (by omega)
        rw [← hcs] at hsg
        refine ⟨.str ⟨cs.toArray⟩, a3, b3, drawn_str hd0 hf (by omega), run_cup (s := none) (k := (k : Int)) rfl ((start _).trans ((s1 _).trans ((seq_nx ((ifs_f t4).trans rfl)).trans (seq_rt ((ifs_t t5).trans (ret_of ?_))))))⟩
        exact (call_vals (ps := [.lst ys]) (args_consN lc args_nil) hsg).trans rfl
      · have t5 := kEq a1 b1 ((e + 1 : Nat) : Int) k none none 5
        rw [show ((k : Int) == 5) = false from beq_eq_false_iff_ne.mpr c5] at t5
        obtain ⟨n, a2, b2, hn, e2⟩ := call_roll hr a1 b1 ((e + 1 : Nat) : Int) k none none (m := 5) (by decide) (by decide) (mm := mK (.int 5)) fun ρ => rfl
        have rg := rng1_of e2 (show n < 1000000000 by omega)
        obtain ⟨ys, a3, b3, l1, l2, l3⟩ := cup_lc (P := Drawn e) (e := mCall t.law_value (mACons (mBor 0) (mACons (mBin pSub (mBor 1) (mK (.int 1))) mANil))) (d := ((e + 1 : Nat) : Int)) (k := k) (fun a b x => by
          obtain ⟨y, a', b', hy, h2⟩ := hv e rfl a b
          refine ⟨y, a', b', hy, (call_first (ps := [.int (e : Int)]) holdL (args_cons (bin_val (a := .int ((e + 1 : Nat) : Int)) (b := .int 1) (r := .val (.int e)) rfl rfl ?_) args_nil) h2).trans rfl⟩
          show some (RV.val (PV.int (((e + 1 : Nat) : Int) - 1))) = _
          rw [show (((e + 1 : Nat) : Int) - 1) = (e : Int) by omega]) (rangeOf 0 n) a2 b2
        have ln : ys.length = n := by rw [l1]; simp [rangeOf]
        have lc := mlc_of (vs := [4]) rg (by simp [rangeOf]; omega) (show lcM [4] (mgNm 4) mYes _ (rangeOf 0 n) (wipeE (lE a2 b2 ((e + 1 : Nat) : Int) k none none) [4]) = _ from l3)
        exact ⟨.tup ys, a3, b3, drawn_tup l2 (by omega), run_cup (s := none) (k := (k : Int)) rfl ((start _).trans ((s1 _).trans ((seq_nx ((ifs_f t4).trans rfl)).trans ((seq_nx ((ifs_f t5).trans rfl)).trans (ret_of ((app1n lc rfl).trans rfl))))))⟩
theorem sig_T (n : Nat) : SigOk (T C (n + 1)).law_signs := fun l h1 h2 => signs_ok h1 h2
theorem value_T : ∀ (d j : Nat), d ≤ 4 → ValOk (T C (d + j + 3)).law_value d
  | 0, j, hd => value_step_law (C := C) (t := T C (0 + j + 2)) (roll_T _) (some_T (0 + j)) (sig_T _) 0 hd fun e h => by omega
  | d + 1, j, hd => by
    have e : d + 1 + j + 3 = (d + j + 3) + 1 := by omega
    rw [e]
    exact value_step_law (C := C) (t := T C (d + j + 3)) (roll_T _) (some_T (d + j + 1)) (sig_T _) (d + 1) hd fun e' h => by
      have h2 : d = e' := by omega
      rw [← h2]
      exact value_T d j (by omega)
end K80

set_option Elab.async false
set_option linter.all false
set_option maxRecDepth 100000
set_option exponentiation.threshold 100000
namespace K80
open PySem Pu
variable {C : Addr} {t : Tb}
/-! ### values without octets -/
def great : Int := 128 ^ 950
theorem none_lst (d : PV) (xs : List PV) : (stepT C t).counted [.val (.lst xs), .val d] = .ok (.val .non, [none, none]) := by
  simp [Res.bind, mSeq, mNx, mRet, mRetNm, mRetN, mIfS, mNever, mAsg, setR, setV, setO, isPar, mAug, mDrop, mAppend, mExtend, ownL?, ownO, setC, RV.lst?, mSrc, itemsOf, mOp, RV.fz, OB.pv, mBor, mNm, mK, mNew, mBin, mUn, deref, liftO, mANil, mACons, mApp, derefs, vals?, RV.val?, small, mTup, mLst, mCall, lone, avsOf, avOf, backs, findArg, back1, RV.bor?, mTest, RV.bl?, mTruth, truth, mTNot, mTAnd, mTOr, mAndV, mOrV, mNotV, mIf, mChain, mgNm, mAsgT, mgTup, mgCons, mgNil, iop, pAdd, pSub, pMul, pDiv, pMod, pNeg, pLt, pLe, pGt, pGe, pEq, pNe, pAddI, pMulS, pIs, pIsNot, isP, pIn, pNotIn, inP, flatP, cmpOk, cmpOks, eqP, eqPs, pIx, fLen, fAbs, fInt, fMin2, fMax2, fOrd, fList, fTuple, fIsi, tyName, AV.slot, runF, Res.nox, RV.out, outsOf, SV.lent, range1e, range2e, range3e, range4e, isi_NoneType_int, isi_NoneType_bool, isi_NoneType_str, isi_NoneType_tuple, isi_NoneType_list, isi_bool_int, isi_bool_bool, isi_bool_str, isi_bool_tuple, isi_bool_list, isi_int_int, isi_int_bool, isi_int_str, isi_int_tuple, isi_int_list, isi_str_int, isi_str_bool, isi_str_str, isi_str_tuple, isi_str_list, isi_tuple_int, isi_tuple_bool, isi_tuple_str, isi_tuple_tuple, isi_tuple_list, isi_list_int, isi_list_bool, isi_list_str, isi_list_tuple, isi_list_list, isi_dict_int, isi_dict_bool, isi_dict_str, isi_dict_tuple, isi_dict_list, stepT, b_counted]
/-- .. an int too large -/
theorem none_int (hf : ∀ k : Nat, t.few_digits [.val (.int k)] = .ok (.val (.bl (decide (k < 128 ^ 950))), [none])) (d : PV) {i : Int} (h : (i < 0 → ¬ (-i - 1).toNat < 128 ^ 950) ∧ (0 ≤ i → ¬ i.toNat < 128 ^ 950)) : (stepT C t).counted [.val (.int i), .val d] = .ok (.val .non, [none, none]) := by
  have e0 : (stepT C t).counted = runF 6 (b_counted C t) := rfl
  rw [e0]
  have fin : mCall t.few_digits (mACons (mIf (mTest (mBin pGe (mBor 0) (mK (.int 0)))) (mNm 0) (mBin pSub (mUn pNeg (mBor 0)) (mK (.int 1)))) mANil) [some (.val (.int i)), some (.val d), none, none, none, none] = .ok (.val (.bl false), [some (.val (.int i)), some (.val d), none, none, none, none]) := by
    by_cases hi : 0 ≤ i
    · have hc := hf i.toNat
      rw [decide_eq_false (h.2 hi), show ((i.toNat : Nat) : Int) = i by omega] at hc
      exact call1 (p := .int i) ((mif_t (ρ1 := [some (.val (.int i)), some (.val d), none, none, none, none]) (by simp [Res.bind, mSeq, mNx, mRet, mRetNm, mRetN, mIfS, mNever, mAsg, setR, setV, setO, isPar, mAug, mDrop, mAppend, mExtend, ownL?, ownO, setC, RV.lst?, mSrc, itemsOf, mOp, RV.fz, OB.pv, mBor, mNm, mK, mNew, mBin, mUn, deref, liftO, mANil, mACons, mApp, derefs, vals?, RV.val?, small, mTup, mLst, mCall, lone, avsOf, avOf, backs, findArg, back1, RV.bor?, mTest, RV.bl?, mTruth, truth, mTNot, mTAnd, mTOr, mAndV, mOrV, mNotV, mIf, mChain, mgNm, mAsgT, mgTup, mgCons, mgNil, iop, pAdd, pSub, pMul, pDiv, pMod, pNeg, pLt, pLe, pGt, pGe, pEq, pNe, pAddI, pMulS, pIs, pIsNot, isP, pIn, pNotIn, inP, flatP, cmpOk, cmpOks, eqP, eqPs, pIx, fLen, fAbs, fInt, fMin2, fMax2, fOrd, fList, fTuple, fIsi, tyName, AV.slot, runF, Res.nox, RV.out, outsOf, SV.lent, range1e, range2e, range3e, range4e, isi_NoneType_int, isi_NoneType_bool, isi_NoneType_str, isi_NoneType_tuple, isi_NoneType_list, isi_bool_int, isi_bool_bool, isi_bool_str, isi_bool_tuple, isi_bool_list, isi_int_int, isi_int_bool, isi_int_str, isi_int_tuple, isi_int_list, isi_str_int, isi_str_bool, isi_str_str, isi_str_tuple, isi_str_list, isi_tuple_int, isi_tuple_bool, isi_tuple_str, isi_tuple_tuple, isi_tuple_list, isi_list_int, isi_list_bool, isi_list_str, isi_list_tuple, isi_list_list, isi_dict_int, isi_dict_bool, isi_dict_str, isi_dict_tuple, isi_dict_list, hi])).trans rfl) hc
    · have hc := hf (-i - 1).toNat
      rw [decide_eq_false (h.1 (by omega)), show (((-i - 1).toNat : Nat) : Int) = -i - 1 by omega] at hc
      exact call1 (p := .int (-i - 1)) ((mif_f (ρ1 := [some (.val (.int i)), some (.val d), none, none, none, none]) (by simp [Res.bind, mSeq, mNx, mRet, mRetNm, mRetN, mIfS, mNever, mAsg, setR, setV, setO, isPar, mAug, mDrop, mAppend, mExtend, ownL?, ownO, setC, RV.lst?, mSrc, itemsOf, mOp, RV.fz, OB.pv, mBor, mNm, mK, mNew, mBin, mUn, deref, liftO, mANil, mACons, mApp, derefs, vals?, RV.val?, small, mTup, mLst, mCall, lone, avsOf, avOf, backs, findArg, back1, RV.bor?, mTest, RV.bl?, mTruth, truth, mTNot, mTAnd, mTOr, mAndV, mOrV, mNotV, mIf, mChain, mgNm, mAsgT, mgTup, mgCons, mgNil, iop, pAdd, pSub, pMul, pDiv, pMod, pNeg, pLt, pLe, pGt, pGe, pEq, pNe, pAddI, pMulS, pIs, pIsNot, isP, pIn, pNotIn, inP, flatP, cmpOk, cmpOks, eqP, eqPs, pIx, fLen, fAbs, fInt, fMin2, fMax2, fOrd, fList, fTuple, fIsi, tyName, AV.slot, runF, Res.nox, RV.out, outsOf, SV.lent, range1e, range2e, range3e, range4e, isi_NoneType_int, isi_NoneType_bool, isi_NoneType_str, isi_NoneType_tuple, isi_NoneType_list, isi_bool_int, isi_bool_bool, isi_bool_str, isi_bool_tuple, isi_bool_list, isi_int_int, isi_int_bool, isi_int_str, isi_int_tuple, isi_int_list, isi_str_int, isi_str_bool, isi_str_str, isi_str_tuple, isi_str_list, isi_tuple_int, isi_tuple_bool, isi_tuple_str, isi_tuple_tuple, isi_tuple_list, isi_list_int, isi_list_bool, isi_list_str, isi_list_tuple, isi_list_list, isi_dict_int, isi_dict_bool, isi_dict_str, isi_dict_tuple, isi_dict_list, hi])).trans (by simp [Res.bind, mSeq, mNx, mRet, mRetNm, mRetN, mIfS, mNever, mAsg, setR, setV, setO, isPar, mAug, mDrop, mAppend, mExtend, ownL?, ownO, setC, RV.lst?, mSrc, itemsOf, mOp, RV.fz, OB.pv, mBor, mNm, mK, mNew, mBin, mUn, deref, liftO, mANil, mACons, mApp, derefs, vals?, RV.val?, small, mTup, mLst, mCall, lone, avsOf, avOf, backs, findArg, back1, RV.bor?, mTest, RV.bl?, mTruth, truth, mTNot, mTAnd, mTOr, mAndV, mOrV, mNotV, mIf, mChain, mgNm, mAsgT, mgTup, mgCons, mgNil, iop, pAdd, pSub, pMul, pDiv, pMod, pNeg, pLt, pLe, pGt, pGe, pEq, pNe, pAddI, pMulS, pIs, pIsNot, isP, pIn, pNotIn, inP, flatP, cmpOk, cmpOks, eqP, eqPs, pIx, fLen, fAbs, fInt, fMin2, fMax2, fOrd, fList, fTuple, fIsi, tyName, AV.slot, runF, Res.nox, RV.out, outsOf, SV.lent, range1e, range2e, range3e, range4e, isi_NoneType_int, isi_NoneType_bool, isi_NoneType_str, isi_NoneType_tuple, isi_NoneType_list, isi_bool_int, isi_bool_bool, isi_bool_str, isi_bool_tuple, isi_bool_list, isi_int_int, isi_int_bool, isi_int_str, isi_int_tuple, isi_int_list, isi_str_int, isi_str_bool, isi_str_str, isi_str_tuple, isi_str_list, isi_tuple_int, isi_tuple_bool, isi_tuple_str, isi_tuple_tuple, isi_tuple_list, isi_list_int, isi_list_bool, isi_list_str, isi_list_tuple, isi_list_list, isi_dict_int, isi_dict_bool, isi_dict_str, isi_dict_tuple, isi_dict_list])) hc
  refine run_rt (r := .val .non) (ρ1 := [some (.val (.int i)), some (.val d), none, none, none, none]) [some (.val (.int i)), some (.val d), none, none, none, none] rfl ?_ rfl
  refine (seq_nx (ρ1 := [some (.val (.int i)), some (.val d), none, none, none, none]) (by simp [Res.bind, mSeq, mNx, mRet, mRetNm, mRetN, mIfS, mNever, mAsg, setR, setV, setO, isPar, mAug, mDrop, mAppend, mExtend, ownL?, ownO, setC, RV.lst?, mSrc, itemsOf, mOp, RV.fz, OB.pv, mBor, mNm, mK, mNew, mBin, mUn, deref, liftO, mANil, mACons, mApp, derefs, vals?, RV.val?, small, mTup, mLst, mCall, lone, avsOf, avOf, backs, findArg, back1, RV.bor?, mTest, RV.bl?, mTruth, truth, mTNot, mTAnd, mTOr, mAndV, mOrV, mNotV, mIf, mChain, mgNm, mAsgT, mgTup, mgCons, mgNil, iop, pAdd, pSub, pMul, pDiv, pMod, pNeg, pLt, pLe, pGt, pGe, pEq, pNe, pAddI, pMulS, pIs, pIsNot, isP, pIn, pNotIn, inP, flatP, cmpOk, cmpOks, eqP, eqPs, pIx, fLen, fAbs, fInt, fMin2, fMax2, fOrd, fList, fTuple, fIsi, tyName, AV.slot, runF, Res.nox, RV.out, outsOf, SV.lent, range1e, range2e, range3e, range4e, isi_NoneType_int, isi_NoneType_bool, isi_NoneType_str, isi_NoneType_tuple, isi_NoneType_list, isi_bool_int, isi_bool_bool, isi_bool_str, isi_bool_tuple, isi_bool_list, isi_int_int, isi_int_bool, isi_int_str, isi_int_tuple, isi_int_list, isi_str_int, isi_str_bool, isi_str_str, isi_str_tuple, isi_str_list, isi_tuple_int, isi_tuple_bool, isi_tuple_str, isi_tuple_tuple, isi_tuple_list, isi_list_int, isi_list_bool, isi_list_str, isi_list_tuple, isi_list_list, isi_dict_int, isi_dict_bool, isi_dict_str, isi_dict_tuple, isi_dict_list])).trans ?_
  refine seq_rt ((ifs_t (ρ1 := [some (.val (.int i)), some (.val d), none, none, none, none]) (by simp [Res.bind, mSeq, mNx, mRet, mRetNm, mRetN, mIfS, mNever, mAsg, setR, setV, setO, isPar, mAug, mDrop, mAppend, mExtend, ownL?, ownO, setC, RV.lst?, mSrc, itemsOf, mOp, RV.fz, OB.pv, mBor, mNm, mK, mNew, mBin, mUn, deref, liftO, mANil, mACons, mApp, derefs, vals?, RV.val?, small, mTup, mLst, mCall, lone, avsOf, avOf, backs, findArg, back1, RV.bor?, mTest, RV.bl?, mTruth, truth, mTNot, mTAnd, mTOr, mAndV, mOrV, mNotV, mIf, mChain, mgNm, mAsgT, mgTup, mgCons, mgNil, iop, pAdd, pSub, pMul, pDiv, pMod, pNeg, pLt, pLe, pGt, pGe, pEq, pNe, pAddI, pMulS, pIs, pIsNot, isP, pIn, pNotIn, inP, flatP, cmpOk, cmpOks, eqP, eqPs, pIx, fLen, fAbs, fInt, fMin2, fMax2, fOrd, fList, fTuple, fIsi, tyName, AV.slot, runF, Res.nox, RV.out, outsOf, SV.lent, range1e, range2e, range3e, range4e, isi_NoneType_int, isi_NoneType_bool, isi_NoneType_str, isi_NoneType_tuple, isi_NoneType_list, isi_bool_int, isi_bool_bool, isi_bool_str, isi_bool_tuple, isi_bool_list, isi_int_int, isi_int_bool, isi_int_str, isi_int_tuple, isi_int_list, isi_str_int, isi_str_bool, isi_str_str, isi_str_tuple, isi_str_list, isi_tuple_int, isi_tuple_bool, isi_tuple_str, isi_tuple_tuple, isi_tuple_list, isi_list_int, isi_list_bool, isi_list_str, isi_list_tuple, isi_list_list, isi_dict_int, isi_dict_bool, isi_dict_str, isi_dict_tuple, isi_dict_list])).trans (ret_of ?_))
  exact (mif_f (truth_of' fin rfl)).trans rfl
theorem great_big : ¬ great.toNat < 128 ^ 950 ∧ ¬ (-(-great - 1) - 1).toNat < 128 ^ 950 ∧ 0 ≤ great ∧ (-great - 1 < 0) := by
  have e : ((128 ^ 950 : Nat) : Int) = 128 ^ 950 := by simp
  have p : 0 < (128 : Nat) ^ 950 := Nat.pow_pos (by decide)
  unfold great
  rw [← e]
  generalize (128 : Nat) ^ 950 = B at p ⊢
  refine ⟨by omega, by omega, by omega, by omega⟩
theorem none_loop (v : PV) (d : Nat) {x0 : PV} (post : List PV) (h0 : t.counted [.val x0, .val (.int ((d + 1 : Nat) : Int))] = .ok (.val .non, [none, none])) : ∀ (xs : List PV) (m : Nat) (a b : Option PV), (∀ x ∈ xs, t.counted [.val x, .val (.int ((d + 1 : Nat) : Int))] = .ok (.val (.int (cnt x)), [none, none])) → m + cnts xs ≤ 500000 →
    ∃ m' a' b' : Option PV, Pu.forM (mgNm 3) (bCnt t) (xs ++ x0 :: post) [some (.val v), some (.val (.int d)), some (.val (.int m)), a.map SV.val, b.map SV.val, none] = .ok (.rt (.val .non), [some (.val v), some (.val (.int d)), m'.map SV.val, a'.map SV.val, b'.map SV.val, none])
  | [], m, a, b, _, _ => by
    have c2 : mCall t.counted (mACons (mNm 3) (mACons (mBin pAdd (mBor 1) (mK (.int 1))) mANil)) [some (.val v), some (.val (.int d)), some (.val (.int m)), some (.val x0), b.map SV.val, none] = .ok (.val .non, [some (.val v), some (.val (.int d)), some (.val (.int m)), some (.val x0), b.map SV.val, none]) :=
      call2 (p := x0) (q := .int ((d + 1 : Nat) : Int)) (ρ1 := [some (.val v), some (.val (.int d)), some (.val (.int m)), some (.val x0), b.map SV.val, none]) rfl (by simp [Res.bind, mSeq, mNx, mRet, mRetNm, mRetN, mIfS, mNever, mAsg, setR, setV, setO, isPar, mAug, mDrop, mAppend, mExtend, ownL?, ownO, setC, RV.lst?, mSrc, itemsOf, mOp, RV.fz, OB.pv, mBor, mNm, mK, mNew, mBin, mUn, deref, liftO, mANil, mACons, mApp, derefs, vals?, RV.val?, small, mTup, mLst, mCall, lone, avsOf, avOf, backs, findArg, back1, RV.bor?, mTest, RV.bl?, mTruth, truth, mTNot, mTAnd, mTOr, mAndV, mOrV, mNotV, mIf, mChain, mgNm, mAsgT, mgTup, mgCons, mgNil, iop, pAdd, pSub, pMul, pDiv, pMod, pNeg, pLt, pLe, pGt, pGe, pEq, pNe, pAddI, pMulS, pIs, pIsNot, isP, pIn, pNotIn, inP, flatP, cmpOk, cmpOks, eqP, eqPs, pIx, fLen, fAbs, fInt, fMin2, fMax2, fOrd, fList, fTuple, fIsi, tyName, AV.slot, runF, Res.nox, RV.out, outsOf, SV.lent, range1e, range2e, range3e, range4e, isi_NoneType_int, isi_NoneType_bool, isi_NoneType_str, isi_NoneType_tuple, isi_NoneType_list, isi_bool_int, isi_bool_bool, isi_bool_str, isi_bool_tuple, isi_bool_list, isi_int_int, isi_int_bool, isi_int_str, isi_int_tuple, isi_int_list, isi_str_int, isi_str_bool, isi_str_str, isi_str_tuple, isi_str_list, isi_tuple_int, isi_tuple_bool, isi_tuple_str, isi_tuple_tuple, isi_tuple_list, isi_list_int, isi_list_bool, isi_list_str, isi_list_tuple, isi_list_list, isi_dict_int, isi_dict_bool, isi_dict_str, isi_dict_tuple, isi_dict_list]) h0
    refine ⟨some (.int m), some x0, some .non, ?_⟩
    rw [List.nil_append, for_rt (ρ1 := [some (.val v), some (.val (.int d)), some (.val (.int m)), some (.val x0), b.map SV.val, none]) (ρ2 := [some (.val v), some (.val (.int d)), some (.val (.int m)), some (.val x0), some (.val .non), none]) (r := .val .non) (by cases a <;> rfl) ?_]
    · rfl
    · refine (seq_nx (asg_of c2 (ρ2 := [some (.val v), some (.val (.int d)), some (.val (.int m)), some (.val x0), some (.val .non), none]) (by cases b <;> rfl))).trans ?_
      rfl
  | x :: xs, m, a, b, h, hz => by
    rw [show cnts (x :: xs) = cnt x + cnts xs from rfl] at hz
    obtain ⟨m', a', b', e⟩ := none_loop v d post h0 xs (m + cnt x) (some x) (some (.int (cnt x))) (fun y hy => h y (List.mem_cons_of_mem _ hy)) (by omega)
    have hx := h x (List.mem_cons_self ..)
    refine ⟨m', a', b', ?_⟩
    have c1 : ¬ (500000 : Int) < (m : Int) + (cnt x : Int) := by omega
    have c2 : mCall t.counted (mACons (mNm 3) (mACons (mBin pAdd (mBor 1) (mK (.int 1))) mANil)) [some (.val v), some (.val (.int d)), some (.val (.int m)), some (.val x), b.map SV.val, none] = .ok (.val (.int (cnt x)), [some (.val v), some (.val (.int d)), some (.val (.int m)), some (.val x), b.map SV.val, none]) :=
      call2 (p := x) (q := .int ((d + 1 : Nat) : Int)) (ρ1 := [some (.val v), some (.val (.int d)), some (.val (.int m)), some (.val x), b.map SV.val, none]) rfl (by simp [Res.bind, mSeq, mNx, mRet, mRetNm, mRetN, mIfS, mNever, mAsg, setR, setV, setO, isPar, mAug, mDrop, mAppend, mExtend, ownL?, ownO, setC, RV.lst?, mSrc, itemsOf, mOp, RV.fz, OB.pv, mBor, mNm, mK, mNew, mBin, mUn, deref, liftO, mANil, mACons, mApp, derefs, vals?, RV.val?, small, mTup, mLst, mCall, lone, avsOf, avOf, backs, findArg, back1, RV.bor?, mTest, RV.bl?, mTruth, truth, mTNot, mTAnd, mTOr, mAndV, mOrV, mNotV, mIf, mChain, mgNm, mAsgT, mgTup, mgCons, mgNil, iop, pAdd, pSub, pMul, pDiv, pMod, pNeg, pLt, pLe, pGt, pGe, pEq, pNe, pAddI, pMulS, pIs, pIsNot, isP, pIn, pNotIn, inP, flatP, cmpOk, cmpOks, eqP, eqPs, pIx, fLen, fAbs, fInt, fMin2, fMax2, fOrd, fList, fTuple, fIsi, tyName, AV.slot, runF, Res.nox, RV.out, outsOf, SV.lent, range1e, range2e, range3e, range4e, isi_NoneType_int, isi_NoneType_bool, isi_NoneType_str, isi_NoneType_tuple, isi_NoneType_list, isi_bool_int, isi_bool_bool, isi_bool_str, isi_bool_tuple, isi_bool_list, isi_int_int, isi_int_bool, isi_int_str, isi_int_tuple, isi_int_list, isi_str_int, isi_str_bool, isi_str_str, isi_str_tuple, isi_str_list, isi_tuple_int, isi_tuple_bool, isi_tuple_str, isi_tuple_tuple, isi_tuple_list, isi_list_int, isi_list_bool, isi_list_str, isi_list_tuple, isi_list_list, isi_dict_int, isi_dict_bool, isi_dict_str, isi_dict_tuple, isi_dict_list]) hx
    rw [List.cons_append, for_cons (ρ1 := [some (.val v), some (.val (.int d)), some (.val (.int m)), some (.val x), b.map SV.val, none]) (ρ2 := [some (.val v), some (.val (.int d)), some (.val (.int ((m + cnt x : Nat) : Int))), some (.val x), some (.val (.int (cnt x))), none]) (by cases a <;> rfl) ?_]
    · exact e
    · refine (seq_nx (asg_of c2 (ρ2 := [some (.val v), some (.val (.int d)), some (.val (.int m)), some (.val x), some (.val (.int (cnt x))), none]) (by cases b <;> rfl))).trans ?_
      simp [Res.bind, mSeq, mNx, mRet, mRetNm, mRetN, mIfS, mNever, mAsg, setR, setV, setO, isPar, mAug, mDrop, mAppend, mExtend, ownL?, ownO, setC, RV.lst?, mSrc, itemsOf, mOp, RV.fz, OB.pv, mBor, mNm, mK, mNew, mBin, mUn, deref, liftO, mANil, mACons, mApp, derefs, vals?, RV.val?, small, mTup, mLst, mCall, lone, avsOf, avOf, backs, findArg, back1, RV.bor?, mTest, RV.bl?, mTruth, truth, mTNot, mTAnd, mTOr, mAndV, mOrV, mNotV, mIf, mChain, mgNm, mAsgT, mgTup, mgCons, mgNil, iop, pAdd, pSub, pMul, pDiv, pMod, pNeg, pLt, pLe, pGt, pGe, pEq, pNe, pAddI, pMulS, pIs, pIsNot, isP, pIn, pNotIn, inP, flatP, cmpOk, cmpOks, eqP, eqPs, pIx, fLen, fAbs, fInt, fMin2, fMax2, fOrd, fList, fTuple, fIsi, tyName, AV.slot, runF, Res.nox, RV.out, outsOf, SV.lent, range1e, range2e, range3e, range4e, isi_NoneType_int, isi_NoneType_bool, isi_NoneType_str, isi_NoneType_tuple, isi_NoneType_list, isi_bool_int, isi_bool_bool, isi_bool_str, isi_bool_tuple, isi_bool_list, isi_int_int, isi_int_bool, isi_int_str, isi_int_tuple, isi_int_list, isi_str_int, isi_str_bool, isi_str_str, isi_str_tuple, isi_str_list, isi_tuple_int, isi_tuple_bool, isi_tuple_str, isi_tuple_tuple, isi_tuple_list, isi_list_int, isi_list_bool, isi_list_str, isi_list_tuple, isi_list_list, isi_dict_int, isi_dict_bool, isi_dict_str, isi_dict_tuple, isi_dict_list, c1]
/-- a tuple with an item that has none -/
theorem none_tup {d : Nat} (hd : d < 60) {x0 : PV} {xs post : List PV} (hl : (xs ++ x0 :: post).length ≤ 50000) (h0 : t.counted [.val x0, .val (.int ((d + 1 : Nat) : Int))] = .ok (.val .non, [none, none])) (h : ∀ x ∈ xs, t.counted [.val x, .val (.int ((d + 1 : Nat) : Int))] = .ok (.val (.int (cnt x)), [none, none])) (hz : 1 + cnts xs ≤ 500000) :
    (stepT C t).counted [.val (.tup (xs ++ x0 :: post)), .val (.int d)] = .ok (.val .non, [none, none]) := by
  have e0 : (stepT C t).counted = runF 6 (b_counted C t) := rfl
  rw [e0]
  obtain ⟨m', a', b', e⟩ := none_loop (t := t) (.tup (xs ++ x0 :: post)) d post h0 xs 1 none none h hz
  generalize hys : xs ++ x0 :: post = ys at hl e ⊢
  have hl' : ¬ (50000 : Int) < (ys.length : Int) := by omega
  have hd' : ¬ (d : Int) = 60 := by omega
  refine (run_rt (r := .val .non) (ρ1 := [some (.val (.tup ys)), some (.val (.int d)), m'.map SV.val, a'.map SV.val, b'.map SV.val, none]) [some (.val (.tup ys)), some (.val (.int d)), none, none, none, none] rfl ?_ rfl)
  refine (seq_nx (ρ1 := [some (.val (.tup ys)), some (.val (.int d)), none, none, none, none]) (by simp [Res.bind, mSeq, mNx, mRet, mRetNm, mRetN, mIfS, mNever, mAsg, setR, setV, setO, isPar, mAug, mDrop, mAppend, mExtend, ownL?, ownO, setC, RV.lst?, mSrc, itemsOf, mOp, RV.fz, OB.pv, mBor, mNm, mK, mNew, mBin, mUn, deref, liftO, mANil, mACons, mApp, derefs, vals?, RV.val?, small, mTup, mLst, mCall, lone, avsOf, avOf, backs, findArg, back1, RV.bor?, mTest, RV.bl?, mTruth, truth, mTNot, mTAnd, mTOr, mAndV, mOrV, mNotV, mIf, mChain, mgNm, mAsgT, mgTup, mgCons, mgNil, iop, pAdd, pSub, pMul, pDiv, pMod, pNeg, pLt, pLe, pGt, pGe, pEq, pNe, pAddI, pMulS, pIs, pIsNot, isP, pIn, pNotIn, inP, flatP, cmpOk, cmpOks, eqP, eqPs, pIx, fLen, fAbs, fInt, fMin2, fMax2, fOrd, fList, fTuple, fIsi, tyName, AV.slot, runF, Res.nox, RV.out, outsOf, SV.lent, range1e, range2e, range3e, range4e, isi_NoneType_int, isi_NoneType_bool, isi_NoneType_str, isi_NoneType_tuple, isi_NoneType_list, isi_bool_int, isi_bool_bool, isi_bool_str, isi_bool_tuple, isi_bool_list, isi_int_int, isi_int_bool, isi_int_str, isi_int_tuple, isi_int_list, isi_str_int, isi_str_bool, isi_str_str, isi_str_tuple, isi_str_list, isi_tuple_int, isi_tuple_bool, isi_tuple_str, isi_tuple_tuple, isi_tuple_list, isi_list_int, isi_list_bool, isi_list_str, isi_list_tuple, isi_list_list, isi_dict_int, isi_dict_bool, isi_dict_str, isi_dict_tuple, isi_dict_list])).trans ?_
  refine (seq_nx (ρ1 := [some (.val (.tup ys)), some (.val (.int d)), none, none, none, none]) (by simp [Res.bind, mSeq, mNx, mRet, mRetNm, mRetN, mIfS, mNever, mAsg, setR, setV, setO, isPar, mAug, mDrop, mAppend, mExtend, ownL?, ownO, setC, RV.lst?, mSrc, itemsOf, mOp, RV.fz, OB.pv, mBor, mNm, mK, mNew, mBin, mUn, deref, liftO, mANil, mACons, mApp, derefs, vals?, RV.val?, small, mTup, mLst, mCall, lone, avsOf, avOf, backs, findArg, back1, RV.bor?, mTest, RV.bl?, mTruth, truth, mTNot, mTAnd, mTOr, mAndV, mOrV, mNotV, mIf, mChain, mgNm, mAsgT, mgTup, mgCons, mgNil, iop, pAdd, pSub, pMul, pDiv, pMod, pNeg, pLt, pLe, pGt, pGe, pEq, pNe, pAddI, pMulS, pIs, pIsNot, isP, pIn, pNotIn, inP, flatP, cmpOk, cmpOks, eqP, eqPs, pIx, fLen, fAbs, fInt, fMin2, fMax2, fOrd, fList, fTuple, fIsi, tyName, AV.slot, runF, Res.nox, RV.out, outsOf, SV.lent, range1e, range2e, range3e, range4e, isi_NoneType_int, isi_NoneType_bool, isi_NoneType_str, isi_NoneType_tuple, isi_NoneType_list, isi_bool_int, isi_bool_bool, isi_bool_str, isi_bool_tuple, isi_bool_list, isi_int_int, isi_int_bool, isi_int_str, isi_int_tuple, isi_int_list, isi_str_int, isi_str_bool, isi_str_str, isi_str_tuple, isi_str_list, isi_tuple_int, isi_tuple_bool, isi_tuple_str, isi_tuple_tuple, isi_tuple_list, isi_list_int, isi_list_bool, isi_list_str, isi_list_tuple, isi_list_list, isi_dict_int, isi_dict_bool, isi_dict_str, isi_dict_tuple, isi_dict_list])).trans ?_
  refine (seq_nx (ρ1 := [some (.val (.tup ys)), some (.val (.int d)), none, none, none, none]) (by simp [Res.bind, mSeq, mNx, mRet, mRetNm, mRetN, mIfS, mNever, mAsg, setR, setV, setO, isPar, mAug, mDrop, mAppend, mExtend, ownL?, ownO, setC, RV.lst?, mSrc, itemsOf, mOp, RV.fz, OB.pv, mBor, mNm, mK, mNew, mBin, mUn, deref, liftO, mANil, mACons, mApp, derefs, vals?, RV.val?, small, mTup, mLst, mCall, lone, avsOf, avOf, backs, findArg, back1, RV.bor?, mTest, RV.bl?, mTruth, truth, mTNot, mTAnd, mTOr, mAndV, mOrV, mNotV, mIf, mChain, mgNm, mAsgT, mgTup, mgCons, mgNil, iop, pAdd, pSub, pMul, pDiv, pMod, pNeg, pLt, pLe, pGt, pGe, pEq, pNe, pAddI, pMulS, pIs, pIsNot, isP, pIn, pNotIn, inP, flatP, cmpOk, cmpOks, eqP, eqPs, pIx, fLen, fAbs, fInt, fMin2, fMax2, fOrd, fList, fTuple, fIsi, tyName, AV.slot, runF, Res.nox, RV.out, outsOf, SV.lent, range1e, range2e, range3e, range4e, isi_NoneType_int, isi_NoneType_bool, isi_NoneType_str, isi_NoneType_tuple, isi_NoneType_list, isi_bool_int, isi_bool_bool, isi_bool_str, isi_bool_tuple, isi_bool_list, isi_int_int, isi_int_bool, isi_int_str, isi_int_tuple, isi_int_list, isi_str_int, isi_str_bool, isi_str_str, isi_str_tuple, isi_str_list, isi_tuple_int, isi_tuple_bool, isi_tuple_str, isi_tuple_tuple, isi_tuple_list, isi_list_int, isi_list_bool, isi_list_str, isi_list_tuple, isi_list_list, isi_dict_int, isi_dict_bool, isi_dict_str, isi_dict_tuple, isi_dict_list])).trans ?_
  refine (seq_nx (ρ1 := [some (.val (.tup ys)), some (.val (.int d)), none, none, none, none]) (by simp [Res.bind, mSeq, mNx, mRet, mRetNm, mRetN, mIfS, mNever, mAsg, setR, setV, setO, isPar, mAug, mDrop, mAppend, mExtend, ownL?, ownO, setC, RV.lst?, mSrc, itemsOf, mOp, RV.fz, OB.pv, mBor, mNm, mK, mNew, mBin, mUn, deref, liftO, mANil, mACons, mApp, derefs, vals?, RV.val?, small, mTup, mLst, mCall, lone, avsOf, avOf, backs, findArg, back1, RV.bor?, mTest, RV.bl?, mTruth, truth, mTNot, mTAnd, mTOr, mAndV, mOrV, mNotV, mIf, mChain, mgNm, mAsgT, mgTup, mgCons, mgNil, iop, pAdd, pSub, pMul, pDiv, pMod, pNeg, pLt, pLe, pGt, pGe, pEq, pNe, pAddI, pMulS, pIs, pIsNot, isP, pIn, pNotIn, inP, flatP, cmpOk, cmpOks, eqP, eqPs, pIx, fLen, fAbs, fInt, fMin2, fMax2, fOrd, fList, fTuple, fIsi, tyName, AV.slot, runF, Res.nox, RV.out, outsOf, SV.lent, range1e, range2e, range3e, range4e, isi_NoneType_int, isi_NoneType_bool, isi_NoneType_str, isi_NoneType_tuple, isi_NoneType_list, isi_bool_int, isi_bool_bool, isi_bool_str, isi_bool_tuple, isi_bool_list, isi_int_int, isi_int_bool, isi_int_str, isi_int_tuple, isi_int_list, isi_str_int, isi_str_bool, isi_str_str, isi_str_tuple, isi_str_list, isi_tuple_int, isi_tuple_bool, isi_tuple_str, isi_tuple_tuple, isi_tuple_list, isi_list_int, isi_list_bool, isi_list_str, isi_list_tuple, isi_list_list, isi_dict_int, isi_dict_bool, isi_dict_str, isi_dict_tuple, isi_dict_list, hd', hl'])).trans ?_
  refine (seq_nx (ρ1 := [some (.val (.tup ys)), some (.val (.int d)), some (.val (.int 1)), none, none, none]) (by simp [Res.bind, mSeq, mNx, mRet, mRetNm, mRetN, mIfS, mNever, mAsg, setR, setV, setO, isPar, mAug, mDrop, mAppend, mExtend, ownL?, ownO, setC, RV.lst?, mSrc, itemsOf, mOp, RV.fz, OB.pv, mBor, mNm, mK, mNew, mBin, mUn, deref, liftO, mANil, mACons, mApp, derefs, vals?, RV.val?, small, mTup, mLst, mCall, lone, avsOf, avOf, backs, findArg, back1, RV.bor?, mTest, RV.bl?, mTruth, truth, mTNot, mTAnd, mTOr, mAndV, mOrV, mNotV, mIf, mChain, mgNm, mAsgT, mgTup, mgCons, mgNil, iop, pAdd, pSub, pMul, pDiv, pMod, pNeg, pLt, pLe, pGt, pGe, pEq, pNe, pAddI, pMulS, pIs, pIsNot, isP, pIn, pNotIn, inP, flatP, cmpOk, cmpOks, eqP, eqPs, pIx, fLen, fAbs, fInt, fMin2, fMax2, fOrd, fList, fTuple, fIsi, tyName, AV.slot, runF, Res.nox, RV.out, outsOf, SV.lent, range1e, range2e, range3e, range4e, isi_NoneType_int, isi_NoneType_bool, isi_NoneType_str, isi_NoneType_tuple, isi_NoneType_list, isi_bool_int, isi_bool_bool, isi_bool_str, isi_bool_tuple, isi_bool_list, isi_int_int, isi_int_bool, isi_int_str, isi_int_tuple, isi_int_list, isi_str_int, isi_str_bool, isi_str_str, isi_str_tuple, isi_str_list, isi_tuple_int, isi_tuple_bool, isi_tuple_str, isi_tuple_tuple, isi_tuple_list, isi_list_int, isi_list_bool, isi_list_str, isi_list_tuple, isi_list_list, isi_dict_int, isi_dict_bool, isi_dict_str, isi_dict_tuple, isi_dict_list])).trans ?_
  exact seq_rt ((mfor_of (xs := ys) (ρ1 := [some (.val (.tup ys)), some (.val (.int d)), some (.val (.int 1)), none, none, none]) (by simp [Res.bind, mSeq, mNx, mRet, mRetNm, mRetN, mIfS, mNever, mAsg, setR, setV, setO, isPar, mAug, mDrop, mAppend, mExtend, ownL?, ownO, setC, RV.lst?, mSrc, itemsOf, mOp, RV.fz, OB.pv, mBor, mNm, mK, mNew, mBin, mUn, deref, liftO, mANil, mACons, mApp, derefs, vals?, RV.val?, small, mTup, mLst, mCall, lone, avsOf, avOf, backs, findArg, back1, RV.bor?, mTest, RV.bl?, mTruth, truth, mTNot, mTAnd, mTOr, mAndV, mOrV, mNotV, mIf, mChain, mgNm, mAsgT, mgTup, mgCons, mgNil, iop, pAdd, pSub, pMul, pDiv, pMod, pNeg, pLt, pLe, pGt, pGe, pEq, pNe, pAddI, pMulS, pIs, pIsNot, isP, pIn, pNotIn, inP, flatP, cmpOk, cmpOks, eqP, eqPs, pIx, fLen, fAbs, fInt, fMin2, fMax2, fOrd, fList, fTuple, fIsi, tyName, AV.slot, runF, Res.nox, RV.out, outsOf, SV.lent, range1e, range2e, range3e, range4e, isi_NoneType_int, isi_NoneType_bool, isi_NoneType_str, isi_NoneType_tuple, isi_NoneType_list, isi_bool_int, isi_bool_bool, isi_bool_str, isi_bool_tuple, isi_bool_list, isi_int_int, isi_int_bool, isi_int_str, isi_int_tuple, isi_int_list, isi_str_int, isi_str_bool, isi_str_str, isi_str_tuple, isi_str_list, isi_tuple_int, isi_tuple_bool, isi_tuple_str, isi_tuple_tuple, isi_tuple_list, isi_list_int, isi_list_bool, isi_list_str, isi_list_tuple, isi_list_list, isi_dict_int, isi_dict_bool, isi_dict_str, isi_dict_tuple, isi_dict_list])).trans e)
/-- the law's list of such -/
def bads : List PV := [.int great, .int (-great - 1), .lst [.int 1], .lst [], .tup [.int 1, .tup [.int 2, .lst [.int 3]]], .tup [.tup [.int great]], .tup [.str "a", .lst [.str "b"]]]
theorem few_all (n : Nat) : ∀ k : Nat, (T C (n + 1)).few_digits [.val (.int k)] = .ok (.val (.bl (decide (k < 128 ^ 950))), [none]) := fun k => few_digits_ok k
theorem bads_none (j : Nat) : ∀ v ∈ bads, (T C (j + 66)).counted [.val v, .val (.int ((0 : Nat) : Int))] = .ok (.val .non, [none, none]) := by
  obtain ⟨g1, g2, g3, g4⟩ := great_big
  have n1 : ∀ (n : Nat) (d : PV), (T C (n + 2)).counted [.val (.int great), .val d] = .ok (.val .non, [none, none]) := fun n d => none_int (few_all n) d ⟨fun h => absurd g3 (by omega), fun _ => g1⟩
  have n2 : ∀ (n : Nat) (d : PV), (T C (n + 2)).counted [.val (.int (-great - 1)), .val d] = .ok (.val .non, [none, none]) := fun n d => none_int (few_all n) d ⟨fun _ => g2, fun h => by omega⟩
  have nl : ∀ (n : Nat) (d : PV) (xs : List PV), (T C (n + 1)).counted [.val (.lst xs), .val d] = .ok (.val .non, [none, none]) := fun n d xs => none_lst d xs
  have i1 : ∀ (d n : Nat) (i : Int), d ≤ 60 → 0 ≤ i → i ≤ 2 → (T C (n + 63)).counted [.val (.int i), .val (.int (d : Int))] = .ok (.val (.int (cnt (.int i))), [none, none]) := fun d n i hd h1 h2 => by
    have p := P180_pos
    have := counted_T (C := C) (60 - d) (n + d + 1) d (.int i) (okV_int (by omega) (by omega)) (by omega) (show 1 ≤ 500000 by decide)
    rw [show 60 - d + (n + d + 1) + 2 = n + 63 by omega] at this
    exact this
  have s1 : ∀ (d n : Nat), d ≤ 60 → (T C (n + 63)).counted [.val (.str "a"), .val (.int (d : Int))] = .ok (.val (.int (cnt (.str "a"))), [none, none]) := fun d n hd => by
    have := counted_T (C := C) (60 - d) (n + d + 1) d (.str "a") (by unfold okV; decide) (by omega) (by decide)
    rw [show 60 - d + (n + d + 1) + 2 = n + 63 by omega] at this
    exact this
  intro v hv
  unfold bads at hv
  simp only [List.mem_cons, List.not_mem_nil, or_false] at hv
  rcases hv with rfl | rfl | rfl | rfl | rfl | rfl | rfl
  · exact n1 (j + 64) _
  · exact n2 (j + 64) _
  · exact nl (j + 65) _ _
  · exact nl (j + 65) _ _
  · refine none_tup (t := T C (j + 65)) (xs := [.int 1]) (post := []) (by decide) (by decide) ?_ (fun x hx => ?_) (by decide)
    · refine none_tup (t := T C (j + 64)) (d := 1) (xs := [.int 2]) (post := []) (by decide) (by decide) (nl (j + 63) _ _) (fun x hx => ?_) (by decide)
      have : x = .int 2 := by simpa using hx
      subst this
      exact i1 2 (j + 1) 2 (by decide) (by decide) (by decide)
    · have : x = .int 1 := by simpa using hx
      subst this
      exact i1 1 (j + 2) 1 (by decide) (by decide) (by decide)
  · refine none_tup (t := T C (j + 65)) (xs := []) (post := []) (by decide) (by decide) ?_ (fun x hx => nomatch hx) (by decide)
    exact none_tup (t := T C (j + 64)) (d := 1) (xs := []) (post := []) (by decide) (by decide) (n1 (j + 62) _) (fun x hx => nomatch hx) (by decide)
  · refine none_tup (t := T C (j + 65)) (xs := [.str "a"]) (post := []) (by decide) (by decide) (nl (j + 64) _ _) (fun x hx => ?_) (by decide)
    have : x = .str "a" := by simpa using hx
    subst this
    exact s1 1 (j + 2) (by decide)
end K80

set_option Elab.async false
set_option linter.all false
set_option maxRecDepth 100000
set_option exponentiation.threshold 100000
namespace K80
open PySem Pu
variable {C : Addr} {t : Tb}
theorem bin_nv {ma mb : M} {f : PV → PV → Option RV} {ρ ρ1 ρ2 : Pu.Env} {o : OB} {b : PV} {r : RV} (h : ma ρ = .ok (.new o, ρ1)) (h2 : mb ρ1 = .ok (.val b, ρ2)) (hf : f o.pv b = some r) : mBin f ma mb ρ = .ok (r, ρ2) := by
  unfold mBin mOp
  rw [h, Res.bind_ok, Res.bind_ok]
  dsimp only
  rw [h2]
  simp [RV.fz, deref, liftO, Res.bind, hf]
/-! ### the cup -/
theorem cup_ok (ns : List Int) (hz : ns.length ≤ 1000) : ∃ a b : Int, (stepT C t).law_cup [.val (.scr ns)] = .ok (.new (cupO a b), [none]) := by
  have e0 : (stepT C t).law_cup = runF 2 (b_law_cup C t) := rfl
  rw [e0]
  obtain ⟨x, hx⟩ : ∃ x : Int, (ns.map PV.int ++ [PV.int 0])[0]? = some (PV.int x) := by
    cases ns with
    | nil => exact ⟨0, rfl⟩
    | cons n ns => exact ⟨n, rfl⟩
  let c : Int := if x < 0 then -x else x
  have g1 : mBin pAdd (mApp fList (mACons (mBor 0) mANil)) (mLst (mACons (mK (.int 0)) mANil)) [some (.val (.scr ns)), none] = .ok (.new (.lst (ns.map PV.int ++ [.int 0])), [some (.val (.scr ns)), none]) :=
    bin_new (app1 (a := .scr ns) rfl rfl) rfl (szOk_of (by simp; omega))
  have g2 : mBin pIx (mBin pAdd (mApp fList (mACons (mBor 0) mANil)) (mLst (mACons (mK (.int 0)) mANil))) (mK (.int 0)) [some (.val (.scr ns)), none] = .ok (.val (.int x), [some (.val (.scr ns)), none]) := by
    refine bin_nv (b := .int 0) g1 rfl ?_
    show (L2.atI (ns.map PV.int ++ [.int 0]) ((0 : Nat) : Int)).map RV.val = _
    rw [L2.atI_nat hx]
    rfl
  have e18 : mBin pPow (mK (.int 10)) (mK (.int 18)) [some (.val (.scr ns)), some (.val (.int c))] = .ok (.val (.int P18), [some (.val (.scr ns)), some (.val (.int c))]) := pow18 _
  have tst : mTest (mBin pGe (mBor 1) (mBin pPow (mK (.int 10)) (mK (.int 18)))) [some (.val (.scr ns)), some (.val (.int c))] = .ok (decide (P18 ≤ c), [some (.val (.scr ns)), some (.val (.int c))]) := test_of (bin_val (a := .int c) rfl e18 rfl)
  obtain ⟨a, ha⟩ : ∃ a : Int, mIf (mTest (mBin pGe (mBor 1) (mBin pPow (mK (.int 10)) (mK (.int 18))))) (mBin pDiv (mBor 1) (mK (.int 113))) (mK (.int 0)) [some (.val (.scr ns)), some (.val (.int c))] = .ok (.val (.int a), [some (.val (.scr ns)), some (.val (.int c))]) := by
    cases hd : decide (P18 ≤ c) with
    | true =>
      rw [hd] at tst
      exact ⟨c / 113, (mif_t tst).trans (bin_val (a := .int c) (b := .int 113) rfl rfl (div_ok _ _ (by decide)))⟩
    | false =>
      rw [hd] at tst
      exact ⟨0, (mif_f tst).trans rfl⟩
  have hb : mBin pAdd (mBin pMod (mApp fInt (mACons (mBin pAdd (mBin pMul (mBor 1) (mK (.int 367))) (mK (.int 5347))) mANil)) (mK (.int 1994132857))) (mK (.int 241)) [some (.val (.scr ns)), some (.val (.int c))] = .ok (.val (.int ((c * 367 + 5347) % 1994132857 + 241)), [some (.val (.scr ns)), some (.val (.int c))]) :=
    bin_val (b := .int 241) (bin_val (b := .int 1994132857) (app1 (r := .val (.int (c * 367 + 5347))) (bin_val (b := .int 5347) (bin_val (a := .int c) (b := .int 367) rfl rfl (mul_small2 (by decide))) rfl rfl) rfl) rfl (mod_ok (by decide))) rfl rfl
  refine ⟨a, (c * 367 + 5347) % 1994132857 + 241, ?_⟩
  refine run_rt (r := .new (cupO a ((c * 367 + 5347) % 1994132857 + 241))) (ρ1 := [some (.val (.scr ns)), some (.val (.int c))]) [some (.val (.scr ns)), none] rfl ?_ rfl
  refine (seq_nx (ρ1 := [some (.val (.scr ns)), some (.val (.int c))]) (asg_of (app1 (r := .val (.int c)) g2 rfl) rfl)).trans ?_
  exact ret_of (lst_of (args_cons ha (args_cons hb args_nil)) (show 2 ≤ 16777216 by decide))
end K80

set_option Elab.async false
set_option linter.all false
set_option maxRecDepth 100000
set_option exponentiation.threshold 100000
namespace K80
open PySem Pu
variable {C : Addr} {t : Tb}
/-! ### a drawn value is like itself -/
mutual
theorem okV_lk : ∀ (n : Nat) (v : PV), okV n v = true → lk n v = true
  | n, .non, _ => by unfold lk; rfl
  | n, .bl _, _ => by unfold lk; rfl
  | n, .int _, _ => by unfold lk; rfl
  | n, .str x, ok => by
    unfold okV at ok
    rw [Bool.and_eq_true] at ok
    unfold lk PyData.strOk
    rw [← Array.all_toList, List.all_eq_true]
    intro c hc
    have := sign_range (List.all_eq_true.mp ok.2 c hc)
    exact decide_eq_true (by omega)
  | n + 1, .tup xs, ok => by
    unfold okV at ok
    rw [Bool.and_eq_true] at ok
    have := of_decide_eq_true ok.1
    unfold lk
    rw [Bool.and_eq_true]
    exact ⟨decide_eq_true (by omega), okVs_lks n xs ok.2⟩
  | 0, .tup xs, ok => by unfold okV at ok; cases ok
  | n, .ty _, ok => by unfold okV at ok; cases ok
  | n, .lst _, ok => by unfold okV at ok; cases ok
  | n, .dT _ _, ok => by unfold okV at ok; cases ok
  | n, .dK _ _, ok => by unfold okV at ok; cases ok
  | n, .ob _ _ _, ok => by unfold okV at ok; cases ok
  | n, .scr _, ok => by unfold okV at ok; cases ok
theorem okVs_lks : ∀ (n : Nat) (v : List PV), okVs n v = true → lks n v = true
  | n, [], _ => by unfold lks; rfl
  | n, x :: xs, ok => by
    unfold okVs at ok
    rw [Bool.and_eq_true] at ok
    unfold lks
    rw [okV_lk n x ok.1, okVs_lks n xs ok.2]
    rfl
end
mutual
theorem okV_up : ∀ (n m : Nat) (v : PV), okV n v = true → n ≤ m → okV m v = true
  | n, m, .non, _, _ => by unfold okV; rfl
  | n, m, .bl _, _, _ => by unfold okV; rfl
  | n, m, .int _, ok, _ => by unfold okV at ok ⊢; exact ok
  | n, m, .str x, ok, _ => by unfold okV at ok ⊢; exact ok
  | n + 1, 0, .tup xs, ok, h => by omega
  | n + 1, m + 1, .tup xs, ok, h => by
    unfold okV at ok ⊢
    rw [Bool.and_eq_true] at ok ⊢
    exact ⟨ok.1, okVs_up n m xs ok.2 (by omega)⟩
  | 0, m, .tup xs, ok, _ => by unfold okV at ok; cases ok
  | n, m, .ty _, ok, _ => by unfold okV at ok; cases ok
  | n, m, .lst _, ok, _ => by unfold okV at ok; cases ok
  | n, m, .dT _ _, ok, _ => by unfold okV at ok; cases ok
  | n, m, .dK _ _, ok, _ => by unfold okV at ok; cases ok
  | n, m, .ob _ _ _, ok, _ => by unfold okV at ok; cases ok
  | n, m, .scr _, ok, _ => by unfold okV at ok; cases ok
theorem okVs_up : ∀ (n m : Nat) (v : List PV), okVs n v = true → n ≤ m → okVs m v = true
  | n, m, [], _, _ => by unfold okVs; rfl
  | n, m, x :: xs, ok, h => by
    unfold okVs at ok ⊢
    rw [Bool.and_eq_true] at ok
    rw [okV_up n m x ok.1 h, okVs_up n m xs ok.2 h]
    rfl
end
theorem lks_ints (os : List Int) : lks 0 (os.map PV.int) = true := by
  induction os with
  | nil => unfold lks; rfl
  | cons o os ih =>
    rw [List.map_cons]
    unfold lks
    rw [ih]
    unfold lk
    rfl
theorem lk_octs (os : List Int) (h : os.length ≤ 16777216) : lk 1 (.tup (os.map PV.int)) = true := by
  unfold lk
  rw [lks_ints, decide_eq_true (by rw [List.length_map]; exact h)]
  rfl
/-- what the turns hand on: a value with its octets -/
def Good (v : PV) : Prop := okV 60 v = true ∧ (enc v).length < 16777216 ∧ cnt v ≤ 500000
theorem drawn_good {v : PV} (h : Drawn 4 v) : Good v := by
  obtain ⟨h1, h2, h3⟩ := h
  refine ⟨okV_up 4 60 v h1 (by decide), ?_, ?_⟩
  · have : Lg 4 = 256170 := by decide
    omega
  · have : Kg 4 = 341 := by decide
    omega
theorem good_first : Good (.tup [.non]) := ⟨by unfold okV okVs okVs; rfl, by decide +kernel, by decide⟩
end K80

set_option Elab.async false
set_option linter.all false
set_option maxRecDepth 100000
set_option exponentiation.threshold 100000
namespace K80
open PySem Pu
variable {C : Addr} {t : Tb}
/-! ### one turn of the law -/
structure TurnOk (t : Tb) : Prop where
  value : ValOk t.law_value 4
  octets : ∀ v, Good v → t.law_octets [.val v] = .ok (.new (.lst ((enc v).map PV.int)), [none])
  write : ∀ v, Good v → t.write_octets [.val v] = .ok (.val (.tup ((enc v).map PV.int)), [none])
  read : ∀ v, Good v → t.read_octets [.val (.tup ((enc v).map PV.int))] = .ok (.val v, [none])
  like : ∀ (n : Nat) (v : PV), n ≤ 64 → lk n v = true → t.law_like [.val v, .val v] = .ok (.val (.bl true), [none, none])
  unlike : ∀ o1 o2 : List Int, o1.length ≤ 16777216 → o2.length ≤ 16777216 → o1.all oct = true → o2.all oct = true → ∃ r, t.first_unlike [.val (.tup (o1.map PV.int)), .val (.tup (o2.map PV.int))] = .ok (.val r, [none, none]) ∧ Unlike o1 o2 r
theorem turn_T (j : Nat) : TurnOk (T C (j + 70)) where
  value := by
    have := value_T (C := C) 4 (j + 63) (by decide)
    rw [show 4 + (j + 63) + 3 = j + 70 by omega] at this
    exact this
  octets := fun v h => by
    have := lo_T (C := C) 60 (j + 8) v h.1 (by have := h.2.1; omega)
    rw [show 60 + (j + 8) + 2 = j + 70 by omega] at this
    exact this
  write := fun v h => by
    have := write_T (C := C) (j + 7) v h.1 (by have := h.2.1; omega) h.2.2
    rw [show j + 7 + 63 = j + 70 by omega] at this
    exact this
  read := fun v h => by
    have := read_T (C := C) (j + 5) v h.1 h.2.1 h.2.2
    rw [show j + 5 + 65 = j + 70 by omega] at this
    exact this
  like := fun n v hn h => by
    have := like_T (C := C) n (68 + j - n) v h hn
    rw [show n + (68 + j - n) + 2 = j + 70 by omega] at this
    exact this
  unlike := fun o1 o2 l1 l2 c1 c2 => by
    have := first_unlike_ok (C := C) (t := T C (j + 69)) (oct_T (j + 68)) l1 l2 c1 c2
    exact this
end K80

set_option Elab.async false
set_option linter.all false
set_option maxRecDepth 100000
set_option exponentiation.threshold 100000
namespace K80
open PySem Pu
variable {C : Addr} {t : Tb}
abbrev tE (sc : PV) (a b : Int) (last : PV) (tn told value due at_ : Option PV) : Pu.Env := [some (.val sc), some (.own (cupO a b)), some (.val last), tn.map SV.val, none, none, none, none, told.map SV.val, value.map SV.val, due.map SV.val, at_.map SV.val, none]
def octT (v : PV) : PV := .tup ((enc v).map PV.int)
def lastOf (v : PV) : PV := .tup [v, octT v]
abbrev tA (t : Tb) : MS := mAsg 9 (mCall t.law_value (mACons (mBor 1) (mACons (mK (.int 4)) mANil)))
abbrev tB (t : Tb) : MS := mAsg 10 (mApp fTuple (mACons (mCall t.law_octets (mACons (mNm 9) mANil)) mANil))
abbrev tC' (t : Tb) : MS := mAsg 8 (mCall t.write_octets (mACons (mNm 9) mANil))
abbrev tD (t : Tb) : MS := mIfS (mTOr (mTNot (mTruth (mCall t.law_like (mACons (mNm 8) (mACons (mNm 10) mANil))))) (mTNot (mTruth (mCall t.law_like (mACons (mCall t.read_octets (mACons (mNm 10) mANil)) (mACons (mNm 9) mANil)))))) (mRet (mK (.bl false))) mNx
abbrev tF (t : Tb) : MS := mAsg 11 (mCall t.first_unlike (mACons (mNm 10) (mACons (mBin pIx (mBor 2) (mK (.int 1))) mANil)))
theorem turn_head (h : TurnOk t) (sc : PV) (a b : Int) {lv : PV} (gl : Good lv) (tn told value due at_ : Option PV) (rest : MS) : ∃ (v : PV) (a' b' : Int) (r : PV), Good v ∧ Unlike (enc v) (enc lv) r ∧
    mSeq (tA t) (mSeq (tB t) (mSeq (tC' t) (mSeq (tD t) (mSeq (tF t) rest)))) (tE sc a b (lastOf lv) tn told value due at_) = rest (tE sc a' b' (lastOf lv) tn (some (octT v)) (some v) (some (octT v)) (some r)) := by
  obtain ⟨v, a', b', hv, e1⟩ := h.value a b
  have g := drawn_good hv
  obtain ⟨r, e5, hu⟩ := h.unlike (enc v) (enc lv) (by have := g.2.1; omega) (by have := gl.2.1; omega) (enc_oct 60 v g.1) (enc_oct 60 lv gl.1)
  refine ⟨v, a', b', r, g, hu, ?_⟩
  have c1 : mCall t.law_value (mACons (mBor 1) (mACons (mK (.int 4)) mANil)) (tE sc a b (lastOf lv) tn told value due at_) = .ok (.val v, tE sc a' b' (lastOf lv) tn told value due at_) :=
    (call_first (ps := [.int 4]) (w := SV.own) ⟨rfl, .inr rfl⟩ (args_cons rfl args_nil) e1).trans rfl
  have ov := h.octets v g
  have wv := h.write v g
  have rv := h.read v g
  have l1 := h.like 1 (octT v) (by decide) (lk_octs (enc v) (by have := g.2.1; omega))
  have l2 := h.like 60 v (by decide) (okV_lk 60 v g.1)
  refine (seq_nx (ρ1 := tE sc a' b' (lastOf lv) tn told (some v) due at_) (asg_of c1 (by cases value <;> rfl))).trans ?_
  refine (seq_nx (ρ1 := tE sc a' b' (lastOf lv) tn told (some v) (some (octT v)) at_) (asg_of (app1n (call1 (p := v) rfl ov) rfl) (by cases due <;> rfl))).trans ?_
  refine (seq_nx (ρ1 := tE sc a' b' (lastOf lv) tn (some (octT v)) (some v) (some (octT v)) at_) (asg_of (call1 (p := v) rfl wv) (by cases told <;> rfl))).trans ?_
  refine (seq_nx (ρ1 := tE sc a' b' (lastOf lv) tn (some (octT v)) (some v) (some (octT v)) at_) ((ifs_f ((tor_f (tnot_of (truth_of' (call2 (p := octT v) (q := octT v) rfl rfl l1) rfl))).trans (tnot_of (truth_of' (call2 (p := v) (q := v) (call1 (p := octT v) rfl rv) rfl l2) rfl)))).trans rfl)).trans ?_
  exact seq_nx (asg_of (call2 (p := octT v) (q := octT lv) rfl (bin_val (a := lastOf lv) (b := .int 1) rfl rfl rfl) e5) (by cases at_ <;> rfl))
end K80

set_option Elab.async false
set_option linter.all false
set_option maxRecDepth 100000
set_option exponentiation.threshold 100000
namespace K80
open PySem Pu
variable {C : Addr} {t : Tb}
theorem pIx_last1 (lv : PV) : pIx (lastOf lv) (.int 1) = some (.val (octT lv)) := rfl
theorem pIx_last0 (lv : PV) : pIx (lastOf lv) (.int 0) = some (.val lv) := rfl
theorem eqPs_ints : ∀ xs : List Int, eqPs (xs.map PV.int) (xs.map PV.int) = true
  | [] => by unfold eqPs; rfl
  | x :: xs => by
    rw [List.map_cons]
    unfold eqPs
    rw [eqPs_ints xs]
    simp [eqP]
theorem cmpOks_ints : ∀ (n : Nat) (xs : List Int), cmpOks n (xs.map PV.int) = true
  | n, [] => by unfold cmpOks; rfl
  | n, x :: xs => by
    rw [List.map_cons]
    unfold cmpOks
    rw [cmpOks_ints n xs]
    unfold cmpOk
    rfl
theorem cut_take {α : Type} (xs : List α) (j : Nat) (h : j ≤ xs.length) : cutL xs none (some (j : Int)) = xs.take j := by
  unfold cutL
  have e1 : HT.sIx xs.length 0 none = 0 := rfl
  have e2 : HT.sIx xs.length xs.length (some (j : Int)) = j := by rw [HT.sIx_nat, Nat.min_eq_left h]
  rw [e1, e2]
  rfl
theorem pNe_same {o1 o2 : List Int} {j : Nat} (h1 : j ≤ o1.length) (h2 : j ≤ o2.length) (h : o1.take j = o2.take j) : pNe (.tup (cutL (o1.map PV.int) none (some (j : Int)))) (.tup (cutL (o2.map PV.int) none (some (j : Int)))) = some (.val (.bl false)) := by
  rw [cut_take _ _ (by rw [List.length_map]; exact h1), cut_take _ _ (by rw [List.length_map]; exact h2), ← List.map_take, ← List.map_take, h]
  have e1 : cmpOk 64 (.tup ((o2.take j).map PV.int)) = true := by unfold cmpOk; exact cmpOks_ints _ _
  have e2 : eqP (.tup ((o2.take j).map PV.int)) (.tup ((o2.take j).map PV.int)) = true := by unfold eqP; exact eqPs_ints _
  unfold pNe
  rw [e1, e2]
  rfl
end K80

set_option Elab.async false
set_option linter.all false
set_option maxRecDepth 100000
set_option exponentiation.threshold 100000
namespace K80
open PySem Pu
variable {C : Addr} {t : Tb}
abbrev tG (t : Tb) : MS := mIfS (mTest (mBin pIs (mBor 11) (mK .non)))
    (mIfS (mTNot (mTruth (mCall t.law_like (mACons (mNm 9) (mACons (mBin pIx (mBor 2) (mK (.int 0))) mANil))))) (mRet (mK (.bl false))) mNx)
    (mIfS (mTOr (mTest (mBin pNe (mSl (mBor 10) mNoPart (mPart (mNm 11))) (mSl (mBin pIx (mBor 2) (mK (.int 1))) mNoPart (mPart (mNm 11))))) (mTOr (mTAnd (mTest (mBin pLt (mBor 11) (mApp fLen (mACons (mBor 10) mANil)))) (mTAnd (mTest (mBin pLt (mBor 11) (mApp fLen (mACons (mBin pIx (mBor 2) (mK (.int 1))) mANil)))) (mTest (mBin pEq (mBin pIx (mBor 10) (mBor 11)) (mBin pIx (mBin pIx (mBor 2) (mK (.int 1))) (mBor 11)))))) (mTest (mBin pGt (mBor 11) (mApp fMin2 (mACons (mApp fLen (mACons (mBor 10) mANil)) (mACons (mApp fLen (mACons (mBin pIx (mBor 2) (mK (.int 1))) mANil)) mANil))))))) (mRet (mK (.bl false))) mNx)
abbrev tH : MS := mAsg 2 (mTup (mACons (mNm 9) (mACons (mNm 10) mANil)))
theorem sl_of {m : M} {ρ : Pu.Env} {os : List Int} {j : Nat} (h : m ρ = .ok (.val (.tup (os.map PV.int)), ρ)) (hj : ρ[11]? = some (some (.val (.int (j : Int))))) : mSl m mNoPart (mPart (mNm 11)) ρ = .ok (.val (.tup (cutL (os.map PV.int) none (some (j : Int)))), ρ) := by
  have e : mOp m ρ = .ok (.val (.tup (os.map PV.int)), ρ) := by unfold mOp; rw [h]; rfl
  have e2 : mNm 11 ρ = .ok (.val (.int j), ρ) := by unfold mNm; rw [hj]
  have e3 : mPart (mNm 11) ρ = .ok (some (j : Int), ρ) := by unfold mPart; rw [e2]; rfl
  unfold mSl mNoPart
  rw [e, Res.bind_ok, Res.bind_ok]
  dsimp only
  rw [e3]
  rfl
theorem turn_tail (h : TurnOk t) (sc : PV) (a b : Int) {v lv : PV} (g : Good v) (gl : Good lv) (tn told : Option PV) {r : PV} (hu : Unlike (enc v) (enc lv) r) :
    mSeq (tG t) tH (tE sc a b (lastOf lv) tn told (some v) (some (octT v)) (some r)) = .ok (.nx, tE sc a b (lastOf v) tn told (some v) (some (octT v)) (some r)) := by
  refine (seq_nx (ρ1 := tE sc a b (lastOf lv) tn told (some v) (some (octT v)) (some r)) ?_).trans rfl
  rcases hu with ⟨rfl, he⟩ | ⟨j, rfl, hj1, hj2, ht, hd, _⟩
  · have := enc_inj g.1 g.2.1 g.2.2 gl.1 gl.2.1 gl.2.2 he
    subst this
    refine (ifs_t (ρ1 := tE sc a b (lastOf v) tn told (some v) (some (octT v)) (some .non)) (test_of (bin_val (a := .non) (b := .non) rfl rfl rfl))).trans ?_
    exact (ifs_f (tnot_of (truth_of' (call2 (p := v) (q := v) rfl (bin_val (a := lastOf v) (b := .int 0) rfl rfl rfl) (h.like 60 v (by decide) (okV_lk 60 v g.1))) rfl))).trans rfl
  · have d1 : mBor 10 (tE sc a b (lastOf lv) tn told (some v) (some (octT v)) (some (.int (j : Int)))) = .ok (.val (octT v), tE sc a b (lastOf lv) tn told (some v) (some (octT v)) (some (.int (j : Int)))) := rfl
    have d2 : mBin pIx (mBor 2) (mK (.int 1)) (tE sc a b (lastOf lv) tn told (some v) (some (octT v)) (some (.int (j : Int)))) = .ok (.val (octT lv), tE sc a b (lastOf lv) tn told (some v) (some (octT v)) (some (.int (j : Int)))) := bin_val (a := lastOf lv) (b := .int 1) rfl rfl rfl
    have d3 : mBor 11 (tE sc a b (lastOf lv) tn told (some v) (some (octT v)) (some (.int (j : Int)))) = .ok (.val (.int (j : Int)), tE sc a b (lastOf lv) tn told (some v) (some (octT v)) (some (.int (j : Int)))) := rfl
    have f1 := app1 (g := fLen) (r := .val (.int (enc v).length)) d1 (by simp [fLen, octT])
    have f2 := app1 (g := fLen) (r := .val (.int (enc lv).length)) d2 (by simp [fLen, octT])
    have s1 := sl_of (os := enc v) (j := j) d1 rfl
    have s2 := sl_of (os := enc lv) (j := j) d2 rfl
    refine (ifs_f (ρ1 := tE sc a b (lastOf lv) tn told (some v) (some (octT v)) (some (.int (j : Int)))) (test_of (bin_val (a := .int (j : Int)) (b := .non) rfl rfl rfl))).trans ?_
    refine (ifs_f (ρ1 := tE sc a b (lastOf lv) tn told (some v) (some (octT v)) (some (.int (j : Int)))) ?_).trans rfl
    refine (tor_f (test_of (bin_val s1 s2 (pNe_same hj1 hj2 ht)))).trans ?_
    refine (tor_f ?_).trans (test_of (bin_val d3 (app2 f1 f2 rfl) ?_))
    · by_cases c1 : (j : Int) < ((enc v).length : Int)
      · refine (tand_t (test_of (bin_val d3 f1 (r := .val (.bl true)) ?_))).trans ?_
        · show some (RV.val (PV.bl (decide _))) = _
          rw [decide_eq_true c1]
        · by_cases c2 : (j : Int) < ((enc lv).length : Int)
          · refine (tand_t (test_of (bin_val d3 f2 (r := .val (.bl true)) ?_))).trans ?_
            · show some (RV.val (PV.bl (decide _))) = _
              rw [decide_eq_true c2]
            · have b1 : (enc v)[j]? = some (enc v)[j] := List.getElem?_eq_getElem (by omega)
              have b2 : (enc lv)[j]? = some (enc lv)[j] := List.getElem?_eq_getElem (by omega)
              have hne : ¬ (enc v)[j] = (enc lv)[j] := fun z => hd (by omega) (by omega) (by rw [b1, b2, z])
              exact test_of (bin_val (bin_val d1 d3 (at_ok b1)) (bin_val d2 d3 (at_ok b2)) (by simp [pEq, cmpOk, eqP, hne]))
          · refine tand_f (test_of (bin_val d3 f2 (r := .val (.bl false)) ?_))
            show some (RV.val (PV.bl (decide _))) = _
            rw [decide_eq_false c2]
      · refine tand_f (test_of (bin_val d3 f1 (r := .val (.bl false)) ?_))
        show some (RV.val (PV.bl (decide _))) = _
        rw [decide_eq_false c1]
    · show some (RV.val (PV.bl (decide _))) = _
      rw [decide_eq_false (by split <;> omega)]
end K80

set_option Elab.async false
set_option linter.all false
set_option maxRecDepth 100000
set_option exponentiation.threshold 100000
namespace K80
open PySem Pu
variable {C : Addr} {t : Tb}
abbrev tAll (t : Tb) : MS := mSeq (tA t) (mSeq (tB t) (mSeq (tC' t) (mSeq (tD t) (mSeq (tF t) (mSeq (tG t) tH)))))
theorem turns (h : TurnOk t) (sc : PV) : ∀ (xs : List PV) (a b : Int) (lv : PV) (tn told value due at_ : Option PV), Good lv →
    ∃ (a' b' : Int) (lv' : PV) (tn' told' value' due' at' : Option PV), Good lv' ∧ Pu.forM (mgNm 3) (tAll t) xs (tE sc a b (lastOf lv) tn told value due at_) = .ok (.nx, tE sc a' b' (lastOf lv') tn' told' value' due' at')
  | [], a, b, lv, tn, told, value, due, at_, g => ⟨a, b, lv, tn, told, value, due, at_, g, rfl⟩
  | x :: xs, a, b, lv, tn, told, value, due, at_, g => by
    obtain ⟨v, a1, b1, r, gv, hu, e1⟩ := turn_head h sc a b g (some x) told value due at_ (mSeq (tG t) tH)
    have e2 := turn_tail h sc a1 b1 gv g (some x) (some (octT v)) hu
    obtain ⟨a2, b2, lv', tn', told', value', due', at', g', e3⟩ := turns h sc xs a1 b1 v (some x) (some (octT v)) (some v) (some (octT v)) (some r) gv
    refine ⟨a2, b2, lv', tn', told', value', due', at', g', ?_⟩
    rw [for_cons (ρ1 := tE sc a b (lastOf lv) (some x) told value due at_) (by cases tn <;> rfl) (e1.trans e2)]
    exact e3
theorem rng10 (ρ : Pu.Env) : ∃ xs, mRng rng1 (mACons (mK (.int 10)) mANil) ρ = .ok (xs, ρ) := ⟨rangeOf 0 (10 : Nat), rng1_of (n := 10) rfl (by decide)⟩
theorem l2_ok (h : TurnOk t) (sc : PV) (a b : Int) : ∃ (a' b' : Int) (lv' : PV) (tn' told' value' due' at' : Option PV), l_2 C t (tE sc a b (lastOf (.tup [.non])) none none none none none) = .ok (.nx, tE sc a' b' (lastOf lv') tn' told' value' due' at') := by
  obtain ⟨xs, e⟩ := rng10 (tE sc a b (lastOf (.tup [.non])) none none none none none)
  obtain ⟨a', b', lv', tn', told', value', due', at', _, e2⟩ := turns h sc xs a b (.tup [.non]) none none none none none good_first
  exact ⟨a', b', lv', tn', told', value', due', at', (mfor_of e).trans e2⟩
end K80

set_option Elab.async false
set_option linter.all false
set_option maxRecDepth 100000
set_option exponentiation.threshold 100000
namespace K80
open PySem Pu
variable {C : Addr} {t : Tb}
/-! ### the great number -/
theorem log_le {n B : Nat} (hB : B < 100000) (h : n ≤ 2 ^ B) : n.log2 ≤ B := by
  by_cases h0 : n = 0
  · subst h0; simp
  · have := (Nat.log2_lt h0 (k := B + 1)).mpr (Nat.lt_of_le_of_lt h (Nat.pow_lt_pow_right (by decide) (by omega)))
    omega
theorem B64_2 : B64 = 2 ^ 448 := by decide +kernel
theorem B54_2 : B54 = 2 ^ 378 := by decide +kernel
theorem gr_mul {k : Nat} (hk : k < 14) : pMul (.int ((B54 * B64 ^ k : Nat) : Int)) (.int (B64 : Int)) = some (.val (.int ((B54 * B64 ^ (k + 1) : Nat) : Int))) := by
  have h1 : B54 * B64 ^ k = 2 ^ (378 + 448 * k) := by rw [B64_2, B54_2, ← Nat.pow_mul, ← Nat.pow_add]
  have l1 : (B54 * B64 ^ k).log2 ≤ 378 + 448 * k := log_le (by omega) (by rw [h1]; exact Nat.le_refl _)
  have l2 : B64.log2 ≤ 448 := log_le (by decide) (by rw [B64_2]; exact Nat.le_refl _)
  rw [mul_log (by rw [Int.natAbs_natCast, Int.natAbs_natCast]; omega)]
  rw [Nat.pow_succ, ← Nat.mul_assoc]
  simp
abbrev gE (sc : PV) (a b : Int) (last : PV) (tn gr dp told value due at_ : Option PV) : Pu.Env := [some (.val sc), some (.own (cupO a b)), some (.val last), tn.map SV.val, gr.map SV.val, dp.map SV.val, none, none, told.map SV.val, value.map SV.val, due.map SV.val, at_.map SV.val, none]
theorem gr_step (sc : PV) (a b : Int) (last : PV) (tn dp told value due at_ : Option PV) {k : Nat} (hk : k < 14) : mAsg 4 (mBin pMul (mBor 4) (mBin pPow (mK (.int 128)) (mK (.int 64)))) (gE sc a b last tn (some (.int ((B54 * B64 ^ k : Nat) : Int))) dp told value due at_) =
    .ok (.nx, gE sc a b last tn (some (.int ((B54 * B64 ^ (k + 1) : Nat) : Int))) dp told value due at_) :=
  asg_of (bin_val (a := .int ((B54 * B64 ^ k : Nat) : Int)) rfl (pow64 _) (gr_mul hk)) rfl
theorem gr_loop (sc : PV) (a b : Int) (last : PV) (dp told value due at_ : Option PV) : ∀ (xs : List PV) (k : Nat) (tn : Option PV), k + xs.length ≤ 14 →
    ∃ tn', Pu.forM (mgNm 3) (mAsg 4 (mBin pMul (mBor 4) (mBin pPow (mK (.int 128)) (mK (.int 64))))) xs (gE sc a b last tn (some (.int ((B54 * B64 ^ k : Nat) : Int))) dp told value due at_) = .ok (.nx, gE sc a b last tn' (some (.int ((B54 * B64 ^ (k + xs.length) : Nat) : Int))) dp told value due at_)
  | [], k, tn, _ => ⟨tn, rfl⟩
  | x :: xs, k, tn, h => by
    rw [List.length_cons] at h
    obtain ⟨tn', e⟩ := gr_loop sc a b last dp told value due at_ xs (k + 1) (some x) (by omega)
    refine ⟨tn', ?_⟩
    rw [for_cons (ρ1 := gE sc a b last (some x) (some (.int ((B54 * B64 ^ k : Nat) : Int))) dp told value due at_) (by cases tn <;> rfl) (gr_step sc a b last (some x) dp told value due at_ (by omega)), e, List.length_cons, show k + 1 + xs.length = k + (xs.length + 1) by omega]
end K80

set_option Elab.async false
set_option linter.all false
set_option maxRecDepth 100000
set_option exponentiation.threshold 100000
namespace K80
open PySem Pu
variable {C : Addr} {t : Tb}
theorem B950i : ((B54 * B64 ^ 14 : Nat) : Int) = great := by
  rw [B950]
  unfold great
  simp
theorem l34_ok (sc : PV) (a b : Int) (last : PV) (tn told value due at_ : Option PV) : ∃ tn', mSeq (l_3 C t) (l_4 C t) (gE sc a b last tn none none told value due at_) = .ok (.nx, gE sc a b last tn' (some (.int great)) none told value due at_) := by
  obtain ⟨xs, e1, e2⟩ := rng14
  obtain ⟨tn', e⟩ := gr_loop sc a b last none told value due at_ xs 0 tn (by omega)
  rw [e2, Nat.zero_add, B950i] at e
  refine ⟨tn', (seq_nx (ρ1 := gE sc a b last tn (some (.int ((B54 * B64 ^ 0 : Nat) : Int))) none told value due at_) (asg_of (pow54 _) ?_)).trans ((mfor_of (by rw [e1])).trans e)⟩
  rw [Nat.pow_zero, Nat.mul_one]
  rfl
theorem great_ok : okV 60 (.tup [.int (great - 1), .int (-great)]) = true := by
  have e : ((128 ^ 950 : Nat) : Int) = 128 ^ 950 := by simp
  have p : 0 < (128 : Nat) ^ 950 := Nat.pow_pos (by decide)
  unfold okV okVs okVs okVs okV great
  rw [← e]
  generalize (128 : Nat) ^ 950 = B at p ⊢
  simp
  omega
end K80

set_option Elab.async false
set_option linter.all false
set_option maxRecDepth 100000
set_option exponentiation.threshold 100000
namespace K80
open PySem Pu
variable {C : Addr} {t : Tb}
theorem enc_int_le {n : Nat} {i : Int} (h : okV n (.int i) = true) : (enc (.int i)).length ≤ 952 := by
  have e : ((128 ^ 950 : Nat) : Int) = 128 ^ 950 := by simp
  unfold okV at h
  rw [← e, Bool.and_eq_true, decide_eq_true_eq, decide_eq_true_eq] at h
  have key : ∀ k : Nat, k < 128 ^ 950 → (dg k).length ≤ 951 := fun k hk => dg_len 950 k hk
  generalize (128 : Nat) ^ 950 = B at h key
  unfold enc
  split
  · have := key i.toNat (by omega)
    rw [List.length_cons]; omega
  · have := key (-i - 1).toNat (by omega)
    rw [List.length_cons]; omega
theorem good_great : Good (.tup [.int (great - 1), .int (-great)]) := by
  refine ⟨great_ok, ?_, by unfold cnt cnts cnts cnts cnt; decide⟩
  have e := great_ok
  unfold okV okVs okVs okVs at e
  rw [Bool.and_eq_true, Bool.and_eq_true, Bool.and_eq_true] at e
  have h1 := enc_int_le e.2.1
  have h2 := enc_int_le e.2.2.1
  have h3 : (dg 2).length ≤ 2 := dg_len 1 2 (by decide)
  unfold enc encs encs encs
  rw [List.length_cons, List.length_append, List.length_append, List.length_append]
  show (dg 2).length + _ + 1 < _
  simp only [List.length_nil]
  omega
/-- n tuples about nothing -/
def nest : Nat → PV
  | 0 => .tup []
  | n + 1 => .tup [nest n]
theorem nest_ok : ∀ n : Nat, okV (n + 1) (nest n) = true
  | 0 => by unfold nest okV okVs; rfl
  | n + 1 => by
    unfold nest okV okVs okVs
    rw [nest_ok n]
    rfl
theorem nest_len : ∀ n : Nat, (enc (nest n)).length = 2 * n + 2
  | 0 => by
    unfold nest enc encs
    rw [show ([] : List PV).length = 0 from rfl, dg_small (by decide)]
    rfl
  | n + 1 => by
    unfold nest enc encs encs
    rw [show [nest n].length = 1 from rfl, dg_small (by decide)]
    simp only [List.length_cons, List.length_append, List.length_nil, nest_len n]
    omega
theorem nest_cnt : ∀ n : Nat, cnt (nest n) = n + 1
  | 0 => by unfold nest cnt cnts; rfl
  | n + 1 => by
    unfold nest cnt cnts cnts
    rw [nest_cnt n]
    omega
theorem good_deep : Good (nest 59) := ⟨nest_ok 59, by rw [nest_len]; decide, by rw [nest_cnt]; decide⟩
end K80

set_option Elab.async false
set_option linter.all false
set_option maxRecDepth 100000
set_option exponentiation.threshold 100000
namespace K80
open PySem Pu
variable {C : Addr} {t : Tb}
theorem l0_ok (hc : ∀ ns : List Int, ns.length ≤ 1000 → ∃ a b : Int, t.law_cup [.val (.scr ns)] = .ok (.new (cupO a b), [none])) (ns : List Int) (hz : ns.length ≤ 1000) : ∃ a b : Int,
    l_0 C t [some (.val (.scr ns)), none, none, none, none, none, none, none, none, none, none, none, none] = .ok (.nx, [some (.val (.scr ns)), some (.own (cupO a b)), none, none, none, none, none, none, none, none, none, none, none]) := by
  obtain ⟨a, b, e⟩ := hc ns hz
  exact ⟨a, b, asg_of (call1 (p := .scr ns) rfl e) rfl⟩
theorem octT_first : octT (.tup [.non]) = .tup [.int 4, .int 1, .int 0] := by
  have : enc (.tup [.non]) = [4, 1, 0] := by
    unfold enc encs encs enc
    rw [show [PV.non].length = 1 from rfl, dg_small (by decide)]
    rfl
  unfold octT
  rw [this]
  rfl
theorem l1_ok (sc : PV) (a b : Int) : l_1 C t [some (.val sc), some (.own (cupO a b)), none, none, none, none, none, none, none, none, none, none, none] = .ok (.nx, tE sc a b (lastOf (.tup [.non])) none none none none none) := by
  have e : lastOf (.tup [.non]) = .tup [.tup [.non], .tup [.int 4, .int 1, .int 0]] := by unfold lastOf; rw [octT_first]
  rw [e]
  rfl
theorem back_ok (h : TurnOk t) {v : PV} (g : Good v) {m : M} {ρ : Pu.Env} (hm : m ρ = .ok (.val v, ρ)) :
    mIfS (mTNot (mTruth (mCall t.law_like (mACons (mCall t.read_octets (mACons (mCall t.write_octets (mACons m mANil)) mANil)) (mACons m mANil))))) (mRet (mK (.bl false))) mNx ρ = .ok (.nx, ρ) :=
  (ifs_f (tnot_of (truth_of' (call2 (p := v) (q := v) (call1 (p := octT v) (call1 hm (h.write v g)) (h.read v g)) hm (h.like 60 v (by decide) (okV_lk 60 v g.1))) rfl))).trans rfl
theorem l5_ok (h : TurnOk t) (sc : PV) (a b : Int) (last : PV) (tn dp told value due at_ : Option PV) : l_5 C t (gE sc a b last tn (some (.int great)) dp told value due at_) = .ok (.nx, gE sc a b last tn (some (.int great)) dp told value due at_) :=
  back_ok h good_great rfl
theorem l6_ok (sc : PV) (a b : Int) (last : PV) (tn gr told value due at_ : Option PV) : l_6 C t (gE sc a b last tn gr none told value due at_) = .ok (.nx, gE sc a b last tn gr (some (nest 0)) told value due at_) := rfl
theorem dp_loop (sc : PV) (a b : Int) (last : PV) (gr told value due at_ : Option PV) : ∀ (xs : List PV) (k : Nat) (tn : Option PV),
    ∃ tn', Pu.forM (mgNm 3) (mAsg 5 (mTup (mACons (mNm 5) mANil))) xs (gE sc a b last tn gr (some (nest k)) told value due at_) = .ok (.nx, gE sc a b last tn' gr (some (nest (k + xs.length))) told value due at_)
  | [], k, tn => ⟨tn, rfl⟩
  | x :: xs, k, tn => by
    obtain ⟨tn', e⟩ := dp_loop sc a b last gr told value due at_ xs (k + 1) (some x)
    refine ⟨tn', ?_⟩
    rw [for_cons (ρ1 := gE sc a b last (some x) gr (some (nest k)) told value due at_) (ρ2 := gE sc a b last (some x) gr (some (nest (k + 1))) told value due at_) (by cases tn <;> rfl) rfl, e, List.length_cons, show k + 1 + xs.length = k + (xs.length + 1) by omega]
theorem rng59 (ρ : Pu.Env) : ∃ xs, mRng rng1 (mACons (mK (.int 59)) mANil) ρ = .ok (xs, ρ) ∧ xs.length = 59 := ⟨rangeOf 0 (59 : Nat), rng1_of (n := 59) rfl (by decide), by simp [rangeOf]⟩
theorem l7_ok (sc : PV) (a b : Int) (last : PV) (tn gr told value due at_ : Option PV) : ∃ tn', l_7 C t (gE sc a b last tn gr (some (nest 0)) told value due at_) = .ok (.nx, gE sc a b last tn' gr (some (nest 59)) told value due at_) := by
  obtain ⟨xs, e, hl⟩ := rng59 (gE sc a b last tn gr (some (nest 0)) told value due at_)
  obtain ⟨tn', e2⟩ := dp_loop sc a b last gr told value due at_ xs 0 tn
  rw [hl] at e2
  exact ⟨tn', (mfor_of e).trans e2⟩
theorem l8_ok (h : TurnOk t) (sc : PV) (a b : Int) (last : PV) (tn gr told value due at_ : Option PV) : l_8 C t (gE sc a b last tn gr (some (nest 59)) told value due at_) = .ok (.nx, gE sc a b last tn gr (some (nest 59)) told value due at_) :=
  back_ok h good_deep rfl
end K80

set_option Elab.async false
set_option linter.all false
set_option maxRecDepth 100000
set_option exponentiation.threshold 100000
namespace K80
open PySem Pu
variable {C : Addr} {t : Tb}
/-- the law's names after the turns: b for bad, o for odd, d for told -/
abbrev hE (sc : PV) (a b : Int) (last : PV) (tn dp : Option PV) (bs os ds : Option SV) (value due at_ : Option PV) : Pu.Env := [some (.val sc), some (.own (cupO a b)), some (.val last), tn.map SV.val, some (.val (.int great)), dp.map SV.val, bs, os, ds, value.map SV.val, due.map SV.val, at_.map SV.val, none]
def odds : List PV := [.non, .lst [.int 1, .int 0], .tup [.int 256], .tup [.int (-1)], .tup [.bl true], .tup [.int 0, .str "a"], .str "a"]
theorem l9_ok (sc : PV) (a b : Int) (last : PV) (tn dp told value due at_ : Option PV) : l_9 C t (hE sc a b last tn dp none none (told.map SV.val) value due at_) = .ok (.nx, hE sc a b last tn dp (some (.own (.lst bads))) none (told.map SV.val) value due at_) := by
  unfold l_9 bads
  rfl
theorem l11_ok (sc : PV) (a b : Int) (last : PV) (tn dp : Option PV) (bs ds : Option SV) (value due at_ : Option PV) : l_11 C t (hE sc a b last tn dp bs none ds value due at_) = .ok (.nx, hE sc a b last tn dp bs (some (.own (.lst odds))) ds value due at_) := by
  unfold l_11 odds
  rfl
theorem unl (h : TurnOk t) (o1 o2 : List Int) (h1 : o1.length ≤ 16777216) (h2 : o2.length ≤ 16777216) (c1 : o1.all oct = true) (c2 : o2.all oct = true) {r : PV} (hr : ∀ x, Unlike o1 o2 x → x = r) :
    t.first_unlike [.val (.tup (o1.map PV.int)), .val (.tup (o2.map PV.int))] = .ok (.val r, [none, none]) := by
  obtain ⟨x, e, u⟩ := h.unlike o1 o2 h1 h2 c1 c2
  rw [e, hr x u]
theorem u1 : ∀ x, Unlike [1, 2] [1, 2, 3] x → x = .int 2 := by
  rintro x (⟨rfl, h⟩ | ⟨j, rfl, h1, h2, h3, h4, h5⟩)
  · simp at h
  · have : j = 2 := by
      match j, h1, h4 with
      | 0, _, h4 => simp at h4
      | 1, _, h4 => simp at h4
      | 2, _, _ => rfl
    rw [this]; rfl
theorem u2 : ∀ x, Unlike [1, 2, 3] [1, 2] x → x = .int 2 := by
  rintro x (⟨rfl, h⟩ | ⟨j, rfl, h1, h2, h3, h4, h5⟩)
  · simp at h
  · have : j = 2 := by
      match j, h2, h4 with
      | 0, _, h4 => simp at h4
      | 1, _, h4 => simp at h4
      | 2, _, _ => rfl
    rw [this]; rfl
theorem u3 : ∀ x, Unlike [7] [7] x → x = .non := by
  rintro x (⟨rfl, h⟩ | ⟨j, rfl, h1, h2, h3, h4, h5⟩)
  · rfl
  · exact absurd rfl h5
theorem u4 : ∀ x, Unlike [] [0] x → x = .int 0 := by
  rintro x (⟨rfl, h⟩ | ⟨j, rfl, h1, h2, h3, h4, h5⟩)
  · simp at h
  · have : j = 0 := by simpa using h1
    rw [this]; rfl
abbrev dL : PV := .lst [.int 2, .int 2, .non, .int 0]
theorem l12_ok (h : TurnOk t) (sc : PV) (a b : Int) (last : PV) (tn dp : Option PV) (bs os : Option SV) (told value due at_ : Option PV) : l_12 C t (hE sc a b last tn dp bs os (told.map SV.val) value due at_) = .ok (.nx, hE sc a b last tn dp bs os (some (.own (.lst [.int 2, .int 2, .non, .int 0]))) value due at_) := by
  have k1 := unl h [1, 2] [1, 2, 3] (by decide) (by decide) (by decide) (by decide) u1
  have k2 := unl h [1, 2, 3] [1, 2] (by decide) (by decide) (by decide) (by decide) u2
  have k3 := unl h [7] [7] (by decide) (by decide) (by decide) (by decide) u3
  have k4 := unl h [] [0] (by decide) (by decide) (by decide) (by decide) u4
  refine asg_of (ρ1 := hE sc a b last tn dp bs os (told.map SV.val) value due at_) (lst_of (args_cons (call2 (p := .tup [.int 1, .int 2]) (q := .tup [.int 1, .int 2, .int 3]) rfl rfl k1) (args_cons (call2 (p := .tup [.int 1, .int 2, .int 3]) (q := .tup [.int 1, .int 2]) rfl rfl k2) (args_cons (call2 (p := .tup [.int 7]) (q := .tup [.int 7]) rfl rfl k3) (args_cons (call2 (p := .tup []) (q := .tup [.int 0]) rfl rfl k4) args_nil)))) (by decide)) (by cases told <;> rfl)
theorem l13_ok (h : TurnOk t) (sc : PV) (a b : Int) (last : PV) (tn dp : Option PV) (bs os : Option SV) (value due at_ : Option PV) : l_13 C t (hE sc a b last tn dp bs os (some (.own (.lst [.int 2, .int 2, .non, .int 0]))) value due at_) = .ok (.nx, hE sc a b last tn dp bs os (some (.val dL)) value due at_) := by
  have k := h.like 1 dL (by decide) (by unfold dL lk lks lks lks lks lks lk; rfl)
  have e1 : mNm 8 (hE sc a b last tn dp bs os (some (.own (.lst [.int 2, .int 2, .non, .int 0]))) value due at_) = .ok (.val dL, hE sc a b last tn dp bs os (some (.val dL)) value due at_) := rfl
  have e2 : mLst (mACons (mK (.int 2)) (mACons (mK (.int 2)) (mACons (mK .non) (mACons (mK (.int 0)) mANil)))) (hE sc a b last tn dp bs os (some (.val dL)) value due at_) = .ok (.new (.lst [.int 2, .int 2, .non, .int 0]), hE sc a b last tn dp bs os (some (.val dL)) value due at_) := rfl
  have e3 := args_cons e1 (args_consN e2 args_nil)
  exact (ifs_f (tnot_of (truth_of' (call_vals (ps := [dL, dL]) e3 k) rfl))).trans rfl
end K80

set_option Elab.async false
set_option linter.all false
set_option maxRecDepth 100000
set_option maxHeartbeats 4000000
/-! M82a: the errors of law k80: defs that raise, _law_refused, a lambda handed to it. -/
namespace K80
open PySem PySem.Spec PyProof.Rows L2 Pu LamX
abbrev s_law_refused : Stmt := topS 32
theorem sc_law_refused : FnScope ["call", "e"] ["call"] (defScope s_law_refused) := ⟨rfl, rfl, rfl, by decide +kernel, rfl, by decide +kernel, by decide +kernel⟩
/-- what is known of the errors -/
structure FX (K : PySem.W.Frag) (mg : Str → Option Value) where
  CH : Addr
  CI : Addr
  gH : mg "HumError" = some (.ref CH)
  gI : mg "InvalidOctets" = some (.ref CI)
  xI : PySem.W.excIn K CI [.type "ValueError", .type "Exception", .type "BaseException", .type "object"] "ValueError.__new__" = true
  kI : PySem.W.keepIn K (.ref CI) = true
  bI : PySem.W.subIn K (.ref CI) (.type "BaseException") = some true
  tI : PySem.W.typeIn K (.ref CI) = some (.type "type")
  eI : PySem.W.exmOne K (.ref CI) (.ref CH) = some true
  cI : ExcC K CI
  iI : PySem.W.kitOne K (.ref CI) (.ref CI) = some true
  refused : FnF K mg "_law_refused" "_law_refused" s_law_refused ["call"]
/-- a def that raises InvalidOctets at such values -/
def spX (K : PySem.W.Frag) (CI : Addr) (ok : PV → Prop) : Sp := fun vs H _ E => ∃ F v p, vs = [v] ∧ Rel K F H [some (.val p)] [some v] ∧ ok p ∧ ∀ H', (∀ b o, H b = some o → H' b = some o) → E (.ref CI) none H'
section
variable {P : Program} {w : World} {K : PySem.W.Frag} {mg : Str → Option Value} {base : Heap} {Md : Facts K mg} {t : Tb} {m : Nat}
theorem not_own {p : PV} {v : V} {a : Addr} : ¬ Own [some (.val p)] [some v] a := by
  rintro ⟨j, (⟨o, e⟩ | ⟨o, e⟩), _⟩
  · match j, e with
    | 0, e => cases e
    | j + 1, e => simp at e
  · match j, e with
    | 0, e => cases e
    | j + 1, e => simp at e
theorem ok_writeX (X : FX K mg) (ih : AllOk P w K mg base Md t (m + 2)) {ok : PV → Prop} (hb : ∀ p, ok p → t.counted [.val p, .val (.int 0)] = .ok (.val .non, [none, none])) :
    FnOk P w K mg base (L2.CX P w) (m + 3) Md.write_octets.f Md.write_octets.fd ["value"] (spX K X.CI ok) := by
  refine Md.write_octets.fn.okX sc_write_octets (fun vs H Q E h => ?_) (fun cdv A outer s H vs Q E hr h => ?_)
  · obtain ⟨F, v, p, rfl, _⟩ := h
    rfl
  · obtain ⟨F, v, p, rfl, R, hp, q⟩ := h
    refine ⟨_, pss_cons (ps_if (ST.cmp (W := W0) op_is prim_is (SE.call ih.counted hr Md.counted.gl Md.counted.fn.kp Md.counted.bd passZ (fun _ _ _ _ _ h => h.elim) rfl (SA.cons (SE.nm (pv 0)) (SA.cons SE.int SA.nil)) (mALen _ (mALen _ mALen0))) SE.non (by rfl))
      (pss_one (ps_raise rfl (takes_of rfl rfl rfl rfl) (pmk_own PySem.F.excBase_ValueError X.xI X.gI X.kI (raises_own X.bI X.tI) rfl))) pss_nil) pss_never, ?_⟩
    refine ⟨[some (.val p)], F, R, ?_⟩
    have e : mTest (mBin pIs (mCall t.counted (mACons (mNm 0) (mACons (mK (.int 0)) mANil))) (mK .non)) [some (.val p)] = .ok (true, [some (.val p)]) :=
      test_of (bin_val (a := .non) (b := .non) (call2 (p := p) (q := .int 0) rfl rfl (hb p hp)) rfl rfl)
    rw [e]
    intro F' H' es
    exact q H' fun b o hbo => es.st.fr b o hbo not_own
theorem ok_readX (X : FX K mg) (ih : AllOk P w K mg base Md t (m + 2)) {ok : PV → Prop} (hb : ∀ p, ok p → t.are_octets [.val p] = .ok (.val (.bl false), [none])) :
    FnOk P w K mg base (L2.CX P w) (m + 3) Md.read_octets.f Md.read_octets.fd ["octets"] (spX K X.CI ok) := by
  refine Md.read_octets.fn.okX sc_read_octets (fun vs H Q E h => ?_) (fun cdv A outer s H vs Q E hr h => ?_)
  · obtain ⟨F, v, p, rfl, _⟩ := h
    rfl
  · obtain ⟨F, v, p, rfl, R, hp, q⟩ := h
    refine ⟨_, pss_cons (ps_if (ST.tnot (W := W0) (ST.truth (SE.call ih.are_octets hr Md.are_octets.gl Md.are_octets.fn.kp Md.are_octets.bd passZ (fun _ _ _ _ _ h => h.elim) rfl (SA.cons (SE.nm (pv 0)) SA.nil) (mALen _ mALen0))))
      (pss_one (ps_raise rfl (takes_of rfl rfl rfl rfl) (pmk_own PySem.F.excBase_ValueError X.xI X.gI X.kI (raises_own X.bI X.tI) rfl))) pss_nil) pss_never, ?_⟩
    refine ⟨[some (.val p), none, none], F, (R.pad 2).1, ?_⟩
    have e : mTNot (mTruth (mCall t.are_octets (mACons (mNm 0) mANil))) [some (.val p), none, none] = .ok (true, [some (.val p), none, none]) :=
      tnot_of (truth_of' (call1 (p := p) rfl (hb p hp)) rfl)
    rw [e]
    intro F' H' es
    exact q H' fun b o hbo => es.st.fr b o hbo fun ⟨j, z⟩ => not_own ⟨j, (R.pad 2).2 _ _ z⟩
/-! ### _law_refused -/
theorem Takes.len {Z : Cx} {W : L2.WX} (tk : Takes Z W) : Takes Z (fun c d σ H => σ.length = Z.N.length → W c d σ H) := fun u s' ⟨a, B, sI, pins, σ, H, cls, d, e, I, nb, up, sky, na, os, ag, w⟩ => tk u s' ⟨a, B, sI, pins, σ, H, cls, d, e, I, nb, up, sky, na, os, ag, w I.len⟩
theorem PSs.when {p : Prop} {Z : Cx} {b : List Stmt} {ts : TS} (h : p → PSs Z b ts) : PSs Z b (fun D σ H => p ∧ ts D σ H) := ⟨fun pins s σ H D I ⟨hp, ht⟩ => (h hp).run pins s σ H D I ht⟩
theorem PSs.exE {α : Type} {p : α → Prop} {Z : Cx} {b : List Stmt} {ts : α → TS} (h : ∀ x, p x → PSs Z b (ts x)) : PSs Z b (fun D σ H => ∃ x, p x ∧ ts x D σ H) := ⟨fun pins s σ H D I ⟨x, hp, ht⟩ => (h x hp).run pins s σ H D I ht⟩
/-- what it makes of the reading of the lambda that it is given: the error is InvalidOctets -/
def TTref (CI : Addr) : (XK → Hp → VK → Prop) → Hp → VK → Prop := fun tl H Q =>
  tl (fun cls d H' => cls = .ref CI ∧ d = none ∧ Q (.bl true) H') H (fun _ H' => Q (.bl false) H')
theorem refused_gives {X0 : Cx} (X : FX X0.K X0.mg) (zi : X0.mg "isinstance" = none) {q : Str} {g : Addr} {cdg : Value} :
    GivesTo X0 ["call", "e"] "_law_refused" (defScope s_law_refused) g cdg (defBody s_law_refused) "call" q (TTref X.CI) := by
  intro f c' s H Q tl act hc h
  refine ⟨_, pss_cons (ps_try_as (X := (cxOf C8.CX0 X0.prog X0.w X0.K X0.mg X0.base ["call", "e"] "_law_refused" (defScope s_law_refused) g cdg X0.A X0.stack s H C8.E0).nox) (c := .ref X.CH) (i := 1)
      (tb := fun W D σ H => ∃ Ech : XK, (∀ cls d σ' H', Ech cls d H' → σ'.length = 2 → W cls d σ' H') ∧ σ[0]? = some (some (.ref f)) ∧ H c' = some (CodeO c' q) ∧ tl Ech H (fun _ H' => D.nx σ H'))
      (ts := fun a cls d D σ H => (cls = .ref X.CI ∧ d = none) ∧ tCB (rIsE X0.K X.CI a) (tCons (tVar 1) (tCons (tC (.ref X.CI)) tNil)) σ H D.rt)
      rfl rfl sc_law_refused.nd rfl rfl ⟨by rfl, by decide, .inl X.gH⟩ LamX.takes0 (fun W pn xe tk _ => ?_) (fun a oe cls d pn hz hf => ?_)) (pss_one (ps_ret pe_bl)), ?_⟩
  · refine PSs.exE fun Ech hW => ?_
    exact pss_one (ps_expr (act _ pn xe Ech _ _ (Takes.len tk) hW) (by rfl))
  · refine PSs.when fun e => ?_
    obtain ⟨rfl, rfl⟩ := e
    exact pss_one (ps_ret (pe_callB (call_isE (X := (cxOf C8.CX0 X0.prog X0.w X0.K X0.mg X0.base ["call", "e"] "_law_refused" (defScope s_law_refused) g cdg X0.A X0.stack s H C8.E0).nox) X.cI hz hf) (by rfl) zi bt_isinstance (pa_cons (pv 1) (pa_cons (pe_glob (v := .ref X.CI) (by rfl) X.gI rfl) pa_nil))))
  · refine ⟨_, fun cls d σ' H' hE hl => ?_, rfl, hc, h⟩
    obtain ⟨rfl, rfl, hQ⟩ := hE
    exact ⟨true, X.eI, fun _ a ha => ⟨⟨rfl, rfl⟩, .ref a, by rw [List.getElem?_set_self (by omega)], .ref X.CI, .ref X.CI, true, rfl, fun u r => r, X.iI, hQ⟩, fun z => Bool.noConfusion z⟩
end
end K80

set_option Elab.async false
set_option linter.all false
set_option maxRecDepth 100000
set_option maxHeartbeats 4000000
/-! M82b: tables of code objects beside the slots; a comprehension of lambdas handed to _law_refused. -/
namespace Pu
open PySem PySem.Spec PyProof.Rows L2 LamX
/-! ### what is known, but the tables -/
def cl (F : Hp) : Hp := fun b => match F b with
  | some (.tbl _) => none
  | o => o
theorem cl_of {F : Hp} {b : Addr} {u : HO} (h : F b = some u) (n : ∀ ps, u ≠ .tbl ps) : cl F b = some u := by
  unfold cl
  rw [h]
  cases u <;> first | rfl | exact absurd rfl (n _)
theorem cl_inv {F : Hp} {b : Addr} {u : HO} (h : cl F b = some u) : F b = some u ∧ ∀ ps, u ≠ .tbl ps := by
  unfold cl at h
  split at h
  · cases h
  · rename_i o hn
    refine ⟨h, fun ps z => ?_⟩
    subst z
    exact hn ps h
theorem cl_ext (F : Hp) : ExtN F (cl F) := fun _ _ h n => cl_of h n
section
variable {K : PySem.W.Frag}
theorem sqL_extN {F F' : Hp} (h : ExtN F F') {a : Addr} {vs : List V} (q : SqL K F a vs) : SqL K F' a vs := by
  rcases q with (q | ⟨o, q⟩) | q
  · exact .inl (.inl (h _ _ q (fun _ z => nomatch z)))
  · exact .inl (.inr ⟨o, h _ _ q (fun _ z => nomatch z)⟩)
  · exact .inr q
mutual
theorem RepV.extN {F F' : Hp} (h : ExtN F F') : ∀ {p : PV} {v : V}, RepV K F p v → RepV K F' p v
  | .non, v, q => by unfold RepV at q ⊢; exact q
  | .bl b, v, q => by unfold RepV at q ⊢; exact q
  | .int i, v, q => by unfold RepV at q ⊢; exact q
  | .str i, v, q => by unfold RepV at q ⊢; exact q
  | .ty i, v, q => by unfold RepV at q ⊢; exact q
  | .tup xs, v, q => by
    unfold RepV at q ⊢
    obtain ⟨a, vs, e, s, r⟩ := q
    exact ⟨a, vs, e, h _ _ s (fun _ z => nomatch z), RepVs.extN h r⟩
  | .lst xs, v, q => by
    unfold RepV at q ⊢
    obtain ⟨a, vs, e, s, r⟩ := q
    exact ⟨a, vs, e, h _ _ s (fun _ z => nomatch z), RepVs.extN h r⟩
  | .dT ks xs, v, q => by
    unfold RepV at q ⊢
    obtain ⟨a, vs, e, s, l, r⟩ := q
    exact ⟨a, vs, e, h _ _ s (fun _ z => nomatch z), l, RepVs.extN h r⟩
  | .dK ks xs, v, q => by
    unfold RepV at q ⊢
    obtain ⟨a, vs, e, s, l, r⟩ := q
    exact ⟨a, vs, e, h _ _ s (fun _ z => nomatch z), l, RepVs.extN h r⟩
  | .ob C ns xs, v, q => by
    unfold RepV at q ⊢
    obtain ⟨a, dx, vs, e, s, l, r⟩ := q
    exact ⟨a, dx, vs, e, h _ _ s (fun _ z => nomatch z), l, RepVs.extN h r⟩
  | .scr ns, v, q => by
    unfold RepV at q ⊢
    obtain ⟨a, e, s⟩ := q
    exact ⟨a, e, sqL_extN h s⟩
theorem RepVs.extN {F F' : Hp} (h : ExtN F F') : ∀ {p : List PV} {v : List V}, RepVs K F p v → RepVs K F' p v
  | [], v, q => by unfold RepVs at q ⊢; exact q
  | x :: xs, v, q => by
    unfold RepVs at q ⊢
    obtain ⟨a, r, e, s, t⟩ := q
    exact ⟨a, r, e, RepV.extN h s, RepVs.extN h t⟩
end
theorem RepO.extN {F F' H H' : Hp} {a : Addr} {o : OB} (h : RepO K F H a o) (f : ExtN F F') (e : ExtN H H') : RepO K F' H' a o := by
  cases o with
  | lst xs => obtain ⟨vs, q, r⟩ := h; exact ⟨vs, e _ _ q (fun _ z => nomatch z), r.extN f⟩
  | dT ks xs => obtain ⟨vs, q, l, r⟩ := h; exact ⟨vs, e _ _ q (fun _ z => nomatch z), l, r.extN f⟩
  | dK ks xs => obtain ⟨vs, q, l, r⟩ := h; exact ⟨vs, e _ _ q (fun _ z => nomatch z), l, r.extN f⟩
  | ob C ns xs => obtain ⟨vs, ⟨dx, q⟩, l, r⟩ := h; exact ⟨vs, ⟨dx, e _ _ q (fun _ z => nomatch z)⟩, l, r.extN f⟩
theorem FH.extN {F H H' : Hp} (h : FH F H) (e : ExtN H H') : FH (cl F) H' := fun a u q => by
  obtain ⟨q, n⟩ := cl_inv q
  rcases h a u q with z | ⟨d, o, z⟩
  · exact .inl (e _ _ z n)
  · exact .inr ⟨d, o, e _ _ z (fun _ z => nomatch z)⟩
theorem cl_none {F : Hp} {a : Addr} (h : F a = none) : cl F a = none := by
  unfold cl
  rw [h]
theorem Rel.extN {F H H' : Hp} {ρ : Env} {σ : L2.St} (R : Rel K F H ρ σ) (e : ExtN H H') : Rel K (cl F) H' ρ σ :=
  ⟨R.len, fun i s h => by
    obtain ⟨v, q, r⟩ := R.slot i s h
    refine ⟨v, q, ?_⟩
    cases s with
    | val p => exact RepV.extN (cl_ext F) r
    | own o =>
      obtain ⟨a, e1, n, r⟩ := r
      exact ⟨a, e1, cl_none n, r.extN (cl_ext F) e⟩
    | par o =>
      obtain ⟨a, e1, n, r⟩ := r
      exact ⟨a, e1, cl_none n, r.extN (cl_ext F) e⟩, R.fh.extN e, R.inj⟩
theorem Rel.nown {F H : Hp} {ρ : Env} {σ : L2.St} (R : Rel K F H ρ σ) {a : Addr} {u : HO} (h : H a = some u) (n1 : ∀ x, u ≠ .lst x) (n2 : ∀ x, u ≠ .dT x) (n3 : ∀ x, u ≠ .dK x) (n4 : ∀ x y z, u ≠ .ins x y z) : ¬ Own ρ σ a := by
  rintro ⟨i, o⟩
  obtain ⟨_, ob, _, r⟩ := R.own o
  cases ob with
  | lst xs => obtain ⟨_, q, _⟩ := r; rw [h] at q; exact n1 _ (Option.some.inj q)
  | dT ks xs => obtain ⟨_, q, _⟩ := r; rw [h] at q; exact n2 _ (Option.some.inj q)
  | dK ks xs => obtain ⟨_, q, _⟩ := r; rw [h] at q; exact n3 _ (Option.some.inj q)
  | ob C ns xs => obtain ⟨_, ⟨_, q⟩, _⟩ := r; rw [h] at q; exact n4 _ _ _ (Option.some.inj q)
/-- tables stand where the slots' objects move on -/
theorem tabs_step {T : List (Addr × Str)} {F H F' H' : Hp} {ρ : Env} {σ : L2.St} (R : Rel K F H ρ σ) (st : Step (Own ρ σ) F H F' H') (t : Tabs T H) : Tabs T H' := fun p hp => by
  obtain ⟨ps, h1, h2, h3⟩ := t p hp
  refine ⟨ps, st.fr _ _ h1 (R.nown h1 (fun _ z => nomatch z) (fun _ z => nomatch z) (fun _ z => nomatch z) (fun _ _ _ z => nomatch z)), h2, fun pos cv hc => ?_⟩
  obtain ⟨c, e1, e2⟩ := h3 pos cv hc
  refine ⟨c, e1, st.fr _ _ e2 (R.nown e2 ?_ ?_ ?_ ?_)⟩ <;> intros <;> intro z <;> unfold CodeO at z <;> cases z
theorem rel_one {F H : Hp} (fh : FH F H) {p : PV} {v : V} (r : RepV K F p v) : Rel K F H [some (.val p)] [some v] where
  len := rfl
  slot := fun i s h => by
    match i, h with
    | 0, h =>
      cases h
      exact ⟨v, rfl, r⟩
    | i + 1, h => simp at h
  fh := fh
  inj := fun i j a h _ => by
    obtain ⟨(⟨o, e⟩ | ⟨o, e⟩), _⟩ := h
    · match i, e with
      | 0, e => cases e
      | i + 1, e => simp at e
    · match i, e with
      | 0, e => cases e
      | i + 1, e => simp at e
theorem tabS_new {H : Hp} {D : Addr} {u v : HO} {P : Addr} {q : Str} (h : H D = some v) (n1 : ∀ x, v ≠ .tbl x) (n2 : ∀ c q, v ≠ CodeO c q) (t : TabS H P q) : TabS (upd H D u) P q := by
  obtain ⟨ps, h1, h2, h3⟩ := t
  have nP : P ≠ D := fun z => by
    rw [z, h] at h1
    exact n1 _ (Option.some.inj h1)
  refine ⟨ps, by rw [upd_ne nP]; exact h1, h2, fun pos cv hc => ?_⟩
  obtain ⟨c, e1, e2⟩ := h3 pos cv hc
  have nc : c ≠ D := fun z => by
    rw [z, h] at e2
    exact n2 _ _ (Option.some.inj e2)
  exact ⟨c, e1, by rw [upd_ne nc]; exact e2⟩
theorem tabS_fresh {H : Hp} {D : Addr} {u : HO} {P : Addr} {q : Str} (h : H D = none) (t : TabS H P q) : TabS (upd H D u) P q :=
  t.ext fun b o e => by rw [upd_ne (ne_of_none e h)]; exact e
end
end Pu
namespace K80
open PySem PySem.Spec PyProof.Rows L2 Pu LamX
section
variable {K : PySem.W.Frag} {F H : Hp} {ρ : Pu.Env} {σ : L2.St}
/-- [_law_refused(lambda: f(one)) for one in xs] -/
theorem read_refs {T : List (Addr × Str)} {j : Nat} {xs : List PV} {CI : Addr} {ok : PV → Prop} {Q : VK} (R : Rel K F H ρ σ) (hj : ρ[j]? = some (some (.own (.lst xs)))) (hok : ∀ p ∈ xs, ok p) (hz : xs.length ≤ 1000) (t : Tabs T H) (hl : 12 < σ.length)
    (q : ∀ D H', H D = none → ExtN H H' → Tabs T H' → H' D = some (.lst (List.replicate xs.length (.bl true))) → Q (.ref D) H') :
    tLc (iList K (tVar j)) (gName 12) tYes (tLam T (TTref CI) fun E => tCallS (spX K CI ok) (fun _ => E) (tCons (tVar 12) tNil)) (([("one", 12)] : List (Str × Nat)).map (·.2)) σ H Q := by
  obtain ⟨v, ev, a, rfl, nF, vs, ha, rv⟩ := R.slot j _ hj
  refine ⟨.ref a, ev, a, rfl, ⟨vs, .inl (.inl ha)⟩, fun D nD => ?_⟩
  have hlen := rv.length
  have up : ∀ {H1 : Hp} {u : HO}, ExtN H H1 → ExtN H (upd H1 D u) := fun e b o h n => by
    rw [upd_ne (ne_of_none h nD)]
    exact e b o h n
  refine lc_list (xs := vs) (fun i H' => ExtN H H' ∧ Tabs T H' ∧ H' D = some (.lst (List.replicate i (.bl true)))) ⟨up (ExtN.refl H), fun p hp => tabS_fresh nD (t p hp), upd_same⟩ (fun i H' _ h => .inl (.inl (h.1 _ _ ha (fun _ z => nomatch z)))) (fun i x H' hx h => ?_) (fun H' h => ?_)
  · obtain ⟨e1, t1, d1⟩ := h
    refine ⟨by simp [wipe, List.set_set], ?_⟩
    unfold tYes
    dsimp only
    rw [if_pos rfl]
    refine ⟨t1, fun H1 e2 t2 => ?_⟩
    obtain ⟨p, hp, rp⟩ := rv.get' hx
    refine ⟨x, by simp [wipe, hl], cl F, x, p, rfl, rel_one (R.fh.extN (e1.trans e2)) (RepV.extN (cl_ext F) rp), hok p (List.mem_of_getElem? hp), fun H2 e3 => ⟨rfl, rfl, ?_⟩⟩
    have d2 : H1 D = some (.lst (List.replicate i (.bl true))) := e2 _ _ d1 (fun _ z => nomatch z)
    have d3 := e3 _ _ d2
    refine ⟨_, d3, ?_, up ((e1.trans e2).trans (ExtN.of e3)), fun p hp => tabS_new d3 (fun _ z => nomatch z) (fun c q z => ?_) ((t2 p hp).ext e3), ?_⟩
    · have := (List.getElem?_eq_some_iff.mp hx).1
      rw [List.length_replicate]
      exact small1000 (by omega)
    · unfold CodeO at z
      cases z
    · rw [upd_same, List.replicate_succ']
  · obtain ⟨e1, t1, d1⟩ := h
    rw [← hlen] at d1
    exact q D H' nD e1 t1 d1
end
end K80

set_option Elab.async false
set_option linter.all false
set_option maxRecDepth 100000
set_option maxHeartbeats 4000000
set_option exponentiation.threshold 100000
/-! M82c: the law's statements with lambdas. -/
namespace K80
open PySem PySem.Spec PyProof.Rows L2 Pu LamX
abbrev lk80 (k : Nat) : Stmt := (defBody s_law).getD k (.Pass ⟨0, 0, 0, 0⟩)
abbrev trues (n : Nat) : List PV := List.replicate n (.bl true)
theorem reps_trues {K : PySem.W.Frag} {F : Hp} : ∀ n : Nat, RepVs K F (trues n) (List.replicate n (.bl true))
  | 0 => .nil
  | n + 1 => by
    show RepVs K F (List.replicate (n + 1) (PV.bl true)) (List.replicate (n + 1) (V.bl true))
    rw [List.replicate_succ, List.replicate_succ]
    exact .cons (by unfold RepV; rfl) (reps_trues n)
section
variable {P : Program} {w : World} {K : PySem.W.Frag} {mg : Str → Option Value} {base : Heap} {Md : Facts K mg} {t : Tb} {m : Nat}
/-- the context of the law's body -/
abbrev cxL (P : Program) (w : World) (K : PySem.W.Frag) (mg : Str → Option Value) (base : Heap) (f c : Addr) (A : Around) (outer : List PySem.Env) (s : Shared) (H : Hp) (E : XK) : Cx :=
  (cxOf L2.CX0 P w K mg base N_law "law" (defScope s_law) f (.ref c) A outer s H E).nox
abbrev qLam : Str := (envOfC "law" (defScope s_law) 0 0 .none).qual ++ "<lambda>"
abbrev tRefs (K : PySem.W.Frag) (CI : Addr) (ok : PV → Prop) (T : List (Addr × Str)) (j : Nat) : TE :=
  tLc (iList K (tVar j)) (gName 12) tYes (tLam T (TTref CI) fun E => tCallS (spX K CI ok) (fun _ => E) (tCons (tVar 12) tNil)) (([("one", 12)] : List (Str × Nat)).map (·.2))
theorem flat_one {α : Type} (x : α) : ∀ n : Nat, (List.replicate n [x]).flatten = List.replicate n x
  | 0 => rfl
  | n + 1 => by
    rw [List.replicate_succ, List.flatten_cons, flat_one x n]
    rfl
theorem pmul_t (n : Nat) (hz : n ≤ 1000) : pMul (.lst [.bl true]) (.int (n : Int)) = some (.new (.lst (List.replicate n [PV.bl true]).flatten)) := by
  have c1 : -(2 ^ 63) ≤ (n : Int) := Int.le_trans (b := 0) (by decide) (by omega)
  have c2 : (n : Int) < 2 ^ 63 := Int.lt_of_le_of_lt (b := 1000) (by omega) (by decide)
  have c3 : szOk ([PV.bl true].length * (n : Int).toNat) = true := szOk_of (by simp; omega)
  have e : (n : Int).toNat = n := Int.toNat_natCast n
  unfold pMul
  generalize (n : Int) = k at *
  simp only []
  rw [if_pos ⟨c1, c2, c3⟩, e]
def mTrues (j : Nat) : M := mBin pMul (mLst (mACons (mK (.bl true)) mANil)) (mApp fLen (mACons (mBor j) mANil))
theorem len_own {ρ : Pu.Env} {j : Nat} {xs : List PV} (hj : ρ[j]? = some (some (.own (.lst xs)))) : mApp fLen (mACons (mBor j) mANil) ρ = .ok (.val (.int xs.length), ρ) := by
  have e2 : mBor j ρ = .ok (.bor j, ρ) := by unfold mBor; rw [hj]
  unfold mApp mACons mOp
  rw [e2]
  simp [RV.fz, Res.bind, mANil, derefs, deref, hj, OB.pv, fLen, liftO]
theorem trues_ok {ρ : Pu.Env} {j : Nat} {xs : List PV} (hj : ρ[j]? = some (some (.own (.lst xs)))) (hz : xs.length ≤ 1000) : mTrues j ρ = .ok (.new (.lst (trues xs.length)), ρ) := by
  have hp : pMul (OB.lst [PV.bl true]).pv (.int (xs.length : Int)) = some (.new (.lst (trues xs.length))) := by
    show pMul (.lst [.bl true]) (.int (xs.length : Int)) = _
    rw [pmul_t xs.length hz, flat_one]
  exact bin_nv (o := .lst [.bl true]) rfl (len_own hj) hp
theorem cmpOks_trues : ∀ n d : Nat, cmpOks d (trues n) = true
  | 0, d => by unfold trues cmpOks; rfl
  | n + 1, d => by
    unfold trues
    rw [List.replicate_succ]
    unfold cmpOks
    rw [cmpOks_trues n d]
    unfold cmpOk
    rfl
theorem eqPs_trues : ∀ n : Nat, eqPs (trues n) (trues n) = true
  | 0 => by unfold trues eqPs; rfl
  | n + 1 => by
    unfold trues
    rw [List.replicate_succ]
    unfold eqPs
    rw [eqPs_trues n]
    rfl
theorem cmpOk_trues (n : Nat) : cmpOk 64 (.lst (trues n)) = true := by unfold cmpOk; exact cmpOks_trues _ _
theorem eqP_trues (n : Nat) : eqP (.lst (trues n)) (.lst (trues n)) = true := by unfold eqP; exact eqPs_trues _
/-- what the two sides of the comparison are: the list made and the trues, and a rule that reads both -/
theorem read_both {T : List (Addr × Str)} {j : Nat} {xs : List PV} {CI : Addr} {ok : PV → Prop} {r : R2} {g : PV → PV → Option RV} {b : Bool} {Q : VK} {F H : Hp} {ρ : Pu.Env} {σ : L2.St} (hp : Prim2 K r g) (hg : g (.lst (trues xs.length)) (.lst (trues xs.length)) = some (.val (.bl b)))
    (R : Rel K F H ρ σ) (hj : ρ[j]? = some (some (.own (.lst xs)))) (hok : ∀ p ∈ xs, ok p) (hz : xs.length ≤ 1000) (t : Tabs T H) (hl : ρ.length = 13)
    (q : ∀ F' H', Rel K F' H' ρ σ → Tabs T H' → Q (.bl b) H') : tOp r (tRefs K CI ok T j) (tM K W0 (mTrues j)) σ H Q := by
  show tRefs K CI ok T j σ H (fun x H1 => tM K W0 (mTrues j) σ H1 fun y H2 => r x y H2 Q)
  refine read_refs R hj hok hz t (by have := R.len; omega) fun D H1 nD e1 t1 d1 => ?_
  have R1 : Rel K (cl F) H1 ρ σ := R.extN e1
  refine ⟨ρ, cl F, R1, ?_⟩
  rw [trues_ok hj hz]
  intro v F2 H2 es rr
  obtain ⟨a, rfl, nF, _, _, vs, ha, rv⟩ := rr
  have nO : ¬ Own ρ σ D := fun z => R.ownH z nD
  have d2 := es.st.fr D _ d1 nO
  refine hp (.ref D) (.ref a) F2 H2 Q (.lst (trues xs.length)) (.lst (trues xs.length)) _ es.rel.fh ⟨D, _, rfl, d2, reps_trues _⟩ ⟨a, vs, rfl, ha, rv⟩ hg fun v F3 H3 gr rn => ?_
  have rn : RepV K F3 (.bl b) v := rn
  unfold RepV at rn
  subst rn
  have e2 := gr.es es.rel
  exact q F3 H3 e2.rel (tabs_step es.rel e2.st (tabs_step R1 es.st t1))
/-- _law_refused(lambda: x(one)) in the comprehension -/
theorem pe_elt {X : Cx} (X1 : FX X.K X.mg) {ok : PV → Prop} {c Pt : Addr} {x : Str} {params : Arguments} {scope : Scope} {lpos p pos p1 p2 p3 : Pos} {g : Addr} {fd : FuncData} {ps : List Str} (zi : X.mg "isinstance" = none)
    (G : FnOk X.prog X.w X.K X.mg X.base (L2.CX X.prog X.w) (m + 3) g fd ps (spX X.K X1.CI ok)) (hm : X.mg x = some (.ref g)) (hk : PySem.W.keepIn X.K (.ref g) = true) (hb : Binds X.K fd ps [])
    (hg : Gl X "_law_refused") (TB : TabB X.base X.mg c Pt) (hcode : X.env.code = .ref c) (hr : Room (m + 5) X.A) (L : LamS X.env.scope scope) (hdef : defaultsOf params X.env = ([], []))
    (hbind : ∀ (q : Str) (cl : List (Str × Addr)) (pm cv ctv : Value), bindArgs (PySem.W.kla_fn "<lambda>" q params (.Call (.Name x p1) [.Name "one" p2] [] p3) scope cl pm cv ctv) ⟨[], []⟩ = pure []) (hN : X.N[12]? = some ("one" : Str))
    (hx : scope.names.lookup x = some NameKind.globalImplicit) (ho : scope.names.lookup ("one" : Str) = some NameKind.free) (hdb : (x == ("__debug__" : Str)) = false) :
    PE X (.Call (.Name "_law_refused" p) [.Lambda params (.Call (.Name x p1) [.Name "one" p2] [] p3) scope lpos] [] pos)
      (tLam [(Pt, X.env.qual ++ "<lambda>")] (TTref X1.CI) fun E => tCallS (spX X.K X1.CI ok) (fun _ => E) (tCons (tVar 12) tNil)) := by
  obtain ⟨oc, od, kV, doc, pm, an, cdv, ct, osl, e1, lk, hcd⟩ := X1.refused.fn.ex
  have hb1 := X1.refused.bd
  rw [e1] at lk hb1
  refine pe_lamcall (k := m + 3) (g := X1.refused.f) (Ng := ["call", "e"]) (a := "call") hg X1.refused.gl X1.refused.fn.kp lk hcd hb1 sc_law_refused rfl (.inl rfl) (refused_gives X1 zi) TB hcode (List.mem_singleton.mpr rfl) (fun p hp _ => ?_) hr L hdef hbind (fun A outer s H E f c' hr' => ?_)
  · have := List.mem_singleton.mp hp
    rw [this]
  · have tk : Takes (lamCx X A outer s H E scope f c') (fun cls d _ H => E cls d H) := takes_of rfl rfl rfl rfl
    exact pe_callS (E := fun _ => E) G hr' hx hm hk hb (fun σ => passAt tk σ) (pa_cons (pe_var (i := 12) hN (.inr (.inr ho))) pa_nil) hdb
end
end K80

set_option Elab.async false
set_option linter.all false
set_option maxRecDepth 100000
set_option maxHeartbeats 4000000
set_option exponentiation.threshold 100000
/-! M82d: statements 10 and 14 of the law. -/
namespace K80
open PySem PySem.Spec PyProof.Rows L2 Pu LamX
section
variable {P : Program} {w : World} {K : PySem.W.Frag} {mg : Str → Option Value} {base : Heap} {Md : Facts K mg} {t : Tb} {m : Nat}
theorem pNe_trues (n : Nat) : pNe (.lst (trues n)) (.lst (trues n)) = some (.val (.bl false)) := by
  unfold pNe
  rw [cmpOk_trues, eqP_trues]
  rfl
theorem pEq_trues (n : Nat) : pEq (.lst (trues n)) (.lst (trues n)) = some (.val (.bl true)) := by
  unfold pEq
  rw [cmpOk_trues, eqP_trues]
  rfl
theorem ok_s10 (X1 : FX K mg) (ih : AllOk P w K mg base Md t (m + 2)) {ok : PV → Prop} (hb : ∀ p, ok p → t.counted [.val p, .val (.int 0)] = .ok (.val .non, [none, none])) (hok : ∀ p ∈ bads, ok p) {f c Pt : Addr} (TB : TabB base mg c Pt)
    (A : Around) (outer : List PySem.Env) (s : Shared) (H0 : Hp) (E : XK) (hr : Room (m + 5) (A.deeper (envOfC "law" (defScope s_law) s.heap.objs.size f (.ref c)))) :
    PS (cxL P w K mg base f c A outer s H0 E) (lk80 10) (fun D σ H => ∃ ρ F, Rel K F H ρ σ ∧ ρ[6]? = some (some (.own (.lst bads))) ∧ ρ.length = 13 ∧ Tabs [(Pt, qLam)] H ∧ ∀ F' H', Rel K F' H' ρ σ → Tabs [(Pt, qLam)] H' → D.nx σ H') := by
  refine PS.imp (X := cxL P w K mg base f c A outer s H0 E) (e := lk80 10) (ps_if (pt_cmpR (op_neD hr.units) (pe_lc (own := [("one", 12)]) (g := gName 12) (tt := tYes) (te := tLam [(Pt, qLam)] (TTref X1.CI) fun E => tCallS (spX K X1.CI ok) (fun _ => E) (tCons (tVar 12) tNil)) rfl sc_law.nd (pi_list (pv 6)) (blkOk_by (by rfl)) (fun _ _ _ _ _ => pg_name (i := 12) sc_law.nd rfl (.inr rfl)) (fun _ _ _ _ _ => pts_nil)
      (fun s2 H2 C cl fp => by exact pe_elt (X := Cx.blk (cxL P w K mg base f c A outer s H0 E) s2 H2 _ (compEnvC _ cl C (cxL P w K mg base f c A outer s H0 E).env) fp) (m := m) X1 (ok := ok) (c := c) (Pt := Pt) Md.z_isinstance (ok_writeX X1 ih hb) Md.write_octets.gl Md.write_octets.fn.kp Md.write_octets.bd (by rfl) TB rfl hr (lamS_by (by rfl)) (by rfl) (fun _ _ _ _ _ => by rfl) rfl (by rfl) (by rfl) (by decide)))
      (SE.bin (W := W0) (op_mul.or (op_mulW.or op_rep)) prim_mul (SE.lst (SA.cons SE.bl SA.nil)) (SE.callB call_len prim_len Md.z_len rfl bt_len (SA.cons (SE.bor (pv 6)) SA.nil))) (by rfl)) (pss_one (ps_ret pe_bl)) pss_nil) ?_
  rintro D σ H ⟨ρ, F, R, hj, hl, tb, q⟩
  exact read_both prim_ne (pNe_trues _) R hj hok (by decide) tb hl fun F' H' R' t' => ⟨false, rfl, q F' H' R' t'⟩
theorem ok_s14 (X1 : FX K mg) (ih : AllOk P w K mg base Md t (m + 2)) {ok : PV → Prop} (hb : ∀ p, ok p → t.are_octets [.val p] = .ok (.val (.bl false), [none])) (hok : ∀ p ∈ odds, ok p) (hu : t.first_unlike [.val (.tup []), .val (.tup [])] = .ok (.val .non, [none, none])) {f c Pt : Addr} (TB : TabB base mg c Pt)
    (A : Around) (outer : List PySem.Env) (s : Shared) (H0 : Hp) (E : XK) (hr : Room (m + 5) (A.deeper (envOfC "law" (defScope s_law) s.heap.objs.size f (.ref c)))) :
    PS (cxL P w K mg base f c A outer s H0 E) (lk80 14) (fun D σ H => ∃ ρ F, Rel K F H ρ σ ∧ ρ[7]? = some (some (.own (.lst odds))) ∧ ρ.length = 13 ∧ Tabs [(Pt, qLam)] H ∧ ∀ H', D.rt (.bl true) H') := by
  have hr2 : Room (m + 2) (A.deeper (envOfC "law" (defScope s_law) s.heap.objs.size f (.ref c))) := hr.mono (by omega)
  refine PS.imp (X := cxL P w K mg base f c A outer s H0 E) (e := lk80 14) (ps_ret (pe_and (pe_cmpR (op_eqD hr.units) (pe_lc (own := [("one", 12)]) (g := gName 12) (tt := tYes) (te := tLam [(Pt, qLam)] (TTref X1.CI) fun E => tCallS (spX K X1.CI ok) (fun _ => E) (tCons (tVar 12) tNil)) rfl sc_law.nd (pi_list (pv 7)) (blkOk_by (by rfl)) (fun _ _ _ _ _ => pg_name (i := 12) sc_law.nd rfl (.inr rfl)) (fun _ _ _ _ _ => pts_nil)
      (fun s2 H2 C cl fp => by exact pe_elt (X := Cx.blk (cxL P w K mg base f c A outer s H0 E) s2 H2 _ (compEnvC _ cl C (cxL P w K mg base f c A outer s H0 E).env) fp) (m := m) X1 (ok := ok) (c := c) (Pt := Pt) Md.z_isinstance (ok_readX X1 ih hb) Md.read_octets.gl Md.read_octets.fn.kp Md.read_octets.bd (by rfl) TB rfl hr (lamS_by (by rfl)) (by rfl) (fun _ _ _ _ _ => by rfl) rfl (by rfl) (by rfl) (by decide)))
      (SE.bin (W := W0) (op_mul.or (op_mulW.or op_rep)) prim_mul (SE.lst (SA.cons SE.bl SA.nil)) (SE.callB call_len prim_len Md.z_len rfl bt_len (SA.cons (SE.bor (pv 7)) SA.nil))) (by rfl))
      (pe_one (SE.cmp (W := W0) op_is prim_is (SE.call ih.first_unlike hr2 Md.first_unlike.gl Md.first_unlike.fn.kp Md.first_unlike.bd passZ (fun _ _ _ _ _ h => h.elim) rfl (SA.cons (SE.tup SA.nil) (SA.cons (SE.tup SA.nil) SA.nil)) (mALen _ (mALen _ mALen0))) SE.non (by rfl))))) ?_
  rintro D σ H ⟨ρ, F, R, hj, hl, tb, q⟩
  refine read_both prim_eq (pEq_trues _) R hj hok (by decide) tb hl fun F' H' R' t' => ⟨true, rfl, ?_⟩
  show if true = true then _ else _
  rw [if_pos rfl]
  have e : mBin pIs (mCall t.first_unlike (mACons (mTup mANil) (mACons (mTup mANil) mANil))) (mK .non) ρ = .ok (.val (.bl true), ρ) :=
    bin_val (a := .non) (b := .non) (call2 (p := .tup []) (q := .tup []) rfl rfl hu) rfl rfl
  refine ⟨ρ, F', R', ?_⟩
  rw [e]
  intro v F2 H2 es rr
  have rr : RepV K F2 (.bl true) v := rr
  unfold RepV at rr
  subst rr
  exact q H2
end
end K80

set_option Elab.async false
set_option linter.all false
set_option maxRecDepth 100000
set_option maxHeartbeats 4000000
set_option exponentiation.threshold 100000
/-! M82e: the law. -/
namespace K80
open PySem PySem.Spec PyProof.Rows L2 Pu LamX
def spLaw (K : PySem.W.Frag) (Pt : Addr) : Sp := fun vs H Q _ => ∃ (a : Addr) (ns : List Int), vs = [.ref a] ∧ SqL K H a (ns.map V.int) ∧ ns.length ≤ 1000 ∧ H Pt = some (.tbl #[]) ∧ ∀ H', Q (.bl true) H'
section
variable {P : Program} {w : World} {K : PySem.W.Frag} {mg : Str → Option Value} {base : Heap} {Md : Facts K mg} {t : Tb} {m : Nat}
theorem l3_ok {C : Addr} (sc : PV) (a b : Int) (last : PV) (tn told value due at_ : Option PV) : l_3 C t (gE sc a b last tn none none told value due at_) = .ok (.nx, gE sc a b last tn (some (.int ((B54 * B64 ^ 0 : Nat) : Int))) none told value due at_) := by
  refine asg_of (pow54 _) ?_
  rw [Nat.pow_zero, Nat.mul_one]
  rfl
theorem l4_ok {C : Addr} (sc : PV) (a b : Int) (last : PV) (tn told value due at_ : Option PV) : ∃ tn', l_4 C t (gE sc a b last tn (some (.int ((B54 * B64 ^ 0 : Nat) : Int))) none told value due at_) = .ok (.nx, gE sc a b last tn' (some (.int great)) none told value due at_) := by
  obtain ⟨xs, e1, e2⟩ := rng14
  obtain ⟨tn', e⟩ := gr_loop sc a b last none told value due at_ xs 0 tn (by omega)
  rw [e2, Nat.zero_add, B950i] at e
  exact ⟨tn', (mfor_of (by rw [e1])).trans e⟩
theorem nx_of {ms : MS} {F H : Hp} {ρ ρ1 : Pu.Env} {σ : L2.St} {D : Ends} (R : Rel K F H ρ σ) (e : ms ρ = .ok (.nx, ρ1)) (k : ∀ σ1 F1 H1, ES K ρ σ F H ρ1 σ1 F1 H1 → D.nx σ1 H1) : tMS K W0 ms D σ H := ⟨ρ, F, R, by rw [e]; exact k⟩
theorem start_rel {H : Hp} {a : Addr} {ns : List Int} (h : SqL K H a (ns.map V.int)) : ∃ F, Rel K F H [some (.val (.scr ns)), none, none, none, none, none, none, none, none, none, none, none, none] (start N_law [.ref a]) := by
  refine ⟨H, rfl, fun i s e => ?_, fun b u e => .inl e, fun i j b x _ => ?_⟩
  · match i, e with
    | 0, e =>
      cases e
      exact ⟨.ref a, rfl, by show RepV K H _ _; unfold RepV; exact ⟨a, rfl, h⟩⟩
    | i + 1, e =>
      exfalso
      have z : (List.replicate 12 (none : Option SV))[i]? = some (some s) := e
      rw [List.getElem?_replicate] at z
      split at z <;> cases z
  · obtain ⟨(⟨o, e⟩ | ⟨o, e⟩), _⟩ := x
    · match i, e with
      | 0, e => cases e
      | i + 1, e =>
        exfalso
        have z : (List.replicate 12 (none : Option SV))[i]? = some (some (.own o)) := e
        rw [List.getElem?_replicate] at z
        split at z <;> cases z
    · match i, e with
      | 0, e => cases e
      | i + 1, e =>
        exfalso
        have z : (List.replicate 12 (none : Option SV))[i]? = some (some (.par o)) := e
        rw [List.getElem?_replicate] at z
        split at z <;> cases z
theorem ok_law (X1 : FX K mg) (ih : AllOk P w K mg base Md t (m + 2)) (h : TurnOk t) (hc : ∀ ns : List Int, ns.length ≤ 1000 → ∃ a b : Int, t.law_cup [.val (.scr ns)] = .ok (.new (cupO a b), [none]))
    {okw okr : PV → Prop} (hbw : ∀ p, okw p → t.counted [.val p, .val (.int 0)] = .ok (.val .non, [none, none])) (hw : ∀ p ∈ bads, okw p) (hbr : ∀ p, okr p → t.are_octets [.val p] = .ok (.val (.bl false), [none])) (hro : ∀ p ∈ odds, okr p)
    {f c Pt : Addr} (TB : TabB base mg c Pt) {od an : Option Addr} {osl : Array (Option Value)} {oc kV doc pm ct : Value}
    (lk : K.lookup f = some ⟨oc, od, .func (PySem.W.fnOf "law" "law" (defArgs s_law) (defBody s_law) (defScope s_law) .none kV doc pm an (.ref c) ct), osl⟩) (hcd : PySem.W.codeIn K (.ref c) "law" = true) :
    FnOk P w K mg base L2.CX0 (m + 6) f (PySem.W.fnOf "law" "law" (defArgs s_law) (defBody s_law) (defScope s_law) .none kV doc pm an (.ref c) ct) ["script"] (spLaw K Pt) := by
  refine fn_of lk hcd sc_law (fun vs H Q E h => ?_) fun A outer s H vs Q E hr hsp => ?_
  · obtain ⟨a, ns, rfl, _⟩ := h
    rfl
  · obtain ⟨a, ns, rfl, hS, hz, hP, q⟩ := hsp
    have hr2 : Room (m + 2) (A.deeper (envOfC "law" (defScope s_law) s.heap.objs.size f (.ref c))) := hr.mono (by omega)
    have u0 : t.first_unlike [.val (.tup []), .val (.tup [])] = .ok (.val .non, [none, none]) := unl h [] [] (by decide) (by decide) (by decide) (by decide) (by
      rintro x (⟨rfl, h⟩ | ⟨j, rfl, h1, h2, h3, h4, h5⟩)
      · rfl
      · exact absurd rfl h5)
    have hb := pss_cons (ok_l_0 ih f (.ref c) A outer s H E hr2) (pss_cons (ok_l_1 ih f (.ref c) A outer s H E hr2) (pss_cons (ok_l_2 ih f (.ref c) A outer s H E hr2) (pss_cons (ok_l_3 ih f (.ref c) A outer s H E hr2)
      (pss_cons (ok_l_4 ih f (.ref c) A outer s H E hr2) (pss_cons (ok_l_5 ih f (.ref c) A outer s H E hr2) (pss_cons (ok_l_6 ih f (.ref c) A outer s H E hr2) (pss_cons (ok_l_7 ih f (.ref c) A outer s H E hr2)
      (pss_cons (ok_l_8 ih f (.ref c) A outer s H E hr2) (pss_cons (ok_l_9 ih f (.ref c) A outer s H E hr2) (pss_cons (ok_s10 X1 ih hbw hw TB A outer s H E hr) (pss_cons (ok_l_11 ih f (.ref c) A outer s H E hr2)
      (pss_cons (ok_l_12 ih f (.ref c) A outer s H E hr2) (pss_cons (ok_l_13 ih f (.ref c) A outer s H E hr2) (pss_one (ok_s14 X1 ih hbr hro u0 TB A outer s H E hr)))))))))))))))
    refine ⟨_, PSs.nox (X := cxOf L2.CX0 P w K mg base N_law "law" (defScope s_law) f (.ref c) A outer s H E) hb, ?_⟩
    obtain ⟨F0, R0⟩ := start_rel (K := K) hS
    have t0 : Tabs [(Pt, qLam)] H := fun p hp => by
      have := List.mem_singleton.mp hp
      subst this
      exact TabS.nil hP
    obtain ⟨ca, cb, e0⟩ := l0_ok (C := Md.C_Reader) hc ns hz
    refine nx_of R0 e0 fun σ1 F1 H1 es1 => ?_
    have t1 := tabs_step R0 es1.st t0
    refine nx_of es1.rel (l1_ok (C := Md.C_Reader) (t := t) _ ca cb) fun σ2 F2 H2 es2 => ?_
    have t2 := tabs_step es1.rel es2.st t1
    obtain ⟨a2, b2, lv, tn, told, value, due, at_, e2⟩ := l2_ok (C := Md.C_Reader) h (.scr ns) ca cb
    refine nx_of es2.rel e2 fun σ3 F3 H3 es3 => ?_
    have t3 := tabs_step es2.rel es3.st t2
    refine nx_of es3.rel (l3_ok _ a2 b2 (lastOf lv) tn told value due at_) fun σ4 F4 H4 es4 => ?_
    have t4 := tabs_step es3.rel es4.st t3
    obtain ⟨tn4, e4⟩ := l4_ok (C := Md.C_Reader) (t := t) (.scr ns) a2 b2 (lastOf lv) tn told value due at_
    refine nx_of es4.rel e4 fun σ5 F5 H5 es5 => ?_
    have t5 := tabs_step es4.rel es5.st t4
    refine nx_of es5.rel (l5_ok h _ a2 b2 (lastOf lv) tn4 none told value due at_) fun σ6 F6 H6 es6 => ?_
    have t6 := tabs_step es5.rel es6.st t5
    refine nx_of es6.rel (l6_ok _ a2 b2 (lastOf lv) tn4 (some (.int great)) told value due at_) fun σ7 F7 H7 es7 => ?_
    have t7 := tabs_step es6.rel es7.st t6
    obtain ⟨tn7, e7⟩ := l7_ok (C := Md.C_Reader) (t := t) (.scr ns) a2 b2 (lastOf lv) tn4 (some (.int great)) told value due at_
    refine nx_of es7.rel e7 fun σ8 F8 H8 es8 => ?_
    have t8 := tabs_step es7.rel es8.st t7
    refine nx_of es8.rel (l8_ok h _ a2 b2 (lastOf lv) tn7 (some (.int great)) told value due at_) fun σ9 F9 H9 es9 => ?_
    have t9 := tabs_step es8.rel es9.st t8
    refine nx_of es9.rel (l9_ok _ a2 b2 (lastOf lv) tn7 (some (nest 59)) told value due at_) fun σ10 F10 H10 es10 => ?_
    have t10 := tabs_step es9.rel es10.st t9
    refine ⟨_, F10, es10.rel, rfl, rfl, t10, fun F11 H11 R11 t11 => ?_⟩
    refine nx_of R11 (l11_ok _ a2 b2 (lastOf lv) tn7 (some (nest 59)) (some (.own (.lst bads))) (told.map SV.val) value due at_) fun σ12 F12 H12 es12 => ?_
    have t12 := tabs_step R11 es12.st t11
    refine nx_of es12.rel (l12_ok h _ a2 b2 (lastOf lv) tn7 (some (nest 59)) (some (.own (.lst bads))) (some (.own (.lst odds))) told value due at_) fun σ13 F13 H13 es13 => ?_
    have t13 := tabs_step es12.rel es13.st t12
    refine nx_of es13.rel (l13_ok h _ a2 b2 (lastOf lv) tn7 (some (nest 59)) (some (.own (.lst bads))) (some (.own (.lst odds))) value due at_) fun σ14 F14 H14 es14 => ?_
    have t14 := tabs_step es13.rel es14.st t13
    exact ⟨_, F14, es14.rel, rfl, rfl, t14, q⟩
end
end K80

set_option Elab.async false
set_option linter.all false
set_option maxRecDepth 100000
set_option maxHeartbeats 4000000
set_option exponentiation.threshold 100000
/-! M82f: the odd values are no octets. -/
namespace K80
open PySem PySem.Spec PyProof.Rows L2 Pu LamX
variable {C : Addr} {t : Tb}
theorem odds_none : ∀ p ∈ odds, (stepT C t).are_octets [.val p] = .ok (.val (.bl false), [none]) := by
  intro p hp
  unfold odds at hp
  simp only [List.mem_cons, List.not_mem_nil, or_false] at hp
  rcases hp with rfl | rfl | rfl | rfl | rfl | rfl | rfl
  · simp [Res.bind, mSeq, mNx, mRet, mRetNm, mRetN, mIfS, mNever, mAsg, setR, setV, setO, isPar, mAug, mDrop, mAppend, mExtend, ownL?, ownO, setC, RV.lst?, mSrc, itemsOf, mOp, RV.fz, OB.pv, mBor, mNm, mK, mNew, mBin, mUn, deref, liftO, mANil, mACons, mApp, derefs, vals?, RV.val?, small, mTup, mLst, mCall, lone, avsOf, avOf, backs, findArg, back1, RV.bor?, mTest, RV.bl?, mTruth, truth, mTNot, mTAnd, mTOr, mAndV, mOrV, mNotV, mIf, mChain, mgNm, mAsgT, mgTup, mgCons, mgNil, iop, pAdd, pSub, pMul, pDiv, pMod, pNeg, pLt, pLe, pGt, pGe, pEq, pNe, pAddI, pMulS, pIs, pIsNot, isP, pIn, pNotIn, inP, flatP, cmpOk, cmpOks, eqP, eqPs, pIx, fLen, fAbs, fInt, fMin2, fMax2, fOrd, fList, fTuple, fIsi, tyName, AV.slot, runF, Res.nox, RV.out, outsOf, SV.lent, range1e, range2e, range3e, range4e, isi_NoneType_int, isi_NoneType_bool, isi_NoneType_str, isi_NoneType_tuple, isi_NoneType_list, isi_bool_int, isi_bool_bool, isi_bool_str, isi_bool_tuple, isi_bool_list, isi_int_int, isi_int_bool, isi_int_str, isi_int_tuple, isi_int_list, isi_str_int, isi_str_bool, isi_str_str, isi_str_tuple, isi_str_list, isi_tuple_int, isi_tuple_bool, isi_tuple_str, isi_tuple_tuple, isi_tuple_list, isi_list_int, isi_list_bool, isi_list_str, isi_list_tuple, isi_list_list, isi_dict_int, isi_dict_bool, isi_dict_str, isi_dict_tuple, isi_dict_list, stepT, b_are_octets]
  · simp [Res.bind, mSeq, mNx, mRet, mRetNm, mRetN, mIfS, mNever, mAsg, setR, setV, setO, isPar, mAug, mDrop, mAppend, mExtend, ownL?, ownO, setC, RV.lst?, mSrc, itemsOf, mOp, RV.fz, OB.pv, mBor, mNm, mK, mNew, mBin, mUn, deref, liftO, mANil, mACons, mApp, derefs, vals?, RV.val?, small, mTup, mLst, mCall, lone, avsOf, avOf, backs, findArg, back1, RV.bor?, mTest, RV.bl?, mTruth, truth, mTNot, mTAnd, mTOr, mAndV, mOrV, mNotV, mIf, mChain, mgNm, mAsgT, mgTup, mgCons, mgNil, iop, pAdd, pSub, pMul, pDiv, pMod, pNeg, pLt, pLe, pGt, pGe, pEq, pNe, pAddI, pMulS, pIs, pIsNot, isP, pIn, pNotIn, inP, flatP, cmpOk, cmpOks, eqP, eqPs, pIx, fLen, fAbs, fInt, fMin2, fMax2, fOrd, fList, fTuple, fIsi, tyName, AV.slot, runF, Res.nox, RV.out, outsOf, SV.lent, range1e, range2e, range3e, range4e, isi_NoneType_int, isi_NoneType_bool, isi_NoneType_str, isi_NoneType_tuple, isi_NoneType_list, isi_bool_int, isi_bool_bool, isi_bool_str, isi_bool_tuple, isi_bool_list, isi_int_int, isi_int_bool, isi_int_str, isi_int_tuple, isi_int_list, isi_str_int, isi_str_bool, isi_str_str, isi_str_tuple, isi_str_list, isi_tuple_int, isi_tuple_bool, isi_tuple_str, isi_tuple_tuple, isi_tuple_list, isi_list_int, isi_list_bool, isi_list_str, isi_list_tuple, isi_list_list, isi_dict_int, isi_dict_bool, isi_dict_str, isi_dict_tuple, isi_dict_list, stepT, b_are_octets]
  · simp [Res.bind, mSeq, mNx, mRet, mRetNm, mRetN, mIfS, mNever, mAsg, setR, setV, setO, isPar, mAug, mDrop, mAppend, mExtend, ownL?, ownO, setC, RV.lst?, mSrc, itemsOf, mOp, RV.fz, OB.pv, mBor, mNm, mK, mNew, mBin, mUn, deref, liftO, mANil, mACons, mApp, derefs, vals?, RV.val?, small, mTup, mLst, mCall, lone, avsOf, avOf, backs, findArg, back1, RV.bor?, mTest, RV.bl?, mTruth, truth, mTNot, mTAnd, mTOr, mAndV, mOrV, mNotV, mIf, mChain, mgNm, mAsgT, mgTup, mgCons, mgNil, iop, pAdd, pSub, pMul, pDiv, pMod, pNeg, pLt, pLe, pGt, pGe, pEq, pNe, pAddI, pMulS, pIs, pIsNot, isP, pIn, pNotIn, inP, flatP, cmpOk, cmpOks, eqP, eqPs, pIx, fLen, fAbs, fInt, fMin2, fMax2, fOrd, fList, fTuple, fIsi, tyName, AV.slot, runF, Res.nox, RV.out, outsOf, SV.lent, range1e, range2e, range3e, range4e, isi_NoneType_int, isi_NoneType_bool, isi_NoneType_str, isi_NoneType_tuple, isi_NoneType_list, isi_bool_int, isi_bool_bool, isi_bool_str, isi_bool_tuple, isi_bool_list, isi_int_int, isi_int_bool, isi_int_str, isi_int_tuple, isi_int_list, isi_str_int, isi_str_bool, isi_str_str, isi_str_tuple, isi_str_list, isi_tuple_int, isi_tuple_bool, isi_tuple_str, isi_tuple_tuple, isi_tuple_list, isi_list_int, isi_list_bool, isi_list_str, isi_list_tuple, isi_list_list, isi_dict_int, isi_dict_bool, isi_dict_str, isi_dict_tuple, isi_dict_list, stepT, b_are_octets, mLc, lcM, wipeE, mYes, restoreE, fAll, blsOf, keepV]
  · simp [Res.bind, mSeq, mNx, mRet, mRetNm, mRetN, mIfS, mNever, mAsg, setR, setV, setO, isPar, mAug, mDrop, mAppend, mExtend, ownL?, ownO, setC, RV.lst?, mSrc, itemsOf, mOp, RV.fz, OB.pv, mBor, mNm, mK, mNew, mBin, mUn, deref, liftO, mANil, mACons, mApp, derefs, vals?, RV.val?, small, mTup, mLst, mCall, lone, avsOf, avOf, backs, findArg, back1, RV.bor?, mTest, RV.bl?, mTruth, truth, mTNot, mTAnd, mTOr, mAndV, mOrV, mNotV, mIf, mChain, mgNm, mAsgT, mgTup, mgCons, mgNil, iop, pAdd, pSub, pMul, pDiv, pMod, pNeg, pLt, pLe, pGt, pGe, pEq, pNe, pAddI, pMulS, pIs, pIsNot, isP, pIn, pNotIn, inP, flatP, cmpOk, cmpOks, eqP, eqPs, pIx, fLen, fAbs, fInt, fMin2, fMax2, fOrd, fList, fTuple, fIsi, tyName, AV.slot, runF, Res.nox, RV.out, outsOf, SV.lent, range1e, range2e, range3e, range4e, isi_NoneType_int, isi_NoneType_bool, isi_NoneType_str, isi_NoneType_tuple, isi_NoneType_list, isi_bool_int, isi_bool_bool, isi_bool_str, isi_bool_tuple, isi_bool_list, isi_int_int, isi_int_bool, isi_int_str, isi_int_tuple, isi_int_list, isi_str_int, isi_str_bool, isi_str_str, isi_str_tuple, isi_str_list, isi_tuple_int, isi_tuple_bool, isi_tuple_str, isi_tuple_tuple, isi_tuple_list, isi_list_int, isi_list_bool, isi_list_str, isi_list_tuple, isi_list_list, isi_dict_int, isi_dict_bool, isi_dict_str, isi_dict_tuple, isi_dict_list, stepT, b_are_octets, mLc, lcM, wipeE, mYes, restoreE, fAll, blsOf, keepV]
  · simp [Res.bind, mSeq, mNx, mRet, mRetNm, mRetN, mIfS, mNever, mAsg, setR, setV, setO, isPar, mAug, mDrop, mAppend, mExtend, ownL?, ownO, setC, RV.lst?, mSrc, itemsOf, mOp, RV.fz, OB.pv, mBor, mNm, mK, mNew, mBin, mUn, deref, liftO, mANil, mACons, mApp, derefs, vals?, RV.val?, small, mTup, mLst, mCall, lone, avsOf, avOf, backs, findArg, back1, RV.bor?, mTest, RV.bl?, mTruth, truth, mTNot, mTAnd, mTOr, mAndV, mOrV, mNotV, mIf, mChain, mgNm, mAsgT, mgTup, mgCons, mgNil, iop, pAdd, pSub, pMul, pDiv, pMod, pNeg, pLt, pLe, pGt, pGe, pEq, pNe, pAddI, pMulS, pIs, pIsNot, isP, pIn, pNotIn, inP, flatP, cmpOk, cmpOks, eqP, eqPs, pIx, fLen, fAbs, fInt, fMin2, fMax2, fOrd, fList, fTuple, fIsi, tyName, AV.slot, runF, Res.nox, RV.out, outsOf, SV.lent, range1e, range2e, range3e, range4e, isi_NoneType_int, isi_NoneType_bool, isi_NoneType_str, isi_NoneType_tuple, isi_NoneType_list, isi_bool_int, isi_bool_bool, isi_bool_str, isi_bool_tuple, isi_bool_list, isi_int_int, isi_int_bool, isi_int_str, isi_int_tuple, isi_int_list, isi_str_int, isi_str_bool, isi_str_str, isi_str_tuple, isi_str_list, isi_tuple_int, isi_tuple_bool, isi_tuple_str, isi_tuple_tuple, isi_tuple_list, isi_list_int, isi_list_bool, isi_list_str, isi_list_tuple, isi_list_list, isi_dict_int, isi_dict_bool, isi_dict_str, isi_dict_tuple, isi_dict_list, stepT, b_are_octets, mLc, lcM, wipeE, mYes, restoreE, fAll, blsOf, keepV]
  · simp [Res.bind, mSeq, mNx, mRet, mRetNm, mRetN, mIfS, mNever, mAsg, setR, setV, setO, isPar, mAug, mDrop, mAppend, mExtend, ownL?, ownO, setC, RV.lst?, mSrc, itemsOf, mOp, RV.fz, OB.pv, mBor, mNm, mK, mNew, mBin, mUn, deref, liftO, mANil, mACons, mApp, derefs, vals?, RV.val?, small, mTup, mLst, mCall, lone, avsOf, avOf, backs, findArg, back1, RV.bor?, mTest, RV.bl?, mTruth, truth, mTNot, mTAnd, mTOr, mAndV, mOrV, mNotV, mIf, mChain, mgNm, mAsgT, mgTup, mgCons, mgNil, iop, pAdd, pSub, pMul, pDiv, pMod, pNeg, pLt, pLe, pGt, pGe, pEq, pNe, pAddI, pMulS, pIs, pIsNot, isP, pIn, pNotIn, inP, flatP, cmpOk, cmpOks, eqP, eqPs, pIx, fLen, fAbs, fInt, fMin2, fMax2, fOrd, fList, fTuple, fIsi, tyName, AV.slot, runF, Res.nox, RV.out, outsOf, SV.lent, range1e, range2e, range3e, range4e, isi_NoneType_int, isi_NoneType_bool, isi_NoneType_str, isi_NoneType_tuple, isi_NoneType_list, isi_bool_int, isi_bool_bool, isi_bool_str, isi_bool_tuple, isi_bool_list, isi_int_int, isi_int_bool, isi_int_str, isi_int_tuple, isi_int_list, isi_str_int, isi_str_bool, isi_str_str, isi_str_tuple, isi_str_list, isi_tuple_int, isi_tuple_bool, isi_tuple_str, isi_tuple_tuple, isi_tuple_list, isi_list_int, isi_list_bool, isi_list_str, isi_list_tuple, isi_list_list, isi_dict_int, isi_dict_bool, isi_dict_str, isi_dict_tuple, isi_dict_list, stepT, b_are_octets, mLc, lcM, wipeE, mYes, restoreE, fAll, blsOf, keepV]
  · simp [Res.bind, mSeq, mNx, mRet, mRetNm, mRetN, mIfS, mNever, mAsg, setR, setV, setO, isPar, mAug, mDrop, mAppend, mExtend, ownL?, ownO, setC, RV.lst?, mSrc, itemsOf, mOp, RV.fz, OB.pv, mBor, mNm, mK, mNew, mBin, mUn, deref, liftO, mANil, mACons, mApp, derefs, vals?, RV.val?, small, mTup, mLst, mCall, lone, avsOf, avOf, backs, findArg, back1, RV.bor?, mTest, RV.bl?, mTruth, truth, mTNot, mTAnd, mTOr, mAndV, mOrV, mNotV, mIf, mChain, mgNm, mAsgT, mgTup, mgCons, mgNil, iop, pAdd, pSub, pMul, pDiv, pMod, pNeg, pLt, pLe, pGt, pGe, pEq, pNe, pAddI, pMulS, pIs, pIsNot, isP, pIn, pNotIn, inP, flatP, cmpOk, cmpOks, eqP, eqPs, pIx, fLen, fAbs, fInt, fMin2, fMax2, fOrd, fList, fTuple, fIsi, tyName, AV.slot, runF, Res.nox, RV.out, outsOf, SV.lent, range1e, range2e, range3e, range4e, isi_NoneType_int, isi_NoneType_bool, isi_NoneType_str, isi_NoneType_tuple, isi_NoneType_list, isi_bool_int, isi_bool_bool, isi_bool_str, isi_bool_tuple, isi_bool_list, isi_int_int, isi_int_bool, isi_int_str, isi_int_tuple, isi_int_list, isi_str_int, isi_str_bool, isi_str_str, isi_str_tuple, isi_str_list, isi_tuple_int, isi_tuple_bool, isi_tuple_str, isi_tuple_tuple, isi_tuple_list, isi_list_int, isi_list_bool, isi_list_str, isi_list_tuple, isi_list_list, isi_dict_int, isi_dict_bool, isi_dict_str, isi_dict_tuple, isi_dict_list, stepT, b_are_octets]
end K80

set_option Elab.async false
set_option linter.all false
set_option maxRecDepth 100000
set_option maxHeartbeats 4000000
set_option exponentiation.threshold 100000
/-! Printed by head.py: what the law's head finds. -/
namespace K80
open PySem PySem.Spec PyProof.Rows L2 Pu
def mdOf {K : PySem.W.Frag} {h : Heap} {mg : Str → Option Value} {C_Reader : Addr} {f_is_sign : Addr} {od_is_sign an_is_sign : Option Addr} {sl_is_sign : Array (Option Value)} {oc_is_sign kV_is_sign dc_is_sign pm_is_sign cd_is_sign ct_is_sign : Value} {f_sign_of : Addr} {od_sign_of an_sign_of : Option Addr} {sl_sign_of : Array (Option Value)} {oc_sign_of kV_sign_of dc_sign_of pm_sign_of cd_sign_of ct_sign_of : Value} {f_are_octets : Addr} {od_are_octets an_are_octets : Option Addr} {sl_are_octets : Array (Option Value)} {oc_are_octets kV_are_octets dc_are_octets pm_are_octets cd_are_octets ct_are_octets : Value} {f_few_digits : Addr} {od_few_digits an_few_digits : Option Addr} {sl_few_digits : Array (Option Value)} {oc_few_digits kV_few_digits dc_few_digits pm_few_digits cd_few_digits ct_few_digits : Value} {f_counted : Addr} {od_counted an_counted : Option Addr} {sl_counted : Array (Option Value)} {oc_counted kV_counted dc_counted pm_counted cd_counted ct_counted : Value} {f_digits_of : Addr} {od_digits_of an_digits_of : Option Addr} {sl_digits_of : Array (Option Value)} {oc_digits_of kV_digits_of dc_digits_of pm_digits_of cd_digits_of ct_digits_of : Value} {f_laid : Addr} {od_laid an_laid : Option Addr} {sl_laid : Array (Option Value)} {oc_laid kV_laid dc_laid pm_laid cd_laid ct_laid : Value} {f_write_octets : Addr} {od_write_octets an_write_octets : Option Addr} {sl_write_octets : Array (Option Value)} {oc_write_octets kV_write_octets dc_write_octets pm_write_octets cd_write_octets ct_write_octets : Value} {f_read_digits : Addr} {od_read_digits an_read_digits : Option Addr} {sl_read_digits : Array (Option Value)} {oc_read_digits kV_read_digits dc_read_digits pm_read_digits cd_read_digits ct_read_digits : Value} {f_Reader___init__ : Addr} {od_Reader___init__ an_Reader___init__ : Option Addr} {sl_Reader___init__ : Array (Option Value)} {oc_Reader___init__ kV_Reader___init__ dc_Reader___init__ pm_Reader___init__ cd_Reader___init__ ct_Reader___init__ : Value} {f_Reader_begin : Addr} {od_Reader_begin an_Reader_begin : Option Addr} {sl_Reader_begin : Array (Option Value)} {oc_Reader_begin kV_Reader_begin dc_Reader_begin pm_Reader_begin cd_Reader_begin ct_Reader_begin : Value} {f_Reader_number : Addr} {od_Reader_number an_Reader_number : Option Addr} {sl_Reader_number : Array (Option Value)} {oc_Reader_number kV_Reader_number dc_Reader_number pm_Reader_number cd_Reader_number ct_Reader_number : Value} {f_Reader_string : Addr} {od_Reader_string an_Reader_string : Option Addr} {sl_Reader_string : Array (Option Value)} {oc_Reader_string kV_Reader_string dc_Reader_string pm_Reader_string cd_Reader_string ct_Reader_string : Value} {f_Reader_value : Addr} {od_Reader_value an_Reader_value : Option Addr} {sl_Reader_value : Array (Option Value)} {oc_Reader_value kV_Reader_value dc_Reader_value pm_Reader_value cd_Reader_value ct_Reader_value : Value} {f_read_octets : Addr} {od_read_octets an_read_octets : Option Addr} {sl_read_octets : Array (Option Value)} {oc_read_octets kV_read_octets dc_read_octets pm_read_octets cd_read_octets ct_read_octets : Value} {f_first_unlike : Addr} {od_first_unlike an_first_unlike : Option Addr} {sl_first_unlike : Array (Option Value)} {oc_first_unlike kV_first_unlike dc_first_unlike pm_first_unlike cd_first_unlike ct_first_unlike : Value} {f_law_cup : Addr} {od_law_cup an_law_cup : Option Addr} {sl_law_cup : Array (Option Value)} {oc_law_cup kV_law_cup dc_law_cup pm_law_cup cd_law_cup ct_law_cup : Value} {f_law_roll : Addr} {od_law_roll an_law_roll : Option Addr} {sl_law_roll : Array (Option Value)} {oc_law_roll kV_law_roll dc_law_roll pm_law_roll cd_law_roll ct_law_roll : Value} {f_law_some : Addr} {od_law_some an_law_some : Option Addr} {sl_law_some : Array (Option Value)} {oc_law_some kV_law_some dc_law_some pm_law_some cd_law_some ct_law_some : Value} {f_law_sort : Addr} {od_law_sort an_law_sort : Option Addr} {sl_law_sort : Array (Option Value)} {oc_law_sort kV_law_sort dc_law_sort pm_law_sort cd_law_sort ct_law_sort : Value} {f_law_like : Addr} {od_law_like an_law_like : Option Addr} {sl_law_like : Array (Option Value)} {oc_law_like kV_law_like dc_law_like pm_law_like cd_law_like ct_law_like : Value} {f_law_signs : Addr} {od_law_signs an_law_signs : Option Addr} {sl_law_signs : Array (Option Value)} {oc_law_signs kV_law_signs dc_law_signs pm_law_signs cd_law_signs ct_law_signs : Value} {f_law_value : Addr} {od_law_value an_law_value : Option Addr} {sl_law_value : Array (Option Value)} {oc_law_value kV_law_value dc_law_value pm_law_value cd_law_value ct_law_value : Value} {f_law_digits : Addr} {od_law_digits an_law_digits : Option Addr} {sl_law_digits : Array (Option Value)} {oc_law_digits kV_law_digits dc_law_digits pm_law_digits cd_law_digits ct_law_digits : Value} {f_law_octets : Addr} {od_law_octets an_law_octets : Option Addr} {sl_law_octets : Array (Option Value)} {oc_law_octets kV_law_octets dc_law_octets pm_law_octets cd_law_octets ct_law_octets : Value} {t_DEEP : Tok} {t_DIGITS : Tok} {t_ITEMS : Tok} {t_PARTS : Tok} {t_SIGNS : Tok} (X : K.In h) (G : h.Ns mainGlobals mg)
    (aC_Reader : PySem.W.nsIn K mainGlobals "Reader" = some (some (.ref C_Reader)))
    (a_is_sign : PySem.W.nsIn K mainGlobals "is_sign" = some (some (.ref f_is_sign)))
    (l_is_sign : K.lookup f_is_sign = some ⟨oc_is_sign, od_is_sign, .func (PySem.W.fnOf "is_sign" "is_sign" (defArgs s_is_sign) (defBody s_is_sign) (defScope s_is_sign) .none kV_is_sign dc_is_sign pm_is_sign an_is_sign cd_is_sign ct_is_sign), sl_is_sign⟩)
    (c_is_sign : PySem.W.codeIn K cd_is_sign "is_sign" = true) (k_is_sign : PySem.W.keepIn K (.ref f_is_sign) = true)
    (a_sign_of : PySem.W.nsIn K mainGlobals "sign_of" = some (some (.ref f_sign_of)))
    (l_sign_of : K.lookup f_sign_of = some ⟨oc_sign_of, od_sign_of, .func (PySem.W.fnOf "sign_of" "sign_of" (defArgs s_sign_of) (defBody s_sign_of) (defScope s_sign_of) .none kV_sign_of dc_sign_of pm_sign_of an_sign_of cd_sign_of ct_sign_of), sl_sign_of⟩)
    (c_sign_of : PySem.W.codeIn K cd_sign_of "sign_of" = true) (k_sign_of : PySem.W.keepIn K (.ref f_sign_of) = true)
    (a_are_octets : PySem.W.nsIn K mainGlobals "are_octets" = some (some (.ref f_are_octets)))
    (l_are_octets : K.lookup f_are_octets = some ⟨oc_are_octets, od_are_octets, .func (PySem.W.fnOf "are_octets" "are_octets" (defArgs s_are_octets) (defBody s_are_octets) (defScope s_are_octets) .none kV_are_octets dc_are_octets pm_are_octets an_are_octets cd_are_octets ct_are_octets), sl_are_octets⟩)
    (c_are_octets : PySem.W.codeIn K cd_are_octets "are_octets" = true) (k_are_octets : PySem.W.keepIn K (.ref f_are_octets) = true)
    (a_few_digits : PySem.W.nsIn K mainGlobals "few_digits" = some (some (.ref f_few_digits)))
    (l_few_digits : K.lookup f_few_digits = some ⟨oc_few_digits, od_few_digits, .func (PySem.W.fnOf "few_digits" "few_digits" (defArgs s_few_digits) (defBody s_few_digits) (defScope s_few_digits) .none kV_few_digits dc_few_digits pm_few_digits an_few_digits cd_few_digits ct_few_digits), sl_few_digits⟩)
    (c_few_digits : PySem.W.codeIn K cd_few_digits "few_digits" = true) (k_few_digits : PySem.W.keepIn K (.ref f_few_digits) = true)
    (a_counted : PySem.W.nsIn K mainGlobals "counted" = some (some (.ref f_counted)))
    (l_counted : K.lookup f_counted = some ⟨oc_counted, od_counted, .func (PySem.W.fnOf "counted" "counted" (defArgs s_counted) (defBody s_counted) (defScope s_counted) .none kV_counted dc_counted pm_counted an_counted cd_counted ct_counted), sl_counted⟩)
    (c_counted : PySem.W.codeIn K cd_counted "counted" = true) (k_counted : PySem.W.keepIn K (.ref f_counted) = true)
    (a_digits_of : PySem.W.nsIn K mainGlobals "digits_of" = some (some (.ref f_digits_of)))
    (l_digits_of : K.lookup f_digits_of = some ⟨oc_digits_of, od_digits_of, .func (PySem.W.fnOf "digits_of" "digits_of" (defArgs s_digits_of) (defBody s_digits_of) (defScope s_digits_of) .none kV_digits_of dc_digits_of pm_digits_of an_digits_of cd_digits_of ct_digits_of), sl_digits_of⟩)
    (c_digits_of : PySem.W.codeIn K cd_digits_of "digits_of" = true) (k_digits_of : PySem.W.keepIn K (.ref f_digits_of) = true)
    (a_laid : PySem.W.nsIn K mainGlobals "laid" = some (some (.ref f_laid)))
    (l_laid : K.lookup f_laid = some ⟨oc_laid, od_laid, .func (PySem.W.fnOf "laid" "laid" (defArgs s_laid) (defBody s_laid) (defScope s_laid) .none kV_laid dc_laid pm_laid an_laid cd_laid ct_laid), sl_laid⟩)
    (c_laid : PySem.W.codeIn K cd_laid "laid" = true) (k_laid : PySem.W.keepIn K (.ref f_laid) = true)
    (a_write_octets : PySem.W.nsIn K mainGlobals "write_octets" = some (some (.ref f_write_octets)))
    (l_write_octets : K.lookup f_write_octets = some ⟨oc_write_octets, od_write_octets, .func (PySem.W.fnOf "write_octets" "write_octets" (defArgs s_write_octets) (defBody s_write_octets) (defScope s_write_octets) .none kV_write_octets dc_write_octets pm_write_octets an_write_octets cd_write_octets ct_write_octets), sl_write_octets⟩)
    (c_write_octets : PySem.W.codeIn K cd_write_octets "write_octets" = true) (k_write_octets : PySem.W.keepIn K (.ref f_write_octets) = true)
    (a_read_digits : PySem.W.nsIn K mainGlobals "read_digits" = some (some (.ref f_read_digits)))
    (l_read_digits : K.lookup f_read_digits = some ⟨oc_read_digits, od_read_digits, .func (PySem.W.fnOf "read_digits" "read_digits" (defArgs s_read_digits) (defBody s_read_digits) (defScope s_read_digits) .none kV_read_digits dc_read_digits pm_read_digits an_read_digits cd_read_digits ct_read_digits), sl_read_digits⟩)
    (c_read_digits : PySem.W.codeIn K cd_read_digits "read_digits" = true) (k_read_digits : PySem.W.keepIn K (.ref f_read_digits) = true)
    (a_Reader___init__ : PySem.W.findIn K (.ref C_Reader) "__init__" = some (some (.ref f_Reader___init__))) (i_Reader___init__ : PySem.W.isFn K (.ref f_Reader___init__) = true)
    (l_Reader___init__ : K.lookup f_Reader___init__ = some ⟨oc_Reader___init__, od_Reader___init__, .func (PySem.W.fnOf "__init__" "Reader.__init__" (defArgs s_Reader___init__) (defBody s_Reader___init__) (defScope s_Reader___init__) .none kV_Reader___init__ dc_Reader___init__ pm_Reader___init__ an_Reader___init__ cd_Reader___init__ ct_Reader___init__), sl_Reader___init__⟩)
    (c_Reader___init__ : PySem.W.codeIn K cd_Reader___init__ "Reader.__init__" = true) (k_Reader___init__ : PySem.W.keepIn K (.ref f_Reader___init__) = true)
    (a_Reader_begin : PySem.W.findIn K (.ref C_Reader) "begin" = some (some (.ref f_Reader_begin))) (i_Reader_begin : PySem.W.isFn K (.ref f_Reader_begin) = true)
    (l_Reader_begin : K.lookup f_Reader_begin = some ⟨oc_Reader_begin, od_Reader_begin, .func (PySem.W.fnOf "begin" "Reader.begin" (defArgs s_Reader_begin) (defBody s_Reader_begin) (defScope s_Reader_begin) .none kV_Reader_begin dc_Reader_begin pm_Reader_begin an_Reader_begin cd_Reader_begin ct_Reader_begin), sl_Reader_begin⟩)
    (c_Reader_begin : PySem.W.codeIn K cd_Reader_begin "Reader.begin" = true) (k_Reader_begin : PySem.W.keepIn K (.ref f_Reader_begin) = true)
    (a_Reader_number : PySem.W.findIn K (.ref C_Reader) "number" = some (some (.ref f_Reader_number))) (i_Reader_number : PySem.W.isFn K (.ref f_Reader_number) = true)
    (l_Reader_number : K.lookup f_Reader_number = some ⟨oc_Reader_number, od_Reader_number, .func (PySem.W.fnOf "number" "Reader.number" (defArgs s_Reader_number) (defBody s_Reader_number) (defScope s_Reader_number) .none kV_Reader_number dc_Reader_number pm_Reader_number an_Reader_number cd_Reader_number ct_Reader_number), sl_Reader_number⟩)
    (c_Reader_number : PySem.W.codeIn K cd_Reader_number "Reader.number" = true) (k_Reader_number : PySem.W.keepIn K (.ref f_Reader_number) = true)
    (a_Reader_string : PySem.W.findIn K (.ref C_Reader) "string" = some (some (.ref f_Reader_string))) (i_Reader_string : PySem.W.isFn K (.ref f_Reader_string) = true)
    (l_Reader_string : K.lookup f_Reader_string = some ⟨oc_Reader_string, od_Reader_string, .func (PySem.W.fnOf "string" "Reader.string" (defArgs s_Reader_string) (defBody s_Reader_string) (defScope s_Reader_string) .none kV_Reader_string dc_Reader_string pm_Reader_string an_Reader_string cd_Reader_string ct_Reader_string), sl_Reader_string⟩)
    (c_Reader_string : PySem.W.codeIn K cd_Reader_string "Reader.string" = true) (k_Reader_string : PySem.W.keepIn K (.ref f_Reader_string) = true)
    (a_Reader_value : PySem.W.findIn K (.ref C_Reader) "value" = some (some (.ref f_Reader_value))) (i_Reader_value : PySem.W.isFn K (.ref f_Reader_value) = true)
    (l_Reader_value : K.lookup f_Reader_value = some ⟨oc_Reader_value, od_Reader_value, .func (PySem.W.fnOf "value" "Reader.value" (defArgs s_Reader_value) (defBody s_Reader_value) (defScope s_Reader_value) .none kV_Reader_value dc_Reader_value pm_Reader_value an_Reader_value cd_Reader_value ct_Reader_value), sl_Reader_value⟩)
    (c_Reader_value : PySem.W.codeIn K cd_Reader_value "Reader.value" = true) (k_Reader_value : PySem.W.keepIn K (.ref f_Reader_value) = true)
    (a_read_octets : PySem.W.nsIn K mainGlobals "read_octets" = some (some (.ref f_read_octets)))
    (l_read_octets : K.lookup f_read_octets = some ⟨oc_read_octets, od_read_octets, .func (PySem.W.fnOf "read_octets" "read_octets" (defArgs s_read_octets) (defBody s_read_octets) (defScope s_read_octets) .none kV_read_octets dc_read_octets pm_read_octets an_read_octets cd_read_octets ct_read_octets), sl_read_octets⟩)
    (c_read_octets : PySem.W.codeIn K cd_read_octets "read_octets" = true) (k_read_octets : PySem.W.keepIn K (.ref f_read_octets) = true)
    (a_first_unlike : PySem.W.nsIn K mainGlobals "first_unlike" = some (some (.ref f_first_unlike)))
    (l_first_unlike : K.lookup f_first_unlike = some ⟨oc_first_unlike, od_first_unlike, .func (PySem.W.fnOf "first_unlike" "first_unlike" (defArgs s_first_unlike) (defBody s_first_unlike) (defScope s_first_unlike) .none kV_first_unlike dc_first_unlike pm_first_unlike an_first_unlike cd_first_unlike ct_first_unlike), sl_first_unlike⟩)
    (c_first_unlike : PySem.W.codeIn K cd_first_unlike "first_unlike" = true) (k_first_unlike : PySem.W.keepIn K (.ref f_first_unlike) = true)
    (a_law_cup : PySem.W.nsIn K mainGlobals "_law_cup" = some (some (.ref f_law_cup)))
    (l_law_cup : K.lookup f_law_cup = some ⟨oc_law_cup, od_law_cup, .func (PySem.W.fnOf "_law_cup" "_law_cup" (defArgs s_law_cup) (defBody s_law_cup) (defScope s_law_cup) .none kV_law_cup dc_law_cup pm_law_cup an_law_cup cd_law_cup ct_law_cup), sl_law_cup⟩)
    (c_law_cup : PySem.W.codeIn K cd_law_cup "_law_cup" = true) (k_law_cup : PySem.W.keepIn K (.ref f_law_cup) = true)
    (a_law_roll : PySem.W.nsIn K mainGlobals "_law_roll" = some (some (.ref f_law_roll)))
    (l_law_roll : K.lookup f_law_roll = some ⟨oc_law_roll, od_law_roll, .func (PySem.W.fnOf "_law_roll" "_law_roll" (defArgs s_law_roll) (defBody s_law_roll) (defScope s_law_roll) .none kV_law_roll dc_law_roll pm_law_roll an_law_roll cd_law_roll ct_law_roll), sl_law_roll⟩)
    (c_law_roll : PySem.W.codeIn K cd_law_roll "_law_roll" = true) (k_law_roll : PySem.W.keepIn K (.ref f_law_roll) = true)
    (a_law_some : PySem.W.nsIn K mainGlobals "_law_some" = some (some (.ref f_law_some)))
    (l_law_some : K.lookup f_law_some = some ⟨oc_law_some, od_law_some, .func (PySem.W.fnOf "_law_some" "_law_some" (defArgs s_law_some) (defBody s_law_some) (defScope s_law_some) .none kV_law_some dc_law_some pm_law_some an_law_some cd_law_some ct_law_some), sl_law_some⟩)
    (c_law_some : PySem.W.codeIn K cd_law_some "_law_some" = true) (k_law_some : PySem.W.keepIn K (.ref f_law_some) = true)
    (a_law_sort : PySem.W.nsIn K mainGlobals "_law_sort" = some (some (.ref f_law_sort)))
    (l_law_sort : K.lookup f_law_sort = some ⟨oc_law_sort, od_law_sort, .func (PySem.W.fnOf "_law_sort" "_law_sort" (defArgs s_law_sort) (defBody s_law_sort) (defScope s_law_sort) .none kV_law_sort dc_law_sort pm_law_sort an_law_sort cd_law_sort ct_law_sort), sl_law_sort⟩)
    (c_law_sort : PySem.W.codeIn K cd_law_sort "_law_sort" = true) (k_law_sort : PySem.W.keepIn K (.ref f_law_sort) = true)
    (a_law_like : PySem.W.nsIn K mainGlobals "_law_like" = some (some (.ref f_law_like)))
    (l_law_like : K.lookup f_law_like = some ⟨oc_law_like, od_law_like, .func (PySem.W.fnOf "_law_like" "_law_like" (defArgs s_law_like) (defBody s_law_like) (defScope s_law_like) .none kV_law_like dc_law_like pm_law_like an_law_like cd_law_like ct_law_like), sl_law_like⟩)
    (c_law_like : PySem.W.codeIn K cd_law_like "_law_like" = true) (k_law_like : PySem.W.keepIn K (.ref f_law_like) = true)
    (a_law_signs : PySem.W.nsIn K mainGlobals "_law_signs" = some (some (.ref f_law_signs)))
    (l_law_signs : K.lookup f_law_signs = some ⟨oc_law_signs, od_law_signs, .func (PySem.W.fnOf "_law_signs" "_law_signs" (defArgs s_law_signs) (defBody s_law_signs) (defScope s_law_signs) .none kV_law_signs dc_law_signs pm_law_signs an_law_signs cd_law_signs ct_law_signs), sl_law_signs⟩)
    (c_law_signs : PySem.W.codeIn K cd_law_signs "_law_signs" = true) (k_law_signs : PySem.W.keepIn K (.ref f_law_signs) = true)
    (a_law_value : PySem.W.nsIn K mainGlobals "_law_value" = some (some (.ref f_law_value)))
    (l_law_value : K.lookup f_law_value = some ⟨oc_law_value, od_law_value, .func (PySem.W.fnOf "_law_value" "_law_value" (defArgs s_law_value) (defBody s_law_value) (defScope s_law_value) .none kV_law_value dc_law_value pm_law_value an_law_value cd_law_value ct_law_value), sl_law_value⟩)
    (c_law_value : PySem.W.codeIn K cd_law_value "_law_value" = true) (k_law_value : PySem.W.keepIn K (.ref f_law_value) = true)
    (a_law_digits : PySem.W.nsIn K mainGlobals "_law_digits" = some (some (.ref f_law_digits)))
    (l_law_digits : K.lookup f_law_digits = some ⟨oc_law_digits, od_law_digits, .func (PySem.W.fnOf "_law_digits" "_law_digits" (defArgs s_law_digits) (defBody s_law_digits) (defScope s_law_digits) .none kV_law_digits dc_law_digits pm_law_digits an_law_digits cd_law_digits ct_law_digits), sl_law_digits⟩)
    (c_law_digits : PySem.W.codeIn K cd_law_digits "_law_digits" = true) (k_law_digits : PySem.W.keepIn K (.ref f_law_digits) = true)
    (a_law_octets : PySem.W.nsIn K mainGlobals "_law_octets" = some (some (.ref f_law_octets)))
    (l_law_octets : K.lookup f_law_octets = some ⟨oc_law_octets, od_law_octets, .func (PySem.W.fnOf "_law_octets" "_law_octets" (defArgs s_law_octets) (defBody s_law_octets) (defScope s_law_octets) .none kV_law_octets dc_law_octets pm_law_octets an_law_octets cd_law_octets ct_law_octets), sl_law_octets⟩)
    (c_law_octets : PySem.W.codeIn K cd_law_octets "_law_octets" = true) (k_law_octets : PySem.W.keepIn K (.ref f_law_octets) = true)
    (pg_Reader : PySem.W.plainGet K C_Reader Str.empty = true) (hd_Reader : PySem.W.hasDictIn K C_Reader = true) (po_Reader : PySem.W.plainOver K C_Reader = true) (sa_Reader : PySem.W.findIn K (.ref C_Reader) "__setattr__" = some (some (.builtin "object.__setattr__"))) (mk_Reader : PySem.W.makesIn K C_Reader = true) (kc_Reader : PySem.W.keepIn K (.ref C_Reader) = true)
    (na_Reader_octets : PySem.W.findIn K (.ref C_Reader) "octets" = some none)
    (na_Reader_at : PySem.W.findIn K (.ref C_Reader) "at" = some none)
    (na_Reader_parts : PySem.W.findIn K (.ref C_Reader) "parts" = some none)
    (z_abs : PySem.W.nsIn K mainGlobals "abs" = some none)
    (z_all : PySem.W.nsIn K mainGlobals "all" = some none)
    (z_bool : PySem.W.nsIn K mainGlobals "bool" = some none)
    (z_bytes : PySem.W.nsIn K mainGlobals "bytes" = some none)
    (z_int : PySem.W.nsIn K mainGlobals "int" = some none)
    (z_isinstance : PySem.W.nsIn K mainGlobals "isinstance" = some none)
    (z_len : PySem.W.nsIn K mainGlobals "len" = some none)
    (z_list : PySem.W.nsIn K mainGlobals "list" = some none)
    (z_min : PySem.W.nsIn K mainGlobals "min" = some none)
    (z_ord : PySem.W.nsIn K mainGlobals "ord" = some none)
    (z_range : PySem.W.nsIn K mainGlobals "range" = some none)
    (z_str : PySem.W.nsIn K mainGlobals "str" = some none)
    (z_tuple : PySem.W.nsIn K mainGlobals "tuple" = some none)
    (z_zip : PySem.W.nsIn K mainGlobals "zip" = some none)
    (v_DEEP : PySem.W.nsIn K mainGlobals "DEEP" = some (some (.int 60 t_DEEP)))
    (v_DIGITS : PySem.W.nsIn K mainGlobals "DIGITS" = some (some (.int 950 t_DIGITS)))
    (v_ITEMS : PySem.W.nsIn K mainGlobals "ITEMS" = some (some (.int 50000 t_ITEMS)))
    (v_PARTS : PySem.W.nsIn K mainGlobals "PARTS" = some (some (.int 500000 t_PARTS)))
    (v_SIGNS : PySem.W.nsIn K mainGlobals "SIGNS" = some (some (.int 20000 t_SIGNS))) : Facts K mg where
  C_Reader := C_Reader
  is_sign := Pu.FnF.of X G a_is_sign l_is_sign c_is_sign k_is_sign (fun _ _ _ _ _ _ us hl => match us, hl with | [_], _ => rfl)
  sign_of := Pu.FnF.of X G a_sign_of l_sign_of c_sign_of k_sign_of (fun _ _ _ _ _ _ us hl => match us, hl with | [_], _ => rfl)
  are_octets := Pu.FnF.of X G a_are_octets l_are_octets c_are_octets k_are_octets (fun _ _ _ _ _ _ us hl => match us, hl with | [_], _ => rfl)
  few_digits := Pu.FnF.of X G a_few_digits l_few_digits c_few_digits k_few_digits (fun _ _ _ _ _ _ us hl => match us, hl with | [_], _ => rfl)
  counted := Pu.FnF.of X G a_counted l_counted c_counted k_counted (fun _ _ _ _ _ _ us hl => match us, hl with | [_, _], _ => rfl)
  digits_of := Pu.FnF.of X G a_digits_of l_digits_of c_digits_of k_digits_of (fun _ _ _ _ _ _ us hl => match us, hl with | [_], _ => rfl)
  laid := Pu.FnF.of X G a_laid l_laid c_laid k_laid (fun _ _ _ _ _ _ us hl => match us, hl with | [_], _ => rfl)
  write_octets := Pu.FnF.of X G a_write_octets l_write_octets c_write_octets k_write_octets (fun _ _ _ _ _ _ us hl => match us, hl with | [_], _ => rfl)
  read_digits := Pu.FnF.of X G a_read_digits l_read_digits c_read_digits k_read_digits (fun _ _ _ _ _ _ us hl => match us, hl with | [_, _, _], _ => rfl)
  Reader___init__ := Pu.FnM.of a_Reader___init__ i_Reader___init__ l_Reader___init__ c_Reader___init__ k_Reader___init__ (fun _ _ _ _ _ _ us hl => match us, hl with | [_, _], _ => rfl)
  Reader_begin := Pu.FnM.of a_Reader_begin i_Reader_begin l_Reader_begin c_Reader_begin k_Reader_begin (fun _ _ _ _ _ _ us hl => match us, hl with | [_], _ => rfl)
  Reader_number := Pu.FnM.of a_Reader_number i_Reader_number l_Reader_number c_Reader_number k_Reader_number (fun _ _ _ _ _ _ us hl => match us, hl with | [_, _], _ => rfl)
  Reader_string := Pu.FnM.of a_Reader_string i_Reader_string l_Reader_string c_Reader_string k_Reader_string (fun _ _ _ _ _ _ us hl => match us, hl with | [_], _ => rfl)
  Reader_value := Pu.FnM.of a_Reader_value i_Reader_value l_Reader_value c_Reader_value k_Reader_value (fun _ _ _ _ _ _ us hl => match us, hl with | [_, _], _ => rfl)
  read_octets := Pu.FnF.of X G a_read_octets l_read_octets c_read_octets k_read_octets (fun _ _ _ _ _ _ us hl => match us, hl with | [_], _ => rfl)
  first_unlike := Pu.FnF.of X G a_first_unlike l_first_unlike c_first_unlike k_first_unlike (fun _ _ _ _ _ _ us hl => match us, hl with | [_, _], _ => rfl)
  law_cup := Pu.FnF.of X G a_law_cup l_law_cup c_law_cup k_law_cup (fun _ _ _ _ _ _ us hl => match us, hl with | [_], _ => rfl)
  law_roll := Pu.FnF.of X G a_law_roll l_law_roll c_law_roll k_law_roll (fun _ _ _ _ _ _ us hl => match us, hl with | [_, _], _ => rfl)
  law_some := Pu.FnF.of X G a_law_some l_law_some c_law_some k_law_some (fun _ _ _ _ _ _ us hl => match us, hl with | [_, _], _ => rfl)
  law_sort := Pu.FnF.of X G a_law_sort l_law_sort c_law_sort k_law_sort (fun _ _ _ _ _ _ us hl => match us, hl with | [_], _ => rfl)
  law_like := Pu.FnF.of X G a_law_like l_law_like c_law_like k_law_like (fun _ _ _ _ _ _ us hl => match us, hl with | [_, _], _ => rfl)
  law_signs := Pu.FnF.of X G a_law_signs l_law_signs c_law_signs k_law_signs (fun _ _ _ _ _ _ us hl => match us, hl with | [_], _ => rfl)
  law_value := Pu.FnF.of X G a_law_value l_law_value c_law_value k_law_value (fun _ _ _ _ _ _ us hl => match us, hl with | [_, _], _ => rfl)
  law_digits := Pu.FnF.of X G a_law_digits l_law_digits c_law_digits k_law_digits (fun _ _ _ _ _ _ us hl => match us, hl with | [_], _ => rfl)
  law_octets := Pu.FnF.of X G a_law_octets l_law_octets c_law_octets k_law_octets (fun _ _ _ _ _ _ us hl => match us, hl with | [_], _ => rfl)
  cl_Reader := ⟨pg_Reader, hd_Reader, po_Reader, sa_Reader⟩
  cg_Reader := PySem.W.mg_of X G aC_Reader
  mk_Reader := ⟨mk_Reader, a_Reader___init__, i_Reader___init__, kc_Reader⟩
  na_Reader_octets := na_Reader_octets
  na_Reader_at := na_Reader_at
  na_Reader_parts := na_Reader_parts
  z_abs := PySem.W.mg_none_of X G z_abs
  z_all := PySem.W.mg_none_of X G z_all
  z_bool := PySem.W.mg_none_of X G z_bool
  z_bytes := PySem.W.mg_none_of X G z_bytes
  z_int := PySem.W.mg_none_of X G z_int
  z_isinstance := PySem.W.mg_none_of X G z_isinstance
  z_len := PySem.W.mg_none_of X G z_len
  z_list := PySem.W.mg_none_of X G z_list
  z_min := PySem.W.mg_none_of X G z_min
  z_ord := PySem.W.mg_none_of X G z_ord
  z_range := PySem.W.mg_none_of X G z_range
  z_str := PySem.W.mg_none_of X G z_str
  z_tuple := PySem.W.mg_none_of X G z_tuple
  z_zip := PySem.W.mg_none_of X G z_zip
  t_DEEP := t_DEEP
  c_DEEP := PySem.W.mg_of X G v_DEEP
  t_DIGITS := t_DIGITS
  c_DIGITS := PySem.W.mg_of X G v_DIGITS
  t_ITEMS := t_ITEMS
  c_ITEMS := PySem.W.mg_of X G v_ITEMS
  t_PARTS := t_PARTS
  c_PARTS := PySem.W.mg_of X G v_PARTS
  t_SIGNS := t_SIGNS
  c_SIGNS := PySem.W.mg_of X G v_SIGNS
theorem all_mk {l : PySem.W.OpenLaw} {w : World} {K : PySem.W.Frag} {h : Heap} {mg : Str → Option Value} {fa : Addr} {C_Reader : Addr} {f_is_sign : Addr} {od_is_sign an_is_sign : Option Addr} {sl_is_sign : Array (Option Value)} {oc_is_sign kV_is_sign dc_is_sign pm_is_sign cd_is_sign ct_is_sign : Value} {f_sign_of : Addr} {od_sign_of an_sign_of : Option Addr} {sl_sign_of : Array (Option Value)} {oc_sign_of kV_sign_of dc_sign_of pm_sign_of cd_sign_of ct_sign_of : Value} {f_are_octets : Addr} {od_are_octets an_are_octets : Option Addr} {sl_are_octets : Array (Option Value)} {oc_are_octets kV_are_octets dc_are_octets pm_are_octets cd_are_octets ct_are_octets : Value} {f_few_digits : Addr} {od_few_digits an_few_digits : Option Addr} {sl_few_digits : Array (Option Value)} {oc_few_digits kV_few_digits dc_few_digits pm_few_digits cd_few_digits ct_few_digits : Value} {f_counted : Addr} {od_counted an_counted : Option Addr} {sl_counted : Array (Option Value)} {oc_counted kV_counted dc_counted pm_counted cd_counted ct_counted : Value} {f_digits_of : Addr} {od_digits_of an_digits_of : Option Addr} {sl_digits_of : Array (Option Value)} {oc_digits_of kV_digits_of dc_digits_of pm_digits_of cd_digits_of ct_digits_of : Value} {f_laid : Addr} {od_laid an_laid : Option Addr} {sl_laid : Array (Option Value)} {oc_laid kV_laid dc_laid pm_laid cd_laid ct_laid : Value} {f_write_octets : Addr} {od_write_octets an_write_octets : Option Addr} {sl_write_octets : Array (Option Value)} {oc_write_octets kV_write_octets dc_write_octets pm_write_octets cd_write_octets ct_write_octets : Value} {f_read_digits : Addr} {od_read_digits an_read_digits : Option Addr} {sl_read_digits : Array (Option Value)} {oc_read_digits kV_read_digits dc_read_digits pm_read_digits cd_read_digits ct_read_digits : Value} {f_Reader___init__ : Addr} {od_Reader___init__ an_Reader___init__ : Option Addr} {sl_Reader___init__ : Array (Option Value)} {oc_Reader___init__ kV_Reader___init__ dc_Reader___init__ pm_Reader___init__ cd_Reader___init__ ct_Reader___init__ : Value} {f_Reader_begin : Addr} {od_Reader_begin an_Reader_begin : Option Addr} {sl_Reader_begin : Array (Option Value)} {oc_Reader_begin kV_Reader_begin dc_Reader_begin pm_Reader_begin cd_Reader_begin ct_Reader_begin : Value} {f_Reader_number : Addr} {od_Reader_number an_Reader_number : Option Addr} {sl_Reader_number : Array (Option Value)} {oc_Reader_number kV_Reader_number dc_Reader_number pm_Reader_number cd_Reader_number ct_Reader_number : Value} {f_Reader_string : Addr} {od_Reader_string an_Reader_string : Option Addr} {sl_Reader_string : Array (Option Value)} {oc_Reader_string kV_Reader_string dc_Reader_string pm_Reader_string cd_Reader_string ct_Reader_string : Value} {f_Reader_value : Addr} {od_Reader_value an_Reader_value : Option Addr} {sl_Reader_value : Array (Option Value)} {oc_Reader_value kV_Reader_value dc_Reader_value pm_Reader_value cd_Reader_value ct_Reader_value : Value} {f_read_octets : Addr} {od_read_octets an_read_octets : Option Addr} {sl_read_octets : Array (Option Value)} {oc_read_octets kV_read_octets dc_read_octets pm_read_octets cd_read_octets ct_read_octets : Value} {f_first_unlike : Addr} {od_first_unlike an_first_unlike : Option Addr} {sl_first_unlike : Array (Option Value)} {oc_first_unlike kV_first_unlike dc_first_unlike pm_first_unlike cd_first_unlike ct_first_unlike : Value} {f_law_cup : Addr} {od_law_cup an_law_cup : Option Addr} {sl_law_cup : Array (Option Value)} {oc_law_cup kV_law_cup dc_law_cup pm_law_cup cd_law_cup ct_law_cup : Value} {f_law_roll : Addr} {od_law_roll an_law_roll : Option Addr} {sl_law_roll : Array (Option Value)} {oc_law_roll kV_law_roll dc_law_roll pm_law_roll cd_law_roll ct_law_roll : Value} {f_law_some : Addr} {od_law_some an_law_some : Option Addr} {sl_law_some : Array (Option Value)} {oc_law_some kV_law_some dc_law_some pm_law_some cd_law_some ct_law_some : Value} {f_law_sort : Addr} {od_law_sort an_law_sort : Option Addr} {sl_law_sort : Array (Option Value)} {oc_law_sort kV_law_sort dc_law_sort pm_law_sort cd_law_sort ct_law_sort : Value} {f_law_like : Addr} {od_law_like an_law_like : Option Addr} {sl_law_like : Array (Option Value)} {oc_law_like kV_law_like dc_law_like pm_law_like cd_law_like ct_law_like : Value} {f_law_signs : Addr} {od_law_signs an_law_signs : Option Addr} {sl_law_signs : Array (Option Value)} {oc_law_signs kV_law_signs dc_law_signs pm_law_signs cd_law_signs ct_law_signs : Value} {f_law_value : Addr} {od_law_value an_law_value : Option Addr} {sl_law_value : Array (Option Value)} {oc_law_value kV_law_value dc_law_value pm_law_value cd_law_value ct_law_value : Value} {f_law_digits : Addr} {od_law_digits an_law_digits : Option Addr} {sl_law_digits : Array (Option Value)} {oc_law_digits kV_law_digits dc_law_digits pm_law_digits cd_law_digits ct_law_digits : Value} {f_law_octets : Addr} {od_law_octets an_law_octets : Option Addr} {sl_law_octets : Array (Option Value)} {oc_law_octets kV_law_octets dc_law_octets pm_law_octets cd_law_octets ct_law_octets : Value} {t_DEEP : Tok} {t_DIGITS : Tok} {t_ITEMS : Tok} {t_PARTS : Tok} {t_SIGNS : Tok} {CH CI f_law ca_law P_law : Addr} {od_law an_law : Option Addr} {sl_law : Array (Option Value)} {oc_law kV_law dc_law pm_law ct_law : Value} {f_law_refused : Addr} {od_law_refused an_law_refused : Option Addr} {sl_law_refused : Array (Option Value)} {oc_law_refused kV_law_refused dc_law_refused pm_law_refused cd_law_refused ct_law_refused : Value} (X : K.In h) (G : h.Ns mainGlobals mg) (hfa : mg "law" = some (.ref fa))
    (aC_Reader : PySem.W.nsIn K mainGlobals "Reader" = some (some (.ref C_Reader)))
    (a_is_sign : PySem.W.nsIn K mainGlobals "is_sign" = some (some (.ref f_is_sign)))
    (l_is_sign : K.lookup f_is_sign = some ⟨oc_is_sign, od_is_sign, .func (PySem.W.fnOf "is_sign" "is_sign" (defArgs s_is_sign) (defBody s_is_sign) (defScope s_is_sign) .none kV_is_sign dc_is_sign pm_is_sign an_is_sign cd_is_sign ct_is_sign), sl_is_sign⟩)
    (c_is_sign : PySem.W.codeIn K cd_is_sign "is_sign" = true) (k_is_sign : PySem.W.keepIn K (.ref f_is_sign) = true)
    (a_sign_of : PySem.W.nsIn K mainGlobals "sign_of" = some (some (.ref f_sign_of)))
    (l_sign_of : K.lookup f_sign_of = some ⟨oc_sign_of, od_sign_of, .func (PySem.W.fnOf "sign_of" "sign_of" (defArgs s_sign_of) (defBody s_sign_of) (defScope s_sign_of) .none kV_sign_of dc_sign_of pm_sign_of an_sign_of cd_sign_of ct_sign_of), sl_sign_of⟩)
    (c_sign_of : PySem.W.codeIn K cd_sign_of "sign_of" = true) (k_sign_of : PySem.W.keepIn K (.ref f_sign_of) = true)
    (a_are_octets : PySem.W.nsIn K mainGlobals "are_octets" = some (some (.ref f_are_octets)))
    (l_are_octets : K.lookup f_are_octets = some ⟨oc_are_octets, od_are_octets, .func (PySem.W.fnOf "are_octets" "are_octets" (defArgs s_are_octets) (defBody s_are_octets) (defScope s_are_octets) .none kV_are_octets dc_are_octets pm_are_octets an_are_octets cd_are_octets ct_are_octets), sl_are_octets⟩)
    (c_are_octets : PySem.W.codeIn K cd_are_octets "are_octets" = true) (k_are_octets : PySem.W.keepIn K (.ref f_are_octets) = true)
    (a_few_digits : PySem.W.nsIn K mainGlobals "few_digits" = some (some (.ref f_few_digits)))
    (l_few_digits : K.lookup f_few_digits = some ⟨oc_few_digits, od_few_digits, .func (PySem.W.fnOf "few_digits" "few_digits" (defArgs s_few_digits) (defBody s_few_digits) (defScope s_few_digits) .none kV_few_digits dc_few_digits pm_few_digits an_few_digits cd_few_digits ct_few_digits), sl_few_digits⟩)
    (c_few_digits : PySem.W.codeIn K cd_few_digits "few_digits" = true) (k_few_digits : PySem.W.keepIn K (.ref f_few_digits) = true)
    (a_counted : PySem.W.nsIn K mainGlobals "counted" = some (some (.ref f_counted)))
    (l_counted : K.lookup f_counted = some ⟨oc_counted, od_counted, .func (PySem.W.fnOf "counted" "counted" (defArgs s_counted) (defBody s_counted) (defScope s_counted) .none kV_counted dc_counted pm_counted an_counted cd_counted ct_counted), sl_counted⟩)
    (c_counted : PySem.W.codeIn K cd_counted "counted" = true) (k_counted : PySem.W.keepIn K (.ref f_counted) = true)
    (a_digits_of : PySem.W.nsIn K mainGlobals "digits_of" = some (some (.ref f_digits_of)))
    (l_digits_of : K.lookup f_digits_of = some ⟨oc_digits_of, od_digits_of, .func (PySem.W.fnOf "digits_of" "digits_of" (defArgs s_digits_of) (defBody s_digits_of) (defScope s_digits_of) .none kV_digits_of dc_digits_of pm_digits_of an_digits_of cd_digits_of ct_digits_of), sl_digits_of⟩)
    (c_digits_of : PySem.W.codeIn K cd_digits_of "digits_of" = true) (k_digits_of : PySem.W.keepIn K (.ref f_digits_of) = true)
    (a_laid : PySem.W.nsIn K mainGlobals "laid" = some (some (.ref f_laid)))
    (l_laid : K.lookup f_laid = some ⟨oc_laid, od_laid, .func (PySem.W.fnOf "laid" "laid" (defArgs s_laid) (defBody s_laid) (defScope s_laid) .none kV_laid dc_laid pm_laid an_laid cd_laid ct_laid), sl_laid⟩)
    (c_laid : PySem.W.codeIn K cd_laid "laid" = true) (k_laid : PySem.W.keepIn K (.ref f_laid) = true)
    (a_write_octets : PySem.W.nsIn K mainGlobals "write_octets" = some (some (.ref f_write_octets)))
    (l_write_octets : K.lookup f_write_octets = some ⟨oc_write_octets, od_write_octets, .func (PySem.W.fnOf "write_octets" "write_octets" (defArgs s_write_octets) (defBody s_write_octets) (defScope s_write_octets) .none kV_write_octets dc_write_octets pm_write_octets an_write_octets cd_write_octets ct_write_octets), sl_write_octets⟩)
    (c_write_octets : PySem.W.codeIn K cd_write_octets "write_octets" = true) (k_write_octets : PySem.W.keepIn K (.ref f_write_octets) = true)
    (a_read_digits : PySem.W.nsIn K mainGlobals "read_digits" = some (some (.ref f_read_digits)))
    (l_read_digits : K.lookup f_read_digits = some ⟨oc_read_digits, od_read_digits, .func (PySem.W.fnOf "read_digits" "read_digits" (defArgs s_read_digits) (defBody s_read_digits) (defScope s_read_digits) .none kV_read_digits dc_read_digits pm_read_digits an_read_digits cd_read_digits ct_read_digits), sl_read_digits⟩)
    (c_read_digits : PySem.W.codeIn K cd_read_digits "read_digits" = true) (k_read_digits : PySem.W.keepIn K (.ref f_read_digits) = true)
    (a_Reader___init__ : PySem.W.findIn K (.ref C_Reader) "__init__" = some (some (.ref f_Reader___init__))) (i_Reader___init__ : PySem.W.isFn K (.ref f_Reader___init__) = true)
    (l_Reader___init__ : K.lookup f_Reader___init__ = some ⟨oc_Reader___init__, od_Reader___init__, .func (PySem.W.fnOf "__init__" "Reader.__init__" (defArgs s_Reader___init__) (defBody s_Reader___init__) (defScope s_Reader___init__) .none kV_Reader___init__ dc_Reader___init__ pm_Reader___init__ an_Reader___init__ cd_Reader___init__ ct_Reader___init__), sl_Reader___init__⟩)
    (c_Reader___init__ : PySem.W.codeIn K cd_Reader___init__ "Reader.__init__" = true) (k_Reader___init__ : PySem.W.keepIn K (.ref f_Reader___init__) = true)
    (a_Reader_begin : PySem.W.findIn K (.ref C_Reader) "begin" = some (some (.ref f_Reader_begin))) (i_Reader_begin : PySem.W.isFn K (.ref f_Reader_begin) = true)
    (l_Reader_begin : K.lookup f_Reader_begin = some ⟨oc_Reader_begin, od_Reader_begin, .func (PySem.W.fnOf "begin" "Reader.begin" (defArgs s_Reader_begin) (defBody s_Reader_begin) (defScope s_Reader_begin) .none kV_Reader_begin dc_Reader_begin pm_Reader_begin an_Reader_begin cd_Reader_begin ct_Reader_begin), sl_Reader_begin⟩)
    (c_Reader_begin : PySem.W.codeIn K cd_Reader_begin "Reader.begin" = true) (k_Reader_begin : PySem.W.keepIn K (.ref f_Reader_begin) = true)
    (a_Reader_number : PySem.W.findIn K (.ref C_Reader) "number" = some (some (.ref f_Reader_number))) (i_Reader_number : PySem.W.isFn K (.ref f_Reader_number) = true)
    (l_Reader_number : K.lookup f_Reader_number = some ⟨oc_Reader_number, od_Reader_number, .func (PySem.W.fnOf "number" "Reader.number" (defArgs s_Reader_number) (defBody s_Reader_number) (defScope s_Reader_number) .none kV_Reader_number dc_Reader_number pm_Reader_number an_Reader_number cd_Reader_number ct_Reader_number), sl_Reader_number⟩)
    (c_Reader_number : PySem.W.codeIn K cd_Reader_number "Reader.number" = true) (k_Reader_number : PySem.W.keepIn K (.ref f_Reader_number) = true)
    (a_Reader_string : PySem.W.findIn K (.ref C_Reader) "string" = some (some (.ref f_Reader_string))) (i_Reader_string : PySem.W.isFn K (.ref f_Reader_string) = true)
    (l_Reader_string : K.lookup f_Reader_string = some ⟨oc_Reader_string, od_Reader_string, .func (PySem.W.fnOf "string" "Reader.string" (defArgs s_Reader_string) (defBody s_Reader_string) (defScope s_Reader_string) .none kV_Reader_string dc_Reader_string pm_Reader_string an_Reader_string cd_Reader_string ct_Reader_string), sl_Reader_string⟩)
    (c_Reader_string : PySem.W.codeIn K cd_Reader_string "Reader.string" = true) (k_Reader_string : PySem.W.keepIn K (.ref f_Reader_string) = true)
    (a_Reader_value : PySem.W.findIn K (.ref C_Reader) "value" = some (some (.ref f_Reader_value))) (i_Reader_value : PySem.W.isFn K (.ref f_Reader_value) = true)
    (l_Reader_value : K.lookup f_Reader_value = some ⟨oc_Reader_value, od_Reader_value, .func (PySem.W.fnOf "value" "Reader.value" (defArgs s_Reader_value) (defBody s_Reader_value) (defScope s_Reader_value) .none kV_Reader_value dc_Reader_value pm_Reader_value an_Reader_value cd_Reader_value ct_Reader_value), sl_Reader_value⟩)
    (c_Reader_value : PySem.W.codeIn K cd_Reader_value "Reader.value" = true) (k_Reader_value : PySem.W.keepIn K (.ref f_Reader_value) = true)
    (a_read_octets : PySem.W.nsIn K mainGlobals "read_octets" = some (some (.ref f_read_octets)))
    (l_read_octets : K.lookup f_read_octets = some ⟨oc_read_octets, od_read_octets, .func (PySem.W.fnOf "read_octets" "read_octets" (defArgs s_read_octets) (defBody s_read_octets) (defScope s_read_octets) .none kV_read_octets dc_read_octets pm_read_octets an_read_octets cd_read_octets ct_read_octets), sl_read_octets⟩)
    (c_read_octets : PySem.W.codeIn K cd_read_octets "read_octets" = true) (k_read_octets : PySem.W.keepIn K (.ref f_read_octets) = true)
    (a_first_unlike : PySem.W.nsIn K mainGlobals "first_unlike" = some (some (.ref f_first_unlike)))
    (l_first_unlike : K.lookup f_first_unlike = some ⟨oc_first_unlike, od_first_unlike, .func (PySem.W.fnOf "first_unlike" "first_unlike" (defArgs s_first_unlike) (defBody s_first_unlike) (defScope s_first_unlike) .none kV_first_unlike dc_first_unlike pm_first_unlike an_first_unlike cd_first_unlike ct_first_unlike), sl_first_unlike⟩)
    (c_first_unlike : PySem.W.codeIn K cd_first_unlike "first_unlike" = true) (k_first_unlike : PySem.W.keepIn K (.ref f_first_unlike) = true)
    (a_law_cup : PySem.W.nsIn K mainGlobals "_law_cup" = some (some (.ref f_law_cup)))
    (l_law_cup : K.lookup f_law_cup = some ⟨oc_law_cup, od_law_cup, .func (PySem.W.fnOf "_law_cup" "_law_cup" (defArgs s_law_cup) (defBody s_law_cup) (defScope s_law_cup) .none kV_law_cup dc_law_cup pm_law_cup an_law_cup cd_law_cup ct_law_cup), sl_law_cup⟩)
    (c_law_cup : PySem.W.codeIn K cd_law_cup "_law_cup" = true) (k_law_cup : PySem.W.keepIn K (.ref f_law_cup) = true)
    (a_law_roll : PySem.W.nsIn K mainGlobals "_law_roll" = some (some (.ref f_law_roll)))
    (l_law_roll : K.lookup f_law_roll = some ⟨oc_law_roll, od_law_roll, .func (PySem.W.fnOf "_law_roll" "_law_roll" (defArgs s_law_roll) (defBody s_law_roll) (defScope s_law_roll) .none kV_law_roll dc_law_roll pm_law_roll an_law_roll cd_law_roll ct_law_roll), sl_law_roll⟩)
    (c_law_roll : PySem.W.codeIn K cd_law_roll "_law_roll" = true) (k_law_roll : PySem.W.keepIn K (.ref f_law_roll) = true)
    (a_law_some : PySem.W.nsIn K mainGlobals "_law_some" = some (some (.ref f_law_some)))
    (l_law_some : K.lookup f_law_some = some ⟨oc_law_some, od_law_some, .func (PySem.W.fnOf "_law_some" "_law_some" (defArgs s_law_some) (defBody s_law_some) (defScope s_law_some) .none kV_law_some dc_law_some pm_law_some an_law_some cd_law_some ct_law_some), sl_law_some⟩)
    (c_law_some : PySem.W.codeIn K cd_law_some "_law_some" = true) (k_law_some : PySem.W.keepIn K (.ref f_law_some) = true)
    (a_law_sort : PySem.W.nsIn K mainGlobals "_law_sort" = some (some (.ref f_law_sort)))
    (l_law_sort : K.lookup f_law_sort = some ⟨oc_law_sort, od_law_sort, .func (PySem.W.fnOf "_law_sort" "_law_sort" (defArgs s_law_sort) (defBody s_law_sort) (defScope s_law_sort) .none kV_law_sort dc_law_sort pm_law_sort an_law_sort cd_law_sort ct_law_sort), sl_law_sort⟩)
    (c_law_sort : PySem.W.codeIn K cd_law_sort "_law_sort" = true) (k_law_sort : PySem.W.keepIn K (.ref f_law_sort) = true)
    (a_law_like : PySem.W.nsIn K mainGlobals "_law_like" = some (some (.ref f_law_like)))
    (l_law_like : K.lookup f_law_like = some ⟨oc_law_like, od_law_like, .func (PySem.W.fnOf "_law_like" "_law_like" (defArgs s_law_like) (defBody s_law_like) (defScope s_law_like) .none kV_law_like dc_law_like pm_law_like an_law_like cd_law_like ct_law_like), sl_law_like⟩)
    (c_law_like : PySem.W.codeIn K cd_law_like "_law_like" = true) (k_law_like : PySem.W.keepIn K (.ref f_law_like) = true)
    (a_law_signs : PySem.W.nsIn K mainGlobals "_law_signs" = some (some (.ref f_law_signs)))
    (l_law_signs : K.lookup f_law_signs = some ⟨oc_law_signs, od_law_signs, .func (PySem.W.fnOf "_law_signs" "_law_signs" (defArgs s_law_signs) (defBody s_law_signs) (defScope s_law_signs) .none kV_law_signs dc_law_signs pm_law_signs an_law_signs cd_law_signs ct_law_signs), sl_law_signs⟩)
    (c_law_signs : PySem.W.codeIn K cd_law_signs "_law_signs" = true) (k_law_signs : PySem.W.keepIn K (.ref f_law_signs) = true)
    (a_law_value : PySem.W.nsIn K mainGlobals "_law_value" = some (some (.ref f_law_value)))
    (l_law_value : K.lookup f_law_value = some ⟨oc_law_value, od_law_value, .func (PySem.W.fnOf "_law_value" "_law_value" (defArgs s_law_value) (defBody s_law_value) (defScope s_law_value) .none kV_law_value dc_law_value pm_law_value an_law_value cd_law_value ct_law_value), sl_law_value⟩)
    (c_law_value : PySem.W.codeIn K cd_law_value "_law_value" = true) (k_law_value : PySem.W.keepIn K (.ref f_law_value) = true)
    (a_law_digits : PySem.W.nsIn K mainGlobals "_law_digits" = some (some (.ref f_law_digits)))
    (l_law_digits : K.lookup f_law_digits = some ⟨oc_law_digits, od_law_digits, .func (PySem.W.fnOf "_law_digits" "_law_digits" (defArgs s_law_digits) (defBody s_law_digits) (defScope s_law_digits) .none kV_law_digits dc_law_digits pm_law_digits an_law_digits cd_law_digits ct_law_digits), sl_law_digits⟩)
    (c_law_digits : PySem.W.codeIn K cd_law_digits "_law_digits" = true) (k_law_digits : PySem.W.keepIn K (.ref f_law_digits) = true)
    (a_law_octets : PySem.W.nsIn K mainGlobals "_law_octets" = some (some (.ref f_law_octets)))
    (l_law_octets : K.lookup f_law_octets = some ⟨oc_law_octets, od_law_octets, .func (PySem.W.fnOf "_law_octets" "_law_octets" (defArgs s_law_octets) (defBody s_law_octets) (defScope s_law_octets) .none kV_law_octets dc_law_octets pm_law_octets an_law_octets cd_law_octets ct_law_octets), sl_law_octets⟩)
    (c_law_octets : PySem.W.codeIn K cd_law_octets "_law_octets" = true) (k_law_octets : PySem.W.keepIn K (.ref f_law_octets) = true)
    (pg_Reader : PySem.W.plainGet K C_Reader Str.empty = true) (hd_Reader : PySem.W.hasDictIn K C_Reader = true) (po_Reader : PySem.W.plainOver K C_Reader = true) (sa_Reader : PySem.W.findIn K (.ref C_Reader) "__setattr__" = some (some (.builtin "object.__setattr__"))) (mk_Reader : PySem.W.makesIn K C_Reader = true) (kc_Reader : PySem.W.keepIn K (.ref C_Reader) = true)
    (na_Reader_octets : PySem.W.findIn K (.ref C_Reader) "octets" = some none)
    (na_Reader_at : PySem.W.findIn K (.ref C_Reader) "at" = some none)
    (na_Reader_parts : PySem.W.findIn K (.ref C_Reader) "parts" = some none)
    (z_abs : PySem.W.nsIn K mainGlobals "abs" = some none)
    (z_all : PySem.W.nsIn K mainGlobals "all" = some none)
    (z_bool : PySem.W.nsIn K mainGlobals "bool" = some none)
    (z_bytes : PySem.W.nsIn K mainGlobals "bytes" = some none)
    (z_int : PySem.W.nsIn K mainGlobals "int" = some none)
    (z_isinstance : PySem.W.nsIn K mainGlobals "isinstance" = some none)
    (z_len : PySem.W.nsIn K mainGlobals "len" = some none)
    (z_list : PySem.W.nsIn K mainGlobals "list" = some none)
    (z_min : PySem.W.nsIn K mainGlobals "min" = some none)
    (z_ord : PySem.W.nsIn K mainGlobals "ord" = some none)
    (z_range : PySem.W.nsIn K mainGlobals "range" = some none)
    (z_str : PySem.W.nsIn K mainGlobals "str" = some none)
    (z_tuple : PySem.W.nsIn K mainGlobals "tuple" = some none)
    (z_zip : PySem.W.nsIn K mainGlobals "zip" = some none)
    (v_DEEP : PySem.W.nsIn K mainGlobals "DEEP" = some (some (.int 60 t_DEEP)))
    (v_DIGITS : PySem.W.nsIn K mainGlobals "DIGITS" = some (some (.int 950 t_DIGITS)))
    (v_ITEMS : PySem.W.nsIn K mainGlobals "ITEMS" = some (some (.int 50000 t_ITEMS)))
    (v_PARTS : PySem.W.nsIn K mainGlobals "PARTS" = some (some (.int 500000 t_PARTS)))
    (v_SIGNS : PySem.W.nsIn K mainGlobals "SIGNS" = some (some (.int 20000 t_SIGNS)))
    (gH : PySem.W.nsIn K mainGlobals "HumError" = some (some (.ref CH)))
    (gI : PySem.W.nsIn K mainGlobals "InvalidOctets" = some (some (.ref CI)))
    (xI : PySem.W.excIn K CI [.type "ValueError", .type "Exception", .type "BaseException", .type "object"] "ValueError.__new__" = true)
    (kI : PySem.W.keepIn K (.ref CI) = true)
    (bI : PySem.W.subIn K (.ref CI) (.type "BaseException") = some true)
    (tI : PySem.W.typeIn K (.ref CI) = some (.type "type"))
    (eI : PySem.W.exmOne K (.ref CI) (.ref CH) = some true)
    (e1 : PySem.W.findIn K (.ref CI) "__getattribute__" = some (some (.builtin "BaseException.__getattribute__")))
    (e2 : PySem.W.findIn K (.ref CI) "__getattr__" = some none)
    (e4 : PySem.W.hasDictIn K CI = true)
    (e5 : PySem.W.findIn K (.ref CI) "__class__" = some (some (.builtin "object.__class__")))
    (e6 : PySem.W.specialIn K (.builtin "object.__class__") "__get__" = some (some (.builtin "getset_descriptor.__get__")))
    (e7 : PySem.W.takesIn K (.builtin "object.__class__") = some true)
    (e8 : PySem.W.mroIn K CI (.type "object") = some true)
    (iI : PySem.W.kitOne K (.ref CI) (.ref CI) = some true)
    (a_law : PySem.W.nsIn K mainGlobals "law" = some (some (.ref f_law)))
    (l_law : K.lookup f_law = some ⟨oc_law, od_law, .func (PySem.W.fnOf "law" "law" (defArgs s_law) (defBody s_law) (defScope s_law) .none kV_law dc_law pm_law an_law (.ref ca_law) ct_law), sl_law⟩)
    (c_law : PySem.W.codeIn K (.ref ca_law) "law" = true)
    (d_law : PySem.W.codeHdIn K ca_law P_law = true)
    (n_law : K.lookup P_law = none)
    (t_law : h.get? P_law = some (PySem.W.tabObj #[]))
    (a_law_refused : PySem.W.nsIn K mainGlobals "_law_refused" = some (some (.ref f_law_refused)))
    (l_law_refused : K.lookup f_law_refused = some ⟨oc_law_refused, od_law_refused, .func (PySem.W.fnOf "_law_refused" "_law_refused" (defArgs s_law_refused) (defBody s_law_refused) (defScope s_law_refused) .none kV_law_refused dc_law_refused pm_law_refused an_law_refused cd_law_refused ct_law_refused), sl_law_refused⟩)
    (c_law_refused : PySem.W.codeIn K cd_law_refused "_law_refused" = true) (k_law_refused : PySem.W.keepIn K (.ref f_law_refused) = true) :
    LamX.LawAtS l w K L2.CX0 76 63 "script" mg fa h := by
  obtain ⟨Md⟩ : Nonempty (Facts K mg) := ⟨mdOf X G aC_Reader a_is_sign l_is_sign c_is_sign k_is_sign a_sign_of l_sign_of c_sign_of k_sign_of a_are_octets l_are_octets c_are_octets k_are_octets a_few_digits l_few_digits c_few_digits k_few_digits a_counted l_counted c_counted k_counted a_digits_of l_digits_of c_digits_of k_digits_of a_laid l_laid c_laid k_laid a_write_octets l_write_octets c_write_octets k_write_octets a_read_digits l_read_digits c_read_digits k_read_digits a_Reader___init__ i_Reader___init__ l_Reader___init__ c_Reader___init__ k_Reader___init__ a_Reader_begin i_Reader_begin l_Reader_begin c_Reader_begin k_Reader_begin a_Reader_number i_Reader_number l_Reader_number c_Reader_number k_Reader_number a_Reader_string i_Reader_string l_Reader_string c_Reader_string k_Reader_string a_Reader_value i_Reader_value l_Reader_value c_Reader_value k_Reader_value a_read_octets l_read_octets c_read_octets k_read_octets a_first_unlike l_first_unlike c_first_unlike k_first_unlike a_law_cup l_law_cup c_law_cup k_law_cup a_law_roll l_law_roll c_law_roll k_law_roll a_law_some l_law_some c_law_some k_law_some a_law_sort l_law_sort c_law_sort k_law_sort a_law_like l_law_like c_law_like k_law_like a_law_signs l_law_signs c_law_signs k_law_signs a_law_value l_law_value c_law_value k_law_value a_law_digits l_law_digits c_law_digits k_law_digits a_law_octets l_law_octets c_law_octets k_law_octets pg_Reader hd_Reader po_Reader sa_Reader mk_Reader kc_Reader na_Reader_octets na_Reader_at na_Reader_parts z_abs z_all z_bool z_bytes z_int z_isinstance z_len z_list z_min z_ord z_range z_str z_tuple z_zip v_DEEP v_DIGITS v_ITEMS v_PARTS v_SIGNS⟩
  obtain ⟨q_law_refused⟩ : Nonempty (FnF K mg "_law_refused" "_law_refused" s_law_refused ["call"]) := ⟨Pu.FnF.of X G a_law_refused l_law_refused c_law_refused k_law_refused (fun _ _ _ _ _ _ us hl => match us, hl with | [_], _ => rfl)⟩
  have e := hfa.symm.trans (PySem.W.mg_of X G a_law)
  cases e
  let X1 : FX K mg := ⟨CH, CI, PySem.W.mg_of X G gH, PySem.W.mg_of X G gI, xI, kI, bI, tI, eI, ⟨e1, e2, bI, e4, e5, e6, e7, e8⟩, iI, q_law_refused⟩
  refine ⟨PySem.W.fnOf "law" "law" (defArgs s_law) (defBody s_law) (defScope s_law) .none kV_law dc_law pm_law an_law (.ref ca_law) ct_law, [(ca_law, P_law)], spLaw K P_law, fun p hp => ?_, fun p hp => ?_, fun p hp => ?_, fun s u => .of_eq rfl, fun H a ns hl _ hp hS => ⟨a, ns, rfl, hS, by omega, hp _ (List.mem_singleton.mpr rfl), fun _ => rfl⟩, fun base hK hns TB => ?_⟩
  · rw [List.mem_singleton.mp hp]; exact t_law
  · rw [List.mem_singleton.mp hp]; exact n_law
  · rw [List.mem_singleton.mp hp]; exact PySem.W.codeHd_of_K X d_law
  · exact ok_law (m := 70) (t := T Md.C_Reader 70) X1 (all_ok 70) (turn_T 0) (fun ns hz => cup_ok ns hz) (okw := fun p => p ∈ bads) (okr := fun p => p ∈ odds) (fun p hp => bads_none 4 p hp) (fun p hp => hp) (fun p hp => odds_none p hp) (fun p hp => hp) (TB _ (List.mem_singleton.mpr rfl)) l_law c_law
end K80

open PySem PySem.W PyProof.Rows
set_option maxRecDepth 100000 in
set_option maxHeartbeats 0 in
theorem PySem.Challenge.cw_humless_k80_whole_octets_and_back_holds : PySem.Challenge.rw_humless_k80_whole_octets_and_back.Holds := by
  w_on; o_law; k_head; (case hw => w_witness2)
  k_fill
  refine LamX.walk_ofTs (l := PySem.Challenge.rw_humless_k80_whole_octets_and_back) (n := 63) (k := 76) (x := "script") (CX := fun _ => L2.CX0) rfl (by decide) rfl ⟨rfl, by decide, by decide⟩ (fun w h Y => PySem.W.km_in_of Y) ?F (fun _ _ _ _ _ z => z)
  case F =>
    intro w mg fa h Y KX G hmg
    refine' K80.all_mk (P_law := 242) KX G hmg ?aC_Reader ?a_is_sign ?l_is_sign ?c_is_sign ?k_is_sign ?a_sign_of ?l_sign_of ?c_sign_of ?k_sign_of ?a_are_octets ?l_are_octets ?c_are_octets ?k_are_octets ?a_few_digits ?l_few_digits ?c_few_digits ?k_few_digits ?a_counted ?l_counted ?c_counted ?k_counted ?a_digits_of ?l_digits_of ?c_digits_of ?k_digits_of ?a_laid ?l_laid ?c_laid ?k_laid ?a_write_octets ?l_write_octets ?c_write_octets ?k_write_octets ?a_read_digits ?l_read_digits ?c_read_digits ?k_read_digits ?a_Reader___init__ ?i_Reader___init__ ?l_Reader___init__ ?c_Reader___init__ ?k_Reader___init__ ?a_Reader_begin ?i_Reader_begin ?l_Reader_begin ?c_Reader_begin ?k_Reader_begin ?a_Reader_number ?i_Reader_number ?l_Reader_number ?c_Reader_number ?k_Reader_number ?a_Reader_string ?i_Reader_string ?l_Reader_string ?c_Reader_string ?k_Reader_string ?a_Reader_value ?i_Reader_value ?l_Reader_value ?c_Reader_value ?k_Reader_value ?a_read_octets ?l_read_octets ?c_read_octets ?k_read_octets ?a_first_unlike ?l_first_unlike ?c_first_unlike ?k_first_unlike ?a_law_cup ?l_law_cup ?c_law_cup ?k_law_cup ?a_law_roll ?l_law_roll ?c_law_roll ?k_law_roll ?a_law_some ?l_law_some ?c_law_some ?k_law_some ?a_law_sort ?l_law_sort ?c_law_sort ?k_law_sort ?a_law_like ?l_law_like ?c_law_like ?k_law_like ?a_law_signs ?l_law_signs ?c_law_signs ?k_law_signs ?a_law_value ?l_law_value ?c_law_value ?k_law_value ?a_law_digits ?l_law_digits ?c_law_digits ?k_law_digits ?a_law_octets ?l_law_octets ?c_law_octets ?k_law_octets ?pg_Reader ?hd_Reader ?po_Reader ?sa_Reader ?mk_Reader ?kc_Reader ?na_Reader_octets ?na_Reader_at ?na_Reader_parts ?z_abs ?z_all ?z_bool ?z_bytes ?z_int ?z_isinstance ?z_len ?z_list ?z_min ?z_ord ?z_range ?z_str ?z_tuple ?z_zip ?v_DEEP ?v_DIGITS ?v_ITEMS ?v_PARTS ?v_SIGNS ?gH ?gI ?xI ?kI ?bI ?tI ?eI ?e1 ?e2 ?e4 ?e5 ?e6 ?e7 ?e8 ?iI ?a_law ?l_law ?c_law ?d_law ?n_law ?t_law ?a_law_refused ?l_law_refused ?c_law_refused ?k_law_refused
    (case aC_Reader => k_is)
    (case a_is_sign => k_is)
    (case l_is_sign => k_is)
    (case c_is_sign => k_is)
    (case k_is_sign => k_is)
    (case a_sign_of => k_is)
    (case l_sign_of => k_is)
    (case c_sign_of => k_is)
    (case k_sign_of => k_is)
    (case a_are_octets => k_is)
    (case l_are_octets => k_is)
    (case c_are_octets => k_is)
    (case k_are_octets => k_is)
    (case a_few_digits => k_is)
    (case l_few_digits => k_is)
    (case c_few_digits => k_is)
    (case k_few_digits => k_is)
    (case a_counted => k_is)
    (case l_counted => k_is)
    (case c_counted => k_is)
    (case k_counted => k_is)
    (case a_digits_of => k_is)
    (case l_digits_of => k_is)
    (case c_digits_of => k_is)
    (case k_digits_of => k_is)
    (case a_laid => k_is)
    (case l_laid => k_is)
    (case c_laid => k_is)
    (case k_laid => k_is)
    (case a_write_octets => k_is)
    (case l_write_octets => k_is)
    (case c_write_octets => k_is)
    (case k_write_octets => k_is)
    (case a_read_digits => k_is)
    (case l_read_digits => k_is)
    (case c_read_digits => k_is)
    (case k_read_digits => k_is)
    (case a_Reader___init__ => k_is)
    (case i_Reader___init__ => k_is)
    (case l_Reader___init__ => k_is)
    (case c_Reader___init__ => k_is)
    (case k_Reader___init__ => k_is)
    (case a_Reader_begin => k_is)
    (case i_Reader_begin => k_is)
    (case l_Reader_begin => k_is)
    (case c_Reader_begin => k_is)
    (case k_Reader_begin => k_is)
    (case a_Reader_number => k_is)
    (case i_Reader_number => k_is)
    (case l_Reader_number => k_is)
    (case c_Reader_number => k_is)
    (case k_Reader_number => k_is)
    (case a_Reader_string => k_is)
    (case i_Reader_string => k_is)
    (case l_Reader_string => k_is)
    (case c_Reader_string => k_is)
    (case k_Reader_string => k_is)
    (case a_Reader_value => k_is)
    (case i_Reader_value => k_is)
    (case l_Reader_value => k_is)
    (case c_Reader_value => k_is)
    (case k_Reader_value => k_is)
    (case a_read_octets => k_is)
    (case l_read_octets => k_is)
    (case c_read_octets => k_is)
    (case k_read_octets => k_is)
    (case a_first_unlike => k_is)
    (case l_first_unlike => k_is)
    (case c_first_unlike => k_is)
    (case k_first_unlike => k_is)
    (case a_law_cup => k_is)
    (case l_law_cup => k_is)
    (case c_law_cup => k_is)
    (case k_law_cup => k_is)
    (case a_law_roll => k_is)
    (case l_law_roll => k_is)
    (case c_law_roll => k_is)
    (case k_law_roll => k_is)
    (case a_law_some => k_is)
    (case l_law_some => k_is)
    (case c_law_some => k_is)
    (case k_law_some => k_is)
    (case a_law_sort => k_is)
    (case l_law_sort => k_is)
    (case c_law_sort => k_is)
    (case k_law_sort => k_is)
    (case a_law_like => k_is)
    (case l_law_like => k_is)
    (case c_law_like => k_is)
    (case k_law_like => k_is)
    (case a_law_signs => k_is)
    (case l_law_signs => k_is)
    (case c_law_signs => k_is)
    (case k_law_signs => k_is)
    (case a_law_value => k_is)
    (case l_law_value => k_is)
    (case c_law_value => k_is)
    (case k_law_value => k_is)
    (case a_law_digits => k_is)
    (case l_law_digits => k_is)
    (case c_law_digits => k_is)
    (case k_law_digits => k_is)
    (case a_law_octets => k_is)
    (case l_law_octets => k_is)
    (case c_law_octets => k_is)
    (case k_law_octets => k_is)
    (case pg_Reader => k_is)
    (case hd_Reader => k_is)
    (case po_Reader => k_is)
    (case sa_Reader => k_is)
    (case mk_Reader => k_is)
    (case kc_Reader => k_is)
    (case na_Reader_octets => k_is)
    (case na_Reader_at => k_is)
    (case na_Reader_parts => k_is)
    (case z_abs => k_is)
    (case z_all => k_is)
    (case z_bool => k_is)
    (case z_bytes => k_is)
    (case z_int => k_is)
    (case z_isinstance => k_is)
    (case z_len => k_is)
    (case z_list => k_is)
    (case z_min => k_is)
    (case z_ord => k_is)
    (case z_range => k_is)
    (case z_str => k_is)
    (case z_tuple => k_is)
    (case z_zip => k_is)
    (case v_DEEP => k_is)
    (case v_DIGITS => k_is)
    (case v_ITEMS => k_is)
    (case v_PARTS => k_is)
    (case v_SIGNS => k_is)
    (case gH => k_is)
    (case gI => k_is)
    (case xI => k_exc)
    (case kI => k_is)
    (case bI => k_is)
    (case tI => k_is)
    (case eI => first | rfl | k_is)
    (case e1 => k_is)
    (case e2 => k_is)
    (case e4 => k_is)
    (case e5 => k_is)
    (case e6 => k_is)
    (case e7 => k_is)
    (case e8 => k_is)
    (case iI => first | rfl | k_is)
    (case a_law => k_is)
    (case l_law => k_is)
    (case c_law => k_is)
    (case d_law => first | kernel_rfl | rfl)
    (case n_law => first | kernel_rfl | rfl)
    (case t_law => exact PySem.W.km_tabs_of Y _ (by decide))
    (case a_law_refused => k_is)
    (case l_law_refused => k_is)
    (case c_law_refused => k_is)
    (case k_law_refused => k_is)

