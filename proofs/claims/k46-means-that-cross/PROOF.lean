import PyProof.Rows.All
import Wide.All
import OpenK.AllK
import Wide.FinOn
import HandS.ForMost
import HandS.ForExc
import HandS.Walk
import HandS.Zip
import HandS.Deep
import HandS.SortInts
import HandS.Wide
import HandS.NoneIn
import HandS.CallSlots
import HandS.TryMany
import HandS.TupAny
import HandS.IsInst
import HandS.Strs
import HandS.More
import HandS.Star
import KE.GoesEnum
import KE.KSuper
import KE.KFromBytes
import HandS.ExcSuper
import HandS.ExcInit
import HandS.FStr
import HandS.WordsExc
import HandS.HeadHook1
import HandS.HeadHook2
import HandS.HeadEnd
import HandS.Head0
import HandS.Head1
import HandS.Head2
import PySem.Challenge.RW_risingknobs_k46_whole_means_that_cross
set_option Elab.async false
set_option linter.all false
set_option maxRecDepth 100000
set_option maxHeartbeats 4000000
namespace Mi
open PySem PySem.Spec PyProof.Rows L2

/-! ## values, the store, what they stand for -/
/-- a value: a tree; ref n is the n-th object of the store (what may change) -/
inductive W where
  | non | bl (b : Bool) | int (i : Int) | str (s : Str)
  | tup (xs : List W) | lst (xs : List W) | fro (xs : List W) | ins (c : Nat) (xs : List W)
  | dT (ks : List (List Key)) (vs : List W) | dK (ks : List Key) (vs : List W)
  | ref (n : Nat)
  deriving Inhabited

theorem W.ind {p : W → Prop} (h1 : p .non) (h2 : ∀ b, p (.bl b)) (h3 : ∀ i, p (.int i)) (h4 : ∀ s, p (.str s))
    (h5 : ∀ xs, (∀ x ∈ xs, p x) → p (.tup xs)) (h6 : ∀ xs, (∀ x ∈ xs, p x) → p (.lst xs)) (h6' : ∀ xs, (∀ x ∈ xs, p x) → p (.fro xs)) (h7 : ∀ c xs, (∀ x ∈ xs, p x) → p (.ins c xs))
    (h8 : ∀ ks xs, (∀ x ∈ xs, p x) → p (.dT ks xs)) (h9 : ∀ ks xs, (∀ x ∈ xs, p x) → p (.dK ks xs)) (h10 : ∀ n, p (.ref n)) (w : W) : p w :=
  W.rec (motive_1 := p) (motive_2 := fun xs => ∀ x ∈ xs, p x) h1 h2 h3 h4 (fun xs h => h5 xs h) (fun xs h => h6 xs h) (fun xs h => h6' xs h) (fun c xs h => h7 c xs h)
    (fun ks xs h => h8 ks xs h) (fun ks xs h => h9 ks xs h) h10 (fun x hx => by cases hx) (fun x xs hx hxs y hy => by
      cases hy with
      | head => exact hx
      | tail _ hy => exact hxs y hy) w

structure Kt where
  K : PySem.W.Frag
  cad : Nat → Addr
  cfs : Nat → List Str

/-- a tuple, as it is known: it has no attributes of its own -/
def FzT (K : PySem.W.Frag) (M : Hp) (a : Addr) (vs : List V) : Prop :=
  (∃ o, M a = some (.frz o (.tup vs)) ∧ o.dict = none) ∨
    ∃ (o : Obj) (its : Array Value) (n : Nat), K.lookup a = some o ∧ o.cls = .type "tuple" ∧ o.data = .seq its n ∧ its.size ≤ sizeLine ∧ Vals vs its.toList ∧ o.dict = none
theorem FzT.sq {K : PySem.W.Frag} {M : Hp} {a : Addr} {vs : List V} (h : FzT K M a vs) : SqT K M a vs := by
  rcases h with ⟨o, h, _⟩ | ⟨o, its, n, h1, h2, h3, h4, h5, _⟩
  · exact .inl (.inr ⟨o, h⟩)
  · exact .inr ⟨o, its, n, h1, h2, h3, h4, h5⟩
/- M: the part of the heap that never changes any more -/
mutual
def RelW (k : Kt) (m : List Addr) (M : Hp) : W → V → Prop
  | .non, v => v = .non
  | .bl b, v => v = .bl b
  | .int i, v => v = .int i
  | .str s, v => v = .str s
  | .tup xs, v => ∃ a vs, v = .ref a ∧ FzT k.K M a vs ∧ RelWs k m M xs vs
  | .lst xs, v => ∃ a vs, v = .ref a ∧ M a = some (.lst vs) ∧ RelWs k m M xs vs
  | .fro xs, v => ∃ a vs, v = .ref a ∧ SqL k.K M a vs ∧ RelWs k m M xs vs
  | .ins c xs, v => ∃ a dx vs, v = .ref a ∧ M a = some (.ins (k.cad c) dx ((k.cfs c).zip vs)) ∧ vs.length = (k.cfs c).length ∧ RelWs k m M xs vs
  | .dT ks xs, v => ∃ a vs, v = .ref a ∧ M a = some (.dT (ks.zip vs)) ∧ vs.length = ks.length ∧ RelWs k m M xs vs
  | .dK ks xs, v => ∃ a vs, v = .ref a ∧ M a = some (.dK (ks.zip vs)) ∧ vs.length = ks.length ∧ RelWs k m M xs vs
  | .ref n, v => ∃ a, v = .ref a ∧ m[n]? = some a
def RelWs (k : Kt) (m : List Addr) (M : Hp) : List W → List V → Prop
  | [], vs => vs = []
  | x :: xs, vs => ∃ v r, vs = v :: r ∧ RelW k m M x v ∧ RelWs k m M xs r
end

section
variable {k : Kt} {m m' : List Addr} {M M' : Hp}
theorem RelWs.len : ∀ {xs : List W} {vs : List V}, RelWs k m M xs vs → vs.length = xs.length
  | [], vs, h => by unfold RelWs at h; subst h; rfl
  | x :: xs, vs, h => by
    unfold RelWs at h
    obtain ⟨v, r, rfl, _, h2⟩ := h
    simp [RelWs.len h2]
theorem RelWs.nil : RelWs k m M [] [] := by unfold RelWs; rfl
theorem RelWs.cons {x : W} {v : V} {xs : List W} {vs : List V} (h : RelW k m M x v) (h2 : RelWs k m M xs vs) : RelWs k m M (x :: xs) (v :: vs) := by
  unfold RelWs; exact ⟨v, vs, rfl, h, h2⟩
theorem RelWs.cons_inv {x : W} {xs : List W} {vs : List V} (h : RelWs k m M (x :: xs) vs) : ∃ v r, vs = v :: r ∧ RelW k m M x v ∧ RelWs k m M xs r := by
  unfold RelWs at h; exact h
theorem RelWs.nil_inv {vs : List V} (h : RelWs k m M [] vs) : vs = [] := by unfold RelWs at h; exact h
theorem RelWs.imp {k' : Kt} : ∀ {xs : List W} {vs : List V}, (∀ x ∈ xs, ∀ v, RelW k m M x v → RelW k' m' M' x v) → RelWs k m M xs vs → RelWs k' m' M' xs vs
  | [], vs, _, h => by rw [RelWs.nil_inv h]; exact RelWs.nil
  | x :: xs, vs, f, h => by
    obtain ⟨v, r, rfl, h1, h2⟩ := RelWs.cons_inv h
    exact RelWs.cons (f x List.mem_cons_self v h1) (RelWs.imp (fun y hy => f y (List.mem_cons_of_mem _ hy)) h2)
theorem RelWs.get : ∀ {xs : List W} {vs : List V} {i : Nat} {x : W}, RelWs k m M xs vs → xs[i]? = some x → ∃ v, vs[i]? = some v ∧ RelW k m M x v
  | [], _, _, _, _, e => by simp at e
  | y :: ys, vs, 0, x, h, e => by
    obtain ⟨v, r, rfl, h1, h2⟩ := RelWs.cons_inv h
    simp at e; subst e; exact ⟨v, rfl, h1⟩
  | y :: ys, vs, i + 1, x, h, e => by
    obtain ⟨v, r, rfl, h1, h2⟩ := RelWs.cons_inv h
    obtain ⟨u, h3, h4⟩ := RelWs.get (i := i) h2 (by simpa using e)
    exact ⟨u, by simpa using h3, h4⟩
theorem RelWs.getV : ∀ {xs : List W} {vs : List V} {i : Nat} {v : V}, RelWs k m M xs vs → vs[i]? = some v → ∃ x, xs[i]? = some x ∧ RelW k m M x v
  | [], _, _, _, h, e => by rw [RelWs.nil_inv h] at e; simp at e
  | y :: ys, vs, 0, x, h, e => by
    obtain ⟨v, r, rfl, h1, h2⟩ := RelWs.cons_inv h
    simp at e; subst e; exact ⟨y, rfl, h1⟩
  | y :: ys, vs, i + 1, x, h, e => by
    obtain ⟨v, r, rfl, h1, h2⟩ := RelWs.cons_inv h
    obtain ⟨u, h3, h4⟩ := RelWs.getV (i := i) h2 (by simpa using e)
    exact ⟨u, by simpa using h3, h4⟩
theorem RelWs.append : ∀ {xs ys : List W} {vs us : List V}, RelWs k m M xs vs → RelWs k m M ys us → RelWs k m M (xs ++ ys) (vs ++ us)
  | [], _, _, _, h, h2 => by rw [RelWs.nil_inv h]; exact h2
  | x :: xs, ys, vs, us, h, h2 => by
    obtain ⟨v, r, rfl, h1, h3⟩ := RelWs.cons_inv h
    exact RelWs.cons h1 (RelWs.append h3 h2)
theorem RelWs.take : ∀ (n : Nat) {xs : List W} {vs : List V}, RelWs k m M xs vs → RelWs k m M (xs.take n) (vs.take n)
  | 0, _, _, _ => by simp; exact RelWs.nil
  | n + 1, [], _, h => by rw [RelWs.nil_inv h]; simpa using RelWs.nil
  | n + 1, x :: xs, vs, h => by
    obtain ⟨v, r, rfl, h1, h3⟩ := RelWs.cons_inv h
    exact RelWs.cons h1 (RelWs.take n h3)
theorem RelWs.drop : ∀ (n : Nat) {xs : List W} {vs : List V}, RelWs k m M xs vs → RelWs k m M (xs.drop n) (vs.drop n)
  | 0, _, _, h => h
  | n + 1, [], _, h => by rw [RelWs.nil_inv h]; simpa using RelWs.nil
  | n + 1, x :: xs, vs, h => by
    obtain ⟨v, r, rfl, h1, h3⟩ := RelWs.cons_inv h
    simpa using RelWs.drop n h3
theorem RelWs.set : ∀ (n : Nat) {xs : List W} {vs : List V} {x : W} {v : V}, RelWs k m M xs vs → RelW k m M x v → RelWs k m M (xs.set n x) (vs.set n v)
  | _, [], _, _, _, h, _ => by rw [RelWs.nil_inv h]; simpa using RelWs.nil
  | 0, y :: xs, vs, x, v, h, h2 => by
    obtain ⟨u, r, rfl, h1, h3⟩ := RelWs.cons_inv h
    exact RelWs.cons h2 h3
  | n + 1, y :: xs, vs, x, v, h, h2 => by
    obtain ⟨u, r, rfl, h1, h3⟩ := RelWs.cons_inv h
    exact RelWs.cons h1 (RelWs.set n h3 h2)
theorem RelWs.eraseIdx : ∀ (n : Nat) {xs : List W} {vs : List V}, RelWs k m M xs vs → RelWs k m M (xs.eraseIdx n) (vs.eraseIdx n)
  | _, [], _, h => by rw [RelWs.nil_inv h]; simpa using RelWs.nil
  | 0, y :: xs, vs, h => by
    obtain ⟨u, r, rfl, h1, h3⟩ := RelWs.cons_inv h
    simpa using h3
  | n + 1, y :: xs, vs, h => by
    obtain ⟨u, r, rfl, h1, h3⟩ := RelWs.cons_inv h
    exact RelWs.cons h1 (RelWs.eraseIdx n h3)
theorem RelWs.reverse : ∀ {xs : List W} {vs : List V}, RelWs k m M xs vs → RelWs k m M xs.reverse vs.reverse
  | [], _, h => by rw [RelWs.nil_inv h]; simpa using RelWs.nil
  | x :: xs, vs, h => by
    obtain ⟨v, r, rfl, h1, h3⟩ := RelWs.cons_inv h
    simpa using RelWs.append (RelWs.reverse h3) (RelWs.cons h1 RelWs.nil)
theorem same_sqL {K : PySem.W.Frag} {H H' : Hp} {a : Addr} {xs : List V} (e : Same H H') (h : SqL K H a xs) : SqL K H' a xs := e.seq h
theorem same_sqT {K : PySem.W.Frag} {H H' : Hp} {a : Addr} {xs : List V} (e : Same H H') (h : SqT K H a xs) : SqT K H' a xs := by
  rcases h with (h | ⟨o, h⟩) | h
  · exact .inl (.inl (e _ _ h))
  · exact .inl (.inr ⟨o, e _ _ h⟩)
  · exact .inr h
theorem same_fzT {K : PySem.W.Frag} {H H' : Hp} {a : Addr} {xs : List V} (e : Same H H') (h : FzT K H a xs) : FzT K H' a xs := by
  rcases h with ⟨o, h, q⟩ | h
  · exact .inl ⟨o, e _ _ h, q⟩
  · exact .inr h
theorem RelW.mono (hm : ∀ (n : Nat) (a : Addr), m[n]? = some a → m'[n]? = some a) (s : Same M M') : ∀ {w : W} {v : V}, RelW k m M w v → RelW k m' M' w v := by
  intro w
  induction w using W.ind with
  | h1 => intro v h; unfold RelW at h ⊢; exact h
  | h2 b => intro v h; unfold RelW at h ⊢; exact h
  | h3 b => intro v h; unfold RelW at h ⊢; exact h
  | h4 b => intro v h; unfold RelW at h ⊢; exact h
  | h5 xs ih => intro v h; unfold RelW at h ⊢; obtain ⟨a, vs, e, h1, h2⟩ := h; exact ⟨a, vs, e, same_fzT s h1, h2.imp fun x hx v => ih x hx⟩
  | h6 xs ih => intro v h; unfold RelW at h ⊢; obtain ⟨a, vs, e, h1, h2⟩ := h; exact ⟨a, vs, e, s _ _ h1, h2.imp fun x hx v => ih x hx⟩
  | h6' xs ih => intro v h; unfold RelW at h ⊢; obtain ⟨a, vs, e, h1, h2⟩ := h; exact ⟨a, vs, e, same_sqL s h1, h2.imp fun x hx v => ih x hx⟩
  | h7 c xs ih => intro v h; unfold RelW at h ⊢; obtain ⟨a, dx, vs, e, h1, h0, h2⟩ := h; exact ⟨a, dx, vs, e, s _ _ h1, h0, h2.imp fun x hx v => ih x hx⟩
  | h8 ks xs ih => intro v h; unfold RelW at h ⊢; obtain ⟨a, vs, e, h1, h0, h2⟩ := h; exact ⟨a, vs, e, s _ _ h1, h0, h2.imp fun x hx v => ih x hx⟩
  | h9 ks xs ih => intro v h; unfold RelW at h ⊢; obtain ⟨a, vs, e, h1, h0, h2⟩ := h; exact ⟨a, vs, e, s _ _ h1, h0, h2.imp fun x hx v => ih x hx⟩
  | h10 n => intro v h; unfold RelW at h ⊢; obtain ⟨a, e, h1⟩ := h; exact ⟨a, e, hm _ _ h1⟩
theorem RelWs.mono (hm : ∀ (n : Nat) (a : Addr), m[n]? = some a → m'[n]? = some a) (s : Same M M') {ws : List W} {vs : List V} (h : RelWs k m M ws vs) : RelWs k m' M' ws vs := h.imp fun _ _ _ h => h.mono hm s
end

/-! ### which refs a value has -/
mutual
def W.clo (n : Nat) : W → Bool
  | .tup xs => W.clos n xs
  | .lst xs => W.clos n xs
  | .fro xs => W.clos n xs
  | .ins _ xs => W.clos n xs
  | .dT _ xs => W.clos n xs
  | .dK _ xs => W.clos n xs
  | .ref k => decide (k < n)
  | .non => true
  | .bl _ => true
  | .int _ => true
  | .str _ => true
def W.clos (n : Nat) : List W → Bool
  | [] => true
  | x :: xs => W.clo n x && W.clos n xs
end
theorem W.clos_iff {n : Nat} : ∀ {xs : List W}, W.clos n xs = true ↔ ∀ x ∈ xs, W.clo n x = true
  | [] => by unfold W.clos; simp
  | x :: xs => by unfold W.clos; rw [Bool.and_eq_true, W.clos_iff (xs := xs)]; simp

/-- what may change -/
inductive MO where
  | lst (xs : List W) | ins (c : Nat) (fs : List (Str × W)) | dK (kvs : List (Key × W))
def MO.kids : MO → List W
  | .lst xs => xs
  | .ins _ fs => fs.map (·.2)
  | .dK kvs => kvs.map (·.2)
abbrev Store := List (Option MO)
abbrev Ev := List (Option W)

def Live (m : List Addr) (st : Store) (a : Addr) : Prop := ∃ (n : Nat) (o : MO), m[n]? = some a ∧ st[n]? = some (some o)
open Classical in
/-- what is frozen -/
noncomputable def fz (m : List Addr) (st : Store) (H : Hp) : Hp := fun a => if Live m st a then none else H a
theorem fz_some {m : List Addr} {st : Store} {H : Hp} {a : Addr} {o : HO} : fz m st H a = some o ↔ ¬ Live m st a ∧ H a = some o := by
  unfold fz
  by_cases h : Live m st a
  · rw [if_pos h]; simp [h]
  · rw [if_neg h]; simp [h]
theorem fz_same (m : List Addr) (st : Store) (H : Hp) : Same (fz m st H) H := fun a o h => (fz_some.mp h).2

def MRel (k : Kt) (m : List Addr) (M H : Hp) (a : Addr) : MO → Prop
  | .lst xs => ∃ vs, H a = some (.lst vs) ∧ RelWs k m M xs vs
  | .ins c fs => ∃ dx vs, H a = some (.ins (k.cad c) dx ((fs.map (·.1)).zip vs)) ∧ RelWs k m M (fs.map (·.2)) vs
  | .dK kvs => ∃ vs, H a = some (.dK ((kvs.map (·.1)).zip vs)) ∧ RelWs k m M (kvs.map (·.2)) vs
theorem MRel.isS {k : Kt} {m : List Addr} {M H : Hp} {a : Addr} {o : MO} (h : MRel k m M H a o) : ∃ u, H a = some u := by
  cases o with
  | lst xs => obtain ⟨vs, h, _⟩ := h; exact ⟨_, h⟩
  | ins c fs => obtain ⟨dx, vs, h, _⟩ := h; exact ⟨_, h⟩
  | dK kvs => obtain ⟨vs, h, _⟩ := h; exact ⟨_, h⟩
theorem MRel.mono {k : Kt} {m m' : List Addr} {M M' H H' : Hp} {a : Addr} {o : MO} (h : MRel k m M H a o) (hm : ∀ (n : Nat) (a : Addr), m[n]? = some a → m'[n]? = some a) (s : Same M M') (e : H' a = H a) : MRel k m' M' H' a o := by
  cases o with
  | lst xs => obtain ⟨vs, h, r⟩ := h; exact ⟨vs, e.trans h, r.mono hm s⟩
  | ins c fs => obtain ⟨dx, vs, h, r⟩ := h; exact ⟨dx, vs, e.trans h, r.mono hm s⟩
  | dK kvs => obtain ⟨vs, h, r⟩ := h; exact ⟨vs, e.trans h, r.mono hm s⟩

structure SR (k : Kt) (m : List Addr) (st : Store) (H : Hp) : Prop where
  len : m.length = st.length
  nd : m.Nodup
  has : ∀ a ∈ m, ∃ o, H a = some o
  obj : ∀ (n : Nat) (a : Addr) (o : MO), m[n]? = some a → st[n]? = some (some o) → MRel k m (fz m st H) H a o

structure Ext (m : List Addr) (st : Store) (H : Hp) (m' : List Addr) (st' : Store) (H' : Hp) : Prop where
  pre : ∃ l, m' = m ++ l
  same : Same (fz m st H) (fz m' st' H')
theorem Ext.refl {m : List Addr} {st : Store} {H : Hp} : Ext m st H m st H := ⟨⟨[], by simp⟩, Same.refl _⟩
theorem Ext.trans {m m1 m2 : List Addr} {st st1 st2 : Store} {H H1 H2 : Hp} (a : Ext m st H m1 st1 H1) (b : Ext m1 st1 H1 m2 st2 H2) : Ext m st H m2 st2 H2 := by
  obtain ⟨l, e⟩ := a.pre
  obtain ⟨l', e'⟩ := b.pre
  exact ⟨⟨l ++ l', by rw [e', e, List.append_assoc]⟩, a.same.trans b.same⟩
theorem Ext.ix {m m1 : List Addr} {st st1 : Store} {H H1 : Hp} (a : Ext m st H m1 st1 H1) : ∀ (n : Nat) (x : Addr), m[n]? = some x → m1[n]? = some x := by
  obtain ⟨l, e⟩ := a.pre
  intro n x h
  rw [e, List.getElem?_append_left]
  · exact h
  · obtain ⟨hn, _⟩ := List.getElem?_eq_some_iff.mp h; exact hn
theorem Ext.relW {k : Kt} {m m1 : List Addr} {st st1 : Store} {H H1 : Hp} (a : Ext m st H m1 st1 H1) {w : W} {v : V} (h : RelW k m (fz m st H) w v) : RelW k m1 (fz m1 st1 H1) w v := h.mono a.ix a.same
theorem Ext.relWs {k : Kt} {m m1 : List Addr} {st st1 : Store} {H H1 : Hp} (a : Ext m st H m1 st1 H1) {w : List W} {v : List V} (h : RelWs k m (fz m st H) w v) : RelWs k m1 (fz m1 st1 H1) w v := h.mono a.ix a.same

section
variable {k : Kt} {m : List Addr} {st : Store} {H : Hp}
theorem SR.live (S : SR k m st H) {n : Nat} {o : MO} (h : st[n]? = some (some o)) : ∃ a, m[n]? = some a ∧ MRel k m (fz m st H) H a o := by
  obtain ⟨hn, _⟩ := List.getElem?_eq_some_iff.mp h
  have hm : n < m.length := by rw [S.len]; exact hn
  exact ⟨m[n], by simp [hm], S.obj n _ o (by simp [hm]) h⟩
theorem SR.notLive (S : SR k m st H) {p : Addr} (hp : H p = none) : ¬ Live m st p := fun ⟨n, o, h1, h2⟩ => by
  obtain ⟨u, hu⟩ := (S.obj n p o h1 h2).isS
  rw [hp] at hu; cases hu
theorem SR.fresh (S : SR k m st H) {p : Addr} (hp : H p = none) : p ∉ m := fun h => by
  obtain ⟨o, e⟩ := S.has p h
  rw [hp] at e; cases e
theorem fz_upd (S : SR k m st H) {p : Addr} {o : HO} (hp : H p = none) : fz m st (upd H p o) = upd (fz m st H) p o := by
  funext a
  by_cases ha : a = p
  · subst ha
    rw [upd_same]
    exact fz_some.mpr ⟨S.notLive hp, upd_same⟩
  · rw [upd_ne ha]
    unfold fz
    rw [upd_ne ha]
theorem same_upd {M : Hp} {p : Addr} {o : HO} (hp : M p = none) : Same M (upd M p o) := fun a u h => by
  rw [upd_ne (ne_of_none h hp)]; exact h
theorem fz_none {p : Addr} (hp : H p = none) : fz m st H p = none := by
  unfold fz
  split <;> simp [hp]
/-- a new thing that never changes -/
theorem SR.laid (S : SR k m st H) {p : Addr} {o : HO} (hp : H p = none) : SR k m st (upd H p o) ∧ Ext m st H m st (upd H p o) := by
  have sm : Same (fz m st H) (fz m st (upd H p o)) := by rw [fz_upd S hp]; exact same_upd (fz_none hp)
  refine ⟨⟨S.len, S.nd, fun a ha => ?_, fun n a u h1 h2 => ?_⟩, ⟨⟨[], by simp⟩, sm⟩⟩
  · by_cases e : a = p
    · exact ⟨o, by rw [e]; exact upd_same⟩
    · rw [upd_ne e]; exact S.has a ha
  · have hr := S.obj n a u h1 h2
    obtain ⟨z, hz⟩ := hr.isS
    exact hr.mono (fun _ _ e => e) sm (upd_ne (ne_of_none hz hp))
theorem live_push {p : Addr} {o : MO} (S : SR k m st H) {a : Addr} : Live (m ++ [p]) (st ++ [some o]) a ↔ Live m st a ∨ a = p := by
  constructor
  · rintro ⟨n, u, h1, h2⟩
    by_cases hn : n < m.length
    · rw [List.getElem?_append_left hn] at h1
      rw [List.getElem?_append_left (by rw [← S.len]; exact hn)] at h2
      exact .inl ⟨n, u, h1, h2⟩
    · rw [List.getElem?_append_right (by omega)] at h1
      right
      cases hk : n - m.length with
      | zero => rw [hk] at h1; simpa using h1.symm
      | succ j => rw [hk] at h1; simp at h1
  · rintro (⟨n, u, h1, h2⟩ | rfl)
    · obtain ⟨hn, _⟩ := List.getElem?_eq_some_iff.mp h1
      obtain ⟨hn2, _⟩ := List.getElem?_eq_some_iff.mp h2
      exact ⟨n, u, by rw [List.getElem?_append_left hn]; exact h1, by rw [List.getElem?_append_left hn2]; exact h2⟩
    · exact ⟨m.length, o, by simp, by rw [S.len]; simp⟩
/-- a new thing that may change -/
theorem SR.push (S : SR k m st H) {p : Addr} {o : MO} {ho : HO} (hp : H p = none) (hr : MRel k m (fz m st H) (upd H p ho) p o) :
    SR k (m ++ [p]) (st ++ [some o]) (upd H p ho) ∧ Ext m st H (m ++ [p]) (st ++ [some o]) (upd H p ho) := by
  have hm : ∀ (n : Nat) (a : Addr), m[n]? = some a → (m ++ [p])[n]? = some a := fun n a e => by
    obtain ⟨hn, _⟩ := List.getElem?_eq_some_iff.mp e
    rw [List.getElem?_append_left hn]; exact e
  have sm : Same (fz m st H) (fz (m ++ [p]) (st ++ [some o]) (upd H p ho)) := fun a u h => by
    obtain ⟨h1, h2⟩ := fz_some.mp h
    have hne : a ≠ p := ne_of_none h2 hp
    refine fz_some.mpr ⟨fun hl => ?_, by rw [upd_ne hne]; exact h2⟩
    rcases (live_push S).mp hl with hl | hl
    · exact h1 hl
    · exact hne hl
  refine ⟨⟨by simp [S.len], ?_, fun a ha => ?_, fun n a u h1 h2 => ?_⟩, ⟨⟨[p], rfl⟩, sm⟩⟩
  · rw [List.nodup_append]
    refine ⟨S.nd, by simp, fun a ha b hb => ?_⟩
    have e : b = p := by simpa using hb
    subst e
    rintro rfl
    exact S.fresh hp ha
  · by_cases e : a = p
    · exact ⟨ho, by rw [e]; exact upd_same⟩
    · rw [upd_ne e]
      rcases List.mem_append.mp ha with ha | ha
      · exact S.has a ha
      · exact absurd (by simpa using ha) e
  · by_cases hn : n < m.length
    · rw [List.getElem?_append_left hn] at h1
      rw [List.getElem?_append_left (by rw [← S.len]; exact hn)] at h2
      have hr := S.obj n a u h1 h2
      obtain ⟨z, hz⟩ := hr.isS
      exact hr.mono hm sm (upd_ne (ne_of_none hz hp))
    · rw [List.getElem?_append_right (by omega)] at h1
      rw [List.getElem?_append_right (by rw [← S.len]; omega)] at h2
      rw [← S.len] at h2
      cases hk : n - m.length with
      | zero =>
        rw [hk] at h1 h2
        have e1 : p = a := by simpa using h1
        have e2 : o = u := by simpa using h2
        subst e1 e2
        exact hr.mono hm sm rfl
      | succ j => rw [hk] at h1; simp at h1
theorem live_set {n : Nat} {o o' : MO} (h : st[n]? = some (some o)) {a : Addr} : Live m (st.set n (some o')) a ↔ Live m st a := by
  obtain ⟨hn, _⟩ := List.getElem?_eq_some_iff.mp h
  constructor
  · rintro ⟨j, u, h1, h2⟩
    by_cases e : n = j
    · subst e; exact ⟨n, o, h1, h⟩
    · rw [List.getElem?_set_ne e] at h2; exact ⟨j, u, h1, h2⟩
  · rintro ⟨j, u, h1, h2⟩
    by_cases e : n = j
    · subst e; exact ⟨n, o', h1, by simp [hn]⟩
    · exact ⟨j, u, h1, by rw [List.getElem?_set_ne e]; exact h2⟩
/-- a thing that may change is changed -/
theorem SR.write (S : SR k m st H) {n : Nat} {a : Addr} {o o' : MO} {ho : HO} (h : st[n]? = some (some o)) (ha : m[n]? = some a) (hr : MRel k m (fz m st H) (upd H a ho) a o') :
    SR k m (st.set n (some o')) (upd H a ho) ∧ Ext m st H m (st.set n (some o')) (upd H a ho) := by
  have hl : Live m st a := ⟨n, o, ha, h⟩
  have e : fz m (st.set n (some o')) (upd H a ho) = fz m st H := by
    funext b
    unfold fz
    by_cases hb : Live m st b
    · rw [if_pos hb, if_pos ((live_set h).mpr hb)]
    · rw [if_neg hb, if_neg (fun z => hb ((live_set h).mp z)), upd_ne (fun z => hb (by rw [z]; exact hl))]
  refine ⟨⟨by rw [S.len, List.length_set], S.nd, fun b hb => ?_, fun j b u h1 h2 => ?_⟩, ⟨⟨[], by simp⟩, by rw [e]; exact Same.refl _⟩⟩
  · by_cases z : b = a
    · exact ⟨ho, by rw [z]; exact upd_same⟩
    · rw [upd_ne z]; exact S.has b hb
  · rw [e]
    by_cases z : n = j
    · subst z
      rw [ha] at h1; cases h1
      obtain ⟨hn, _⟩ := List.getElem?_eq_some_iff.mp h
      have : o' = u := by simpa [hn] using h2
      subst this
      exact hr
    · rw [List.getElem?_set_ne z] at h2
      have hne : b ≠ a := fun q => by
        subst q
        exact z ((List.getElem?_inj (by obtain ⟨hn, _⟩ := List.getElem?_eq_some_iff.mp ha; exact hn) S.nd).mp (ha.trans h1.symm))
      exact (S.obj j b u h1 h2).mono (fun _ _ q => q) (Same.refl _) (upd_ne hne)
/-- a thing that may change is kept as it is from now on -/
theorem SR.kill (S : SR k m st H) {n : Nat} {a : Addr} {o : MO} (h : st[n]? = some (some o)) (ha : m[n]? = some a) :
    SR k m (st.set n none) H ∧ Ext m st H m (st.set n none) H ∧ ¬ Live m (st.set n none) a := by
  obtain ⟨hn, _⟩ := List.getElem?_eq_some_iff.mp h
  have sub : ∀ b, Live m (st.set n none) b → Live m st b := fun b ⟨j, u, h1, h2⟩ => by
    by_cases e : n = j
    · subst e; simp [hn] at h2
    · rw [List.getElem?_set_ne e] at h2; exact ⟨j, u, h1, h2⟩
  have sm : Same (fz m st H) (fz m (st.set n none) H) := fun b u q => by
    obtain ⟨q1, q2⟩ := fz_some.mp q
    exact fz_some.mpr ⟨fun z => q1 (sub b z), q2⟩
  refine ⟨⟨by rw [S.len, List.length_set], S.nd, S.has, fun j b u h1 h2 => ?_⟩, ⟨⟨[], by simp⟩, sm⟩, fun ⟨j, u, h1, h2⟩ => ?_⟩
  · by_cases e : n = j
    · subst e; simp [hn] at h2
    · rw [List.getElem?_set_ne e] at h2
      exact (S.obj j b u h1 h2).mono (fun _ _ q => q) sm rfl
  · by_cases e : n = j
    · subst e; simp [hn] at h2
    · exact e ((List.getElem?_inj (by obtain ⟨hn, _⟩ := List.getElem?_eq_some_iff.mp ha; exact hn) S.nd).mp (ha.trans h1.symm))
end
end Mi
set_option maxHeartbeats 4000000
namespace Mi
open PySem PySem.Spec PyProof.Rows L2

/-! ## cutting the store back -/
theorem RelW.clo {k : Kt} {m : List Addr} {M : Hp} : ∀ {w : W} {v : V}, RelW k m M w v → W.clo m.length w = true := by
  have all : ∀ {xs : List W} {vs : List V}, (∀ x ∈ xs, ∀ {v : V}, RelW k m M x v → W.clo m.length x = true) → RelWs k m M xs vs → W.clos m.length xs = true := by
    intro xs vs f h
    rw [W.clos_iff]
    intro x hx
    obtain ⟨i, hi, e⟩ := List.mem_iff_getElem.mp hx
    obtain ⟨v, _, r⟩ := h.get (i := i) (x := x) (by rw [List.getElem?_eq_getElem hi, e])
    exact f x hx r
  intro w
  induction w using W.ind with
  | h1 => intro v h; rfl
  | h2 b => intro v h; rfl
  | h3 b => intro v h; rfl
  | h4 b => intro v h; rfl
  | h5 xs ih => intro v h; unfold RelW at h; obtain ⟨a, vs, e, h1, h2⟩ := h; unfold W.clo; exact all (fun x hx => ih x hx) h2
  | h6 xs ih => intro v h; unfold RelW at h; obtain ⟨a, vs, e, h1, h2⟩ := h; unfold W.clo; exact all (fun x hx => ih x hx) h2
  | h6' xs ih => intro v h; unfold RelW at h; obtain ⟨a, vs, e, h1, h2⟩ := h; unfold W.clo; exact all (fun x hx => ih x hx) h2
  | h7 c xs ih => intro v h; unfold RelW at h; obtain ⟨a, dx, vs, e, h1, h0, h2⟩ := h; unfold W.clo; exact all (fun x hx => ih x hx) h2
  | h8 ks xs ih => intro v h; unfold RelW at h; obtain ⟨a, vs, e, h1, h0, h2⟩ := h; unfold W.clo; exact all (fun x hx => ih x hx) h2
  | h9 ks xs ih => intro v h; unfold RelW at h; obtain ⟨a, vs, e, h1, h0, h2⟩ := h; unfold W.clo; exact all (fun x hx => ih x hx) h2
  | h10 n =>
    intro v h; unfold RelW at h; obtain ⟨a, e, h1⟩ := h; unfold W.clo
    obtain ⟨hn, _⟩ := List.getElem?_eq_some_iff.mp h1
    exact decide_eq_true hn
theorem RelWs.clo {k : Kt} {m : List Addr} {M : Hp} {xs : List W} {vs : List V} (h : RelWs k m M xs vs) : W.clos m.length xs = true := by
  rw [W.clos_iff]
  intro x hx
  obtain ⟨i, hi, e⟩ := List.mem_iff_getElem.mp hx
  obtain ⟨v, _, r⟩ := h.get (i := i) (x := x) (by rw [List.getElem?_eq_getElem hi, e])
  exact r.clo
theorem RelW.less {k : Kt} {m m' : List Addr} {M M' : Hp} {n : Nat} (hm : ∀ (i : Nat) (a : Addr), i < n → m[i]? = some a → m'[i]? = some a) (s : Same M M') : ∀ {w : W} {v : V}, W.clo n w = true → RelW k m M w v → RelW k m' M' w v := by
  intro w
  induction w using W.ind with
  | h1 => intro v c h; unfold RelW at h ⊢; exact h
  | h2 b => intro v c h; unfold RelW at h ⊢; exact h
  | h3 b => intro v c h; unfold RelW at h ⊢; exact h
  | h4 b => intro v c h; unfold RelW at h ⊢; exact h
  | h5 xs ih => intro v c h; unfold W.clo at c; rw [W.clos_iff] at c; unfold RelW at h ⊢; obtain ⟨a, vs, e, h1, h2⟩ := h; exact ⟨a, vs, e, same_fzT s h1, h2.imp fun x hx v => ih x hx (c x hx)⟩
  | h6 xs ih => intro v c h; unfold W.clo at c; rw [W.clos_iff] at c; unfold RelW at h ⊢; obtain ⟨a, vs, e, h1, h2⟩ := h; exact ⟨a, vs, e, s _ _ h1, h2.imp fun x hx v => ih x hx (c x hx)⟩
  | h6' xs ih => intro v c h; unfold W.clo at c; rw [W.clos_iff] at c; unfold RelW at h ⊢; obtain ⟨a, vs, e, h1, h2⟩ := h; exact ⟨a, vs, e, same_sqL s h1, h2.imp fun x hx v => ih x hx (c x hx)⟩
  | h7 cc xs ih => intro v c h; unfold W.clo at c; rw [W.clos_iff] at c; unfold RelW at h ⊢; obtain ⟨a, dx, vs, e, h1, h0, h2⟩ := h; exact ⟨a, dx, vs, e, s _ _ h1, h0, h2.imp fun x hx v => ih x hx (c x hx)⟩
  | h8 ks xs ih => intro v c h; unfold W.clo at c; rw [W.clos_iff] at c; unfold RelW at h ⊢; obtain ⟨a, vs, e, h1, h0, h2⟩ := h; exact ⟨a, vs, e, s _ _ h1, h0, h2.imp fun x hx v => ih x hx (c x hx)⟩
  | h9 ks xs ih => intro v c h; unfold W.clo at c; rw [W.clos_iff] at c; unfold RelW at h ⊢; obtain ⟨a, vs, e, h1, h0, h2⟩ := h; exact ⟨a, vs, e, s _ _ h1, h0, h2.imp fun x hx v => ih x hx (c x hx)⟩
  | h10 j => intro v c h; unfold W.clo at c; unfold RelW at h ⊢; obtain ⟨a, e, h1⟩ := h; exact ⟨a, e, hm _ _ (of_decide_eq_true c) h1⟩
theorem RelWs.less {k : Kt} {m m' : List Addr} {M M' : Hp} {n : Nat} (hm : ∀ (i : Nat) (a : Addr), i < n → m[i]? = some a → m'[i]? = some a) (s : Same M M') {ws : List W} {vs : List V} (c : W.clos n ws = true) (h : RelWs k m M ws vs) : RelWs k m' M' ws vs :=
  h.imp fun x hx _ r => r.less hm s (W.clos_iff.mp c x hx)
theorem MRel.kids {k : Kt} {m : List Addr} {M H : Hp} {a : Addr} {o : MO} (h : MRel k m M H a o) : ∃ vs, RelWs k m M o.kids vs := by
  cases o with
  | lst xs => obtain ⟨vs, _, r⟩ := h; exact ⟨vs, r⟩
  | ins c fs => obtain ⟨dx, vs, _, r⟩ := h; exact ⟨vs, r⟩
  | dK kvs => obtain ⟨vs, _, r⟩ := h; exact ⟨vs, r⟩
theorem MRel.less {k : Kt} {m m' : List Addr} {M M' H : Hp} {a : Addr} {o : MO} {n : Nat} (h : MRel k m M H a o) (hm : ∀ (i : Nat) (a : Addr), i < n → m[i]? = some a → m'[i]? = some a) (s : Same M M') (c : W.clos n o.kids = true) : MRel k m' M' H a o := by
  cases o with
  | lst xs => obtain ⟨vs, h, r⟩ := h; exact ⟨vs, h, r.less hm s c⟩
  | ins c fs => obtain ⟨dx, vs, h, r⟩ := h; exact ⟨dx, vs, h, r.less hm s c⟩
  | dK kvs => obtain ⟨vs, h, r⟩ := h; exact ⟨vs, h, r.less hm s c⟩

/-- the objects that stood are as they were, or hold no younger ones -/
def cutOk (st st' : Store) : Prop := ∀ (n : Nat) (o : MO), n < st.length → st'[n]? = some (some o) → st[n]? = some (some o) ∨ W.clos st.length o.kids = true
theorem SR.cut {k : Kt} {m m' : List Addr} {st st' : Store} {H H' : Hp} (S : SR k m st H) (E : Ext m st H m' st' H') (S' : SR k m' st' H') (c : cutOk st st') :
    SR k m (st'.take st.length) H' ∧ Ext m st H m (st'.take st.length) H' ∧ ∀ (w : W) (v : V), W.clo st.length w = true → RelW k m' (fz m' st' H') w v → RelW k m (fz m (st'.take st.length) H') w v := by
  obtain ⟨l, em⟩ := E.pre
  have hlen : st.length ≤ st'.length := by rw [← S'.len, em, List.length_append, S.len]; omega
  have sub : ∀ a, Live m (st'.take st.length) a → Live m' st' a := fun a ⟨n, o, h1, h2⟩ => by
    have hn : n < st.length := by
      obtain ⟨hn, _⟩ := List.getElem?_eq_some_iff.mp h1
      rw [← S.len]; exact hn
    rw [List.getElem?_take_of_lt hn] at h2
    exact ⟨n, o, E.ix n a h1, h2⟩
  have sm : Same (fz m' st' H') (fz m (st'.take st.length) H') := fun a o q => by
    obtain ⟨q1, q2⟩ := fz_some.mp q
    exact fz_some.mpr ⟨fun z => q1 (sub a z), q2⟩
  have hm : ∀ (i : Nat) (a : Addr), i < st.length → m'[i]? = some a → m[i]? = some a := fun i a hi h => by
    rw [em, List.getElem?_append_left (by rw [S.len]; exact hi)] at h; exact h
  refine ⟨⟨by rw [List.length_take, S.len]; omega, S.nd, fun a ha => S'.has a (by rw [em]; exact List.mem_append_left _ ha), fun n a o h1 h2 => ?_⟩, ⟨⟨[], by simp⟩, E.same.trans sm⟩, fun w v cw r => r.less hm sm cw⟩
  have hn : n < st.length := by
    obtain ⟨hn, _⟩ := List.getElem?_eq_some_iff.mp h1
    rw [← S.len]; exact hn
  rw [List.getElem?_take_of_lt hn] at h2
  have hr := S'.obj n a o (E.ix n a h1) h2
  refine hr.less hm sm ?_
  rcases c n o hn h2 with q | q
  · obtain ⟨b, _, r⟩ := S.live q
    obtain ⟨vs, r⟩ := r.kids
    have := r.clo
    rw [S.len] at this
    exact this
  · exact q

/-! ## results -/
inductive R (α : Type) where
  | ok (a : α) (st : Store) | ex (c : Nat) (xs : List W) (st : Store) | no
abbrev Q (α : Type) := Store → R α
def pu {α : Type} (a : α) : Q α := fun st => .ok a st
def no {α : Type} : Q α := fun _ => .no
def bd {α β : Type} (x : Q α) (f : α → Q β) : Q β := fun st => match x st with
  | .ok a s => f a s
  | .ex c xs s => .ex c xs s
  | .no => .no
def R.nox {α : Type} : R α → R α
  | .ex _ _ _ => .no
  | r => r
theorem bd_ok {α β : Type} {x : Q α} {f : α → Q β} {st s : Store} {a : α} (h : x st = .ok a s) : bd x f st = f a s := by unfold bd; rw [h]
theorem bd_ex {α β : Type} {x : Q α} {f : α → Q β} {st s : Store} {c : Nat} {xs : List W} (h : x st = .ex c xs s) : bd x f st = .ex c xs s := by unfold bd; rw [h]
theorem bd_pu {α β : Type} {a : α} {f : α → Q β} {st : Store} : bd (pu a) f st = f a st := rfl
theorem pu_ap {α : Type} {a : α} {st : Store} : pu a st = .ok a st := rfl
open Classical in
/-- the store is cut back to what stood, where nothing points beyond it -/
noncomputable def cut (st : Store) : R W → R W
  | .ok w s => if cutOk st s ∧ W.clo st.length w = true then .ok w (s.take st.length) else .ok w s
  | .ex c xs s => if cutOk st s ∧ W.clos st.length xs = true then .ex c xs (s.take st.length) else .ex c xs s
  | .no => .no

/-! ## the syntax -/
inductive Bop where
  | add | sub | mul | mod | fdiv | pow
inductive Cop where
  | eq | ne | lt | le | gt | ge | isin | notin
inductive Cn where
  | non | bl (b : Bool) | int (i : Int) | str (s : Str)
def Cn.w : Cn → W
  | .non => .non
  | .bl b => .bl b
  | .int i => .int i
  | .str s => .str s
/-- built-in functions; Bool: the list that is made may change -/
inductive Bi where
  | len | int | abs | min2 | max2 | min1 | max1 | sum | sorted (μ : Bool) | list (μ : Bool) | tuple | all | any | isBool
inductive Bm where
  | append | pop1 | index | clear | insert
inductive TG where
  | nm (i : Nat) | tp (gs : List TG)
mutual
inductive TX where
  | v (i : Nat) | cst (c : Cn) | gi (x : Str) (i : Int)
  | bin (o : Bop) (μ : Bool) (a b : TX) | neg (a : TX) | cmp (o : Cop) (a b : TX) | chn (o p : Cop) (a b c : TX)
  | isN (a : TX) | ntN (a : TX) | and (a b : TX) | or (a b : TX) | not (a : TX) | ite (c : TT) (a b : TX)
  | tup (xs : TXs) | lst (μ : Bool) (xs : TXs)
  | idx (a i : TX) | slc (μ : Bool) (a : TX) (lo hi : TO)
  | att (a : TX) (f : Str)
  | call (f : Nat) (xs : TXs) | mth (f : Nat) (o : TX) (xs : TXs) | new (f : Nat) (xs : TXs)
  | bi (b : Bi) (xs : TXs) | bm (b : Bm) (o : TX) (xs : TXs)
  | lc (μ : Bool) (own : List Nat) (e : TX) (g : TG) (it : TI) (c : TT)
  | frz (a : TX) | xf (f : Str)
  | tupS (zs : TZs) | lstS (μ : Bool) (zs : TZs)
/-- items of a display, some with a star -/
inductive TZs where
  | nil | cons (s : Bool) (x : TX) (zs : TZs)
inductive TXs where
  | nil | cons (x : TX) (xs : TXs)
inductive TT where
  | yes | e (t : TX) | and (a b : TT) | or (a b : TT) | not (a : TT)
inductive TO where
  | om | e (t : TX)
inductive TI where
  | sq (e : TX) | r1 (a : TX) | r2 (a b : TX) | en (e : TX) | zp (a b : TX)
end
mutual
inductive TS where
  | ex (e : TX) | asg (g : TG) (e : TX) | par (i j : Nat) (a b : TX) | ret (e : TX) | ret0 | ite (c : TT) (a b : TSs)
  | loop (g : TG) (it : TI) (body : TSs) | whl (n : Nat) (c : TT) (body : TSs)
  | tri (body : TSs) (hs : List (Nat × Option Nat × Bool × TX))
  | rai (c : Nat) (xs : TXs)
  | sat (o : TX) (f : Str) (e : TX) | six (o i e : TX) | pas
inductive TSs where
  | nil | cons (x : TS) (xs : TSs)
end
/-- a def, in one reading of it: where it stands, its names (parameters first), their number, its body -/
structure Fd where
  at_ : Str × Option Str
  N : List Str
  np : Nat
  body : TSs
/-- a class: its name, its fields in the order in which they are set, whether its instances stay as they are made -/
structure Cd where
  name : Str
  fields : List Str
  stays : Bool
/-- an error class: its fields; Bool: kept as a tuple; mi: its text holds the first argument, an int; N: the names of its __init__ -/
structure Xd where
  name : Str
  fields : List (Str × Bool)
  mi : Bool
  N : List Str
structure Tab where
  fns : List Fd
  cls : List Cd
  xcs : List Xd
  gis : List (Str × Int)

/-! ## the evaluator -/
def getM (n : Nat) : Q MO := fun st => match st[n]? with
  | some (some o) => .ok o st
  | _ => .no
def setM (n : Nat) (o : MO) : Q Unit := fun st => match st[n]? with
  | some (some _) => .ok () (st.set n (some o))
  | _ => .no
def newM (o : MO) : Q W := fun st => .ok (.ref st.length) (st ++ [some o])
/-- a new list -/
def mkL (μ : Bool) (xs : List W) : Q W := if xs.length ≤ sizeLine then (if μ then newM (.lst xs) else pu (.lst xs)) else no
/-- the items of a list or tuple -/
def items : W → Q (List W)
  | .lst xs => pu xs
  | .fro xs => pu xs
  | .tup xs => pu xs
  | .ref n => bd (getM n) fun o => match o with
    | .lst xs => pu xs
    | _ => no
  | _ => no
def isTup : W → Bool
  | .tup _ => true
  | _ => false
/-- the items of what is no tuple -/
def itemsN (w : W) : Q (List W) := if isTup w then no else items w
/-- the items of a list -/
def itemsL : W → Q (List W)
  | .lst xs => pu xs
  | .ref n => bd (getM n) fun o => match o with
    | .lst xs => pu xs
    | _ => no
  | _ => no
def intsOf : List W → Option (List Int)
  | [] => some []
  | .int i :: xs => (intsOf xs).map (i :: ·)
  | _ => none
def bools : List W → Option (List Bool)
  | [] => some []
  | .bl i :: xs => (bools xs).map (i :: ·)
  | _ => none
def optAll {α β : Type} (f : α → Option β) : List α → Option (List β)
  | [] => some []
  | x :: xs => match f x, optAll f xs with
    | some y, some ys => some (y :: ys)
    | _, _ => none
/-- data for == -/
def dat (st : Store) : Nat → W → Option PyData
  | 0, _ => none
  | n + 1, w => match w with
    | .non => some .none
    | .bl b => some (.bool b)
    | .int i => some (.int i)
    | .str s => some (.str s)
    | .tup xs => (optAll (dat st n) xs).map .tuple
    | .lst xs => (optAll (dat st n) xs).map .list
    | .fro xs => (optAll (dat st n) xs).map .list
    | .ref j => (match st[j]? with
      | some (some (.lst xs)) => (optAll (dat st n) xs).map .list
      | _ => none)
    | _ => none
def datQ (w : W) : Q PyData := fun st => match dat st 8 w with
  | some d => if SeqAt.shaped d = true then .ok d st else .no
  | none => .no
def opB : Bop → Bool → W → W → Q W
  | .add, _, .int i, .int j => pu (.int (i + j))
  | .add, μ, x, y => bd (itemsL x) fun xs => bd (itemsL y) fun ys => mkL μ (xs ++ ys)
  | .sub, _, .int i, .int j => pu (.int (i - j))
  | .mul, _, .int i, .int j => if i.natAbs.log2 + j.natAbs.log2 < 100000 then pu (.int (i * j)) else if (-(2 ^ 64) < i ∧ i < 2 ^ 64) ∨ (-(2 ^ 64) < j ∧ j < 2 ^ 64) then pu (.int (i * j)) else no
  | .mul, μ, x, .int j => bd (itemsL x) fun xs => if -100000 < j ∧ j < 100000 then mkL μ (List.replicate j.toNat xs).flatten else no
  | .mod, _, .int i, .int j => if j ≠ 0 then pu (.int (i.fmod j)) else no
  | .fdiv, _, .int i, .int j => if j ≠ 0 ∧ j.natAbs < 1073741824 then pu (.int (i.fdiv j)) else no
  | .pow, _, .int i, .int j => if 0 ≤ j ∧ j ≤ 1000000 ∧ i.natAbs < 2 ^ 64 then pu (.int (i ^ j.toNat)) else no
  | _, _, _, _ => no
def opC : Cop → W → W → Q W
  | .eq, x, y => bd (datQ x) fun d => bd (datQ y) fun e => pu (.bl (PyData.eqv d e))
  | .ne, x, y => bd (datQ x) fun d => bd (datQ y) fun e => pu (.bl (!PyData.eqv d e))
  | .lt, .int i, .int j => pu (.bl (decide (i < j)))
  | .le, .int i, .int j => pu (.bl (decide (i ≤ j)))
  | .gt, .int i, .int j => pu (.bl (decide (j < i)))
  | .ge, .int i, .int j => pu (.bl (decide (j ≤ i)))
  | .isin, x, y => bd (datQ x) fun d => bd (datQ y) fun e => match e with
    | .list ds => pu (.bl (ds.any fun z => PyData.eqv z d))
    | .tuple ds => pu (.bl (ds.any fun z => PyData.eqv z d))
    | _ => no
  | .notin, x, y => bd (datQ x) fun d => bd (datQ y) fun e => match e with
    | .list ds => pu (.bl (!(ds.any fun z => PyData.eqv z d)))
    | .tuple ds => pu (.bl (!(ds.any fun z => PyData.eqv z d)))
    | _ => no
  | _, _, _ => no
def tru : W → Q Bool
  | .bl b => pu b
  | .non => pu false
  | .int i => pu (i != 0)
  | .lst xs => pu (!xs.isEmpty)
  | .fro xs => pu (!xs.isEmpty)
  | .tup xs => pu (!xs.isEmpty)
  | .ref n => bd (getM n) fun o => match o with
    | .lst xs => pu (!xs.isEmpty)
    | _ => no
  | _ => no
def idxW (a i : W) : Q W := match i with
  | .int i => bd (items a) fun xs => match L2.ixN xs.length i with
    | some j => (match xs[j]? with
      | some w => pu w
      | none => no)
    | none => no
  | _ => no
def sliceW {α : Type} (xs : List α) (lo hi : Option Int) : List α := (xs.drop (HT.sIx xs.length 0 lo)).take (HT.sIx xs.length xs.length hi - HT.sIx xs.length 0 lo)
def slcW (μ : Bool) (a : W) (lo hi : Option Int) : Q W := match a with
  | .tup xs => if ¬ (HT.sIx xs.length 0 lo = 0 ∧ HT.sIx xs.length xs.length hi = xs.length) then pu (.tup (sliceW xs lo hi)) else pu (.tup xs)
  | a => bd (items a) fun xs => mkL μ (sliceW xs lo hi)
def attW (T : Tab) (a : W) (f : Str) : Q W := match a with
  | .ins c xs => (match T.cls[c]? with
    | some d => (match (d.fields.zip xs).lookup f with
      | some w => pu w
      | none => no)
    | none => no)
  | .ref n => bd (getM n) fun o => match o with
    | .ins c fs => (match T.cls[c]? with
      | some d => if f ∈ d.fields then (match fs.lookup f with
        | some w => pu w
        | none => no) else no
      | none => no)
    | _ => no
  | _ => no
def putW (f : Str) (w : W) : List (Str × W) → List (Str × W)
  | [] => [(f, w)]
  | (g, x) :: r => if g = f then (g, w) :: r else (g, x) :: putW f w r
/-- the class of an instance that has no such field -/
def recv (w : W) (mn : Str) : Q Nat := match w with
  | .ins c _ => pu c
  | .ref n => bd (getM n) fun o => match o with
    | .ins c fs => if (fs.lookup mn).isNone then pu c else no
    | _ => no
  | _ => no
def freeze (T : Tab) (w : W) : Q W := match w with
  | .ref n => fun st => match st[n]? with
    | some (some (.lst xs)) => .ok (.lst xs) (st.set n none)
    | some (some (.ins c fs)) => (match T.cls[c]? with
      | some d => if d.fields = fs.map (·.1) then .ok (.ins c (fs.map (·.2))) (st.set n none) else .no
      | none => .no)
    | some (some (.dK kvs)) => .ok (.dK (kvs.map (·.1)) (kvs.map (·.2))) (st.set n none)
    | _ => .no
  | w => pu w
def least : List Int → Int → Int
  | [], a => a
  | x :: xs, a => least xs (if x < a then x else a)
def most : List Int → Int → Int
  | [], a => a
  | x :: xs, a => most xs (if a < x then x else a)
/-- a sorted list of intsOf -/
def insInt (x : Int) : List Int → List Int
  | [] => [x]
  | y :: ys => if x ≤ y then x :: y :: ys else y :: insInt x ys
def sortInts : List Int → List Int
  | [] => []
  | x :: xs => insInt x (sortInts xs)
def biW : Bi → List W → Q W
  | .len, [x] => bd (items x) fun xs => pu (.int xs.length)
  | .int, [.int i] => pu (.int i)
  | .int, [.bl b] => pu (.int (if b then 1 else 0))
  | .abs, [.int i] => pu (.int (if i < 0 then -i else i))
  | .min2, [.int i, .int j] => pu (.int (if j < i then j else i))
  | .max2, [.int i, .int j] => pu (.int (if j > i then j else i))
  | .max1, [x] => bd (items x) fun xs => match intsOf xs with
    | some (i :: is) => pu (.int (most is i))
    | _ => no
  | .min1, [x] => bd (items x) fun xs => match intsOf xs with
    | some (i :: is) => pu (.int (least is i))
    | _ => no
  | .sum, [x] => bd (items x) fun xs => match intsOf xs with
    | some is => pu (.int is.sum)
    | none => no
  | .sorted μ, [x] => bd (itemsN x) fun xs => match intsOf xs with
    | some is => mkL μ ((sortInts is).map .int)
    | none => no
  | .list μ, [x] => bd (items x) fun xs => mkL μ xs
  | .tuple, [x] => bd (items x) fun xs => pu (.tup xs)
  | .all, [x] => bd (itemsN x) fun xs => match bools xs with
    | some bs => pu (.bl (bs.all id))
    | none => no
  | .any, [x] => bd (itemsN x) fun xs => match bools xs with
    | some bs => pu (.bl (bs.any id))
    | none => no
  | .isBool, [.bl _] => pu (.bl true)
  | _, _ => no
/-- the first place of d -/
def findD (d : PyData) : List PyData → Nat → Option Nat
  | [], _ => none
  | z :: zs, j => if PyData.eqv z d then some j else findD d zs (j + 1)
def bmW : Bm → W → List W → Q W
  | .append, .ref n, [w] => bd (getM n) fun o => match o with
    | .lst xs => if xs.length < sizeLine then bd (setM n (.lst (xs ++ [w]))) fun _ => pu .non else no
    | _ => no
  | .clear, .ref n, [] => bd (getM n) fun o => match o with
    | .lst _ => bd (setM n (.lst [])) fun _ => pu .non
    | _ => no
  | .insert, .ref n, [.int i, w] => bd (getM n) fun o => match o with
    | .lst xs => if xs.length < sizeLine ∧ 0 ≤ i ∧ i ≤ xs.length then bd (setM n (.lst (xs.take i.toNat ++ w :: xs.drop i.toNat))) fun _ => pu .non else no
    | _ => no
  | .pop1, .ref n, [.int i] => bd (getM n) fun o => match o with
    | .lst xs => (match L2.ixN xs.length i with
      | some j => (match xs[j]? with
        | some w => if xs.length ≤ sizeLine then bd (setM n (.lst (xs.eraseIdx j))) fun _ => pu w else no
        | none => no)
      | none => no)
    | _ => no
  | .index, x, [w] => bd (datQ w) fun d => bd (datQ x) fun e => match e with
    | .list ds => (match findD d ds 0 with
      | some j => pu (.int j)
      | none => no)
    | .tuple ds => (match findD d ds 0 with
      | some j => pu (.int j)
      | none => no)
    | _ => no
  | _, _, _ => no

/-- what a method is called on -/
def rcv (b : Bm) (w : W) : Q (List W) := match b with
  | .index => items w
  | _ => itemsN w
/-- a walk: the items, the object of the store that is walked -/
structure Wk where
  xs : List W
  src : List (Nat × List W)
open Classical in
/-- what is walked is as it was -/
noncomputable def still (src : List (Nat × List W)) : Q Unit := fun st => if ∀ p ∈ src, st[p.1]? = some (some (.lst p.2)) then .ok () st else .no
def srcOf (w : W) (xs : List W) : List (Nat × List W) := match w with
  | .ref n => [(n, xs)]
  | _ => []
def enumW : Nat → List W → List W
  | _, [] => []
  | i, x :: xs => .tup [.int i, x] :: enumW (i + 1) xs
def zipW : List W → List W → List W
  | x :: xs, y :: ys => .tup [x, y] :: zipW xs ys
  | _, _ => []
def rangeW (lo : Int) (n : Nat) : List W := (List.range n).map fun (i : Nat) => .int (lo + i)
mutual
def asgn : TG → W → Ev → Q Ev
  | .nm i, w, env => pu (env.set i (some w))
  | .tp gs, w, env => bd (items w) fun xs => asgns gs xs env
def asgns : List TG → List W → Ev → Q Ev
  | [], [], env => pu env
  | g :: gs, x :: xs, env => bd (asgn g x env) fun env => asgns gs xs env
  | _, _, _ => no
end
def wipeE (env : Ev) : List Nat → Ev
  | [] => env
  | v :: vs => (wipeE env vs).set v none
def app (n : Nat) (w : W) : Q Unit := bd (getM n) fun o => match o with
  | .lst xs => if xs.length < sizeLine then setM n (.lst (xs ++ [w])) else no
  | _ => no
noncomputable def lcGo (one : W → Q (Option W)) (n : Nat) (src : List (Nat × List W)) : List W → Q Unit
  | [] => still src
  | x :: xs => bd (still src) fun _ => bd (fun st => (one x st).nox) fun r => match r with
    | none => lcGo one n src xs
    | some w => bd (app n w) fun _ => lcGo one n src xs
noncomputable def lcW (μ : Bool) (one : W → Q (Option W)) (k : Wk) : Q W := fun st => cut st (match lcGo one st.length k.src k.xs (st ++ [some (.lst [])]) with
  | .ok _ s => if μ then .ok (.ref st.length) s else (match s[st.length]? with
    | some (some (.lst ys)) => .ok (.lst ys) (s.set st.length none)
    | _ => .no)
  | _ => .no)
/-- a new instance -/
noncomputable def mkI (T : Tab) (F : Nat → List W → Q W) (f : Nat) (ws : List W) : Q W := match T.fns[f]? with
  | some d => (match T.cls.findIdx? (fun c => c.name == d.at_.1) with
    | some c => (match T.cls[c]? with
      | some cd => fun st => cut st (match F f (.ref st.length :: ws) (st ++ [some (.ins c [])]) with
        | .ok .non s => if cd.stays then freeze T (.ref st.length) s else .ok (.ref st.length) s
        | .ok _ _ => .no
        | .ex c xs s => .ex c xs s
        | .no => .no)
      | none => no)
    | none => no)
  | none => no
/-- a method's call: the instance is of the method's class -/
def mthW (T : Tab) (F : Nat → List W → Q W) (f : Nat) (w : W) (ws : Q (List W)) : Q W := match T.fns[f]? with
  | some d => (match d.at_.2 with
    | some mn => bd (recv w mn) fun c => (match T.cls[c]? with
      | some cd => if cd.name = d.at_.1 then bd ws fun ws => F f (w :: ws) else no
      | none => no)
    | none => no)
  | none => no
def intO : W → Q (Option Int)
  | .int i => pu (some i)
  | _ => no
mutual
noncomputable def ev (T : Tab) (F : Nat → List W → Q W) (xc : Option (Nat × List W)) : TX → Ev → Q W
  | .v i, env => match env[i]? with
    | some (some w) => pu w
    | _ => no
  | .cst c, _ => pu c.w
  | .gi _ i, _ => pu (.int i)
  | .bin o μ a b, env => bd (ev T F xc a env) fun x => bd (ev T F xc b env) fun y => opB o μ x y
  | .neg a, env => bd (ev T F xc a env) fun x => match x with
    | .int i => pu (.int (-i))
    | _ => no
  | .cmp o a b, env => bd (ev T F xc a env) fun x => bd (ev T F xc b env) fun y => opC o x y
  | .chn o p a b c, env => bd (ev T F xc a env) fun x => bd (ev T F xc b env) fun y => bd (opC o x y) fun q => match q with
    | .bl true => bd (ev T F xc c env) fun z => opC p y z
    | .bl false => pu (.bl false)
    | _ => no
  | .isN a, env => bd (ev T F xc a env) fun x => match x with
    | .non => pu (.bl true)
    | _ => pu (.bl false)
  | .ntN a, env => bd (ev T F xc a env) fun x => match x with
    | .non => pu (.bl false)
    | _ => pu (.bl true)
  | .and a b, env => bd (ev T F xc a env) fun x => match x with
    | .bl true => ev T F xc b env
    | .bl false => pu (.bl false)
    | _ => no
  | .or a b, env => bd (ev T F xc a env) fun x => match x with
    | .bl true => pu (.bl true)
    | .bl false => ev T F xc b env
    | _ => no
  | .not a, env => bd (ev T F xc a env) fun x => match x with
    | .bl b => pu (.bl (!b))
    | _ => no
  | .ite c a b, env => bd (evT T F xc c env) fun q => if q then ev T F xc a env else ev T F xc b env
  | .tup xs, env => bd (evs T F xc xs env) fun ws => pu (.tup ws)
  | .lst μ xs, env => bd (evs T F xc xs env) fun ws => mkL μ ws
  | .idx a i, env => bd (ev T F xc a env) fun x => bd (ev T F xc i env) fun y => idxW x y
  | .slc μ a lo hi, env => bd (ev T F xc a env) fun x => bd (evO T F xc lo env) fun l => bd (evO T F xc hi env) fun h => slcW μ x l h
  | .att a f, env => bd (ev T F xc a env) fun x => attW T x f
  | .call f xs, env => bd (evs T F xc xs env) fun ws => F f ws
  | .mth f o xs, env => bd (ev T F xc o env) fun w => mthW T F f w (evs T F xc xs env)
  | .new f xs, env => bd (evs T F xc xs env) fun ws => mkI T F f ws
  | .bi b xs, env => bd (evs T F xc xs env) fun ws => biW b ws
  | .bm b o xs, env => bd (ev T F xc o env) fun w => bd (rcv b w) fun _ => bd (evs T F xc xs env) fun ws => bmW b w ws
  | .lc μ own e g it c, env => bd (evI T F xc it env) fun k => lcW μ (fun x => bd (asgn g x (wipeE env own)) fun env2 => bd (evT T F xc c env2) fun q => if q then bd (ev T F xc e env2) fun w => pu (some w) else pu none) k
  | .frz a, env => bd (ev T F xc a env) fun x => freeze T x
  | .xf f, _ => match xc with
    | some (c, xs) => (match T.xcs[c]? with
      | some d => (match ((d.fields.map (·.1)).zip xs).lookup f with
        | some w => pu w
        | none => no)
      | none => no)
    | none => no
  | .tupS zs, env => bd (evz T F xc zs env) fun ws => if ws.length ≤ sizeLine then pu (.tup ws) else no
  | .lstS μ zs, env => bd (evz T F xc zs env) fun ws => mkL μ ws
noncomputable def evz (T : Tab) (F : Nat → List W → Q W) (xc : Option (Nat × List W)) : TZs → Ev → Q (List W)
  | .nil, _ => pu []
  | .cons s x zs, env => bd (ev T F xc x env) fun w => if s then bd (items w) fun ys => bd (evz T F xc zs env) fun ws => pu (ys ++ ws) else bd (evz T F xc zs env) fun ws => pu (w :: ws)
noncomputable def evT (T : Tab) (F : Nat → List W → Q W) (xc : Option (Nat × List W)) : TT → Ev → Q Bool
  | .yes, _ => pu true
  | .and a b, env => bd (evT T F xc a env) fun q => if q then evT T F xc b env else pu false
  | .or a b, env => bd (evT T F xc a env) fun q => if q then pu true else evT T F xc b env
  | .not a, env => bd (evT T F xc a env) fun q => pu (!q)
  | .e t, env => bd (ev T F xc t env) tru
noncomputable def evO (T : Tab) (F : Nat → List W → Q W) (xc : Option (Nat × List W)) : TO → Ev → Q (Option Int)
  | .om, _ => pu none
  | .e t, env => bd (ev T F xc t env) intO
noncomputable def evs (T : Tab) (F : Nat → List W → Q W) (xc : Option (Nat × List W)) : TXs → Ev → Q (List W)
  | .nil, _ => pu []
  | .cons x xs, env => bd (ev T F xc x env) fun w => bd (evs T F xc xs env) fun ws => pu (w :: ws)
noncomputable def evI (T : Tab) (F : Nat → List W → Q W) (xc : Option (Nat × List W)) : TI → Ev → Q Wk
  | .sq e, env => bd (ev T F xc e env) fun w => bd (items w) fun xs => pu ⟨xs, srcOf w xs⟩
  | .r1 a, env => bd (ev T F xc a env) fun x => match x with
    | .int j => if -(2 ^ 62) ≤ j ∧ j < 2 ^ 62 then pu ⟨rangeW 0 j.toNat, []⟩ else no
    | _ => no
  | .r2 a b, env => bd (ev T F xc a env) fun x => bd (ev T F xc b env) fun y => match x, y with
    | .int i, .int j => if (-(2 ^ 62) ≤ i ∧ i < 2 ^ 62) ∧ (-(2 ^ 62) ≤ j ∧ j < 2 ^ 62) then pu ⟨rangeW i (j - i).toNat, []⟩ else no
    | _, _ => no
  | .en e, env => bd (ev T F xc e env) fun w => bd (items w) fun xs => pu ⟨enumW 0 xs, srcOf w xs⟩
  | .zp a b, env => bd (ev T F xc a env) fun x => bd (ev T F xc b env) fun y => bd (items x) fun xs => bd (items y) fun ys => pu ⟨zipW xs ys, srcOf x xs ++ srcOf y ys⟩
end

/-- what a statement comes to -/
inductive O where
  | nx (env : Ev) (st : Store) | rt (w : W) (st : Store) | ex (c : Nat) (xs : List W) (env : Ev) (st : Store) | no
/-- a value, then a statement's end -/
def bo {α : Type} (x : R α) (env : Ev) (f : α → Store → O) : O := match x with
  | .ok a s => f a s
  | .ex c xs s => .ex c xs env s
  | .no => .no
def O.thn (o : O) (f : Ev → Store → O) : O := match o with
  | .nx env s => f env s
  | o => o
noncomputable def forGo (one : W → Ev → Store → O) (src : List (Nat × List W)) : List W → Ev → Store → O
  | [], env, st => bo (still src st) env fun _ s => .nx env s
  | x :: xs, env, st => bo (still src st) env fun _ s => (one x env s).thn fun env s => forGo one src xs env s
def whlGo (c : Ev → Q Bool) (body : Ev → Store → O) : Nat → Ev → Store → O
  | 0, _, _ => .no
  | n + 1, env, st => bo (c env st) env fun q s => if q then (body env s).thn (whlGo c body n) else .nx env s
/-- the fields of a new error -/
def xFields : List (Str × Bool) → List W → Q (List W)
  | [], [] => pu []
  | (_, false) :: fs, x :: xs => bd (xFields fs xs) fun ws => pu (x :: ws)
  | (_, true) :: fs, x :: xs => bd (items x) fun ys => bd (xFields fs xs) fun ws => pu (.tup ys :: ws)
  | _, _ => no
/-- the text of an error can be made -/
def xOk (mi : Bool) (ws : List W) : Bool := if mi then (match ws with
  | .int i :: _ => decide (i.natAbs.log2 < 1920)
  | _ => false) else true
def satW (T : Tab) (o : W) (f : Str) (w : W) : Q Unit := match o with
  | .ref n => bd (getM n) fun m => match m with
    | .ins c fs => (match T.cls[c]? with
      | some d => if f ∈ d.fields ∧ fs.length < 1000 then setM n (.ins c (putW f w fs)) else no
      | none => no)
    | _ => no
  | _ => no
def sixW (o i w : W) : Q Unit := match o, i with
  | .ref n, .int i => bd (getM n) fun m => match m with
    | .lst xs => (match L2.ixN xs.length i with
      | some j => setM n (.lst (xs.set j w))
      | none => no)
    | _ => no
  | _, _ => no
def unE (env : Ev) : Option Nat → Ev
  | some i => env.set i none
  | none => env
/-- an error meets the first handler of its class; Bool: it returns -/
noncomputable def handle (T : Tab) (F : Nat → List W → Q W) (c1 : Nat) (xs : List W) (env1 : Ev) (s : Store) : List (Nat × Option Nat × Bool × TX) → O
  | [] => .ex c1 xs env1 s
  | (c, n, rt, e) :: hs => if c1 = c then bo (ev T F (some (c1, xs)) e (unE env1 n) s).nox env1 fun w s => if rt then .rt w s else .nx (unE env1 n) s else handle T F c1 xs env1 s hs
mutual
noncomputable def exS (T : Tab) (F : Nat → List W → Q W) (xc : Option (Nat × List W)) : TS → Ev → Store → O
  | .ex e, env, st => bo (ev T F xc e env st) env fun _ s => .nx env s
  | .asg g e, env, st => bo (ev T F xc e env st) env fun w s => bo (asgn g w env s) env fun env s => .nx env s
  | .par i j a b, env, st => bo (ev T F xc a env st) env fun x s => bo (ev T F xc b env s) env fun y s => .nx ((env.set i (some x)).set j (some y)) s
  | .ret e, env, st => bo (ev T F xc e env st) env fun w s => .rt w s
  | .ret0, _, st => .rt .non st
  | .ite c a b, env, st => bo (evT T F xc c env st) env fun q s => if q then exSs T F xc a env s else exSs T F xc b env s
  | .loop g it body, env, st => bo (evI T F xc it env st) env fun k s => forGo (fun x env s => bo (asgn g x env s) env fun env s => exSs T F xc body env s) k.src k.xs env s
  | .whl n c body, env, st => whlGo (evT T F xc c) (exSs T F xc body) n env st
  | .tri body hs, env, st => match exSs T F xc body env st with
    | .ex c1 xs env1 s => handle T F c1 xs env1 s hs
    | o => o
  | .rai c xs, env, st => bo (evs T F xc xs env st) env fun ws s => match T.xcs[c]? with
    | some d => if xOk d.mi ws then bo (xFields d.fields ws s) env fun ys s => .ex c ys env s else .no
    | none => .no
  | .sat o f e, env, st => bo (ev T F xc e env st) env fun w s => bo (ev T F xc o env s) env fun x s => bo (satW T x f w s) env fun _ s => .nx env s
  | .six o i e, env, st => bo (ev T F xc e env st) env fun w s => bo (ev T F xc o env s) env fun x s => bo (ev T F xc i env s) env fun y s => bo (sixW x y w s) env fun _ s => .nx env s
  | .pas, env, st => .nx env st
noncomputable def exSs (T : Tab) (F : Nat → List W → Q W) (xc : Option (Nat × List W)) : TSs → Ev → Store → O
  | .nil, env, st => .nx env st
  | .cons x xs, env, st => (exS T F xc x env st).thn fun env s => exSs T F xc xs env s
end
def O.res : O → R W
  | .nx _ s => .ok .non s
  | .rt w s => .ok w s
  | .ex c xs _ s => .ex c xs s
  | .no => .no
def startE (N : List Str) (ws : List W) : Ev := ws.map some ++ List.replicate (N.length - ws.length) none
noncomputable def run (T : Tab) : Nat → Nat → List W → Q W
  | 0, _, _ => no
  | n + 1, f, ws => match T.fns[f]? with
    | some d => fun st => if ws.length = d.np then cut st (exSs T (run T n) none d.body (startE d.N ws) st).res else .no
    | none => no
end Mi
set_option maxHeartbeats 4000000
namespace Mi
open PySem PySem.Spec PyProof.Rows L2

/-! ## a term of the small language is such a text -/
def asName : Expr → Option Str
  | .Name x _ => some x
  | _ => none
def asCst : Expr → Option Cn
  | .Constant (.int i) _ _ => some (.int i)
  | .Constant (.str x) _ _ => some (.str x)
  | .Constant (.bool b) _ _ => some (.bl b)
  | .Constant .none _ _ => some .non
  | _ => none
def asBin : Expr → Option (Expr × Operator × Expr)
  | .BinOp l o r _ => some (l, o, r)
  | _ => none
def asUn : Expr → Option (UnaryOp × Expr)
  | .UnaryOp o x _ => some (o, x)
  | _ => none
def asCmp : Expr → Option (Expr × CmpOp × Expr)
  | .Compare a [o] [b] _ => some (a, o, b)
  | _ => none
def asChn : Expr → Option (Expr × CmpOp × Expr × CmpOp × Expr)
  | .Compare a [o, p] [b, c] _ => some (a, o, b, p, c)
  | _ => none
def asBool : Expr → Option (BoolOp × List Expr)
  | .BoolOp o xs _ => some (o, xs)
  | _ => none
def asIf : Expr → Option (Expr × Expr × Expr)
  | .IfExp c a b _ => some (c, a, b)
  | _ => none
def asTup : Expr → Option (List Expr)
  | .Tuple xs _ _ => some xs
  | _ => none
def asLst : Expr → Option (List Expr)
  | .List xs _ => some xs
  | _ => none
def asSub : Expr → Option (Expr × Expr)
  | .Subscript a i _ => some (a, i)
  | _ => none
def asSlc : Expr → Option (Expr × Option Expr × Option Expr)
  | .Subscript a (.Slice lo hi none _) _ => some (a, lo, hi)
  | _ => none
def asAtt : Expr → Option (Expr × Str)
  | .Attribute a f _ => some (a, f)
  | _ => none
/-- f(args), f a name -/
def asCall : Expr → Option (Str × List Expr)
  | .Call (.Name x _) args [] _ => some (x, args)
  | _ => none
/-- o.m(args), on one line -/
def asMth : Expr → Option (Expr × Str × List Expr)
  | .Call (.Attribute o m apos) args [] pos => if apos.endLine == pos.line then some (o, m, args) else none
  | _ => none
def asLc : Expr → Option (Expr × Expr × Expr × List Expr × Scope)
  | .ListComp elt [⟨tg, it, ifs, 0⟩] sc _ => some (elt, tg, it, ifs, sc)
  | _ => none
/-- no slice stands there -/
def noSlc : Expr → Bool
  | .Slice _ _ _ _ => false
  | _ => true
/-- not super() -/
def noSup : Expr → Bool
  | .Call (.Name x _) [] [] _ => x != "super"
  | _ => true
def noStar : Expr → Bool
  | .Starred _ _ => false
  | _ => true
def asStar : Expr → Option Expr
  | .Starred x _ => some x
  | _ => none
/-- a test by its value -/
def plainT : Expr → Bool
  | .UnaryOp .Not _ _ => false
  | .BoolOp _ _ _ => false
  | .IfExp _ _ _ _ => false
  | .Compare _ _ _ _ => false
  | _ => true
def isNone_ : Expr → Bool
  | .Constant .none _ _ => true
  | _ => false
def bopOf : Bop → Operator
  | .add => .Add
  | .sub => .Sub
  | .mul => .Mult
  | .mod => .Mod
  | .fdiv => .FloorDiv
  | .pow => .Pow
def copOf : Cop → CmpOp
  | .eq => .Eq
  | .ne => .NotEq
  | .lt => .Lt
  | .le => .LtE
  | .gt => .Gt
  | .ge => .GtE
  | .isin => .In
  | .notin => .NotIn
def biName : Bi → Str
  | .len => "len"
  | .int => "int"
  | .abs => "abs"
  | .min2 => "min"
  | .max2 => "max"
  | .min1 => "min"
  | .max1 => "max"
  | .sum => "sum"
  | .sorted _ => "sorted"
  | .list _ => "list"
  | .tuple => "tuple"
  | .all => "all"
  | .any => "any"
  | .isBool => "isinstance"
def bmName : Bm → Str
  | .append => "append"
  | .pop1 => "pop"
  | .index => "index"
  | .clear => "clear"
  | .insert => "insert"
def okName (x : Str) : Bool := !(x == ("__debug__" : Str)) && !(x == ("__classdict__" : Str)) && !(x == ("__name__" : Str))
def nk (sc : Scope) (x : Str) : Option NameKind := sc.names.lookup x
def visB (sc : Scope) (x : Str) : Bool := match nk sc x with
  | some .local => true
  | some .cell => true
  | some .free => true
  | _ => false
def glB (sc : Scope) (x : Str) : Bool := decide (nk sc x = some .globalImplicit) && okName x
/-- a target's name; raw: a block's own scope as it is written -/
def locB (raw : Option Scope) (sc : Scope) (x : Str) : Bool := match nk sc x with
  | some .local => true
  | some .cell => (match raw with
    | none => true
    | some r => decide (nk r x = some .cell))
  | _ => false
mutual
def chkG (N : List Str) (raw : Option Scope) (sc : Scope) : TG → Expr → Bool
  | .nm i, e => (match asName e with
    | some x => decide (N[i]? = some x) && locB raw sc x
    | none => false)
  | .tp gs, e => (match asTup e with
    | some es => chkGs N raw sc gs es
    | none => false)
def chkGs (N : List Str) (raw : Option Scope) (sc : Scope) : List TG → List Expr → Bool
  | [], [] => true
  | g :: gs, e :: es => noStar e && (chkG N raw sc g e && chkGs N raw sc gs es)
  | _, _ => false
end
mutual
def TG.slots : TG → List Nat
  | .nm i => [i]
  | .tp gs => slotsG gs
def slotsG : List TG → List Nat
  | [] => []
  | g :: gs => g.slots ++ slotsG gs
end
def ownOf (N : List Str) (own : List Nat) : List (Str × Nat) := own.filterMap fun i => (N[i]?).map fun x => (x, i)
def Cn.eqB : Cn → Cn → Bool
  | .non, .non => true
  | .bl a, .bl b => a == b
  | .int a, .int b => decide (a = b)
  | .str a, .str b => decide (a = b)
  | _, _ => false
mutual
def chkE (T : Tab) (N : List Str) (xn : Option Str) : Option Scope → Scope → TX → Expr → Bool
  | raw, sc, .v i, e => (match asName e with
    | some x => decide (N[i]? = some x) && (visB sc x && okName x)
    | none => false)
  | raw, sc, .cst c, e => (match asCst e with
    | some d => c.eqB d
    | none => false)
  | raw, sc, .gi x i, e => (match asName e with
    | some y => decide (x = y) && (glB sc x && decide ((x, i) ∈ T.gis))
    | none => false)
  | raw, sc, .bin o _ a b, e => (match asBin e with
    | some (l, p, r) => decide (bopOf o = p) && (chkE T N xn raw sc a l && chkE T N xn raw sc b r)
    | none => false)
  | raw, sc, .neg a, e => (match asUn e with
    | some (p, x) => decide (p = .USub) && chkE T N xn raw sc a x
    | none => false)
  | raw, sc, .cmp o a b, e => (match asCmp e with
    | some (l, p, r) => decide (copOf o = p) && (!behindInMarks p r && (chkE T N xn raw sc a l && chkE T N xn raw sc b r))
    | none => false)
  | raw, sc, .chn o p a b c, e => (match asChn e with
    | some (x, o', y, p', z) => decide (copOf o = o') && (decide (copOf p = p') && (!lastMarks [o', p'] [y, z] && (chkE T N xn raw sc a x && (chkE T N xn raw sc b y && chkE T N xn raw sc c z))))
    | none => false)
  | raw, sc, .isN a, e => (match asCmp e with
    | some (l, p, r) => decide (p = .Is) && (isNone_ r && chkE T N xn raw sc a l)
    | none => false)
  | raw, sc, .ntN a, e => (match asCmp e with
    | some (l, p, r) => decide (p = .IsNot) && (isNone_ r && chkE T N xn raw sc a l)
    | none => false)
  | raw, sc, .and a b, e => (match asBool e with
    | some (.And, x :: y :: r) => chkE T N xn raw sc a x && (match r with
      | [] => chkE T N xn raw sc b y
      | r => chkB T N xn raw sc .And b (y :: r))
    | _ => false)
  | raw, sc, .or a b, e => (match asBool e with
    | some (.Or, x :: y :: r) => chkE T N xn raw sc a x && (match r with
      | [] => chkE T N xn raw sc b y
      | r => chkB T N xn raw sc .Or b (y :: r))
    | _ => false)
  | raw, sc, .not a, e => (match asUn e with
    | some (p, x) => decide (p = .Not) && chkE T N xn raw sc a x
    | none => false)
  | raw, sc, .ite c a b, e => (match asIf e with
    | some (x, y, z) => chkT T N xn raw sc c x && (chkE T N xn raw sc a y && chkE T N xn raw sc b z)
    | none => false)
  | raw, sc, .tup xs, e => (match asTup e with
    | some es => decide (es.length < 1000) && chkEs T N xn raw sc xs es
    | none => false)
  | raw, sc, .lst _ xs, e => (match asLst e with
    | some es => chkEs T N xn raw sc xs es
    | none => false)
  | raw, sc, .idx a i, e => (match asSub e with
    | some (x, y) => noSlc y && (chkE T N xn raw sc a x && chkE T N xn raw sc i y)
    | none => false)
  | raw, sc, .slc _ a lo hi, e => (match asSlc e with
    | some (x, l, h) => chkE T N xn raw sc a x && (chkO T N xn raw sc lo l && chkO T N xn raw sc hi h)
    | none => false)
  | raw, sc, .att a f, e => (match asAtt e with
    | some (x, g) => decide (f = g) && (noSup x && chkE T N xn raw sc a x)
    | none => false)
  | raw, sc, .call f xs, e => (match asCall e, T.fns[f]? with
    | some (x, es), some d => decide (d.at_ = (x, none)) && (glB sc x && chkEs T N xn raw sc xs es)
    | _, _ => false)
  | raw, sc, .mth f o xs, e => (match asMth e, T.fns[f]? with
    | some (x, m, es), some d => decide (d.at_.2 = some m) && (noSup x && (decide (es.length < 20) && (chkE T N xn raw sc o x && chkEs T N xn raw sc xs es)))
    | _, _ => false)
  | raw, sc, .new f xs, e => (match asCall e, T.fns[f]? with
    | some (x, es), some d => decide (d.at_ = (x, some ("__init__" : Str))) && (glB sc x && ((T.cls.any fun k => k.name == x) && chkEs T N xn raw sc xs es))
    | _, _ => false)
  | raw, sc, .bi b xs, e => (match asCall e with
    | some (x, es) => decide (biName b = x) && (glB sc x && (match b with
      | .isBool => (match es, xs with
        | [y, z], .cons t .nil => (match asName z with
          | some zn => decide (zn = ("bool" : Str)) && (glB sc zn && (noStar y && (noStar z && chkE T N xn raw sc t y)))
          | none => false)
        | _, _ => false)
      | _ => chkEs T N xn raw sc xs es && !es.isEmpty))
    | none => false)
  | raw, sc, .bm b o xs, e => (match asMth e with
    | some (x, m, es) => decide (bmName b = m) && (noSup x && (chkE T N xn raw sc o x && (chkEs T N xn raw sc xs es && decide (es.length < 20))))
    | none => false)
  | raw, sc, .lc _ own elt g it c, e => (match asLc e with
    | some (el, tg, i, ifs, s) => blkC N sc s (ownOf N own) && (decide ((ownOf N own).map (·.2) = own) && (decide (∀ i ∈ g.slots, i ∈ own) && (chkI T N xn raw sc it tg i &&
        (chkG N (some s) (relS s sc) g tg && (chkE T N xn (some s) (relS s sc) elt el && (match ifs with
          | [] => (match c with
            | .yes => true
            | _ => false)
          | [y] => chkT T N xn (some s) (relS s sc) c y
          | _ => false))))))
    | none => false)
  | raw, sc, .frz a, e => (match e with
    | .Compare _ _ _ _ => false
    | _ => true) && chkE T N xn raw sc a e
  | raw, sc, .xf f, e => (match asAtt e, xn with
    | some (x, g), some n => decide (f = g) && (match asName x with
      | some y => decide (y = n)
      | none => false)
    | _, _ => false)
  | raw, sc, .tupS zs, e => (match asTup e with
    | some es => chkZs T N xn raw sc zs es
    | none => false)
  | raw, sc, .lstS _ zs, e => (match asLst e with
    | some es => chkZs T N xn raw sc zs es
    | none => false)
def chkZs (T : Tab) (N : List Str) (xn : Option Str) : Option Scope → Scope → TZs → List Expr → Bool
  | raw, sc, .nil, es => es.isEmpty
  | raw, sc, .cons false x zs, e :: es => noStar e && (chkE T N xn raw sc x e && chkZs T N xn raw sc zs es)
  | raw, sc, .cons true x zs, e :: es => (match asStar e with
    | some y => chkE T N xn raw sc x y && chkZs T N xn raw sc zs es
    | none => false)
  | raw, sc, .cons _ _ _, [] => false
/-- the rest of a row of ands, ors -/
def chkB (T : Tab) (N : List Str) (xn : Option Str) : Option Scope → Scope → BoolOp → TX → List Expr → Bool
  | raw, sc, .And, .and a b, x :: y :: r => chkE T N xn raw sc a x && (match r with
    | [] => chkE T N xn raw sc b y
    | r => chkB T N xn raw sc .And b (y :: r))
  | raw, sc, .Or, .or a b, x :: y :: r => chkE T N xn raw sc a x && (match r with
    | [] => chkE T N xn raw sc b y
    | r => chkB T N xn raw sc .Or b (y :: r))
  | _, _, _, _, _ => false
/-- a test -/
def chkT (T : Tab) (N : List Str) (xn : Option Str) : Option Scope → Scope → TT → Expr → Bool
  | raw, sc, .yes, e => false
  | raw, sc, .e t, e => (plainT e || (match asCmp e with
    | some _ => true
    | none => (match asChn e with
      | some _ => true
      | none => false))) && chkE T N xn raw sc t e
  | raw, sc, .and a b, e => (match asBool e with
    | some (.And, x :: y :: r) => chkT T N xn raw sc a x && (match r with
      | [] => chkT T N xn raw sc b y
      | r => chkTB T N xn raw sc .And b (y :: r))
    | _ => false)
  | raw, sc, .or a b, e => (match asBool e with
    | some (.Or, x :: y :: r) => chkT T N xn raw sc a x && (match r with
      | [] => chkT T N xn raw sc b y
      | r => chkTB T N xn raw sc .Or b (y :: r))
    | _ => false)
  | raw, sc, .not a, e => (match asUn e with
    | some (p, x) => decide (p = .Not) && chkT T N xn raw sc a x
    | none => false)
/-- the rest of a row of tests (two or more) -/
def chkTB (T : Tab) (N : List Str) (xn : Option Str) : Option Scope → Scope → BoolOp → TT → List Expr → Bool
  | raw, sc, .And, .and a b, x :: y :: r => chkT T N xn raw sc a x && (match r with
    | [] => chkT T N xn raw sc b y
    | r => chkTB T N xn raw sc .And b (y :: r))
  | raw, sc, .Or, .or a b, x :: y :: r => chkT T N xn raw sc a x && (match r with
    | [] => chkT T N xn raw sc b y
    | r => chkTB T N xn raw sc .Or b (y :: r))
  | _, _, _, _, _ => false
def chkO (T : Tab) (N : List Str) (xn : Option Str) : Option Scope → Scope → TO → Option Expr → Bool
  | raw, sc, .om, o => o.isNone
  | raw, sc, .e t, some e => chkE T N xn raw sc t e
  | _, _, .e _, none => false
def chkEs (T : Tab) (N : List Str) (xn : Option Str) : Option Scope → Scope → TXs → List Expr → Bool
  | raw, sc, .nil, es => es.isEmpty
  | raw, sc, .cons x xs, e :: es => noStar e && (chkE T N xn raw sc x e && chkEs T N xn raw sc xs es)
  | raw, sc, .cons _ _, [] => false
/-- what is walked; tg: the target -/
def chkI (T : Tab) (N : List Str) (xn : Option Str) : Option Scope → Scope → TI → Expr → Expr → Bool
  | raw, sc, .sq t, tg, e => chkE T N xn raw sc t e && (match e with
    | .Set _ _ _ => false
    | _ => true)
  | raw, sc, .r1 a, tg, e => (match asCall e with
    | some (x, [y]) => decide (x = ("range" : Str)) && (glB sc x && (noStar y && chkE T N xn raw sc a y))
    | _ => false)
  | raw, sc, .r2 a b, tg, e => (match asCall e with
    | some (x, [y, z]) => decide (x = ("range" : Str)) && (glB sc x && (noStar y && (noStar z && (chkE T N xn raw sc a y && chkE T N xn raw sc b z))))
    | _ => false)
  | raw, sc, .en a, tg, e => (match asCall e, tg with
    | some (x, [y]), .Tuple _ _ _ => decide (x = ("enumerate" : Str)) && (glB sc x && (noStar y && chkE T N xn raw sc a y))
    | _, _ => false)
  | raw, sc, .zp a b, tg, e => (match asCall e, tg with
    | some (x, [y, z]), .Tuple _ _ _ => decide (x = ("zip" : Str)) && (glB sc x && (noStar y && (noStar z && (chkE T N xn raw sc a y && chkE T N xn raw sc b z))))
    | _, _ => false)
end
end Mi
set_option maxHeartbeats 4000000
namespace Mi
open PySem PySem.Spec PyProof.Rows L2

/-! ## what a result stands for -/
structure Cxt (T : Tab) where
  P : Program
  w : World
  K : PySem.W.Frag
  mg : Str → Option Value
  base : Heap
  fad : Nat → Addr
  ffd : Nat → FuncData
  cad : Nat → Addr
  xad : Nat → Addr
def Cxt.kt {T : Tab} (c : Cxt T) : Kt := ⟨c.K, c.cad, fun i => match T.cls[i]? with
  | some d => d.fields
  | none => []⟩
section
variable {T : Tab} (c : Cxt T)
/-- an error with its fields -/
def XRel (m : List Addr) (M : Hp) (i : Nat) (xs : List W) (cls : Value) (d : Option Addr) : Prop :=
  cls = .ref (c.xad i) ∧ ∃ x, T.xcs[i]? = some x ∧ ((x.fields = [] ∧ xs = []) ∨ ∃ dd fs vs, d = some dd ∧ M dd = some (.xd fs) ∧ (∀ f, fs.lookup f = ((x.fields.map (·.1)).zip vs).lookup f) ∧ vs.length = x.fields.length ∧ RelWs c.kt m M xs vs)
variable {c}
theorem XRel.mono {m m' : List Addr} {M M' : Hp} {i : Nat} {xs : List W} {cls : Value} {d : Option Addr} (h : XRel c m M i xs cls d) (hm : ∀ (n : Nat) (a : Addr), m[n]? = some a → m'[n]? = some a) (s : Same M M') : XRel c m' M' i xs cls d := by
  obtain ⟨e, x, hx, h⟩ := h
  refine ⟨e, x, hx, ?_⟩
  rcases h with h | ⟨dd, fs, vs, e1, e2, e4, e3, r⟩
  · exact .inl h
  · exact .inr ⟨dd, fs, vs, e1, s _ _ e2, e4, e3, r.mono hm s⟩
variable (c)
def Po {α β : Type} (m : List Addr) (st : Store) (H : Hp) (E : XK) (rel : List Addr → Hp → α → β → Prop) (r : R α) (Q : β → Hp → Prop) : Prop := match r with
  | .ok a st' => ∀ m' b H', Ext m st H m' st' H' → SR c.kt m' st' H' → rel m' (fz m' st' H') a b → Q b H'
  | .ex i xs st' => ∀ m' cls d H', Ext m st H m' st' H' → SR c.kt m' st' H' → XRel c m' (fz m' st' H') i xs cls d → E cls d H'
  | .no => False
abbrev rW : List Addr → Hp → W → V → Prop := fun m M w v => RelW c.kt m M w v
abbrev rWs : List Addr → Hp → List W → List V → Prop := fun m M w v => RelWs c.kt m M w v
def rEq_ {α : Type} : List Addr → Hp → α → α → Prop := fun _ _ a b => a = b
variable {c}
section
variable {α β γ δ : Type} {m m1 : List Addr} {st st1 : Store} {H H1 : Hp} {E : XK} {rel : List Addr → Hp → α → β → Prop} {rel2 : List Addr → Hp → γ → δ → Prop}
theorem po_ext {r : R α} {Q : β → Hp → Prop} (h : Po c m st H E rel r Q) (e : Ext m st H m1 st1 H1) : Po c m1 st1 H1 E rel r Q := by
  cases r with
  | ok a s => intro m' b H' e1 s1 r; exact h m' b H' (e.trans e1) s1 r
  | ex i xs s => intro m' cls d H' e1 s1 r; exact h m' cls d H' (e.trans e1) s1 r
  | no => exact h
theorem po_bd {x : Q α} {f : α → Q γ} {Q2 : δ → Hp → Prop} (h : Po c m st H E rel2 (bd x f st) Q2) {K : β → Hp → Prop}
    (k : ∀ a st1 m1 H1 b, Ext m st H m1 st1 H1 → SR c.kt m1 st1 H1 → rel m1 (fz m1 st1 H1) a b → Po c m1 st1 H1 E rel2 (f a st1) Q2 → K b H1) : Po c m st H E rel (x st) K := by
  unfold bd at h
  cases hx : x st with
  | ok a s => rw [hx] at h; intro m' b H' e1 s1 r; exact k a s m' H' b e1 s1 r (po_ext (r := f a s) h e1)
  | ex i xs s => rw [hx] at h; exact h
  | no => rw [hx] at h; exact h
theorem po_pu {a : α} {Q : β → Hp → Prop} (h : Po c m st H E rel (pu a st) Q) (S : SR c.kt m st H) {b : β} (r : rel m (fz m st H) a b) : Q b H := h m b H Ext.refl S r
theorem po_imp {r : R α} {Q Q' : β → Hp → Prop} (h : Po c m st H E rel r Q) (k : ∀ b H, Q b H → Q' b H) : Po c m st H E rel r Q' := by
  cases r with
  | ok a s => intro m' b H' e1 s1 r; exact k _ _ (h m' b H' e1 s1 r)
  | ex i xs s => exact h
  | no => exact h
end

/-- slots -/
structure Sim (c : Cxt T) (xc : Option (Nat × List W)) (xv : Option (Nat × Addr)) (cx : Value × Option Addr) (m : List Addr) (env : Ev) (st : Store) (σ : L2.St) (H : Hp) : Prop where
  sr : SR c.kt m st H
  len : env.length = σ.length
  loc : ∀ (i : Nat) (w : W), env[i]? = some (some w) → ∃ v, σ[i]? = some (some v) ∧ RelW c.kt m (fz m st H) w v
  exc : ∀ i xs, xc = some (i, xs) → XRel c m (fz m st H) i xs cx.1 cx.2
  exv : ∀ i a, xv = some (i, a) → σ[i]? = some (some (V.ref a))
section
variable {xc : Option (Nat × List W)} {xv : Option (Nat × Addr)} {cx : Value × Option Addr} {m m1 : List Addr} {env : Ev} {st st1 : Store} {σ : L2.St} {H H1 : Hp}
theorem Sim.ext (S : Sim c xc xv cx m env st σ H) (e : Ext m st H m1 st1 H1) (s : SR c.kt m1 st1 H1) : Sim c xc xv cx m1 env st1 σ H1 :=
  ⟨s, S.len, fun i w h => let ⟨v, h1, h2⟩ := S.loc i w h; ⟨v, h1, e.relW h2⟩, fun i xs h => (S.exc i xs h).mono e.ix e.same, S.exv⟩
theorem Sim.set (S : Sim c none none cx m env st σ H) {i : Nat} {w : W} {v : V} (r : RelW c.kt m (fz m st H) w v) : Sim c none none cx m (env.set i (some w)) st (σ.set i (some v)) H := by
  refine ⟨S.sr, by simp [S.len], fun j u h => ?_, (fun _ _ h => (nomatch h)), (fun _ _ h => (nomatch h))⟩
  by_cases e : i = j
  · subst e
    have hi : i < env.length := by
      by_cases hi : i < env.length
      · exact hi
      · rw [List.getElem?_eq_none (by simpa using hi)] at h; cases h
    rw [List.getElem?_set_self hi] at h
    cases h
    exact ⟨v, by rw [List.getElem?_set_self (by rw [← S.len]; exact hi)], r⟩
  · rw [List.getElem?_set_ne e] at h
    obtain ⟨v', h1, h2⟩ := S.loc j u h
    exact ⟨v', by rw [List.getElem?_set_ne e]; exact h1, h2⟩
end

/-! ## readings -/
section
variable (c : Cxt T) (F : Nat → List W → Q W) (xc : Option (Nat × List W)) (xv : Option (Nat × Addr)) (cx : Value × Option Addr) (Wx : WX)
def rE (t : TX) : TE := fun σ H Q => ∃ m env st, Sim c xc xv cx m env st σ H ∧ Po c m st H (fun cls d H => Wx cls d σ H) (rW c) (ev T F xc t env st) Q
def rT (t : TT) : L2.TT := fun σ H Q => ∃ m env st, Sim c xc xv cx m env st σ H ∧ Po c m st H (fun cls d H => Wx cls d σ H) rEq_ (evT T F xc t env st) Q
def rO (t : TO) : L2.TO := fun σ H Q => ∃ m env st, Sim c xc xv cx m env st σ H ∧ Po c m st H (fun cls d H => Wx cls d σ H) rEq_ (evO T F xc t env st) Q
def rZ (t : TZs) : TA := fun σ H Q => ∃ m env st, Sim c xc xv cx m env st σ H ∧ Po c m st H (fun cls d H => Wx cls d σ H) (rWs c) (evz T F xc t env st) Q
def rA (t : TXs) : TA := fun σ H Q => ∃ m env st, Sim c xc xv cx m env st σ H ∧ Po c m st H (fun cls d H => Wx cls d σ H) (rWs c) (evs T F xc t env st) Q
end
end
theorem PE.mono {X : Cx} {e : Expr} {t t' : TE} (h : PE X e t) (f : ∀ σ H Q, t' σ H Q → t σ H Q) : PE X e t' := ⟨fun pins s σ H Q I q => h.run pins s σ H Q I (f σ H Q q)⟩
theorem PT.mono {X : Cx} {e : Expr} {t t' : L2.TT} (h : PT X e t) (f : ∀ σ H Q, t' σ H Q → t σ H Q) : PT X e t' := ⟨fun pins s σ H Q I q => h.run pins s σ H Q I (f σ H Q q)⟩
theorem PA.mono {X : Cx} {e : List Expr} {t t' : TA} (h : PA X e t) (f : ∀ σ H Q, t' σ H Q → t σ H Q) : PA X e t' := ⟨fun pos pins s σ H Q I q => h.run pos pins s σ H Q I (f σ H Q q)⟩
theorem PS.mono {X : Cx} {e : Stmt} {t t' : L2.TS} (h : PS X e t) (f : ∀ D σ H, t' D σ H → t D σ H) : PS X e t' := ⟨fun pins s σ H D I q => h.run pins s σ H D I (f D σ H q)⟩
theorem PSs.mono {X : Cx} {e : List Stmt} {t t' : L2.TS} (h : PSs X e t) (f : ∀ D σ H, t' D σ H → t D σ H) : PSs X e t' := ⟨fun pins s σ H D I q => h.run pins s σ H D I (f D σ H q)⟩
theorem PI.mono {X : Cx} {tg e : Expr} {t t' : L2.TI} (h : PI X tg e t) (f : ∀ σ H R, t' σ H R → t σ H R) : PI X tg e t' := ⟨fun pins s σ H R I q => h.run pins s σ H R I (f σ H R q)⟩
end Mi
set_option maxHeartbeats 4000000
set_option autoImplicit false
namespace Mi
open PySem PySem.Spec PyProof.Rows L2

/-! ## single operations -/
section
variable {T : Tab} {c : Cxt T} {m : List Addr} {st : Store} {H : Hp} {E : XK} {α β : Type} {rel : List Addr → Hp → α → β → Prop} {Q' : β → Hp → Prop}

theorem bd_get {α : Type} {n : Nat} {f : MO → Q α} {st : Store} : bd (getM n) f st = (match st[n]? with
    | some (some o) => f o st
    | _ => .no) := by
  unfold bd getM
  cases st[n]? with
  | none => rfl
  | some o => cases o <;> rfl
theorem items_ref {n : Nat} {st : Store} : items (.ref n) st = (match st[n]? with
    | some (some (.lst xs)) => .ok xs st
    | _ => .no) := by
  show bd (getM n) _ st = _
  rw [bd_get]
  cases st[n]? with
  | none => rfl
  | some o => cases o with
    | none => rfl
    | some o => cases o <;> rfl
theorem itemsL_ref {n : Nat} {st : Store} : itemsL (.ref n) st = (match st[n]? with
    | some (some (.lst xs)) => .ok xs st
    | _ => .no) := by
  show bd (getM n) _ st = _
  rw [bd_get]
  cases st[n]? with
  | none => rfl
  | some o => cases o with
    | none => rfl
    | some o => cases o <;> rfl
theorem fz_sqL {K : PySem.W.Frag} {a : Addr} {vs : List V} (h : SqL K (fz m st H) a vs) : SqL K H a vs := same_sqL (fz_same _ _ _) h
theorem fz_sqT {K : PySem.W.Frag} {a : Addr} {vs : List V} (h : FzT K (fz m st H) a vs) : SqT K H a vs := same_sqT (fz_same _ _ _) h.sq

theorem po_get {n : Nat} {f : MO → Q α} (h : Po c m st H E rel (bd (getM n) f st) Q') (S : SR c.kt m st H) :
    ∃ o a, st[n]? = some (some o) ∧ m[n]? = some a ∧ MRel c.kt m (fz m st H) H a o ∧ Po c m st H E rel (f o st) Q' := by
  rw [bd_get] at h
  cases e : st[n]? with
  | none => rw [e] at h; exact h.elim
  | some u =>
    rw [e] at h
    cases u with
    | none => exact h.elim
    | some o =>
      obtain ⟨a, ha, hr⟩ := S.live e
      exact ⟨o, a, rfl, ha, hr, h⟩
theorem po_set {n : Nat} {o o' : MO} {f : Unit → Q α} (h : Po c m st H E rel (bd (setM n o') f st) Q') (hn : st[n]? = some (some o)) : Po c m st H E rel (f () (st.set n (some o'))) Q' := by
  unfold bd setM at h
  rw [hn] at h
  exact h

/-- what has items -/
def IsSq (w : W) (K : PySem.W.Frag) (H : Hp) (v : V) (vs : List V) : Prop := ∃ a, v = .ref a ∧ (isTup w = false ∧ SqL K H a vs ∨ isTup w = true ∧ SqT K H a vs)
theorem items_at {w : W} {v : V} (S : SR c.kt m st H) (r : RelW c.kt m (fz m st H) w v) {xs : List W} {s : Store} (h : items w st = .ok xs s) :
    s = st ∧ ∃ vs, IsSq w c.K H v vs ∧ RelWs c.kt m (fz m st H) xs vs := by
  cases w with
  | lst ys =>
    cases h
    unfold RelW at r
    obtain ⟨a, vs, rfl, h1, h2⟩ := r
    exact ⟨rfl, vs, ⟨a, rfl, .inl ⟨rfl, SqL.of (fz_same _ _ _ _ _ h1)⟩⟩, h2⟩
  | fro ys =>
    cases h
    unfold RelW at r
    obtain ⟨a, vs, rfl, h1, h2⟩ := r
    exact ⟨rfl, vs, ⟨a, rfl, .inl ⟨rfl, fz_sqL h1⟩⟩, h2⟩
  | tup ys =>
    cases h
    unfold RelW at r
    obtain ⟨a, vs, rfl, h1, h2⟩ := r
    exact ⟨rfl, vs, ⟨a, rfl, .inr ⟨rfl, fz_sqT h1⟩⟩, h2⟩
  | ref n =>
    rw [items_ref] at h
    cases e : st[n]? with
    | none => rw [e] at h; cases h
    | some o =>
      cases o with
      | none => rw [e] at h; cases h
      | some o =>
        rw [e] at h
        cases o with
        | lst ys =>
          cases h
          obtain ⟨a, ha, hr⟩ := S.live e
          unfold RelW at r
          obtain ⟨b, rfl, hb⟩ := r
          rw [ha] at hb; cases hb
          obtain ⟨vs, h1, h2⟩ := hr
          exact ⟨rfl, vs, ⟨a, rfl, .inl ⟨rfl, SqL.of h1⟩⟩, h2⟩
        | ins _ _ => cases h
        | dK _ => cases h
  | _ => cases h
theorem po_itm {w : W} {v : V} {f : List W → Q α} (h : Po c m st H E rel (bd (items w) f st) Q') (S : SR c.kt m st H) (r : RelW c.kt m (fz m st H) w v) :
    ∃ xs vs, items w st = .ok xs st ∧ IsSq w c.K H v vs ∧ RelWs c.kt m (fz m st H) xs vs ∧ Po c m st H E rel (f xs st) Q' := by
  unfold bd at h
  cases e : items w st with
  | ok xs s =>
    rw [e] at h
    obtain ⟨rfl, vs, h1, h2⟩ := items_at S r e
    exact ⟨xs, vs, rfl, h1, h2, h⟩
  | ex i xs s =>
    exfalso
    clear h
    cases w with
    | ref n => rw [items_ref] at e; cases q : st[n]? with
      | none => rw [q] at e; cases e
      | some o => cases o with
        | none => rw [q] at e; cases e
        | some o => rw [q] at e; cases o <;> cases e
    | _ => cases e
  | no => rw [e] at h; exact h.elim
theorem po_itmN {w : W} {v : V} {f : List W → Q α} (h : Po c m st H E rel (bd (itemsN w) f st) Q') (S : SR c.kt m st H) (r : RelW c.kt m (fz m st H) w v) :
    ∃ xs vs a, v = .ref a ∧ SqL c.K H a vs ∧ RelWs c.kt m (fz m st H) xs vs ∧ Po c m st H E rel (f xs st) Q' := by
  unfold itemsN at h
  cases e : isTup w with
  | true => rw [e] at h; exact h.elim
  | false =>
    rw [e] at h
    obtain ⟨xs, vs, _, ⟨a, rfl, hq⟩, r2, hp⟩ := po_itm h S r
    rcases hq with ⟨_, hq⟩ | ⟨hq, _⟩
    · exact ⟨xs, vs, a, rfl, hq, r2, hp⟩
    · rw [e] at hq; cases hq
theorem itemsL_at {w : W} {v : V} (S : SR c.kt m st H) (r : RelW c.kt m (fz m st H) w v) {xs : List W} {s : Store} (h : itemsL w st = .ok xs s) :
    s = st ∧ ∃ a vs, v = .ref a ∧ H a = some (.lst vs) ∧ RelWs c.kt m (fz m st H) xs vs := by
  cases w with
  | lst ys =>
    cases h
    unfold RelW at r
    obtain ⟨a, vs, rfl, h1, h2⟩ := r
    exact ⟨rfl, a, vs, rfl, fz_same _ _ _ _ _ h1, h2⟩
  | ref n =>
    rw [itemsL_ref] at h
    cases e : st[n]? with
    | none => rw [e] at h; cases h
    | some o =>
      cases o with
      | none => rw [e] at h; cases h
      | some o =>
        rw [e] at h
        cases o with
        | lst ys =>
          cases h
          obtain ⟨a, ha, hr⟩ := S.live e
          unfold RelW at r
          obtain ⟨b, rfl, hb⟩ := r
          rw [ha] at hb; cases hb
          obtain ⟨vs, h1, h2⟩ := hr
          exact ⟨rfl, a, vs, rfl, h1, h2⟩
        | ins _ _ => cases h
        | dK _ => cases h
  | _ => cases h
theorem po_itmL {w : W} {v : V} {f : List W → Q α} (h : Po c m st H E rel (bd (itemsL w) f st) Q') (S : SR c.kt m st H) (r : RelW c.kt m (fz m st H) w v) :
    ∃ xs a vs, v = .ref a ∧ H a = some (.lst vs) ∧ RelWs c.kt m (fz m st H) xs vs ∧ Po c m st H E rel (f xs st) Q' := by
  unfold bd at h
  cases e : itemsL w st with
  | ok xs s =>
    rw [e] at h
    obtain ⟨rfl, a, vs, h1, h2, h3⟩ := itemsL_at S r e
    exact ⟨xs, a, vs, h1, h2, h3, h⟩
  | ex i xs s =>
    exfalso
    clear h
    cases w with
    | ref n => rw [itemsL_ref] at e; cases q : st[n]? with
      | none => rw [q] at e; cases e
      | some o => cases o with
        | none => rw [q] at e; cases e
        | some o => rw [q] at e; cases o <;> cases e
    | _ => cases e
  | no => rw [e] at h; exact h.elim

/-- a new list -/
theorem po_mkL {μ : Bool} {xs : List W} {vs : List V} {Qv : VK} (h : Po c m st H E (rW c) (mkL μ xs st) Qv) (S : SR c.kt m st H) (r : RelWs c.kt m (fz m st H) xs vs) :
    vs.length ≤ sizeLine ∧ ∀ p, H p = none → Qv (.ref p) (upd H p (.lst vs)) := by
  unfold mkL at h
  by_cases hl : xs.length ≤ sizeLine
  · rw [if_pos hl] at h
    refine ⟨by rw [r.len]; exact hl, fun p hp => ?_⟩
    cases μ with
    | true =>
      obtain ⟨s1, e1⟩ := S.push (p := p) (o := .lst xs) (ho := .lst vs) hp ⟨vs, upd_same, r⟩
      refine h (m ++ [p]) (.ref p) (upd H p (.lst vs)) e1 s1 ?_
      show RelW _ _ _ (.ref st.length) _
      unfold RelW
      exact ⟨p, rfl, by rw [← S.len]; simp⟩
    | false =>
      obtain ⟨s1, e1⟩ := S.laid (p := p) (o := .lst vs) hp
      refine h m (.ref p) (upd H p (.lst vs)) e1 s1 ?_
      show RelW _ _ _ (.lst xs) _
      unfold RelW
      exact ⟨p, vs, rfl, by rw [fz_upd S hp]; exact upd_same, e1.relWs r⟩
  · rw [if_neg hl] at h
    exact h.elim
/-- a new tuple -/
theorem po_mkT {xs : List W} {vs : List V} {Qv : VK} (h : Po c m st H E (rW c) (pu (.tup xs) st) Qv) (S : SR c.kt m st H) (r : RelWs c.kt m (fz m st H) xs vs) : ∀ p (ob : Obj), H p = none → ob.dict = none → Qv (.ref p) (upd H p (.frz ob (.tup vs))) := fun p ob hp hd => by
  obtain ⟨s1, e1⟩ := S.laid (p := p) (o := .frz ob (.tup vs)) hp
  refine h m (.ref p) (upd H p (.frz ob (.tup vs))) e1 s1 ?_
  show RelW _ _ _ (.tup xs) _
  unfold RelW
  exact ⟨p, vs, rfl, .inl ⟨ob, by rw [fz_upd S hp]; exact upd_same, hd⟩, e1.relWs r⟩
theorem po_int {i : Int} {Qv : VK} (h : Po c m st H E (rW c) (pu (.int i) st) Qv) (S : SR c.kt m st H) : Qv (.int i) H := po_pu h S (by show RelW _ _ _ _ _; unfold RelW; rfl)
theorem po_bl {i : Bool} {Qv : VK} (h : Po c m st H E (rW c) (pu (.bl i) st) Qv) (S : SR c.kt m st H) : Qv (.bl i) H := po_pu h S (by show RelW _ _ _ _ _; unfold RelW; rfl)
theorem po_non {Qv : VK} (h : Po c m st H E (rW c) (pu .non st) Qv) (S : SR c.kt m st H) : Qv .non H := po_pu h S (by show RelW _ _ _ _ _; unfold RelW; rfl)

/-! ### data -/
theorem optAll_dp {K : PySem.W.Frag} {f : W → Option PyData} : ∀ {xs : List W} {vs : List V} {ds : List PyData}, RelWs c.kt m (fz m st H) xs vs → (∀ x ∈ xs, ∀ v d, RelW c.kt m (fz m st H) x v → f x = some d → Dp K H v d) → optAll f xs = some ds → DpAll K H vs ds
  | [], vs, ds, r, _, h => by cases h; rw [RelWs.nil_inv r]; exact .nil
  | x :: xs, vs, ds, r, k, h => by
    obtain ⟨v, vr, rfl, r1, r2⟩ := RelWs.cons_inv r
    unfold optAll at h
    split at h
    · rename_i y ys h1 h2
      cases h
      exact .cons (k x List.mem_cons_self v y r1 h1) (optAll_dp r2 (fun z hz => k z (List.mem_cons_of_mem _ hz)) h2)
    · cases h
theorem dat_dp (S : SR c.kt m st H) : ∀ (n : Nat) {w : W} {v : V} {d : PyData}, RelW c.kt m (fz m st H) w v → dat st n w = some d → Dp c.K H v d
  | 0, _, _, _, _, h => by cases h
  | n + 1, w, v, d, r, h => by
    have ih := fun (w : W) (v : V) (d : PyData) => dat_dp S n (w := w) (v := v) (d := d)
    unfold dat at h
    cases w with
    | non => cases h; unfold RelW at r; subst r; exact .non
    | bl b => cases h; unfold RelW at r; subst r; exact .bl b
    | int b => cases h; unfold RelW at r; subst r; exact .int b
    | str b => cases h; unfold RelW at r; subst r; exact .str b
    | tup xs =>
      unfold RelW at r
      obtain ⟨a, vs, rfl, h1, h2⟩ := r
      obtain ⟨ds, e, rfl⟩ := Option.map_eq_some_iff.mp h
      exact .tup (fz_sqT h1) (optAll_dp h2 (fun x _ v d => ih x v d) e)
    | lst xs =>
      unfold RelW at r
      obtain ⟨a, vs, rfl, h1, h2⟩ := r
      obtain ⟨ds, e, rfl⟩ := Option.map_eq_some_iff.mp h
      exact .lst (SqL.of (fz_same _ _ _ _ _ h1)) (optAll_dp h2 (fun x _ v d => ih x v d) e)
    | fro xs =>
      unfold RelW at r
      obtain ⟨a, vs, rfl, h1, h2⟩ := r
      obtain ⟨ds, e, rfl⟩ := Option.map_eq_some_iff.mp h
      exact .lst (fz_sqL h1) (optAll_dp h2 (fun x _ v d => ih x v d) e)
    | ref j =>
      unfold RelW at r
      obtain ⟨a, rfl, ha⟩ := r
      dsimp only at h
      split at h
      · rename_i xs e
        obtain ⟨b, hb, vs, h1, h2⟩ := S.live e
        rw [ha] at hb; cases hb
        obtain ⟨ds, e, rfl⟩ := Option.map_eq_some_iff.mp h
        exact .lst (SqL.of h1) (optAll_dp h2 (fun x _ v d => ih x v d) e)
      · cases h
    | _ => cases h
theorem po_dat {w : W} {v : V} {f : PyData → Q α} (h : Po c m st H E rel (bd (datQ w) f st) Q') (S : SR c.kt m st H) (r : RelW c.kt m (fz m st H) w v) :
    ∃ d, Dp c.K H v d ∧ SeqAt.shaped d = true ∧ Po c m st H E rel (f d st) Q' := by
  unfold bd datQ at h
  cases e : dat st 8 w with
  | none => rw [e] at h; exact h.elim
  | some d =>
    rw [e] at h
    by_cases hs : SeqAt.shaped d = true
    · dsimp only at h
      rw [if_pos hs] at h
      exact ⟨d, dat_dp S 8 r e, hs, h⟩
    · dsimp only at h
      rw [if_neg hs] at h
      exact h.elim
end

/-! ### tuples that are known -/
section
variable {X : Cx} {es : List Expr} {t : TA} {pos : Pos}
def tTupF (t : TA) : TE := fun σ H Q => t σ H fun xs H1 => xs.length ≤ sizeLine ∧ ∀ p (ob : Obj), H1 p = none → ob.dict = none → Q (.ref p) (upd H1 p (.frz ob (.tup xs)))
theorem pe_tupF {x1 : Nat} (h : PA X es t) : PE X (.Tuple es x1 pos) (tTupF t) := by
  refine ⟨fun pins s σ H Q I hq => ?_⟩
  refine wpAny_Tuple_spliced (thn (h.run pos pins s σ H _ I hq) fun us s1 ⟨xs, H1, I1, r, z, q⟩ => ⟨by rw [← r.length]; exact z, ?_⟩)
  have hf : H1 s1.heap.objs.size = none := I1.hok.fresh (Nat.le_refl _)
  refine ⟨.ref s1.heap.objs.size, upd H1 s1.heap.objs.size (.frz { cls := .type "tuple", data := .seq us.toArray } (.tup xs)), I1.laid (t' := s1.toks) (fun b u e => Heap.get?_push_of_some _ e) (Nat.le_refl _) ?_, rfl, q _ _ hf rfl⟩
  exact ⟨Heap.get?_push_size _ rfl, z, us, r, ⟨_, Heap.get?_push_size _ rfl, rfl, _, rfl⟩⟩
theorem call_tupleF : CallR X (.type "tuple") (fun xs H Q => ∃ p ys, xs = [.ref p] ∧ ((SqL X.K H p ys ∧ ∀ l (ob : Obj), H l = none → ob.dict = none → Q (.ref l) (upd H l (.frz ob (.tup ys)))) ∨ (SqT X.K H p ys ∧ Q (.ref p) H))) := by
  intro pins s σ H xs us Q I r h
  obtain ⟨p, ys, rfl, h⟩ := h
  obtain ⟨u, rfl, rx⟩ := vals1 r
  cases rx
  rcases h with ⟨hq, q⟩ | ⟨hq, q⟩
  · obtain ⟨its, r', pl, hz⟩ := I.list hq
    have hlen := r'.length
    refine call_tuple_list pl.isList (fun h' kp => ?_) (by simp only [List.size_toArray] <;> omega)
    have I1 : Inv X pins σ H { s with heap := h' } := I.kept (t' := s.toks) kp
    have I2 : Inv X pins σ (upd H h'.objs.size (.frz { cls := .type "tuple", data := .seq its.toArray } (.tup ys))) { s with heap := h'.push { cls := .type "tuple", data := .seq its.toArray } } :=
      I1.laid (t' := s.toks) (fun b o e => Heap.get?_push_of_some _ e) (Nat.le_refl _) ⟨Heap.get?_push_size _ rfl, hz, its, r', IsTup.new _ _⟩
    exact ⟨.ref h'.objs.size, _, I2, rfl, q _ _ (I1.hok.fresh (Nat.le_refl _)) rfl⟩
  · obtain ⟨its, r', pl, hz⟩ := I.tuple hq
    exact call_tuple_same pl ⟨.ref p, H, I, rfl, q⟩
def rSlF (K : PySem.W.Frag) : V → Option Int → Option Int → Hp → VK → Prop := fun x lo hi H Q => ∃ a xs, x = .ref a ∧ SqT K H a xs ∧
  (HT.sIx xs.length 0 lo = 0 ∧ HT.sIx xs.length xs.length hi = xs.length → Q (.ref a) H) ∧ (¬ (HT.sIx xs.length 0 lo = 0 ∧ HT.sIx xs.length xs.length hi = xs.length) → ∀ p (ob : Obj), H p = none → ob.dict = none → Q (.ref p) (upd H p (.frz ob (.tup (cutV xs lo hi)))))
theorem sl_tupF : SlR X (rSlF X.K) := by
  intro pins s σ H x v vl vu lo hi sl Q I rx hs pl pu h
  obtain ⟨a, xs, rfl, hx, q1, q2⟩ := h
  by_cases hw : HT.sIx xs.length 0 lo = 0 ∧ HT.sIx xs.length xs.length hi = xs.length
  · exact sl_tupA pins s σ H _ v vl vu lo hi sl Q I rx hs pl pu ⟨a, xs, rfl, hx, q1, fun z => absurd hw z⟩
  · cases rx
    obtain ⟨its, r, ht, hz⟩ := I.tuple hx
    have hlen : its.toArray.size = xs.length := by rw [List.size_toArray]; exact r.length.symm
    refine ⟨"tuple", _, PyProof.Rows.slot_tuple_getitem.lookup, ht.typeIs, ?_⟩
    refine HT.getItem_tuple_cut ht hs pl pu (by rw [hlen]; exact hw) ?_ (by rw [hlen]; exact hz)
    rw [hlen]
    refine ⟨.ref s.heap.objs.size, _, I.laid (t' := s.toks) (o := .frz _ (.tup (cutV xs lo hi))) (fun b ob q => Heap.get?_push_of_some _ q) (Nat.le_refl _) ⟨Heap.get?_push_size _ rfl, ?_⟩, rfl, q2 hw _ _ (I.hok.fresh (Nat.le_refl _)) rfl⟩
    exact ⟨Nat.le_trans (cutV_length xs lo hi) hz, _, (r.drop (HT.sIx xs.length 0 lo)).take (HT.sIx xs.length xs.length hi - HT.sIx xs.length 0 lo), IsTup.new _ _⟩
end

/-! ### operators -/
section
variable {T : Tab} (c : Cxt T) (X : Cx)
def OpS (f : Value → Value → Sem Value) (g : W → W → Q W) : Prop :=
  OpR X f (fun x y H Q => ∃ m st wx wy E, SR c.kt m st H ∧ RelW c.kt m (fz m st H) wx x ∧ RelW c.kt m (fz m st H) wy y ∧ Po c m st H E (rW c) (g wx wy st) Q)
variable {c X}
theorem ops_add (μ : Bool) : OpS c X (binaryOp .Add) (opB .add μ) := by
  intro pins s σ H x y v u Q I rx ry h
  obtain ⟨m, st, wx, wy, E, S, Rx, Ry, hp⟩ := h
  have gen : Po c m st H E (rW c) (bd (itemsL wx) (fun xs => bd (itemsL wy) fun ys => mkL μ (xs ++ ys)) st) Q → wpAny (model X.prog X.w) X.A (binaryOp .Add v u) (EP X pins σ Q) X.xe s := by
    intro hp
    obtain ⟨xs, a, vs, rfl, ha, r1, hp⟩ := po_itmL hp S Rx
    obtain ⟨ys, b, us, rfl, hb, r2, hp⟩ := po_itmL hp S Ry
    obtain ⟨hl, q⟩ := po_mkL hp S (r1.append r2)
    exact op_cat pins s σ H _ _ v u Q I rx ry ⟨a, b, vs, us, rfl, rfl, ha, hb, by rw [List.length_append] at hl; exact hl, q⟩
  cases wx with
  | int i =>
    cases wy with
    | int j =>
      unfold RelW at Rx Ry
      subst Rx Ry
      exact op_add pins s σ H _ _ v u Q I rx ry ⟨i, j, rfl, rfl, po_int hp S⟩
    | _ => exact gen hp
  | _ => exact gen hp
theorem ops_sub (μ : Bool) : OpS c X (binaryOp .Sub) (opB .sub μ) := by
  intro pins s σ H x y v u Q I rx ry h
  obtain ⟨m, st, wx, wy, E, S, Rx, Ry, hp⟩ := h
  cases wx with
  | int i =>
    cases wy with
    | int j =>
      unfold RelW at Rx Ry
      subst Rx Ry
      exact op_sub pins s σ H _ _ v u Q I rx ry ⟨i, j, rfl, rfl, po_int hp S⟩
    | _ => exact hp.elim
  | _ => exact hp.elim
theorem ops_mod (μ : Bool) : OpS c X (binaryOp .Mod) (opB .mod μ) := by
  intro pins s σ H x y v u Q I rx ry h
  obtain ⟨m, st, wx, wy, E, S, Rx, Ry, hp⟩ := h
  cases wx with
  | int i =>
    cases wy with
    | int j =>
      unfold RelW at Rx Ry
      subst Rx Ry
      dsimp only [opB] at hp
      by_cases hj : j ≠ 0
      · rw [if_pos hj] at hp
        exact op_modN pins s σ H _ _ v u Q I rx ry ⟨i, j, rfl, rfl, hj, po_int hp S⟩
      · rw [if_neg hj] at hp; exact hp.elim
    | _ => exact hp.elim
  | _ => exact hp.elim
theorem ops_fdiv (μ : Bool) : OpS c X (binaryOp .FloorDiv) (opB .fdiv μ) := by
  intro pins s σ H x y v u Q I rx ry h
  obtain ⟨m, st, wx, wy, E, S, Rx, Ry, hp⟩ := h
  cases wx with
  | int i =>
    cases wy with
    | int j =>
      unfold RelW at Rx Ry
      subst Rx Ry
      dsimp only [opB] at hp
      by_cases hj : j ≠ 0 ∧ j.natAbs < 1073741824
      · rw [if_pos hj] at hp
        exact op_fdivN pins s σ H _ _ v u Q I rx ry ⟨i, j, rfl, rfl, hj, po_int hp S⟩
      · rw [if_neg hj] at hp; exact hp.elim
    | _ => exact hp.elim
  | _ => exact hp.elim
theorem ops_pow (μ : Bool) : OpS c X (binaryOp .Pow) (opB .pow μ) := by
  intro pins s σ H x y v u Q I rx ry h
  obtain ⟨m, st, wx, wy, E, S, Rx, Ry, hp⟩ := h
  cases wx with
  | int i =>
    cases wy with
    | int j =>
      unfold RelW at Rx Ry
      subst Rx Ry
      dsimp only [opB] at hp
      by_cases hj : 0 ≤ j ∧ j ≤ 1000000 ∧ i.natAbs < 2 ^ 64
      · rw [if_pos hj] at hp
        exact op_pow pins s σ H _ _ v u Q I rx ry ⟨i, j, rfl, rfl, hj, po_int hp S⟩
      · rw [if_neg hj] at hp; exact hp.elim
    | _ => exact hp.elim
  | _ => exact hp.elim
theorem ops_mul (μ : Bool) : OpS c X (binaryOp .Mult) (opB .mul μ) := by
  intro pins s σ H x y v u Q I rx ry h
  obtain ⟨m, st, wx, wy, E, S, Rx, Ry, hp⟩ := h
  have gen : ∀ j, wy = .int j → Po c m st H E (rW c) (bd (itemsL wx) (fun xs => if -100000 < j ∧ j < 100000 then mkL μ (List.replicate j.toNat xs).flatten else no) st) Q → wpAny (model X.prog X.w) X.A (binaryOp .Mult v u) (EP X pins σ Q) X.xe s := by
    intro j e hq
    subst e
    unfold RelW at Ry
    subst Ry
    obtain ⟨xs, a, vs, rfl, ha, r1, hq⟩ := po_itmL hq S Rx
    by_cases hj : -100000 < j ∧ j < 100000
    · rw [if_pos hj] at hq
      have rr : ∀ n : Nat, RelWs c.kt m (fz m st H) (List.replicate n xs).flatten (List.replicate n vs).flatten := fun n => by
        induction n with
        | zero => exact RelWs.nil
        | succ n ih => rw [List.replicate_succ, List.replicate_succ, List.flatten_cons, List.flatten_cons]; exact r1.append ih
      obtain ⟨hl, q⟩ := po_mkL hq S (rr j.toNat)
      refine op_rep pins s σ H _ _ v u Q I rx ry ⟨a, j, vs, rfl, rfl, ha, by omega, by omega, ?_, q⟩
      have e : ((List.replicate j.toNat vs).flatten).length = j.toNat * vs.length := by simp [List.length_flatten]
      rw [e] at hl
      rw [Nat.mul_comm]; exact hl
    · rw [if_neg hj] at hq; exact hq.elim
  cases wx with
  | int i =>
    cases wy with
    | int j =>
      unfold RelW at Rx Ry
      subst Rx Ry
      dsimp only [opB] at hp
      by_cases hj : i.natAbs.log2 + j.natAbs.log2 < 100000
      · rw [if_pos hj] at hp
        exact op_mulW pins s σ H _ _ v u Q I rx ry ⟨i, j, rfl, rfl, by unfold CMulW; omega, po_int hp S⟩
      · rw [if_neg hj] at hp
        by_cases hk : (-(2 ^ 64) < i ∧ i < 2 ^ 64) ∨ (-(2 ^ 64) < j ∧ j < 2 ^ 64)
        · rw [if_pos hk] at hp
          exact op_mul pins s σ H _ _ v u Q I rx ry ⟨i, j, rfl, rfl, hk, po_int hp S⟩
        · rw [if_neg hk] at hp; exact hp.elim
    | _ => exact hp.elim
  | _ =>
    cases wy with
    | int j => exact gen j rfl hp
    | _ => exact hp.elim
theorem ops_eq (hK : X.K = c.K) (hu : X.A.units + 64 < cLine) : OpS c X (compareOp .Eq) (opC .eq) := by
  intro pins s σ H x y v u Q I rx ry h
  obtain ⟨m, st, wx, wy, E, S, Rx, Ry, hp⟩ := h
  obtain ⟨d, h1, h2, hp⟩ := po_dat (f := fun d => bd (datQ wy) fun e => pu (W.bl (PyData.eqv d e))) hp S Rx
  obtain ⟨e, h3, h4, hp⟩ := po_dat hp S Ry
  exact op_eqD hu pins s σ H _ _ v u Q I rx ry ⟨d, e, by rw [hK]; exact h1, by rw [hK]; exact h3, h2, h4, po_bl hp S⟩
theorem ops_ne (hK : X.K = c.K) (hu : X.A.units + 64 < cLine) : OpS c X (compareOp .NotEq) (opC .ne) := by
  intro pins s σ H x y v u Q I rx ry h
  obtain ⟨m, st, wx, wy, E, S, Rx, Ry, hp⟩ := h
  obtain ⟨d, h1, h2, hp⟩ := po_dat (f := fun d => bd (datQ wy) fun e => pu (W.bl (!PyData.eqv d e))) hp S Rx
  obtain ⟨e, h3, h4, hp⟩ := po_dat hp S Ry
  exact op_neD hu pins s σ H _ _ v u Q I rx ry ⟨d, e, by rw [hK]; exact h1, by rw [hK]; exact h3, h2, h4, po_bl hp S⟩
theorem ops_lt : OpS c X (compareOp .Lt) (opC .lt) := by
  intro pins s σ H x y v u Q I rx ry h
  obtain ⟨m, st, wx, wy, E, S, Rx, Ry, hp⟩ := h
  cases wx with
  | int i =>
    cases wy with
    | int j =>
      unfold RelW at Rx Ry
      subst Rx Ry
      exact op_lt pins s σ H _ _ v u Q I rx ry ⟨i, j, rfl, rfl, po_bl hp S⟩
    | _ => exact hp.elim
  | _ => exact hp.elim
theorem ops_le : OpS c X (compareOp .LtE) (opC .le) := by
  intro pins s σ H x y v u Q I rx ry h
  obtain ⟨m, st, wx, wy, E, S, Rx, Ry, hp⟩ := h
  cases wx with
  | int i =>
    cases wy with
    | int j =>
      unfold RelW at Rx Ry
      subst Rx Ry
      exact op_le pins s σ H _ _ v u Q I rx ry ⟨i, j, rfl, rfl, po_bl hp S⟩
    | _ => exact hp.elim
  | _ => exact hp.elim
theorem ops_gt : OpS c X (compareOp .Gt) (opC .gt) := by
  intro pins s σ H x y v u Q I rx ry h
  obtain ⟨m, st, wx, wy, E, S, Rx, Ry, hp⟩ := h
  cases wx with
  | int i =>
    cases wy with
    | int j =>
      unfold RelW at Rx Ry
      subst Rx Ry
      exact op_gt pins s σ H _ _ v u Q I rx ry ⟨i, j, rfl, rfl, po_bl hp S⟩
    | _ => exact hp.elim
  | _ => exact hp.elim
theorem ops_ge : OpS c X (compareOp .GtE) (opC .ge) := by
  intro pins s σ H x y v u Q I rx ry h
  obtain ⟨m, st, wx, wy, E, S, Rx, Ry, hp⟩ := h
  cases wx with
  | int i =>
    cases wy with
    | int j =>
      unfold RelW at Rx Ry
      subst Rx Ry
      exact op_ge pins s σ H _ _ v u Q I rx ry ⟨i, j, rfl, rfl, po_bl hp S⟩
    | _ => exact hp.elim
  | _ => exact hp.elim
theorem ops_in (hK : X.K = c.K) (hu : X.A.units + 65 < cLine) : OpS c X (compareOp .In) (opC .isin) := by
  intro pins s σ H x y v u Q I rx ry h
  obtain ⟨m, st, wx, wy, E, S, Rx, Ry, hp⟩ := h
  obtain ⟨d, h1, h2, hp⟩ := po_dat (f := fun d => bd (datQ wy) fun e => match e with
    | .list ds => pu (W.bl (ds.any fun z => PyData.eqv z d))
    | .tuple ds => pu (W.bl (ds.any fun z => PyData.eqv z d))
    | _ => no) hp S Rx
  obtain ⟨e, h3, h4, hp⟩ := po_dat hp S Ry
  rw [← hK] at h1 h3
  cases e with
  | list ds => exact op_inD hu pins s σ H _ _ v u Q I rx ry ⟨d, ds, h1, h3, h2, h4, po_bl hp S⟩
  | tuple ds =>
    obtain ⟨as, r1⟩ := Dp.reads I d x v h1 rx
    obtain ⟨bs, r2⟩ := Dp.reads I (.tuple ds) y u h3 ry
    exact SeqAt.in_tuple_reads r2 r1 (SeqAt.canLay_of_shaped h4) (SeqAt.canLay_of_shaped h2) (room_in_shaped h2 hu) ⟨.bl _, H, I, rfl, po_bl hp S⟩
  | _ => exact hp.elim
theorem ops_notin (hK : X.K = c.K) (hu : X.A.units + 65 < cLine) : OpS c X (compareOp .NotIn) (opC .notin) := by
  intro pins s σ H x y v u Q I rx ry h
  obtain ⟨m, st, wx, wy, E, S, Rx, Ry, hp⟩ := h
  obtain ⟨d, h1, h2, hp⟩ := po_dat (f := fun d => bd (datQ wy) fun e => match e with
    | .list ds => pu (W.bl (!(ds.any fun z => PyData.eqv z d)))
    | .tuple ds => pu (W.bl (!(ds.any fun z => PyData.eqv z d)))
    | _ => no) hp S Rx
  obtain ⟨e, h3, h4, hp⟩ := po_dat hp S Ry
  rw [← hK] at h1 h3
  cases e with
  | list ds => exact op_notInD hu pins s σ H _ _ v u Q I rx ry ⟨d, ds, h1, h3, h2, h4, po_bl hp S⟩
  | tuple ds =>
    obtain ⟨as, r1⟩ := Dp.reads I d x v h1 rx
    obtain ⟨bs, r2⟩ := Dp.reads I (.tuple ds) y u h3 ry
    exact SeqAt.notIn_tuple_reads r2 r1 (SeqAt.canLay_of_shaped h4) (SeqAt.canLay_of_shaped h2) (room_in_shaped h2 hu) ⟨.bl _, H, I, rfl, po_bl hp S⟩
  | _ => exact hp.elim
/-- any binary operator -/
theorem ops_bin (o : Bop) (μ : Bool) : OpS c X (binaryOp (bopOf o)) (opB o μ) := by
  cases o with
  | add => exact ops_add μ
  | sub => exact ops_sub μ
  | mul => exact ops_mul μ
  | mod => exact ops_mod μ
  | fdiv => exact ops_fdiv μ
  | pow => exact ops_pow μ
/-- any comparison -/
theorem ops_cmp (hK : X.K = c.K) (hu : X.A.units + 65 < cLine) (o : Cop) : OpS c X (compareOp (copOf o)) (opC o) := by
  cases o with
  | eq => exact ops_eq hK (by omega)
  | ne => exact ops_ne hK (by omega)
  | lt => exact ops_lt
  | le => exact ops_le
  | gt => exact ops_gt
  | ge => exact ops_ge
  | isin => exact ops_in hK hu
  | notin => exact ops_notin hK hu
/-- a subscript -/
theorem ixs (hK : X.K = c.K) : IxR X (fun x y H Q => ∃ m st wx wy E, SR c.kt m st H ∧ RelW c.kt m (fz m st H) wx x ∧ RelW c.kt m (fz m st H) wy y ∧ Po c m st H E (rW c) (idxW wx wy st) Q) := by
  intro value slice pins s σ H x y v u Q I rx ry h hs
  obtain ⟨m, st, wx, wy, E, S, Rx, Ry, hp⟩ := h
  cases wy with
  | int i =>
    unfold RelW at Ry
    subst Ry
    obtain ⟨xs, vs, _, ⟨a, rfl, hq⟩, r, hp⟩ := po_itm (f := fun xs => match L2.ixN xs.length i with
      | some j => (match xs[j]? with
        | some w => pu w
        | none => no)
      | none => no) hp S Rx
    cases e : L2.ixN xs.length i with
    | none => rw [e] at hp; exact hp.elim
    | some j =>
      rw [e] at hp
      dsimp only at hp
      cases e2 : xs[j]? with
      | none => rw [e2] at hp; exact hp.elim
      | some w =>
        rw [e2] at hp
        obtain ⟨z, hz, rz⟩ := r.get e2
        have q := po_pu hp S rz
        have hat : L2.atI vs i = some z := by unfold L2.atI; rw [r.len, e]; exact hz
        rcases hq with ⟨_, hq⟩ | ⟨_, hq⟩
        · exact ix_list value slice pins s σ H _ _ v u Q I rx ry ⟨a, vs, i, z, rfl, rfl, by rw [hK]; exact hq, hat, q⟩ hs
        · exact ix_tup value slice pins s σ H _ _ v u Q I rx ry ⟨a, vs, i, z, rfl, rfl, by rw [hK]; exact hq, hat, q⟩ hs
  | _ => exact hp.elim
/-- a slice -/
theorem cutV_rel {m : List Addr} {M : Hp} {xs : List W} {vs : List V} (r : RelWs c.kt m M xs vs) (lo hi : Option Int) : RelWs c.kt m M (sliceW xs lo hi) (cutV vs lo hi) := by
  unfold sliceW cutV
  rw [r.len]
  exact (r.drop _).take _
theorem cut_all {xs : List V} {lo hi : Option Int} (h : HT.sIx xs.length 0 lo = 0 ∧ HT.sIx xs.length xs.length hi = xs.length) : cutV xs lo hi = xs := by
  unfold cutV
  rw [h.1, h.2]
  simp
theorem sls (hK : X.K = c.K) (μ : Bool) : SlR X (fun x lo hi H Q => ∃ m st wx E, SR c.kt m st H ∧ RelW c.kt m (fz m st H) wx x ∧ Po c m st H E (rW c) (slcW μ wx lo hi st) Q) := by
  intro pins s σ H x v vl vu lo hi sl Q I rx hs pl pu' h
  obtain ⟨m, st, wx, E, S, Rx, hp⟩ := h
  have gen : isTup wx = false → Po c m st H E (rW c) (bd (items wx) (fun xs => mkL μ (sliceW xs lo hi)) st) Q → rSlL X.K x lo hi H Q := by
    intro hne hp
    obtain ⟨xs, vs, hx, ⟨a, rfl, hq⟩, r, hp⟩ := po_itm hp S Rx
    obtain ⟨_, q⟩ := po_mkL hp S (cutV_rel r lo hi)
    rcases hq with ⟨_, hq⟩ | ⟨hq, _⟩
    · exact ⟨a, vs, rfl, by rw [hK]; exact hq, q⟩
    · rw [hne] at hq; cases hq
  cases wx with
  | tup xs =>
    unfold RelW at Rx
    obtain ⟨a, vs, rfl, h1, h2⟩ := Rx
    dsimp only [slcW] at hp
    refine sl_tupF pins s σ H _ v vl vu lo hi sl Q I rx hs pl pu' ⟨a, vs, rfl, by rw [hK]; exact fz_sqT h1, fun hw => ?_, fun hw => ?_⟩
    · rw [h2.len] at hw
      rw [if_neg (fun z => z hw)] at hp
      exact po_pu hp S (by show RelW _ _ _ (.tup xs) _; unfold RelW; exact ⟨a, vs, rfl, h1, h2⟩)
    · rw [h2.len] at hw
      rw [if_pos hw] at hp
      exact po_mkT hp S (cutV_rel h2 lo hi)
  | lst ys => exact sl_list pins s σ H _ v vl vu lo hi sl Q I rx hs pl pu' (gen rfl hp)
  | fro ys => exact sl_list pins s σ H _ v vl vu lo hi sl Q I rx hs pl pu' (gen rfl hp)
  | ref ys => exact sl_list pins s σ H _ v vl vu lo hi sl Q I rx hs pl pu' (gen rfl hp)
  | _ => exact hp.elim
end
end Mi
set_option maxHeartbeats 4000000
set_option autoImplicit false
namespace Mi
open PySem PySem.Spec PyProof.Rows L2

/-! ## a tuple of ints walked by a built-in -/
section
variable {prog : Program} {w : World} {A : Around} {E : Value → Shared → Prop} {s : Shared} {l : Addr} {xs : Array (Int × Tok)}
theorem iter_intTup {Q : Value → Shared → Prop} (hl : s.heap.IsTuple l (intItems xs))
    (h : ∀ s₂ : Shared, s₂ = { s with heap := s.heap.push { cls := .type "tuple_iterator", data := .fields #[.ref l, .int 0 0] } } →
      (s₂.heap.IsTupleIter s.heap.objs.size l 0 ∧ s₂.heap.IsTuple l (intItems xs)) → (∀ b ∈ [s.heap.objs.size, l], b < s₂.heap.objs.size) → l ≠ s.heap.objs.size → Q (.ref s.heap.objs.size) s₂) :
    wpAny (model prog w) A (pyIter (.ref l)) Q E s := by
  have hlt : l < s.heap.objs.size := by obtain ⟨_, e, _⟩ := hl; exact Heap.lt_size e
  refine wpAny_pyIter_tuple hl (h _ rfl ⟨⟨_, Heap.get?_push_size _ rfl, rfl, rfl⟩, hl.at fun o e => Heap.get?_push_of_some _ e⟩ (fun b hb => ?_) (Nat.ne_of_lt hlt))
  show b < (s.heap.push _).objs.size
  rw [Heap.size_push]
  rcases List.mem_cons.mp hb with rfl | hb
  · exact Nat.lt_succ_self _
  · rcases List.mem_cons.mp hb with rfl | hb
    · exact Nat.lt_succ_of_lt hlt
    · cases hb
theorem old_keptT {h' : Heap} (hk : ∀ b o, b ∉ [s.heap.objs.size] → (s.heap.push { cls := .type "tuple_iterator", data := .fields #[.ref l, .int 0 0] }).get? b = some o → h'.get? b = some o) :
    ∀ b o, s.heap.get? b = some o → h'.get? b = some o := fun b o e => by
  refine hk b o (fun hm => ?_) (Heap.get?_push_of_some _ e)
  rcases List.mem_cons.mp hm with e1 | hm
  · exact absurd (e1 ▸ Heap.lt_size e) (Nat.lt_irrefl _)
  · cases hm
theorem max_intTup {Q : Value → Shared → Prop} (hh : A.handled = none) (hl : s.heap.IsTuple l (intItems xs)) (hne : 0 < xs.size)
    (h : ∀ v h' tk, (intItems xs)[argBest (fun i j => decide (numAt xs i > numAt xs j)) (xs.size - 1)]? = some v → (∀ b o, s.heap.get? b = some o → h'.get? b = some o) → Q v { s with heap := h', toks := tk }) :
    wpAny (model prog w) A (call (.builtin "max") [.ref l]) Q E s := by
  refine call_max_walk (iter_intTup hl fun s₂ e st hfp hlI => ?_)
  subst e
  refine ⟨_, _, _, _, _, _, _, rfl, Walks.tuple (A := A.in1) hh _ l hlI (intItems xs), st, hfp, by simpa [intItems] using hne, CmpOf.ints_gt (numAt xs) (fun _ _ => intItems_at), fun v h' tk hP hk => ?_⟩
  exact h v h' tk (by simpa [intItems] using hP) (old_keptT hk)
theorem min_intTup {Q : Value → Shared → Prop} (hh : A.handled = none) (hl : s.heap.IsTuple l (intItems xs)) (hne : 0 < xs.size)
    (h : ∀ v h' tk, (intItems xs)[argBest (fun i j => decide (numAt xs i < numAt xs j)) (xs.size - 1)]? = some v → (∀ b o, s.heap.get? b = some o → h'.get? b = some o) → Q v { s with heap := h', toks := tk }) :
    wpAny (model prog w) A (call (.builtin "min") [.ref l]) Q E s := by
  refine call_min_walk (iter_intTup hl fun s₂ e st hfp hlI => ?_)
  subst e
  refine ⟨_, _, _, _, _, _, _, rfl, Walks.tuple (A := A.in1) hh _ l hlI (intItems xs), st, hfp, by simpa [intItems] using hne, CmpOf.ints_lt (numAt xs) (fun _ _ => intItems_at), fun v h' tk hP hk => ?_⟩
  exact h v h' tk (by simpa [intItems] using hP) (old_keptT hk)
theorem sum_intTupG {Q : Value → Shared → Prop} (hh : A.handled = none) (hl : s.heap.IsTuple l (intItems xs))
    (h : ∀ h' tk t', (∀ b o, s.heap.get? b = some o → h'.get? b = some o) → Q (.int (preSum (numAt xs) xs.size) t') { s with heap := h', toks := tk }) :
    wpAny (model prog w) A (call (.builtin "sum") [.ref l]) Q E s := by
  refine call_sum_walkG (iter_intTup hl fun s₂ e st hfp hlI => ?_)
  subst e
  refine ⟨_, _, _, _, _, _, numAt xs, rfl, Walks.tuple (A := A.in1) hh _ l hlI (intItems xs), st, hfp, (fun _ _ => intItems_at), fun h' tk t' hk => ?_⟩
  have := h h' tk t' (old_keptT hk)
  simpa [intItems] using this
end
section
variable {prog : Program} {w : World} {A : Around} {E : Value → Shared → Prop} {s : Shared} {l : Addr} {its : List Value} {ns : List Int} {Q : Value → Shared → Prop}
theorem sum_rawT (hh : A.handled = none) (hl : s.heap.IsTuple l its.toArray) (hi : IntsAre its ns)
    (h : ∀ h' tk t', (∀ b o, s.heap.get? b = some o → h'.get? b = some o) → Q (.int ns.sum t') { s with heap := h', toks := tk }) : wpAny (model prog w) A (call (.builtin "sum") [.ref l]) Q E s := by
  obtain ⟨xs, e⟩ := hi.allInts.items
  have hn : numsOf (intItems xs).toList = ns := by rw [← e]; exact hi.numsOf
  rw [nums_intItems] at hn
  rw [e] at hl
  refine sum_intTupG hh hl fun h' tk t' hk => ?_
  have := h h' tk t' hk
  rw [preSum_eq, List.take_of_length_le (by simp), hn]; exact this
theorem max_rawT (hh : A.handled = none) (hl : s.heap.IsTuple l its.toArray) (hi : IntsAre its ns) (hne : 0 < ns.length)
    (h : ∀ h' tk M t', (∀ b o, s.heap.get? b = some o → h'.get? b = some o) → M ∈ ns → (∀ a, a ∈ ns → a ≤ M) → Q (.int M t') { s with heap := h', toks := tk }) : wpAny (model prog w) A (call (.builtin "max") [.ref l]) Q E s := by
  obtain ⟨xs, e⟩ := hi.allInts.items
  have hn : numsOf (intItems xs).toList = ns := by rw [← e]; exact hi.numsOf
  rw [nums_intItems] at hn
  subst hn
  rw [e] at hl
  have hsz : 0 < xs.size := by simpa using hne
  refine max_intTup hh hl hsz fun v h' tk hv hk => ?_
  obtain ⟨t, rfl⟩ := intItems_at hv
  obtain ⟨h1, h2⟩ := argBest_gt (numAt xs) (xs.size - 1)
  refine h h' tk _ t hk ?_ fun a ha => ?_
  · rw [numAt_eq]; exact PySem.getD_mem (by rw [List.length_map, Array.length_toList]; omega)
  · obtain ⟨j, hj, rfl⟩ := mem_getD ha
    rw [List.length_map, Array.length_toList] at hj
    rw [← numAt_eq]; exact h2 j (by omega)
theorem min_rawT (hh : A.handled = none) (hl : s.heap.IsTuple l its.toArray) (hi : IntsAre its ns) (hne : 0 < ns.length)
    (h : ∀ h' tk M t', (∀ b o, s.heap.get? b = some o → h'.get? b = some o) → M ∈ ns → (∀ a, a ∈ ns → M ≤ a) → Q (.int M t') { s with heap := h', toks := tk }) : wpAny (model prog w) A (call (.builtin "min") [.ref l]) Q E s := by
  obtain ⟨xs, e⟩ := hi.allInts.items
  have hn : numsOf (intItems xs).toList = ns := by rw [← e]; exact hi.numsOf
  rw [nums_intItems] at hn
  subst hn
  rw [e] at hl
  have hsz : 0 < xs.size := by simpa using hne
  refine min_intTup hh hl hsz fun v h' tk hv hk => ?_
  obtain ⟨t, rfl⟩ := intItems_at hv
  obtain ⟨h1, h2⟩ := argBest_lt (numAt xs) (xs.size - 1)
  refine h h' tk _ t hk ?_ fun a ha => ?_
  · rw [numAt_eq]; exact PySem.getD_mem (by rw [List.length_map, Array.length_toList]; omega)
  · obtain ⟨j, hj, rfl⟩ := mem_getD ha
    rw [List.length_map, Array.length_toList] at hj
    rw [← numAt_eq]; exact h2 j (by omega)
end

/-! ## built-in functions -/
theorem most_le : ∀ (xs : List Int) (a : Int), a ≤ most xs a ∧ (∀ y ∈ xs, y ≤ most xs a) ∧ (most xs a = a ∨ most xs a ∈ xs)
  | [], a => ⟨Int.le_refl _, by simp, .inl rfl⟩
  | x :: xs, a => by
    by_cases hx : a < x
    · have e : most (x :: xs) a = most xs x := by show most xs (if a < x then x else a) = _; rw [if_pos hx]
      obtain ⟨h1, h2, h3⟩ := most_le xs x
      rw [e]
      refine ⟨by omega, fun y hy => ?_, ?_⟩
      · rcases List.mem_cons.mp hy with rfl | hy
        · exact h1
        · exact h2 y hy
      · rcases h3 with h3 | h3
        · rw [h3]; exact .inr List.mem_cons_self
        · exact .inr (List.mem_cons_of_mem _ h3)
    · have e : most (x :: xs) a = most xs a := by show most xs (if a < x then x else a) = _; rw [if_neg hx]
      obtain ⟨h1, h2, h3⟩ := most_le xs a
      rw [e]
      refine ⟨h1, fun y hy => ?_, ?_⟩
      · rcases List.mem_cons.mp hy with rfl | hy
        · omega
        · exact h2 y hy
      · rcases h3 with h3 | h3
        · exact .inl h3
        · exact .inr (List.mem_cons_of_mem _ h3)
theorem least_le : ∀ (xs : List Int) (a : Int), least xs a ≤ a ∧ (∀ y ∈ xs, least xs a ≤ y) ∧ (least xs a = a ∨ least xs a ∈ xs)
  | [], a => ⟨Int.le_refl _, by simp, .inl rfl⟩
  | x :: xs, a => by
    by_cases hx : x < a
    · have e : least (x :: xs) a = least xs x := by show least xs (if x < a then x else a) = _; rw [if_pos hx]
      obtain ⟨h1, h2, h3⟩ := least_le xs x
      rw [e]
      refine ⟨by omega, fun y hy => ?_, ?_⟩
      · rcases List.mem_cons.mp hy with rfl | hy
        · exact h1
        · exact h2 y hy
      · rcases h3 with h3 | h3
        · rw [h3]; exact .inr List.mem_cons_self
        · exact .inr (List.mem_cons_of_mem _ h3)
    · have e : least (x :: xs) a = least xs a := by show least xs (if x < a then x else a) = _; rw [if_neg hx]
      obtain ⟨h1, h2, h3⟩ := least_le xs a
      rw [e]
      refine ⟨h1, fun y hy => ?_, ?_⟩
      · rcases List.mem_cons.mp hy with rfl | hy
        · omega
        · exact h2 y hy
      · rcases h3 with h3 | h3
        · exact .inl h3
        · exact .inr (List.mem_cons_of_mem _ h3)
theorem most_one {i : Int} {is : List Int} {M : Int} (h1 : M ∈ i :: is) (h2 : ∀ y, y ∈ i :: is → y ≤ M) : M = most is i := by
  obtain ⟨a, b, c⟩ := most_le is i
  have p : M ≤ most is i := by
    rcases List.mem_cons.mp h1 with rfl | h
    · exact a
    · exact b M h
  have q : most is i ≤ M := by
    rcases c with c | c
    · rw [c]; exact h2 i List.mem_cons_self
    · exact h2 _ (List.mem_cons_of_mem _ c)
  omega
theorem least_one {i : Int} {is : List Int} {M : Int} (h1 : M ∈ i :: is) (h2 : ∀ y, y ∈ i :: is → M ≤ y) : M = least is i := by
  obtain ⟨a, b, c⟩ := least_le is i
  have p : least is i ≤ M := by
    rcases List.mem_cons.mp h1 with rfl | h
    · exact a
    · exact b M h
  have q : M ≤ least is i := by
    rcases c with c | c
    · rw [c]; exact h2 i List.mem_cons_self
    · exact h2 _ (List.mem_cons_of_mem _ c)
  omega
theorem insInt_perm (x : Int) : ∀ ys : List Int, (insInt x ys).Perm (x :: ys)
  | [] => List.Perm.refl _
  | y :: ys => by
    unfold insInt
    split
    · exact List.Perm.refl _
    · exact ((insInt_perm x ys).cons y).trans (List.Perm.swap x y ys)
theorem sortInts_perm : ∀ xs : List Int, (sortInts xs).Perm xs
  | [] => List.Perm.refl _
  | x :: xs => (insInt_perm x _).trans ((sortInts_perm xs).cons x)
theorem insInt_sorted (x : Int) : ∀ ys : List Int, ys.Pairwise (· ≤ ·) → (insInt x ys).Pairwise (· ≤ ·)
  | [], _ => by simp [insInt]
  | y :: ys, h => by
    unfold insInt
    obtain ⟨h1, h2⟩ := List.pairwise_cons.mp h
    split
    · rename_i hxy
      refine List.pairwise_cons.mpr ⟨fun z hz => ?_, h⟩
      rcases List.mem_cons.mp hz with rfl | hz
      · exact hxy
      · exact Int.le_trans hxy (h1 z hz)
    · rename_i hxy
      refine List.pairwise_cons.mpr ⟨fun z hz => ?_, insInt_sorted x ys h2⟩
      rcases List.mem_cons.mp ((insInt_perm x ys).subset hz) with rfl | hz
      · omega
      · exact h1 z hz
theorem sortInts_sorted : ∀ xs : List Int, (sortInts xs).Pairwise (· ≤ ·)
  | [] => List.Pairwise.nil
  | x :: xs => insInt_sorted x _ (sortInts_sorted xs)
theorem sort_one {ns ns' : List Int} (h1 : ns'.Perm ns) (h2 : ns'.Pairwise (· ≤ ·)) : ns' = sortInts ns :=
  List.Perm.eq_of_pairwise (fun a b _ _ h1 h2 => Int.le_antisymm h1 h2) h2 (sortInts_sorted ns) (h1.trans (sortInts_perm ns).symm)

section
variable {T : Tab} {c : Cxt T} {X : Cx} {m : List Addr} {M : Hp}
theorem ints_rel : ∀ {xs : List W} {is : List Int} {vs : List V}, RelWs c.kt m M xs vs → intsOf xs = some is → vs = is.map V.int
  | [], is, vs, r, h => by cases h; rw [RelWs.nil_inv r]; rfl
  | x :: xs, is, vs, r, h => by
    obtain ⟨v, rr, rfl, r1, r2⟩ := RelWs.cons_inv r
    cases x with
    | int i =>
      unfold intsOf at h
      obtain ⟨js, h1, rfl⟩ := Option.map_eq_some_iff.mp h
      unfold RelW at r1
      subst r1
      rw [ints_rel r2 h1]; rfl
    | _ => cases h
theorem bools_rel : ∀ {xs : List W} {is : List Bool} {vs : List V}, RelWs c.kt m M xs vs → bools xs = some is → vs = is.map V.bl
  | [], is, vs, r, h => by cases h; rw [RelWs.nil_inv r]; rfl
  | x :: xs, is, vs, r, h => by
    obtain ⟨v, rr, rfl, r1, r2⟩ := RelWs.cons_inv r
    cases x with
    | bl i =>
      unfold bools at h
      obtain ⟨js, h1, rfl⟩ := Option.map_eq_some_iff.mp h
      unfold RelW at r1
      subst r1
      rw [bools_rel r2 h1]; rfl
    | _ => cases h
theorem rel_ints : ∀ is : List Int, RelWs c.kt m M (is.map W.int) (is.map V.int)
  | [] => RelWs.nil
  | i :: is => RelWs.cons (by unfold RelW; rfl) (rel_ints is)
variable (c X)
def CaS (f : Value) (g : List W → Q W) : Prop :=
  CallR X f (fun xs H Q => ∃ m st ws E, SR c.kt m st H ∧ RelWs c.kt m (fz m st H) ws xs ∧ Po c m st H E (rW c) (g ws st) Q)
variable {c X}
theorem len1 {xs : List W} {vs : List V} (r : RelWs c.kt m M xs vs) : (∃ x, xs = [x]) → ∃ x v, xs = [x] ∧ vs = [v] ∧ RelW c.kt m M x v := by
  rintro ⟨x, rfl⟩
  obtain ⟨v, rr, rfl, r1, r2⟩ := RelWs.cons_inv r
  rw [RelWs.nil_inv r2]
  exact ⟨x, v, rfl, rfl, r1⟩
theorem cas_len (hK : X.K = c.K) : CaS c X (.builtin "len") (biW .len) := by
  intro pins s σ H xs us Q I r h
  obtain ⟨m, st, ws, E, S, R, hp⟩ := h
  match ws, R, hp with
  | [w], R, hp =>
    obtain ⟨_, v, e, rfl, r1⟩ := len1 R ⟨w, rfl⟩
    cases e
    obtain ⟨ys, vs, _, ⟨a, rfl, hq⟩, r2, hp⟩ := po_itm (f := fun xs => pu (W.int xs.length)) hp S r1
    refine call_len pins s σ H _ us Q I r ⟨.ref a, vs.length, rfl, ?_, by rw [r2.len]; exact po_int hp S⟩
    rw [hK]
    rcases hq with ⟨_, hq⟩ | ⟨_, hq⟩
    · exact .inl ⟨vs, hq, rfl⟩
    · exact .inr ⟨vs, hq, rfl⟩
  | [], R, hp => exact hp.elim
  | _ :: _ :: _, R, hp => exact hp.elim
theorem cas_sum (hK : X.K = c.K) (hc : X.calm = true) : CaS c X (.builtin "sum") (biW .sum) := by
  intro pins s σ H xs us Q I r h
  obtain ⟨m, st, ws, E, S, R, hp⟩ := h
  match ws, R, hp with
  | [w], R, hp =>
    obtain ⟨_, v, e, rfl, r1⟩ := len1 R ⟨w, rfl⟩
    cases e
    obtain ⟨ys, vs, _, ⟨a, rfl, hq⟩, r2, hp⟩ := po_itm (f := fun xs => match intsOf xs with
      | some is => pu (W.int is.sum)
      | none => no) hp S r1
    cases e : intsOf ys with
    | none => rw [e] at hp; exact hp.elim
    | some is =>
      rw [e] at hp
      have q := po_int hp S
      rw [ints_rel r2 e, ← hK] at hq
      rcases hq with ⟨_, hq⟩ | ⟨_, hq⟩
      · exact cr_sum hc pins s σ H _ us Q I r ⟨a, is, rfl, hq, q⟩
      · obtain ⟨its, rv, hl, _⟩ := I.tuple hq
        rw [Vals.ref1 r]
        exact sum_rawT (I.ok.hd hc) hl rv.ints fun h' tk t' hk => ⟨.int _, H, I.kept hk, ⟨_, rfl⟩, q⟩
  | [], R, hp => exact hp.elim
  | _ :: _ :: _, R, hp => exact hp.elim
theorem cas_max1 (hK : X.K = c.K) (hc : X.calm = true) : CaS c X (.builtin "max") (biW .max1) := by
  intro pins s σ H xs us Q I r h
  obtain ⟨m, st, ws, E, S, R, hp⟩ := h
  match ws, R, hp with
  | [w], R, hp =>
    obtain ⟨_, v, e, rfl, r1⟩ := len1 R ⟨w, rfl⟩
    cases e
    obtain ⟨ys, vs, _, ⟨a, rfl, hq⟩, r2, hp⟩ := po_itm (f := fun xs => match intsOf xs with
      | some (i :: is) => pu (W.int (most is i))
      | _ => no) hp S r1
    cases e : intsOf ys with
    | none => rw [e] at hp; exact hp.elim
    | some is =>
      cases is with
      | nil => rw [e] at hp; exact hp.elim
      | cons i is =>
        rw [e] at hp
        have q := po_int hp S
        rw [ints_rel r2 e, ← hK] at hq
        rcases hq with ⟨_, hq⟩ | ⟨_, hq⟩
        · exact cr_max hc pins s σ H _ us Q I r ⟨a, i :: is, rfl, hq, by simp, fun M h1 h2 => by rw [most_one h1 h2]; exact q⟩
        · obtain ⟨its, rv, hl, _⟩ := I.tuple hq
          rw [Vals.ref1 r]
          exact max_rawT (I.ok.hd hc) hl rv.ints (by simp) fun h' tk M t' hk h1 h2 => ⟨.int _, H, I.kept hk, ⟨_, rfl⟩, by rw [most_one h1 h2]; exact q⟩
  | [], R, hp => exact hp.elim
  | _ :: _ :: _, R, hp => exact hp.elim
theorem cas_min1 (hK : X.K = c.K) (hc : X.calm = true) : CaS c X (.builtin "min") (biW .min1) := by
  intro pins s σ H xs us Q I r h
  obtain ⟨m, st, ws, E, S, R, hp⟩ := h
  match ws, R, hp with
  | [w], R, hp =>
    obtain ⟨_, v, e, rfl, r1⟩ := len1 R ⟨w, rfl⟩
    cases e
    obtain ⟨ys, vs, _, ⟨a, rfl, hq⟩, r2, hp⟩ := po_itm (f := fun xs => match intsOf xs with
      | some (i :: is) => pu (W.int (least is i))
      | _ => no) hp S r1
    cases e : intsOf ys with
    | none => rw [e] at hp; exact hp.elim
    | some is =>
      cases is with
      | nil => rw [e] at hp; exact hp.elim
      | cons i is =>
        rw [e] at hp
        have q := po_int hp S
        rw [ints_rel r2 e, ← hK] at hq
        rcases hq with ⟨_, hq⟩ | ⟨_, hq⟩
        · exact cr_min hc pins s σ H _ us Q I r ⟨a, i :: is, rfl, hq, by simp, fun M h1 h2 => by rw [least_one h1 h2]; exact q⟩
        · obtain ⟨its, rv, hl, _⟩ := I.tuple hq
          rw [Vals.ref1 r]
          exact min_rawT (I.ok.hd hc) hl rv.ints (by simp) fun h' tk M t' hk h1 h2 => ⟨.int _, H, I.kept hk, ⟨_, rfl⟩, by rw [least_one h1 h2]; exact q⟩
  | [], R, hp => exact hp.elim
  | _ :: _ :: _, R, hp => exact hp.elim
theorem cas_sorted (hK : X.K = c.K) (μ : Bool) : CaS c X (.builtin "sorted") (biW (.sorted μ)) := by
  intro pins s σ H xs us Q I r h
  obtain ⟨m, st, ws, E, S, R, hp⟩ := h
  match ws, R, hp with
  | [w], R, hp =>
    obtain ⟨_, v, e, rfl, r1⟩ := len1 R ⟨w, rfl⟩
    cases e
    obtain ⟨ys, vs, a, rfl, hq, r2, hp⟩ := po_itmN (f := fun xs => match intsOf xs with
      | some is => mkL μ ((sortInts is).map .int)
      | none => no) hp S r1
    cases e : intsOf ys with
    | none => rw [e] at hp; exact hp.elim
    | some is =>
      rw [e] at hp
      obtain ⟨_, q⟩ := po_mkL hp S (rel_ints (sortInts is))
      rw [ints_rel r2 e, ← hK] at hq
      exact cr_sortedI pins s σ H _ us Q I r ⟨a, is, rfl, hq, fun ns' p h1 h2 hp => by rw [sort_one h1 h2]; exact q p hp⟩
  | [], R, hp => exact hp.elim
  | _ :: _ :: _, R, hp => exact hp.elim
theorem cas_list (hK : X.K = c.K) (μ : Bool) : CaS c X (.type "list") (biW (.list μ)) := by
  intro pins s σ H xs us Q I r h
  obtain ⟨m, st, ws, E, S, R, hp⟩ := h
  match ws, R, hp with
  | [w], R, hp =>
    obtain ⟨_, v, e, rfl, r1⟩ := len1 R ⟨w, rfl⟩
    cases e
    obtain ⟨ys, vs, _, ⟨a, rfl, hq⟩, r2, hp⟩ := po_itm (f := fun xs => mkL μ xs) hp S r1
    obtain ⟨_, q⟩ := po_mkL hp S r2
    rw [← hK] at hq
    exact call_list_of pins s σ H _ us Q I r ⟨a, vs, rfl, hq.imp And.right And.right, q⟩
  | [], R, hp => exact hp.elim
  | _ :: _ :: _, R, hp => exact hp.elim
theorem cas_tuple (hK : X.K = c.K) : CaS c X (.type "tuple") (biW .tuple) := by
  intro pins s σ H xs us Q I r h
  obtain ⟨m, st, ws, E, S, R, hp⟩ := h
  match ws, R, hp with
  | [w], R, hp =>
    obtain ⟨_, v, e, rfl, r1⟩ := len1 R ⟨w, rfl⟩
    cases e
    obtain ⟨ys, vs, hx, ⟨a, rfl, hq⟩, r2, hp⟩ := po_itm (f := fun xs => pu (W.tup xs)) hp S r1
    rw [← hK] at hq
    refine call_tupleF pins s σ H _ us Q I r ⟨a, vs, rfl, ?_⟩
    rcases hq with ⟨_, hq⟩ | ⟨ht, hq⟩
    · exact .inl ⟨hq, po_mkT hp S r2⟩
    · refine .inr ⟨hq, ?_⟩
      cases w with
      | tup zs =>
        cases hx
        exact po_pu hp S r1
      | _ => cases ht
  | [], R, hp => exact hp.elim
  | _ :: _ :: _, R, hp => exact hp.elim
theorem cas_all (hK : X.K = c.K) (hc : X.calm = true) : CaS c X (.builtin "all") (biW .all) := by
  intro pins s σ H xs us Q I r h
  obtain ⟨m, st, ws, E, S, R, hp⟩ := h
  match ws, R, hp with
  | [w], R, hp =>
    obtain ⟨_, v, e, rfl, r1⟩ := len1 R ⟨w, rfl⟩
    cases e
    obtain ⟨ys, vs, a, rfl, hq, r2, hp⟩ := po_itmN (f := fun xs => match bools xs with
      | some bs => pu (W.bl (bs.all id))
      | none => no) hp S r1
    cases e : bools ys with
    | none => rw [e] at hp; exact hp.elim
    | some is =>
      rw [e] at hp
      have q := po_bl hp S
      rw [bools_rel r2 e, ← hK] at hq
      exact cr_all hc pins s σ H _ us Q I r ⟨a, is, rfl, hq, q⟩
  | [], R, hp => exact hp.elim
  | _ :: _ :: _, R, hp => exact hp.elim
theorem cas_any (hK : X.K = c.K) (hc : X.calm = true) : CaS c X (.builtin "any") (biW .any) := by
  intro pins s σ H xs us Q I r h
  obtain ⟨m, st, ws, E, S, R, hp⟩ := h
  match ws, R, hp with
  | [w], R, hp =>
    obtain ⟨_, v, e, rfl, r1⟩ := len1 R ⟨w, rfl⟩
    cases e
    obtain ⟨ys, vs, a, rfl, hq, r2, hp⟩ := po_itmN (f := fun xs => match bools xs with
      | some bs => pu (W.bl (bs.any id))
      | none => no) hp S r1
    cases e : bools ys with
    | none => rw [e] at hp; exact hp.elim
    | some is =>
      rw [e] at hp
      have q := po_bl hp S
      rw [bools_rel r2 e, ← hK] at hq
      exact cr_any hc pins s σ H _ us Q I r ⟨a, is, rfl, hq, q⟩
  | [], R, hp => exact hp.elim
  | _ :: _ :: _, R, hp => exact hp.elim
theorem rel_int {m : List Addr} {M : Hp} {i : Int} {v : V} (r : RelW c.kt m M (.int i) v) : v = .int i := by unfold RelW at r; exact r
theorem rel_bl {m : List Addr} {M : Hp} {i : Bool} {v : V} (r : RelW c.kt m M (.bl i) v) : v = .bl i := by unfold RelW at r; exact r
theorem cas_abs : CaS c X (.builtin "abs") (biW .abs) := by
  intro pins s σ H xs us Q I r h
  obtain ⟨m, st, ws, E, S, R, hp⟩ := h
  cases ws with
  | nil => exact hp.elim
  | cons w ws =>
    cases ws with
    | nil =>
      obtain ⟨_, v, e, rfl, r1⟩ := len1 R ⟨_, rfl⟩
      cases e
      cases w with
      | int i =>
        rw [rel_int r1] at r
        exact call_abs pins s σ H _ us Q I r ⟨i, rfl, po_int hp S⟩
      | _ => exact hp.elim
    | cons u us => cases w <;> exact hp.elim
theorem cas_int : CaS c X (.type "int") (biW .int) := by
  intro pins s σ H xs us Q I r h
  obtain ⟨m, st, ws, E, S, R, hp⟩ := h
  cases ws with
  | nil => exact hp.elim
  | cons w ws =>
    cases ws with
    | nil =>
      obtain ⟨_, v, e, rfl, r1⟩ := len1 R ⟨_, rfl⟩
      cases e
      cases w with
      | int i =>
        rw [rel_int r1] at r
        exact call_int1 pins s σ H _ us Q I r (.inl ⟨i, rfl, po_int hp S⟩)
      | bl i =>
        rw [rel_bl r1] at r
        exact call_int1 pins s σ H _ us Q I r (.inr ⟨i, rfl, po_int hp S⟩)
      | _ => exact hp.elim
    | cons u us => cases w <;> exact hp.elim
theorem int2 {M : Hp} {m : List Addr} {i j : Int} {vs : List V} (r : RelWs c.kt m M [.int i, .int j] vs) : vs = [.int i, .int j] := by
  obtain ⟨v, rr, rfl, r1, r2⟩ := RelWs.cons_inv r
  obtain ⟨u, rs, rfl, r3, r4⟩ := RelWs.cons_inv r2
  rw [RelWs.nil_inv r4]
  unfold RelW at r1 r3
  rw [r1, r3]
theorem two_ints {b : Bi} (hb : b = .min2 ∨ b = .max2) {ws : List W} {st : Store} (h : biW b ws st ≠ .no) : ∃ i j, ws = [.int i, .int j] := by
  match ws with
  | [] => rcases hb with rfl | rfl <;> exact absurd rfl h
  | [w] => rcases hb with rfl | rfl <;> cases w <;> exact absurd rfl h
  | [w, u] => cases w with
    | int i => cases u with
      | int j => exact ⟨i, j, rfl⟩
      | _ => rcases hb with rfl | rfl <;> exact absurd rfl h
    | _ => rcases hb with rfl | rfl <;> exact absurd rfl h
  | w :: u :: x :: r => rcases hb with rfl | rfl <;> cases w <;> cases u <;> exact absurd rfl h
theorem po_ne {m : List Addr} {st : Store} {H : Hp} {E : XK} {α β : Type} {rel : List Addr → Hp → α → β → Prop} {r : R α} {Q' : β → Hp → Prop} (h : Po c m st H E rel r Q') : r ≠ .no := fun e => by rw [e] at h; exact h
theorem cas_min2 (hc : X.calm = true) : CaS c X (.builtin "min") (biW .min2) := by
  intro pins s σ H xs us Q I r h
  obtain ⟨m, st, ws, E, S, R, hp⟩ := h
  obtain ⟨i, j, rfl⟩ := two_ints (.inl rfl) (po_ne hp)
  rw [int2 R] at r
  exact call_min2 hc pins s σ H _ us Q I r ⟨i, j, rfl, po_int hp S⟩
theorem cas_max2 (hc : X.calm = true) : CaS c X (.builtin "max") (biW .max2) := by
  intro pins s σ H xs us Q I r h
  obtain ⟨m, st, ws, E, S, R, hp⟩ := h
  obtain ⟨i, j, rfl⟩ := two_ints (.inr rfl) (po_ne hp)
  rw [int2 R] at r
  exact call_max2 hc pins s σ H _ us Q I r ⟨i, j, rfl, po_int hp S⟩
end
end Mi
set_option maxHeartbeats 4000000
set_option autoImplicit false
namespace Mi
open PySem PySem.Spec PyProof.Rows L2

/-! ## forms of the text -/
theorem star_cons {e : Expr} (h : noStar e = true) (es : List Expr) (env : Env) : starEach (e :: es) env = (false, eval e env) :: starEach es env := by
  cases e <;> first | rfl | (cases h)
theorem star_any {env : Env} {pos : Pos} : ∀ {es : List Expr}, (∀ e ∈ es, noStar e = true) → (backTo pos (starEach es env)).any (·.1) = false
  | [], _ => rfl
  | e :: es, h => by
    rw [star_cons (h e List.mem_cons_self)]
    show (false || (backTo pos (starEach es env)).any (·.1)) = false
    rw [star_any fun x hx => h x (List.mem_cons_of_mem _ hx)]
    rfl
theorem star_all {env : Env} {pos : Pos} : ∀ {es : List Expr}, (∀ e ∈ es, noStar e = true) → (backTo pos (starEach es env)).all (fun x => !x.1) = true
  | [], _ => rfl
  | e :: es, h => by
    rw [star_cons (h e List.mem_cons_self)]
    show (true && (backTo pos (starEach es env)).all (fun x => !x.1)) = true
    rw [star_all fun x hx => h x (List.mem_cons_of_mem _ hx)]
    rfl
theorem base_of {e : Expr} {f : Str} {env : Env} (h : noSup e = true) : attributeBase e f env (eval e env) = eval e env := by
  unfold attributeBase
  split
  · rename_i x p q
    have hx : (x != ("super" : Str)) = true := h
    simp only [hx, Bool.true_or, if_true]
  · rfl
theorem plain_ix {b : Expr} (h : noSlc b = true) : PlainIx b := fun o i => by
  cases b <;> first | rfl | (cases h)
theorem isTrue_plain {e : Expr} (h : plainT e = true) {env : Env} (whole : Sem Value) : isTrue e env whole = (do let v ← whole; standAt e.pos; holding [v] (truthy v)) := by
  cases e with
  | UnaryOp o x p => cases o <;> first | rfl | (cases h)
  | BoolOp _ _ _ => cases h
  | IfExp _ _ _ _ => cases h
  | Compare _ _ _ _ => cases h
  | _ => rfl
def isComp : Expr → Bool
  | .ListComp _ _ _ _ => true
  | .SetComp _ _ _ _ => true
  | .DictComp _ _ _ _ _ => true
  | _ => false
theorem swaps_not {e : Expr} (h : isComp e = false) (t : Option Expr) (l : Nat) (env : Env) : swapsWith e t l env = pure false := by
  cases e <;> first | rfl | (cases h)
def isSet : Expr → Bool
  | .Set _ _ _ => true
  | _ => false
theorem folded_not {e : Expr} (h : isSet e = false) (env : Env) (x : Value) : foldedSetIterable e env x = pure x := by
  cases e <;> first | rfl | (cases h)
theorem meth_form {o : Expr} {m : Str} {apos pos : Pos} {es : List Expr} {env : Env} (hs : noSup o = true) (hl : (apos.endLine == pos.line) = true) (hst : ∀ e ∈ es, noStar e = true) (hn : es.length < 20) :
    eval (.Call (.Attribute o m apos) es [] pos) env = (do
      let ov ← eval o env
      standAt apos.atName
      let (f, first) ← holding [ov] (getMethod ov m (do return (← importBound o env).getD true))
      callWith pos f first (backTo pos (starEach es env)) (backToKw pos (keywordEach [] env))) := by
  have hf : methodCallForm (es.length + ([] : List Keyword).length) (backTo pos (starEach es env)) (backToKw pos (keywordEach [] env)) = true := by
    unfold methodCallForm
    rw [star_all hst]
    show (true && true && decide (es.length + 0 + 0 < 30)) = true
    simp; omega
  have e : eval (.Call (.Attribute o m apos) es [] pos) env = (do
    let ov ← attributeBase o m env (eval o env)
    standAt apos.atName
    methodCall o m apos pos env ov (es.length + ([] : List Keyword).length) (backTo pos (starEach es env)) (backToKw pos (keywordEach [] env))) := by
    rw [arm_eval_Call]
  rw [e, base_of hs]
  unfold methodCall
  rw [hf]
  unfold calleeOf methodCallPos
  simp only [if_true, Bool.not_true, Bool.false_or, hl]
  rfl

theorem asCmp_of {e l r : Expr} {p : CmpOp} (h : asCmp e = some (l, p, r)) : ∃ pos, e = .Compare l [p] [r] pos := by
  unfold asCmp at h
  split at h
  · cases h; exact ⟨_, rfl⟩
  · cases h
theorem asChn_of {e a b c : Expr} {o p : CmpOp} (h : asChn e = some (a, o, b, p, c)) : ∃ pos, e = .Compare a [o, p] [b, c] pos := by
  unfold asChn at h
  split at h
  · cases h; exact ⟨_, rfl⟩
  · cases h
theorem isNone_of {e : Expr} (h : isNone_ e = true) : ∃ k p, e = .Constant .none k p := by
  unfold isNone_ at h
  split at h
  · exact ⟨_, _, rfl⟩
  · cases h
theorem asSlc_of {e a : Expr} {lo hi : Option Expr} (h : asSlc e = some (a, lo, hi)) : ∃ p2 pos, e = .Subscript a (.Slice lo hi none p2) pos := by
  unfold asSlc at h
  split at h
  · cases h; exact ⟨_, _, rfl⟩
  · cases h
theorem asCall_of {e : Expr} {x : Str} {es : List Expr} (h : asCall e = some (x, es)) : ∃ p pos, e = .Call (.Name x p) es [] pos := by
  unfold asCall at h
  split at h
  · cases h; exact ⟨_, _, rfl⟩
  · cases h
theorem asMth_of {e o : Expr} {m : Str} {es : List Expr} (h : asMth e = some (o, m, es)) : ∃ (apos pos : Pos), (apos.endLine == pos.line) = true ∧ e = .Call (.Attribute o m apos) es [] pos := by
  unfold asMth at h
  split at h
  · split at h
    · rename_i hl
      cases h; exact ⟨_, _, hl, rfl⟩
    · cases h
  · cases h
theorem asLc_of {e el tg i : Expr} {ifs : List Expr} {s : Scope} (h : asLc e = some (el, tg, i, ifs, s)) : ∃ pos, e = .ListComp el [⟨tg, i, ifs, 0⟩] s pos := by
  unfold asLc at h
  split at h
  · cases h; exact ⟨_, rfl⟩
  · cases h

/-! ## expressions, one by one -/
section
variable {T : Tab} {c : Cxt T} {F : Nat → List W → Q W} {xc : Option (Nat × List W)} {xv : Option (Nat × Addr)} {cx : Value × Option Addr} {Wx : WX} {X : Cx}
theorem snd_v {i : Nat} {x : Str} {pos : Pos} (hN : X.N[i]? = some x) (hv : Vis X.env.scope x) (hd : (x == ("__debug__" : Str)) = false) (hcd : (x == ("__classdict__" : Str)) = false) : PE X (.Name x pos) (rE c F xc xv cx Wx (.v i)) := by
  refine PE.mono (pe_var hN hv hd hcd) fun σ H Q h => ?_
  obtain ⟨m, env, st, S, hp⟩ := h
  dsimp only [ev] at hp
  cases e : env[i]? with
  | none => rw [e] at hp; exact hp.elim
  | some o =>
    rw [e] at hp
    cases o with
    | none => exact hp.elim
    | some w =>
      obtain ⟨v, h1, r⟩ := S.loc i w e
      exact ⟨v, h1, po_pu hp S.sr r⟩
theorem rel_cn {m : List Addr} {M : Hp} (d : Cn) : ∃ v, RelW c.kt m M d.w v ∧ match d with
    | .non => v = .non
    | .bl b => v = .bl b
    | .int i => v = .int i
    | .str s => v = .str s := by
  cases d with
  | non => exact ⟨.non, by show RelW _ _ _ .non _; unfold RelW; rfl, rfl⟩
  | bl b => exact ⟨.bl b, by show RelW _ _ _ (.bl b) _; unfold RelW; rfl, rfl⟩
  | int b => exact ⟨.int b, by show RelW _ _ _ (.int b) _; unfold RelW; rfl, rfl⟩
  | str b => exact ⟨.str b, by show RelW _ _ _ (.str b) _; unfold RelW; rfl, rfl⟩
theorem snd_cst {d : Cn} {e : Expr} (h : asCst e = some d) : PE X e (rE c F xc xv cx Wx (.cst d)) := by
  cases e with
  | Constant k j pos =>
    cases k with
    | int i =>
      cases h
      refine PE.mono pe_int fun σ H Q h => ?_
      obtain ⟨m, env, st, S, hp⟩ := h
      exact po_int hp S.sr
    | str i =>
      cases h
      refine PE.mono pe_str fun σ H Q h => ?_
      obtain ⟨m, env, st, S, hp⟩ := h
      exact po_pu hp S.sr (by show RelW _ _ _ (.str i) _; unfold RelW; rfl)
    | bool i =>
      cases h
      refine PE.mono pe_bl fun σ H Q h => ?_
      obtain ⟨m, env, st, S, hp⟩ := h
      exact po_bl hp S.sr
    | none =>
      cases h
      refine PE.mono pe_non fun σ H Q h => ?_
      obtain ⟨m, env, st, S, hp⟩ := h
      exact po_non hp S.sr
    | _ => cases h
  | _ => cases h
theorem snd_gi {x : Str} {i : Int} {pos : Pos} {t : Tok} (hg : Gl X x) (hm : X.mg x = some (.int i t)) (hd : (x == ("__debug__" : Str)) = false) : PE X (.Name x pos) (rE c F xc xv cx Wx (.gi x i)) := by
  refine PE.mono (pe_glob (v := .int i) hg hm ⟨t, rfl⟩ hd) fun σ H Q h => ?_
  obtain ⟨m, env, st, S, hp⟩ := h
  exact po_int hp S.sr
variable {a b d : TX} {l r z : Expr} {pos : Pos}
/-- two values, then an operation -/
theorem two_vals {g : W → W → Q W} {σ : L2.St} {H : Hp} {Qv : VK} {m : List Addr} {env : Ev} {st : Store} (S : Sim c xc xv cx m env st σ H)
    (hp : Po c m st H (fun cls d H => Wx cls d σ H) (rW c) (bd (ev T F xc a env) (fun x => bd (ev T F xc b env) fun y => g x y) st) Qv) :
    tOp (fun x y H Q => ∃ m st wx wy E, SR c.kt m st H ∧ RelW c.kt m (fz m st H) wx x ∧ RelW c.kt m (fz m st H) wy y ∧ Po c m st H E (rW c) (g wx wy st) Q) (rE c F xc xv cx Wx a) (rE c F xc xv cx Wx b) σ H Qv := by
  refine ⟨m, env, st, S, po_bd hp fun wx st1 m1 H1 x E1 S1 rx hp1 => ?_⟩
  refine ⟨m1, env, st1, S.ext E1 S1, po_bd hp1 fun wy st2 m2 H2 y E2 S2 ry hp2 => ?_⟩
  exact ⟨m2, st2, wx, wy, _, S2, E2.relW rx, ry, hp2⟩
theorem snd_bin {o : Bop} {μ : Bool} (ha : PE X l (rE c F xc xv cx Wx a)) (hb : PE X r (rE c F xc xv cx Wx b)) : PE X (.BinOp l (bopOf o) r pos) (rE c F xc xv cx Wx (.bin o μ a b)) := by
  refine PE.mono (pe_op (ops_bin (c := c) o μ) ha hb) fun σ H Q h => ?_
  obtain ⟨m, env, st, S, hp⟩ := h
  exact two_vals S hp
theorem snd_neg (ha : PE X l (rE c F xc xv cx Wx a)) : PE X (.UnaryOp .USub l pos) (rE c F xc xv cx Wx (.neg a)) := by
  refine PE.mono (pe_un un_neg ha) fun σ H Q h => ?_
  obtain ⟨m, env, st, S, hp⟩ := h
  refine ⟨m, env, st, S, po_bd hp fun wx st1 m1 H1 x E1 S1 rx hp1 => ?_⟩
  cases wx with
  | int i => exact ⟨i, rel_int rx, po_int hp1 S1⟩
  | _ => exact hp1.elim
theorem snd_cmp {o : Cop} (hK : X.K = c.K) (hu : X.A.units + 65 < cLine) (ha : PE X l (rE c F xc xv cx Wx a)) (hb : PE X r (rE c F xc xv cx Wx b)) (hm : behindInMarks (copOf o) r = false) : PE X (.Compare l [copOf o] [r] pos) (rE c F xc xv cx Wx (.cmp o a b)) := by
  refine PE.mono (pe_cmpR (ops_cmp (c := c) hK hu o) ha hb hm) fun σ H Q h => ?_
  obtain ⟨m, env, st, S, hp⟩ := h
  exact two_vals S hp
/-- a bool -/
theorem po_isB {m : List Addr} {st : Store} {H : Hp} {E : XK} {α β : Type} {rel : List Addr → Hp → α → β → Prop} {Q' : β → Hp → Prop} {w : W} {f g : Q α} (h : Po c m st H E rel ((match w with
    | .bl true => f
    | .bl false => g
    | _ => no) st) Q') {v : V} {M : Hp} (r : RelW c.kt m M w v) : ∃ k, v = .bl k ∧ Po c m st H E rel ((if k = true then f else g) st) Q' := by
  cases w with
  | bl k => refine ⟨k, rel_bl r, ?_⟩; cases k <;> exact h
  | _ => exact h.elim
theorem snd_chn {o p : Cop} (hK : X.K = c.K) (hu : X.A.units + 65 < cLine) (ha : PE X l (rE c F xc xv cx Wx a)) (hb : PE X r (rE c F xc xv cx Wx b)) (hd : PE X z (rE c F xc xv cx Wx d)) (hm : lastMarks [copOf o, copOf p] [r, z] = false) :
    PE X (.Compare l [copOf o, copOf p] [r, z] pos) (rE c F xc xv cx Wx (.chn o p a b d)) := by
  refine PE.mono (pe_chain (ops_cmp (c := c) hK hu o) (ops_cmp (c := c) hK hu p) ha hb hd hm) fun σ H Q h => ?_
  obtain ⟨m, env, st, S, hp⟩ := h
  refine ⟨m, env, st, S, po_bd hp fun wx st1 m1 H1 x E1 S1 rx hp1 => ?_⟩
  refine ⟨m1, env, st1, S.ext E1 S1, po_bd hp1 fun wy st2 m2 H2 y E2 S2 ry hp2 => ?_⟩
  refine ⟨m2, st2, wx, wy, _, S2, E2.relW rx, ry, po_bd hp2 fun wq st3 m3 H3 q E3 S3 rq hp3 => ?_⟩
  obtain ⟨k, rfl, hp3⟩ := po_isB hp3 rq
  refine ⟨k, rfl, ?_⟩
  cases k with
  | true =>
    refine ⟨m3, env, st3, ((S.ext E1 S1).ext E2 S2).ext E3 S3, po_bd hp3 fun wz st4 m4 H4 z E4 S4 rz hp4 => ?_⟩
    exact ⟨m4, st4, wy, wz, _, S4, E4.relW (E3.relW ry), rz, hp4⟩
  | false => exact po_bl hp3 S3
end
end Mi
set_option maxHeartbeats 4000000
set_option autoImplicit false
namespace Mi
open PySem PySem.Spec PyProof.Rows L2

def bltNames : List Str := ["len", "int", "abs", "min", "max", "sum", "sorted", "list", "tuple", "all", "any", "isinstance", "bool", "range", "enumerate", "zip"]
/-- what holds of the program's top -/
structure Stat {T : Tab} (c : Cxt T) : Prop where
  glo : ∀ f d x, T.fns[f]? = some d → d.at_ = (x, none) → c.mg x = some (.ref (c.fad f)) ∧ PySem.W.keepIn c.K (.ref (c.fad f)) = true
  bnd : ∀ f d, T.fns[f]? = some d → Binds c.K (c.ffd f) (d.N.take d.np) []
  cls : ∀ i d, T.cls[i]? = some d → Cls c.K (c.cad i)
  att : ∀ i d f, T.cls[i]? = some d → f ∈ d.fields → NoAttr c.K (c.cad i) f
  mth : ∀ f d m i cd, T.fns[f]? = some d → d.at_ = (cd.name, some m) → T.cls[i]? = some cd → Meth c.K (c.cad i) m (c.fad f) ∧ m ∉ cd.fields
  mak : ∀ f d i cd, T.fns[f]? = some d → d.at_ = (cd.name, some ("__init__" : Str)) → T.cls[i]? = some cd → Mk c.K (c.cad i) (c.fad f) ∧ c.mg cd.name = some (.ref (c.cad i))
  gis : ∀ p ∈ T.gis, ∃ t, c.mg p.1 = some (.int p.2 t)
  blt : ∀ x ∈ bltNames, c.mg x = none
  uni : ∀ (i j : Nat) (d1 d2 : Cd), T.cls[i]? = some d1 → T.cls[j]? = some d2 → d1.name = d2.name → i = j
section
variable {T : Tab} {c : Cxt T} {F : Nat → List W → Q W} {xc : Option (Nat × List W)} {xv : Option (Nat × Addr)} {cx : Value × Option Addr} {Wx : WX} {X : Cx}
variable {a b d : TX} {l r z : Expr} {pos : Pos}
theorem cfs_of {i : Nat} {d : Cd} (e : T.cls[i]? = some d) : c.kt.cfs i = d.fields := by
  show (match T.cls[i]? with
    | some d => d.fields
    | none => []) = d.fields
  rw [e]
def isNn : W → Bool
  | .non => true
  | _ => false
theorem rel_non {m : List Addr} {M : Hp} {w : W} {v : V} (r : RelW c.kt m M w v) : (decide (v = .non)) = isNn w := by
  cases w with
  | non => unfold RelW at r; rw [r]; rfl
  | bl b => unfold RelW at r; rw [r]; rfl
  | int b => unfold RelW at r; rw [r]; rfl
  | str b => unfold RelW at r; rw [r]; rfl
  | tup xs => unfold RelW at r; obtain ⟨x, _, e, _⟩ := r; rw [e]; rfl
  | lst xs => unfold RelW at r; obtain ⟨x, _, e, _⟩ := r; rw [e]; rfl
  | fro xs => unfold RelW at r; obtain ⟨x, _, e, _⟩ := r; rw [e]; rfl
  | ins k xs => unfold RelW at r; obtain ⟨x, _, _, e, _⟩ := r; rw [e]; rfl
  | dT k xs => unfold RelW at r; obtain ⟨x, _, e, _⟩ := r; rw [e]; rfl
  | dK k xs => unfold RelW at r; obtain ⟨x, _, e, _⟩ := r; rw [e]; rfl
  | ref n => unfold RelW at r; obtain ⟨x, e, _⟩ := r; rw [e]; rfl
theorem snd_isN {k : Nat} {p : Pos} (ha : PE X l (rE c F xc xv cx Wx a)) : PE X (.Compare l [.Is] [.Constant .none k p] pos) (rE c F xc xv cx Wx (.isN a)) := by
  refine PE.mono (pe_cmpR op_isN ha pe_non (nomark _)) fun σ H Q h => ?_
  obtain ⟨m, env, st, S, hp⟩ := h
  refine ⟨m, env, st, S, po_bd hp fun wx st1 m1 H1 x E1 S1 rx hp1 => ⟨rfl, ?_⟩⟩
  rw [rel_non rx]
  cases wx <;> exact po_bl hp1 S1
theorem snd_ntN {k : Nat} {p : Pos} (ha : PE X l (rE c F xc xv cx Wx a)) : PE X (.Compare l [.IsNot] [.Constant .none k p] pos) (rE c F xc xv cx Wx (.ntN a)) := by
  refine PE.mono (pe_cmpR op_notN ha pe_non (nomark _)) fun σ H Q h => ?_
  obtain ⟨m, env, st, S, hp⟩ := h
  refine ⟨m, env, st, S, po_bd hp fun wx st1 m1 H1 x E1 S1 rx hp1 => ⟨rfl, ?_⟩⟩
  rw [rel_non rx]
  cases wx <;> exact po_bl hp1 S1
theorem snd_and {y : Expr} {rs : List Expr} (ha : PE X l (rE c F xc xv cx Wx a)) (hb : PE X (.BoolOp .And (y :: rs) pos) (rE c F xc xv cx Wx b)) : PE X (.BoolOp .And (l :: y :: rs) pos) (rE c F xc xv cx Wx (.and a b)) := by
  refine PE.mono (pe_and ha hb) fun σ H Q h => ?_
  obtain ⟨m, env, st, S, hp⟩ := h
  refine ⟨m, env, st, S, po_bd hp fun wx st1 m1 H1 x E1 S1 rx hp1 => ?_⟩
  obtain ⟨k, rfl, hp1⟩ := po_isB hp1 rx
  refine ⟨k, rfl, ?_⟩
  cases k with
  | true => exact ⟨m1, env, st1, S.ext E1 S1, hp1⟩
  | false => exact po_bl hp1 S1
theorem po_isB' {m : List Addr} {st : Store} {H : Hp} {E : XK} {α β : Type} {rel : List Addr → Hp → α → β → Prop} {Q' : β → Hp → Prop} {w : W} {f g : Q α} (h : Po c m st H E rel ((match w with
    | .bl true => f
    | .bl false => g
    | _ => no) st) Q') {v : V} {M : Hp} (r : RelW c.kt m M w v) : ∃ k, v = .bl k ∧ Po c m st H E rel ((if k = true then f else g) st) Q' := po_isB h r
theorem snd_or {y : Expr} {rs : List Expr} (ha : PE X l (rE c F xc xv cx Wx a)) (hb : PE X (.BoolOp .Or (y :: rs) pos) (rE c F xc xv cx Wx b)) : PE X (.BoolOp .Or (l :: y :: rs) pos) (rE c F xc xv cx Wx (.or a b)) := by
  refine PE.mono (pe_or ha hb) fun σ H Q h => ?_
  obtain ⟨m, env, st, S, hp⟩ := h
  refine ⟨m, env, st, S, po_bd hp fun wx st1 m1 H1 x E1 S1 rx hp1 => ?_⟩
  obtain ⟨k, rfl, hp1⟩ := po_isB hp1 rx
  refine ⟨k, rfl, ?_⟩
  cases k with
  | true => exact po_bl hp1 S1
  | false => exact ⟨m1, env, st1, S.ext E1 S1, hp1⟩
theorem snd_not (ha : PE X l (rE c F xc xv cx Wx a)) : PE X (.UnaryOp .Not l pos) (rE c F xc xv cx Wx (.not a)) := by
  refine PE.mono (pe_not ha) fun σ H Q h => ?_
  obtain ⟨m, env, st, S, hp⟩ := h
  refine ⟨m, env, st, S, po_bd hp fun wx st1 m1 H1 x E1 S1 rx hp1 => ?_⟩
  cases wx with
  | bl k => exact ⟨k, rel_bl rx, po_bl hp1 S1⟩
  | _ => exact hp1.elim
theorem snd_ite {t : TT} (hc : PT X z (rT c F xc xv cx Wx t)) (ha : PE X l (rE c F xc xv cx Wx a)) (hb : PE X r (rE c F xc xv cx Wx b)) : PE X (.IfExp z l r pos) (rE c F xc xv cx Wx (.ite t a b)) := by
  refine PE.mono (pe_ifExp hc ha hb) fun σ H Q h => ?_
  obtain ⟨m, env, st, S, hp⟩ := h
  refine ⟨m, env, st, S, po_bd hp fun q st1 m1 H1 k E1 S1 rx hp1 => ?_⟩
  cases rx
  cases q with
  | true => exact ⟨m1, env, st1, S.ext E1 S1, hp1⟩
  | false => exact ⟨m1, env, st1, S.ext E1 S1, hp1⟩
theorem snd_nil : PA X [] (rA c F xc xv cx Wx .nil) := by
  refine PA.mono pa_nil fun σ H Q h => ?_
  obtain ⟨m, env, st, S, hp⟩ := h
  exact po_pu hp S.sr RelWs.nil
theorem snd_cons {es : List Expr} {ts : TXs} (hn : noStar l = true) (ha : PE X l (rE c F xc xv cx Wx a)) (hs : PA X es (rA c F xc xv cx Wx ts)) : PA X (l :: es) (rA c F xc xv cx Wx (.cons a ts)) := by
  refine PA.mono (pa_cons ha hs (star_cons hn es X.env)) fun σ H Q h => ?_
  obtain ⟨m, env, st, S, hp⟩ := h
  refine ⟨m, env, st, S, po_bd hp fun wx st1 m1 H1 x E1 S1 rx hp1 => ?_⟩
  refine ⟨m1, env, st1, S.ext E1 S1, po_bd hp1 fun ws st2 m2 H2 xs E2 S2 rs hp2 => ?_⟩
  exact po_pu hp2 S2 (RelWs.cons (E2.relW rx) rs)
theorem snd_tup {es : List Expr} {ts : TXs} {k : Nat} (hs : PA X es (rA c F xc xv cx Wx ts)) (hl : es.length ≤ sizeLine) (hlen : ∀ env st ws s, evs T F xc ts env st = .ok ws s → ws.length ≤ sizeLine) : PE X (.Tuple es k pos) (rE c F xc xv cx Wx (.tup ts)) := by
  refine PE.mono (pe_tupF hs) fun σ H Q h => ?_
  obtain ⟨m, env, st, S, hp⟩ := h
  refine ⟨m, env, st, S, ?_⟩
  dsimp only [ev] at hp
  cases e : evs T F xc ts env st with
  | ok ws s =>
    have hp' : Po c m st H (fun cls d H => Wx cls d σ H) (rW c) (pu (.tup ws) s) Q := by
      have := hp
      rw [bd_ok e] at this
      exact this
    intro m' vs H' e1 s1 r
    refine ⟨by rw [r.len]; exact hlen _ _ _ _ e, po_mkT (po_ext hp' e1) s1 r⟩
  | ex i xs s => rw [bd_ex e] at hp; exact hp
  | no => unfold bd at hp; rw [e] at hp; exact hp
theorem snd_lst {es : List Expr} {ts : TXs} {μ : Bool} (hs : PA X es (rA c F xc xv cx Wx ts)) : PE X (.List es pos) (rE c F xc xv cx Wx (.lst μ ts)) := by
  refine PE.mono (pe_lst hs) fun σ H Q h => ?_
  obtain ⟨m, env, st, S, hp⟩ := h
  refine ⟨m, env, st, S, po_bd hp fun ws st1 m1 H1 xs E1 S1 rs hp1 => ?_⟩
  exact po_mkL hp1 S1 rs
theorem snd_znil : PA X [] (rZ c F xc xv cx Wx .nil) := by
  refine PA.mono pa_nil fun σ H Q h => ?_
  obtain ⟨m, env, st, S, hp⟩ := h
  exact po_pu hp S.sr RelWs.nil
theorem snd_zcons {es : List Expr} {ts : TZs} (hn : noStar l = true) (ha : PE X l (rE c F xc xv cx Wx a)) (hs : PA X es (rZ c F xc xv cx Wx ts)) : PA X (l :: es) (rZ c F xc xv cx Wx (.cons false a ts)) := by
  refine PA.mono (pa_cons ha hs (star_cons hn es X.env)) fun σ H Q h => ?_
  obtain ⟨m, env, st, S, hp⟩ := h
  refine ⟨m, env, st, S, po_bd hp fun wx st1 m1 H1 x E1 S1 rx hp1 => ?_⟩
  refine ⟨m1, env, st1, S.ext E1 S1, po_bd hp1 fun ws st2 m2 H2 xs E2 S2 rs hp2 => ?_⟩
  exact po_pu hp2 S2 (RelWs.cons (E2.relW rx) rs)
theorem snd_zstar (hK : X.K = c.K) {es : List Expr} {ts : TZs} {p : Pos} (ha : PE X l (rE c F xc xv cx Wx a)) (hs : PA X es (rZ c F xc xv cx Wx ts)) : PA X (.Starred l p :: es) (rZ c F xc xv cx Wx (.cons true a ts)) := by
  refine PA.mono (StX.pa_star ha hs) fun σ H Q h => ?_
  obtain ⟨m, env, st, S, hp⟩ := h
  refine ⟨m, env, st, S, po_bd hp fun wx st1 m1 H1 x E1 S1 rx hp1 => ?_⟩
  have hp1 : Po c m1 st1 H1 (fun cls d H => Wx cls d σ H) (rWs c) (bd (items wx) (fun ys => bd (evz T F xc ts env) fun ws => pu (ys ++ ws)) st1) Q := hp1
  cases e2 : items wx st1 with
  | no => unfold bd at hp1; rw [e2] at hp1; exact hp1.elim
  | ex i xs s =>
    exfalso
    cases wx with
    | ref n => rw [items_ref] at e2; cases q : st1[n]? with
      | none => rw [q] at e2; cases e2
      | some o => cases o with
        | none => rw [q] at e2; cases e2
        | some o => rw [q] at e2; cases o <;> cases e2
    | _ => cases e2
  | ok ys s =>
    rw [bd_ok e2] at hp1
    obtain ⟨rfl, vs, ⟨q, rfl, hq⟩, rs⟩ := items_at S1 rx e2
    refine ⟨q, vs, rfl, ?_, m1, env, s, S.ext E1 S1, po_bd hp1 fun ws st2 m2 H2 xs E2 S2 rr hp2 => ?_⟩
    · rw [hK]
      rcases hq with ⟨_, hq⟩ | ⟨_, hq⟩
      · exact .inr hq
      · exact .inl hq
    · exact po_pu hp2 S2 ((E2.relWs rs).append rr)
theorem snd_tupS {es : List Expr} {ts : TZs} {k : Nat} (hs : PA X es (rZ c F xc xv cx Wx ts)) : PE X (.Tuple es k pos) (rE c F xc xv cx Wx (.tupS ts)) := by
  refine PE.mono (pe_tupF hs) fun σ H Q h => ?_
  obtain ⟨m, env, st, S, hp⟩ := h
  refine ⟨m, env, st, S, ?_⟩
  dsimp only [ev] at hp
  cases e : evz T F xc ts env st with
  | ok ws s =>
    rw [bd_ok e] at hp
    by_cases hl : ws.length ≤ sizeLine
    · have hp' : Po c m st H (fun cls d H => Wx cls d σ H) (rW c) (pu (.tup ws) s) Q := by
        simp only [if_pos hl] at hp
        exact hp
      intro m' vs H' e1 s1 r
      exact ⟨by rw [r.len]; exact hl, po_mkT (po_ext hp' e1) s1 r⟩
    · simp only [if_neg hl] at hp
      exact hp.elim
  | ex i xs s => rw [bd_ex e] at hp; exact hp
  | no => unfold bd at hp; rw [e] at hp; exact hp
theorem snd_lstS {es : List Expr} {ts : TZs} {μ : Bool} (hs : PA X es (rZ c F xc xv cx Wx ts)) : PE X (.List es pos) (rE c F xc xv cx Wx (.lstS μ ts)) := by
  refine PE.mono (pe_lst hs) fun σ H Q h => ?_
  obtain ⟨m, env, st, S, hp⟩ := h
  refine ⟨m, env, st, S, po_bd hp fun ws st1 m1 H1 xs E1 S1 rs hp1 => ?_⟩
  exact po_mkL hp1 S1 rs
theorem snd_idx (hK : X.K = c.K) (hn : noSlc r = true) (ha : PE X l (rE c F xc xv cx Wx a)) (hb : PE X r (rE c F xc xv cx Wx b)) : PE X (.Subscript l r pos) (rE c F xc xv cx Wx (.idx a b)) := by
  refine PE.mono (pe_ix (ixs (c := c) hK) ha hb (plain_ix hn)) fun σ H Q h => ?_
  obtain ⟨m, env, st, S, hp⟩ := h
  exact two_vals S hp
theorem snd_om : PO X none (rO c F xc xv cx Wx .om) := by
  refine ⟨fun pins s σ H Q I h => po_none.run pins s σ H Q I ?_⟩
  obtain ⟨m, env, st, S, hp⟩ := h
  exact po_pu hp S.sr rfl
theorem snd_oe (ha : PE X l (rE c F xc xv cx Wx a)) : PO X (some l) (rO c F xc xv cx Wx (.e a)) := by
  refine ⟨fun pins s σ H Q I h => (po_some ha).run pins s σ H Q I ?_⟩
  obtain ⟨m, env, st, S, hp⟩ := h
  refine ⟨m, env, st, S, po_bd hp fun wx st1 m1 H1 x E1 S1 rx hp1 => ?_⟩
  cases wx with
  | int i => exact ⟨i, rel_int rx, po_pu hp1 S1 rfl⟩
  | _ => exact hp1.elim
theorem snd_slc {μ : Bool} {lo hi : Option Expr} {tl th : TO} {p2 : Pos} (hK : X.K = c.K) (ha : PE X l (rE c F xc xv cx Wx a)) (hl : PO X lo (rO c F xc xv cx Wx tl)) (hh : PO X hi (rO c F xc xv cx Wx th)) : PE X (.Subscript l (.Slice lo hi none p2) pos) (rE c F xc xv cx Wx (.slc μ a tl th)) := by
  refine PE.mono (pe_slice (sls (c := c) hK μ) ha hl hh) fun σ H Q h => ?_
  obtain ⟨m, env, st, S, hp⟩ := h
  refine ⟨m, env, st, S, po_bd hp fun wx st1 m1 H1 x E1 S1 rx hp1 => ?_⟩
  refine ⟨m1, env, st1, S.ext E1 S1, po_bd hp1 fun lo st2 m2 H2 lo' E2 S2 r2 hp2 => ?_⟩
  refine ⟨m2, env, st2, (S.ext E1 S1).ext E2 S2, po_bd hp2 fun hi st3 m3 H3 hi' E3 S3 r3 hp3 => ?_⟩
  cases r2
  cases r3
  exact ⟨m3, st3, wx, _, S3, E3.relW (E2.relW rx), hp3⟩
/-! attributes -/
theorem lookup_zip {m : List Addr} {M : Hp} {f : Str} {w : W} : ∀ {ns : List Str} {xs : List W} {vs : List V}, RelWs c.kt m M xs vs → (ns.zip xs).lookup f = some w → ∃ v, (ns.zip vs).lookup f = some v ∧ RelW c.kt m M w v
  | [], _, _, _, h => by simp at h
  | n :: ns, [], vs, r, h => by simp at h
  | n :: ns, x :: xs, vs, r, h => by
    obtain ⟨v, rr, rfl, r1, r2⟩ := RelWs.cons_inv r
    rw [List.zip_cons_cons, List.lookup_cons] at h ⊢
    cases e : (f == n) with
    | true => rw [e] at h; cases h; exact ⟨v, rfl, r1⟩
    | false => rw [e] at h; exact lookup_zip r2 h
theorem zip_map {α β : Type} : ∀ fs : List (α × β), (fs.map (·.1)).zip (fs.map (·.2)) = fs
  | [] => rfl
  | p :: fs => by rw [List.map_cons, List.map_cons, List.zip_cons_cons, zip_map fs]
theorem snd_att (st0 : Stat c) (hK : X.K = c.K) {f : Str} (hs : noSup l = true) (ha : PE X l (rE c F xc xv cx Wx a)) : PE X (.Attribute l f pos) (rE c F xc xv cx Wx (.att a f)) := by
  refine PE.mono (pe_fld ha (base_of hs)) fun σ H Q h => ?_
  obtain ⟨m, env, st, S, hp⟩ := h
  refine ⟨m, env, st, S, po_bd hp fun wx st1 m1 H1 x E1 S1 rx hp1 => ?_⟩
  cases wx with
  | ins i xs =>
    dsimp only [attW] at hp1
    cases e : T.cls[i]? with
    | none => rw [e] at hp1; exact hp1.elim
    | some cd =>
      rw [e] at hp1
      dsimp only at hp1
      cases e2 : (cd.fields.zip xs).lookup f with
      | none => rw [e2] at hp1; exact hp1.elim
      | some w =>
        rw [e2] at hp1
        unfold RelW at rx
        obtain ⟨p, dx, vs, rfl, h1, h2, h3⟩ := rx
        have hf : c.kt.cfs i = cd.fields := cfs_of e
        obtain ⟨v, h4, h5⟩ := lookup_zip h3 e2
        have hmem : f ∈ cd.fields := by
          have := List.of_mem_zip (PySem.mem_of_lookup e2)
          exact this.1
        rw [hf] at h1
        exact ⟨p, _, dx, _, v, rfl, fz_same _ _ _ _ _ h1, by rw [hK]; exact st0.cls i cd e, by rw [hK]; exact st0.att i cd f e hmem, h4, po_pu hp1 S1 h5⟩
  | ref n =>
    obtain ⟨o, p, h1, h2, h3, hp1⟩ := po_get hp1 S1
    cases o with
    | ins i fs =>
      dsimp only at hp1
      cases e : T.cls[i]? with
      | none => rw [e] at hp1; exact hp1.elim
      | some cd =>
        rw [e] at hp1
        dsimp only at hp1
        by_cases hm : f ∈ cd.fields
        · rw [if_pos hm] at hp1
          cases e2 : fs.lookup f with
          | none => rw [e2] at hp1; exact hp1.elim
          | some w =>
            rw [e2] at hp1
            unfold RelW at rx
            obtain ⟨q, rfl, hq⟩ := rx
            rw [h2] at hq; cases hq
            obtain ⟨dx, vs, h4, h5⟩ := h3
            obtain ⟨v, h6, h7⟩ := lookup_zip (ns := fs.map (·.1)) h5 (by rw [zip_map]; exact e2)
            exact ⟨p, _, dx, _, v, rfl, h4, by rw [hK]; exact st0.cls i cd e, by rw [hK]; exact st0.att i cd f e hm, h6, po_pu hp1 S1 h7⟩
        · rw [if_neg hm] at hp1; exact hp1.elim
    | _ => exact hp1.elim
  | _ => exact hp1.elim
/-! freezing -/
theorem frz_ok {m : List Addr} {st : Store} {H : Hp} {E : XK} {Qv : VK} {w : W} {v : V} (S : SR c.kt m st H) (r : RelW c.kt m (fz m st H) w v) (hp : Po c m st H E (rW c) (freeze T w st) Qv) : Qv v H := by
  cases w with
  | ref n =>
    unfold RelW at r
    obtain ⟨a, rfl, ha⟩ := r
    dsimp only [freeze] at hp
    cases e : st[n]? with
    | none => rw [e] at hp; exact hp.elim
    | some o =>
      rw [e] at hp
      cases o with
      | none => exact hp.elim
      | some o =>
        obtain ⟨b, hb, hr⟩ := S.live e
        rw [ha] at hb; cases hb
        obtain ⟨s1, e1, nl⟩ := S.kill e ha
        cases o with
        | lst xs =>
          obtain ⟨vs, h1, h2⟩ := hr
          refine hp m (.ref a) H e1 s1 ?_
          show RelW _ _ _ (.lst xs) _
          unfold RelW
          exact ⟨a, vs, rfl, fz_some.mpr ⟨nl, h1⟩, e1.relWs h2⟩
        | dK kvs =>
          obtain ⟨vs, h1, h2⟩ := hr
          refine hp m (.ref a) H e1 s1 ?_
          show RelW _ _ _ (.dK _ _) _
          unfold RelW
          exact ⟨a, vs, rfl, fz_some.mpr ⟨nl, h1⟩, by rw [h2.len, List.length_map, List.length_map], e1.relWs h2⟩
        | ins i fs =>
          obtain ⟨dx, vs, h1, h2⟩ := hr
          dsimp only at hp
          cases e3 : T.cls[i]? with
          | none => rw [e3] at hp; exact hp.elim
          | some d =>
            rw [e3] at hp
            dsimp only at hp
            by_cases hf : d.fields = fs.map (·.1)
            · rw [if_pos hf] at hp
              refine hp m (.ref a) H e1 s1 ?_
              show RelW _ _ _ (.ins i _) _
              have hk : c.kt.cfs i = fs.map (·.1) := (cfs_of e3).trans hf
              unfold RelW
              exact ⟨a, dx, vs, rfl, fz_some.mpr ⟨nl, by rw [hk]; exact h1⟩, by rw [hk, h2.len, List.length_map, List.length_map], e1.relWs h2⟩
            · rw [if_neg hf] at hp; exact hp.elim
  | _ => exact po_pu hp S r
theorem snd_frz (ha : PE X l (rE c F xc xv cx Wx a)) : PE X l (rE c F xc xv cx Wx (.frz a)) := by
  refine PE.mono ha fun σ H Q h => ?_
  obtain ⟨m, env, st, S, hp⟩ := h
  exact ⟨m, env, st, S, po_bd hp fun wx st1 m1 H1 x E1 S1 rx hp1 => frz_ok S1 rx hp1⟩
/-! tests -/
theorem tru_ok {m : List Addr} {st : Store} {H : Hp} {E : XK} {Qb : Bool → Hp → Prop} {w : W} {v : V} (hK : X.K = c.K) (S : SR c.kt m st H) (r : RelW c.kt m (fz m st H) w v) (hp : Po c m st H E rEq_ (tru w st) Qb) : ∃ k, TruV X.K v H k ∧ Qb k H := by
  rw [hK]
  cases w with
  | bl b => rw [rel_bl r]; exact ⟨b, rfl, po_pu hp S rfl⟩
  | non => unfold RelW at r; rw [r]; exact ⟨false, rfl, po_pu hp S rfl⟩
  | int i => rw [rel_int r]; exact ⟨_, rfl, po_pu hp S rfl⟩
  | lst xs =>
    unfold RelW at r
    obtain ⟨a, vs, rfl, h1, h2⟩ := r
    refine ⟨!xs.isEmpty, .inl ⟨vs, SqL.of (fz_same _ _ _ _ _ h1), ?_⟩, po_pu hp S rfl⟩
    have := h2.len
    cases xs <;> cases vs <;> simp_all
  | fro xs =>
    unfold RelW at r
    obtain ⟨a, vs, rfl, h1, h2⟩ := r
    refine ⟨!xs.isEmpty, .inl ⟨vs, fz_sqL h1, ?_⟩, po_pu hp S rfl⟩
    have := h2.len
    cases xs <;> cases vs <;> simp_all
  | tup xs =>
    unfold RelW at r
    obtain ⟨a, vs, rfl, h1, h2⟩ := r
    refine ⟨!xs.isEmpty, .inr (.inl ⟨vs, fz_sqT h1, ?_⟩), po_pu hp S rfl⟩
    have := h2.len
    cases xs <;> cases vs <;> simp_all
  | ref n =>
    obtain ⟨o, p, h1, h2, h3, hp⟩ := po_get hp S
    unfold RelW at r
    obtain ⟨a, rfl, ha⟩ := r
    rw [h2] at ha; cases ha
    cases o with
    | lst xs =>
      obtain ⟨vs, h4, h5⟩ := h3
      refine ⟨!xs.isEmpty, .inl ⟨vs, SqL.of h4, ?_⟩, po_pu hp S rfl⟩
      have := h5.len
      cases xs <;> cases vs <;> simp_all
    | _ => exact hp.elim
  | _ => exact hp.elim
theorem snt_plain (hK : X.K = c.K) (hp0 : plainT l = true) (ha : PE X l (rE c F xc xv cx Wx a)) : PT X l (rT c F xc xv cx Wx (.e a)) := by
  refine PT.mono (pt_truth ha (fun w => isTrue_plain hp0 w)) fun σ H Q h => ?_
  obtain ⟨m, env, st, S, hp⟩ := h
  exact ⟨m, env, st, S, po_bd hp fun wx st1 m1 H1 x E1 S1 rx hp1 => tru_ok hK S1 rx hp1⟩
theorem snt_not {t : TT} (ha : PT X l (rT c F xc xv cx Wx t)) : PT X (.UnaryOp .Not l pos) (rT c F xc xv cx Wx (.not t)) := by
  refine PT.mono (pt_not ha) fun σ H Q h => ?_
  obtain ⟨m, env, st, S, hp⟩ := h
  refine ⟨m, env, st, S, po_bd hp fun q st1 m1 H1 k E1 S1 rx hp1 => ?_⟩
  cases rx
  exact po_pu hp1 S1 rfl
end
end Mi
set_option maxHeartbeats 4000000
set_option autoImplicit false
namespace Mi
open PySem PySem.Spec PyProof.Rows L2
theorem bd_assoc {α β γ : Type} (x : Q α) (f : α → Q β) (g : β → Q γ) : bd (bd x f) g = bd x fun a => bd (f a) g := by
  funext st
  unfold bd
  cases x st <;> rfl
section
variable {T : Tab} {c : Cxt T} {F : Nat → List W → Q W} {xc : Option (Nat × List W)} {xv : Option (Nat × Addr)} {cx : Value × Option Addr} {Wx : WX} {X : Cx}
variable {a b d : TX} {l r z : Expr} {pos : Pos}
theorem tru_bl {m : List Addr} {st : Store} {H : Hp} {E : XK} {Qb : Bool → Hp → Prop} {w : W} {v : V} (S : SR c.kt m st H) (r : RelW c.kt m (fz m st H) w v) (hw : ∃ k, w = .bl k) (hp : Po c m st H E rEq_ (tru w st) Qb) : ∃ k, v = .bl k ∧ Qb k H := by
  obtain ⟨k, rfl⟩ := hw
  exact ⟨k, rel_bl r, po_pu hp S rfl⟩
/-- an operation that gives a bool -/
def OB (g : W → W → Q W) : Prop := ∀ x y st w s, g x y st = .ok w s → ∃ k, w = .bl k
theorem ob_cmp (o : Cop) : OB (opC o) := by
  have dd : ∀ (x y : W) (f : PyData → PyData → Q W), (∀ d e st w s, f d e st = .ok w s → ∃ k, w = .bl k) → ∀ st w s, bd (datQ x) (fun d => bd (datQ y) fun e => f d e) st = .ok w s → ∃ k, w = .bl k := by
    intro x y f hf st w s h
    unfold bd at h
    cases h1 : datQ x st with
    | ok d s1 =>
      rw [h1] at h
      dsimp only at h
      cases h2 : datQ y s1 with
      | ok e s2 => rw [h2] at h; exact hf d e s2 w s h
      | ex i xs s => rw [h2] at h; cases h
      | no => rw [h2] at h; cases h
    | ex i xs s => rw [h1] at h; cases h
    | no => rw [h1] at h; cases h
  intro x y st w s h
  cases o with
  | eq => exact dd x y (fun d e => pu (.bl (PyData.eqv d e))) (fun d e st w s h => by cases h; exact ⟨_, rfl⟩) st w s h
  | ne => exact dd x y (fun d e => pu (.bl (!PyData.eqv d e))) (fun d e st w s h => by cases h; exact ⟨_, rfl⟩) st w s h
  | isin =>
    refine dd x y (fun d e => match e with
      | .list ds => pu (W.bl (ds.any fun z => PyData.eqv z d))
      | .tuple ds => pu (W.bl (ds.any fun z => PyData.eqv z d))
      | _ => no) (fun d e st w s h => ?_) st w s h
    cases e <;> first | (cases h; exact ⟨_, rfl⟩) | (cases h)
  | notin =>
    refine dd x y (fun d e => match e with
      | .list ds => pu (W.bl (!(ds.any fun z => PyData.eqv z d)))
      | .tuple ds => pu (W.bl (!(ds.any fun z => PyData.eqv z d)))
      | _ => no) (fun d e st w s h => ?_) st w s h
    cases e <;> first | (cases h; exact ⟨_, rfl⟩) | (cases h)
  | lt => cases x with
    | int i => cases y with
      | int j => cases h; exact ⟨_, rfl⟩
      | _ => cases h
    | _ => cases h
  | le => cases x with
    | int i => cases y with
      | int j => cases h; exact ⟨_, rfl⟩
      | _ => cases h
    | _ => cases h
  | gt => cases x with
    | int i => cases y with
      | int j => cases h; exact ⟨_, rfl⟩
      | _ => cases h
    | _ => cases h
  | ge => cases x with
    | int i => cases y with
      | int j => cases h; exact ⟨_, rfl⟩
      | _ => cases h
    | _ => cases h
/-- the value of a term that gives a bool, as a test -/
theorem test_of {t : TX} {te : TE} (hb : ∀ env st w s, ev T F xc t env st = .ok w s → ∃ k, w = .bl k)
    (hv : ∀ σ H Q, rE c F xc xv cx Wx t σ H Q → te σ H Q) : ∀ σ H Q, rT c F xc xv cx Wx (.e t) σ H Q → tTest te σ H Q := by
  intro σ H Q h
  obtain ⟨m, env, st, S, hp⟩ := h
  refine hv σ H _ ⟨m, env, st, S, ?_⟩
  have hp : Po c m st H (fun cls d H => Wx cls d σ H) rEq_ (bd (ev T F xc t env) tru st) Q := hp
  cases e : ev T F xc t env st with
  | ok w s =>
    rw [bd_ok e] at hp
    intro m' v H' e1 s1 r1
    exact tru_bl s1 r1 (hb _ _ _ _ e) (po_ext hp e1)
  | ex i xs s => rw [bd_ex e] at hp; exact hp
  | no => unfold bd at hp; rw [e] at hp; exact hp
theorem bd_inv {α β : Type} {x : Q α} {f : α → Q β} {st s : Store} {w : β} (h : bd x f st = .ok w s) : ∃ a s1, x st = .ok a s1 ∧ f a s1 = .ok w s := by
  unfold bd at h
  cases e : x st with
  | ok a s1 => rw [e] at h; exact ⟨a, s1, rfl, h⟩
  | ex i xs s => rw [e] at h; cases h
  | no => rw [e] at h; cases h
theorem snt_cmp {o : Cop} (hK : X.K = c.K) (hu : X.A.units + 65 < cLine) (ha : PE X l (rE c F xc xv cx Wx a)) (hb : PE X r (rE c F xc xv cx Wx b)) (hm : behindInMarks (copOf o) r = false) : PT X (.Compare l [copOf o] [r] pos) (rT c F xc xv cx Wx (.e (.cmp o a b))) := by
  refine PT.mono (pt_cmpR (ops_cmp (c := c) hK hu o) ha hb hm) (test_of (fun env st w s h => ?_) fun σ H Q h => ?_)
  · obtain ⟨x, s1, _, h⟩ := bd_inv h
    obtain ⟨y, s2, _, h⟩ := bd_inv h
    exact ob_cmp o x y _ _ _ h
  · obtain ⟨m, env, st, S, hp⟩ := h
    exact two_vals S hp
theorem snt_isN {k : Nat} {p : Pos} (ha : PE X l (rE c F xc xv cx Wx a)) : PT X (.Compare l [.Is] [.Constant .none k p] pos) (rT c F xc xv cx Wx (.e (.isN a))) := by
  refine PT.mono (pt_cmpR op_isN ha pe_non (nomark _)) (test_of (fun env st w s h => ?_) fun σ H Q h => ?_)
  · obtain ⟨x, s1, _, h⟩ := bd_inv h
    cases x <;> (cases h; exact ⟨_, rfl⟩)
  · obtain ⟨m, env, st, S, hp⟩ := h
    refine ⟨m, env, st, S, po_bd hp fun wx st1 m1 H1 x E1 S1 rx hp1 => ⟨rfl, ?_⟩⟩
    rw [rel_non rx]
    cases wx <;> exact po_bl hp1 S1
theorem snt_ntN {k : Nat} {p : Pos} (ha : PE X l (rE c F xc xv cx Wx a)) : PT X (.Compare l [.IsNot] [.Constant .none k p] pos) (rT c F xc xv cx Wx (.e (.ntN a))) := by
  refine PT.mono (pt_cmpR op_notN ha pe_non (nomark _)) (test_of (fun env st w s h => ?_) fun σ H Q h => ?_)
  · obtain ⟨x, s1, _, h⟩ := bd_inv h
    cases x <;> (cases h; exact ⟨_, rfl⟩)
  · obtain ⟨m, env, st, S, hp⟩ := h
    refine ⟨m, env, st, S, po_bd hp fun wx st1 m1 H1 x E1 S1 rx hp1 => ⟨rfl, ?_⟩⟩
    rw [rel_non rx]
    cases wx <;> exact po_bl hp1 S1
theorem snt_chn {o p : Cop} (hK : X.K = c.K) (hu : X.A.units + 65 < cLine) (ha : PE X l (rE c F xc xv cx Wx a)) (hb : PE X r (rE c F xc xv cx Wx b)) (hd : PE X z (rE c F xc xv cx Wx d)) (hm : lastMarks [copOf o, copOf p] [r, z] = false) :
    PT X (.Compare l [copOf o, copOf p] [r, z] pos) (rT c F xc xv cx Wx (.e (.chn o p a b d))) := by
  refine PT.mono (pt_chain (ops_cmp (c := c) hK hu o) (ops_cmp (c := c) hK hu p) ha hb hd hm) (test_of (fun env st w s h => ?_) fun σ H Q h => ?_)
  · obtain ⟨x, s1, _, h⟩ := bd_inv h
    obtain ⟨y, s2, _, h⟩ := bd_inv h
    obtain ⟨q, s3, e3, h⟩ := bd_inv h
    obtain ⟨k, rfl⟩ := ob_cmp o x y _ _ _ e3
    cases k with
    | true =>
      obtain ⟨z, s4, _, h⟩ := bd_inv h
      exact ob_cmp p y z _ _ _ h
    | false => cases h; exact ⟨_, rfl⟩
  · obtain ⟨m, env, st, S, hp⟩ := h
    refine ⟨m, env, st, S, po_bd hp fun wx st1 m1 H1 x E1 S1 rx hp1 => ?_⟩
    refine ⟨m1, env, st1, S.ext E1 S1, po_bd hp1 fun wy st2 m2 H2 y E2 S2 ry hp2 => ?_⟩
    refine ⟨m2, st2, wx, wy, _, S2, E2.relW rx, ry, po_bd hp2 fun wq st3 m3 H3 q E3 S3 rq hp3 => ?_⟩
    obtain ⟨k, rfl, hp3⟩ := po_isB hp3 rq
    refine ⟨k, rfl, ?_⟩
    cases k with
    | true =>
      refine ⟨m3, env, st3, ((S.ext E1 S1).ext E2 S2).ext E3 S3, po_bd hp3 fun wz st4 m4 H4 z E4 S4 rz hp4 => ?_⟩
      exact ⟨m4, st4, wy, wz, _, S4, E4.relW (E3.relW ry), rz, hp4⟩
    | false => exact po_bl hp3 S3
theorem PW.mono {X : Cx} {e : Expr} {t t' : L2.TT} (h : PW X e t) (f : ∀ σ H Q, t' σ H Q → t σ H Q) : PW X e t' := ⟨fun w pins s σ H Q I q => h.run w pins s σ H Q I (f σ H Q q)⟩
theorem snt_and {t u : TT} {y : Expr} {rs : List Expr} (ha : PT X l (rT c F xc xv cx Wx t)) (hb : PW X (.BoolOp .And (y :: rs) pos) (rT c F xc xv cx Wx u)) : PW X (.BoolOp .And (l :: y :: rs) pos) (rT c F xc xv cx Wx (.and t u)) := by
  refine PW.mono (pw_and ha hb) fun σ H Q h => ?_
  obtain ⟨m, env, st, S, hp⟩ := h
  refine ⟨m, env, st, S, po_bd hp fun q st1 m1 H1 k E1 S1 rx hp1 => ?_⟩
  cases rx
  cases q with
  | true => exact ⟨m1, env, st1, S.ext E1 S1, hp1⟩
  | false => exact po_pu hp1 S1 rfl
theorem snt_or {t u : TT} {y : Expr} {rs : List Expr} (ha : PT X l (rT c F xc xv cx Wx t)) (hb : PW X (.BoolOp .Or (y :: rs) pos) (rT c F xc xv cx Wx u)) : PW X (.BoolOp .Or (l :: y :: rs) pos) (rT c F xc xv cx Wx (.or t u)) := by
  refine PW.mono (pw_or ha hb) fun σ H Q h => ?_
  obtain ⟨m, env, st, S, hp⟩ := h
  refine ⟨m, env, st, S, po_bd hp fun q st1 m1 H1 k E1 S1 rx hp1 => ?_⟩
  cases rx
  cases q with
  | true => exact po_pu hp1 S1 rfl
  | false => exact ⟨m1, env, st1, S.ext E1 S1, hp1⟩

/-! ## calls -/
/-- what a def promises: what F says -/
def spT (c : Cxt T) (F : Nat → List W → Q W) (f np : Nat) : Sp := fun vs H Qv E => vs.length = np ∧ ∃ m st ws, SR c.kt m st H ∧ RelWs c.kt m (fz m st H) ws vs ∧ Po c m st H E (rW c) (F f ws st) Qv
/-- the context of a body -/
structure Gd (c : Cxt T) (F : Nat → List W → Q W) (X : Cx) (Wx : WX) (lv : Nat) : Prop where
  prog : X.prog = c.P
  w : X.w = c.w
  K : X.K = c.K
  mg : X.mg = c.mg
  base : X.base = c.base
  nd : X.N.Nodup
  un : X.A.units + 65 < cLine
  takes : Takes X Wx
  calm : X.calm = true
  room : Room (lv + 1) X.A
  fns : ∀ (f : Nat) (d : Fd), T.fns[f]? = some d → FnOk c.P c.w c.K c.mg c.base (L2.CX c.P c.w) lv (c.fad f) (c.ffd f) (d.N.take d.np) (spT c F f d.np)
  fns' : ∀ (f : Nat) (ws : List W) (st : Store), F f ws st ≠ .no → ∃ d : Fd, T.fns[f]? = some d ∧ ws.length = d.np
  np : ∀ (f : Nat) (d : Fd), T.fns[f]? = some d → d.np ≤ d.N.length
variable {lv : Nat}
theorem Gd.fn (G : Gd c F X Wx lv) {f : Nat} {d : Fd} (h : T.fns[f]? = some d) : FnOk X.prog X.w X.K X.mg X.base (L2.CX X.prog X.w) lv (c.fad f) (c.ffd f) (d.N.take d.np) (spT c F f d.np) := by
  rw [G.prog, G.w, G.K, G.mg, G.base]
  exact G.fns f d h
theorem po_spT (G : Gd c F X Wx lv) {f : Nat} {d : Fd} (hd : T.fns[f]? = some d) {m : List Addr} {st : Store} {H : Hp} {E : XK} {ws : List W} {vs : List V} {Qv : VK} (S : SR c.kt m st H) (r : RelWs c.kt m (fz m st H) ws vs) (hp : Po c m st H E (rW c) (F f ws st) Qv) : spT c F f d.np vs H Qv E := by
  obtain ⟨d', h1, h2⟩ := G.fns' f ws st (po_ne hp)
  rw [hd] at h1; cases h1
  exact ⟨by rw [r.len]; exact h2, m, st, ws, S, r, hp⟩
theorem snd_call (st0 : Stat c) (G : Gd c F X Wx lv) {f : Nat} {dd : Fd} {x : Str} {p : Pos} {es : List Expr} {ts : TXs} (hd : T.fns[f]? = some dd) (hat : dd.at_ = (x, none)) (hg : Gl X x) (hdb : (x == ("__debug__" : Str)) = false)
    (h0 : es = [] → ts = .nil) (hst : ∀ e ∈ es, noStar e = true) (ha : PA X es (rA c F xc xv cx Wx ts)) : PE X (.Call (.Name x p) es [] pos) (rE c F xc xv cx Wx (.call f ts)) := by
  obtain ⟨hm, hk⟩ := st0.glo f dd x hd hat
  have hm : X.mg x = some (.ref (c.fad f)) := by rw [G.mg]; exact hm
  have hk : PySem.W.keepIn X.K (.ref (c.fad f)) = true := by rw [G.K]; exact hk
  have hb : Binds X.K (c.ffd f) (dd.N.take dd.np) [] := by rw [G.K]; exact st0.bnd f dd hd
  refine ⟨fun pins s σ H Q I h => ?_⟩
  obtain ⟨m, env, st, S, hp⟩ := h
  refine wpAny_Call_Name_kw (ld_glob I hg hm ?_ hdb)
  cases es with
  | nil =>
    refine PySem.W.callWith_K0 I.kIn hk ?_
    have hn : ts = .nil := h0 rfl
    subst hn
    exact run_fnS (E := WE Wx) (us := []) (vs := []) (G.fn hd) (G.room.mono (by omega)) hb (passAt G.takes σ) I .nil (po_spT G hd (ws := []) S.sr RelWs.nil hp)
  | cons e es =>
    have hA : rA c F xc xv cx Wx ts σ H (fun vs H1 => spT c F f dd.np vs H1 Q (WE Wx σ)) := ⟨m, env, st, S, po_bd hp fun ws st1 m1 H1 vs E1 S1 rs hp1 => po_spT G hd S1 rs hp1⟩
    refine PySem.W.callWith_K (h₀ := X.base) I.ok.mod.kin hk (thn (ha.run pos pins s σ H _ I hA) fun us s1 ⟨vs, H1, I1, r, q⟩ => ⟨I1.kIn, ?_⟩) (star_cons (hst e List.mem_cons_self) es X.env) (star_any fun z hz => hst z (List.mem_cons_of_mem _ hz))
    exact run_fnS (E := WE Wx) (G.fn hd) (G.room.mono (by omega)) hb (passAt G.takes σ) I1 r q
theorem lookup_none {ns : List Str} {vs : List V} {mn : Str} (h : mn ∉ ns) : (ns.zip vs).lookup mn = none := by
  cases e : (ns.zip vs).lookup mn with
  | none => rfl
  | some v => exact absurd (List.of_mem_zip (PySem.mem_of_lookup e)).1 h
theorem lookup_keys {fs : List (Str × W)} {vs : List V} {mn : Str} (h : (fs.lookup mn).isNone = true) : ((fs.map (·.1)).zip vs).lookup mn = none := by
  refine lookup_none fun hm => ?_
  obtain ⟨p, hp, e⟩ := List.mem_map.mp hm
  cases q : fs.lookup mn with
  | none =>
    have := List.lookup_eq_none_iff.mp q p hp
    rw [← e] at this
    simp at this
  | some v => rw [q] at h; cases h
theorem snd_mth (st0 : Stat c) (G : Gd c F X Wx lv) {f : Nat} {dd : Fd} {mn : Str} {apos : Pos} {es : List Expr} {ts : TXs} (hd : T.fns[f]? = some dd) (hat : dd.at_.2 = some mn) (hs : noSup l = true) (hl : (apos.endLine == pos.line) = true) (hn : es.length < 20)
    (h0 : es = [] → ts = .nil) (hst : ∀ e ∈ es, noStar e = true) (ho : PE X l (rE c F xc xv cx Wx a)) (ha : PA X es (rA c F xc xv cx Wx ts)) : PE X (.Call (.Attribute l mn apos) es [] pos) (rE c F xc xv cx Wx (.mth f a ts)) := by
  have hb : Binds X.K (c.ffd f) (dd.N.take dd.np) [] := by rw [G.K]; exact st0.bnd f dd hd
  refine ⟨fun pins s σ H Q I h => ?_⟩
  obtain ⟨m, env, st, S, hp⟩ := h
  have hO : rE c F xc xv cx Wx a σ H (fun x H1 => ∃ (i : Nat) (cd : Cd) (p dx : Addr) (fs : List (Str × V)), x = .ref p ∧ H1 p = some (.ins (c.cad i) dx fs) ∧ T.cls[i]? = some cd ∧ dd.at_ = (cd.name, some mn) ∧ fs.lookup mn = none ∧
      ∃ m1 st1 w, Sim c xc xv cx m1 env st1 σ H1 ∧ RelW c.kt m1 (fz m1 st1 H1) w x ∧ Po c m1 st1 H1 (fun cls d H => Wx cls d σ H) (rW c) (bd (evs T F xc ts env) (fun ws => F f (w :: ws)) st1) Q) := by
    refine ⟨m, env, st, S, po_bd hp fun w st1 m1 H1 x E1 S1 rx hp1 => ?_⟩
    unfold mthW at hp1
    rw [hd] at hp1
    dsimp only at hp1
    rw [hat] at hp1
    dsimp only at hp1
    have fin : ∀ i : Nat, Po c m1 st1 H1 (fun cls d H => Wx cls d σ H) (rW c) ((match T.cls[i]? with
      | some cd => if cd.name = dd.at_.1 then bd (evs T F xc ts env) fun ws => F f (w :: ws) else no
      | none => no) st1) Q → ∃ cd : Cd, T.cls[i]? = some cd ∧ dd.at_ = (cd.name, some mn) ∧ Po c m1 st1 H1 (fun cls d H => Wx cls d σ H) (rW c) (bd (evs T F xc ts env) (fun ws => F f (w :: ws)) st1) Q := by
      intro i hq
      cases e : T.cls[i]? with
      | none => rw [e] at hq; exact hq.elim
      | some cd =>
        rw [e] at hq
        dsimp only at hq
        by_cases hc : cd.name = dd.at_.1
        · rw [if_pos hc] at hq
          refine ⟨cd, rfl, ?_, hq⟩
          rw [hc, ← hat]
        · rw [if_neg hc] at hq; exact hq.elim
    cases w with
    | ins i xs =>
      obtain ⟨cd, h1, h2, h3⟩ := fin i hp1
      have rx0 := rx
      unfold RelW at rx
      obtain ⟨p, dx, vs, rfl, h4, h5, h6⟩ := rx
      refine ⟨i, cd, p, dx, _, rfl, fz_same _ _ _ _ _ h4, h1, h2, ?_, m1, st1, _, S.ext E1 S1, rx0, h3⟩
      rw [cfs_of h1]
      exact lookup_none (st0.mth f dd mn i cd hd h2 h1).2
    | ref n =>
      unfold recv at hp1
      rw [bd_assoc] at hp1
      obtain ⟨o, p, h4, h5, h6, hp1⟩ := po_get hp1 S1
      cases o with
      | ins i fs =>
        dsimp only at hp1
        cases e : (fs.lookup mn).isNone with
        | false => rw [e] at hp1; exact hp1.elim
        | true =>
          rw [e] at hp1
          obtain ⟨cd, h1, h2, h3⟩ := fin i hp1
          have rx0 := rx
          unfold RelW at rx
          obtain ⟨q, rfl, hq⟩ := rx
          rw [h5] at hq; cases hq
          obtain ⟨dx, vs, h7, h8⟩ := h6
          exact ⟨i, cd, p, dx, _, rfl, h7, h1, h2, lookup_keys e, m1, st1, _, S.ext E1 S1, rx0, h3⟩
      | _ => exact hp1.elim
    | _ => exact hp1.elim
  refine PySem.W.methodCall_KW (thn (ho.run pins s σ H _ I hO) fun u s1 hx => ?_) (meth_form hs hl hst hn)
  obtain ⟨x, H1, I1, rx, i, cd, p, dx, fs, ex, ep, hcd, hdat, hlk, m1, st1, w, S1, rw1, hp1⟩ := hx
  subst ex
  obtain rfl : u = Value.ref p := rx
  have hme : Meth X.K (c.cad i) mn (c.fad f) := by rw [G.K]; exact (st0.mth f dd mn i cd hd hdat hcd).1
  refine getmeth_ok I1 ep (by rw [G.K]; exact st0.cls i cd hcd) hme hlk ?_
  cases es with
  | nil =>
    have hn : ts = .nil := h0 rfl
    subst hn
    refine PySem.W.callWith_K0 (first := [.ref p]) I1.kIn hme.kp ?_
    exact run_fnS (E := WE Wx) (us := [.ref p]) (vs := [.ref p]) (G.fn hd) (G.room.mono (by omega)) hb (passAt G.takes σ) I1 (.cons rfl .nil) (po_spT G hd (ws := [w]) S1.sr (RelWs.cons rw1 RelWs.nil) hp1)
  | cons e es =>
    have hA : rA c F xc xv cx Wx ts σ H1 (fun vs H2 => spT c F f dd.np (.ref p :: vs) H2 Q (WE Wx σ)) :=
      ⟨m1, env, st1, S1, po_bd hp1 fun ws st2 m2 H2 vs E2 S2 rs hp2 => po_spT G hd S2 (RelWs.cons (E2.relW rw1) rs) hp2⟩
    refine PySem.W.callWith_K (first := [.ref p]) (h₀ := X.base) I.ok.mod.kin hme.kp (thn (ha.run pos pins s1 σ H1 _ I1 hA) fun us s2 ⟨vs, H2, I2, r, q⟩ => ⟨I2.kIn, ?_⟩) (star_cons (hst e List.mem_cons_self) es X.env) (star_any fun z hz => hst z (List.mem_cons_of_mem _ hz))
    exact run_fnS (E := WE Wx) (us := .ref p :: us) (vs := .ref p :: vs) (G.fn hd) (G.room.mono (by omega)) hb (passAt G.takes σ) I2 (.cons rfl r) q
end
end Mi
set_option maxHeartbeats 4000000
set_option autoImplicit false
namespace Mi
open PySem PySem.Spec PyProof.Rows L2
theorem SR.cut2 {k : Kt} {m m' : List Addr} {st st' : Store} {H H' : Hp} (S : SR k m st H) (E : Ext m st H m' st' H') (S' : SR k m' st' H') :
    (∀ (i : Nat) (a : Addr), i < st.length → m'[i]? = some a → m[i]? = some a) ∧ Same (fz m' st' H') (fz m (st'.take st.length) H') := by
  obtain ⟨l, em⟩ := E.pre
  have sub : ∀ a, Live m (st'.take st.length) a → Live m' st' a := fun a ⟨n, o, h1, h2⟩ => by
    have hn : n < st.length := by
      obtain ⟨hn, _⟩ := List.getElem?_eq_some_iff.mp h1
      rw [← S.len]; exact hn
    rw [List.getElem?_take_of_lt hn] at h2
    exact ⟨n, o, E.ix n a h1, h2⟩
  refine ⟨fun i a hi h => ?_, fun a o q => ?_⟩
  · rw [em, List.getElem?_append_left (by rw [S.len]; exact hi)] at h; exact h
  · obtain ⟨q1, q2⟩ := fz_some.mp q
    exact fz_some.mpr ⟨fun z => q1 (sub a z), q2⟩
section
variable {T : Tab} {c : Cxt T} {F : Nat → List W → Q W} {xc : Option (Nat × List W)} {xv : Option (Nat × Addr)} {cx : Value × Option Addr} {Wx : WX} {X : Cx}
variable {a b d : TX} {l r z : Expr} {pos : Pos} {lv : Nat}
theorem po_cut {m : List Addr} {st : Store} {H : Hp} {E : XK} {Qv : VK} {r : R W} (S : SR c.kt m st H) (h : Po c m st H E (rW c) (cut st r) Qv) : Po c m st H E (rW c) r Qv := by
  cases r with
  | ok w s =>
    intro m' v H' e1 s1 rv
    unfold cut at h
    dsimp only at h
    by_cases hc : cutOk st s ∧ W.clo st.length w = true
    · rw [if_pos hc] at h
      obtain ⟨s2, e2, k⟩ := S.cut e1 s1 hc.1
      exact h m v H' e2 s2 (k w v hc.2 rv)
    · rw [if_neg hc] at h
      exact h m' v H' e1 s1 rv
  | ex i xs s =>
    intro m' cls d H' e1 s1 rv
    unfold cut at h
    dsimp only at h
    by_cases hc : cutOk st s ∧ W.clos st.length xs = true
    · rw [if_pos hc] at h
      obtain ⟨s2, e2, _⟩ := S.cut e1 s1 hc.1
      obtain ⟨hm, sm⟩ := S.cut2 e1 s1
      refine h m cls d H' e2 s2 ?_
      obtain ⟨e, x, hx, q⟩ := rv
      refine ⟨e, x, hx, ?_⟩
      rcases q with q | ⟨dd, fs, vs, e1, e2, e4, e3, r⟩
      · exact .inl q
      · exact .inr ⟨dd, fs, vs, e1, sm _ _ e2, e4, e3, r.less hm sm hc.2⟩
    · rw [if_neg hc] at h
      exact h m' cls d H' e1 s1 rv
  | no => exact h
/-- a new instance, what is raised wished for at the slots -/
theorem run_makeS {CX : CXT} {k : Nat} {f C : Addr} {fd : FuncData} {ps : List Str} {sp : Sp} {E : L2.St → XK} {pins : List (Addr × Obj)} {σ : L2.St} {H : Hp} {s : Shared} {Q : VK} {us : List Value} {vs : List V} (M : Mk X.K C f) (F : FnOk X.prog X.w X.K X.mg X.base CX k f fd ps sp) (hr : Room (k + 1) X.A) (hb : Binds X.K fd ps [])
    (hx : PassesAt CX X σ (E σ)) (I : Inv X pins σ H s) (r : Vals vs us)
    (h : ∀ x dx, H x = none → H dx = none → dx ≠ x → sp (.ref x :: vs) (upd (upd H dx (.own x)) x (.ins C dx [])) (fun v H2 => v = .non ∧ Q (.ref x) H2) (E σ)) :
    wpAny (model X.prog X.w) X.A (call (.ref C) us) (EP X pins σ Q) X.xe s := by
  have hq := h (s.heap.objs.size + 1) s.heap.objs.size (I.hok.fresh (Nat.le_succ _)) (I.hok.fresh (Nat.le_refl _)) (Nat.ne_of_lt (Nat.lt_succ_self _))
  have I2 := Inv.made (C := C) I
  have r2 : Vals (V.ref (s.heap.objs.size + 1) :: vs) (Value.ref (s.heap.objs.size + 1) :: us) := .cons rfl r
  have hl : (Value.ref (s.heap.objs.size + 1) :: us).length = ps.length := by
    have e := r2.length
    rw [F.len _ _ _ _ hq] at e
    exact e.symm
  have b := hb _ (Value.ref (s.heap.objs.size + 1) :: us) I2.kIn (by rw [List.append_nil]; exact hl)
  rw [List.append_nil] at b
  refine wpAny_call (make_map (f := f) I.kIn M.makes M.init (beq_iff_eq.mp M.fn) (codeAny_mono (F.run _ X.stack _ _ ⟨Value.ref (s.heap.objs.size + 1) :: us, []⟩ (Value.ref (s.heap.objs.size + 1) :: us) _ _ (E σ) (hr.make C us [])
    (I2.env0.make C us []) b r2 hq) fun r s' hq' => ?_))
  cases r with
  | error e => exact hx pins _ _ e s' I2 hq'
  | ok fl =>
    cases fl with
    | ret u =>
      obtain ⟨v, H', I3, rv, ev, q3⟩ := I2.after hq'
      subst ev
      exact ⟨rv, ⟨V.ref (s.heap.objs.size + 1), H', I3, rfl, q3⟩⟩
    | next => exact False.elim hq'
    | brk => exact False.elim hq'
    | cont => exact False.elim hq'
theorem mk_ok (G : Gd c F X Wx lv) {f : Nat} {dd : Fd} {x : Str} (hd : T.fns[f]? = some dd) (hat : dd.at_ = (x, some ("__init__" : Str))) {m : List Addr} {st : Store} {H : Hp} {E : XK} {Qv : VK} {ws : List W} {vs : List V} (S : SR c.kt m st H) (r : RelWs c.kt m (fz m st H) ws vs)
    (hp : Po c m st H E (rW c) (mkI T F f ws st) Qv) : ∃ (i : Nat) (cd : Cd), T.cls[i]? = some cd ∧ cd.name = x ∧ ∀ y dx, H y = none → H dx = none → dx ≠ y → spT c F f dd.np (.ref y :: vs) (upd (upd H dx (.own y)) y (.ins (c.cad i) dx [])) (fun v H2 => v = .non ∧ Qv (.ref y) H2) E := by
  unfold mkI at hp
  rw [hd] at hp
  dsimp only at hp
  cases e1 : T.cls.findIdx? (fun c => c.name == dd.at_.1) with
  | none => rw [e1] at hp; exact hp.elim
  | some i =>
    rw [e1] at hp
    dsimp only at hp
    cases e2 : T.cls[i]? with
    | none => rw [e2] at hp; exact hp.elim
    | some cd =>
      rw [e2] at hp
      dsimp only at hp
      have hname : cd.name = x := by
        obtain ⟨hi, h1, _⟩ := List.findIdx?_eq_some_iff_getElem.mp e1
        have : T.cls[i] = cd := by
          rw [List.getElem?_eq_getElem hi] at e2
          exact Option.some.inj e2
        rw [this, hat] at h1
        simpa using h1
      refine ⟨i, cd, e2, hname, fun y dx hy hdx hne => ?_⟩
      have hp := po_cut S hp
      obtain ⟨s1, x1⟩ := S.laid (p := dx) (o := .own y) hdx
      have hy1 : upd H dx (.own y) y = none := by rw [upd_ne (Ne.symm hne)]; exact hy
      obtain ⟨s2, x2⟩ := s1.push (p := y) (o := .ins i []) (ho := .ins (c.cad i) dx []) hy1 ⟨dx, [], upd_same, RelWs.nil⟩
      have x12 := x1.trans x2
      refine po_spT G hd (ws := .ref st.length :: ws) s2 (RelWs.cons ?_ (x12.relWs r)) ?_
      · unfold RelW
        exact ⟨y, rfl, by rw [← S.len]; simp⟩
      · cases e3 : F f (.ref st.length :: ws) (st ++ [some (.ins i [])]) with
        | no => rw [e3] at hp; exact hp.elim
        | ex j xs s => rw [e3] at hp; exact po_ext hp x12
        | ok w s =>
          rw [e3] at hp
          cases w with
          | non =>
            intro m' v H' x3 s3 rv
            unfold RelW at rv
            refine ⟨rv, ?_⟩
            have x13 := x12.trans x3
            have rr : RelW c.kt m' (fz m' s H') (.ref st.length) (.ref y) := by
              unfold RelW
              exact ⟨y, rfl, x3.ix _ _ (by rw [← S.len]; simp)⟩
            dsimp only at hp
            cases hst : cd.stays with
            | true =>
              rw [hst] at hp
              exact frz_ok s3 rr (po_ext hp x13)
            | false =>
              rw [hst] at hp
              exact po_pu (po_ext hp x13) s3 rr
          | _ => exact hp.elim
theorem snd_new (st0 : Stat c) (G : Gd c F X Wx lv) {f : Nat} {dd : Fd} {x : Str} {p : Pos} {es : List Expr} {ts : TXs} (hd : T.fns[f]? = some dd) (hat : dd.at_ = (x, some ("__init__" : Str))) (hg : Gl X x) (hdb : (x == ("__debug__" : Str)) = false)
    (h0 : es = [] → ts = .nil) (hst : ∀ e ∈ es, noStar e = true) (ha : PA X es (rA c F xc xv cx Wx ts)) (hcl : ∃ (i : Nat) (cd : Cd), T.cls[i]? = some cd ∧ cd.name = x ∧ ∀ (j : Nat) (d2 : Cd), T.cls[j]? = some d2 → d2.name = x → j = i) : PE X (.Call (.Name x p) es [] pos) (rE c F xc xv cx Wx (.new f ts)) := by
  obtain ⟨i, cd, hi, hnm, huni⟩ := hcl
  obtain ⟨hM, hm⟩ := st0.mak f dd i cd hd (by rw [hnm]; exact hat) hi
  rw [hnm] at hm
  have hm : X.mg x = some (.ref (c.cad i)) := by rw [G.mg]; exact hm
  have hM : Mk X.K (c.cad i) (c.fad f) := by rw [G.K]; exact hM
  have hb : Binds X.K (c.ffd f) (dd.N.take dd.np) [] := by rw [G.K]; exact st0.bnd f dd hd
  refine ⟨fun pins s σ H Q I h => ?_⟩
  obtain ⟨m, env, st, S, hp⟩ := h
  have key : ∀ {m1 : List Addr} {st1 : Store} {H1 : Hp} {ws : List W} {vs : List V}, SR c.kt m1 st1 H1 → RelWs c.kt m1 (fz m1 st1 H1) ws vs → Po c m1 st1 H1 (fun cls d H => Wx cls d σ H) (rW c) (mkI T F f ws st1) Q →
      ∀ y dx, H1 y = none → H1 dx = none → dx ≠ y → spT c F f dd.np (.ref y :: vs) (upd (upd H1 dx (.own y)) y (.ins (c.cad i) dx [])) (fun v H2 => v = .non ∧ Q (.ref y) H2) (WE Wx σ) := by
    intro m1 st1 H1 ws vs S1 r1 hp1
    obtain ⟨j, d2, h1, h2, h3⟩ := mk_ok G hd hat S1 r1 hp1
    have := huni j d2 h1 h2
    subst this
    exact h3
  refine wpAny_Call_Name_kw (ld_glob I hg hm ?_ hdb)
  cases es with
  | nil =>
    refine PySem.W.callWith_K0 I.kIn hM.kp ?_
    have hn : ts = .nil := h0 rfl
    subst hn
    exact run_makeS (E := WE Wx) (us := []) (vs := []) hM (G.fn hd) G.room hb (passAt G.takes σ) I .nil (key S.sr RelWs.nil hp)
  | cons e es =>
    have hA : rA c F xc xv cx Wx ts σ H (fun vs H1 => ∀ y dx, H1 y = none → H1 dx = none → dx ≠ y → spT c F f dd.np (.ref y :: vs) (upd (upd H1 dx (.own y)) y (.ins (c.cad i) dx [])) (fun v H2 => v = .non ∧ Q (.ref y) H2) (WE Wx σ)) :=
      ⟨m, env, st, S, po_bd hp fun ws st1 m1 H1 vs E1 S1 rs hp1 => key S1 rs hp1⟩
    refine PySem.W.callWith_K (h₀ := X.base) I.ok.mod.kin hM.kp (thn (ha.run pos pins s σ H _ I hA) fun us s1 ⟨vs, H1, I1, r, q⟩ => ⟨I1.kIn, ?_⟩) (star_cons (hst e List.mem_cons_self) es X.env) (star_any fun z hz => hst z (List.mem_cons_of_mem _ hz))
    exact run_makeS (E := WE Wx) hM (G.fn hd) G.room hb (passAt G.takes σ) I1 r q
end
end Mi
set_option maxHeartbeats 4000000
set_option autoImplicit false
namespace Mi
open PySem PySem.Spec PyProof.Rows L2
section
variable {T : Tab} {c : Cxt T} {F : Nat → List W → Q W} {xc : Option (Nat × List W)} {xv : Option (Nat × Addr)} {cx : Value × Option Addr} {Wx : WX} {X : Cx}
variable {a b d : TX} {l r z : Expr} {pos : Pos} {lv : Nat}
/-! ## built-in functions, called -/
theorem all_cons {e : Expr} {es : List Expr} (h : ∀ x ∈ e :: es, noStar x = true) : noStar e = true ∧ ∀ x ∈ es, noStar x = true := ⟨h e List.mem_cons_self, fun x hx => h x (List.mem_cons_of_mem _ hx)⟩
theorem snd_biF {x : Str} {id : String} {g : List W → Q W} {p : Pos} {e : Expr} {es : List Expr} {ts : TXs} {t : TX} (hc : CaS c X (.builtin id) g) (hg : Gl X x) (hm : X.mg x = none) (hv : bootBuiltins x = some (.builtin id)) (hn : x ≠ "__name__") (hdb : (x == ("__debug__" : Str)) = false)
    (hst : ∀ y ∈ e :: es, noStar y = true) (ha : PA X (e :: es) (rA c F xc xv cx Wx ts)) (ht : ∀ env, ev T F xc t env = bd (evs T F xc ts env) g) : PE X (.Call (.Name x p) (e :: es) [] pos) (rE c F xc xv cx Wx t) := by
  refine PE.mono (pe_callB hc hg hm hv ha hn hdb (star_cons (all_cons hst).1 es X.env) (star_any (all_cons hst).2)) fun σ H Q h => ?_
  obtain ⟨m, env, st, S, hp⟩ := h
  rw [ht] at hp
  exact ⟨m, env, st, S, po_bd hp fun ws st1 m1 H1 vs E1 S1 rs hp1 => ⟨m1, st1, ws, _, S1, rs, hp1⟩⟩
theorem snd_biT {x : Str} {id : String} {g : List W → Q W} {p : Pos} {e : Expr} {es : List Expr} {ts : TXs} {t : TX} (hc : CaS c X (.type id) g) (hg : Gl X x) (hm : X.mg x = none) (hv : bootBuiltins x = some (.type id)) (hn : x ≠ "__name__") (hdb : (x == ("__debug__" : Str)) = false)
    (hst : ∀ y ∈ e :: es, noStar y = true) (ha : PA X (e :: es) (rA c F xc xv cx Wx ts)) (ht : ∀ env, ev T F xc t env = bd (evs T F xc ts env) g) : PE X (.Call (.Name x p) (e :: es) [] pos) (rE c F xc xv cx Wx t) := by
  refine PE.mono (pe_callTy hc hg hm hv ha hn hdb (star_cons (all_cons hst).1 es X.env) (star_any (all_cons hst).2)) fun σ H Q h => ?_
  obtain ⟨m, env, st, S, hp⟩ := h
  rw [ht] at hp
  exact ⟨m, env, st, S, po_bd hp fun ws st1 m1 H1 vs E1 S1 rs hp1 => ⟨m1, st1, ws, _, S1, rs, hp1⟩⟩
theorem snd_bi (st0 : Stat c) (G : Gd c F X Wx lv) {bb : Bi} (hbb : bb ≠ .isBool) {p : Pos} {e : Expr} {es : List Expr} {ts : TXs} (hg : Gl X (biName bb)) (hst : ∀ y ∈ e :: es, noStar y = true) (ha : PA X (e :: es) (rA c F xc xv cx Wx ts)) :
    PE X (.Call (.Name (biName bb) p) (e :: es) [] pos) (rE c F xc xv cx Wx (.bi bb ts)) := by
  have bl : ∀ x ∈ bltNames, X.mg x = none := fun x hx => by rw [G.mg]; exact st0.blt x hx
  cases bb with
  | len => exact snd_biF (cas_len G.K) hg (bl _ (by decide +kernel)) (by decide +kernel) (by decide +kernel) (by decide +kernel) hst ha fun _ => rfl
  | int => exact snd_biT cas_int hg (bl _ (by decide +kernel)) (by decide +kernel) (by decide +kernel) (by decide +kernel) hst ha fun _ => rfl
  | abs => exact snd_biF cas_abs hg (bl _ (by decide +kernel)) (by decide +kernel) (by decide +kernel) (by decide +kernel) hst ha fun _ => rfl
  | min2 => exact snd_biF (cas_min2 G.calm) hg (bl _ (by decide +kernel)) (by decide +kernel) (by decide +kernel) (by decide +kernel) hst ha fun _ => rfl
  | max2 => exact snd_biF (cas_max2 G.calm) hg (bl _ (by decide +kernel)) (by decide +kernel) (by decide +kernel) (by decide +kernel) hst ha fun _ => rfl
  | min1 => exact snd_biF (cas_min1 G.K G.calm) hg (bl _ (by decide +kernel)) (by decide +kernel) (by decide +kernel) (by decide +kernel) hst ha fun _ => rfl
  | max1 => exact snd_biF (cas_max1 G.K G.calm) hg (bl _ (by decide +kernel)) (by decide +kernel) (by decide +kernel) (by decide +kernel) hst ha fun _ => rfl
  | sum => exact snd_biF (cas_sum G.K G.calm) hg (bl _ (by decide +kernel)) (by decide +kernel) (by decide +kernel) (by decide +kernel) hst ha fun _ => rfl
  | sorted μ => cases μ <;> exact snd_biF (cas_sorted G.K _) hg (bl _ (by decide +kernel)) (by decide +kernel) (by decide +kernel) (by decide +kernel) hst ha fun _ => rfl
  | list μ => cases μ <;> exact snd_biT (cas_list G.K _) hg (bl _ (by decide +kernel)) (by decide +kernel) (by decide +kernel) (by decide +kernel) hst ha fun _ => rfl
  | tuple => exact snd_biT (cas_tuple G.K) hg (bl _ (by decide +kernel)) (by decide +kernel) (by decide +kernel) (by decide +kernel) hst ha fun _ => rfl
  | all => exact snd_biF (cas_all G.K G.calm) hg (bl _ (by decide +kernel)) (by decide +kernel) (by decide +kernel) (by decide +kernel) hst ha fun _ => rfl
  | any => exact snd_biF (cas_any G.K G.calm) hg (bl _ (by decide +kernel)) (by decide +kernel) (by decide +kernel) (by decide +kernel) hst ha fun _ => rfl
  | isBool => exact absurd rfl hbb
/-- isinstance(e, bool) -/
theorem snd_isBool (st0 : Stat c) (G : Gd c F X Wx lv) {p p2 : Pos} (hg : Gl X "isinstance") (hg2 : Gl X "bool") (hst : noStar l = true) (ha : PE X l (rE c F xc xv cx Wx a)) :
    PE X (.Call (.Name "isinstance" p) [l, .Name "bool" p2] [] pos) (rE c F xc xv cx Wx (.bi .isBool (.cons a .nil))) := by
  have bl : ∀ x ∈ bltNames, X.mg x = none := fun x hx => by rw [G.mg]; exact st0.blt x hx
  have hc : CallR X (.builtin "isinstance") (fun xs H Q => ∃ k, xs = [.bl k, .ty "bool"] ∧ Q (.bl true) H) := by
    intro pins s σ H xs us Q I r h
    obtain ⟨k, rfl, q⟩ := h
    obtain ⟨u1, u2, rfl, r1, r2⟩ := vals2 r
    cases r2
    have e : PySem.W.kitOne X.K (.type "bool") (.type "bool") = some true := if_pos (beq_self_eq_true _)
    exact isinst_ok I r1 (.bl k) e fun tk => ⟨.bl true, H, I.kept (t' := tk) fun _ _ z => z, rfl, q⟩
  refine PE.mono (pe_callB hc hg (bl _ (by decide +kernel)) (by decide +kernel) (pa_cons ha (pa_cons (pe_bltn (v := .ty "bool") hg2 (bl _ (by decide +kernel)) (u := .type "bool") (by decide +kernel) rfl) pa_nil) (star_cons hst _ _)) (by decide +kernel) (by decide +kernel) (star_cons hst _ _)) fun σ H Q h => ?_
  obtain ⟨m, env, st, S, hp⟩ := h
  have hp : Po c m st H (fun cls d H => Wx cls d σ H) (rW c) (bd (ev T F xc a env) (fun w => biW .isBool [w]) st) Q := by
    have e : ev T F xc (.bi .isBool (.cons a .nil)) env = bd (ev T F xc a env) (fun w => biW .isBool [w]) := by
      show bd (bd (ev T F xc a env) fun w => bd (pu []) fun ws => pu (w :: ws)) (biW .isBool) = _
      rw [bd_assoc]
      rfl
    rw [e] at hp
    exact hp
  refine ⟨m, env, st, S, po_bd hp fun w st1 m1 H1 x E1 S1 rx hp1 => ?_⟩
  cases w with
  | bl k => rw [rel_bl rx]; exact ⟨k, rfl, po_bl hp1 S1⟩
  | _ => exact hp1.elim

/-! ## methods of built-in types -/
/-- the value's type and that it has no attributes of its own -/
def TyD (X : Cx) (H : Hp) (x : V) (Ty : String) : Prop := ∀ (pins : List (Addr × Obj)) (σ : L2.St) (s : Shared) (v : Value), Inv X pins σ H s → RelV x v → s.TypeIs v Ty ∧ ∀ q, v = .ref q → ∃ ob, s.heap.get? q = some ob ∧ ob.dict = none
theorem tyd_list {H : Hp} {p : Addr} {xs : List V} (h : SqL X.K H p xs) : TyD X H (.ref p) "list" := fun pins σ s v I r => tyV_is I r (.inl ⟨rfl, xs, h⟩)
theorem tyd_tup {H : Hp} {p : Addr} {xs : List V} (h : FzT X.K H p xs) : TyD X H (.ref p) "tuple" := fun pins σ s v I r => by
  cases r
  rcases h with ⟨o, h1, h2⟩ | ⟨o, its, n, h1, h2, h3, h4, h5, h6⟩
  · obtain ⟨e, z, its, rv, ⟨o', e', hc, n, hd⟩⟩ := I.hok p _ h1
    rw [e] at e'; cases e'
    exact ⟨⟨o, e, hc⟩, fun q eq => by cases eq; exact ⟨o, e, h2⟩⟩
  · exact ⟨⟨o, I.kIn p o h1, h2⟩, fun q eq => by cases eq; exact ⟨o, I.kIn p o h1, h6⟩⟩
theorem pe_bmG {o : Expr} {es : List Expr} {to : TE} {t : TA} {name : Str} {apos cpos : Pos} (hs : noSup o = true) (hl : (apos.endLine == cpos.line) = true) (hst : ∀ e ∈ es, noStar e = true) (hn : es.length < 20) (ho : PE X o to) (ha : PA X es t) (h0 : es = [] → ∀ σ H Q, t σ H Q → Q [] H) :
    PE X (.Call (.Attribute o name apos) es [] cpos) (fun σ H Q => to σ H fun x H1 => ∃ (Ty id : String) (r : V → List V → Hp → VK → Prop), PlainAttrs Ty ∧ Slot Ty name id ∧ typeOf (.builtin id) = pure (.type "method_descriptor") ∧ TyD X H1 x Ty ∧ MtR X id r ∧ t σ H1 fun xs H2 => r x xs H2 Q) := by
  refine ⟨fun pins s σ H Q I h => ?_⟩
  cases es with
  | nil =>
    refine wpAny_Call_method0_late (base_of hs) hl (thn (ho.run pins s σ H _ I h) fun v s1 ⟨x, H1, I1, r1, Ty, id, r, pa, slot, hty, td, hm, q1⟩ => ?_)
    obtain ⟨h1, h2⟩ := td pins σ s1 v I1 r1
    exact ⟨Ty, id, pa, slot, hty, h1, h2, Calls.callWith_builtin rfl (PySem.evalArgs_none (hm pins s1 σ H1 x [] v [] Q I1 r1 .nil (h0 rfl σ H1 _ q1)))⟩
  | cons e es =>
    have hfew : ((backTo cpos (starEach (e :: es) X.env)).all (fun x => !x.1) && (backToKw cpos (keywordEach [] X.env)).all (fun x => x.1.isSome)
      && decide ((e :: es).length + ([] : List Keyword).length + (if ([] : List Keyword).isEmpty then 0 else 1) < 30)) = true := by
      rw [star_all hst]
      show (true && true && decide ((e :: es).length + 0 + 0 < 30)) = true
      simp only [Bool.true_and, decide_eq_true_eq]
      omega
    refine wpAny_Call_method_late (base_of hs) hfew hl rfl (thn (ho.run pins s σ H _ I h) fun v s1 ⟨x, H1, I1, r1, Ty, id, r, pa, slot, hty, td, hm, q1⟩ => ?_)
    obtain ⟨h1, h2⟩ := td pins σ s1 v I1 r1
    refine ⟨Ty, id, pa, slot, hty, h1, h2, ?_⟩
    have hA := ha.run cpos pins s1 σ H1 _ I1 q1
    have hs2 := star_cons (all_cons hst).1 es X.env
    have hplain : (backTo cpos (starEach es X.env)).any (·.1) = false := star_any (all_cons hst).2
    rw [hs2] at hA ⊢
    refine Calls.callWith_builtin (by show (false || (backTo cpos (starEach es X.env)).any (·.1)) = false; rw [hplain] <;> rfl) (Calls.evalArgs_plain ?_)
    exact thn hA fun us s2 ⟨vs, H2, I2, r2, q2⟩ => hm pins s2 σ H2 x vs v us Q I2 r1 r2 q2
/-- t.index(x): the first place of an equal one -/
theorem mt_tupIndexD (hu : X.A.units + 65 < cLine) : MtR X "tuple.index" (fun x xs H Q => ∃ (p : Addr) (y : V) (d : PyData) (ds : List PyData) (j : Nat) (z : PyData), x = V.ref p ∧ xs = [y] ∧ Dp X.K H (V.ref p) (.tuple ds) ∧ Dp X.K H y d ∧
    SeqAt.shaped (.tuple ds) = true ∧ SeqAt.shaped d = true ∧ ds[j]? = some z ∧ PyData.eqv z d = true ∧ (∀ (m : Nat) (z' : PyData), m < j → ds[m]? = some z' → PyData.eqv z' d = false) ∧ Q (.int (j : Nat)) H) := by
  intro pins s σ H x xs v us Q I rx rxs h
  obtain ⟨a, y, d, ds, j, z, rfl, rfl, hl, hy, sl, sd, hz, hzj, hno, q⟩ := h
  cases rx
  cases rxs with
  | cons ry rt =>
    rename_i uy ut
    cases rt
    obtain ⟨bs, r1⟩ := Dp.reads I d y uy hy ry
    have hxs : PyData.canLayAll0 ds = true := SeqAt.canLay_of_shaped sl
    have hroom : X.A.units + 1 + min (PyData.depthAll ds) d.depth < cLine := room_in_shaped sd hu
    cases hl with
    | tup hs ha =>
      obtain ⟨its, rv, ⟨⟨cls, dd, data, sls⟩, ho, hc, n, hdt⟩, hlen⟩ := I.tuple hs
      simp only at hc hdt
      subst hc hdt
      obtain ⟨as, h4⟩ := Dp.readsAll I ds _ its ha rv
      have hn : its.length = ds.length := SeqAt.ReadsAll.length ds its as h4
      have hmap : its.map (SeqAt.readOf s.heap) = ds := SeqAt.readsAll_map ds its as hxs h4
      obtain ⟨hjd, _⟩ := List.getElem?_eq_some_iff.mp hz
      have hjl : j < its.length := by omega
      have hj : j < its.toArray.size := by simpa using hjl
      have at_ : ∀ (m : Nat) (hm : m < its.toArray.size) (z' : PyData), ds[m]? = some z' → SeqAt.readOf s.heap its.toArray[m] = z' := by
        intro m hm z' hz'
        have hml : m < its.length := by simpa using hm
        rw [← hmap, List.getElem?_map, List.getElem?_eq_getElem hml] at hz'
        have e1 : SeqAt.readOf s.heap its[m] = z' := Option.some.inj (show some (SeqAt.readOf s.heap its[m]) = some z' from hz')
        simpa using e1
      refine call_meets PySem.F.slot_tuple_index ⟨_, ho, rfl⟩ PySem.F.entry_tuple_index (PySem.F.args_tuple_index_2 _ _)
        (TI.tuple_indexAt a its.toArray n dd sls uy (fun u => PyData.eqv (SeqAt.readOf s.heap u) d) j hj ?_ ?_) ⟨ho, SeqAt.items_eqAt (vs := its.toArray) (show ReadsAll s.heap its.toArray.toList ds as from h4) r1 hxs (SeqAt.canLay_of_shaped sd) hroom, ?_⟩
      · show PyData.eqv (SeqAt.readOf s.heap its.toArray[j]) d = true
        rw [at_ j hj z hz]
        exact hzj
      · intro m hm hmj
        have hmd : m < ds.length := by omega
        have hz' : ds[m]? = some ds[m] := List.getElem?_eq_getElem hmd
        show PyData.eqv (SeqAt.readOf s.heap its.toArray[m]) d = false
        rw [at_ m hm _ hz']
        exact hno m _ hmj hz'
      · exact ⟨.int (j : Nat), H, I.tok _, ⟨_, rfl⟩, q⟩
theorem findD_ok {d : PyData} : ∀ {ds : List PyData} {k j : Nat}, findD d ds k = some j → k ≤ j ∧ (∃ z, ds[j - k]? = some z ∧ PyData.eqv z d = true) ∧ ∀ (m : Nat) (z' : PyData), m < j - k → ds[m]? = some z' → PyData.eqv z' d = false
  | [], k, j, h => by cases h
  | z :: zs, k, j, h => by
    unfold findD at h
    by_cases hz : PyData.eqv z d = true
    · rw [if_pos hz] at h
      cases h
      refine ⟨Nat.le_refl _, ⟨z, by simp, hz⟩, fun m z' hm => ?_⟩
      omega
    · rw [if_neg hz] at h
      obtain ⟨h1, ⟨y, h2, h3⟩, h4⟩ := findD_ok h
      have e : j - k = (j - (k + 1)) + 1 := by omega
      refine ⟨by omega, ⟨y, by rw [e, List.getElem?_cons_succ]; exact h2, h3⟩, fun m z' hm hz' => ?_⟩
      cases m with
      | zero => simp at hz'; rw [← hz']; simpa using hz
      | succ m => rw [List.getElem?_cons_succ] at hz'; exact h4 m z' (by omega) hz'
/-- a live list -/
theorem live_lst {m : List Addr} {st : Store} {H : Hp} {n : Nat} {v : V} {xs : List W} (S : SR c.kt m st H) (h : st[n]? = some (some (.lst xs))) (r : RelW c.kt m (fz m st H) (.ref n) v) : ∃ p vs, v = .ref p ∧ m[n]? = some p ∧ H p = some (.lst vs) ∧ RelWs c.kt m (fz m st H) xs vs := by
  obtain ⟨q, hq, vs, h1, h2⟩ := S.live h
  unfold RelW at r
  obtain ⟨p, rfl, hp⟩ := r
  rw [hq] at hp; cases hp
  exact ⟨q, vs, rfl, hq, h1, h2⟩
/-- a live list gets other items -/
theorem po_put {m : List Addr} {st : Store} {H : Hp} {E : XK} {Qv : VK} {n : Nat} {p : Addr} {xs ys : List W} {us : List V} {w : W} {v : V} (S : SR c.kt m st H) (h : st[n]? = some (some (.lst xs))) (hp : m[n]? = some p) (ry : RelWs c.kt m (fz m st H) ys us)
    (hq : Po c m st H E (rW c) (bd (setM n (.lst ys)) (fun _ => pu w) st) Qv) (rv : RelW c.kt m (fz m st H) w v) : Qv v (upd H p (.lst us)) := by
  have hq := po_set hq h
  obtain ⟨s1, e1⟩ := S.write (o' := .lst ys) (ho := .lst us) h hp ⟨us, upd_same, ry⟩
  exact po_pu (po_ext hq e1) s1 (e1.relW rv)
theorem relWs_one {m : List Addr} {M : Hp} {w : W} {vs : List V} (r : RelWs c.kt m M [w] vs) : ∃ v, vs = [v] ∧ RelW c.kt m M w v := by
  obtain ⟨v, rr, rfl, r1, r2⟩ := RelWs.cons_inv r
  rw [RelWs.nil_inv r2]
  exact ⟨v, rfl, r1⟩
/-- a method's rule at the values -/
def rM (c : Cxt T) (bb : Bm) : V → List V → Hp → VK → Prop := fun x xs H Qv => ∃ m st w ws E, SR c.kt m st H ∧ RelW c.kt m (fz m st H) w x ∧ RelWs c.kt m (fz m st H) ws xs ∧ Po c m st H E (rW c) (bmW bb w ws st) Qv
theorem mtw_append : MtR X "list.append" (rM c .append) := by
  intro pins s σ H x xs v us Q I rx rs h
  obtain ⟨m, st, w, ws, E, S, R, Rs, hp⟩ := h
  cases w with
  | ref n =>
    cases ws with
    | nil => exact hp.elim
    | cons w ws =>
      cases ws with
      | cons _ _ => exact hp.elim
      | nil =>
        obtain ⟨o, p, h1, h2, h3, hp⟩ := po_get hp S
        cases o with
        | lst ys =>
          obtain ⟨q, ws', rfl, hq, hH, rr⟩ := live_lst S h1 R
          obtain ⟨y, rfl, ry⟩ := relWs_one Rs
          dsimp only at hp
          by_cases hl : ys.length < sizeLine
          · rw [if_pos hl] at hp
            refine mt_append pins s σ H _ _ v us Q I rx rs ⟨q, ws', y, rfl, rfl, hH, by rw [rr.len]; exact hl, ?_⟩
            exact po_put S h1 hq (rr.append (RelWs.cons ry RelWs.nil)) hp (by unfold RelW; rfl)
          · rw [if_neg hl] at hp; exact hp.elim
        | _ => exact hp.elim
  | _ => exact hp.elim
theorem mtw_clear : MtR X "list.clear" (rM c .clear) := by
  intro pins s σ H x xs v us Q I rx rs h
  obtain ⟨m, st, w, ws, E, S, R, Rs, hp⟩ := h
  cases w with
  | ref n =>
    cases ws with
    | cons w ws => exact hp.elim
    | nil =>
      obtain ⟨o, p, h1, h2, h3, hp⟩ := po_get hp S
      cases o with
      | lst ys =>
        obtain ⟨q, ws', rfl, hq, hH, rr⟩ := live_lst S h1 R
        rw [RelWs.nil_inv Rs] at rs
        refine mt_clear pins s σ H _ _ v us Q I rx rs ⟨q, ws', rfl, rfl, hH, ?_⟩
        exact po_put S h1 hq RelWs.nil hp (by unfold RelW; rfl)
      | _ => exact hp.elim
  | _ => exact hp.elim
theorem mtw_insert : MtR X "list.insert" (rM c .insert) := by
  intro pins s σ H x xs v us Q I rx rs h
  obtain ⟨m, st, w, ws, E, S, R, Rs, hp⟩ := h
  cases w with
  | ref n =>
    cases ws with
    | nil => exact hp.elim
    | cons w ws =>
      cases w with
      | int i =>
        cases ws with
        | nil => exact hp.elim
        | cons w ws =>
          cases ws with
          | cons _ _ => exact hp.elim
          | nil =>
            obtain ⟨o, p, h1, h2, h3, hp⟩ := po_get hp S
            cases o with
            | lst ys =>
              obtain ⟨q, ws', rfl, hq, hH, rr⟩ := live_lst S h1 R
              obtain ⟨vi, vr, rfl, ri, rz⟩ := RelWs.cons_inv Rs
              obtain ⟨y, rfl, ry⟩ := relWs_one rz
              rw [rel_int ri] at rs
              dsimp only at hp
              by_cases hl : ys.length < sizeLine ∧ 0 ≤ i ∧ i ≤ ys.length
              · rw [if_pos hl] at hp
                have hsl := sizeLine_eq
                refine mt_insert pins s σ H _ _ v us Q I rx rs ⟨q, ws', i, y, rfl, rfl, hH, by rw [rr.len]; exact hl.1, hl.2.1, by omega, ?_⟩
                have e : ws'.take i.toNat ++ [y] ++ ws'.drop i.toNat = ws'.take i.toNat ++ y :: ws'.drop i.toNat := by simp
                rw [e]
                exact po_put S h1 hq ((rr.take _).append (RelWs.cons ry (rr.drop _))) hp (by unfold RelW; rfl)
              · rw [if_neg hl] at hp; exact hp.elim
            | _ => exact hp.elim
      | _ => cases ws <;> exact hp.elim
  | _ => exact hp.elim
theorem mtw_pop : MtR X "list.pop" (rM c .pop1) := by
  intro pins s σ H x xs v us Q I rx rs h
  obtain ⟨m, st, w, ws, E, S, R, Rs, hp⟩ := h
  cases w with
  | ref n =>
    cases ws with
    | nil => exact hp.elim
    | cons w ws =>
      cases w with
      | int i =>
        cases ws with
        | cons _ _ => exact hp.elim
        | nil =>
          obtain ⟨o, p, h1, h2, h3, hp⟩ := po_get hp S
          cases o with
          | lst ys =>
            obtain ⟨q, ws', rfl, hq, hH, rr⟩ := live_lst S h1 R
            obtain ⟨y, rfl, ry⟩ := relWs_one Rs
            rw [rel_int ry] at rs
            dsimp only at hp
            cases e : L2.ixN ys.length i with
            | none => rw [e] at hp; exact hp.elim
            | some j =>
              rw [e] at hp
              dsimp only at hp
              cases e2 : ys[j]? with
              | none => rw [e2] at hp; exact hp.elim
              | some u =>
                rw [e2] at hp
                dsimp only at hp
                by_cases hl : ys.length ≤ sizeLine
                · rw [if_pos hl] at hp
                  obtain ⟨z, hz, rz⟩ := rr.get e2
                  obtain ⟨g1, g2, g3, g4⟩ := L2.ixN_seq e
                  have hsl := sizeLine_eq
                  refine mt_popAt pins s σ H _ _ v us Q I rx rs ⟨q, ws', i, j, z, rfl, rfl, hH, by omega, by omega, by rw [rr.len]; exact g1, hz, ?_⟩
                  exact po_put S h1 hq (rr.eraseIdx _) hp rz
                · rw [if_neg hl] at hp; exact hp.elim
          | _ => exact hp.elim
      | _ => cases ws <;> exact hp.elim
  | _ => exact hp.elim
theorem dat_list {st : Store} {n : Nat} {w : W} {ds : List PyData} (h : dat st n w = some (.list ds)) : isTup w = false := by
  cases n with
  | zero => cases h
  | succ n =>
    cases w with
    | tup xs => unfold dat at h; obtain ⟨_, _, e⟩ := Option.map_eq_some_iff.mp h; cases e
    | _ => rfl
theorem dat_tup {st : Store} {n : Nat} {w : W} {ds : List PyData} (h : dat st n w = some (.tuple ds)) : isTup w = true := by
  cases n with
  | zero => cases h
  | succ n =>
    unfold dat at h
    cases w with
    | tup xs => rfl
    | lst xs => obtain ⟨_, _, e⟩ := Option.map_eq_some_iff.mp h; cases e
    | fro xs => obtain ⟨_, _, e⟩ := Option.map_eq_some_iff.mp h; cases e
    | ref j =>
      dsimp only at h
      cases e : st[j]? with
      | none => rw [e] at h; cases h
      | some o =>
        rw [e] at h
        cases o with
        | none => cases h
        | some o =>
          cases o with
          | lst xs => obtain ⟨_, _, e⟩ := Option.map_eq_some_iff.mp h; cases e
          | _ => cases h
    | _ => cases h
theorem po_dat2 {m : List Addr} {st : Store} {H : Hp} {E : XK} {α β : Type} {rel : List Addr → Hp → α → β → Prop} {Q' : β → Hp → Prop} {w : W} {v : V} {f : PyData → Q α} (h : Po c m st H E rel (bd (datQ w) f st) Q') (S : SR c.kt m st H) (r : RelW c.kt m (fz m st H) w v) :
    ∃ d, dat st 8 w = some d ∧ Dp c.K H v d ∧ SeqAt.shaped d = true ∧ Po c m st H E rel (f d st) Q' := by
  unfold bd datQ at h
  cases e : dat st 8 w with
  | none => rw [e] at h; exact h.elim
  | some d =>
    rw [e] at h
    by_cases hs : SeqAt.shaped d = true
    · dsimp only at h
      rw [if_pos hs] at h
      exact ⟨d, rfl, dat_dp S 8 r e, hs, h⟩
    · dsimp only at h
      rw [if_neg hs] at h
      exact h.elim
def rMI (c : Cxt T) (tp : Bool) : V → List V → Hp → VK → Prop := fun x xs H Qv => ∃ m st w ws E, SR c.kt m st H ∧ RelW c.kt m (fz m st H) w x ∧ isTup w = tp ∧ RelWs c.kt m (fz m st H) ws xs ∧ Po c m st H E (rW c) (bmW .index w ws st) Qv
/-- index, by data -/
theorem mtw_index (hK : X.K = c.K) (hu : X.A.units + 65 < cLine) {tp : Bool} {x : V} {xs : List V} {H : Hp} {Qv : VK} (h : rMI c tp x xs H Qv) :
    (∃ y d ds j z, xs = [y] ∧ (tp = false ∧ Dp X.K H x (.list ds) ∧ SeqAt.shaped (.list ds) = true ∨ tp = true ∧ Dp X.K H x (.tuple ds) ∧ SeqAt.shaped (.tuple ds) = true) ∧ Dp X.K H y d ∧ SeqAt.shaped d = true ∧ ds[j]? = some z ∧ PyData.eqv z d = true ∧ (∀ (m : Nat) (z' : PyData), m < j → ds[m]? = some z' → PyData.eqv z' d = false) ∧ Qv (.int (j : Nat)) H) := by
  obtain ⟨m, st, w, ws, E, S, R, htp, Rs, hp⟩ := h
  cases ws with
  | nil => cases w <;> exact hp.elim
  | cons w2 ws =>
    cases ws with
    | cons _ _ => cases w <;> exact hp.elim
    | nil =>
      obtain ⟨y, rfl, ry⟩ := relWs_one Rs
      have hp : Po c m st H E (rW c) (bd (datQ w2) (fun d => bd (datQ w) fun e => match e with
        | .list ds => (match findD d ds 0 with
          | some j => pu (W.int j)
          | none => no)
        | .tuple ds => (match findD d ds 0 with
          | some j => pu (W.int j)
          | none => no)
        | _ => no) st) Qv := by cases w <;> exact hp
      obtain ⟨d, h1, h2, hp⟩ := po_dat hp S ry
      obtain ⟨e, h0, h3, h4, hp⟩ := po_dat2 hp S R
      rw [← hK] at h1 h3
      cases e with
      | list ds =>
        dsimp only at hp
        cases q : findD d ds 0 with
        | none => rw [q] at hp; exact hp.elim
        | some j =>
          rw [q] at hp
          obtain ⟨_, ⟨z, g1, g2⟩, g3⟩ := findD_ok q
          exact ⟨y, d, ds, j, z, rfl, .inl ⟨htp.symm.trans (dat_list h0), h3, h4⟩, h1, h2, g1, g2, g3, po_int hp S⟩
      | tuple ds =>
        dsimp only at hp
        cases q : findD d ds 0 with
        | none => rw [q] at hp; exact hp.elim
        | some j =>
          rw [q] at hp
          obtain ⟨_, ⟨z, g1, g2⟩, g3⟩ := findD_ok q
          exact ⟨y, d, ds, j, z, rfl, .inr ⟨htp.symm.trans (dat_tup h0), h3, h4⟩, h1, h2, g1, g2, g3, po_int hp S⟩
      | _ => exact hp.elim
theorem dp_ref {K : PySem.W.Frag} {H : Hp} {x : V} {ds : List PyData} (h : Dp K H x (.list ds) ∨ Dp K H x (.tuple ds)) : ∃ p, x = .ref p := by
  rcases h with h | h <;> cases h <;> exact ⟨_, rfl⟩
theorem mtw_indexL (hK : X.K = c.K) (hu : X.A.units + 65 < cLine) : MtR X "list.index" (rMI c false) := by
  intro pins s σ H x xs v us Q I rx rs h
  obtain ⟨y, d, ds, j, z, rfl, hd, h1, h2, h3, h4, h5, q⟩ := mtw_index hK hu h
  rcases hd with ⟨_, hd, hs⟩ | ⟨e, _⟩
  · obtain ⟨p, rfl⟩ := dp_ref (.inl hd)
    exact mt_indexD hu pins s σ H _ _ v us Q I rx rs ⟨p, y, d, ds, j, z, rfl, rfl, hd, h1, hs, h2, h3, h4, h5, q⟩
  · cases e
theorem mtw_indexT (hK : X.K = c.K) (hu : X.A.units + 65 < cLine) : MtR X "tuple.index" (rMI c true) := by
  intro pins s σ H x xs v us Q I rx rs h
  obtain ⟨y, d, ds, j, z, rfl, hd, h1, h2, h3, h4, h5, q⟩ := mtw_index hK hu h
  rcases hd with ⟨e, _⟩ | ⟨_, hd, hs⟩
  · cases e
  · obtain ⟨p, rfl⟩ := dp_ref (.inr hd)
    exact mt_tupIndexD hu pins s σ H _ _ v us Q I rx rs ⟨p, y, d, ds, j, z, rfl, rfl, hd, h1, hs, h2, h3, h4, h5, q⟩
/-- what has items: its type -/
theorem tyd_items (hK : X.K = c.K) {m : List Addr} {st : Store} {H : Hp} {w : W} {x : V} {xs : List W} {s : Store} (S : SR c.kt m st H) (r : RelW c.kt m (fz m st H) w x) (h : items w st = .ok xs s) : (isTup w = false ∧ TyD X H x "list") ∨ (isTup w = true ∧ TyD X H x "tuple") := by
  cases w with
  | tup ys =>
    unfold RelW at r
    obtain ⟨p, vs, rfl, h1, _⟩ := r
    exact .inr ⟨rfl, tyd_tup (by rw [hK]; exact same_fzT (fz_same _ _ _) h1)⟩
  | lst ys => obtain ⟨_, vs, ⟨p, rfl, hq⟩, _⟩ := items_at S r h
              rcases hq with ⟨_, hq⟩ | ⟨hq, _⟩
              · exact .inl ⟨rfl, tyd_list (by rw [hK]; exact hq)⟩
              · cases hq
  | fro ys => obtain ⟨_, vs, ⟨p, rfl, hq⟩, _⟩ := items_at S r h
              rcases hq with ⟨_, hq⟩ | ⟨hq, _⟩
              · exact .inl ⟨rfl, tyd_list (by rw [hK]; exact hq)⟩
              · cases hq
  | ref ys => obtain ⟨_, vs, ⟨p, rfl, hq⟩, _⟩ := items_at S r h
              rcases hq with ⟨_, hq⟩ | ⟨hq, _⟩
              · exact .inl ⟨rfl, tyd_list (by rw [hK]; exact hq)⟩
              · cases hq
  | _ => cases h
theorem snd_bm (G : Gd c F X Wx lv) {bb : Bm} {apos : Pos} {es : List Expr} {ts : TXs} (hs : noSup l = true) (hl : (apos.endLine == pos.line) = true) (hst : ∀ e ∈ es, noStar e = true) (hn : es.length < 20) (h0 : es = [] → ts = .nil) (ho : PE X l (rE c F xc xv cx Wx a)) (ha : PA X es (rA c F xc xv cx Wx ts)) :
    PE X (.Call (.Attribute l (bmName bb) apos) es [] pos) (rE c F xc xv cx Wx (.bm bb a ts)) := by
  refine PE.mono (pe_bmG hs hl hst hn ho ha fun he σ H Q h => ?_) fun σ H Q h => ?_
  · have e := h0 he
    subst e
    obtain ⟨m, env, st, S, hp⟩ := h
    exact po_pu hp S.sr RelWs.nil
  · obtain ⟨m, env, st, S, hp⟩ := h
    refine ⟨m, env, st, S, po_bd hp fun w st1 m1 H1 x E1 S1 rx hp1 => ?_⟩
    have hrc : ∃ xs, items w st1 = .ok xs st1 ∧ (bb ≠ .index → isTup w = false) ∧ Po c m1 st1 H1 (fun cls d H => Wx cls d σ H) (rW c) (bd (evs T F xc ts env) (fun ws => bmW bb w ws) st1) Q := by
      have fin : Po c m1 st1 H1 (fun cls d H => Wx cls d σ H) (rW c) (bd (itemsN w) (fun _ => bd (evs T F xc ts env) fun ws => bmW bb w ws) st1) Q → ∃ xs, items w st1 = .ok xs st1 ∧ (bb ≠ .index → isTup w = false) ∧ Po c m1 st1 H1 (fun cls d H => Wx cls d σ H) (rW c) (bd (evs T F xc ts env) (fun ws => bmW bb w ws) st1) Q := by
        intro hq
        unfold itemsN at hq
        cases e : isTup w with
        | true => rw [e] at hq; exact hq.elim
        | false =>
          rw [e] at hq
          obtain ⟨xs, vs, hx, _, _, hq⟩ := po_itm hq S1 rx
          exact ⟨xs, hx, fun _ => rfl, hq⟩
      cases bb with
      | index =>
        obtain ⟨xs, vs, hx, _, _, hq⟩ := po_itm hp1 S1 rx
        exact ⟨xs, hx, fun z => absurd rfl z, hq⟩
      | append => exact fin hp1
      | pop1 => exact fin hp1
      | clear => exact fin hp1
      | insert => exact fin hp1
    obtain ⟨xs, hx, hnt, hp1⟩ := hrc
    have args : ∀ {r : V → List V → Hp → VK → Prop}, (∀ m2 st2 H2 ws vs, SR c.kt m2 st2 H2 → RelW c.kt m2 (fz m2 st2 H2) w x → RelWs c.kt m2 (fz m2 st2 H2) ws vs → Po c m2 st2 H2 (fun cls d H => Wx cls d σ H) (rW c) (bmW bb w ws st2) Q → r x vs H2 Q) → rA c F xc xv cx Wx ts σ H1 (fun xs H2 => r x xs H2 Q) :=
      fun k => ⟨m1, env, st1, S.ext E1 S1, po_bd hp1 fun ws st2 m2 H2 vs E2 S2 rs hp2 => k m2 st2 H2 ws vs S2 (E2.relW rx) rs hp2⟩
    rcases tyd_items (X := X) G.K S1 rx hx with ⟨ht, td⟩ | ⟨ht, td⟩
    · cases bb with
      | append => exact ⟨"list", "list.append", rM c .append, PySem.F.plainAttrs_list, PySem.F.slot_list_append, PySem.F.type_list_append, td, mtw_append, args fun m2 st2 H2 ws vs s2 r2 rs hp2 => ⟨m2, st2, w, ws, _, s2, r2, rs, hp2⟩⟩
      | pop1 => exact ⟨"list", "list.pop", rM c .pop1, PySem.F.plainAttrs_list, PySem.F.slot_list_pop, PySem.F.type_list_pop, td, mtw_pop, args fun m2 st2 H2 ws vs s2 r2 rs hp2 => ⟨m2, st2, w, ws, _, s2, r2, rs, hp2⟩⟩
      | index => exact ⟨"list", "list.index", rMI c false, PySem.F.plainAttrs_list, PySem.F.slot_list_index, PySem.F.type_list_index, td, mtw_indexL G.K G.un, args fun m2 st2 H2 ws vs s2 r2 rs hp2 => ⟨m2, st2, w, ws, _, s2, r2, ht, rs, hp2⟩⟩
      | clear => exact ⟨"list", "list.clear", rM c .clear, PySem.F.plainAttrs_list, PySem.F.slot_list_clear, PySem.F.type_list_clear, td, mtw_clear, args fun m2 st2 H2 ws vs s2 r2 rs hp2 => ⟨m2, st2, w, ws, _, s2, r2, rs, hp2⟩⟩
      | insert => exact ⟨"list", "list.insert", rM c .insert, PySem.F.plainAttrs_list, PySem.F.slot_list_insert, PySem.F.type_list_insert, td, mtw_insert, args fun m2 st2 H2 ws vs s2 r2 rs hp2 => ⟨m2, st2, w, ws, _, s2, r2, rs, hp2⟩⟩
    · cases bb with
      | index => exact ⟨"tuple", "tuple.index", rMI c true, PySem.F.plainAttrs_tuple, PySem.F.slot_tuple_index, PySem.F.type_tuple_index, td, mtw_indexT G.K G.un, args fun m2 st2 H2 ws vs s2 r2 rs hp2 => ⟨m2, st2, _, ws, _, s2, r2, ht, rs, hp2⟩⟩
      | append => rw [hnt (fun z => nomatch z)] at ht; cases ht
      | pop1 => rw [hnt (fun z => nomatch z)] at ht; cases ht
      | clear => rw [hnt (fun z => nomatch z)] at ht; cases ht
      | insert => rw [hnt (fun z => nomatch z)] at ht; cases ht
end
end Mi
set_option maxHeartbeats 4000000
set_option autoImplicit false
namespace Mi
open PySem PySem.Spec PyProof.Rows L2

/-! ## enumerate of a tuple -/
theorem meets_enum1 {v : Value} {o : Obj} {H : Heap → Prop} (B : Begins v o H) :
    Meets (Builtin.«enumerate.__new__» ⟨[.type "enumerate", v], []⟩) (fun _ R s => H s.heap ∧
      R (.ok (.ret (.ref (s.heap.push o).objs.size))) { s with heap := (s.heap.push o).push { cls := .type "enumerate", data := .fields #[.none, .bool false, .ref s.heap.objs.size, rawInt 0, .none, .none] } }) :=
  .of_wp fun prog w A R s h => by
    obtain ⟨hp, g, d, tk, os⟩ := s; obtain ⟨h1, h⟩ := h
    have hsub := sub_enumerate
    have q1 : ∀ {A' : Around} {E : Value → Shared → Prop} {Q : Value → Shared → Prop}, Q (.ref hp.objs.size) ⟨hp.push o, g, d, tk, os⟩ → wpAny (model prog w) A' (pyIter v) Q E ⟨hp, g, d, tk, os⟩ :=
      fun q => B.iter prog w _ _ ⟨hp, g, d, tk, os⟩ _ h1 q
    wp_walk using q1
    refine wpAny_stack_any fun st => wpAny_pure ?_
    split
    · rename_i c _ _ _ _ _
      cases (c == Value.type "enumerate")
      · wp_walk using q1
        exact ⟨_, rfl, h⟩
      · wp_walk using q1
        exact ⟨_, rfl, h⟩
    · wp_walk using q1
      exact ⟨_, rfl, h⟩
theorem enum_begins1 {prog : Program} {w : World} {A : Around} {E : Value → Shared → Prop} {s : Shared} {v : Value} {o : Obj} {H : Heap → Prop} {Q : Value → Shared → Prop} (B : Begins v o H) (h1 : H s.heap)
    (h : ∀ h', IsEnum h' (s.heap.objs.size + 1) s.heap.objs.size 0 .none → h'.get? s.heap.objs.size = some o → h'.objs.size = s.heap.objs.size + 2 →
      (∀ b o, s.heap.get? b = some o → h'.get? b = some o) → Q (.ref (s.heap.objs.size + 1)) { s with heap := h' }) :
    wpAny (model prog w) A (call (.type "enumerate") [v]) Q E s := by
  refine callType_new F.called_enumerate (by decide) (F.typeCall_enumerate_1 _) (F.newCall_enumerate_1 _) (fun obj => F.args_object_init_2 obj _) F.entry_enumerate_new
    (meets_enum1 B) ⟨h1, ?_⟩
  have hz : (s.heap.push o).objs.size = s.heap.objs.size + 1 := Heap.size_push ..
  show _ ∧ _
  rw [hz]
  have he : IsEnum ((s.heap.push o).push { cls := .type "enumerate", data := .fields #[.none, .bool false, .ref s.heap.objs.size, rawInt 0, .none, .none] }) (s.heap.objs.size + 1) s.heap.objs.size 0 .none := by
    have := Heap.get?_push_size (s.heap.push o) (o := { cls := .type "enumerate", data := .fields #[.none, .bool false, .ref s.heap.objs.size, rawInt 0, .none, .none] }) rfl
    rw [hz] at this; exact this
  refine ⟨⟨_, he, rfl⟩, h _ he (Heap.get?_push_of_some _ (Heap.get?_push_size _ B.free)) (by rw [Heap.size_push, hz]) fun b o x => Heap.get?_push_of_some _ (Heap.get?_push_of_some _ x)⟩
/-- the tuple at a, each item in a new pair -/
def IteT (K : PySem.W.Frag) (a : Addr) : It :=
  ⟨fun i H => ∃ (xs : List V) (x : V), SqT K H a xs ∧ xs[i]? = some x, fun i H v H' => ∃ T x, v = .ref T ∧ H T = none ∧ H' = upd H T (.tup [.int (i : Nat), x]) ∧ ∀ xs, SqT K H a xs → xs[i]? = some x, fun i H => ∃ xs : List V, SqT K H a xs ∧ xs.length = i⟩
theorem turn_enumT {P : Program} {w : World} {K : PySem.W.Frag} {elts : List Expr} {kk : Nat} {tpos : Pos} (a e it : Addr) :
    Turn P w K (.Tuple elts kk tpos) (IteT K a) [e, it] e (fun i h => (∃ old, IsEnum h e it ((i : Nat) : Int) old) ∧ h.IsTupleIter it a i ∧ e ≠ it ∧ a ≠ it ∧ a ≠ e) where
  mem := by simp
  obj := fun i h st b hb => by
    obtain ⟨⟨old, he⟩, ⟨o, ho, hc, hd⟩, _⟩ := st
    have e' : b = e ∨ b = it := by simpa using hb
    rcases e' with z | z
    · rw [z]; exact ⟨_, he, fun v q => nomatch q⟩
    · rw [z]; exact ⟨o, ho, fun v q => by rw [hd] at q; cases q⟩
  keep := fun i h h' st k => let ⟨⟨old, he⟩, hi, hne⟩ := st; ⟨⟨old, k e (by simp) _ he⟩, hi.at fun o q => k it (by simp) o q, hne⟩
  item := by
    intro X hP hw hK hc i pins s σ H E I hf st hg
    subst hP hw hK
    obtain ⟨⟨old, he⟩, hit, hne, hai, hae⟩ := st
    obtain ⟨xs, x, hq, hx⟩ := hg
    obtain ⟨its, rv, p, hz⟩ := I.tuple hq
    obtain ⟨u, hu, ru⟩ := rv.get hx
    have hel : e < s.heap.objs.size := Heap.lt_size he
    have hil : it < s.heap.objs.size := by obtain ⟨_, q, _⟩ := hit; exact Heap.lt_size q
    have hlt : i < its.toArray.size := by
      obtain ⟨hlt, _⟩ := List.getElem?_eq_some_iff.mp hu
      simpa using hlt
    refine wpAny_pyNext_enum_itemD (Draws.tuple (A := X.A.in1) (I.ok.hd hc) it a hai its.toArray) he ⟨hit, p⟩ hlt hne (by simp [hne, Ne.symm hae]) fun x' h' tk hP' ho hst' hT hsz hk => ?_
    have ex : x' = u := by
      have h1 : its.toArray[i]? = some x' := hP'
      have h2 : its.toArray[i]? = some u := by simpa using hu
      rw [h1] at h2; exact Option.some.inj h2
    subst ex
    refine ⟨_, rfl, wpAny_letOwnedTupleGo_enum (s := { s with heap := h', toks := tk + 1 }) ho fun h'' he' sb => ?_⟩
    have hT2 : h''.get? s.heap.objs.size = some { cls := .type "tuple", data := .seq #[.int i tk, x'] } := (sb.2 _ (Nat.ne_of_gt hel)).trans hT
    have new : ObjOk X.prog X.w (upd H s.heap.objs.size (.tup [.int (i : Nat), x])) h'' s.heap.objs.size (.tup [.int (i : Nat), x]) :=
      ⟨by show 2 ≤ sizeLine; decide, [.int i tk, x'], .cons ⟨_, rfl⟩ (.cons ru .nil), ⟨_, hT2, rfl, _, rfl⟩⟩
    have I1 : Inv X pins σ (upd H s.heap.objs.size (.tup [.int (i : Nat), x])) { s with heap := h'', toks := tk + 1 } :=
      I.turnedNew (ch := [e, it]) (fun b ob hb q => (sb.2 b (fun z => hb (by simp [z]))).trans (hk b ob (fun z => hb (by simp [z])) (fun z => hb (by simp [z])) q)) hf (Nat.le_refl _) new
    refine ⟨.ref s.heap.objs.size, _, I1, rfl, ⟨_, x, rfl, I.hok.fresh (Nat.le_refl _), rfl, fun ys hy => by rw [I.tuple_inj hy hq]; exact hx⟩, ⟨⟨x', ?_⟩, hst'.1.at fun o q => (sb.2 it (Ne.symm hne)).trans q, hne, hai, hae⟩, fun b hb => ?_⟩
    · have e1 : ((i + 1 : Nat) : Int) = (i : Int) + 1 := by omega
      rw [e1]; exact he'
    · have hb' : b < s.heap.objs.size := by
        have e' : b = e ∨ b = it := by simpa using hb
        rcases e' with z | z
        · rw [z]; exact hel
        · rw [z]; exact hil
      rw [upd_ne (Nat.ne_of_lt hb')]
      exact (hf b hb).1
  done := by
    intro X hP hw hK hc i pins s σ H E I hf st hg
    subst hP hw hK
    obtain ⟨⟨old, he⟩, hit, hne, hai, hae⟩ := st
    obtain ⟨xs, hq, hx⟩ := hg
    obtain ⟨its, rv, p, hz⟩ := I.tuple hq
    obtain ⟨f0, f1, f2, f3, f4, f5⟩ := hf it (by simp)
    have hl := rv.length
    have hn : its.toArray.size = i := by simp; omega
    refine wpAny_pyNext_enum_endD (Draws.tuple (A := X.A.in1) (I.ok.hd hc) it a hai its.toArray) he (by rw [hn]; exact ⟨hit, p⟩) fun h' eb => ⟨rfl, I.turned (t' := s.toks) (fun b o hb q => eb b o hb q) f0 f1 f3 f4 f5⟩
  self := fun A i s Q E st h => let ⟨⟨_, he⟩, _⟩ := st; wpAny_pyIter_enum he h
theorem walk_enumT {K : PySem.W.Frag} {a : Addr} {xs : List V} : Walk (IteT K a) xs.length (fun H => SqT K H a xs) (YPair (fun i => some (.int (i : Nat))) (fun i => xs[i]?)) := by
  refine ⟨fun i _ hi q => ⟨xs, xs[i], q, by simp [hi]⟩, fun _ q => ⟨xs, q, rfl⟩, fun i H v H' _ q y => ?_⟩
  obtain ⟨T, x, h1, h2, h3, h4⟩ := y
  exact ⟨T, .int (i : Nat), x, h1, h2, h3, rfl, h4 xs q⟩
end Mi
set_option maxHeartbeats 4000000
set_option autoImplicit false
namespace Mi
open PySem PySem.Spec PyProof.Rows L2
open PySem.Sem (wp)
/-! ## zip of two sequences, each a list or a tuple -/
def HS (k : Bool) (h : Heap) (l : Addr) (its : Array Value) : Prop := if k = true then h.IsTuple l its else h.IsList l its
def HI (k : Bool) (h : Heap) (p l : Addr) (n : Nat) : Prop := if k = true then h.IsTupleIter p l n else h.IsListIter p l n
section
variable {k : Bool} {h h' : Heap} {l p q : Addr} {its : Array Value} {n : Nat}
theorem HS.but (x : HS k h l its) (e : Heap.ExtBut q h h') (ne : l ≠ q) : HS k h' l its := by
  cases k with
  | true => exact Heap.IsTuple.extBut (items := its) x e ne
  | false => exact Heap.IsList.extBut (items := its) x e ne
theorem HI.but (x : HI k h p l n) (e : Heap.ExtBut q h h') (ne : p ≠ q) : HI k h' p l n := by
  cases k with
  | true => exact Heap.IsTupleIter.extBut x e ne
  | false => exact Heap.IsListIter.extBut x e ne
theorem HI.obj (x : HI k h p l n) : ∃ o, h.get? p = some o ∧ o.data = .fields #[.ref l, .int n 0] := by
  cases k with
  | true => obtain ⟨o, a, _, b⟩ := (show h.IsTupleIter p l n from x); exact ⟨o, a, b⟩
  | false => obtain ⟨o, a, _, b⟩ := (show h.IsListIter p l n from x); exact ⟨o, a, b⟩
theorem HI.at' (x : HI k h p l n) (e : ∀ o, h.get? p = some o → h'.get? p = some o) : HI k h' p l n := by
  cases k with
  | true => obtain ⟨o, a, b⟩ := (show h.IsTupleIter p l n from x); exact ⟨o, e _ a, b⟩
  | false => exact Heap.IsListIter.at (show h.IsListIter p l n from x) e
theorem HS.push (x : HS k h l its) (o : Obj) : HS k (h.push o) l its := by
  cases k with
  | true => exact Heap.IsTuple.push (show h.IsTuple l its from x) o
  | false => exact Heap.IsList.push (show h.IsList l its from x) o
theorem HS.lt (x : HS k h l its) : l < h.objs.size := by
  cases k with
  | true => obtain ⟨o, a, _⟩ := (show h.IsTuple l its from x); exact Heap.lt_size a
  | false => obtain ⟨o, a, _⟩ := (show h.IsList l its from x); exact Heap.lt_size a
end
section
variable {prog : Program} {w : World} {A : Around} {E : Value → Shared → Prop} {s : Shared} {k : Bool}
theorem nxItem {it l : Addr} {i : Nat} {its : Array Value} {x : Value} {Q : Value → Shared → Prop} (a1 : HI k s.heap it l i) (a2 : HS k s.heap l its) (a3 : its[i]? = some x)
    (fin : ∀ h', HI k h' it l (i + 1) → Heap.SameBut it s.heap h' → Q x { s with heap := h' }) : wpAny (model prog w) A (Builtin.SmallTypes.nextOf (.ref it)) Q E s := by
  cases k with
  | true => exact RZ.nextOf_tuple_item (show s.heap.IsTupleIter it l i from a1) (show s.heap.IsTuple l its from a2) a3 fin
  | false => exact wpAny_nextOf_list_item (show s.heap.IsListIter it l i from a1) (show s.heap.IsList l its from a2) a3 fin
theorem nxEnd {it l : Addr} {i : Nat} {its : Array Value} {Q : Value → Shared → Prop} (hh : A.handled = none) (a1 : HI k s.heap it l i) (a2 : HS k s.heap l its) (a3 : its[i]? = none)
    (fin : ∀ h' e, Heap.ExtBut it s.heap h' → (∃ o, h'.get? e = some o ∧ o.cls = .type "StopIteration") → E (.ref e) { s with heap := h' }) : wpAny (model prog w) A (Builtin.SmallTypes.nextOf (.ref it)) Q E s := by
  cases k with
  | true => exact RZ.nextOf_tuple_end hh (show s.heap.IsTupleIter it l i from a1) (show s.heap.IsTuple l its from a2) a3 fin
  | false => exact wpAny_nextOf_list_end hh (show s.heap.IsListIter it l i from a1) (show s.heap.IsList l its from a2) a3 fin
end
section
variable {prog : Program} {w : World} {A : Around} {E : Value → Shared → Prop} {s : Shared} {ka kb : Bool}
variable {z TI TO p q la lb : Addr} {n1 n2 : Nat} {xs ys : Array Value} {x y u v : Value}
/-- the next pair -/
theorem zpItem {Q : Value → Shared → Prop} (D : ZipApart z TI TO p q la lb) (hz : IsZip s.heap z TI TO .none) (hi : IsPair s.heap TI (.ref p) (.ref q)) (ho : IsPair s.heap TO u v)
    (a1 : HI ka s.heap p la n1) (a2 : HI kb s.heap q lb n2) (b1 : HS ka s.heap la xs) (b2 : HS kb s.heap lb ys) (ex : xs[n1]? = some x) (ey : ys[n2]? = some y)
    (fin : ∀ h', IsZip h' z TI TO (rawInt s.heap.objs.size) → IsPair h' TO x y → HI ka h' p la (n1 + 1) → HI kb h' q lb (n2 + 1) → IsPair h' s.heap.objs.size x y → h'.objs.size = s.heap.objs.size + 1 →
      (∀ c o, c ≠ z → c ≠ TO → c ≠ p → c ≠ q → s.heap.get? c = some o → h'.get? c = some o) → Q (.ref s.heap.objs.size) { s with heap := h' }) :
    wpAny (model prog w) A (Builtin.«zip.__next__» ⟨[.ref z], []⟩) (fun fn s' => ∃ r, fn = .done (.ret r) ∧ Q r s') E s := by
  show wpAny _ _ (field (.ref z) 2 >>= _) _ _ _
  refine wpAny_bind (wpAny_field hz rfl (x := .bool false) rfl ?_); show wpAny _ _ (field (.ref z) 3 >>= _) _ _ _
  refine wpAny_bind (wpAny_field hz rfl (x := .ref TI) rfl ?_); refine wpAny_bind (wpAny_seqItems hi rfl ?_)
  show wpAny _ _ (Builtin.SmallTypes.ownedTupleIsFree (.ref z) >>= _) _ _ _; refine wpAny_bind ?_
  unfold Builtin.SmallTypes.ownedTupleIsFree; refine wpAny_bind (wpAny_field hz rfl (x := .none) rfl (wpAny_pure ?_))
  simp only [if_true]; refine wpAny_bind (wpAny_rule ?_); refine wpAny_bind (wpAny_field hz rfl (x := .ref TO) rfl ?_)
  refine wpAny_bind (wpAny_setField_rec hz (by simp) fun g1 z1 s1 => ?_)
  replace z1 : IsZip g1 z TI TO .ellipsis := z1; refine wpAny_bind ?_
  simp only [List.zipIdx_cons, List.zipIdx_nil, List.forIn_cons, List.forIn_nil]; refine wpAny_bind (wpAny_bind (wpAny_onRaise ?_))
  show wpAny _ _ (Builtin.SmallTypes.nextOf (.ref p) >>= _) _ _ _
  refine wpAny_bind (nxItem (a1.but s1.extBut D.i1z) (b1.but s1.extBut D.l1z) ex fun g2 i2 s2 => wpAny_pure ?_)
  have t2 : IsPair g2 TO u v := s2.extBut _ _ D.TOi1 (s1.extBut _ _ D.TOz ho)
  refine wpAny_bind (wpAny_seqItems t2 rfl ?_); refine wpAny_bind (wpAny_updateSeq_pair t2 fun g3 t3 s3 => ?_)
  replace t3 : IsPair g3 TO x v := t3; refine wpAny_bind (wpAny_letGo (wpAny_pure ?_)); refine wpAny_bind (wpAny_bind (wpAny_onRaise ?_))
  show wpAny _ _ (Builtin.SmallTypes.nextOf (.ref q) >>= _) _ _ _
  refine wpAny_bind (nxItem (((a2.but s1.extBut D.i2z).but s2.extBut D.i12.symm).but s3.extBut D.TOi2.symm) (((b2.but s1.extBut D.l2z).but s2.extBut D.l2i1).but s3.extBut D.l2TO) ey fun g4 i4 s4 => wpAny_pure ?_)
  have t4 : IsPair g4 TO x v := s4.extBut _ _ D.TOi2 t3
  refine wpAny_bind (wpAny_seqItems t4 rfl ?_); refine wpAny_bind (wpAny_updateSeq_pair t4 fun g5 t5 s5 => ?_)
  replace t5 : IsPair g5 TO x y := t5; refine wpAny_bind (wpAny_letGo (wpAny_pure (wpAny_pure ?_)))
  refine wpAny_bind (wpAny_seqItems t5 rfl ?_); refine wpAny_bind (wpAny_newTuple ?_)
  have sz : g5.objs.size = s.heap.objs.size := by rw [s5.1, s4.1, s3.1, s2.1, s1.1]
  have z5 : IsZip g5 z TI TO .ellipsis := s5.extBut _ _ D.TOz.symm (s4.extBut _ _ D.i2z.symm (s3.extBut _ _ D.TOz.symm (s2.extBut _ _ D.i1z.symm z1)))
  have kp : ∀ c o, c ≠ z → c ≠ TO → c ≠ p → c ≠ q → s.heap.get? c = some o → g5.get? c = some o := fun c o c1 c2 c3 c4 e =>
    s5.extBut _ _ c2 (s4.extBut _ _ c4 (s3.extBut _ _ c2 (s2.extBut _ _ c3 (s1.extBut _ _ c1 e))))
  have m1 : HI ka g5 p la (n1 + 1) := ((i2.but s3.extBut D.TOi1.symm).but s4.extBut D.i12).but s5.extBut D.TOi1.symm
  have m2 : HI kb g5 q lb (n2 + 1) := i4.but s5.extBut D.TOi2.symm
  have zl : z < g5.objs.size := Heap.lt_size z5
  show wpAny _ _ (Builtin.SmallTypes.ownedTupleHandOut (.ref z) (.ref g5.objs.size) >>= _) _ _ _; refine wpAny_bind ?_
  unfold Builtin.SmallTypes.ownedTupleHandOut
  have z6 : IsZip (g5.push { cls := .type "tuple", data := .seq #[x, y] }) z TI TO .ellipsis := Heap.get?_push_of_some _ z5
  refine wpAny_bind (wpAny_setField_rec z6 (by simp) fun g7 z7 s7 => ?_); replace z7 : IsZip g7 z TI TO (rawInt g5.objs.size) := z7
  refine wpAny_setField_rec z7 (by simp) fun g8 z8 s8 => ?_; replace z8 : IsZip g8 z TI TO (rawInt g5.objs.size) := z8
  have up : ∀ c o, c ≠ z → g5.get? c = some o → g8.get? c = some o := fun c o c1 e => s8.extBut _ _ c1 (s7.extBut _ _ c1 (Heap.get?_push_of_some _ e))
  have tt : IsPair g8 g5.objs.size x y := s8.extBut _ _ (Nat.ne_of_gt zl) (s7.extBut _ _ (Nat.ne_of_gt zl) (Heap.get?_push_size _ rfl))
  have s8' : g8.objs.size = g5.objs.size + 1 := by rw [s8.1, s7.1, Heap.size_push]
  rw [sz] at z8 tt s8'; refine wpAny_pure ⟨_, rfl, ?_⟩
  show Q (.ref g5.objs.size) _; rw [sz]
  exact fin g8 z8 (up _ _ D.TOz t5) (m1.at' fun o e => up _ o D.i1z e) (m2.at' fun o e => up _ o D.i2z e) tt s8' fun c o c1 c2 c3 c4 e => up c o c1 (kp c o c1 c2 c3 c4 e)
/-- the end -/
theorem zpEnd {Q : Fin → Shared → Prop} (hh : A.handled = none) (D : ZipApart z TI TO p q la lb) (hz : IsZip s.heap z TI TO .none) (hi : IsPair s.heap TI (.ref p) (.ref q)) (ho : IsPair s.heap TO u v)
    (a1 : HI ka s.heap p la n1) (a2 : HI kb s.heap q lb n2) (b1 : HS ka s.heap la xs) (b2 : HS kb s.heap lb ys) (en : xs[n1]? = none ∨ ys[n2]? = none)
    (fin : ∀ h' e, (∀ c o, c ≠ z → c ≠ TO → c ≠ p → c ≠ q → s.heap.get? c = some o → h'.get? c = some o) → (∃ o, h'.get? e = some o ∧ o.cls = .type "StopIteration") → E (.ref e) { s with heap := h' }) :
    wpAny (model prog w) A (Builtin.«zip.__next__» ⟨[.ref z], []⟩) Q E s := by
  show wpAny _ _ (field (.ref z) 2 >>= _) _ _ _
  refine wpAny_bind (wpAny_field hz rfl (x := .bool false) rfl ?_); show wpAny _ _ (field (.ref z) 3 >>= _) _ _ _
  refine wpAny_bind (wpAny_field hz rfl (x := .ref TI) rfl ?_); refine wpAny_bind (wpAny_seqItems hi rfl ?_)
  show wpAny _ _ (Builtin.SmallTypes.ownedTupleIsFree (.ref z) >>= _) _ _ _; refine wpAny_bind ?_
  unfold Builtin.SmallTypes.ownedTupleIsFree; refine wpAny_bind (wpAny_field hz rfl (x := .none) rfl (wpAny_pure ?_))
  simp only [if_true]; refine wpAny_bind (wpAny_rule ?_); refine wpAny_bind (wpAny_field hz rfl (x := .ref TO) rfl ?_)
  refine wpAny_bind (wpAny_setField_rec hz (by simp) fun g1 z1 s1 => ?_)
  replace z1 : IsZip g1 z TI TO .ellipsis := z1; refine wpAny_bind ?_
  simp only [List.zipIdx_cons, List.zipIdx_nil, List.forIn_cons, List.forIn_nil]; refine wpAny_bind (wpAny_bind (wpAny_onRaise ?_))
  show wpAny _ _ (Builtin.SmallTypes.nextOf (.ref p) >>= _) _ _ _
  cases ex : xs[n1]? with
  | none =>
    refine wpAny_bind (nxEnd hh (a1.but s1.extBut D.i1z) (b1.but s1.extBut D.l1z) ex fun g2 e s2 he => ?_)
    obtain ⟨oe, e1, e2⟩ := he
    have z2 : IsZip g2 z TI TO .ellipsis := s2 _ _ D.i1z.symm z1
    have ne : e ≠ z := fun r => by subst r; rw [z2] at e1; cases e1; simp at e2
    exact wpAny_setField_rec z2 (by simp) fun g3 _ s3 => fin g3 e (fun c o c1 _ c3 _ r => s3.extBut _ _ c1 (s2 _ _ c3 (s1.extBut _ _ c1 r))) ⟨oe, s3.extBut _ _ ne e1, e2⟩
  | some x =>
    have ey : ys[n2]? = none := by
      rcases en with r | r
      · rw [ex] at r; cases r
      · exact r
    refine wpAny_bind (nxItem (a1.but s1.extBut D.i1z) (b1.but s1.extBut D.l1z) ex fun g2 i2 s2 => wpAny_pure ?_)
    have t2 : IsPair g2 TO u v := s2.extBut _ _ D.TOi1 (s1.extBut _ _ D.TOz ho)
    refine wpAny_bind (wpAny_seqItems t2 rfl ?_); refine wpAny_bind (wpAny_updateSeq_pair t2 fun g3 t3 s3 => ?_)
    refine wpAny_bind (wpAny_letGo (wpAny_pure ?_)); refine wpAny_bind (wpAny_bind (wpAny_onRaise ?_))
    show wpAny _ _ (Builtin.SmallTypes.nextOf (.ref q) >>= _) _ _ _
    refine wpAny_bind (nxEnd hh (((a2.but s1.extBut D.i2z).but s2.extBut D.i12.symm).but s3.extBut D.TOi2.symm) (((b2.but s1.extBut D.l2z).but s2.extBut D.l2i1).but s3.extBut D.l2TO) ey fun g4 e s4 he => ?_)
    obtain ⟨oe, e1, e2⟩ := he
    have z4 : IsZip g4 z TI TO .ellipsis := s4 _ _ D.i2z.symm (s3.extBut _ _ D.TOz.symm (s2.extBut _ _ D.i1z.symm z1))
    have ne : e ≠ z := fun r => by subst r; rw [z4] at e1; cases e1; simp at e2
    exact wpAny_setField_rec z4 (by simp) fun g5 _ s5 => fin g5 e (fun c o c1 c2 c3 c4 r => s5.extBut _ _ c1 (s4 _ _ c4 (s3.extBut _ _ c2 (s2.extBut _ _ c3 (s1.extBut _ _ c1 r))))) ⟨oe, s5.extBut _ _ ne e1, e2⟩
theorem pyItem {Q : Option Value → Shared → Prop} (D : ZipApart z TI TO p q la lb) (hz : IsZip s.heap z TI TO .none) (hi : IsPair s.heap TI (.ref p) (.ref q)) (ho : IsPair s.heap TO u v)
    (a1 : HI ka s.heap p la n1) (a2 : HI kb s.heap q lb n2) (b1 : HS ka s.heap la xs) (b2 : HS kb s.heap lb ys) (ex : xs[n1]? = some x) (ey : ys[n2]? = some y)
    (fin : ∀ h', IsZip h' z TI TO (rawInt s.heap.objs.size) → IsPair h' TO x y → HI ka h' p la (n1 + 1) → HI kb h' q lb (n2 + 1) → IsPair h' s.heap.objs.size x y → h'.objs.size = s.heap.objs.size + 1 →
      (∀ c o, c ≠ z → c ≠ TO → c ≠ p → c ≠ q → s.heap.get? c = some o → h'.get? c = some o) → Q (some (.ref s.heap.objs.size)) { s with heap := h' }) :
    wpAny (model prog w) A (pyNext (.ref z)) Q E s := by
  have ty : s.TypeIs (.ref z) "zip" := ⟨_, hz, rfl⟩
  unfold pyNext
  exact wpAny_bind (wpAny_attempt (wpAny_callSpecial?_slot (name := Str.ofString "__next__") ty F.slot_zip_next (wpAny_call_entry F.slot_zip_next ty F.entry_zip_next
    (zpItem D hz hi ho a1 a2 b1 b2 ex ey fun h' r1 r2 r3 r4 r5 r6 r7 => wpAny_pure (fin h' r1 r2 r3 r4 r5 r6 r7)) (F.args_zip_next_1 _))))
theorem pyEnd {Q : Option Value → Shared → Prop} (hh : A.handled = none) (D : ZipApart z TI TO p q la lb) (hz : IsZip s.heap z TI TO .none) (hi : IsPair s.heap TI (.ref p) (.ref q)) (ho : IsPair s.heap TO u v)
    (a1 : HI ka s.heap p la n1) (a2 : HI kb s.heap q lb n2) (b1 : HS ka s.heap la xs) (b2 : HS kb s.heap lb ys) (en : xs[n1]? = none ∨ ys[n2]? = none)
    (fin : ∀ h', (∀ c o, c ≠ z → c ≠ TO → c ≠ p → c ≠ q → s.heap.get? c = some o → h'.get? c = some o) → Q none { s with heap := h' }) : wpAny (model prog w) A (pyNext (.ref z)) Q E s := by
  have ty : s.TypeIs (.ref z) "zip" := ⟨_, hz, rfl⟩
  unfold pyNext
  refine wpAny_bind (wpAny_attempt (wpAny_callSpecial?_slot (name := Str.ofString "__next__") ty F.slot_zip_next (wpAny_call_entry F.slot_zip_next ty F.entry_zip_next (zpEnd hh D hz hi ho a1 a2 b1 b2 en fun h' e hk he => ?_) (F.args_zip_next_1 _))))
  obtain ⟨o, e1, e2⟩ := he
  exact wpAny_bind (wpAny_isInstance (T := "StopIteration") (b := true) ⟨o, e1, e2⟩ isSubtype_stop (wpAny_pure (fin _ hk)))
end
/-! the iterators of a new zip -/
abbrev itCls (k : Bool) : String := if k then "tuple_iterator" else "list_iterator"
abbrev zq1 (k1 : Bool) (h : Heap) (la : Addr) : Heap := h.push { cls := .type (itCls k1), data := .fields #[.ref la, .int 0 0] }
abbrev zq2 (k1 k2 : Bool) (h : Heap) (la lb : Addr) : Heap := (zq1 k1 h la).push { cls := .type (itCls k2), data := .fields #[.ref lb, .int 0 0] }
abbrev zq3 (k1 k2 : Bool) (h : Heap) (la lb : Addr) : Heap := (zq2 k1 k2 h la lb).push { cls := .type "tuple", data := .seq #[.ref h.objs.size, .ref (zq1 k1 h la).objs.size] }
abbrev zq4 (k1 k2 : Bool) (h : Heap) (la lb : Addr) : Heap := (zq3 k1 k2 h la lb).push { cls := .type "tuple", data := .seq #[.none, .none] }
abbrev zq5 (k1 k2 : Bool) (h : Heap) (la lb : Addr) : Heap := (zq4 k1 k2 h la lb).push { cls := .type "zip", data := .fields #[.none, .bool false, .bool false, .ref (zq2 k1 k2 h la lb).objs.size, .ref (zq3 k1 k2 h la lb).objs.size] }
theorem mzTL (la lb : Addr) (xs ys : Array Value) : Meets (Builtin.«zip.__new__» ⟨[.type "zip", .ref la, .ref lb], []⟩) (fun _ R s => s.heap.IsTuple la xs ∧ s.heap.IsList lb ys ∧ R (.ok (.ret (.ref (zq4 true false s.heap la lb).objs.size))) { s with heap := zq5 true false s.heap la lb }) :=
  .of_wp fun prog w A R s h => by
    obtain ⟨hp, g, d, tk, os⟩ := s; obtain ⟨b1, b2, h⟩ := h
    have hsub := sub_zip
    have c1 : Heap.IsTuple (Shared.heap ⟨hp, g, d, tk, os⟩) la xs := b1
    have c2 : Heap.IsList (Shared.heap ⟨hp.push { cls := .type "tuple_iterator", data := .fields #[.ref la, .int 0 0] }, g, d, tk, os⟩) lb ys := Heap.IsList.push b2 _
    wp_walk using wpAny_pyIter_tuple c1, wpAny_pyIter_list c2
    exact ⟨_, rfl, h⟩
theorem mzLT (la lb : Addr) (xs ys : Array Value) : Meets (Builtin.«zip.__new__» ⟨[.type "zip", .ref la, .ref lb], []⟩) (fun _ R s => s.heap.IsList la xs ∧ s.heap.IsTuple lb ys ∧ R (.ok (.ret (.ref (zq4 false true s.heap la lb).objs.size))) { s with heap := zq5 false true s.heap la lb }) :=
  .of_wp fun prog w A R s h => by
    obtain ⟨hp, g, d, tk, os⟩ := s; obtain ⟨b1, b2, h⟩ := h
    have hsub := sub_zip
    have c1 : Heap.IsList (Shared.heap ⟨hp, g, d, tk, os⟩) la xs := b1
    have c2 : Heap.IsTuple (Shared.heap ⟨hp.push { cls := .type "list_iterator", data := .fields #[.ref la, .int 0 0] }, g, d, tk, os⟩) lb ys := Heap.IsTuple.push b2 _
    wp_walk using wpAny_pyIter_list c1, wpAny_pyIter_tuple c2
    exact ⟨_, rfl, h⟩
section
variable {prog : Program} {w : World} {A : Around} {E : Value → Shared → Prop} {s : Shared}
theorem zqDone {k1 k2 : Bool} {la lb : Addr} {Q : Value → Shared → Prop} (fin : ∀ h', IsZip h' (s.heap.objs.size + 4) (s.heap.objs.size + 2) (s.heap.objs.size + 3) .none → IsPair h' (s.heap.objs.size + 2) (.ref s.heap.objs.size) (.ref (s.heap.objs.size + 1)) →
      IsPair h' (s.heap.objs.size + 3) .none .none → HI k1 h' s.heap.objs.size la 0 → HI k2 h' (s.heap.objs.size + 1) lb 0 → (∀ c o, s.heap.get? c = some o → h'.get? c = some o) → Q (.ref (s.heap.objs.size + 4)) { s with heap := h' }) :
    (∃ o, (zq5 k1 k2 s.heap la lb).get? (zq4 k1 k2 s.heap la lb).objs.size = some o ∧ o.cls = .type "zip") ∧ Q (.ref (zq4 k1 k2 s.heap la lb).objs.size) { s with heap := zq5 k1 k2 s.heap la lb } := by
  have z1 : (zq1 k1 s.heap la).objs.size = s.heap.objs.size + 1 := Heap.size_push ..
  have z2 : (zq2 k1 k2 s.heap la lb).objs.size = s.heap.objs.size + 2 := by rw [Heap.size_push, z1]
  have z3 : (zq3 k1 k2 s.heap la lb).objs.size = s.heap.objs.size + 3 := by rw [Heap.size_push, z2]
  have z4 : (zq4 k1 k2 s.heap la lb).objs.size = s.heap.objs.size + 4 := by rw [Heap.size_push, z3]
  have p5 : (zq5 k1 k2 s.heap la lb).get? (zq4 k1 k2 s.heap la lb).objs.size = some _ := Heap.get?_push_size _ rfl
  have p4 : (zq5 k1 k2 s.heap la lb).get? (zq3 k1 k2 s.heap la lb).objs.size = some _ := Heap.get?_push_of_some _ (Heap.get?_push_size _ rfl)
  have p3 : (zq5 k1 k2 s.heap la lb).get? (zq2 k1 k2 s.heap la lb).objs.size = some _ := Heap.get?_push_of_some _ (Heap.get?_push_of_some _ (Heap.get?_push_size _ rfl))
  have p2 : (zq5 k1 k2 s.heap la lb).get? (zq1 k1 s.heap la).objs.size = some _ := Heap.get?_push_of_some _ (Heap.get?_push_of_some _ (Heap.get?_push_of_some _ (Heap.get?_push_size _ rfl)))
  have p1 : (zq5 k1 k2 s.heap la lb).get? s.heap.objs.size = some _ := Heap.get?_push_of_some _ (Heap.get?_push_of_some _ (Heap.get?_push_of_some _ (Heap.get?_push_of_some _ (Heap.get?_push_size _ rfl))))
  rw [z2, z3, z4] at p5
  rw [z1, z2] at p3
  rw [z3] at p4
  rw [z1] at p2
  rw [z4]
  refine ⟨⟨_, p5, rfl⟩, fin _ p5 p3 p4 ?_ ?_ fun c o r => Heap.get?_push_of_some _ (Heap.get?_push_of_some _ (Heap.get?_push_of_some _ (Heap.get?_push_of_some _ (Heap.get?_push_of_some _ r))))⟩
  · cases k1 <;> exact ⟨_, p1, rfl, rfl⟩
  · cases k2 <;> exact ⟨_, p2, rfl, rfl⟩
/-- zip(a, b) -/
theorem zqCall {k1 k2 : Bool} {la lb : Addr} {xs ys : Array Value} {Q : Value → Shared → Prop} (b1 : HS k1 s.heap la xs) (b2 : HS k2 s.heap lb ys)
    (fin : ∀ h', IsZip h' (s.heap.objs.size + 4) (s.heap.objs.size + 2) (s.heap.objs.size + 3) .none → IsPair h' (s.heap.objs.size + 2) (.ref s.heap.objs.size) (.ref (s.heap.objs.size + 1)) →
      IsPair h' (s.heap.objs.size + 3) .none .none → HI k1 h' s.heap.objs.size la 0 → HI k2 h' (s.heap.objs.size + 1) lb 0 → (∀ c o, s.heap.get? c = some o → h'.get? c = some o) → Q (.ref (s.heap.objs.size + 4)) { s with heap := h' }) :
    wpAny (model prog w) A (call (.type "zip") [.ref la, .ref lb]) Q E s := by
  cases k1 with
  | true =>
    cases k2 with
    | true => exact RZ.call_zipT b1 b2 fun h' r1 r2 r3 r4 r5 _ r7 => fin h' r1 r2 r3 r4 r5 r7
    | false => exact callType_new F.called_zip (by decide) (F.typeCall_zip_2 _ _) (F.newCall_zip_2 _ _) (fun obj => F.args_object_init_3 obj _ _) F.entry_zip_new (mzTL la lb xs ys) ⟨b1, b2, zqDone (k1 := true) (k2 := false) fin⟩
  | false =>
    cases k2 with
    | true => exact callType_new F.called_zip (by decide) (F.typeCall_zip_2 _ _) (F.newCall_zip_2 _ _) (fun obj => F.args_object_init_3 obj _ _) F.entry_zip_new (mzLT la lb xs ys) ⟨b1, b2, zqDone (k1 := false) (k2 := true) fin⟩
    | false => exact call_zip_2 b1 b2 fun h' r1 r2 r3 r4 r5 _ r7 => fin h' r1 r2 r3 r4 r5 r7
end
/-! the walk -/
def SqK (k : Bool) (K : PySem.W.Frag) (H : Hp) (a : Addr) (xs : List V) : Prop := if k = true then SqT K H a xs else SqL K H a xs
def Itk (ka kb : Bool) (K : PySem.W.Frag) (a b : Addr) : It :=
  ⟨fun i H => ∃ (xs ys : List V) (x y : V), SqK ka K H a xs ∧ SqK kb K H b ys ∧ xs[i]? = some x ∧ ys[i]? = some y,
    fun i H v H' => ∃ T x y, v = .ref T ∧ H T = none ∧ H' = upd H T (.tup [x, y]) ∧ (∀ xs, SqK ka K H a xs → xs[i]? = some x) ∧ ∀ ys, SqK kb K H b ys → ys[i]? = some y,
    fun i H => ∃ xs ys : List V, SqK ka K H a xs ∧ SqK kb K H b ys ∧ (xs.length ≤ i ∨ ys.length ≤ i)⟩
theorem sqk_at {X : Cx} {pins : List (Addr × Obj)} {σ : L2.St} {H : Hp} {s : Shared} {k : Bool} {a : Addr} {xs : List V} (I : Inv X pins σ H s) (h : SqK k X.K H a xs) : ∃ its, Vals xs its ∧ HS k s.heap a its.toArray := by
  cases k with
  | true => obtain ⟨its, rv, p, _⟩ := I.tuple (show SqT X.K H a xs from h); exact ⟨its, rv, p⟩
  | false => obtain ⟨its, rv, p, _⟩ := I.list (show SqL X.K H a xs from h); exact ⟨its, rv, p.isList⟩
theorem sqk_inj {X : Cx} {pins : List (Addr × Obj)} {σ : L2.St} {H : Hp} {s : Shared} {k : Bool} {a : Addr} {xs ys : List V} (I : Inv X pins σ H s) (h : SqK k X.K H a xs) (h2 : SqK k X.K H a ys) : xs = ys := by
  cases k with
  | true => exact I.tuple_inj h h2
  | false => exact I.list_inj h h2
theorem turnK {P : Program} {w : World} {K : PySem.W.Frag} {elts : List Expr} {kk : Nat} {tpos : Pos} {ka kb : Bool} {a b z TI TO p q : Addr} (D : ZipApart z TI TO p q a b) :
    Turn P w K (.Tuple elts kk tpos) (Itk ka kb K a b) [z, TI, TO, p, q] z (fun i h => IsZip h z TI TO .none ∧ IsPair h TI (.ref p) (.ref q) ∧ (∃ x y, IsPair h TO x y) ∧ HI ka h p a i ∧ HI kb h q b i) where
  mem := by simp
  obj := fun i h st c hc => by
    obtain ⟨hz, hi, ⟨x, y, ho⟩, a1, a2⟩ := st
    obtain ⟨o1, e1, d1⟩ := a1.obj
    obtain ⟨o2, e2, d2⟩ := a2.obj
    have e' : c = z ∨ c = TI ∨ c = TO ∨ c = p ∨ c = q := by simpa using hc
    rcases e' with r | r | r | r | r <;> rw [r]
    · exact ⟨_, hz, fun v q => nomatch q⟩
    · exact ⟨_, hi, fun v q => nomatch q⟩
    · exact ⟨_, ho, fun v q => nomatch q⟩
    · exact ⟨o1, e1, fun v q => by rw [d1] at q; cases q⟩
    · exact ⟨o2, e2, fun v q => by rw [d2] at q; cases q⟩
  keep := fun i h h' st k => by
    obtain ⟨hz, hi, ⟨x, y, ho⟩, a1, a2⟩ := st
    exact ⟨k z (by simp) _ hz, k TI (by simp) _ hi, ⟨x, y, k TO (by simp) _ ho⟩, a1.at' fun o r => k p (by simp) o r, a2.at' fun o r => k q (by simp) o r⟩
  item := by
    intro X hP hw hK hc i pins s σ H E I hf st hg
    subst hP hw hK
    obtain ⟨hz, hi, ⟨x0, y0, ho⟩, a1, a2⟩ := st
    obtain ⟨xs, ys, x, y, hqx, hqy, hx, hy⟩ := hg
    obtain ⟨its, rv, b1⟩ := sqk_at I hqx
    obtain ⟨its2, rv2, b2⟩ := sqk_at I hqy
    obtain ⟨u, hu, ru⟩ := rv.get hx
    obtain ⟨u2, hu2, ru2⟩ := rv2.get hy
    have zl : z < s.heap.objs.size := Heap.lt_size hz
    refine pyItem D hz hi ho a1 a2 b1 b2 (x := u) (y := u2) (by simpa using hu) (by simpa using hu2) fun h' z' TO' h1' h2' hT hsz hk => ?_
    refine ⟨_, rfl, wpAny_letOwnedTupleGo_zip (s := { s with heap := h' }) z' fun h'' z'' sb => ?_⟩
    have hT2 : h''.get? s.heap.objs.size = some { cls := .type "tuple", data := .seq #[u, u2] } := (sb.2 _ (Nat.ne_of_gt zl)).trans hT
    have new : ObjOk X.prog X.w (upd H s.heap.objs.size (.tup [x, y])) h'' s.heap.objs.size (.tup [x, y]) := ⟨by show 2 ≤ sizeLine; decide, [u, u2], .cons ru (.cons ru2 .nil), ⟨_, hT2, rfl, _, rfl⟩⟩
    have I1 : Inv X pins σ (upd H s.heap.objs.size (.tup [x, y])) { s with heap := h'' } :=
      I.turnedNew (t' := s.toks) (ch := [z, TI, TO, p, q]) (fun c o hb r => (sb.2 c (fun q' => hb (by simp [q']))).trans (hk c o (fun q' => hb (by simp [q'])) (fun q' => hb (by simp [q'])) (fun q' => hb (by simp [q'])) (fun q' => hb (by simp [q'])) r)) hf (Nat.le_refl _) new
    refine ⟨.ref s.heap.objs.size, _, I1, rfl, ⟨_, x, y, rfl, I.hok.fresh (Nat.le_refl _), rfl, fun l hl => by rw [sqk_inj I hl hqx]; exact hx, fun l hl => by rw [sqk_inj I hl hqy]; exact hy⟩, ⟨z'', ?_, ⟨u, u2, ?_⟩, ?_, ?_⟩, fun c hcm => ?_⟩
    · exact (sb.2 _ D.TIz).trans (hk _ _ D.TIz D.TITO D.TIi1 D.TIi2 hi)
    · exact (sb.2 _ D.TOz).trans TO'
    · exact h1'.at' fun o r => (sb.2 _ D.i1z).trans r
    · exact h2'.at' fun o r => (sb.2 _ D.i2z).trans r
    · obtain ⟨o1, e1, _⟩ := a1.obj
      obtain ⟨o2, e2, _⟩ := a2.obj
      have hlt : c < s.heap.objs.size := by
        have e' : c = z ∨ c = TI ∨ c = TO ∨ c = p ∨ c = q := by simpa using hcm
        rcases e' with r | r | r | r | r <;> rw [r]
        · exact zl
        · exact Heap.lt_size hi
        · exact Heap.lt_size ho
        · exact Heap.lt_size e1
        · exact Heap.lt_size e2
      rw [upd_ne (Nat.ne_of_lt hlt)]
      exact (hf c hcm).1
  done := by
    intro X hP hw hK hc i pins s σ H E I hf st hg
    subst hP hw hK
    obtain ⟨hz, hi, ⟨x0, y0, ho⟩, a1, a2⟩ := st
    obtain ⟨xs, ys, hqx, hqy, hend⟩ := hg
    obtain ⟨its, rv, b1⟩ := sqk_at I hqx
    obtain ⟨its2, rv2, b2⟩ := sqk_at I hqy
    have l1 := rv.length
    have l2 := rv2.length
    have he : its.toArray[i]? = none ∨ its2.toArray[i]? = none := by
      rcases hend with r | r
      · exact .inl (by simp; omega)
      · exact .inr (by simp; omega)
    exact pyEnd (I.ok.hd hc) D hz hi ho a1 a2 b1 b2 he fun h' hk => ⟨rfl, I.turnedL (t' := s.toks) (ch := [z, TI, TO, p, q]) (fun c o hb r =>
      hk c o (fun q' => hb (by simp [q'])) (fun q' => hb (by simp [q'])) (fun q' => hb (by simp [q'])) (fun q' => hb (by simp [q'])) r) hf⟩
  self := fun A i s Q E st h => wpAny_pyIter_zip st.1 h
def iZipK (K : PySem.W.Frag) (ta : TA) : L2.TI := fun σ H R => ta σ H fun vs H1 => ∃ ka kb a b xs ys, vs = [.ref a, .ref b] ∧ SqK ka K H1 a xs ∧ SqK kb K H1 b ys ∧ R (Itk ka kb K a b) H1
theorem pi_zipK {X : Cx} {e e2 : Expr} {ta : TA} {p pos tpos : Pos} {elts : List Expr} {kk : Nat} (hg : Gl X "zip") (hm : X.mg "zip" = none) (ha : PA X [e, e2] ta)
    (hs : starEach [e, e2] X.env = (false, eval e X.env) :: starEach [e2] X.env) (hpl : (backTo pos (starEach [e2] X.env)).any (·.1) = false) :
    PI X (.Tuple elts kk tpos) (.Call (.Name "zip" p) [e, e2] [] pos) (iZipK X.K ta) := by
  refine ⟨fun pins s σ H R I h => ?_⟩
  refine Call_ (ld_blt I hg hm PyProof.Rows.boot_zip (PyProof.Rows.callWith_type1 (thn (ha.run pos pins s σ H _ I h) fun us s1 ⟨vs, H1, I1, r1, q1⟩ => ?_) hs hpl))
  obtain ⟨ka, kb, a, b, xs, ys, ex, hqx, hqy, q⟩ := q1
  subst ex
  cases r1 with
  | cons r rr =>
    cases rr with
    | cons r' rr =>
      cases rr
      cases r
      cases r'
      obtain ⟨its, rv, b1⟩ := sqk_at I1 hqx
      obtain ⟨its2, rv2, b2⟩ := sqk_at I1 hqy
      refine zqCall b1 b2 fun h' hz hTI hTO h1 h2 hk => wpAny_pyIter_zip hz ?_
      have I2 : Inv X pins σ H1 { s1 with heap := h' } := I1.kept (t' := s1.toks) hk
      refine ⟨s1.heap.objs.size + 4, [s1.heap.objs.size + 4, s1.heap.objs.size + 2, s1.heap.objs.size + 3, s1.heap.objs.size, s1.heap.objs.size + 1], _, _, H1, rfl, I2, turnK (PySem.W.ktu_apart s1.heap.objs.size a b b1.lt b2.lt), ⟨hz, hTI, ⟨_, _, hTO⟩, h1, h2⟩, fun c hcm => ?_, q⟩
      have hle : s1.heap.objs.size ≤ c := by
        have e' : c = s1.heap.objs.size + 4 ∨ c = s1.heap.objs.size + 2 ∨ c = s1.heap.objs.size + 3 ∨ c = s1.heap.objs.size ∨ c = s1.heap.objs.size + 1 := by simpa using hcm
        rcases e' with r | r | r | r | r <;> rw [r] <;> omega
      exact I1.fpOk hle (I1.hok.fresh hle)
end Mi
set_option maxHeartbeats 4000000
set_option autoImplicit false
namespace Mi
open PySem PySem.Spec PyProof.Rows L2
section
variable {T : Tab} {c : Cxt T} {F : Nat → List W → Q W} {xc : Option (Nat × List W)} {xv : Option (Nat × Addr)} {cx : Value × Option Addr} {Wx : WX} {X : Cx}
variable {a b d : TX} {l r z : Expr} {pos : Pos} {lv : Nat}
/-! ## what is walked -/
/-- an item: a value, or a pair just made -/
def RelI (c : Cxt T) (m : List Addr) (M H : Hp) (w : W) (v : V) : Prop := RelW c.kt m M w v ∨ ∃ ws p vs, w = .tup ws ∧ v = .ref p ∧ SqT c.K H p vs ∧ RelWs c.kt m M ws vs
def Still (k : Wk) (st : Store) : Prop := ∀ p ∈ k.src, st[p.1]? = some (some (.lst p.2))
def WkOf (c : Cxt T) (pair : Bool) (k : Wk) (m : List Addr) (st : Store) (H : Hp) (J : It) : Prop := ∃ (G : Hp → Prop) (Y : Nat → Hp → V → Hp → Prop), Walk J k.xs.length G Y ∧
  (∀ m2 st2 H2, Ext m st H m2 st2 H2 → SR c.kt m2 st2 H2 → Still k st2 → G H2) ∧
  (∀ i H2 x H3, i < k.xs.length → Y i H2 x H3 → ∀ m2 st2, Ext m st H m2 st2 H2 → SR c.kt m2 st2 H2 → Still k st2 → ∃ w, k.xs[i]? = some w ∧ SR c.kt m2 st2 H3 ∧ Ext m2 st2 H2 m2 st2 H3 ∧ (if pair then RelI c m2 (fz m2 st2 H3) H3 w x else RelW c.kt m2 (fz m2 st2 H3) w x))
theorem items_still {w : W} {xs : List W} {st st2 : Store} (h : items w st = .ok xs st) (hs : ∀ p ∈ srcOf w xs, st2[p.1]? = some (some (.lst p.2))) : items w st2 = .ok xs st2 := by
  cases w with
  | ref n =>
    have := hs (n, xs) (by unfold srcOf; simp)
    rw [items_ref, this]
  | lst ys => cases h; rfl
  | fro ys => cases h; rfl
  | tup ys => cases h; rfl
  | _ => cases h
/-- the items later on -/
theorem items_later {w : W} {v : V} {xs : List W} {m m2 : List Addr} {st st2 : Store} {H H2 : Hp} (r : RelW c.kt m (fz m st H) w v) (h : items w st = .ok xs st) (e : Ext m st H m2 st2 H2) (S : SR c.kt m2 st2 H2) (hs : ∀ p ∈ srcOf w xs, st2[p.1]? = some (some (.lst p.2))) :
    ∃ vs, IsSq w c.K H2 v vs ∧ RelWs c.kt m2 (fz m2 st2 H2) xs vs := (items_at S (e.relW r) (items_still h hs)).2
theorem walk_listV {K : PySem.W.Frag} {p : Addr} {n : Nat} : Walk (Itl K p) n (fun H => ∃ vs, SqL K H p vs ∧ vs.length = n) (fun i H x H' => H' = H ∧ ∀ vs, SqL K H p vs → vs[i]? = some x) := by
  refine ⟨fun i H hi q => ?_, fun H q => ?_, fun i H x H' hi q y => ⟨y.1, y.2⟩⟩
  · obtain ⟨vs, h1, h2⟩ := q
    exact ⟨vs, vs[i]'(by omega), h1, by simp [show i < vs.length by omega]⟩
  · obtain ⟨vs, h1, h2⟩ := q
    exact ⟨vs, h1, by omega⟩
theorem walk_tupV {K : PySem.W.Frag} {p : Addr} {n : Nat} : Walk (Itt K p) n (fun H => ∃ vs, SqT K H p vs ∧ vs.length = n) (fun i H x H' => H' = H ∧ ∀ vs, SqT K H p vs → vs[i]? = some x) := by
  refine ⟨fun i H hi q => ?_, fun H q => ?_, fun i H x H' hi q y => ⟨y.1, y.2⟩⟩
  · obtain ⟨vs, h1, h2⟩ := q
    exact ⟨vs, vs[i]'(by omega), h1, by simp [show i < vs.length by omega]⟩
  · obtain ⟨vs, h1, h2⟩ := q
    exact ⟨vs, h1, by omega⟩
theorem walk_enumV {K : PySem.W.Frag} {p : Addr} {n : Nat} : Walk (Ite K p) n (fun H => ∃ vs, SqL K H p vs ∧ vs.length = n) (fun i H v H' => ∃ T x, v = .ref T ∧ H T = none ∧ H' = upd H T (.tup [.int (i : Nat), x]) ∧ ∀ vs, SqL K H p vs → vs[i]? = some x) := by
  refine ⟨fun i H hi q => ?_, fun H q => ?_, fun i H x H' hi q y => y⟩
  · obtain ⟨vs, h1, h2⟩ := q
    exact ⟨vs, vs[i]'(by omega), h1, by simp [show i < vs.length by omega]⟩
  · obtain ⟨vs, h1, h2⟩ := q
    exact ⟨vs, h1, by omega⟩
theorem walk_enumTV {K : PySem.W.Frag} {p : Addr} {n : Nat} : Walk (IteT K p) n (fun H => ∃ vs, SqT K H p vs ∧ vs.length = n) (fun i H v H' => ∃ T x, v = .ref T ∧ H T = none ∧ H' = upd H T (.tup [.int (i : Nat), x]) ∧ ∀ vs, SqT K H p vs → vs[i]? = some x) := by
  refine ⟨fun i H hi q => ?_, fun H q => ?_, fun i H x H' hi q y => y⟩
  · obtain ⟨vs, h1, h2⟩ := q
    exact ⟨vs, vs[i]'(by omega), h1, by simp [show i < vs.length by omega]⟩
  · obtain ⟨vs, h1, h2⟩ := q
    exact ⟨vs, h1, h2⟩
/-- the reading of what is walked -/
def rI (c : Cxt T) (F : Nat → List W → Q W) (xc : Option (Nat × List W)) (xv : Option (Nat × Addr)) (cx : Value × Option Addr) (Wx : WX) (pair : Bool) (t : TI) : L2.TI := fun σ H R => ∃ m env st, Sim c xc xv cx m env st σ H ∧ match evI T F xc t env st with
  | .ok k st' => ∀ m' H' J, Ext m st H m' st' H' → SR c.kt m' st' H' → WkOf c pair k m' st' H' J → R J H'
  | .ex i xs st' => ∀ m' cls d H', Ext m st H m' st' H' → SR c.kt m' st' H' → XRel c m' (fz m' st' H') i xs cls d → Wx cls d σ H'
  | .no => False
theorem pi_seqW {tg : Expr} {tl : TE} (hl : PE X l tl) : PI X tg l (fun σ H R => tl σ H fun x H1 => ∃ p vs, x = .ref p ∧ ((SqL X.K H1 p vs ∧ R (Itl X.K p) H1) ∨ (SqT X.K H1 p vs ∧ R (Itt X.K p) H1))) := by
  refine ⟨fun pins s σ H R I h => ?_⟩
  refine thn (hl.run pins s σ H _ I h) fun v s1 ⟨x, H1, I1, r1, q1⟩ => ?_
  obtain ⟨a, xs, e, q⟩ := q1
  subst e
  cases r1
  rcases q with ⟨hq, q⟩ | ⟨hq, q⟩
  · obtain ⟨its, rv, p, hz⟩ := I1.list hq
    refine wpAny_pyIter_list p.isList ?_
    refine ⟨s1.heap.objs.size, [s1.heap.objs.size], _, _, H1, rfl, I1.kept (t' := s1.toks) fun b o e => Heap.get?_push_of_some _ e, turn_list a _, ⟨_, Heap.get?_push_size _ rfl, rfl, rfl⟩, fun b hb => ?_, q⟩
    have e : b = s1.heap.objs.size := by simpa using hb
    subst e
    exact I1.fpOk (Nat.le_refl _) (I1.hok.fresh (Nat.le_refl _))
  · obtain ⟨its, rv, p, hz⟩ := I1.tuple hq
    refine wpAny_pyIter_tuple (show s1.heap.IsTuple a its.toArray from p) ?_
    refine ⟨s1.heap.objs.size, [s1.heap.objs.size], _, _, H1, rfl, I1.kept (t' := s1.toks) fun b o e => Heap.get?_push_of_some _ e, turn_tuple a _, ⟨_, Heap.get?_push_size _ rfl, rfl, rfl⟩, fun b hb => ?_, q⟩
    have e : b = s1.heap.objs.size := by simpa using hb
    subst e
    exact I1.fpOk (Nat.le_refl _) (I1.hok.fresh (Nat.le_refl _))
theorem bd_cases {α β γ : Type} {x : Q α} {f : α → Q β} {st : Store} {p : R β → Prop} (h : p (bd x f st)) (k1 : ∀ a s, x st = .ok a s → p (f a s)) : True := trivial
theorem get_of_rel {m : List Addr} {M : Hp} {xs : List W} {vs : List V} {i : Nat} {x : V} (r : RelWs c.kt m M xs vs) (h : vs[i]? = some x) : ∃ w, xs[i]? = some w ∧ RelW c.kt m M w x := r.getV h
theorem sni_sq (hK : X.K = c.K) {tg : Expr} (ha : PE X l (rE c F xc xv cx Wx a)) : PI X tg l (rI c F xc xv cx Wx false (.sq a)) := by
  refine PI.mono (pi_seqW ha) fun σ H R h => ?_
  obtain ⟨m, env, st, S, hp⟩ := h
  refine ⟨m, env, st, S, ?_⟩
  dsimp only [evI] at hp
  cases e : ev T F xc a env st with
  | no => unfold bd at hp; rw [e] at hp; exact hp.elim
  | ex i xs s => rw [bd_ex e] at hp; exact hp
  | ok w st1 =>
    rw [bd_ok e] at hp
    intro m1 x H1 E1 S1 rx
    cases e2 : items w st1 with
    | no => unfold bd at hp; rw [e2] at hp; exact hp.elim
    | ex i xs s => exact absurd e2 (by
        intro e2
        cases w with
        | ref n => rw [items_ref] at e2; cases q : st1[n]? with
          | none => rw [q] at e2; cases e2
          | some o => cases o with
            | none => rw [q] at e2; cases e2
            | some o => rw [q] at e2; cases o <;> cases e2
        | _ => cases e2)
    | ok xs s =>
      rw [bd_ok e2] at hp
      obtain ⟨rfl, vs, ⟨p, rfl, hq⟩, rs⟩ := items_at S1 rx e2
      refine ⟨p, vs, rfl, ?_⟩
      rw [hK]
      rcases hq with ⟨ht, hq⟩ | ⟨ht, hq⟩
      · refine .inl ⟨hq, hp m1 H1 _ E1 S1 ⟨_, _, walk_listV (n := xs.length), fun m2 st2 H2 e2' s2 hs => ?_, fun i H2 y H3 hi hy m2 st2 e2' s2 hs => ?_⟩⟩
        · obtain ⟨us, ⟨q, eq, hh⟩, rr⟩ := items_later rx e2 e2' s2 hs
          cases eq
          rcases hh with ⟨_, hh⟩ | ⟨hh, _⟩
          · exact ⟨us, hh, rr.len⟩
          · rw [ht] at hh; cases hh
        · obtain ⟨us, ⟨q, eq, hh⟩, rr⟩ := items_later rx e2 e2' s2 hs
          cases eq
          rcases hh with ⟨_, hh⟩ | ⟨hh, _⟩
          · obtain ⟨rfl, hy⟩ := hy
            obtain ⟨w', h1, h2⟩ := rr.getV (hy us hh)
            exact ⟨w', h1, s2, Ext.refl, h2⟩
          · rw [ht] at hh; cases hh
      · refine .inr ⟨hq, hp m1 H1 _ E1 S1 ⟨_, _, walk_tupV (n := xs.length), fun m2 st2 H2 e2' s2 hs => ?_, fun i H2 y H3 hi hy m2 st2 e2' s2 hs => ?_⟩⟩
        · obtain ⟨us, ⟨q, eq, hh⟩, rr⟩ := items_later rx e2 e2' s2 hs
          cases eq
          rcases hh with ⟨hh, _⟩ | ⟨_, hh⟩
          · rw [ht] at hh; cases hh
          · exact ⟨us, hh, rr.len⟩
        · obtain ⟨us, ⟨q, eq, hh⟩, rr⟩ := items_later rx e2 e2' s2 hs
          cases eq
          rcases hh with ⟨hh, _⟩ | ⟨_, hh⟩
          · rw [ht] at hh; cases hh
          · obtain ⟨rfl, hy⟩ := hy
            obtain ⟨w', h1, h2⟩ := rr.getV (hy us hh)
            exact ⟨w', h1, s2, Ext.refl, h2⟩
theorem items_nex {w : W} {st : Store} {i : Nat} {xs : List W} {s : Store} : items w st ≠ .ex i xs s := by
  intro e2
  cases w with
  | ref n => rw [items_ref] at e2; cases q : st[n]? with
    | none => rw [q] at e2; cases e2
    | some o => cases o with
      | none => rw [q] at e2; cases e2
      | some o => rw [q] at e2; cases o <;> cases e2
  | _ => cases e2
theorem wk_range {lo : Int} {n : Nat} {m : List Addr} {st : Store} {H : Hp} : WkOf c false ⟨rangeW lo n, []⟩ m st H (Itr lo n) := by
  have hl : (rangeW lo n).length = n := by unfold rangeW; simp
  refine ⟨_, _, by show Walk (Itr lo n) (rangeW lo n).length _ _; rw [hl]; exact walk_range, fun _ _ _ _ _ _ => trivial, fun i H2 x H3 hi hy m2 st2 e2 s2 hs => ?_⟩
  obtain ⟨rfl, rfl⟩ := hy
  have hi' : i < n := by rw [← hl]; exact hi
  refine ⟨.int (lo + i), by unfold rangeW; simp [hi'], s2, Ext.refl, ?_⟩
  have q : RelW c.kt m2 (fz m2 st2 H3) (.int (lo + i)) (.int (lo + i)) := by unfold RelW; rfl
  exact q
theorem sni_r1 (st0 : Stat c) (G : Gd c F X Wx lv) {tg : Expr} {p : Pos} (hg : Gl X "range") (hn : noStar l = true) (ha : PE X l (rE c F xc xv cx Wx a)) : PI X tg (.Call (.Name "range" p) [l] [] pos) (rI c F xc xv cx Wx false (.r1 a)) := by
  have bl : X.mg "range" = none := by rw [G.mg]; exact st0.blt _ (by decide +kernel)
  refine PI.mono (pi_range1 hg bl (pa_cons ha pa_nil (star_cons hn [] X.env)) (star_cons hn [] X.env)) fun σ H R h => ?_
  obtain ⟨m, env, st, S, hp⟩ := h
  refine ⟨m, env, st, S, ?_⟩
  dsimp only [evI] at hp
  cases e : ev T F xc a env st with
  | no => unfold bd at hp; rw [e] at hp; exact hp.elim
  | ex i xs s => rw [bd_ex e] at hp; exact hp
  | ok w st1 =>
    rw [bd_ok e] at hp
    intro m1 x H1 E1 S1 rx
    cases w with
    | int j =>
      dsimp only at hp
      by_cases hj : -(2 ^ 62) ≤ j ∧ j < 2 ^ 62
      · rw [if_pos hj] at hp
        exact ⟨j, by rw [rel_int rx], hj.1, hj.2, hp m1 H1 _ E1 S1 wk_range⟩
      · rw [if_neg hj] at hp; exact hp.elim
    | _ => exact hp.elim
theorem sni_r2 (st0 : Stat c) (G : Gd c F X Wx lv) {tg : Expr} {p : Pos} (hg : Gl X "range") (hn : noStar l = true) (hn2 : noStar r = true) (ha : PE X l (rE c F xc xv cx Wx a)) (hb : PE X r (rE c F xc xv cx Wx b)) : PI X tg (.Call (.Name "range" p) [l, r] [] pos) (rI c F xc xv cx Wx false (.r2 a b)) := by
  have bl : X.mg "range" = none := by rw [G.mg]; exact st0.blt _ (by decide +kernel)
  refine PI.mono (pi_range2 hg bl (pa_cons ha (pa_cons hb pa_nil (star_cons hn2 [] X.env)) (star_cons hn [r] X.env)) (by rw [star_cons hn, star_cons hn2]; rfl) (star_cons hn2 [] X.env)) fun σ H R h => ?_
  obtain ⟨m, env, st, S, hp⟩ := h
  refine ⟨m, env, st, S, ?_⟩
  dsimp only [evI] at hp
  cases e : ev T F xc a env st with
  | no => unfold bd at hp; rw [e] at hp; exact hp.elim
  | ex i xs s => rw [bd_ex e] at hp; exact hp
  | ok w st1 =>
    rw [bd_ok e] at hp
    intro m1 x H1 E1 S1 rx
    refine ⟨m1, env, st1, S.ext E1 S1, ?_⟩
    cases e2 : ev T F xc b env st1 with
    | no => unfold bd at hp; rw [e2] at hp; exact hp.elim
    | ex i xs s =>
      rw [bd_ex e2] at hp
      intro m2 cls dd H2 E2 S2 q
      exact hp m2 cls dd H2 (E1.trans E2) S2 q
    | ok u st2 =>
      rw [bd_ok e2] at hp
      intro m2 y H2 E2 S2 ry
      cases w with
      | int i =>
        cases u with
        | int j =>
          dsimp only at hp
          by_cases hj : (-(2 ^ 62) ≤ i ∧ i < 2 ^ 62) ∧ (-(2 ^ 62) ≤ j ∧ j < 2 ^ 62)
          · rw [if_pos hj] at hp
            exact ⟨i, j, by rw [rel_int rx, rel_int ry], ⟨hj.1.1, hj.1.2, hj.2.1, hj.2.2⟩, hp m2 H2 _ (E1.trans E2) S2 wk_range⟩
          · rw [if_neg hj] at hp; exact hp.elim
        | _ => exact hp.elim
      | _ => exact hp.elim
theorem enumW_get : ∀ (xs : List W) (k i : Nat), (enumW k xs)[i]? = (xs[i]?).map fun x => .tup [.int ((k + i : Nat) : Int), x]
  | [], k, i => by simp [enumW]
  | x :: xs, k, 0 => by simp [enumW]
  | x :: xs, k, i + 1 => by
    unfold enumW
    rw [List.getElem?_cons_succ, List.getElem?_cons_succ, enumW_get xs (k + 1) i]
    have e : k + 1 + i = k + (i + 1) := by omega
    rw [e]
theorem enumW_len : ∀ (xs : List W) (k : Nat), (enumW k xs).length = xs.length
  | [], k => rfl
  | x :: xs, k => by unfold enumW; simp [enumW_len xs]
/-- a pair just made -/
theorem pair_ok {m : List Addr} {st : Store} {H : Hp} {p : Addr} {w1 w2 : W} {x y : V} (S : SR c.kt m st H) (hp : H p = none) (r1 : RelW c.kt m (fz m st H) w1 x) (r2 : RelW c.kt m (fz m st H) w2 y) :
    SR c.kt m st (upd H p (.tup [x, y])) ∧ Ext m st H m st (upd H p (.tup [x, y])) ∧ RelI c m (fz m st (upd H p (.tup [x, y]))) (upd H p (.tup [x, y])) (.tup [w1, w2]) (.ref p) := by
  obtain ⟨s1, e1⟩ := S.laid (p := p) (o := .tup [x, y]) hp
  exact ⟨s1, e1, .inr ⟨[w1, w2], p, [x, y], rfl, rfl, SqT.of upd_same, RelWs.cons (e1.relW r1) (RelWs.cons (e1.relW r2) RelWs.nil)⟩⟩
theorem wk_enum {K : PySem.W.Frag} (hK : K = c.K) {w : W} {p : Addr} {xs : List W} {m1 : List Addr} {s : Store} {H1 : Hp} (rx : RelW c.kt m1 (fz m1 s H1) w (.ref p)) (e2 : items w s = .ok xs s) :
    WkOf c true ⟨enumW 0 xs, srcOf w xs⟩ m1 s H1 (if isTup w then IteT K p else Ite K p) := by
  subst hK
  have hl : (enumW 0 xs).length = xs.length := enumW_len xs 0
  have fin : ∀ i H2 T y m2 st2 us, i < (enumW 0 xs).length → SR c.kt m2 st2 H2 → H2 T = none → RelWs c.kt m2 (fz m2 st2 H2) xs us → us[i]? = some y →
      ∃ w', (enumW 0 xs)[i]? = some w' ∧ SR c.kt m2 st2 (upd H2 T (.tup [.int (i : Nat), y])) ∧ Ext m2 st2 H2 m2 st2 (upd H2 T (.tup [.int (i : Nat), y])) ∧ RelI c m2 (fz m2 st2 (upd H2 T (.tup [.int (i : Nat), y]))) (upd H2 T (.tup [.int (i : Nat), y])) w' (.ref T) := by
    intro i H2 T y m2 st2 us hi s2 hT rr hy
    obtain ⟨w', h1, h2⟩ := rr.getV hy
    obtain ⟨s3, e3, r3⟩ := pair_ok (w1 := .int (i : Nat)) s2 hT (by unfold RelW; rfl) h2
    exact ⟨.tup [.int ((0 + i : Nat) : Int), w'], by rw [enumW_get, h1]; rfl, s3, e3, by rw [Nat.zero_add]; exact r3⟩
  cases ht : isTup w with
  | false =>
    refine ⟨_, _, by show Walk (Ite _ p) (enumW 0 xs).length _ _; exact walk_enumV, fun m2 st2 H2 e2' s2 hs => ?_, fun i H2 y H3 hi hy m2 st2 e2' s2 hs => ?_⟩
    · obtain ⟨us, ⟨q, eq, hh⟩, rr⟩ := items_later rx e2 e2' s2 hs
      cases eq
      rcases hh with ⟨_, hh⟩ | ⟨hh, _⟩
      · exact ⟨us, hh, rr.len.trans hl.symm⟩
      · rw [ht] at hh; cases hh
    · obtain ⟨us, ⟨q, eq, hh⟩, rr⟩ := items_later rx e2 e2' s2 hs
      cases eq
      rcases hh with ⟨_, hh⟩ | ⟨hh, _⟩
      · obtain ⟨T, z, rfl, hT, rfl, hy⟩ := hy
        exact fin i H2 T z m2 st2 us hi s2 hT rr (hy us hh)
      · rw [ht] at hh; cases hh
  | true =>
    refine ⟨_, _, by show Walk (IteT _ p) (enumW 0 xs).length _ _; exact walk_enumTV, fun m2 st2 H2 e2' s2 hs => ?_, fun i H2 y H3 hi hy m2 st2 e2' s2 hs => ?_⟩
    · obtain ⟨us, ⟨q, eq, hh⟩, rr⟩ := items_later rx e2 e2' s2 hs
      cases eq
      rcases hh with ⟨hh, _⟩ | ⟨_, hh⟩
      · rw [ht] at hh; cases hh
      · exact ⟨us, hh, rr.len.trans hl.symm⟩
    · obtain ⟨us, ⟨q, eq, hh⟩, rr⟩ := items_later rx e2 e2' s2 hs
      cases eq
      rcases hh with ⟨hh, _⟩ | ⟨_, hh⟩
      · rw [ht] at hh; cases hh
      · obtain ⟨T, z, rfl, hT, rfl, hy⟩ := hy
        exact fin i H2 T z m2 st2 us hi s2 hT rr (hy us hh)
/-- enumerate(e), e a list or a tuple -/
theorem pi_enumW {e : Expr} {ta : TA} {p tpos : Pos} {elts : List Expr} {kk : Nat} (hg : Gl X "enumerate") (hm : X.mg "enumerate" = none) (ha : PA X [e] ta) (hs : starEach [e] X.env = [(false, eval e X.env)]) :
    PI X (.Tuple elts kk tpos) (.Call (.Name "enumerate" p) [e] [] pos) (fun σ H R => ta σ H fun vs H1 => ∃ a xs, vs = [.ref a] ∧ ((SqL X.K H1 a xs ∧ R (Ite X.K a) H1) ∨ (SqT X.K H1 a xs ∧ R (IteT X.K a) H1))) := by
  refine ⟨fun pins s σ H R I h => ?_⟩
  refine Call_ (ld_blt I hg hm boot_enumerate (PyProof.Rows.callWith_type1 (thn (ha.run pos pins s σ H _ I h) fun us s1 ⟨vs, H1, I1, r1, q1⟩ => ?_) hs rfl))
  obtain ⟨a, xs, ex, q⟩ := q1
  subst ex
  cases r1 with
  | cons r rr =>
    cases rr
    cases r
    rcases q with ⟨hq, q⟩ | ⟨hq, q⟩
    · obtain ⟨its, rv, p', hz⟩ := I1.list hq
      refine call_enumerate_list p'.isList fun h' he hit hsz hk => wpAny_pyIter_enum he ?_
      have I2 : Inv X pins σ H1 { s1 with heap := h' } := I1.kept (t' := s1.toks) hk
      refine ⟨s1.heap.objs.size + 1, [s1.heap.objs.size + 1, s1.heap.objs.size], _, _, H1, rfl, I2, turn_enum a (s1.heap.objs.size + 1) s1.heap.objs.size, ⟨⟨.none, he⟩, hit, Nat.succ_ne_self _⟩, fun b hb => ?_, q⟩
      have e' : b = s1.heap.objs.size + 1 ∨ b = s1.heap.objs.size := by simpa using hb
      have hle : s1.heap.objs.size ≤ b := by
        rcases e' with z | z
        · rw [z]; exact Nat.le_add_right _ _
        · rw [z]; exact Nat.le_refl _
      exact I1.fpOk hle (I1.hok.fresh hle)
    · obtain ⟨its, rv, p', hz⟩ := I1.tuple hq
      have hal : a < s1.heap.objs.size := by obtain ⟨o, e, _⟩ := p'; exact Heap.lt_size e
      refine enum_begins1 (begins_tuple a its.toArray) p' fun h' he hit hsz hk => wpAny_pyIter_enum he ?_
      have I2 : Inv X pins σ H1 { s1 with heap := h' } := I1.kept (t' := s1.toks) hk
      refine ⟨s1.heap.objs.size + 1, [s1.heap.objs.size + 1, s1.heap.objs.size], _, _, H1, rfl, I2, turn_enumT a (s1.heap.objs.size + 1) s1.heap.objs.size, ⟨⟨.none, he⟩, ⟨_, hit, rfl, rfl⟩, Nat.succ_ne_self _, Nat.ne_of_lt hal, Nat.ne_of_lt (Nat.lt_succ_of_lt hal)⟩, fun b hb => ?_, q⟩
      have e' : b = s1.heap.objs.size + 1 ∨ b = s1.heap.objs.size := by simpa using hb
      have hle : s1.heap.objs.size ≤ b := by
        rcases e' with z | z
        · rw [z]; exact Nat.le_add_right _ _
        · rw [z]; exact Nat.le_refl _
      exact I1.fpOk hle (I1.hok.fresh hle)
theorem sni_en (st0 : Stat c) (G : Gd c F X Wx lv) {p tpos : Pos} {elts : List Expr} {kk : Nat} (hg : Gl X "enumerate") (hn : noStar l = true) (ha : PE X l (rE c F xc xv cx Wx a)) : PI X (.Tuple elts kk tpos) (.Call (.Name "enumerate" p) [l] [] pos) (rI c F xc xv cx Wx true (.en a)) := by
  have bl : X.mg "enumerate" = none := by rw [G.mg]; exact st0.blt _ (by decide +kernel)
  refine PI.mono (pi_enumW hg bl (pa_cons ha pa_nil (star_cons hn [] X.env)) (star_cons hn [] X.env)) fun σ H R h => ?_
  obtain ⟨m, env, st, S, hp⟩ := h
  refine ⟨m, env, st, S, ?_⟩
  dsimp only [evI] at hp
  cases e : ev T F xc a env st with
  | no => unfold bd at hp; rw [e] at hp; exact hp.elim
  | ex i xs s => rw [bd_ex e] at hp; exact hp
  | ok w st1 =>
    rw [bd_ok e] at hp
    intro m1 x H1 E1 S1 rx
    cases e2 : items w st1 with
    | no => unfold bd at hp; rw [e2] at hp; exact hp.elim
    | ex i xs s => exact absurd e2 items_nex
    | ok xs s =>
      rw [bd_ok e2] at hp
      obtain ⟨rfl, vs, ⟨p, rfl, hq⟩, rs⟩ := items_at S1 rx e2
      have wk := wk_enum (K := X.K) G.K rx e2
      refine ⟨p, vs, rfl, ?_⟩
      rcases hq with ⟨ht, hq⟩ | ⟨ht, hq⟩
      · rw [ht] at wk
        exact .inl ⟨by rw [G.K]; exact hq, hp m1 H1 _ E1 S1 wk⟩
      · rw [ht] at wk
        exact .inr ⟨by rw [G.K]; exact hq, hp m1 H1 _ E1 S1 wk⟩
/-! zip -/
theorem zipW_get : ∀ (xs ys : List W) (i : Nat) (x y : W), xs[i]? = some x → ys[i]? = some y → (zipW xs ys)[i]? = some (.tup [x, y])
  | [], _, i, x, y, h, _ => by simp at h
  | _ :: _, [], i, x, y, _, h => by simp at h
  | a :: xs, b :: ys, 0, x, y, h, h2 => by
    simp at h h2
    subst h h2
    rfl
  | a :: xs, b :: ys, i + 1, x, y, h, h2 => by
    unfold zipW
    rw [List.getElem?_cons_succ] at h h2 ⊢
    exact zipW_get xs ys i x y h h2
theorem zipW_len : ∀ (xs ys : List W), (zipW xs ys).length = min xs.length ys.length
  | [], _ => by simp [zipW]
  | _ :: _, [] => by simp [zipW]
  | a :: xs, b :: ys => by unfold zipW; simp only [List.length_cons, zipW_len xs ys]; omega
theorem sqk_of {w : W} {K : PySem.W.Frag} {H : Hp} {p : Addr} {vs : List V} (h : IsSq w K H (.ref p) vs) : SqK (isTup w) K H p vs := by
  obtain ⟨q, e, h⟩ := h
  cases e
  unfold SqK
  rcases h with ⟨ht, h⟩ | ⟨ht, h⟩
  · rw [ht]; exact h
  · rw [ht]; exact h
theorem walk_zipV {ka kb : Bool} {K : PySem.W.Frag} {p q : Addr} {n : Nat} : Walk (Itk ka kb K p q) n (fun H => ∃ vs us, SqK ka K H p vs ∧ SqK kb K H q us ∧ min vs.length us.length = n)
    (fun i H v H' => ∃ T x y, v = .ref T ∧ H T = none ∧ H' = upd H T (.tup [x, y]) ∧ (∀ vs, SqK ka K H p vs → vs[i]? = some x) ∧ ∀ us, SqK kb K H q us → us[i]? = some y) := by
  refine ⟨fun i H hi r => ?_, fun H r => ?_, fun i H x H' hi r y => y⟩
  · obtain ⟨vs, us, h1, h2, h3⟩ := r
    exact ⟨vs, us, vs[i]'(by omega), us[i]'(by omega), h1, h2, by simp [show i < vs.length by omega], by simp [show i < us.length by omega]⟩
  · obtain ⟨vs, us, h1, h2, h3⟩ := r
    exact ⟨vs, us, h1, h2, by omega⟩
theorem wk_zip {K : PySem.W.Frag} (hK : K = c.K) {w u : W} {p q : Addr} {xs ys : List W} {m1 : List Addr} {s : Store} {H1 : Hp} (rx : RelW c.kt m1 (fz m1 s H1) w (.ref p)) (ry : RelW c.kt m1 (fz m1 s H1) u (.ref q)) (e2 : items w s = .ok xs s) (e3 : items u s = .ok ys s) :
    WkOf c true ⟨zipW xs ys, srcOf w xs ++ srcOf u ys⟩ m1 s H1 (Itk (isTup w) (isTup u) K p q) := by
  subst hK
  refine ⟨_, _, by show Walk (Itk (isTup w) (isTup u) _ p q) (zipW xs ys).length _ _; exact walk_zipV, fun m2 st2 H2 e2' s2 hs => ?_, fun i H2 y H3 hi hy m2 st2 e2' s2 hs => ?_⟩
  · obtain ⟨vs, h1, rr⟩ := items_later rx e2 e2' s2 fun r hr => hs r (List.mem_append_left _ hr)
    obtain ⟨us, h2, rr2⟩ := items_later ry e3 e2' s2 fun r hr => hs r (List.mem_append_right _ hr)
    exact ⟨vs, us, sqk_of h1, sqk_of h2, by rw [zipW_len, rr.len, rr2.len]⟩
  · obtain ⟨vs, h1, rr⟩ := items_later rx e2 e2' s2 fun r hr => hs r (List.mem_append_left _ hr)
    obtain ⟨us, h2, rr2⟩ := items_later ry e3 e2' s2 fun r hr => hs r (List.mem_append_right _ hr)
    obtain ⟨T, x, z, rfl, hT, rfl, hx, hz⟩ := hy
    obtain ⟨w1, g1, g2⟩ := rr.getV (hx _ (sqk_of h1))
    obtain ⟨w2, g3, g4⟩ := rr2.getV (hz _ (sqk_of h2))
    obtain ⟨s3, e3', r3⟩ := pair_ok s2 hT g2 g4
    exact ⟨.tup [w1, w2], zipW_get xs ys i w1 w2 g1 g3, s3, e3', r3⟩
theorem sni_zp (st0 : Stat c) (G : Gd c F X Wx lv) {p tpos : Pos} {elts : List Expr} {kk : Nat} (hg : Gl X "zip") (hn : noStar l = true) (hn2 : noStar r = true) (ha : PE X l (rE c F xc xv cx Wx a)) (hb : PE X r (rE c F xc xv cx Wx b)) : PI X (.Tuple elts kk tpos) (.Call (.Name "zip" p) [l, r] [] pos) (rI c F xc xv cx Wx true (.zp a b)) := by
  have bl : X.mg "zip" = none := by rw [G.mg]; exact st0.blt _ (by decide +kernel)
  refine PI.mono (pi_zipK hg bl (pa_cons ha (pa_cons hb pa_nil (star_cons hn2 [] X.env)) (star_cons hn [r] X.env)) (star_cons hn [r] X.env) (by rw [star_cons hn2]; rfl)) fun σ H R h => ?_
  obtain ⟨m, env, st, S, hp⟩ := h
  refine ⟨m, env, st, S, ?_⟩
  dsimp only [evI] at hp
  cases e : ev T F xc a env st with
  | no => unfold bd at hp; rw [e] at hp; exact hp.elim
  | ex i xs s => rw [bd_ex e] at hp; exact hp
  | ok w st1 =>
    rw [bd_ok e] at hp
    intro m1 x H1 E1 S1 rx
    refine ⟨m1, env, st1, S.ext E1 S1, ?_⟩
    cases e1 : ev T F xc b env st1 with
    | no => unfold bd at hp; rw [e1] at hp; exact hp.elim
    | ex i xs s =>
      rw [bd_ex e1] at hp
      intro m2 cls dd H2 E2 S2 q
      exact hp m2 cls dd H2 (E1.trans E2) S2 q
    | ok u st2 =>
      rw [bd_ok e1] at hp
      intro m2 y H2 E2 S2 ry
      have rx2 := E2.relW rx
      cases e2 : items w st2 with
      | no => unfold bd at hp; rw [e2] at hp; exact hp.elim
      | ex i xs s => exact absurd e2 items_nex
      | ok xs s =>
        rw [bd_ok e2] at hp
        obtain ⟨rfl, vs, h1, rs⟩ := items_at S2 rx2 e2
        cases e3 : items u s with
        | no => unfold bd at hp; rw [e3] at hp; exact hp.elim
        | ex i xs s => exact absurd e3 items_nex
        | ok ys s' =>
          rw [bd_ok e3] at hp
          obtain ⟨rfl, us, h2, rs2⟩ := items_at S2 ry e3
          obtain ⟨pa, rfl, _⟩ := id h1
          obtain ⟨pb, rfl, _⟩ := id h2
          refine ⟨isTup w, isTup u, pa, pb, vs, us, rfl, by rw [G.K]; exact sqk_of h1, by rw [G.K]; exact sqk_of h2, ?_⟩
          exact hp m2 H2 _ (E1.trans E2) S2 (wk_zip G.K rx2 ry e2 e3)
end
end Mi
set_option maxHeartbeats 4000000
set_option autoImplicit false
namespace Mi
open PySem PySem.Spec PyProof.Rows L2
/-! ## targets -/
theorem asg_cons {e : Expr} (h : noStar e = true) (es : List Expr) (env : Env) : assignEach (e :: es) env = (false, assign e env) :: assignEach es env := by
  cases e <;> first | rfl | (cases h)
theorem asg_len {env : Env} : ∀ {es : List Expr}, (∀ e ∈ es, noStar e = true) → (assignEach es env).length = es.length
  | [], _ => rfl
  | e :: es, h => by
    rw [asg_cons (h e List.mem_cons_self), List.length_cons, asg_len fun x hx => h x (List.mem_cons_of_mem _ hx)]
    rfl
theorem asg_none {env : Env} : ∀ {es : List Expr}, (∀ e ∈ es, noStar e = true) → (assignEach es env).findIdx? (·.1) = none
  | [], _ => rfl
  | e :: es, h => by
    rw [asg_cons (h e List.mem_cons_self), List.findIdx?_cons]
    simp [asg_none fun x hx => h x (List.mem_cons_of_mem _ hx)]
mutual
theorem asgn_st : ∀ (g : TG) {w : W} {env env' : Ev} {st s : Store}, asgn g w env st = .ok env' s → s = st
  | .nm i, w, env, env', st, s, h => by cases h; rfl
  | .tp gs, w, env, env', st, s, h => by
    unfold asgn at h
    obtain ⟨xs, s1, h1, h2⟩ := bd_inv h
    have e1 : s1 = st := by
      cases w with
      | ref n => rw [items_ref] at h1; cases q : st[n]? with
        | none => rw [q] at h1; cases h1
        | some o => cases o with
          | none => rw [q] at h1; cases h1
          | some o => rw [q] at h1; cases o <;> first | (cases h1; rfl) | (cases h1)
      | lst ys => cases h1; rfl
      | tup ys => cases h1; rfl
      | fro ys => cases h1; rfl
      | _ => cases h1
    subst e1
    exact asgns_st gs h2
theorem asgns_st : ∀ (gs : List TG) {ws : List W} {env env' : Ev} {st s : Store}, asgns gs ws env st = .ok env' s → s = st
  | [], [], env, env', st, s, h => by cases h; rfl
  | [], _ :: _, env, env', st, s, h => by cases h
  | g :: gs, [], env, env', st, s, h => by cases h
  | g :: gs, w :: ws, env, env', st, s, h => by
    unfold asgns at h
    obtain ⟨env1, s1, h1, h2⟩ := bd_inv h
    have e1 := asgn_st g h1
    subst e1
    exact asgns_st gs h2
end
theorem asgns_len : ∀ {gs : List TG} {ws : List W} {env env' : Ev} {st s : Store}, asgns gs ws env st = .ok env' s → ws.length = gs.length
  | [], [], _, _, _, _, _ => rfl
  | [], _ :: _, _, _, _, _, h => by cases h
  | g :: gs, [], _, _, _, _, h => by cases h
  | g :: gs, w :: ws, env, env', st, s, h => by
    unfold asgns at h
    obtain ⟨env1, s1, h1, h2⟩ := bd_inv h
    rw [List.length_cons, List.length_cons, asgns_len h2]
/-- alike but for these slots -/
def Agree (vs : List Nat) (σ σ' : L2.St) : Prop := σ'.length = σ.length ∧ ∀ j : Nat, j ∉ vs → σ'[j]? = σ[j]?
theorem Agree.trans {vs us : List Nat} {σ σ1 σ2 : L2.St} (a : Agree vs σ σ1) (b : Agree us σ1 σ2) : Agree (vs ++ us) σ σ2 :=
  ⟨b.1.trans a.1, fun j hj => (b.2 j fun h => hj (List.mem_append_right _ h)).trans (a.2 j fun h => hj (List.mem_append_left _ h))⟩
theorem Agree.sub {vs us : List Nat} {σ σ1 : L2.St} (a : Agree vs σ σ1) (h : ∀ j ∈ vs, j ∈ us) : Agree us σ σ1 := ⟨a.1, fun j hj => a.2 j fun z => hj (h j z)⟩
theorem agree_set {σ : L2.St} {i : Nat} {v : Option V} : Agree [i] σ (σ.set i v) := ⟨by simp, fun j hj => by rw [List.getElem?_set_ne (fun z => hj (by simp [z]))]⟩
theorem wipe_ext {vs : List Nat} {σ σ' : L2.St} (a : Agree vs σ σ') : wipe σ' vs = wipe σ vs := by
  apply List.ext_getElem?
  intro j
  by_cases hj : j ∈ vs
  · have key : ∀ (τ : L2.St), τ.length = σ.length → (wipe τ vs)[j]? = if j < σ.length then some none else none := by
      intro τ hl
      have : ∀ (us : List Nat), j ∈ us → (wipe τ us)[j]? = if j < σ.length then some none else none := by
        intro us hm
        induction us with
        | nil => cases hm
        | cons u us ih =>
          unfold wipe
          by_cases e : u = j
          · subst e
            by_cases hlt : u < σ.length
            · rw [if_pos hlt, List.getElem?_set_self (by rw [wipe_length, hl]; exact hlt)]
            · rw [if_neg hlt, List.getElem?_eq_none (by rw [List.length_set, wipe_length, hl]; omega)]
          · rw [List.getElem?_set_ne e]
            rcases List.mem_cons.mp hm with z | z
            · exact absurd z.symm e
            · exact ih z
      exact this vs hj
    rw [key σ' a.1, key σ rfl]
  · rw [wipe_out hj, wipe_out hj, a.2 j hj]
theorem wipe_agree {vs : List Nat} {σ : L2.St} : Agree vs σ (wipe σ vs) := ⟨wipe_length σ vs, fun j hj => wipe_out hj⟩
section
variable {T : Tab} {c : Cxt T} {F : Nat → List W → Q W} {cx : Value × Option Addr} {Wx : WX} {X : Cx}
variable {a b d : TX} {l r z : Expr} {pos : Pos} {lv : Nat}
def relG (c : Cxt T) (g : TG) (m : List Addr) (M H : Hp) (w : W) (v : V) : Prop := match g with
  | .nm _ => RelW c.kt m M w v
  | .tp _ => RelI c m M H w v
theorem relG_of {g : TG} {m : List Addr} {M H : Hp} {w : W} {v : V} (h : RelW c.kt m M w v) : relG c g m M H w v := by
  cases g with
  | nm i => exact h
  | tp gs => exact .inl h
def rG (c : Cxt T) (cx : Value × Option Addr) (g : TG) : L2.TG := fun v σ H Q => ∃ m env st w env', Sim c none none cx m env st σ H ∧ relG c g m (fz m st H) H w v ∧ asgn g w env st = .ok env' st ∧ ∀ σ', Sim c none none cx m env' st σ' H → Agree g.slots σ σ' → Q σ' H
def rGs (c : Cxt T) (cx : Value × Option Addr) (gs : List TG) : TGs := fun vs σ H Q => ∃ m env st ws env', Sim c none none cx m env st σ H ∧ RelWs c.kt m (fz m st H) ws vs ∧ asgns gs ws env st = .ok env' st ∧ ∀ σ', Sim c none none cx m env' st σ' H → Agree (slotsG gs) σ σ' → Q σ' H
theorem PG.mono {X : Cx} {e : Expr} {t t' : L2.TG} (h : PG X e t) (f : ∀ v σ H Q, t' v σ H Q → t v σ H Q) : PG X e t' := ⟨fun pins s σ H v u Q I r q => h.run pins s σ H v u Q I r (f v σ H Q q)⟩
theorem PGs.mono {X : Cx} {e : List Expr} {t t' : TGs} (h : PGs X e t) (f : ∀ v σ H Q, t' v σ H Q → t v σ H Q) : PGs X e t' := ⟨fun pins s σ H v u Q I r q => h.run pins s σ H v u Q I r (f v σ H Q q)⟩
/-- the names of a body -/
structure Gs (X : Cx) (N : List Str) (raw : Option Scope) (sc : Scope) : Prop where
  sc : X.env.scope = sc
  N : X.N = N
  fn : ∀ x, (match raw with
    | none => True
    | some r => nk r x = some .cell) → X.fn x = true
theorem Gs.loc {N : List Str} {raw : Option Scope} {sc : Scope} (G : Gs X N raw sc) {x : Str} (h : locB raw sc x = true) : Loc X.env.scope x ∧ (X.fn x = true ∨ X.env.scope.names.lookup x = some .local) := by
  unfold locB at h
  rw [G.sc]
  have e0 : nk sc x = sc.names.lookup x := rfl
  cases e : nk sc x with
  | none => rw [e] at h; cases h
  | some k =>
    rw [e] at h
    rw [e0] at e
    cases k with
    | «local» => exact ⟨.inl e, .inr e⟩
    | cell =>
      refine ⟨.inr e, .inl (G.fn x ?_)⟩
      cases raw with
      | none => trivial
      | some r => exact of_decide_eq_true h
    | _ => cases h
theorem Gs.vis {N : List Str} {raw : Option Scope} {sc : Scope} (G : Gs X N raw sc) {x : Str} (h : visB sc x = true) : Vis X.env.scope x := by
  unfold visB at h
  rw [G.sc]
  have e0 : nk sc x = sc.names.lookup x := rfl
  cases e : nk sc x with
  | none => rw [e] at h; cases h
  | some k =>
    rw [e] at h
    rw [e0] at e
    cases k with
    | «local» => exact .inl e
    | cell => exact .inr (.inl e)
    | free => exact .inr (.inr e)
    | _ => cases h
theorem Gs.gl {N : List Str} {raw : Option Scope} {sc : Scope} (G : Gs X N raw sc) {x : Str} (h : glB sc x = true) : Gl X x ∧ (x == ("__debug__" : Str)) = false ∧ (x == ("__classdict__" : Str)) = false ∧ x ≠ "__name__" := by
  unfold glB okName at h
  simp only [Bool.and_eq_true, decide_eq_true_eq, Bool.not_eq_true'] at h
  obtain ⟨h1, ⟨h2, h3⟩, h4⟩ := h
  refine ⟨?_, h2, h3, fun z => ?_⟩
  · show X.env.scope.names.lookup x = some .globalImplicit
    rw [G.sc]; exact h1
  · rw [z] at h4; simp at h4
mutual
theorem sng {N : List Str} {raw : Option Scope} {sc : Scope} (hc : X.calm = true) (hK : X.K = c.K) (hnd : X.N.Nodup) (G : Gs X N raw sc) : ∀ (g : TG) {e : Expr}, chkG N raw sc g e = true → PG X e (rG c cx g)
  | .nm i, e, h => by
    unfold chkG at h
    cases e with
    | Name x p =>
      simp only [asName, Bool.and_eq_true, decide_eq_true_eq] at h
      obtain ⟨h1, h2⟩ := h
      obtain ⟨h3, h4⟩ := G.loc h2
      refine PG.mono (pg_name (i := i) hnd (by rw [G.N]; exact h1) h3 h4) fun v σ H Q q => ?_
      obtain ⟨m, env, st, w, env', S, r, ha, k⟩ := q
      cases ha
      exact k _ (S.set r) agree_set
    | _ => cases h
  | .tp gs, e, h => by
    unfold chkG at h
    cases e with
    | Tuple es k p =>
      have h : chkGs N raw sc gs es = true := h
      obtain ⟨hst, hlen, hgs⟩ := sngs hc hK hnd G gs h
      have p1 : PG X (.Tuple es k p) (gTup X.K es.length (rGs c cx gs)) := pg_tup hc hgs (asg_len hst) (asg_none hst)
      have p2 : PG X (.Tuple es k p) (gUnl X.K es.length (rGs c cx gs)) := pg_unl hc hgs (asg_len hst) (asg_none hst)
      refine ⟨fun pins s σ H v u Q I r q => ?_⟩
      obtain ⟨m, env, st, w, env', S, rv, ha, kk⟩ := q
      unfold asgn at ha
      obtain ⟨xs, s1, h1, h2⟩ := bd_inv ha
      have e1 := asgns_st gs h2
      subst e1
      have fin : ∀ vs, RelWs c.kt m (fz m st H) xs vs → rGs c cx gs vs σ H Q := fun vs rr => ⟨m, env, st, xs, env', S, rr, h2, fun σ' S' A' => kk σ' S' A'⟩
      have hn : xs.length = es.length := (asgns_len h2).trans hlen
      rcases rv with rv | ⟨ws, q, vs, rfl, rfl, hq, rr⟩
      · obtain ⟨_, vs, ⟨q, rfl, hq⟩, rr⟩ := items_at S.sr rv h1
        rcases hq with ⟨_, hq⟩ | ⟨_, hq⟩
        · exact p2.run pins s σ H _ u Q I r ⟨q, vs, rfl, by rw [hK]; exact hq, by rw [rr.len]; exact hn, fin vs rr⟩
        · exact p1.run pins s σ H _ u Q I r ⟨q, vs, rfl, by rw [hK]; exact hq, by rw [rr.len]; exact hn, fin vs rr⟩
      · cases h1
        exact p1.run pins s σ H _ u Q I r ⟨q, vs, rfl, by rw [hK]; exact hq, by rw [rr.len]; exact hn, fin vs rr⟩
    | _ => cases h
theorem sngs {N : List Str} {raw : Option Scope} {sc : Scope} (hc : X.calm = true) (hK : X.K = c.K) (hnd : X.N.Nodup) (G : Gs X N raw sc) : ∀ (gs : List TG) {es : List Expr}, chkGs N raw sc gs es = true → (∀ e ∈ es, noStar e = true) ∧ gs.length = es.length ∧ PGs X es (rGs c cx gs)
  | [], [], _ => by
    refine ⟨fun e he => (nomatch he), rfl, PGs.mono pgs_nil fun v σ H Q q => ?_⟩
    obtain ⟨m, env, st, ws, env', S, r, ha, k⟩ := q
    cases ws with
    | nil => cases ha; exact ⟨RelWs.nil_inv r, k σ S ⟨rfl, fun _ _ => rfl⟩⟩
    | cons _ _ => cases ha
  | [], _ :: _, h => by unfold chkGs at h; cases h
  | _ :: _, [], h => by unfold chkGs at h; cases h
  | g :: gs, e :: es, h => by
    unfold chkGs at h
    simp only [Bool.and_eq_true] at h
    obtain ⟨h1, h2, h3⟩ := h
    obtain ⟨hst, hlen, hgs⟩ := sngs hc hK hnd G gs h3
    refine ⟨fun x hx => ?_, by simp [hlen], PGs.mono (pgs_cons (sng hc hK hnd G g h2) hgs (by rw [asg_cons h1]; rfl)) fun v σ H Q q => ?_⟩
    · rcases List.mem_cons.mp hx with rfl | hx
      · exact h1
      · exact hst x hx
    · obtain ⟨m, env, st, ws, env', S, r, ha, k⟩ := q
      cases ws with
      | nil => cases ha
      | cons w ws =>
        obtain ⟨x, vr, rfl, r1, r2⟩ := RelWs.cons_inv r
        unfold asgns at ha
        obtain ⟨env1, s1, a1, a2⟩ := bd_inv ha
        have e1 : st = s1 := (asgn_st g a1).symm
        subst e1
        refine ⟨x, vr, rfl, m, env, st, w, env1, S, relG_of r1, a1, fun σ1 S1 A1 => ?_⟩
        exact ⟨m, env1, st, ws, env', S1, r2, a2, fun σ2 S2 A2 => k σ2 S2 (A1.trans A2)⟩
end
end
end Mi
set_option maxHeartbeats 4000000
set_option autoImplicit false
namespace Mi
open PySem PySem.Spec PyProof.Rows L2
theorem wipeE_len (env : Ev) : ∀ vs : List Nat, (wipeE env vs).length = env.length
  | [] => rfl
  | v :: vs => by unfold wipeE; rw [List.length_set, wipeE_len env vs]
theorem wipeE_some {env : Ev} {i : Nat} {x : W} : ∀ {vs : List Nat}, (wipeE env vs)[i]? = some (some x) → env[i]? = some (some x) ∧ i ∉ vs
  | [], h => ⟨h, by simp⟩
  | v :: vs, h => by
    unfold wipeE at h
    by_cases hi : v = i
    · subst hi
      by_cases hv : v < (wipeE env vs).length
      · rw [List.getElem?_set_self hv] at h; cases h
      · rw [List.getElem?_eq_none (by simpa using hv)] at h; cases h
    · rw [List.getElem?_set_ne hi] at h
      obtain ⟨h1, h2⟩ := wipeE_some h
      exact ⟨h1, by simp only [List.mem_cons, not_or]; exact ⟨fun e => hi e.symm, h2⟩⟩
section
variable {T : Tab} {c : Cxt T} {F : Nat → List W → Q W} {cx : Value × Option Addr} {Wx : WX} {X : Cx}
variable {a b d : TX} {l r z : Expr} {pos : Pos} {lv : Nat}
theorem Sim.wipe {m : List Addr} {env : Ev} {st : Store} {σ : L2.St} {H : Hp} (S : Sim c none none cx m env st σ H) (vs : List Nat) : Sim c none none cx m (wipeE env vs) st (L2.wipe σ vs) H := by
  refine ⟨S.sr, by rw [wipeE_len, wipe_length]; exact S.len, fun i w h => ?_, (fun _ _ h => (nomatch h)), (fun _ _ h => (nomatch h))⟩
  obtain ⟨h1, h2⟩ := wipeE_some h
  obtain ⟨v, h3, h4⟩ := S.loc i w h1
  exact ⟨v, by rw [wipe_out h2]; exact h3, h4⟩
theorem still_ok {src : List (Nat × List W)} {st s : Store} {u : Unit} (h : still src st = .ok u s) : s = st ∧ ∀ p ∈ src, st[p.1]? = some (some (.lst p.2)) := by
  unfold still at h
  by_cases hs : ∀ p ∈ src, st[p.1]? = some (some (.lst p.2))
  · rw [if_pos hs] at h; cases h; exact ⟨rfl, hs⟩
  · rw [if_neg hs] at h; cases h
/-- the end of a comprehension -/
noncomputable def lcEnd (T : Tab) (μ : Bool) (n : Nat) (s : Store) : R W := if μ then .ok (.ref n) s else (match s[n]? with
    | some (some (.lst ys)) => .ok (.lst ys) (s.set n none)
    | _ => .no)
def okR {α : Type} (r : R α) (p : Store → Prop) : Prop := match r with
  | .ok _ s => p s
  | _ => False
theorem okR_bd {α β : Type} {x : Q α} {f : α → Q β} {st : Store} {p : Store → Prop} (h : okR (bd x f st) p) : ∃ a s, x st = .ok a s ∧ okR (f a s) p := by
  unfold bd at h
  cases e : x st with
  | ok a s => rw [e] at h; exact ⟨a, s, rfl, h⟩
  | ex i xs s => rw [e] at h; exact h.elim
  | no => rw [e] at h; exact h.elim
theorem nox_ok {α : Type} {r : R α} {a : α} {s : Store} (h : r.nox = .ok a s) : r = .ok a s := by
  cases r with
  | ok b t => exact h
  | _ => cases h
/-- behind an entry of the list at D -/
theorem app_okR {n : Nat} {w : W} {f : Unit → Q Unit} {st : Store} {p : Store → Prop} (h : okR (bd (app n w) f st) p) : ∃ ys, st[n]? = some (some (.lst ys)) ∧ ys.length < sizeLine ∧ okR (f () (st.set n (some (.lst (ys ++ [w]))))) p := by
  obtain ⟨u, s, h1, h2⟩ := okR_bd h
  unfold app at h1
  rw [bd_get] at h1
  cases e : st[n]? with
  | none => rw [e] at h1; cases h1
  | some o =>
    rw [e] at h1
    cases o with
    | none => cases h1
    | some o =>
      cases o with
      | lst ys =>
        dsimp only at h1
        by_cases hl : ys.length < sizeLine
        · rw [if_pos hl] at h1
          unfold setM at h1
          rw [e] at h1
          cases h1
          exact ⟨ys, rfl, hl, h2⟩
        · rw [if_neg hl] at h1; cases h1
      | _ => cases h1
theorem drop_get {α : Type} {xs : List α} {i : Nat} {x : α} (h : xs[i]? = some x) : xs.drop i = x :: xs.drop (i + 1) := by
  obtain ⟨hi, e⟩ := List.getElem?_eq_some_iff.mp h
  rw [List.drop_eq_getElem_cons hi, e]
theorem lc_read {N : List Str} {μ : Bool} {own : List Nat} {e : TX} {g : TG} {it : TI} {cnd : TT} {pair : Bool} (hpair : pair = true → ∃ gs, g = .tp gs) (hsl : ∀ i ∈ g.slots, i ∈ own) {tt : L2.TT}
    (htt : ∀ σ H Q, rT c F none none cx (fun _ _ _ _ => False) cnd σ H Q → tt σ H Q) : ∀ σ H Q, rE c F none none cx Wx (.lc μ own e g it cnd) σ H Q → tLc (rI c F none none cx Wx pair it) (rG c cx g) tt (rE c F none none cx (fun _ _ _ _ => False) e) own σ H Q := by
  intro σ H Q h
  obtain ⟨m, env, st, S, hp⟩ := h
  refine ⟨m, env, st, S, ?_⟩
  dsimp only [ev] at hp
  cases ei : evI T F none it env st with
  | no => unfold bd at hp; rw [ei] at hp; exact hp.elim
  | ex i xs s => rw [bd_ex ei] at hp; exact hp
  | ok k st1 =>
    rw [bd_ok ei] at hp
    intro m1 H1 J E1 S1 wk D hD
    have hp := po_ext hp E1
    unfold lcW at hp
    have hp := po_cut S1 hp
    obtain ⟨Gp, Y, walk, hG, hY⟩ := wk
    generalize hone : (fun x => bd (asgn g x (wipeE env own)) fun env2 => bd (evT T F none cnd env2) fun q => if q = true then bd (ev T F none e env2) fun w => pu (some w) else pu none) = one at hp
    have hp0 : okR (lcGo one st1.length k.src k.xs (st1 ++ [some (.lst [])])) (fun s => Po c m1 st1 H1 (fun cls d H => Wx cls d σ H) (rW c) (lcEnd T μ st1.length s) Q) := by
      cases eg : lcGo one st1.length k.src k.xs (st1 ++ [some (.lst [])]) with
      | ok u s => rw [eg] at hp; exact hp
      | ex i xs s => rw [eg] at hp; exact hp.elim
      | no => rw [eg] at hp; exact hp.elim
    refine lc_it walk (Pv := fun i H' => ∃ m2 st2, Ext m1 st1 H1 m2 st2 H' ∧ SR c.kt m2 st2 H' ∧ m2[st1.length]? = some D ∧ okR (lcGo one st1.length k.src (k.xs.drop i) st2) (fun s => Po c m1 st1 H1 (fun cls d H => Wx cls d σ H) (rW c) (lcEnd T μ st1.length s) Q)) ?_ ?_ ?_ ?_
    · obtain ⟨s2, e2⟩ := S1.push (p := D) (o := .lst []) (ho := .lst []) hD ⟨[], upd_same, RelWs.nil⟩
      exact ⟨m1 ++ [D], _, e2, s2, by rw [← S1.len]; simp, hp0⟩
    · rintro i H' hi ⟨m2, st2, e2, s2, hd2, hok⟩
      refine hG m2 st2 H' e2 s2 ?_
      cases hx : k.xs.drop i with
      | nil =>
        rw [hx] at hok
        cases eg : still k.src st2 with
        | ok u s => exact (still_ok eg).2
        | ex i xs s => unfold lcGo at hok; rw [eg] at hok; exact hok.elim
        | no => unfold lcGo at hok; rw [eg] at hok; exact hok.elim
      | cons x xs =>
        rw [hx] at hok
        unfold lcGo at hok
        obtain ⟨u, s, h1, _⟩ := okR_bd hok
        exact (still_ok h1).2
    · rintro i x H' H'' hi ⟨m2, st2, e2, s2, hd2, hok⟩ hy
      obtain ⟨hi2, _⟩ : i < k.xs.length ∧ True := ⟨hi, trivial⟩
      have hx : k.xs.drop i = k.xs[i] :: k.xs.drop (i + 1) := List.drop_eq_getElem_cons hi2
      rw [hx] at hok
      unfold lcGo at hok
      obtain ⟨u, s, h1, hok1⟩ := okR_bd hok
      clear hok
      obtain ⟨rfl, hst⟩ := still_ok h1
      obtain ⟨w, hw, s3, e3, rw3⟩ := hY i H' x H'' hi hy m2 s e2 s2 hst
      have ew : k.xs[i] = w := by
        rw [List.getElem?_eq_getElem hi2] at hw
        exact Option.some.inj hw
      rw [ew] at hok1
      obtain ⟨ro, s4, h40, hok⟩ := okR_bd hok1
      have h4 := nox_ok h40
      rw [← hone] at h4
      obtain ⟨env2, s5, h5, h6⟩ := bd_inv h4
      have es5 := asgn_st g h5
      subst es5
      have S3 : Sim c none none cx m2 (wipeE env own) s5 (L2.wipe σ own) H'' := (((S.ext E1 S1).ext e2 s2).ext e3 s3).wipe own
      refine ⟨m2, wipeE env own, s5, w, env2, S3, ?_, h5, fun σ2 S4 A4 => ⟨?_, ?_⟩⟩
      · cases pair with
        | true =>
          obtain ⟨gs, rfl⟩ := hpair rfl
          exact rw3
        | false => exact relG_of rw3
      · rw [wipe_ext ((A4.sub hsl)), wipe_ext wipe_agree]
      · refine htt σ2 H'' _ ⟨m2, env2, s5, S4, ?_⟩
        obtain ⟨q, s6, h6, h7⟩ := bd_inv h6
        rw [h6]
        intro m6 b' H6 e6 S6 eb
        cases eb
        cases q with
        | false =>
          cases h7
          exact ⟨m6, _, (e2.trans e3).trans e6, S6, e6.ix _ _ hd2, hok⟩
        | true =>
          rw [if_pos rfl] at h7 ⊢
          obtain ⟨wy, s7, h8, h9⟩ := bd_inv h7
          cases h9
          refine ⟨m6, env2, s6, S4.ext e6 S6, ?_⟩
          rw [h8]
          intro m7 y H7 e7 S7 ry
          obtain ⟨ys, hys, hlen, hok⟩ := app_okR hok
          have hd7 : m7[st1.length]? = some D := e7.ix _ _ (e6.ix _ _ hd2)
          obtain ⟨p', hp', vs, hv1, hv2⟩ := S7.live hys
          rw [hd7] at hp'; cases hp'
          refine ⟨vs, hv1, by rw [hv2.len]; exact hlen, ?_⟩
          obtain ⟨s8, e8⟩ := S7.write (o' := .lst (ys ++ [wy])) (ho := .lst (vs ++ [y])) hys hd7 ⟨_, upd_same, hv2.append (RelWs.cons ry RelWs.nil)⟩
          exact ⟨m7, _, (((e2.trans e3).trans e6).trans e7).trans e8, s8, hd7, hok⟩
    · rintro H' ⟨m2, st2, e2, s2, hd2, hok⟩
      rw [List.drop_length] at hok
      have hok1 : okR (still k.src st2) (fun s => Po c m1 st1 H1 (fun cls d H => Wx cls d σ H) (rW c) (lcEnd T μ st1.length s) Q) := hok
      clear hok
      cases eg : still k.src st2 with
      | ex i xs s => rw [eg] at hok1; exact hok1.elim
      | no => rw [eg] at hok1; exact hok1.elim
      | ok u s =>
        rw [eg] at hok1
        obtain ⟨rfl, _⟩ := still_ok eg
        have hok2 : Po c m1 st1 H1 (fun cls d H => Wx cls d σ H) (rW c) (lcEnd T μ st1.length s) Q := hok1
        have hok := po_ext hok2 e2
        have rr : RelW c.kt m2 (fz m2 s H') (.ref st1.length) (.ref D) := by unfold RelW; exact ⟨D, rfl, hd2⟩
        unfold lcEnd at hok
        cases μ with
        | true => exact po_pu hok s2 rr
        | false =>
          refine frz_ok (E := fun cls d H => Wx cls d σ H) s2 rr ?_
          have e9 : freeze T (.ref st1.length) s = (match s[st1.length]? with
            | some (some (.lst ys)) => .ok (.lst ys) (s.set st1.length none)
            | _ => freeze T (.ref st1.length) s) := by
            cases q : s[st1.length]? with
            | none => rfl
            | some o => cases o with
              | none => rfl
              | some o => cases o with
                | lst ys => dsimp only [freeze]; rw [q]
                | _ => rfl
          have hok : Po c m2 s H' (fun cls d H => Wx cls d σ H) (rW c) (match s[st1.length]? with
            | some (some (.lst ys)) => .ok (.lst ys) (s.set st1.length none)
            | _ => .no) Q := hok
          rw [e9]
          cases q : s[st1.length]? with
          | none => rw [q] at hok; exact hok.elim
          | some o => cases o with
            | none => rw [q] at hok; exact hok.elim
            | some o => cases o with
              | lst ys => rw [q] at hok; exact hok
              | _ => rw [q] at hok; exact hok.elim
end
end Mi
set_option maxHeartbeats 4000000
set_option autoImplicit false
namespace Mi
open PySem PySem.Spec PyProof.Rows L2
section
variable {T : Tab} {c : Cxt T} {F : Nat → List W → Q W} {cx : Value × Option Addr}
theorem Gd.blk {X : Cx} {Wx : WX} {lv : Nat} (G : Gd c F X Wx lv) (s : Shared) (H : Hp) (scope : Scope) (cenv : Env) (fp : List Addr) : Gd c F (X.blk s H scope cenv fp) (fun _ _ _ _ => False) lv :=
  ⟨G.prog, G.w, G.K, G.mg, G.base, G.nd, G.un, takes0, G.calm, G.room, G.fns, G.fns', G.np⟩
theorem Gs.blk {X : Cx} {N : List Str} {raw : Option Scope} {sc : Scope} (G : Gs X N raw sc) (s : Shared) (H : Hp) (scope : Scope) (cl : List (Str × Addr)) (C : Addr) (fp : List Addr) : Gs (X.blk s H scope (compEnvC scope cl C X.env) fp) N (some scope) (relS scope sc) :=
  ⟨by rw [← G.sc]; rfl, G.N, fun x h => by show (scope.names.lookup x == some .cell) = true; have h : scope.names.lookup x = some .cell := h; rw [h]; rfl⟩
def TXs.len : TXs → Nat
  | .nil => 0
  | .cons _ xs => xs.len + 1
theorem evs_len {xc : Option (Nat × List W)} : ∀ {ts : TXs} {env : Ev} {st : Store} {ws : List W} {s : Store}, evs T F xc ts env st = .ok ws s → ws.length = ts.len
  | .nil, env, st, ws, s, h => by unfold evs at h; cases h; rfl
  | .cons x xs, env, st, ws, s, h => by
    unfold evs at h
    obtain ⟨w, s1, _, h⟩ := bd_inv h
    obtain ⟨us, s2, h2, h⟩ := bd_inv h
    cases h
    show us.length + 1 = xs.len + 1
    rw [evs_len h2]
theorem chkEs_len {N : List Str} {xn : Option Str} {raw : Option Scope} {sc : Scope} : ∀ {ts : TXs} {es : List Expr}, chkEs T N xn raw sc ts es = true → ts.len = es.length
  | .nil, [], h => rfl
  | .nil, _ :: _, h => by unfold chkEs at h; cases h
  | .cons _ _, [], h => by unfold chkEs at h; cases h
  | .cons x xs, e :: es, h => by
    unfold chkEs at h
    simp only [Bool.and_eq_true] at h
    show xs.len + 1 = es.length + 1
    rw [chkEs_len h.2.2]
theorem nil_of {N : List Str} {xn : Option Str} {raw : Option Scope} {sc : Scope} {ts : TXs} {es : List Expr} (h : chkEs T N xn raw sc ts es = true) (he : es = []) : ts = .nil := by
  subst he
  cases ts with
  | nil => rfl
  | cons _ _ => unfold chkEs at h; cases h
theorem okName_of {x : Str} (h : okName x = true) : (x == ("__debug__" : Str)) = false ∧ (x == ("__classdict__" : Str)) = false ∧ x ≠ "__name__" := by
  unfold okName at h
  simp only [Bool.and_eq_true, Bool.not_eq_true'] at h
  obtain ⟨⟨h2, h3⟩, h4⟩ := h
  exact ⟨h2, h3, fun z => by rw [z] at h4; simp at h4⟩
theorem cn_eq {c1 c2 : Cn} (h : c1.eqB c2 = true) : c1 = c2 := by
  cases c1 <;> cases c2 <;> first | rfl | (cases h) | (simp only [Cn.eqB, beq_iff_eq, decide_eq_true_eq] at h; rw [h])
theorem own_of {N : List Str} {own : List Nat} (h : (ownOf N own).map (·.2) = own) : (ownOf N own).map (·.2) = own := h
theorem bool_one {X : Cx} {Wx : WX} {op : BoolOp} {y : Expr} {pos : Pos} {b : TX} (h : PE X y (rE c F none none cx Wx b)) : PE X (.BoolOp op [y] pos) (rE c F none none cx Wx b) := pe_one h
theorem cmp_form {e : Expr} (h : (match asCmp e with
    | some _ => true
    | none => (match asChn e with
      | some _ => true
      | none => false)) = true) : ∃ l ops rs pos, e = .Compare l ops rs pos := by
  cases e with
  | Compare l ops rs pos => exact ⟨_, _, _, _, rfl⟩
  | _ => cases h
theorem cmp_no {N : List Str} {raw : Option Scope} {sc : Scope} {t : TX} {e : Expr} (h0 : (match asCmp e with
    | some _ => true
    | none => (match asChn e with
      | some _ => true
      | none => false)) = true) (h : chkE T N none raw sc t e = true) (n1 : ∀ o a b, t ≠ .cmp o a b) (n2 : ∀ o p a b d, t ≠ .chn o p a b d) (n3 : ∀ a, t ≠ .isN a) (n4 : ∀ a, t ≠ .ntN a) (n5 : ∀ a, t ≠ .frz a) : False := by
  obtain ⟨l, ops, rs, pos, rfl⟩ := cmp_form h0
  cases t with
  | cmp o a b => exact n1 o a b rfl
  | chn o p a b d => exact n2 o p a b d rfl
  | isN a => exact n3 a rfl
  | ntN a => exact n4 a rfl
  | frz a => exact n5 a rfl
  | _ => unfold chkE at h; cases h
mutual
theorem sE {N : List Str} {lv : Nat} (st0 : Stat c) : ∀ (t : TX) {e : Expr} {X : Cx} {Wx : WX} {raw : Option Scope} {sc : Scope}, Gd c F X Wx lv → Gs X N raw sc → chkE T N none raw sc t e = true → PE X e (rE c F none none cx Wx t)
  | .v i, e, X, Wx, raw, sc, G, GS, h => by
    unfold chkE at h
    cases e with
    | Name x p =>
      simp only [asName, Bool.and_eq_true, decide_eq_true_eq] at h
      obtain ⟨h1, h2, h3⟩ := h
      obtain ⟨h4, h5, _⟩ := okName_of h3
      exact snd_v (by rw [GS.N]; exact h1) (GS.vis h2) h4 h5
    | _ => cases h
  | .cst d, e, X, Wx, raw, sc, G, GS, h => by
    unfold chkE at h
    cases q : asCst e with
    | none => rw [q] at h; cases h
    | some k =>
      rw [q] at h
      rw [cn_eq h]
      exact snd_cst q
  | .gi x i, e, X, Wx, raw, sc, G, GS, h => by
    unfold chkE at h
    cases e with
    | Name y p =>
      simp only [asName, Bool.and_eq_true, decide_eq_true_eq] at h
      obtain ⟨rfl, h2, h3⟩ := h
      obtain ⟨g1, g2, _⟩ := GS.gl h2
      obtain ⟨t, ht⟩ := st0.gis _ h3
      exact snd_gi g1 (by rw [G.mg]; exact ht) g2
    | _ => cases h
  | .bin o μ a b, e, X, Wx, raw, sc, G, GS, h => by
    unfold chkE at h
    cases e with
    | BinOp l p r pos =>
      simp only [asBin, Bool.and_eq_true, decide_eq_true_eq] at h
      obtain ⟨rfl, h1, h2⟩ := h
      exact snd_bin (sE st0 a G GS h1) (sE st0 b G GS h2)
    | _ => cases h
  | .neg a, e, X, Wx, raw, sc, G, GS, h => by
    unfold chkE at h
    cases e with
    | UnaryOp p x pos =>
      simp only [asUn, Bool.and_eq_true, decide_eq_true_eq] at h
      obtain ⟨rfl, h1⟩ := h
      exact snd_neg (sE st0 a G GS h1)
    | _ => cases h
  | .cmp o a b, e, X, Wx, raw, sc, G, GS, h => by
    unfold chkE at h
    cases q : asCmp e with
    | none => rw [q] at h; cases h
    | some k =>
      obtain ⟨l, p, r⟩ := k
      rw [q] at h
      simp only [Bool.and_eq_true, decide_eq_true_eq, Bool.not_eq_true'] at h
      obtain ⟨rfl, h0, h1, h2⟩ := h
      obtain ⟨pos, rfl⟩ := asCmp_of q
      exact snd_cmp G.K G.un (sE st0 a G GS h1) (sE st0 b G GS h2) h0
  | .chn o p a b d, e, X, Wx, raw, sc, G, GS, h => by
    unfold chkE at h
    cases q : asChn e with
    | none => rw [q] at h; cases h
    | some k =>
      obtain ⟨x, o', y, p', z⟩ := k
      rw [q] at h
      simp only [Bool.and_eq_true, decide_eq_true_eq, Bool.not_eq_true'] at h
      obtain ⟨rfl, rfl, h0, h1, h2, h3⟩ := h
      obtain ⟨pos, rfl⟩ := asChn_of q
      exact snd_chn G.K G.un (sE st0 a G GS h1) (sE st0 b G GS h2) (sE st0 d G GS h3) h0
  | .isN a, e, X, Wx, raw, sc, G, GS, h => by
    unfold chkE at h
    cases q : asCmp e with
    | none => rw [q] at h; cases h
    | some k =>
      obtain ⟨l, p, r⟩ := k
      rw [q] at h
      simp only [Bool.and_eq_true, decide_eq_true_eq] at h
      obtain ⟨rfl, h0, h1⟩ := h
      obtain ⟨pos, rfl⟩ := asCmp_of q
      obtain ⟨k2, p2, rfl⟩ := isNone_of h0
      exact snd_isN (sE st0 a G GS h1)
  | .ntN a, e, X, Wx, raw, sc, G, GS, h => by
    unfold chkE at h
    cases q : asCmp e with
    | none => rw [q] at h; cases h
    | some k =>
      obtain ⟨l, p, r⟩ := k
      rw [q] at h
      simp only [Bool.and_eq_true, decide_eq_true_eq] at h
      obtain ⟨rfl, h0, h1⟩ := h
      obtain ⟨pos, rfl⟩ := asCmp_of q
      obtain ⟨k2, p2, rfl⟩ := isNone_of h0
      exact snd_ntN (sE st0 a G GS h1)
  | .and a b, e, X, Wx, raw, sc, G, GS, h => by
    unfold chkE at h
    cases e with
    | BoolOp op xs pos =>
      cases op with
      | And =>
        cases xs with
        | nil => cases h
        | cons x xs =>
          cases xs with
          | nil => cases h
          | cons y r =>
            simp only [asBool, Bool.and_eq_true] at h
            obtain ⟨h1, h2⟩ := h
            cases r with
            | nil => exact snd_and (sE st0 a G GS h1) (bool_one (sE st0 b G GS h2))
            | cons z r => exact snd_and (sE st0 a G GS h1) (sB st0 .And b G GS h2)
      | Or => cases xs with
        | nil => cases h
        | cons x xs => cases xs <;> cases h
    | _ => cases h
  | .or a b, e, X, Wx, raw, sc, G, GS, h => by
    unfold chkE at h
    cases e with
    | BoolOp op xs pos =>
      cases op with
      | Or =>
        cases xs with
        | nil => cases h
        | cons x xs =>
          cases xs with
          | nil => cases h
          | cons y r =>
            simp only [asBool, Bool.and_eq_true] at h
            obtain ⟨h1, h2⟩ := h
            cases r with
            | nil => exact snd_or (sE st0 a G GS h1) (bool_one (sE st0 b G GS h2))
            | cons z r => exact snd_or (sE st0 a G GS h1) (sB st0 .Or b G GS h2)
      | And => cases xs with
        | nil => cases h
        | cons x xs => cases xs <;> cases h
    | _ => cases h
  | .not a, e, X, Wx, raw, sc, G, GS, h => by
    unfold chkE at h
    cases e with
    | UnaryOp p x pos =>
      simp only [asUn, Bool.and_eq_true, decide_eq_true_eq] at h
      obtain ⟨rfl, h1⟩ := h
      exact snd_not (sE st0 a G GS h1)
    | _ => cases h
  | .ite t a b, e, X, Wx, raw, sc, G, GS, h => by
    unfold chkE at h
    cases e with
    | IfExp x y z pos =>
      simp only [asIf, Bool.and_eq_true] at h
      obtain ⟨h1, h2, h3⟩ := h
      exact snd_ite (sT st0 t G GS h1) (sE st0 a G GS h2) (sE st0 b G GS h3)
    | _ => cases h
  | .tup ts, e, X, Wx, raw, sc, G, GS, h => by
    unfold chkE at h
    cases e with
    | Tuple es k pos =>
      simp only [asTup, Bool.and_eq_true, decide_eq_true_eq] at h
      obtain ⟨h0, h1⟩ := h
      have hsz : es.length ≤ sizeLine := by rw [sizeLine_eq]; omega
      exact snd_tup (sEs st0 ts G GS h1).2 hsz fun env st ws s q => by rw [evs_len q, chkEs_len h1]; exact hsz
    | _ => cases h
  | .lst μ ts, e, X, Wx, raw, sc, G, GS, h => by
    unfold chkE at h
    cases e with
    | List es pos => exact snd_lst (sEs st0 ts G GS h).2
    | _ => cases h
  | .idx a b, e, X, Wx, raw, sc, G, GS, h => by
    unfold chkE at h
    cases e with
    | Subscript x y pos =>
      simp only [asSub, Bool.and_eq_true] at h
      obtain ⟨h0, h1, h2⟩ := h
      exact snd_idx G.K h0 (sE st0 a G GS h1) (sE st0 b G GS h2)
    | _ => cases h
  | .slc μ a lo hi, e, X, Wx, raw, sc, G, GS, h => by
    unfold chkE at h
    cases q : asSlc e with
    | none => rw [q] at h; cases h
    | some k =>
      obtain ⟨x, l, hh⟩ := k
      rw [q] at h
      simp only [Bool.and_eq_true] at h
      obtain ⟨h1, h2, h3⟩ := h
      obtain ⟨p2, pos, rfl⟩ := asSlc_of q
      exact snd_slc G.K (sE st0 a G GS h1) (sO st0 lo G GS h2) (sO st0 hi G GS h3)
  | .att a f, e, X, Wx, raw, sc, G, GS, h => by
    unfold chkE at h
    cases e with
    | Attribute x g pos =>
      simp only [asAtt, Bool.and_eq_true, decide_eq_true_eq] at h
      obtain ⟨rfl, h0, h1⟩ := h
      exact snd_att st0 G.K h0 (sE st0 a G GS h1)
    | _ => cases h
  | .call f ts, e, X, Wx, raw, sc, G, GS, h => by
    unfold chkE at h
    cases q : asCall e with
    | none => rw [q] at h; cases h
    | some k =>
      obtain ⟨x, es⟩ := k
      rw [q] at h
      cases q2 : T.fns[f]? with
      | none => rw [q2] at h; cases h
      | some dd =>
        rw [q2] at h
        simp only [Bool.and_eq_true, decide_eq_true_eq] at h
        obtain ⟨h0, h1, h2⟩ := h
        obtain ⟨p, pos, rfl⟩ := asCall_of q
        obtain ⟨g1, g2, _⟩ := GS.gl h1
        obtain ⟨h3, h4⟩ := sEs st0 ts G GS h2
        exact snd_call st0 G q2 h0 g1 g2 (nil_of h2) h3 h4
  | .mth f o ts, e, X, Wx, raw, sc, G, GS, h => by
    unfold chkE at h
    cases q : asMth e with
    | none => rw [q] at h; cases h
    | some k =>
      obtain ⟨x, mn, es⟩ := k
      rw [q] at h
      cases q2 : T.fns[f]? with
      | none => rw [q2] at h; cases h
      | some dd =>
        rw [q2] at h
        simp only [Bool.and_eq_true, decide_eq_true_eq] at h
        obtain ⟨h0, h1, h2, h3, h4⟩ := h
        obtain ⟨apos, pos, hl, rfl⟩ := asMth_of q
        obtain ⟨h5, h6⟩ := sEs st0 ts G GS h4
        exact snd_mth st0 G q2 h0 h1 hl h2 (nil_of h4) h5 (sE st0 o G GS h3) h6
  | .new f ts, e, X, Wx, raw, sc, G, GS, h => by
    unfold chkE at h
    cases q : asCall e with
    | none => rw [q] at h; cases h
    | some k =>
      obtain ⟨x, es⟩ := k
      rw [q] at h
      cases q2 : T.fns[f]? with
      | none => rw [q2] at h; cases h
      | some dd =>
        rw [q2] at h
        simp only [Bool.and_eq_true, decide_eq_true_eq] at h
        obtain ⟨h0, h1, h2, h3⟩ := h
        obtain ⟨p, pos, rfl⟩ := asCall_of q
        obtain ⟨g1, g2, _⟩ := GS.gl h1
        obtain ⟨h4, h5⟩ := sEs st0 ts G GS h3
        refine snd_new st0 G q2 h0 g1 g2 (nil_of h3) h4 h5 ?_
        obtain ⟨cd, hm, hn⟩ := List.any_eq_true.mp h2
        obtain ⟨i, hi, ei⟩ := List.mem_iff_getElem.mp hm
        have hn : cd.name = x := by simpa using hn
        have ei2 : T.cls[i]? = some cd := by rw [List.getElem?_eq_getElem hi, ei]
        exact ⟨i, cd, ei2, hn, fun j d2 hj hd2 => st0.uni j i d2 cd hj ei2 (hd2.trans hn.symm)⟩
  | .bi bb ts, e, X, Wx, raw, sc, G, GS, h => by
    unfold chkE at h
    cases q : asCall e with
    | none => rw [q] at h; cases h
    | some k =>
      obtain ⟨x, es⟩ := k
      rw [q] at h
      simp only [Bool.and_eq_true, decide_eq_true_eq] at h
      obtain ⟨rfl, h1, h2⟩ := h
      obtain ⟨p, pos, rfl⟩ := asCall_of q
      obtain ⟨g1, g2, _⟩ := GS.gl h1
      by_cases hb : bb = .isBool
      · subst hb
        cases ts with
        | nil => cases es with
          | nil => cases h2
          | cons y es => cases es with
            | nil => cases h2
            | cons z es => cases es <;> cases h2
        | cons t ts =>
          cases es with
          | nil => cases h2
          | cons y es => cases es with
            | nil => cases h2
            | cons z es =>
              cases es with
              | cons _ _ => cases h2
              | nil =>
                cases ts with
                | cons _ _ => cases h2
                | nil =>
                  dsimp only at h2
                  cases z with
                  | Name zn p2 =>
                    simp only [asName, Bool.and_eq_true, decide_eq_true_eq] at h2
                    obtain ⟨rfl, k1, k2, k3, k4⟩ := h2
                    exact snd_isBool st0 G g1 (GS.gl k1).1 k2 (sE st0 t G GS k4)
                  | _ => cases h2
      · have h3 : chkEs T N none raw sc ts es = true ∧ es.isEmpty = false := by
          cases bb <;> first | exact absurd rfl hb | (simp only [Bool.and_eq_true, Bool.not_eq_true'] at h2; exact h2)
        cases es with
        | nil => cases h3.2
        | cons y es =>
          obtain ⟨h4, h5⟩ := sEs st0 ts G GS h3.1
          exact snd_bi st0 G hb g1 h4 h5
  | .bm bb o ts, e, X, Wx, raw, sc, G, GS, h => by
    unfold chkE at h
    cases q : asMth e with
    | none => rw [q] at h; cases h
    | some k =>
      obtain ⟨x, mn, es⟩ := k
      rw [q] at h
      simp only [Bool.and_eq_true, decide_eq_true_eq] at h
      obtain ⟨rfl, h1, h2, h3, h4⟩ := h
      obtain ⟨apos, pos, hl, rfl⟩ := asMth_of q
      obtain ⟨h5, h6⟩ := sEs st0 ts G GS h3
      exact snd_bm G h1 hl h5 h4 (nil_of h3) (sE st0 o G GS h2) h6
  | .lc μ own elt g it cnd, e, X, Wx, raw, sc, G, GS, h => by
    unfold chkE at h
    cases q : asLc e with
    | none => rw [q] at h; cases h
    | some k =>
      obtain ⟨el, tg, i, ifs, s⟩ := k
      rw [q] at h
      simp only [Bool.and_eq_true, decide_eq_true_eq] at h
      obtain ⟨h1, h2, h3, h4, h5, h6, h7⟩ := h
      obtain ⟨pos, rfl⟩ := asLc_of q
      obtain ⟨hset, pair, hpi, hpt⟩ := sI st0 it tg G GS h4
      have hpair : pair = true → ∃ gs, g = .tp gs := fun hp => by
        obtain ⟨elts, k, tp, rfl⟩ := hpt hp
        cases g with
        | nm j => unfold chkG at h5; cases h5
        | tp gs => exact ⟨gs, rfl⟩
      have blk : BlkOk X.N X.env.scope s (ownOf N own) := by rw [GS.N, GS.sc]; exact blkOk_by h1
      have hG := fun (sh : Shared) (H : Hp) (C : Addr) (cl : List (Str × Addr)) (fp : List Addr) => G.blk sh H s (compEnvC s cl C X.env) fp
      have hGS := fun (sh : Shared) (H : Hp) (C : Addr) (cl : List (Str × Addr)) (fp : List Addr) => GS.blk sh H s cl C fp
      cases ifs with
      | nil =>
        cases cnd with
        | yes =>
          have p := pe_lc (tt := tYes) (pos := pos) G.calm G.nd hpi blk (fun sh H C cl fp => sng (cx := cx) (hG sh H C cl fp).calm (hG sh H C cl fp).K (hG sh H C cl fp).nd (hGS sh H C cl fp) g h5) (fun sh H C cl fp => pts_nil) (fun sh H C cl fp => sE st0 elt (hG sh H C cl fp) (hGS sh H C cl fp) h6) (folded_not hset X.env)
          rw [h2] at p
          refine PE.mono p (lc_read (N := N) hpair h3 fun σ H Q q => ?_)
          obtain ⟨m, env, st, S, hp⟩ := q
          exact po_pu hp S.sr rfl
        | _ => cases h7
      | cons y r =>
        cases r with
        | cons _ _ => cases h7
        | nil =>
          have p := pe_lc (tt := rT c F none none cx (fun _ _ _ _ => False) cnd) (pos := pos) G.calm G.nd hpi blk (fun sh H C cl fp => sng (cx := cx) (hG sh H C cl fp).calm (hG sh H C cl fp).K (hG sh H C cl fp).nd (hGS sh H C cl fp) g h5) (fun sh H C cl fp => pts_one (sT st0 cnd (hG sh H C cl fp) (hGS sh H C cl fp) h7)) (fun sh H C cl fp => sE st0 elt (hG sh H C cl fp) (hGS sh H C cl fp) h6) (folded_not hset X.env)
          rw [h2] at p
          exact PE.mono p (lc_read (N := N) hpair h3 fun σ H Q q => q)
  | .frz a, e, X, Wx, raw, sc, G, GS, h => by
    unfold chkE at h
    simp only [Bool.and_eq_true] at h
    exact snd_frz (sE st0 a G GS h.2)
  | .xf f, e, X, Wx, raw, sc, G, GS, h => by
    unfold chkE at h
    cases q : asAtt e with
    | none => rw [q] at h; cases h
    | some k => rw [q] at h; cases h
  | .tupS zs, e, X, Wx, raw, sc, G, GS, h => by
    unfold chkE at h
    cases e with
    | Tuple es k pos => exact snd_tupS (sZs st0 zs G GS h)
    | _ => cases h
  | .lstS μ zs, e, X, Wx, raw, sc, G, GS, h => by
    unfold chkE at h
    cases e with
    | List es pos => exact snd_lstS (sZs st0 zs G GS h)
    | _ => cases h
theorem sZs {N : List Str} {lv : Nat} (st0 : Stat c) : ∀ (ts : TZs) {es : List Expr} {X : Cx} {Wx : WX} {raw : Option Scope} {sc : Scope}, Gd c F X Wx lv → Gs X N raw sc → chkZs T N none raw sc ts es = true → PA X es (rZ c F none none cx Wx ts)
  | .nil, es, X, Wx, raw, sc, G, GS, h => by
    unfold chkZs at h
    cases es with
    | nil => exact snd_znil
    | cons _ _ => cases h
  | .cons false t ts, es, X, Wx, raw, sc, G, GS, h => by
    cases es with
    | nil => unfold chkZs at h; cases h
    | cons e es =>
      unfold chkZs at h
      simp only [Bool.and_eq_true] at h
      obtain ⟨h1, h2, h3⟩ := h
      exact snd_zcons h1 (sE st0 t G GS h2) (sZs st0 ts G GS h3)
  | .cons true t ts, es, X, Wx, raw, sc, G, GS, h => by
    cases es with
    | nil => unfold chkZs at h; cases h
    | cons e es =>
      unfold chkZs at h
      cases e with
      | Starred y p =>
        simp only [asStar, Bool.and_eq_true] at h
        exact snd_zstar G.K (sE st0 t G GS h.1) (sZs st0 ts G GS h.2)
      | _ => cases h
theorem sB {N : List Str} {lv : Nat} (st0 : Stat c) : ∀ (op : BoolOp) (t : TX) {es : List Expr} {pos : Pos} {X : Cx} {Wx : WX} {raw : Option Scope} {sc : Scope}, Gd c F X Wx lv → Gs X N raw sc → chkB T N none raw sc op t es = true → PE X (.BoolOp op es pos) (rE c F none none cx Wx t)
  | .And, .and a b, es, pos, X, Wx, raw, sc, G, GS, h => by
    cases es with
    | nil => unfold chkB at h; cases h
    | cons x es =>
      cases es with
      | nil => unfold chkB at h; cases h
      | cons y r =>
        unfold chkB at h
        simp only [Bool.and_eq_true] at h
        obtain ⟨h1, h2⟩ := h
        cases r with
        | nil => exact snd_and (sE st0 a G GS h1) (bool_one (sE st0 b G GS h2))
        | cons z r => exact snd_and (sE st0 a G GS h1) (sB st0 .And b G GS h2)
  | .Or, .or a b, es, pos, X, Wx, raw, sc, G, GS, h => by
    cases es with
    | nil => unfold chkB at h; cases h
    | cons x es =>
      cases es with
      | nil => unfold chkB at h; cases h
      | cons y r =>
        unfold chkB at h
        simp only [Bool.and_eq_true] at h
        obtain ⟨h1, h2⟩ := h
        cases r with
        | nil => exact snd_or (sE st0 a G GS h1) (bool_one (sE st0 b G GS h2))
        | cons z r => exact snd_or (sE st0 a G GS h1) (sB st0 .Or b G GS h2)
  | .And, .v _, es, pos, X, Wx, raw, sc, G, GS, h => by unfold chkB at h; cases h
  | .And, .cst _, es, pos, X, Wx, raw, sc, G, GS, h => by unfold chkB at h; cases h
  | .And, .gi _ _, es, pos, X, Wx, raw, sc, G, GS, h => by unfold chkB at h; cases h
  | .And, .bin _ _ _ _, es, pos, X, Wx, raw, sc, G, GS, h => by unfold chkB at h; cases h
  | .And, .neg _, es, pos, X, Wx, raw, sc, G, GS, h => by unfold chkB at h; cases h
  | .And, .cmp _ _ _, es, pos, X, Wx, raw, sc, G, GS, h => by unfold chkB at h; cases h
  | .And, .chn _ _ _ _ _, es, pos, X, Wx, raw, sc, G, GS, h => by unfold chkB at h; cases h
  | .And, .isN _, es, pos, X, Wx, raw, sc, G, GS, h => by unfold chkB at h; cases h
  | .And, .ntN _, es, pos, X, Wx, raw, sc, G, GS, h => by unfold chkB at h; cases h
  | .And, .not _, es, pos, X, Wx, raw, sc, G, GS, h => by unfold chkB at h; cases h
  | .And, .ite _ _ _, es, pos, X, Wx, raw, sc, G, GS, h => by unfold chkB at h; cases h
  | .And, .tup _, es, pos, X, Wx, raw, sc, G, GS, h => by unfold chkB at h; cases h
  | .And, .lst _ _, es, pos, X, Wx, raw, sc, G, GS, h => by unfold chkB at h; cases h
  | .And, .idx _ _, es, pos, X, Wx, raw, sc, G, GS, h => by unfold chkB at h; cases h
  | .And, .slc _ _ _ _, es, pos, X, Wx, raw, sc, G, GS, h => by unfold chkB at h; cases h
  | .And, .att _ _, es, pos, X, Wx, raw, sc, G, GS, h => by unfold chkB at h; cases h
  | .And, .call _ _, es, pos, X, Wx, raw, sc, G, GS, h => by unfold chkB at h; cases h
  | .And, .mth _ _ _, es, pos, X, Wx, raw, sc, G, GS, h => by unfold chkB at h; cases h
  | .And, .new _ _, es, pos, X, Wx, raw, sc, G, GS, h => by unfold chkB at h; cases h
  | .And, .bi _ _, es, pos, X, Wx, raw, sc, G, GS, h => by unfold chkB at h; cases h
  | .And, .bm _ _ _, es, pos, X, Wx, raw, sc, G, GS, h => by unfold chkB at h; cases h
  | .And, .lc _ _ _ _ _ _, es, pos, X, Wx, raw, sc, G, GS, h => by unfold chkB at h; cases h
  | .And, .frz _, es, pos, X, Wx, raw, sc, G, GS, h => by unfold chkB at h; cases h
  | .And, .xf _, es, pos, X, Wx, raw, sc, G, GS, h => by unfold chkB at h; cases h
  | .And, .tupS _, es, pos, X, Wx, raw, sc, G, GS, h => by unfold chkB at h; cases h
  | .And, .lstS _ _, es, pos, X, Wx, raw, sc, G, GS, h => by unfold chkB at h; cases h
  | .And, .or _ _, es, pos, X, Wx, raw, sc, G, GS, h => by unfold chkB at h; cases h
  | .Or, .v _, es, pos, X, Wx, raw, sc, G, GS, h => by unfold chkB at h; cases h
  | .Or, .cst _, es, pos, X, Wx, raw, sc, G, GS, h => by unfold chkB at h; cases h
  | .Or, .gi _ _, es, pos, X, Wx, raw, sc, G, GS, h => by unfold chkB at h; cases h
  | .Or, .bin _ _ _ _, es, pos, X, Wx, raw, sc, G, GS, h => by unfold chkB at h; cases h
  | .Or, .neg _, es, pos, X, Wx, raw, sc, G, GS, h => by unfold chkB at h; cases h
  | .Or, .cmp _ _ _, es, pos, X, Wx, raw, sc, G, GS, h => by unfold chkB at h; cases h
  | .Or, .chn _ _ _ _ _, es, pos, X, Wx, raw, sc, G, GS, h => by unfold chkB at h; cases h
  | .Or, .isN _, es, pos, X, Wx, raw, sc, G, GS, h => by unfold chkB at h; cases h
  | .Or, .ntN _, es, pos, X, Wx, raw, sc, G, GS, h => by unfold chkB at h; cases h
  | .Or, .not _, es, pos, X, Wx, raw, sc, G, GS, h => by unfold chkB at h; cases h
  | .Or, .ite _ _ _, es, pos, X, Wx, raw, sc, G, GS, h => by unfold chkB at h; cases h
  | .Or, .tup _, es, pos, X, Wx, raw, sc, G, GS, h => by unfold chkB at h; cases h
  | .Or, .lst _ _, es, pos, X, Wx, raw, sc, G, GS, h => by unfold chkB at h; cases h
  | .Or, .idx _ _, es, pos, X, Wx, raw, sc, G, GS, h => by unfold chkB at h; cases h
  | .Or, .slc _ _ _ _, es, pos, X, Wx, raw, sc, G, GS, h => by unfold chkB at h; cases h
  | .Or, .att _ _, es, pos, X, Wx, raw, sc, G, GS, h => by unfold chkB at h; cases h
  | .Or, .call _ _, es, pos, X, Wx, raw, sc, G, GS, h => by unfold chkB at h; cases h
  | .Or, .mth _ _ _, es, pos, X, Wx, raw, sc, G, GS, h => by unfold chkB at h; cases h
  | .Or, .new _ _, es, pos, X, Wx, raw, sc, G, GS, h => by unfold chkB at h; cases h
  | .Or, .bi _ _, es, pos, X, Wx, raw, sc, G, GS, h => by unfold chkB at h; cases h
  | .Or, .bm _ _ _, es, pos, X, Wx, raw, sc, G, GS, h => by unfold chkB at h; cases h
  | .Or, .lc _ _ _ _ _ _, es, pos, X, Wx, raw, sc, G, GS, h => by unfold chkB at h; cases h
  | .Or, .frz _, es, pos, X, Wx, raw, sc, G, GS, h => by unfold chkB at h; cases h
  | .Or, .xf _, es, pos, X, Wx, raw, sc, G, GS, h => by unfold chkB at h; cases h
  | .Or, .tupS _, es, pos, X, Wx, raw, sc, G, GS, h => by unfold chkB at h; cases h
  | .Or, .lstS _ _, es, pos, X, Wx, raw, sc, G, GS, h => by unfold chkB at h; cases h
  | .Or, .and _ _, es, pos, X, Wx, raw, sc, G, GS, h => by unfold chkB at h; cases h
theorem sT {N : List Str} {lv : Nat} (st0 : Stat c) : ∀ (t : TT) {e : Expr} {X : Cx} {Wx : WX} {raw : Option Scope} {sc : Scope}, Gd c F X Wx lv → Gs X N raw sc → chkT T N none raw sc t e = true → PT X e (rT c F none none cx Wx t)
  | .yes, e, X, Wx, raw, sc, G, GS, h => by unfold chkT at h; cases h
  | .e t, e, X, Wx, raw, sc, G, GS, h => by
    unfold chkT at h
    simp only [Bool.and_eq_true] at h
    obtain ⟨h0, h1⟩ := h
    cases hp : plainT e with
    | true => exact snt_plain G.K hp (sE st0 t G GS h1)
    | false =>
      rw [hp, Bool.false_or] at h0
      exact sTc st0 t G GS h0 h1
  | .and a b, e, X, Wx, raw, sc, G, GS, h => by
    unfold chkT at h
    cases e with
    | BoolOp op xs pos =>
      cases op with
      | And =>
        cases xs with
        | nil => cases h
        | cons x xs =>
          cases xs with
          | nil => cases h
          | cons y r =>
            simp only [asBool, Bool.and_eq_true] at h
            obtain ⟨h1, h2⟩ := h
            cases r with
            | nil => exact PW.pt (snt_and (sT st0 a G GS h1) (pw_and1 (sT st0 b G GS h2)))
            | cons z r => exact PW.pt (snt_and (sT st0 a G GS h1) (sTB st0 .And b G GS h2))
      | Or => cases xs with
        | nil => cases h
        | cons x xs => cases xs <;> cases h
    | _ => cases h
  | .or a b, e, X, Wx, raw, sc, G, GS, h => by
    unfold chkT at h
    cases e with
    | BoolOp op xs pos =>
      cases op with
      | Or =>
        cases xs with
        | nil => cases h
        | cons x xs =>
          cases xs with
          | nil => cases h
          | cons y r =>
            simp only [asBool, Bool.and_eq_true] at h
            obtain ⟨h1, h2⟩ := h
            cases r with
            | nil => exact PW.pt (snt_or (sT st0 a G GS h1) (pw_or1 (sT st0 b G GS h2)))
            | cons z r => exact PW.pt (snt_or (sT st0 a G GS h1) (sTB st0 .Or b G GS h2))
      | And => cases xs with
        | nil => cases h
        | cons x xs => cases xs <;> cases h
    | _ => cases h
  | .not a, e, X, Wx, raw, sc, G, GS, h => by
    unfold chkT at h
    cases e with
    | UnaryOp p x pos =>
      simp only [asUn, Bool.and_eq_true, decide_eq_true_eq] at h
      obtain ⟨rfl, h1⟩ := h
      exact snt_not (sT st0 a G GS h1)
    | _ => cases h
theorem sTB {N : List Str} {lv : Nat} (st0 : Stat c) : ∀ (op : BoolOp) (t : TT) {es : List Expr} {pos : Pos} {X : Cx} {Wx : WX} {raw : Option Scope} {sc : Scope}, Gd c F X Wx lv → Gs X N raw sc → chkTB T N none raw sc op t es = true → PW X (.BoolOp op es pos) (rT c F none none cx Wx t)
  | .And, .and a b, es, pos, X, Wx, raw, sc, G, GS, h => by
    cases es with
    | nil => unfold chkTB at h; cases h
    | cons x es =>
      cases es with
      | nil => unfold chkTB at h; cases h
      | cons y r =>
        unfold chkTB at h
        simp only [Bool.and_eq_true] at h
        obtain ⟨h1, h2⟩ := h
        cases r with
        | nil => exact snt_and (sT st0 a G GS h1) (pw_and1 (sT st0 b G GS h2))
        | cons z r => exact snt_and (sT st0 a G GS h1) (sTB st0 .And b G GS h2)
  | .Or, .or a b, es, pos, X, Wx, raw, sc, G, GS, h => by
    cases es with
    | nil => unfold chkTB at h; cases h
    | cons x es =>
      cases es with
      | nil => unfold chkTB at h; cases h
      | cons y r =>
        unfold chkTB at h
        simp only [Bool.and_eq_true] at h
        obtain ⟨h1, h2⟩ := h
        cases r with
        | nil => exact snt_or (sT st0 a G GS h1) (pw_or1 (sT st0 b G GS h2))
        | cons z r => exact snt_or (sT st0 a G GS h1) (sTB st0 .Or b G GS h2)
  | .And, .yes, es, pos, X, Wx, raw, sc, G, GS, h => by unfold chkTB at h; cases h
  | .And, .e _, es, pos, X, Wx, raw, sc, G, GS, h => by unfold chkTB at h; cases h
  | .And, .or _ _, es, pos, X, Wx, raw, sc, G, GS, h => by unfold chkTB at h; cases h
  | .And, .not _, es, pos, X, Wx, raw, sc, G, GS, h => by unfold chkTB at h; cases h
  | .Or, .yes, es, pos, X, Wx, raw, sc, G, GS, h => by unfold chkTB at h; cases h
  | .Or, .e _, es, pos, X, Wx, raw, sc, G, GS, h => by unfold chkTB at h; cases h
  | .Or, .and _ _, es, pos, X, Wx, raw, sc, G, GS, h => by unfold chkTB at h; cases h
  | .Or, .not _, es, pos, X, Wx, raw, sc, G, GS, h => by unfold chkTB at h; cases h
/-- a comparison as a test -/
theorem sTc {N : List Str} {lv : Nat} (st0 : Stat c) : ∀ (t : TX) {e : Expr} {X : Cx} {Wx : WX} {raw : Option Scope} {sc : Scope}, Gd c F X Wx lv → Gs X N raw sc → (match asCmp e with
    | some _ => true
    | none => (match asChn e with
      | some _ => true
      | none => false)) = true → chkE T N none raw sc t e = true → PT X e (rT c F none none cx Wx (.e t))
  | .cmp o a b, e, X, Wx, raw, sc, G, GS, h0, h => by
    unfold chkE at h
    cases q : asCmp e with
    | none => rw [q] at h; cases h
    | some k =>
      obtain ⟨l, p, r⟩ := k
      rw [q] at h
      simp only [Bool.and_eq_true, decide_eq_true_eq, Bool.not_eq_true'] at h
      obtain ⟨rfl, hm, h1, h2⟩ := h
      obtain ⟨pos, rfl⟩ := asCmp_of q
      exact snt_cmp G.K G.un (sE st0 a G GS h1) (sE st0 b G GS h2) hm
  | .chn o p a b d, e, X, Wx, raw, sc, G, GS, h0, h => by
    unfold chkE at h
    cases q : asChn e with
    | none => rw [q] at h; cases h
    | some k =>
      obtain ⟨x, o', y, p', z⟩ := k
      rw [q] at h
      simp only [Bool.and_eq_true, decide_eq_true_eq, Bool.not_eq_true'] at h
      obtain ⟨rfl, rfl, hm, h1, h2, h3⟩ := h
      obtain ⟨pos, rfl⟩ := asChn_of q
      exact snt_chn G.K G.un (sE st0 a G GS h1) (sE st0 b G GS h2) (sE st0 d G GS h3) hm
  | .isN a, e, X, Wx, raw, sc, G, GS, h0, h => by
    unfold chkE at h
    cases q : asCmp e with
    | none => rw [q] at h; cases h
    | some k =>
      obtain ⟨l, p, r⟩ := k
      rw [q] at h
      simp only [Bool.and_eq_true, decide_eq_true_eq] at h
      obtain ⟨rfl, hm, h1⟩ := h
      obtain ⟨pos, rfl⟩ := asCmp_of q
      obtain ⟨k2, p2, rfl⟩ := isNone_of hm
      exact snt_isN (sE st0 a G GS h1)
  | .ntN a, e, X, Wx, raw, sc, G, GS, h0, h => by
    unfold chkE at h
    cases q : asCmp e with
    | none => rw [q] at h; cases h
    | some k =>
      obtain ⟨l, p, r⟩ := k
      rw [q] at h
      simp only [Bool.and_eq_true, decide_eq_true_eq] at h
      obtain ⟨rfl, hm, h1⟩ := h
      obtain ⟨pos, rfl⟩ := asCmp_of q
      obtain ⟨k2, p2, rfl⟩ := isNone_of hm
      exact snt_ntN (sE st0 a G GS h1)
  | .v i, e, X, Wx, raw, sc, G, GS, h0, h => by exact (cmp_no (T := T) (N := N) (raw := raw) (sc := sc) h0 h (by intro _ _ _ z; cases z) (by intro _ _ _ _ _ z; cases z) (by intro _ z; cases z) (by intro _ z; cases z) (by intro _ z; cases z)).elim
  | .cst i, e, X, Wx, raw, sc, G, GS, h0, h => by exact (cmp_no (T := T) (N := N) (raw := raw) (sc := sc) h0 h (by intro _ _ _ z; cases z) (by intro _ _ _ _ _ z; cases z) (by intro _ z; cases z) (by intro _ z; cases z) (by intro _ z; cases z)).elim
  | .gi i j, e, X, Wx, raw, sc, G, GS, h0, h => by exact (cmp_no (T := T) (N := N) (raw := raw) (sc := sc) h0 h (by intro _ _ _ z; cases z) (by intro _ _ _ _ _ z; cases z) (by intro _ z; cases z) (by intro _ z; cases z) (by intro _ z; cases z)).elim
  | .bin i j k l, e, X, Wx, raw, sc, G, GS, h0, h => by exact (cmp_no (T := T) (N := N) (raw := raw) (sc := sc) h0 h (by intro _ _ _ z; cases z) (by intro _ _ _ _ _ z; cases z) (by intro _ z; cases z) (by intro _ z; cases z) (by intro _ z; cases z)).elim
  | .neg i, e, X, Wx, raw, sc, G, GS, h0, h => by exact (cmp_no (T := T) (N := N) (raw := raw) (sc := sc) h0 h (by intro _ _ _ z; cases z) (by intro _ _ _ _ _ z; cases z) (by intro _ z; cases z) (by intro _ z; cases z) (by intro _ z; cases z)).elim
  | .and i j, e, X, Wx, raw, sc, G, GS, h0, h => by exact (cmp_no (T := T) (N := N) (raw := raw) (sc := sc) h0 h (by intro _ _ _ z; cases z) (by intro _ _ _ _ _ z; cases z) (by intro _ z; cases z) (by intro _ z; cases z) (by intro _ z; cases z)).elim
  | .or i j, e, X, Wx, raw, sc, G, GS, h0, h => by exact (cmp_no (T := T) (N := N) (raw := raw) (sc := sc) h0 h (by intro _ _ _ z; cases z) (by intro _ _ _ _ _ z; cases z) (by intro _ z; cases z) (by intro _ z; cases z) (by intro _ z; cases z)).elim
  | .not i, e, X, Wx, raw, sc, G, GS, h0, h => by exact (cmp_no (T := T) (N := N) (raw := raw) (sc := sc) h0 h (by intro _ _ _ z; cases z) (by intro _ _ _ _ _ z; cases z) (by intro _ z; cases z) (by intro _ z; cases z) (by intro _ z; cases z)).elim
  | .ite i j k, e, X, Wx, raw, sc, G, GS, h0, h => by exact (cmp_no (T := T) (N := N) (raw := raw) (sc := sc) h0 h (by intro _ _ _ z; cases z) (by intro _ _ _ _ _ z; cases z) (by intro _ z; cases z) (by intro _ z; cases z) (by intro _ z; cases z)).elim
  | .tup i, e, X, Wx, raw, sc, G, GS, h0, h => by exact (cmp_no (T := T) (N := N) (raw := raw) (sc := sc) h0 h (by intro _ _ _ z; cases z) (by intro _ _ _ _ _ z; cases z) (by intro _ z; cases z) (by intro _ z; cases z) (by intro _ z; cases z)).elim
  | .lst i j, e, X, Wx, raw, sc, G, GS, h0, h => by exact (cmp_no (T := T) (N := N) (raw := raw) (sc := sc) h0 h (by intro _ _ _ z; cases z) (by intro _ _ _ _ _ z; cases z) (by intro _ z; cases z) (by intro _ z; cases z) (by intro _ z; cases z)).elim
  | .idx i j, e, X, Wx, raw, sc, G, GS, h0, h => by exact (cmp_no (T := T) (N := N) (raw := raw) (sc := sc) h0 h (by intro _ _ _ z; cases z) (by intro _ _ _ _ _ z; cases z) (by intro _ z; cases z) (by intro _ z; cases z) (by intro _ z; cases z)).elim
  | .slc i j k l, e, X, Wx, raw, sc, G, GS, h0, h => by exact (cmp_no (T := T) (N := N) (raw := raw) (sc := sc) h0 h (by intro _ _ _ z; cases z) (by intro _ _ _ _ _ z; cases z) (by intro _ z; cases z) (by intro _ z; cases z) (by intro _ z; cases z)).elim
  | .att i j, e, X, Wx, raw, sc, G, GS, h0, h => by exact (cmp_no (T := T) (N := N) (raw := raw) (sc := sc) h0 h (by intro _ _ _ z; cases z) (by intro _ _ _ _ _ z; cases z) (by intro _ z; cases z) (by intro _ z; cases z) (by intro _ z; cases z)).elim
  | .call i j, e, X, Wx, raw, sc, G, GS, h0, h => by exact (cmp_no (T := T) (N := N) (raw := raw) (sc := sc) h0 h (by intro _ _ _ z; cases z) (by intro _ _ _ _ _ z; cases z) (by intro _ z; cases z) (by intro _ z; cases z) (by intro _ z; cases z)).elim
  | .mth i j k, e, X, Wx, raw, sc, G, GS, h0, h => by exact (cmp_no (T := T) (N := N) (raw := raw) (sc := sc) h0 h (by intro _ _ _ z; cases z) (by intro _ _ _ _ _ z; cases z) (by intro _ z; cases z) (by intro _ z; cases z) (by intro _ z; cases z)).elim
  | .new i j, e, X, Wx, raw, sc, G, GS, h0, h => by exact (cmp_no (T := T) (N := N) (raw := raw) (sc := sc) h0 h (by intro _ _ _ z; cases z) (by intro _ _ _ _ _ z; cases z) (by intro _ z; cases z) (by intro _ z; cases z) (by intro _ z; cases z)).elim
  | .bi i j, e, X, Wx, raw, sc, G, GS, h0, h => by exact (cmp_no (T := T) (N := N) (raw := raw) (sc := sc) h0 h (by intro _ _ _ z; cases z) (by intro _ _ _ _ _ z; cases z) (by intro _ z; cases z) (by intro _ z; cases z) (by intro _ z; cases z)).elim
  | .bm i j k, e, X, Wx, raw, sc, G, GS, h0, h => by exact (cmp_no (T := T) (N := N) (raw := raw) (sc := sc) h0 h (by intro _ _ _ z; cases z) (by intro _ _ _ _ _ z; cases z) (by intro _ z; cases z) (by intro _ z; cases z) (by intro _ z; cases z)).elim
  | .lc i j k l m n, e, X, Wx, raw, sc, G, GS, h0, h => by exact (cmp_no (T := T) (N := N) (raw := raw) (sc := sc) h0 h (by intro _ _ _ z; cases z) (by intro _ _ _ _ _ z; cases z) (by intro _ z; cases z) (by intro _ z; cases z) (by intro _ z; cases z)).elim
  | .xf i, e, X, Wx, raw, sc, G, GS, h0, h => by exact (cmp_no (T := T) (N := N) (raw := raw) (sc := sc) h0 h (by intro _ _ _ z; cases z) (by intro _ _ _ _ _ z; cases z) (by intro _ z; cases z) (by intro _ z; cases z) (by intro _ z; cases z)).elim
  | .tupS i, e, X, Wx, raw, sc, G, GS, h0, h => by exact (cmp_no (T := T) (N := N) (raw := raw) (sc := sc) h0 h (by intro _ _ _ z; cases z) (by intro _ _ _ _ _ z; cases z) (by intro _ z; cases z) (by intro _ z; cases z) (by intro _ z; cases z)).elim
  | .lstS i j, e, X, Wx, raw, sc, G, GS, h0, h => by exact (cmp_no (T := T) (N := N) (raw := raw) (sc := sc) h0 h (by intro _ _ _ z; cases z) (by intro _ _ _ _ _ z; cases z) (by intro _ z; cases z) (by intro _ z; cases z) (by intro _ z; cases z)).elim
  | .frz a, e, X, Wx, raw, sc, G, GS, h0, h => by
    unfold chkE at h
    obtain ⟨l, ops, rs, pos, rfl⟩ := cmp_form h0
    cases h
theorem sO {N : List Str} {lv : Nat} (st0 : Stat c) : ∀ (t : TO) {e : Option Expr} {X : Cx} {Wx : WX} {raw : Option Scope} {sc : Scope}, Gd c F X Wx lv → Gs X N raw sc → chkO T N none raw sc t e = true → PO X e (rO c F none none cx Wx t)
  | .om, e, X, Wx, raw, sc, G, GS, h => by
    unfold chkO at h
    cases e with
    | none => exact snd_om
    | some _ => cases h
  | .e t, e, X, Wx, raw, sc, G, GS, h => by
    unfold chkO at h
    cases e with
    | none => cases h
    | some x => exact snd_oe (sE st0 t G GS h)
theorem sEs {N : List Str} {lv : Nat} (st0 : Stat c) : ∀ (ts : TXs) {es : List Expr} {X : Cx} {Wx : WX} {raw : Option Scope} {sc : Scope}, Gd c F X Wx lv → Gs X N raw sc → chkEs T N none raw sc ts es = true → (∀ e ∈ es, noStar e = true) ∧ PA X es (rA c F none none cx Wx ts)
  | .nil, es, X, Wx, raw, sc, G, GS, h => by
    unfold chkEs at h
    cases es with
    | nil => exact ⟨fun e he => (nomatch he), snd_nil⟩
    | cons _ _ => cases h
  | .cons t ts, es, X, Wx, raw, sc, G, GS, h => by
    cases es with
    | nil => unfold chkEs at h; cases h
    | cons e es =>
      unfold chkEs at h
      simp only [Bool.and_eq_true] at h
      obtain ⟨h1, h2, h3⟩ := h
      obtain ⟨h4, h5⟩ := sEs st0 ts G GS h3
      refine ⟨fun x hx => ?_, snd_cons h1 (sE st0 t G GS h2) h5⟩
      rcases List.mem_cons.mp hx with rfl | hx
      · exact h1
      · exact h4 x hx
theorem sI {N : List Str} {lv : Nat} (st0 : Stat c) : ∀ (t : TI) (tg : Expr) {e : Expr} {X : Cx} {Wx : WX} {raw : Option Scope} {sc : Scope}, Gd c F X Wx lv → Gs X N raw sc → chkI T N none raw sc t tg e = true → isSet e = false ∧ ∃ pair, PI X tg e (rI c F none none cx Wx pair t) ∧ (pair = true → ∃ elts k p, tg = .Tuple elts k p)
  | .sq t, tg, e, X, Wx, raw, sc, G, GS, h => by
    unfold chkI at h
    simp only [Bool.and_eq_true] at h
    obtain ⟨h1, h2⟩ := h
    refine ⟨by cases e <;> first | rfl | (cases h2), false, sni_sq G.K (sE st0 t G GS h1), fun z => nomatch z⟩
  | .r1 a, tg, e, X, Wx, raw, sc, G, GS, h => by
    unfold chkI at h
    cases q : asCall e with
    | none => rw [q] at h; cases h
    | some k =>
      obtain ⟨x, es⟩ := k
      rw [q] at h
      obtain ⟨p, pos, rfl⟩ := asCall_of q
      cases es with
      | nil => cases h
      | cons y es =>
        cases es with
        | cons _ _ => cases h
        | nil =>
          simp only [Bool.and_eq_true, decide_eq_true_eq] at h
          obtain ⟨rfl, h1, h2, h3⟩ := h
          exact ⟨rfl, false, sni_r1 st0 G (GS.gl h1).1 h2 (sE st0 a G GS h3), fun z => nomatch z⟩
  | .r2 a b, tg, e, X, Wx, raw, sc, G, GS, h => by
    unfold chkI at h
    cases q : asCall e with
    | none => rw [q] at h; cases h
    | some k =>
      obtain ⟨x, es⟩ := k
      rw [q] at h
      obtain ⟨p, pos, rfl⟩ := asCall_of q
      cases es with
      | nil => cases h
      | cons y es =>
        cases es with
        | nil => cases h
        | cons z es =>
          cases es with
          | cons _ _ => cases h
          | nil =>
            simp only [Bool.and_eq_true, decide_eq_true_eq] at h
            obtain ⟨rfl, h1, h2, h3, h4, h5⟩ := h
            exact ⟨rfl, false, sni_r2 st0 G (GS.gl h1).1 h2 h3 (sE st0 a G GS h4) (sE st0 b G GS h5), fun z => nomatch z⟩
  | .en a, tg, e, X, Wx, raw, sc, G, GS, h => by
    unfold chkI at h
    cases q : asCall e with
    | none => rw [q] at h; cases h
    | some k =>
      obtain ⟨x, es⟩ := k
      rw [q] at h
      obtain ⟨p, pos, rfl⟩ := asCall_of q
      cases es with
      | nil => cases h
      | cons y es =>
        cases es with
        | cons _ _ => cases h
        | nil =>
          cases tg with
          | Tuple elts k tp =>
            simp only [Bool.and_eq_true, decide_eq_true_eq] at h
            obtain ⟨rfl, h1, h2, h3⟩ := h
            exact ⟨rfl, true, sni_en st0 G (GS.gl h1).1 h2 (sE st0 a G GS h3), fun _ => ⟨_, _, _, rfl⟩⟩
          | _ => cases h
  | .zp a b, tg, e, X, Wx, raw, sc, G, GS, h => by
    unfold chkI at h
    cases q : asCall e with
    | none => rw [q] at h; cases h
    | some k =>
      obtain ⟨x, es⟩ := k
      rw [q] at h
      obtain ⟨p, pos, rfl⟩ := asCall_of q
      cases es with
      | nil => cases h
      | cons y es =>
        cases es with
        | nil => cases h
        | cons z es =>
          cases es with
          | cons _ _ => cases h
          | nil =>
            cases tg with
            | Tuple elts k tp =>
              simp only [Bool.and_eq_true, decide_eq_true_eq] at h
              obtain ⟨rfl, h1, h2, h3, h4, h5⟩ := h
              exact ⟨rfl, true, sni_zp st0 G (GS.gl h1).1 h2 h3 (sE st0 a G GS h4) (sE st0 b G GS h5), fun _ => ⟨_, _, _, rfl⟩⟩
            | _ => cases h
end
end
end Mi
set_option maxHeartbeats 4000000
set_option autoImplicit false
namespace Mi
open PySem PySem.Spec PyProof.Rows L2
/-! ## statements -/
section
variable {T : Tab} (c : Cxt T) (F : Nat → List W → Q W) (cx : Value × Option Addr) (Wx : WX)
def PoS (D : Ends) (m : List Addr) (st : Store) (H : Hp) (o : O) : Prop := match o with
  | .nx env' st' => ∀ m' σ' H', Ext m st H m' st' H' → Sim c none none cx m' env' st' σ' H' → D.nx σ' H'
  | .rt w st' => ∀ m' v H', Ext m st H m' st' H' → SR c.kt m' st' H' → RelW c.kt m' (fz m' st' H') w v → D.rt v H'
  | .ex i xs env' st' => ∀ m' cls d σ' H', Ext m st H m' st' H' → Sim c none none cx m' env' st' σ' H' → XRel c m' (fz m' st' H') i xs cls d → Wx cls d σ' H'
  | .no => False
def rS (t : TS) : L2.TS := fun D σ H => ∃ m env st, Sim c none none cx m env st σ H ∧ PoS c cx Wx D m st H (exS T F none t env st)
def rSs (t : TSs) : L2.TS := fun D σ H => ∃ m env st, Sim c none none cx m env st σ H ∧ PoS c cx Wx D m st H (exSs T F none t env st)
end
section
variable {T : Tab} {c : Cxt T} {F : Nat → List W → Q W} {cx : Value × Option Addr} {Wx : WX} {X : Cx} {lv : Nat} {pos : Pos}
variable {D : Ends} {m m1 : List Addr} {st st1 : Store} {H H1 : Hp} {env : Ev} {σ : L2.St}
theorem pos_ext {o : O} (h : PoS c cx Wx D m st H o) (e : Ext m st H m1 st1 H1) : PoS c cx Wx D m1 st1 H1 o := by
  cases o with
  | nx env' s => intro m' σ' H' e1 S1; exact h m' σ' H' (e.trans e1) S1
  | rt w s => intro m' v H' e1 S1 r; exact h m' v H' (e.trans e1) S1 r
  | ex i xs env' s => intro m' cls d σ' H' e1 S1 r; exact h m' cls d σ' H' (e.trans e1) S1 r
  | no => exact h
theorem pos_bo {α β : Type} {rel : List Addr → Hp → α → β → Prop} {x : R α} {f : α → Store → O} (S : Sim c none none cx m env st σ H) (h : PoS c cx Wx D m st H (bo x env f)) {K : β → Hp → Prop}
    (k : ∀ a st1 m1 H1 b, Ext m st H m1 st1 H1 → SR c.kt m1 st1 H1 → rel m1 (fz m1 st1 H1) a b → PoS c cx Wx D m1 st1 H1 (f a st1) → K b H1) : Po c m st H (fun cls d H => Wx cls d σ H) rel x K := by
  unfold bo at h
  cases x with
  | ok a s => intro m' b H' e1 s1 r; exact k a s m' H' b e1 s1 r (pos_ext h e1)
  | ex i xs s => intro m' cls d H' e1 s1 r; exact h m' cls d σ H' e1 (S.ext e1 s1) r
  | no => exact h
theorem pos_thn {o : O} {f : Ev → Store → O} (h : PoS c cx Wx D m st H (o.thn f)) {N bk ct : L2.St → Hp → Prop} (k : ∀ env1 st1 m1 σ1 H1, Ext m st H m1 st1 H1 → Sim c none none cx m1 env1 st1 σ1 H1 → PoS c cx Wx D m1 st1 H1 (f env1 st1) → N σ1 H1) :
    PoS c cx Wx { nx := N, rt := D.rt, bk := bk, ct := ct } m st H o := by
  cases o with
  | nx env' s => intro m' σ' H' e1 S1; exact k env' s m' σ' H' e1 S1 (pos_ext (o := f env' s) h e1)
  | rt w s => exact h
  | ex i xs env' s => exact h
  | no => exact h
theorem pos_nx {env' : Ev} (h : PoS c cx Wx D m st H (.nx env' st)) (S : Sim c none none cx m env' st σ H) : D.nx σ H := h m σ H Ext.refl S
theorem pos_rt {w : W} {v : V} (h : PoS c cx Wx D m st H (.rt w st)) (S : SR c.kt m st H) (r : RelW c.kt m (fz m st H) w v) : D.rt v H := h m v H Ext.refl S r
theorem sns_nil : PSs X [] (rSs c F cx Wx .nil) := PSs.mono pss_nil fun D σ H h => by
  obtain ⟨m, env, st, S, hp⟩ := h
  unfold exSs at hp
  exact pos_nx hp S
theorem sns_cons {s : Stmt} {ss : List Stmt} {t : TS} {ts : TSs} (h1 : PS X s (rS c F cx Wx t)) (h2 : PSs X ss (rSs c F cx Wx ts)) : PSs X (s :: ss) (rSs c F cx Wx (.cons t ts)) := PSs.mono (pss_cons h1 h2) fun D σ H h => by
  obtain ⟨m, env, st, S, hp⟩ := h
  unfold exSs at hp
  exact ⟨m, env, st, S, pos_thn hp fun env1 st1 m1 σ1 H1 E1 S1 hp1 => ⟨m1, env1, st1, S1, hp1⟩⟩
theorem sns_ex {e : Expr} {t : TX} (he : PE X e (rE c F none none cx Wx t)) (hc : isComp e = false) : PS X (.Expr e pos) (rS c F cx Wx (.ex t)) := PS.mono (ps_expr he (swaps_not hc _ _ _)) fun D σ H h => by
  obtain ⟨m, env, st, S, hp⟩ := h
  unfold exS at hp
  exact ⟨m, env, st, S, pos_bo S hp fun w st1 m1 H1 v E1 S1 r hp1 => pos_nx hp1 (S.ext E1 S1)⟩
theorem sns_ret {e : Expr} {t : TX} (he : PE X e (rE c F none none cx Wx t)) : PS X (.Return (some e) pos) (rS c F cx Wx (.ret t)) := PS.mono (ps_ret he) fun D σ H h => by
  obtain ⟨m, env, st, S, hp⟩ := h
  unfold exS at hp
  exact ⟨m, env, st, S, pos_bo S hp fun w st1 m1 H1 v E1 S1 r hp1 => pos_rt hp1 S1 r⟩
theorem sns_ret0 : PS X (.Return none pos) (rS c F cx Wx .ret0) := PS.mono ps_retN fun D σ H h => by
  obtain ⟨m, env, st, S, hp⟩ := h
  unfold exS at hp
  exact pos_rt hp S.sr (by unfold RelW; rfl)
theorem sns_pas : PS X (.Pass pos) (rS c F cx Wx .pas) := PS.mono ps_pass fun D σ H h => by
  obtain ⟨m, env, st, S, hp⟩ := h
  unfold exS at hp
  exact pos_nx hp S
theorem sns_ite {e : Expr} {a b : List Stmt} {t : TT} {ta tb : TSs} (he : PT X e (rT c F none none cx Wx t)) (ha : PSs X a (rSs c F cx Wx ta)) (hb : PSs X b (rSs c F cx Wx tb)) : PS X (.If e a b pos) (rS c F cx Wx (.ite t ta tb)) := PS.mono (ps_if he ha hb) fun D σ H h => by
  obtain ⟨m, env, st, S, hp⟩ := h
  unfold exS at hp
  refine ⟨m, env, st, S, pos_bo S hp fun q st1 m1 H1 k E1 S1 r hp1 => ?_⟩
  cases r
  cases q with
  | true => exact ⟨m1, env, st1, S.ext E1 S1, hp1⟩
  | false => exact ⟨m1, env, st1, S.ext E1 S1, hp1⟩
theorem sns_whl {e : Expr} {b : List Stmt} {t : TT} {tb : TSs} {n : Nat} (hpo : PassesOwn (model X.prog X.w) X.A X.env X.xe) (he : PT X e (rT c F none none cx Wx t)) (hb : PSs X b (rSs c F cx Wx tb)) : PS X (.While e b [] pos) (rS c F cx Wx (.whl n t tb)) := PS.mono (ps_while hpo he hb) fun D σ H h => by
  obtain ⟨m, env, st, S, hp⟩ := h
  unfold exS at hp
  refine ⟨fun k σ H => ∃ m env st, Sim c none none cx m env st σ H ∧ PoS c cx Wx D m st H (whlGo (evT T F none t) (exSs T F none tb) k env st), ⟨n, m, env, st, S, hp⟩, ?_⟩
  rintro k σ H ⟨m, env, st, S, hp⟩
  cases k with
  | zero => exact hp.elim
  | succ k =>
    unfold whlGo at hp
    refine ⟨m, env, st, S, pos_bo S hp fun q st1 m1 H1 b E1 S1 r hp1 => ?_⟩
    cases r
    cases q with
    | false => exact pos_nx hp1 (S.ext E1 S1)
    | true =>
      refine ⟨fun σ' H' => ∃ m env st, Sim c none none cx m env st σ' H' ∧ PoS c cx Wx D m st H' (whlGo (evT T F none t) (exSs T F none tb) k env st), fun σ' H' z => ⟨k, Nat.lt_succ_self k, z⟩, m1, env, st1, S.ext E1 S1, ?_⟩
      exact pos_thn hp1 fun env2 st2 m2 σ2 H2 E2 S2 hp2 => ⟨m2, env2, st2, S2, hp2⟩
mutual
theorem asgn_nex : ∀ (g : TG) {w : W} {env : Ev} {st : Store} {i : Nat} {xs : List W} {s : Store}, asgn g w env st ≠ .ex i xs s
  | .nm i, w, env, st, j, xs, s, h => by cases h
  | .tp gs, w, env, st, j, xs, s, h => by
    unfold asgn bd at h
    cases e : items w st with
    | ok ys s1 => rw [e] at h; exact asgns_nex gs h
    | no => rw [e] at h; cases h
    | ex k zs s1 =>
      cases w with
      | ref n => rw [items_ref] at e; cases q : st[n]? with
        | none => rw [q] at e; cases e
        | some o => cases o with
          | none => rw [q] at e; cases e
          | some o => rw [q] at e; cases o <;> cases e
      | _ => cases e
theorem asgns_nex : ∀ (gs : List TG) {ws : List W} {env : Ev} {st : Store} {i : Nat} {xs : List W} {s : Store}, asgns gs ws env st ≠ .ex i xs s
  | [], [], env, st, j, xs, s, h => by cases h
  | [], _ :: _, env, st, j, xs, s, h => by cases h
  | g :: gs, [], env, st, j, xs, s, h => by cases h
  | g :: gs, w :: ws, env, st, j, xs, s, h => by
    unfold asgns bd at h
    cases e : asgn g w env st with
    | ok ys s1 => rw [e] at h; exact asgns_nex gs h
    | no => rw [e] at h; cases h
    | ex k zs s1 => exact asgn_nex g e
end
/-- a target takes its value -/
theorem pos_asgn {g : TG} {w : W} {f : Ev → Store → O} (h : PoS c cx Wx D m st H (bo (asgn g w env st) env f)) : ∃ env', asgn g w env st = .ok env' st ∧ PoS c cx Wx D m st H (f env' st) := by
  cases e : asgn g w env st with
  | ok env' s =>
    have es := asgn_st g e
    subst es
    rw [e] at h
    exact ⟨env', rfl, h⟩
  | no => rw [e] at h; exact h.elim
  | ex k zs s1 => exact (asgn_nex g e).elim
theorem tasg_read {g : TG} {t : TX} {te : TE} (he : ∀ σ H Q, rE c F none none cx Wx t σ H Q → te σ H Q) : ∀ D σ H, rS c F cx Wx (.asg g t) D σ H → tAsg te (rG c cx g) D σ H := by
  intro D σ H h
  obtain ⟨m, env, st, S, hp⟩ := h
  unfold exS at hp
  refine he σ H _ ⟨m, env, st, S, pos_bo S hp fun w st1 m1 H1 v E1 S1 r hp1 => ?_⟩
  obtain ⟨env', ha, hp2⟩ := pos_asgn hp1
  exact ⟨m1, env, st1, w, env', S.ext E1 S1, relG_of r, ha, fun σ' S' _ => pos_nx hp2 S'⟩
theorem sns_asg {tg e : Expr} {g : TG} {t : TX} (he : PE X e (rE c F none none cx Wx t)) (hg : PG X tg (rG c cx g)) (hst : noStar tg = true) (h1 : swapsWithSole [tg] e pos.line X.env = pure false) (h2 : swappedStores [tg] e X.env = pure none) : PS X (.Assign [tg] e pos) (rS c F cx Wx (.asg g t)) :=
  PS.mono (ps_asg he hg h1 h2 (by rw [asg_cons hst]; rfl)) (tasg_read fun σ H Q q => q)
theorem still_go {src : List (Nat × List W)} {f : Unit → Store → O} (h : PoS c cx Wx D m st H (bo (still src st) env f)) : (∀ p ∈ src, st[p.1]? = some (some (.lst p.2))) ∧ PoS c cx Wx D m st H (f () st) := by
  unfold still at h
  by_cases hs : ∀ p ∈ src, st[p.1]? = some (some (.lst p.2))
  · rw [if_pos hs] at h
    exact ⟨hs, h⟩
  · rw [if_neg hs] at h
    exact h.elim
theorem sns_loop {tg e : Expr} {b : List Stmt} {g : TG} {it : TI} {tb : TSs} {pair : Bool} (hpo : PassesOwn (model X.prog X.w) X.A X.env X.xe) (hc : X.calm = true) (hi : PI X tg e (rI c F none none cx Wx pair it)) (hpair : pair = true → ∃ gs, g = .tp gs) (hg : PG X tg (rG c cx g))
    (hb : PSs X b (rSs c F cx Wx tb)) (hs : isSet e = false) : PS X (.For tg e b [] pos) (rS c F cx Wx (.loop g it tb)) := PS.mono (ps_for hpo hc hi hg hb (folded_not hs X.env)) fun D σ H h => by
  obtain ⟨m, env, st, S, hp⟩ := h
  unfold exS at hp
  refine ⟨m, env, st, S, ?_⟩
  cases ei : evI T F none it env st with
  | no => rw [ei] at hp; exact hp.elim
  | ex i xs s =>
    rw [ei] at hp
    intro m' cls d H' e1 s1 r
    exact hp m' cls d σ H' e1 (S.ext e1 s1) r
  | ok k st1 =>
    rw [ei] at hp
    intro m1 H1 J E1 S1 wk
    have hp := pos_ext hp E1
    obtain ⟨Gp, Y, walk, hG, hY⟩ := wk
    generalize hone : (fun (x : W) (env : Ev) (s : Store) => bo (asgn g x env s) env fun env s => exSs T F none tb env s) = one at hp
    have hp0 : PoS c cx Wx D m1 st1 H1 (forGo one k.src k.xs env st1) := hp
    refine for_it walk (fun i σ' H' => ∃ m2 env2 st2, Ext m1 st1 H1 m2 st2 H' ∧ Sim c none none cx m2 env2 st2 σ' H' ∧ PoS c cx Wx D m2 st2 H' (forGo one k.src (k.xs.drop i) env2 st2)) ?_ ?_ ?_ ?_
    · exact ⟨m1, env, st1, Ext.refl, S.ext E1 S1, hp0⟩
    · rintro i σ' H' hi ⟨m2, env2, st2, e2, S2, hok⟩
      refine hG m2 st2 H' e2 S2.sr ?_
      cases hx : k.xs.drop i with
      | nil =>
        rw [hx] at hok
        unfold forGo at hok
        exact (still_go hok).1
      | cons x xs =>
        rw [hx] at hok
        unfold forGo at hok
        exact (still_go hok).1
    · rintro i x σ' H' H'' hi ⟨m2, env2, st2, e2, S2, hok⟩ hy
      have hx : k.xs.drop i = k.xs[i] :: k.xs.drop (i + 1) := List.drop_eq_getElem_cons hi
      rw [hx] at hok
      unfold forGo at hok
      obtain ⟨hst, hok⟩ := still_go hok
      obtain ⟨w, hw, s3, e3, rw3⟩ := hY i H' x H'' hi hy m2 st2 e2 S2.sr hst
      have ew : k.xs[i] = w := by
        rw [List.getElem?_eq_getElem hi] at hw
        exact Option.some.inj hw
      rw [ew] at hok
      have hok := pos_ext hok e3
      have hok2 : PoS c cx Wx { nx := fun σ' H' => ∃ m2 env2 st2, Ext m1 st1 H1 m2 st2 H' ∧ Sim c none none cx m2 env2 st2 σ' H' ∧ PoS c cx Wx D m2 st2 H' (forGo one k.src (k.xs.drop (i + 1)) env2 st2), rt := D.rt, bk := D.nx, ct := fun σ' H' => ∃ m2 env2 st2, Ext m1 st1 H1 m2 st2 H' ∧ Sim c none none cx m2 env2 st2 σ' H' ∧ PoS c cx Wx D m2 st2 H' (forGo one k.src (k.xs.drop (i + 1)) env2 st2) } m2 st2 H'' (one w env2 st2) :=
        pos_thn hok fun env3 st3 m3 σ3 H3 E3 S3 hp3 => ⟨m3, env3, st3, (e2.trans e3).trans E3, S3, hp3⟩
      rw [← hone] at hok2
      obtain ⟨env', ha, hp2⟩ := pos_asgn hok2
      refine ⟨m2, env2, st2, w, env', S2.ext e3 s3, ?_, ha, fun σ2 S4 _ => ?_⟩
      · cases pair with
        | true =>
          obtain ⟨gs, rfl⟩ := hpair rfl
          exact rw3
        | false => exact relG_of rw3
      · rw [hone] at hp2
        exact ⟨m2, env', st2, S4, hp2⟩
    · rintro σ' H' ⟨m2, env2, st2, e2, S2, hok⟩
      rw [List.drop_length] at hok
      unfold forGo at hok
      exact pos_nx (still_go hok).2 S2
theorem sns_par {i j : Nat} {x y : Str} {ea eb : Expr} {ta tb : TX} {px py pt : Pos} {kt k2 pt2} (hc : X.calm = true) (hN : X.N.Nodup) (hi : X.N[i]? = some x) (hj : X.N[j]? = some y) (hij : i ≠ j)
    (hx : X.env.scope.names.lookup x = some .local) (hy : X.env.scope.names.lookup y = some .local) (ha : PA X [ea, eb] (rA c F none none cx Wx (.cons ta (.cons tb .nil))))
    (hw : swappedStores [.Tuple [.Name x px, .Name y py] kt pt] (.Tuple [ea, eb] k2 pt2) X.env = pure (some [x, y])) :
    PS X (.Assign [.Tuple [.Name x px, .Name y py] kt pt] (.Tuple [ea, eb] k2 pt2) pos) (rS c F cx Wx (.par i j ta tb)) := PS.mono (ps_par hc hN hi hj hij hx hy ha hw) fun D σ H h => by
  obtain ⟨m, env, st, S, hp⟩ := h
  unfold exS at hp
  refine ⟨m, env, st, S, ?_⟩
  have hp2 : Po c m st H (fun cls d H => Wx cls d σ H) (rWs c) (evs T F none (.cons ta (.cons tb .nil)) env st) (fun vs H1 => ∃ v w, vs = [v, w] ∧ D.nx ((σ.set i (some v)).set j (some w)) H1) := by
    have e : evs T F none (.cons ta (.cons tb .nil)) env st = bd (ev T F none ta env) (fun a => bd (ev T F none tb env) fun b => pu [a, b]) st := by
      have e0 : evs T F none (.cons ta (.cons tb .nil)) env = bd (ev T F none ta env) (fun a => bd (ev T F none tb env) fun b => pu [a, b]) := by
        unfold evs evs evs
        congr 1
        funext a
        rw [bd_assoc]
        rfl
      rw [e0]
    rw [e]
    cases e1 : ev T F none ta env st with
    | no => rw [e1] at hp; exact hp.elim
    | ex k xs s =>
      rw [e1] at hp
      rw [bd_ex e1]
      intro m' cls d H' E1 s1 r
      exact hp m' cls d σ H' E1 (S.ext E1 s1) r
    | ok a st1 =>
      rw [e1] at hp
      rw [bd_ok e1]
      have hp : PoS c cx Wx D m st H (bo (ev T F none tb env st1) env fun y s => .nx ((env.set i (some a)).set j (some y)) s) := hp
      cases e2 : ev T F none tb env st1 with
      | no => rw [e2] at hp; exact hp.elim
      | ex k xs s =>
        rw [e2] at hp
        rw [bd_ex e2]
        intro m' cls d H' E1 s1 r
        exact hp m' cls d σ H' E1 (S.ext E1 s1) r
      | ok b st2 =>
        rw [e2] at hp
        rw [bd_ok e2]
        intro m' vs H' E1 s1 r
        obtain ⟨v1, vr, rfl, r1, r2⟩ := RelWs.cons_inv r
        obtain ⟨v2, vr2, rfl, r4, r3⟩ := RelWs.cons_inv r2
        cases RelWs.nil_inv r3
        exact ⟨v1, v2, rfl, hp m' _ H' E1 (((S.ext E1 s1).set r1).set r4)⟩
  exact hp2
theorem put_zip {f : Str} {w : W} {v : V} {k : Kt} {M : Hp} (rv : RelW k m M w v) : ∀ {fs : List (Str × W)} {vs : List V}, RelWs k m M (fs.map (·.2)) vs → ∃ us, putF f v ((fs.map (·.1)).zip vs) = ((putW f w fs).map (·.1)).zip us ∧ RelWs k m M ((putW f w fs).map (·.2)) us
  | [], vs, r => ⟨[v], rfl, RelWs.cons rv RelWs.nil⟩
  | (g, x) :: fs, vs, r => by
    obtain ⟨v1, vr, rfl, r1, r2⟩ := RelWs.cons_inv r
    by_cases h : g = f
    · refine ⟨v :: vr, ?_, ?_⟩
      · show (if g = f then (g, v) :: (fs.map (·.1)).zip vr else _) = _
        unfold putW
        rw [if_pos h, if_pos h]
        rfl
      · unfold putW
        rw [if_pos h]
        exact RelWs.cons rv r2
    · obtain ⟨us, h1, h2⟩ := put_zip rv r2
      refine ⟨v1 :: us, ?_, ?_⟩
      · show (if g = f then _ else (g, v1) :: putF f v ((fs.map (·.1)).zip vr)) = _
        unfold putW
        rw [if_neg h, if_neg h, h1]
        rfl
      · unfold putW
        rw [if_neg h]
        exact RelWs.cons r1 h2
theorem pos_get {n : Nat} {f : MO → Q Unit} {g : Unit → Store → O} (h : PoS c cx Wx D m st H (bo (bd (getM n) f st) env g)) (S : SR c.kt m st H) :
    ∃ o a, st[n]? = some (some o) ∧ m[n]? = some a ∧ MRel c.kt m (fz m st H) H a o ∧ PoS c cx Wx D m st H (bo (f o st) env g) := by
  rw [bd_get] at h
  cases e : st[n]? with
  | none => rw [e] at h; exact h.elim
  | some o =>
    rw [e] at h
    cases o with
    | none => exact h.elim
    | some o =>
      obtain ⟨a, h1, h2⟩ := S.live e
      exact ⟨o, a, rfl, h1, h2, h⟩
theorem sns_sat (st0 : Stat c) (hK : X.K = c.K) {eo e : Expr} {f : Str} {to t : TX} {pos' : Pos} (ho : PE X eo (rE c F none none cx Wx to)) (he : PE X e (rE c F none none cx Wx t)) (hs : swapsWith e (some (.Attribute eo f pos')) pos.line X.env = pure false) :
    PS X (.Assign [.Attribute eo f pos'] e pos) (rS c F cx Wx (.sat to f t)) := PS.mono (ps_fld ho he hs) fun D σ H h => by
  obtain ⟨m, env, st, S, hp⟩ := h
  unfold exS at hp
  refine ⟨m, env, st, S, pos_bo S hp fun w st1 m1 H1 v E1 S1 r hp1 => ?_⟩
  have S1' := S.ext E1 S1
  refine ⟨m1, env, st1, S1', pos_bo S1' hp1 fun wo st2 m2 H2 vo E2 S2 ro hp2 => ?_⟩
  have S2' := S1'.ext E2 S2
  cases wo with
  | ref n =>
    unfold satW at hp2
    obtain ⟨o, a, h1, h2, h3, hp3⟩ := pos_get hp2 S2
    cases o with
    | ins i fs =>
      dsimp only at hp3
      cases hc : T.cls[i]? with
      | none => rw [hc] at hp3; exact hp3.elim
      | some cd =>
        rw [hc] at hp3
        dsimp only at hp3
        by_cases hf : f ∈ cd.fields ∧ fs.length < 1000
        · rw [if_pos hf] at hp3
          unfold setM at hp3
          rw [h1] at hp3
          obtain ⟨dx, vs, h4, h5⟩ := h3
          unfold RelW at ro
          obtain ⟨q, rfl, hq⟩ := ro
          rw [h2] at hq; cases hq
          obtain ⟨us, h6, h7⟩ := put_zip (f := f) (E2.relW r) h5
          refine ⟨a, _, dx, _, rfl, h4, by rw [hK]; exact st0.cls i cd hc, by rw [hK]; exact st0.att i cd f hc hf.1, ?_, ?_⟩
          · rw [List.length_zip, List.length_map]
            exact Nat.lt_of_le_of_lt (Nat.min_le_left _ _) hf.2
          · rw [h6]
            obtain ⟨s8, e8⟩ := S2.write (o' := .ins i (putW f w fs)) (ho := .ins (c.kt.cad i) dx (((putW f w fs).map (·.1)).zip us)) h1 h2 ⟨dx, us, upd_same, h7⟩
            exact hp3 m2 σ _ e8 (S2'.ext e8 s8)
        · rw [if_neg hf] at hp3; exact hp3.elim
    | _ => exact hp3.elim
  | _ => exact hp2.elim
theorem sns_six {eo ei e : Expr} {to ti t : TX} {pos' : Pos} (ho : PE X eo (rE c F none none cx Wx to)) (hi : PE X ei (rE c F none none cx Wx ti)) (he : PE X e (rE c F none none cx Wx t)) (hc : swapsWithSole [.Subscript eo ei pos'] e pos.line X.env = pure false) (hsl : noSlc ei = true) :
    PS X (.Assign [.Subscript eo ei pos'] e pos) (rS c F cx Wx (.six to ti t)) := by
  have pg : PG X (.Subscript eo ei pos') (gSub (rE c F none none cx Wx to) (rE c F none none cx Wx ti) rSetL) := pg_sub ho hi set_list (by intro v; cases ei <;> first | rfl | (cases hsl))
  refine PS.mono (ps_asg he pg hc (by cases e <;> rfl)) fun D σ H h => ?_
  obtain ⟨m, env, st, S, hp⟩ := h
  unfold exS at hp
  refine ⟨m, env, st, S, pos_bo S hp fun w st1 m1 H1 v E1 S1 r hp1 => ?_⟩
  have S1' := S.ext E1 S1
  refine ⟨m1, env, st1, S1', pos_bo S1' hp1 fun wo st2 m2 H2 vo E2 S2 ro hp2 => ?_⟩
  have S2' := S1'.ext E2 S2
  refine ⟨m2, env, st2, S2', pos_bo S2' hp2 fun wi st3 m3 H3 vi E3 S3 ri hp3 => ?_⟩
  have S3' := S2'.ext E3 S3
  cases wo with
  | ref n =>
    cases wi with
    | int k =>
      unfold sixW at hp3
      obtain ⟨o, a, h1, h2, h3, hp4⟩ := pos_get hp3 S3
      cases o with
      | lst xs =>
        dsimp only at hp4
        cases hj : L2.ixN xs.length k with
        | none => rw [hj] at hp4; exact hp4.elim
        | some j =>
          rw [hj] at hp4
          dsimp only at hp4
          unfold setM at hp4
          rw [h1] at hp4
          obtain ⟨vs, h4, h5⟩ := h3
          have ro := E3.relW ro
          unfold RelW at ro ri
          obtain ⟨q, rfl, hq⟩ := ro
          rw [h2] at hq; cases hq
          refine ⟨a, vs, k, j, rfl, ri, h4, by rw [h5.len]; exact hj, ?_⟩
          obtain ⟨s8, e8⟩ := S3.write (o' := .lst (xs.set j w)) (ho := .lst (vs.set j v)) h1 h2 ⟨_, upd_same, h5.set j (E3.relW (E2.relW r))⟩
          exact hp4 m3 σ _ e8 (S3'.ext e8 s8)
      | _ => exact hp4.elim
    | _ => exact hp3.elim
  | _ => cases wi <;> exact hp3.elim
end
end Mi
set_option maxHeartbeats 4000000
/-! super().__init__(..) of an own error over ValueError, another own class between -/
namespace PySem
namespace MiX
abbrev bw (x : Addr) : Obj := { cls := .type "method-wrapper", dict := none, data := .fields #[.builtin "ValueError.__init__", .ref x], slots := #[] }
theorem type_ei : typeOf (.builtin "ValueError.__init__") = pure (.type "wrapper_descriptor") := by show builtinType _ = _; rw [builtinType_eq_fast]; kernel_rfl
theorem nac : (kfb_private% "nameAndClass") (Value.builtin "ValueError.__init__") = (pure (("__init__" : Str), Value.type "ValueError") : Sem (Str × Value)) := by kernel_rfl
section
open PySem.W PySem.ESX
variable {prog : Program} {w : World} {M : Model} {A : Around} {E : Value → Shared → Prop} {h : Heap} {g : Array GenState} {d : Drawn} {t : Nat} {os : OsState}
theorem run_wd {x C : Addr} {P : Fin → Shared → Prop} (hin : W.Looks M h (isInstance (.ref x) (.type "ValueError")) true) (hq : P (.done (.ret (.ref h.objs.size))) ⟨h.push (MiX.bw x), g, d, t, os⟩) :
    wpAny M A (Builtin.«wrapper_descriptor.__get__» ⟨[.builtin "ValueError.__init__", .ref x, .ref C], []⟩) P E ⟨h, g, d, t, os⟩ := by
  unfold Builtin.«wrapper_descriptor.__get__»
  refine wpAny_bind (wpAny_of_eq (a := (.builtin "ValueError.__init__", some (.ref x), some (.ref C))) (by first | rfl | kernel_rfl) ?_)
  show wpAny M A ((kfb_private% "checkInstance") (.builtin "ValueError.__init__") (.ref x) >>= fun _ => newFields "method-wrapper" [.builtin "ValueError.__init__", .ref x] >>= fun r => ret r) P E _
  refine wpAny_bind ?_
  show wpAny M A ((kfb_private% "nameAndClass") (.builtin "ValueError.__init__") >>= _) _ E _
  refine wpAny_bind (wpAny_of_eq MiX.nac ?_)
  show wpAny M A (isInstance (.ref x) (.type "ValueError") >>= _) _ E _
  refine wpAny_bind (hin.at ?_)
  refine KFB.if_not rfl ?_
  refine wpAny_pure ?_
  exact wpAny_bind (wpAny_newObj_type (wpAny_pure hq))
theorem super_ga {so D x C : Addr} {l₀ l : List Value} {K : Frag} {name : Str} {tk : Tok} {Q : Fin → Shared → Prop}
    (hso : h.get? so = some { cls := .type "super", dict := none, data := .fields #[.ref D, .ref x, .ref C], slots := #[] }) (hno : W.Looks (model prog w) h (opaqueClassAbove (.ref C)) none)
    (hC : W.Looks (model prog w) h (mroOf (.ref C)) l₀) (hl : (l₀.dropWhile (· != .ref D)).drop 1 = l) (X : K.In h)
    (hf : alongIn K name l = some (some (.builtin "ValueError.__init__"))) (hxC : x ≠ C) (hn : (name == ("__class__" : Str)) = false) (hin : W.Looks (model prog w) h (isInstance (.ref x) (.type "ValueError")) true)
    (hq : Q (.done (.ret (.ref h.objs.size))) ⟨h.push (MiX.bw x), g, d, t, os⟩) :
    wpAny (model prog w) A (Builtin.«super.__getattribute__» ⟨[.ref so, .str name tk], []⟩) Q E ⟨h, g, d, t, os⟩ := by
  have hlk := slot_wd.lookup
  have hne : (Value.ref x == Value.ref C) = false := by simp [hxC]
  have hTf := MiX.type_ei
  have hTi : Shared.TypeIs ⟨h, g, d, t, os⟩ (.builtin "ValueError.__init__") "wrapper_descriptor" := MiX.type_ei
  have hdt : ({ cls := .type "super", dict := none, data := .fields #[.ref D, .ref x, .ref C], slots := #[] } : Obj).data = .fields #[.ref D, .ref x, .ref C] := rfl
  have f0 : (#[.ref D, .ref x, .ref C] : Array Value)[0]? = some (.ref D) := rfl
  have f1 : (#[.ref D, .ref x, .ref C] : Array Value)[1]? = some (.ref x) := rfl
  have f2 : (#[.ref D, .ref x, .ref C] : Array Value)[2]? = some (.ref C) := rfl
  unfold Builtin.«super.__getattribute__»
  repeat (first
    | (with_reducible refine wpAny_field hso hdt f0 ?_) | (with_reducible refine wpAny_field hso hdt f1 ?_) | (with_reducible refine wpAny_field hso hdt f2 ?_)
    | (with_reducible refine ks_wpAny_notOpaque hno ?_)
    | (with_reducible refine Looks.at hC ?_; rw [hl])
    | (refine ks_forIn_along X (fun _ _ => rfl) rfl ?_ hf)
    | (with_reducible refine wpAny_call_entry slot_wd hTi entry_wd ?_ (args_wd _ _ _))
    | (with_reducible refine MiX.run_wd hin ?_)
    | (with_reducible refine ⟨_, rfl, ?_⟩)
    | (simp only [hn, hne, Bool.or_false, Bool.false_eq_true, if_false])
    | wp_step
    | dsimp only)
  all_goals exact hq
theorem getMethod_super {so D x C : Addr} {l₀ l : List Value} {K : Frag} {name : Str} {pl : Sem Bool} {Q : Value × List Value → Shared → Prop}
    (hso : h.get? so = some { cls := .type "super", dict := none, data := .fields #[.ref D, .ref x, .ref C], slots := #[] }) (hno : W.Looks (model prog w) h (opaqueClassAbove (.ref C)) none)
    (hC : W.Looks (model prog w) h (mroOf (.ref C)) l₀) (hl : (l₀.dropWhile (· != .ref D)).drop 1 = l) (X : K.In h)
    (hf : alongIn K name l = some (some (.builtin "ValueError.__init__"))) (hxC : x ≠ C) (hn : (name == ("__class__" : Str)) = false) (hin : W.Looks (model prog w) h (isInstance (.ref x) (.type "ValueError")) true)
    (hq : Q (.ref h.objs.size, []) ⟨h.push (MiX.bw x), g, d, t + 1, os⟩) :
    wpAny (model prog w) A (getMethod (.ref so) name pl) Q E ⟨h, g, d, t, os⟩ := by
  have hlk := F.ks_slot_super_ga.lookup
  have hcan := F.ks_canon_super_ga
  have hT : ∀ t', (⟨h, g, d, t', os⟩ : Shared).TypeIs (.ref so) "super" := fun _ => ⟨_, hso, rfl⟩
  unfold getMethod
  refine wpAny_bind (wpAny_specialOf (hT _) hlk ?_)
  show wpAny _ _ (if (Manifest.canonical "super.__getattribute__" != "object.__getattribute__") = true then _ else _) _ _ _
  rw [if_pos hcan]
  unfold getAttr getAttrBy
  refine wpAny_bind (wpAny_bind (wpAny_mkText (wpAny_holding (wpAny_bind (wpAny_typeOf (hT _) (wpAny_bind (wpAny_of_eq hlk ?_)))))))
  show wpAny _ _ (getAttrByItsOwn (.ref so) (.str name t) (.type "super") (.builtin "super.__getattribute__") true false) _ _ _
  unfold getAttrByItsOwn hookBefore callGetattribute boundAndCalled
  refine wpAny_bind (wpAny_of_eq (show (if onTheHeap (.type "super") then typeLookup (.type "super") "__getattr__" else pure none) = pure none from rfl) ?_)
  refine wpAny_bind (wpAny_attempt (wpAny_holding ?_))
  show wpAny _ _ (bindSpecial (.builtin "super.__getattribute__") (.ref so) >>= _) _ _ _
  refine wpAny_bind (wpAny_of_eq (F.ks_slot_super_ga.bind _) ?_)
  refine wpAny_mono (Q := fun v s' => v = .ref h.objs.size ∧ s' = ⟨h.push (MiX.bw x), g, d, t + 1, os⟩) (E := fun _ _ => False)
    (wpAny_call_entry F.ks_slot_super_ga (hT _) F.ks_entry_super_ga (MiX.super_ga hso hno hC hl X hf hxC hn hin ⟨_, rfl, rfl, rfl⟩) (F.ks_gaArgs_super _ _)) (fun v s' hv => ?_) fun _ _ z => z.elim
  obtain ⟨rfl, rfl⟩ := hv
  exact wpAny_pure (wpAny_pure hq)
end
section
open PySem.W PySem.Calls PyProof.Rows
variable {prog : Program} {w : World} {M : Model} {A : Around} {E : Value → Shared → Prop} {s : Shared}
theorem callWith_bw {pos : Pos} {u x : Addr} {first : List Value} {args : List (Bool × Sem Value)} {Q : Value → Shared → Prop} (hplain : args.any (·.1) = false)
    (h : wpAny M A (evalArgs (.ref u) true args []) (fun a s₁ => s₁.heap.get? u = some (MiX.bw x) ∧ wpAny M A (call (.ref u) (first ++ a.pos) a.kw) Q E s₁) E s) : wpAny M A (callWith pos (.ref u) first args []) Q E s := by
  unfold callWith
  refine wpAny_bind (wpAny_holding (wpAny_mono h (fun a s₁ h₁ => wpAny_bind (wpAny_standAt ?_)) fun _ _ x => x))
  obtain ⟨ho, hcall⟩ := h₁
  simp only [hplain, List.any_nil, Bool.or_false]
  refine wpAny_bind (m := keeperOf (.ref u)) ?_
  unfold keeperOf
  refine wpAny_bind (wpAny_load ho ?_)
  simp only [MiX.bw, show (Value.type "method-wrapper" != Value.type "method") = true by decide, show (Value.type "method-wrapper" == Value.type "builtin_function_or_method" || Value.type "method-wrapper" == Value.type "method-wrapper") = true by decide, if_true]
  refine wpAny_pure ?_
  exact wpAny_bind (wpAny_mono hcall (fun r s₂ hr => wpAny_bind (wpAny_holding (wpAny_point (wpAny_pure hr)))) fun _ _ x => x)
theorem callWith_bound {pos : Pos} {u x : Addr} {first : List Value} {env : Env} {e : Expr} {rest : List Expr} {Q : Value → Shared → Prop}
    (h : wpAny M A (spliced (backTo pos (starEach (e :: rest) env))) (fun vs s₁ => s₁.heap.get? u = some (MiX.bw x) ∧ wpAny M A (call (.ref u) (first ++ vs)) Q E s₁) E s)
    (he : starEach (e :: rest) env = (false, eval e env) :: starEach rest env := by rfl) (hplain : (backTo pos (starEach rest env)).any (·.1) = false := by rfl) :
    wpAny M A (callWith pos (.ref u) first (backTo pos (starEach (e :: rest) env)) []) Q E s := by
  rw [he] at h ⊢
  refine MiX.callWith_bw (x := x) (by show (false || (backTo pos (starEach rest env)).any (·.1)) = false; rw [hplain]; rfl) ?_
  exact evalArgs_plain h
end
section
variable {prog : Program} {w : World} {A : Around} {E : Value → Shared → Prop} {h : Heap} {g : Array GenState} {d : Drawn} {t : Nat} {os : OsState}
variable {nm q : Str} {C N : Addr} {bs bm : List Value} {hdct : Bool} {sn : List Str} {sub : List Value} {ab : Bool} {col : Option Bool} {dd : Option Addr} {k0 k1 k2 k3 k5 : Option Value}
theorem call_bw {u e t0 : Addr} {rest : List Value} {Q : Value → Shared → Prop}
    (hC : h.get? C = some (excClassObj nm q C N bs bm hdct sn sub ab col dd k0 k1 k2 k3 k5 "ValueError.__new__")) (he : h.get? e = some (HandSPX.excO C t0)) (hu : h.get? u = some (MiX.bw e)) (hrest : rest.length ≤ sizeLine)
    (hq : ∀ h' t1, (∀ b o, b ≠ e → h.get? b = some o → h'.get? b = some o) → h'.get? e = some (HandSPX.excO C t1) → Q .none ⟨h', g, d, t, os⟩) :
    wpAny (model prog w) A (call (.ref u) rest) Q E ⟨h, g, d, t, os⟩ := by
  refine wpAny_call (codeAny_of_tree ?_)
  show wpAny _ A.in1 (callAny (.ref u) ⟨rest, []⟩) _ _ _
  simp only [callAny]
  refine wpAny_bind (wpAny_load hu ?_)
  simp only [MiX.bw, show (Value.type "method-wrapper" == Value.type "method" || Value.type "method-wrapper" == Value.type "builtin_function_or_method" || Value.type "method-wrapper" == Value.type "method-wrapper") = true by decide, if_true]
  refine W.KFB.if_so (by decide) ?_
  refine wpAny_bind (ESX.check_bound F.excBase_ValueError hC he rfl ?_)
  refine wpAny_bind (wpAny_pure (wpAny_pure ?_))
  refine ⟨Code.quiet_builtin _ (by decide +kernel), codeAny_builtin F.excBase_ValueError.initEntry ?_⟩
  rw [Around.under_plainId F.excBase_ValueError.init.plain _]
  wp_walk
  refine hq _ h.objs.size (fun b o hb ho => ?_) ?_
  · rw [Heap.get?_update_other _ _ (Ne.symm hb)]
    exact Heap.get?_push_of_some _ ho
  · rw [Heap.get?_update_self _ (Heap.get?_push_of_some _ he) rfl]
    rfl
end
end MiX
end PySem
set_option maxHeartbeats 4000000
set_option autoImplicit false
namespace Mi
open PySem PySem.Spec PyProof.Rows L2
/-- the context of an __init__ that says super() -/
def cxS (CX : CXT) (P : Program) (w : World) (K : PySem.W.Frag) (mg : Str → Option Value) (base : Heap) (N : List Str) (qual : Str) (scope : Scope) (f : Addr) (cd : Value) (cc : Addr) (A : Around) (outer : List Env) (s : Shared) (H : Hp) (E : XK) : Cx where
  prog := P
  w := w
  K := K
  mg := mg
  base := base
  A := A.deeper (PySem.W.ksEnv qual scope s.heap.objs.size f cd cc)
  N := N
  s_0 := s
  H_0 := H
  env := PySem.W.ksEnv qual scope s.heap.objs.size f cd cc
  outer := outer
  stack := PySem.W.ksEnv qual scope s.heap.objs.size f cd cc :: outer
  ex := []
  calm := true
  fn := fun _ => false
  pn := []
  xe := fun e s' => wpAny (model P w) (A.deeper (PySem.W.ksEnv qual scope s.heap.objs.size f cd cc)) (leaving (PySem.W.ksEnv qual scope s.heap.objs.size f cd cc) e) (fun _ s'' => CX outer H s E e s'') (fun e' s'' => CX outer H s E e' s'') s'
/-- the names of such an __init__ -/
structure ScS (N : List Str) (sc : Scope) : Prop where
  kind : sc.kind = .function
  co : sc.isCoroutine = false
  gen : sc.isGenerator = false
  nd : N.Nodup
  par : ∀ x ∈ N, sc.names.lookup x = some .local
  nocell : ∀ y ∈ sc.names, y.2 ≠ .cell
  free : ∀ y ∈ sc.names, y.2 = .free → y.1 = ("__class__" : Str)
theorem lk_mem {x : Str} {v : Value} : ∀ {l : List (Str × Value)}, (l.map (·.1)).Nodup → (x, v) ∈ l → l.lookup x = some v
  | [], _, h => nomatch h
  | (y, u) :: l, nd, h => by
    have nd' := List.nodup_cons.mp nd
    rcases List.mem_cons.mp h with e | h
    · cases e
      simp [List.lookup]
    · have ne : (x == y) = false := by
        have : x ≠ y := fun e => nd'.1 (List.mem_map.mpr ⟨(x, v), h, e⟩)
        simpa using this
      simp only [List.lookup, ne]
      exact lk_mem nd'.2 h
theorem inv_startS {CX : CXT} {P : Program} {w : World} {K : PySem.W.Frag} {mg : Str → Option Value} {base : Heap} {N : List Str} {qual : Str} {scope : Scope} {f : Addr} {cd : Value} {cc : Addr} {A : Around} {outer : List Env} {s : Shared} {H : Hp} {E : XK} {us : List Value} {vs : List V} {h₀ : Heap} {tk : Nat} {v0 : Option Value}
    (S : ScS N scope) (hd : A.handled = none) (e0 : Env0 P w K mg base A outer s H) (hl : vs.length = N.length) (r : Vals vs us) (hcell : ∃ cl cld csl, K.lookup cc = some ⟨cl, cld, .cell v0, csl⟩)
    (hns : h₀.Ns s.heap.objs.size (fun x => (N.zip us).reverse.lookup x)) (hk : ∀ b o, s.heap.get? b = some o → h₀.get? b = some o) :
    Inv (cxS CX P w K mg base N qual scope f cd cc A outer s H E) [] (start N vs) H { s with heap := h₀, toks := tk } := by
  have cells : ∀ (x : Str) (c : Addr), ([(("__class__" : Str), cc)] : List (Str × Addr)).lookup x = some c → x = ("__class__" : Str) ∧ c = cc := fun x c h => by
    by_cases hx : x = ("__class__" : Str)
    · subst hx
      simp [List.lookup] at h
      exact ⟨rfl, h.symm⟩
    · have : (x == ("__class__" : Str)) = false := by simpa using hx
      simp [List.lookup, this] at h
  obtain ⟨cl, cld, csl, hcl⟩ := hcell
  have hbc : base.get? cc = some ⟨cl, cld, .cell v0, csl⟩ := e0.mod.kin _ _ hcl
  have noA : ∀ b : Addr, b ∉ (cxS CX P w K mg base N qual scope f cd cc A outer s H E).ex := fun b z => absurd (show b ∈ ([] : List Addr) from z) (by simp)
  refine ⟨⟨e0.mod, S.kind, rfl, rfl, Nat.le_refl _, fun y z c h1 h2 => ?_, fun y hy => ?_, fun y c hf _ => ?_, fun _ => hd, Around.frames_deeper e0.frames, .inr ⟨rfl, rfl⟩, fun b z => absurd z (noA b), e0.bs, e0.bsz, fun b _ _ => noA b, fun b z => absurd z (noA b), e0.funs, e0.frf⟩,
    rfl, e0.bare, Un.kept hk, ⟨_, hns, fun i y v h1 h2 h3 => ?_⟩, fun y c h => ?_, e0.hok.fresh (Nat.le_refl _), fun y c h => ?_, fun p hp => absurd (show p ∈ ([] : List (Addr × Obj)) from hp) (by simp), e0.hok.kept hk, ?_⟩
  · rw [(cells y c h1).1, (cells z c h2).1]
  · have hy : scope.names.lookup y = some .cell ∨ scope.names.lookup y = some .free := hy
    rcases hy with hy | hy
    · exact absurd rfl (S.nocell _ (PySem.mem_of_lookup hy))
    · have e := S.free _ (PySem.mem_of_lookup hy) rfl
      dsimp only at e
      subst e
      exact ⟨cc, by show ([(("__class__" : Str), cc)] : List (Str × Addr)).lookup _ = _; simp [List.lookup]⟩
  · exact absurd (show false = true from hf) Bool.false_ne_true
  · have e : L2.start N vs = vs.map some := by unfold L2.start; rw [hl, Nat.sub_self]; simp
    rw [e, List.getElem?_map] at h2
    cases ha : vs[i]? with
    | none => rw [ha] at h2; cases h2
    | some a =>
      rw [ha] at h2
      cases h2
      obtain ⟨u, hu, rv⟩ := r.get ha
      have hloc := S.par y (List.mem_of_getElem? h1)
      refine ⟨u, rv, .inl ⟨hloc, ?_⟩⟩
      have h1' : N[i]? = some y := h1
      have hz : (N.zip us)[i]? = some (y, u) := by
        exact List.getElem?_zip_eq_some.mpr ⟨h1', hu⟩
      have hm : (y, u) ∈ (N.zip us).reverse := List.mem_reverse.mpr (List.mem_of_getElem? hz)
      refine lk_mem ?_ hm
      rw [List.map_reverse]
      refine (List.reverse_perm _).nodup_iff.mpr ?_
      have hlen : N.length ≤ us.length := by rw [← r.length, hl]; exact Nat.le_refl _
      have e2 : (N.zip us).map (·.1) = N := List.map_fst_zip hlen
      rw [e2]
      exact S.nd
  · obtain ⟨_, rfl⟩ := cells y c h
    exact ⟨v0, ⟨cl, cld, .cell v0, csl⟩, hk _ _ (e0.bs _ _ hbc).1, rfl⟩
  · obtain ⟨_, rfl⟩ := cells y c h
    exact (e0.bs _ _ hbc).2
  · unfold L2.start
    show _ = N.length
    rw [List.length_append, List.length_map, List.length_replicate]
    omega
/-- what the written part says of super() in the __init__ at f of the class at C -/
structure SupT (P : Program) (K : PySem.W.Frag) (mg : Str → Option Value) (C f cda cc : Addr) : Prop where
  cell : ∃ cl cld csl, K.lookup cc = some ⟨cl, cld, .cell (some (.ref C)), csl⟩
  code : ∃ ccl cdd vs ccs file tf, K.lookup cda = some ⟨ccl, cdd, .fields vs, ccs⟩ ∧ vs[2]? = some (.str file tf) ∧ ((P.main.file : Str) == file) = true
  sup : mg "super" = none
  top : (P.main.scope.names.lookup ("super" : Str)).isSome = false
  mro : PySem.W.mroIn K C (.ref C) = some true
  ve : PySem.W.mroIn K C (.type "ValueError") = some true
  along : PySem.W.ks_superIn K C C "__init__" = some (some (.builtin "ValueError.__init__"))
  opq : PySem.W.nsIn K cStatics "thirdparty.any" = some none
theorem meth_formS {o : Expr} {m : Str} {apos pos : Pos} {es : List Expr} {env : Env} (hl : (apos.endLine == pos.line) = true) (hst : ∀ e ∈ es, noStar e = true) (hn : es.length < 20) :
    eval (.Call (.Attribute o m apos) es [] pos) env = (do
      let ov ← attributeBase o m env (eval o env)
      standAt apos.atName
      let (f, first) ← holding [ov] (getMethod ov m (do return (← importBound o env).getD true))
      callWith pos f first (backTo pos (starEach es env)) []) := by
  have hf : methodCallForm (es.length + ([] : List Keyword).length) (backTo pos (starEach es env)) (backToKw pos (keywordEach [] env)) = true := by
    unfold methodCallForm
    rw [star_all hst]
    show (true && true && decide (es.length + 0 + 0 < 30)) = true
    simp; omega
  have e : eval (.Call (.Attribute o m apos) es [] pos) env = (do
    let ov ← attributeBase o m env (eval o env)
    standAt apos.atName
    methodCall o m apos pos env ov (es.length + ([] : List Keyword).length) (backTo pos (starEach es env)) (backToKw pos (keywordEach [] env))) := by
    rw [arm_eval_Call]
  rw [e]
  unfold methodCall
  rw [hf]
  unfold calleeOf methodCallPos
  simp only [if_true, Bool.not_true, Bool.false_or, hl]
  rfl
theorem super_init {X : Cx} {qual : Str} {scope : Scope} {L f cda cc C a : Addr} {body : List Stmt} {fd : FuncData} {ar : Arg} {pins : List (Addr × Obj)} {σ : L2.St} {H : Hp} {s : Shared} {msg : Expr} {ta : TA} {Qn : Hp → Prop} {p0 p1 p2 p3 p4 : Pos} {oc : Value} {od : Option Addr} {osl : Array (Option Value)}
    (hX : X.env = PySem.W.ksEnv qual scope L f (.ref cda) cc) (T : SupT X.prog X.K X.mg C f cda cc) (O : OexC X.K C) (lk : X.K.lookup f = some ⟨oc, od, .func fd, osl⟩) (hp : (fd.params.posonlyargs ++ fd.params.args).head? = some ar)
    (hk : scope.kind = .function) (hks : scope.names.lookup ("super" : Str) = some .globalImplicit) (hkc : scope.names.lookup ("__class__" : Str) = some .free) (hka : scope.names.lookup ar.arg = some .local)
    (I : Inv X pins σ H s) (ea : H a = some (exo a C none)) (hN : X.N[0]? = some ar.arg) (h0 : σ[0]? = some (some (.ref a))) (hl : (p2.endLine == p3.line) = true) (hst : noStar msg = true)
    (hm : PA X [msg] ta) (q : ta σ H fun vs H1 => vs.length ≤ 1000 ∧ H1 a = some (exo a C none) ∧ Qn H1) :
    _root_.PySem.wpAt (model X.prog X.w) X.A (.func body X.env) (exec (.Expr (.Call (.Attribute (.Call (.Name "super" p0) [] [] p1) "__init__" p2) [msg] [] p3) p4) X.env) (fun fl s' => fl = .next ∧ ∃ H1, Inv X pins σ H1 s' ∧ Qn H1) X.xe s := by
  have hq : interactive X.env = false := I.quiet
  refine PySem.ks_wpAt_Expr_any ?_ hq (by first | rfl | exact swaps_not rfl _ _ _)
  refine PySem.ks_wpAt_MethodCall (pl := (do return (← importBound (.Call (.Name "super" p0) [] [] p1) X.env).getD true)) ?_ (meth_formS hl (fun e he => by cases List.mem_singleton.mp he; exact hst) (by simp))
  obtain ⟨ccl, cdd, cvs, ccs, file, tf, hcode, hvs, hfile⟩ := T.code
  obtain ⟨cl, cld, csl, hcell⟩ := T.cell
  obtain ⟨nm, qn, N, bs, bm, sn, sub, ab, col, dd, k0, k1, k2, k3, k5, hC, hbm⟩ := O.cls
  have KX := I.kIn
  obtain ⟨t1, hoa⟩ := exo_at I.hok ea
  have hcls : PySem.W.clsIn X.K C = some { name := nm, bases := bs, mro := .ref C :: bm, ns := N, qualname := qn, hasDict := true, slotNames := sn, subclasses := sub, abstract := ab, collection := col, hasDel := false } := by unfold PySem.W.clsIn; rw [hC] <;> rfl
  have hal : PySem.W.alongIn X.K "__init__" (((Value.ref C :: bm).dropWhile (· != .ref C)).drop 1) = some (some (.builtin "ValueError.__init__")) := by
    have := T.along
    unfold PySem.W.ks_superIn at this
    rw [hcls] at this
    exact this
  have hD1 := KX _ _ hC
  rw [hX]
  refine PySem.ks_wpAt_super_base (env := PySem.W.ksEnv qual scope L f (.ref cda) cc) hks hkc (by decide) rfl (KX _ _ lk) rfl hp rfl (KX _ _ hcode) rfl hvs hfile T.top ?_
  obtain ⟨mb, hb1, hb2⟩ := I.mod.blt
  refine PySem.W.ks_loadName_global hk hks (Calls.loadGlobal_builtin (env := PySem.W.ksEnv qual scope L f (.ref cda) cc) (I.mod.glob.keeps I.bk) T.sup (hb1.keeps I.bk) ((hb2 _ (by decide)).trans (by first | rfl | kernel_rfl | decide +kernel)) ⟨rfl, ?_⟩)
  refine wpAny_loadName_free hk hkc rfl ⟨_, KX _ _ hcell, rfl⟩ ?_
  obtain ⟨m, hns, hloc⟩ := id I.loc
  rw [hX] at hns hloc
  obtain ⟨u, ru, lu⟩ := hloc 0 ar.arg (.ref a) hN h0 (.inl hka)
  obtain rfl : u = Value.ref a := ru
  have hma : m ar.arg = some (.ref a) := by
    rcases lu with ⟨_, e⟩ | ⟨k, _⟩
    · exact e
    · rcases k with k | k
      · have k : scope.names.lookup ar.arg = some .cell := k
        rw [hka] at k; cases k
      · have k : scope.names.lookup ar.arg = some .free := k
        rw [hka] at k; cases k
  refine wpAny_loadName_local hk hka hns hma ?_
  refine PySem.ks_wpAny_isType_cls hD1 rfl ⟨rfl, ?_⟩
  obtain ⟨hh, g, d, t, os⟩ := s
  refine PySem.ks_wpAny_call_super hD1 rfl hoa rfl (fun c e => by cases e) (PySem.W.looks_mroIn KX T.mro) (fun h' e k => ?_)
  -- getMethod
  have I1 : Inv X pins σ H ⟨h', g, d, t, os⟩ := I.kept (t' := t) k
  have KX1 := I1.kIn
  have hxC : a ≠ C := fun z => by
    have := k _ _ hoa
    rw [z, KX1 _ _ hC] at this
    cases this
  have ins : PySem.W.InstAt h' a ({ cls := .ref C, dict := none, data := .fields #[.ref t1, .none, .none, .none, .bool false, .none] } : Obj) C none := ⟨k _ _ hoa, rfl, rfl, trivial⟩
  refine MiX.getMethod_super e (PySem.W.looks_opaque KX1 T.opq) (l₀ := .ref C :: bm) (fun A Q E s k q => wpAny_bind ((PySem.W.looks_clsIn KX1 hcls) A _ E s k (wpAny_pure q))) rfl KX1 hal hxC (by decide) (ins.type.andThen (PySem.W.looks_mroIn KX1 T.ve)) ?_
  -- the call
  have I2 : Inv X pins σ H ⟨h'.push (MiX.bw a), g, d, t + 1, os⟩ := I1.kept (t' := t + 1) fun b o e => Heap.get?_push_of_some _ e
  have hu : (h'.push (MiX.bw a)).get? h'.objs.size = some (MiX.bw a) := Heap.get?_push_size _ rfl
  have hf2 : ∀ b ∈ [h'.objs.size], FpOk X pins H b := fun b hb => by
    have e : b = h'.objs.size := by simpa using hb
    subst e
    exact I1.fpOk (Nat.le_refl _) (I1.hok.fresh (Nat.le_refl _))
  have I3 := I2.pinned (fp := [h'.objs.size]) hf2 (fun b hb => by
    have e : b = h'.objs.size := by simpa using hb
    subst e
    exact ⟨_, hu, fun v z => by cases z⟩)
  refine MiX.callWith_bound (x := a) ?_ (by rw [← hX]; exact star_cons hst [] X.env) (by rfl)
  rw [← hX]
  refine thn (hm.run p3 _ _ σ H _ I3 q) fun us s2 hus => ?_
  obtain ⟨vs, H1, I4, r4, hlen, ea1, qn1⟩ := hus
  have hpin := (I4.pin (h'.objs.size, MiX.bw a) (List.mem_append_right _ (List.mem_append_right _ (mem_pinsAt (List.mem_singleton.mpr rfl) hu)))).1
  have I5 : Inv X pins σ H1 s2 := I4.unpinned
  refine ⟨hpin, ?_⟩
  obtain ⟨h2, g2, d2, t2, os2⟩ := s2
  obtain ⟨t3, hoa3⟩ := exo_at I5.hok ea1
  have hul : ([] ++ us).length ≤ sizeLine := by
    rw [List.nil_append, ← Paired.length r4, sizeLine_eq]
    omega
  refine MiX.call_bw (I5.kIn _ _ hC) hoa3 hpin hul fun h3 t4 k3 hx3 => ?_
  have J := I5.write (t' := t2) (x := a) (e := a) (o := exo a C none) (by rw [ea1]; exact True.intro) (.inl rfl) k3 ⟨_, hx3⟩ (exo_ok hx3)
  have eu : upd H1 a (exo a C none) = H1 := by
    funext b
    by_cases hb : b = a
    · rw [hb, upd_same, ea1]
    · rw [upd_ne hb]
  rw [eu] at J
  exact ⟨rfl, H1, J, qn1⟩
end Mi
set_option maxHeartbeats 4000000
set_option autoImplicit false
namespace Mi
open PySem PySem.Spec PyProof.Rows L2
/-! ## the __init__ of an own error: super().__init__(text), then the fields -/
/-- a field's value: as it is | as a tuple -/
def tvX (K : PySem.W.Frag) (b : Bool) (v : V) (H : Hp) (Q : V → Hp → Prop) : Prop := match b with
  | false => Q v H
  | true => ∃ p ys, v = .ref p ∧ ((SqL K H p ys ∧ ∀ l (ob : Obj), H l = none → ob.dict = none → Q (.ref l) (upd H l (.frz ob (.tup ys)))) ∨ (SqT K H p ys ∧ Q (.ref p) H))
abbrev XS := Option (Addr × List (Str × V))
def atX (a C : Addr) (s : XS) (H : Hp) : Prop := match s with
  | none => H a = some (exo a C none)
  | some (d, fs) => H a = some (exo a C (some d)) ∧ H d = some (exd d fs) ∧ fs.length ≤ 900 ∧ d ≠ a
def stX (K : PySem.W.Frag) (a C : Addr) : List (Str × Bool) → List V → XS → Hp → (XS → Hp → Prop) → Prop
  | (f, b) :: r, v :: vs, s, H, Q => tvX K b v H fun y H1 => (match s with
    | none => ∀ dx, H1 dx = none → dx ≠ a → stX K a C r vs (some (dx, [(f, y)])) (upd (upd H1 dx (exd dx [(f, y)])) a (exo a C (some dx))) Q
    | some (dx, fs) => stX K a C r vs (some (dx, (f, y) :: fs)) (upd H1 dx (exd dx ((f, y) :: fs))) Q)
  | _, _, s, H, Q => Q s H
def asFS : Stmt → Option (Str × Str × Expr)
  | .Assign [.Attribute (.Name x _) g _] e _ => some (x, g, e)
  | _ => none
theorem asFS_of {st : Stmt} {x g : Str} {e : Expr} (h : asFS st = some (x, g, e)) : ∃ p1 p2 p3, st = .Assign [.Attribute (.Name x p1) g p2] e p3 := by
  unfold asFS at h
  split at h
  · cases h; exact ⟨_, _, _, rfl⟩
  · cases h
def chkV (N : List Str) (sc : Scope) (k : Nat) (b : Bool) (e : Expr) : Bool := match b with
  | false => (match asName e with
    | some p => decide (N[k]? = some p) && okName p
    | none => false)
  | true => (match asCall e with
    | some (t, [y]) => decide (t = ("tuple" : Str)) && (glB sc t && (match asName y with
      | some p => decide (N[k]? = some p) && okName p
      | none => false))
    | _ => false)
/-- self.f = p | self.f = tuple(p) -/
def chkF (N : List Str) (sc : Scope) : List (Str × Bool) → Nat → List Stmt → Bool
  | [], _, ss => ss.isEmpty
  | (_, _) :: _, _, [] => false
  | (f, b) :: r, k, st :: ss => (match asFS st with
    | some (x, g, e) => decide (N[0]? = some x) && (okName x && (decide (g = f) && (chkV N sc k b e && chkF N sc r (k + 1) ss)))
    | none => false)
def strLen (t : Str) : Bool := decide (t.length ≤ 1000)
/-- the text: a constant | with the first argument, an int, in it -/
def chkM (N : List Str) (mi : Bool) (e : Expr) : Bool := match mi, e with
  | false, .Constant (.str _) _ _ => true
  | true, .JoinedStr [.FormattedValue (.Name x _) (-1) none _, .Constant (.str t) _ _] _ => decide (N[1]? = some x) && (okName x && strLen t)
  | true, .JoinedStr [.Constant (.str t) _ _, .FormattedValue (.Name x _) (-1) none _] _ => decide (N[1]? = some x) && (okName x && strLen t)
  | _, _ => false
section
variable {X : Cx} {N : List Str} {sc : Scope} {a C : Addr}
theorem ost_ne {H : Hp} {l : Addr} {s : XS} {o : HO} (h : atX a C s H) (hl : H l = none) : atX a C s (upd H l o) := by
  cases s with
  | none =>
    have h : H a = some (exo a C none) := h
    show upd H l o a = _
    rw [upd_ne (ne_of_none h hl)]; exact h
  | some p =>
    obtain ⟨d, fs⟩ := p
    obtain ⟨h1, h2, h3, h4⟩ := h
    exact ⟨by rw [upd_ne (ne_of_none h1 hl)]; exact h1, by rw [upd_ne (ne_of_none h2 hl)]; exact h2, h3, h4⟩
theorem tvX_run {b : Bool} {v : V} {H : Hp} {Q : V → Hp → Prop} {s : XS} (h : tvX X.K b v H Q) (ha : atX a C s H) : tvX X.K b v H (fun y H1 => atX a C s H1 ∧ Q y H1) := by
  cases b with
  | false => exact ⟨ha, h⟩
  | true =>
    obtain ⟨p, ys, e, h⟩ := h
    refine ⟨p, ys, e, ?_⟩
    rcases h with ⟨h1, h2⟩ | ⟨h1, h2⟩
    · exact .inl ⟨h1, fun l ob hl hd => ⟨ost_ne ha hl, h2 l ob hl hd⟩⟩
    · exact .inr ⟨h1, ha, h2⟩
theorem pss_fields (hsc : X.env.scope = sc) (hN : X.N = N) (O : OexC X.K C) (hbt : X.mg "tuple" = none) (hvis : ∀ x ∈ N, sc.names.lookup x = some .local) :
    ∀ (fl : List (Str × Bool)) (k : Nat) (ss : List Stmt), chkF N sc fl k ss = true → (∀ p ∈ fl, PySem.W.findIn X.K (.ref C) p.1 = some none) → k + fl.length ≤ 100 →
      PSs X ss (fun D σ H => ∃ (vs : List V) (s : XS), vs.length = fl.length ∧ atX a C s H ∧ (∀ d fs, s = some (d, fs) → fs.length ≤ k) ∧ σ[0]? = some (some (V.ref a)) ∧ (∀ j v, vs[j]? = some v → σ[k + j]? = some (some v)) ∧ stX X.K a C fl vs s H (fun _ H' => D.nx σ H'))
  | [], k, ss, h, _, _ => by
    cases ss with
    | cons _ _ => unfold chkF at h; cases h
    | nil =>
      refine PSs.mono pss_nil fun D σ H q => ?_
      obtain ⟨vs, s, hl, ha, hf, h0, hv, q⟩ := q
      cases vs with
      | nil => exact q
      | cons _ _ => cases hl
  | (f, b) :: r, k, ss, h, hno, hk => by
    cases ss with
    | nil => unfold chkF at h; cases h
    | cons st ss =>
      unfold chkF at h
      cases qs : asFS st with
      | none => rw [qs] at h; cases h
      | some kk =>
        obtain ⟨x, g, e⟩ := kk
        rw [qs] at h
        obtain ⟨p1, p2, p3, rfl⟩ := asFS_of qs
        simp only [Bool.and_eq_true, decide_eq_true_eq] at h
        obtain ⟨h1, h2, rfl, h3, h4⟩ := h
        have ih := pss_fields hsc hN O hbt hvis r (k + 1) ss h4 (fun p hp => hno p (List.mem_cons_of_mem _ hp)) (by simp only [List.length_cons] at hk; omega)
        have var : ∀ {y : Str} {i : Nat} {p : Pos}, N[i]? = some y → okName y = true → PE X (.Name y p) (tVar i) := fun {y i p} hy ho => by
          obtain ⟨o1, o2, _⟩ := okName_of ho
          exact pe_var (by rw [hN]; exact hy) (.inl (by show X.env.scope.names.lookup y = _; rw [hsc]; exact hvis y (List.mem_of_getElem? hy))) o1 o2
        have key : ∀ (te : TE), PE X e te → isComp e = false → (∀ σ H (Q : V → Hp → Prop) v, σ[k]? = some (some v) → tvX X.K b v H Q → te σ H Q) → PSs X (.Assign [.Attribute (.Name x p1) g p2] e p3 :: ss) (fun D σ H => ∃ (vs : List V) (s : XS), vs.length = ((g, b) :: r).length ∧ atX a C s H ∧ (∀ d fs, s = some (d, fs) → fs.length ≤ k) ∧ σ[0]? = some (some (V.ref a)) ∧ (∀ j v, vs[j]? = some v → σ[k + j]? = some (some v)) ∧ stX X.K a C ((g, b) :: r) vs s H (fun _ H' => D.nx σ H')) := by
          intro te he hc ht
          refine PSs.mono (pss_cons (ps_ost (var h1 h2) he (swaps_not hc _ _ _)) ih) fun D σ H q => ?_
          obtain ⟨vs, s, hl, ha, hf, h0, hv, q⟩ := q
          cases vs with
          | nil => cases hl
          | cons v vs =>
            have hvk := hv 0 v rfl
            refine ht σ H _ v (by simpa using hvk) ?_
            unfold stX at q
            have q := tvX_run (C := C) q ha
            have mono : ∀ {Q Q' : V → Hp → Prop}, (∀ y H, Q y H → Q' y H) → tvX X.K b v H Q → tvX X.K b v H Q' := fun {Q Q'} hq h => by
              cases b with
              | false => exact hq _ _ h
              | true =>
                obtain ⟨p, ys, e, h⟩ := h
                exact ⟨p, ys, e, h.imp (fun z => ⟨z.1, fun l ob z1 z2 => hq _ _ (z.2 l ob z1 z2)⟩) fun z => ⟨z.1, hq _ _ z.2⟩⟩
            refine mono (fun y H1 z => ?_) q
            obtain ⟨ha1, z⟩ := z
            refine ⟨_, h0, a, C, rfl, O, hno (g, b) List.mem_cons_self, ?_⟩
            have nxt : ∀ (j : Nat) (w : V), vs[j]? = some w → σ[k + 1 + j]? = some (some w) := fun j w e => by
              have := hv (j + 1) w (by simpa using e)
              rw [show k + 1 + j = k + (j + 1) by omega]
              exact this
            cases s with
            | none =>
              refine .inl ⟨ha1, fun dx n1 n2 => ⟨vs, some (dx, [(g, y)]), by simpa using hl, ⟨upd_same, ?_, ?_, n2⟩, fun d fs e => ?_, h0, nxt, z dx n1 n2⟩⟩
              · rw [upd_ne n2, upd_same]
              · show 1 ≤ 900
                decide
              · cases e
                show 1 ≤ k + 1
                omega
            | some p =>
              obtain ⟨dx, fs⟩ := p
              obtain ⟨a1, a2, a3, a4⟩ := ha1
              have hfl := hf dx fs rfl
              refine .inr ⟨dx, fs, a1, a2, a3, vs, some (dx, (g, y) :: fs), by simpa using hl, ⟨?_, upd_same, ?_, a4⟩, fun d fs' e => ?_, h0, nxt, z⟩
              · rw [upd_ne (Ne.symm a4)]
                exact a1
              · simp only [List.length_cons] at hk ⊢
                omega
              · cases e
                simp only [List.length_cons]
                omega
        unfold chkV at h3
        cases b with
        | false =>
          dsimp only at h3
          cases e with
          | Name y p =>
            simp only [asName, Bool.and_eq_true, decide_eq_true_eq] at h3
            exact key _ (var h3.1 h3.2) rfl fun σ H Q v hv q => ⟨v, hv, q⟩
          | _ => cases h3
        | true =>
          dsimp only at h3
          cases q : asCall e with
          | none => rw [q] at h3; cases h3
          | some kk =>
            obtain ⟨t, es⟩ := kk
            rw [q] at h3
            obtain ⟨pt, pc, rfl⟩ := asCall_of q
            cases es with
            | nil => cases h3
            | cons y es =>
              cases es with
              | cons _ _ => cases h3
              | nil =>
                simp only [Bool.and_eq_true, decide_eq_true_eq] at h3
                obtain ⟨rfl, h5, h6⟩ := h3
                cases y with
                | Name y py =>
                  simp only [asName, Bool.and_eq_true, decide_eq_true_eq] at h6
                  obtain ⟨h6, h7⟩ := h6
                  have hg : Gl X "tuple" := by
                    unfold glB at h5
                    simp only [Bool.and_eq_true, decide_eq_true_eq] at h5
                    show X.env.scope.names.lookup _ = _
                    rw [hsc]; exact h5.1
                  have pe : PE X (.Call (.Name "tuple" pt) [.Name y py] [] pc) _ := pe_callTy call_tupleF hg hbt (by first | rfl | kernel_rfl | decide +kernel) (pa_cons (var h6 h7) pa_nil)
                  refine key _ pe rfl fun σ H Q v hv q => ?_
                  obtain ⟨p, ys, e, q⟩ := q
                  exact ⟨v, hv, p, ys, by rw [e], q⟩
                | _ => cases h6
end
end Mi
set_option maxHeartbeats 4000000
set_option autoImplicit false
namespace Mi
open PySem PySem.Spec PyProof.Rows L2
section
variable {X : Cx} {N : List Str} {sc : Scope} {a C : Addr}
theorem len_empty : (Str.empty).length = 0 := rfl
theorem pa_msg (hN : X.N = N) (hsc : X.env.scope = sc) (hvis : ∀ x ∈ N, sc.names.lookup x = some .local) {mi : Bool} {e : Expr} (h : chkM N mi e = true) :
    noStar e = true ∧ ∃ ta, PA X [e] ta ∧ ∀ (σ : L2.St) (H : Hp) (Q : Hp → Prop), (mi = true → ∃ i : Int, σ[1]? = some (some (V.int i)) ∧ i.natAbs.log2 < 1920) → Q H → ta σ H (fun vs H1 => vs.length ≤ 1000 ∧ Q H1) := by
  have var : ∀ {y : Str} {i : Nat} {p : Pos}, N[i]? = some y → okName y = true → PE X (.Name y p) (tVar i) := fun {y i p} hy ho => by
    obtain ⟨o1, o2, _⟩ := okName_of ho
    exact pe_var (by rw [hN]; exact hy) (.inl (by show X.env.scope.names.lookup y = _; rw [hsc]; exact hvis y (List.mem_of_getElem? hy))) o1 o2
  have fits : ∀ {i : Int}, i.natAbs.log2 < 1920 → (Str.ofString (toString i)).length ≤ 1921 := fun {i} hi => by
    have e := int_text_length_le (k := 1920) (by decide) hi
    rw [PySem.ofString_length]
    exact e
  unfold chkM at h
  split at h
  · refine ⟨rfl, _, pa_cons pe_str pa_nil, fun σ H Q _ q => ?_⟩
    exact ⟨by show 1 ≤ 1000; decide, q⟩
  · rename_i x _ _ t _ _ _
    simp only [Bool.and_eq_true, decide_eq_true_eq, strLen] at h
    obtain ⟨h1, h2, h3⟩ := h
    refine ⟨rfl, _, pa_cons (pe_joined (.cons (pe_fmt (var h1 h2)) (.cons pe_str .nil))) pa_nil, fun σ H Q hm q => ?_⟩
    obtain ⟨i, hi, hl⟩ := hm rfl
    refine ⟨_, hi, .inr ⟨i, rfl, hl, _, rfl, ?_, _, rfl, ?_, ?_⟩⟩
    · have := fits hl
      rw [Str.length_append, len_empty, sizeLine_eq]; omega
    · have := fits hl
      rw [Str.length_append, Str.length_append, len_empty, sizeLine_eq]; omega
    · exact ⟨by show 1 ≤ 1000; decide, q⟩
  · rename_i t _ _ x _ _ _
    simp only [Bool.and_eq_true, decide_eq_true_eq, strLen] at h
    obtain ⟨h1, h2, h3⟩ := h
    refine ⟨rfl, _, pa_cons (pe_joined (.cons pe_str (.cons (pe_fmt (var h1 h2)) .nil))) pa_nil, fun σ H Q hm q => ?_⟩
    obtain ⟨i, hi, hl⟩ := hm rfl
    refine ⟨_, rfl, ?_, _, hi, .inr ⟨i, rfl, hl, _, rfl, ?_, ?_⟩⟩
    · rw [Str.length_append, len_empty, sizeLine_eq]; omega
    · have := fits hl
      rw [Str.length_append, Str.length_append, len_empty, sizeLine_eq]; omega
    · exact ⟨by show 1 ≤ 1000; decide, q⟩
  · cases h
end
/-- what __init__ promises -/
def spI (K : PySem.W.Frag) (C : Addr) (fl : List (Str × Bool)) (mi : Bool) : Sp := fun vs H Q _ => vs.length = fl.length + 1 ∧ ∃ (a : Addr) (args : List V), vs = .ref a :: args ∧ H a = some (exo a C none) ∧
  (mi = true → ∃ (i : Int) (r : List V), args = .int i :: r ∧ i.natAbs.log2 < 1920) ∧ stX K a C fl args none H (fun s H' => atX a C s H' → Q .non H')
theorem stX_at {K : PySem.W.Frag} {a C : Addr} {Q Q' : XS → Hp → Prop} : ∀ (fl : List (Str × Bool)) (vs : List V) (s : XS) (H : Hp), (∀ s H, Q s H → Q' s H) → stX K a C fl vs s H Q → stX K a C fl vs s H Q'
  | [], vs, s, H, k, h => by unfold stX at h ⊢; exact k s H h
  | (f, b) :: r, [], s, H, k, h => by unfold stX at h ⊢; exact k s H h
  | (f, b) :: r, v :: vs, s, H, k, h => by
    unfold stX at h ⊢
    have mono : ∀ {R R' : V → Hp → Prop}, (∀ y H, R y H → R' y H) → tvX K b v H R → tvX K b v H R' := fun {R R'} hq h => by
      cases b with
      | false => exact hq _ _ h
      | true =>
        obtain ⟨p, ys, e, h⟩ := h
        exact ⟨p, ys, e, h.imp (fun z => ⟨z.1, fun l ob z1 z2 => hq _ _ (z.2 l ob z1 z2)⟩) fun z => ⟨z.1, hq _ _ z.2⟩⟩
    refine mono (fun y H1 z => ?_) h
    cases s with
    | none => exact fun dx n1 n2 => stX_at r vs _ _ k (z dx n1 n2)
    | some p => exact stX_at r vs _ _ k z
/-- the state of the error goes along -/
theorem stX_with {K : PySem.W.Frag} {a C : Addr} {Q : XS → Hp → Prop} : ∀ (fl : List (Str × Bool)) (vs : List V) (s : XS) (H : Hp) (n : Nat), atX a C s H → (∀ d fs, s = some (d, fs) → fs.length ≤ n) → n + fl.length + 1 ≤ 900 → stX K a C fl vs s H (fun s H => atX a C s H → Q s H) → stX K a C fl vs s H Q
  | [], vs, s, H, n, ha, hf, hn, h => by unfold stX at h ⊢; exact h ha
  | (f, b) :: r, [], s, H, n, ha, hf, hn, h => by unfold stX at h ⊢; exact h ha
  | (f, b) :: r, v :: vs, s, H, n, ha, hf, hn, h => by
    unfold stX at h ⊢
    have mono : ∀ {R R' : V → Hp → Prop}, (∀ y H, R y H → R' y H) → tvX K b v H R → tvX K b v H R' := fun {R R'} hq h => by
      cases b with
      | false => exact hq _ _ h
      | true =>
        obtain ⟨p, ys, e, h⟩ := h
        exact ⟨p, ys, e, h.imp (fun z => ⟨z.1, fun l ob z1 z2 => hq _ _ (z.2 l ob z1 z2)⟩) fun z => ⟨z.1, hq _ _ z.2⟩⟩
    have wth : ∀ {R : V → Hp → Prop}, tvX K b v H R → tvX K b v H (fun y H1 => atX a C s H1 ∧ R y H1) := fun {R} h => by
      cases b with
      | false => exact ⟨ha, h⟩
      | true =>
        obtain ⟨p, ys, e, h⟩ := h
        exact ⟨p, ys, e, h.imp (fun z => ⟨z.1, fun l ob z1 z2 => ⟨ost_ne ha z1, z.2 l ob z1 z2⟩⟩) fun z => ⟨z.1, ha, z.2⟩⟩
    refine mono (fun y H1 z => ?_) (wth h)
    obtain ⟨ha1, z⟩ := z
    simp only [List.length_cons] at hn
    cases s with
    | none =>
      refine fun dx n1 n2 => stX_with r vs _ _ (n + 1) ⟨upd_same, ?_, by show 1 ≤ 900; decide, n2⟩ (fun d fs e => ?_) (by omega) (z dx n1 n2)
      · rw [upd_ne n2, upd_same]
      · cases e
        show 1 ≤ n + 1
        omega
    | some p =>
      obtain ⟨dx, fs⟩ := p
      obtain ⟨a1, a2, a3, a4⟩ := ha1
      have hfl := hf dx fs rfl
      refine stX_with r vs _ _ (n + 1) ⟨?_, upd_same, ?_, a4⟩ (fun d fs' e => ?_) (by omega) z
      · rw [upd_ne (Ne.symm a4)]
        exact a1
      · simp only [List.length_cons]
        omega
      · cases e
        simp only [List.length_cons]
        omega
/-- what the written part says of an own error's class x at C, its __init__ at f -/
structure XTxt (P : Program) (K : PySem.W.Frag) (mg : Str → Option Value) (C f cda cc : Addr) (x : Str) (N : List Str) (fl : List (Str × Bool)) (mi : Bool) (fd : FuncData) : Prop where
  oex : OexC K C
  sup : SupT P K mg C f cda cc
  gC : mg x = some (.ref C)
  iC : PySem.W.findIn K (.ref C) "__init__" = some (some (.ref f))
  tI : PySem.W.typeIn K (.ref f) = some (.type "function")
  fld : ∀ p ∈ fl, PySem.W.findIn K (.ref C) p.1 = some none
  tup : mg "tuple" = none
  len : N.length = fl.length + 1
  few : fl.length ≤ 50
  bnd : Binds K fd N []
  fn : ∃ (name qual : Str) (params : Arguments) (scope : Scope) (dV kV doc pm : Value) (an : Option Addr) (ct oc : Value) (od : Option Addr) (osl : Array (Option Value)) (msg : Expr) (rest : List Stmt) (p0 p1 p2 p3 p4 : Pos) (ar : Arg),
    fd = PySem.W.ksFn name qual params (.Expr (.Call (.Attribute (.Call (.Name "super" p0) [] [] p1) "__init__" p2) [msg] [] p3) p4 :: rest) scope dV kV doc pm an (.ref cda) ct cc ∧
    K.lookup f = some ⟨oc, od, .func fd, osl⟩ ∧ PySem.W.codeIn K (.ref cda) qual = true ∧ ScS N scope ∧ scope.names.lookup ("super" : Str) = some .globalImplicit ∧ scope.names.lookup ("__class__" : Str) = some .free ∧
    (params.posonlyargs ++ params.args).head? = some ar ∧ N[0]? = some ar.arg ∧ (p2.endLine == p3.line) = true ∧ chkM N mi msg = true ∧ chkF N scope fl 1 rest = true
theorem ok_init {CX : CXT} {P : Program} {w : World} {K : PySem.W.Frag} {mg : Str → Option Value} {base : Heap} {k : Nat} {C f cda cc : Addr} {x : Str} {N : List Str} {fl : List (Str × Bool)} {mi : Bool} {fd : FuncData} (T : XTxt P K mg C f cda cc x N fl mi fd) :
    FnOk P w K mg base CX (k + 1) f fd N (spI K C fl mi) := by
  obtain ⟨name, qual, params, scope, dV, kV, doc, pm, an, ct, oc, od, osl, msg, rest, p0, p1, p2, p3, p4, ar, rfl, lk, hcd, S, hks, hkc, hp, h0, hl, hm, hf⟩ := T.fn
  refine ⟨fun vs H Q E h => by rw [h.1, T.len], fun A outer s H args us vs Q E hr e0 hb r hsp => ?_⟩
  have hlen : vs.length = N.length := by rw [hsp.1, T.len]
  have KX : K.In s.heap := e0.mod.kin.keeps fun b o e => (e0.bs b o e).1
  have lim : s.heap.NoLimit := e0.mod.nolimit.keeps fun b o e => (e0.bs b o e).1
  refine PySem.ks_codeAny_call_defAt (body := .Expr (.Call (.Attribute (.Call (.Name "super" p0) [] [] p1) "__init__" p2) [msg] [] p3) p4 :: rest) hr.depth (KX _ _ lk) rfl lim (PySem.W.codeRec_of KX hcd) rfl hb S.nocell (fun y hy => ?_) (fun h₀ hns hk => ?_) S.co S.gen S.kind
  · obtain ⟨y, u⟩ := y
    exact S.par y (List.of_mem_zip hy).1
  · obtain ⟨_, a, as, rfl, ea, hmi, hst⟩ := hsp
    have I : Inv (cxS CX P w K mg base N qual scope f (.ref cda) cc A outer s H E) [] (L2.start N (.ref a :: as)) H { s with heap := h₀, toks := s.toks + (N.zip us).length } :=
      inv_startS S hr.hd e0 hlen r (by obtain ⟨cl, cld, csl, h⟩ := T.sup.cell; exact ⟨cl, cld, csl, h⟩) hns hk
    have est : L2.start N (.ref a :: as) = (V.ref a :: as).map some := by unfold L2.start; rw [hlen, Nat.sub_self]; simp
    have hN : (cxS CX P w K mg base N qual scope f (.ref cda) cc A outer s H E).N = N := rfl
    obtain ⟨hns1, ta, hta, hrd⟩ := pa_msg (X := cxS CX P w K mg base N qual scope f (.ref cda) cc A outer s H E) (sc := scope) hN rfl S.par hm
    have hstx := stX_with fl as none H 0 ea (fun d fs e => nomatch e) (by have := T.few; omega) hst
    have fin := pss_fields (X := cxS CX P w K mg base N qual scope f (.ref cda) cc A outer s H E) (a := a) (C := C) (sc := scope) rfl rfl T.oex T.tup S.par fl 1 rest hf T.fld (by have := T.few; omega)
    have hsl : ∀ j v, as[j]? = some v → (L2.start N (.ref a :: as))[1 + j]? = some (some v) := fun j v e => by
      rw [est, List.getElem?_map, show 1 + j = j + 1 by omega, List.getElem?_cons_succ, e]; rfl
    refine PySem.ks_wpAt_execs_cons (PySem.wpAt_mono (super_init (X := cxS CX P w K mg base N qual scope f (.ref cda) cc A outer s H E) (C := C) (a := a) (Qn := fun H1 => H1 = H) rfl T.sup T.oex lk hp S.kind hks hkc (S.par _ (List.mem_of_getElem? h0)) I ea h0 (by rw [est]; rfl) hl hns1 hta (hrd _ H (fun H1 => H1 a = some (exo a C none) ∧ H1 = H) (fun e => ?_) ⟨ea, rfl⟩)) (fun flw s' hs => ?_) fun _ _ z => z)
    · obtain ⟨i, rr, e1, e2⟩ := hmi e
      subst e1
      exact ⟨i, hsl 0 _ rfl, e2⟩
    · obtain ⟨rfl, H1, I1, rfl⟩ := hs
      refine PySem.wpAt_of_wpAny ?_
      refine wpAny_mono (fin.run [] s' (L2.start N (.ref a :: as)) H1 { nx := fun _ H' => Q .non H', rt := Q } I1 ⟨as, none, by simpa [T.len] using hlen, ea, (fun d fs e => nomatch e), by rw [est]; rfl, hsl, hstx⟩) (fun fl2 s2 hs2 => ?_) fun _ _ z => z
      have fin2 : ∀ {σ' : L2.St} {H' : Hp} {v : V} {u : Value}, Inv (cxS CX P w K mg base N qual scope f (.ref cda) cc A outer s H1 E) [] σ' H' s2 → RelV v u → Q v H' → CE outer P w H1 s Q u s2 :=
        fun {σ' H' v u} J rv q => ⟨v, H', J.os, J.bare, J.base, J.hok, rv, q⟩
      cases fl2 with
      | ret u =>
        obtain ⟨v, σ', H', J, rv, q⟩ := hs2
        exact fin2 J rv q
      | next =>
        obtain ⟨σ', H', J, q⟩ := hs2
        exact fin2 (v := V.non) (u := Value.none) J rfl q
      | brk =>
        obtain ⟨_, _, _, q⟩ := hs2
        exact False.elim q
      | cont =>
        obtain ⟨_, _, _, q⟩ := hs2
        exact False.elim q
end Mi
set_option maxHeartbeats 4000000
set_option autoImplicit false
namespace Mi
open PySem PySem.Spec PyProof.Rows L2
/-! ## an own error is made and raised -/
section
variable {X : Cx}
/-- the end where it has no fields -/
theorem mk_endN {pins : List (Addr × Obj)} {σ : L2.St} {H1 H2 : Hp} {Q : XK} {hp hp2 h2 : Heap} {g1 g2 : Array GenState} {d1 d2 : Drawn} {t1 t2 : Nat} {os1 os2 : OsState} {a C : Addr} (T : Raises X (.ref C)) (I1 : Inv X pins σ H1 ⟨hp, g1, d1, t1, os1⟩)
    (ha : hp.objs.size ≤ a) (k : ∀ b o, hp.get? b = some o → hp2.get? b = some o) (un : Un (frs X.stack) [] (upd H1 a (exo a C none)) H2 hp2 h2) (hok : HOk X.prog X.w H2 h2) (ho : os2 = os1) (hb : AllBare g2)
    (ea : H2 a = some (exo a C none)) (q : Q (.ref C) none (del H2 a)) : MkP X pins σ Q (.ref a) ⟨h2, g2, d2, t2, os2⟩ := by
  obtain ⟨t0, hoe⟩ := exo_at hok ea
  have hn : H1 a = none := I1.hok.fresh ha
  obtain ⟨G, g1', g2'⟩ := restrict h2 fun b => decide (b ≠ a)
  have gk : ∀ b, b ≠ a → G.get? b = h2.get? b := fun b hb => g1' b (decide_eq_true hb)
  have ge : G.get? a = none := g2' a (by simp)
  have nha : ∀ {b : Addr} {o : Obj}, hp.get? b = some o → b ≠ a := fun {b o} z => Nat.ne_of_lt (Nat.lt_of_lt_of_le (Heap.lt_size z) ha)
  have up : ∀ {b : Addr}, b ≠ a → H1 b = none → upd H1 a (exo a C none) b = none := fun {b} hb n => by rw [upd_ne hb]; exact n
  have U : Un (frs X.stack) [] H1 (del H2 a) hp G := {
    keep := fun b o z n hf hx => by
      rw [gk b (nha z)]
      exact un.keep b o (k b o z) (up (nha z) n) hf hx
    slot := fun b o z n hf hx => by
      rw [gk b (nha z)]
      exact un.slot b o (k b o z) (up (nha z) n) hf hx
    free := fun b o z n hx => by
      rw [del_ne (nha z)]
      exact un.free b o (k b o z) (up (nha z) n) hx
    there := fun b o z hx => by
      rw [gk b (nha z)]
      exact un.there b o (k b o z) hx
    tups := fun b xs z => by
      rw [del_ne (ne_of_none z hn)]
      exact un.tups b xs (by rw [upd_ne (ne_of_none z hn)]; exact z)
    frzs := fun b o v z => by
      rw [del_ne (ne_of_none z hn)]
      exact un.frzs b o v (by rw [upd_ne (ne_of_none z hn)]; exact z)
    tbls := fun b ps z => by
      rw [del_ne (ne_of_none z hn)]
      exact un.tbls b ps (by rw [upd_ne (ne_of_none z hn)]; exact z) }
  have hok3 : HOk X.prog X.w (del H2 a) G := fun b o z => by
    have hba : b ≠ a := fun e => by
      rw [e, del_same] at z
      cases z
    rw [del_ne hba] at z
    have noa : ∀ {c : Addr}, H2 c = some (.own b) → c ≠ a := fun {c} hc => at_ne ea hc exo_own
    exact (hok b o z).stay (fun c v hc y => by
        have hca : c ≠ a := by
          rcases hc with hc | hc
          · rw [hc]
            exact hba
          · exact noa hc
        rw [gk c hca]
        exact y)
      (fun c hc => by rw [del_ne (noa hc)]; exact hc) (fun c xs hc => by rw [del_ne (at_ne ea hc exo_tup)]; exact hc)
  have J : Inv X pins σ (del H2 a) ⟨G, g2, d2, t2, os2⟩ := I1.call' (ch := []) ho U hok3 hb (fun b z => absurd z (by simp))
  refine ⟨a, _, _, ⟨G, g2, d2, t2, os2⟩, _, .ref C, none, rfl, J, fun b o z => ?_, ge, hoe, ⟨rfl, rfl⟩, rfl, rfl, del_same, rfl, hb, T, q⟩
  by_cases hba : b = a
  · rw [hba] at z
    have z : G.get? a = some o := z
    rw [ge] at z
    cases z
  · exact (gk b hba).symm.trans z
/-- the state of a made error, and what is wished -/
def endX (a C : Addr) (H1 : Hp) (Q : XK) (s : XS) (H2 : Hp) : Prop := match s with
  | none => Q (.ref C) none (del H2 a)
  | some (d, fs) => H1 d = none ∧ Q (.ref C) (some d) (upd (del H2 a) d (.xd fs))
/-- x(e, ..) -/
def tMkX (K : PySem.W.Frag) (C : Addr) (fl : List (Str × Bool)) (mi : Bool) (ta : TA) : L2.St → Hp → XK → Prop := fun σ H Q => ta σ H fun vs H1 => vs.length = fl.length ∧
  (mi = true → ∃ (i : Int) (r : List V), vs = .int i :: r ∧ i.natAbs.log2 < 1920) ∧ ∀ a, H1 a = none → stX K a C fl vs none (upd H1 a (exo a C none)) (endX a C H1 Q)
theorem pmk_x {C f cda cc : Addr} {x : Str} {N : List Str} {fl : List (Str × Bool)} {mi : Bool} {fd : FuncData} {k : Nat} {es : List Expr} {ta : TA} {p pos : Pos} (T : XTxt X.prog X.K X.mg C f cda cc x N fl mi fd) (hr : Room (k + 2) X.A) (hg : Gl X x) (hdb : (x == ("__debug__" : Str)) = false) (hst : ∀ e ∈ es, noStar e = true)
    (ha : PA X es ta) (hx : Passes (L2.CX X.prog X.w) X (fun _ _ _ => False)) (h0 : es = [] → ta = tNil) : PMk X (.Call (.Name x p) es [] pos) (tMkX X.K C fl mi ta) := by
  intro pins s σ H Q I h
  have F1 : FnOk X.prog X.w X.K X.mg X.base (L2.CX X.prog X.w) (k + 1) f fd N (spI X.K C fl mi) := ok_init T
  have O := T.oex
  obtain ⟨nm, q, Nn, bs, bm, sn, sub, ab, col, dd, k0, k1, k2, k3, k5, hC, hbm⟩ := O.cls
  refine wpAny_Call_Name_kw (ld_glob I hg T.gC ?_ hdb)
  have go : ∀ (us : List Value) (s1 : Shared) (vs : List V) (H1 : Hp), Inv X pins σ H1 s1 → Vals vs us → (vs.length = fl.length ∧ (mi = true → ∃ (i : Int) (r : List V), vs = .int i :: r ∧ i.natAbs.log2 < 1920) ∧ ∀ a, H1 a = none → stX X.K a C fl vs none (upd H1 a (exo a C none)) (endX a C H1 Q)) →
      wpAny (model X.prog X.w) X.A (call (.ref C) us) (MkP X pins σ Q) X.xe s1 := by
    intro us s1 vs H1 I1 r1 hh
    obtain ⟨hlv, hmi, q1⟩ := hh
    obtain ⟨hp, g, dr, tk, os⟩ := s1
    have hsz : hp.objs.size ≤ hp.objs.size + 1 := Nat.le_succ _
    have hn : H1 (hp.objs.size + 1) = none := I1.hok.fresh hsz
    have kk : ∀ b o, hp.get? b = some o → ((hp.push (PySem.W.kdv_tup us)).push (PySem.HandSPX.excO C hp.objs.size)).get? b = some o := fun b o e => Heap.get?_push_of_some _ (Heap.get?_push_of_some _ e)
    have hget : ((hp.push (PySem.W.kdv_tup us)).push (PySem.HandSPX.excO C hp.objs.size)).get? (hp.objs.size + 1) = some (PySem.HandSPX.excO C hp.objs.size) := by heap_get
    have I2 : Inv X pins σ (upd H1 (hp.objs.size + 1) (exo (hp.objs.size + 1) C none)) ⟨(hp.push (PySem.W.kdv_tup us)).push (PySem.HandSPX.excO C hp.objs.size), g, dr, tk, os⟩ :=
      I1.laid (t' := tk) (a := hp.objs.size + 1) (o := exo (hp.objs.size + 1) C none) (h' := (hp.push (PySem.W.kdv_tup us)).push (PySem.HandSPX.excO C hp.objs.size)) kk hsz (exo_ok hget)
    have r2 : Vals (V.ref (hp.objs.size + 1) :: vs) (Value.ref (hp.objs.size + 1) :: us) := .cons rfl r1
    have hq : spI X.K C fl mi (V.ref (hp.objs.size + 1) :: vs) (upd H1 (hp.objs.size + 1) (exo (hp.objs.size + 1) C none)) (fun v H2 => v = .non ∧ ∃ s, atX (hp.objs.size + 1) C s H2 ∧ endX (hp.objs.size + 1) C H1 Q s H2) (fun _ _ _ => False) := by
      refine ⟨by rw [List.length_cons, hlv], _, vs, rfl, upd_same, hmi, ?_⟩
      exact stX_at fl vs none _ (fun s H z a => ⟨rfl, s, a, z⟩) (q1 _ hn)
    have hl : (Value.ref (hp.objs.size + 1) :: us ++ []).length = N.length := by
      have e := r2.length
      rw [F1.len _ _ _ _ hq] at e
      rw [List.append_nil]
      exact e.symm
    have hus : us.length ≤ sizeLine := by
      rw [← Paired.length r1, sizeLine_eq, hlv]
      have := T.few
      omega
    have hb := T.bnd _ (Value.ref (hp.objs.size + 1) :: us) I2.kIn hl
    rw [List.append_nil] at hb
    refine wpAny_call (PySem.HandSPX.call_own F.excBase_ValueError (fun Y => PySem.HandSPX.refsVE_contains Y bm hbm) (I1.kIn _ _ hC) (PySem.W.looks_findIn I1.kIn T.iC) (fun self => PySem.W.bind_fn I1.kIn self T.tI) hus
      (codeAny_mono (F1.run _ X.stack _ _ ⟨Value.ref (hp.objs.size + 1) :: us, []⟩ (Value.ref (hp.objs.size + 1) :: us) _ _ (fun _ _ _ => False) (hr.make C us []) (I2.env0.make C us []) hb r2 hq) fun r s' hq' => ?_))
    cases r with
    | error er => exact hx pins σ _ _ er s' I2 hq'
    | ok fl' =>
      cases fl' with
      | ret u =>
        obtain ⟨v, H2, os2, bare2, un2, hok2, rv, ev, s, hat, q2⟩ := hq'
        subst ev
        obtain ⟨h2, g2, d2, t2, os'⟩ := s'
        refine ⟨rv, ?_⟩
        cases s with
        | none => exact mk_endN (raises_own O.exC O.tyC) I1 hsz kk un2 hok2 os2 bare2 hat q2
        | some pr =>
          obtain ⟨d, fs⟩ := pr
          exact mk_end (raises_own O.exC O.tyC) I1 hsz kk un2 hok2 os2 bare2 hat.1 hat.2.1 q2.1 q2.2
      | next => exact False.elim hq'
      | brk => exact False.elim hq'
      | cont => exact False.elim hq'
  cases es with
  | nil =>
    have e0 := h0 rfl
    subst e0
    refine PySem.W.callWith_K0 I.kIn O.kC ?_
    exact go [] s [] H I .nil h
  | cons e es =>
    exact PySem.W.callWith_K (h₀ := X.base) I.ok.mod.kin O.kC (thn (ha.run pos pins s σ H _ I h) fun us s1 ⟨vs, H1, I1, r1, hh⟩ => ⟨I1.kIn, go us s1 vs H1 I1 r1 hh⟩) (star_cons (hst e List.mem_cons_self) es X.env) (star_any fun z hz => hst z (List.mem_cons_of_mem _ hz))
end
end Mi
set_option maxHeartbeats 4000000
set_option autoImplicit false
namespace Mi
open PySem PySem.Spec PyProof.Rows L2
/-- what the written part says of the own errors -/
structure XStat {T : Tab} (c : Cxt T) : Prop where
  txt : ∀ (i : Nat) (x : Xd), T.xcs[i]? = some x → ∃ f cda cc fd, XTxt c.P c.K c.mg (c.xad i) f cda cc x.name x.N x.fields x.mi fd
  nd : ∀ (i : Nat) (x : Xd), T.xcs[i]? = some x → (x.fields.map (·.1)).Nodup
/-- the heap without the error that is being made -/
def XR (a C : Addr) (s : XS) (H Hc : Hp) : Prop := atX a C s H ∧ Hc a = none ∧ (match s with
  | none => ∀ b, b ≠ a → H b = Hc b
  | some (d, _) => Hc d = none ∧ ∀ b, b ≠ a → b ≠ d → H b = Hc b)
theorem XR.same {a C : Addr} {s : XS} {H Hc : Hp} (h : XR a C s H Hc) : Same Hc H := fun b o e => by
  obtain ⟨_, h1, h2⟩ := h
  have ha : b ≠ a := ne_of_none e h1
  cases s with
  | none => rw [h2 b ha]; exact e
  | some p => obtain ⟨h3, h4⟩ := h2; rw [h4 b ha (ne_of_none e h3)]; exact e
theorem XR.none_of {a C : Addr} {s : XS} {H Hc : Hp} (h : XR a C s H Hc) {l : Addr} (hl : H l = none) : Hc l = none := by
  cases e : Hc l with
  | none => rfl
  | some o => rw [h.same l o e] at hl; cases hl
theorem XR.upd {a C : Addr} {s : XS} {H Hc : Hp} (h : XR a C s H Hc) {l : Addr} {o : HO} (hl : H l = none) : XR a C s (L2.upd H l o) (L2.upd Hc l o) := by
  obtain ⟨h0, h1, h2⟩ := h
  have h00 := ost_ne (o := o) h0 hl
  cases s with
  | none =>
    have ea : H a = some (exo a C none) := h0
    refine ⟨h00, by rw [upd_ne (ne_of_none ea hl)]; exact h1, fun b hb => ?_⟩
    by_cases e : b = l
    · rw [e, upd_same, upd_same]
    · rw [upd_ne e, upd_ne e]; exact h2 b hb
  | some p =>
    obtain ⟨d, fs⟩ := p
    obtain ⟨ea, ed, _⟩ := h0
    refine ⟨h00, by rw [upd_ne (ne_of_none ea hl)]; exact h1, by rw [upd_ne (ne_of_none ed hl)]; exact h2.1, fun b hb hd => ?_⟩
    by_cases e : b = l
    · rw [e, upd_same, upd_same]
    · rw [upd_ne e, upd_ne e]; exact h2.2 b hb hd
def fsOf : XS → List (Str × V)
  | none => []
  | some (_, fs) => fs
theorem sqL_same {K : PySem.W.Frag} {H H' : Hp} {p : Addr} {xs : List V} (h : SqL K H p xs) (s : Same H H') : SqL K H' p xs := s.seq h
theorem sqT_same {K : PySem.W.Frag} {H H' : Hp} {p : Addr} {xs : List V} (h : SqT K H p xs) (s : Same H H') : SqT K H' p xs := by
  rcases h with h | h
  · rcases h with h | ⟨o, h⟩
    · exact .inl (.inl (s _ _ h))
    · exact .inl (.inr ⟨o, s _ _ h⟩)
  · exact .inr h
section
variable {T : Tab} {c : Cxt T} {m : List Addr} {st : Store}
theorem stX_run {a C : Addr} {Q : XS → Hp → Prop} : ∀ (fl : List (Str × Bool)) (ws ys : List W) (vs : List V) (s : XS) (H Hc : Hp) (st' : Store) (n : Nat), SR c.kt m st Hc → RelWs c.kt m (fz m st Hc) ws vs → xFields fl ws st = .ok ys st' → XR a C s H Hc → (fsOf s).length ≤ n → n + fl.length ≤ 800 →
    (∀ s' H' Hc' us, Ext m st Hc m st Hc' → SR c.kt m st Hc' → XR a C s' H' Hc' → RelWs c.kt m (fz m st Hc') ys us → us.length = fl.length → fsOf s' = ((fl.map (·.1)).zip us).reverse ++ fsOf s → (s' = none → s = none ∧ fl = []) → Q s' H') → stX c.K a C fl vs s H Q
  | [], ws, ys, vs, s, H, Hc, st', n, S, r, hx, X, hn, hl, k => by
    cases ws with
    | cons _ _ => unfold xFields at hx; cases hx
    | nil =>
      cases hx
      unfold stX
      exact k s H Hc [] Ext.refl S X RelWs.nil rfl rfl (fun e => ⟨e, rfl⟩)
  | (f, b) :: fl, ws, ys, vs, s, H, Hc, st', n, S, r, hx, X, hn, hl, k => by
    cases ws with
    | nil => cases b <;> (unfold xFields at hx; cases hx)
    | cons w ws =>
      obtain ⟨v, vr, rfl, r1, r2⟩ := RelWs.cons_inv r
      simp only [List.length_cons] at hl
      -- one field, its value y of w'
      have step : ∀ (w' : W) (ys' : List W) (y : V) (H1 Hc1 : Hp), xFields fl ws st = .ok ys' st' → ys = w' :: ys' → Ext m st Hc m st Hc1 → SR c.kt m st Hc1 → XR a C s H1 Hc1 → RelW c.kt m (fz m st Hc1) w' y → (match (generalizing := false) s with
          | none => ∀ dx, H1 dx = none → dx ≠ a → stX c.K a C fl vr (some (dx, [(f, y)])) (L2.upd (L2.upd H1 dx (exd dx [(f, y)])) a (exo a C (some dx))) Q
          | some (dx, fs) => stX c.K a C fl vr (some (dx, (f, y) :: fs)) (L2.upd H1 dx (exd dx ((f, y) :: fs))) Q) := by
        intro w' ys' y H1 Hc1 hx' ey E1 S1 X1 ry
        have fin : ∀ (s1 : XS) (H2 : Hp), XR a C s1 H2 Hc1 → fsOf s1 = (f, y) :: fsOf s → s1 ≠ none → stX c.K a C fl vr s1 H2 Q := fun s1 H2 X2 e2 ne => by
          refine stX_run fl ws ys' vr s1 H2 Hc1 st' (n + 1) S1 (E1.relWs r2) hx' X2 (by rw [e2, List.length_cons]; omega) (by omega) fun s' H' Hc' us E2 S2 X3 ru hul hfs hnn => ?_
          refine k s' H' Hc' (y :: us) (E1.trans E2) S2 X3 (by rw [ey]; exact RelWs.cons (E2.relW ry) ru) (by rw [List.length_cons, List.length_cons, hul]) ?_ (fun e => absurd (hnn e).1 ne)
          rw [hfs, e2]
          simp
        cases s with
        | none =>
          intro dx h1 h2
          obtain ⟨ea, na, ho⟩ := X1
          refine fin (some (dx, [(f, y)])) _ ⟨⟨upd_same, by rw [upd_ne h2, upd_same], by show 1 ≤ 900; decide, h2⟩, na, by rw [← ho dx h2]; exact h1, fun b hb hd => ?_⟩ rfl (by simp)
          rw [upd_ne hb, upd_ne hd]
          exact ho b hb
        | some p =>
          obtain ⟨dx, fs⟩ := p
          obtain ⟨⟨ea, ed, hf, hne⟩, na, nd, ho⟩ := X1
          refine fin (some (dx, (f, y) :: fs)) _ ⟨⟨by rw [upd_ne (Ne.symm hne)]; exact ea, upd_same, ?_, hne⟩, na, nd, fun b hb hd => ?_⟩ rfl (by simp)
          · rw [List.length_cons]
            have : fs.length ≤ n := hn
            omega
          · rw [upd_ne hd]
            exact ho b hb hd
      unfold stX
      cases b with
      | false =>
        unfold xFields at hx
        obtain ⟨ys', s1, h1, h2⟩ := bd_inv hx
        cases h2
        exact step w ys' v H Hc h1 rfl Ext.refl S X r1
      | true =>
        unfold xFields at hx
        obtain ⟨zs, s1, h1, h2⟩ := bd_inv hx
        obtain ⟨rfl, us, ⟨p, rfl, hq⟩, rz⟩ := items_at S r1 h1
        obtain ⟨ys', s2, h3, h4⟩ := bd_inv h2
        cases h4
        refine ⟨p, us, rfl, ?_⟩
        rcases hq with ⟨_, hq⟩ | ⟨ht, hq⟩
        · refine .inl ⟨sqL_same hq X.same, fun l ob hl0 hd => ?_⟩
          have hl1 := X.none_of hl0
          obtain ⟨s3, e3⟩ := S.laid (p := l) (o := .frz ob (.tup us)) hl1
          refine step (.tup zs) ys' (.ref l) _ _ h3 rfl e3 s3 (X.upd hl0) ?_
          unfold RelW
          exact ⟨l, us, rfl, .inl ⟨ob, by rw [fz_upd S hl1]; exact upd_same, hd⟩, e3.relWs rz⟩
        · refine .inr ⟨sqT_same hq X.same, ?_⟩
          have ew : w = .tup zs := by
            cases w with
            | tup xs => cases h1; rfl
            | _ => cases ht
          rw [ew] at r1
          exact step (.tup zs) ys' (.ref p) H Hc h3 rfl Ext.refl S X r1
end
theorem lk_perm {f : Str} : ∀ {l : List (Str × V)}, (l.map (·.1)).Nodup → l.reverse.lookup f = l.lookup f := fun {l} nd => by
  have key : ∀ {l : List (Str × V)} {v : V}, (l.map (·.1)).Nodup → (f, v) ∈ l → l.lookup f = some v := by
    intro l
    induction l with
    | nil => intro v _ h; cases h
    | cons p l ih =>
      intro v nd h
      obtain ⟨y, u⟩ := p
      have nd' := List.nodup_cons.mp nd
      rcases List.mem_cons.mp h with e | h
      · cases e
        simp [List.lookup]
      · have ne : (f == y) = false := by
          have : f ≠ y := fun e => nd'.1 (List.mem_map.mpr ⟨(f, v), h, e⟩)
          simpa using this
        simp only [List.lookup, ne]
        exact ih nd'.2 h
  have ndr : (l.reverse.map (·.1)).Nodup := by
    rw [List.map_reverse]
    exact (List.reverse_perm _).nodup_iff.mpr nd
  cases e : l.lookup f with
  | some v => exact key ndr (List.mem_reverse.mpr (PySem.mem_of_lookup e))
  | none =>
    cases e2 : l.reverse.lookup f with
    | none => rfl
    | some v =>
      have := key nd (List.mem_reverse.mp (PySem.mem_of_lookup e2))
      rw [e] at this
      cases this
section
variable {T : Tab} {c : Cxt T} {F : Nat → List W → Q W} {cx : Value × Option Addr} {Wx : WX} {X : Cx} {lv : Nat} {pos : Pos}
theorem sns_rai (xs0 : XStat c) (hlv : 1 ≤ lv) (G : Gd c F X Wx lv) {i : Nat} {x : Xd} {es : List Expr} {ts : TXs} {p pos2 : Pos} (hx : T.xcs[i]? = some x) (hg : Gl X x.name) (hdb : (x.name == ("__debug__" : Str)) = false) (hst : ∀ e ∈ es, noStar e = true) (h0 : es = [] → ts = .nil)
    (ha : PA X es (rA c F none none cx Wx ts)) (hpa : Passes (L2.CX X.prog X.w) X (fun _ _ _ => False)) : PS X (.Raise (some (.Call (.Name x.name p) es [] pos)) none pos2) (rS c F cx Wx (.rai i ts)) := by
  obtain ⟨f, cda, cc, fd, Tx⟩ := xs0.txt i x hx
  have Tx : XTxt X.prog X.K X.mg (c.xad i) f cda cc x.name x.N x.fields x.mi fd := by
    rw [G.prog, G.K, G.mg]
    exact Tx
  have ha0 : PA X es (if es = [] then tNil else rA c F none none cx Wx ts) := by
    cases es with
    | nil => rw [if_pos rfl]; exact pa_nil
    | cons e es => rw [if_neg (by simp)]; exact ha
  have hroom : Room (0 + 2) X.A := by
    have := G.room
    exact ⟨this.hd, by have := this.dp; omega, by have := this.un; omega⟩
  refine PS.mono (ps_raise G.calm G.takes (pmk_x (k := 0) Tx hroom hg hdb hst ha0 hpa fun e => if_pos e)) fun D σ H h => ?_
  obtain ⟨m, env, st, S, hp⟩ := h
  unfold exS at hp
  have key : ∀ (ws : List W) (st1 : Store) (m1 : List Addr) (H1 : Hp) (vs : List V), Ext m st H m1 st1 H1 → SR c.kt m1 st1 H1 → RelWs c.kt m1 (fz m1 st1 H1) ws vs → PoS c cx Wx D m1 st1 H1 (match T.xcs[i]? with
      | some d => if xOk d.mi ws then bo (xFields d.fields ws st1) env fun ys s => .ex i ys env s else .no
      | none => .no) → vs.length = x.fields.length ∧ (x.mi = true → ∃ (i : Int) (r : List V), vs = .int i :: r ∧ i.natAbs.log2 < 1920) ∧ ∀ a, H1 a = none → stX X.K a (c.xad i) x.fields vs none (L2.upd H1 a (exo a (c.xad i) none)) (endX a (c.xad i) H1 (fun cls d H' => Wx cls d σ H')) := by
    intro ws st1 m1 H1 vs E1 S1 r hp1
    rw [hx] at hp1
    dsimp only at hp1
    by_cases hok : xOk x.mi ws = true
    · rw [if_pos hok] at hp1
      cases ex : xFields x.fields ws st1 with
      | no => rw [ex] at hp1; exact hp1.elim
      | ex j zs s => exact absurd ex (by
          have : ∀ (fl : List (Str × Bool)) (ws : List W) (st1 s : Store) (j : Nat) (zs : List W), xFields fl ws st1 ≠ .ex j zs s := by
            intro fl
            induction fl with
            | nil => intro ws st1 s j zs h; cases ws <;> cases h
            | cons p fl ih =>
              obtain ⟨f, b⟩ := p
              intro ws st1 s j zs h
              cases ws with
              | nil => cases b <;> cases h
              | cons w ws =>
                cases b with
                | false =>
                  unfold xFields bd at h
                  cases e : xFields fl ws st1 with
                  | ok a s2 => rw [e] at h; cases h
                  | ex k a s2 => exact ih _ _ _ _ _ e
                  | no => rw [e] at h; cases h
                | true =>
                  unfold xFields bd at h
                  cases e : items w st1 with
                  | ok a s2 =>
                    rw [e] at h
                    dsimp only at h
                    cases e2 : xFields fl ws s2 with
                    | ok a s2 => rw [e2] at h; cases h
                    | ex k a s2 => exact ih _ _ _ _ _ e2
                    | no => rw [e2] at h; cases h
                  | no => rw [e] at h; cases h
                  | ex k a s2 =>
                    cases w with
                    | ref n => rw [items_ref] at e; cases q : st1[n]? with
                      | none => rw [q] at e; cases e
                      | some o => cases o with
                        | none => rw [q] at e; cases e
                        | some o => rw [q] at e; cases o <;> cases e
                    | _ => cases e
          exact this _ _ _ _ _ _)
      | ok ys st2 =>
        rw [ex] at hp1
        have hlen : ∀ (fl : List (Str × Bool)) (ws ys : List W) (st1 s : Store), xFields fl ws st1 = .ok ys s → ws.length = fl.length ∧ s = st1 := by
          intro fl
          induction fl with
          | nil => intro ws ys st1 s h; cases ws <;> first | (cases h; exact ⟨rfl, rfl⟩) | (cases h)
          | cons p fl ih =>
            obtain ⟨f, b⟩ := p
            intro ws ys st1 s h
            cases ws with
            | nil => cases b <;> cases h
            | cons w ws =>
              cases b with
              | false =>
                unfold xFields at h
                obtain ⟨a, s2, h1, h2⟩ := bd_inv h
                cases h2
                obtain ⟨e1, e2⟩ := ih _ _ _ _ h1
                exact ⟨by simp [e1], e2⟩
              | true =>
                unfold xFields at h
                obtain ⟨zs, s3, h0, h⟩ := bd_inv h
                obtain ⟨a, s2, h1, h2⟩ := bd_inv h
                cases h2
                obtain ⟨e1, e2⟩ := ih _ _ _ _ h1
                have e3 : s3 = st1 := by
                  cases w with
                  | ref n => rw [items_ref] at h0; cases q : st1[n]? with
                    | none => rw [q] at h0; cases h0
                    | some o => cases o with
                      | none => rw [q] at h0; cases h0
                      | some o => rw [q] at h0; cases o <;> first | (cases h0; rfl) | (cases h0)
                  | lst ys => cases h0; rfl
                  | tup ys => cases h0; rfl
                  | fro ys => cases h0; rfl
                  | _ => cases h0
                exact ⟨by simp [e1], e2.trans e3⟩
        obtain ⟨hl1, rfl⟩ := hlen _ _ _ _ _ ex
        refine ⟨by rw [r.len]; exact hl1, fun hmi => ?_, fun a ha => ?_⟩
        · unfold xOk at hok
          rw [if_pos hmi] at hok
          cases ws with
          | nil => cases hok
          | cons w ws =>
            obtain ⟨v, vr, rfl, r1, r2⟩ := RelWs.cons_inv r
            cases w with
            | int k =>
              unfold RelW at r1
              subst r1
              exact ⟨k, vr, rfl, of_decide_eq_true hok⟩
            | _ => cases hok
        · rw [G.K]
          refine stX_run (c := c) (m := m1) (st := st2) x.fields ws ys vs none _ H1 st2 0 S1 r ex ⟨upd_same, ha, fun b hb => upd_ne hb⟩ (Nat.le_refl _) (by have := Tx.few; omega) fun s' H' Hc' us E2 S2 X2 ru hul hfs hnn => ?_
          obtain ⟨hat, na, ho⟩ := X2
          cases s' with
          | none =>
            obtain ⟨_, hfl⟩ := hnn rfl
            have e : del H' a = Hc' := by
              funext b
              by_cases hb : b = a
              · rw [hb, del_same, na]
              · rw [del_ne hb]; exact ho b hb
            show Wx _ _ σ (del H' a)
            rw [e]
            have hp1 : PoS c cx Wx D m1 st2 H1 (.ex i ys env st2) := hp1
            have S3 := (S.ext E1 S1).ext E2 S2
            refine hp1 m1 _ _ σ Hc' E2 S3 ⟨rfl, x, hx, .inl ⟨hfl, ?_⟩⟩
            rw [hfl] at hul
            have hul0 : us = [] := List.eq_nil_of_length_eq_zero hul
            subst hul0
            have := ru.len
            exact List.eq_nil_of_length_eq_zero (by rw [← this]; rfl)
          | some pr =>
            obtain ⟨d, fs⟩ := pr
            obtain ⟨nd, ho⟩ := ho
            have hd1 : H1 d = none := by
              cases e : H1 d with
              | none => rfl
              | some o =>
                -- what stood stands
                have : ¬ ∃ o, Hc' d = some o := fun ⟨o, z⟩ => by rw [nd] at z; cases z
                by_cases hlv : Live m1 st2 d
                · obtain ⟨n, o, h1, h2⟩ := hlv
                  exact absurd (S2.has d (List.mem_of_getElem? h1)) this
                · exact absurd ⟨o, (fz_some.mp (E2.same d o (fz_some.mpr ⟨hlv, e⟩))).2⟩ this
            refine ⟨hd1, ?_⟩
            have e : L2.upd (del H' a) d (.xd fs) = L2.upd Hc' d (.xd fs) := by
              funext b
              by_cases hd : b = d
              · rw [hd, upd_same, upd_same]
              · rw [upd_ne hd, upd_ne hd]
                by_cases hb : b = a
                · rw [hb, del_same, na]
                · rw [del_ne hb]; exact ho b hb hd
            rw [e]
            have hp1 : PoS c cx Wx D m1 st2 H1 (.ex i ys env st2) := hp1
            obtain ⟨S3, E3⟩ := S2.laid (p := d) (o := .xd fs) nd
            have S4 := ((S.ext E1 S1).ext E2 S2).ext E3 S3
            refine hp1 m1 _ _ σ _ (E2.trans E3) S4 ⟨rfl, x, hx, .inr ⟨d, fs, us, rfl, by rw [fz_upd S2 nd]; exact upd_same, fun f => ?_, hul, E3.relWs ru⟩⟩
            have hfs : fs = ((x.fields.map (·.1)).zip us).reverse := by
              have z : fs = ((x.fields.map (·.1)).zip us).reverse ++ [] := hfs
              rw [List.append_nil] at z
              exact z
            rw [hfs]
            refine lk_perm ?_
            rw [List.map_fst_zip (by rw [List.length_map, hul]; exact Nat.le_refl _)]
            exact xs0.nd i x hx
    · rw [if_neg hok] at hp1
      exact hp1.elim
  show (if es = [] then tNil else rA c F none none cx Wx ts) σ H _
  by_cases he : es = []
  · rw [if_pos he]
    have e := h0 he
    subst e
    exact key [] st m H [] Ext.refl S.sr RelWs.nil hp
  · rw [if_neg he]
    exact ⟨m, env, st, S, pos_bo S hp fun ws st1 m1 H1 vs E1 S1 r hp1 => key ws st1 m1 H1 vs E1 S1 r hp1⟩
end
end Mi
set_option maxHeartbeats 4000000
set_option autoImplicit false
namespace Mi
open PySem PySem.Spec PyProof.Rows L2
/-! ## several except clauses, with a name or without -/
def wHd (D : Ends) (ts : L2.TS) (a : Addr) : Option Nat → L2.St → Hp → Prop
  | none, σ, H => ts D σ H
  | some i, σ, H => ts { nx := fun σ' H' => D.nx (σ'.set i none) H', rt := D.rt, bk := fun σ' H' => D.bk (σ'.set i none) H', ct := fun σ' H' => D.ct (σ'.set i none) H' } (σ.set i (some (.ref a))) H
abbrev HdT := Value × Option Nat × (Addr → Value → Option Addr → L2.TS)
def wManyN (K : PySem.W.Frag) (Wout : WX) (D : Ends) : List HdT → WX
  | [] => Wout
  | (c, n, ts) :: r => fun cls d σ H => ∃ b, PySem.W.exmOne K cls c = some b ∧ (b = true → ∀ a, H a = none → wHd D (ts a cls d) a n σ H) ∧ (b = false → wManyN K Wout D r cls d σ H)
/-- the name of a clause -/
def HdNm (X : Cx) : Option Str → Option Nat → Prop
  | none, none => True
  | some y, some i => X.N[i]? = some y ∧ X.env.kindOf y = some .local
  | _, _ => False
inductive HdsN (X : Cx) : List ExceptHandler → List HdT → Prop
  | nil : HdsN X [] []
  | cons {x : Str} {c : Value} {n : Option Nat} {nm : Option Str} {ts : Addr → Value → Option Addr → L2.TS} {b₀ : Stmt} {suite : List Stmt} {np pos' : Pos} {hds : List ExceptHandler} {l : List HdT} (hc : Names X x c) (hn : HdNm X nm n)
      (hsu : ∀ (a : Addr) (oe : Obj) (cls : Value) (d : Option Addr) (pn : List (Addr × Obj)), Zc cls d oe → (∃ vs, oe.data = .fields vs) → PSs (X.suite a ((a, oe) :: pn)) (b₀ :: suite) (ts a cls d)) (r : HdsN X hds l) :
      HdsN X (.ExceptHandler (some (.Name x np)) nm (b₀ :: suite) pos' :: hds) ((c, n, ts) :: l)
section
variable {X : Cx} {body : List Stmt} {h₀ : ExceptHandler} {hds : List ExceptHandler} {l : List HdT} {pos : Pos} {tb : WX → L2.TS} {Wout : WX}
theorem ps_try_n (hs : X.stack = X.env :: X.outer) (hf : X.env.frame = some X.env.locals) (hN : X.N.Nodup) (tk : Takes X Wout)
    (hb : ∀ (W : WX) (pn : List (Addr × Obj)) (xe : Value → Shared → Prop), Takes (X.tr pn xe) W → PassesOwn (model X.prog X.w) X.A X.env xe → PSs (X.tr pn xe) body (tb W))
    (hh : HdsN X (h₀ :: hds) l) : PS X (.Try body (h₀ :: hds) [] [] pos) (fun D σ H => tb (wManyN X.K Wout D l) D σ H) := by
  refine ⟨fun pins s σ H D I h => ?_⟩
  have ok := I.ok
  have hfr : X.A.frames = some (X.env :: X.outer) := by rw [ok.frames, hs]
  refine wpAny_Try_except ?_
  refine wpAny_mono ((hb (wManyN X.K Wout D l) (X.pn ++ pins) (fun e s₁ => wpAny (model X.prog X.w) X.A (noteFrame e X.env) (fun _ s₂ => wpAny (model X.prog X.w) X.A (setFlight e none) (fun _ s₃ =>
    wpAny (model X.prog X.w) X.A (handleBy e X.env (h₀ :: hds)) (SP X pins D) X.xe s₃) X.xe s₂) X.xe s₁) (fun u s' xx => ?_) PassesOwn.looking).run [] s σ H D (I.toTry _) h) (fun f s1 hsp => ?_) (fun e s1 he => he)
  · -- the catch
    obtain ⟨a, B, sI, pins', σ', H', cls, d, rfl, J', nb, up, sky, na, os, ag, w⟩ := xx
    have J : Inv X pins σ' H' sI := J'.ofTry ok
    have sky' : Sky B (X.env :: X.outer) a (Zc cls d) X.env.locals s'.heap := by rw [← hs]; exact sky
    show wpAny (model X.prog X.w) X.A (noteFrame (.ref a) X.env) _ _ _
    refine Sky.land Zc.steady hfr hf sky' fun h3 fl3 up3 => ?_
    have J3 : Inv X pins σ' H' { s' with heap := h3 } := J.landed nb fl3.1 (up.trans up3) os ag
    obtain ⟨oe3, vs3, he3, hz3, hd3⟩ := fl3.there
    have notFr : ∀ {h : Heap} {o : Obj} {vs : Array Value}, h.FunFrames B (X.env :: X.outer) → h.get? a = some o → o.data = .fields vs → a ∉ frs (X.env :: X.outer) := fun {h o vs} ff e dd hm => by
      obtain ⟨_, o', e', hnf⟩ := ff.mem hm
      rw [e] at e'; cases e'
      exact hnf _ dd
    have nfr := notFr fl3.2.2.1 he3 hd3
    have nL : a ≠ X.env.locals := fun z => nfr (List.mem_filterMap.mpr ⟨X.env, List.mem_cons_self, by rw [hf, z]⟩)
    have nF : a ∉ X.fs := fun hm => by
      obtain ⟨e, he, q⟩ := List.mem_filterMap.mp hm
      exact nfr (List.mem_filterMap.mpr ⟨e, List.mem_cons_of_mem _ he, q⟩)
    have S3 := J3.suite he3 hd3 na nL nF
    have go : ∀ {hds' : List ExceptHandler} {l' : List HdT}, HdsN X hds' l' → wManyN X.K Wout D l' cls d σ' H' →
        wpAny (model X.prog X.w) X.A (handleBy (.ref a) X.env hds') (SP X pins D) X.xe { s' with heap := h3 } := by
      intro hds' l' hk
      induction hk with
      | nil =>
        intro w
        refine wpAny_handleBy_nil ?_
        obtain ⟨k1, k2, k3, oe, vs, T, oT, ts', he, hz, hd, h1, hr⟩ := id fl3
        unfold PySem.passOn
        refine wpAny_bind (wpAny_field he hd h1 ?_)
        rw [if_neg (show ¬ ((Value.ref T == Value.none) = true) from by simp)]
        have fin : wpAny (model X.prog X.w) X.A (setFlight (.ref a) X.env.frame) (fun _ s4 => wpAny (model X.prog X.w) X.A (throw (.ref a) : Sem Flow) (SP X pins D) X.xe s4) X.xe { s' with heap := h3 } := by
          rw [hf]
          refine HandSPX.setFlight_upZ fl3 fun h4 hh4 up4 => wpAny_throw (tk _ _ ?_)
          exact ⟨a, B, sI, pins, σ', H', cls, d, rfl, J, nb, (up.trans up3).trans up4, .inr (.inr (by rw [hs]; exact hh4)), na, os, ag, w⟩
        first
          | exact wpAny_bind (wpAny_pure (wpAny_bind fin))
          | exact wpAny_bind fin
      | @cons x c n nm ts b₀ suite np pos' hds2 l2 hc hn hsu r ih =>
        intro w
        obtain ⟨b, hb1, hyes, hno⟩ := w
        refine wpAny_handleBy_cons (codeAny_handlers_test ?_) (by intro q; cases q)
        have LT : PySem.W.Looks (model X.prog X.w) h3 (typeOf (.ref a)) cls := fun A Q E s k q => wpAny_typeOf_ref (k _ _ he3) (by rw [hz3.1]; exact q)
        have LM := PySem.W.exm_one (M := model X.prog X.w) (J3.kIn) LT hb1
        have test : ∀ {Q : Value → Shared → Prop} {E : Value → Shared → Prop}, Q c { s' with heap := h3 } → wpAny (model X.prog X.w) (X.A.mark (some (.ref a))) (eval (.Name x np) X.env) Q E { s' with heap := h3 } := fun {Q E} q => by
          obtain ⟨hg, hdbg, hm | ⟨hm, hv, hnn⟩⟩ := hc
          · exact ld_glob (X := X.suite a ((a, oe3) :: (X.pn ++ pins))) S3 hg hm q hdbg
          · exact ld_blt (X := X.suite a ((a, oe3) :: (X.pn ++ pins))) S3 hg hm hv q hnn hdbg
        refine test (LM.here ?_)
        cases b with
        | true =>
          cases nm with
          | none =>
            cases n with
            | some _ => exact hn.elim
            | none =>
              refine codeAny_handlers_suite ?_
              refine HandSPX.lands_againZ fl3 fun h4 fl4 up4 => ?_
              have J4 : Inv X pins σ' H' { s' with heap := h4 } := J.landed nb fl4.1 ((up.trans up3).trans up4) os ag
              obtain ⟨oe4, vs4, he4, hz4, hd4⟩ := fl4.there
              have S4 := J4.suite he4 hd4 na nL nF
              refine wpAny_mono ((hsu a oe4 cls d (X.pn ++ pins) hz4 ⟨_, hd4⟩).run [] _ _ H' _ S4 (hyes rfl a na)) (fun f s6 hsp => ?_) (fun _ _ z => False.elim z)
              cases f with
              | next =>
                obtain ⟨σ6, H6, S6, q6⟩ := hsp
                exact ⟨_, _, S6.unsuite ok, q6⟩
              | brk =>
                obtain ⟨σ6, H6, S6, q6⟩ := hsp
                exact ⟨_, _, S6.unsuite ok, q6⟩
              | cont =>
                obtain ⟨σ6, H6, S6, q6⟩ := hsp
                exact ⟨_, _, S6.unsuite ok, q6⟩
              | ret u =>
                obtain ⟨v6, σ6, H6, S6, r6, q6⟩ := hsp
                exact ⟨_, _, _, S6.unsuite ok, r6, q6⟩
          | some y =>
            cases n with
            | none => exact hn.elim
            | some i =>
              obtain ⟨hi, hln⟩ := hn
              have hloc : Loc X.env.scope y := .inl hln
              refine codeAny_handlers_suite_as ?_
              refine HandSPX.lands_againZ fl3 fun h4 fl4 up4 => ?_
              have J4 : Inv X pins σ' H' { s' with heap := h4 } := J.landed nb fl4.1 ((up.trans up3).trans up4) os ag
              obtain ⟨oe4, vs4, he4, hz4, hd4⟩ := fl4.there
              have S4 := J4.suite he4 hd4 na nL nF
              refine store_ok (X := X.suite a ((a, oe4) :: (X.pn ++ pins))) (v := .ref a) S4 hN hi hloc rfl (fun s5 S5 => ?_) (.inr hln)
              refine wpAny_mono ((hsu a oe4 cls d (X.pn ++ pins) hz4 ⟨_, hd4⟩).run [] s5 _ H' _ S5 (hyes rfl a na)) (fun f s6 hsp => ?_) (fun _ _ z => False.elim z)
              have end_ : ∀ {σ6 : L2.St} {H6 : Hp} {Q : Shared → Prop}, Inv (X.suite a ((a, oe4) :: (X.pn ++ pins))) [] σ6 H6 s6 → (∀ s7, Inv X pins (σ6.set i none) H6 s7 → Q s7) →
                  wpAny (model X.prog X.w) X.A (do bindName X.env y .none; unbindBehindTheSuite X.env y pos') (fun _ s7 => Q s7) X.xe s6 := fun {σ6 H6 Q} S6 hq => gone_ok (S6.unsuite ok) hN hi hln hq
              cases f with
              | next =>
                obtain ⟨σ6, H6, S6, q6⟩ := hsp
                exact end_ S6 fun s7 J7 => ⟨_, _, J7, q6⟩
              | brk =>
                obtain ⟨σ6, H6, S6, q6⟩ := hsp
                exact end_ S6 fun s7 J7 => ⟨_, _, J7, q6⟩
              | cont =>
                obtain ⟨σ6, H6, S6, q6⟩ := hsp
                exact end_ S6 fun s7 J7 => ⟨_, _, J7, q6⟩
              | ret u =>
                obtain ⟨v6, σ6, H6, S6, r6, q6⟩ := hsp
                exact end_ S6 fun s7 J7 => ⟨_, _, _, J7, r6, q6⟩
        | false =>
          show wpAny _ X.A (handleBy (.ref a) X.env hds2) _ _ _
          exact ih (hno rfl)
    exact go hh w
  · cases f with
    | next =>
      obtain ⟨σ', H', J', q⟩ := hsp
      exact wpAny_execs_nil ⟨σ', H', J'.ofTry ok, q⟩
    | brk =>
      obtain ⟨σ', H', J', q⟩ := hsp
      exact ⟨σ', H', J'.ofTry ok, q⟩
    | cont =>
      obtain ⟨σ', H', J', q⟩ := hsp
      exact ⟨σ', H', J'.ofTry ok, q⟩
    | ret u =>
      obtain ⟨v, σ', H', J', r, q⟩ := hsp
      exact ⟨v, σ', H', J'.ofTry ok, r, q⟩
end
end Mi
set_option maxHeartbeats 4000000
set_option autoImplicit false
namespace Mi
open PySem PySem.Spec PyProof.Rows L2
/-! ## what a handler says -/
def notAnd : TX → Bool
  | .and _ _ => false
  | _ => true
mutual
/-- the terms that a handler may use -/
def hOk : TX → Bool
  | .v _ => true
  | .cst _ => true
  | .xf _ => true
  | .lst _ xs => hOks xs
  | .tup xs => hOks xs
  | .isN a => hOk a
  | .att a _ => hOk a
  | .cmp _ a b => hOk a && hOk b
  | .and a b => hOk a && (hOk b && notAnd b)
  | _ => false
def hOks : TXs → Bool
  | .nil => true
  | .cons x xs => hOk x && hOks xs
end
/-- what the written part says of the own errors where they are caught -/
structure HStat {T : Tab} (c : Cxt T) : Prop where
  ga : ∀ (i : Nat) (x : Xd), T.xcs[i]? = some x → PySem.W.findIn c.K (.ref (c.xad i)) "__getattribute__" = some (some (.builtin "BaseException.__getattribute__"))
  gg : ∀ (i : Nat) (x : Xd), T.xcs[i]? = some x → PySem.W.findIn c.K (.ref (c.xad i)) "__getattr__" = some none
  hd : ∀ (i : Nat) (x : Xd), T.xcs[i]? = some x → PySem.W.hasDictIn c.K (c.xad i) = true
  ex : ∀ (i : Nat) (x : Xd), T.xcs[i]? = some x → PySem.W.subIn c.K (.ref (c.xad i)) (.type "BaseException") = some true
  fl : ∀ (i : Nat) (x : Xd), T.xcs[i]? = some x → ∀ p ∈ x.fields, PySem.W.findIn c.K (.ref (c.xad i)) p.1 = some none
  mt : ∀ (i j : Nat) (x y : Xd), T.xcs[i]? = some x → T.xcs[j]? = some y → PySem.W.exmOne c.K (.ref (c.xad i)) (.ref (c.xad j)) = some (decide (i = j))
  gl : ∀ (i : Nat) (x : Xd), T.xcs[i]? = some x → c.mg x.name = some (.ref (c.xad i))
section
variable {T : Tab} {c : Cxt T} {F : Nat → List W → Q W} {X : Cx} {a : Addr} {oe : Obj} {cls : Value} {d : Option Addr} {pn : List (Addr × Obj)} {c1 : Nat} {xs : List W} {pos : Pos}
theorem snd_xf (hs0 : HStat c) (hK : X.K = c.K) (hz : Zc cls d oe) (hf : ∃ vs, oe.data = .fields vs) {i : Nat} {n f : Str} {p : Pos} (hN : X.N[i]? = some n) (hv : Vis X.env.scope n) (hd1 : (n == ("__debug__" : Str)) = false) (hd2 : (n == ("__classdict__" : Str)) = false) :
    PE (X.suite a ((a, oe) :: pn)) (.Attribute (.Name n p) f pos) (rE c F (some (c1, xs)) (some (i, a)) (cls, d) (fun _ _ _ _ => False) (.xf f)) := by
  refine ⟨fun pins s σ H Q I h => ?_⟩
  obtain ⟨m, env, st, S, hp⟩ := h
  have he : PE (X.suite a ((a, oe) :: pn)) (.Name n p) (tVar i) := pe_var (X := X.suite a ((a, oe) :: pn)) hN hv hd1 hd2
  refine attr_of (base_of rfl) (thn (he.run pins s σ H (fun x H1 => x = .ref a ∧ H1 = H) I ⟨_, S.exv i a rfl, rfl, rfl⟩) fun u s1 hh => ?_)
  obtain ⟨x, H1, I1, rx, ex, eH⟩ := hh
  subst ex eH
  obtain rfl : u = Value.ref a := rx
  obtain ⟨ec, xd, hxd, hx⟩ := S.exc c1 xs rfl
  dsimp only [ev] at hp
  rw [hxd] at hp
  dsimp only at hp
  cases el : ((xd.fields.map (·.1)).zip xs).lookup f with
  | none => rw [el] at hp; exact hp.elim
  | some w =>
    rw [el] at hp
    dsimp only at hp
    have hmem : f ∈ xd.fields.map (·.1) := (List.of_mem_zip (PySem.mem_of_lookup el)).1
    rcases hx with ⟨hn, _⟩ | ⟨dd, fs, vs, ed, eM, efs, elen, rv⟩
    · rw [hn] at hmem; cases hmem
    · obtain ⟨v, h4, h5⟩ := lookup_zip rv el
      dsimp only at ec ed
      subst ec ed
      obtain ⟨ha, _⟩ := I1.pin (a, oe) (List.mem_append_left _ List.mem_cons_self)
      obtain ⟨vs0, hd⟩ := hf
      have hx : ObjOk X.prog X.w H1 s1.heap dd (.xd fs) := I1.hok dd _ (fz_same _ _ _ _ _ eM)
      obtain ⟨mA, hns, hr⟩ := hx
      obtain ⟨od, ho, hl⟩ := lookIn_ns hns
      have l : fs.lookup f = some v := by rw [efs]; exact h4
      obtain ⟨u, hu, ru⟩ := RelO.some_of (v := v) (o := mA f) (by rw [← l]; exact hr f)
      have J : PySem.W.InstAt s1.heap a oe (c.xad c1) (some od) := ⟨ha, hz.1, by unfold PySem.W.notCls; rw [hd] <;> rfl, by rw [hz.2]; exact ho⟩
      obtain ⟨pf, hpf, epf⟩ := List.mem_map.mp hmem
      have K1 : (X.suite a ((a, oe) :: pn)).K = c.K := hK
      have KX := I1.kIn
      rw [K1] at KX
      exact HandSPX.exc_get KX J (hs0.ga c1 xd hxd) (hs0.gg c1 xd hxd) (hs0.ex c1 xd hxd) (PySem.W.findObj_own (hs0.hd c1 xd hxd) (by rw [← epf]; exact hs0.fl c1 xd hxd pf hpf) rfl (by rw [hl, hu])) (handed_of ru) ⟨v, H1, I1.tok _, ru, po_pu hp S.sr h5⟩
/-- such a name -/
def xvOf (n : Option Nat) (a : Addr) : Option (Nat × Addr) := n.map fun i => (i, a)
mutual
theorem sH {N : List Str} {sc : Scope} (st0 : Stat c) (hs0 : HStat c) (hK : X.K = c.K) (hu : X.A.units + 65 < cLine) (GS : Gs X N none sc) (hz : Zc cls d oe) (hf : ∃ vs, oe.data = .fields vs) {n : Option Nat} {nm : Option Str} (hn : HdNm X nm n) (hon : ∀ y, nm = some y → okName y = true) :
    ∀ (t : TX) {e : Expr}, hOk t = true → chkE T N nm none sc t e = true → PE (X.suite a ((a, oe) :: pn)) e (rE c F (some (c1, xs)) (xvOf n a) (cls, d) (fun _ _ _ _ => False) t)
  | .v i, e, ho, h => by
    unfold chkE at h
    cases e with
    | Name x p =>
      simp only [asName, Bool.and_eq_true, decide_eq_true_eq] at h
      obtain ⟨h1, h2, h3⟩ := h
      obtain ⟨h4, h5, _⟩ := okName_of h3
      exact snd_v (X := X.suite a ((a, oe) :: pn)) (by show X.N[i]? = _; rw [GS.N]; exact h1) (GS.vis h2) h4 h5
    | _ => cases h
  | .cst dd, e, ho, h => by
    unfold chkE at h
    cases q : asCst e with
    | none => rw [q] at h; cases h
    | some k =>
      rw [q] at h
      rw [cn_eq h]
      exact snd_cst q
  | .xf f, e, ho, h => by
    unfold chkE at h
    cases e with
    | Attribute y g p =>
      cases nm with
      | none => cases h
      | some nn =>
        cases n with
        | none => exact hn.elim
        | some i =>
          obtain ⟨hi, hln⟩ := hn
          cases y with
          | Name y p2 =>
            simp only [asAtt, asName, Bool.and_eq_true, decide_eq_true_eq] at h
            obtain ⟨rfl, rfl⟩ := h
            obtain ⟨o1, o2, _⟩ := okName_of (hon y rfl)
            exact snd_xf hs0 hK hz hf hi (.inl hln) o1 o2
          | _ =>
            simp only [asAtt, asName, Bool.and_eq_true, decide_eq_true_eq] at h
            exact absurd h.2 (by decide)
    | _ => cases nm <;> cases h
  | .lst μ ts, e, ho, h => by
    unfold chkE at h
    unfold hOk at ho
    cases e with
    | List es pos => exact snd_lst (sHs st0 hs0 hK hu GS hz hf hn hon ts ho h).2.1
    | _ => cases h
  | .tup ts, e, ho, h => by
    unfold chkE at h
    unfold hOk at ho
    cases e with
    | Tuple es k pos =>
      simp only [asTup, Bool.and_eq_true, decide_eq_true_eq] at h
      obtain ⟨h0, h1⟩ := h
      obtain ⟨h2, h3, h4⟩ := sHs st0 hs0 hK hu GS hz hf hn hon ts ho h1
      have hsz : es.length ≤ sizeLine := by rw [sizeLine_eq]; omega
      exact snd_tup h3 hsz fun env st ws s q => by rw [evs_len q, h4]; exact hsz
    | _ => cases h
  | .isN a2, e, ho, h => by
    unfold chkE at h
    unfold hOk at ho
    cases q : asCmp e with
    | none => rw [q] at h; cases h
    | some k =>
      obtain ⟨l, p, r⟩ := k
      rw [q] at h
      simp only [Bool.and_eq_true, decide_eq_true_eq] at h
      obtain ⟨rfl, h0, h1⟩ := h
      obtain ⟨pos, rfl⟩ := asCmp_of q
      obtain ⟨k2, p2, rfl⟩ := isNone_of h0
      exact snd_isN (sH st0 hs0 hK hu GS hz hf hn hon a2 ho h1)
  | .att a2 f, e, ho, h => by
    unfold chkE at h
    unfold hOk at ho
    cases e with
    | Attribute x g pos =>
      simp only [asAtt, Bool.and_eq_true, decide_eq_true_eq] at h
      obtain ⟨rfl, h0, h1⟩ := h
      exact snd_att (X := X.suite a ((a, oe) :: pn)) st0 hK h0 (sH st0 hs0 hK hu GS hz hf hn hon a2 ho h1)
    | _ => cases h
  | .cmp o a2 b2, e, ho, h => by
    unfold chkE at h
    unfold hOk at ho
    simp only [Bool.and_eq_true] at ho
    cases q : asCmp e with
    | none => rw [q] at h; cases h
    | some k =>
      obtain ⟨l, p, r⟩ := k
      rw [q] at h
      simp only [Bool.and_eq_true, decide_eq_true_eq, Bool.not_eq_true'] at h
      obtain ⟨rfl, h0, h1, h2⟩ := h
      obtain ⟨pos, rfl⟩ := asCmp_of q
      exact snd_cmp (X := X.suite a ((a, oe) :: pn)) hK hu (sH st0 hs0 hK hu GS hz hf hn hon a2 ho.1 h1) (sH st0 hs0 hK hu GS hz hf hn hon b2 ho.2 h2) h0
  | .and a2 b2, e, ho, h => by
    unfold chkE at h
    unfold hOk at ho
    simp only [Bool.and_eq_true] at ho
    cases e with
    | BoolOp op ys pos =>
      cases op with
      | And =>
        cases ys with
        | nil => cases h
        | cons x ys =>
          cases ys with
          | nil => cases h
          | cons y r =>
            simp only [asBool, Bool.and_eq_true] at h
            obtain ⟨h1, h2⟩ := h
            cases r with
            | nil => exact snd_and (sH st0 hs0 hK hu GS hz hf hn hon a2 ho.1 h1) (pe_one (sH st0 hs0 hK hu GS hz hf hn hon b2 ho.2.1 h2))
            | cons z r =>
              exfalso
              have h2 : chkB T N nm none sc .And b2 (y :: z :: r) = true := h2
              cases b2 <;> first | (exact absurd ho.2.2 (by unfold notAnd; exact Bool.false_ne_true)) | (unfold chkB at h2; exact Bool.false_ne_true h2)
      | Or => cases ys with
        | nil => cases h
        | cons x ys => cases ys <;> cases h
    | _ => cases h
  | .gi _ _, e, ho, h => by cases ho
  | .bin _ _ _ _, e, ho, h => by cases ho
  | .neg _, e, ho, h => by cases ho
  | .chn _ _ _ _ _, e, ho, h => by cases ho
  | .ntN _, e, ho, h => by cases ho
  | .or _ _, e, ho, h => by cases ho
  | .not _, e, ho, h => by cases ho
  | .ite _ _ _, e, ho, h => by cases ho
  | .idx _ _, e, ho, h => by cases ho
  | .slc _ _ _ _, e, ho, h => by cases ho
  | .call _ _, e, ho, h => by cases ho
  | .mth _ _ _, e, ho, h => by cases ho
  | .new _ _, e, ho, h => by cases ho
  | .bi _ _, e, ho, h => by cases ho
  | .bm _ _ _, e, ho, h => by cases ho
  | .lc _ _ _ _ _ _, e, ho, h => by cases ho
  | .frz _, e, ho, h => by cases ho
  | .tupS _, e, ho, h => by cases ho
  | .lstS _ _, e, ho, h => by cases ho
theorem sHs {N : List Str} {sc : Scope} (st0 : Stat c) (hs0 : HStat c) (hK : X.K = c.K) (hu : X.A.units + 65 < cLine) (GS : Gs X N none sc) (hz : Zc cls d oe) (hf : ∃ vs, oe.data = .fields vs) {n : Option Nat} {nm : Option Str} (hn : HdNm X nm n) (hon : ∀ y, nm = some y → okName y = true) :
    ∀ (ts : TXs) {es : List Expr}, hOks ts = true → chkEs T N nm none sc ts es = true → (∀ e ∈ es, noStar e = true) ∧ PA (X.suite a ((a, oe) :: pn)) es (rA c F (some (c1, xs)) (xvOf n a) (cls, d) (fun _ _ _ _ => False) ts) ∧ ts.len = es.length
  | .nil, es, ho, h => by
    unfold chkEs at h
    cases es with
    | nil => exact ⟨fun e he => (nomatch he), snd_nil, rfl⟩
    | cons _ _ => cases h
  | .cons t ts, es, ho, h => by
    unfold hOks at ho
    simp only [Bool.and_eq_true] at ho
    cases es with
    | nil => unfold chkEs at h; cases h
    | cons e es =>
      unfold chkEs at h
      simp only [Bool.and_eq_true] at h
      obtain ⟨h1, h2, h3⟩ := h
      obtain ⟨h4, h5, h6⟩ := sHs st0 hs0 hK hu GS hz hf hn hon ts ho.2 h3
      refine ⟨fun x hx => ?_, snd_cons h1 (sH st0 hs0 hK hu GS hz hf hn hon t ho.1 h2) h5, ?_⟩
      · rcases List.mem_cons.mp hx with rfl | hx
        · exact h1
        · exact h4 x hx
      · show ts.len + 1 = es.length + 1
        rw [h6]
end
end
end Mi
set_option maxHeartbeats 4000000
set_option autoImplicit false
namespace Mi
open PySem PySem.Spec PyProof.Rows L2
/-! ## try -/
def nmB (N : List Str) (sc : Scope) : Option Str → Option Nat → Bool
  | none, none => true
  | some y, some i => decide (N[i]? = some y) && (decide (nk sc y = some .local) && okName y)
  | _, _ => false
abbrev Hd := Nat × Option Nat × Bool × TX
def chkHb (T : Tab) (N : List Str) (sc : Scope) (nm : Option Str) (t : TX) : Bool → Stmt → Bool
  | true, .Return (some e) _ => chkE T N nm none sc t e
  | false, .Expr e _ => !isComp e && chkE T N nm none sc t e
  | _, _ => false
def asHd : ExceptHandler → Option (Str × Option Str × Stmt)
  | .ExceptHandler (some (.Name x _)) nm [st] _ => some (x, nm, st)
  | _ => none
theorem asHd_of {h : ExceptHandler} {x : Str} {nm : Option Str} {st : Stmt} (q : asHd h = some (x, nm, st)) : ∃ p p', h = .ExceptHandler (some (.Name x p)) nm [st] p' := by
  unfold asHd at q
  split at q
  · cases q; exact ⟨_, _, rfl⟩
  · cases q
def chkHd (T : Tab) (N : List Str) (sc : Scope) : List Hd → List ExceptHandler → Bool
  | [], [] => true
  | (i, n, rt, t) :: hs, h :: hds => (match asHd h, T.xcs[i]? with
    | some (x, nm, st), some xd => decide (xd.name = x) && (glB sc x && (nmB N sc nm n && (hOk t && (chkHb T N sc nm t rt st && chkHd T N sc hs hds))))
    | _, _ => false)
  | _, _ => false
section
variable {T : Tab} (c : Cxt T) (F : Nat → List W → Q W)
def rH (i : Nat) (n : Option Nat) (rt : Bool) (t : TX) : Addr → Value → Option Addr → L2.TS := fun a cls d D σ H => ∃ xs m env st, Sim c (some (i, xs)) (xvOf n a) (cls, d) m env st σ H ∧ match ev T F (some (i, xs)) t env st with
  | .ok w st' => ∀ m' v H', Ext m st H m' st' H' → SR c.kt m' st' H' → RelW c.kt m' (fz m' st' H') w v → if rt then D.rt v H' else D.nx σ H'
  | _ => False
def hdT (h : Hd) : HdT := (.ref (c.xad h.1), h.2.1, rH c F h.1 h.2.1 h.2.2.1 h.2.2.2)
end
section
variable {T : Tab} {c : Cxt T} {F : Nat → List W → Q W} {cx : Value × Option Addr} {Wx : WX} {X : Cx} {lv : Nat} {pos : Pos} {N : List Str} {sc : Scope}
theorem nm_of (GS : Gs X N none sc) {nm : Option Str} {n : Option Nat} (h : nmB N sc nm n = true) : HdNm X nm n ∧ ∀ y, nm = some y → okName y = true := by
  cases nm with
  | none => cases n with
    | none => exact ⟨trivial, fun y e => nomatch e⟩
    | some i => cases h
  | some y => cases n with
    | none => cases h
    | some i =>
      simp only [nmB, Bool.and_eq_true, decide_eq_true_eq] at h
      obtain ⟨h1, h2, h3⟩ := h
      refine ⟨⟨by rw [GS.N]; exact h1, ?_⟩, fun z e => by cases e; exact h3⟩
      show X.env.scope.names.lookup y = _
      rw [GS.sc]; exact h2
theorem po_ok {α β : Type} {m : List Addr} {st : Store} {H : Hp} {E : XK} {rel : List Addr → Hp → α → β → Prop} {r : R α} {Qb : β → Hp → Prop} (h : match r with
    | .ok a s => ∀ m' b H', Ext m st H m' s H' → SR c.kt m' s H' → rel m' (fz m' s H') a b → Qb b H'
    | _ => False) : Po c m st H E rel r Qb := by
  cases r with
  | ok a s => exact h
  | ex i xs s => exact h.elim
  | no => exact h.elim
theorem hdsN (st0 : Stat c) (hs0 : HStat c) (G : Gd c F X Wx lv) (GS : Gs X N none sc) : ∀ (hs : List Hd) (hds : List ExceptHandler), chkHd T N sc hs hds = true → HdsN X hds (hs.map (hdT c F))
  | [], hds, h => by
    cases hds with
    | nil => exact .nil
    | cons _ _ => unfold chkHd at h; cases h
  | (i, n, rt, t) :: hs, hds, h => by
    cases hds with
    | nil => unfold chkHd at h; cases h
    | cons hd hds =>
      unfold chkHd at h
      cases q : asHd hd with
      | none => rw [q] at h; cases h
      | some k =>
        obtain ⟨x, nm, st⟩ := k
        rw [q] at h
        cases q2 : T.xcs[i]? with
        | none => rw [q2] at h; cases h
        | some xd =>
          rw [q2] at h
          simp only [Bool.and_eq_true, decide_eq_true_eq] at h
          obtain ⟨rfl, h1, h2, h3, h4, h5⟩ := h
          obtain ⟨p, p', rfl⟩ := asHd_of q
          obtain ⟨g1, g2, _⟩ := GS.gl h1
          obtain ⟨n1, n2⟩ := nm_of GS h2
          refine .cons (c := .ref (c.xad i)) ⟨g1, g2, .inl (by rw [G.mg]; exact hs0.gl i xd q2)⟩ n1 (fun a oe cls d pn hz hf => ?_) (hdsN st0 hs0 G GS hs hds h5)
          have sh : ∀ (e : Expr) (xs : List W), chkE T N nm none sc t e = true → PE (X.suite a ((a, oe) :: pn)) e (rE c F (some (i, xs)) (xvOf n a) (cls, d) (fun _ _ _ _ => False) t) := fun e xs hc => sH st0 hs0 G.K G.un GS hz hf n1 n2 t h3 hc
          cases st with
          | Return eo pr =>
            cases eo with
            | none => cases rt <;> cases h4
            | some e =>
              cases rt with
              | false => cases h4
              | true =>
                refine ⟨fun pins s σ H D I h => ?_⟩
                obtain ⟨xs, m, env, st, S, hp⟩ := h
                dsimp only at hp
                refine (pss_one (ps_ret (sh e xs h4))).run pins s σ H D I ⟨m, env, st, S, ?_⟩
                cases ee : ev T F (some (i, xs)) t env st with
                | ok w s2 => rw [ee] at hp; exact hp
                | ex j ys s2 => rw [ee] at hp; exact hp.elim
                | no => rw [ee] at hp; exact hp.elim
          | Expr e pr =>
            cases rt with
            | true => cases h4
            | false =>
              have h4 : (!isComp e && chkE T N nm none sc t e) = true := h4
              simp only [Bool.and_eq_true, Bool.not_eq_true'] at h4
              refine ⟨fun pins s σ H D I h => ?_⟩
              obtain ⟨xs, m, env, st, S, hp⟩ := h
              dsimp only at hp
              refine (pss_one (ps_expr (sh e xs h4.2) (swaps_not h4.1 _ _ _))).run pins s σ H D I ⟨m, env, st, S, ?_⟩
              cases ee : ev T F (some (i, xs)) t env st with
              | ok w s2 => rw [ee] at hp; exact hp
              | ex j ys s2 => rw [ee] at hp; exact hp.elim
              | no => rw [ee] at hp; exact hp.elim
          | _ => cases rt <;> cases h4
theorem Sim.hd {m : List Addr} {env : Ev} {st : Store} {σ : L2.St} {H : Hp} {i : Nat} {xs : List W} {cls : Value} {d : Option Addr} (S : Sim c none none cx m env st σ H) (r : XRel c m (fz m st H) i xs cls d) : Sim c (some (i, xs)) none (cls, d) m env st σ H :=
  ⟨S.sr, S.len, S.loc, fun j ys e => by cases e; exact r, fun _ _ e => nomatch e⟩
theorem Sim.hdS {m : List Addr} {env : Ev} {st : Store} {σ : L2.St} {H : Hp} {i j : Nat} {xs : List W} {cls : Value} {d : Option Addr} {a : Addr} (S : Sim c none none cx m env st σ H) (r : XRel c m (fz m st H) i xs cls d) (hj : j < σ.length) : Sim c (some (i, xs)) (some (j, a)) (cls, d) m (env.set j none) st (σ.set j (some (.ref a))) H := by
  refine ⟨S.sr, by simp [S.len], fun k w h => ?_, fun j ys e => by cases e; exact r, fun k b e => by cases e; exact List.getElem?_set_self hj⟩
  by_cases e : j = k
  · subst e
    rw [List.getElem?_set_self (by rw [S.len]; exact hj)] at h
    cases h
  · rw [List.getElem?_set_ne e] at h ⊢
    exact S.loc k w h
theorem Sim.unset {m : List Addr} {env : Ev} {st : Store} {σ : L2.St} {H : Hp} {j : Nat} (S : Sim c none none cx m env st σ H) : Sim c none none cx m (env.set j none) st (σ.set j none) H := by
  refine ⟨S.sr, by simp [S.len], fun k w h => ?_, (fun _ _ e => nomatch e), (fun _ _ e => nomatch e)⟩
  by_cases e : j = k
  · subst e
    by_cases hj : j < env.length
    · rw [List.getElem?_set_self hj] at h; cases h
    · rw [List.getElem?_eq_none (by simpa using hj)] at h; cases h
  · rw [List.getElem?_set_ne e] at h ⊢
    exact S.loc k w h
theorem set_set {σ : L2.St} {j : Nat} {v w : Option V} : (σ.set j v).set j w = σ.set j w := by
  apply List.ext_getElem?
  intro k
  by_cases e : j = k
  · subst e
    by_cases hj : j < σ.length
    · rw [List.getElem?_set_self (by simpa using hj), List.getElem?_set_self hj]
    · rw [List.getElem?_eq_none (by simpa using hj), List.getElem?_eq_none (by simpa using hj)]
  · rw [List.getElem?_set_ne e, List.getElem?_set_ne e, List.getElem?_set_ne e]
theorem handle_ok (hs0 : HStat c) (GS : Gs X N none sc) {D : Ends} {m0 : List Addr} {st0 : Store} {H0 : Hp} {c1 : Nat} {xs : List W} {env1 : Ev} {s : Store} {m : List Addr} {cls : Value} {d : Option Addr} {σ : L2.St} {H : Hp} (E : Ext m0 st0 H0 m s H) (S : Sim c none none cx m env1 s σ H) (r : XRel c m (fz m s H) c1 xs cls d) (hlen : σ.length = N.length) :
    ∀ (hs : List Hd) (hds : List ExceptHandler), chkHd T N sc hs hds = true → PoS c cx Wx D m0 st0 H0 (handle T F c1 xs env1 s hs) → wManyN c.K Wx D (hs.map (hdT c F)) cls d σ H
  | [], hds, h, hp => by
    unfold handle at hp
    exact hp m cls d σ H E S r
  | (i, n, rt, t) :: hs, hds, h, hp => by
    cases hds with
    | nil => unfold chkHd at h; cases h
    | cons hd hds =>
      unfold chkHd at h
      cases q : asHd hd with
      | none => rw [q] at h; cases h
      | some k =>
        obtain ⟨x, nm, st⟩ := k
        rw [q] at h
        cases q2 : T.xcs[i]? with
        | none => rw [q2] at h; cases h
        | some xd =>
          rw [q2] at h
          simp only [Bool.and_eq_true, decide_eq_true_eq] at h
          obtain ⟨_, _, h2, _, _, h5⟩ := h
          obtain ⟨rfl, xd1, hx1, hr⟩ := id r
          refine ⟨decide (c1 = i), hs0.mt c1 i xd1 xd hx1 q2, fun hb a ha => ?_, fun hb => ?_⟩
          · have e : c1 = i := of_decide_eq_true hb
            subst e
            unfold handle at hp
            rw [if_pos rfl] at hp
            cases ev1 : ev T F (some (c1, xs)) t (unE env1 n) s with
            | no => rw [ev1] at hp; exact hp.elim
            | ex j ys s2 => rw [ev1] at hp; exact hp.elim
            | ok w s2 =>
              rw [ev1] at hp
              have hp : PoS c cx Wx D m0 st0 H0 (if rt then .rt w s2 else .nx (unE env1 n) s2) := hp
              cases n with
              | none =>
                show rH c F c1 none rt t a _ d D σ H
                refine ⟨xs, m, env1, s, S.hd r, ?_⟩
                have ev2 : ev T F (some (c1, xs)) t env1 s = .ok w s2 := ev1
                rw [ev2]
                intro m' v H' e1 S1 rv
                cases rt with
                | true => exact hp m' v H' (E.trans e1) S1 rv
                | false => exact hp m' σ H' (E.trans e1) (S.ext e1 S1)
              | some j =>
                have hj : j < σ.length := by
                  cases nm with
                  | none => cases h2
                  | some y =>
                    simp only [nmB, Bool.and_eq_true, decide_eq_true_eq] at h2
                    rw [hlen]
                    exact (List.getElem?_eq_some_iff.mp h2.1).1
                show rH c F c1 (some j) rt t a _ d _ (σ.set j (some (.ref a))) H
                refine ⟨xs, m, env1.set j none, s, S.hdS r hj, ?_⟩
                have ev2 : ev T F (some (c1, xs)) t (env1.set j none) s = .ok w s2 := ev1
                rw [ev2]
                intro m' v H' e1 S1 rv
                cases rt with
                | true => exact hp m' v H' (E.trans e1) S1 rv
                | false =>
                  show D.nx ((σ.set j (some (.ref a))).set j none) H'
                  rw [set_set]
                  exact hp m' _ H' (E.trans e1) ((S.ext e1 S1).unset)
          · have e : c1 ≠ i := of_decide_eq_false hb
            unfold handle at hp
            rw [if_neg e] at hp
            exact handle_ok hs0 GS E S r hlen hs hds h5 hp
/-! the slots keep their number -/
def O.lenIs (n : Nat) : O → Prop
  | .nx e _ => e.length = n
  | .ex _ _ e _ => e.length = n
  | _ => True
theorem bo_len {α : Type} {x : R α} {env : Ev} {f : α → Store → O} {n : Nat} (he : env.length = n) (h : ∀ a s, x = .ok a s → (f a s).lenIs n) : (bo x env f).lenIs n := by
  cases x with
  | ok a s => exact h a s rfl
  | ex i xs s => exact he
  | no => trivial
theorem thn_len {o : O} {f : Ev → Store → O} {n : Nat} (h1 : o.lenIs n) (h2 : ∀ env s, env.length = n → (f env s).lenIs n) : (o.thn f).lenIs n := by
  cases o with
  | nx e s => exact h2 e s h1
  | ex i xs e s => exact h1
  | rt w s => trivial
  | no => trivial
mutual
theorem asgn_len : ∀ (g : TG) {w : W} {env env' : Ev} {st s : Store}, asgn g w env st = .ok env' s → env'.length = env.length
  | .nm i, w, env, env', st, s, h => by cases h; simp
  | .tp gs, w, env, env', st, s, h => by
    unfold asgn at h
    obtain ⟨xs, s1, h1, h2⟩ := bd_inv h
    exact asgns_len2 gs h2
theorem asgns_len2 : ∀ (gs : List TG) {ws : List W} {env env' : Ev} {st s : Store}, asgns gs ws env st = .ok env' s → env'.length = env.length
  | [], [], env, env', st, s, h => by cases h; rfl
  | [], _ :: _, env, env', st, s, h => by cases h
  | g :: gs, [], env, env', st, s, h => by cases h
  | g :: gs, w :: ws, env, env', st, s, h => by
    unfold asgns at h
    obtain ⟨env1, s1, h1, h2⟩ := bd_inv h
    exact (asgns_len2 gs h2).trans (asgn_len g h1)
end
theorem forGo_len {one : W → Ev → Store → O} {src : List (Nat × List W)} {n : Nat} (h1 : ∀ x env s, env.length = n → (one x env s).lenIs n) : ∀ (xs : List W) {env : Ev} {st : Store}, env.length = n → (forGo one src xs env st).lenIs n
  | [], env, st, he => by
    unfold forGo
    exact bo_len he fun _ s _ => he
  | x :: xs, env, st, he => by
    unfold forGo
    exact bo_len he fun _ s _ => thn_len (h1 x env s he) fun env' s' he' => forGo_len h1 xs he'
theorem whlGo_len {c : Ev → Q Bool} {body : Ev → Store → O} {n : Nat} (h1 : ∀ env s, env.length = n → (body env s).lenIs n) : ∀ (k : Nat) {env : Ev} {st : Store}, env.length = n → (whlGo c body k env st).lenIs n
  | 0, env, st, he => trivial
  | k + 1, env, st, he => by
    unfold whlGo
    refine bo_len he fun q s _ => ?_
    cases q with
    | true => exact thn_len (h1 env s he) fun env' s' he' => whlGo_len h1 k he'
    | false => exact he
theorem unE_len {env : Ev} {n : Option Nat} : (unE env n).length = env.length := by cases n <;> simp [unE]
theorem handle_len {c1 : Nat} {xs : List W} {env1 : Ev} {s : Store} {n : Nat} (he : env1.length = n) : ∀ (hs : List Hd), (handle T F c1 xs env1 s hs).lenIs n
  | [] => he
  | (i, nn, rt, t) :: hs => by
    unfold handle
    by_cases h : c1 = i
    · rw [if_pos h]
      refine bo_len he fun w s _ => ?_
      cases rt with
      | true => trivial
      | false => show (unE env1 nn).length = n; rw [unE_len, he]
    · rw [if_neg h]
      exact handle_len he hs
mutual
theorem exS_len {xc : Option (Nat × List W)} : ∀ (t : TS) {env : Ev} {st : Store} {n : Nat}, env.length = n → (exS T F xc t env st).lenIs n
  | .ex e, env, st, n, he => by unfold exS; exact bo_len he fun _ s _ => he
  | .asg g e, env, st, n, he => by
    unfold exS
    exact bo_len he fun w s _ => bo_len he fun env' s' h => (asgn_len g h).trans he
  | .par i j a b, env, st, n, he => by
    unfold exS
    exact bo_len he fun w s _ => bo_len he fun y s' h => by show ((env.set i _).set j _).length = n; simp [he]
  | .ret e, env, st, n, he => by unfold exS; exact bo_len he fun _ s _ => trivial
  | .ret0, env, st, n, he => by unfold exS; trivial
  | .ite c a b, env, st, n, he => by
    unfold exS
    refine bo_len he fun q s _ => ?_
    cases q with
    | true => exact exSs_len a he
    | false => exact exSs_len b he
  | .loop g it body, env, st, n, he => by
    unfold exS
    exact bo_len he fun k s _ => forGo_len (fun x env s he' => bo_len he' fun env' s' h => exSs_len body ((asgn_len g h).trans he')) k.xs he
  | .whl k c body, env, st, n, he => by
    unfold exS
    exact whlGo_len (fun env s he' => exSs_len body he') k he
  | .tri body hs, env, st, n, he => by
    unfold exS
    have h := exSs_len (xc := xc) body (st := st) he
    cases e : exSs T F xc body env st with
    | ex c1 xs env1 s => rw [e] at h; exact handle_len h hs
    | nx env' s => rw [e] at h; exact h
    | rt w s => trivial
    | no => trivial
  | .rai i xs, env, st, n, he => by
    unfold exS
    refine bo_len he fun ws s _ => ?_
    cases T.xcs[i]? with
    | none => trivial
    | some d =>
      dsimp only
      by_cases h : xOk d.mi ws = true
      · rw [if_pos h]
        exact bo_len he fun ys s' _ => he
      · rw [if_neg h]
        trivial
  | .sat o f e, env, st, n, he => by
    unfold exS
    exact bo_len he fun w s _ => bo_len he fun x s' _ => bo_len he fun _ s'' _ => he
  | .six o i e, env, st, n, he => by
    unfold exS
    exact bo_len he fun w s _ => bo_len he fun x s' _ => bo_len he fun y s'' _ => bo_len he fun _ s3 _ => he
  | .pas, env, st, n, he => by unfold exS; exact he
theorem exSs_len {xc : Option (Nat × List W)} : ∀ (t : TSs) {env : Ev} {st : Store} {n : Nat}, env.length = n → (exSs T F xc t env st).lenIs n
  | .nil, env, st, n, he => by unfold exSs; exact he
  | .cons x xs, env, st, n, he => by
    unfold exSs
    exact thn_len (exS_len x he) fun env' s' he' => exSs_len xs he'
end
/-- more of the context of a body -/
structure Gx (X : Cx) : Prop where
  po : PassesOwn (model X.prog X.w) X.A X.env X.xe
  stk : X.stack = X.env :: X.outer
  frm : X.env.frame = some X.env.locals
  kind : X.env.scope.kind = .function
theorem Gd.tr (G : Gd c F X Wx lv) {pn : List (Addr × Obj)} {xe : Value → Shared → Prop} {W : WX} (tk : Takes (X.tr pn xe) W) : Gd c F (X.tr pn xe) W lv := ⟨G.prog, G.w, G.K, G.mg, G.base, G.nd, G.un, tk, G.calm, G.room, G.fns, G.fns', G.np⟩
theorem sns_tri (st0 : Stat c) (hs0 : HStat c) (G : Gd c F X Wx lv) (GS : Gs X N none sc) (GX : Gx X) {body : List Stmt} {tb : TSs} {hs : List Hd} {h₀ : ExceptHandler} {hds : List ExceptHandler}
    (hb : ∀ (W : WX) (X' : Cx), Gd c F X' W lv → Gs X' N none sc → Gx X' → PSs X' body (rSs c F cx W tb)) (hh : chkHd T N sc hs (h₀ :: hds) = true) : PS X (.Try body (h₀ :: hds) [] [] pos) (rS c F cx Wx (.tri tb hs)) := by
  have p := ps_try_n (pos := pos) (tb := fun W => rSs c F cx W tb) GX.stk GX.frm G.nd G.takes (fun W pn xe tk po => hb W (X.tr pn xe) (G.tr tk) ⟨GS.sc, GS.N, GS.fn⟩ ⟨po, GX.stk, GX.frm, GX.kind⟩) (hdsN (F := F) st0 hs0 G GS hs (h₀ :: hds) hh)
  refine ⟨fun pins s σ H D I h => ?_⟩
  refine p.run pins s σ H D I ?_
  obtain ⟨m, env, st, S, hp⟩ := h
  refine ⟨m, env, st, S, ?_⟩
  unfold exS at hp
  cases e : exSs T F none tb env st with
  | nx env' s' => rw [e] at hp; exact hp
  | rt w s' => rw [e] at hp; exact hp
  | no => rw [e] at hp; exact hp
  | ex c1 xs env1 s' =>
    rw [e] at hp
    intro m' cls d σ' H' E1 S1 r
    rw [G.K]
    have h := exSs_len (T := T) (F := F) (xc := none) tb (env := env) (st := st) rfl
    rw [e] at h
    have h : env1.length = env.length := h
    exact handle_ok (N := N) (sc := sc) hs0 GS E1 S1 r (by rw [← S1.len, h, S.len, I.len, GS.N]) hs (h₀ :: hds) hh hp
end
end Mi
set_option maxHeartbeats 4000000
set_option autoImplicit false
namespace Mi
open PySem PySem.Spec PyProof.Rows L2
/-! ## a statement of the small language is such a text -/
def ttLine (ts : List Expr) : Nat := (ts.head?.map (·.pos.line)).getD 0
def isStar : Expr → Bool
  | .Starred .. => true
  | _ => false
def nmIf (k : Str → Option NameKind) (l : Nat) : Expr → Option Str
  | .Name id pos => if k id == some .local && pos.line == l then some id else none
  | _ => none
def ttNames (k : Str → Option NameKind) (ts : List Expr) : List Str := ts.filterMap (nmIf k (ttLine ts))
theorem sws_eq {ts vs : List Expr} {k k2 : Nat} {p p2 : Pos} {env : Env} : swappedStores [.Tuple ts k p] (.Tuple vs k2 p2) env = (if (!(ts.length == 2 || ts.length == 3) || vs.length != ts.length || env.blockKind != .function) = true then pure none else if vs.any isStar = true then pure none else
    if ((ttNames env.kindOf ts).length != ts.length || (ttNames env.kindOf ts).eraseDups.length != (ttNames env.kindOf ts).length) = true then pure none else if vs.all (foldedForSure 8) = true then pure none else
    if vs.all (constantsAlone 8) = true then (do unsupported "assign.tuple-of-constant-expressions:order-of-the-stores"; pure (some (ttNames env.kindOf ts))) else pure (some (ttNames env.kindOf ts))) := by
  unfold swappedStores
  simp only [pure_bind]
  rfl
/-- the stores are not exchanged -/
def ttNone (sc : Scope) (ts vs : List Expr) : Bool := !(ts.length == 2 || ts.length == 3) || vs.length != ts.length || vs.any isStar || (ttNames (nk sc) ts).length != ts.length || (ttNames (nk sc) ts).eraseDups.length != (ttNames (nk sc) ts).length || vs.all (foldedForSure 8)
def swNone (sc : Scope) : Expr → Expr → Bool
  | .Tuple ts _ _, .Tuple vs _ _ => ttNone sc ts vs
  | .List _ _, .Tuple _ _ _ => false
  | _, _ => true
theorem tt_none {sc : Scope} {env : Env} {ts vs : List Expr} {k k2 : Nat} {p p2 : Pos} (hs : env.scope = sc) (h : ttNone sc ts vs = true) : swappedStores [.Tuple ts k p] (.Tuple vs k2 p2) env = pure none := by
  have hk : env.kindOf = nk sc := by funext id; show env.scope.names.lookup id = _; rw [hs]; rfl
  rw [sws_eq, hk]
  by_cases c1 : (!(ts.length == 2 || ts.length == 3) || vs.length != ts.length || env.blockKind != .function) = true
  · rw [if_pos c1]
  · rw [if_neg c1]
    by_cases c2 : vs.any isStar = true
    · rw [if_pos c2]
    · rw [if_neg c2]
      by_cases c3 : ((ttNames (nk sc) ts).length != ts.length || (ttNames (nk sc) ts).eraseDups.length != (ttNames (nk sc) ts).length) = true
      · rw [if_pos c3]
      · rw [if_neg c3]
        by_cases c4 : vs.all (foldedForSure 8) = true
        · rw [if_pos c4]
        · exfalso
          unfold ttNone at h
          simp only [Bool.not_eq_true] at c1 c2 c3 c4
          simp only [Bool.or_eq_false_iff] at c1 c3
          rw [c2, c3.1, c3.2, c4, c1.1.2] at h
          obtain ⟨⟨c5, _⟩, _⟩ := c1
          simp only [Bool.or_false] at h
          rw [h] at c5
          cases c5
theorem sw_none {sc : Scope} {env : Env} {tg e : Expr} (hs : env.scope = sc) (h : swNone sc tg e = true) : swappedStores [tg] e env = pure none := by
  cases tg with
  | Tuple ts k p =>
    cases e with
    | Tuple vs k2 p2 => exact tt_none hs h
    | _ => rfl
  | List ts p =>
    cases e with
    | Tuple vs k2 p2 => cases h
    | _ => rfl
  | _ => rfl
/-- the stores of a, b = x, y are exchanged -/
def ttSome (sc : Scope) (x y : Str) (px py : Pos) (a b : Expr) : Bool := decide (nk sc x = some .local) && (decide (nk sc y = some .local) && (decide (py.line = px.line) && (decide (x ≠ y) && (noStar a && (noStar b && (!([a, b].all (foldedForSure 8)) && !([a, b].all (constantsAlone 8))))))))
theorem erase_two {x y : Str} (h : x ≠ y) : ([x, y].eraseDups).length = 2 := by
  have e : (y == x) = false := by simpa using Ne.symm h
  simp [List.eraseDups_cons, List.filter, e]
theorem tt_some {sc : Scope} {env : Env} {x y : Str} {px py p p2 : Pos} {a b : Expr} {k k2 : Nat} (hs : env.scope = sc) (hkd : env.scope.kind = .function) (h : ttSome sc x y px py a b = true) : swappedStores [.Tuple [.Name x px, .Name y py] k p] (.Tuple [a, b] k2 p2) env = pure (some [x, y]) := by
  unfold ttSome at h
  simp only [Bool.and_eq_true, decide_eq_true_eq, Bool.not_eq_true'] at h
  obtain ⟨h1, h2, h3, h4, h5, h6, h7, h8⟩ := h
  have hk : ∀ id, env.kindOf id = nk sc id := fun id => by show env.scope.names.lookup id = _; rw [hs]; rfl
  have hb : (env.blockKind != .function) = false := by unfold Env.blockKind; rw [hkd]; rfl
  have hst : [a, b].any isStar = false := by
    have ha : isStar a = false := by cases a <;> first | rfl | (cases h5)
    have hb2 : isStar b = false := by cases b <;> first | rfl | (cases h6)
    simp [ha, hb2]
  have hl : (py.line == px.line) = true := by rw [h3]; simp
  have hk2 : env.kindOf = nk sc := funext hk
  rw [sws_eq, hk2]
  have hn : ttNames (nk sc) [Expr.Name x px, Expr.Name y py] = [x, y] := by
    unfold ttNames
    have e1 : ttLine [Expr.Name x px, Expr.Name y py] = px.line := rfl
    rw [e1]
    have e2 : nmIf (nk sc) px.line (.Name x px) = some x := by unfold nmIf; dsimp only; rw [h1]; simp
    have e3 : nmIf (nk sc) px.line (.Name y py) = some y := by unfold nmIf; dsimp only; rw [h2, hl]; simp
    rw [List.filterMap_cons, e2, List.filterMap_cons, e3]
    rfl
  rw [hn, erase_two h4]
  rw [if_neg (by rw [hb]; simp), if_neg (by rw [hst]; simp), if_neg (by simp), if_neg (by rw [h7]; simp), if_neg (by rw [h8]; simp)]
def okComp : Expr → Bool
  | .SetComp _ _ _ _ => false
  | .DictComp _ _ _ _ _ => false
  | _ => true
/-- the list's comprehension is stored before its names go -/
def swapB (sc : Scope) : Expr → Expr → Bool
  | .Name y py, .ListComp _ _ s p => decide (nk sc y = some .local) && ((py.line == p.line) && !(s.names.any fun (n, k) => n == y && (k == .local || k == .cell)))
  | _, _ => false
theorem sw_false {sc : Scope} {env : Env} {tg e : Expr} {l : Nat} (hs : env.scope = sc) (hk : env.scope.kind = .function) (ho : okComp e = true) (h : swapB sc tg e = false) : swapsWithSole [tg] e l env = pure false := by
  show swapsWith e (some tg) l env = pure false
  by_cases hc : isComp e = false
  · exact swaps_not hc _ _ _
  · cases e with
    | ListComp el gs s p =>
      cases tg with
      | Name y py =>
        unfold swapsWith
        have kd : env.kindOf y = nk sc y := by show env.scope.names.lookup y = _; rw [hs]; rfl
        have hb : env.blockKind = .function := by unfold Env.blockKind; rw [hk]; rfl
        simp only [pure_bind, hb, kd, Expr.pos]
        have h : (decide (nk sc y = some .local) && ((py.line == p.line) && !(s.names.any fun (n, k) => n == y && (k == .local || k == .cell)))) = false := h
        have e1 : (nk sc y == some NameKind.local) = decide (nk sc y = some .local) := by
          by_cases z : nk sc y = some .local
          · rw [z]; rfl
          · rw [decide_eq_false z]
            exact beq_eq_false_iff_ne.mpr z
        rw [e1]
        rw [← Bool.and_assoc] at h
        show (pure (true && decide (nk sc y = some .local) && (py.line == p.line) && !(s.names.any fun (n, k) => n == y && (k == .local || k == .cell))) : Sem Bool) = _
        rw [Bool.true_and, h]
      | _ => rfl
    | SetComp _ _ _ _ => cases ho
    | DictComp _ _ _ _ _ => cases ho
    | _ => exact absurd rfl hc
def asPar : Stmt → Option (Str × Pos × Str × Pos × Expr × Expr)
  | .Assign [.Tuple [.Name x px, .Name y py] _ _] (.Tuple [ea, eb] _ _) _ => some (x, px, y, py, ea, eb)
  | _ => none
theorem asPar_of {s : Stmt} {x y : Str} {px py : Pos} {ea eb : Expr} (h : asPar s = some (x, px, y, py, ea, eb)) : ∃ k1 p1 k2 p2 pos, s = .Assign [.Tuple [.Name x px, .Name y py] k1 p1] (.Tuple [ea, eb] k2 p2) pos := by
  unfold asPar at h
  split at h
  · cases h; exact ⟨_, _, _, _, _, rfl⟩
  · cases h
def asTri : Stmt → Option (List Stmt × ExceptHandler × List ExceptHandler)
  | .Try x (h :: hds) [] [] _ => some (x, h, hds)
  | _ => none
theorem asTri_of {s : Stmt} {x : List Stmt} {hd : ExceptHandler} {hds : List ExceptHandler} (h : asTri s = some (x, hd, hds)) : ∃ pos, s = .Try x (hd :: hds) [] [] pos := by
  unfold asTri at h
  split at h
  · cases h; exact ⟨_, rfl⟩
  · cases h
def asRai : Stmt → Option (Str × List Expr)
  | .Raise (some (.Call (.Name x _) es [] _)) none _ => some (x, es)
  | _ => none
theorem asRai_of {s : Stmt} {x : Str} {es : List Expr} (h : asRai s = some (x, es)) : ∃ p pos pos2, s = .Raise (some (.Call (.Name x p) es [] pos)) none pos2 := by
  unfold asRai at h
  split at h
  · cases h; exact ⟨_, _, _, rfl⟩
  · cases h
def asSat : Stmt → Option (Expr × Str × Expr)
  | .Assign [.Attribute eo g _] e _ => some (eo, g, e)
  | _ => none
theorem asSat_of {s : Stmt} {eo e : Expr} {g : Str} (h : asSat s = some (eo, g, e)) : ∃ p pos, s = .Assign [.Attribute eo g p] e pos := by
  unfold asSat at h
  split at h
  · cases h; exact ⟨_, _, rfl⟩
  · cases h
def asSix : Stmt → Option (Expr × Expr × Expr)
  | .Assign [.Subscript eo ei _] e _ => some (eo, ei, e)
  | _ => none
theorem asSix_of {s : Stmt} {eo ei e : Expr} (h : asSix s = some (eo, ei, e)) : ∃ p pos, s = .Assign [.Subscript eo ei p] e pos := by
  unfold asSix at h
  split at h
  · cases h; exact ⟨_, _, rfl⟩
  · cases h
mutual
def chkS (T : Tab) (N : List Str) (sc : Scope) : TS → Stmt → Bool
  | .ex t, .Expr e _ => !isComp e && chkE T N none none sc t e
  | .asg g t, .Assign [tg] e _ => noStar tg && (chkG N none sc g tg && (chkE T N none none sc t e && (okComp e && (swNone sc tg e && (if swapB sc tg e then (match t with
    | .lc _ _ _ _ _ _ => true
    | _ => false) else true)))))
  | .par i j a b, s => (match asPar s with
    | some (x, px, y, py, ea, eb) => decide (N[i]? = some x) && (decide (N[j]? = some y) && (decide (i ≠ j) && (ttSome sc x y px py ea eb && (chkE T N none none sc a ea && chkE T N none none sc b eb))))
    | none => false)
  | .ret t, .Return (some e) _ => chkE T N none none sc t e
  | .ret0, .Return none _ => true
  | .ite c a b, .If e x y _ => chkT T N none none sc c e && (chkSs T N sc a x && chkSs T N sc b y)
  | .loop g it b, .For tg e x [] _ => chkI T N none none sc it tg e && (chkG N none sc g tg && chkSs T N sc b x)
  | .whl _ c b, .While e x [] _ => chkT T N none none sc c e && chkSs T N sc b x
  | .tri b hs, s => (match asTri s with
    | some (x, h, hds) => chkSs T N sc b x && chkHd T N sc hs (h :: hds)
    | none => false)
  | .rai i ts, s => (match asRai s, T.xcs[i]? with
    | some (x, es), some xd => decide (xd.name = x) && (glB sc x && chkEs T N none none sc ts es)
    | _, _ => false)
  | .sat o f t, s => (match asSat s with
    | some (eo, g, e) => decide (g = f) && (!isComp e && (chkE T N none none sc o eo && chkE T N none none sc t e))
    | none => false)
  | .six o i t, s => (match asSix s with
    | some (eo, ei, e) => okComp e && (noSlc ei && (chkE T N none none sc o eo && (chkE T N none none sc i ei && chkE T N none none sc t e)))
    | none => false)
  | .pas, .Pass _ => true
  | _, _ => false
def chkSs (T : Tab) (N : List Str) (sc : Scope) : TSs → List Stmt → Bool
  | .nil, [] => true
  | .cons t ts, s :: ss => chkS T N sc t s && chkSs T N sc ts ss
  | _, _ => false
end
section
variable {T : Tab} {c : Cxt T} {F : Nat → List W → Q W} {cx : Value × Option Addr} {N : List Str} {sc : Scope} {lv : Nat}
theorem gnm_read {Wx : WX} {i : Nat} {t : TX} {te : TE} (he : ∀ σ H Q, rE c F none none cx Wx t σ H Q → te σ H Q) : ∀ D σ H, rS c F cx Wx (.asg (.nm i) t) D σ H → tAsg te (gName i) D σ H := by
  intro D σ H h
  obtain ⟨m, env, st, S, hp⟩ := h
  unfold exS at hp
  refine he σ H _ ⟨m, env, st, S, pos_bo S hp fun w st1 m1 H1 v E1 S1 r hp1 => ?_⟩
  have hp1 : PoS c cx Wx D m1 st1 H1 (.nx (env.set i (some w)) st1) := hp1
  exact pos_nx hp1 ((S.ext E1 S1).set r)
theorem sns_lc {Wx : WX} {X : Cx} (st0 : Stat c) (G : Gd c F X Wx lv) (GS : Gs X N none sc) (GX : Gx X) {i : Nat} {y : Str} {py spos : Pos} {e : Expr} {μ : Bool} {own : List Nat} {elt : TX} {g : TG} {it : TI} {cnd : TT}
    (hi : N[i]? = some y) (h : chkE T N none none sc (.lc μ own elt g it cnd) e = true) (hsw : swapB sc (.Name y py) e = true) : PS X (.Assign [.Name y py] e spos) (rS c F cx Wx (.asg (.nm i) (.lc μ own elt g it cnd))) := by
  unfold chkE at h
  cases q : asLc e with
  | none => rw [q] at h; cases h
  | some k =>
    obtain ⟨el, tg, ie, ifs, s⟩ := k
    rw [q] at h
    simp only [Bool.and_eq_true, decide_eq_true_eq] at h
    obtain ⟨h1, h2, h3, h4, h5, h6, h7⟩ := h
    obtain ⟨pos, rfl⟩ := asLc_of q
    have hsw : (decide (nk sc y = some .local) && ((py.line == pos.line) && !(s.names.any fun (n, k) => n == y && (k == .local || k == .cell)))) = true := hsw
    simp only [Bool.and_eq_true, decide_eq_true_eq, Bool.not_eq_true'] at hsw
    obtain ⟨s1, s2, s3⟩ := hsw
    have hyl : X.env.scope.names.lookup y = some .local := by rw [GS.sc]; exact s1
    have hsww := sw_true (elt := el) (gs := [⟨tg, ie, ifs, 0⟩]) (scope := s) (pos := pos) (py := py) (l := spos.line) GX.kind hyl s2 s3
    obtain ⟨hset, pair, hpi, hpt⟩ := sI (cx := cx) st0 it tg G GS h4
    have hpair : pair = true → ∃ gs, g = .tp gs := fun hp => by
      obtain ⟨elts, k, tp, rfl⟩ := hpt hp
      cases g with
      | nm j => unfold chkG at h5; cases h5
      | tp gs => exact ⟨gs, rfl⟩
    have blk : BlkOk X.N X.env.scope s (ownOf N own) := by rw [GS.N, GS.sc]; exact blkOk_by h1
    have hG := fun (sh : Shared) (H : Hp) (C : Addr) (cl : List (Str × Addr)) (fp : List Addr) => G.blk sh H s (compEnvC s cl C X.env) fp
    have hGS := fun (sh : Shared) (H : Hp) (C : Addr) (cl : List (Str × Addr)) (fp : List Addr) => GS.blk sh H s cl C fp
    cases ifs with
    | nil =>
      cases cnd with
      | yes =>
        have p := ps_setLc (tt := tYes) (pos := pos) (spos := spos) G.calm G.nd (by rw [GS.N]; exact hi) hyl hsww hpi blk (fun sh H C cl fp => sng (cx := cx) (hG sh H C cl fp).calm (hG sh H C cl fp).K (hG sh H C cl fp).nd (hGS sh H C cl fp) g h5) (fun sh H C cl fp => pts_nil) (fun sh H C cl fp => sE (cx := cx) st0 elt (hG sh H C cl fp) (hGS sh H C cl fp) h6) (folded_not hset X.env)
        rw [h2] at p
        refine PS.mono p (gnm_read (lc_read (N := N) hpair h3 fun σ H Q q => ?_))
        obtain ⟨m, env, st, S, hp⟩ := q
        exact po_pu hp S.sr rfl
      | _ => cases h7
    | cons z r =>
      cases r with
      | cons _ _ => cases h7
      | nil =>
        have p := ps_setLc (tt := rT c F none none cx (fun _ _ _ _ => False) cnd) (pos := pos) (spos := spos) G.calm G.nd (by rw [GS.N]; exact hi) hyl hsww hpi blk (fun sh H C cl fp => sng (cx := cx) (hG sh H C cl fp).calm (hG sh H C cl fp).K (hG sh H C cl fp).nd (hGS sh H C cl fp) g h5) (fun sh H C cl fp => pts_one (sT (cx := cx) st0 cnd (hG sh H C cl fp) (hGS sh H C cl fp) h7)) (fun sh H C cl fp => sE (cx := cx) st0 elt (hG sh H C cl fp) (hGS sh H C cl fp) h6) (folded_not hset X.env)
        rw [h2] at p
        exact PS.mono p (gnm_read (lc_read (N := N) hpair h3 fun σ H Q q => q))
end
end Mi
set_option maxHeartbeats 4000000
set_option autoImplicit false
namespace Mi
open PySem PySem.Spec PyProof.Rows L2
section
variable {T : Tab} {c : Cxt T} {F : Nat → List W → Q W} {cx : Value × Option Addr} {N : List Str} {sc : Scope} {lv : Nat}
mutual
theorem sS (st0 : Stat c) (xs0 : XStat c) (hs0 : HStat c) (hlv : 1 ≤ lv) : ∀ (t : TS) {s : Stmt} {X : Cx} {Wx : WX}, Gd c F X Wx lv → Gs X N none sc → Gx X → chkS T N sc t s = true → PS X s (rS c F cx Wx t)
  | .ex t, s, X, Wx, G, GS, GX, h => by
    cases s with
    | Expr e pos =>
      simp only [chkS, Bool.and_eq_true, Bool.not_eq_true'] at h
      exact sns_ex (sE st0 t G GS h.2) h.1
    | _ => unfold chkS at h; cases h
  | .asg g t, s, X, Wx, G, GS, GX, h => by
    cases s with
    | Assign tgs e pos =>
      cases tgs with
      | nil => unfold chkS at h; cases h
      | cons tg r =>
        cases r with
        | cons _ _ => unfold chkS at h; cases h
        | nil =>
          simp only [chkS, Bool.and_eq_true] at h
          obtain ⟨h1, h2, h3, h4, h5, h6⟩ := h
          cases hsw : swapB sc tg e with
          | false => exact sns_asg (sE st0 t G GS h3) (sng G.calm G.K G.nd GS g h2) h1 (sw_false GS.sc GX.kind h4 hsw) (sw_none GS.sc h5)
          | true =>
            rw [hsw, if_pos rfl] at h6
            cases tg with
            | Name y py =>
              cases g with
              | tp gs => unfold chkG at h2; cases h2
              | nm i =>
                unfold chkG at h2
                simp only [asName, Bool.and_eq_true, decide_eq_true_eq] at h2
                cases t with
                | lc μ own elt g it cnd => exact sns_lc st0 G GS GX h2.1 h3 hsw
                | _ => cases h6
            | _ => cases hsw
    | _ => unfold chkS at h; cases h
  | .par i j a b, s, X, Wx, G, GS, GX, h => by
    unfold chkS at h
    cases q : asPar s with
    | none => rw [q] at h; cases h
    | some k =>
      obtain ⟨x, px, y, py, ea, eb⟩ := k
      rw [q] at h
      obtain ⟨k1, p1, k2, p2, pos, rfl⟩ := asPar_of q
      simp only [Bool.and_eq_true, decide_eq_true_eq] at h
      obtain ⟨h1, h2, h3, h4, h5, h6⟩ := h
      have hh := h4
      unfold ttSome at hh
      simp only [Bool.and_eq_true, decide_eq_true_eq, Bool.not_eq_true'] at hh
      obtain ⟨t1, t2, _, _, t5, t6, _⟩ := hh
      exact sns_par G.calm G.nd (by rw [GS.N]; exact h1) (by rw [GS.N]; exact h2) h3 (by rw [GS.sc]; exact t1) (by rw [GS.sc]; exact t2) (snd_cons t5 (sE st0 a G GS h5) (snd_cons t6 (sE st0 b G GS h6) snd_nil)) (tt_some GS.sc GX.kind h4)
  | .ret t, s, X, Wx, G, GS, GX, h => by
    cases s with
    | Return e pos =>
      cases e with
      | none => unfold chkS at h; cases h
      | some e =>
        simp only [chkS] at h
        exact sns_ret (sE st0 t G GS h)
    | _ => unfold chkS at h; cases h
  | .ret0, s, X, Wx, G, GS, GX, h => by
    cases s with
    | Return e pos =>
      cases e with
      | none => exact sns_ret0
      | some e => unfold chkS at h; cases h
    | _ => unfold chkS at h; cases h
  | .ite t a b, s, X, Wx, G, GS, GX, h => by
    cases s with
    | If e x y pos =>
      simp only [chkS, Bool.and_eq_true] at h
      obtain ⟨h1, h2, h3⟩ := h
      exact sns_ite (sT st0 t G GS h1) (sSs st0 xs0 hs0 hlv a G GS GX h2) (sSs st0 xs0 hs0 hlv b G GS GX h3)
    | _ => unfold chkS at h; cases h
  | .loop g it b, s, X, Wx, G, GS, GX, h => by
    cases s with
    | For tg e x oe pos =>
      cases oe with
      | cons _ _ => unfold chkS at h; cases h
      | nil =>
        simp only [chkS, Bool.and_eq_true] at h
        obtain ⟨h1, h2, h3⟩ := h
        obtain ⟨hset, pair, hpi, hpt⟩ := sI (cx := cx) st0 it tg G GS h1
        have hpair : pair = true → ∃ gs, g = .tp gs := fun hp => by
          obtain ⟨elts, k, tp, rfl⟩ := hpt hp
          cases g with
          | nm j => unfold chkG at h2; cases h2
          | tp gs => exact ⟨gs, rfl⟩
        exact sns_loop GX.po G.calm hpi hpair (sng G.calm G.K G.nd GS g h2) (sSs st0 xs0 hs0 hlv b G GS GX h3) hset
    | _ => unfold chkS at h; cases h
  | .whl n t b, s, X, Wx, G, GS, GX, h => by
    cases s with
    | While e x oe pos =>
      cases oe with
      | cons _ _ => unfold chkS at h; cases h
      | nil =>
        simp only [chkS, Bool.and_eq_true] at h
        exact sns_whl GX.po (sT st0 t G GS h.1) (sSs st0 xs0 hs0 hlv b G GS GX h.2)
    | _ => unfold chkS at h; cases h
  | .tri b hs, s, X, Wx, G, GS, GX, h => by
    unfold chkS at h
    cases q : asTri s with
    | none => rw [q] at h; cases h
    | some k =>
      obtain ⟨x, hd, hds⟩ := k
      rw [q] at h
      obtain ⟨pos, rfl⟩ := asTri_of q
      simp only [Bool.and_eq_true] at h
      exact sns_tri st0 hs0 G GS GX (fun W X' G' GS' GX' => sSs st0 xs0 hs0 hlv b G' GS' GX' h.1) h.2
  | .rai i ts, s, X, Wx, G, GS, GX, h => by
    unfold chkS at h
    cases q0 : asRai s with
    | none => rw [q0] at h; cases h
    | some k =>
      obtain ⟨x, es⟩ := k
      rw [q0] at h
      obtain ⟨p, pos, pos2, rfl⟩ := asRai_of q0
      cases q : T.xcs[i]? with
      | none => rw [q] at h; cases h
      | some xd =>
        rw [q] at h
        simp only [Bool.and_eq_true, decide_eq_true_eq] at h
        obtain ⟨rfl, h1, h2⟩ := h
        obtain ⟨g1, g2, _⟩ := GS.gl h1
        obtain ⟨h3, h4⟩ := sEs (cx := cx) st0 ts G GS h2
        exact sns_rai xs0 hlv G q g1 g2 h3 (nil_of h2) h4 passL
  | .sat o f t, s, X, Wx, G, GS, GX, h => by
    unfold chkS at h
    cases q : asSat s with
    | none => rw [q] at h; cases h
    | some k =>
      obtain ⟨eo, g, e⟩ := k
      rw [q] at h
      obtain ⟨p, pos, rfl⟩ := asSat_of q
      simp only [Bool.and_eq_true, decide_eq_true_eq, Bool.not_eq_true'] at h
      obtain ⟨rfl, h1, h2, h3⟩ := h
      exact sns_sat st0 G.K (sE st0 o G GS h2) (sE st0 t G GS h3) (swaps_not h1 _ _ _)
  | .six o i t, s, X, Wx, G, GS, GX, h => by
    unfold chkS at h
    cases q : asSix s with
    | none => rw [q] at h; cases h
    | some k =>
      obtain ⟨eo, ei, e⟩ := k
      rw [q] at h
      obtain ⟨p, pos, rfl⟩ := asSix_of q
      simp only [Bool.and_eq_true] at h
      obtain ⟨h0, h1, h2, h3, h4⟩ := h
      exact sns_six (sE st0 o G GS h2) (sE st0 i G GS h3) (sE st0 t G GS h4) (sw_false GS.sc GX.kind h0 (by rfl)) h1
  | .pas, s, X, Wx, G, GS, GX, h => by
    cases s with
    | Pass pos => exact sns_pas
    | _ => unfold chkS at h; cases h
theorem sSs (st0 : Stat c) (xs0 : XStat c) (hs0 : HStat c) (hlv : 1 ≤ lv) : ∀ (t : TSs) {s : List Stmt} {X : Cx} {Wx : WX}, Gd c F X Wx lv → Gs X N none sc → Gx X → chkSs T N sc t s = true → PSs X s (rSs c F cx Wx t)
  | .nil, s, X, Wx, G, GS, GX, h => by
    cases s with
    | nil => exact sns_nil
    | cons _ _ => unfold chkSs at h; cases h
  | .cons t ts, s, X, Wx, G, GS, GX, h => by
    cases s with
    | nil => unfold chkSs at h; cases h
    | cons x xs =>
      simp only [chkSs, Bool.and_eq_true] at h
      exact sns_cons (sS st0 xs0 hs0 hlv t G GS GX h.1) (sSs st0 xs0 hs0 hlv ts G GS GX h.2)
end
end
end Mi
set_option maxHeartbeats 4000000
set_option autoImplicit false
namespace Mi
open PySem PySem.Spec PyProof.Rows L2
/-! ## every def does what run says -/
/-- the defs are such texts -/
structure DStat {T : Tab} (c : Cxt T) : Prop where
  def_ : ∀ (f : Nat) (d : Fd), T.fns[f]? = some d → ∃ (name qual : Str) (params : Arguments) (body : List Stmt) (scope : Scope) (dV kV doc pm cdv ct oc : Value) (an od : Option Addr) (osl : Array (Option Value)),
    c.ffd f = PySem.W.fnOf name qual params body scope dV kV doc pm an cdv ct ∧ c.K.lookup (c.fad f) = some ⟨oc, od, .func (PySem.W.fnOf name qual params body scope dV kV doc pm an cdv ct), osl⟩ ∧ PySem.W.codeIn c.K cdv qual = true ∧
    FnScope d.N (d.N.take d.np) scope ∧ chkSs T d.N scope d.body body = true ∧ d.np ≤ d.N.length
section
variable {T : Tab} {c : Cxt T}
theorem sim_start {cx : Value × Option Addr} {N : List Str} {m : List Addr} {st : Store} {H : Hp} {ws : List W} {vs : List V} (S : SR c.kt m st H) (r : RelWs c.kt m (fz m st H) ws vs) : Sim c none none cx m (startE N ws) st (L2.start N vs) H := by
  have hl := r.len
  refine ⟨S, by unfold startE L2.start; simp [hl], fun i w h => ?_, fun _ _ e => (nomatch e), fun _ _ e => (nomatch e)⟩
  unfold startE at h
  unfold L2.start
  by_cases hi : i < ws.length
  · rw [List.getElem?_append_left (by simpa using hi), List.getElem?_map] at h
    rw [List.getElem?_append_left (by simpa [hl] using hi), List.getElem?_map]
    cases e : ws[i]? with
    | none => rw [e] at h; cases h
    | some x =>
      rw [e] at h
      cases h
      obtain ⟨v, h1, h2⟩ := r.get e
      exact ⟨v, by rw [h1]; rfl, h2⟩
  · rw [List.getElem?_append_right (by simpa using hi), List.getElem?_replicate] at h
    split at h <;> cases h
theorem run_some {n f : Nat} {ws : List W} {st : Store} (h : run T n f ws st ≠ .no) : ∃ d : Fd, T.fns[f]? = some d ∧ ws.length = d.np := by
  cases n with
  | zero => exact absurd rfl h
  | succ n =>
    unfold run at h
    cases e : T.fns[f]? with
    | none => rw [e] at h; exact absurd rfl h
    | some d =>
      rw [e] at h
      dsimp only at h
      by_cases hl : ws.length = d.np
      · exact ⟨d, rfl, hl⟩
      · rw [if_neg hl] at h; exact absurd rfl h
theorem all_ok (st0 : Stat c) (xs0 : XStat c) (hs0 : HStat c) (ds0 : DStat c) : ∀ (n f : Nat) (d : Fd), T.fns[f]? = some d → FnOk c.P c.w c.K c.mg c.base (L2.CX c.P c.w) (2 * n + 1) (c.fad f) (c.ffd f) (d.N.take d.np) (spT c (run T n) f d.np)
  | 0, f, d, hd => by
    refine ⟨fun vs H Q E h => ?_, fun A outer s H args us vs Q E hr e0 hb r hsp => ?_⟩
    · obtain ⟨_, m, st, ws, _, _, hp⟩ := h
      exact hp.elim
    · obtain ⟨_, m, st, ws, _, _, hp⟩ := hsp
      exact hp.elim
  | n + 1, f, d, hd => by
    obtain ⟨name, qual, params, body, scope, dV, kV, doc, pm, cdv, ct, oc, an, od, osl, e1, lk, hcd, S, hck, hnp⟩ := ds0.def_ f d hd
    rw [e1]
    refine fn_of (k := 2 * n + 2) lk hcd S (fun vs H Q E h => ?_) fun A outer s H vs Q E hr hsp => ?_
    · rw [h.1, List.length_take]
      omega
    · obtain ⟨hlen, m, st, ws, S1, r, hp⟩ := hsp
      refine ⟨rSs c (run T n) (.none, none) (fun cls d _ H => E cls d H) d.body, ?_, m, startE d.N ws, st, sim_start S1 r, ?_⟩
      · refine sSs st0 xs0 hs0 (lv := 2 * n + 1) (by omega) d.body (N := d.N) (sc := scope) ?_ ⟨rfl, rfl, fun _ _ => rfl⟩ ⟨passes_of rfl, rfl, rfl, S.kind⟩ hck
        exact ⟨rfl, rfl, rfl, rfl, rfl, S.nd, by have := hr.un; show (A.deeper _).units + 65 < cLine; omega, takes_of rfl rfl rfl rfl, rfl, hr, fun f d h => all_ok st0 xs0 hs0 ds0 n f d h, fun f ws st h => run_some h, fun f d h => by
          obtain ⟨_, _, _, _, _, _, _, _, _, _, _, _, _, _, _, _, _, _, _, _, hn⟩ := ds0.def_ f d h
          exact hn⟩
      · unfold run at hp
        rw [hd] at hp
        dsimp only at hp
        by_cases hl : ws.length = d.np
        · rw [if_pos hl] at hp
          have hp := po_cut S1 hp
          cases e : exSs T (run T n) none d.body (startE d.N ws) st with
          | nx env' s' =>
            rw [e] at hp
            intro m' σ' H' E1 S2
            exact hp m' V.non H' E1 S2.sr (by show RelW _ _ _ _ _; unfold RelW; rfl)
          | rt w s' => rw [e] at hp; exact hp
          | ex i xs env' s' =>
            rw [e] at hp
            intro m' cls d2 σ' H' E1 S2 rx
            exact hp m' cls d2 H' E1 S2.sr rx
          | no => rw [e] at hp; exact hp
        · rw [if_neg hl] at hp
          exact hp.elim
end
end Mi
set_option maxHeartbeats 4000000
set_option autoImplicit false
namespace Mi
open PySem PySem.Spec PyProof.Rows L2
/-! ## what the written part says, by one Bool -/
def plainP (p : Arguments) (ps : List Str) : Bool := p.posonlyargs.isEmpty && (p.vararg.isNone && (p.kwonlyargs.isEmpty && (p.kwarg.isNone && decide (p.args.map (·.arg) = ps))))
theorem filt_zip {l : List (Str × Value)} (nd : (l.map (·.1)).Nodup) : (l.map (·.1)).filterMap (fun n => (l.lookup n).map (n, ·)) = l := by
  rw [List.filterMap_map]
  have : ∀ (k : List (Str × Value)), (∀ p ∈ k, p ∈ l) → k.filterMap ((fun n => (l.lookup n).map (n, ·)) ∘ (·.1)) = k := by
    intro k
    induction k with
    | nil => intro _; rfl
    | cons p k ih =>
      intro h
      have hp : l.lookup p.1 = some p.2 := lk_mem nd (h p List.mem_cons_self)
      have hf : ((fun n => (l.lookup n).map (n, ·)) ∘ (·.1)) p = some p := by
        show (l.lookup p.1).map (p.1, ·) = some p
        rw [hp]
        rfl
      rw [List.filterMap_cons, hf, ih fun q hq => h q (List.mem_cons_of_mem _ hq)]
  exact this l fun p hp => hp
theorem bind_plain {fd : FuncData} {ps : List Str} (h : plainP fd.params ps = true) (hd : fd.defaults = .none) (nd : ps.Nodup) (us : List Value) (hl : us.length = ps.length) : bindArgs fd ⟨us, []⟩ = pure (ps.zip us) := by
  unfold plainP at h
  simp only [Bool.and_eq_true, decide_eq_true_eq, List.isEmpty_iff, Option.isNone_iff_eq_none] at h
  obtain ⟨h1, h2, h3, h4, h5⟩ := h
  have e1 : (ps.zip us).map (·.1) = ps := List.map_fst_zip (by omega)
  have nd1 : ((ps.zip us).map (·.1)).Nodup := by rw [e1]; exact nd
  have e2 : ps.filterMap (fun n => ((ps.zip us).lookup n).map (n, ·)) = ps.zip us := by
    have := filt_zip nd1
    rw [e1] at this
    exact this
  have e3 : ps.filter (fun n => ((ps.zip us).lookup n).isNone) = [] := by
    rw [List.filter_eq_nil_iff]
    intro n hn
    have hn' : n ∈ (ps.zip us).map (·.1) := by rw [e1]; exact hn
    obtain ⟨p, hp, rfl⟩ := List.mem_map.mp hn'
    rw [lk_mem nd1 (show (p.1, p.2) ∈ ps.zip us from hp)]
    simp
  have hs : (seqItems? (Value.none) : Sem (Option (Array Value))) = pure none := rfl
  unfold bindArgs
  simp only [h1, h2, h3, h4, h5, hd, hs, List.map_nil, List.nil_append, List.append_nil, pure_bind, List.forIn_nil]
  have ed : ((none : Option (Array Value)).getD #[]).toList = [] := rfl
  have hgt : (decide (us.length > ps.length) && (none : Option Arg).isNone) = false := by rw [hl]; simp
  simp only [ed, hgt, Bool.false_eq_true, if_false, List.length_nil, Nat.zero_sub, List.drop_zero, List.drop_nil, Nat.sub_zero, List.take_length, e3, List.isEmpty_nil, Bool.not_true, List.drop_length, List.zip_nil_right, List.forIn_nil, pure_bind, e2]
end Mi
set_option maxHeartbeats 4000000
set_option autoImplicit false
namespace Mi
open PySem PySem.Spec PyProof.Rows L2
open He (ba eqO eqO_ok ga ma fAd)
def fd0 : FuncData := PySem.W.fnOf Str.empty Str.empty { posonlyargs := [], args := [], vararg := none, kwonlyargs := [], kw_defaults := [], kwarg := none, defaults := [] } [] { kind := .function, names := [], isGenerator := false, isCoroutine := false, more := [] } .none .none .none .none none .none .none
def fdAt (K : PySem.W.Frag) (a : Addr) : FuncData := match K.lookup a with
  | some ⟨_, _, .func fd, _⟩ => fd
  | _ => fd0
def cxOfK (T : Tab) (P : Program) (w : World) (K : PySem.W.Frag) (mg : Str → Option Value) (base : Heap) : Cxt T where
  P := P
  w := w
  K := K
  mg := mg
  base := base
  fad := fun f => match T.fns[f]? with
    | some d => fAd K d.at_
    | none => 0
  ffd := fun f => match T.fns[f]? with
    | some d => fdAt K (fAd K d.at_)
    | none => fd0
  cad := fun i => match T.cls[i]? with
    | some d => ga K d.name
    | none => 0
  xad := fun i => match T.xcs[i]? with
    | some d => ga K d.name
    | none => 0
def scopeB (N ps : List Str) (sc : Scope) : Bool := decide (sc.kind = .function) && (!sc.isCoroutine && (!sc.isGenerator && (decide N.Nodup && (decide (N.take ps.length = ps) && ((ps.all fun x => decide (sc.names.lookup x = some .local) || decide (sc.names.lookup x = some .cell)) && sc.names.all fun y => !decide (y.2 = .free))))))
theorem scopeB_ok {N ps : List Str} {sc : Scope} (h : scopeB N ps sc = true) : FnScope N ps sc := by
  unfold scopeB at h
  simp only [Bool.and_eq_true, decide_eq_true_eq, Bool.not_eq_true', List.all_eq_true, Bool.or_eq_true, decide_eq_false_iff_not] at h
  obtain ⟨h1, h2, h3, h4, h5, h6, h7⟩ := h
  exact ⟨h1, h2, h3, h4, h5, h6, h7⟩
def asStm : FuncBody → Option (List Stmt)
  | .stmts b => some b
  | _ => none
def isNonV : Value → Bool
  | .none => true
  | _ => false
theorem isNonV_ok {v : Value} (h : isNonV v = true) : v = .none := by cases v <;> first | rfl | (cases h)
def asFun : Option Obj → Option FuncData
  | some ⟨_, _, .func fd, _⟩ => some fd
  | _ => none
theorem asFun_of {o : Option Obj} {fd : FuncData} (h : asFun o = some fd) : ∃ oc od osl, o = some ⟨oc, od, .func fd, osl⟩ := by
  unfold asFun at h
  split at h
  · cases h; exact ⟨_, _, _, rfl⟩
  · cases h
/-- where it stands -/
def atB (T : Tab) (K : PySem.W.Frag) (x : Str) (a : Addr) : Option Str → Bool
  | none => eqO (PySem.W.nsIn K mainGlobals x) (some (some (.ref a)))
  | some m => eqO (PySem.W.findIn K (.ref (ga K x)) m) (some (some (.ref a))) && (PySem.W.isFn K (.ref a) && T.cls.all fun cd => !decide (cd.name = x) || !decide (m ∈ cd.fields))
/-- a def -/
def fnB (T : Tab) (K : PySem.W.Frag) (d : Fd) : Bool := match asFun (K.lookup (fAd K d.at_)) with
  | some fd => (match asStm fd.body with
    | some b => PySem.W.codeIn K fd.code fd.qualname && (decide (fd.globals = mainGlobals) && (fd.closure.isEmpty && (decide (fd.builtins = builtinsNs) && (chkSs T d.N fd.scope d.body b && (plainP fd.params (d.N.take d.np) && (isNonV fd.defaults && (scopeB d.N (d.N.take d.np) fd.scope && (decide (d.np ≤ d.N.length) && (PySem.W.keepIn K (.ref (fAd K d.at_)) && atB T K d.at_.1 (fAd K d.at_) d.at_.2)))))))))
    | none => false)
  | none => false
theorem fnB_ok {T : Tab} {K : PySem.W.Frag} {d : Fd} (h : fnB T K d = true) : ∃ (oc : Value) (od : Option Addr) (osl : Array (Option Value)) (fd : FuncData) (body : List Stmt),
    K.lookup (fAd K d.at_) = some ⟨oc, od, .func fd, osl⟩ ∧ PySem.W.codeIn K fd.code fd.qualname = true ∧ fd = PySem.W.fnOf fd.name fd.qualname fd.params body fd.scope fd.defaults fd.kwdefaults fd.doc fd.pyModule fd.annotations fd.code fd.closureTuple ∧
    chkSs T d.N fd.scope d.body body = true ∧ plainP fd.params (d.N.take d.np) = true ∧ fd.defaults = .none ∧ FnScope d.N (d.N.take d.np) fd.scope ∧ d.np ≤ d.N.length ∧ PySem.W.keepIn K (.ref (fAd K d.at_)) = true ∧ (match d.at_.2 with
      | none => PySem.W.nsIn K mainGlobals d.at_.1 = some (some (.ref (fAd K d.at_)))
      | some m => PySem.W.findIn K (.ref (ga K d.at_.1)) m = some (some (.ref (fAd K d.at_))) ∧ PySem.W.isFn K (.ref (fAd K d.at_)) = true ∧ ∀ cd ∈ T.cls, cd.name = d.at_.1 → m ∉ cd.fields) := by
  unfold fnB at h
  cases q : asFun (K.lookup (fAd K d.at_)) with
  | none => rw [q] at h; cases h
  | some fd =>
    rw [q] at h
    obtain ⟨oc, od, osl, lk⟩ := asFun_of q
    dsimp only at h
    cases qb : asStm fd.body with
    | none => rw [qb] at h; cases h
    | some b =>
      rw [qb] at h
      dsimp only at h
      obtain ⟨h1, h⟩ := ba h
      obtain ⟨h2, h⟩ := ba h
      obtain ⟨h3, h⟩ := ba h
      obtain ⟨h4, h⟩ := ba h
      obtain ⟨h5, h⟩ := ba h
      obtain ⟨h6, h⟩ := ba h
      obtain ⟨h7, h⟩ := ba h
      obtain ⟨h8, h⟩ := ba h
      obtain ⟨h9, h⟩ := ba h
      obtain ⟨h10, h11⟩ := ba h
      have eb : fd.body = .stmts b := by
        cases z : fd.body with
        | stmts c => rw [z] at qb; cases qb; rfl
        | _ => rw [z] at qb; cases qb
      obtain ⟨n1, n2, n3, n4, n5, n6, n7, n8, n9, n10, n11, n12, n13, n14, n15⟩ := fd
      dsimp only at h1 h2 h3 h4 h5 h6 h7 h8 eb
      have e2 : n6 = mainGlobals := of_decide_eq_true h2
      have e3 : n7 = [] := List.isEmpty_iff.mp h3
      have e4 : n15 = builtinsNs := of_decide_eq_true h4
      subst e2 e3 e4 eb
      refine ⟨oc, od, osl, _, b, lk, h1, rfl, h5, h6, isNonV_ok h7, scopeB_ok h8, of_decide_eq_true h9, h10, ?_⟩
      cases e : d.at_.2 with
      | none => rw [e] at h11; exact eqO_ok h11
      | some m =>
        rw [e] at h11
        obtain ⟨k1, h⟩ := ba h11
        obtain ⟨k2, k3⟩ := ba h
        refine ⟨eqO_ok k1, k2, fun cd hcd hn hm => ?_⟩
        have := List.all_eq_true.mp k3 cd hcd
        rw [hn] at this
        simp [hm] at this
/-- a class -/
def clB (K : PySem.W.Frag) (d : Cd) : Bool := (He.Fa.cls d.name).ok K && ((He.Fa.glo d.name).ok K && ((He.Fa.mkr d.name).ok K && d.fields.all fun f => (He.Fa.noat d.name f).ok K))
/-- the __init__ of an own error -/
def asSup : Stmt → Option (Expr × Pos × Pos)
  | .Expr (.Call (.Attribute (.Call (.Name x _) [] [] _) m p2) [msg] [] p3) _ => if x = ("super" : Str) ∧ m = ("__init__" : Str) then some (msg, p2, p3) else none
  | _ => none
theorem asSup_of {s : Stmt} {msg : Expr} {p2 p3 : Pos} (h : asSup s = some (msg, p2, p3)) : ∃ p0 p1 p4, s = .Expr (.Call (.Attribute (.Call (.Name "super" p0) [] [] p1) "__init__" p2) [msg] [] p3) p4 := by
  unfold asSup at h
  split at h
  · split at h
    · rename_i hx
      cases h
      obtain ⟨rfl, rfl⟩ := hx
      exact ⟨_, _, _, rfl⟩
    · cases h
  · cases h
def scSB (N : List Str) (sc : Scope) : Bool := decide (sc.kind = .function) && (!sc.isCoroutine && (!sc.isGenerator && (decide N.Nodup && ((N.all fun x => decide (sc.names.lookup x = some .local)) && ((sc.names.all fun y => !decide (y.2 = .cell)) && sc.names.all fun y => !decide (y.2 = .free) || decide (y.1 = ("__class__" : Str)))))))
theorem scSB_ok {N : List Str} {sc : Scope} (h : scSB N sc = true) : ScS N sc := by
  unfold scSB at h
  simp only [Bool.and_eq_true, decide_eq_true_eq, Bool.not_eq_true', List.all_eq_true, Bool.or_eq_true, decide_eq_false_iff_not] at h
  obtain ⟨h1, h2, h3, h4, h5, h6, h7⟩ := h
  exact ⟨h1, h2, h3, h4, h5, h6, fun y hy e => (h7 y hy).resolve_left (fun z => z e)⟩
def sl6 : List (Option Value) → Option (Option Value × Option Value × Option Value × Option Value × String × Option Value)
  | [a0, a1, a2, a3, some (.builtin n), a5] => some (a0, a1, a2, a3, n, a5)
  | _ => none
theorem sl6_of {l : List (Option Value)} {a0 a1 a2 a3 a5 : Option Value} {n : String} (h : sl6 l = some (a0, a1, a2, a3, n, a5)) : l = [a0, a1, a2, a3, some (.builtin n), a5] := by
  unfold sl6 at h
  split at h
  · cases h; rfl
  · cases h
def oexB (K : PySem.W.Frag) (C : Addr) : Bool := (match K.lookup C with
  | some ⟨.type t, _, .cls cd, sl⟩ => decide (t = "type") && ((match cd.mro with
    | .ref c :: bm => decide (c = C) && PySem.HandSPX.refsVE bm
    | _ => false) && (cd.hasDict && (!cd.hasDel && (match sl6 sl.toList with
    | some (_, _, _, _, n, _) => decide (n = "ValueError.__new__")
    | none => false))))
  | _ => false) && (eqO (PySem.W.findIn K (.ref C) "__setattr__") (some (some (.builtin "object.__setattr__"))) && (decide (PySem.W.subIn K (.ref C) (.type "BaseException") = some true) && (decide (PySem.W.typeIn K (.ref C) = some (.type "type")) && PySem.W.keepIn K (.ref C))))
theorem oexB_ok {K : PySem.W.Frag} {C : Addr} (h : oexB K C = true) : OexC K C := by
  unfold oexB at h
  obtain ⟨h1, h⟩ := ba h
  obtain ⟨h2, h⟩ := ba h
  obtain ⟨h3, h⟩ := ba h
  obtain ⟨h4, h5⟩ := ba h
  refine ⟨?_, eqO_ok h2, of_decide_eq_true h3, of_decide_eq_true h4, h5⟩
  cases q : K.lookup C with
  | none => rw [q] at h1; cases h1
  | some o =>
    obtain ⟨oc, od, dt, sl⟩ := o
    rw [q] at h1
    cases oc with
    | type t =>
      cases dt with
      | cls cd =>
        dsimp only at h1
        obtain ⟨k1, h⟩ := ba h1
        obtain ⟨k2, h⟩ := ba h
        obtain ⟨k3, h⟩ := ba h
        obtain ⟨k4, k5⟩ := ba h
        obtain ⟨nm, bs, mro, ns, qn, hd, sn, sub, ab, col, del⟩ := cd
        dsimp only at k2 k3 k4
        have e1 : t = "type" := of_decide_eq_true k1
        subst e1
        have e3 : hd = true := k3
        have e4 : del = false := by simpa using k4
        subst e3 e4
        cases mro with
        | nil => cases k2
        | cons v bm =>
          cases v with
          | ref cc =>
            obtain ⟨k6, k7⟩ := ba k2
            have e6 : cc = C := of_decide_eq_true k6
            subst e6
            obtain ⟨l⟩ := sl
            cases q6 : sl6 l with
            | none => rw [show (Array.mk l).toList = l from rfl, q6] at k5; cases k5
            | some k =>
              obtain ⟨a0, a1, a2, a3, n, a5⟩ := k
              rw [show (Array.mk l).toList = l from rfl, q6] at k5
              have e : n = "ValueError.__new__" := of_decide_eq_true k5
              have el := sl6_of q6
              subst e el
              exact ⟨nm, qn, ns, bs, bm, sn, sub, ab, col, od, a0, a1, a2, a3, a5, rfl, k7⟩
          | _ => cases k2
      | _ => cases h1
    | _ => cases dt <;> cases h1
end Mi
set_option maxHeartbeats 4000000
set_option autoImplicit false
namespace Mi
open PySem PySem.Spec PyProof.Rows L2
open He (ba eqO eqO_ok ga ma fAd)
def one1 {α : Type} : List α → Option α
  | [a] => some a
  | _ => none
theorem one1_of {α : Type} {l : List α} {a : α} (h : one1 l = some a) : l = [a] := by
  cases l with
  | nil => cases h
  | cons b l => cases l with
    | nil => cases h; rfl
    | cons _ _ => cases h
def asRefV : Value → Option Addr
  | .ref a => some a
  | _ => none
theorem asRefV_of {v : Value} {a : Addr} (h : asRefV v = some a) : v = .ref a := by cases v <;> first | (cases h; rfl) | (cases h)
def cellB (K : PySem.W.Frag) (cc C : Addr) : Bool := match K.lookup cc with
  | some ⟨_, _, .cell (some (.ref c)), _⟩ => decide (c = C)
  | _ => false
theorem cellB_ok {K : PySem.W.Frag} {cc C : Addr} (h : cellB K cc C = true) : ∃ cl cld csl, K.lookup cc = some ⟨cl, cld, .cell (some (.ref C)), csl⟩ := by
  unfold cellB at h
  split at h
  · rename_i e
    rw [← of_decide_eq_true h]
    exact ⟨_, _, _, e⟩
  · cases h
def fileB (P : Program) (K : PySem.W.Frag) (cda : Addr) : Bool := match K.lookup cda with
  | some ⟨_, _, .fields vs, _⟩ => (match (vs[2]? : Option Value) with
    | some (.str file _) => ((P.main.file : Str) == file)
    | _ => false)
  | _ => false
theorem fileB_ok {P : Program} {K : PySem.W.Frag} {cda : Addr} (h : fileB P K cda = true) : ∃ ccl cdd vs ccs file tf, K.lookup cda = some ⟨ccl, cdd, .fields vs, ccs⟩ ∧ vs[2]? = some (.str file tf) ∧ ((P.main.file : Str) == file) = true := by
  unfold fileB at h
  split at h
  · rename_i e
    split at h
    · rename_i e2
      exact ⟨_, _, _, _, _, _, e, e2, h⟩
    · cases h
  · cases h
/-- super() in the __init__ of the class at C -/
def supB (P : Program) (K : PySem.W.Frag) (C cda cc : Addr) : Bool := cellB K cc C && (fileB P K cda && ((He.Fa.free "super").ok K && (!(P.main.scope.names.lookup ("super" : Str)).isSome && (decide (PySem.W.mroIn K C (.ref C) = some true) && (decide (PySem.W.mroIn K C (.type "ValueError") = some true) &&
  (eqO (PySem.W.ks_superIn K C C "__init__") (some (some (.builtin "ValueError.__init__"))) && eqO (PySem.W.nsIn K cStatics "thirdparty.any") (some none)))))))
/-- the __init__ itself -/
def xfB (N : List Str) (fl : List (Str × Bool)) (mi : Bool) (K : PySem.W.Frag) (fd : FuncData) (b : List Stmt) : Bool := match b with
  | [] => false
  | st0 :: rest => (match asSup st0 with
    | some (msg, p2, p3) => decide (fd.globals = mainGlobals) && (decide (fd.builtins = builtinsNs) && (PySem.W.codeIn K fd.code fd.qualname && (scSB N fd.scope && (decide (fd.scope.names.lookup ("super" : Str) = some .globalImplicit) && (decide (fd.scope.names.lookup ("__class__" : Str) = some .free) &&
      (plainP fd.params N && (isNonV fd.defaults && ((p2.endLine == p3.line) && (chkM N mi msg && chkF N fd.scope fl 1 rest)))))))))
    | none => false)
/-- an own error -/
def xB (P : Program) (K : PySem.W.Frag) (x : Xd) : Bool := match asFun (K.lookup (ma K (ga K x.name) "__init__")) with
  | some fd => (match asStm fd.body, one1 fd.closure, asRefV fd.code with
    | some b, some (nm, cc), some cda => decide (nm = ("__class__" : Str)) && (oexB K (ga K x.name) && (supB P K (ga K x.name) cda cc && ((He.Fa.glo x.name).ok K && (eqO (PySem.W.findIn K (.ref (ga K x.name)) "__init__") (some (some (.ref (ma K (ga K x.name) "__init__")))) &&
      (decide (PySem.W.typeIn K (.ref (ma K (ga K x.name) "__init__")) = some (.type "function")) && ((x.fields.all fun p => eqO (PySem.W.findIn K (.ref (ga K x.name)) p.1) (some none)) && ((He.Fa.free "tuple").ok K && (decide (x.N.length = x.fields.length + 1) && (decide (x.fields.length ≤ 50) && xfB x.N x.fields x.mi K fd b)))))))))
    | _, _, _ => false)
  | none => false
theorem xB_ok {P : Program} {K : PySem.W.Frag} {h : Heap} {mg : Str → Option Value} (KX : K.In h) (G : h.Ns mainGlobals mg) {x : Xd} (hx : xB P K x = true) : ∃ f cda cc fd, XTxt P K mg (ga K x.name) f cda cc x.name x.N x.fields x.mi fd := by
  unfold xB at hx
  cases q : asFun (K.lookup (ma K (ga K x.name) "__init__")) with
  | none => rw [q] at hx; cases hx
  | some fd =>
    rw [q] at hx
    obtain ⟨oc, od, osl, lk⟩ := asFun_of q
    dsimp only at hx
    cases q1 : asStm fd.body with
    | none => rw [q1] at hx; cases hx
    | some b =>
      cases q2 : one1 fd.closure with
      | none => rw [q1, q2] at hx; cases hx
      | some p =>
        obtain ⟨nm, cc⟩ := p
        cases q3 : asRefV fd.code with
        | none => rw [q1, q2, q3] at hx; cases hx
        | some cda =>
          rw [q1, q2, q3] at hx
          dsimp only at hx
          obtain ⟨h1, hx⟩ := ba hx
          obtain ⟨h2, hx⟩ := ba hx
          obtain ⟨h3, hx⟩ := ba hx
          obtain ⟨h4, hx⟩ := ba hx
          obtain ⟨h5, hx⟩ := ba hx
          obtain ⟨h6, hx⟩ := ba hx
          obtain ⟨h7, hx⟩ := ba hx
          obtain ⟨h8, hx⟩ := ba hx
          obtain ⟨h9, hx⟩ := ba hx
          obtain ⟨h10, h11⟩ := ba hx
          have e1 : nm = ("__class__" : Str) := of_decide_eq_true h1
          subst e1
          unfold supB at h3
          obtain ⟨s1, h3⟩ := ba h3
          obtain ⟨s2, h3⟩ := ba h3
          obtain ⟨s3, h3⟩ := ba h3
          obtain ⟨s4, h3⟩ := ba h3
          obtain ⟨s5, h3⟩ := ba h3
          obtain ⟨s6, h3⟩ := ba h3
          obtain ⟨s7, s8⟩ := ba h3
          have sup : SupT P K mg (ga K x.name) (ma K (ga K x.name) "__init__") cda cc := ⟨cellB_ok s1, fileB_ok s2, He.free_ok KX G s3, by simpa using s4, of_decide_eq_true s5, of_decide_eq_true s6, eqO_ok s7, eqO_ok s8⟩
          have eb : fd.body = .stmts b := by
            cases z : fd.body with
            | stmts c => rw [z] at q1; cases q1; rfl
            | _ => rw [z] at q1; cases q1
          have ec := one1_of q2
          have ed := asRefV_of q3
          unfold xfB at h11
          cases b with
          | nil => cases h11
          | cons st0 rest =>
            dsimp only at h11
            cases qs : asSup st0 with
            | none => rw [qs] at h11; cases h11
            | some k =>
              obtain ⟨msg, p2, p3⟩ := k
              rw [qs] at h11
              dsimp only at h11
              obtain ⟨p0, p1, p4, rfl⟩ := asSup_of qs
              obtain ⟨k1, h11⟩ := ba h11
              obtain ⟨k2, h11⟩ := ba h11
              obtain ⟨k3, h11⟩ := ba h11
              obtain ⟨k4, h11⟩ := ba h11
              obtain ⟨k5, h11⟩ := ba h11
              obtain ⟨k6, h11⟩ := ba h11
              obtain ⟨k7, h11⟩ := ba h11
              obtain ⟨k8, h11⟩ := ba h11
              obtain ⟨k9, h11⟩ := ba h11
              obtain ⟨k10, k11⟩ := ba h11
              have S := scSB_ok k4
              have hlen : x.N.length = x.fields.length + 1 := of_decide_eq_true h9
              have har : ∃ ar : Arg, (fd.params.posonlyargs ++ fd.params.args).head? = some ar ∧ x.N[0]? = some ar.arg := by
                have k7' := k7
                unfold plainP at k7'
                simp only [Bool.and_eq_true, decide_eq_true_eq, List.isEmpty_iff, Option.isNone_iff_eq_none] at k7'
                obtain ⟨z1, _, _, _, z5⟩ := k7'
                rw [z1, List.nil_append]
                cases ha : fd.params.args with
                | nil => rw [ha] at z5; rw [← z5] at hlen; simp at hlen
                | cons a as => rw [ha] at z5; exact ⟨a, rfl, by rw [← z5]; rfl⟩
              obtain ⟨ar, ha1, ha2⟩ := har
              have bnd : Binds K fd x.N [] := .all fun us hl => bind_plain k7 (isNonV_ok k8) S.nd us hl
              refine ⟨_, cda, cc, fd, ⟨oexB_ok h2, sup, He.glo_ok KX G h4, eqO_ok h5, of_decide_eq_true h6, fun p hp => eqO_ok (List.all_eq_true.mp h7 p hp), He.free_ok KX G h8, hlen, of_decide_eq_true h10, bnd, ?_⟩⟩
              obtain ⟨n1, n2, n3, n4, n5, n6, n7, n8, n9, n10, n11, n12, n13, n14, n15⟩ := fd
              dsimp only at eb ec ed k1 k2 k3 k4 k5 k6 k7 k8 k11 ha1
              have e6 : n6 = mainGlobals := of_decide_eq_true k1
              have e15 : n15 = builtinsNs := of_decide_eq_true k2
              subst eb ec ed e6 e15
              exact ⟨n1, n2, n3, n5, n8, n9, n10, n11, n12, n14, oc, od, osl, msg, rest, p0, p1, p2, p3, p4, ar, rfl, lk, k3, S, of_decide_eq_true k5, of_decide_eq_true k6, ha1, ha2, k9, k10, k11⟩
/-- the errors where they are caught -/
def hB (K : PySem.W.Frag) (x : Xd) : Bool := eqO (PySem.W.findIn K (.ref (ga K x.name)) "__getattribute__") (some (some (.builtin "BaseException.__getattribute__"))) && (eqO (PySem.W.findIn K (.ref (ga K x.name)) "__getattr__") (some none) && (PySem.W.hasDictIn K (ga K x.name) && (decide ((x.fields.map (·.1)).Nodup))))
def mtB (K : PySem.W.Frag) : List Xd → Bool
  | [] => true
  | x :: xs => decide (PySem.W.exmOne K (.ref (ga K x.name)) (.ref (ga K x.name)) = some true) && ((xs.all fun y => decide (PySem.W.exmOne K (.ref (ga K x.name)) (.ref (ga K y.name)) = some false) && decide (PySem.W.exmOne K (.ref (ga K y.name)) (.ref (ga K x.name)) = some false)) && mtB K xs)
theorem mtB_ok {K : PySem.W.Frag} : ∀ {xs : List Xd}, mtB K xs = true → ∀ (i j : Nat) (x y : Xd), xs[i]? = some x → xs[j]? = some y → PySem.W.exmOne K (.ref (ga K x.name)) (.ref (ga K y.name)) = some (decide (i = j))
  | [], _, i, j, x, y, h1, _ => by simp at h1
  | z :: zs, h, i, j, x, y, h1, h2 => by
    obtain ⟨k1, h⟩ := ba h
    obtain ⟨k2, k3⟩ := ba h
    cases i with
    | zero =>
      cases j with
      | zero =>
        cases h1; cases h2
        rw [decide_eq_true rfl]
        exact of_decide_eq_true k1
      | succ j =>
        cases h1
        have hm : y ∈ zs := List.mem_of_getElem? (by simpa using h2)
        obtain ⟨k4, _⟩ := ba (List.all_eq_true.mp k2 y hm)
        rw [of_decide_eq_true k4]
        simp
    | succ i =>
      cases j with
      | zero =>
        cases h2
        have hm : x ∈ zs := List.mem_of_getElem? (by simpa using h1)
        obtain ⟨_, k4⟩ := ba (List.all_eq_true.mp k2 x hm)
        rw [of_decide_eq_true k4]
        simp
      | succ j =>
        have := mtB_ok k3 i j x y (by simpa using h1) (by simpa using h2)
        rw [this]
        simp
end Mi
set_option maxHeartbeats 4000000
set_option autoImplicit false
namespace Mi
open PySem PySem.Spec PyProof.Rows L2
open He (ba eqO eqO_ok ga ma fAd)
def miB (T : Tab) (P : Program) (K : PySem.W.Frag) : Bool := T.fns.all (fnB T K) && (T.cls.all (clB K) && (decide ((T.cls.map (·.name)).Nodup) && ((T.gis.all fun p => (He.Fa.int p.1 p.2).ok K) && ((bltNames.all fun x => (He.Fa.free x).ok K) && (T.xcs.all (xB P K) && (T.xcs.all (hB K) && mtB K T.xcs))))))
theorem nodup_ix {α : Type} {l : List α} (nd : l.Nodup) {i j : Nat} {a : α} (h1 : l[i]? = some a) (h2 : l[j]? = some a) : i = j := by
  obtain ⟨hi, e1⟩ := List.getElem?_eq_some_iff.mp h1
  obtain ⟨hj, e2⟩ := List.getElem?_eq_some_iff.mp h2
  exact (List.getElem_inj nd).mp (e1.trans e2.symm)
section
variable {T : Tab} {P : Program} {w : World} {K : PySem.W.Frag} {h base : Heap} {mg : Str → Option Value}
theorem fad_of {f : Nat} {d : Fd} (e : T.fns[f]? = some d) : (cxOfK T P w K mg base).fad f = fAd K d.at_ := by
  show (match T.fns[f]? with
    | some d => fAd K d.at_
    | none => 0) = _
  rw [e]
theorem ffd_of {f : Nat} {d : Fd} (e : T.fns[f]? = some d) : (cxOfK T P w K mg base).ffd f = fdAt K (fAd K d.at_) := by
  show (match T.fns[f]? with
    | some d => fdAt K (fAd K d.at_)
    | none => fd0) = _
  rw [e]
theorem cad_of {i : Nat} {d : Cd} (e : T.cls[i]? = some d) : (cxOfK T P w K mg base).cad i = ga K d.name := by
  show (match T.cls[i]? with
    | some d => ga K d.name
    | none => 0) = _
  rw [e]
theorem xad_of {i : Nat} {d : Xd} (e : T.xcs[i]? = some d) : (cxOfK T P w K mg base).xad i = ga K d.name := by
  show (match T.xcs[i]? with
    | some d => ga K d.name
    | none => 0) = _
  rw [e]
theorem fdAt_of {a : Addr} {oc : Value} {od : Option Addr} {fd : FuncData} {osl : Array (Option Value)} (e : K.lookup a = some ⟨oc, od, .func fd, osl⟩) : fdAt K a = fd := by
  unfold fdAt
  rw [e]
theorem mi_stat (KX : K.In h) (G : h.Ns mainGlobals mg) (c : miB T P K = true) : Stat (cxOfK T P w K mg base) ∧ XStat (cxOfK T P w K mg base) ∧ HStat (cxOfK T P w K mg base) ∧ DStat (cxOfK T P w K mg base) := by
  unfold miB at c
  obtain ⟨c1, c⟩ := ba c
  obtain ⟨c2, c⟩ := ba c
  obtain ⟨c3, c⟩ := ba c
  obtain ⟨c4, c⟩ := ba c
  obtain ⟨c5, c⟩ := ba c
  obtain ⟨c6, c⟩ := ba c
  obtain ⟨c7, c8⟩ := ba c
  have hf : ∀ {f : Nat} {d : Fd}, T.fns[f]? = some d → fnB T K d = true := fun e => List.all_eq_true.mp c1 _ (List.mem_of_getElem? e)
  have hc : ∀ {i : Nat} {d : Cd}, T.cls[i]? = some d → clB K d = true := fun e => List.all_eq_true.mp c2 _ (List.mem_of_getElem? e)
  have hx : ∀ {i : Nat} {d : Xd}, T.xcs[i]? = some d → xB P K d = true := fun e => List.all_eq_true.mp c6 _ (List.mem_of_getElem? e)
  have hh : ∀ {i : Nat} {d : Xd}, T.xcs[i]? = some d → hB K d = true := fun e => List.all_eq_true.mp c7 _ (List.mem_of_getElem? e)
  refine ⟨⟨fun f d x e ea => ?_, fun f d e => ?_, fun i d e => ?_, fun i d f e hm => ?_, fun f d m i cd e ea ei => ?_, fun f d i cd e ea ei => ?_, fun p hp => ?_, fun x hxx => ?_, fun i j d1 d2 e1 e2 en => ?_⟩, ⟨fun i x e => ?_, fun i x e => ?_⟩, ⟨fun i x e => ?_, fun i x e => ?_, fun i x e => ?_, fun i x e => ?_, fun i x e p hp => ?_, fun i j x y e1 e2 => ?_, fun i x e => ?_⟩, ⟨fun f d e => ?_⟩⟩
  · obtain ⟨oc, od, osl, fd, body, lk, _, _, _, _, _, _, _, kp, hat⟩ := fnB_ok (hf e)
    rw [fad_of e]
    refine ⟨?_, kp⟩
    rw [ea] at hat
    dsimp only at hat
    rw [ea]
    exact PySem.W.mg_of KX G hat
  · obtain ⟨oc, od, osl, fd, body, lk, _, _, _, hp, hd, S, _⟩ := fnB_ok (hf e)
    rw [ffd_of e, fdAt_of lk]
    exact .all fun us hl => bind_plain hp hd (S.nd.sublist (List.take_sublist _ _)) us hl
  · rw [cad_of e]
    exact He.cls_ok (ba (hc e)).1
  · rw [cad_of e]
    have := (ba (ba (ba (hc e)).2).2).2
    exact He.noat_ok (List.all_eq_true.mp this f hm)
  · obtain ⟨oc, od, osl, fd, body, lk, _, _, _, _, _, _, _, kp, hat⟩ := fnB_ok (hf e)
    rw [fad_of e, cad_of ei]
    rw [ea] at hat kp ⊢
    dsimp only at hat
    exact ⟨⟨hat.1, hat.2.1, kp⟩, hat.2.2 cd (List.mem_of_getElem? ei) rfl⟩
  · rw [fad_of e, cad_of ei, ea]
    obtain ⟨k1, k⟩ := ba (hc ei)
    obtain ⟨k2, k⟩ := ba k
    obtain ⟨k3, k4⟩ := ba k
    exact ⟨He.mkr_ok k3, He.glo_ok KX G k2⟩
  · exact He.int_ok KX G (List.all_eq_true.mp c4 p hp)
  · exact He.free_ok KX G (List.all_eq_true.mp c5 x hxx)
  · have nd : (T.cls.map (·.name)).Nodup := of_decide_eq_true c3
    exact nodup_ix nd (a := d1.name) (by rw [List.getElem?_map, e1]; rfl) (by rw [List.getElem?_map, e2, en]; rfl)
  · rw [xad_of e]
    exact xB_ok KX G (hx e)
  · obtain ⟨_, k⟩ := ba (hh e)
    obtain ⟨_, k⟩ := ba k
    exact of_decide_eq_true (ba k).2
  · rw [xad_of e]
    exact eqO_ok (ba (hh e)).1
  · rw [xad_of e]
    exact eqO_ok (ba (ba (hh e)).2).1
  · rw [xad_of e]
    exact (ba (ba (ba (hh e)).2).2).1
  · obtain ⟨f, cda, cc, fd, X⟩ := xB_ok (mg := mg) KX G (hx e)
    rw [xad_of e]
    exact X.oex.exC
  · obtain ⟨f, cda, cc, fd, X⟩ := xB_ok (mg := mg) KX G (hx e)
    rw [xad_of e]
    exact X.fld p hp
  · rw [xad_of e1, xad_of e2]
    exact mtB_ok c8 i j x y e1 e2
  · obtain ⟨f, cda, cc, fd, X⟩ := xB_ok (mg := mg) KX G (hx e)
    rw [xad_of e]
    exact X.gC
  · obtain ⟨oc, od, osl, fd, body, lk, hcd, efd, hck, hp, hd, S, hnp, kp, hat⟩ := fnB_ok (hf e)
    rw [fad_of e, ffd_of e, fdAt_of lk]
    exact ⟨fd.name, fd.qualname, fd.params, body, fd.scope, fd.defaults, fd.kwdefaults, fd.doc, fd.pyModule, fd.code, fd.closureTuple, oc, fd.annotations, od, osl, efd, by rw [← efd]; exact lk, hcd, S, hck, hnp⟩
end
/-! ### the Hook -/
def asM (g : Addr → Option Obj) : Nat → List Addr
  | 0 => [mainGlobals, cStatics]
  | n + 1 => He.growD g (asM g n)
def obsM (n : Nat) (T : Tab) (P : Program) (g : Addr → Option Obj) : Bool := miB T P (He.frG g (asM g n))
def hookM (n : Nat) (T : Tab) (P : Program) : PySem.W.Hook where
  α := Bool
  obs := fun s => obsM n T P s.heap.get?
  val := fun _ => true
  says := fun _ h => ∃ K : PySem.W.Frag, K.In h ∧ miB T P K = true
  of := fun _ _ e => ⟨_, He.frG_in, e⟩
  keeps := fun _ _ _ ⟨K, hK, c⟩ k => ⟨K, PySem.W.Frag.In.keeps hK k, c⟩
theorem obsM_eq {n : Nat} {T : Tab} {P : Program} {g : Addr → Option Obj} {s : Shared} (h : ∀ a, g a = s.heap.get? a) : obsM n T P g = (hookM n T P).obs s := by
  have e : g = s.heap.get? := funext h
  rw [e] <;> rfl
end Mi
set_option maxHeartbeats 4000000
set_option autoImplicit false
namespace Mi
open PySem PySem.Spec PyProof.Rows L2
open He (ba eqO eqO_ok ga ma fAd)
theorem law_cx {P : Program} {w : World} {outer : List Env} (H : Hp) (s : Shared) (e : Value) (s' : Shared) (h : L2.CX P w outer H s (fun _ _ _ => False) e s') : False := by
  obtain ⟨_, _, _, _, _, _, _, _, _, _, _, _, z⟩ := h
  exact z
theorem fn_nox {P : Program} {w : World} {K : PySem.W.Frag} {mg : Str → Option Value} {base : Heap} {CX : CXT} {k : Nat} {f : Addr} {fd : FuncData} {ps : List Str} {sp : Sp} (F : FnOk P w K mg base (L2.CX P w) k f fd ps sp) : FnOk P w K mg base CX k f fd ps (fun vs H Q _ => sp vs H Q (fun _ _ _ => False)) :=
  ⟨fun vs H Q E h => F.len _ _ _ _ h, fun A outer s H args us vs Q E hr e0 hb r hsp => codeAny_mono (F.run A outer s H args us vs Q (fun _ _ _ => False) hr e0 hb r hsp) fun r s' hq => by
    cases r with
    | error e => exact (law_cx _ _ _ _ hq).elim
    | ok fl => cases fl <;> exact hq⟩
/-- what the law's def answers, from what run says -/
theorem law_fn {T : Tab} {P : Program} {w : World} {K : PySem.W.Frag} {h : Heap} {mg : Str → Option Value} {fa : Addr} {fl n : Nat} {d : Fd} {x : Str} (KX : K.In h) (G : h.Ns mainGlobals mg) (c : miB T P K = true) (hd : T.fns[fl]? = some d) (hat : d.at_ = (("law" : Str), none)) (hN : d.N.take d.np = [x]) (hnp : d.np = 1)
    (hmg : mg ("law" : Str) = some (.ref fa)) {most : Nat} (pl : ∀ ns : List Int, ns.length ≤ most → ∃ s, run T n fl [.fro (ns.map .int)] [] = .ok (.bl true) s) :
    ∃ (K : PySem.W.Frag) (fd : FuncData) (sp : Sp), K.In h ∧ (∀ (s : Shared) (u : Value), BindsTo s fd ⟨[u], []⟩ [(x, u)]) ∧
      (∀ (H : Hp) (a : Addr) (ns : List Int), ns.length ≤ most → Only H → SqL K H a (ns.map V.int) → sp [.ref a] H (fun v _ => v = .bl true) fun _ _ _ => False) ∧
      ∀ base : Heap, K.In base → base.Ns mainGlobals mg → FnOk P w K mg base L2.CX0 (2 * n + 1) fa fd [x] sp := by
  obtain ⟨st0, xs0, hs0, ds0⟩ := mi_stat (T := T) (P := P) (w := w) (base := h) KX G c
  have efa : (cxOfK T P w K mg h).fad fl = fa := by
    have e := (st0.glo fl d "law" hd hat).1
    have e : mg ("law" : Str) = some (.ref ((cxOfK T P w K mg h).fad fl)) := e
    rw [hmg] at e
    cases e
    rfl
  have hfnb : fnB T K d = true := by
    unfold miB at c
    exact List.all_eq_true.mp (ba c).1 _ (List.mem_of_getElem? hd)
  obtain ⟨oc, od, osl, fd, body, lk, _, _, _, hp, hdf, S, _⟩ := fnB_ok hfnb
  refine ⟨K, (cxOfK T P w K mg h).ffd fl, (fun vs H Q _ => spT (cxOfK T P w K mg h) (run T n) fl d.np vs H Q (fun _ _ _ => False)), KX, fun s u => ?_, fun H a ns hl _ hS => ?_, fun base KB GB => ?_⟩
  · rw [ffd_of hd, fdAt_of lk]
    rw [hN] at hp
    exact .of_eq (bind_plain hp hdf (by simp) [u] rfl)
  · refine ⟨by rw [hnp]; rfl, [], [], [.fro (ns.map .int)], ?_, ?_, ?_⟩
    · exact ⟨rfl, List.nodup_nil, (fun a ha => nomatch ha), fun n a o h1 _ => by simp at h1⟩
    · refine RelWs.cons ?_ RelWs.nil
      have em : fz [] [] H = H := by
        funext b
        unfold fz
        rw [if_neg]
        rintro ⟨n, o, h1, _⟩
        simp at h1
      rw [em]
      unfold RelW
      refine ⟨a, ns.map V.int, rfl, hS, ?_⟩
      have : ∀ l : List Int, RelWs (cxOfK T P w K mg h).kt [] H (l.map W.int) (l.map V.int) := by
        intro l
        induction l with
        | nil => exact RelWs.nil
        | cons i l ih => exact RelWs.cons (by unfold RelW; rfl) ih
      exact this ns
    · obtain ⟨s, e⟩ := pl ns hl
      rw [e]
      intro m' b H' _ _ r
      have r : RelW (cxOfK T P w K mg h).kt m' (fz m' s H') (.bl true) b := r
      unfold RelW at r
      exact r
  · obtain ⟨st1, xs1, hs1, ds1⟩ := mi_stat (T := T) (P := P) (w := w) (base := base) KX G c
    have F := all_ok st1 xs1 hs1 ds1 n fl d hd
    rw [← efa, ← hN]
    exact fn_nox F
end Mi
set_option maxHeartbeats 4000000
namespace Mi.K46
open PySem Mi
def b0_0 : TSs := (.cons (.ite (.e (.cmp .lt (.v 2) (.cst (.int 0)))) (.cons (.rai 0 (.cons (.v 2) .nil))
  .nil) .nil)
  .nil)
def b0_1 : TSs := (.cons (.ite (.e (.cmp .ne (.bi .len (.cons (.v 1) .nil)) (.bi .len (.cons (.idx (.v 0) (.cst (.int 0))) .nil)))) (.cons (.rai 0 (.cons (.bi .len (.cons (.v 1) .nil)) .nil))
  .nil) .nil)
  (.cons (.loop (.nm 2) (.sq (.v 1)) b0_0)
  (.cons (.ite (.e (.cmp .eq (.bi .sum (.cons (.v 1) .nil)) (.cst (.int 0)))) (.cons (.rai 0 (.cons (.cst (.int 0)) .nil))
  .nil) .nil)
  .nil)))
/-- 0: check_rows -/
def b0 : TSs := (.cons (.ite (.not (.e (.chn .le .le (.cst (.int 1)) (.bi .len (.cons (.v 0) .nil)) (.gi "MOST_SIGNALS" 5)))) (.cons (.rai 0 (.cons (.bi .len (.cons (.v 0) .nil)) .nil))
  .nil) .nil)
  (.cons (.ite (.not (.e (.chn .le .le (.cst (.int 1)) (.bi .len (.cons (.idx (.v 0) (.cst (.int 0))) .nil)) (.gi "MOST_STATES" 5)))) (.cons (.rai 0 (.cons (.bi .len (.cons (.idx (.v 0) (.cst (.int 0))) .nil)) .nil))
  .nil) .nil)
  (.cons (.loop (.nm 1) (.sq (.v 0)) b0_1)
  .nil)))
def f0 : Fd := ⟨("check_rows", none), ["rows", "row", "weight"], 1, b0⟩
def x1_0 : TX := (.bi .tuple (.cons (.v 3) .nil))
/-- 1: Signals.__init__ -/
def b1 : TSs := (.cons (.asg (.nm 2) (.lc false [3] x1_0 (.nm 3) (.sq (.v 1)) .yes))
  (.cons (.ex (.call 0 (.cons (.v 2) .nil)))
  (.cons (.sat (.v 0) "lines" (.bi .tuple (.cons (.v 2) .nil)))
  (.cons (.sat (.v 0) "count" (.bi .len (.cons (.v 2) .nil)))
  (.cons (.sat (.v 0) "states" (.bi .len (.cons (.idx (.v 2) (.cst (.int 0))) .nil)))
  .nil)))))
def f1 : Fd := ⟨("Signals", some "__init__"), ["self", "weights", "rows", "row"], 2, b1⟩

/-- 2: Signals.check_signal -/
def b2 : TSs := (.cons (.ite (.not (.e (.chn .le .lt (.cst (.int 0)) (.v 1) (.att (.v 0) "count")))) (.cons (.rai 0 (.cons (.v 1) .nil))
  .nil) .nil)
  .nil)
def f2 : Fd := ⟨("Signals", some "check_signal"), ["self", "signal"], 2, b2⟩

/-- 3: Signals.check_state -/
def b3 : TSs := (.cons (.ite (.not (.e (.chn .le .lt (.cst (.int 0)) (.v 1) (.att (.v 0) "states")))) (.cons (.rai 0 (.cons (.v 1) .nil))
  .nil) .nil)
  .nil)
def f3 : Fd := ⟨("Signals", some "check_state"), ["self", "state"], 2, b3⟩

/-- 4: Signals.minor -/
def b4 : TSs := (.cons (.ex (.mth 2 (.v 0) (.cons (.v 1) .nil)))
  (.cons (.ex (.mth 2 (.v 0) (.cons (.v 2) .nil)))
  (.cons (.ex (.mth 3 (.v 0) (.cons (.v 3) .nil)))
  (.cons (.ex (.mth 3 (.v 0) (.cons (.v 4) .nil)))
  (.cons (.ite (.e (.cmp .ge (.v 1) (.v 2))) (.cons (.rai 0 (.cons (.v 2) .nil))
  .nil) .nil)
  (.cons (.ite (.e (.cmp .ge (.v 3) (.v 4))) (.cons (.rai 0 (.cons (.v 4) .nil))
  .nil) .nil)
  (.cons (.par 5 6 (.idx (.att (.v 0) "lines") (.v 1)) (.idx (.att (.v 0) "lines") (.v 2)))
  (.cons (.ret (.bin .sub false (.bin .mul false (.idx (.v 5) (.v 3)) (.idx (.v 6) (.v 4))) (.bin .mul false (.idx (.v 5) (.v 4)) (.idx (.v 6) (.v 3)))))
  .nil))))))))
def f4 : Fd := ⟨("Signals", some "minor"), ["self", "first", "second", "state", "later", "one", "other"], 5, b4⟩
def x5_0 : TX := (.bin .mul false (.v 3) (.v 4))
/-- 5: Signals.total -/
def b5 : TSs := (.cons (.ex (.mth 2 (.v 0) (.cons (.v 1) .nil)))
  (.cons (.ite (.e (.cmp .ne (.bi .len (.cons (.v 2) .nil)) (.att (.v 0) "states"))) (.cons (.rai 0 (.cons (.bi .len (.cons (.v 2) .nil)) .nil))
  .nil) .nil)
  (.cons (.ret (.bi .sum (.cons (.lc false [3, 4] x5_0 (.tp [(.nm 3), (.nm 4)]) (.zp (.idx (.att (.v 0) "lines") (.v 1)) (.v 2)) .yes) .nil)))
  .nil)))
def f5 : Fd := ⟨("Signals", some "total"), ["self", "signal", "values", "weight", "value"], 3, b5⟩
def x6_0 : TX := (.bin .add false (.v 4) (.v 5))
/-- 6: Signals.joined -/
def b6 : TSs := (.cons (.ex (.mth 2 (.v 0) (.cons (.v 1) .nil)))
  (.cons (.ex (.mth 2 (.v 0) (.cons (.v 2) .nil)))
  (.cons (.ite (.e (.cmp .ne (.v 2) (.bin .add false (.v 1) (.cst (.int 1))))) (.cons (.rai 0 (.cons (.v 2) .nil))
  .nil) .nil)
  (.cons (.asg (.nm 3) (.lc false [4, 5] x6_0 (.tp [(.nm 4), (.nm 5)]) (.zp (.idx (.att (.v 0) "lines") (.v 1)) (.idx (.att (.v 0) "lines") (.v 2))) .yes))
  (.cons (.ret (.new 1 (.cons (.lstS false (.cons true (.slc false (.att (.v 0) "lines") .om (.e (.v 1))) (.cons false (.v 3) (.cons true (.slc false (.att (.v 0) "lines") (.e (.bin .add false (.v 2) (.cst (.int 1)))) .om) .nil)))) .nil)))
  .nil)))))
def f6 : Fd := ⟨("Signals", some "joined"), ["self", "first", "second", "both", "one", "other"], 3, b6⟩
def x7_0 : TX := (.idx (.v 4) (.v 3))
def x7_1 : TX := (.lc false [3] x7_0 (.nm 3) (.sq (.v 1)) .yes)
def b7_2 : TSs := (.cons (.ite (.or (.not (.e (.chn .le .lt (.cst (.int 0)) (.v 3) (.att (.v 0) "states")))) (.and (.e (.cmp .gt (.v 2) (.cst (.int 0)))) (.e (.cmp .le (.v 3) (.idx (.v 1) (.bin .sub false (.v 2) (.cst (.int 1)))))))) (.cons (.rai 0 (.cons (.v 3) .nil))
  .nil) .nil)
  .nil)
/-- 7: Signals.part -/
def b7 : TSs := (.cons (.ite (.e (.cmp .eq (.bi .len (.cons (.v 1) .nil)) (.cst (.int 0)))) (.cons (.rai 0 (.cons (.cst (.int 0)) .nil))
  .nil) .nil)
  (.cons (.loop (.tp [(.nm 2), (.nm 3)]) (.en (.v 1)) b7_2)
  (.cons (.ret (.new 1 (.cons (.lc false [4] x7_1 (.nm 4) (.sq (.att (.v 0) "lines")) .yes) .nil)))
  .nil)))
def f7 : Fd := ⟨("Signals", some "part"), ["self", "states", "at", "state", "line"], 2, b7⟩
def b8_0 : TSs := (.cons (.ite (.e (.cmp .lt (.mth 4 (.v 0) (.cons (.v 1) (.cons (.v 2) (.cons (.v 3) (.cons (.v 4) .nil))))) (.cst (.int 0)))) (.cons (.ret (.tup (.cons (.v 1) (.cons (.v 2) (.cons (.v 3) (.cons (.v 4) .nil))))))
  .nil) .nil)
  .nil)
def b8_1 : TSs := (.cons (.loop (.nm 4) (.r2 (.bin .add false (.v 3) (.cst (.int 1))) (.att (.v 0) "states")) b8_0)
  .nil)
def b8_2 : TSs := (.cons (.loop (.nm 3) (.r1 (.att (.v 0) "states")) b8_1)
  .nil)
def b8_3 : TSs := (.cons (.loop (.nm 2) (.r2 (.bin .add false (.v 1) (.cst (.int 1))) (.att (.v 0) "count")) b8_2)
  .nil)
/-- 8: negative_minor -/
def b8 : TSs := (.cons (.loop (.nm 1) (.r1 (.att (.v 0) "count")) b8_3)
  (.cons (.ret (.cst .non))
  .nil))
def f8 : Fd := ⟨("negative_minor", none), ["signals", "first", "second", "state", "later"], 1, b8⟩

/-- 9: is_ordered -/
def b9 : TSs := (.cons (.ret (.isN (.call 8 (.cons (.v 0) .nil))))
  .nil)
def f9 : Fd := ⟨("is_ordered", none), ["signals"], 1, b9⟩
def x10_0 : TX := (.bin .sub false (.bi .int (.cons (.cmp .gt (.v 2) (.cst (.int 0))) .nil)) (.bi .int (.cons (.cmp .lt (.v 2) (.cst (.int 0))) .nil)))
/-- 10: is_crossing_row -/
def b10 : TSs := (.cons (.asg (.nm 1) (.lc false [2] x10_0 (.nm 2) (.sq (.v 0)) .yes))
  (.cons (.ret (.cmp .eq (.v 1) (.bi (.sorted false) (.cons (.v 1) .nil))))
  .nil))
def f10 : Fd := ⟨("is_crossing_row", none), ["values", "signs", "value"], 1, b10⟩

/-- 11: _law_bag -/
def b11 : TSs := (.cons (.ret (.lst true (.cons (.v 0) (.cons (.cst (.int 0)) (.cons (.cmp .ge (.v 0) (.bin .pow false (.cst (.int 10)) (.cst (.int 18)))) .nil)))))
  .nil)
def f11 : Fd := ⟨("_law_bag", none), ["_law_cell"], 1, b11⟩

/-- 12: _law_draw -/
def b12 : TSs := (.cons (.six (.v 0) (.cst (.int 1)) (.bin .add false (.idx (.v 0) (.cst (.int 1))) (.cst (.int 1))))
  (.cons (.ite (.e (.idx (.v 0) (.cst (.int 2)))) (.cons (.asg (.nm 3) (.bin .mod false (.bi .int (.cons (.idx (.v 0) (.cst (.int 0))) .nil)) (.v 1)))
  (.cons (.six (.v 0) (.cst (.int 0)) (.bin .fdiv false (.bi .int (.cons (.idx (.v 0) (.cst (.int 0))) .nil)) (.v 1)))
  (.cons (.ret (.v 3))
  .nil))) .nil)
  (.cons (.asg (.nm 2) (.bin .mod false (.bi .int (.cons (.bin .add false (.bin .add false (.bin .mul false (.idx (.v 0) (.cst (.int 0))) (.cst (.int 7919))) (.bin .mul false (.idx (.v 0) (.cst (.int 1))) (.cst (.int 104729)))) (.cst (.int 13))) .nil)) (.cst (.int 2147483647))))
  (.cons (.ret (.bin .mod false (.bin .fdiv false (.bi .int (.cons (.bin .mod false (.bin .pow false (.v 2) (.cst (.int 5))) (.cst (.int 2147483647))) .nil)) (.cst (.int 17))) (.v 1)))
  .nil))))
def f12 : Fd := ⟨("_law_draw", none), ["_law_pool", "_law_limit", "_law_mixed", "_law_drawn"], 2, b12⟩

/-- 13: _law_at_of -/
def b13 : TSs := (.cons (.ite (.e (.cmp .lt (.v 1) (.bi .len (.cons (.v 0) .nil)))) (.cons (.ret (.idx (.v 0) (.v 1)))
  .nil) .nil)
  (.cons (.ret (.cst (.int 0)))
  .nil))
def f13 : Fd := ⟨("_law_at_of", none), ["_law_script", "_law_k"], 2, b13⟩
def b14_0 : TSs := (.cons (.six (.v 12) (.v 13) (.bin .mul false (.idx (.v 3) (.v 13)) (.idx (.v 5) (.v 13))))
  .nil)
def b14_1 : TSs := (.cons (.six (.v 5) (.v 11) (.bin .mul false (.idx (.v 5) (.v 11)) (.v 10)))
  (.cons (.asg (.nm 10) (.bin .mul false (.v 10) (.v 9)))
  .nil))
def b14_2 : TSs := (.cons (.asg (.nm 9) (.bin .add false (.cst (.int 1)) (.call 12 (.cons (.v 0) (.cons (.cst (.int 3)) .nil)))))
  (.cons (.asg (.nm 10) (.cst (.int 1)))
  (.cons (.loop (.nm 11) (.r1 (.v 2)) b14_1)
  (.cons (.asg (.nm 12) (.bin .mul true (.lst false (.cons (.cst (.int 0)) .nil)) (.v 2)))
  (.cons (.loop (.nm 13) (.r2 (.v 7) (.bin .add false (.v 8) (.cst (.int 1)))) b14_0)
  (.cons (.ex (.bm .append (.v 4) (.cons (.frz (.v 12)) .nil)))
  (.cons (.asg (.nm 7) (.bi .min2 (.cons (.v 8) (.cons (.bin .add false (.v 7) (.call 12 (.cons (.v 0) (.cons (.cst (.int 2)) .nil)))) .nil))))
  (.cons (.asg (.nm 8) (.bi .min2 (.cons (.bin .sub false (.v 2) (.cst (.int 1))) (.cons (.bin .add false (.v 8) (.call 12 (.cons (.v 0) (.cons (.cst (.int 3)) .nil)))) .nil))))
  .nil))))))))
def x14_3 : TX := (.bin .add false (.cst (.int 1)) (.call 12 (.cons (.v 0) (.cons (.cst (.int 4)) .nil))))
/-- 14: _law_ordered -/
def b14 : TSs := (.cons (.asg (.nm 3) (.lc false [11] x14_3 (.nm 11) (.r1 (.v 2)) .yes))
  (.cons (.asg (.nm 4) (.lst true .nil))
  (.cons (.asg (.nm 5) (.bin .mul true (.lst false (.cons (.cst (.int 1)) .nil)) (.v 2)))
  (.cons (.par 7 8 (.cst (.int 0)) (.call 12 (.cons (.v 0) (.cons (.v 2) .nil))))
  (.cons (.loop (.nm 6) (.r1 (.v 1)) b14_2)
  (.cons (.ret (.frz (.v 4)))
  .nil))))))
def f14 : Fd := ⟨("_law_ordered", none), ["_law_pool", "_law_count", "_law_states", "_law_base", "_law_rows", "_law_power", "_law_k", "_law_low", "_law_high", "_law_grown", "_law_factor", "_law_state", "_law_row", "_law_j"], 3, b14⟩
def x15_0 : TX := (.bin .add false (.cst (.int 1)) (.call 12 (.cons (.v 0) (.cons (.cst (.int 9)) .nil))))
def x15_1 : TX := (.bin .sub false (.neg (.cst (.int 1))) (.call 12 (.cons (.v 0) (.cons (.cst (.int 9)) .nil))))
/-- 15: _law_crossing -/
def b15 : TSs := (.cons (.asg (.nm 2) (.call 12 (.cons (.v 0) (.cons (.bin .add false (.v 1) (.cst (.int 1))) .nil))))
  (.cons (.asg (.nm 3) (.bin .add false (.v 2) (.call 12 (.cons (.v 0) (.cons (.bin .sub false (.bin .add false (.v 1) (.cst (.int 1))) (.v 2)) .nil)))))
  (.cons (.asg (.nm 4) (.bin .add false (.lc false [5] x15_1 (.nm 5) (.r1 (.v 2)) .yes) (.bin .mul false (.lst false (.cons (.cst (.int 0)) .nil)) (.bin .sub false (.v 3) (.v 2)))))
  (.cons (.ret (.bin .add false (.v 4) (.lc false [5] x15_0 (.nm 5) (.r1 (.bin .sub false (.v 1) (.v 3))) .yes)))
  .nil))))
def f15 : Fd := ⟨("_law_crossing", none), ["_law_pool", "_law_states", "_law_at", "_law_up", "_law_row", "_law_k"], 2, b15⟩
def b16_0 : TSs := (.cons (.ite (.or (.and (.e (.cmp .ge (.idx (.v 0) (.v 1)) (.cst (.int 0)))) (.e (.cmp .lt (.v 2) (.cst (.int 0))))) (.and (.e (.cmp .gt (.idx (.v 0) (.v 1)) (.cst (.int 0)))) (.e (.cmp .le (.v 2) (.cst (.int 0)))))) (.cons (.ret (.cst (.bl false)))
  .nil) .nil)
  .nil)
def b16_1 : TSs := (.cons (.loop (.nm 2) (.sq (.slc false (.v 0) (.e (.v 1)) .om)) b16_0)
  .nil)
/-- 16: _law_crosses -/
def b16 : TSs := (.cons (.loop (.nm 1) (.r1 (.bi .len (.cons (.v 0) .nil))) b16_1)
  (.cons (.ret (.cst (.bl true)))
  .nil))
def f16 : Fd := ⟨("_law_crosses", none), ["_law_values", "_law_k", "_law_later"], 1, b16⟩
def x17_0 : TX := (.mth 5 (.v 0) (.cons (.v 2) (.cons (.v 1) .nil)))
/-- 17: _law_totals_of -/
def b17 : TSs := (.cons (.ret (.lc false [2] x17_0 (.nm 2) (.r1 (.att (.v 0) "count")) .yes))
  .nil)
def f17 : Fd := ⟨("_law_totals_of", none), ["_law_signals", "_law_values", "_law_k"], 2, b17⟩

/-- 18: _law_part -/
def b18 : TSs := (.cons (.tri (.cons (.ret (.call 9 (.cons (.mth 7 (.v 0) (.cons (.v 1) .nil)) .nil)))
  .nil) [(0, none, true, (.cst (.bl true)))])
  .nil)
def f18 : Fd := ⟨("_law_part", none), ["_law_signals", "_law_states"], 2, b18⟩

/-- 19: _law_shown -/
def b19 : TSs := (.cons (.asg (.tp [(.nm 6), (.nm 7), (.nm 8), (.nm 9)]) (.v 1))
  (.cons (.asg (.nm 2) (.bin .add false (.cst (.int 1)) (.bin .mul false (.bi .sum (.cons (.idx (.v 0) (.v 7)) .nil)) (.bin .add false (.cst (.int 2)) (.bi .sum (.cons (.idx (.v 0) (.v 6)) .nil))))))
  (.cons (.asg (.nm 3) (.idx (.v 0) (.v 6)))
  (.cons (.asg (.nm 4) (.bin .add true (.bin .add false (.bin .mul false (.lst false (.cons (.neg (.cst (.int 1))) .nil)) (.v 8)) (.lst false (.cons (.bin .mul false (.neg (.v 2)) (.idx (.v 3) (.v 9))) .nil))) (.bin .mul false (.lst false (.cons (.cst (.int 0)) .nil)) (.bin .sub false (.bin .sub false (.v 9) (.v 8)) (.cst (.int 1))))))
  (.cons (.ex (.bm .append (.v 4) (.cons (.bin .add false (.bin .mul false (.v 2) (.idx (.v 3) (.v 8))) (.bi .sum (.cons (.slc false (.v 3) .om (.e (.v 8))) .nil))) .nil)))
  (.cons (.asg (.nm 4) (.bin .add false (.v 4) (.bin .mul false (.lst false (.cons (.cst (.int 1)) .nil)) (.bin .sub false (.bin .sub false (.bi .len (.cons (.v 3) .nil)) (.v 9)) (.cst (.int 1))))))
  (.cons (.asg (.nm 5) (.new 1 (.cons (.v 0) .nil)))
  (.cons (.ite (.not (.e (.call 10 (.cons (.v 4) .nil)))) (.cons (.ret (.cst (.bl false)))
  .nil) .nil)
  (.cons (.ite (.not (.e (.cmp .ge (.mth 5 (.v 5) (.cons (.v 6) (.cons (.v 4) .nil))) (.cst (.int 0))))) (.cons (.ret (.cst (.bl false)))
  .nil) .nil)
  (.cons (.ret (.cmp .lt (.mth 5 (.v 5) (.cons (.v 7) (.cons (.v 4) .nil))) (.cst (.int 0))))
  .nil))))))))))
def f19 : Fd := ⟨("_law_shown", none), ["_law_rows", "_law_found", "_law_factor", "_law_one", "_law_values", "_law_signals", "_law_first", "_law_second", "_law_state", "_law_later"], 2, b19⟩
def x20_0 : TX := (.bin .add false (.lst false (.cons (.bin .add false (.idx (.v 14) (.cst (.int 0))) (.bi .int (.cons (.cmp .eq (.bi .sum (.cons (.v 14) .nil)) (.cst (.int 0))) .nil))) .nil)) (.slc false (.v 14) (.e (.cst (.int 1))) .om))
def x20_1 : TX := (.call 12 (.cons (.v 1) (.cons (.cst (.int 4)) .nil)))
def x20_2 : TX := (.lc false [13] x20_1 (.nm 13) (.r1 (.v 8)) .yes)
def x20_3 : TX := (.v 13)
def t20_4 : TT := (.e (.cmp .gt (.call 12 (.cons (.v 1) (.cons (.cst (.int 3)) .nil))) (.cst (.int 0))))
def x20_5 : TX := (.bin .sub false (.call 12 (.cons (.v 1) (.cons (.cst (.int 7)) .nil))) (.cst (.int 3)))
def b20_6 : TSs := (.cons (.asg (.nm 1) (.call 11 (.cons (.v 4) .nil)))
  (.cons (.asg (.nm 5) (.call 15 (.cons (.v 1) (.cons (.att (.v 3) "states") .nil))))
  (.cons (.asg (.nm 6) (.call 17 (.cons (.v 3) (.cons (.v 5) .nil))))
  (.cons (.ite (.or (.not (.e (.call 10 (.cons (.v 5) .nil)))) (.or (.not (.e (.call 16 (.cons (.v 6) .nil)))) (.not (.e (.call 10 (.cons (.v 6) .nil)))))) (.cons (.ret (.cst (.bl false)))
  .nil) .nil)
  (.cons (.asg (.nm 5) (.lc false [12] x20_5 (.nm 12) (.r1 (.call 12 (.cons (.v 1) (.cons (.cst (.int 6)) .nil)))) .yes))
  (.cons (.ite (.e (.cmp .ne (.call 10 (.cons (.v 5) .nil)) (.call 16 (.cons (.v 5) .nil)))) (.cons (.ret (.cst (.bl false)))
  .nil) .nil)
  (.cons (.ite (.e (.cmp .ne (.call 10 (.cons (.bi .tuple (.cons (.v 5) .nil)) .nil)) (.call 16 (.cons (.v 5) .nil)))) (.cons (.ret (.cst (.bl false)))
  .nil) .nil)
  (.cons (.ite (.e (.cmp .gt (.att (.v 3) "count") (.cst (.int 1)))) (.cons (.asg (.nm 11) (.call 12 (.cons (.v 1) (.cons (.bin .sub false (.att (.v 3) "count") (.cst (.int 1))) .nil))))
  (.cons (.ite (.not (.e (.call 9 (.cons (.mth 6 (.v 3) (.cons (.v 11) (.cons (.bin .add false (.v 11) (.cst (.int 1))) .nil))) .nil)))) (.cons (.ret (.cst (.bl false)))
  .nil) .nil)
  .nil)) .nil)
  (.cons (.asg (.nm 7) (.lc false [13] x20_3 (.nm 13) (.r1 (.att (.v 3) "states")) t20_4))
  (.cons (.ite (.not (.e (.call 18 (.cons (.v 3) (.cons (.v 7) .nil))))) (.cons (.ret (.cst (.bl false)))
  .nil) .nil)
  (.cons (.asg (.nm 8) (.bi .min2 (.cons (.cst (.int 5)) (.cons (.bin .add false (.cst (.int 1)) (.att (.v 3) "states")) .nil))))
  (.cons (.asg (.nm 9) (.lc false [12] x20_2 (.nm 12) (.r1 (.cst (.int 2))) .yes))
  (.cons (.asg (.nm 9) (.lc false [14] x20_0 (.nm 14) (.sq (.v 9)) .yes))
  (.cons (.asg (.nm 10) (.call 8 (.cons (.new 1 (.cons (.v 9) .nil)) .nil)))
  (.cons (.ite (.and (.e (.ntN (.v 10))) (.not (.e (.call 19 (.cons (.v 9) (.cons (.v 10) .nil)))))) (.cons (.ret (.cst (.bl false)))
  .nil) .nil)
  .nil)))))))))))))))
/-- 20: law -/
def b20 : TSs := (.cons (.asg (.nm 1) (.call 11 (.cons (.call 13 (.cons (.v 0) (.cons (.cst (.int 0)) .nil))) .nil)))
  (.cons (.asg (.nm 2) (.call 14 (.cons (.v 1) (.cons (.bin .add false (.cst (.int 1)) (.call 12 (.cons (.v 1) (.cons (.cst (.int 5)) .nil)))) (.cons (.bin .add false (.cst (.int 1)) (.call 12 (.cons (.v 1) (.cons (.cst (.int 5)) .nil)))) .nil)))))
  (.cons (.asg (.nm 3) (.new 1 (.cons (.v 2) .nil)))
  (.cons (.ite (.not (.e (.call 9 (.cons (.v 3) .nil)))) (.cons (.ret (.cst (.bl false)))
  .nil) .nil)
  (.cons (.loop (.nm 4) (.sq (.bin .add false (.lst false (.cons (.call 13 (.cons (.v 0) (.cons (.cst (.int 1)) .nil))) .nil)) (.bi (.list false) (.cons (.slc false (.v 0) (.e (.cst (.int 2))) (.e (.cst (.int 7)))) .nil)))) b20_6)
  (.cons (.ret (.bi .isBool (.cons (.call 10 (.cons (.lst false .nil) .nil)) .nil)))
  .nil))))))
def f20 : Fd := ⟨("law", none), ["_law_script", "_law_pool", "_law_rows", "_law_signals", "_law_cell", "_law_values", "_law_totals", "_law_some", "_law_wide", "_law_other", "_law_found", "_law_at", "_law_k", "_law_state", "_law_row"], 1, b20⟩
def T : Tab := ⟨[f0, f1, f2, f3, f4, f5, f6, f7, f8, f9, f10, f11, f12, f13, f14, f15, f16, f17, f18, f19, f20],
  [⟨"Signals", ["lines", "count", "states"], true⟩],
  [⟨"BadNumber", [("n", false)], true, ["self", "n"]⟩],
  [("MOST_SIGNALS", 5), ("MOST_STATES", 5)]⟩
end Mi.K46
set_option maxHeartbeats 0
namespace Mi.K46
open PySem PySem.W PySem.Calls PyProof.Rows
abbrev R : OpenRow := OpenLaw.row PySem.Challenge.rw_risingknobs_k46_whole_means_that_cross
abbrev hk : PySem.W.Hook := hookM 14 T R.prog
def ob (s : PySem.W.SharedT) : Bool := obsM 14 T R.prog (HandSHeadRun.getT s)
theorem ob_eq (s : PySem.W.SharedT) : ob s = hk.obs s.abs := obsM_eq (HandSHeadRun.getT_eq s)
def nm0 : List PySem.Str := ["RiseError", "BadNumber", "MOST_SIGNALS", "MOST_STATES", "check_rows", "Signals", "negative_minor", "is_ordered", "is_crossing_row", "_law_bag", "_law_draw", "_law_at_of", "_law_ordered", "_law_crossing", "_law_sign", "_law_crosses", "_law_totals_of", "_law_part", "_law_shown"]
def names : List PySem.Str := nm0
theorem hrun (w : World) : HandSHeadRun.RunEq R (view R.prog [22]) hk ob 4000 names w := by
  intro os
  kernel_rfl
end Mi.K46
set_option maxHeartbeats 0
namespace Mi.K46
open PySem PySem.W PySem.Calls PyProof.Rows
theorem holds_of (pl : ∀ ns : List Int, ns.length ≤ 63 → ∃ s, Mi.run T 14 20 [.fro (ns.map .int)] [] = .ok (.bl true) s) : PySem.Challenge.rw_risingknobs_k46_whole_means_that_cross.Holds := by
  w_on; o_law
  refine HandSHeadRun.head_any (r := OpenLaw.row PySem.Challenge.rw_risingknobs_k46_whole_means_that_cross) (q := view (OpenLaw.row PySem.Challenge.rw_risingknobs_k46_whole_means_that_cross).prog [22]) (H := hk) (ob := ob) (M := 4000) (loose := names) (d := HandSHeadRun.topDef (OpenLaw.row PySem.Challenge.rw_risingknobs_k46_whole_means_that_cross).prog 22) (kwd := []) ob_eq
    (by kernel_rfl) (fun s => by kernel_rfl) hrun (by kernel_rfl) (by kernel_rfl) (by kernel_rfl) (by rfl) (by first | assumption | decide +kernel) (by decide +kernel) ⟨rfl, rfl, rfl, rfl, rfl, by decide +kernel⟩ ?hw ?hc
  case hw => w_witness2
  case hc =>
    refine L2.walk_ofE (l := PySem.Challenge.rw_risingknobs_k46_whole_means_that_cross) (n := 63) (k := 29) (x := "_law_script") (CX := L2.CX0) rfl (by decide) (by kernel_rfl) ⟨rfl, by decide, by decide⟩ ?F (fun _ _ _ _ z => z)
    intro w mg fa h Y G hmg0
    obtain ⟨K, KX, c⟩ := Y
    have hmg : mg ("law" : PySem.Str) = some (.ref fa) := by
      have e : (HandSHeadRun.topDef (OpenLaw.row PySem.Challenge.rw_risingknobs_k46_whole_means_that_cross).prog 22).name = ("law" : PySem.Str) := by kernel_rfl
      rw [← e]
      exact hmg0
    exact law_fn (d := f20) (x := "_law_script") KX G c (by rfl) (by rfl) (by rfl) (by rfl) hmg pl
end Mi.K46
set_option maxHeartbeats 4000000
namespace Mi
open PySem
/-! ## plain reasoning about the evaluator -/
theorem run_eq {T : Tab} {n f : Nat} {d : Fd} {ws : List W} {st : Store} (h : T.fns[f]? = some d) (hn : ws.length = d.np) : run T (n + 1) f ws st = cut st (exSs T (run T n) none d.body (startE d.N ws) st).res := by
  unfold run
  rw [h]
  simp [hn]
/-- the store is as it was, but for younger objects -/
theorem cutOk_self {st e : Store} : cutOk st (st ++ e) := by
  intro n o hn h
  rw [List.getElem?_append_left hn] at h
  exact .inl h
theorem cut_ok {st s : Store} {w : W} (h : s.take st.length = st) (hc : (cutOk st s ∧ W.clo st.length w = true) ∨ s = st) : cut st (.ok w s) = .ok w st := by
  rcases hc with hc | hc
  · simp only [cut]; rw [if_pos hc, h]
  · subst hc; simp only [cut, List.take_length, ite_self]
theorem cut_self {st : Store} {w : W} : cut st (.ok w st) = .ok w st := by
  simp only [cut, List.take_length, ite_self]
theorem cut_app {st e : Store} {w : W} (h : W.clo st.length w = true) : cut st (.ok w (st ++ e)) = .ok w st := by
  simp only [cut]
  rw [if_pos ⟨cutOk_self, h⟩, List.take_left]
theorem cut_ex_self {st : Store} {c : Nat} {ws : List W} : cut st (.ex c ws st) = .ex c ws st := by
  simp only [cut, List.take_length, ite_self]
theorem cut_ex_app {st e : Store} {c : Nat} {ws : List W} (h : W.clos st.length ws = true) : cut st (.ex c ws (st ++ e)) = .ex c ws st := by
  simp only [cut]
  rw [if_pos ⟨cutOk_self, h⟩, List.take_left]
theorem cut_no {st : Store} : cut st .no = .no := rfl
theorem cut_take {st s : Store} {w : W} (hc : cutOk st s) (h : W.clo st.length w = true) : cut st (.ok w s) = .ok w (s.take st.length) := by
  simp only [cut]
  rw [if_pos ⟨hc, h⟩]
theorem cut_same_len {st s : Store} {w : W} (h : s.length = st.length) : cut st (.ok w s) = .ok w s := by
  simp only [cut]
  rw [← h, List.take_length, ite_self]
theorem still_nil {st : Store} : still [] st = .ok () st := by unfold still; simp
theorem still_one {st : Store} {n : Nat} {xs : List W} (h : st[n]? = some (some (.lst xs))) : still [(n, xs)] st = .ok () st := by unfold still; simp [h]
/-- an object of the store -/
def At (st : Store) (n : Nat) (o : MO) : Prop := st[n]? = some (some o)
theorem At.lt {st : Store} {n : Nat} {o : MO} (h : At st n o) : n < st.length := by
  obtain ⟨h, _⟩ := List.getElem?_eq_some_iff.mp h
  exact h
theorem At.get {st : Store} {n : Nat} {o : MO} (h : At st n o) : getM n st = .ok o st := by unfold getM; rw [h]
theorem At.set {st : Store} {n : Nat} {o o' : MO} (h : At st n o) : setM n o' st = .ok () (st.set n (some o')) := by unfold setM; rw [h]
theorem At.set_self {st : Store} {n : Nat} {o o' : MO} (h : At st n o) : At (st.set n (some o')) n o' := by
  unfold At
  rw [List.getElem?_set_self h.lt]
theorem At.set_ne {st : Store} {n k : Nat} {o : MO} {x : Option MO} (h : At st n o) (e : k ≠ n) : At (st.set k x) n o := by
  unfold At
  rw [List.getElem?_set_ne e]; exact h
theorem At.app {st e : Store} {n : Nat} {o : MO} (h : At st n o) : At (st ++ e) n o := by
  unfold At
  rw [List.getElem?_append_left h.lt]; exact h
theorem At.last {st : Store} {o : MO} : At (st ++ [some o]) st.length o := by
  unfold At; simp
theorem set_last {st : Store} {x y : Option MO} : (st ++ [x]).set st.length y = st ++ [y] := by simp
end Mi
set_option maxHeartbeats 4000000
namespace Mi
open PySem
/-! ## stepping rules: nothing is unfolded below a binder, as no store stands there -/
def bdR {α β : Type} : R α → (α → Q β) → R β
  | .ok a s, f => f a s
  | .ex c xs s, _ => .ex c xs s
  | .no, _ => .no
theorem bd_st {α β : Type} {x : Q α} {f : α → Q β} {st : Store} : bd x f st = bdR (x st) f := by
  unfold bd bdR
  cases x st <;> rfl
theorem bdR_ok {α β : Type} {f : α → Q β} {a : α} {s : Store} : bdR (.ok a s) f = f a s := id rfl
theorem bdR_ex {α β : Type} {f : α → Q β} {c : Nat} {xs : List W} {s : Store} : bdR (.ex c xs s) f = .ex c xs s := id rfl
theorem bdR_no {α β : Type} {f : α → Q β} : bdR .no f = .no := id rfl
theorem pu_st {α : Type} {a : α} {st : Store} : pu a st = .ok a st := id rfl
theorem no_st {α : Type} {st : Store} : (no : Q α) st = .no := id rfl
theorem bo_ok {α : Type} {a : α} {s : Store} {env : Ev} {f : α → Store → O} : bo (.ok a s) env f = f a s := id rfl
theorem bo_ex {α : Type} {c : Nat} {xs : List W} {s : Store} {env : Ev} {f : α → Store → O} : bo (.ex c xs s) env f = .ex c xs env s := id rfl
theorem bo_no {α : Type} {env : Ev} {f : α → Store → O} : bo .no env f = .no := id rfl
theorem thn_nx {env : Ev} {s : Store} {f : Ev → Store → O} : (O.nx env s).thn f = f env s := id rfl
theorem thn_rt {w : W} {s : Store} {f : Ev → Store → O} : (O.rt w s).thn f = .rt w s := id rfl
theorem thn_ex {c : Nat} {xs : List W} {env : Ev} {s : Store} {f : Ev → Store → O} : (O.ex c xs env s).thn f = .ex c xs env s := id rfl
theorem thn_no {f : Ev → Store → O} : O.no.thn f = .no := id rfl
theorem res_nx {env : Ev} {s : Store} : (O.nx env s).res = .ok .non s := id rfl
theorem res_rt {w : W} {s : Store} : (O.rt w s).res = .ok w s := id rfl
theorem res_ex {c : Nat} {xs : List W} {env : Ev} {s : Store} : (O.ex c xs env s).res = .ex c xs s := id rfl
theorem res_no : O.no.res = .no := id rfl
/-! functions that hide a store -/
def nxs (env : Ev) : Store → O := fun s => .nx env s
def rts (w : W) : Store → O := fun s => .rt w s
def bos {α : Type} (x : Q α) (env : Ev) (f : α → Store → O) : Store → O := fun st => bo (x st) env f
def iteS {α : Type} (q : Bool) (a b : Store → α) : Store → α := fun st => if q then a st else b st
noncomputable def oneS (T : Tab) (F : Nat → List W → Q W) (xc : Option (Nat × List W)) (g : TG) (body : TSs) (x : W) (env : Ev) : Store → O := fun s => bo (asgn g x env s) env fun env s => exSs T F xc body env s
noncomputable def loopS (T : Tab) (F : Nat → List W → Q W) (xc : Option (Nat × List W)) (g : TG) (body : TSs) (k : Wk) (env : Ev) : Store → O := fun s => forGo (oneS T F xc g body) k.src k.xs env s
noncomputable def triS (T : Tab) (F : Nat → List W → Q W) (hs : List (Nat × Option Nat × Bool × TX)) : O → O
  | .ex c1 xs env1 s => handle T F c1 xs env1 s hs
  | o => o
def raiS (T : Tab) (c : Nat) (env : Ev) (ws : List W) : Store → O := fun s => match T.xcs[c]? with
  | some d => if xOk d.mi ws then bo (xFields d.fields ws s) env fun ys s => .ex c ys env s else .no
  | none => .no
noncomputable def lcOne (T : Tab) (F : Nat → List W → Q W) (xc : Option (Nat × List W)) (own : List Nat) (e : TX) (g : TG) (c : TT) (env : Ev) (x : W) : Q (Option W) :=
  bd (asgn g x (wipeE env own)) fun env2 => bd (evT T F xc c env2) fun q => if q then bd (ev T F xc e env2) fun w => pu (some w) else pu none
def noneB : W → Bool
  | .non => true
  | _ => false
def negK : W → Q W
  | .int i => pu (.int (-i))
  | _ => no
section
variable {T : Tab} {F : Nat → List W → Q W} {xc : Option (Nat × List W)} {env : Ev} {st : Store}
theorem nxs_st : nxs env st = .nx env st := id rfl
theorem rts_st {w : W} : rts w st = .rt w st := id rfl
theorem bos_st {α : Type} {x : Q α} {f : α → Store → O} : bos x env f st = bo (x st) env f := id rfl
theorem iteS_t {α : Type} {a b : Store → α} : iteS true a b st = a st := id rfl
theorem iteS_f {α : Type} {a b : Store → α} : iteS false a b st = b st := id rfl
theorem exSs_nil : exSs T F xc .nil env st = .nx env st := by unfold exSs; rfl
theorem exSs_cons {x : TS} {xs : TSs} : exSs T F xc (.cons x xs) env st = (exS T F xc x env st).thn (exSs T F xc xs) := by conv => lhs; unfold exSs
theorem exS_ex {e : TX} : exS T F xc (.ex e) env st = bo (ev T F xc e env st) env (fun _ => nxs env) := by unfold exS; rfl
theorem exS_asg {g : TG} {e : TX} : exS T F xc (.asg g e) env st = bo (ev T F xc e env st) env (fun w => bos (asgn g w env) env nxs) := by unfold exS; rfl
theorem exS_par {i j : Nat} {a b : TX} : exS T F xc (.par i j a b) env st = bo (ev T F xc a env st) env (fun x => bos (ev T F xc b env) env (fun y => nxs ((env.set i (some x)).set j (some y)))) := by unfold exS; rfl
theorem exS_ret {e : TX} : exS T F xc (.ret e) env st = bo (ev T F xc e env st) env rts := by unfold exS; rfl
theorem exS_ret0 : exS T F xc .ret0 env st = .rt .non st := by unfold exS; rfl
theorem exS_pas : exS T F xc .pas env st = .nx env st := by unfold exS; rfl
theorem exS_ite {c : TT} {a b : TSs} : exS T F xc (.ite c a b) env st = bo (evT T F xc c env st) env (fun q => iteS q (exSs T F xc a env) (exSs T F xc b env)) := by
  unfold exS; rfl
theorem exS_loop {g : TG} {it : TI} {body : TSs} : exS T F xc (.loop g it body) env st = bo (evI T F xc it env st) env (fun k => loopS T F xc g body k env) := by
  unfold exS; rfl
theorem exS_whl {n : Nat} {c : TT} {body : TSs} : exS T F xc (.whl n c body) env st = whlGo (evT T F xc c) (exSs T F xc body) n env st := by
  unfold exS; rfl
theorem exS_tri {body : TSs} {hs : List (Nat × Option Nat × Bool × TX)} : exS T F xc (.tri body hs) env st = triS T F hs (exSs T F xc body env st) := by
  unfold exS triS; cases exSs T F xc body env st <;> rfl
theorem exS_rai {c : Nat} {xs : TXs} : exS T F xc (.rai c xs) env st = bo (evs T F xc xs env st) env (raiS T c env) := by
  unfold exS; rfl
theorem exS_sat {o : TX} {f : Str} {e : TX} : exS T F xc (.sat o f e) env st = bo (ev T F xc e env st) env (fun w => bos (ev T F xc o env) env (fun x => bos (satW T x f w) env (fun _ => nxs env))) := by
  unfold exS; rfl
theorem exS_six {o i e : TX} : exS T F xc (.six o i e) env st = bo (ev T F xc e env st) env (fun w => bos (ev T F xc o env) env (fun x => bos (ev T F xc i env) env (fun y => bos (sixW x y w) env (fun _ => nxs env)))) := by
  unfold exS; rfl
theorem triS_nx {hs : List (Nat × Option Nat × Bool × TX)} : triS T F hs (.nx env st) = .nx env st := id rfl
theorem triS_rt {hs : List (Nat × Option Nat × Bool × TX)} {w : W} : triS T F hs (.rt w st) = .rt w st := id rfl
theorem triS_ex {hs : List (Nat × Option Nat × Bool × TX)} {c : Nat} {xs : List W} : triS T F hs (.ex c xs env st) = handle T F c xs env st hs := id rfl
theorem handle_hit {c : Nat} {xs : List W} {n : Option Nat} {rt : Bool} {e : TX} {hs : List (Nat × Option Nat × Bool × TX)} : handle T F c xs env st ((c, n, rt, e) :: hs) = bo (ev T F (some (c, xs)) e (unE env n) st).nox env (fun w => iteS rt (rts w) (nxs (unE env n))) := by
  simp only [handle, if_true]; rfl
theorem handle_miss {c c1 : Nat} {xs : List W} {n : Option Nat} {rt : Bool} {e : TX} {hs : List (Nat × Option Nat × Bool × TX)} (h : c1 ≠ c) : handle T F c1 xs env st ((c, n, rt, e) :: hs) = handle T F c1 xs env st hs := by
  simp only [handle, if_neg h]
theorem handle_nil {c : Nat} {xs : List W} : handle T F c xs env st [] = .ex c xs env st := id rfl
/-! expressions -/
theorem ev_v {i : Nat} : ev T F xc (.v i) env st = (match env[i]? with
  | some (some w) => R.ok w st
  | _ => .no) := by
  unfold ev
  rcases env[i]? with _ | _ | w <;> rfl
theorem ev_cst {c : Cn} : ev T F xc (.cst c) env st = .ok c.w st := by unfold ev; rfl
theorem ev_gi {x : Str} {i : Int} : ev T F xc (.gi x i) env st = .ok (.int i) st := by unfold ev; rfl
theorem ev_bin {o : Bop} {m : Bool} {a b : TX} : ev T F xc (.bin o m a b) env st = bdR (ev T F xc a env st) (fun x => bd (ev T F xc b env) (opB o m x)) := by
  rw [← bd_st]; conv => lhs; unfold ev
theorem ev_neg {a : TX} : ev T F xc (.neg a) env st = bdR (ev T F xc a env st) negK := by
  rw [← bd_st]; conv => lhs; unfold ev
  congr
theorem negK_int {i : Int} : negK (.int i) st = .ok (.int (-i)) st := id rfl
theorem ev_cmp {o : Cop} {a b : TX} : ev T F xc (.cmp o a b) env st = bdR (ev T F xc a env st) (fun x => bd (ev T F xc b env) (opC o x)) := by
  rw [← bd_st]; conv => lhs; unfold ev
noncomputable def chnK (T : Tab) (F : Nat → List W → Q W) (xc : Option (Nat × List W)) (env : Ev) (p : Cop) (y : W) (c : TX) : W → Q W
  | .bl true => bd (ev T F xc c env) (opC p y)
  | .bl false => pu (.bl false)
  | _ => no
theorem ev_chn {o p : Cop} {a b c : TX} : ev T F xc (.chn o p a b c) env st = bdR (ev T F xc a env st) (fun x => bd (ev T F xc b env) (fun y => bd (opC o x y) (chnK T F xc env p y c))) := by
  rw [← bd_st]; conv => lhs; unfold ev
  refine congrFun (congrArg _ (funext fun x => congrArg _ (funext fun y => congrArg _ (funext fun q => ?_)))) _
  rcases q with _ | b | _ | _ | _ | _ | _ | _ | _ | _ | _ <;> first | rfl | (cases b <;> rfl)
theorem chnK_t {p : Cop} {y : W} {c : TX} : chnK T F xc env p y c (.bl true) st = bdR (ev T F xc c env st) (opC p y) := by rw [← bd_st]; rfl
theorem chnK_f {p : Cop} {y : W} {c : TX} : chnK T F xc env p y c (.bl false) st = .ok (.bl false) st := id rfl
theorem ev_isN {a : TX} : ev T F xc (.isN a) env st = bdR (ev T F xc a env st) (fun x => pu (.bl (noneB x))) := by
  rw [← bd_st]; conv => lhs; unfold ev
  refine congrFun (congrArg _ (funext fun q => ?_)) _
  cases q <;> rfl
theorem ev_ntN {a : TX} : ev T F xc (.ntN a) env st = bdR (ev T F xc a env st) (fun x => pu (.bl (!noneB x))) := by
  rw [← bd_st]; conv => lhs; unfold ev
  refine congrFun (congrArg _ (funext fun q => ?_)) _
  cases q <;> rfl
def andK (k : Q W) : W → Q W
  | .bl true => k
  | .bl false => pu (.bl false)
  | _ => no
def orK (k : Q W) : W → Q W
  | .bl true => pu (.bl true)
  | .bl false => k
  | _ => no
theorem ev_and {a b : TX} : ev T F xc (.and a b) env st = bdR (ev T F xc a env st) (andK (ev T F xc b env)) := by
  rw [← bd_st]; conv => lhs; unfold ev
  refine congrFun (congrArg _ (funext fun q => ?_)) _
  rcases q with _ | b | _ | _ | _ | _ | _ | _ | _ | _ | _ <;> first | rfl | (cases b <;> rfl)
theorem ev_or {a b : TX} : ev T F xc (.or a b) env st = bdR (ev T F xc a env st) (orK (ev T F xc b env)) := by
  rw [← bd_st]; conv => lhs; unfold ev
  refine congrFun (congrArg _ (funext fun q => ?_)) _
  rcases q with _ | b | _ | _ | _ | _ | _ | _ | _ | _ | _ <;> first | rfl | (cases b <;> rfl)
theorem andK_t {k : Q W} : andK k (.bl true) st = k st := id rfl
theorem andK_f {k : Q W} : andK k (.bl false) st = .ok (.bl false) st := id rfl
theorem orK_t {k : Q W} : orK k (.bl true) st = .ok (.bl true) st := id rfl
theorem orK_f {k : Q W} : orK k (.bl false) st = k st := id rfl
def notK : W → Q W
  | .bl b => pu (.bl (!b))
  | _ => no
theorem notK_bl {b : Bool} : notK (.bl b) st = .ok (.bl (!b)) st := id rfl
theorem ev_not {a : TX} : ev T F xc (.not a) env st = bdR (ev T F xc a env st) notK := by
  rw [← bd_st]; conv => lhs; unfold ev
  congr
theorem ev_ite {c : TT} {a b : TX} : ev T F xc (.ite c a b) env st = bdR (evT T F xc c env st) (fun q => iteS q (ev T F xc a env) (ev T F xc b env)) := by
  rw [← bd_st]; conv => lhs; unfold ev
  refine congrFun (congrArg _ (funext fun q => ?_)) _
  cases q <;> rfl
theorem ev_tup {xs : TXs} : ev T F xc (.tup xs) env st = bdR (evs T F xc xs env st) (fun ws => pu (.tup ws)) := by
  rw [← bd_st]; conv => lhs; unfold ev
theorem ev_lst {m : Bool} {xs : TXs} : ev T F xc (.lst m xs) env st = bdR (evs T F xc xs env st) (mkL m) := by
  rw [← bd_st]; conv => lhs; unfold ev
theorem ev_idx {a i : TX} : ev T F xc (.idx a i) env st = bdR (ev T F xc a env st) (fun x => bd (ev T F xc i env) (idxW x)) := by
  rw [← bd_st]; conv => lhs; unfold ev
theorem ev_slc {m : Bool} {a : TX} {lo hi : TO} : ev T F xc (.slc m a lo hi) env st = bdR (ev T F xc a env st) (fun x => bd (evO T F xc lo env) (fun l => bd (evO T F xc hi env) (slcW m x l))) := by
  rw [← bd_st]; conv => lhs; unfold ev
theorem ev_att {a : TX} {f : Str} : ev T F xc (.att a f) env st = bdR (ev T F xc a env st) (fun x => attW T x f) := by
  rw [← bd_st]; conv => lhs; unfold ev
theorem ev_call {f : Nat} {xs : TXs} : ev T F xc (.call f xs) env st = bdR (evs T F xc xs env st) (F f) := by
  rw [← bd_st]; conv => lhs; unfold ev
theorem ev_mth {f : Nat} {o : TX} {xs : TXs} : ev T F xc (.mth f o xs) env st = bdR (ev T F xc o env st) (fun w => mthW T F f w (evs T F xc xs env)) := by
  rw [← bd_st]; conv => lhs; unfold ev
theorem ev_new {f : Nat} {xs : TXs} : ev T F xc (.new f xs) env st = bdR (evs T F xc xs env st) (mkI T F f) := by
  rw [← bd_st]; conv => lhs; unfold ev
theorem ev_bi {b : Bi} {xs : TXs} : ev T F xc (.bi b xs) env st = bdR (evs T F xc xs env st) (biW b) := by
  rw [← bd_st]; conv => lhs; unfold ev
theorem ev_bm {b : Bm} {o : TX} {xs : TXs} : ev T F xc (.bm b o xs) env st = bdR (ev T F xc o env st) (fun w => bd (rcv b w) (fun _ => bd (evs T F xc xs env) (bmW b w))) := by
  rw [← bd_st]; conv => lhs; unfold ev
theorem ev_lc {m : Bool} {own : List Nat} {e : TX} {g : TG} {it : TI} {c : TT} : ev T F xc (.lc m own e g it c) env st = bdR (evI T F xc it env st) (lcW m (lcOne T F xc own e g c env)) := by
  rw [← bd_st]; conv => lhs; unfold ev
  rfl
theorem ev_frz {a : TX} : ev T F xc (.frz a) env st = bdR (ev T F xc a env st) (freeze T) := by
  rw [← bd_st]; conv => lhs; unfold ev
theorem ev_xf {c : Nat} {xs : List W} {f : Str} : ev T F (some (c, xs)) (.xf f) env st = (match T.xcs[c]? with
      | some d => (match ((d.fields.map (·.1)).zip xs).lookup f with
        | some w => R.ok w st
        | none => .no)
      | none => .no) := by
  unfold ev
  cases h : T.xcs[c]? with
  | none => simp only [h]; rfl
  | some d => simp only [h]; cases h2 : ((d.fields.map (·.1)).zip xs).lookup f <;> rfl
def tupK (ws : List W) : Q W := if ws.length ≤ sizeLine then pu (.tup ws) else no
theorem tupK_ok {ws : List W} (h : ws.length ≤ 16777216) : tupK ws st = .ok (.tup ws) st := by
  unfold tupK; rw [if_pos (by unfold sizeLine; omega)]; rfl
theorem ev_tupS {zs : TZs} : ev T F xc (.tupS zs) env st = bdR (evz T F xc zs env st) tupK := by
  rw [← bd_st]; conv => lhs; unfold ev
  rfl
theorem ev_lstS {m : Bool} {zs : TZs} : ev T F xc (.lstS m zs) env st = bdR (evz T F xc zs env st) (mkL m) := by
  rw [← bd_st]; conv => lhs; unfold ev
theorem evz_nil : evz T F xc .nil env st = .ok [] st := by unfold evz; rfl
theorem evz_f {x : TX} {zs : TZs} : evz T F xc (.cons false x zs) env st = bdR (ev T F xc x env st) (fun w => bd (evz T F xc zs env) (fun ws => pu (w :: ws))) := by
  rw [← bd_st]; conv => lhs; unfold evz
  rfl
theorem evz_t {x : TX} {zs : TZs} : evz T F xc (.cons true x zs) env st = bdR (ev T F xc x env st) (fun w => bd (items w) (fun ys => bd (evz T F xc zs env) (fun ws => pu (ys ++ ws)))) := by
  rw [← bd_st]; conv => lhs; unfold evz
  rfl
theorem evT_yes : evT T F xc .yes env st = .ok true st := by unfold evT; rfl
theorem evT_e {t : TX} : evT T F xc (.e t) env st = bdR (ev T F xc t env st) tru := by rw [← bd_st]; conv => lhs; unfold evT
def andT (k : Q Bool) : Bool → Q Bool
  | true => k
  | false => pu false
def orT (k : Q Bool) : Bool → Q Bool
  | true => pu true
  | false => k
theorem andT_t {k : Q Bool} : andT k true st = k st := id rfl
theorem andT_f {k : Q Bool} : andT k false st = .ok false st := id rfl
theorem orT_t {k : Q Bool} : orT k true st = .ok true st := id rfl
theorem orT_f {k : Q Bool} : orT k false st = k st := id rfl
theorem evT_and {a b : TT} : evT T F xc (.and a b) env st = bdR (evT T F xc a env st) (andT (evT T F xc b env)) := by
  rw [← bd_st]; conv => lhs; unfold evT
  refine congrFun (congrArg _ (funext fun q => ?_)) _
  cases q <;> rfl
theorem evT_or {a b : TT} : evT T F xc (.or a b) env st = bdR (evT T F xc a env st) (orT (evT T F xc b env)) := by
  rw [← bd_st]; conv => lhs; unfold evT
  refine congrFun (congrArg _ (funext fun q => ?_)) _
  cases q <;> rfl
theorem evT_not {a : TT} : evT T F xc (.not a) env st = bdR (evT T F xc a env st) (fun q => pu (!q)) := by
  rw [← bd_st]; conv => lhs; unfold evT
theorem evO_om : evO T F xc .om env st = .ok none st := by unfold evO; rfl
theorem evO_e {t : TX} : evO T F xc (.e t) env st = bdR (ev T F xc t env st) intO := by rw [← bd_st]; conv => lhs; unfold evO
theorem intO_int {i : Int} : intO (.int i) st = .ok (some i) st := id rfl
theorem evs_nil : evs T F xc .nil env st = .ok [] st := by unfold evs; rfl
theorem evs_cons {x : TX} {xs : TXs} : evs T F xc (.cons x xs) env st = bdR (ev T F xc x env st) (fun w => bd (evs T F xc xs env) (fun ws => pu (w :: ws))) := by
  rw [← bd_st]; conv => lhs; unfold evs
theorem evI_sq {e : TX} : evI T F xc (.sq e) env st = bdR (ev T F xc e env st) (fun w => bd (items w) (fun xs => pu ⟨xs, srcOf w xs⟩)) := by rw [← bd_st]; conv => lhs; unfold evI
theorem evI_en {e : TX} : evI T F xc (.en e) env st = bdR (ev T F xc e env st) (fun w => bd (items w) (fun xs => pu ⟨enumW 0 xs, srcOf w xs⟩)) := by rw [← bd_st]; conv => lhs; unfold evI
theorem evI_zp {a b : TX} : evI T F xc (.zp a b) env st = bdR (ev T F xc a env st) (fun x => bd (ev T F xc b env) fun y => bd (items x) fun xs => bd (items y) fun ys => pu ⟨zipW xs ys, srcOf x xs ++ srcOf y ys⟩) := by rw [← bd_st]; conv => lhs; unfold evI
def rg1 : W → Q Wk
  | .int j => if -(2 ^ 62) ≤ j ∧ j < 2 ^ 62 then pu ⟨rangeW 0 j.toNat, []⟩ else no
  | _ => no
def rg2 : W → W → Q Wk
  | .int i, .int j => if (-(2 ^ 62) ≤ i ∧ i < 2 ^ 62) ∧ (-(2 ^ 62) ≤ j ∧ j < 2 ^ 62) then pu ⟨rangeW i (j - i).toNat, []⟩ else no
  | _, _ => no
theorem evI_r1 {a : TX} : evI T F xc (.r1 a) env st = bdR (ev T F xc a env st) rg1 := by
  rw [← bd_st]; conv => lhs; unfold evI
  congr
theorem evI_r2 {a b : TX} : evI T F xc (.r2 a b) env st = bdR (ev T F xc a env st) (fun x => bd (ev T F xc b env) (rg2 x)) := by
  rw [← bd_st]; conv => lhs; unfold evI
  congr
theorem rg1_int {j : Int} (h : -(2 ^ 62) ≤ j ∧ j < 2 ^ 62) : rg1 (.int j) st = .ok ⟨rangeW 0 j.toNat, []⟩ st := by
  simp only [rg1]; rw [if_pos h]; rfl
theorem rg2_int {i j : Int} (h : (-(2 ^ 62) ≤ i ∧ i < 2 ^ 62) ∧ (-(2 ^ 62) ≤ j ∧ j < 2 ^ 62)) : rg2 (.int i) (.int j) st = .ok ⟨rangeW i (j - i).toNat, []⟩ st := by
  simp only [rg2]; rw [if_pos h]; rfl
theorem asgn_nm {i : Nat} {w : W} : asgn (.nm i) w env st = .ok (env.set i (some w)) st := by unfold asgn; rfl
theorem asgn_tp {gs : List TG} {w : W} : asgn (.tp gs) w env st = bdR (items w st) (fun xs => asgns gs xs env) := by rw [← bd_st]; conv => lhs; unfold asgn
theorem asgns_nil : asgns [] [] env st = .ok env st := by unfold asgns; rfl
theorem asgns_cons {g : TG} {gs : List TG} {x : W} {xs : List W} : asgns (g :: gs) (x :: xs) env st = bdR (asgn g x env st) (fun env => asgns gs xs env) := by rw [← bd_st]; conv => lhs; unfold asgns
theorem oneS_st {g : TG} {body : TSs} {x : W} : oneS T F xc g body x env st = bo (asgn g x env st) env (exSs T F xc body) := id rfl
theorem loopS_st {g : TG} {body : TSs} {k : Wk} : loopS T F xc g body k env st = forGo (oneS T F xc g body) k.src k.xs env st := id rfl
theorem lcOne_st {own : List Nat} {e : TX} {g : TG} {c : TT} {x : W} : lcOne T F xc own e g c env x st = bdR (asgn g x (wipeE env own) st) (fun env2 => bd (evT T F xc c env2) (fun q => iteS q (bd (ev T F xc e env2) (fun w => pu (some w))) (pu none))) := by
  rw [← bd_st]
  unfold lcOne
  congr; funext env2; congr; funext q; cases q <;> rfl
end
end Mi
set_option maxHeartbeats 4000000
namespace Mi
open PySem
theorem nox_k {α : Type} {a : α} {st : Store} : (R.ok a st).nox = .ok a st := id rfl
section
variable {st : Store} {T : Tab}
theorem add_int {m : Bool} {i j : Int} : opB .add m (.int i) (.int j) st = .ok (.int (i + j)) st := by simp only [opB]; rfl
theorem sub_int {m : Bool} {i j : Int} : opB .sub m (.int i) (.int j) st = .ok (.int (i - j)) st := by simp only [opB]; rfl
theorem mul_int {m : Bool} {i j : Int} (h : (i.natAbs < 2 ^ 64 ∨ j.natAbs < 2 ^ 64)) : opB .mul m (.int i) (.int j) st = .ok (.int (i * j)) st := by
  simp only [opB]
  split
  · rfl
  · rw [if_pos (by omega)]; rfl
theorem mod_int {m : Bool} {i j : Int} (h : j ≠ 0) : opB .mod m (.int i) (.int j) st = .ok (.int (i.fmod j)) st := by simp only [opB]; rw [if_pos h]; rfl
theorem fdiv_int {m : Bool} {i j : Int} (h : j ≠ 0 ∧ j.natAbs < 1073741824) : opB .fdiv m (.int i) (.int j) st = .ok (.int (i.fdiv j)) st := by simp only [opB]; rw [if_pos h]; rfl
theorem pow_int {m : Bool} {i j : Int} (h : 0 ≤ j ∧ j ≤ 1000000 ∧ i.natAbs < 2 ^ 64) : opB .pow m (.int i) (.int j) st = .ok (.int (i ^ j.toNat)) st := by simp only [opB]; rw [if_pos h]; rfl
theorem itemsL_lst {xs : List W} : itemsL (.lst xs) st = .ok xs st := id rfl
theorem itemsL_rf {n : Nat} {xs : List W} (h : At st n (.lst xs)) : itemsL (.ref n) st = .ok xs st := by unfold itemsL; simp only [bd_st, h.get, bdR_ok]; rfl
theorem items_lst {xs : List W} : items (.lst xs) st = .ok xs st := id rfl
theorem items_fro {xs : List W} : items (.fro xs) st = .ok xs st := id rfl
theorem items_tup {xs : List W} : items (.tup xs) st = .ok xs st := id rfl
theorem items_rf {n : Nat} {xs : List W} (h : At st n (.lst xs)) : items (.ref n) st = .ok xs st := by unfold items; simp only [bd_st, h.get, bdR_ok]; rfl
theorem itemsN_lst {xs : List W} : itemsN (.lst xs) st = .ok xs st := id rfl
theorem itemsN_fro {xs : List W} : itemsN (.fro xs) st = .ok xs st := id rfl
theorem itemsN_rf {n : Nat} {xs : List W} (h : At st n (.lst xs)) : itemsN (.ref n) st = .ok xs st := by unfold itemsN; simp only [isTup]; exact items_rf h
theorem add_lst {m : Bool} {x y : W} {xs ys : List W} (hx : itemsL x st = .ok xs st) (hy : itemsL y st = .ok ys st) : opB .add m x y st = mkL m (xs ++ ys) st := by
  have : opB .add m x y = bd (itemsL x) fun xs => bd (itemsL y) fun ys => mkL m (xs ++ ys) := by
    cases x <;> first | rfl | (cases y <;> first | rfl | (simp [itemsL, no] at hx))
  rw [this]
  simp only [bd_st, hx, hy, bdR_ok]
theorem mkL_f {xs : List W} (h : xs.length ≤ 16777216) : mkL false xs st = .ok (.lst xs) st := by
  unfold mkL; rw [if_pos (by unfold sizeLine; omega)]; rfl
theorem mkL_t {xs : List W} (h : xs.length ≤ 16777216) : mkL true xs st = .ok (.ref st.length) (st ++ [some (.lst xs)]) := by
  unfold mkL; rw [if_pos (by unfold sizeLine; omega)]; rfl
theorem idx_of {a : W} {i : Int} {xs : List W} (h : items a st = .ok xs st) : idxW a (.int i) st = (match L2.ixN xs.length i with
    | some j => (match xs[j]? with
      | some w => R.ok w st
      | none => .no)
    | none => .no) := by
  unfold idxW
  simp only [bd_st, h, bdR_ok]
  cases L2.ixN xs.length i with
  | none => rfl
  | some j => simp only []; cases xs[j]? <;> rfl
theorem idx_nat {a w : W} {i : Int} {xs : List W} (h : items a st = .ok xs st) (k : Nat) (e : i = (k : Int)) (hw : xs[k]? = some w) : idxW a (.int i) st = .ok w st := by
  have hk : k < xs.length := (List.getElem?_eq_some_iff.mp hw).1
  rw [idx_of h, e]
  unfold L2.ixN
  rw [if_pos (by omega), if_pos (by omega)]
  simp [hw]
theorem six_nat {n : Nat} {i : Int} {w : W} {xs : List W} (h : At st n (.lst xs)) (k : Nat) (e : i = (k : Int)) (hk : k < xs.length) : sixW (.ref n) (.int i) w st = .ok () (st.set n (some (.lst (xs.set k w)))) := by
  unfold sixW
  simp only [bd_st, h.get, bdR_ok]
  rw [e]
  unfold L2.ixN
  rw [if_pos (by omega), if_pos (by omega)]
  simp [h.set]
theorem lt_int {i j : Int} : opC .lt (.int i) (.int j) st = .ok (.bl (decide (i < j))) st := id rfl
theorem le_int {i j : Int} : opC .le (.int i) (.int j) st = .ok (.bl (decide (i ≤ j))) st := id rfl
theorem gt_int {i j : Int} : opC .gt (.int i) (.int j) st = .ok (.bl (decide (j < i))) st := id rfl
theorem ge_int {i j : Int} : opC .ge (.int i) (.int j) st = .ok (.bl (decide (j ≤ i))) st := id rfl
theorem int_shaped {i : Int} : SeqAt.shaped (.int i) = true := id rfl
/-! data -/
/-- w stands for the data d -/
def Dt (st : Store) (w : W) (d : PyData) : Prop := dat st 8 w = some d ∧ SeqAt.shaped d = true
theorem Dt.q {w : W} {d : PyData} (h : Dt st w d) : datQ w st = .ok d st := by
  unfold datQ; rw [h.1]; simp only []; rw [if_pos h.2]
theorem eq_dt {x y : W} {d e : PyData} (hx : Dt st x d) (hy : Dt st y e) : opC .eq x y st = .ok (.bl (PyData.eqv d e)) st := by
  unfold opC; simp only [bd_st, hx.q, hy.q, bdR_ok]; rfl
theorem ne_dt {x y : W} {d e : PyData} (hx : Dt st x d) (hy : Dt st y e) : opC .ne x y st = .ok (.bl (!PyData.eqv d e)) st := by
  unfold opC; simp only [bd_st, hx.q, hy.q, bdR_ok]; rfl
theorem in_dt_l {x y : W} {d : PyData} {ds : List PyData} (hx : Dt st x d) (hy : Dt st y (.list ds)) : opC .isin x y st = .ok (.bl (ds.any fun z => PyData.eqv z d)) st := by
  unfold opC; simp only [bd_st, hx.q, hy.q, bdR_ok]; rfl
theorem in_dt_t {x y : W} {d : PyData} {ds : List PyData} (hx : Dt st x d) (hy : Dt st y (.tuple ds)) : opC .isin x y st = .ok (.bl (ds.any fun z => PyData.eqv z d)) st := by
  unfold opC; simp only [bd_st, hx.q, hy.q, bdR_ok]; rfl
theorem nin_dt_l {x y : W} {d : PyData} {ds : List PyData} (hx : Dt st x d) (hy : Dt st y (.list ds)) : opC .notin x y st = .ok (.bl (!(ds.any fun z => PyData.eqv z d))) st := by
  unfold opC; simp only [bd_st, hx.q, hy.q, bdR_ok]; rfl
theorem nin_dt_t {x y : W} {d : PyData} {ds : List PyData} (hx : Dt st x d) (hy : Dt st y (.tuple ds)) : opC .notin x y st = .ok (.bl (!(ds.any fun z => PyData.eqv z d))) st := by
  unfold opC; simp only [bd_st, hx.q, hy.q, bdR_ok]; rfl
theorem dt_int {i : Int} : Dt st (.int i) (.int i) := ⟨rfl, rfl⟩
theorem dt_bl {i : Bool} : Dt st (.bl i) (.bool i) := ⟨rfl, rfl⟩
theorem dt_non : Dt st .non .none := ⟨rfl, rfl⟩
theorem eq_int {i j : Int} : opC .eq (.int i) (.int j) st = .ok (.bl (decide (i = j))) st := by
  rw [eq_dt dt_int dt_int]; unfold PyData.eqv
  rw [show (i == j) = decide (i = j) from rfl]
theorem ne_int {i j : Int} : opC .ne (.int i) (.int j) st = .ok (.bl (!decide (i = j))) st := by
  rw [ne_dt dt_int dt_int]; unfold PyData.eqv
  rw [show (i == j) = decide (i = j) from rfl]
/-- w stands for the data d, of depth at most k -/
def DtK (st : Store) (k : Nat) (w : W) (d : PyData) : Prop := dat st (k + 1) w = some d ∧ PyData.canLay0 d = true ∧ PyData.depth d ≤ k
def DtL (st : Store) (k : Nat) (ws : List W) (ds : List PyData) : Prop := optAll (dat st (k + 1)) ws = some ds ∧ PyData.canLayAll0 ds = true ∧ PyData.depthAll ds ≤ k
theorem DtL.nil {k : Nat} : DtL st k [] [] := ⟨rfl, rfl, by unfold PyData.depthAll; omega⟩
theorem DtL.cons {k : Nat} {w : W} {d : PyData} {ws : List W} {ds : List PyData} (h : DtK st k w d) (hs : DtL st k ws ds) : DtL st k (w :: ws) (d :: ds) := by
  refine ⟨?_, ?_, ?_⟩
  · simp only [optAll, h.1, hs.1]
  · unfold PyData.canLayAll0; rw [h.2.1, hs.2.1]; rfl
  · unfold PyData.depthAll; have := h.2.2; have := hs.2.2; omega
theorem DtL.map {α : Type} {k : Nat} {f : α → W} {g : α → PyData} {l : List α} (h : ∀ a ∈ l, DtK st k (f a) (g a)) : DtL st k (l.map f) (l.map g) := by
  induction l with
  | nil => exact DtL.nil
  | cons a l ih => exact DtL.cons (h a List.mem_cons_self) (ih fun b hb => h b (List.mem_cons_of_mem _ hb))
theorem DtL.app {k : Nat} {ws vs : List W} {ds es : List PyData} (h : DtL st k ws ds) (h2 : DtL st k vs es) : DtL st k (ws ++ vs) (ds ++ es) := by
  induction ws generalizing ds with
  | nil =>
    have : ds = [] := by have := h.1; simp [optAll] at this; exact this
    subst this; exact h2
  | cons w ws ih =>
    obtain ⟨e, c, d0⟩ := h
    unfold optAll at e
    cases e1 : dat st (k + 1) w with
    | none => rw [e1] at e; simp at e
    | some d =>
      cases e2 : optAll (dat st (k + 1)) ws with
      | none => rw [e1, e2] at e; simp at e
      | some ds' =>
        rw [e1, e2] at e
        simp at e
        subst e
        unfold PyData.canLayAll0 at c
        unfold PyData.depthAll at d0
        simp at c
        exact DtL.cons ⟨e1, c.1, by omega⟩ (ih ⟨e2, c.2, by omega⟩)
theorem DtK.int {k : Nat} {i : Int} : DtK st k (.int i) (.int i) := ⟨rfl, rfl, by unfold PyData.depth; omega⟩
theorem DtK.bl {k : Nat} {i : Bool} : DtK st k (.bl i) (.bool i) := ⟨rfl, rfl, by unfold PyData.depth; omega⟩
theorem DtK.non {k : Nat} : DtK st k .non .none := ⟨rfl, rfl, by unfold PyData.depth; omega⟩
theorem DtK.str {k : Nat} {s : Str} (h : PyData.canLay0 (.str s) = true) : DtK st k (.str s) (.str s) := ⟨rfl, h, by unfold PyData.depth; omega⟩
theorem DtK.tup {k : Nat} {xs : List W} {ds : List PyData} (h : DtL st k xs ds) : DtK st (k + 1) (.tup xs) (.tuple ds) := by
  refine ⟨?_, ?_, ?_⟩
  · unfold dat; simp only [h.1]; rfl
  · unfold PyData.canLay0; exact h.2.1
  · unfold PyData.depth; have := h.2.2; omega
theorem DtK.lst {k : Nat} {xs : List W} {ds : List PyData} (h : DtL st k xs ds) : DtK st (k + 1) (.lst xs) (.list ds) := by
  refine ⟨?_, ?_, ?_⟩
  · unfold dat; simp only [h.1]; rfl
  · unfold PyData.canLay0; exact h.2.1
  · unfold PyData.depth; have := h.2.2; omega
theorem DtK.fro {k : Nat} {xs : List W} {ds : List PyData} (h : DtL st k xs ds) : DtK st (k + 1) (.fro xs) (.list ds) := by
  refine ⟨?_, ?_, ?_⟩
  · unfold dat; simp only [h.1]; rfl
  · unfold PyData.canLay0; exact h.2.1
  · unfold PyData.depth; have := h.2.2; omega
theorem DtK.ref {k j : Nat} {xs : List W} {ds : List PyData} (h0 : At st j (.lst xs)) (h : DtL st k xs ds) : DtK st (k + 1) (.ref j) (.list ds) := by
  refine ⟨?_, ?_, ?_⟩
  · unfold dat; unfold At at h0; simp only [h0, h.1]; rfl
  · unfold PyData.canLay0; exact h.2.1
  · unfold PyData.depth; have := h.2.2; omega
theorem DtK.dt {w : W} {d : PyData} (h : DtK st 7 w d) : Dt st w d := by
  refine ⟨h.1, ?_⟩
  unfold SeqAt.shaped
  rw [h.2.1]
  have := h.2.2
  simp; omega
theorem DtL.ints {k : Nat} {l : List Int} : DtL st k (l.map .int) (l.map .int) := DtL.map fun _ _ => DtK.int
/-- plain equality of data -/
theorem eqv_ints {l m : List Int} : PyData.eqvAll (l.map .int) (m.map .int) = decide (l = m) := by
  induction l generalizing m with
  | nil => cases m <;> simp [PyData.eqvAll]
  | cons a l ih =>
    cases m with
    | nil => simp [PyData.eqvAll]
    | cons b m =>
      simp only [List.map_cons, PyData.eqvAll, ih]
      unfold PyData.eqv
      by_cases h1 : a = b <;> by_cases h2 : l = m <;> simp [h1, h2]
mutual
def noDict : PyData → Bool
  | .dict _ => false
  | .list xs => noDicts xs
  | .tuple xs => noDicts xs
  | _ => true
def noDicts : List PyData → Bool
  | [] => true
  | x :: xs => noDict x && noDicts xs
end
mutual
theorem eqv_self : ∀ d : PyData, PyData.canLay0 d = true → PyData.eqv d d = true
  | .none, _ => by simp [PyData.eqv]
  | .bool _, _ => by simp [PyData.eqv]
  | .int _, _ => by simp [PyData.eqv]
  | .str _, _ => by simp [PyData.eqv]
  | .list xs, h => by unfold PyData.eqv; exact eqvAll_self xs (by simpa [PyData.canLay0] using h)
  | .tuple xs, h => by unfold PyData.eqv; exact eqvAll_self xs (by simpa [PyData.canLay0] using h)
  | .dict _, h => by simp [PyData.canLay0] at h
theorem eqvAll_self : ∀ ds : List PyData, PyData.canLayAll0 ds = true → PyData.eqvAll ds ds = true
  | [], _ => by simp [PyData.eqvAll]
  | x :: xs, h => by
    unfold PyData.canLayAll0 at h
    simp at h
    unfold PyData.eqvAll
    rw [eqv_self x h.1, eqvAll_self xs h.2]; rfl
end
theorem eq_same {x y : W} {d : PyData} (hx : DtK st 7 x d) (hy : DtK st 7 y d) : opC .eq x y st = .ok (.bl true) st := by
  rw [eq_dt hx.dt hy.dt, eqv_self d hx.2.1]
theorem ne_same {x y : W} {d : PyData} (hx : DtK st 7 x d) (hy : DtK st 7 y d) : opC .ne x y st = .ok (.bl false) st := by
  rw [ne_dt hx.dt hy.dt, eqv_self d hx.2.1]; rfl
/-- data of a greater depth's bound -/
theorem DtL.ints_dt {k : Nat} {l : List Int} : DtK st (k + 1) (.lst (l.map .int)) (.list (l.map .int)) := DtK.lst DtL.ints
end
end Mi
set_option maxHeartbeats 4000000
namespace Mi
open PySem
section
variable {st : Store} {T : Tab} {F : Nat → List W → Q W} {xc : Option (Nat × List W)} {env : Ev}
theorem tru_b {b : Bool} : tru (.bl b) st = .ok b st := id rfl
theorem tru_non : tru .non st = .ok false st := id rfl
theorem tru_int {i : Int} : tru (.int i) st = .ok (i != 0) st := id rfl
theorem tru_lst {xs : List W} : tru (.lst xs) st = .ok (!xs.isEmpty) st := id rfl
theorem tru_tup {xs : List W} : tru (.tup xs) st = .ok (!xs.isEmpty) st := id rfl
theorem forGo_nil {one : W → Ev → Store → O} {src : List (Nat × List W)} (h : still src st = .ok () st) : forGo one src [] env st = .nx env st := by
  simp only [forGo, h]; rfl
theorem forGo_cons {one : W → Ev → Store → O} {src : List (Nat × List W)} {x : W} {xs : List W} (h : still src st = .ok () st) : forGo one src (x :: xs) env st = (one x env st).thn (forGo one src xs) := by
  simp only [forGo, h]; rfl
theorem rangeW_zero {i : Int} : rangeW i 0 = [] := id rfl
theorem rangeW_succ {i : Int} {n : Nat} : rangeW i (n + 1) = .int i :: rangeW (i + 1) n := by
  unfold rangeW
  rw [List.range_succ_eq_map]
  simp only [List.map_cons, List.map_map]
  congr 1
  · simp
  · apply List.map_congr_left
    intro k _
    simp; omega
theorem rangeW_len {i : Int} {n : Nat} : (rangeW i n).length = n := by unfold rangeW; simp
theorem enumW_eq {i : Nat} {xs : List W} : enumW i xs = xs.mapIdx fun j x => .tup [.int ((i + j : Nat) : Int), x] := by
  induction xs generalizing i with
  | nil => rfl
  | cons x xs ih =>
    simp only [enumW, ih, List.mapIdx_cons]
    congr 2
    funext j x
    congr 3
    simp; omega
/-- a loop that keeps P; each step goes on -/
theorem loop_inv {one : W → Ev → Store → O} {src : List (Nat × List W)} (P : List W → Ev → Store → Prop) (hs : ∀ xs env st, P xs env st → still src st = .ok () st)
    (step : ∀ x xs env st, P (x :: xs) env st → ∃ env' st', one x env st = .nx env' st' ∧ P xs env' st') : ∀ (xs : List W) (env : Ev) (st : Store), P xs env st → ∃ env' st', forGo one src xs env st = .nx env' st' ∧ P [] env' st'
  | [], env, st, h => ⟨env, st, forGo_nil (hs _ _ _ h), h⟩
  | x :: xs, env, st, h => by
    obtain ⟨e1, s1, h1, h2⟩ := step _ _ _ _ h
    obtain ⟨e2, s2, h3, h4⟩ := loop_inv P hs step xs e1 s1 h2
    exact ⟨e2, s2, by rw [forGo_cons (hs _ _ _ h), h1, thn_nx, h3], h4⟩
/-- a loop that looks for something and changes no object: f says what is returned at an item -/
theorem loop_find {one : W → Ev → Store → O} {src : List (Nat × List W)} (I : Ev → Prop) (f : W → Option W) (hs : still src st = .ok () st) : ∀ (xs : List W) (env : Ev), I env →
    (∀ x ∈ xs, ∀ env, I env → match f x with
      | none => ∃ env', I env' ∧ one x env st = .nx env' st
      | some w => one x env st = .rt w st) →
    match xs.findSome? f with
      | none => ∃ env', I env' ∧ forGo one src xs env st = .nx env' st
      | some w => forGo one src xs env st = .rt w st
  | [], env, h, _ => ⟨env, h, forGo_nil hs⟩
  | x :: xs, env, h, step => by
    have h1 := step x List.mem_cons_self env h
    rw [List.findSome?_cons]
    cases e : f x with
    | some w =>
      rw [e] at h1
      simp only at h1 ⊢
      rw [forGo_cons hs, h1, thn_rt]
    | none =>
      rw [e] at h1
      simp only at h1 ⊢
      obtain ⟨env', hi, h1⟩ := h1
      have := loop_find I f hs xs env' hi fun y hy => step y (List.mem_cons_of_mem _ hy)
      rw [forGo_cons hs, h1, thn_nx]
      exact this
/-- the same with errors: f says what is raised or returned -/
theorem loop_findO {one : W → Ev → Store → O} {src : List (Nat × List W)} (I : Ev → Prop) (f : W → Option (W ⊕ (Nat × List W))) (hs : still src st = .ok () st) : ∀ (xs : List W) (env : Ev), I env →
    (∀ x ∈ xs, ∀ env, I env → match f x with
      | none => ∃ env', I env' ∧ one x env st = .nx env' st
      | some (.inl w) => one x env st = .rt w st
      | some (.inr (c, ws)) => ∃ env', one x env st = .ex c ws env' st) →
    match xs.findSome? f with
      | none => ∃ env', I env' ∧ forGo one src xs env st = .nx env' st
      | some (.inl w) => forGo one src xs env st = .rt w st
      | some (.inr (c, ws)) => ∃ env', forGo one src xs env st = .ex c ws env' st
  | [], env, h, _ => ⟨env, h, forGo_nil hs⟩
  | x :: xs, env, h, step => by
    have h1 := step x List.mem_cons_self env h
    rw [List.findSome?_cons]
    cases e : f x with
    | some w =>
      rw [e] at h1
      rcases w with w | ⟨c, ws⟩
      · simp only at h1 ⊢
        rw [forGo_cons hs, h1, thn_rt]
      · simp only at h1 ⊢
        obtain ⟨env', h1⟩ := h1
        exact ⟨env', by rw [forGo_cons hs, h1, thn_ex]⟩
    | none =>
      rw [e] at h1
      simp only at h1 ⊢
      obtain ⟨env', hi, h1⟩ := h1
      have := loop_findO I f hs xs env' hi fun y hy => step y (List.mem_cons_of_mem _ hy)
      rw [forGo_cons hs, h1, thn_nx]
      exact this
theorem still_of {src : List (Nat × List W)} (h : ∀ p ∈ src, st[p.1]? = some (some (.lst p.2))) : still src st = .ok () st := by unfold still; rw [if_pos h]
theorem still_app {src : List (Nat × List W)} (h : still src st = .ok () st) (e : Store) : still src (st ++ e) = .ok () (st ++ e) := by
  have : ∀ p ∈ src, st[p.1]? = some (some (.lst p.2)) := by
    unfold still at h
    split at h
    · assumption
    · cases h
  refine still_of fun p hp => ?_
  have h2 := this p hp
  rw [List.getElem?_append_left (List.getElem?_eq_some_iff.mp h2).1]; exact h2
theorem app_last {xs : List W} {w : W} (h : xs.length < 16777216) : app st.length w (st ++ [some (.lst xs)]) = .ok () (st ++ [some (.lst (xs ++ [w]))]) := by
  unfold app
  simp only [bd_st, (At.last (st := st) (o := .lst xs)).get, bdR_ok]
  rw [if_pos (by unfold sizeLine; omega), (At.last (st := st) (o := .lst xs)).set, set_last]
theorem lcGo_pure {one : W → Q (Option W)} {src : List (Nat × List W)} {f : W → Option W} (hs : still src st = .ok () st) : ∀ (xs acc : List W), acc.length + xs.length ≤ 16777216 → (∀ x ∈ xs, ∀ acc, one x (st ++ [some (.lst acc)]) = .ok (f x) (st ++ [some (.lst acc)])) →
    lcGo one st.length src xs (st ++ [some (.lst acc)]) = .ok () (st ++ [some (.lst (acc ++ xs.filterMap f))])
  | [], acc, _, _ => by simp [lcGo, still_app hs]
  | x :: xs, acc, hl, h => by
    unfold lcGo
    simp only [bd_st, still_app hs, bdR_ok, h x List.mem_cons_self, nox_k]
    simp only [List.length_cons] at hl
    cases e : f x with
    | none =>
      simp only []
      rw [lcGo_pure hs xs acc (by omega) fun y hy => h y (List.mem_cons_of_mem _ hy)]
      simp [List.filterMap_cons, e]
    | some w =>
      simp only [bd_st]
      rw [app_last (by omega), bdR_ok, lcGo_pure hs xs (acc ++ [w]) (by simp; omega) fun y hy => h y (List.mem_cons_of_mem _ hy)]
      simp [List.filterMap_cons, e]
/-- a comprehension whose items change nothing -/
theorem lcW_f {one : W → Q (Option W)} {k : Wk} (f : W → Option W) (hs : still k.src st = .ok () st) (hl : k.xs.length ≤ 16777216) (h : ∀ x ∈ k.xs, ∀ acc, one x (st ++ [some (.lst acc)]) = .ok (f x) (st ++ [some (.lst acc)]))
    (hc : ∀ x ∈ k.xs, ∀ w, f x = some w → W.clo st.length w = true) : lcW false one k st = .ok (.lst (k.xs.filterMap f)) st := by
  unfold lcW
  rw [lcGo_pure hs k.xs [] (by simpa using hl) h]
  have e : (st ++ [some (MO.lst ([] ++ k.xs.filterMap f))])[st.length]? = some (some (.lst (k.xs.filterMap f))) := by simp
  simp only [e]
  simp only [Bool.false_eq_true, if_false, set_last]
  refine cut_app ?_
  unfold W.clo
  rw [W.clos_iff]
  intro w hw
  obtain ⟨x, hx, hw⟩ := List.mem_filterMap.mp hw
  exact hc x hx w hw
theorem lcW_t {one : W → Q (Option W)} {k : Wk} (f : W → Option W) (hs : still k.src st = .ok () st) (hl : k.xs.length ≤ 16777216) (h : ∀ x ∈ k.xs, ∀ acc, one x (st ++ [some (.lst acc)]) = .ok (f x) (st ++ [some (.lst acc)])) :
    lcW true one k st = .ok (.ref st.length) (st ++ [some (.lst (k.xs.filterMap f))]) := by
  unfold lcW
  rw [lcGo_pure hs k.xs [] (by simpa using hl) h]
  simp only [if_true, List.nil_append]
  simp only [cut]
  rw [if_neg]
  intro ⟨_, h⟩
  simp [W.clo] at h
/-- each item gives one -/
theorem filterMap_some {α β : Type} {f : α → β} {l : List α} : l.filterMap (fun x => some (f x)) = l.map f := by
  rw [List.filterMap_eq_map']
theorem cut_ref {s : Store} {n : Nat} (h : st.length ≤ n) : cut st (.ok (.ref n) s) = .ok (.ref n) s := by
  simp only [cut]
  rw [if_neg]
  intro ⟨_, h2⟩
  simp [W.clo] at h2
  omega
theorem getM_at {n : Nat} {o : MO} (h : At st n o) : getM n st = .ok o st := h.get
/-! methods, instances -/
def mthB (T : Tab) (f c : Nat) : Bool := match T.fns[f]? with
  | some d => (match d.at_.2, T.cls[c]? with
    | some mn, some cd => decide (cd.name = d.at_.1)
    | _, _ => false)
  | none => false
theorem mthW_ins {f c : Nat} {xs : List W} {ws : Q (List W)} (h : mthB T f c = true) : mthW T F f (.ins c xs) ws st = bdR (ws st) (fun ws => F f (.ins c xs :: ws)) := by
  unfold mthB at h
  unfold mthW
  cases e : T.fns[f]? with
  | none => rw [e] at h; simp at h
  | some d =>
    rw [e] at h
    cases e1 : d.at_.2 with
    | none => simp [e1] at h
    | some mn =>
      cases e2 : T.cls[c]? with
      | none => simp [e1, e2] at h
      | some cd =>
        simp [e1, e2] at h
        simp only [e1, e2, bd_st, recv, pu_st, bdR_ok, h, if_true]
def clsB (T : Tab) (f c : Nat) : Bool := match T.fns[f]? with
  | some d => (match T.cls.findIdx? (fun c => c.name == d.at_.1) with
    | some c1 => (match T.cls[c1]? with
      | some cd => c1 == c && cd.stays
      | none => false)
    | none => false)
  | none => false
theorem mkI_st {f c : Nat} {ws : List W} (h : clsB T f c = true) : mkI T F f ws st = cut st (match F f (.ref st.length :: ws) (st ++ [some (.ins c [])]) with
        | .ok .non s => freeze T (.ref st.length) s
        | .ok _ _ => .no
        | .ex c xs s => .ex c xs s
        | .no => .no) := by
  unfold clsB at h
  unfold mkI
  cases e : T.fns[f]? with
  | none => rw [e] at h; simp at h
  | some d =>
    rw [e] at h
    simp only at h ⊢
    cases e1 : T.cls.findIdx? (fun c => c.name == d.at_.1) with
    | none => rw [e1] at h; simp at h
    | some c1 =>
      rw [e1] at h
      simp only at h ⊢
      cases e2 : T.cls[c1]? with
      | none => rw [e2] at h; simp at h
      | some cd =>
        rw [e2] at h
        simp at h
        obtain ⟨h1, h2⟩ := h
        subst h1
        simp only [h2, if_true]
        all_goals congr 1
theorem mkI_ok {f c : Nat} {ws : List W} {fs : List (Str × W)} {e : Store} (h : clsB T f c = true) (hF : F f (.ref st.length :: ws) (st ++ [some (.ins c [])]) = .ok .non (st ++ some (.ins c fs) :: e)) (hf : (T.cls[c]?.map (·.fields)) = some (fs.map (·.1))) (hc : W.clos st.length (fs.map (·.2)) = true) :
    mkI T F f ws st = .ok (.ins c (fs.map (·.2))) st := by
  rw [mkI_st h, hF]
  simp only []
  unfold freeze
  have e0 : (st ++ some (MO.ins c fs) :: e)[st.length]? = some (some (.ins c fs)) := by simp
  cases e2 : T.cls[c]? with
  | none => rw [e2] at hf; simp at hf
  | some d =>
    rw [e2] at hf
    simp at hf
    simp only [e0, hf, if_true, e2]
    have : (st ++ some (MO.ins c fs) :: e).set st.length none = st ++ none :: e := by simp
    rw [this]
    exact cut_app (by unfold W.clo; exact hc)
theorem mkI_ex {f c c1 : Nat} {ws xs : List W} {e : Store} (h : clsB T f c = true) (hF : F f (.ref st.length :: ws) (st ++ [some (.ins c [])]) = .ex c1 xs (st ++ e)) (hc : W.clos st.length xs = true) :
    mkI T F f ws st = .ex c1 xs st := by
  rw [mkI_st h, hF]
  exact cut_ex_app hc
theorem sat_at {n c : Nat} {fs : List (Str × W)} {f : Str} {w : W} (h : At st n (.ins c fs)) (hf : (T.cls[c]?.map fun d => decide (f ∈ d.fields)) = some true) (hl : fs.length < 1000) : satW T (.ref n) f w st = .ok () (st.set n (some (.ins c (putW f w fs)))) := by
  unfold satW
  simp only [bd_st, h.get, bdR_ok]
  cases e : T.cls[c]? with
  | none => rw [e] at hf; simp at hf
  | some d =>
    rw [e] at hf
    simp at hf
    simp only []
    rw [if_pos ⟨hf, hl⟩, h.set]
theorem app_at {n : Nat} {xs : List W} {w : W} (h : At st n (.lst xs)) (hl : xs.length < 16777216) : bmW .append (.ref n) [w] st = .ok .non (st.set n (some (.lst (xs ++ [w])))) := by
  simp only [bmW, bd_st, h.get, bdR_ok]
  rw [if_pos (by unfold sizeLine; omega)]
  simp only [bd_st, h.set, bdR_ok]; rfl
theorem clear_at {n : Nat} {xs : List W} (h : At st n (.lst xs)) : bmW .clear (.ref n) [] st = .ok .non (st.set n (some (.lst []))) := by
  simp only [bmW, bd_st, h.get, bdR_ok, h.set]; rfl
theorem pop_at {n k : Nat} {i : Int} {w : W} {xs : List W} (h : At st n (.lst xs)) (e : i = (k : Int)) (hw : xs[k]? = some w) (hl : xs.length ≤ 16777216) : bmW .pop1 (.ref n) [.int i] st = .ok w (st.set n (some (.lst (xs.eraseIdx k)))) := by
  have hk : k < xs.length := (List.getElem?_eq_some_iff.mp hw).1
  simp only [bmW, bd_st, h.get, bdR_ok]
  subst e
  have : L2.ixN xs.length (k : Int) = some k := by
    unfold L2.ixN
    rw [if_pos (by omega), if_pos (by omega)]; simp
  simp only [this, hw]
  rw [if_pos (by unfold sizeLine; omega)]
  simp only [bd_st, h.set, bdR_ok]; rfl
theorem rcv_n {b : Bm} {w : W} {xs : List W} (h : itemsN w st = .ok xs st) (hb : b ≠ .index) : rcv b w st = .ok xs st := by
  unfold rcv
  cases b <;> first | exact h | exact absurd rfl hb
theorem rcv_index {w : W} {xs : List W} (h : items w st = .ok xs st) : rcv .index w st = .ok xs st := h
theorem len_of {x : W} {xs : List W} (h : items x st = .ok xs st) : biW .len [x] st = .ok (.int xs.length) st := by simp only [biW, bd_st, h, bdR_ok]; rfl
theorem int_int {i : Int} : biW .int [.int i] st = .ok (.int i) st := id rfl
theorem tuple_of {x : W} {xs : List W} (h : items x st = .ok xs st) : biW .tuple [x] st = .ok (.tup xs) st := by simp only [biW, bd_st, h, bdR_ok]; rfl
theorem list_of {x : W} {xs : List W} {m : Bool} (h : items x st = .ok xs st) : biW (.list m) [x] st = mkL m xs st := by simp only [biW, bd_st, h, bdR_ok]
theorem intsOf_map {l : List Int} : intsOf (l.map .int) = some l := by
  induction l with
  | nil => rfl
  | cons i l ih => simp [intsOf, ih]
theorem max_of {x : W} {i : Int} {l : List Int} (h : items x st = .ok ((i :: l).map .int) st) : biW .max1 [x] st = .ok (.int (most l i)) st := by
  simp only [biW, bd_st, h, bdR_ok, intsOf_map]; rfl
theorem min_of {x : W} {i : Int} {l : List Int} (h : items x st = .ok ((i :: l).map .int) st) : biW .min1 [x] st = .ok (.int (least l i)) st := by
  simp only [biW, bd_st, h, bdR_ok, intsOf_map]; rfl
theorem sum_of {x : W} {l : List Int} (h : items x st = .ok (l.map .int) st) : biW .sum [x] st = .ok (.int l.sum) st := by
  simp only [biW, bd_st, h, bdR_ok, intsOf_map]; rfl
theorem sorted_of {x : W} {l : List Int} {m : Bool} (h : itemsN x st = .ok (l.map .int) st) : biW (.sorted m) [x] st = mkL m ((sortInts l).map .int) st := by
  simp only [biW, bd_st, h, bdR_ok, intsOf_map]
theorem isBool_bl {b : Bool} : biW .isBool [.bl b] st = .ok (.bl true) st := id rfl
/-- the first place of an int -/
theorem findD_ints {i : Int} : ∀ {l : List Int} {j : Nat}, findD (.int i) (l.map .int) j = if i ∈ l then some (j + l.idxOf i) else none
  | [], j => rfl
  | a :: l, j => by
    simp only [List.map_cons, findD]
    unfold PyData.eqv
    by_cases h : a = i
    · subst h; simp
    · have h' : ¬ i = a := fun e => h e.symm
      have hb : (a == i) = false := by simpa using h
      rw [if_neg (by simpa using h), findD_ints]
      simp only [List.mem_cons, h', false_or, List.idxOf_cons, hb, cond_false]
      split <;> simp; omega
theorem index_of {x : W} {l : List Int} {i : Int} (hx : Dt st x (.list (l.map .int)) ∨ Dt st x (.tuple (l.map .int))) (hi : i ∈ l) : bmW .index x [.int i] st = .ok (.int (l.idxOf i : Nat)) st := by
  rcases hx with hx | hx
  · simp only [bmW, bd_st, dt_int.q, hx.q, bdR_ok, findD_ints, hi, if_true]; simp [pu_st]
  · simp only [bmW, bd_st, dt_int.q, hx.q, bdR_ok, findD_ints, hi, if_true]; simp [pu_st]
end
end Mi
set_option maxHeartbeats 4000000
namespace Mi
open PySem
/-! ## loops and comprehensions over mapped lists -/
/-- what a step of a loop that changes no object comes to -/
abbrev Fo := Option (W ⊕ (Nat × List W))
def fin : Fo → Ev → Store → O
  | none, env, st => .nx env st
  | some (.inl w), _, st => .rt w st
  | some (.inr (c, ws)), env, st => .ex c ws env st
section
variable {st : Store} {T : Tab} {F : Nat → List W → Q W} {xc : Option (Nat × List W)} {env : Ev}
theorem srcOf_lst {xs ys : List W} : srcOf (.lst xs) ys = [] := id rfl
theorem srcOf_tup {xs ys : List W} : srcOf (.tup xs) ys = [] := id rfl
theorem srcOf_fro {xs ys : List W} : srcOf (.fro xs) ys = [] := id rfl
theorem srcOf_ref {n : Nat} {ys : List W} : srcOf (.ref n) ys = [(n, ys)] := id rfl
theorem int_bl {b : Bool} : biW .int [.bl b] st = .ok (.int (if b then 1 else 0)) st := id rfl
theorem min_two {i j : Int} : biW .min2 [.int i, .int j] st = .ok (.int (if j < i then j else i)) st := id rfl
theorem max_two {i j : Int} : biW .max2 [.int i, .int j] st = .ok (.int (if j > i then j else i)) st := id rfl
theorem len_lst {xs : List W} : biW .len [.lst xs] st = .ok (.int xs.length) st := len_of items_lst
theorem len_tup {xs : List W} : biW .len [.tup xs] st = .ok (.int xs.length) st := len_of items_tup
theorem len_fro {xs : List W} : biW .len [.fro xs] st = .ok (.int xs.length) st := len_of items_fro
theorem tuple_lst {xs : List W} : biW .tuple [.lst xs] st = .ok (.tup xs) st := tuple_of items_lst
theorem tuple_tup {xs : List W} : biW .tuple [.tup xs] st = .ok (.tup xs) st := tuple_of items_tup
theorem tuple_fro {xs : List W} : biW .tuple [.fro xs] st = .ok (.tup xs) st := tuple_of items_fro
theorem list_lst {xs : List W} {m : Bool} : biW (.list m) [.lst xs] st = mkL m xs st := list_of items_lst
theorem list_tup {xs : List W} {m : Bool} : biW (.list m) [.tup xs] st = mkL m xs st := list_of items_tup
theorem list_fro {xs : List W} {m : Bool} : biW (.list m) [.fro xs] st = mkL m xs st := list_of items_fro
theorem fin_none : fin none env st = .nx env st := id rfl
theorem fin_rt {w : W} : fin (some (.inl w)) env st = .rt w st := id rfl
theorem fin_ex {c : Nat} {ws : List W} : fin (some (.inr (c, ws))) env st = .ex c ws env st := id rfl
theorem loop_map {α : Type} {one : W → Ev → Store → O} {src : List (Nat × List W)} (g : α → W) (I : Ev → Prop) (f : α → Fo) (hs : still src st = .ok () st) :
    ∀ (l : List α), (∀ a ∈ l, ∀ env, I env → ∃ env', I env' ∧ one (g a) env st = fin (f a) env' st) → ∀ env, I env → ∃ env', I env' ∧ forGo one src (l.map g) env st = fin (l.findSome? f) env' st
  | [], _, env, h => ⟨env, h, forGo_nil hs⟩
  | a :: l, step, env, h => by
    obtain ⟨e1, h1, h2⟩ := step a List.mem_cons_self env h
    obtain ⟨e2, h3, h4⟩ := loop_map g I f hs l (fun b hb => step b (List.mem_cons_of_mem _ hb)) e1 h1
    rw [List.map_cons, forGo_cons hs, h2, List.findSome?_cons]
    rcases f a with _ | w | ⟨c, ws⟩
    · exact ⟨e2, h3, h4⟩
    · exact ⟨e1, h1, rfl⟩
    · exact ⟨e1, h1, rfl⟩
theorem rangeW_map {lo : Int} {n : Nat} : rangeW lo n = (List.range n).map fun (i : Nat) => .int (lo + i) := id rfl
theorem enumW_map {α : Type} [Inhabited α] {l : List α} {g : α → W} : enumW 0 (l.map g) = (List.range l.length).map fun i => .tup [.int (i : Nat), g l[i]!] := by
  rw [enumW_eq]
  apply List.ext_getElem?
  intro i
  by_cases h : i < l.length
  · simp [h]
  · simp at h
    simp [h]
theorem lcGo_map {α : Type} {one : W → Q (Option W)} {src : List (Nat × List W)} {g : α → W} {f : α → Option W} (hs : still src st = .ok () st) : ∀ (xs : List α) (acc : List W), acc.length + xs.length ≤ 16777216 → (∀ x ∈ xs, ∀ acc, one (g x) (st ++ [some (.lst acc)]) = .ok (f x) (st ++ [some (.lst acc)])) →
    lcGo one st.length src (xs.map g) (st ++ [some (.lst acc)]) = .ok () (st ++ [some (.lst (acc ++ xs.filterMap f))])
  | [], acc, _, _ => by simp [lcGo, still_app hs]
  | x :: xs, acc, hl, h => by
    rw [List.map_cons]
    unfold lcGo
    simp only [bd_st, still_app hs, bdR_ok, h x List.mem_cons_self, nox_k]
    simp only [List.length_cons] at hl
    cases e : f x with
    | none =>
      simp only []
      rw [lcGo_map hs xs acc (by omega) fun y hy => h y (List.mem_cons_of_mem _ hy)]
      simp [List.filterMap_cons, e]
    | some w =>
      simp only [bd_st]
      rw [app_last (by omega), bdR_ok, lcGo_map hs xs (acc ++ [w]) (by simp; omega) fun y hy => h y (List.mem_cons_of_mem _ hy)]
      simp [List.filterMap_cons, e]
/-- a comprehension whose items change nothing -/
theorem lc_fmap {α : Type} {one : W → Q (Option W)} {l : List α} {g : α → W} {src : List (Nat × List W)} (f : α → Option W) (hs : still src st = .ok () st) (hl : l.length ≤ 16777216) (h : ∀ x ∈ l, ∀ acc, one (g x) (st ++ [some (.lst acc)]) = .ok (f x) (st ++ [some (.lst acc)]))
    (hc : ∀ x ∈ l, ∀ w, f x = some w → W.clo st.length w = true) : lcW false one ⟨l.map g, src⟩ st = .ok (.lst (l.filterMap f)) st := by
  unfold lcW
  simp only []
  rw [lcGo_map hs l [] (by simpa using hl) h]
  have e : (st ++ [some (MO.lst ([] ++ l.filterMap f))])[st.length]? = some (some (.lst (l.filterMap f))) := by simp
  simp only [e]
  simp only [Bool.false_eq_true, if_false, set_last]
  refine cut_app ?_
  unfold W.clo
  rw [W.clos_iff]
  intro w hw
  obtain ⟨x, hx, hw⟩ := List.mem_filterMap.mp hw
  exact hc x hx w hw
theorem lc_fmap_t {α : Type} {one : W → Q (Option W)} {l : List α} {g : α → W} {src : List (Nat × List W)} (f : α → Option W) (hs : still src st = .ok () st) (hl : l.length ≤ 16777216) (h : ∀ x ∈ l, ∀ acc, one (g x) (st ++ [some (.lst acc)]) = .ok (f x) (st ++ [some (.lst acc)])) :
    lcW true one ⟨l.map g, src⟩ st = .ok (.ref st.length) (st ++ [some (.lst (l.filterMap f))]) := by
  unfold lcW
  simp only []
  rw [lcGo_map hs l [] (by simpa using hl) h]
  simp only [if_true, List.nil_append]
  simp only [cut]
  rw [if_neg]
  intro ⟨_, h⟩
  simp [W.clo] at h
theorem lc_map {α : Type} {one : W → Q (Option W)} {l : List α} {g : α → W} {src : List (Nat × List W)} (f : α → W) (hs : still src st = .ok () st) (hl : l.length ≤ 16777216) (h : ∀ x ∈ l, ∀ acc, one (g x) (st ++ [some (.lst acc)]) = .ok (some (f x)) (st ++ [some (.lst acc)]))
    (hc : ∀ x ∈ l, W.clo st.length (f x) = true) : lcW false one ⟨l.map g, src⟩ st = .ok (.lst (l.map f)) st := by
  rw [lc_fmap (fun a => some (f a)) hs hl h (fun x hx w e => by cases e; exact hc x hx), filterMap_some]
theorem lc_map_t {α : Type} {one : W → Q (Option W)} {l : List α} {g : α → W} {src : List (Nat × List W)} (f : α → W) (hs : still src st = .ok () st) (hl : l.length ≤ 16777216) (h : ∀ x ∈ l, ∀ acc, one (g x) (st ++ [some (.lst acc)]) = .ok (some (f x)) (st ++ [some (.lst acc)])) :
    lcW true one ⟨l.map g, src⟩ st = .ok (.ref st.length) (st ++ [some (.lst (l.map f))]) := by
  rw [lc_fmap_t (fun a => some (f a)) hs hl h, filterMap_some]
/-- a comprehension whose items change objects: J acc rest store -/
theorem lcGo_inv {one : W → Q (Option W)} {src : List (Nat × List W)} {n : Nat} (J : List W → List W → Store → Prop) (hs : ∀ acc xs st, J acc xs st → still src st = .ok () st)
    (step : ∀ acc x xs st, J acc (x :: xs) st → ∃ w st', one x st = .ok (some w) st' ∧ acc.length < 16777216 ∧ At st' n (.lst acc) ∧ J (acc ++ [w]) xs (st'.set n (some (.lst (acc ++ [w]))))) :
    ∀ xs acc st, J acc xs st → ∃ acc' st', lcGo one n src xs st = .ok () st' ∧ J acc' [] st'
  | [], acc, st, h => ⟨acc, st, by simp only [lcGo]; exact hs _ _ _ h, h⟩
  | x :: xs, acc, st, h => by
    obtain ⟨w, st', h1, h2, h3, h4⟩ := step _ _ _ _ h
    obtain ⟨acc', st2, h5, h6⟩ := lcGo_inv J hs step xs _ _ h4
    refine ⟨acc', st2, ?_, h6⟩
    unfold lcGo
    simp only [bd_st, hs _ _ _ h, bdR_ok, h1, nox_k]
    unfold app
    simp only [bd_st, h3.get, bdR_ok]
    rw [if_pos (by unfold sizeLine; omega), h3.set, bdR_ok, h5]
theorem lc_inv {one : W → Q (Option W)} {src : List (Nat × List W)} {xs : List W} (J : List W → List W → Store → Prop) (hs : ∀ acc xs st, J acc xs st → still src st = .ok () st)
    (step : ∀ acc x xs s, J acc (x :: xs) s → ∃ w s', one x s = .ok (some w) s' ∧ acc.length < 16777216 ∧ At s' st.length (.lst acc) ∧ J (acc ++ [w]) xs (s'.set st.length (some (.lst (acc ++ [w])))))
    (hat : ∀ acc s, J acc [] s → At s st.length (.lst acc)) (h0 : J [] xs (st ++ [some (.lst [])])) :
    ∃ acc s, J acc [] s ∧ lcW false one ⟨xs, src⟩ st = cut st (.ok (.lst acc) (s.set st.length none)) := by
  obtain ⟨acc, s, h1, h2⟩ := lcGo_inv J hs step xs _ _ h0
  refine ⟨acc, s, h2, ?_⟩
  unfold lcW
  simp only []
  rw [h1]
  have e := hat _ _ h2
  unfold At at e
  simp only [e, Bool.false_eq_true, if_false]
/-! ## pools -/
def pool (st : Store) (p : Nat) : Prop := ∃ (c k : Int) (b : Bool), At st p (.lst [.int c, .int k, .bl b])
/-- the store s holds what st held, but for the pool p, and more -/
structure Pk (p : Nat) (st s : Store) : Prop where
  len : st.length ≤ s.length
  keep : ∀ j, j < st.length → j ≠ p → s[j]? = st[j]?
  pool : pool s p
theorem pool.lt {p : Nat} (h : pool st p) : p < st.length := by
  obtain ⟨_, _, _, h⟩ := h
  exact h.lt
theorem pool.app {p : Nat} {e : Store} (h : pool st p) : pool (st ++ e) p := by
  obtain ⟨a, b, c, h⟩ := h
  exact ⟨a, b, c, h.app⟩
theorem pool.set {p q : Nat} {x : Option MO} (h : pool st p) (hq : q ≠ p) : pool (st.set q x) p := by
  obtain ⟨a, b, c, h⟩ := h
  exact ⟨a, b, c, h.set_ne hq⟩
theorem Pk.refl {p : Nat} (h : Mi.pool st p) : Pk p st st := ⟨Nat.le_refl _, fun _ _ _ => rfl, h⟩
theorem Pk.trans {p : Nat} {s u : Store} (h : Pk p st s) (h2 : Pk p s u) : Pk p st u :=
  ⟨Nat.le_trans h.len h2.len, fun j hj hp => by rw [h2.keep j (Nat.lt_of_lt_of_le hj h.len) hp, h.keep j hj hp], h2.pool⟩
theorem Pk.app {p : Nat} {s e : Store} (h : Pk p st s) : Pk p st (s ++ e) :=
  ⟨by rw [List.length_append]; have := h.len; omega, fun j hj hp => by rw [List.getElem?_append_left (Nat.lt_of_lt_of_le hj h.len), h.keep j hj hp], h.pool.app⟩
theorem Pk.set {p q : Nat} {s : Store} {x : Option MO} (h : Pk p st s) (hq : st.length ≤ q) (hp : p < st.length) : Pk p st (s.set q x) :=
  ⟨by rw [List.length_set]; exact h.len, fun j hj hp => by rw [List.getElem?_set_ne (by omega), h.keep j hj hp], h.pool.set (by omega)⟩
theorem Pk.set' {p q : Nat} {s : Store} {x : Option MO} (h : Pk p st s) (hq : st.length ≤ q) (hp : q ≠ p) : Pk p st (s.set q x) :=
  ⟨by rw [List.length_set]; exact h.len, fun j hj hp => by rw [List.getElem?_set_ne (by omega), h.keep j hj hp], h.pool.set hp⟩
theorem Pk.at {p j : Nat} {s : Store} {o : MO} (h : Pk p st s) (ha : At st j o) (hp : j ≠ p) : At s j o := by
  unfold At
  rw [h.keep j ha.lt hp]; exact ha
theorem Pk.of_app {p : Nat} {s e : Store} (h : Pk p (st ++ e) s) : Pk p st s :=
  ⟨by have := h.len; rw [List.length_append] at this; omega, fun j hj hp => by rw [h.keep j (by rw [List.length_append]; omega) hp, List.getElem?_append_left hj], h.pool⟩
/-- at a def's end the store is cut back -/
theorem Pk.cutOk {p : Nat} {s : Store} (h : Pk p st s) : cutOk st s := by
  intro n o hn e
  by_cases hp : n = p
  · subst hp
    obtain ⟨a, b, c, h1⟩ := h.pool
    unfold At at h1
    rw [h1] at e
    cases e
    exact .inr rfl
  · rw [h.keep n hn hp] at e
    exact .inl e
theorem Pk.take {p : Nat} {s : Store} (h : Pk p st s) (hp : p < st.length) : Pk p st (s.take st.length) :=
  ⟨by rw [List.length_take]; have := h.len; omega, fun j hj hq => by rw [List.getElem?_take_of_lt hj, h.keep j hj hq], by
    obtain ⟨a, b, c, h1⟩ := h.pool
    refine ⟨a, b, c, ?_⟩
    unfold At
    rw [List.getElem?_take_of_lt hp]; exact h1⟩
theorem Pk.cut {p : Nat} {s : Store} {w : W} (h : Pk p st s) (hp : p < st.length) (hw : W.clo st.length w = true) : ∃ s', cut st (.ok w s) = .ok w s' ∧ Pk p st s' ∧ s'.length = st.length :=
  ⟨s.take st.length, cut_take h.cutOk hw, h.take hp, by rw [List.length_take]; have := h.len; omega⟩
end
end Mi
set_option maxHeartbeats 4000000
namespace Mi
open PySem
/-! ## the draws of the laws -/
def bagD : Fd := ⟨("_law_bag", none), ["_law_cell"], 1, (.cons (.ret (.lst true (.cons (.v 0) (.cons (.cst (.int 0)) (.cons (.cmp .ge (.v 0) (.bin .pow false (.cst (.int 10)) (.cst (.int 18)))) .nil))))) .nil)⟩
def drawD : Fd := ⟨("_law_draw", none), ["_law_pool", "_law_limit", "_law_mixed", "_law_drawn"], 2, (.cons (.six (.v 0) (.cst (.int 1)) (.bin .add false (.idx (.v 0) (.cst (.int 1))) (.cst (.int 1))))
  (.cons (.ite (.e (.idx (.v 0) (.cst (.int 2)))) (.cons (.asg (.nm 3) (.bin .mod false (.bi .int (.cons (.idx (.v 0) (.cst (.int 0))) .nil)) (.v 1)))
  (.cons (.six (.v 0) (.cst (.int 0)) (.bin .fdiv false (.bi .int (.cons (.idx (.v 0) (.cst (.int 0))) .nil)) (.v 1)))
  (.cons (.ret (.v 3))
  .nil))) .nil)
  (.cons (.asg (.nm 2) (.bin .mod false (.bi .int (.cons (.bin .add false (.bin .add false (.bin .mul false (.idx (.v 0) (.cst (.int 0))) (.cst (.int 7919))) (.bin .mul false (.idx (.v 0) (.cst (.int 1))) (.cst (.int 104729)))) (.cst (.int 13))) .nil)) (.cst (.int 2147483647))))
  (.cons (.ret (.bin .mod false (.bin .fdiv false (.bi .int (.cons (.bin .mod false (.bin .pow false (.v 2) (.cst (.int 5))) (.cst (.int 2147483647))) .nil)) (.cst (.int 17))) (.v 1)))
  .nil))))⟩
def atD : Fd := ⟨("_law_at", none), ["_law_script", "_law_k"], 2, (.cons (.ite (.e (.cmp .lt (.v 1) (.bi .len (.cons (.v 0) .nil)))) (.cons (.ret (.idx (.v 0) (.v 1)))
  .nil) .nil)
  (.cons (.ret (.cst (.int 0)))
  .nil))⟩
section
variable {T : Tab}
theorem at_ok {f : Nat} (hT : T.fns[f]? = some atD) (n : Nat) (ns : List Int) (k : Nat) (st : Store) : run T (n + 1) f [.fro (ns.map .int), .int k] st = .ok (.int (ns[k]?.getD 0)) st := by
  rw [run_eq (d := atD) hT rfl]
  by_cases h : k < ns.length
  · have h1 : ((k : Int) < (ns.length : Int)) := by omega
    have h2 : (ns.map W.int)[k]? = some (.int ns[k]) := by simp [h]
    simp only [atD, bd_st, bdR_ok, bdR_ex, bdR_no, pu_st, no_st, bo_ok, bo_ex, bo_no, thn_nx, thn_rt, thn_ex, thn_no, res_nx, res_rt, res_ex, res_no, nxs_st, rts_st, bos_st, iteS_t, iteS_f, exSs_nil, exSs_cons, exS_ex, exS_asg, exS_par, exS_ret, exS_ret0, exS_pas, exS_ite, exS_loop, exS_tri, exS_rai, exS_sat, exS_six, triS_nx, triS_rt, triS_ex, ev_v, ev_cst, ev_gi, ev_bin, ev_neg, negK_int, ev_cmp, ev_chn, chnK_t, chnK_f, ev_isN, ev_ntN, noneB, ev_and, ev_or, andK_t, andK_f, orK_t, orK_f, notK_bl, ev_not, ev_ite, ev_tup, ev_lst, ev_idx, ev_slc, ev_att, ev_call, ev_mth, ev_new, ev_bi, ev_bm, ev_lc, ev_frz, ev_tupS, ev_lstS, evz_nil, evz_f, evz_t, evT_yes, evT_e, andT_t, andT_f, orT_t, orT_f, evT_and, evT_or, evT_not, evO_om, evO_e, intO_int, evs_nil, evs_cons, evI_sq, evI_en, evI_zp, evI_r1, evI_r2, asgn_nm, asgn_tp, asgns_nil, asgns_cons, oneS_st, lcOne_st, add_int, sub_int, items_lst, items_fro, items_tup, itemsN_lst, itemsN_fro, itemsL_lst, lt_int, le_int, gt_int, ge_int, eq_int, ne_int, tru_b, tru_non, tru_lst, tru_tup, int_int, isBool_bl, nox_k, Cn.w, srcOf_lst, srcOf_tup, srcOf_fro, srcOf_ref, still_nil, List.getElem?_cons_zero, List.getElem?_cons_succ, List.set_cons_zero, List.set_cons_succ, startE, List.map_cons, List.map_nil, List.length_cons, List.length_nil, List.length_map, List.length_range, List.cons_append, List.nil_append, List.replicate_succ, List.replicate_zero, wipeE, unE, Nat.reduceAdd, Nat.reduceSub, decide_true, decide_false, Bool.not_true, Bool.not_false, len_of (items_fro), h1, idx_nat items_fro k rfl h2, cut_self]
    simp [h]
  · have h1 : ¬ ((k : Int) < (ns.length : Int)) := by omega
    simp only [atD, bd_st, bdR_ok, bdR_ex, bdR_no, pu_st, no_st, bo_ok, bo_ex, bo_no, thn_nx, thn_rt, thn_ex, thn_no, res_nx, res_rt, res_ex, res_no, nxs_st, rts_st, bos_st, iteS_t, iteS_f, exSs_nil, exSs_cons, exS_ex, exS_asg, exS_par, exS_ret, exS_ret0, exS_pas, exS_ite, exS_loop, exS_tri, exS_rai, exS_sat, exS_six, triS_nx, triS_rt, triS_ex, ev_v, ev_cst, ev_gi, ev_bin, ev_neg, negK_int, ev_cmp, ev_chn, chnK_t, chnK_f, ev_isN, ev_ntN, noneB, ev_and, ev_or, andK_t, andK_f, orK_t, orK_f, notK_bl, ev_not, ev_ite, ev_tup, ev_lst, ev_idx, ev_slc, ev_att, ev_call, ev_mth, ev_new, ev_bi, ev_bm, ev_lc, ev_frz, ev_tupS, ev_lstS, evz_nil, evz_f, evz_t, evT_yes, evT_e, andT_t, andT_f, orT_t, orT_f, evT_and, evT_or, evT_not, evO_om, evO_e, intO_int, evs_nil, evs_cons, evI_sq, evI_en, evI_zp, evI_r1, evI_r2, asgn_nm, asgn_tp, asgns_nil, asgns_cons, oneS_st, lcOne_st, add_int, sub_int, items_lst, items_fro, items_tup, itemsN_lst, itemsN_fro, itemsL_lst, lt_int, le_int, gt_int, ge_int, eq_int, ne_int, tru_b, tru_non, tru_lst, tru_tup, int_int, isBool_bl, nox_k, Cn.w, srcOf_lst, srcOf_tup, srcOf_fro, srcOf_ref, still_nil, List.getElem?_cons_zero, List.getElem?_cons_succ, List.set_cons_zero, List.set_cons_succ, startE, List.map_cons, List.map_nil, List.length_cons, List.length_nil, List.length_map, List.length_range, List.cons_append, List.nil_append, List.replicate_succ, List.replicate_zero, wipeE, unE, Nat.reduceAdd, Nat.reduceSub, decide_true, decide_false, Bool.not_true, Bool.not_false, len_of (items_fro), h1, cut_self]
    simp at h
    simp [h]
theorem bag_ok {f : Nat} (hT : T.fns[f]? = some bagD) (n : Nat) (c : Int) (st : Store) : ∃ x, run T (n + 1) f [.int c] st = .ok (.ref st.length) (st ++ [some x]) ∧ pool (st ++ [some x]) st.length := by
  rw [run_eq (d := bagD) hT rfl]
  refine ⟨.lst [.int c, .int 0, .bl (decide (10 ^ 18 ≤ c))], ?_, _, _, _, At.last⟩
  simp (disch := first | assumption | (simp; done) | omega | (simp; omega) | decide) only [bd_st, bdR_ok, bdR_ex, bdR_no, pu_st, no_st, bo_ok, bo_ex, bo_no, thn_nx, thn_rt, thn_ex, thn_no, res_nx, res_rt, res_ex, res_no, nxs_st, rts_st, bos_st, iteS_t, iteS_f, exSs_nil, exSs_cons, exS_ex, exS_asg, exS_par, exS_ret, exS_ret0, exS_pas, exS_ite, exS_loop, exS_tri, exS_rai, exS_sat, exS_six, triS_nx, triS_rt, triS_ex, ev_v, ev_cst, ev_gi, ev_bin, ev_neg, negK_int, ev_cmp, ev_chn, chnK_t, chnK_f, ev_isN, ev_ntN, noneB, ev_and, ev_or, andK_t, andK_f, orK_t, orK_f, notK_bl, ev_not, ev_ite, ev_tup, ev_lst, ev_idx, ev_slc, ev_att, ev_call, ev_mth, ev_new, ev_bi, ev_bm, ev_lc, ev_frz, ev_tupS, ev_lstS, evz_nil, evz_f, evz_t, evT_yes, evT_e, andT_t, andT_f, orT_t, orT_f, evT_and, evT_or, evT_not, evO_om, evO_e, intO_int, evs_nil, evs_cons, evI_sq, evI_en, evI_zp, evI_r1, evI_r2, asgn_nm, asgn_tp, asgns_nil, asgns_cons, oneS_st, lcOne_st, add_int, sub_int, items_lst, items_fro, items_tup, itemsN_lst, itemsN_fro, itemsL_lst, lt_int, le_int, gt_int, ge_int, eq_int, ne_int, tru_b, tru_non, tru_lst, tru_tup, int_int, isBool_bl, nox_k, Cn.w, srcOf_lst, srcOf_tup, srcOf_fro, srcOf_ref, still_nil, List.getElem?_cons_zero, List.getElem?_cons_succ, List.set_cons_zero, List.set_cons_succ, startE, List.map_cons, List.map_nil, List.length_cons, List.length_nil, List.length_map, List.length_range, List.cons_append, List.nil_append, List.replicate_succ, List.replicate_zero, wipeE, unE, Nat.reduceAdd, Nat.reduceSub, decide_true, decide_false, Bool.not_true, Bool.not_false, mul_int, mod_int, fdiv_int, pow_int, mkL_f, mkL_t, len_lst, len_tup, len_fro, tuple_lst, tuple_tup, tuple_fro, list_lst, list_tup, list_fro, int_bl, min_two, max_two, tupK_ok, bagD]
  exact cut_ref (Nat.le_refl _)
theorem draw_ok {f : Nat} (hT : T.fns[f]? = some drawD) (n : Nat) {p : Nat} {lim : Int} {st : Store} (h : pool st p) (hl : 0 < lim) (h2 : lim < 1000000) : ∃ (r : Nat) (st' : Store), run T (n + 1) f [.ref p, .int lim] st = .ok (.int r) st' ∧ (r : Int) < lim ∧ Pk p st st' ∧ st'.length = st.length := by
  suffices H : ∃ (r : Int) (st' : Store), run T (n + 1) f [.ref p, .int lim] st = .ok (.int r) st' ∧ (0 ≤ r ∧ r < lim) ∧ Pk p st st' ∧ st'.length = st.length by
    obtain ⟨r, s, h1, ⟨h2, h3⟩, h4⟩ := H
    obtain ⟨m, rfl⟩ := Int.eq_ofNat_of_zero_le h2
    exact ⟨m, s, h1, h3, h4⟩
  obtain ⟨c, k, b, h⟩ := h
  rw [run_eq (d := drawD) hT rfl]
  have i1 := idx_nat (items_rf h) (i := 1) 1 rfl rfl
  have s1 := six_nat h (i := 1) (w := .int (k + 1)) 1 rfl (by simp)
  have h1 := h.set_self (o' := .lst [W.int c, .int (k + 1), .bl b])
  have i2 := idx_nat (items_rf h1) (i := 2) 2 rfl rfl
  have i3 := idx_nat (items_rf h1) (i := 1) 1 rfl rfl
  have i0 := idx_nat (items_rf h1) (i := 0) 0 rfl rfl
  have hlt := h.lt
  cases b with
  | true =>
    have s2 := six_nat h1 (i := 0) (w := .int (c.fdiv lim)) 0 rfl (by simp)
    simp (disch := first | assumption | (simp; done) | omega | (simp; omega) | decide) only [bd_st, bdR_ok, bdR_ex, bdR_no, pu_st, no_st, bo_ok, bo_ex, bo_no, thn_nx, thn_rt, thn_ex, thn_no, res_nx, res_rt, res_ex, res_no, nxs_st, rts_st, bos_st, iteS_t, iteS_f, exSs_nil, exSs_cons, exS_ex, exS_asg, exS_par, exS_ret, exS_ret0, exS_pas, exS_ite, exS_loop, exS_tri, exS_rai, exS_sat, exS_six, triS_nx, triS_rt, triS_ex, ev_v, ev_cst, ev_gi, ev_bin, ev_neg, negK_int, ev_cmp, ev_chn, chnK_t, chnK_f, ev_isN, ev_ntN, noneB, ev_and, ev_or, andK_t, andK_f, orK_t, orK_f, notK_bl, ev_not, ev_ite, ev_tup, ev_lst, ev_idx, ev_slc, ev_att, ev_call, ev_mth, ev_new, ev_bi, ev_bm, ev_lc, ev_frz, ev_tupS, ev_lstS, evz_nil, evz_f, evz_t, evT_yes, evT_e, andT_t, andT_f, orT_t, orT_f, evT_and, evT_or, evT_not, evO_om, evO_e, intO_int, evs_nil, evs_cons, evI_sq, evI_en, evI_zp, evI_r1, evI_r2, asgn_nm, asgn_tp, asgns_nil, asgns_cons, oneS_st, lcOne_st, add_int, sub_int, items_lst, items_fro, items_tup, itemsN_lst, itemsN_fro, itemsL_lst, lt_int, le_int, gt_int, ge_int, eq_int, ne_int, tru_b, tru_non, tru_lst, tru_tup, int_int, isBool_bl, nox_k, Cn.w, srcOf_lst, srcOf_tup, srcOf_fro, srcOf_ref, still_nil, List.getElem?_cons_zero, List.getElem?_cons_succ, List.set_cons_zero, List.set_cons_succ, startE, List.map_cons, List.map_nil, List.length_cons, List.length_nil, List.length_map, List.length_range, List.cons_append, List.nil_append, List.replicate_succ, List.replicate_zero, wipeE, unE, Nat.reduceAdd, Nat.reduceSub, decide_true, decide_false, Bool.not_true, Bool.not_false, mul_int, mod_int, fdiv_int, pow_int, mkL_f, mkL_t, len_lst, len_tup, len_fro, tuple_lst, tuple_tup, tuple_fro, list_lst, list_tup, list_fro, int_bl, min_two, max_two, tupK_ok, drawD, i1, s1, i2, i0, s2]
    rw [cut_same_len (by simp)]
    refine ⟨_, _, rfl, ⟨?_, ?_⟩, ⟨by simp, ?_, ⟨_, _, _, h1.set_self (o' := .lst [.int (c.fdiv lim), .int (k + 1), .bl true])⟩⟩, by simp⟩
    · exact Int.fmod_nonneg_of_pos _ hl
    · exact Int.fmod_lt_of_pos _ hl
    · intro j _ hj; simp [List.getElem?_set, Ne.symm hj]
  | false =>
    have hm : 0 ≤ (c * 7919 + (k + 1) * 104729 + 13).fmod 2147483647 ∧ (c * 7919 + (k + 1) * 104729 + 13).fmod 2147483647 < 2147483647 := ⟨Int.fmod_nonneg_of_pos _ (by decide), Int.fmod_lt_of_pos _ (by decide)⟩
    simp (disch := first | assumption | (simp; done) | omega | (simp; omega) | decide) only [bd_st, bdR_ok, bdR_ex, bdR_no, pu_st, no_st, bo_ok, bo_ex, bo_no, thn_nx, thn_rt, thn_ex, thn_no, res_nx, res_rt, res_ex, res_no, nxs_st, rts_st, bos_st, iteS_t, iteS_f, exSs_nil, exSs_cons, exS_ex, exS_asg, exS_par, exS_ret, exS_ret0, exS_pas, exS_ite, exS_loop, exS_tri, exS_rai, exS_sat, exS_six, triS_nx, triS_rt, triS_ex, ev_v, ev_cst, ev_gi, ev_bin, ev_neg, negK_int, ev_cmp, ev_chn, chnK_t, chnK_f, ev_isN, ev_ntN, noneB, ev_and, ev_or, andK_t, andK_f, orK_t, orK_f, notK_bl, ev_not, ev_ite, ev_tup, ev_lst, ev_idx, ev_slc, ev_att, ev_call, ev_mth, ev_new, ev_bi, ev_bm, ev_lc, ev_frz, ev_tupS, ev_lstS, evz_nil, evz_f, evz_t, evT_yes, evT_e, andT_t, andT_f, orT_t, orT_f, evT_and, evT_or, evT_not, evO_om, evO_e, intO_int, evs_nil, evs_cons, evI_sq, evI_en, evI_zp, evI_r1, evI_r2, asgn_nm, asgn_tp, asgns_nil, asgns_cons, oneS_st, lcOne_st, add_int, sub_int, items_lst, items_fro, items_tup, itemsN_lst, itemsN_fro, itemsL_lst, lt_int, le_int, gt_int, ge_int, eq_int, ne_int, tru_b, tru_non, tru_lst, tru_tup, int_int, isBool_bl, nox_k, Cn.w, srcOf_lst, srcOf_tup, srcOf_fro, srcOf_ref, still_nil, List.getElem?_cons_zero, List.getElem?_cons_succ, List.set_cons_zero, List.set_cons_succ, startE, List.map_cons, List.map_nil, List.length_cons, List.length_nil, List.length_map, List.length_range, List.cons_append, List.nil_append, List.replicate_succ, List.replicate_zero, wipeE, unE, Nat.reduceAdd, Nat.reduceSub, decide_true, decide_false, Bool.not_true, Bool.not_false, mul_int, mod_int, fdiv_int, pow_int, mkL_f, mkL_t, len_lst, len_tup, len_fro, tuple_lst, tuple_tup, tuple_fro, list_lst, list_tup, list_fro, int_bl, min_two, max_two, tupK_ok, drawD, i1, s1, i2, i0, i3]
    rw [cut_same_len (by simp)]
    refine ⟨_, _, rfl, ⟨?_, ?_⟩, ⟨by simp, ?_, ⟨_, _, _, h1⟩⟩, by simp⟩
    · exact Int.fmod_nonneg_of_pos _ hl
    · exact Int.fmod_lt_of_pos _ hl
    · intro j _ hj; simp [List.getElem?_set, Ne.symm hj]
end
end Mi
set_option maxHeartbeats 4000000
namespace Mi
open PySem
section
variable {st : Store} {T : Tab} {env : Ev}
theorem slice_from {α : Type} {xs : List α} {k : Nat} : sliceW xs (some (k : Int)) none = xs.drop k := by
  unfold sliceW
  rw [HT.sIx_nat, HT.sIx_none]
  by_cases h : k ≤ xs.length
  · rw [Nat.min_eq_left h, List.take_of_length_le (by simp)]
  · rw [Nat.min_eq_right (by omega), List.drop_eq_nil_of_le (by omega), List.drop_eq_nil_of_le (by omega)]; simp
theorem slice_to {α : Type} {xs : List α} {k : Nat} : sliceW xs none (some (k : Int)) = xs.take k := by
  unfold sliceW
  rw [HT.sIx_nat, HT.sIx_none]
  by_cases h : k ≤ xs.length
  · rw [Nat.min_eq_left h]; simp
  · rw [Nat.min_eq_right (by omega), List.take_of_length_le (by simp), List.take_of_length_le (by omega)]; simp
theorem slice_mid {α : Type} {xs : List α} {a b : Nat} : sliceW xs (some (a : Int)) (some (b : Int)) = (xs.drop a).take (b - a) := by
  unfold sliceW
  rw [HT.sIx_nat, HT.sIx_nat]
  by_cases h : a ≤ xs.length
  · rw [Nat.min_eq_left h]
    by_cases h2 : b ≤ xs.length
    · rw [Nat.min_eq_left h2]
    · rw [Nat.min_eq_right (by omega), List.take_of_length_le (by simp), List.take_of_length_le (by simp; omega)]
  · have e1 : xs.drop a = [] := List.drop_eq_nil_of_le (by omega)
    have e2 : xs.drop (min a xs.length) = [] := List.drop_eq_nil_of_le (by omega)
    rw [e1, e2]; simp
theorem slc_tup {xs : List W} {m : Bool} {lo hi : Option Int} : slcW m (.tup xs) lo hi st = .ok (.tup (sliceW xs lo hi)) st := by
  unfold slcW
  simp only []
  split
  · rfl
  · rename_i h
    rw [Decidable.not_not] at h
    unfold sliceW
    rw [h.1, h.2]
    simp [pu_st]
theorem slc_of {a : W} {xs : List W} {m : Bool} {lo hi : Option Int} (h : items a st = .ok xs st) (hn : isTup a = false) : slcW m a lo hi st = mkL m (sliceW xs lo hi) st := by
  cases a <;> first | (simp [isTup] at hn; done) | (simp only [slcW, bd_st, h, bdR_ok])
theorem slc_lst {xs : List W} {m : Bool} {lo hi : Option Int} : slcW m (.lst xs) lo hi st = mkL m (sliceW xs lo hi) st := slc_of items_lst rfl
theorem slc_fro {xs : List W} {m : Bool} {lo hi : Option Int} : slcW m (.fro xs) lo hi st = mkL m (sliceW xs lo hi) st := slc_of items_fro rfl
theorem any_ints {x : Int} {l : List Int} : ((l.map PyData.int).any fun z => PyData.eqv z (.int x)) = decide (x ∈ l) := by
  induction l with
  | nil => rfl
  | cons a l ih =>
    rw [List.map_cons, List.any_cons, ih]
    unfold PyData.eqv
    by_cases h : a = x
    · subst h; simp
    · have : ¬ x = a := fun e => h e.symm
      simp [h, this]
theorem idx_map {α : Type} [Inhabited α] {a : W} {l : List α} {g : α → W} {k : Nat} (h : items a st = .ok (l.map g) st) (hk : k < l.length) : idxW a (.int (k : Int)) st = .ok (g l[k]!) st :=
  idx_nat h k rfl (by simp [hk])
theorem idx_lst {α : Type} [Inhabited α] {l : List α} {g : α → W} {k : Nat} (hk : k < l.length) : idxW (.lst (l.map g)) (.int (k : Int)) st = .ok (g l[k]!) st := idx_map items_lst hk
theorem idx_tup {α : Type} [Inhabited α] {l : List α} {g : α → W} {k : Nat} (hk : k < l.length) : idxW (.tup (l.map g)) (.int (k : Int)) st = .ok (g l[k]!) st := idx_map items_tup hk
theorem idx_lst0 {α : Type} [Inhabited α] {l : List α} {g : α → W} (hk : 0 < l.length) : idxW (.lst (l.map g)) (.int 0) st = .ok (g l[0]!) st := idx_lst (k := 0) hk
theorem idx_tup0 {α : Type} [Inhabited α] {l : List α} {g : α → W} (hk : 0 < l.length) : idxW (.tup (l.map g)) (.int 0) st = .ok (g l[0]!) st := idx_tup (k := 0) hk
theorem rangeW_nat {i n : Nat} : rangeW (i : Int) n = (List.range n).map fun (j : Nat) => .int ((i + j : Nat) : Int) := by
  rw [rangeW_map]
  apply List.map_congr_left
  intro j _
  simp
theorem rangeW_nat0 {n : Nat} : rangeW 0 n = (List.range n).map fun (j : Nat) => .int (j : Int) := by
  rw [rangeW_map]
  apply List.map_congr_left
  intro j _
  simp
theorem rg1_nat {j : Nat} (h : j < 2 ^ 62) : rg1 (.int (j : Int)) st = .ok ⟨(List.range j).map fun (j : Nat) => .int (j : Int), []⟩ st := by
  rw [rg1_int (by omega), Int.toNat_natCast, rangeW_nat0]
theorem rg2_nat {i j : Nat} (h : i < 2 ^ 62) (h2 : j < 2 ^ 62) : rg2 (.int (i : Int)) (.int (j : Int)) st = .ok ⟨(List.range (j - i)).map fun (k : Nat) => .int ((i + k : Nat) : Int), []⟩ st := by
  rw [rg2_int (by omega), Int.toNat_sub, rangeW_nat]
theorem log2_small {n : Nat} (h : n < 2 ^ 200) : n.log2 < 1920 := by
  by_cases h0 : n = 0
  · subst h0; decide
  · rw [Nat.log2_lt h0]
    exact Nat.lt_of_lt_of_le h (Nat.pow_le_pow_right (by omega) (by omega))
theorem rai_n {c : Nat} {nm f : Str} {N : List Str} {i : Int} (hd : T.xcs[c]? = some ⟨nm, [(f, false)], true, N⟩) (h : i.natAbs < 2 ^ 200) : raiS T c env [.int i] st = .ex c [.int i] env st := by
  unfold raiS
  simp only [hd, xOk, log2_small h, decide_true, if_true]
  rfl
theorem rai_tt {c : Nat} {nm f g : Str} {N : List Str} {a b : List W} (hd : T.xcs[c]? = some ⟨nm, [(f, true), (g, true)], false, N⟩) : raiS T c env [.tup a, .tup b] st = .ex c [.tup a, .tup b] env st := by
  unfold raiS
  simp only [hd, xOk, Bool.false_eq_true, if_false]
  rfl
theorem xf_1 {c : Nat} {nm f : Str} {b mi : Bool} {N : List Str} {w : W} {F : Nat → List W → Q W} (hd : T.xcs[c]? = some ⟨nm, [(f, b)], mi, N⟩) : ev T F (some (c, [w])) (.xf f) env st = .ok w st := by
  rw [ev_xf]
  simp only [hd]
  simp [List.lookup]
/-- an int of a list, sought -/
theorem first_idx {β : Type} {x : Int} {h : Nat → β} {l : List Int} : (List.range l.length).findSome? (fun j => if x = l[j]! then some (h j) else none) = if x ∈ l then some (h (l.idxOf x)) else none := by
  induction l generalizing h with
  | nil => rfl
  | cons a l ih =>
    rw [List.length_cons, List.range_succ_eq_map, List.findSome?_cons]
    by_cases e : x = a
    · subst e; simp
    · have e' : ¬ a = x := fun z => e z.symm
      have eb : (a == x) = false := by simpa using e'
      have := ih (h := fun j => h (j + 1))
      simp only [List.getElem!_cons_zero, e, if_false, List.findSome?_map, Function.comp_def, Nat.succ_eq_add_one, List.getElem!_cons_succ, this, List.mem_cons, false_or, List.idxOf_cons, eb, cond_false]
/-- the greatest int -/
def mx : List Int → Int
  | [] => 0
  | i :: l => most l i
theorem most_mem {l : List Int} {a : Int} : most l a = a ∨ most l a ∈ l := by
  induction l generalizing a with
  | nil => exact .inl rfl
  | cons x l ih =>
    unfold most
    rcases ih (a := if a < x then x else a) with h | h
    · rw [h]
      by_cases e : a < x
      · simp [e]
      · simp [e]
    · exact .inr (List.mem_cons_of_mem _ h)
theorem mx_mem {l : List Int} (h : l ≠ []) : mx l ∈ l := by
  cases l with
  | nil => exact absurd rfl h
  | cons a l =>
    show most l a ∈ a :: l
    rcases most_mem (l := l) (a := a) with h | h
    · rw [h]; exact List.mem_cons_self
    · exact List.mem_cons_of_mem _ h
theorem max_mx {x : W} {l : List Int} (h : items x st = .ok (l.map .int) st) (hl : l ≠ []) : biW .max1 [x] st = .ok (.int (mx l)) st := by
  cases l with
  | nil => exact absurd rfl hl
  | cons i l => exact max_of h
theorem max_tup {l : List Int} (hl : l ≠ []) : biW .max1 [.tup (l.map .int)] st = .ok (.int (mx l)) st := max_mx items_tup hl
theorem max_lst {l : List Int} (hl : l ≠ []) : biW .max1 [.lst (l.map .int)] st = .ok (.int (mx l)) st := max_mx items_lst hl
theorem rcv_tup {xs : List W} : rcv .index (.tup xs) st = .ok xs st := rcv_index items_tup
theorem rcv_lst {xs : List W} : rcv .index (.lst xs) st = .ok xs st := rcv_index items_lst
theorem index_tup {l : List Int} {i : Int} (hi : i ∈ l) : bmW .index (.tup (l.map .int)) [.int i] st = .ok (.int (l.idxOf i : Nat)) st := index_of (.inr (DtK.tup DtL.ints).dt) hi
theorem index_lst {l : List Int} {i : Int} (hi : i ∈ l) : bmW .index (.lst (l.map .int)) [.int i] st = .ok (.int (l.idxOf i : Nat)) st := index_of (.inl (DtK.lst DtL.ints).dt) hi
theorem in_tup {l : List Int} {i : Int} : opC .isin (.int i) (.tup (l.map .int)) st = .ok (.bl (decide (i ∈ l))) st := by
  rw [in_dt_t dt_int (DtK.tup DtL.ints).dt, any_ints]
theorem in_lst {l : List Int} {i : Int} : opC .isin (.int i) (.lst (l.map .int)) st = .ok (.bl (decide (i ∈ l))) st := by
  rw [in_dt_l dt_int (DtK.lst DtL.ints).dt, any_ints]
/-- w is a list or tuple with the items vs -/
def Itm (st : Store) (w : W) (vs : List W) : Prop := match w with
  | .ref j => At st j (.lst vs)
  | .lst xs => xs = vs
  | .tup xs => xs = vs
  | .fro xs => xs = vs
  | _ => False
theorem Itm.app {w : W} {vs : List W} {e : Store} (h : Itm st w vs) : Itm (st ++ e) w vs := by
  cases w <;> first | exact h | exact At.app h
theorem Itm.items {w : W} {vs : List W} (h : Itm st w vs) : items w st = .ok vs st := by
  cases w <;> first | exact items_rf h | (cases h; rfl) | exact False.elim h
theorem Itm.still {w : W} {vs : List W} (h : Itm st w vs) : still (srcOf w vs) st = .ok () st := by
  cases w <;> first | exact still_one h | exact still_nil
/-- w is a list of lists of ints -/
def Rws (st : Store) (w : W) (rows : List (List Int)) : Prop := ∃ v : Nat → W, Itm st w ((List.range rows.length).map v) ∧ ∀ i, i < rows.length → Itm st (v i) (rows[i]!.map .int)
theorem Rws.app {w : W} {rows : List (List Int)} {e : Store} (h : Rws st w rows) : Rws (st ++ e) w rows := by
  obtain ⟨v, h1, h2⟩ := h
  exact ⟨v, h1.app, fun i hi => (h2 i hi).app⟩
theorem map_range {α β : Type} [Inhabited α] {l : List α} {f : α → β} : (List.range l.length).map (fun i => f l[i]!) = l.map f := by
  apply List.ext_getElem?
  intro i
  by_cases h : i < l.length
  · simp [h]
  · simp at h
    simp [h]
theorem putW_new {f : Str} {w : W} {fs : List (Str × W)} (h : decide (f ∈ fs.map (·.1)) = false) : putW f w fs = fs ++ [(f, w)] := by
  induction fs with
  | nil => rfl
  | cons x fs ih =>
    obtain ⟨g, y⟩ := x
    simp only [List.map_cons, List.mem_cons, decide_eq_false_iff_not, not_or] at h
    simp only [putW]
    rw [if_neg (fun e => h.1 e.symm), ih (by simpa using h.2)]; rfl
theorem sat_new {c : Nat} {fs : List (Str × W)} {f : Str} {w : W} (hf : (T.cls[c]?.map fun d => decide (f ∈ d.fields)) = some true) (hl : fs.length < 1000) (hn : decide (f ∈ fs.map (·.1)) = false) : satW T (.ref st.length) f w (st ++ [some (.ins c fs)]) = .ok () (st ++ [some (.ins c (fs ++ [(f, w)]))]) := by
  rw [sat_at At.last hf hl, set_last, putW_new hn]
theorem sat_last {c : Nat} {fs : List (Str × W)} {f : Str} {w : W} (hf : (T.cls[c]?.map fun d => decide (f ∈ d.fields)) = some true) (hl : fs.length < 1000) : satW T (.ref st.length) f w (st ++ [some (.ins c fs)]) = .ok () (st ++ [some (.ins c (putW f w fs))]) := by
  rw [sat_at At.last hf hl, set_last]
theorem erase_map {α β : Type} {f : α → β} : ∀ {l : List α} {k : Nat}, (l.map f).eraseIdx k = (l.eraseIdx k).map f
  | [], _ => rfl
  | _ :: _, 0 => rfl
  | a :: l, k + 1 => by simp [erase_map (f := f) (l := l) (k := k)]
theorem perm_erase {α : Type} [Inhabited α] : ∀ {l : List α} {k : Nat}, k < l.length → (l[k]! :: l.eraseIdx k).Perm l
  | [], _, h => by simp at h
  | a :: l, 0, _ => by simp
  | a :: l, k + 1, h => by
    simp only [List.getElem!_cons_succ, List.eraseIdx_cons_succ]
    refine (List.Perm.swap _ _ _).trans ?_
    exact (perm_erase (l := l) (k := k) (by simpa using h)).cons a
/-- a pure call: ok or an error -/
def rex : Option (Nat × List W) → W → Store → R W
  | none, w, st => .ok w st
  | some (c, ws), _, st => .ex c ws st
/-- a loop that may raise -/
def xFo : Option (Nat × List W) → Fo
  | none => none
  | some x => some (.inr x)
theorem findSome_xFo {α : Type} {f : α → Option (Nat × List W)} {l : List α} : l.findSome? (fun a => xFo (f a)) = xFo (l.findSome? f) := by
  induction l with
  | nil => rfl
  | cons a l ih =>
    rw [List.findSome?_cons, List.findSome?_cons, ih]
    cases f a <;> rfl
def rFo : Option W → Fo
  | none => none
  | some x => some (.inl x)
theorem findSome_rFo {α : Type} {f : α → Option W} {l : List α} : l.findSome? (fun a => rFo (f a)) = rFo (l.findSome? f) := by
  induction l with
  | nil => rfl
  | cons a l ih =>
    rw [List.findSome?_cons, List.findSome?_cons, ih]
    cases f a <;> rfl
end
end Mi
set_option maxHeartbeats 4000000
namespace Mi
open PySem
abbrev tW (r : List Int) : W := .tup (r.map .int)
abbrev lW (r : List Int) : W := .lst (r.map .int)
section
variable {st : Store} {T : Tab} {F : Nat → List W → Q W} {xc : Option (Nat × List W)} {env : Ev}
/-- a comprehension that draws: each item gives none or one -/
theorem lcGo_opt {one : W → Q (Option W)} {src : List (Nat × List W)} {n : Nat} (J : List W → List W → Store → Prop) (hs : ∀ acc xs st, J acc xs st → still src st = .ok () st)
    (step : ∀ acc x xs st, J acc (x :: xs) st → ∃ r st', one x st = .ok r st' ∧ acc.length < 16777216 ∧ At st' n (.lst acc) ∧ match r with
      | none => J acc xs st'
      | some w => J (acc ++ [w]) xs (st'.set n (some (.lst (acc ++ [w]))))) :
    ∀ xs acc st, J acc xs st → ∃ acc' st', lcGo one n src xs st = .ok () st' ∧ J acc' [] st'
  | [], acc, st, h => ⟨acc, st, by simp only [lcGo]; exact hs _ _ _ h, h⟩
  | x :: xs, acc, st, h => by
    obtain ⟨r, st', h1, h2, h3, h4⟩ := step _ _ _ _ h
    cases r with
    | none =>
      obtain ⟨acc', st2, h5, h6⟩ := lcGo_opt J hs step xs _ _ h4
      refine ⟨acc', st2, ?_, h6⟩
      unfold lcGo
      simp only [bd_st, hs _ _ _ h, bdR_ok, h1, nox_k, h5]
    | some w =>
      obtain ⟨acc', st2, h5, h6⟩ := lcGo_opt J hs step xs _ _ h4
      refine ⟨acc', st2, ?_, h6⟩
      unfold lcGo
      simp only [bd_st, hs _ _ _ h, bdR_ok, h1, nox_k]
      unfold app
      simp only [bd_st, h3.get, bdR_ok]
      rw [if_pos (by unfold sizeLine; omega), h3.set, bdR_ok, h5]
/-- R says how the items made stand to those walked -/
theorem lc_pool {one : W → Q (Option W)} {p : Nat} (hp : pool st p) (R : List W → List W → Prop) (xs0 : List W) (hl : xs0.length ≤ 16777216) (h0 : R [] xs0) (hR : ∀ acc xs, R acc xs → acc.length + xs.length ≤ xs0.length)
    (step : ∀ acc x xs s, R acc (x :: xs) → pool s p → ∃ r s', one x s = .ok r s' ∧ Pk p s s' ∧ s'.length = s.length ∧ match r with
      | none => R acc xs
      | some w => R (acc ++ [w]) xs)
    (hc : ∀ acc, R acc [] → W.clos st.length acc = true) : ∃ ws s', lcW false one ⟨xs0, []⟩ st = .ok (.lst ws) s' ∧ R ws [] ∧ Pk p st s' ∧ s'.length = st.length := by
  have hpl := hp.lt
  obtain ⟨acc, s, h1, hR1, hat, hP, hlen⟩ := lcGo_opt (one := one) (src := []) (n := st.length) (fun acc xs s => R acc xs ∧ At s st.length (.lst acc) ∧ Pk p st s ∧ s.length = st.length + 1) (fun _ _ _ _ => still_nil) (by
    rintro acc x xs s ⟨h1, h2, h3, h4⟩
    obtain ⟨r, s', e, hP, hs, hr⟩ := step acc x xs s h1 h3.pool
    have hat := hP.at h2 (by omega)
    have := hR _ _ h1
    simp at this
    refine ⟨r, s', e, by omega, hat, ?_⟩
    cases r with
    | none => exact ⟨hr, hat, h3.trans hP, by omega⟩
    | some w => exact ⟨hr, hat.set_self, (h3.trans hP).set (Nat.le_refl _) hpl, by simp; omega⟩) xs0 [] (st ++ [some (.lst [])]) ⟨h0, At.last, (Pk.refl hp).app, by simp⟩
  obtain ⟨s2, h3, h4, h5⟩ := (hP.set (q := st.length) (x := none) (Nat.le_refl _) hpl).cut hpl (w := .lst acc) (by unfold W.clo; exact hc _ hR1)
  refine ⟨acc, s2, ?_, hR1, h4, h5⟩
  unfold lcW
  simp only []
  rw [h1]
  unfold At at hat
  simp only [hat, Bool.false_eq_true, if_false]
  exact h3
/-- ints drawn -/
theorem lc_ints {one : W → Q (Option W)} {p : Nat} (hp : pool st p) (P : Int → Prop) (xs0 : List W) (hl : xs0.length ≤ 16777216) (step : ∀ x s, x ∈ xs0 → pool s p → ∃ i s', one x s = .ok (some (.int i)) s' ∧ P i ∧ Pk p s s' ∧ s'.length = s.length) :
    ∃ (l : List Int) (s' : Store), lcW false one ⟨xs0, []⟩ st = .ok (lW l) s' ∧ l.length = xs0.length ∧ (∀ i ∈ l, P i) ∧ Pk p st s' ∧ s'.length = st.length := by
  obtain ⟨ws, s', h1, ⟨l, rfl, h2, h3, _⟩, h4, h5⟩ := lc_pool (one := one) hp (fun acc xs => ∃ l : List Int, acc = l.map .int ∧ l.length + xs.length = xs0.length ∧ (∀ i ∈ l, P i) ∧ ∀ x ∈ xs, x ∈ xs0) xs0 hl ⟨[], rfl, by simp, by simp, fun x h => h⟩
    (by rintro acc xs ⟨l, rfl, h, _⟩; simp; omega)
    (by
      rintro acc x xs s ⟨l, rfl, h, hp, hm⟩ hs
      obtain ⟨i, s', e, hi, hP, hlen⟩ := step x s (hm x List.mem_cons_self) hs
      refine ⟨_, s', e, hP, hlen, l ++ [i], by simp, by simp at h ⊢; omega, ?_, fun y hy => hm y (List.mem_cons_of_mem _ hy)⟩
      intro j hj
      rcases List.mem_append.mp hj with hj | hj
      · exact hp j hj
      · simp at hj; subst hj; exact hi)
    (by rintro acc ⟨l, rfl, _⟩; simp [W.clos_iff, W.clo])
  exact ⟨l, s', h1, by simpa using h2, h3, h4, h5⟩
/-- some of the items, drawn -/
theorem lc_some {one : W → Q (Option W)} {p : Nat} (hp : pool st p) (l0 : List Int) (hl : l0.length ≤ 16777216) (step : ∀ i s, i ∈ l0 → pool s p → ∃ (b : Bool) (s' : Store), one (.int i) s = .ok (if b then some (.int i) else none) s' ∧ Pk p s s' ∧ s'.length = s.length) :
    ∃ (l : List Int) (s' : Store), lcW false one ⟨l0.map .int, []⟩ st = .ok (lW l) s' ∧ l.Sublist l0 ∧ Pk p st s' ∧ s'.length = st.length := by
  obtain ⟨ws, s', h1, ⟨l, rest, rfl, h2, h3, h4⟩, h5, h6⟩ := lc_pool (one := one) hp (fun acc xs => ∃ (l rest : List Int), acc = l.map .int ∧ xs = rest.map .int ∧ (∃ pre, l0 = pre ++ rest ∧ l.Sublist pre) ∧ l.length ≤ l0.length - rest.length) (l0.map .int) (by simpa using hl) ⟨[], l0, rfl, rfl, ⟨[], rfl, List.Sublist.slnil⟩, by simp⟩
    (by
      rintro acc xs ⟨l, rest, rfl, rfl, ⟨pre, h1, h2⟩, h3⟩
      have := h2.length_le
      rw [h1]; simp; omega)
    (by
      rintro acc x xs s ⟨l, rest, rfl, h1, ⟨pre, h2, h3⟩, h4⟩ hs
      cases rest with
      | nil => simp at h1
      | cons i rest =>
        simp at h1
        obtain ⟨rfl, rfl⟩ := h1
        obtain ⟨b, s', e, hP, hlen⟩ := step i s (by rw [h2]; simp) hs
        refine ⟨_, s', e, hP, hlen, ?_⟩
        cases b with
        | true =>
          have : (l ++ [i]).Sublist (pre ++ [i]) := h3.append (List.Sublist.refl _)
          exact ⟨l ++ [i], rest, by simp, rfl, ⟨pre ++ [i], by rw [h2]; simp, this⟩, by have := this.length_le; rw [h2]; simp at this ⊢; omega⟩
        | false =>
          have : l.Sublist (pre ++ [i]) := h3.trans (List.sublist_append_left _ _)
          exact ⟨l, rest, rfl, rfl, ⟨pre ++ [i], by rw [h2]; simp, this⟩, by have := this.length_le; rw [h2]; simp at this ⊢; omega⟩)
    (by rintro acc ⟨l, rest, rfl, _⟩; simp [W.clos_iff, W.clo])
  obtain ⟨pre, e1, e2⟩ := h3
  have : rest = [] := by simpa using h2.symm
  subst this
  exact ⟨l, s', h1, by rw [e1]; simpa using e2, h5, h6⟩
/-- item by item lists or tuples of ints -/
def RL (st : Store) : List W → List (List Int) → Prop
  | [], [] => True
  | w :: ws, r :: rs => Itm st w (r.map .int) ∧ RL st ws rs
  | _, _ => False
theorem RL.app : ∀ {ws vs : List W} {rs qs : List (List Int)}, RL st ws rs → RL st vs qs → RL st (ws ++ vs) (rs ++ qs)
  | [], _, [], _, _, h => h
  | _ :: _, _, _ :: _, _, h, h2 => ⟨h.1, RL.app h.2 h2⟩
  | [], _, _ :: _, _, h, _ => h.elim
  | _ :: _, _, [], _, h, _ => h.elim
theorem RL.tups : ∀ {rs : List (List Int)}, RL st (rs.map tW) rs
  | [] => trivial
  | _ :: _ => ⟨rfl, RL.tups⟩
theorem RL.lsts : ∀ {rs : List (List Int)}, RL st (rs.map lW) rs
  | [] => trivial
  | _ :: _ => ⟨rfl, RL.lsts⟩
theorem RL.len : ∀ {ws : List W} {rs : List (List Int)}, RL st ws rs → ws.length = rs.length
  | [], [], _ => rfl
  | _ :: _, _ :: _, h => by simp [RL.len h.2]
  | [], _ :: _, h => h.elim
  | _ :: _, [], h => h.elim
theorem RL.get : ∀ {ws : List W} {rs : List (List Int)} {i : Nat}, RL st ws rs → i < rs.length → Itm st ws[i]! (rs[i]!.map .int)
  | [], [], _, _, h => by simp at h
  | w :: ws, r :: rs, 0, h, _ => by simpa using h.1
  | w :: ws, r :: rs, i + 1, h, hi => by
    have := RL.get (i := i) h.2 (by simpa using hi)
    rw [List.getElem!_cons_succ, List.getElem!_cons_succ]; exact this
  | [], _ :: _, _, h, _ => h.elim
  | _ :: _, [], _, h, _ => h.elim
theorem RL.rws {w : W} {ws : List W} {rs : List (List Int)} (hi : Itm st w ws) (h : RL st ws rs) : Rws st w rs := by
  refine ⟨fun i => ws[i]!, ?_, fun i hi => h.get hi⟩
  have := map_range (l := ws) (f := fun w => w)
  rw [← h.len, this]
  simpa using hi
theorem zipW_map {l m : List Int} : zipW (l.map .int) (m.map .int) = (l.zip m).map fun p => .tup [.int p.1, .int p.2] := by
  induction l generalizing m with
  | nil => cases m <;> rfl
  | cons a l ih =>
    cases m with
    | nil => rfl
    | cons b m => simp [zipW, ih]
theorem rep_int {m : Bool} {i : Int} {k : Nat} (h : k < 100000) : opB .mul m (.lst [.int i]) (.int (k : Int)) st = mkL m ((List.replicate k i).map .int) st := by
  simp only [opB]
  simp only [bd_st, itemsL_lst, bdR_ok]
  rw [if_pos (by omega)]
  congr 1
  simp only [Int.toNat_natCast]
  induction k with
  | zero => rfl
  | succ k ih => simp [List.replicate_succ, ih (by omega)]
theorem add_ints {m : Bool} {k l : List Int} : opB .add m (lW k) (lW l) st = mkL m ((k ++ l).map .int) st := by
  rw [add_lst itemsL_lst itemsL_lst, List.map_append]
theorem sum_lst {l : List Int} : biW .sum [lW l] st = .ok (.int l.sum) st := sum_of items_lst
theorem sum_tup {l : List Int} : biW .sum [tW l] st = .ok (.int l.sum) st := sum_of items_tup
/-! sorted rows -/
theorem ins_sorted {x : Int} {l : List Int} (h : ∀ y ∈ l, x ≤ y) : insInt x l = x :: l := by
  cases l with
  | nil => rfl
  | cons y l =>
    unfold insInt
    rw [if_pos (h y List.mem_cons_self)]
theorem sort_self {l : List Int} (h : l.Pairwise (· ≤ ·)) : sortInts l = l := by
  induction l with
  | nil => rfl
  | cons x l ih =>
    rw [List.pairwise_cons] at h
    unfold sortInts
    rw [ih h.2, ins_sorted h.1]
theorem ins_mem {x y : Int} {l : List Int} : y ∈ insInt x l ↔ y = x ∨ y ∈ l := by
  induction l with
  | nil => simp [insInt]
  | cons z l ih =>
    unfold insInt
    split
    · simp
    · simp [ih]
      constructor <;> (rintro (h | h | h) <;> simp [h])
theorem ins_pair {x : Int} {l : List Int} (h : l.Pairwise (· ≤ ·)) : (insInt x l).Pairwise (· ≤ ·) := by
  induction l with
  | nil => simp [insInt]
  | cons z l ih =>
    rw [List.pairwise_cons] at h
    unfold insInt
    split
    · rename_i hz
      rw [List.pairwise_cons, List.pairwise_cons]
      refine ⟨fun y hy => ?_, h⟩
      rcases List.mem_cons.mp hy with rfl | hy
      · exact hz
      · have := h.1 y hy; omega
    · rename_i hz
      rw [List.pairwise_cons]
      refine ⟨fun y hy => ?_, ih h.2⟩
      rcases ins_mem.mp hy with rfl | hy
      · omega
      · exact h.1 y hy
theorem sort_pair {l : List Int} : (sortInts l).Pairwise (· ≤ ·) := by
  induction l with
  | nil => simp [sortInts]
  | cons x l ih => unfold sortInts; exact ins_pair ih
theorem sort_iff {l : List Int} : l = sortInts l ↔ l.Pairwise (· ≤ ·) := ⟨fun h => by rw [h]; exact sort_pair, fun h => (sort_self h).symm⟩
theorem sort_len {l : List Int} : (sortInts l).length = l.length := by
  have hi : ∀ (x : Int) (l : List Int), (insInt x l).length = l.length + 1 := by
    intro x l
    induction l with
    | nil => rfl
    | cons y l ih => unfold insInt; split <;> simp [ih]
  induction l with
  | nil => rfl
  | cons y l ih => unfold sortInts; rw [hi, ih]; rfl
theorem sorted_lst {l : List Int} (h : l.length ≤ 16777216) : biW (.sorted false) [lW l] st = .ok (lW (sortInts l)) st := by
  rw [sorted_of itemsN_lst, mkL_f (by rw [List.length_map, sort_len]; exact h)]
theorem eq_ints {k l : List Int} : opC .eq (lW k) (lW l) st = .ok (.bl (decide (k = l))) st := by
  rw [eq_dt (DtK.lst DtL.ints).dt (DtK.lst DtL.ints).dt]
  unfold PyData.eqv
  rw [eqv_ints]
theorem findSome_const {α β : Type} {p : α → Prop} [DecidablePred p] {c : β} {l : List α} : l.findSome? (fun a => if p a then some c else none) = if ∃ a ∈ l, p a then some c else none := by
  induction l with
  | nil => simp
  | cons a l ih =>
    rw [List.findSome?_cons, ih]
    by_cases h : p a
    · simp [h]
    · simp [h]
end
end Mi
set_option maxHeartbeats 4000000
namespace Mi
/-! ## sums -/
def S : Nat → (Nat → Int) → Int
  | 0, _ => 0
  | n + 1, f => S n f + f n
theorem S_congr {n : Nat} {f g : Nat → Int} (h : ∀ i, i < n → f i = g i) : S n f = S n g := by
  induction n with
  | zero => rfl
  | succ n ih => unfold S; rw [ih fun i hi => h i (by omega), h n (by omega)]
theorem S_mul {n : Nat} {f : Nat → Int} {c : Int} : S n f * c = S n fun i => f i * c := by
  induction n with
  | zero => simp [S]
  | succ n ih => unfold S; rw [Int.add_mul, ih]
theorem S_mul' {n : Nat} {f : Nat → Int} {c : Int} : c * S n f = S n fun i => c * f i := by
  rw [Int.mul_comm, S_mul]; exact S_congr fun i _ => Int.mul_comm _ _
theorem S_add {n : Nat} {f g : Nat → Int} : S n f + S n g = S n fun i => f i + g i := by
  induction n with
  | zero => rfl
  | succ n ih => unfold S; rw [← ih]; dsimp only; omega
theorem S_sub {n : Nat} {f g : Nat → Int} : S n f - S n g = S n fun i => f i - g i := by
  induction n with
  | zero => rfl
  | succ n ih => unfold S; rw [← ih]; dsimp only; omega
theorem S_le {n : Nat} {f g : Nat → Int} (h : ∀ i, i < n → f i ≤ g i) : S n f ≤ S n g := by
  induction n with
  | zero => exact Int.le_refl _
  | succ n ih => unfold S; have := ih fun i hi => h i (by omega); have := h n (by omega); omega
theorem S_zero {n : Nat} : S n (fun _ => 0) = 0 := by
  induction n with
  | zero => rfl
  | succ n ih => unfold S; rw [ih]; rfl
theorem S_nonneg {n : Nat} {f : Nat → Int} (h : ∀ i, i < n → 0 ≤ f i) : 0 ≤ S n f := by
  have := S_le (f := fun _ => 0) (g := f) h
  rw [S_zero] at this; exact this
theorem S_pos {n : Nat} {f : Nat → Int} (h : 0 < S n f) : ∃ i, i < n ∧ 0 < f i := by
  induction n with
  | zero => unfold S at h; omega
  | succ n ih =>
    unfold S at h
    by_cases e : 0 < f n
    · exact ⟨n, by omega, e⟩
    · obtain ⟨i, hi, hp⟩ := ih (by omega)
      exact ⟨i, by omega, hp⟩
theorem S_ge {n : Nat} {f : Nat → Int} (h : ∀ i, i < n → 0 ≤ f i) : ∀ i, i < n → f i ≤ S n f := by
  induction n with
  | zero => intro i hi; omega
  | succ n ih =>
    intro i hi
    unfold S
    have h0 : 0 ≤ S n f := S_nonneg fun j hj => h j (by omega)
    by_cases e : i = n
    · subst e; omega
    · have := ih (fun j hj => h j (by omega)) i (by omega)
      have := h n (by omega)
      omega
theorem S_two {n m : Nat} {f g : Nat → Int} : S n f * S m g = S n fun i => S m fun j => f i * g j := by
  rw [S_mul]; exact S_congr fun i _ => S_mul'
def sg (x : Int) : Int := (if decide (0 < x) = true then 1 else 0) - (if decide (x < 0) = true then 1 else 0)
theorem sg_le {x y : Int} : sg x ≤ sg y ↔ ¬ ((0 ≤ x ∧ y < 0) ∨ (0 < x ∧ y ≤ 0)) := by
  unfold sg
  by_cases h1 : 0 < x <;> by_cases h2 : x < 0 <;> by_cases h3 : 0 < y <;> by_cases h4 : y < 0 <;> simp [h1, h2, h3, h4] <;> omega
def pos (x : Int) : Int := if 0 < x then x else 0
def neg (x : Int) : Int := if x < 0 then -x else 0
theorem pos_neg (x : Int) : x = pos x - neg x := by unfold pos neg; split <;> split <;> omega
theorem pos_nn (x : Int) : 0 ≤ pos x := by unfold pos; split <;> omega
theorem neg_nn (x : Int) : 0 ≤ neg x := by unfold neg; split <;> omega
/-- values that cross have totals that cross -/
theorem cross_pres {n : Nat} {a b v : Nat → Int} (ha : ∀ i, i < n → 0 ≤ a i) (hb : ∀ i, i < n → 0 ≤ b i) (hO : ∀ i j, i < j → j < n → 0 ≤ a i * b j - a j * b i)
    (hv : ∀ i j, i < j → j < n → sg (v i) ≤ sg (v j)) (na : 0 < S n a) (nb : 0 < S n b) : sg (S n fun i => a i * v i) ≤ sg (S n fun i => b i * v i) := by
  have dec : ∀ r : Nat → Int, (S n fun i => r i * v i) = (S n fun i => r i * pos (v i)) - S n fun i => r i * neg (v i) := by
    intro r
    rw [S_sub]
    refine S_congr fun i _ => ?_
    rw [← Int.mul_sub, ← pos_neg]
  rw [dec a, dec b, sg_le]
  have key : (S n fun i => a i * pos (v i)) * (S n fun j => b j * neg (v j)) ≤ (S n fun i => b i * pos (v i)) * S n fun j => a j * neg (v j) := by
    rw [S_two, S_two]
    refine S_le fun i hi => S_le fun j hj => ?_
    have e1 : a i * pos (v i) * (b j * neg (v j)) = (a i * b j) * (pos (v i) * neg (v j)) := by simp only [Int.mul_assoc, Int.mul_left_comm, Int.mul_comm]
    have e2 : b i * pos (v i) * (a j * neg (v j)) = (a j * b i) * (pos (v i) * neg (v j)) := by simp only [Int.mul_assoc, Int.mul_left_comm, Int.mul_comm]
    rw [e1, e2]
    by_cases p : 0 < v i
    · by_cases q : v j < 0
      · have hji : j < i := by
          rcases Nat.lt_trichotomy j i with h | h | h
          · exact h
          · subst h; omega
          · have := hv i j h hj
            rw [sg_le] at this
            exact absurd (.inl ⟨by omega, q⟩) this
        have := hO j i hji hi
        exact Int.mul_le_mul_of_nonneg_right (by omega) (Int.mul_nonneg (pos_nn _) (neg_nn _))
      · have : neg (v j) = 0 := by unfold neg; rw [if_neg q]
        rw [this]; simp
    · have : pos (v i) = 0 := by unfold pos; rw [if_neg p]
      rw [this]; simp
  have a1 : 0 ≤ S n fun i => a i * pos (v i) := S_nonneg fun i hi => Int.mul_nonneg (ha i hi) (pos_nn _)
  have a2 : 0 ≤ S n fun i => a i * neg (v i) := S_nonneg fun i hi => Int.mul_nonneg (ha i hi) (neg_nn _)
  have b1 : 0 ≤ S n fun i => b i * pos (v i) := S_nonneg fun i hi => Int.mul_nonneg (hb i hi) (pos_nn _)
  have b2 : 0 ≤ S n fun i => b i * neg (v i) := S_nonneg fun i hi => Int.mul_nonneg (hb i hi) (neg_nn _)
  have anz : (S n fun i => a i * neg (v i)) = 0 → ∀ j, j < n → v j < 0 → a j = 0 := by
    intro h j hj q
    have := S_ge (f := fun i => a i * neg (v i)) (fun i hi => Int.mul_nonneg (ha i hi) (neg_nn _)) j hj
    simp only [h] at this
    have e : neg (v j) = - v j := by unfold neg; rw [if_pos q]
    rw [e] at this
    have h0 := ha j hj
    rcases Int.lt_or_eq_of_le h0 with h1 | h1
    · have := Int.mul_pos h1 (show 0 < - v j by omega)
      omega
    · exact h1.symm
  have bpz : (S n fun i => b i * pos (v i)) = 0 → ∀ j, j < n → 0 < v j → b j = 0 := by
    intro h j hj q
    have := S_ge (f := fun i => b i * pos (v i)) (fun i hi => Int.mul_nonneg (hb i hi) (pos_nn _)) j hj
    simp only [h] at this
    have e : pos (v j) = v j := by unfold pos; rw [if_pos q]
    rw [e] at this
    have h0 := hb j hj
    rcases Int.lt_or_eq_of_le h0 with h1 | h1
    · have := Int.mul_pos h1 q
      omega
    · exact h1.symm
  -- where a has no weight below 0 and none above, b has none below 0
  have c1 : (S n fun i => a i * pos (v i)) = 0 → (S n fun i => a i * neg (v i)) = 0 → (S n fun i => b i * neg (v i)) = 0 := by
    intro hp hq
    obtain ⟨j, hj, hpos⟩ := S_pos na
    have hvj : 0 ≤ v j := by
      rcases Int.lt_or_le (v j) 0 with h | h
      · have := anz hq j hj h; omega
      · exact h
    have : ∀ i, i < n → b i * neg (v i) = 0 := by
      intro i hi
      by_cases q : v i < 0
      · have hij : i < j := by
          rcases Nat.lt_trichotomy i j with h | h | h
          · exact h
          · subst h; omega
          · have := hv j i h hi
            rw [sg_le] at this
            exact absurd (.inl ⟨hvj, q⟩) this
        have := hO i j hij hj
        rw [anz hq i hi q] at this
        simp at this
        have h0 := hb i hi
        rcases Int.lt_or_eq_of_le h0 with h1 | h1
        · have := Int.mul_pos hpos h1; omega
        · rw [← h1]; simp
      · have : neg (v i) = 0 := by unfold neg; rw [if_neg q]
        rw [this]; simp
    rw [S_congr this, S_zero]
  have c2 : 0 < (S n fun i => a i * pos (v i)) → (S n fun i => b i * neg (v i)) = 0 → 0 < S n fun i => b i * pos (v i) := by
    intro hp hq
    rcases Int.lt_or_eq_of_le b1 with h | h
    · exact h
    · exfalso
      obtain ⟨t, ht, htp⟩ := S_pos hp
      have hvt : 0 < v t := by
        rcases Int.lt_or_le 0 (v t) with h2 | h2
        · exact h2
        · have : pos (v t) = 0 := by unfold pos; rw [if_neg (by omega)]
          rw [this] at htp; simp at htp
      have hat : 0 < a t := by
        rcases Int.lt_or_eq_of_le (ha t ht) with h2 | h2
        · exact h2
        · rw [← h2] at htp; simp at htp
      obtain ⟨j, hj, hjp⟩ := S_pos nb
      have hb0 : b t = 0 := bpz h.symm t ht hvt
      have hvj : v j ≤ 0 := by
        rcases Int.lt_or_le 0 (v j) with h2 | h2
        · have := bpz h.symm j hj h2; omega
        · exact h2
      have hjt : j < t := by
        rcases Nat.lt_trichotomy j t with h2 | h2 | h2
        · exact h2
        · subst h2; omega
        · have := hv t j h2 hj
          rw [sg_le] at this
          exact absurd (.inr ⟨hvt, hvj⟩) this
      have := hO j t hjt ht
      rw [hb0] at this
      have := Int.mul_pos hat hjp
      simp at *
      omega
  generalize (S n fun i => a i * pos (v i)) = Pa at *
  generalize (S n fun i => a i * neg (v i)) = Na at *
  generalize (S n fun i => b i * pos (v i)) = Pb at *
  generalize (S n fun i => b i * neg (v i)) = Nb at *
  rintro (⟨h1, h2⟩ | ⟨h1, h2⟩)
  · rcases Int.lt_or_eq_of_le a2 with h | h
    · have e1 : Na * Nb ≤ Pa * Nb := Int.mul_le_mul_of_nonneg_right (by omega) b2
      have e2 : Na * Nb ≤ Na * Pb := by rw [Int.mul_comm Na Pb]; omega
      have := Int.le_of_mul_le_mul_left e2 h
      omega
    · rcases Int.lt_or_eq_of_le a1 with h3 | h3
      · rw [← h] at key
        rcases Int.lt_or_eq_of_le b2 with h4 | h4
        · have := Int.mul_pos h3 h4
          simp at key; omega
        · omega
      · have := c1 h3.symm h.symm
        omega
  · have hpa : 0 < Pa := by omega
    rcases Int.lt_or_eq_of_le b2 with h4 | h4
    · rcases Int.lt_or_eq_of_le a2 with h | h
      · have e1 : Na * Nb < Pa * Nb := Int.mul_lt_mul_of_pos_right (by omega) h4
        have e2 : Na * Nb < Na * Pb := by rw [Int.mul_comm Na Pb]; omega
        have := Int.lt_of_mul_lt_mul_left e2 a2
        omega
      · rw [← h] at key
        have := Int.mul_pos hpa h4
        simp at key; omega
    · have := c2 hpa h4.symm
      omega
theorem sum_S : ∀ {r : List Int}, r.sum = S r.length fun i => r[i]!
  | [] => rfl
  | x :: r => by
    have key : ∀ (n : Nat) (f : Nat → Int), S (n + 1) f = f 0 + S n fun i => f (i + 1) := by
      intro n f
      induction n with
      | zero => unfold S; unfold S; omega
      | succ n ih => rw [S, ih]; conv => rhs; rw [S]
                     omega
    rw [List.sum_cons, sum_S (r := r), List.length_cons, key]
    simp
def dot (r v : List Int) : Int := ((r.zip v).map fun p => p.1 * p.2).sum
theorem dot_S {r v : List Int} (h : r.length = v.length) : dot r v = S r.length fun i => r[i]! * v[i]! := by
  unfold dot
  rw [sum_S]
  have hl : ((r.zip v).map fun p => p.1 * p.2).length = r.length := by simp; omega
  rw [hl]
  refine S_congr fun i hi => ?_
  have hi2 : i < v.length := by omega
  have hz : (r.zip v)[i]? = some (r[i], v[i]) := by rw [List.getElem?_zip_eq_some]; simp [hi, hi2]
  simp [hi, hi2, hz]
def both (r q : List Int) : List Int := (r.zip q).map fun p => p.1 + p.2
theorem both_get {r q : List Int} {i : Nat} (h1 : i < r.length) (h2 : i < q.length) : (both r q)[i]! = r[i]! + q[i]! := by
  unfold both
  have hz : (r.zip q)[i]? = some (r[i], q[i]) := by rw [List.getElem?_zip_eq_some]; simp [h1, h2]
  simp [h1, h2, hz]
theorem both_len {r q : List Int} (h : r.length = q.length) : (both r q).length = r.length := by unfold both; simp; omega
theorem both_sum {r q : List Int} (h : r.length = q.length) : (both r q).sum = r.sum + q.sum := by
  rw [sum_S, both_len h, sum_S (r := r), sum_S (r := q), ← h, S_add]
  exact S_congr fun i hi => both_get hi (by omega)
/-- signs that never go down -/
def crossR (l : List Int) : Prop := (l.map sg).Pairwise (· ≤ ·)
instance (l : List Int) : Decidable (crossR l) := by unfold crossR; infer_instance
theorem crossR_iff {l : List Int} : crossR l ↔ ∀ i j, i < j → j < l.length → sg l[i]! ≤ sg l[j]! := by
  unfold crossR
  rw [List.pairwise_iff_getElem]
  constructor
  · intro h i j hij hj
    have := h i j (by simp; omega) (by simpa using hj) hij
    have hi : i < l.length := by omega
    simpa [hi, hj] using this
  · intro h i j hi hj hij
    simp at hi hj
    have := h i j hij hj
    simpa [hi, hj] using this
/-- totals of values that cross, behind ordered rows -/
theorem totals_cross {rows : List (List Int)} {v : List Int} {n : Nat} (hl : ∀ r ∈ rows, r.length = n) (hv : v.length = n) (nn : ∀ r ∈ rows, ∀ x ∈ r, 0 ≤ x) (nz : ∀ r ∈ rows, r.sum ≠ 0)
    (hO : ∀ f s a b, f < s → s < rows.length → a < b → b < n → 0 ≤ rows[f]![a]! * rows[s]![b]! - rows[f]![b]! * rows[s]![a]!) (hc : crossR v) : crossR (rows.map fun r => dot r v) := by
  rw [crossR_iff]
  intro f s hfs hs
  rw [List.length_map] at hs
  have hf : f < rows.length := by omega
  have mf : rows[f]! ∈ rows := by simp [hf]
  have ms : rows[s]! ∈ rows := by simp [hs]
  have e1 : (rows.map fun r => dot r v)[f]! = dot rows[f]! v := by simp [hf]
  have e2 : (rows.map fun r => dot r v)[s]! = dot rows[s]! v := by simp [hs]
  have o := hO f s
  rw [e1, e2]
  have lf := hl _ mf
  have ls := hl _ ms
  have n1 := nn _ mf
  have n2 := nn _ ms
  have z1 := nz _ mf
  have z2 := nz _ ms
  generalize rows[f]! = a at *
  generalize rows[s]! = b at *
  have g : ∀ {r : List Int}, r.length = n → (∀ x ∈ r, 0 ≤ x) → ∀ i, i < n → 0 ≤ r[i]! := by
    intro r h1 h2 i hi
    have : i < r.length := by omega
    exact h2 _ (by simp [this])
  have p : ∀ {r : List Int}, r.length = n → (∀ x ∈ r, 0 ≤ x) → r.sum ≠ 0 → 0 < S n fun i => r[i]! := by
    intro r h1 h2 h3
    rw [sum_S, h1] at h3
    have := S_nonneg (f := fun i => r[i]!) (g h1 h2)
    omega
  rw [dot_S (by omega), dot_S (by omega), lf, ls]
  refine cross_pres (a := fun i => a[i]!) (b := fun i => b[i]!) (v := fun i => v[i]!) (g lf n1) (g ls n2) (fun i j hij hj => o i j hfs hs hij hj) ?_ (p lf n1 z1) (p ls n2 z2)
  intro i j hij hj
  exact crossR_iff.mp hc i j hij (by omega)
end Mi
set_option maxHeartbeats 4000000
namespace Mi.K46
open PySem Mi
def sgW (rows : List (List Int)) (lev : Nat) : W := .ins 0 [.tup (rows.map tW), .int rows.length, .int lev]
/-- rows of weights: their number, that of the states, none below 0 -/
structure Wt (rows : List (List Int)) (lev : Nat) : Prop where
  n1 : 1 ≤ rows.length
  n2 : rows.length ≤ 5
  l1 : 1 ≤ lev
  l2 : lev ≤ 5
  len : ∀ r ∈ rows, r.length = lev
  nn : ∀ r ∈ rows, ∀ x ∈ r, 0 ≤ x
  bd : ∀ r ∈ rows, ∀ x ∈ r, x < 2 ^ 60
theorem Wt.mem {rows : List (List Int)} {lev i : Nat} (h : Wt rows lev) (hi : i < rows.length) : rows[i]! ∈ rows := by simp [hi]
theorem Wt.get {rows : List (List Int)} {lev i : Nat} (h : Wt rows lev) (hi : i < rows.length) : rows[i]!.length = lev := h.len _ (h.mem hi)
theorem Wt.wt {rows : List (List Int)} {lev i j : Nat} (h : Wt rows lev) (hi : i < rows.length) (hj : j < lev) : 0 ≤ rows[i]![j]! ∧ rows[i]![j]! < 2 ^ 60 := by
  have hl := h.get hi
  have hm : rows[i]![j]! ∈ rows[i]! := by
    generalize rows[i]! = r at *
    have : j < r.length := by omega
    simp [this]
  exact ⟨h.nn _ (h.mem hi) _ hm, h.bd _ (h.mem hi) _ hm⟩
/-- a row without weight -/
def nought (rows : List (List Int)) : Prop := ∃ r ∈ rows, r.sum = 0
instance (rows : List (List Int)) : Decidable (nought rows) := by unfold nought; infer_instance
theorem check_ok (n : Nat) (rows : List (List Int)) (lev : Nat) (st : Store) (h : Wt rows lev) : run T (n + 1) 0 [.lst (rows.map tW)] st = rex (if nought rows then some (0, [.int 0]) else none) .non st := by
  rw [run_eq (d := f0) rfl rfl]
  have hz : rows[0]!.length = lev := h.get h.n1
  have hn1 := h.n1
  have a1 : (1 : Int) ≤ (rows.length : Int) := by have := h.n1; omega
  have a2 : (rows.length : Int) ≤ 5 := by have := h.n2; omega
  have a3 : (1 : Int) ≤ (lev : Int) := by have := h.l1; omega
  have a4 : (lev : Int) ≤ 5 := by have := h.l2; omega
  obtain ⟨env', ⟨x, y, rfl⟩, h2⟩ := loop_map (st := st) (one := oneS T (run T n) none (.nm 1) b0_1) (src := []) tW (fun env => ∃ x y, env = [some (.lst (rows.map tW)), x, y])
      (fun r => xFo (if r.sum = 0 then some (0, [.int 0]) else none)) still_nil rows (by
        rintro r hr _ ⟨x, y, rfl⟩
        obtain ⟨env', ⟨y', rfl⟩, h3⟩ := loop_map (st := st) (one := oneS T (run T n) none (.nm 2) b0_0) (src := []) W.int (fun env => ∃ y, env = [some (.lst (rows.map tW)), some (tW r), y])
          (fun _ => none) still_nil r (by
            rintro v hv _ ⟨y, rfl⟩
            have hv0 : ¬ v < 0 := by have := h.nn r hr v hv; omega
            exact ⟨_, ⟨some (.int v), rfl⟩, by simp (disch := first | assumption | (simp; done) | omega | (simp; omega) | decide) only [bd_st, bdR_ok, bdR_ex, bdR_no, pu_st, no_st, bo_ok, bo_ex, bo_no, thn_nx, thn_rt, thn_ex, thn_no, res_nx, res_rt, res_ex, res_no, nxs_st, rts_st, bos_st, iteS_t, iteS_f, exSs_nil, exSs_cons, exS_ex, exS_asg, exS_par, exS_ret, exS_ret0, exS_pas, exS_ite, exS_loop, exS_tri, exS_rai, exS_sat, exS_six, triS_nx, triS_rt, triS_ex, ev_v, ev_cst, ev_gi, ev_bin, ev_neg, negK_int, ev_cmp, ev_chn, chnK_t, chnK_f, ev_isN, ev_ntN, noneB, ev_and, ev_or, andK_t, andK_f, orK_t, orK_f, notK_bl, ev_not, ev_ite, ev_tup, ev_lst, ev_idx, ev_slc, ev_att, ev_call, ev_mth, ev_new, ev_bi, ev_bm, ev_lc, ev_frz, ev_tupS, ev_lstS, evz_nil, evz_f, evz_t, evT_yes, evT_e, andT_t, andT_f, orT_t, orT_f, evT_and, evT_or, evT_not, evO_om, evO_e, intO_int, evs_nil, evs_cons, evI_sq, evI_en, evI_zp, evI_r1, evI_r2, asgn_nm, asgn_tp, asgns_nil, asgns_cons, oneS_st, lcOne_st, add_int, sub_int, items_lst, items_fro, items_tup, itemsN_lst, itemsN_fro, itemsL_lst, lt_int, le_int, gt_int, ge_int, eq_int, ne_int, tru_b, tru_non, tru_lst, tru_tup, int_int, isBool_bl, nox_k, Cn.w, srcOf_lst, srcOf_tup, srcOf_fro, srcOf_ref, still_nil, List.getElem?_cons_zero, List.getElem?_cons_succ, List.set_cons_zero, List.set_cons_succ, startE, List.map_cons, List.map_nil, List.length_cons, List.length_nil, List.length_map, List.length_range, List.cons_append, List.nil_append, List.replicate_succ, List.replicate_zero, wipeE, unE, Nat.reduceAdd, Nat.reduceSub, decide_true, decide_false, Bool.not_true, Bool.not_false, mul_int, mod_int, fdiv_int, pow_int, mkL_f, mkL_t, len_lst, len_tup, len_fro, tuple_lst, tuple_tup, tuple_fro, list_lst, list_tup, list_fro, int_bl, min_two, max_two, tupK_ok, b0_0, hv0, fin]⟩) _ ⟨y, rfl⟩
        have hn : r.findSome? (fun _ => (none : Fo)) = none := by simp
        rw [hn] at h3
        have e1 : (r.length : Int) = (lev : Int) := by have := h.len r hr; omega
        by_cases e : r.sum = 0
        · exact ⟨_, ⟨some (tW r), y', rfl⟩, by simp (disch := first | assumption | (simp; done) | omega | (simp; omega) | decide) only [bd_st, bdR_ok, bdR_ex, bdR_no, pu_st, no_st, bo_ok, bo_ex, bo_no, thn_nx, thn_rt, thn_ex, thn_no, res_nx, res_rt, res_ex, res_no, nxs_st, rts_st, bos_st, iteS_t, iteS_f, exSs_nil, exSs_cons, exS_ex, exS_asg, exS_par, exS_ret, exS_ret0, exS_pas, exS_ite, exS_loop, exS_tri, exS_rai, exS_sat, exS_six, triS_nx, triS_rt, triS_ex, ev_v, ev_cst, ev_gi, ev_bin, ev_neg, negK_int, ev_cmp, ev_chn, chnK_t, chnK_f, ev_isN, ev_ntN, noneB, ev_and, ev_or, andK_t, andK_f, orK_t, orK_f, notK_bl, ev_not, ev_ite, ev_tup, ev_lst, ev_idx, ev_slc, ev_att, ev_call, ev_mth, ev_new, ev_bi, ev_bm, ev_lc, ev_frz, ev_tupS, ev_lstS, evz_nil, evz_f, evz_t, evT_yes, evT_e, andT_t, andT_f, orT_t, orT_f, evT_and, evT_or, evT_not, evO_om, evO_e, intO_int, evs_nil, evs_cons, evI_sq, evI_en, evI_zp, evI_r1, evI_r2, asgn_nm, asgn_tp, asgns_nil, asgns_cons, oneS_st, lcOne_st, add_int, sub_int, items_lst, items_fro, items_tup, itemsN_lst, itemsN_fro, itemsL_lst, lt_int, le_int, gt_int, ge_int, eq_int, ne_int, tru_b, tru_non, tru_lst, tru_tup, int_int, isBool_bl, nox_k, Cn.w, srcOf_lst, srcOf_tup, srcOf_fro, srcOf_ref, still_nil, List.getElem?_cons_zero, List.getElem?_cons_succ, List.set_cons_zero, List.set_cons_succ, startE, List.map_cons, List.map_nil, List.length_cons, List.length_nil, List.length_map, List.length_range, List.cons_append, List.nil_append, List.replicate_succ, List.replicate_zero, wipeE, unE, Nat.reduceAdd, Nat.reduceSub, decide_true, decide_false, Bool.not_true, Bool.not_false, mul_int, mod_int, fdiv_int, pow_int, mkL_f, mkL_t, len_lst, len_tup, len_fro, tuple_lst, tuple_tup, tuple_fro, list_lst, list_tup, list_fro, int_bl, min_two, max_two, tupK_ok, b0_1, idx_lst0, hz, e1, loopS_st, h3, fin_none, sum_tup, e, rai_n (T := T) (c := 0) rfl, if_true, xFo, fin]⟩
        · exact ⟨_, ⟨some (tW r), y', rfl⟩, by simp (disch := first | assumption | (simp; done) | omega | (simp; omega) | decide) only [bd_st, bdR_ok, bdR_ex, bdR_no, pu_st, no_st, bo_ok, bo_ex, bo_no, thn_nx, thn_rt, thn_ex, thn_no, res_nx, res_rt, res_ex, res_no, nxs_st, rts_st, bos_st, iteS_t, iteS_f, exSs_nil, exSs_cons, exS_ex, exS_asg, exS_par, exS_ret, exS_ret0, exS_pas, exS_ite, exS_loop, exS_tri, exS_rai, exS_sat, exS_six, triS_nx, triS_rt, triS_ex, ev_v, ev_cst, ev_gi, ev_bin, ev_neg, negK_int, ev_cmp, ev_chn, chnK_t, chnK_f, ev_isN, ev_ntN, noneB, ev_and, ev_or, andK_t, andK_f, orK_t, orK_f, notK_bl, ev_not, ev_ite, ev_tup, ev_lst, ev_idx, ev_slc, ev_att, ev_call, ev_mth, ev_new, ev_bi, ev_bm, ev_lc, ev_frz, ev_tupS, ev_lstS, evz_nil, evz_f, evz_t, evT_yes, evT_e, andT_t, andT_f, orT_t, orT_f, evT_and, evT_or, evT_not, evO_om, evO_e, intO_int, evs_nil, evs_cons, evI_sq, evI_en, evI_zp, evI_r1, evI_r2, asgn_nm, asgn_tp, asgns_nil, asgns_cons, oneS_st, lcOne_st, add_int, sub_int, items_lst, items_fro, items_tup, itemsN_lst, itemsN_fro, itemsL_lst, lt_int, le_int, gt_int, ge_int, eq_int, ne_int, tru_b, tru_non, tru_lst, tru_tup, int_int, isBool_bl, nox_k, Cn.w, srcOf_lst, srcOf_tup, srcOf_fro, srcOf_ref, still_nil, List.getElem?_cons_zero, List.getElem?_cons_succ, List.set_cons_zero, List.set_cons_succ, startE, List.map_cons, List.map_nil, List.length_cons, List.length_nil, List.length_map, List.length_range, List.cons_append, List.nil_append, List.replicate_succ, List.replicate_zero, wipeE, unE, Nat.reduceAdd, Nat.reduceSub, decide_true, decide_false, Bool.not_true, Bool.not_false, mul_int, mod_int, fdiv_int, pow_int, mkL_f, mkL_t, len_lst, len_tup, len_fro, tuple_lst, tuple_tup, tuple_fro, list_lst, list_tup, list_fro, int_bl, min_two, max_two, tupK_ok, b0_1, idx_lst0, hz, e1, loopS_st, h3, fin_none, sum_tup, e, if_false, xFo, fin]⟩) _ ⟨none, none, rfl⟩
  rw [findSome_xFo, findSome_const (p := fun (r : List Int) => r.sum = 0)] at h2
  simp (disch := first | assumption | (simp; done) | omega | (simp; omega) | decide) only [bd_st, bdR_ok, bdR_ex, bdR_no, pu_st, no_st, bo_ok, bo_ex, bo_no, thn_nx, thn_rt, thn_ex, thn_no, res_nx, res_rt, res_ex, res_no, nxs_st, rts_st, bos_st, iteS_t, iteS_f, exSs_nil, exSs_cons, exS_ex, exS_asg, exS_par, exS_ret, exS_ret0, exS_pas, exS_ite, exS_loop, exS_tri, exS_rai, exS_sat, exS_six, triS_nx, triS_rt, triS_ex, ev_v, ev_cst, ev_gi, ev_bin, ev_neg, negK_int, ev_cmp, ev_chn, chnK_t, chnK_f, ev_isN, ev_ntN, noneB, ev_and, ev_or, andK_t, andK_f, orK_t, orK_f, notK_bl, ev_not, ev_ite, ev_tup, ev_lst, ev_idx, ev_slc, ev_att, ev_call, ev_mth, ev_new, ev_bi, ev_bm, ev_lc, ev_frz, ev_tupS, ev_lstS, evz_nil, evz_f, evz_t, evT_yes, evT_e, andT_t, andT_f, orT_t, orT_f, evT_and, evT_or, evT_not, evO_om, evO_e, intO_int, evs_nil, evs_cons, evI_sq, evI_en, evI_zp, evI_r1, evI_r2, asgn_nm, asgn_tp, asgns_nil, asgns_cons, oneS_st, lcOne_st, add_int, sub_int, items_lst, items_fro, items_tup, itemsN_lst, itemsN_fro, itemsL_lst, lt_int, le_int, gt_int, ge_int, eq_int, ne_int, tru_b, tru_non, tru_lst, tru_tup, int_int, isBool_bl, nox_k, Cn.w, srcOf_lst, srcOf_tup, srcOf_fro, srcOf_ref, still_nil, List.getElem?_cons_zero, List.getElem?_cons_succ, List.set_cons_zero, List.set_cons_succ, startE, List.map_cons, List.map_nil, List.length_cons, List.length_nil, List.length_map, List.length_range, List.cons_append, List.nil_append, List.replicate_succ, List.replicate_zero, wipeE, unE, Nat.reduceAdd, Nat.reduceSub, decide_true, decide_false, Bool.not_true, Bool.not_false, mul_int, mod_int, fdiv_int, pow_int, mkL_f, mkL_t, len_lst, len_tup, len_fro, tuple_lst, tuple_tup, tuple_fro, list_lst, list_tup, list_fro, int_bl, min_two, max_two, tupK_ok, f0, b0, idx_lst0, hz, a1, a2, a3, a4, loopS_st, h2]
  by_cases e : nought rows
  · have e' : ∃ a, a ∈ rows ∧ a.sum = 0 := e
    rw [if_pos e, if_pos e']
    simp (disch := first | assumption | (simp; done) | omega | (simp; omega) | decide) only [bd_st, bdR_ok, bdR_ex, bdR_no, pu_st, no_st, bo_ok, bo_ex, bo_no, thn_nx, thn_rt, thn_ex, thn_no, res_nx, res_rt, res_ex, res_no, nxs_st, rts_st, bos_st, iteS_t, iteS_f, exSs_nil, exSs_cons, exS_ex, exS_asg, exS_par, exS_ret, exS_ret0, exS_pas, exS_ite, exS_loop, exS_tri, exS_rai, exS_sat, exS_six, triS_nx, triS_rt, triS_ex, ev_v, ev_cst, ev_gi, ev_bin, ev_neg, negK_int, ev_cmp, ev_chn, chnK_t, chnK_f, ev_isN, ev_ntN, noneB, ev_and, ev_or, andK_t, andK_f, orK_t, orK_f, notK_bl, ev_not, ev_ite, ev_tup, ev_lst, ev_idx, ev_slc, ev_att, ev_call, ev_mth, ev_new, ev_bi, ev_bm, ev_lc, ev_frz, ev_tupS, ev_lstS, evz_nil, evz_f, evz_t, evT_yes, evT_e, andT_t, andT_f, orT_t, orT_f, evT_and, evT_or, evT_not, evO_om, evO_e, intO_int, evs_nil, evs_cons, evI_sq, evI_en, evI_zp, evI_r1, evI_r2, asgn_nm, asgn_tp, asgns_nil, asgns_cons, oneS_st, lcOne_st, add_int, sub_int, items_lst, items_fro, items_tup, itemsN_lst, itemsN_fro, itemsL_lst, lt_int, le_int, gt_int, ge_int, eq_int, ne_int, tru_b, tru_non, tru_lst, tru_tup, int_int, isBool_bl, nox_k, Cn.w, srcOf_lst, srcOf_tup, srcOf_fro, srcOf_ref, still_nil, List.getElem?_cons_zero, List.getElem?_cons_succ, List.set_cons_zero, List.set_cons_succ, startE, List.map_cons, List.map_nil, List.length_cons, List.length_nil, List.length_map, List.length_range, List.cons_append, List.nil_append, List.replicate_succ, List.replicate_zero, wipeE, unE, Nat.reduceAdd, Nat.reduceSub, decide_true, decide_false, Bool.not_true, Bool.not_false, mul_int, mod_int, fdiv_int, pow_int, mkL_f, mkL_t, len_lst, len_tup, len_fro, tuple_lst, tuple_tup, tuple_fro, list_lst, list_tup, list_fro, int_bl, min_two, max_two, tupK_ok, xFo, fin, rex, cut_ex_self]
  · have e' : ¬ ∃ a, a ∈ rows ∧ a.sum = 0 := e
    rw [if_neg e, if_neg e']
    simp (disch := first | assumption | (simp; done) | omega | (simp; omega) | decide) only [bd_st, bdR_ok, bdR_ex, bdR_no, pu_st, no_st, bo_ok, bo_ex, bo_no, thn_nx, thn_rt, thn_ex, thn_no, res_nx, res_rt, res_ex, res_no, nxs_st, rts_st, bos_st, iteS_t, iteS_f, exSs_nil, exSs_cons, exS_ex, exS_asg, exS_par, exS_ret, exS_ret0, exS_pas, exS_ite, exS_loop, exS_tri, exS_rai, exS_sat, exS_six, triS_nx, triS_rt, triS_ex, ev_v, ev_cst, ev_gi, ev_bin, ev_neg, negK_int, ev_cmp, ev_chn, chnK_t, chnK_f, ev_isN, ev_ntN, noneB, ev_and, ev_or, andK_t, andK_f, orK_t, orK_f, notK_bl, ev_not, ev_ite, ev_tup, ev_lst, ev_idx, ev_slc, ev_att, ev_call, ev_mth, ev_new, ev_bi, ev_bm, ev_lc, ev_frz, ev_tupS, ev_lstS, evz_nil, evz_f, evz_t, evT_yes, evT_e, andT_t, andT_f, orT_t, orT_f, evT_and, evT_or, evT_not, evO_om, evO_e, intO_int, evs_nil, evs_cons, evI_sq, evI_en, evI_zp, evI_r1, evI_r2, asgn_nm, asgn_tp, asgns_nil, asgns_cons, oneS_st, lcOne_st, add_int, sub_int, items_lst, items_fro, items_tup, itemsN_lst, itemsN_fro, itemsL_lst, lt_int, le_int, gt_int, ge_int, eq_int, ne_int, tru_b, tru_non, tru_lst, tru_tup, int_int, isBool_bl, nox_k, Cn.w, srcOf_lst, srcOf_tup, srcOf_fro, srcOf_ref, still_nil, List.getElem?_cons_zero, List.getElem?_cons_succ, List.set_cons_zero, List.set_cons_succ, startE, List.map_cons, List.map_nil, List.length_cons, List.length_nil, List.length_map, List.length_range, List.cons_append, List.nil_append, List.replicate_succ, List.replicate_zero, wipeE, unE, Nat.reduceAdd, Nat.reduceSub, decide_true, decide_false, Bool.not_true, Bool.not_false, mul_int, mod_int, fdiv_int, pow_int, mkL_f, mkL_t, len_lst, len_tup, len_fro, tuple_lst, tuple_tup, tuple_fro, list_lst, list_tup, list_fro, int_bl, min_two, max_two, tupK_ok, xFo, fin, rex, cut_self]
theorem init_ok (n : Nat) (w : W) (rows : List (List Int)) (lev : Nat) (st : Store) (hw : Rws st w rows) (h : Wt rows lev) :
    run T (n + 2) 1 [.ref st.length, w] (st ++ [some (.ins 0 [])]) = (if nought rows then .ex 0 [.int 0] (st ++ [some (.ins 0 [])]) else
      .ok .non (st ++ [some (.ins 0 [("lines", .tup (rows.map tW)), ("count", .int rows.length), ("states", .int lev)])])) := by
  rw [run_eq (d := f1) rfl rfl]
  obtain ⟨v, h1, h2⟩ := hw
  have hz : rows[0]!.length = lev := h.get h.n1
  have hn1 := h.n1
  have hn2 := h.n2
  have c1 : ∀ env : Ev, env = [some (.ref st.length), some w, none, none] → lcW false (lcOne T (run T (n + 1)) none [3] x1_0 (.nm 3) .yes env) ⟨(List.range rows.length).map v, srcOf w ((List.range rows.length).map v)⟩ (st ++ [some (.ins 0 [])]) = .ok (.lst (rows.map tW)) (st ++ [some (.ins 0 [])]) := by
    rintro _ rfl
    rw [← map_range (f := tW)]
    refine lc_map _ (h1.app.still) (by simp; omega) ?_ ?_
    · intro i hi acc
      have h3 := ((h2 i (by simpa using hi)).app (e := [some (.ins 0 [])])).app (e := [some (MO.lst acc)])
      simp (disch := first | assumption | (simp; done) | omega | (simp; omega) | decide) only [bd_st, bdR_ok, bdR_ex, bdR_no, pu_st, no_st, bo_ok, bo_ex, bo_no, thn_nx, thn_rt, thn_ex, thn_no, res_nx, res_rt, res_ex, res_no, nxs_st, rts_st, bos_st, iteS_t, iteS_f, exSs_nil, exSs_cons, exS_ex, exS_asg, exS_par, exS_ret, exS_ret0, exS_pas, exS_ite, exS_loop, exS_tri, exS_rai, exS_sat, exS_six, triS_nx, triS_rt, triS_ex, ev_v, ev_cst, ev_gi, ev_bin, ev_neg, negK_int, ev_cmp, ev_chn, chnK_t, chnK_f, ev_isN, ev_ntN, noneB, ev_and, ev_or, andK_t, andK_f, orK_t, orK_f, notK_bl, ev_not, ev_ite, ev_tup, ev_lst, ev_idx, ev_slc, ev_att, ev_call, ev_mth, ev_new, ev_bi, ev_bm, ev_lc, ev_frz, ev_tupS, ev_lstS, evz_nil, evz_f, evz_t, evT_yes, evT_e, andT_t, andT_f, orT_t, orT_f, evT_and, evT_or, evT_not, evO_om, evO_e, intO_int, evs_nil, evs_cons, evI_sq, evI_en, evI_zp, evI_r1, evI_r2, asgn_nm, asgn_tp, asgns_nil, asgns_cons, oneS_st, lcOne_st, add_int, sub_int, items_lst, items_fro, items_tup, itemsN_lst, itemsN_fro, itemsL_lst, lt_int, le_int, gt_int, ge_int, eq_int, ne_int, tru_b, tru_non, tru_lst, tru_tup, int_int, isBool_bl, nox_k, Cn.w, srcOf_lst, srcOf_tup, srcOf_fro, srcOf_ref, still_nil, List.getElem?_cons_zero, List.getElem?_cons_succ, List.set_cons_zero, List.set_cons_succ, startE, List.map_cons, List.map_nil, List.length_cons, List.length_nil, List.length_map, List.length_range, List.cons_append, List.nil_append, List.replicate_succ, List.replicate_zero, wipeE, unE, Nat.reduceAdd, Nat.reduceSub, decide_true, decide_false, Bool.not_true, Bool.not_false, mul_int, mod_int, fdiv_int, pow_int, mkL_f, mkL_t, len_lst, len_tup, len_fro, tuple_lst, tuple_tup, tuple_fro, list_lst, list_tup, list_fro, int_bl, min_two, max_two, tupK_ok, x1_0, tuple_of h3.items]
    · intro i hi
      simp [W.clo, W.clos_iff]
  have hc := check_ok n rows lev (st ++ [some (.ins 0 [])]) h
  by_cases e : nought rows
  · rw [if_pos e] at hc ⊢
    simp only [rex] at hc
    simp (disch := first | assumption | (simp; done) | omega | (simp; omega) | decide) only [bd_st, bdR_ok, bdR_ex, bdR_no, pu_st, no_st, bo_ok, bo_ex, bo_no, thn_nx, thn_rt, thn_ex, thn_no, res_nx, res_rt, res_ex, res_no, nxs_st, rts_st, bos_st, iteS_t, iteS_f, exSs_nil, exSs_cons, exS_ex, exS_asg, exS_par, exS_ret, exS_ret0, exS_pas, exS_ite, exS_loop, exS_tri, exS_rai, exS_sat, exS_six, triS_nx, triS_rt, triS_ex, ev_v, ev_cst, ev_gi, ev_bin, ev_neg, negK_int, ev_cmp, ev_chn, chnK_t, chnK_f, ev_isN, ev_ntN, noneB, ev_and, ev_or, andK_t, andK_f, orK_t, orK_f, notK_bl, ev_not, ev_ite, ev_tup, ev_lst, ev_idx, ev_slc, ev_att, ev_call, ev_mth, ev_new, ev_bi, ev_bm, ev_lc, ev_frz, ev_tupS, ev_lstS, evz_nil, evz_f, evz_t, evT_yes, evT_e, andT_t, andT_f, orT_t, orT_f, evT_and, evT_or, evT_not, evO_om, evO_e, intO_int, evs_nil, evs_cons, evI_sq, evI_en, evI_zp, evI_r1, evI_r2, asgn_nm, asgn_tp, asgns_nil, asgns_cons, oneS_st, lcOne_st, add_int, sub_int, items_lst, items_fro, items_tup, itemsN_lst, itemsN_fro, itemsL_lst, lt_int, le_int, gt_int, ge_int, eq_int, ne_int, tru_b, tru_non, tru_lst, tru_tup, int_int, isBool_bl, nox_k, Cn.w, srcOf_lst, srcOf_tup, srcOf_fro, srcOf_ref, still_nil, List.getElem?_cons_zero, List.getElem?_cons_succ, List.set_cons_zero, List.set_cons_succ, startE, List.map_cons, List.map_nil, List.length_cons, List.length_nil, List.length_map, List.length_range, List.cons_append, List.nil_append, List.replicate_succ, List.replicate_zero, wipeE, unE, Nat.reduceAdd, Nat.reduceSub, decide_true, decide_false, Bool.not_true, Bool.not_false, mul_int, mod_int, fdiv_int, pow_int, mkL_f, mkL_t, len_lst, len_tup, len_fro, tuple_lst, tuple_tup, tuple_fro, list_lst, list_tup, list_fro, int_bl, min_two, max_two, tupK_ok, f1, b1, h1.app.items, c1 _ rfl, hc, cut_ex_self]
  · rw [if_neg e] at hc ⊢
    simp only [rex] at hc
    simp (disch := first | assumption | (simp; done) | omega | (simp; omega) | decide | exact of_decide_eq_true rfl) only [bd_st, bdR_ok, bdR_ex, bdR_no, pu_st, no_st, bo_ok, bo_ex, bo_no, thn_nx, thn_rt, thn_ex, thn_no, res_nx, res_rt, res_ex, res_no, nxs_st, rts_st, bos_st, iteS_t, iteS_f, exSs_nil, exSs_cons, exS_ex, exS_asg, exS_par, exS_ret, exS_ret0, exS_pas, exS_ite, exS_loop, exS_tri, exS_rai, exS_sat, exS_six, triS_nx, triS_rt, triS_ex, ev_v, ev_cst, ev_gi, ev_bin, ev_neg, negK_int, ev_cmp, ev_chn, chnK_t, chnK_f, ev_isN, ev_ntN, noneB, ev_and, ev_or, andK_t, andK_f, orK_t, orK_f, notK_bl, ev_not, ev_ite, ev_tup, ev_lst, ev_idx, ev_slc, ev_att, ev_call, ev_mth, ev_new, ev_bi, ev_bm, ev_lc, ev_frz, ev_tupS, ev_lstS, evz_nil, evz_f, evz_t, evT_yes, evT_e, andT_t, andT_f, orT_t, orT_f, evT_and, evT_or, evT_not, evO_om, evO_e, intO_int, evs_nil, evs_cons, evI_sq, evI_en, evI_zp, evI_r1, evI_r2, asgn_nm, asgn_tp, asgns_nil, asgns_cons, oneS_st, lcOne_st, add_int, sub_int, items_lst, items_fro, items_tup, itemsN_lst, itemsN_fro, itemsL_lst, lt_int, le_int, gt_int, ge_int, eq_int, ne_int, tru_b, tru_non, tru_lst, tru_tup, int_int, isBool_bl, nox_k, Cn.w, srcOf_lst, srcOf_tup, srcOf_fro, srcOf_ref, still_nil, List.getElem?_cons_zero, List.getElem?_cons_succ, List.set_cons_zero, List.set_cons_succ, startE, List.map_cons, List.map_nil, List.length_cons, List.length_nil, List.length_map, List.length_range, List.cons_append, List.nil_append, List.replicate_succ, List.replicate_zero, wipeE, unE, Nat.reduceAdd, Nat.reduceSub, decide_true, decide_false, Bool.not_true, Bool.not_false, mul_int, mod_int, fdiv_int, pow_int, mkL_f, mkL_t, len_lst, len_tup, len_fro, tuple_lst, tuple_tup, tuple_fro, list_lst, list_tup, list_fro, int_bl, min_two, max_two, tupK_ok, f1, b1, h1.app.items, c1 _ rfl, hc, idx_lst0, hz, sat_new]
    rw [cut_same_len (by simp)]
theorem new_ok (n : Nat) (w : W) (rows : List (List Int)) (lev : Nat) (st : Store) (hw : Rws st w rows) (h : Wt rows lev) :
    mkI T (run T (n + 2)) 1 [w] st = (if nought rows then .ex 0 [.int 0] st else .ok (sgW rows lev) st) := by
  have hi := init_ok n w rows lev st hw h
  by_cases e : nought rows
  · rw [if_pos e] at hi ⊢
    exact mkI_ex (c := 0) rfl hi (by simp [W.clos_iff, W.clo])
  · rw [if_neg e] at hi ⊢
    exact mkI_ok (c := 0) (e := []) rfl hi rfl (by simp [W.clos_iff, W.clo])
section
variable {rows : List (List Int)} {lev : Nat}
theorem at_lines {s : Store} : attW T (sgW rows lev) "lines" s = .ok (.tup (rows.map tW)) s := rfl
theorem at_count {s : Store} : attW T (sgW rows lev) "count" s = .ok (.int rows.length) s := rfl
theorem at_states {s : Store} : attW T (sgW rows lev) "states" s = .ok (.int lev) s := rfl
theorem mt {f : Nat} {ws : Q (List W)} {s : Store} {F : Nat → List W → Q W} (h : mthB T f 0 = true) : mthW T F f (sgW rows lev) ws s = bdR (ws s) (fun ws => F f (sgW rows lev :: ws)) := mthW_ins h
theorem sig_ok (n : Nat) (k : Nat) (st : Store) (hk : k < rows.length) : run T (n + 1) 2 [sgW rows lev, .int k] st = .ok .non st := by
  rw [run_eq (d := f2) rfl rfl]
  have e1 : (0 : Int) ≤ (k : Int) := by omega
  have e2 : (k : Int) < (rows.length : Int) := by omega
  simp (disch := first | assumption | (simp; done) | omega | (simp; omega) | decide) only [bd_st, bdR_ok, bdR_ex, bdR_no, pu_st, no_st, bo_ok, bo_ex, bo_no, thn_nx, thn_rt, thn_ex, thn_no, res_nx, res_rt, res_ex, res_no, nxs_st, rts_st, bos_st, iteS_t, iteS_f, exSs_nil, exSs_cons, exS_ex, exS_asg, exS_par, exS_ret, exS_ret0, exS_pas, exS_ite, exS_loop, exS_tri, exS_rai, exS_sat, exS_six, triS_nx, triS_rt, triS_ex, ev_v, ev_cst, ev_gi, ev_bin, ev_neg, negK_int, ev_cmp, ev_chn, chnK_t, chnK_f, ev_isN, ev_ntN, noneB, ev_and, ev_or, andK_t, andK_f, orK_t, orK_f, notK_bl, ev_not, ev_ite, ev_tup, ev_lst, ev_idx, ev_slc, ev_att, ev_call, ev_mth, ev_new, ev_bi, ev_bm, ev_lc, ev_frz, ev_tupS, ev_lstS, evz_nil, evz_f, evz_t, evT_yes, evT_e, andT_t, andT_f, orT_t, orT_f, evT_and, evT_or, evT_not, evO_om, evO_e, intO_int, evs_nil, evs_cons, evI_sq, evI_en, evI_zp, evI_r1, evI_r2, asgn_nm, asgn_tp, asgns_nil, asgns_cons, oneS_st, lcOne_st, add_int, sub_int, items_lst, items_fro, items_tup, itemsN_lst, itemsN_fro, itemsL_lst, lt_int, le_int, gt_int, ge_int, eq_int, ne_int, tru_b, tru_non, tru_lst, tru_tup, int_int, isBool_bl, nox_k, Cn.w, srcOf_lst, srcOf_tup, srcOf_fro, srcOf_ref, still_nil, List.getElem?_cons_zero, List.getElem?_cons_succ, List.set_cons_zero, List.set_cons_succ, startE, List.map_cons, List.map_nil, List.length_cons, List.length_nil, List.length_map, List.length_range, List.cons_append, List.nil_append, List.replicate_succ, List.replicate_zero, wipeE, unE, Nat.reduceAdd, Nat.reduceSub, decide_true, decide_false, Bool.not_true, Bool.not_false, mul_int, mod_int, fdiv_int, pow_int, mkL_f, mkL_t, len_lst, len_tup, len_fro, tuple_lst, tuple_tup, tuple_fro, list_lst, list_tup, list_fro, int_bl, min_two, max_two, tupK_ok, f2, b2, at_count, e1, e2, cut_self]
theorem sta_ok (n : Nat) (k : Nat) (st : Store) (hk : k < lev) : run T (n + 1) 3 [sgW rows lev, .int k] st = .ok .non st := by
  rw [run_eq (d := f3) rfl rfl]
  have e1 : (0 : Int) ≤ (k : Int) := by omega
  have e2 : (k : Int) < (lev : Int) := by omega
  simp (disch := first | assumption | (simp; done) | omega | (simp; omega) | decide) only [bd_st, bdR_ok, bdR_ex, bdR_no, pu_st, no_st, bo_ok, bo_ex, bo_no, thn_nx, thn_rt, thn_ex, thn_no, res_nx, res_rt, res_ex, res_no, nxs_st, rts_st, bos_st, iteS_t, iteS_f, exSs_nil, exSs_cons, exS_ex, exS_asg, exS_par, exS_ret, exS_ret0, exS_pas, exS_ite, exS_loop, exS_tri, exS_rai, exS_sat, exS_six, triS_nx, triS_rt, triS_ex, ev_v, ev_cst, ev_gi, ev_bin, ev_neg, negK_int, ev_cmp, ev_chn, chnK_t, chnK_f, ev_isN, ev_ntN, noneB, ev_and, ev_or, andK_t, andK_f, orK_t, orK_f, notK_bl, ev_not, ev_ite, ev_tup, ev_lst, ev_idx, ev_slc, ev_att, ev_call, ev_mth, ev_new, ev_bi, ev_bm, ev_lc, ev_frz, ev_tupS, ev_lstS, evz_nil, evz_f, evz_t, evT_yes, evT_e, andT_t, andT_f, orT_t, orT_f, evT_and, evT_or, evT_not, evO_om, evO_e, intO_int, evs_nil, evs_cons, evI_sq, evI_en, evI_zp, evI_r1, evI_r2, asgn_nm, asgn_tp, asgns_nil, asgns_cons, oneS_st, lcOne_st, add_int, sub_int, items_lst, items_fro, items_tup, itemsN_lst, itemsN_fro, itemsL_lst, lt_int, le_int, gt_int, ge_int, eq_int, ne_int, tru_b, tru_non, tru_lst, tru_tup, int_int, isBool_bl, nox_k, Cn.w, srcOf_lst, srcOf_tup, srcOf_fro, srcOf_ref, still_nil, List.getElem?_cons_zero, List.getElem?_cons_succ, List.set_cons_zero, List.set_cons_succ, startE, List.map_cons, List.map_nil, List.length_cons, List.length_nil, List.length_map, List.length_range, List.cons_append, List.nil_append, List.replicate_succ, List.replicate_zero, wipeE, unE, Nat.reduceAdd, Nat.reduceSub, decide_true, decide_false, Bool.not_true, Bool.not_false, mul_int, mod_int, fdiv_int, pow_int, mkL_f, mkL_t, len_lst, len_tup, len_fro, tuple_lst, tuple_tup, tuple_fro, list_lst, list_tup, list_fro, int_bl, min_two, max_two, tupK_ok, f3, b3, at_states, e1, e2, cut_self]
def minor (rows : List (List Int)) (f s a b : Nat) : Int := rows[f]![a]! * rows[s]![b]! - rows[f]![b]! * rows[s]![a]!
theorem minor_ok (n : Nat) (f s a b : Nat) (st : Store) (h : Wt rows lev) (hfs : f < s) (hs : s < rows.length) (hab : a < b) (hb : b < lev) : run T (n + 2) 4 [sgW rows lev, .int f, .int s, .int a, .int b] st = .ok (.int (minor rows f s a b)) st := by
  rw [run_eq (d := f4) rfl rfl]
  have hf : f < rows.length := by omega
  have e1 : ¬ (s : Int) ≤ (f : Int) := by omega
  have e2 : ¬ (b : Int) ≤ (a : Int) := by omega
  have m2 := fun {ws s F} => mt (rows := rows) (lev := lev) (f := 2) (ws := ws) (s := s) (F := F) rfl
  have m3 := fun {ws s F} => mt (rows := rows) (lev := lev) (f := 3) (ws := ws) (s := s) (F := F) rfl
  have w1 := h.wt hf (j := a) (by omega)
  have w2 := h.wt hf (j := b) (by omega)
  have i1 : idxW (tW rows[f]!) (.int (a : Int)) st = .ok (.int rows[f]![a]!) st := idx_tup (by rw [h.get hf]; omega)
  have i2 : idxW (tW rows[f]!) (.int (b : Int)) st = .ok (.int rows[f]![b]!) st := idx_tup (by rw [h.get hf]; omega)
  have i3 : idxW (tW rows[s]!) (.int (a : Int)) st = .ok (.int rows[s]![a]!) st := idx_tup (by rw [h.get hs]; omega)
  have i4 : idxW (tW rows[s]!) (.int (b : Int)) st = .ok (.int rows[s]![b]!) st := idx_tup (by rw [h.get hs]; omega)
  have u1 : opB .mul false (.int rows[f]![a]!) (.int rows[s]![b]!) st = .ok (.int (rows[f]![a]! * rows[s]![b]!)) st := mul_int (by omega)
  have u2 : opB .mul false (.int rows[f]![b]!) (.int rows[s]![a]!) st = .ok (.int (rows[f]![b]! * rows[s]![a]!)) st := mul_int (by omega)
  simp (disch := first | assumption | (simp; done) | omega | (simp; omega) | decide) only [bd_st, bdR_ok, bdR_ex, bdR_no, pu_st, no_st, bo_ok, bo_ex, bo_no, thn_nx, thn_rt, thn_ex, thn_no, res_nx, res_rt, res_ex, res_no, nxs_st, rts_st, bos_st, iteS_t, iteS_f, exSs_nil, exSs_cons, exS_ex, exS_asg, exS_par, exS_ret, exS_ret0, exS_pas, exS_ite, exS_loop, exS_tri, exS_rai, exS_sat, exS_six, triS_nx, triS_rt, triS_ex, ev_v, ev_cst, ev_gi, ev_bin, ev_neg, negK_int, ev_cmp, ev_chn, chnK_t, chnK_f, ev_isN, ev_ntN, noneB, ev_and, ev_or, andK_t, andK_f, orK_t, orK_f, notK_bl, ev_not, ev_ite, ev_tup, ev_lst, ev_idx, ev_slc, ev_att, ev_call, ev_mth, ev_new, ev_bi, ev_bm, ev_lc, ev_frz, ev_tupS, ev_lstS, evz_nil, evz_f, evz_t, evT_yes, evT_e, andT_t, andT_f, orT_t, orT_f, evT_and, evT_or, evT_not, evO_om, evO_e, intO_int, evs_nil, evs_cons, evI_sq, evI_en, evI_zp, evI_r1, evI_r2, asgn_nm, asgn_tp, asgns_nil, asgns_cons, oneS_st, lcOne_st, add_int, sub_int, items_lst, items_fro, items_tup, itemsN_lst, itemsN_fro, itemsL_lst, lt_int, le_int, gt_int, ge_int, eq_int, ne_int, tru_b, tru_non, tru_lst, tru_tup, int_int, isBool_bl, nox_k, Cn.w, srcOf_lst, srcOf_tup, srcOf_fro, srcOf_ref, still_nil, List.getElem?_cons_zero, List.getElem?_cons_succ, List.set_cons_zero, List.set_cons_succ, startE, List.map_cons, List.map_nil, List.length_cons, List.length_nil, List.length_map, List.length_range, List.cons_append, List.nil_append, List.replicate_succ, List.replicate_zero, wipeE, unE, Nat.reduceAdd, Nat.reduceSub, decide_true, decide_false, Bool.not_true, Bool.not_false, mul_int, mod_int, fdiv_int, pow_int, mkL_f, mkL_t, len_lst, len_tup, len_fro, tuple_lst, tuple_tup, tuple_fro, list_lst, list_tup, list_fro, int_bl, min_two, max_two, tupK_ok, f4, b4, m2, m3, sig_ok (rows := rows) (lev := lev) n f st hf, sig_ok (rows := rows) (lev := lev) n s st hs, sta_ok (rows := rows) (lev := lev) n a st (by omega), sta_ok (rows := rows) (lev := lev) n b st hb, e1, e2, at_lines, idx_tup, i1, i2, i3, i4, u1, u2, cut_self]
  rfl
end
end Mi.K46
set_option maxHeartbeats 4000000
namespace Mi.K46
open PySem Mi
section
variable {rows : List (List Int)} {lev : Nat}
/-- the first minor below 0 -/
def n4 (rows : List (List Int)) (lev f s a : Nat) : Option W := (List.range (lev - (a + 1))).findSome? fun j => if minor rows f s a (a + 1 + j) < 0 then some (.tup [.int (f : Nat), .int (s : Nat), .int (a : Nat), .int ((a + 1 + j : Nat) : Int)]) else none
def n3 (rows : List (List Int)) (lev f s : Nat) : Option W := (List.range lev).findSome? fun a => n4 rows lev f s a
def n2 (rows : List (List Int)) (lev f : Nat) : Option W := (List.range (rows.length - (f + 1))).findSome? fun j => n3 rows lev f (f + 1 + j)
def n1 (rows : List (List Int)) (lev : Nat) : Option W := (List.range rows.length).findSome? fun f => n2 rows lev f
theorem rfo_fin {o : Option W} {env : Ev} {s : Store} {T : Tab} {F : Nat → List W → Q W} : (fin (rFo o) env s).thn (exSs T F none .nil) = fin (rFo o) env s := by
  cases o with
  | none => simp only [rFo, fin, thn_nx, exSs_nil]
  | some w => simp only [rFo, fin, thn_rt]
theorem neg_ok (n : Nat) (st : Store) (h : Wt rows lev) : run T (n + 3) 8 [sgW rows lev] st = .ok ((n1 rows lev).getD .non) st := by
  rw [run_eq (d := f8) rfl rfl]
  have m4 := fun {ws s F} => mt (rows := rows) (lev := lev) (f := 4) (ws := ws) (s := s) (F := F) rfl
  have hn := h.n2
  have hl := h.l2
  have L4 : ∀ f s a : Nat, f < s → s < rows.length → a < lev → ∀ x, ∃ x', forGo (oneS T (run T (n + 2)) none (.nm 4) b8_0) [] ((List.range (lev - (a + 1))).map fun j => W.int ((a + 1 + j : Nat) : Int)) [some (sgW rows lev), some (.int (f : Nat)), some (.int (s : Nat)), some (.int (a : Nat)), x] st =
      fin (rFo (n4 rows lev f s a)) [some (sgW rows lev), some (.int (f : Nat)), some (.int (s : Nat)), some (.int (a : Nat)), x'] st := by
    intro f s a hfs hs ha x
    obtain ⟨_, ⟨x', rfl⟩, e⟩ := loop_map (st := st) (one := oneS T (run T (n + 2)) none (.nm 4) b8_0) (src := []) (fun (j : Nat) => W.int ((a + 1 + j : Nat) : Int)) (fun env => ∃ x, env = [some (sgW rows lev), some (.int (f : Nat)), some (.int (s : Nat)), some (.int (a : Nat)), x])
      (fun (j : Nat) => rFo (if minor rows f s a (a + 1 + j) < 0 then some (.tup [.int (f : Nat), .int (s : Nat), .int (a : Nat), .int ((a + 1 + j : Nat) : Int)]) else none)) still_nil (List.range (lev - (a + 1))) (by
        rintro j hj _ ⟨x, rfl⟩
        have hj' : a + 1 + j < lev := by simp at hj; omega
        refine ⟨_, ⟨some (.int ((a + 1 + j : Nat) : Int)), rfl⟩, ?_⟩
        by_cases e : minor rows f s a (a + 1 + j) < 0
        · simp (disch := first | assumption | (simp; done) | omega | (simp; omega) | decide) only [bd_st, bdR_ok, bdR_ex, bdR_no, pu_st, no_st, bo_ok, bo_ex, bo_no, thn_nx, thn_rt, thn_ex, thn_no, res_nx, res_rt, res_ex, res_no, nxs_st, rts_st, bos_st, iteS_t, iteS_f, exSs_nil, exSs_cons, exS_ex, exS_asg, exS_par, exS_ret, exS_ret0, exS_pas, exS_ite, exS_loop, exS_tri, exS_rai, exS_sat, exS_six, triS_nx, triS_rt, triS_ex, ev_v, ev_cst, ev_gi, ev_bin, ev_neg, negK_int, ev_cmp, ev_chn, chnK_t, chnK_f, ev_isN, ev_ntN, noneB, ev_and, ev_or, andK_t, andK_f, orK_t, orK_f, notK_bl, ev_not, ev_ite, ev_tup, ev_lst, ev_idx, ev_slc, ev_att, ev_call, ev_mth, ev_new, ev_bi, ev_bm, ev_lc, ev_frz, ev_tupS, ev_lstS, evz_nil, evz_f, evz_t, evT_yes, evT_e, andT_t, andT_f, orT_t, orT_f, evT_and, evT_or, evT_not, evO_om, evO_e, intO_int, evs_nil, evs_cons, evI_sq, evI_en, evI_zp, evI_r1, evI_r2, asgn_nm, asgn_tp, asgns_nil, asgns_cons, oneS_st, lcOne_st, add_int, sub_int, items_lst, items_fro, items_tup, itemsN_lst, itemsN_fro, itemsL_lst, lt_int, le_int, gt_int, ge_int, eq_int, ne_int, tru_b, tru_non, tru_lst, tru_tup, int_int, isBool_bl, nox_k, Cn.w, srcOf_lst, srcOf_tup, srcOf_fro, srcOf_ref, still_nil, List.getElem?_cons_zero, List.getElem?_cons_succ, List.set_cons_zero, List.set_cons_succ, startE, List.map_cons, List.map_nil, List.length_cons, List.length_nil, List.length_map, List.length_range, List.cons_append, List.nil_append, List.replicate_succ, List.replicate_zero, wipeE, unE, Nat.reduceAdd, Nat.reduceSub, decide_true, decide_false, Bool.not_true, Bool.not_false, mul_int, mod_int, fdiv_int, pow_int, mkL_f, mkL_t, len_lst, len_tup, len_fro, tuple_lst, tuple_tup, tuple_fro, list_lst, list_tup, list_fro, int_bl, min_two, max_two, tupK_ok, b8_0, m4, minor_ok n f s a (a + 1 + j) st h hfs hs (by omega) hj', e, if_true, rFo, fin]
        · simp (disch := first | assumption | (simp; done) | omega | (simp; omega) | decide) only [bd_st, bdR_ok, bdR_ex, bdR_no, pu_st, no_st, bo_ok, bo_ex, bo_no, thn_nx, thn_rt, thn_ex, thn_no, res_nx, res_rt, res_ex, res_no, nxs_st, rts_st, bos_st, iteS_t, iteS_f, exSs_nil, exSs_cons, exS_ex, exS_asg, exS_par, exS_ret, exS_ret0, exS_pas, exS_ite, exS_loop, exS_tri, exS_rai, exS_sat, exS_six, triS_nx, triS_rt, triS_ex, ev_v, ev_cst, ev_gi, ev_bin, ev_neg, negK_int, ev_cmp, ev_chn, chnK_t, chnK_f, ev_isN, ev_ntN, noneB, ev_and, ev_or, andK_t, andK_f, orK_t, orK_f, notK_bl, ev_not, ev_ite, ev_tup, ev_lst, ev_idx, ev_slc, ev_att, ev_call, ev_mth, ev_new, ev_bi, ev_bm, ev_lc, ev_frz, ev_tupS, ev_lstS, evz_nil, evz_f, evz_t, evT_yes, evT_e, andT_t, andT_f, orT_t, orT_f, evT_and, evT_or, evT_not, evO_om, evO_e, intO_int, evs_nil, evs_cons, evI_sq, evI_en, evI_zp, evI_r1, evI_r2, asgn_nm, asgn_tp, asgns_nil, asgns_cons, oneS_st, lcOne_st, add_int, sub_int, items_lst, items_fro, items_tup, itemsN_lst, itemsN_fro, itemsL_lst, lt_int, le_int, gt_int, ge_int, eq_int, ne_int, tru_b, tru_non, tru_lst, tru_tup, int_int, isBool_bl, nox_k, Cn.w, srcOf_lst, srcOf_tup, srcOf_fro, srcOf_ref, still_nil, List.getElem?_cons_zero, List.getElem?_cons_succ, List.set_cons_zero, List.set_cons_succ, startE, List.map_cons, List.map_nil, List.length_cons, List.length_nil, List.length_map, List.length_range, List.cons_append, List.nil_append, List.replicate_succ, List.replicate_zero, wipeE, unE, Nat.reduceAdd, Nat.reduceSub, decide_true, decide_false, Bool.not_true, Bool.not_false, mul_int, mod_int, fdiv_int, pow_int, mkL_f, mkL_t, len_lst, len_tup, len_fro, tuple_lst, tuple_tup, tuple_fro, list_lst, list_tup, list_fro, int_bl, min_two, max_two, tupK_ok, b8_0, m4, minor_ok n f s a (a + 1 + j) st h hfs hs (by omega) hj', e, if_false, rFo, fin]) _ ⟨x, rfl⟩
    rw [findSome_rFo] at e
    exact ⟨x', e⟩
  have L3 : ∀ f s : Nat, f < s → s < rows.length → ∀ x y, ∃ x' y', forGo (oneS T (run T (n + 2)) none (.nm 3) b8_1) [] ((List.range lev).map fun j => W.int (j : Nat)) [some (sgW rows lev), some (.int (f : Nat)), some (.int (s : Nat)), x, y] st =
      fin (rFo (n3 rows lev f s)) [some (sgW rows lev), some (.int (f : Nat)), some (.int (s : Nat)), x', y'] st := by
    intro f s hfs hs x y
    obtain ⟨_, ⟨x', y', rfl⟩, e⟩ := loop_map (st := st) (one := oneS T (run T (n + 2)) none (.nm 3) b8_1) (src := []) (fun (j : Nat) => W.int (j : Nat)) (fun env => ∃ x y, env = [some (sgW rows lev), some (.int (f : Nat)), some (.int (s : Nat)), x, y])
      (fun (a : Nat) => rFo (n4 rows lev f s a)) still_nil (List.range lev) (by
        rintro a ha _ ⟨x, y, rfl⟩
        have ha' : a < lev := by simpa using ha
        obtain ⟨y', e⟩ := L4 f s a hfs hs ha' y
        refine ⟨_, ⟨some (.int (a : Nat)), y', rfl⟩, ?_⟩
        have e1 : ((a : Int) + 1) = ((a + 1 : Nat) : Int) := rfl
        simp (disch := first | assumption | (simp; done) | omega | (simp; omega) | decide) only [bd_st, bdR_ok, bdR_ex, bdR_no, pu_st, no_st, bo_ok, bo_ex, bo_no, thn_nx, thn_rt, thn_ex, thn_no, res_nx, res_rt, res_ex, res_no, nxs_st, rts_st, bos_st, iteS_t, iteS_f, exSs_nil, exSs_cons, exS_ex, exS_asg, exS_par, exS_ret, exS_ret0, exS_pas, exS_ite, exS_loop, exS_tri, exS_rai, exS_sat, exS_six, triS_nx, triS_rt, triS_ex, ev_v, ev_cst, ev_gi, ev_bin, ev_neg, negK_int, ev_cmp, ev_chn, chnK_t, chnK_f, ev_isN, ev_ntN, noneB, ev_and, ev_or, andK_t, andK_f, orK_t, orK_f, notK_bl, ev_not, ev_ite, ev_tup, ev_lst, ev_idx, ev_slc, ev_att, ev_call, ev_mth, ev_new, ev_bi, ev_bm, ev_lc, ev_frz, ev_tupS, ev_lstS, evz_nil, evz_f, evz_t, evT_yes, evT_e, andT_t, andT_f, orT_t, orT_f, evT_and, evT_or, evT_not, evO_om, evO_e, intO_int, evs_nil, evs_cons, evI_sq, evI_en, evI_zp, evI_r1, evI_r2, asgn_nm, asgn_tp, asgns_nil, asgns_cons, oneS_st, lcOne_st, add_int, sub_int, items_lst, items_fro, items_tup, itemsN_lst, itemsN_fro, itemsL_lst, lt_int, le_int, gt_int, ge_int, eq_int, ne_int, tru_b, tru_non, tru_lst, tru_tup, int_int, isBool_bl, nox_k, Cn.w, srcOf_lst, srcOf_tup, srcOf_fro, srcOf_ref, still_nil, List.getElem?_cons_zero, List.getElem?_cons_succ, List.set_cons_zero, List.set_cons_succ, startE, List.map_cons, List.map_nil, List.length_cons, List.length_nil, List.length_map, List.length_range, List.cons_append, List.nil_append, List.replicate_succ, List.replicate_zero, wipeE, unE, Nat.reduceAdd, Nat.reduceSub, decide_true, decide_false, Bool.not_true, Bool.not_false, mul_int, mod_int, fdiv_int, pow_int, mkL_f, mkL_t, len_lst, len_tup, len_fro, tuple_lst, tuple_tup, tuple_fro, list_lst, list_tup, list_fro, int_bl, min_two, max_two, tupK_ok, b8_1, at_states, e1, rg2_nat, loopS_st, e, rfo_fin]) _ ⟨x, y, rfl⟩
    rw [findSome_rFo] at e
    exact ⟨x', y', e⟩
  have L2 : ∀ f : Nat, f < rows.length → ∀ x y z, ∃ x' y' z', forGo (oneS T (run T (n + 2)) none (.nm 2) b8_2) [] ((List.range (rows.length - (f + 1))).map fun j => W.int ((f + 1 + j : Nat) : Int)) [some (sgW rows lev), some (.int (f : Nat)), x, y, z] st =
      fin (rFo (n2 rows lev f)) [some (sgW rows lev), some (.int (f : Nat)), x', y', z'] st := by
    intro f hf x y z
    obtain ⟨_, ⟨x', y', z', rfl⟩, e⟩ := loop_map (st := st) (one := oneS T (run T (n + 2)) none (.nm 2) b8_2) (src := []) (fun (j : Nat) => W.int ((f + 1 + j : Nat) : Int)) (fun env => ∃ x y z, env = [some (sgW rows lev), some (.int (f : Nat)), x, y, z])
      (fun (j : Nat) => rFo (n3 rows lev f (f + 1 + j))) still_nil (List.range (rows.length - (f + 1))) (by
        rintro j hj _ ⟨x, y, z, rfl⟩
        have hj' : f + 1 + j < rows.length := by simp at hj; omega
        obtain ⟨y', z', e⟩ := L3 f (f + 1 + j) (by omega) hj' y z
        refine ⟨_, ⟨some (.int ((f + 1 + j : Nat) : Int)), y', z', rfl⟩, ?_⟩
        simp (disch := first | assumption | (simp; done) | omega | (simp; omega) | decide) only [bd_st, bdR_ok, bdR_ex, bdR_no, pu_st, no_st, bo_ok, bo_ex, bo_no, thn_nx, thn_rt, thn_ex, thn_no, res_nx, res_rt, res_ex, res_no, nxs_st, rts_st, bos_st, iteS_t, iteS_f, exSs_nil, exSs_cons, exS_ex, exS_asg, exS_par, exS_ret, exS_ret0, exS_pas, exS_ite, exS_loop, exS_tri, exS_rai, exS_sat, exS_six, triS_nx, triS_rt, triS_ex, ev_v, ev_cst, ev_gi, ev_bin, ev_neg, negK_int, ev_cmp, ev_chn, chnK_t, chnK_f, ev_isN, ev_ntN, noneB, ev_and, ev_or, andK_t, andK_f, orK_t, orK_f, notK_bl, ev_not, ev_ite, ev_tup, ev_lst, ev_idx, ev_slc, ev_att, ev_call, ev_mth, ev_new, ev_bi, ev_bm, ev_lc, ev_frz, ev_tupS, ev_lstS, evz_nil, evz_f, evz_t, evT_yes, evT_e, andT_t, andT_f, orT_t, orT_f, evT_and, evT_or, evT_not, evO_om, evO_e, intO_int, evs_nil, evs_cons, evI_sq, evI_en, evI_zp, evI_r1, evI_r2, asgn_nm, asgn_tp, asgns_nil, asgns_cons, oneS_st, lcOne_st, add_int, sub_int, items_lst, items_fro, items_tup, itemsN_lst, itemsN_fro, itemsL_lst, lt_int, le_int, gt_int, ge_int, eq_int, ne_int, tru_b, tru_non, tru_lst, tru_tup, int_int, isBool_bl, nox_k, Cn.w, srcOf_lst, srcOf_tup, srcOf_fro, srcOf_ref, still_nil, List.getElem?_cons_zero, List.getElem?_cons_succ, List.set_cons_zero, List.set_cons_succ, startE, List.map_cons, List.map_nil, List.length_cons, List.length_nil, List.length_map, List.length_range, List.cons_append, List.nil_append, List.replicate_succ, List.replicate_zero, wipeE, unE, Nat.reduceAdd, Nat.reduceSub, decide_true, decide_false, Bool.not_true, Bool.not_false, mul_int, mod_int, fdiv_int, pow_int, mkL_f, mkL_t, len_lst, len_tup, len_fro, tuple_lst, tuple_tup, tuple_fro, list_lst, list_tup, list_fro, int_bl, min_two, max_two, tupK_ok, b8_2, at_states, rg1_nat, loopS_st, e, rfo_fin]) _ ⟨x, y, z, rfl⟩
    rw [findSome_rFo] at e
    exact ⟨x', y', z', e⟩
  obtain ⟨_, ⟨x', y', z', u', rfl⟩, e⟩ := loop_map (st := st) (one := oneS T (run T (n + 2)) none (.nm 1) b8_3) (src := []) (fun (j : Nat) => W.int (j : Nat)) (fun env => ∃ x y z u, env = [some (sgW rows lev), x, y, z, u])
    (fun (f : Nat) => rFo (n2 rows lev f)) still_nil (List.range rows.length) (by
      rintro f hf _ ⟨x, y, z, u, rfl⟩
      have hf' : f < rows.length := by simpa using hf
      obtain ⟨y', z', u', e⟩ := L2 f hf' y z u
      refine ⟨_, ⟨some (.int (f : Nat)), y', z', u', rfl⟩, ?_⟩
      have e1 : ((f : Int) + 1) = ((f + 1 : Nat) : Int) := rfl
      simp (disch := first | assumption | (simp; done) | omega | (simp; omega) | decide) only [bd_st, bdR_ok, bdR_ex, bdR_no, pu_st, no_st, bo_ok, bo_ex, bo_no, thn_nx, thn_rt, thn_ex, thn_no, res_nx, res_rt, res_ex, res_no, nxs_st, rts_st, bos_st, iteS_t, iteS_f, exSs_nil, exSs_cons, exS_ex, exS_asg, exS_par, exS_ret, exS_ret0, exS_pas, exS_ite, exS_loop, exS_tri, exS_rai, exS_sat, exS_six, triS_nx, triS_rt, triS_ex, ev_v, ev_cst, ev_gi, ev_bin, ev_neg, negK_int, ev_cmp, ev_chn, chnK_t, chnK_f, ev_isN, ev_ntN, noneB, ev_and, ev_or, andK_t, andK_f, orK_t, orK_f, notK_bl, ev_not, ev_ite, ev_tup, ev_lst, ev_idx, ev_slc, ev_att, ev_call, ev_mth, ev_new, ev_bi, ev_bm, ev_lc, ev_frz, ev_tupS, ev_lstS, evz_nil, evz_f, evz_t, evT_yes, evT_e, andT_t, andT_f, orT_t, orT_f, evT_and, evT_or, evT_not, evO_om, evO_e, intO_int, evs_nil, evs_cons, evI_sq, evI_en, evI_zp, evI_r1, evI_r2, asgn_nm, asgn_tp, asgns_nil, asgns_cons, oneS_st, lcOne_st, add_int, sub_int, items_lst, items_fro, items_tup, itemsN_lst, itemsN_fro, itemsL_lst, lt_int, le_int, gt_int, ge_int, eq_int, ne_int, tru_b, tru_non, tru_lst, tru_tup, int_int, isBool_bl, nox_k, Cn.w, srcOf_lst, srcOf_tup, srcOf_fro, srcOf_ref, still_nil, List.getElem?_cons_zero, List.getElem?_cons_succ, List.set_cons_zero, List.set_cons_succ, startE, List.map_cons, List.map_nil, List.length_cons, List.length_nil, List.length_map, List.length_range, List.cons_append, List.nil_append, List.replicate_succ, List.replicate_zero, wipeE, unE, Nat.reduceAdd, Nat.reduceSub, decide_true, decide_false, Bool.not_true, Bool.not_false, mul_int, mod_int, fdiv_int, pow_int, mkL_f, mkL_t, len_lst, len_tup, len_fro, tuple_lst, tuple_tup, tuple_fro, list_lst, list_tup, list_fro, int_bl, min_two, max_two, tupK_ok, b8_3, at_count, e1, rg2_nat, loopS_st, e, rfo_fin]) _ ⟨none, none, none, none, rfl⟩
  rw [findSome_rFo, ← n1] at e
  simp (disch := first | assumption | (simp; done) | omega | (simp; omega) | decide) only [bd_st, bdR_ok, bdR_ex, bdR_no, pu_st, no_st, bo_ok, bo_ex, bo_no, thn_nx, thn_rt, thn_ex, thn_no, res_nx, res_rt, res_ex, res_no, nxs_st, rts_st, bos_st, iteS_t, iteS_f, exSs_nil, exSs_cons, exS_ex, exS_asg, exS_par, exS_ret, exS_ret0, exS_pas, exS_ite, exS_loop, exS_tri, exS_rai, exS_sat, exS_six, triS_nx, triS_rt, triS_ex, ev_v, ev_cst, ev_gi, ev_bin, ev_neg, negK_int, ev_cmp, ev_chn, chnK_t, chnK_f, ev_isN, ev_ntN, noneB, ev_and, ev_or, andK_t, andK_f, orK_t, orK_f, notK_bl, ev_not, ev_ite, ev_tup, ev_lst, ev_idx, ev_slc, ev_att, ev_call, ev_mth, ev_new, ev_bi, ev_bm, ev_lc, ev_frz, ev_tupS, ev_lstS, evz_nil, evz_f, evz_t, evT_yes, evT_e, andT_t, andT_f, orT_t, orT_f, evT_and, evT_or, evT_not, evO_om, evO_e, intO_int, evs_nil, evs_cons, evI_sq, evI_en, evI_zp, evI_r1, evI_r2, asgn_nm, asgn_tp, asgns_nil, asgns_cons, oneS_st, lcOne_st, add_int, sub_int, items_lst, items_fro, items_tup, itemsN_lst, itemsN_fro, itemsL_lst, lt_int, le_int, gt_int, ge_int, eq_int, ne_int, tru_b, tru_non, tru_lst, tru_tup, int_int, isBool_bl, nox_k, Cn.w, srcOf_lst, srcOf_tup, srcOf_fro, srcOf_ref, still_nil, List.getElem?_cons_zero, List.getElem?_cons_succ, List.set_cons_zero, List.set_cons_succ, startE, List.map_cons, List.map_nil, List.length_cons, List.length_nil, List.length_map, List.length_range, List.cons_append, List.nil_append, List.replicate_succ, List.replicate_zero, wipeE, unE, Nat.reduceAdd, Nat.reduceSub, decide_true, decide_false, Bool.not_true, Bool.not_false, mul_int, mod_int, fdiv_int, pow_int, mkL_f, mkL_t, len_lst, len_tup, len_fro, tuple_lst, tuple_tup, tuple_fro, list_lst, list_tup, list_fro, int_bl, min_two, max_two, tupK_ok, f8, b8, at_count, rg1_nat, loopS_st, e]
  cases n1 rows lev with
  | none => simp (disch := first | assumption | (simp; done) | omega | (simp; omega) | decide) only [bd_st, bdR_ok, bdR_ex, bdR_no, pu_st, no_st, bo_ok, bo_ex, bo_no, thn_nx, thn_rt, thn_ex, thn_no, res_nx, res_rt, res_ex, res_no, nxs_st, rts_st, bos_st, iteS_t, iteS_f, exSs_nil, exSs_cons, exS_ex, exS_asg, exS_par, exS_ret, exS_ret0, exS_pas, exS_ite, exS_loop, exS_tri, exS_rai, exS_sat, exS_six, triS_nx, triS_rt, triS_ex, ev_v, ev_cst, ev_gi, ev_bin, ev_neg, negK_int, ev_cmp, ev_chn, chnK_t, chnK_f, ev_isN, ev_ntN, noneB, ev_and, ev_or, andK_t, andK_f, orK_t, orK_f, notK_bl, ev_not, ev_ite, ev_tup, ev_lst, ev_idx, ev_slc, ev_att, ev_call, ev_mth, ev_new, ev_bi, ev_bm, ev_lc, ev_frz, ev_tupS, ev_lstS, evz_nil, evz_f, evz_t, evT_yes, evT_e, andT_t, andT_f, orT_t, orT_f, evT_and, evT_or, evT_not, evO_om, evO_e, intO_int, evs_nil, evs_cons, evI_sq, evI_en, evI_zp, evI_r1, evI_r2, asgn_nm, asgn_tp, asgns_nil, asgns_cons, oneS_st, lcOne_st, add_int, sub_int, items_lst, items_fro, items_tup, itemsN_lst, itemsN_fro, itemsL_lst, lt_int, le_int, gt_int, ge_int, eq_int, ne_int, tru_b, tru_non, tru_lst, tru_tup, int_int, isBool_bl, nox_k, Cn.w, srcOf_lst, srcOf_tup, srcOf_fro, srcOf_ref, still_nil, List.getElem?_cons_zero, List.getElem?_cons_succ, List.set_cons_zero, List.set_cons_succ, startE, List.map_cons, List.map_nil, List.length_cons, List.length_nil, List.length_map, List.length_range, List.cons_append, List.nil_append, List.replicate_succ, List.replicate_zero, wipeE, unE, Nat.reduceAdd, Nat.reduceSub, decide_true, decide_false, Bool.not_true, Bool.not_false, mul_int, mod_int, fdiv_int, pow_int, mkL_f, mkL_t, len_lst, len_tup, len_fro, tuple_lst, tuple_tup, tuple_fro, list_lst, list_tup, list_fro, int_bl, min_two, max_two, tupK_ok, rFo, fin, cut_self]; rfl
  | some x => simp (disch := first | assumption | (simp; done) | omega | (simp; omega) | decide) only [bd_st, bdR_ok, bdR_ex, bdR_no, pu_st, no_st, bo_ok, bo_ex, bo_no, thn_nx, thn_rt, thn_ex, thn_no, res_nx, res_rt, res_ex, res_no, nxs_st, rts_st, bos_st, iteS_t, iteS_f, exSs_nil, exSs_cons, exS_ex, exS_asg, exS_par, exS_ret, exS_ret0, exS_pas, exS_ite, exS_loop, exS_tri, exS_rai, exS_sat, exS_six, triS_nx, triS_rt, triS_ex, ev_v, ev_cst, ev_gi, ev_bin, ev_neg, negK_int, ev_cmp, ev_chn, chnK_t, chnK_f, ev_isN, ev_ntN, noneB, ev_and, ev_or, andK_t, andK_f, orK_t, orK_f, notK_bl, ev_not, ev_ite, ev_tup, ev_lst, ev_idx, ev_slc, ev_att, ev_call, ev_mth, ev_new, ev_bi, ev_bm, ev_lc, ev_frz, ev_tupS, ev_lstS, evz_nil, evz_f, evz_t, evT_yes, evT_e, andT_t, andT_f, orT_t, orT_f, evT_and, evT_or, evT_not, evO_om, evO_e, intO_int, evs_nil, evs_cons, evI_sq, evI_en, evI_zp, evI_r1, evI_r2, asgn_nm, asgn_tp, asgns_nil, asgns_cons, oneS_st, lcOne_st, add_int, sub_int, items_lst, items_fro, items_tup, itemsN_lst, itemsN_fro, itemsL_lst, lt_int, le_int, gt_int, ge_int, eq_int, ne_int, tru_b, tru_non, tru_lst, tru_tup, int_int, isBool_bl, nox_k, Cn.w, srcOf_lst, srcOf_tup, srcOf_fro, srcOf_ref, still_nil, List.getElem?_cons_zero, List.getElem?_cons_succ, List.set_cons_zero, List.set_cons_succ, startE, List.map_cons, List.map_nil, List.length_cons, List.length_nil, List.length_map, List.length_range, List.cons_append, List.nil_append, List.replicate_succ, List.replicate_zero, wipeE, unE, Nat.reduceAdd, Nat.reduceSub, decide_true, decide_false, Bool.not_true, Bool.not_false, mul_int, mod_int, fdiv_int, pow_int, mkL_f, mkL_t, len_lst, len_tup, len_fro, tuple_lst, tuple_tup, tuple_fro, list_lst, list_tup, list_fro, int_bl, min_two, max_two, tupK_ok, rFo, fin, cut_self]; rfl
/-- no minor is below 0 -/
def Ord (rows : List (List Int)) (lev : Nat) : Prop := ∀ f s a b, f < s → s < rows.length → a < b → b < lev → 0 ≤ minor rows f s a b
theorem n1_none : n1 rows lev = none ↔ Ord rows lev := by
  unfold n1 n2 n3 n4 Ord
  simp only [List.findSome?_eq_none_iff, List.mem_range]
  constructor
  · intro h f s a b hfs hs hab hb
    have := h f (by omega) (s - (f + 1)) (by omega) a (by omega) (b - (a + 1)) (by omega)
    have e1 : f + 1 + (s - (f + 1)) = s := by omega
    have e2 : a + 1 + (b - (a + 1)) = b := by omega
    rw [e1, e2] at this
    split at this
    · cases this
    · omega
  · intro h f hf j hj a ha k hk
    have := h f (f + 1 + j) a (a + 1 + k) (by omega) (by omega) (by omega) (by omega)
    rw [if_neg (by omega)]
theorem n1_some {w : W} (h : n1 rows lev = some w) : ∃ f s a b : Nat, w = .tup [.int (f : Nat), .int (s : Nat), .int (a : Nat), .int (b : Nat)] ∧ f < s ∧ s < rows.length ∧ a < b ∧ b < lev ∧ minor rows f s a b < 0 := by
  unfold n1 at h
  obtain ⟨f, hf, h⟩ := List.exists_of_findSome?_eq_some h
  unfold n2 at h
  obtain ⟨j, hj, h⟩ := List.exists_of_findSome?_eq_some h
  unfold n3 at h
  obtain ⟨a, ha, h⟩ := List.exists_of_findSome?_eq_some h
  unfold n4 at h
  obtain ⟨k, hk, h⟩ := List.exists_of_findSome?_eq_some h
  simp at hf hj ha hk
  split at h
  · cases h
    exact ⟨f, f + 1 + j, a, a + 1 + k, rfl, by omega, by omega, by omega, by omega, by assumption⟩
  · cases h
open Classical in
theorem ordered_ok (n : Nat) (st : Store) (h : Wt rows lev) : run T (n + 4) 9 [sgW rows lev] st = .ok (.bl (decide (Ord rows lev))) st := by
  rw [run_eq (d := f9) rfl rfl]
  simp (disch := first | assumption | (simp; done) | omega | (simp; omega) | decide) only [bd_st, bdR_ok, bdR_ex, bdR_no, pu_st, no_st, bo_ok, bo_ex, bo_no, thn_nx, thn_rt, thn_ex, thn_no, res_nx, res_rt, res_ex, res_no, nxs_st, rts_st, bos_st, iteS_t, iteS_f, exSs_nil, exSs_cons, exS_ex, exS_asg, exS_par, exS_ret, exS_ret0, exS_pas, exS_ite, exS_loop, exS_tri, exS_rai, exS_sat, exS_six, triS_nx, triS_rt, triS_ex, ev_v, ev_cst, ev_gi, ev_bin, ev_neg, negK_int, ev_cmp, ev_chn, chnK_t, chnK_f, ev_isN, ev_ntN, noneB, ev_and, ev_or, andK_t, andK_f, orK_t, orK_f, notK_bl, ev_not, ev_ite, ev_tup, ev_lst, ev_idx, ev_slc, ev_att, ev_call, ev_mth, ev_new, ev_bi, ev_bm, ev_lc, ev_frz, ev_tupS, ev_lstS, evz_nil, evz_f, evz_t, evT_yes, evT_e, andT_t, andT_f, orT_t, orT_f, evT_and, evT_or, evT_not, evO_om, evO_e, intO_int, evs_nil, evs_cons, evI_sq, evI_en, evI_zp, evI_r1, evI_r2, asgn_nm, asgn_tp, asgns_nil, asgns_cons, oneS_st, lcOne_st, add_int, sub_int, items_lst, items_fro, items_tup, itemsN_lst, itemsN_fro, itemsL_lst, lt_int, le_int, gt_int, ge_int, eq_int, ne_int, tru_b, tru_non, tru_lst, tru_tup, int_int, isBool_bl, nox_k, Cn.w, srcOf_lst, srcOf_tup, srcOf_fro, srcOf_ref, still_nil, List.getElem?_cons_zero, List.getElem?_cons_succ, List.set_cons_zero, List.set_cons_succ, startE, List.map_cons, List.map_nil, List.length_cons, List.length_nil, List.length_map, List.length_range, List.cons_append, List.nil_append, List.replicate_succ, List.replicate_zero, wipeE, unE, Nat.reduceAdd, Nat.reduceSub, decide_true, decide_false, Bool.not_true, Bool.not_false, mul_int, mod_int, fdiv_int, pow_int, mkL_f, mkL_t, len_lst, len_tup, len_fro, tuple_lst, tuple_tup, tuple_fro, list_lst, list_tup, list_fro, int_bl, min_two, max_two, tupK_ok, f9, b9, neg_ok n st h, cut_self]
  cases e : n1 rows lev with
  | none =>
    have := n1_none.mp e
    simp [this, noneB]
  | some w =>
    have : ¬ Ord rows lev := fun z => by rw [n1_none.mpr z] at e; cases e
    obtain ⟨f, s, a, b, rfl, _⟩ := n1_some e
    simp [this, noneB]
/-! totals -/
theorem total_ok (n : Nat) (k : Nat) (v : List Int) (w : W) (st : Store) (h : Wt rows lev) (hk : k < rows.length) (hv : v.length = lev) (hw : w = lW v ∨ w = tW v) : run T (n + 2) 5 [sgW rows lev, .int k, w] st = .ok (.int (dot rows[k]! v)) st := by
  rw [run_eq (d := f5) rfl rfl]
  have m2 := fun {ws s F} => mt (rows := rows) (lev := lev) (f := 2) (ws := ws) (s := s) (F := F) rfl
  have hl := h.l2
  have e1 : ((v.length : Nat) : Int) = (lev : Int) := by omega
  have i1 : idxW (.tup (rows.map tW)) (.int (k : Int)) st = .ok (tW rows[k]!) st := idx_tup hk
  have hwt := h.nn _ (h.mem hk)
  have hbd := h.bd _ (h.mem hk)
  have hlen := h.get hk
  generalize rows[k]! = r at *
  have lc : lcW false (lcOne T (run T (n + 1)) none [3, 4] x5_0 (.tp [(.nm 3), (.nm 4)]) .yes [some (sgW rows lev), some (.int k), some w, none, none]) ⟨(r.zip v).map fun p => W.tup [.int p.1, .int p.2], []⟩ st = .ok (.lst ((r.zip v).map fun p => .int (p.1 * p.2))) st := by
    refine lc_map _ still_nil (by simp; omega) ?_ ?_
    · rintro ⟨x, y⟩ hp acc
      have hx := (List.of_mem_zip hp).1
      have b1 := hwt x hx
      have b2 := hbd x hx
      have u : ∀ s, opB .mul false (.int x) (.int y) s = .ok (.int (x * y)) s := fun s => mul_int (by omega)
      simp (disch := first | assumption | (simp; done) | omega | (simp; omega) | decide) only [bd_st, bdR_ok, bdR_ex, bdR_no, pu_st, no_st, bo_ok, bo_ex, bo_no, thn_nx, thn_rt, thn_ex, thn_no, res_nx, res_rt, res_ex, res_no, nxs_st, rts_st, bos_st, iteS_t, iteS_f, exSs_nil, exSs_cons, exS_ex, exS_asg, exS_par, exS_ret, exS_ret0, exS_pas, exS_ite, exS_loop, exS_tri, exS_rai, exS_sat, exS_six, triS_nx, triS_rt, triS_ex, ev_v, ev_cst, ev_gi, ev_bin, ev_neg, negK_int, ev_cmp, ev_chn, chnK_t, chnK_f, ev_isN, ev_ntN, noneB, ev_and, ev_or, andK_t, andK_f, orK_t, orK_f, notK_bl, ev_not, ev_ite, ev_tup, ev_lst, ev_idx, ev_slc, ev_att, ev_call, ev_mth, ev_new, ev_bi, ev_bm, ev_lc, ev_frz, ev_tupS, ev_lstS, evz_nil, evz_f, evz_t, evT_yes, evT_e, andT_t, andT_f, orT_t, orT_f, evT_and, evT_or, evT_not, evO_om, evO_e, intO_int, evs_nil, evs_cons, evI_sq, evI_en, evI_zp, evI_r1, evI_r2, asgn_nm, asgn_tp, asgns_nil, asgns_cons, oneS_st, lcOne_st, add_int, sub_int, items_lst, items_fro, items_tup, itemsN_lst, itemsN_fro, itemsL_lst, lt_int, le_int, gt_int, ge_int, eq_int, ne_int, tru_b, tru_non, tru_lst, tru_tup, int_int, isBool_bl, nox_k, Cn.w, srcOf_lst, srcOf_tup, srcOf_fro, srcOf_ref, still_nil, List.getElem?_cons_zero, List.getElem?_cons_succ, List.set_cons_zero, List.set_cons_succ, startE, List.map_cons, List.map_nil, List.length_cons, List.length_nil, List.length_map, List.length_range, List.cons_append, List.nil_append, List.replicate_succ, List.replicate_zero, wipeE, unE, Nat.reduceAdd, Nat.reduceSub, decide_true, decide_false, Bool.not_true, Bool.not_false, mul_int, mod_int, fdiv_int, pow_int, mkL_f, mkL_t, len_lst, len_tup, len_fro, tuple_lst, tuple_tup, tuple_fro, list_lst, list_tup, list_fro, int_bl, min_two, max_two, tupK_ok, x5_0, u]
    · intro p _; rfl
  have lc' : ∀ (src : List (Nat × List W)), src = [] → lcW false (lcOne T (run T (n + 1)) none [3, 4] x5_0 (.tp [(.nm 3), (.nm 4)]) .yes [some (sgW rows lev), some (.int k), some w, none, none]) ⟨(r.zip v).map fun p => W.tup [.int p.1, .int p.2], src⟩ st = .ok (.lst ((r.zip v).map fun p => .int (p.1 * p.2))) st := by
    rintro _ rfl; exact lc
  have hs : biW .sum [.lst ((r.zip v).map fun p => W.int (p.1 * p.2))] st = .ok (.int (dot r v)) st := by
    have := sum_lst (st := st) (l := (r.zip v).map fun p => p.1 * p.2)
    rw [lW, List.map_map] at this
    exact this
  rcases hw with rfl | rfl
  · simp (disch := first | assumption | (simp; done) | omega | (simp; omega) | decide) only [bd_st, bdR_ok, bdR_ex, bdR_no, pu_st, no_st, bo_ok, bo_ex, bo_no, thn_nx, thn_rt, thn_ex, thn_no, res_nx, res_rt, res_ex, res_no, nxs_st, rts_st, bos_st, iteS_t, iteS_f, exSs_nil, exSs_cons, exS_ex, exS_asg, exS_par, exS_ret, exS_ret0, exS_pas, exS_ite, exS_loop, exS_tri, exS_rai, exS_sat, exS_six, triS_nx, triS_rt, triS_ex, ev_v, ev_cst, ev_gi, ev_bin, ev_neg, negK_int, ev_cmp, ev_chn, chnK_t, chnK_f, ev_isN, ev_ntN, noneB, ev_and, ev_or, andK_t, andK_f, orK_t, orK_f, notK_bl, ev_not, ev_ite, ev_tup, ev_lst, ev_idx, ev_slc, ev_att, ev_call, ev_mth, ev_new, ev_bi, ev_bm, ev_lc, ev_frz, ev_tupS, ev_lstS, evz_nil, evz_f, evz_t, evT_yes, evT_e, andT_t, andT_f, orT_t, orT_f, evT_and, evT_or, evT_not, evO_om, evO_e, intO_int, evs_nil, evs_cons, evI_sq, evI_en, evI_zp, evI_r1, evI_r2, asgn_nm, asgn_tp, asgns_nil, asgns_cons, oneS_st, lcOne_st, add_int, sub_int, items_lst, items_fro, items_tup, itemsN_lst, itemsN_fro, itemsL_lst, lt_int, le_int, gt_int, ge_int, eq_int, ne_int, tru_b, tru_non, tru_lst, tru_tup, int_int, isBool_bl, nox_k, Cn.w, srcOf_lst, srcOf_tup, srcOf_fro, srcOf_ref, still_nil, List.getElem?_cons_zero, List.getElem?_cons_succ, List.set_cons_zero, List.set_cons_succ, startE, List.map_cons, List.map_nil, List.length_cons, List.length_nil, List.length_map, List.length_range, List.cons_append, List.nil_append, List.replicate_succ, List.replicate_zero, wipeE, unE, Nat.reduceAdd, Nat.reduceSub, decide_true, decide_false, Bool.not_true, Bool.not_false, mul_int, mod_int, fdiv_int, pow_int, mkL_f, mkL_t, len_lst, len_tup, len_fro, tuple_lst, tuple_tup, tuple_fro, list_lst, list_tup, list_fro, int_bl, min_two, max_two, tupK_ok, f5, b5, m2, sig_ok (rows := rows) (lev := lev) n k st hk, at_states, at_lines, e1, i1, zipW_map, List.append_nil, lc, hs, cut_self]
  · simp (disch := first | assumption | (simp; done) | omega | (simp; omega) | decide) only [bd_st, bdR_ok, bdR_ex, bdR_no, pu_st, no_st, bo_ok, bo_ex, bo_no, thn_nx, thn_rt, thn_ex, thn_no, res_nx, res_rt, res_ex, res_no, nxs_st, rts_st, bos_st, iteS_t, iteS_f, exSs_nil, exSs_cons, exS_ex, exS_asg, exS_par, exS_ret, exS_ret0, exS_pas, exS_ite, exS_loop, exS_tri, exS_rai, exS_sat, exS_six, triS_nx, triS_rt, triS_ex, ev_v, ev_cst, ev_gi, ev_bin, ev_neg, negK_int, ev_cmp, ev_chn, chnK_t, chnK_f, ev_isN, ev_ntN, noneB, ev_and, ev_or, andK_t, andK_f, orK_t, orK_f, notK_bl, ev_not, ev_ite, ev_tup, ev_lst, ev_idx, ev_slc, ev_att, ev_call, ev_mth, ev_new, ev_bi, ev_bm, ev_lc, ev_frz, ev_tupS, ev_lstS, evz_nil, evz_f, evz_t, evT_yes, evT_e, andT_t, andT_f, orT_t, orT_f, evT_and, evT_or, evT_not, evO_om, evO_e, intO_int, evs_nil, evs_cons, evI_sq, evI_en, evI_zp, evI_r1, evI_r2, asgn_nm, asgn_tp, asgns_nil, asgns_cons, oneS_st, lcOne_st, add_int, sub_int, items_lst, items_fro, items_tup, itemsN_lst, itemsN_fro, itemsL_lst, lt_int, le_int, gt_int, ge_int, eq_int, ne_int, tru_b, tru_non, tru_lst, tru_tup, int_int, isBool_bl, nox_k, Cn.w, srcOf_lst, srcOf_tup, srcOf_fro, srcOf_ref, still_nil, List.getElem?_cons_zero, List.getElem?_cons_succ, List.set_cons_zero, List.set_cons_succ, startE, List.map_cons, List.map_nil, List.length_cons, List.length_nil, List.length_map, List.length_range, List.cons_append, List.nil_append, List.replicate_succ, List.replicate_zero, wipeE, unE, Nat.reduceAdd, Nat.reduceSub, decide_true, decide_false, Bool.not_true, Bool.not_false, mul_int, mod_int, fdiv_int, pow_int, mkL_f, mkL_t, len_lst, len_tup, len_fro, tuple_lst, tuple_tup, tuple_fro, list_lst, list_tup, list_fro, int_bl, min_two, max_two, tupK_ok, f5, b5, m2, sig_ok (rows := rows) (lev := lev) n k st hk, at_states, at_lines, e1, i1, zipW_map, List.append_nil, lc, hs, cut_self]
end
end Mi.K46
set_option maxHeartbeats 4000000
namespace Mi.K46
open PySem Mi
section
variable {rows : List (List Int)} {lev : Nat}
def joinR (rows : List (List Int)) (k : Nat) : List (List Int) := rows.take k ++ both rows[k]! rows[k + 1]! :: rows.drop (k + 2)
theorem joined_ok (n : Nat) (k : Nat) (st : Store) (h : Wt rows lev) (hk : k + 1 < rows.length) (hj : Wt (joinR rows k) lev) (hn : ¬ nought (joinR rows k)) :
    run T (n + 3) 6 [sgW rows lev, .int k, .int ((k + 1 : Nat) : Int)] st = .ok (sgW (joinR rows k) lev) st := by
  rw [run_eq (d := f6) rfl rfl]
  have m2 := fun {ws s F} => mt (rows := rows) (lev := lev) (f := 2) (ws := ws) (s := s) (F := F) rfl
  have hl := h.l2
  have hk' : k < rows.length := by omega
  have e1 : ((k : Int) + 1) = ((k + 1 : Nat) : Int) := rfl
  have e2 : (((k + 1 : Nat) : Int) + 1) = ((k + 2 : Nat) : Int) := rfl
  have i1 : ∀ s, idxW (.tup (rows.map tW)) (.int (k : Int)) s = .ok (tW rows[k]!) s := fun s => idx_tup hk'
  have i2 : ∀ s, idxW (.tup (rows.map tW)) (.int ((k + 1 : Nat) : Int)) s = .ok (tW rows[k + 1]!) s := fun s => idx_tup hk
  have hlen := h.get hk'
  have lc : lcW false (lcOne T (run T (n + 2)) none [4, 5] x6_0 (.tp [(.nm 4), (.nm 5)]) .yes [some (sgW rows lev), some (.int k), some (.int ((k + 1 : Nat) : Int)), none, none, none]) ⟨(rows[k]!.zip rows[k + 1]!).map fun p => W.tup [.int p.1, .int p.2], []⟩ st = .ok (lW (both rows[k]! rows[k + 1]!)) st := by
    unfold both
    rw [lW, List.map_map]
    refine lc_map _ still_nil (by rw [List.length_zip]; omega) ?_ ?_
    · rintro ⟨x, y⟩ hp acc
      simp (disch := first | assumption | (simp; done) | omega | (simp; omega) | decide) only [bd_st, bdR_ok, bdR_ex, bdR_no, pu_st, no_st, bo_ok, bo_ex, bo_no, thn_nx, thn_rt, thn_ex, thn_no, res_nx, res_rt, res_ex, res_no, nxs_st, rts_st, bos_st, iteS_t, iteS_f, exSs_nil, exSs_cons, exS_ex, exS_asg, exS_par, exS_ret, exS_ret0, exS_pas, exS_ite, exS_loop, exS_tri, exS_rai, exS_sat, exS_six, triS_nx, triS_rt, triS_ex, ev_v, ev_cst, ev_gi, ev_bin, ev_neg, negK_int, ev_cmp, ev_chn, chnK_t, chnK_f, ev_isN, ev_ntN, noneB, ev_and, ev_or, andK_t, andK_f, orK_t, orK_f, notK_bl, ev_not, ev_ite, ev_tup, ev_lst, ev_idx, ev_slc, ev_att, ev_call, ev_mth, ev_new, ev_bi, ev_bm, ev_lc, ev_frz, ev_tupS, ev_lstS, evz_nil, evz_f, evz_t, evT_yes, evT_e, andT_t, andT_f, orT_t, orT_f, evT_and, evT_or, evT_not, evO_om, evO_e, intO_int, evs_nil, evs_cons, evI_sq, evI_en, evI_zp, evI_r1, evI_r2, asgn_nm, asgn_tp, asgns_nil, asgns_cons, oneS_st, lcOne_st, add_int, sub_int, items_lst, items_fro, items_tup, itemsN_lst, itemsN_fro, itemsL_lst, lt_int, le_int, gt_int, ge_int, eq_int, ne_int, tru_b, tru_non, tru_lst, tru_tup, int_int, isBool_bl, nox_k, Cn.w, srcOf_lst, srcOf_tup, srcOf_fro, srcOf_ref, still_nil, List.getElem?_cons_zero, List.getElem?_cons_succ, List.set_cons_zero, List.set_cons_succ, startE, List.map_cons, List.map_nil, List.length_cons, List.length_nil, List.length_map, List.length_range, List.cons_append, List.nil_append, List.replicate_succ, List.replicate_zero, wipeE, unE, Nat.reduceAdd, Nat.reduceSub, decide_true, decide_false, Bool.not_true, Bool.not_false, mul_int, mod_int, fdiv_int, pow_int, mkL_f, mkL_t, len_lst, len_tup, len_fro, tuple_lst, tuple_tup, tuple_fro, list_lst, list_tup, list_fro, int_bl, min_two, max_two, tupK_ok, x6_0]
      rfl
    · intro p _; rfl
  have s1 : ∀ s, slcW false (.tup (rows.map tW)) none (some (k : Int)) s = .ok (.tup ((rows.take k).map tW)) s := fun s => by rw [slc_tup, slice_to, List.map_take]
  have s2 : ∀ s, slcW false (.tup (rows.map tW)) (some ((k + 2 : Nat) : Int)) none s = .ok (.tup ((rows.drop (k + 2)).map tW)) s := fun s => by rw [slc_tup, slice_from, List.map_drop]
  have hrl : (joinR rows k).length ≤ 5 := hj.n2
  have hws : ((rows.take k).map tW ++ lW (both rows[k]! rows[k + 1]!) :: ((rows.drop (k + 2)).map tW)).length ≤ 16777216 := by
    have : (joinR rows k).length = ((rows.take k).map tW ++ lW (both rows[k]! rows[k + 1]!) :: ((rows.drop (k + 2)).map tW)).length := by simp [joinR]
    omega
  have hR : Rws st (.lst ((rows.take k).map tW ++ lW (both rows[k]! rows[k + 1]!) :: ((rows.drop (k + 2)).map tW))) (joinR rows k) := by
    refine RL.rws (st := st) (ws := (rows.take k).map tW ++ lW (both rows[k]! rows[k + 1]!) :: ((rows.drop (k + 2)).map tW)) rfl ?_
    exact RL.app RL.tups ⟨rfl, RL.tups⟩
  have hN := new_ok n _ (joinR rows k) lev st hR hj
  rw [if_neg hn] at hN
  simp (disch := first | assumption | (simp; done) | omega | (simp; omega) | decide) only [bd_st, bdR_ok, bdR_ex, bdR_no, pu_st, no_st, bo_ok, bo_ex, bo_no, thn_nx, thn_rt, thn_ex, thn_no, res_nx, res_rt, res_ex, res_no, nxs_st, rts_st, bos_st, iteS_t, iteS_f, exSs_nil, exSs_cons, exS_ex, exS_asg, exS_par, exS_ret, exS_ret0, exS_pas, exS_ite, exS_loop, exS_tri, exS_rai, exS_sat, exS_six, triS_nx, triS_rt, triS_ex, ev_v, ev_cst, ev_gi, ev_bin, ev_neg, negK_int, ev_cmp, ev_chn, chnK_t, chnK_f, ev_isN, ev_ntN, noneB, ev_and, ev_or, andK_t, andK_f, orK_t, orK_f, notK_bl, ev_not, ev_ite, ev_tup, ev_lst, ev_idx, ev_slc, ev_att, ev_call, ev_mth, ev_new, ev_bi, ev_bm, ev_lc, ev_frz, ev_tupS, ev_lstS, evz_nil, evz_f, evz_t, evT_yes, evT_e, andT_t, andT_f, orT_t, orT_f, evT_and, evT_or, evT_not, evO_om, evO_e, intO_int, evs_nil, evs_cons, evI_sq, evI_en, evI_zp, evI_r1, evI_r2, asgn_nm, asgn_tp, asgns_nil, asgns_cons, oneS_st, lcOne_st, add_int, sub_int, items_lst, items_fro, items_tup, itemsN_lst, itemsN_fro, itemsL_lst, lt_int, le_int, gt_int, ge_int, eq_int, ne_int, tru_b, tru_non, tru_lst, tru_tup, int_int, isBool_bl, nox_k, Cn.w, srcOf_lst, srcOf_tup, srcOf_fro, srcOf_ref, still_nil, List.getElem?_cons_zero, List.getElem?_cons_succ, List.set_cons_zero, List.set_cons_succ, startE, List.map_cons, List.map_nil, List.length_cons, List.length_nil, List.length_map, List.length_range, List.cons_append, List.nil_append, List.replicate_succ, List.replicate_zero, wipeE, unE, Nat.reduceAdd, Nat.reduceSub, decide_true, decide_false, Bool.not_true, Bool.not_false, mul_int, mod_int, fdiv_int, pow_int, mkL_f, mkL_t, len_lst, len_tup, len_fro, tuple_lst, tuple_tup, tuple_fro, list_lst, list_tup, list_fro, int_bl, min_two, max_two, tupK_ok, f6, b6, m2, sig_ok (rows := rows) (lev := lev) (n + 1) k st hk', sig_ok (rows := rows) (lev := lev) (n + 1) (k + 1) st hk, e1, e2, at_lines, i1, i2, zipW_map, List.append_nil, lc, s1, s2, hN, cut_self]
/-! parts -/
def partR (rows : List (List Int)) (ss : List Nat) : List (List Int) := rows.map fun r => ss.map fun s => r[s]!
theorem part_ok (n : Nat) (ss : List Nat) (st : Store) (h : Wt rows lev) (hs : ∀ s ∈ ss, s < lev) (hp : ss.Pairwise (· < ·)) (hl : 0 < ss.length) (hj : Wt (partR rows ss) ss.length) :
    run T (n + 3) 7 [sgW rows lev, .lst (ss.map fun (s : Nat) => .int (s : Int))] st = (if nought (partR rows ss) then .ex 0 [.int 0] st else .ok (sgW (partR rows ss) ss.length) st) := by
  rw [run_eq (d := f7) rfl rfl]
  have hl5 := hj.l2
  have e0 : ¬ ((ss.length : Int) = 0) := by omega
  have hn2 := h.n2
  obtain ⟨_, ⟨x, y, z, rfl⟩, h2⟩ := loop_map (st := st) (one := oneS T (run T (n + 2)) none (.tp [.nm 2, .nm 3]) b7_2) (src := []) (fun (i : Nat) => W.tup [.int (i : Nat), .int (ss[i]! : Nat)]) (fun env => ∃ x y z, env = [some (sgW rows lev), some (.lst (ss.map fun (s : Nat) => .int (s : Int))), x, y, z])
    (fun _ => none) still_nil (List.range ss.length) (by
      rintro i hi _ ⟨x, y, z, rfl⟩
      have hi' : i < ss.length := by simpa using hi
      have hm : ss[i]! ∈ ss := by simp [hi']
      have b1 : (0 : Int) ≤ (ss[i]! : Int) := by omega
      have b2 : (ss[i]! : Int) < (lev : Int) := by have := hs _ hm; omega
      refine ⟨_, ⟨some (.int (i : Nat)), some (.int (ss[i]! : Nat)), z, rfl⟩, ?_⟩
      by_cases e : (0 : Int) < (i : Int)
      · have e3 : ((i : Int) - 1) = ((i - 1 : Nat) : Int) := by omega
        have ix : idxW (.lst (ss.map fun (s : Nat) => W.int (s : Int))) (.int ((i - 1 : Nat) : Int)) st = .ok (.int (ss[i - 1]! : Nat)) st := idx_lst (by omega)
        have lt : ¬ (ss[i]! : Int) ≤ (ss[i - 1]! : Int) := by
          have h1 := List.pairwise_iff_getElem.mp hp (i - 1) i (by omega) hi' (by omega)
          have g1 : ss[i]! = ss[i] := by simp [hi']
          have g2 : ss[i - 1]! = ss[i - 1] := by have : i - 1 < ss.length := by omega
                                                 simp [this]
          rw [g1, g2]; omega
        simp (disch := first | assumption | (simp; done) | omega | (simp; omega) | decide) only [bd_st, bdR_ok, bdR_ex, bdR_no, pu_st, no_st, bo_ok, bo_ex, bo_no, thn_nx, thn_rt, thn_ex, thn_no, res_nx, res_rt, res_ex, res_no, nxs_st, rts_st, bos_st, iteS_t, iteS_f, exSs_nil, exSs_cons, exS_ex, exS_asg, exS_par, exS_ret, exS_ret0, exS_pas, exS_ite, exS_loop, exS_tri, exS_rai, exS_sat, exS_six, triS_nx, triS_rt, triS_ex, ev_v, ev_cst, ev_gi, ev_bin, ev_neg, negK_int, ev_cmp, ev_chn, chnK_t, chnK_f, ev_isN, ev_ntN, noneB, ev_and, ev_or, andK_t, andK_f, orK_t, orK_f, notK_bl, ev_not, ev_ite, ev_tup, ev_lst, ev_idx, ev_slc, ev_att, ev_call, ev_mth, ev_new, ev_bi, ev_bm, ev_lc, ev_frz, ev_tupS, ev_lstS, evz_nil, evz_f, evz_t, evT_yes, evT_e, andT_t, andT_f, orT_t, orT_f, evT_and, evT_or, evT_not, evO_om, evO_e, intO_int, evs_nil, evs_cons, evI_sq, evI_en, evI_zp, evI_r1, evI_r2, asgn_nm, asgn_tp, asgns_nil, asgns_cons, oneS_st, lcOne_st, add_int, sub_int, items_lst, items_fro, items_tup, itemsN_lst, itemsN_fro, itemsL_lst, lt_int, le_int, gt_int, ge_int, eq_int, ne_int, tru_b, tru_non, tru_lst, tru_tup, int_int, isBool_bl, nox_k, Cn.w, srcOf_lst, srcOf_tup, srcOf_fro, srcOf_ref, still_nil, List.getElem?_cons_zero, List.getElem?_cons_succ, List.set_cons_zero, List.set_cons_succ, startE, List.map_cons, List.map_nil, List.length_cons, List.length_nil, List.length_map, List.length_range, List.cons_append, List.nil_append, List.replicate_succ, List.replicate_zero, wipeE, unE, Nat.reduceAdd, Nat.reduceSub, decide_true, decide_false, Bool.not_true, Bool.not_false, mul_int, mod_int, fdiv_int, pow_int, mkL_f, mkL_t, len_lst, len_tup, len_fro, tuple_lst, tuple_tup, tuple_fro, list_lst, list_tup, list_fro, int_bl, min_two, max_two, tupK_ok, b7_2, at_states, b1, b2, e, e3, ix, lt, fin]
      · simp (disch := first | assumption | (simp; done) | omega | (simp; omega) | decide) only [bd_st, bdR_ok, bdR_ex, bdR_no, pu_st, no_st, bo_ok, bo_ex, bo_no, thn_nx, thn_rt, thn_ex, thn_no, res_nx, res_rt, res_ex, res_no, nxs_st, rts_st, bos_st, iteS_t, iteS_f, exSs_nil, exSs_cons, exS_ex, exS_asg, exS_par, exS_ret, exS_ret0, exS_pas, exS_ite, exS_loop, exS_tri, exS_rai, exS_sat, exS_six, triS_nx, triS_rt, triS_ex, ev_v, ev_cst, ev_gi, ev_bin, ev_neg, negK_int, ev_cmp, ev_chn, chnK_t, chnK_f, ev_isN, ev_ntN, noneB, ev_and, ev_or, andK_t, andK_f, orK_t, orK_f, notK_bl, ev_not, ev_ite, ev_tup, ev_lst, ev_idx, ev_slc, ev_att, ev_call, ev_mth, ev_new, ev_bi, ev_bm, ev_lc, ev_frz, ev_tupS, ev_lstS, evz_nil, evz_f, evz_t, evT_yes, evT_e, andT_t, andT_f, orT_t, orT_f, evT_and, evT_or, evT_not, evO_om, evO_e, intO_int, evs_nil, evs_cons, evI_sq, evI_en, evI_zp, evI_r1, evI_r2, asgn_nm, asgn_tp, asgns_nil, asgns_cons, oneS_st, lcOne_st, add_int, sub_int, items_lst, items_fro, items_tup, itemsN_lst, itemsN_fro, itemsL_lst, lt_int, le_int, gt_int, ge_int, eq_int, ne_int, tru_b, tru_non, tru_lst, tru_tup, int_int, isBool_bl, nox_k, Cn.w, srcOf_lst, srcOf_tup, srcOf_fro, srcOf_ref, still_nil, List.getElem?_cons_zero, List.getElem?_cons_succ, List.set_cons_zero, List.set_cons_succ, startE, List.map_cons, List.map_nil, List.length_cons, List.length_nil, List.length_map, List.length_range, List.cons_append, List.nil_append, List.replicate_succ, List.replicate_zero, wipeE, unE, Nat.reduceAdd, Nat.reduceSub, decide_true, decide_false, Bool.not_true, Bool.not_false, mul_int, mod_int, fdiv_int, pow_int, mkL_f, mkL_t, len_lst, len_tup, len_fro, tuple_lst, tuple_tup, tuple_fro, list_lst, list_tup, list_fro, int_bl, min_two, max_two, tupK_ok, b7_2, at_states, b1, b2, e, fin]) _ ⟨none, none, none, rfl⟩
  have hfn : (List.range ss.length).findSome? (fun _ => (none : Fo)) = none := by simp
  rw [hfn] at h2
  have lc : lcW false (lcOne T (run T (n + 2)) none [4] x7_1 (.nm 4) .yes [some (sgW rows lev), some (.lst (ss.map fun (s : Nat) => .int (s : Int))), x, y, z]) ⟨rows.map tW, []⟩ st = .ok (.lst ((partR rows ss).map lW)) st := by
    unfold partR
    rw [List.map_map]
    refine lc_map _ still_nil (by omega) ?_ ?_
    · intro r hr acc
      have hrl := h.len r hr
      have li : ∀ (env : Ev), env = [some (sgW rows lev), some (.lst (ss.map fun (s : Nat) => .int (s : Int))), x, y, some (tW r)] → lcW false (lcOne T (run T (n + 2)) none [3] x7_0 (.nm 3) .yes env) ⟨ss.map fun (s : Nat) => .int (s : Int), []⟩ (st ++ [some (.lst acc)]) = .ok (lW (ss.map fun s => r[s]!)) (st ++ [some (.lst acc)]) := by
        rintro _ rfl
        rw [lW, List.map_map]
        refine lc_map _ still_nil (by omega) ?_ ?_
        · intro s hs' acc'
          have := hs s hs'
          have ix : ∀ u, idxW (tW r) (.int (s : Int)) u = .ok (.int r[s]!) u := fun u => idx_tup (by omega)
          simp (disch := first | assumption | (simp; done) | omega | (simp; omega) | decide) only [bd_st, bdR_ok, bdR_ex, bdR_no, pu_st, no_st, bo_ok, bo_ex, bo_no, thn_nx, thn_rt, thn_ex, thn_no, res_nx, res_rt, res_ex, res_no, nxs_st, rts_st, bos_st, iteS_t, iteS_f, exSs_nil, exSs_cons, exS_ex, exS_asg, exS_par, exS_ret, exS_ret0, exS_pas, exS_ite, exS_loop, exS_tri, exS_rai, exS_sat, exS_six, triS_nx, triS_rt, triS_ex, ev_v, ev_cst, ev_gi, ev_bin, ev_neg, negK_int, ev_cmp, ev_chn, chnK_t, chnK_f, ev_isN, ev_ntN, noneB, ev_and, ev_or, andK_t, andK_f, orK_t, orK_f, notK_bl, ev_not, ev_ite, ev_tup, ev_lst, ev_idx, ev_slc, ev_att, ev_call, ev_mth, ev_new, ev_bi, ev_bm, ev_lc, ev_frz, ev_tupS, ev_lstS, evz_nil, evz_f, evz_t, evT_yes, evT_e, andT_t, andT_f, orT_t, orT_f, evT_and, evT_or, evT_not, evO_om, evO_e, intO_int, evs_nil, evs_cons, evI_sq, evI_en, evI_zp, evI_r1, evI_r2, asgn_nm, asgn_tp, asgns_nil, asgns_cons, oneS_st, lcOne_st, add_int, sub_int, items_lst, items_fro, items_tup, itemsN_lst, itemsN_fro, itemsL_lst, lt_int, le_int, gt_int, ge_int, eq_int, ne_int, tru_b, tru_non, tru_lst, tru_tup, int_int, isBool_bl, nox_k, Cn.w, srcOf_lst, srcOf_tup, srcOf_fro, srcOf_ref, still_nil, List.getElem?_cons_zero, List.getElem?_cons_succ, List.set_cons_zero, List.set_cons_succ, startE, List.map_cons, List.map_nil, List.length_cons, List.length_nil, List.length_map, List.length_range, List.cons_append, List.nil_append, List.replicate_succ, List.replicate_zero, wipeE, unE, Nat.reduceAdd, Nat.reduceSub, decide_true, decide_false, Bool.not_true, Bool.not_false, mul_int, mod_int, fdiv_int, pow_int, mkL_f, mkL_t, len_lst, len_tup, len_fro, tuple_lst, tuple_tup, tuple_fro, list_lst, list_tup, list_fro, int_bl, min_two, max_two, tupK_ok, x7_0, ix]
          rfl
        · intro s _; rfl
      simp (disch := first | assumption | (simp; done) | omega | (simp; omega) | decide) only [bd_st, bdR_ok, bdR_ex, bdR_no, pu_st, no_st, bo_ok, bo_ex, bo_no, thn_nx, thn_rt, thn_ex, thn_no, res_nx, res_rt, res_ex, res_no, nxs_st, rts_st, bos_st, iteS_t, iteS_f, exSs_nil, exSs_cons, exS_ex, exS_asg, exS_par, exS_ret, exS_ret0, exS_pas, exS_ite, exS_loop, exS_tri, exS_rai, exS_sat, exS_six, triS_nx, triS_rt, triS_ex, ev_v, ev_cst, ev_gi, ev_bin, ev_neg, negK_int, ev_cmp, ev_chn, chnK_t, chnK_f, ev_isN, ev_ntN, noneB, ev_and, ev_or, andK_t, andK_f, orK_t, orK_f, notK_bl, ev_not, ev_ite, ev_tup, ev_lst, ev_idx, ev_slc, ev_att, ev_call, ev_mth, ev_new, ev_bi, ev_bm, ev_lc, ev_frz, ev_tupS, ev_lstS, evz_nil, evz_f, evz_t, evT_yes, evT_e, andT_t, andT_f, orT_t, orT_f, evT_and, evT_or, evT_not, evO_om, evO_e, intO_int, evs_nil, evs_cons, evI_sq, evI_en, evI_zp, evI_r1, evI_r2, asgn_nm, asgn_tp, asgns_nil, asgns_cons, oneS_st, lcOne_st, add_int, sub_int, items_lst, items_fro, items_tup, itemsN_lst, itemsN_fro, itemsL_lst, lt_int, le_int, gt_int, ge_int, eq_int, ne_int, tru_b, tru_non, tru_lst, tru_tup, int_int, isBool_bl, nox_k, Cn.w, srcOf_lst, srcOf_tup, srcOf_fro, srcOf_ref, still_nil, List.getElem?_cons_zero, List.getElem?_cons_succ, List.set_cons_zero, List.set_cons_succ, startE, List.map_cons, List.map_nil, List.length_cons, List.length_nil, List.length_map, List.length_range, List.cons_append, List.nil_append, List.replicate_succ, List.replicate_zero, wipeE, unE, Nat.reduceAdd, Nat.reduceSub, decide_true, decide_false, Bool.not_true, Bool.not_false, mul_int, mod_int, fdiv_int, pow_int, mkL_f, mkL_t, len_lst, len_tup, len_fro, tuple_lst, tuple_tup, tuple_fro, list_lst, list_tup, list_fro, int_bl, min_two, max_two, tupK_ok, x7_1, li _ rfl]
      rfl
    · intro r _
      simp [W.clo, W.clos_iff]
  have hR : Rws st (.lst ((partR rows ss).map lW)) (partR rows ss) := ⟨fun i => lW (partR rows ss)[i]!, by show _ = _; rw [map_range (f := lW)], fun i hi => rfl⟩
  have hN := new_ok n _ (partR rows ss) ss.length st hR hj
  by_cases e : nought (partR rows ss)
  · rw [if_pos e] at hN ⊢
    simp (disch := first | assumption | (simp; done) | omega | (simp; omega) | decide) only [bd_st, bdR_ok, bdR_ex, bdR_no, pu_st, no_st, bo_ok, bo_ex, bo_no, thn_nx, thn_rt, thn_ex, thn_no, res_nx, res_rt, res_ex, res_no, nxs_st, rts_st, bos_st, iteS_t, iteS_f, exSs_nil, exSs_cons, exS_ex, exS_asg, exS_par, exS_ret, exS_ret0, exS_pas, exS_ite, exS_loop, exS_tri, exS_rai, exS_sat, exS_six, triS_nx, triS_rt, triS_ex, ev_v, ev_cst, ev_gi, ev_bin, ev_neg, negK_int, ev_cmp, ev_chn, chnK_t, chnK_f, ev_isN, ev_ntN, noneB, ev_and, ev_or, andK_t, andK_f, orK_t, orK_f, notK_bl, ev_not, ev_ite, ev_tup, ev_lst, ev_idx, ev_slc, ev_att, ev_call, ev_mth, ev_new, ev_bi, ev_bm, ev_lc, ev_frz, ev_tupS, ev_lstS, evz_nil, evz_f, evz_t, evT_yes, evT_e, andT_t, andT_f, orT_t, orT_f, evT_and, evT_or, evT_not, evO_om, evO_e, intO_int, evs_nil, evs_cons, evI_sq, evI_en, evI_zp, evI_r1, evI_r2, asgn_nm, asgn_tp, asgns_nil, asgns_cons, oneS_st, lcOne_st, add_int, sub_int, items_lst, items_fro, items_tup, itemsN_lst, itemsN_fro, itemsL_lst, lt_int, le_int, gt_int, ge_int, eq_int, ne_int, tru_b, tru_non, tru_lst, tru_tup, int_int, isBool_bl, nox_k, Cn.w, srcOf_lst, srcOf_tup, srcOf_fro, srcOf_ref, still_nil, List.getElem?_cons_zero, List.getElem?_cons_succ, List.set_cons_zero, List.set_cons_succ, startE, List.map_cons, List.map_nil, List.length_cons, List.length_nil, List.length_map, List.length_range, List.cons_append, List.nil_append, List.replicate_succ, List.replicate_zero, wipeE, unE, Nat.reduceAdd, Nat.reduceSub, decide_true, decide_false, Bool.not_true, Bool.not_false, mul_int, mod_int, fdiv_int, pow_int, mkL_f, mkL_t, len_lst, len_tup, len_fro, tuple_lst, tuple_tup, tuple_fro, list_lst, list_tup, list_fro, int_bl, min_two, max_two, tupK_ok, f7, b7, e0, enumW_map, loopS_st, h2, fin_none, at_lines, lc, hN, cut_ex_self]
  · rw [if_neg e] at hN ⊢
    simp (disch := first | assumption | (simp; done) | omega | (simp; omega) | decide) only [bd_st, bdR_ok, bdR_ex, bdR_no, pu_st, no_st, bo_ok, bo_ex, bo_no, thn_nx, thn_rt, thn_ex, thn_no, res_nx, res_rt, res_ex, res_no, nxs_st, rts_st, bos_st, iteS_t, iteS_f, exSs_nil, exSs_cons, exS_ex, exS_asg, exS_par, exS_ret, exS_ret0, exS_pas, exS_ite, exS_loop, exS_tri, exS_rai, exS_sat, exS_six, triS_nx, triS_rt, triS_ex, ev_v, ev_cst, ev_gi, ev_bin, ev_neg, negK_int, ev_cmp, ev_chn, chnK_t, chnK_f, ev_isN, ev_ntN, noneB, ev_and, ev_or, andK_t, andK_f, orK_t, orK_f, notK_bl, ev_not, ev_ite, ev_tup, ev_lst, ev_idx, ev_slc, ev_att, ev_call, ev_mth, ev_new, ev_bi, ev_bm, ev_lc, ev_frz, ev_tupS, ev_lstS, evz_nil, evz_f, evz_t, evT_yes, evT_e, andT_t, andT_f, orT_t, orT_f, evT_and, evT_or, evT_not, evO_om, evO_e, intO_int, evs_nil, evs_cons, evI_sq, evI_en, evI_zp, evI_r1, evI_r2, asgn_nm, asgn_tp, asgns_nil, asgns_cons, oneS_st, lcOne_st, add_int, sub_int, items_lst, items_fro, items_tup, itemsN_lst, itemsN_fro, itemsL_lst, lt_int, le_int, gt_int, ge_int, eq_int, ne_int, tru_b, tru_non, tru_lst, tru_tup, int_int, isBool_bl, nox_k, Cn.w, srcOf_lst, srcOf_tup, srcOf_fro, srcOf_ref, still_nil, List.getElem?_cons_zero, List.getElem?_cons_succ, List.set_cons_zero, List.set_cons_succ, startE, List.map_cons, List.map_nil, List.length_cons, List.length_nil, List.length_map, List.length_range, List.cons_append, List.nil_append, List.replicate_succ, List.replicate_zero, wipeE, unE, Nat.reduceAdd, Nat.reduceSub, decide_true, decide_false, Bool.not_true, Bool.not_false, mul_int, mod_int, fdiv_int, pow_int, mkL_f, mkL_t, len_lst, len_tup, len_fro, tuple_lst, tuple_tup, tuple_fro, list_lst, list_tup, list_fro, int_bl, min_two, max_two, tupK_ok, f7, b7, e0, enumW_map, loopS_st, h2, fin_none, at_lines, lc, hN, cut_self]
theorem part0_ok (n : Nat) (st : Store) : run T (n + 3) 7 [sgW rows lev, .lst []] st = .ex 0 [.int 0] st := by
  rw [run_eq (d := f7) rfl rfl]
  simp (disch := first | assumption | (simp; done) | omega | (simp; omega) | decide) only [bd_st, bdR_ok, bdR_ex, bdR_no, pu_st, no_st, bo_ok, bo_ex, bo_no, thn_nx, thn_rt, thn_ex, thn_no, res_nx, res_rt, res_ex, res_no, nxs_st, rts_st, bos_st, iteS_t, iteS_f, exSs_nil, exSs_cons, exS_ex, exS_asg, exS_par, exS_ret, exS_ret0, exS_pas, exS_ite, exS_loop, exS_tri, exS_rai, exS_sat, exS_six, triS_nx, triS_rt, triS_ex, ev_v, ev_cst, ev_gi, ev_bin, ev_neg, negK_int, ev_cmp, ev_chn, chnK_t, chnK_f, ev_isN, ev_ntN, noneB, ev_and, ev_or, andK_t, andK_f, orK_t, orK_f, notK_bl, ev_not, ev_ite, ev_tup, ev_lst, ev_idx, ev_slc, ev_att, ev_call, ev_mth, ev_new, ev_bi, ev_bm, ev_lc, ev_frz, ev_tupS, ev_lstS, evz_nil, evz_f, evz_t, evT_yes, evT_e, andT_t, andT_f, orT_t, orT_f, evT_and, evT_or, evT_not, evO_om, evO_e, intO_int, evs_nil, evs_cons, evI_sq, evI_en, evI_zp, evI_r1, evI_r2, asgn_nm, asgn_tp, asgns_nil, asgns_cons, oneS_st, lcOne_st, add_int, sub_int, items_lst, items_fro, items_tup, itemsN_lst, itemsN_fro, itemsL_lst, lt_int, le_int, gt_int, ge_int, eq_int, ne_int, tru_b, tru_non, tru_lst, tru_tup, int_int, isBool_bl, nox_k, Cn.w, srcOf_lst, srcOf_tup, srcOf_fro, srcOf_ref, still_nil, List.getElem?_cons_zero, List.getElem?_cons_succ, List.set_cons_zero, List.set_cons_succ, startE, List.map_cons, List.map_nil, List.length_cons, List.length_nil, List.length_map, List.length_range, List.cons_append, List.nil_append, List.replicate_succ, List.replicate_zero, wipeE, unE, Nat.reduceAdd, Nat.reduceSub, decide_true, decide_false, Bool.not_true, Bool.not_false, mul_int, mod_int, fdiv_int, pow_int, mkL_f, mkL_t, len_lst, len_tup, len_fro, tuple_lst, tuple_tup, tuple_fro, list_lst, list_tup, list_fro, int_bl, min_two, max_two, tupK_ok, f7, b7, Int.natCast_zero, rai_n (T := T) (c := 0) rfl, cut_ex_self]
end
end Mi.K46
set_option maxHeartbeats 4000000
namespace Mi.K46
open PySem Mi
section
variable {rows : List (List Int)} {lev : Nat}
theorem join_lt {i k : Nat} (h : i < k) (hk : k + 1 < rows.length) : (joinR rows k)[i]! = rows[i]! := by
  unfold joinR
  simp only [List.getElem!_eq_getElem?_getD]
  rw [List.getElem?_append_left (by simp; omega), List.getElem?_take_of_lt h]
theorem join_eq {k : Nat} (hk : k + 1 < rows.length) : (joinR rows k)[k]! = both rows[k]! rows[k + 1]! := by
  unfold joinR
  have htl : (rows.take k).length = k := by simp; omega
  rw [List.getElem!_eq_getElem?_getD, List.getElem?_append_right (by omega), htl]
  simp
theorem join_gt {i k : Nat} (h : k < i) (hk : k + 1 < rows.length) : (joinR rows k)[i]! = rows[i + 1]! := by
  unfold joinR
  have htl : (rows.take k).length = k := by simp; omega
  simp only [List.getElem!_eq_getElem?_getD]
  rw [List.getElem?_append_right (by omega), htl]
  have e : i - k = (i - (k + 1)) + 1 := by omega
  rw [e, List.getElem?_cons_succ, List.getElem?_drop]
  have e2 : k + 2 + (i - (k + 1)) = i + 1 := by omega
  rw [e2]
theorem join_len {k : Nat} (hk : k + 1 < rows.length) : (joinR rows k).length = rows.length - 1 := by unfold joinR; simp; omega
theorem join_mem {k : Nat} {r : List Int} (hk : k + 1 < rows.length) (h : r ∈ joinR rows k) : r ∈ rows ∨ r = both rows[k]! rows[k + 1]! := by
  unfold joinR at h
  rcases List.mem_append.mp h with h | h
  · exact .inl (List.mem_of_mem_take h)
  · rcases List.mem_cons.mp h with h | h
    · exact .inr h
    · exact .inl (List.mem_of_mem_drop h)
theorem join_wt {k : Nat} (h : Wt rows lev) (hk : k + 1 < rows.length) (hb : ∀ r ∈ rows, ∀ x ∈ r, x < 2 ^ 50) : Wt (joinR rows k) lev := by
  have hl := join_len hk
  have m1 : rows[k]! ∈ rows := h.mem (by omega)
  have m2 : rows[k + 1]! ∈ rows := h.mem hk
  have h2 := h.n2
  refine ⟨by omega, by omega, h.l1, h.l2, fun r hr => ?_, fun r hr x hx => ?_, fun r hr x hx => ?_⟩
  · rcases join_mem hk hr with hr | rfl
    · exact h.len r hr
    · rw [both_len (by rw [h.len _ m1, h.len _ m2]), h.len _ m1]
  · rcases join_mem hk hr with hr | rfl
    · exact h.nn r hr x hx
    · unfold both at hx
      obtain ⟨p, hp, rfl⟩ := List.mem_map.mp hx
      have := h.nn _ m1 _ (List.of_mem_zip hp).1
      have := h.nn _ m2 _ (List.of_mem_zip hp).2
      omega
  · rcases join_mem hk hr with hr | rfl
    · exact h.bd r hr x hx
    · unfold both at hx
      obtain ⟨p, hp, rfl⟩ := List.mem_map.mp hx
      have := hb _ m1 _ (List.of_mem_zip hp).1
      have := hb _ m2 _ (List.of_mem_zip hp).2
      omega
theorem sum_pos {r : List Int} (nn : ∀ x ∈ r, 0 ≤ x) : 0 ≤ r.sum := by
  induction r with
  | nil => simp
  | cons x r ih =>
    have := nn x List.mem_cons_self
    have := ih fun y hy => nn y (List.mem_cons_of_mem _ hy)
    simp; omega
theorem join_nn {k : Nat} (h : Wt rows lev) (hk : k + 1 < rows.length) (hn : ¬ nought rows) : ¬ nought (joinR rows k) := by
  rintro ⟨r, hr, e⟩
  have m1 : rows[k]! ∈ rows := h.mem (by omega)
  have m2 : rows[k + 1]! ∈ rows := h.mem hk
  rcases join_mem hk hr with hr | rfl
  · exact hn ⟨r, hr, e⟩
  · rw [both_sum (by rw [h.len _ m1, h.len _ m2])] at e
    have := sum_pos (h.nn _ m1)
    have := sum_pos (h.nn _ m2)
    exact hn ⟨_, m1, by omega⟩
theorem add_minor {a b c d e f : Int} (h1 : 0 ≤ a * c - b * d) (h2 : 0 ≤ a * e - b * f) : 0 ≤ a * (c + e) - b * (d + f) := by
  rw [Int.mul_add, Int.mul_add]; omega
theorem add_minor' {a b c d e f : Int} (h1 : 0 ≤ a * c - b * d) (h2 : 0 ≤ e * c - f * d) : 0 ≤ (a + e) * c - (b + f) * d := by
  rw [Int.add_mul, Int.add_mul]; omega
theorem join_ord {k : Nat} (h : Wt rows lev) (hk : k + 1 < rows.length) (hO : Ord rows lev) : Ord (joinR rows k) lev := by
  intro f s a b hfs hs hab hb
  rw [join_len hk] at hs
  have l1 := h.get (i := k) (by omega)
  have l2 := h.get hk
  have ga : (both rows[k]! rows[k + 1]!)[a]! = rows[k]![a]! + rows[k + 1]![a]! := both_get (by omega) (by omega)
  have gb : (both rows[k]! rows[k + 1]!)[b]! = rows[k]![b]! + rows[k + 1]![b]! := both_get (by omega) (by omega)
  unfold minor
  rcases Nat.lt_trichotomy s k with h1 | h1 | h1
  · rw [join_lt (by omega) hk, join_lt h1 hk]
    exact hO f s a b hfs (by omega) hab hb
  · subst h1
    rw [join_lt hfs hk, join_eq hk, ga, gb]
    exact add_minor (hO f s a b hfs (by omega) hab hb) (hO f (s + 1) a b (by omega) hk hab hb)
  · rw [join_gt h1 hk]
    rcases Nat.lt_trichotomy f k with h2 | h2 | h2
    · rw [join_lt h2 hk]
      exact hO f (s + 1) a b (by omega) (by omega) hab hb
    · subst h2
      rw [join_eq hk, ga, gb]
      exact add_minor' (hO f (s + 1) a b (by omega) (by omega) hab hb) (hO (f + 1) (s + 1) a b (by omega) (by omega) hab hb)
    · rw [join_gt h2 hk]
      exact hO (f + 1) (s + 1) a b (by omega) (by omega) hab hb
theorem part_get {ss : List Nat} {f a : Nat} (hf : f < rows.length) (ha : a < ss.length) : (partR rows ss)[f]![a]! = rows[f]![ss[a]!]! := by
  unfold partR
  simp [hf, ha]
theorem part_wt {ss : List Nat} (h : Wt rows lev) (hs : ∀ s ∈ ss, s < lev) (h1 : 0 < ss.length) (h5 : ss.length ≤ 5) : Wt (partR rows ss) ss.length := by
  have g : ∀ r ∈ rows, ∀ s ∈ ss, r[s]! ∈ r := by
    intro r hr s hs'
    have : s < r.length := by rw [h.len r hr]; exact hs s hs'
    simp [this]
  refine ⟨by unfold partR; simp; exact h.n1, by unfold partR; simp; exact h.n2, h1, h5, ?_, ?_, ?_⟩
  · intro r hr
    obtain ⟨q, hq, rfl⟩ := List.mem_map.mp hr
    simp
  · intro r hr x hx
    obtain ⟨q, hq, rfl⟩ := List.mem_map.mp hr
    obtain ⟨s, hs', rfl⟩ := List.mem_map.mp hx
    exact h.nn q hq _ (g q hq s hs')
  · intro r hr x hx
    obtain ⟨q, hq, rfl⟩ := List.mem_map.mp hr
    obtain ⟨s, hs', rfl⟩ := List.mem_map.mp hx
    exact h.bd q hq _ (g q hq s hs')
theorem part_ord {ss : List Nat} (hO : Ord rows lev) (hs : ∀ s ∈ ss, s < lev) (hp : ss.Pairwise (· < ·)) : Ord (partR rows ss) ss.length := by
  intro f s a b hfs hsl hab hb
  have hl : (partR rows ss).length = rows.length := by unfold partR; simp
  rw [hl] at hsl
  unfold minor
  rw [part_get (by omega) (by omega), part_get hsl hb, part_get (by omega) hb, part_get hsl (by omega)]
  refine hO f s _ _ hfs hsl ?_ ?_
  · have := List.pairwise_iff_getElem.mp hp a b (by omega) hb hab
    have ha : a < ss.length := by omega
    simpa [ha, hb] using this
  · exact hs _ (by simp [hb])
/-! functions -/
theorem crossing_ok (n : Nat) (l : List Int) (w : W) (st : Store) (hw : w = lW l ∨ w = tW l) (hl : l.length < 1000) : run T (n + 1) 10 [w] st = .ok (.bl (decide (crossR l))) st := by
  rw [run_eq (d := f10) rfl rfl]
  have lc : lcW false (lcOne T (run T n) none [2] x10_0 (.nm 2) .yes [some w, none, none]) ⟨l.map .int, []⟩ st = .ok (lW (l.map sg)) st := by
    rw [lW, List.map_map]
    refine lc_map _ still_nil (by omega) ?_ (fun x _ => rfl)
    intro x hx acc
    simp (disch := first | assumption | (simp; done) | omega | (simp; omega) | decide) only [bd_st, bdR_ok, bdR_ex, bdR_no, pu_st, no_st, bo_ok, bo_ex, bo_no, thn_nx, thn_rt, thn_ex, thn_no, res_nx, res_rt, res_ex, res_no, nxs_st, rts_st, bos_st, iteS_t, iteS_f, exSs_nil, exSs_cons, exS_ex, exS_asg, exS_par, exS_ret, exS_ret0, exS_pas, exS_ite, exS_loop, exS_tri, exS_rai, exS_sat, exS_six, triS_nx, triS_rt, triS_ex, ev_v, ev_cst, ev_gi, ev_bin, ev_neg, negK_int, ev_cmp, ev_chn, chnK_t, chnK_f, ev_isN, ev_ntN, noneB, ev_and, ev_or, andK_t, andK_f, orK_t, orK_f, notK_bl, ev_not, ev_ite, ev_tup, ev_lst, ev_idx, ev_slc, ev_att, ev_call, ev_mth, ev_new, ev_bi, ev_bm, ev_lc, ev_frz, ev_tupS, ev_lstS, evz_nil, evz_f, evz_t, evT_yes, evT_e, andT_t, andT_f, orT_t, orT_f, evT_and, evT_or, evT_not, evO_om, evO_e, intO_int, evs_nil, evs_cons, evI_sq, evI_en, evI_zp, evI_r1, evI_r2, asgn_nm, asgn_tp, asgns_nil, asgns_cons, oneS_st, lcOne_st, add_int, sub_int, items_lst, items_fro, items_tup, itemsN_lst, itemsN_fro, itemsL_lst, lt_int, le_int, gt_int, ge_int, eq_int, ne_int, tru_b, tru_non, tru_lst, tru_tup, int_int, isBool_bl, nox_k, Cn.w, srcOf_lst, srcOf_tup, srcOf_fro, srcOf_ref, still_nil, List.getElem?_cons_zero, List.getElem?_cons_succ, List.set_cons_zero, List.set_cons_succ, startE, List.map_cons, List.map_nil, List.length_cons, List.length_nil, List.length_map, List.length_range, List.cons_append, List.nil_append, List.replicate_succ, List.replicate_zero, wipeE, unE, Nat.reduceAdd, Nat.reduceSub, decide_true, decide_false, Bool.not_true, Bool.not_false, mul_int, mod_int, fdiv_int, pow_int, mkL_f, mkL_t, len_lst, len_tup, len_fro, tuple_lst, tuple_tup, tuple_fro, list_lst, list_tup, list_fro, int_bl, min_two, max_two, tupK_ok, x10_0]
    rfl
  have hs := sorted_lst (st := st) (l := l.map sg) (by simp; omega)
  have he : decide (l.map sg = sortInts (l.map sg)) = decide (crossR l) := decide_eq_decide.mpr sort_iff
  rcases hw with rfl | rfl
  · simp (disch := first | assumption | (simp; done) | omega | (simp; omega) | decide) only [bd_st, bdR_ok, bdR_ex, bdR_no, pu_st, no_st, bo_ok, bo_ex, bo_no, thn_nx, thn_rt, thn_ex, thn_no, res_nx, res_rt, res_ex, res_no, nxs_st, rts_st, bos_st, iteS_t, iteS_f, exSs_nil, exSs_cons, exS_ex, exS_asg, exS_par, exS_ret, exS_ret0, exS_pas, exS_ite, exS_loop, exS_tri, exS_rai, exS_sat, exS_six, triS_nx, triS_rt, triS_ex, ev_v, ev_cst, ev_gi, ev_bin, ev_neg, negK_int, ev_cmp, ev_chn, chnK_t, chnK_f, ev_isN, ev_ntN, noneB, ev_and, ev_or, andK_t, andK_f, orK_t, orK_f, notK_bl, ev_not, ev_ite, ev_tup, ev_lst, ev_idx, ev_slc, ev_att, ev_call, ev_mth, ev_new, ev_bi, ev_bm, ev_lc, ev_frz, ev_tupS, ev_lstS, evz_nil, evz_f, evz_t, evT_yes, evT_e, andT_t, andT_f, orT_t, orT_f, evT_and, evT_or, evT_not, evO_om, evO_e, intO_int, evs_nil, evs_cons, evI_sq, evI_en, evI_zp, evI_r1, evI_r2, asgn_nm, asgn_tp, asgns_nil, asgns_cons, oneS_st, lcOne_st, add_int, sub_int, items_lst, items_fro, items_tup, itemsN_lst, itemsN_fro, itemsL_lst, lt_int, le_int, gt_int, ge_int, eq_int, ne_int, tru_b, tru_non, tru_lst, tru_tup, int_int, isBool_bl, nox_k, Cn.w, srcOf_lst, srcOf_tup, srcOf_fro, srcOf_ref, still_nil, List.getElem?_cons_zero, List.getElem?_cons_succ, List.set_cons_zero, List.set_cons_succ, startE, List.map_cons, List.map_nil, List.length_cons, List.length_nil, List.length_map, List.length_range, List.cons_append, List.nil_append, List.replicate_succ, List.replicate_zero, wipeE, unE, Nat.reduceAdd, Nat.reduceSub, decide_true, decide_false, Bool.not_true, Bool.not_false, mul_int, mod_int, fdiv_int, pow_int, mkL_f, mkL_t, len_lst, len_tup, len_fro, tuple_lst, tuple_tup, tuple_fro, list_lst, list_tup, list_fro, int_bl, min_two, max_two, tupK_ok, f10, b10, lc, hs, eq_ints, he, cut_self]
  · simp (disch := first | assumption | (simp; done) | omega | (simp; omega) | decide) only [bd_st, bdR_ok, bdR_ex, bdR_no, pu_st, no_st, bo_ok, bo_ex, bo_no, thn_nx, thn_rt, thn_ex, thn_no, res_nx, res_rt, res_ex, res_no, nxs_st, rts_st, bos_st, iteS_t, iteS_f, exSs_nil, exSs_cons, exS_ex, exS_asg, exS_par, exS_ret, exS_ret0, exS_pas, exS_ite, exS_loop, exS_tri, exS_rai, exS_sat, exS_six, triS_nx, triS_rt, triS_ex, ev_v, ev_cst, ev_gi, ev_bin, ev_neg, negK_int, ev_cmp, ev_chn, chnK_t, chnK_f, ev_isN, ev_ntN, noneB, ev_and, ev_or, andK_t, andK_f, orK_t, orK_f, notK_bl, ev_not, ev_ite, ev_tup, ev_lst, ev_idx, ev_slc, ev_att, ev_call, ev_mth, ev_new, ev_bi, ev_bm, ev_lc, ev_frz, ev_tupS, ev_lstS, evz_nil, evz_f, evz_t, evT_yes, evT_e, andT_t, andT_f, orT_t, orT_f, evT_and, evT_or, evT_not, evO_om, evO_e, intO_int, evs_nil, evs_cons, evI_sq, evI_en, evI_zp, evI_r1, evI_r2, asgn_nm, asgn_tp, asgns_nil, asgns_cons, oneS_st, lcOne_st, add_int, sub_int, items_lst, items_fro, items_tup, itemsN_lst, itemsN_fro, itemsL_lst, lt_int, le_int, gt_int, ge_int, eq_int, ne_int, tru_b, tru_non, tru_lst, tru_tup, int_int, isBool_bl, nox_k, Cn.w, srcOf_lst, srcOf_tup, srcOf_fro, srcOf_ref, still_nil, List.getElem?_cons_zero, List.getElem?_cons_succ, List.set_cons_zero, List.set_cons_succ, startE, List.map_cons, List.map_nil, List.length_cons, List.length_nil, List.length_map, List.length_range, List.cons_append, List.nil_append, List.replicate_succ, List.replicate_zero, wipeE, unE, Nat.reduceAdd, Nat.reduceSub, decide_true, decide_false, Bool.not_true, Bool.not_false, mul_int, mod_int, fdiv_int, pow_int, mkL_f, mkL_t, len_lst, len_tup, len_fro, tuple_lst, tuple_tup, tuple_fro, list_lst, list_tup, list_fro, int_bl, min_two, max_two, tupK_ok, f10, b10, lc, hs, eq_ints, he, cut_self]
theorem bad_iff {l : List Int} : (∃ k, k ∈ List.range l.length ∧ ∃ y ∈ l.drop k, (0 ≤ l[k]! ∧ y < 0) ∨ (0 < l[k]! ∧ y ≤ 0)) ↔ ¬ crossR l := by
  rw [crossR_iff]
  constructor
  · rintro ⟨k, hk, y, hy, h⟩ hc
    obtain ⟨j, hj, e⟩ := List.mem_iff_getElem.mp hy
    simp at hk hj e
    by_cases hj0 : j = 0
    · subst hj0
      simp [hk] at h
      subst e
      simp at h
      omega
    · have := hc k (k + j) (by omega) (by omega)
      rw [sg_le] at this
      have g : l[k + j]! = y := by rw [← e]; simp [show k + j < l.length by omega]
      rw [g] at this
      exact this h
  · intro h
    apply Classical.byContradiction
    intro hn
    apply h
    intro i j hij hj
    rw [sg_le]
    intro hb
    refine hn ⟨i, by simp; omega, l[j]!, ?_, hb⟩
    rw [List.mem_iff_getElem]
    exact ⟨j - i, by simp; omega, by simp [hj, show i + (j - i) = j by omega]⟩
theorem crosses_ok (n : Nat) (l : List Int) (st : Store) (hl : l.length < 1000) : run T (n + 1) 16 [lW l] st = .ok (.bl (decide (crossR l))) st := by
  rw [run_eq (d := f16) rfl rfl]
  obtain ⟨_, ⟨x, y, rfl⟩, h2⟩ := loop_map (st := st) (one := oneS T (run T n) none (.nm 1) b16_1) (src := []) (fun (k : Nat) => W.int (k : Nat)) (fun env => ∃ x y, env = [some (lW l), x, y])
    (fun k => rFo (if ∃ y ∈ l.drop k, (0 ≤ l[k]! ∧ y < 0) ∨ (0 < l[k]! ∧ y ≤ 0) then some (.bl false) else none)) still_nil (List.range l.length) (by
      rintro k hk _ ⟨x, y, rfl⟩
      have hk' : k < l.length := by simpa using hk
      obtain ⟨_, ⟨y', rfl⟩, h3⟩ := loop_map (st := st) (one := oneS T (run T n) none (.nm 2) b16_0) (src := []) W.int (fun env => ∃ y, env = [some (lW l), some (.int (k : Nat)), y])
        (fun z => rFo (if (0 ≤ l[k]! ∧ z < 0) ∨ (0 < l[k]! ∧ z ≤ 0) then some (.bl false) else none)) still_nil (l.drop k) (by
          rintro z hz _ ⟨y, rfl⟩
          refine ⟨_, ⟨some (.int z), rfl⟩, ?_⟩
          by_cases a1 : 0 ≤ l[k]! <;> by_cases a2 : z < 0 <;> by_cases a3 : 0 < l[k]! <;> by_cases a4 : z ≤ 0 <;> simp (disch := first | assumption | (simp; done) | omega | (simp; omega) | decide) only [bd_st, bdR_ok, bdR_ex, bdR_no, pu_st, no_st, bo_ok, bo_ex, bo_no, thn_nx, thn_rt, thn_ex, thn_no, res_nx, res_rt, res_ex, res_no, nxs_st, rts_st, bos_st, iteS_t, iteS_f, exSs_nil, exSs_cons, exS_ex, exS_asg, exS_par, exS_ret, exS_ret0, exS_pas, exS_ite, exS_loop, exS_tri, exS_rai, exS_sat, exS_six, triS_nx, triS_rt, triS_ex, ev_v, ev_cst, ev_gi, ev_bin, ev_neg, negK_int, ev_cmp, ev_chn, chnK_t, chnK_f, ev_isN, ev_ntN, noneB, ev_and, ev_or, andK_t, andK_f, orK_t, orK_f, notK_bl, ev_not, ev_ite, ev_tup, ev_lst, ev_idx, ev_slc, ev_att, ev_call, ev_mth, ev_new, ev_bi, ev_bm, ev_lc, ev_frz, ev_tupS, ev_lstS, evz_nil, evz_f, evz_t, evT_yes, evT_e, andT_t, andT_f, orT_t, orT_f, evT_and, evT_or, evT_not, evO_om, evO_e, intO_int, evs_nil, evs_cons, evI_sq, evI_en, evI_zp, evI_r1, evI_r2, asgn_nm, asgn_tp, asgns_nil, asgns_cons, oneS_st, lcOne_st, add_int, sub_int, items_lst, items_fro, items_tup, itemsN_lst, itemsN_fro, itemsL_lst, lt_int, le_int, gt_int, ge_int, eq_int, ne_int, tru_b, tru_non, tru_lst, tru_tup, int_int, isBool_bl, nox_k, Cn.w, srcOf_lst, srcOf_tup, srcOf_fro, srcOf_ref, still_nil, List.getElem?_cons_zero, List.getElem?_cons_succ, List.set_cons_zero, List.set_cons_succ, startE, List.map_cons, List.map_nil, List.length_cons, List.length_nil, List.length_map, List.length_range, List.cons_append, List.nil_append, List.replicate_succ, List.replicate_zero, wipeE, unE, Nat.reduceAdd, Nat.reduceSub, decide_true, decide_false, Bool.not_true, Bool.not_false, mul_int, mod_int, fdiv_int, pow_int, mkL_f, mkL_t, len_lst, len_tup, len_fro, tuple_lst, tuple_tup, tuple_fro, list_lst, list_tup, list_fro, int_bl, min_two, max_two, tupK_ok, b16_0, idx_lst, a1, a2, a3, a4, true_and, and_true, and_false, false_and, or_true, true_or, or_false, false_or, if_true, if_false, rFo, fin]) _ ⟨y, rfl⟩
      rw [findSome_rFo, findSome_const (p := fun z => (0 ≤ l[k]! ∧ z < 0) ∨ (0 < l[k]! ∧ z ≤ 0))] at h3
      have hs : slcW false (lW l) (some (k : Int)) none st = .ok (lW (l.drop k)) st := by
        rw [slc_lst, slice_from, mkL_f (by simp; omega), ← List.map_drop]
      refine ⟨_, ⟨some (.int (k : Nat)), y', rfl⟩, ?_⟩
      simp (disch := first | assumption | (simp; done) | omega | (simp; omega) | decide) only [bd_st, bdR_ok, bdR_ex, bdR_no, pu_st, no_st, bo_ok, bo_ex, bo_no, thn_nx, thn_rt, thn_ex, thn_no, res_nx, res_rt, res_ex, res_no, nxs_st, rts_st, bos_st, iteS_t, iteS_f, exSs_nil, exSs_cons, exS_ex, exS_asg, exS_par, exS_ret, exS_ret0, exS_pas, exS_ite, exS_loop, exS_tri, exS_rai, exS_sat, exS_six, triS_nx, triS_rt, triS_ex, ev_v, ev_cst, ev_gi, ev_bin, ev_neg, negK_int, ev_cmp, ev_chn, chnK_t, chnK_f, ev_isN, ev_ntN, noneB, ev_and, ev_or, andK_t, andK_f, orK_t, orK_f, notK_bl, ev_not, ev_ite, ev_tup, ev_lst, ev_idx, ev_slc, ev_att, ev_call, ev_mth, ev_new, ev_bi, ev_bm, ev_lc, ev_frz, ev_tupS, ev_lstS, evz_nil, evz_f, evz_t, evT_yes, evT_e, andT_t, andT_f, orT_t, orT_f, evT_and, evT_or, evT_not, evO_om, evO_e, intO_int, evs_nil, evs_cons, evI_sq, evI_en, evI_zp, evI_r1, evI_r2, asgn_nm, asgn_tp, asgns_nil, asgns_cons, oneS_st, lcOne_st, add_int, sub_int, items_lst, items_fro, items_tup, itemsN_lst, itemsN_fro, itemsL_lst, lt_int, le_int, gt_int, ge_int, eq_int, ne_int, tru_b, tru_non, tru_lst, tru_tup, int_int, isBool_bl, nox_k, Cn.w, srcOf_lst, srcOf_tup, srcOf_fro, srcOf_ref, still_nil, List.getElem?_cons_zero, List.getElem?_cons_succ, List.set_cons_zero, List.set_cons_succ, startE, List.map_cons, List.map_nil, List.length_cons, List.length_nil, List.length_map, List.length_range, List.cons_append, List.nil_append, List.replicate_succ, List.replicate_zero, wipeE, unE, Nat.reduceAdd, Nat.reduceSub, decide_true, decide_false, Bool.not_true, Bool.not_false, mul_int, mod_int, fdiv_int, pow_int, mkL_f, mkL_t, len_lst, len_tup, len_fro, tuple_lst, tuple_tup, tuple_fro, list_lst, list_tup, list_fro, int_bl, min_two, max_two, tupK_ok, b16_1, hs, loopS_st, h3, rfo_fin]) _ ⟨none, none, rfl⟩
  rw [findSome_rFo, findSome_const (p := fun k => ∃ y ∈ l.drop k, (0 ≤ l[k]! ∧ y < 0) ∨ (0 < l[k]! ∧ y ≤ 0))] at h2
  simp (disch := first | assumption | (simp; done) | omega | (simp; omega) | decide) only [bd_st, bdR_ok, bdR_ex, bdR_no, pu_st, no_st, bo_ok, bo_ex, bo_no, thn_nx, thn_rt, thn_ex, thn_no, res_nx, res_rt, res_ex, res_no, nxs_st, rts_st, bos_st, iteS_t, iteS_f, exSs_nil, exSs_cons, exS_ex, exS_asg, exS_par, exS_ret, exS_ret0, exS_pas, exS_ite, exS_loop, exS_tri, exS_rai, exS_sat, exS_six, triS_nx, triS_rt, triS_ex, ev_v, ev_cst, ev_gi, ev_bin, ev_neg, negK_int, ev_cmp, ev_chn, chnK_t, chnK_f, ev_isN, ev_ntN, noneB, ev_and, ev_or, andK_t, andK_f, orK_t, orK_f, notK_bl, ev_not, ev_ite, ev_tup, ev_lst, ev_idx, ev_slc, ev_att, ev_call, ev_mth, ev_new, ev_bi, ev_bm, ev_lc, ev_frz, ev_tupS, ev_lstS, evz_nil, evz_f, evz_t, evT_yes, evT_e, andT_t, andT_f, orT_t, orT_f, evT_and, evT_or, evT_not, evO_om, evO_e, intO_int, evs_nil, evs_cons, evI_sq, evI_en, evI_zp, evI_r1, evI_r2, asgn_nm, asgn_tp, asgns_nil, asgns_cons, oneS_st, lcOne_st, add_int, sub_int, items_lst, items_fro, items_tup, itemsN_lst, itemsN_fro, itemsL_lst, lt_int, le_int, gt_int, ge_int, eq_int, ne_int, tru_b, tru_non, tru_lst, tru_tup, int_int, isBool_bl, nox_k, Cn.w, srcOf_lst, srcOf_tup, srcOf_fro, srcOf_ref, still_nil, List.getElem?_cons_zero, List.getElem?_cons_succ, List.set_cons_zero, List.set_cons_succ, startE, List.map_cons, List.map_nil, List.length_cons, List.length_nil, List.length_map, List.length_range, List.cons_append, List.nil_append, List.replicate_succ, List.replicate_zero, wipeE, unE, Nat.reduceAdd, Nat.reduceSub, decide_true, decide_false, Bool.not_true, Bool.not_false, mul_int, mod_int, fdiv_int, pow_int, mkL_f, mkL_t, len_lst, len_tup, len_fro, tuple_lst, tuple_tup, tuple_fro, list_lst, list_tup, list_fro, int_bl, min_two, max_two, tupK_ok, f16, b16, rg1_nat, loopS_st, h2]
  by_cases e : crossR l
  · rw [if_neg (fun z => bad_iff.mp z e)]
    simp (disch := first | assumption | (simp; done) | omega | (simp; omega) | decide) only [bd_st, bdR_ok, bdR_ex, bdR_no, pu_st, no_st, bo_ok, bo_ex, bo_no, thn_nx, thn_rt, thn_ex, thn_no, res_nx, res_rt, res_ex, res_no, nxs_st, rts_st, bos_st, iteS_t, iteS_f, exSs_nil, exSs_cons, exS_ex, exS_asg, exS_par, exS_ret, exS_ret0, exS_pas, exS_ite, exS_loop, exS_tri, exS_rai, exS_sat, exS_six, triS_nx, triS_rt, triS_ex, ev_v, ev_cst, ev_gi, ev_bin, ev_neg, negK_int, ev_cmp, ev_chn, chnK_t, chnK_f, ev_isN, ev_ntN, noneB, ev_and, ev_or, andK_t, andK_f, orK_t, orK_f, notK_bl, ev_not, ev_ite, ev_tup, ev_lst, ev_idx, ev_slc, ev_att, ev_call, ev_mth, ev_new, ev_bi, ev_bm, ev_lc, ev_frz, ev_tupS, ev_lstS, evz_nil, evz_f, evz_t, evT_yes, evT_e, andT_t, andT_f, orT_t, orT_f, evT_and, evT_or, evT_not, evO_om, evO_e, intO_int, evs_nil, evs_cons, evI_sq, evI_en, evI_zp, evI_r1, evI_r2, asgn_nm, asgn_tp, asgns_nil, asgns_cons, oneS_st, lcOne_st, add_int, sub_int, items_lst, items_fro, items_tup, itemsN_lst, itemsN_fro, itemsL_lst, lt_int, le_int, gt_int, ge_int, eq_int, ne_int, tru_b, tru_non, tru_lst, tru_tup, int_int, isBool_bl, nox_k, Cn.w, srcOf_lst, srcOf_tup, srcOf_fro, srcOf_ref, still_nil, List.getElem?_cons_zero, List.getElem?_cons_succ, List.set_cons_zero, List.set_cons_succ, startE, List.map_cons, List.map_nil, List.length_cons, List.length_nil, List.length_map, List.length_range, List.cons_append, List.nil_append, List.replicate_succ, List.replicate_zero, wipeE, unE, Nat.reduceAdd, Nat.reduceSub, decide_true, decide_false, Bool.not_true, Bool.not_false, mul_int, mod_int, fdiv_int, pow_int, mkL_f, mkL_t, len_lst, len_tup, len_fro, tuple_lst, tuple_tup, tuple_fro, list_lst, list_tup, list_fro, int_bl, min_two, max_two, tupK_ok, rFo, fin, cut_self, e]
  · rw [if_pos (bad_iff.mpr e)]
    simp (disch := first | assumption | (simp; done) | omega | (simp; omega) | decide) only [bd_st, bdR_ok, bdR_ex, bdR_no, pu_st, no_st, bo_ok, bo_ex, bo_no, thn_nx, thn_rt, thn_ex, thn_no, res_nx, res_rt, res_ex, res_no, nxs_st, rts_st, bos_st, iteS_t, iteS_f, exSs_nil, exSs_cons, exS_ex, exS_asg, exS_par, exS_ret, exS_ret0, exS_pas, exS_ite, exS_loop, exS_tri, exS_rai, exS_sat, exS_six, triS_nx, triS_rt, triS_ex, ev_v, ev_cst, ev_gi, ev_bin, ev_neg, negK_int, ev_cmp, ev_chn, chnK_t, chnK_f, ev_isN, ev_ntN, noneB, ev_and, ev_or, andK_t, andK_f, orK_t, orK_f, notK_bl, ev_not, ev_ite, ev_tup, ev_lst, ev_idx, ev_slc, ev_att, ev_call, ev_mth, ev_new, ev_bi, ev_bm, ev_lc, ev_frz, ev_tupS, ev_lstS, evz_nil, evz_f, evz_t, evT_yes, evT_e, andT_t, andT_f, orT_t, orT_f, evT_and, evT_or, evT_not, evO_om, evO_e, intO_int, evs_nil, evs_cons, evI_sq, evI_en, evI_zp, evI_r1, evI_r2, asgn_nm, asgn_tp, asgns_nil, asgns_cons, oneS_st, lcOne_st, add_int, sub_int, items_lst, items_fro, items_tup, itemsN_lst, itemsN_fro, itemsL_lst, lt_int, le_int, gt_int, ge_int, eq_int, ne_int, tru_b, tru_non, tru_lst, tru_tup, int_int, isBool_bl, nox_k, Cn.w, srcOf_lst, srcOf_tup, srcOf_fro, srcOf_ref, still_nil, List.getElem?_cons_zero, List.getElem?_cons_succ, List.set_cons_zero, List.set_cons_succ, startE, List.map_cons, List.map_nil, List.length_cons, List.length_nil, List.length_map, List.length_range, List.cons_append, List.nil_append, List.replicate_succ, List.replicate_zero, wipeE, unE, Nat.reduceAdd, Nat.reduceSub, decide_true, decide_false, Bool.not_true, Bool.not_false, mul_int, mod_int, fdiv_int, pow_int, mkL_f, mkL_t, len_lst, len_tup, len_fro, tuple_lst, tuple_tup, tuple_fro, list_lst, list_tup, list_fro, int_bl, min_two, max_two, tupK_ok, rFo, fin, cut_self, e]
theorem totals_ok (n : Nat) (v : List Int) (st : Store) (h : Wt rows lev) (hv : v.length = lev) : run T (n + 3) 17 [sgW rows lev, lW v] st = .ok (lW (rows.map fun r => dot r v)) st := by
  rw [run_eq (d := f17) rfl rfl]
  have m5 := fun {ws s F} => mt (rows := rows) (lev := lev) (f := 5) (ws := ws) (s := s) (F := F) rfl
  have hn := h.n2
  have lc : lcW false (lcOne T (run T (n + 2)) none [2] x17_0 (.nm 2) .yes [some (sgW rows lev), some (lW v), none]) ⟨(List.range rows.length).map fun (k : Nat) => W.int (k : Int), []⟩ st = .ok (lW (rows.map fun r => dot r v)) st := by
    have e : lW (rows.map fun r => dot r v) = .lst ((List.range rows.length).map fun i => W.int (dot rows[i]! v)) := by
      rw [map_range (f := fun r => W.int (dot r v))]; simp [lW]
    rw [e]
    refine lc_map _ still_nil (by simp; omega) ?_ (fun x _ => rfl)
    intro k hk acc
    simp (disch := first | assumption | (simp; done) | omega | (simp; omega) | decide) only [bd_st, bdR_ok, bdR_ex, bdR_no, pu_st, no_st, bo_ok, bo_ex, bo_no, thn_nx, thn_rt, thn_ex, thn_no, res_nx, res_rt, res_ex, res_no, nxs_st, rts_st, bos_st, iteS_t, iteS_f, exSs_nil, exSs_cons, exS_ex, exS_asg, exS_par, exS_ret, exS_ret0, exS_pas, exS_ite, exS_loop, exS_tri, exS_rai, exS_sat, exS_six, triS_nx, triS_rt, triS_ex, ev_v, ev_cst, ev_gi, ev_bin, ev_neg, negK_int, ev_cmp, ev_chn, chnK_t, chnK_f, ev_isN, ev_ntN, noneB, ev_and, ev_or, andK_t, andK_f, orK_t, orK_f, notK_bl, ev_not, ev_ite, ev_tup, ev_lst, ev_idx, ev_slc, ev_att, ev_call, ev_mth, ev_new, ev_bi, ev_bm, ev_lc, ev_frz, ev_tupS, ev_lstS, evz_nil, evz_f, evz_t, evT_yes, evT_e, andT_t, andT_f, orT_t, orT_f, evT_and, evT_or, evT_not, evO_om, evO_e, intO_int, evs_nil, evs_cons, evI_sq, evI_en, evI_zp, evI_r1, evI_r2, asgn_nm, asgn_tp, asgns_nil, asgns_cons, oneS_st, lcOne_st, add_int, sub_int, items_lst, items_fro, items_tup, itemsN_lst, itemsN_fro, itemsL_lst, lt_int, le_int, gt_int, ge_int, eq_int, ne_int, tru_b, tru_non, tru_lst, tru_tup, int_int, isBool_bl, nox_k, Cn.w, srcOf_lst, srcOf_tup, srcOf_fro, srcOf_ref, still_nil, List.getElem?_cons_zero, List.getElem?_cons_succ, List.set_cons_zero, List.set_cons_succ, startE, List.map_cons, List.map_nil, List.length_cons, List.length_nil, List.length_map, List.length_range, List.cons_append, List.nil_append, List.replicate_succ, List.replicate_zero, wipeE, unE, Nat.reduceAdd, Nat.reduceSub, decide_true, decide_false, Bool.not_true, Bool.not_false, mul_int, mod_int, fdiv_int, pow_int, mkL_f, mkL_t, len_lst, len_tup, len_fro, tuple_lst, tuple_tup, tuple_fro, list_lst, list_tup, list_fro, int_bl, min_two, max_two, tupK_ok, x17_0, m5, total_ok n k v (lW v) (st ++ [some (.lst acc)]) h (by simpa using hk) hv (.inl rfl)]
  simp (disch := first | assumption | (simp; done) | omega | (simp; omega) | decide) only [bd_st, bdR_ok, bdR_ex, bdR_no, pu_st, no_st, bo_ok, bo_ex, bo_no, thn_nx, thn_rt, thn_ex, thn_no, res_nx, res_rt, res_ex, res_no, nxs_st, rts_st, bos_st, iteS_t, iteS_f, exSs_nil, exSs_cons, exS_ex, exS_asg, exS_par, exS_ret, exS_ret0, exS_pas, exS_ite, exS_loop, exS_tri, exS_rai, exS_sat, exS_six, triS_nx, triS_rt, triS_ex, ev_v, ev_cst, ev_gi, ev_bin, ev_neg, negK_int, ev_cmp, ev_chn, chnK_t, chnK_f, ev_isN, ev_ntN, noneB, ev_and, ev_or, andK_t, andK_f, orK_t, orK_f, notK_bl, ev_not, ev_ite, ev_tup, ev_lst, ev_idx, ev_slc, ev_att, ev_call, ev_mth, ev_new, ev_bi, ev_bm, ev_lc, ev_frz, ev_tupS, ev_lstS, evz_nil, evz_f, evz_t, evT_yes, evT_e, andT_t, andT_f, orT_t, orT_f, evT_and, evT_or, evT_not, evO_om, evO_e, intO_int, evs_nil, evs_cons, evI_sq, evI_en, evI_zp, evI_r1, evI_r2, asgn_nm, asgn_tp, asgns_nil, asgns_cons, oneS_st, lcOne_st, add_int, sub_int, items_lst, items_fro, items_tup, itemsN_lst, itemsN_fro, itemsL_lst, lt_int, le_int, gt_int, ge_int, eq_int, ne_int, tru_b, tru_non, tru_lst, tru_tup, int_int, isBool_bl, nox_k, Cn.w, srcOf_lst, srcOf_tup, srcOf_fro, srcOf_ref, still_nil, List.getElem?_cons_zero, List.getElem?_cons_succ, List.set_cons_zero, List.set_cons_succ, startE, List.map_cons, List.map_nil, List.length_cons, List.length_nil, List.length_map, List.length_range, List.cons_append, List.nil_append, List.replicate_succ, List.replicate_zero, wipeE, unE, Nat.reduceAdd, Nat.reduceSub, decide_true, decide_false, Bool.not_true, Bool.not_false, mul_int, mod_int, fdiv_int, pow_int, mkL_f, mkL_t, len_lst, len_tup, len_fro, tuple_lst, tuple_tup, tuple_fro, list_lst, list_tup, list_fro, int_bl, min_two, max_two, tupK_ok, f17, b17, at_count, rg1_nat, lc, cut_self]
theorem lawpart_ok (n : Nat) (ss : List Nat) (st : Store) (h : Wt rows lev) (hO : Ord rows lev) (hs : ∀ s ∈ ss, s < lev) (hp : ss.Pairwise (· < ·)) (h5 : ss.length ≤ 5) :
    run T (n + 5) 18 [sgW rows lev, .lst (ss.map fun (s : Nat) => .int (s : Int))] st = .ok (.bl true) st := by
  rw [run_eq (d := f18) rfl rfl]
  have m7 := fun {ws s F} => mt (rows := rows) (lev := lev) (f := 7) (ws := ws) (s := s) (F := F) rfl
  by_cases e0 : 0 < ss.length
  · have hw := part_wt h hs e0 h5
    have hP := part_ok (n + 1) ss st h hs hp e0 hw
    by_cases e : nought (partR rows ss)
    · rw [if_pos e] at hP
      simp (disch := first | assumption | (simp; done) | omega | (simp; omega) | decide) only [bd_st, bdR_ok, bdR_ex, bdR_no, pu_st, no_st, bo_ok, bo_ex, bo_no, thn_nx, thn_rt, thn_ex, thn_no, res_nx, res_rt, res_ex, res_no, nxs_st, rts_st, bos_st, iteS_t, iteS_f, exSs_nil, exSs_cons, exS_ex, exS_asg, exS_par, exS_ret, exS_ret0, exS_pas, exS_ite, exS_loop, exS_tri, exS_rai, exS_sat, exS_six, triS_nx, triS_rt, triS_ex, ev_v, ev_cst, ev_gi, ev_bin, ev_neg, negK_int, ev_cmp, ev_chn, chnK_t, chnK_f, ev_isN, ev_ntN, noneB, ev_and, ev_or, andK_t, andK_f, orK_t, orK_f, notK_bl, ev_not, ev_ite, ev_tup, ev_lst, ev_idx, ev_slc, ev_att, ev_call, ev_mth, ev_new, ev_bi, ev_bm, ev_lc, ev_frz, ev_tupS, ev_lstS, evz_nil, evz_f, evz_t, evT_yes, evT_e, andT_t, andT_f, orT_t, orT_f, evT_and, evT_or, evT_not, evO_om, evO_e, intO_int, evs_nil, evs_cons, evI_sq, evI_en, evI_zp, evI_r1, evI_r2, asgn_nm, asgn_tp, asgns_nil, asgns_cons, oneS_st, lcOne_st, add_int, sub_int, items_lst, items_fro, items_tup, itemsN_lst, itemsN_fro, itemsL_lst, lt_int, le_int, gt_int, ge_int, eq_int, ne_int, tru_b, tru_non, tru_lst, tru_tup, int_int, isBool_bl, nox_k, Cn.w, srcOf_lst, srcOf_tup, srcOf_fro, srcOf_ref, still_nil, List.getElem?_cons_zero, List.getElem?_cons_succ, List.set_cons_zero, List.set_cons_succ, startE, List.map_cons, List.map_nil, List.length_cons, List.length_nil, List.length_map, List.length_range, List.cons_append, List.nil_append, List.replicate_succ, List.replicate_zero, wipeE, unE, Nat.reduceAdd, Nat.reduceSub, decide_true, decide_false, Bool.not_true, Bool.not_false, mul_int, mod_int, fdiv_int, pow_int, mkL_f, mkL_t, len_lst, len_tup, len_fro, tuple_lst, tuple_tup, tuple_fro, list_lst, list_tup, list_fro, int_bl, min_two, max_two, tupK_ok, f18, b18, m7, hP, handle_hit, cut_self]
    · rw [if_neg e] at hP
      have ho := ordered_ok n st hw
      have hd := part_ord hO hs hp
      simp (disch := first | assumption | (simp; done) | omega | (simp; omega) | decide) only [bd_st, bdR_ok, bdR_ex, bdR_no, pu_st, no_st, bo_ok, bo_ex, bo_no, thn_nx, thn_rt, thn_ex, thn_no, res_nx, res_rt, res_ex, res_no, nxs_st, rts_st, bos_st, iteS_t, iteS_f, exSs_nil, exSs_cons, exS_ex, exS_asg, exS_par, exS_ret, exS_ret0, exS_pas, exS_ite, exS_loop, exS_tri, exS_rai, exS_sat, exS_six, triS_nx, triS_rt, triS_ex, ev_v, ev_cst, ev_gi, ev_bin, ev_neg, negK_int, ev_cmp, ev_chn, chnK_t, chnK_f, ev_isN, ev_ntN, noneB, ev_and, ev_or, andK_t, andK_f, orK_t, orK_f, notK_bl, ev_not, ev_ite, ev_tup, ev_lst, ev_idx, ev_slc, ev_att, ev_call, ev_mth, ev_new, ev_bi, ev_bm, ev_lc, ev_frz, ev_tupS, ev_lstS, evz_nil, evz_f, evz_t, evT_yes, evT_e, andT_t, andT_f, orT_t, orT_f, evT_and, evT_or, evT_not, evO_om, evO_e, intO_int, evs_nil, evs_cons, evI_sq, evI_en, evI_zp, evI_r1, evI_r2, asgn_nm, asgn_tp, asgns_nil, asgns_cons, oneS_st, lcOne_st, add_int, sub_int, items_lst, items_fro, items_tup, itemsN_lst, itemsN_fro, itemsL_lst, lt_int, le_int, gt_int, ge_int, eq_int, ne_int, tru_b, tru_non, tru_lst, tru_tup, int_int, isBool_bl, nox_k, Cn.w, srcOf_lst, srcOf_tup, srcOf_fro, srcOf_ref, still_nil, List.getElem?_cons_zero, List.getElem?_cons_succ, List.set_cons_zero, List.set_cons_succ, startE, List.map_cons, List.map_nil, List.length_cons, List.length_nil, List.length_map, List.length_range, List.cons_append, List.nil_append, List.replicate_succ, List.replicate_zero, wipeE, unE, Nat.reduceAdd, Nat.reduceSub, decide_true, decide_false, Bool.not_true, Bool.not_false, mul_int, mod_int, fdiv_int, pow_int, mkL_f, mkL_t, len_lst, len_tup, len_fro, tuple_lst, tuple_tup, tuple_fro, list_lst, list_tup, list_fro, int_bl, min_two, max_two, tupK_ok, f18, b18, m7, hP, ho, hd, cut_self]
  · have : ss = [] := by cases ss with
      | nil => rfl
      | cons _ _ => simp at e0
    subst this
    have hP := part0_ok (rows := rows) (lev := lev) (n + 1) st
    simp (disch := first | assumption | (simp; done) | omega | (simp; omega) | decide) only [bd_st, bdR_ok, bdR_ex, bdR_no, pu_st, no_st, bo_ok, bo_ex, bo_no, thn_nx, thn_rt, thn_ex, thn_no, res_nx, res_rt, res_ex, res_no, nxs_st, rts_st, bos_st, iteS_t, iteS_f, exSs_nil, exSs_cons, exS_ex, exS_asg, exS_par, exS_ret, exS_ret0, exS_pas, exS_ite, exS_loop, exS_tri, exS_rai, exS_sat, exS_six, triS_nx, triS_rt, triS_ex, ev_v, ev_cst, ev_gi, ev_bin, ev_neg, negK_int, ev_cmp, ev_chn, chnK_t, chnK_f, ev_isN, ev_ntN, noneB, ev_and, ev_or, andK_t, andK_f, orK_t, orK_f, notK_bl, ev_not, ev_ite, ev_tup, ev_lst, ev_idx, ev_slc, ev_att, ev_call, ev_mth, ev_new, ev_bi, ev_bm, ev_lc, ev_frz, ev_tupS, ev_lstS, evz_nil, evz_f, evz_t, evT_yes, evT_e, andT_t, andT_f, orT_t, orT_f, evT_and, evT_or, evT_not, evO_om, evO_e, intO_int, evs_nil, evs_cons, evI_sq, evI_en, evI_zp, evI_r1, evI_r2, asgn_nm, asgn_tp, asgns_nil, asgns_cons, oneS_st, lcOne_st, add_int, sub_int, items_lst, items_fro, items_tup, itemsN_lst, itemsN_fro, itemsL_lst, lt_int, le_int, gt_int, ge_int, eq_int, ne_int, tru_b, tru_non, tru_lst, tru_tup, int_int, isBool_bl, nox_k, Cn.w, srcOf_lst, srcOf_tup, srcOf_fro, srcOf_ref, still_nil, List.getElem?_cons_zero, List.getElem?_cons_succ, List.set_cons_zero, List.set_cons_succ, startE, List.map_cons, List.map_nil, List.length_cons, List.length_nil, List.length_map, List.length_range, List.cons_append, List.nil_append, List.replicate_succ, List.replicate_zero, wipeE, unE, Nat.reduceAdd, Nat.reduceSub, decide_true, decide_false, Bool.not_true, Bool.not_false, mul_int, mod_int, fdiv_int, pow_int, mkL_f, mkL_t, len_lst, len_tup, len_fro, tuple_lst, tuple_tup, tuple_fro, list_lst, list_tup, list_fro, int_bl, min_two, max_two, tupK_ok, f18, b18, m7, hP, handle_hit, cut_self]
end
end Mi.K46
set_option maxHeartbeats 4000000
namespace Mi.K46
open PySem Mi
theorem pw_all {l : List Int} {R : Int → Int → Prop} (h : ∀ x ∈ l, ∀ y ∈ l, R x y) : l.Pairwise R := by
  induction l with
  | nil => exact List.Pairwise.nil
  | cons a l ih => exact List.Pairwise.cons (fun y hy => h a List.mem_cons_self y (List.mem_cons_of_mem _ hy)) (ih fun x hx y hy => h x (List.mem_cons_of_mem _ hx) y (List.mem_cons_of_mem _ hy))
theorem cross_app {k l : List Int} (h1 : crossR k) (h2 : crossR l) (h3 : ∀ x ∈ k, ∀ y ∈ l, sg x ≤ sg y) : crossR (k ++ l) := by
  unfold crossR at *
  rw [List.map_append, List.pairwise_append]
  refine ⟨h1, h2, fun x hx y hy => ?_⟩
  obtain ⟨a, ha, rfl⟩ := List.mem_map.mp hx
  obtain ⟨b, hb, rfl⟩ := List.mem_map.mp hy
  exact h3 a ha b hb
theorem cross_all {k : List Int} (h : ∀ x ∈ k, ∀ y ∈ k, sg x ≤ sg y) : crossR k := by
  unfold crossR
  refine pw_all fun x hx y hy => ?_
  obtain ⟨a, ha, rfl⟩ := List.mem_map.mp hx
  obtain ⟨b, hb, rfl⟩ := List.mem_map.mp hy
  exact h a ha b hb
theorem crossing_of {k m l : List Int} (h1 : ∀ x ∈ k, x < 0) (h2 : ∀ x ∈ m, x = 0) (h3 : ∀ x ∈ l, 0 < x) : crossR (k ++ m ++ l) := by
  refine cross_app (cross_app (cross_all fun x hx y hy => ?_) (cross_all fun x hx y hy => ?_) fun x hx y hy => ?_) (cross_all fun x hx y hy => ?_) fun x hx y hy => ?_
  · have := h1 x hx; have := h1 y hy; rw [sg_le]; omega
  · have := h2 x hx; have := h2 y hy; rw [sg_le]; omega
  · have := h1 x hx; have := h2 y hy; rw [sg_le]; omega
  · have := h3 x hx; have := h3 y hy; rw [sg_le]; omega
  · have := h3 y hy
    rcases List.mem_append.mp hx with hx | hx
    · have := h1 x hx; rw [sg_le]; omega
    · have := h2 x hx; rw [sg_le]; omega
theorem gencross_ok (n : Nat) {p : Nat} {st : Store} (hp : pool st p) (lev : Nat) (hl : lev ≤ 5) : ∃ (l : List Int) (s : Store), run T (n + 2) 15 [.ref p, .int lev] st = .ok (lW l) s ∧ l.length = lev ∧ crossR l ∧ Pk p st s ∧ s.length = st.length := by
  rw [run_eq (d := f15) rfl rfl]
  have hpl := hp.lt
  obtain ⟨a, s1, hd1, ha, hP1, hs1⟩ := draw_ok (T := T) (f := 12) rfl n (p := p) (lim := (lev : Int) + 1) hp (by omega) (by omega)
  obtain ⟨u, s2, hd2, hu, hP2, hs2⟩ := draw_ok (T := T) (f := 12) rfl n (p := p) (lim := (lev : Int) + 1 - a) hP1.pool (by omega) (by omega)
  obtain ⟨k, s3, hk, hkl, hkp, hP3, hs3⟩ := lc_ints (st := s2) (one := lcOne T (run T (n + 1)) none [5] x15_1 (.nm 5) .yes [some (.ref p), some (.int lev), some (.int a), some (.int ((a + u : Nat) : Int)), none, none]) hP2.pool (fun i => i < 0) ((List.range a).map fun (i : Nat) => .int (i : Int)) (by simp; omega) (by
    intro x s hx hps
    obtain ⟨r, s', hd, hr, hP, hs⟩ := draw_ok (T := T) (f := 12) rfl n (p := p) (lim := 9) hps (by omega) (by omega)
    exact ⟨-1 - r, s', by simp (disch := first | assumption | (simp; done) | omega | (simp; omega) | decide) only [bd_st, bdR_ok, bdR_ex, bdR_no, pu_st, no_st, bo_ok, bo_ex, bo_no, thn_nx, thn_rt, thn_ex, thn_no, res_nx, res_rt, res_ex, res_no, nxs_st, rts_st, bos_st, iteS_t, iteS_f, exSs_nil, exSs_cons, exS_ex, exS_asg, exS_par, exS_ret, exS_ret0, exS_pas, exS_ite, exS_loop, exS_tri, exS_rai, exS_sat, exS_six, triS_nx, triS_rt, triS_ex, ev_v, ev_cst, ev_gi, ev_bin, ev_neg, negK_int, ev_cmp, ev_chn, chnK_t, chnK_f, ev_isN, ev_ntN, noneB, ev_and, ev_or, andK_t, andK_f, orK_t, orK_f, notK_bl, ev_not, ev_ite, ev_tup, ev_lst, ev_idx, ev_slc, ev_att, ev_call, ev_mth, ev_new, ev_bi, ev_bm, ev_lc, ev_frz, ev_tupS, ev_lstS, evz_nil, evz_f, evz_t, evT_yes, evT_e, andT_t, andT_f, orT_t, orT_f, evT_and, evT_or, evT_not, evO_om, evO_e, intO_int, evs_nil, evs_cons, evI_sq, evI_en, evI_zp, evI_r1, evI_r2, asgn_nm, asgn_tp, asgns_nil, asgns_cons, oneS_st, lcOne_st, add_int, sub_int, items_lst, items_fro, items_tup, itemsN_lst, itemsN_fro, itemsL_lst, lt_int, le_int, gt_int, ge_int, eq_int, ne_int, tru_b, tru_non, tru_lst, tru_tup, int_int, isBool_bl, nox_k, Cn.w, srcOf_lst, srcOf_tup, srcOf_fro, srcOf_ref, still_nil, List.getElem?_cons_zero, List.getElem?_cons_succ, List.set_cons_zero, List.set_cons_succ, startE, List.map_cons, List.map_nil, List.length_cons, List.length_nil, List.length_map, List.length_range, List.cons_append, List.nil_append, List.replicate_succ, List.replicate_zero, wipeE, unE, Nat.reduceAdd, Nat.reduceSub, decide_true, decide_false, Bool.not_true, Bool.not_false, mul_int, mod_int, fdiv_int, pow_int, mkL_f, mkL_t, len_lst, len_tup, len_fro, tuple_lst, tuple_tup, tuple_fro, list_lst, list_tup, list_fro, int_bl, min_two, max_two, tupK_ok, x15_1, hd], by omega, hP, hs⟩)
  obtain ⟨l, s4, hl4, hll, hlp, hP4, hs4⟩ := lc_ints (st := s3) (one := lcOne T (run T (n + 1)) none [5] x15_0 (.nm 5) .yes [some (.ref p), some (.int lev), some (.int a), some (.int ((a + u : Nat) : Int)), some (lW (k ++ List.replicate u 0)), none]) hP3.pool (fun i => 0 < i) ((List.range (lev - (a + u))).map fun (i : Nat) => .int (i : Int)) (by simp; omega) (by
    intro x s hx hps
    obtain ⟨r, s', hd, hr, hP, hs⟩ := draw_ok (T := T) (f := 12) rfl n (p := p) (lim := 9) hps (by omega) (by omega)
    exact ⟨1 + r, s', by simp (disch := first | assumption | (simp; done) | omega | (simp; omega) | decide) only [bd_st, bdR_ok, bdR_ex, bdR_no, pu_st, no_st, bo_ok, bo_ex, bo_no, thn_nx, thn_rt, thn_ex, thn_no, res_nx, res_rt, res_ex, res_no, nxs_st, rts_st, bos_st, iteS_t, iteS_f, exSs_nil, exSs_cons, exS_ex, exS_asg, exS_par, exS_ret, exS_ret0, exS_pas, exS_ite, exS_loop, exS_tri, exS_rai, exS_sat, exS_six, triS_nx, triS_rt, triS_ex, ev_v, ev_cst, ev_gi, ev_bin, ev_neg, negK_int, ev_cmp, ev_chn, chnK_t, chnK_f, ev_isN, ev_ntN, noneB, ev_and, ev_or, andK_t, andK_f, orK_t, orK_f, notK_bl, ev_not, ev_ite, ev_tup, ev_lst, ev_idx, ev_slc, ev_att, ev_call, ev_mth, ev_new, ev_bi, ev_bm, ev_lc, ev_frz, ev_tupS, ev_lstS, evz_nil, evz_f, evz_t, evT_yes, evT_e, andT_t, andT_f, orT_t, orT_f, evT_and, evT_or, evT_not, evO_om, evO_e, intO_int, evs_nil, evs_cons, evI_sq, evI_en, evI_zp, evI_r1, evI_r2, asgn_nm, asgn_tp, asgns_nil, asgns_cons, oneS_st, lcOne_st, add_int, sub_int, items_lst, items_fro, items_tup, itemsN_lst, itemsN_fro, itemsL_lst, lt_int, le_int, gt_int, ge_int, eq_int, ne_int, tru_b, tru_non, tru_lst, tru_tup, int_int, isBool_bl, nox_k, Cn.w, srcOf_lst, srcOf_tup, srcOf_fro, srcOf_ref, still_nil, List.getElem?_cons_zero, List.getElem?_cons_succ, List.set_cons_zero, List.set_cons_succ, startE, List.map_cons, List.map_nil, List.length_cons, List.length_nil, List.length_map, List.length_range, List.cons_append, List.nil_append, List.replicate_succ, List.replicate_zero, wipeE, unE, Nat.reduceAdd, Nat.reduceSub, decide_true, decide_false, Bool.not_true, Bool.not_false, mul_int, mod_int, fdiv_int, pow_int, mkL_f, mkL_t, len_lst, len_tup, len_fro, tuple_lst, tuple_tup, tuple_fro, list_lst, list_tup, list_fro, int_bl, min_two, max_two, tupK_ok, x15_0, hd], by omega, hP, hs⟩)
  simp at hkl hll
  have e1 : ((a : Int) + (u : Int)) = ((a + u : Nat) : Int) := by omega
  have e2 : (((a + u : Nat) : Int) - (a : Int)) = ((u : Nat) : Int) := by omega
  have e3 : ((lev : Int) - ((a + u : Nat) : Int)) = ((lev - (a + u) : Nat) : Int) := by omega
  have c1 : (List.replicate u (0 : Int)).length ≤ 16777216 := by simp; omega
  have c2 : (k ++ List.replicate u (0 : Int)).length ≤ 16777216 := by simp; omega
  have c3 : (k ++ List.replicate u (0 : Int) ++ l).length ≤ 16777216 := by simp; omega
  have r1 : opB .mul false (.lst [.int 0]) (.int ((u : Nat) : Int)) s3 = .ok (lW (List.replicate u 0)) s3 := by rw [rep_int (by omega), mkL_f (by simpa using c1)]
  have r2 : opB .add false (lW k) (lW (List.replicate u 0)) s3 = .ok (lW (k ++ List.replicate u 0)) s3 := by rw [add_ints, mkL_f (by rw [List.length_map]; exact c2)]
  have r3 : opB .add false (lW (k ++ List.replicate u 0)) (lW l) s4 = .ok (lW (k ++ List.replicate u 0 ++ l)) s4 := by rw [add_ints, mkL_f (by rw [List.length_map]; exact c3)]
  have hP := ((hP1.trans hP2).trans hP3).trans hP4
  refine ⟨k ++ List.replicate u 0 ++ l, s4, ?_, by simp; omega, crossing_of hkp (by intro x hx; exact (List.mem_replicate.mp hx).2) hlp, hP, by omega⟩
  simp (disch := first | assumption | (simp; done) | omega | (simp; omega) | decide) only [bd_st, bdR_ok, bdR_ex, bdR_no, pu_st, no_st, bo_ok, bo_ex, bo_no, thn_nx, thn_rt, thn_ex, thn_no, res_nx, res_rt, res_ex, res_no, nxs_st, rts_st, bos_st, iteS_t, iteS_f, exSs_nil, exSs_cons, exS_ex, exS_asg, exS_par, exS_ret, exS_ret0, exS_pas, exS_ite, exS_loop, exS_tri, exS_rai, exS_sat, exS_six, triS_nx, triS_rt, triS_ex, ev_v, ev_cst, ev_gi, ev_bin, ev_neg, negK_int, ev_cmp, ev_chn, chnK_t, chnK_f, ev_isN, ev_ntN, noneB, ev_and, ev_or, andK_t, andK_f, orK_t, orK_f, notK_bl, ev_not, ev_ite, ev_tup, ev_lst, ev_idx, ev_slc, ev_att, ev_call, ev_mth, ev_new, ev_bi, ev_bm, ev_lc, ev_frz, ev_tupS, ev_lstS, evz_nil, evz_f, evz_t, evT_yes, evT_e, andT_t, andT_f, orT_t, orT_f, evT_and, evT_or, evT_not, evO_om, evO_e, intO_int, evs_nil, evs_cons, evI_sq, evI_en, evI_zp, evI_r1, evI_r2, asgn_nm, asgn_tp, asgns_nil, asgns_cons, oneS_st, lcOne_st, add_int, sub_int, items_lst, items_fro, items_tup, itemsN_lst, itemsN_fro, itemsL_lst, lt_int, le_int, gt_int, ge_int, eq_int, ne_int, tru_b, tru_non, tru_lst, tru_tup, int_int, isBool_bl, nox_k, Cn.w, srcOf_lst, srcOf_tup, srcOf_fro, srcOf_ref, still_nil, List.getElem?_cons_zero, List.getElem?_cons_succ, List.set_cons_zero, List.set_cons_succ, startE, List.map_cons, List.map_nil, List.length_cons, List.length_nil, List.length_map, List.length_range, List.cons_append, List.nil_append, List.replicate_succ, List.replicate_zero, wipeE, unE, Nat.reduceAdd, Nat.reduceSub, decide_true, decide_false, Bool.not_true, Bool.not_false, mul_int, mod_int, fdiv_int, pow_int, mkL_f, mkL_t, len_lst, len_tup, len_fro, tuple_lst, tuple_tup, tuple_fro, list_lst, list_tup, list_fro, int_bl, min_two, max_two, tupK_ok, f15, b15, hd1, hd2, e1, e2, rg1_nat, hk, r1, r2, e3, hl4, r3]
  exact cut_same_len (by omega)
/-! what is shown of a minor below 0 -/
theorem S_one {n s : Nat} {c : Int} (h : s < n) : S n (fun i => if i = s then c else 0) = c := by
  induction n with
  | zero => omega
  | succ n ih =>
    unfold S
    by_cases e : s = n
    · subst e
      rw [S_congr (g := fun _ => 0) fun i hi => if_neg (by omega), S_zero]; simp
    · rw [ih (by omega)]
      dsimp only
      rw [if_neg (by omega)]; omega
theorem S_low {n s : Nat} {f : Nat → Int} (h : s ≤ n) : S n (fun i => if i < s then f i else 0) = S s f := by
  induction n with
  | zero => have : s = 0 := by omega
            subst this; rfl
  | succ n ih =>
    by_cases e : s = n + 1
    · subst e
      exact S_congr fun i hi => if_pos hi
    · rw [S, ih (by omega), if_neg (by omega)]; omega
/-- the values that are shown, by place -/
def shv (F A x y : Int) (s t i : Nat) : Int := if i < s then -1 else if i = s then -F * x else if i = t then F * y + A else if t < i then 1 else 0
theorem shown_sum {n s t : Nat} {F A x y : Int} {r : Nat → Int} (hst : s < t) (ht : t < n) :
    S n (fun i => r i * shv F A x y s t i) = -(S s r) + r s * (-F * x) + r t * (F * y + A) + S n fun i => if t < i then r i else 0 := by
  have e : ∀ i, i < n → r i * shv F A x y s t i = (((if i < s then - r i else 0) + (if i = s then r s * (-F * x) else 0)) + (if i = t then r t * (F * y + A) else 0)) + (if t < i then r i else 0) := by
    intro i hi
    unfold shv
    by_cases h1 : i < s
    · have h2 : ¬ i = s := by omega
      have h3 : ¬ i = t := by omega
      have h4 : ¬ t < i := by omega
      simp only [h1, h2, h3, h4, if_true, if_false]; omega
    · by_cases h2 : i = s
      · have h3 : ¬ i = t := by omega
        have h4 : ¬ t < i := by omega
        simp only [h1, h2, if_true, if_false]
        rw [if_neg (show ¬ s = t by omega), if_neg (show ¬ t < s by omega)]
        simp
      · by_cases h3 : i = t
        · simp only [h1, h2, if_true, if_false]
          subst h3
          simp
        · by_cases h4 : t < i
          · simp only [h1, h2, h3, h4, if_true, if_false]; omega
          · simp only [h1, h2, h3, h4, if_false]; simp
  rw [S_congr e, ← S_add, ← S_add, ← S_add, S_one (by omega), S_one ht, S_low (f := fun i => - r i) (by omega)]
  congr 3
  have := S_sub (n := s) (f := fun _ => 0) (g := r)
  rw [S_zero] at this
  rw [S_congr (g := fun i => 0 - r i) fun i _ => by omega]
  omega
theorem shown_math {n s t : Nat} {a b : Nat → Int} (hst : s < t) (ht : t < n) (ha : ∀ i, i < n → 0 ≤ a i) (hb : ∀ i, i < n → 0 ≤ b i) (hm : a s * b t - a t * b s < 0) :
    0 ≤ S n (fun i => a i * shv (1 + S n b * (2 + S n a)) (S s a) (a t) (a s) s t i) ∧ S n (fun i => b i * shv (1 + S n b * (2 + S n a)) (S s a) (a t) (a s) s t i) < 0 ∧ 0 < a t := by
  have hat : 0 < a t := by
    rcases Int.lt_or_eq_of_le (ha t ht) with h | h
    · exact h
    · rw [← h] at hm
      have := Int.mul_nonneg (ha s (by omega)) (hb t ht)
      simp at hm; omega
  have sa : 0 ≤ S n a := S_nonneg ha
  have sb : 0 ≤ S n b := S_nonneg hb
  have la : 0 ≤ S s a := S_nonneg fun i hi => ha i (by omega)
  have lb : 0 ≤ S s b := S_nonneg fun i hi => hb i (by omega)
  have la2 : S s a ≤ S n a := by
    rw [← S_low (n := n) (f := a) (by omega)]
    exact S_le fun i hi => by by_cases q : i < s <;> simp only [q, if_true, if_false] <;> first | exact Int.le_refl _ | exact ha i hi
  have ua : 0 ≤ S n fun i => if t < i then a i else 0 := S_nonneg fun i hi => by by_cases q : t < i <;> simp only [q, if_true, if_false] <;> first | exact Int.le_refl _ | exact ha i hi
  have ub : (S n fun i => if t < i then b i else 0) ≤ S n b := S_le fun i hi => by by_cases q : t < i <;> simp only [q, if_true, if_false] <;> first | exact Int.le_refl _ | exact hb i hi
  have bt : b t ≤ S n b := S_ge hb t ht
  have bt0 := hb t ht
  rw [shown_sum hst ht, shown_sum hst ht]
  generalize S n a = Sa at *
  generalize S n b = Sb at *
  generalize S s a = La at *
  generalize S s b = Lb at *
  generalize (S n fun i => if t < i then a i else 0) = Ua at *
  generalize (S n fun i => if t < i then b i else 0) = Ub at *
  generalize a s = x at *
  generalize a t = y at *
  generalize b s = z at *
  generalize b t = w at *
  refine ⟨?_, ?_, hat⟩
  · generalize 1 + Sb * (2 + Sa) = F
    have e : -La + x * (-F * y) + y * (F * x + La) + Ua = La * (y - 1) + Ua := by
      have e1 : x * (-F * y) = -(F * (x * y)) := by rw [Int.neg_mul, Int.mul_neg]; congr 1; simp only [Int.mul_left_comm]
      have e2 : y * (F * x + La) = F * (x * y) + La * y := by rw [Int.mul_add]; congr 1 <;> simp only [Int.mul_comm, Int.mul_left_comm, Int.mul_assoc]
      rw [e1, e2, Int.mul_sub]
      omega
    rw [e]
    have := Int.mul_nonneg la (show 0 ≤ y - 1 by omega)
    omega
  · have f0 : 0 ≤ Sb * (2 + Sa) := Int.mul_nonneg sb (by omega)
    have f1 : Sb * (2 + Sa) = 2 * Sb + Sa * Sb := by rw [Int.mul_add, Int.mul_comm Sb 2, Int.mul_comm Sb Sa]
    have lw : La * w ≤ Sa * Sb := by
      have h1 := Int.mul_le_mul_of_nonneg_right la2 bt0
      have h2 := Int.mul_le_mul_of_nonneg_left bt sa
      omega
    generalize hF : 1 + Sb * (2 + Sa) = F
    have e : -Lb + z * (-F * y) + w * (F * x + La) + Ub = F * (x * w - y * z) + (La * w + Ub - Lb) := by
      have e1 : z * (-F * y) = -(F * (y * z)) := by rw [Int.neg_mul, Int.mul_neg]; congr 1; simp only [Int.mul_comm, Int.mul_left_comm, Int.mul_assoc]
      have e2 : w * (F * x + La) = F * (x * w) + La * w := by rw [Int.mul_add]; congr 1 <;> simp only [Int.mul_comm, Int.mul_left_comm, Int.mul_assoc]
      rw [e1, e2, Int.mul_sub]
      omega
    rw [e]
    have : F * (x * w - y * z) ≤ F * (-1) := Int.mul_le_mul_of_nonneg_left (by omega) (by omega)
    omega
end Mi.K46
set_option maxHeartbeats 4000000
namespace Mi.K46
open PySem Mi
section
variable {rows : List (List Int)} {lev : Nat}
/-- the values that are shown -/
def shL (F A x y : Int) (s t n : Nat) : List Int := List.replicate s (-1) ++ [-F * x] ++ List.replicate (t - s - 1) 0 ++ [F * y + A] ++ List.replicate (n - t - 1) 1
theorem shL_len {F A x y : Int} {s t n : Nat} (hst : s < t) (ht : t < n) : (shL F A x y s t n).length = n := by unfold shL; simp; omega
theorem shL_get {F A x y : Int} {s t n : Nat} (hst : s < t) (ht : t < n) (i : Nat) (hi : i < n) : (shL F A x y s t n)[i]! = shv F A x y s t i := by
  unfold shL shv
  rw [List.getElem!_eq_getElem?_getD]
  by_cases h1 : i < s
  · rw [if_pos h1, List.getElem?_append_left (by simp; omega), List.getElem?_append_left (by simp; omega), List.getElem?_append_left (by simp; omega), List.getElem?_append_left (by simp; omega)]
    simp [h1]
  · rw [if_neg h1]
    by_cases h2 : i = s
    · subst h2
      rw [if_pos rfl, List.getElem?_append_left (by simp <;> omega), List.getElem?_append_left (by simp <;> omega), List.getElem?_append_left (by simp <;> omega), List.getElem?_append_right (by simp)]
      simp
    · rw [if_neg h2]
      by_cases h3 : i = t
      · subst h3
        rw [if_pos rfl, List.getElem?_append_left (by simp; omega), List.getElem?_append_right (by simp; omega)]
        have : i - (List.replicate s (-1 : Int) ++ [-F * x] ++ List.replicate (i - s - 1) 0).length = 0 := by simp; omega
        rw [this]; simp
      · rw [if_neg h3]
        by_cases h4 : t < i
        · rw [if_pos h4, List.getElem?_append_right (by simp; omega)]
          have : i - (List.replicate s (-1 : Int) ++ [-F * x] ++ List.replicate (t - s - 1) 0 ++ [F * y + A]).length = i - (t + 1) := by simp; omega
          rw [this]
          have : i - (t + 1) < n - t - 1 := by omega
          simp [this]
        · rw [if_neg h4, List.getElem?_append_left (by simp; omega), List.getElem?_append_left (by simp; omega), List.getElem?_append_right (by simp; omega)]
          have : i - (List.replicate s (-1 : Int) ++ [-F * x]).length = i - (s + 1) := by simp
          rw [this]
          have : i - (s + 1) < t - s - 1 := by omega
          simp [this]
theorem shL_cross {F A x y : Int} {s t n : Nat} (hF : 0 < F) (hx : 0 < x) (hy : 0 ≤ F * y + A) : crossR (shL F A x y s t n) := by
  unfold shL
  have hn : -F * x < 0 := by
    have := Int.mul_pos hF hx
    rw [Int.neg_mul]; omega
  refine cross_app (cross_app (cross_app (cross_app (cross_all fun u hu v hv => ?_) (cross_all fun u hu v hv => ?_) fun u hu v hv => ?_) (cross_all fun u hu v hv => ?_) fun u hu v hv => ?_) (cross_all fun u hu v hv => ?_) fun u hu v hv => ?_) (cross_all fun u hu v hv => ?_) fun u hu v hv => ?_
  all_goals simp only [List.mem_append, List.mem_replicate, List.mem_singleton] at hu hv
  all_goals rw [sg_le]
  all_goals omega
theorem shown_ok (n : Nat) (f g s t : Nat) (st : Store) (h : Wt rows lev) (hnn : ¬ nought rows) (hfg : f < g) (hg : g < rows.length) (hst : s < t) (ht : t < lev) (hm : minor rows f g s t < 0) :
    run T (n + 4) 19 [.lst (rows.map lW), .tup [.int (f : Nat), .int (g : Nat), .int (s : Nat), .int (t : Nat)]] st = .ok (.bl true) st := by
  rw [run_eq (d := f19) rfl rfl]
  have hf : f < rows.length := by omega
  have hl5 := h.l2
  have l1 := h.get hf
  have l2 := h.get hg
  have i1 : ∀ u, idxW (.lst (rows.map lW)) (.int (f : Int)) u = .ok (lW rows[f]!) u := fun u => idx_lst hf
  have i2 : ∀ u, idxW (.lst (rows.map lW)) (.int (g : Int)) u = .ok (lW rows[g]!) u := fun u => idx_lst hg
  have hR : Rws st (.lst (rows.map lW)) rows := RL.rws rfl RL.lsts
  have w1 : ∀ i, i < lev → 0 ≤ rows[f]![i]! ∧ rows[f]![i]! < 2 ^ 60 := fun i hi => h.wt hf hi
  have w2 : ∀ i, i < lev → 0 ≤ rows[g]![i]! ∧ rows[g]![i]! < 2 ^ 60 := fun i hi => h.wt hg hi
  have T1 := fun u v hv hw => total_ok (n + 1) f v (lW v) u h hf hv hw
  have T2 := fun u v hv hw => total_ok (n + 1) g v (lW v) u h hg hv hw
  have hN : ∀ e : Store, mkI T (run T (n + 3)) 1 [.lst (rows.map lW)] (st ++ e) = .ok (sgW rows lev) (st ++ e) := fun e => by
    have := new_ok (n + 1) _ rows lev (st ++ e) hR.app h
    rw [if_neg hnn] at this
    exact this
  obtain ⟨m1, m2, m3⟩ := shown_math (n := lev) (a := fun i => rows[f]![i]!) (b := fun i => rows[g]![i]!) hst ht (fun i hi => (w1 i hi).1) (fun i hi => (w2 i hi).1) hm
  generalize ea : rows[f]! = a at *
  generalize eb : rows[g]! = b at *
  have sa : a.sum = S lev fun i => a[i]! := by rw [sum_S, l1]
  have sb : b.sum = S lev fun i => b[i]! := by rw [sum_S, l2]
  have pa : (a.take s).sum = S s fun i => a[i]! := by
    rw [sum_S]
    have : (a.take s).length = s := by simp; omega
    rw [this]
    exact S_congr fun i hi => by simp [List.getElem?_take_of_lt hi]
  rw [← sa, ← sb, ← pa] at m1 m2
  have sb1 : 0 ≤ b.sum := by rw [sb]; exact S_nonneg fun i hi => (w2 i hi).1
  have sa1 : 0 ≤ a.sum := by rw [sa]; exact S_nonneg fun i hi => (w1 i hi).1
  have pa1 : 0 ≤ (a.take s).sum := by rw [pa]; exact S_nonneg fun i hi => (w1 i (by omega)).1
  have sb2 : b.sum ≤ 5 * 2 ^ 60 := by
    rw [sb]
    have h1 := S_le (n := lev) (f := fun i => b[i]!) (g := fun _ => 2 ^ 60) fun i hi => by have := (w2 i hi).2; omega
    have h2 : ∀ k : Nat, S k (fun _ => (2 : Int) ^ 60) = k * 2 ^ 60 := by
      intro k
      induction k with
      | zero => rfl
      | succ k ih => rw [S, ih]; push_cast; omega
    rw [h2] at h1
    omega
  have u1 : ∀ u, opB .mul false (.int b.sum) (.int (2 + a.sum)) u = .ok (.int (b.sum * (2 + a.sum))) u := fun u => mul_int (by omega)
  generalize hF : 1 + b.sum * (2 + a.sum) = F at *
  have hF0 : 0 < F := by have := Int.mul_nonneg sb1 (show 0 ≤ 2 + a.sum by omega); omega
  have wt := w1 t ht
  have ws := w1 s (by omega)
  have j1 : ∀ u, idxW (lW a) (.int (t : Int)) u = .ok (.int a[t]!) u := fun u => idx_lst (by omega)
  have j2 : ∀ u, idxW (lW a) (.int (s : Int)) u = .ok (.int a[s]!) u := fun u => idx_lst (by omega)
  have u2 : ∀ u, opB .mul false (.int (-F)) (.int a[t]!) u = .ok (.int (-F * a[t]!)) u := fun u => mul_int (by omega)
  have u3 : ∀ u, opB .mul false (.int F) (.int a[s]!) u = .ok (.int (F * a[s]!)) u := fun u => mul_int (by omega)
  have e1 : ((t : Int) - (s : Int) - 1) = ((t - s - 1 : Nat) : Int) := by omega
  have e2 : ((lev : Int) - (t : Int) - 1) = ((lev - t - 1 : Nat) : Int) := by omega
  have r1 : ∀ u, opB .mul false (.lst [.int (-1)]) (.int ((s : Nat) : Int)) u = .ok (lW (List.replicate s (-1))) u := fun u => by rw [rep_int (by omega), mkL_f (by simp; omega)]
  have r2 : ∀ u, opB .mul false (.lst [.int 0]) (.int ((t - s - 1 : Nat) : Int)) u = .ok (lW (List.replicate (t - s - 1) 0)) u := fun u => by rw [rep_int (by omega), mkL_f (by simp; omega)]
  have r3 : ∀ u, opB .mul false (.lst [.int 1]) (.int ((lev - t - 1 : Nat) : Int)) u = .ok (lW (List.replicate (lev - t - 1) 1)) u := fun u => by rw [rep_int (by omega), mkL_f (by simp; omega)]
  have a1 : ∀ u, opB .add false (lW (List.replicate s (-1))) (.lst [.int (-F * a[t]!)]) u = .ok (lW (List.replicate s (-1) ++ [-F * a[t]!])) u := fun u => by
    rw [show W.lst [.int (-F * a[t]!)] = lW [-F * a[t]!] from rfl, add_ints, mkL_f (by simp; omega)]
  have a2 : opB .add true (lW (List.replicate s (-1) ++ [-F * a[t]!])) (lW (List.replicate (t - s - 1) 0)) st = .ok (.ref st.length) (st ++ [some (.lst ((List.replicate s (-1) ++ [-F * a[t]!] ++ List.replicate (t - s - 1) 0).map .int))]) := by
    rw [add_ints, mkL_t (by simp; omega)]
  have hat : At (st ++ [some (MO.lst ((List.replicate s (-1) ++ [-F * a[t]!] ++ List.replicate (t - s - 1) 0).map W.int))]) st.length (.lst ((List.replicate s (-1) ++ [-F * a[t]!] ++ List.replicate (t - s - 1) 0).map .int)) := At.last
  have sl : ∀ u, slcW false (lW a) none (some (s : Int)) u = .ok (lW (a.take s)) u := fun u => by rw [slc_lst, slice_to, mkL_f (by simp; omega), ← List.map_take]
  have hrc := rcv_n (b := .append) (itemsN_rf hat) (by simp)
  have hap := app_at hat (w := .int (F * a[s]! + (a.take s).sum)) (by simp; omega)
  rw [set_last] at hap
  have a3 : opB .add false (.ref st.length) (lW (List.replicate (lev - t - 1) 1)) (st ++ [some (.lst ((List.replicate s (-1) ++ [-F * a[t]!] ++ List.replicate (t - s - 1) 0).map .int ++ [.int (F * a[s]! + (a.take s).sum)]))]) = .ok (lW (shL F (a.take s).sum a[t]! a[s]! s t lev)) (st ++ [some (.lst ((List.replicate s (-1) ++ [-F * a[t]!] ++ List.replicate (t - s - 1) 0).map .int ++ [.int (F * a[s]! + (a.take s).sum)]))]) := by
    rw [add_lst (itemsL_rf At.last) itemsL_lst, mkL_f (by simp; omega)]
    unfold shL
    simp
  have hc := crossing_ok (n + 2) (shL F (a.take s).sum a[t]! a[s]! s t lev) _ (st ++ [some (.lst ((List.replicate s (-1) ++ [-F * a[t]!] ++ List.replicate (t - s - 1) 0).map .int ++ [.int (F * a[s]! + (a.take s).sum)]))]) (.inl rfl) (by rw [shL_len hst ht]; omega)
  have hcr : crossR (shL F (a.take s).sum a[t]! a[s]! s t lev) := shL_cross hF0 m3 (by have := Int.mul_nonneg (show 0 ≤ F by omega) ws.1; omega)
  have dS : ∀ r : List Int, r.length = lev → dot r (shL F (a.take s).sum a[t]! a[s]! s t lev) = S lev fun i => r[i]! * shv F (a.take s).sum a[t]! a[s]! s t i := by
    intro r hr
    rw [dot_S (by rw [hr, shL_len hst ht]), hr]
    exact S_congr fun i hi => by rw [shL_get hst ht i hi]
  have D1 : (0 : Int) ≤ dot a (shL F (a.take s).sum a[t]! a[s]! s t lev) := by rw [dS a l1]; exact m1
  have D2 : dot b (shL F (a.take s).sum a[t]! a[s]! s t lev) < 0 := by rw [dS b l2]; exact m2
  have mm5 := fun {ws s F} => mt (rows := rows) (lev := lev) (f := 5) (ws := ws) (s := s) (F := F) rfl
  have tt1 := T1 (st ++ [some (.lst ((List.replicate s (-1) ++ [-F * a[t]!] ++ List.replicate (t - s - 1) 0).map .int ++ [.int (F * a[s]! + (a.take s).sum)]))]) _ (shL_len (F := F) (A := (a.take s).sum) (x := a[t]!) (y := a[s]!) hst ht) (.inl rfl)
  have tt2 := T2 (st ++ [some (.lst ((List.replicate s (-1) ++ [-F * a[t]!] ++ List.replicate (t - s - 1) 0).map .int ++ [.int (F * a[s]! + (a.take s).sum)]))]) _ (shL_len (F := F) (A := (a.take s).sum) (x := a[t]!) (y := a[s]!) hst ht) (.inl rfl)
  have el : (a.length : Int) = (lev : Int) := by omega
  simp (disch := first | assumption | (simp; done) | omega | (simp; omega) | decide) only [bd_st, bdR_ok, bdR_ex, bdR_no, pu_st, no_st, bo_ok, bo_ex, bo_no, thn_nx, thn_rt, thn_ex, thn_no, res_nx, res_rt, res_ex, res_no, nxs_st, rts_st, bos_st, iteS_t, iteS_f, exSs_nil, exSs_cons, exS_ex, exS_asg, exS_par, exS_ret, exS_ret0, exS_pas, exS_ite, exS_loop, exS_tri, exS_rai, exS_sat, exS_six, triS_nx, triS_rt, triS_ex, ev_v, ev_cst, ev_gi, ev_bin, ev_neg, negK_int, ev_cmp, ev_chn, chnK_t, chnK_f, ev_isN, ev_ntN, noneB, ev_and, ev_or, andK_t, andK_f, orK_t, orK_f, notK_bl, ev_not, ev_ite, ev_tup, ev_lst, ev_idx, ev_slc, ev_att, ev_call, ev_mth, ev_new, ev_bi, ev_bm, ev_lc, ev_frz, ev_tupS, ev_lstS, evz_nil, evz_f, evz_t, evT_yes, evT_e, andT_t, andT_f, orT_t, orT_f, evT_and, evT_or, evT_not, evO_om, evO_e, intO_int, evs_nil, evs_cons, evI_sq, evI_en, evI_zp, evI_r1, evI_r2, asgn_nm, asgn_tp, asgns_nil, asgns_cons, oneS_st, lcOne_st, add_int, sub_int, items_lst, items_fro, items_tup, itemsN_lst, itemsN_fro, itemsL_lst, lt_int, le_int, gt_int, ge_int, eq_int, ne_int, tru_b, tru_non, tru_lst, tru_tup, int_int, isBool_bl, nox_k, Cn.w, srcOf_lst, srcOf_tup, srcOf_fro, srcOf_ref, still_nil, List.getElem?_cons_zero, List.getElem?_cons_succ, List.set_cons_zero, List.set_cons_succ, startE, List.map_cons, List.map_nil, List.length_cons, List.length_nil, List.length_map, List.length_range, List.cons_append, List.nil_append, List.replicate_succ, List.replicate_zero, wipeE, unE, Nat.reduceAdd, Nat.reduceSub, decide_true, decide_false, Bool.not_true, Bool.not_false, mul_int, mod_int, fdiv_int, pow_int, mkL_f, mkL_t, len_lst, len_tup, len_fro, tuple_lst, tuple_tup, tuple_fro, list_lst, list_tup, list_fro, int_bl, min_two, max_two, tupK_ok, f19, b19, i1, i2, sum_lst, u1, hF, j1, j2, u2, u3, r1, e1, r2, a1, a2, hrc, sl, hap, el, e2, r3, a3, hN, hc, hcr, mm5, tt1, tt2, D1, D2]
  exact cut_app rfl
end
end Mi.K46
set_option maxHeartbeats 4000000
namespace Mi.K46
open PySem Mi
abbrev nW (l : List Nat) : List W := l.map fun (n : Nat) => W.int (n : Int)
/-- the store is as it was but for q -/
structure B1 (q : Nat) (s s' : Store) : Prop where
  len : s'.length = s.length
  keep : ∀ j, j ≠ q → s'[j]? = s[j]?
theorem B1.refl {q : Nat} {s : Store} : B1 q s s := ⟨rfl, fun _ _ => rfl⟩
theorem B1.set {q : Nat} {s s' : Store} {x : Option MO} (h : B1 q (s.set q x) s') : B1 q s s' := ⟨by rw [h.len]; simp, fun j hj => by rw [h.keep j hj, List.getElem?_set_ne (fun z => hj z.symm)]⟩
theorem B1.at {q j : Nat} {s s' : Store} {o : MO} (h : B1 q s s') (ha : At s j o) (hj : j ≠ q) : At s' j o := by
  unfold At
  rw [h.keep j hj]; exact ha
theorem set_range {α : Type} {f : Nat → α} {n k : Nat} {x : α} : ((List.range n).map f).set k x = (List.range n).map fun i => if i = k then x else f i := by
  apply List.ext_getElem?
  intro i
  by_cases h : i < n
  · rw [List.getElem?_set]
    by_cases e : k = i
    · subst e; simp [h]
    · have e' : ¬ i = k := fun z => e z.symm
      simp [h, e, e']
  · simp at h
    simp [h]
theorem rng_step {i k : Nat} : (List.range (k + 1)).map (fun j => W.int ((i + j : Nat) : Int)) = W.int (i : Nat) :: (List.range k).map fun j => W.int ((i + 1 + j : Nat) : Int) := by
  rw [List.range_succ_eq_map, List.map_cons, List.map_map]
  congr 1
  apply List.map_congr_left
  intro j _
  simp only [Function.comp_def]
  congr 2
  omega
def pw (G g lev i : Nat) : List Nat := (List.range lev).map fun j => if j < i then (G * g) ^ j else G ^ j
theorem small_pow {g i : Nat} (hg : g ≤ 3) (hi : i ≤ 5) : g ^ i ≤ 243 := by
  have h1 : g ^ i ≤ 3 ^ i := Nat.pow_le_pow_left hg i
  have h2 : 3 ^ i ≤ 3 ^ 5 := Nat.pow_le_pow_right (by omega) hi
  omega
/-- the powers grow -/
theorem grow_ok (F : Nat → List W → Q W) (a0 a1 a2 a3 a4 a6 a7 a8 a12 a13 : Option W) (q G g lev : Nat) (hg : g ≤ 3) (hl : lev ≤ 5) : ∀ (k i : Nat), i + k = lev → ∀ (x : Option W) (s : Store), At s q (.lst (nW (pw G g lev i))) →
    ∃ x' s', forGo (oneS T F none (.nm 11) b14_1) [] ((List.range k).map fun j => W.int ((i + j : Nat) : Int)) [a0, a1, a2, a3, a4, some (.ref q), a6, a7, a8, some (.int (g : Nat)), some (.int ((g ^ i : Nat) : Int)), x, a12, a13] s =
      .nx [a0, a1, a2, a3, a4, some (.ref q), a6, a7, a8, some (.int (g : Nat)), some (.int ((g ^ lev : Nat) : Int)), x', a12, a13] s' ∧ At s' q (.lst (nW (pw G g lev lev))) ∧ B1 q s s'
  | 0, i, h, x, s, hat => by
    have : i = lev := by omega
    subst this
    exact ⟨x, s, forGo_nil still_nil, hat, B1.refl⟩
  | k + 1, i, h, x, s, hat => by
    have hi : i < lev := by omega
    have ix : idxW (.ref q) (.int (i : Int)) s = .ok (.int ((G ^ i : Nat) : Int)) s := idx_nat (items_rf hat) i rfl (by unfold pw; simp [hi])
    have hsm := small_pow (i := i) hg (by omega)
    have u : opB .mul false (.int ((G ^ i : Nat) : Int)) (.int ((g ^ i : Nat) : Int)) s = .ok (.int (((G * g) ^ i : Nat) : Int)) s := by
      rw [mul_int (.inr (by rw [Int.natAbs_natCast]; omega)), Nat.mul_pow, Int.natCast_mul]
    have sx := six_nat hat i (i := (i : Int)) (w := .int (((G * g) ^ i : Nat) : Int)) rfl (by unfold pw; simp [hi])
    have hset : (nW (pw G g lev i)).set i (.int (((G * g) ^ i : Nat) : Int)) = nW (pw G g lev (i + 1)) := by
      unfold nW pw
      rw [List.map_map, List.map_map, set_range]
      apply List.map_congr_left
      intro j _
      simp only [Function.comp_def]
      by_cases e : j = i
      · subst e
        rw [if_pos rfl, if_pos (by omega)]
      · rw [if_neg e]
        by_cases e2 : j < i
        · rw [if_pos e2, if_pos (by omega)]
        · rw [if_neg e2, if_neg (by omega)]
    rw [hset] at sx
    have hat2 := hat.set_self (o' := .lst (nW (pw G g lev (i + 1))))
    have u2 : ∀ s, opB .mul false (.int ((g ^ i : Nat) : Int)) (.int (g : Nat)) s = .ok (.int ((g ^ (i + 1) : Nat) : Int)) s := fun s => by
      rw [mul_int (.inr (by rw [Int.natAbs_natCast]; omega)), Nat.pow_succ, Int.natCast_mul]
    obtain ⟨x', s', h1, h2, h3⟩ := grow_ok F a0 a1 a2 a3 a4 a6 a7 a8 a12 a13 q G g lev hg hl k (i + 1) (by omega) (some (.int (i : Nat))) _ hat2
    refine ⟨x', s', ?_, h2, h3.set⟩
    rw [rng_step, forGo_cons still_nil]
    simp (disch := first | assumption | (simp; done) | omega | (simp; omega) | decide) only [bd_st, bdR_ok, bdR_ex, bdR_no, pu_st, no_st, bo_ok, bo_ex, bo_no, thn_nx, thn_rt, thn_ex, thn_no, res_nx, res_rt, res_ex, res_no, nxs_st, rts_st, bos_st, iteS_t, iteS_f, exSs_nil, exSs_cons, exS_ex, exS_asg, exS_par, exS_ret, exS_ret0, exS_pas, exS_ite, exS_loop, exS_tri, exS_rai, exS_sat, exS_six, triS_nx, triS_rt, triS_ex, ev_v, ev_cst, ev_gi, ev_bin, ev_neg, negK_int, ev_cmp, ev_chn, chnK_t, chnK_f, ev_isN, ev_ntN, noneB, ev_and, ev_or, andK_t, andK_f, orK_t, orK_f, notK_bl, ev_not, ev_ite, ev_tup, ev_lst, ev_idx, ev_slc, ev_att, ev_call, ev_mth, ev_new, ev_bi, ev_bm, ev_lc, ev_frz, ev_tupS, ev_lstS, evz_nil, evz_f, evz_t, evT_yes, evT_e, andT_t, andT_f, orT_t, orT_f, evT_and, evT_or, evT_not, evO_om, evO_e, intO_int, evs_nil, evs_cons, evI_sq, evI_en, evI_zp, evI_r1, evI_r2, asgn_nm, asgn_tp, asgns_nil, asgns_cons, oneS_st, lcOne_st, add_int, sub_int, items_lst, items_fro, items_tup, itemsN_lst, itemsN_fro, itemsL_lst, lt_int, le_int, gt_int, ge_int, eq_int, ne_int, tru_b, tru_non, tru_lst, tru_tup, int_int, isBool_bl, nox_k, Cn.w, srcOf_lst, srcOf_tup, srcOf_fro, srcOf_ref, still_nil, List.getElem?_cons_zero, List.getElem?_cons_succ, List.set_cons_zero, List.set_cons_succ, startE, List.map_cons, List.map_nil, List.length_cons, List.length_nil, List.length_map, List.length_range, List.cons_append, List.nil_append, List.replicate_succ, List.replicate_zero, wipeE, unE, Nat.reduceAdd, Nat.reduceSub, decide_true, decide_false, Bool.not_true, Bool.not_false, mul_int, mod_int, fdiv_int, pow_int, mkL_f, mkL_t, len_lst, len_tup, len_fro, tuple_lst, tuple_tup, tuple_fro, list_lst, list_tup, list_fro, int_bl, min_two, max_two, tupK_ok, b14_1, ix, u, sx, u2]
    exact h1
def rowp (base : List Nat) (G lo i lev : Nat) : List Nat := (List.range lev).map fun j => if lo ≤ j ∧ j < i then base[j]! * G ^ j else 0
/-- a row is filled -/
theorem fill_ok (F : Nat → List W → Q W) (a0 a1 a2 a4 a6 a7 a8 a9 a10 a11 : Option W) (base : List Nat) (q r G g lo hi lev : Nat) (hb : base.length = lev) (hb4 : ∀ b ∈ base, b ≤ 4) (hq : q ≠ r) (hhi : hi < lev) : ∀ (k i : Nat), i + k = hi + 1 → lo ≤ i → ∀ (x : Option W) (s : Store), At s q (.lst (nW (pw G g lev lev))) → At s r (.lst (nW (rowp base (G * g) lo i lev))) →
    ∃ x' s', forGo (oneS T F none (.nm 13) b14_0) [] ((List.range k).map fun j => W.int ((i + j : Nat) : Int)) [a0, a1, a2, some (.lst (nW base)), a4, some (.ref q), a6, a7, a8, a9, a10, a11, some (.ref r), x] s =
      .nx [a0, a1, a2, some (.lst (nW base)), a4, some (.ref q), a6, a7, a8, a9, a10, a11, some (.ref r), x'] s' ∧ At s' r (.lst (nW (rowp base (G * g) lo (hi + 1) lev))) ∧ B1 r s s'
  | 0, i, h, _, x, s, _, hat => by
    have : i = hi + 1 := by omega
    subst this
    exact ⟨x, s, forGo_nil still_nil, hat, B1.refl⟩
  | k + 1, i, h, hlo, x, s, hp, hat => by
    have hi' : i < lev := by omega
    have ix : idxW (.lst (nW base)) (.int (i : Int)) s = .ok (.int (base[i]! : Nat)) s := idx_lst (by omega)
    have iy : idxW (.ref q) (.int (i : Int)) s = .ok (.int (((G * g) ^ i : Nat) : Int)) s := idx_nat (items_rf hp) i rfl (by unfold pw; simp [hi'])
    have hm : base[i]! ≤ 4 := hb4 _ (by have : i < base.length := by omega
                                        simp [this])
    have u : opB .mul false (.int (base[i]! : Nat)) (.int (((G * g) ^ i : Nat) : Int)) s = .ok (.int ((base[i]! * (G * g) ^ i : Nat) : Int)) s := by
      rw [mul_int (.inl (by rw [Int.natAbs_natCast]; omega)), Int.natCast_mul]
    have sx := six_nat hat i (i := (i : Int)) (w := .int ((base[i]! * (G * g) ^ i : Nat) : Int)) rfl (by unfold rowp; simp [hi'])
    have hset : (nW (rowp base (G * g) lo i lev)).set i (.int ((base[i]! * (G * g) ^ i : Nat) : Int)) = nW (rowp base (G * g) lo (i + 1) lev) := by
      unfold nW rowp
      rw [List.map_map, List.map_map, set_range]
      apply List.map_congr_left
      intro j _
      simp only [Function.comp_def]
      by_cases e : j = i
      · subst e
        rw [if_pos rfl, if_pos (by omega)]
      · rw [if_neg e]
        by_cases e2 : lo ≤ j ∧ j < i
        · rw [if_pos e2, if_pos (by omega)]
        · rw [if_neg e2, if_neg (by omega)]
    rw [hset] at sx
    have hat2 := hat.set_self (o' := .lst (nW (rowp base (G * g) lo (i + 1) lev)))
    obtain ⟨x', s', h1, h2, h3⟩ := fill_ok F a0 a1 a2 a4 a6 a7 a8 a9 a10 a11 base q r G g lo hi lev hb hb4 hq hhi k (i + 1) (by omega) (by omega) (some (.int (i : Nat))) _ (hp.set_ne (fun z => hq z.symm)) hat2
    refine ⟨x', s', ?_, h2, h3.set⟩
    rw [rng_step, forGo_cons still_nil]
    simp (disch := first | assumption | (simp; done) | omega | (simp; omega) | decide) only [bd_st, bdR_ok, bdR_ex, bdR_no, pu_st, no_st, bo_ok, bo_ex, bo_no, thn_nx, thn_rt, thn_ex, thn_no, res_nx, res_rt, res_ex, res_no, nxs_st, rts_st, bos_st, iteS_t, iteS_f, exSs_nil, exSs_cons, exS_ex, exS_asg, exS_par, exS_ret, exS_ret0, exS_pas, exS_ite, exS_loop, exS_tri, exS_rai, exS_sat, exS_six, triS_nx, triS_rt, triS_ex, ev_v, ev_cst, ev_gi, ev_bin, ev_neg, negK_int, ev_cmp, ev_chn, chnK_t, chnK_f, ev_isN, ev_ntN, noneB, ev_and, ev_or, andK_t, andK_f, orK_t, orK_f, notK_bl, ev_not, ev_ite, ev_tup, ev_lst, ev_idx, ev_slc, ev_att, ev_call, ev_mth, ev_new, ev_bi, ev_bm, ev_lc, ev_frz, ev_tupS, ev_lstS, evz_nil, evz_f, evz_t, evT_yes, evT_e, andT_t, andT_f, orT_t, orT_f, evT_and, evT_or, evT_not, evO_om, evO_e, intO_int, evs_nil, evs_cons, evI_sq, evI_en, evI_zp, evI_r1, evI_r2, asgn_nm, asgn_tp, asgns_nil, asgns_cons, oneS_st, lcOne_st, add_int, sub_int, items_lst, items_fro, items_tup, itemsN_lst, itemsN_fro, itemsL_lst, lt_int, le_int, gt_int, ge_int, eq_int, ne_int, tru_b, tru_non, tru_lst, tru_tup, int_int, isBool_bl, nox_k, Cn.w, srcOf_lst, srcOf_tup, srcOf_fro, srcOf_ref, still_nil, List.getElem?_cons_zero, List.getElem?_cons_succ, List.set_cons_zero, List.set_cons_succ, startE, List.map_cons, List.map_nil, List.length_cons, List.length_nil, List.length_map, List.length_range, List.cons_append, List.nil_append, List.replicate_succ, List.replicate_zero, wipeE, unE, Nat.reduceAdd, Nat.reduceSub, decide_true, decide_false, Bool.not_true, Bool.not_false, mul_int, mod_int, fdiv_int, pow_int, mkL_f, mkL_t, len_lst, len_tup, len_fro, tuple_lst, tuple_tup, tuple_fro, list_lst, list_tup, list_fro, int_bl, min_two, max_two, tupK_ok, b14_0, ix, iy, u, sx]
    exact h1
/-- the bounds and the growth of a row -/
structure Pr where
  lo : Nat
  hi : Nat
  G : Nat
def Pr.le (p q : Pr) : Prop := p.lo ≤ q.lo ∧ p.hi ≤ q.hi ∧ p.G ≤ q.G
def Pr.row (base : List Nat) (lev : Nat) (p : Pr) : List Nat := rowp base p.G p.lo (p.hi + 1) lev
def lN (l : List Nat) : W := .lst (nW l)
theorem step_ok (n : Nat) (a1 a6 a9 a10 a11 a12 a13 : Option W) (base : List Nat) (ps : List Pr) (p q q2 G lo hi lev : Nat) (s : Store) (v : W) (hp : pool s p) (hl1 : 1 ≤ lev) (hl : lev ≤ 5) (hb : base.length = lev) (hb4 : ∀ b ∈ base, b ≤ 4) (hlh : lo ≤ hi) (hhi : hi < lev)
    (hps : ps.length < 10) (hq : q ≠ p) (hq2 : q2 ≠ p) (hqq : q ≠ q2) (hat : At s q (.lst (ps.map fun r => lN (r.row base lev)))) (hat2 : At s q2 (.lst (nW (pw G 1 lev lev)))) :
    ∃ (g : Nat) (lo' hi' : Nat) (b9 b10 b11 b12 b13 : Option W) (s' : Store), oneS T (run T (n + 1)) none (.nm 6) b14_2 v [some (.ref p), a1, some (.int lev), some (.lst (nW base)), some (.ref q), some (.ref q2), a6, some (.int lo), some (.int hi), a9, a10, a11, a12, a13] s =
      .nx [some (.ref p), a1, some (.int lev), some (.lst (nW base)), some (.ref q), some (.ref q2), some v, some (.int lo'), some (.int hi'), b9, b10, b11, b12, b13] s' ∧ (1 ≤ g ∧ g ≤ 3) ∧ lo ≤ lo' ∧ hi ≤ hi' ∧ lo' ≤ hi' ∧ hi' < lev ∧
      At s' q (.lst ((ps ++ [Pr.mk lo hi (G * g)]).map fun r => lN (r.row base lev))) ∧ At s' q2 (.lst (nW (pw (G * g) 1 lev lev))) ∧ pool s' p ∧ s.length ≤ s'.length ∧ ∀ j, j < s.length → j ≠ p → j ≠ q → j ≠ q2 → s'[j]? = s[j]? := by
  obtain ⟨r, s1, hd1, hr, hP1, hs1⟩ := draw_ok (T := T) (f := 12) rfl n (p := p) (lim := 3) hp (by omega) (by omega)
  have g1 : At s1 q2 (.lst (nW (pw G (1 + r) lev 0))) := by
    have e : pw G (1 + r) lev 0 = pw G 1 lev lev := by
      unfold pw
      apply List.map_congr_left
      intro j hj
      have : j < lev := by simpa using hj
      simp [this]
    rw [e]
    exact hP1.at hat2 hq2
  obtain ⟨x11, s2, h2, at2, B2⟩ := grow_ok (run T (n + 1)) (some (.ref p)) a1 (some (.int lev)) (some (.lst (nW base))) (some (.ref q)) (some v) (some (.int lo)) (some (.int hi)) a12 a13 q2 G (1 + r) lev (by omega) hl lev 0 (by omega) a11 s1 g1
  have hone : ((1 : Nat) : Int) = 1 := rfl
  simp only [Nat.pow_zero, Nat.zero_add, hone] at h2
  have hp2 : pool s2 p := by obtain ⟨a, b, c, h⟩ := hP1.pool; exact ⟨a, b, c, B2.at h (fun z => hq2 z.symm)⟩
  have atq2 := B2.at (hP1.at hat hq) hqq
  have hpl := hp2.lt
  have hql := atq2.lt
  have hq2l := at2.lt
  have r0 : opB .mul true (.lst [.int 0]) (.int (lev : Int)) s2 = .ok (.ref s2.length) (s2 ++ [some (.lst (nW (rowp base (G * (1 + r)) lo lo lev)))]) := by
    rw [rep_int (by omega), mkL_t (by simp; omega)]
    congr 5
    unfold nW rowp
    apply List.ext_getElem?
    intro i
    by_cases h : i < lev
    · have : ¬ (lo ≤ i ∧ i < lo) := by omega
      simp [h, this]
    · simp at h
      simp [h]
  obtain ⟨x13, s3, h3, at3, B3⟩ := fill_ok (run T (n + 1)) (some (.ref p)) a1 (some (.int lev)) (some (.ref q)) (some v) (some (.int lo)) (some (.int hi)) (some (.int ((1 + r : Nat) : Int))) (some (.int (((1 + r) ^ lev : Nat) : Int))) x11 base q2 s2.length G (1 + r) lo hi lev hb hb4 (by omega) hhi (hi + 1 - lo) lo (by omega) (Nat.le_refl _) a13 (s2 ++ [some (.lst (nW (rowp base (G * (1 + r)) lo lo lev)))]) at2.app At.last
  have atq3 := B3.at atq2.app (by omega)
  have at23 := B3.at at2.app (by omega)
  have hp3 : pool s3 p := by obtain ⟨a, b, c, h⟩ := hp2; exact ⟨a, b, c, B3.at h.app (by omega)⟩
  have hs3 : s3.length = s2.length + 1 := by rw [B3.len]; simp
  have hf : freeze T (.ref s2.length) s3 = .ok (lN (Pr.row base lev ⟨lo, hi, G * (1 + r)⟩)) (s3.set s2.length none) := by
    unfold freeze
    unfold At at at3
    simp only [at3]
    rfl
  have hrc : rcv .append (.ref q) s3 = .ok (ps.map fun r => lN (r.row base lev)) s3 := rcv_n (itemsN_rf atq3) (by simp)
  have atq4 := atq3.set_ne (k := s2.length) (x := none) (by omega)
  have hap := app_at atq4 (w := lN (Pr.row base lev ⟨lo, hi, G * (1 + r)⟩)) (by simp; omega)
  obtain ⟨s5, hs5⟩ : ∃ s5, s5 = (s3.set s2.length none).set q (some (.lst ((ps.map fun r => lN (r.row base lev)) ++ [lN (Pr.row base lev ⟨lo, hi, G * (1 + r)⟩)]))) := ⟨_, rfl⟩
  have at5 : At s5 q (.lst ((ps.map fun r => lN (r.row base lev)) ++ [lN (Pr.row base lev ⟨lo, hi, G * (1 + r)⟩)])) := by rw [hs5]; exact atq4.set_self
  have at25 : At s5 q2 (.lst (nW (pw G (1 + r) lev lev))) := by rw [hs5]; exact (at23.set_ne (by omega)).set_ne hqq
  have hp5 : pool s5 p := by rw [hs5]; exact (hp3.set (by omega)).set hq
  have hl5 : s5.length = s2.length + 1 := by rw [hs5]; simp; omega
  rw [← hs5] at hap
  obtain ⟨d, s6, hd6, hdl, hP6, hs6⟩ := draw_ok (T := T) (f := 12) rfl n (p := p) (lim := 2) hp5 (by omega) (by omega)
  obtain ⟨e, s7, hd7, hel, hP7, hs7⟩ := draw_ok (T := T) (f := 12) rfl n (p := p) (lim := 3) hP6.pool (by omega) (by omega)
  have c1 : (if (lo : Int) + (d : Int) < (hi : Int) then (lo : Int) + (d : Int) else (hi : Int)) = ((if lo + d < hi then lo + d else hi : Nat) : Int) := by
    by_cases h : lo + d < hi
    · rw [if_pos h, if_pos (by omega)]; omega
    · rw [if_neg h, if_neg (by omega)]
  have c2 : (if (hi : Int) + (e : Int) < (lev : Int) - 1 then (hi : Int) + (e : Int) else (lev : Int) - 1) = ((if hi + e < lev - 1 then hi + e else lev - 1 : Nat) : Int) := by
    by_cases h : hi + e < lev - 1
    · rw [if_pos h, if_pos (by omega)]; omega
    · rw [if_neg h, if_neg (by omega)]; omega
  have e1 : ((1 : Int) + (r : Int)) = ((1 + r : Nat) : Int) := by omega
  have e2 : ((hi : Int) + 1) = ((hi + 1 : Nat) : Int) := rfl
  have e3 : (1 : Int) = ((1 : Nat) : Int) := rfl
  have hrg : rg1 (.int (lev : Int)) s1 = .ok ⟨(List.range lev).map fun (j : Nat) => .int (j : Int), []⟩ s1 := rg1_nat (by omega)
  have hrg2 : rg2 (.int (lo : Int)) (.int ((hi + 1 : Nat) : Int)) (s2 ++ [some (.lst (nW (rowp base (G * (1 + r)) lo lo lev)))]) = .ok ⟨(List.range (hi + 1 - lo)).map fun (k : Nat) => .int ((lo + k : Nat) : Int), []⟩ _ := rg2_nat (by omega) (by omega)
  refine ⟨1 + r, if lo + d < hi then lo + d else hi, if hi + e < lev - 1 then hi + e else lev - 1, some (.int ((1 + r : Nat) : Int)), some (.int (((1 + r) ^ lev : Nat) : Int)), x11, some (.ref s2.length), x13, s7, ?_, by omega, ?_, ?_, ?_, ?_, ?_, ?_, hP7.pool, ?_, ?_⟩
  · simp (disch := first | assumption | (simp; done) | omega | (simp; omega) | decide) only [bd_st, bdR_ok, bdR_ex, bdR_no, pu_st, no_st, bo_ok, bo_ex, bo_no, thn_nx, thn_rt, thn_ex, thn_no, res_nx, res_rt, res_ex, res_no, nxs_st, rts_st, bos_st, iteS_t, iteS_f, exSs_nil, exSs_cons, exS_ex, exS_asg, exS_par, exS_ret, exS_ret0, exS_pas, exS_ite, exS_loop, exS_tri, exS_rai, exS_sat, exS_six, triS_nx, triS_rt, triS_ex, ev_v, ev_cst, ev_gi, ev_bin, ev_neg, negK_int, ev_cmp, ev_chn, chnK_t, chnK_f, ev_isN, ev_ntN, noneB, ev_and, ev_or, andK_t, andK_f, orK_t, orK_f, notK_bl, ev_not, ev_ite, ev_tup, ev_lst, ev_idx, ev_slc, ev_att, ev_call, ev_mth, ev_new, ev_bi, ev_bm, ev_lc, ev_frz, ev_tupS, ev_lstS, evz_nil, evz_f, evz_t, evT_yes, evT_e, andT_t, andT_f, orT_t, orT_f, evT_and, evT_or, evT_not, evO_om, evO_e, intO_int, evs_nil, evs_cons, evI_sq, evI_en, evI_zp, evI_r1, evI_r2, asgn_nm, asgn_tp, asgns_nil, asgns_cons, oneS_st, lcOne_st, add_int, sub_int, items_lst, items_fro, items_tup, itemsN_lst, itemsN_fro, itemsL_lst, lt_int, le_int, gt_int, ge_int, eq_int, ne_int, tru_b, tru_non, tru_lst, tru_tup, int_int, isBool_bl, nox_k, Cn.w, srcOf_lst, srcOf_tup, srcOf_fro, srcOf_ref, still_nil, List.getElem?_cons_zero, List.getElem?_cons_succ, List.set_cons_zero, List.set_cons_succ, startE, List.map_cons, List.map_nil, List.length_cons, List.length_nil, List.length_map, List.length_range, List.cons_append, List.nil_append, List.replicate_succ, List.replicate_zero, wipeE, unE, Nat.reduceAdd, Nat.reduceSub, decide_true, decide_false, Bool.not_true, Bool.not_false, mul_int, mod_int, fdiv_int, pow_int, mkL_f, mkL_t, len_lst, len_tup, len_fro, tuple_lst, tuple_tup, tuple_fro, list_lst, list_tup, list_fro, int_bl, min_two, max_two, tupK_ok, b14_2, hd1, e1, hrg, loopS_st, h2, r0, e2, hrg2, h3, hrc, hf, hap, hd6, hd7, c1, c2]
  · split <;> omega
  · split <;> omega
  · split <;> split <;> omega
  · split <;> omega
  · rw [List.map_append]
    exact hP7.at (hP6.at at5 hq) hq
  · have e : pw (G * (1 + r)) 1 lev lev = pw G (1 + r) lev lev := by
      unfold pw
      apply List.map_congr_left
      intro j hj
      have : j < lev := by simpa using hj
      simp [this]
    rw [e]
    exact hP7.at (hP6.at at25 hq2) hq2
  · have := B2.len
    omega
  · intro j hj jp jq jq2
    have l2 := B2.len
    rw [hP7.keep j (by omega) jp, hP6.keep j (by omega) jp, hs5, List.getElem?_set_ne (fun z => jq z.symm), List.getElem?_set_ne (by omega), B3.keep j (by omega), List.getElem?_append_left (by omega), B2.keep j jq2, hP1.keep j hj jp]
end Mi.K46
set_option maxHeartbeats 4000000
namespace Mi.K46
open PySem Mi
/-- rows in order -/
def Chain (base : List Nat) (lev : Nat) (ps : List Pr) : Prop := ps.Pairwise Pr.le ∧ ∀ r ∈ ps, r.lo ≤ r.hi ∧ r.hi < lev ∧ 1 ≤ r.G ∧ r.G ≤ 3 ^ 5
theorem loop_gen (n : Nat) (a1 : Option W) (base : List Nat) (p q q2 lev : Nat) (s0 : Store) (hl1 : 1 ≤ lev) (hl : lev ≤ 5) (hb : base.length = lev) (hb4 : ∀ b ∈ base, b ≤ 4) (hq : q ≠ p) (hq2 : q2 ≠ p) (hqq : q ≠ q2) :
    ∀ (vs : List W) (ps : List Pr) (G lo hi : Nat) (a6 a9 a10 a11 a12 a13 : Option W) (s : Store), ps.length + vs.length ≤ 5 → pool s p → lo ≤ hi → hi < lev → 1 ≤ G → G ≤ 3 ^ ps.length → Chain base lev ps → (∀ r ∈ ps, r.lo ≤ lo ∧ r.hi ≤ hi ∧ r.G ≤ G) →
      At s q (.lst (ps.map fun r => lN (r.row base lev))) → At s q2 (.lst (nW (pw G 1 lev lev))) → s0.length ≤ s.length → (∀ j, j < s0.length → j ≠ p → j ≠ q → j ≠ q2 → s[j]? = s0[j]?) →
      ∃ (ps' : List Pr) (b6 b7 b8 b9 b10 b11 b12 b13 : Option W) (s' : Store), forGo (oneS T (run T (n + 1)) none (.nm 6) b14_2) [] vs [some (.ref p), a1, some (.int lev), some (.lst (nW base)), some (.ref q), some (.ref q2), a6, some (.int lo), some (.int hi), a9, a10, a11, a12, a13] s =
        .nx [some (.ref p), a1, some (.int lev), some (.lst (nW base)), some (.ref q), some (.ref q2), b6, b7, b8, b9, b10, b11, b12, b13] s' ∧ ps'.length = ps.length + vs.length ∧ Chain base lev ps' ∧ At s' q (.lst (ps'.map fun r => lN (r.row base lev))) ∧ pool s' p ∧ s0.length ≤ s'.length ∧ (∀ j, j < s0.length → j ≠ p → j ≠ q → j ≠ q2 → s'[j]? = s0[j]?)
  | [], ps, G, lo, hi, a6, a9, a10, a11, a12, a13, s, _, hp, _, _, _, _, hC, _, hat, _, h1, h2 => ⟨ps, _, _, _, _, _, _, _, _, s, forGo_nil still_nil, by simp, hC, hat, hp, h1, h2⟩
  | v :: vs, ps, G, lo, hi, a6, a9, a10, a11, a12, a13, s, hc, hp, hlh, hhi, hG, hG3, hC, hps, hat, hat2, h1, h2 => by
    simp only [List.length_cons] at hc
    obtain ⟨g, lo', hi', b9, b10, b11, b12, b13, s', e, hg, m1, m2, m3, m4, at', at2', hp', hlen, hk⟩ := step_ok n a1 a6 a9 a10 a11 a12 a13 base ps p q q2 G lo hi lev s v hp hl1 hl hb hb4 hlh hhi (by omega) hq hq2 hqq hat hat2
    have hGg : G * g ≤ 3 ^ (ps.length + 1) := by
      rw [Nat.pow_succ]
      exact Nat.mul_le_mul hG3 hg.2
    have hG1 : G ≤ G * g := Nat.le_mul_of_pos_right G (by omega)
    have hps5 : (3 : Nat) ^ (ps.length + 1) ≤ 3 ^ 5 := Nat.pow_le_pow_right (by omega) (by omega)
    obtain ⟨ps', b6, b7, b8, c9, c10, c11, c12, c13, s2, e2, hlen2, hC2, at2, hp2, hl2, hk2⟩ := loop_gen n a1 base p q q2 lev s0 hl1 hl hb hb4 hq hq2 hqq vs (ps ++ [⟨lo, hi, G * g⟩]) (G * g) lo' hi' (some v) b9 b10 b11 b12 b13 s' (by simp; omega) hp' m3 m4 (by omega) (by simpa using hGg)
      (by
        refine ⟨?_, ?_⟩
        · rw [List.pairwise_append]
          refine ⟨hC.1, by simp, fun a ha b hb => ?_⟩
          simp at hb
          subst hb
          obtain ⟨x1, x2, x3⟩ := hps a ha
          exact ⟨x1, x2, by show a.G ≤ G * g; omega⟩
        · intro r hr
          rcases List.mem_append.mp hr with hr | hr
          · exact hC.2 r hr
          · simp at hr
            subst hr
            exact ⟨hlh, hhi, by show 1 ≤ G * g; omega, by show G * g ≤ 3 ^ 5; omega⟩)
      (by
        intro r hr
        rcases List.mem_append.mp hr with hr | hr
        · obtain ⟨x1, x2, x3⟩ := hps r hr
          exact ⟨by omega, by omega, by omega⟩
        · simp at hr
          subst hr
          exact ⟨m1, m2, Nat.le_refl _⟩) at' at2' (by omega) (fun j hj jp jq jq2 => by rw [hk j (by omega) jp jq jq2, h2 j hj jp jq jq2])
    refine ⟨ps', b6, b7, b8, c9, c10, c11, c12, c13, s2, ?_, by rw [hlen2]; simp; omega, hC2, at2, hp2, hl2, hk2⟩
    rw [forGo_cons still_nil, e, thn_nx, e2]
/-- the rows as ints -/
def toI (base : List Nat) (lev : Nat) (ps : List Pr) : List (List Int) := ps.map fun r => (r.row base lev).map fun (n : Nat) => (n : Int)
theorem toI_w {base : List Nat} {lev : Nat} {ps : List Pr} : (ps.map fun r => lN (r.row base lev)) = (toI base lev ps).map lW := by
  unfold toI lN nW lW
  rw [List.map_map]
  apply List.map_congr_left
  intro r _
  simp only [Function.comp_def, List.map_map]
theorem gen_ok (n : Nat) {p : Nat} {st : Store} (hp : pool st p) (cnt lev : Nat) (h1 : 1 ≤ lev) (hl : lev ≤ 5) (hc : cnt ≤ 5) : ∃ (base : List Nat) (ps : List Pr) (s : Store), run T (n + 2) 14 [.ref p, .int cnt, .int lev] st = .ok (.lst ((toI base lev ps).map lW)) s ∧ ps.length = cnt ∧ Chain base lev ps ∧ base.length = lev ∧ (∀ b ∈ base, 1 ≤ b ∧ b ≤ 4) ∧ Pk p st s ∧ s.length = st.length := by
  rw [run_eq (d := f14) rfl rfl]
  have hpl := hp.lt
  obtain ⟨bs, s1, hb, hbl, hbp, hP1, hs1⟩ := lc_ints (st := st) (one := lcOne T (run T (n + 1)) none [11] x14_3 (.nm 11) .yes [some (.ref p), some (.int cnt), some (.int lev), none, none, none, none, none, none, none, none, none, none, none]) hp (fun i => 1 ≤ i ∧ i ≤ 4) ((List.range lev).map fun (i : Nat) => .int (i : Int)) (by simp; omega) (by
    intro x s hx hps
    obtain ⟨r, s', hd, hr, hP, hs⟩ := draw_ok (T := T) (f := 12) rfl n (p := p) (lim := 4) hps (by omega) (by omega)
    exact ⟨1 + r, s', by simp (disch := first | assumption | (simp; done) | omega | (simp; omega) | decide) only [bd_st, bdR_ok, bdR_ex, bdR_no, pu_st, no_st, bo_ok, bo_ex, bo_no, thn_nx, thn_rt, thn_ex, thn_no, res_nx, res_rt, res_ex, res_no, nxs_st, rts_st, bos_st, iteS_t, iteS_f, exSs_nil, exSs_cons, exS_ex, exS_asg, exS_par, exS_ret, exS_ret0, exS_pas, exS_ite, exS_loop, exS_tri, exS_rai, exS_sat, exS_six, triS_nx, triS_rt, triS_ex, ev_v, ev_cst, ev_gi, ev_bin, ev_neg, negK_int, ev_cmp, ev_chn, chnK_t, chnK_f, ev_isN, ev_ntN, noneB, ev_and, ev_or, andK_t, andK_f, orK_t, orK_f, notK_bl, ev_not, ev_ite, ev_tup, ev_lst, ev_idx, ev_slc, ev_att, ev_call, ev_mth, ev_new, ev_bi, ev_bm, ev_lc, ev_frz, ev_tupS, ev_lstS, evz_nil, evz_f, evz_t, evT_yes, evT_e, andT_t, andT_f, orT_t, orT_f, evT_and, evT_or, evT_not, evO_om, evO_e, intO_int, evs_nil, evs_cons, evI_sq, evI_en, evI_zp, evI_r1, evI_r2, asgn_nm, asgn_tp, asgns_nil, asgns_cons, oneS_st, lcOne_st, add_int, sub_int, items_lst, items_fro, items_tup, itemsN_lst, itemsN_fro, itemsL_lst, lt_int, le_int, gt_int, ge_int, eq_int, ne_int, tru_b, tru_non, tru_lst, tru_tup, int_int, isBool_bl, nox_k, Cn.w, srcOf_lst, srcOf_tup, srcOf_fro, srcOf_ref, still_nil, List.getElem?_cons_zero, List.getElem?_cons_succ, List.set_cons_zero, List.set_cons_succ, startE, List.map_cons, List.map_nil, List.length_cons, List.length_nil, List.length_map, List.length_range, List.cons_append, List.nil_append, List.replicate_succ, List.replicate_zero, wipeE, unE, Nat.reduceAdd, Nat.reduceSub, decide_true, decide_false, Bool.not_true, Bool.not_false, mul_int, mod_int, fdiv_int, pow_int, mkL_f, mkL_t, len_lst, len_tup, len_fro, tuple_lst, tuple_tup, tuple_fro, list_lst, list_tup, list_fro, int_bl, min_two, max_two, tupK_ok, x14_3, hd], by omega, hP, hs⟩)
  simp at hbl
  obtain ⟨base, rfl⟩ : ∃ base : List Nat, bs = base.map fun (n : Nat) => (n : Int) := by
    refine ⟨bs.map Int.toNat, ?_⟩
    rw [List.map_map]
    apply List.ext_getElem
    · simp
    · intro i h1 h2
      have := (hbp bs[i] (List.getElem_mem _)).1
      simp
      omega
  have hb4 : ∀ b ∈ base, 1 ≤ b ∧ b ≤ 4 := fun b hb' => by
    have := hbp (b : Int) (List.mem_map.mpr ⟨b, hb', rfl⟩)
    omega
  have hbW : lW (base.map fun (n : Nat) => (n : Int)) = .lst (nW base) := by unfold lW nW; rw [List.map_map]; rfl
  rw [hbW] at hb
  have hbl' : base.length = lev := by simpa using hbl
  have r1 : opB .mul true (.lst [.int 1]) (.int (lev : Int)) (s1 ++ [some (.lst [])]) = .ok (.ref (s1.length + 1)) ((s1 ++ [some (.lst [])]) ++ [some (.lst (nW (pw 1 1 lev lev)))]) := by
    rw [rep_int (by omega), mkL_t (by simp; omega), List.length_append]
    congr 5
    unfold nW pw
    apply List.ext_getElem?
    intro i
    by_cases h : i < lev
    · simp [h]
    · simp at h
      simp [h]
  obtain ⟨hi, s2, hd, hhi, hP2, hs2⟩ := draw_ok (T := T) (f := 12) rfl n (p := p) (lim := (lev : Int)) (hP1.pool.app (e := [some (.lst [])]).app (e := [some (.lst (nW (pw 1 1 lev lev)))])) (by omega) (by omega)
  have at1 : At s2 s1.length (.lst []) := hP2.at (At.last.app) (by omega)
  have at2 : At s2 (s1.length + 1) (.lst (nW (pw 1 1 lev lev))) := by
    have := At.last (st := s1 ++ [some (.lst [])]) (o := .lst (nW (pw 1 1 lev lev)))
    rw [List.length_append] at this
    exact hP2.at this (by simp; omega)
  have hs2l : s2.length = s1.length + 2 := by rw [hs2]; simp
  obtain ⟨ps, b6, b7, b8, b9, b10, b11, b12, b13, s3, e3, hlen, hC, at3, hp3, hl3, hk3⟩ := loop_gen n (some (.int cnt)) base p s1.length (s1.length + 1) lev s1 h1 hl hbl' (fun b hb => (hb4 b hb).2) (by omega) (by omega) (by omega) ((List.range cnt).map fun (i : Nat) => .int (i : Int)) [] 1 0 hi none none none none none none s2 (by simp; omega) hP2.pool (by omega) (by omega) (Nat.le_refl _) (by simp) ⟨by simp, by simp⟩ (by simp) at1 at2 (by omega) (fun j hj jp jq jq2 => by
    rw [hP2.keep j (by simp; omega) jp, List.getElem?_append_left (by simp; omega), List.getElem?_append_left (by omega)])
  have hf : freeze T (.ref s1.length) s3 = .ok (.lst (ps.map fun r => lN (r.row base lev))) (s3.set s1.length none) := by
    unfold freeze
    unfold At at at3
    simp only [at3]
  have hPf : Pk p st (s3.set s1.length none) := by
    refine ⟨by simp; omega, fun j hj jp => ?_, hp3.set (by omega)⟩
    rw [List.getElem?_set_ne (by omega), hk3 j (by omega) jp (by omega) (by omega), hP1.keep j hj jp]
  obtain ⟨s4, h4, h5, h6⟩ := hPf.cut hpl (w := .lst ((toI base lev ps).map lW)) (by simp [W.clo, W.clos_iff])
  rw [toI_w] at hf
  have hrg : rg1 (.int (lev : Int)) st = .ok ⟨(List.range lev).map fun (j : Nat) => .int (j : Int), []⟩ st := rg1_nat (by omega)
  have hrg2 : rg1 (.int (cnt : Int)) s2 = .ok ⟨(List.range cnt).map fun (j : Nat) => .int (j : Int), []⟩ s2 := rg1_nat (by omega)
  have e0 : (0 : Int) = ((0 : Nat) : Int) := rfl
  have e3' := e3
  rw [← e0] at e3'
  refine ⟨base, ps, s4, ?_, by simpa using hlen, hC, hbl', hb4, h5, h6⟩
  simp (disch := first | assumption | (simp; done) | omega | (simp; omega) | decide) only [bd_st, bdR_ok, bdR_ex, bdR_no, pu_st, no_st, bo_ok, bo_ex, bo_no, thn_nx, thn_rt, thn_ex, thn_no, res_nx, res_rt, res_ex, res_no, nxs_st, rts_st, bos_st, iteS_t, iteS_f, exSs_nil, exSs_cons, exS_ex, exS_asg, exS_par, exS_ret, exS_ret0, exS_pas, exS_ite, exS_loop, exS_tri, exS_rai, exS_sat, exS_six, triS_nx, triS_rt, triS_ex, ev_v, ev_cst, ev_gi, ev_bin, ev_neg, negK_int, ev_cmp, ev_chn, chnK_t, chnK_f, ev_isN, ev_ntN, noneB, ev_and, ev_or, andK_t, andK_f, orK_t, orK_f, notK_bl, ev_not, ev_ite, ev_tup, ev_lst, ev_idx, ev_slc, ev_att, ev_call, ev_mth, ev_new, ev_bi, ev_bm, ev_lc, ev_frz, ev_tupS, ev_lstS, evz_nil, evz_f, evz_t, evT_yes, evT_e, andT_t, andT_f, orT_t, orT_f, evT_and, evT_or, evT_not, evO_om, evO_e, intO_int, evs_nil, evs_cons, evI_sq, evI_en, evI_zp, evI_r1, evI_r2, asgn_nm, asgn_tp, asgns_nil, asgns_cons, oneS_st, lcOne_st, add_int, sub_int, items_lst, items_fro, items_tup, itemsN_lst, itemsN_fro, itemsL_lst, lt_int, le_int, gt_int, ge_int, eq_int, ne_int, tru_b, tru_non, tru_lst, tru_tup, int_int, isBool_bl, nox_k, Cn.w, srcOf_lst, srcOf_tup, srcOf_fro, srcOf_ref, still_nil, List.getElem?_cons_zero, List.getElem?_cons_succ, List.set_cons_zero, List.set_cons_succ, startE, List.map_cons, List.map_nil, List.length_cons, List.length_nil, List.length_map, List.length_range, List.cons_append, List.nil_append, List.replicate_succ, List.replicate_zero, wipeE, unE, Nat.reduceAdd, Nat.reduceSub, decide_true, decide_false, Bool.not_true, Bool.not_false, mul_int, mod_int, fdiv_int, pow_int, mkL_f, mkL_t, len_lst, len_tup, len_fro, tuple_lst, tuple_tup, tuple_fro, list_lst, list_tup, list_fro, int_bl, min_two, max_two, tupK_ok, f14, b14, hrg, hb, r1, hd, hrg2, loopS_st, e3', hf, h4]
/-! the rows are ordered -/
theorem row_get {base : List Nat} {lev j : Nat} {r : Pr} (hj : j < lev) : ((r.row base lev).map fun (n : Nat) => (n : Int))[j]! = ((if r.lo ≤ j ∧ j < r.hi + 1 then base[j]! * r.G ^ j else 0 : Nat) : Int) := by
  unfold Pr.row rowp
  simp [hj]
theorem gen_wt {base : List Nat} {lev : Nat} {ps : List Pr} (hC : Chain base lev ps) (hb : base.length = lev) (hb4 : ∀ b ∈ base, 1 ≤ b ∧ b ≤ 4) (h1 : 1 ≤ lev) (hl : lev ≤ 5) (hn1 : 1 ≤ ps.length) (hn2 : ps.length ≤ 5) :
    Wt (toI base lev ps) lev ∧ (∀ r ∈ toI base lev ps, ∀ x ∈ r, x < 2 ^ 50) ∧ ¬ nought (toI base lev ps) := by
  have key : ∀ r ∈ toI base lev ps, ∀ x ∈ r, 0 ≤ x ∧ x < 2 ^ 50 := by
    intro r hr x hx
    obtain ⟨q, hq, rfl⟩ := List.mem_map.mp hr
    obtain ⟨m, hm, rfl⟩ := List.mem_map.mp hx
    unfold Pr.row rowp at hm
    obtain ⟨j, hj, rfl⟩ := List.mem_map.mp hm
    have hj' : j < lev := by simpa using hj
    obtain ⟨c1, c2, c3, c4⟩ := hC.2 q hq
    refine ⟨by omega, ?_⟩
    split
    · have b4 : base[j]! ≤ 4 := (hb4 _ (by have : j < base.length := by omega
                                           simp [this])).2
      have p1 : q.G ^ j ≤ (3 ^ 5) ^ j := Nat.pow_le_pow_left c4 j
      have p2 : (3 ^ 5) ^ j ≤ (3 ^ 5) ^ 4 := Nat.pow_le_pow_right (by omega) (by omega)
      have p3 : base[j]! * q.G ^ j ≤ 4 * (3 ^ 5) ^ 4 := Nat.mul_le_mul b4 (Nat.le_trans p1 p2)
      have : (4 : Nat) * (3 ^ 5) ^ 4 < 2 ^ 50 := by decide
      omega
    · decide
  refine ⟨⟨by unfold toI; simpa using hn1, by unfold toI; simpa using hn2, h1, hl, ?_, fun r hr x hx => (key r hr x hx).1, fun r hr x hx => by have := (key r hr x hx).2; omega⟩, fun r hr x hx => (key r hr x hx).2, ?_⟩
  · intro r hr
    obtain ⟨q, hq, rfl⟩ := List.mem_map.mp hr
    unfold Pr.row rowp
    simp
  · rintro ⟨r, hr, e⟩
    have kr := fun x hx => (key r hr x hx).1
    obtain ⟨q, hq, rfl⟩ := List.mem_map.mp hr
    obtain ⟨c1, c2, c3, c4⟩ := hC.2 q hq
    have hlo : q.lo < lev := by omega
    have hlen : ((q.row base lev).map fun (n : Nat) => (n : Int)).length = lev := by unfold Pr.row rowp; simp
    rw [sum_S, hlen] at e
    have hge := S_ge (n := lev) (f := fun i => ((q.row base lev).map fun (n : Nat) => (n : Int))[i]!) (fun i hi => by rw [row_get hi]; omega) q.lo hlo
    rw [e] at hge
    simp only [row_get hlo] at hge
    rw [if_pos ⟨Nat.le_refl _, by omega⟩] at hge
    have hlb : q.lo < base.length := by omega
    have b1 : 1 ≤ base[q.lo]! := (hb4 _ (by simp [hlb])).1
    have g1 : 0 < q.G ^ q.lo := Nat.pow_pos (by omega)
    have : 0 < base[q.lo]! * q.G ^ q.lo := Nat.mul_pos (by omega) g1
    omega
theorem gen_ord {base : List Nat} {lev : Nat} {ps : List Pr} (hC : Chain base lev ps) : Ord (toI base lev ps) lev := by
  intro f s a b hfs hs hab hb
  have hl : (toI base lev ps).length = ps.length := by unfold toI; simp
  rw [hl] at hs
  have hf : f < ps.length := by omega
  have e1 : (toI base lev ps)[f]! = (ps[f].row base lev).map fun (n : Nat) => (n : Int) := by unfold toI; simp [hf]
  have e2 : (toI base lev ps)[s]! = (ps[s].row base lev).map fun (n : Nat) => (n : Int) := by unfold toI; simp [hs]
  have hle := List.pairwise_iff_getElem.mp hC.1 f s hf hs hfs
  unfold minor
  rw [e1, e2, row_get (by omega), row_get hb, row_get hb, row_get (by omega)]
  generalize ps[f] = p at *
  generalize ps[s] = q at *
  obtain ⟨l1, l2, l3⟩ := hle
  rw [← Int.natCast_mul, ← Int.natCast_mul]
  suffices h : (if p.lo ≤ b ∧ b < p.hi + 1 then base[b]! * p.G ^ b else 0) * (if q.lo ≤ a ∧ a < q.hi + 1 then base[a]! * q.G ^ a else 0) ≤ (if p.lo ≤ a ∧ a < p.hi + 1 then base[a]! * p.G ^ a else 0) * (if q.lo ≤ b ∧ b < q.hi + 1 then base[b]! * q.G ^ b else 0) by omega
  by_cases c1 : p.lo ≤ b ∧ b < p.hi + 1
  · by_cases c2 : q.lo ≤ a ∧ a < q.hi + 1
    · rw [if_pos c1, if_pos c2, if_pos (by omega), if_pos (by omega)]
      obtain ⟨d, rfl⟩ : ∃ d, b = a + d := ⟨b - a, by omega⟩
      have k1 : p.G ^ d ≤ q.G ^ d := Nat.pow_le_pow_left l3 d
      have k2 : base[a + d]! * p.G ^ (a + d) * (base[a]! * q.G ^ a) = (base[a + d]! * base[a]! * p.G ^ a * q.G ^ a) * p.G ^ d := by
        rw [Nat.pow_add]; simp only [Nat.mul_comm, Nat.mul_left_comm, Nat.mul_assoc]
      have k3 : base[a]! * p.G ^ a * (base[a + d]! * q.G ^ (a + d)) = (base[a + d]! * base[a]! * p.G ^ a * q.G ^ a) * q.G ^ d := by
        rw [Nat.pow_add]; simp only [Nat.mul_comm, Nat.mul_left_comm, Nat.mul_assoc]
      rw [k2, k3]
      exact Nat.mul_le_mul_left _ k1
    · rw [if_neg c2]; simp
  · rw [if_neg c1]; simp
end Mi.K46
set_option maxHeartbeats 4000000
namespace Mi.K46
open PySem Mi
section
variable {rows : List (List Int)} {lev : Nat}
/-- two rows drawn, none without weight -/
def fix (r : List Int) : List Int := (r[0]! + if decide (r.sum = 0) = true then 1 else 0) :: r.drop 1
theorem fix_ok {r : List Int} {k : Nat} (hk : r.length = k) (h1 : 1 ≤ k) (h5 : k ≤ 5) (hr : ∀ x ∈ r, 0 ≤ x ∧ x < 4) : (fix r).length = k ∧ (∀ x ∈ fix r, 0 ≤ x ∧ x < 2 ^ 60) ∧ (fix r).sum ≠ 0 := by
  cases r with
  | nil => simp at hk; omega
  | cons a r =>
    have ha := hr a List.mem_cons_self
    have hs := sum_pos (r := r) fun x hx => (hr x (List.mem_cons_of_mem _ hx)).1
    unfold fix
    refine ⟨by simpa using hk, ?_, ?_⟩
    · intro x hx
      simp at hx
      rcases hx with rfl | hx
      · by_cases e : a + r.sum = 0 <;> simp [e] <;> omega
      · have := hr x (List.mem_cons_of_mem _ hx); omega
    · simp
      by_cases e : a + r.sum = 0
      · simp [e]; omega
      · simp [e]
theorem cell_ok (a0 a1 a2 a4 a5 a6 a7 a8 a9 a10 a11 a12 a13 a14 : Option W) (s : Store) (h : Wt rows lev) (hb : ∀ r ∈ rows, ∀ x ∈ r, x < 2 ^ 50) (hnn : ¬ nought rows) (hO : Ord rows lev) (cell : Int) :
    ∃ (b1 b5 b6 b7 b8 b9 b10 b11 : Option W) (s' : Store), oneS T (run T 13) none (.nm 4) b20_6 (.int cell) [a0, a1, a2, some (sgW rows lev), a4, a5, a6, a7, a8, a9, a10, a11, a12, a13, a14] s = .nx [a0, b1, a2, some (sgW rows lev), some (.int cell), b5, b6, b7, b8, b9, b10, b11, a12, a13, a14] s' := by
  have hn1 := h.n1
  have hn2 := h.n2
  have l1 := h.l1
  have l2 := h.l2
  obtain ⟨x, hbg, hp1⟩ := bag_ok (T := T) (f := 11) rfl 12 cell s
  obtain ⟨v, s2, hv, hvl, hvc, hP2, hs2⟩ := gencross_ok 11 hp1 lev l2
  have htot := totals_ok 10 v s2 h hvl
  have hc1 := crossing_ok 12 v _ s2 (.inl rfl) (by omega)
  have hct : crossR (rows.map fun r => dot r v) := totals_cross h.len hvl h.nn (fun r hr e => hnn ⟨r, hr, e⟩) hO hvc
  have hc2 := crosses_ok 12 (rows.map fun r => dot r v) s2 (by simp; omega)
  have hc3 := crossing_ok 12 (rows.map fun r => dot r v) _ s2 (.inl rfl) (by simp; omega)
  obtain ⟨k, s3, hd3, hk3, hP3, hs3⟩ := draw_ok (T := T) (f := 12) rfl 12 (lim := 6) hP2.pool (by omega) (by omega)
  obtain ⟨u, s4, hu, hul, _, hP4, hs4⟩ := lc_ints (st := s3) (one := lcOne T (run T 13) none [12] x20_5 (.nm 12) .yes [a0, some (.ref s.length), a2, some (sgW rows lev), some (.int cell), some (lW v), some (lW (rows.map fun r => dot r v)), a7, a8, a9, a10, a11, a12, a13, a14]) hP3.pool (fun _ => True) ((List.range k).map fun (i : Nat) => .int (i : Int)) (by simp; omega) (by
    intro y t hy hpt
    obtain ⟨r, t', hd, hr, hP, hs⟩ := draw_ok (T := T) (f := 12) rfl 12 (lim := 7) hpt (by omega) (by omega)
    exact ⟨r - 3, t', by simp (disch := first | assumption | (simp; done) | omega | (simp; omega) | decide) only [bd_st, bdR_ok, bdR_ex, bdR_no, pu_st, no_st, bo_ok, bo_ex, bo_no, thn_nx, thn_rt, thn_ex, thn_no, res_nx, res_rt, res_ex, res_no, nxs_st, rts_st, bos_st, iteS_t, iteS_f, exSs_nil, exSs_cons, exS_ex, exS_asg, exS_par, exS_ret, exS_ret0, exS_pas, exS_ite, exS_loop, exS_tri, exS_rai, exS_sat, exS_six, triS_nx, triS_rt, triS_ex, ev_v, ev_cst, ev_gi, ev_bin, ev_neg, negK_int, ev_cmp, ev_chn, chnK_t, chnK_f, ev_isN, ev_ntN, noneB, ev_and, ev_or, andK_t, andK_f, orK_t, orK_f, notK_bl, ev_not, ev_ite, ev_tup, ev_lst, ev_idx, ev_slc, ev_att, ev_call, ev_mth, ev_new, ev_bi, ev_bm, ev_lc, ev_frz, ev_tupS, ev_lstS, evz_nil, evz_f, evz_t, evT_yes, evT_e, andT_t, andT_f, orT_t, orT_f, evT_and, evT_or, evT_not, evO_om, evO_e, intO_int, evs_nil, evs_cons, evI_sq, evI_en, evI_zp, evI_r1, evI_r2, asgn_nm, asgn_tp, asgns_nil, asgns_cons, oneS_st, lcOne_st, add_int, sub_int, items_lst, items_fro, items_tup, itemsN_lst, itemsN_fro, itemsL_lst, lt_int, le_int, gt_int, ge_int, eq_int, ne_int, tru_b, tru_non, tru_lst, tru_tup, int_int, isBool_bl, nox_k, Cn.w, srcOf_lst, srcOf_tup, srcOf_fro, srcOf_ref, still_nil, List.getElem?_cons_zero, List.getElem?_cons_succ, List.set_cons_zero, List.set_cons_succ, startE, List.map_cons, List.map_nil, List.length_cons, List.length_nil, List.length_map, List.length_range, List.cons_append, List.nil_append, List.replicate_succ, List.replicate_zero, wipeE, unE, Nat.reduceAdd, Nat.reduceSub, decide_true, decide_false, Bool.not_true, Bool.not_false, mul_int, mod_int, fdiv_int, pow_int, mkL_f, mkL_t, len_lst, len_tup, len_fro, tuple_lst, tuple_tup, tuple_fro, list_lst, list_tup, list_fro, int_bl, min_two, max_two, tupK_ok, x20_5, hd], trivial, hP, hs⟩)
  simp at hul
  have hc4 := crossing_ok 12 u (lW u) s4 (.inl rfl) (by omega)
  have hc4' := crossing_ok 12 u (tW u) s4 (.inr rfl) (by omega)
  have hc5 := crosses_ok 12 u s4 (by omega)
  have hne : opC .ne (.bl (decide (crossR u))) (.bl (decide (crossR u))) s4 = .ok (.bl false) s4 := ne_same DtK.bl DtK.bl
  -- joined
  have hj : ∃ b11 s5, exS T (run T 13) none (.ite (.e (.cmp .gt (.att (.v 3) "count") (.cst (.int 1)))) (.cons (.asg (.nm 11) (.call 12 (.cons (.v 1) (.cons (.bin .sub false (.att (.v 3) "count") (.cst (.int 1))) .nil))))
  (.cons (.ite (.not (.e (.call 9 (.cons (.mth 6 (.v 3) (.cons (.v 11) (.cons (.bin .add false (.v 11) (.cst (.int 1))) .nil))) .nil)))) (.cons (.ret (.cst (.bl false)))
  .nil) .nil)
  .nil)) .nil) [a0, some (.ref s.length), a2, some (sgW rows lev), some (.int cell), some (lW u), some (lW (rows.map fun r => dot r v)), a7, a8, a9, a10, a11, a12, a13, a14] s4 = .nx [a0, some (.ref s.length), a2, some (sgW rows lev), some (.int cell), some (lW u), some (lW (rows.map fun r => dot r v)), a7, a8, a9, a10, b11, a12, a13, a14] s5 ∧ pool s5 s.length := by
    by_cases e : (1 : Int) < (rows.length : Int)
    · obtain ⟨d, s5, hd5, hdl, hP5, hs5⟩ := draw_ok (T := T) (f := 12) rfl 12 (lim := (rows.length : Int) - 1) hP4.pool (by omega) (by omega)
      have hk : d + 1 < rows.length := by omega
      have hjo := joined_ok 10 d s5 h hk (join_wt h hk hb) (join_nn h hk hnn)
      have hor := ordered_ok 9 s5 (join_wt h hk hb)
      have hOj := join_ord h hk hO
      have m6 := fun {ws s F} => mt (rows := rows) (lev := lev) (f := 6) (ws := ws) (s := s) (F := F) rfl
      have e1 : ((d : Int) + 1) = ((d + 1 : Nat) : Int) := rfl
      simp only [Nat.reduceAdd] at hd5 hjo hor
      exact ⟨some (.int d), s5, by simp (disch := first | assumption | (simp; done) | omega | (simp; omega) | decide) only [bd_st, bdR_ok, bdR_ex, bdR_no, pu_st, no_st, bo_ok, bo_ex, bo_no, thn_nx, thn_rt, thn_ex, thn_no, res_nx, res_rt, res_ex, res_no, nxs_st, rts_st, bos_st, iteS_t, iteS_f, exSs_nil, exSs_cons, exS_ex, exS_asg, exS_par, exS_ret, exS_ret0, exS_pas, exS_ite, exS_loop, exS_tri, exS_rai, exS_sat, exS_six, triS_nx, triS_rt, triS_ex, ev_v, ev_cst, ev_gi, ev_bin, ev_neg, negK_int, ev_cmp, ev_chn, chnK_t, chnK_f, ev_isN, ev_ntN, noneB, ev_and, ev_or, andK_t, andK_f, orK_t, orK_f, notK_bl, ev_not, ev_ite, ev_tup, ev_lst, ev_idx, ev_slc, ev_att, ev_call, ev_mth, ev_new, ev_bi, ev_bm, ev_lc, ev_frz, ev_tupS, ev_lstS, evz_nil, evz_f, evz_t, evT_yes, evT_e, andT_t, andT_f, orT_t, orT_f, evT_and, evT_or, evT_not, evO_om, evO_e, intO_int, evs_nil, evs_cons, evI_sq, evI_en, evI_zp, evI_r1, evI_r2, asgn_nm, asgn_tp, asgns_nil, asgns_cons, oneS_st, lcOne_st, add_int, sub_int, items_lst, items_fro, items_tup, itemsN_lst, itemsN_fro, itemsL_lst, lt_int, le_int, gt_int, ge_int, eq_int, ne_int, tru_b, tru_non, tru_lst, tru_tup, int_int, isBool_bl, nox_k, Cn.w, srcOf_lst, srcOf_tup, srcOf_fro, srcOf_ref, still_nil, List.getElem?_cons_zero, List.getElem?_cons_succ, List.set_cons_zero, List.set_cons_succ, startE, List.map_cons, List.map_nil, List.length_cons, List.length_nil, List.length_map, List.length_range, List.cons_append, List.nil_append, List.replicate_succ, List.replicate_zero, wipeE, unE, Nat.reduceAdd, Nat.reduceSub, decide_true, decide_false, Bool.not_true, Bool.not_false, mul_int, mod_int, fdiv_int, pow_int, mkL_f, mkL_t, len_lst, len_tup, len_fro, tuple_lst, tuple_tup, tuple_fro, list_lst, list_tup, list_fro, int_bl, min_two, max_two, tupK_ok, at_count, e, hd5, e1, m6, hjo, hor, hOj], hP5.pool⟩
    · exact ⟨a11, s4, by simp (disch := first | assumption | (simp; done) | omega | (simp; omega) | decide) only [bd_st, bdR_ok, bdR_ex, bdR_no, pu_st, no_st, bo_ok, bo_ex, bo_no, thn_nx, thn_rt, thn_ex, thn_no, res_nx, res_rt, res_ex, res_no, nxs_st, rts_st, bos_st, iteS_t, iteS_f, exSs_nil, exSs_cons, exS_ex, exS_asg, exS_par, exS_ret, exS_ret0, exS_pas, exS_ite, exS_loop, exS_tri, exS_rai, exS_sat, exS_six, triS_nx, triS_rt, triS_ex, ev_v, ev_cst, ev_gi, ev_bin, ev_neg, negK_int, ev_cmp, ev_chn, chnK_t, chnK_f, ev_isN, ev_ntN, noneB, ev_and, ev_or, andK_t, andK_f, orK_t, orK_f, notK_bl, ev_not, ev_ite, ev_tup, ev_lst, ev_idx, ev_slc, ev_att, ev_call, ev_mth, ev_new, ev_bi, ev_bm, ev_lc, ev_frz, ev_tupS, ev_lstS, evz_nil, evz_f, evz_t, evT_yes, evT_e, andT_t, andT_f, orT_t, orT_f, evT_and, evT_or, evT_not, evO_om, evO_e, intO_int, evs_nil, evs_cons, evI_sq, evI_en, evI_zp, evI_r1, evI_r2, asgn_nm, asgn_tp, asgns_nil, asgns_cons, oneS_st, lcOne_st, add_int, sub_int, items_lst, items_fro, items_tup, itemsN_lst, itemsN_fro, itemsL_lst, lt_int, le_int, gt_int, ge_int, eq_int, ne_int, tru_b, tru_non, tru_lst, tru_tup, int_int, isBool_bl, nox_k, Cn.w, srcOf_lst, srcOf_tup, srcOf_fro, srcOf_ref, still_nil, List.getElem?_cons_zero, List.getElem?_cons_succ, List.set_cons_zero, List.set_cons_succ, startE, List.map_cons, List.map_nil, List.length_cons, List.length_nil, List.length_map, List.length_range, List.cons_append, List.nil_append, List.replicate_succ, List.replicate_zero, wipeE, unE, Nat.reduceAdd, Nat.reduceSub, decide_true, decide_false, Bool.not_true, Bool.not_false, mul_int, mod_int, fdiv_int, pow_int, mkL_f, mkL_t, len_lst, len_tup, len_fro, tuple_lst, tuple_tup, tuple_fro, list_lst, list_tup, list_fro, int_bl, min_two, max_two, tupK_ok, at_count, e], hP4.pool⟩
  obtain ⟨b11, s5, hjo, hp5⟩ := hj
  obtain ⟨ss, s6, hss, hsub, hP6, hs6⟩ := lc_some (st := s5) (one := lcOne T (run T 13) none [13] x20_3 (.nm 13) t20_4 [a0, some (.ref s.length), a2, some (sgW rows lev), some (.int cell), some (lW u), some (lW (rows.map fun r => dot r v)), a7, a8, a9, a10, b11, a12, a13, a14]) hp5 ((List.range lev).map fun (i : Nat) => (i : Int)) (by simp; omega) (by
    intro i t hi hpt
    obtain ⟨r, t', hd, hr, hP, hs⟩ := draw_ok (T := T) (f := 12) rfl 12 (lim := 3) hpt (by omega) (by omega)
    by_cases e : (0 : Int) < (r : Int)
    · exact ⟨true, t', by simp (disch := first | assumption | (simp; done) | omega | (simp; omega) | decide) only [bd_st, bdR_ok, bdR_ex, bdR_no, pu_st, no_st, bo_ok, bo_ex, bo_no, thn_nx, thn_rt, thn_ex, thn_no, res_nx, res_rt, res_ex, res_no, nxs_st, rts_st, bos_st, iteS_t, iteS_f, exSs_nil, exSs_cons, exS_ex, exS_asg, exS_par, exS_ret, exS_ret0, exS_pas, exS_ite, exS_loop, exS_tri, exS_rai, exS_sat, exS_six, triS_nx, triS_rt, triS_ex, ev_v, ev_cst, ev_gi, ev_bin, ev_neg, negK_int, ev_cmp, ev_chn, chnK_t, chnK_f, ev_isN, ev_ntN, noneB, ev_and, ev_or, andK_t, andK_f, orK_t, orK_f, notK_bl, ev_not, ev_ite, ev_tup, ev_lst, ev_idx, ev_slc, ev_att, ev_call, ev_mth, ev_new, ev_bi, ev_bm, ev_lc, ev_frz, ev_tupS, ev_lstS, evz_nil, evz_f, evz_t, evT_yes, evT_e, andT_t, andT_f, orT_t, orT_f, evT_and, evT_or, evT_not, evO_om, evO_e, intO_int, evs_nil, evs_cons, evI_sq, evI_en, evI_zp, evI_r1, evI_r2, asgn_nm, asgn_tp, asgns_nil, asgns_cons, oneS_st, lcOne_st, add_int, sub_int, items_lst, items_fro, items_tup, itemsN_lst, itemsN_fro, itemsL_lst, lt_int, le_int, gt_int, ge_int, eq_int, ne_int, tru_b, tru_non, tru_lst, tru_tup, int_int, isBool_bl, nox_k, Cn.w, srcOf_lst, srcOf_tup, srcOf_fro, srcOf_ref, still_nil, List.getElem?_cons_zero, List.getElem?_cons_succ, List.set_cons_zero, List.set_cons_succ, startE, List.map_cons, List.map_nil, List.length_cons, List.length_nil, List.length_map, List.length_range, List.cons_append, List.nil_append, List.replicate_succ, List.replicate_zero, wipeE, unE, Nat.reduceAdd, Nat.reduceSub, decide_true, decide_false, Bool.not_true, Bool.not_false, mul_int, mod_int, fdiv_int, pow_int, mkL_f, mkL_t, len_lst, len_tup, len_fro, tuple_lst, tuple_tup, tuple_fro, list_lst, list_tup, list_fro, int_bl, min_two, max_two, tupK_ok, x20_3, t20_4, hd, e, if_true], hP, hs⟩
    · exact ⟨false, t', by simp (disch := first | assumption | (simp; done) | omega | (simp; omega) | decide) only [bd_st, bdR_ok, bdR_ex, bdR_no, pu_st, no_st, bo_ok, bo_ex, bo_no, thn_nx, thn_rt, thn_ex, thn_no, res_nx, res_rt, res_ex, res_no, nxs_st, rts_st, bos_st, iteS_t, iteS_f, exSs_nil, exSs_cons, exS_ex, exS_asg, exS_par, exS_ret, exS_ret0, exS_pas, exS_ite, exS_loop, exS_tri, exS_rai, exS_sat, exS_six, triS_nx, triS_rt, triS_ex, ev_v, ev_cst, ev_gi, ev_bin, ev_neg, negK_int, ev_cmp, ev_chn, chnK_t, chnK_f, ev_isN, ev_ntN, noneB, ev_and, ev_or, andK_t, andK_f, orK_t, orK_f, notK_bl, ev_not, ev_ite, ev_tup, ev_lst, ev_idx, ev_slc, ev_att, ev_call, ev_mth, ev_new, ev_bi, ev_bm, ev_lc, ev_frz, ev_tupS, ev_lstS, evz_nil, evz_f, evz_t, evT_yes, evT_e, andT_t, andT_f, orT_t, orT_f, evT_and, evT_or, evT_not, evO_om, evO_e, intO_int, evs_nil, evs_cons, evI_sq, evI_en, evI_zp, evI_r1, evI_r2, asgn_nm, asgn_tp, asgns_nil, asgns_cons, oneS_st, lcOne_st, add_int, sub_int, items_lst, items_fro, items_tup, itemsN_lst, itemsN_fro, itemsL_lst, lt_int, le_int, gt_int, ge_int, eq_int, ne_int, tru_b, tru_non, tru_lst, tru_tup, int_int, isBool_bl, nox_k, Cn.w, srcOf_lst, srcOf_tup, srcOf_fro, srcOf_ref, still_nil, List.getElem?_cons_zero, List.getElem?_cons_succ, List.set_cons_zero, List.set_cons_succ, startE, List.map_cons, List.map_nil, List.length_cons, List.length_nil, List.length_map, List.length_range, List.cons_append, List.nil_append, List.replicate_succ, List.replicate_zero, wipeE, unE, Nat.reduceAdd, Nat.reduceSub, decide_true, decide_false, Bool.not_true, Bool.not_false, mul_int, mod_int, fdiv_int, pow_int, mkL_f, mkL_t, len_lst, len_tup, len_fro, tuple_lst, tuple_tup, tuple_fro, list_lst, list_tup, list_fro, int_bl, min_two, max_two, tupK_ok, x20_3, t20_4, hd, e, if_false]; rfl, hP, hs⟩)
  obtain ⟨ns, rfl, hnsub⟩ : ∃ ns : List Nat, ss = ns.map (fun (n : Nat) => (n : Int)) ∧ ns.Sublist (List.range lev) := by
    obtain ⟨ns, h1, h2⟩ := List.sublist_map_iff.mp hsub
    exact ⟨ns, h2, h1⟩
  have hnl : ns.length ≤ 5 := by have := hnsub.length_le; simp at this; omega
  have hlp := lawpart_ok 8 ns s6 h hO (fun t ht => by simpa using hnsub.subset ht) (List.Pairwise.sublist hnsub List.pairwise_lt_range) hnl
  have hnsW : lW (ns.map fun (n : Nat) => (n : Int)) = .lst (ns.map fun (n : Nat) => W.int (n : Int)) := by unfold lW; rw [List.map_map]; rfl
  rw [hnsW] at hss
  rw [List.map_map] at hss
  obtain ⟨wd, hwd, hw1, hw5⟩ : ∃ wd : Nat, (if (1 : Int) + (lev : Int) < 5 then (1 : Int) + (lev : Int) else 5) = (wd : Int) ∧ 1 ≤ wd ∧ wd ≤ 5 := by
    by_cases e : (1 : Int) + (lev : Int) < 5
    · exact ⟨1 + lev, by rw [if_pos e]; omega, by omega, by omega⟩
    · exact ⟨5, by rw [if_neg e]; rfl, by omega, by omega⟩
  have hr2 : rg1 (.int 2) s6 = .ok ⟨(List.range 2).map fun (j : Nat) => .int (j : Int), []⟩ s6 := rg1_nat (j := 2) (by omega)
  obtain ⟨ows, s7, ho7, ⟨os, rfl, hol, hop, _⟩, hP7, hs7⟩ := lc_pool (st := s6) (one := lcOne T (run T 13) none [12] x20_2 (.nm 12) .yes [a0, some (.ref s.length), a2, some (sgW rows lev), some (.int cell), some (lW u), some (lW (rows.map fun r => dot r v)), some (.lst (ns.map fun (n : Nat) => W.int (n : Int))), some (.int (wd : Int)), a9, a10, b11, a12, a13, a14]) hP6.pool
    (fun acc xs => ∃ os : List (List Int), acc = os.map lW ∧ os.length + xs.length = 2 ∧ (∀ r ∈ os, r.length = wd ∧ ∀ x ∈ r, 0 ≤ x ∧ x < 4) ∧ True) ((List.range 2).map fun (j : Nat) => .int (j : Int)) (by simp) ⟨[], rfl, by simp, by simp, trivial⟩
    (by rintro acc xs ⟨os, rfl, h, _⟩; simp; omega)
    (by
      rintro acc y xs t ⟨os, rfl, h1, h2, _⟩ hpt
      obtain ⟨l, t', hl, hll, hlp, hP, hs⟩ := lc_ints (st := t) (one := lcOne T (run T 13) none [13] x20_1 (.nm 13) .yes [a0, some (.ref s.length), a2, some (sgW rows lev), some (.int cell), some (lW u), some (lW (rows.map fun r => dot r v)), some (.lst (ns.map fun (n : Nat) => W.int (n : Int))), some (.int (wd : Int)), a9, a10, b11, some y, a13, a14]) hpt (fun i => 0 ≤ i ∧ i < 4) ((List.range wd).map fun (i : Nat) => .int (i : Int)) (by simp; omega) (by
        intro z t2 hz hpt2
        obtain ⟨r, t3, hd, hr, hP, hs⟩ := draw_ok (T := T) (f := 12) rfl 12 (lim := 4) hpt2 (by omega) (by omega)
        exact ⟨r, t3, by simp (disch := first | assumption | (simp; done) | omega | (simp; omega) | decide) only [bd_st, bdR_ok, bdR_ex, bdR_no, pu_st, no_st, bo_ok, bo_ex, bo_no, thn_nx, thn_rt, thn_ex, thn_no, res_nx, res_rt, res_ex, res_no, nxs_st, rts_st, bos_st, iteS_t, iteS_f, exSs_nil, exSs_cons, exS_ex, exS_asg, exS_par, exS_ret, exS_ret0, exS_pas, exS_ite, exS_loop, exS_tri, exS_rai, exS_sat, exS_six, triS_nx, triS_rt, triS_ex, ev_v, ev_cst, ev_gi, ev_bin, ev_neg, negK_int, ev_cmp, ev_chn, chnK_t, chnK_f, ev_isN, ev_ntN, noneB, ev_and, ev_or, andK_t, andK_f, orK_t, orK_f, notK_bl, ev_not, ev_ite, ev_tup, ev_lst, ev_idx, ev_slc, ev_att, ev_call, ev_mth, ev_new, ev_bi, ev_bm, ev_lc, ev_frz, ev_tupS, ev_lstS, evz_nil, evz_f, evz_t, evT_yes, evT_e, andT_t, andT_f, orT_t, orT_f, evT_and, evT_or, evT_not, evO_om, evO_e, intO_int, evs_nil, evs_cons, evI_sq, evI_en, evI_zp, evI_r1, evI_r2, asgn_nm, asgn_tp, asgns_nil, asgns_cons, oneS_st, lcOne_st, add_int, sub_int, items_lst, items_fro, items_tup, itemsN_lst, itemsN_fro, itemsL_lst, lt_int, le_int, gt_int, ge_int, eq_int, ne_int, tru_b, tru_non, tru_lst, tru_tup, int_int, isBool_bl, nox_k, Cn.w, srcOf_lst, srcOf_tup, srcOf_fro, srcOf_ref, still_nil, List.getElem?_cons_zero, List.getElem?_cons_succ, List.set_cons_zero, List.set_cons_succ, startE, List.map_cons, List.map_nil, List.length_cons, List.length_nil, List.length_map, List.length_range, List.cons_append, List.nil_append, List.replicate_succ, List.replicate_zero, wipeE, unE, Nat.reduceAdd, Nat.reduceSub, decide_true, decide_false, Bool.not_true, Bool.not_false, mul_int, mod_int, fdiv_int, pow_int, mkL_f, mkL_t, len_lst, len_tup, len_fro, tuple_lst, tuple_tup, tuple_fro, list_lst, list_tup, list_fro, int_bl, min_two, max_two, tupK_ok, x20_1, hd], by omega, hP, hs⟩)
      have hrg : rg1 (.int (wd : Int)) t = .ok ⟨(List.range wd).map fun (j : Nat) => .int (j : Int), []⟩ t := rg1_nat (by omega)
      simp at hll
      refine ⟨some (lW l), t', by simp (disch := first | assumption | (simp; done) | omega | (simp; omega) | decide) only [bd_st, bdR_ok, bdR_ex, bdR_no, pu_st, no_st, bo_ok, bo_ex, bo_no, thn_nx, thn_rt, thn_ex, thn_no, res_nx, res_rt, res_ex, res_no, nxs_st, rts_st, bos_st, iteS_t, iteS_f, exSs_nil, exSs_cons, exS_ex, exS_asg, exS_par, exS_ret, exS_ret0, exS_pas, exS_ite, exS_loop, exS_tri, exS_rai, exS_sat, exS_six, triS_nx, triS_rt, triS_ex, ev_v, ev_cst, ev_gi, ev_bin, ev_neg, negK_int, ev_cmp, ev_chn, chnK_t, chnK_f, ev_isN, ev_ntN, noneB, ev_and, ev_or, andK_t, andK_f, orK_t, orK_f, notK_bl, ev_not, ev_ite, ev_tup, ev_lst, ev_idx, ev_slc, ev_att, ev_call, ev_mth, ev_new, ev_bi, ev_bm, ev_lc, ev_frz, ev_tupS, ev_lstS, evz_nil, evz_f, evz_t, evT_yes, evT_e, andT_t, andT_f, orT_t, orT_f, evT_and, evT_or, evT_not, evO_om, evO_e, intO_int, evs_nil, evs_cons, evI_sq, evI_en, evI_zp, evI_r1, evI_r2, asgn_nm, asgn_tp, asgns_nil, asgns_cons, oneS_st, lcOne_st, add_int, sub_int, items_lst, items_fro, items_tup, itemsN_lst, itemsN_fro, itemsL_lst, lt_int, le_int, gt_int, ge_int, eq_int, ne_int, tru_b, tru_non, tru_lst, tru_tup, int_int, isBool_bl, nox_k, Cn.w, srcOf_lst, srcOf_tup, srcOf_fro, srcOf_ref, still_nil, List.getElem?_cons_zero, List.getElem?_cons_succ, List.set_cons_zero, List.set_cons_succ, startE, List.map_cons, List.map_nil, List.length_cons, List.length_nil, List.length_map, List.length_range, List.cons_append, List.nil_append, List.replicate_succ, List.replicate_zero, wipeE, unE, Nat.reduceAdd, Nat.reduceSub, decide_true, decide_false, Bool.not_true, Bool.not_false, mul_int, mod_int, fdiv_int, pow_int, mkL_f, mkL_t, len_lst, len_tup, len_fro, tuple_lst, tuple_tup, tuple_fro, list_lst, list_tup, list_fro, int_bl, min_two, max_two, tupK_ok, x20_2, hrg, hl], hP, hs, os ++ [l], by simp, by simp at h1 ⊢; omega, ?_, trivial⟩
      intro r hr
      rcases List.mem_append.mp hr with hr | hr
      · exact h2 r hr
      · simp at hr; subst hr; exact ⟨hll, hlp⟩)
    (by rintro acc ⟨os, rfl, _⟩; simp [W.clos_iff, W.clo])
  simp at hol
  have lc9 : lcW false (lcOne T (run T 13) none [14] x20_0 (.nm 14) .yes [a0, some (.ref s.length), a2, some (sgW rows lev), some (.int cell), some (lW u), some (lW (rows.map fun r => dot r v)), some (.lst (ns.map fun (n : Nat) => W.int (n : Int))), some (.int (wd : Int)), some (.lst (os.map lW)), a10, b11, a12, a13, a14]) ⟨os.map lW, []⟩ s7 = .ok (.lst ((os.map fix).map lW)) s7 := by
    rw [List.map_map]
    refine lc_map _ still_nil (by omega) ?_ ?_
    · intro r hr acc
      obtain ⟨q1, q2⟩ := hop r hr
      have i0 : ∀ t, idxW (lW r) (.int 0) t = .ok (.int r[0]!) t := fun t => idx_lst0 (by omega)
      have sl : ∀ t, slcW false (lW r) (some 1) none t = .ok (lW (r.drop 1)) t := fun t => by
        rw [slc_lst]
        have := slice_from (xs := r.map W.int) (k := 1)
        rw [show ((1 : Nat) : Int) = (1 : Int) from rfl] at this
        rw [this, mkL_f (by simp; omega), ← List.map_drop]
      have ad : ∀ t i, opB .add false (.lst [.int i]) (lW (r.drop 1)) t = .ok (lW (i :: r.drop 1)) t := fun t i => by
        rw [show W.lst [.int i] = lW [i] from rfl, add_ints, mkL_f (by simp; omega)]; rfl
      simp (disch := first | assumption | (simp; done) | omega | (simp; omega) | decide) only [bd_st, bdR_ok, bdR_ex, bdR_no, pu_st, no_st, bo_ok, bo_ex, bo_no, thn_nx, thn_rt, thn_ex, thn_no, res_nx, res_rt, res_ex, res_no, nxs_st, rts_st, bos_st, iteS_t, iteS_f, exSs_nil, exSs_cons, exS_ex, exS_asg, exS_par, exS_ret, exS_ret0, exS_pas, exS_ite, exS_loop, exS_tri, exS_rai, exS_sat, exS_six, triS_nx, triS_rt, triS_ex, ev_v, ev_cst, ev_gi, ev_bin, ev_neg, negK_int, ev_cmp, ev_chn, chnK_t, chnK_f, ev_isN, ev_ntN, noneB, ev_and, ev_or, andK_t, andK_f, orK_t, orK_f, notK_bl, ev_not, ev_ite, ev_tup, ev_lst, ev_idx, ev_slc, ev_att, ev_call, ev_mth, ev_new, ev_bi, ev_bm, ev_lc, ev_frz, ev_tupS, ev_lstS, evz_nil, evz_f, evz_t, evT_yes, evT_e, andT_t, andT_f, orT_t, orT_f, evT_and, evT_or, evT_not, evO_om, evO_e, intO_int, evs_nil, evs_cons, evI_sq, evI_en, evI_zp, evI_r1, evI_r2, asgn_nm, asgn_tp, asgns_nil, asgns_cons, oneS_st, lcOne_st, add_int, sub_int, items_lst, items_fro, items_tup, itemsN_lst, itemsN_fro, itemsL_lst, lt_int, le_int, gt_int, ge_int, eq_int, ne_int, tru_b, tru_non, tru_lst, tru_tup, int_int, isBool_bl, nox_k, Cn.w, srcOf_lst, srcOf_tup, srcOf_fro, srcOf_ref, still_nil, List.getElem?_cons_zero, List.getElem?_cons_succ, List.set_cons_zero, List.set_cons_succ, startE, List.map_cons, List.map_nil, List.length_cons, List.length_nil, List.length_map, List.length_range, List.cons_append, List.nil_append, List.replicate_succ, List.replicate_zero, wipeE, unE, Nat.reduceAdd, Nat.reduceSub, decide_true, decide_false, Bool.not_true, Bool.not_false, mul_int, mod_int, fdiv_int, pow_int, mkL_f, mkL_t, len_lst, len_tup, len_fro, tuple_lst, tuple_tup, tuple_fro, list_lst, list_tup, list_fro, int_bl, min_two, max_two, tupK_ok, x20_0, i0, sum_lst, sl, ad]
      rfl
    · intro r _
      simp [W.clo, W.clos_iff]
  have hoW : Wt (os.map fix) wd := by
    refine ⟨by simp; omega, by simp; omega, hw1, hw5, ?_, ?_, ?_⟩
    · intro r hr
      obtain ⟨q, hq, rfl⟩ := List.mem_map.mp hr
      exact (fix_ok (hop q hq).1 hw1 hw5 (hop q hq).2).1
    · intro r hr y hy
      obtain ⟨q, hq, rfl⟩ := List.mem_map.mp hr
      exact ((fix_ok (hop q hq).1 hw1 hw5 (hop q hq).2).2.1 y hy).1
    · intro r hr y hy
      obtain ⟨q, hq, rfl⟩ := List.mem_map.mp hr
      exact ((fix_ok (hop q hq).1 hw1 hw5 (hop q hq).2).2.1 y hy).2
  have hoN : ¬ nought (os.map fix) := by
    rintro ⟨r, hr, e⟩
    obtain ⟨q, hq, rfl⟩ := List.mem_map.mp hr
    exact (fix_ok (hop q hq).1 hw1 hw5 (hop q hq).2).2.2 e
  have hnew := new_ok 11 _ (os.map fix) wd s7 (RL.rws (w := .lst ((os.map fix).map lW)) rfl RL.lsts) hoW
  rw [if_neg hoN] at hnew
  have hneg := neg_ok 10 s7 hoW
  have hfin : ∃ w, run T 13 8 [sgW (os.map fix) wd] s7 = .ok w s7 ∧ (w = .non ∨ ∃ ws, w = .tup ws ∧ run T 13 19 [.lst ((os.map fix).map lW), .tup ws] s7 = .ok (.bl true) s7) := by
    refine ⟨_, hneg, ?_⟩
    cases e : n1 (os.map fix) wd with
    | none => exact .inl rfl
    | some w =>
      obtain ⟨f, g, a, b, rfl, h1, h2, h3, h4, h5⟩ := n1_some e
      exact .inr ⟨_, rfl, shown_ok 9 f g a b s7 hoW hoN h1 h2 h3 h4 h5⟩
  obtain ⟨w, hw8, hw19⟩ := hfin
  simp only [Nat.reduceAdd] at hbg hv htot hc1 hc2 hc3 hd3 hc4 hc4' hc5 hlp hnew
  have hrk : rg1 (.int (k : Int)) s3 = .ok ⟨(List.range k).map fun (j : Nat) => .int (j : Int), []⟩ s3 := rg1_nat (by omega)
  have hrl : rg1 (.int (lev : Int)) s5 = .ok ⟨(List.range lev).map (fun (j : Nat) => W.int (j : Int)), []⟩ s5 := rg1_nat (by omega)
  have hss' : lcW false (lcOne T (run T 13) none [13] x20_3 (.nm 13) t20_4 [a0, some (.ref s.length), a2, some (sgW rows lev), some (.int cell), some (lW u), some (lW (rows.map fun r => dot r v)), a7, a8, a9, a10, b11, a12, a13, a14]) ⟨(List.range lev).map (fun (j : Nat) => W.int (j : Int)), []⟩ s5 = .ok (.lst (ns.map fun (n : Nat) => W.int (n : Int))) s6 := hss
  refine ⟨some (.ref s.length), some (lW u), some (lW (rows.map fun r => dot r v)), some (.lst (ns.map fun (n : Nat) => W.int (n : Int))), some (.int (wd : Int)), some (.lst ((os.map fix).map lW)), some w, b11, s7, ?_⟩
  unfold b20_6
  simp (disch := first | assumption | (simp; done) | omega | (simp; omega) | decide) only [bd_st, bdR_ok, bdR_ex, bdR_no, pu_st, no_st, bo_ok, bo_ex, bo_no, thn_nx, thn_rt, thn_ex, thn_no, res_nx, res_rt, res_ex, res_no, nxs_st, rts_st, bos_st, iteS_t, iteS_f, exSs_nil, exSs_cons, exS_ex, exS_asg, exS_par, exS_ret, exS_ret0, exS_pas, exS_ite, exS_loop, exS_tri, exS_rai, exS_sat, exS_six, triS_nx, triS_rt, triS_ex, ev_v, ev_cst, ev_gi, ev_bin, ev_neg, negK_int, ev_cmp, ev_chn, chnK_t, chnK_f, ev_isN, ev_ntN, noneB, ev_and, ev_or, andK_t, andK_f, orK_t, orK_f, notK_bl, ev_not, ev_ite, ev_tup, ev_lst, ev_idx, ev_slc, ev_att, ev_call, ev_mth, ev_new, ev_bi, ev_bm, ev_lc, ev_frz, ev_tupS, ev_lstS, evz_nil, evz_f, evz_t, evT_yes, evT_e, andT_t, andT_f, orT_t, orT_f, evT_and, evT_or, evT_not, evO_om, evO_e, intO_int, evs_nil, evs_cons, evI_sq, evI_en, evI_zp, evI_r1, evI_r2, asgn_nm, asgn_tp, asgns_nil, asgns_cons, oneS_st, lcOne_st, add_int, sub_int, items_lst, items_fro, items_tup, itemsN_lst, itemsN_fro, itemsL_lst, lt_int, le_int, gt_int, ge_int, eq_int, ne_int, tru_b, tru_non, tru_lst, tru_tup, int_int, isBool_bl, nox_k, Cn.w, srcOf_lst, srcOf_tup, srcOf_fro, srcOf_ref, still_nil, List.getElem?_cons_zero, List.getElem?_cons_succ, List.set_cons_zero, List.set_cons_succ, startE, List.map_cons, List.map_nil, List.length_cons, List.length_nil, List.length_map, List.length_range, List.cons_append, List.nil_append, List.replicate_succ, List.replicate_zero, wipeE, unE, Nat.reduceAdd, Nat.reduceSub, decide_true, decide_false, Bool.not_true, Bool.not_false, mul_int, mod_int, fdiv_int, pow_int, mkL_f, mkL_t, len_lst, len_tup, len_fro, tuple_lst, tuple_tup, tuple_fro, list_lst, list_tup, list_fro, int_bl, min_two, max_two, tupK_ok, hbg, at_states, hv, htot, hc1, hvc, hc2, hct, hc3, hd3, hrk, hu, hc4, hc5, hne, hc4']
  simp (disch := first | assumption | (simp; done) | omega | (simp; omega) | decide) only [bd_st, bdR_ok, bdR_ex, bdR_no, pu_st, no_st, bo_ok, bo_ex, bo_no, thn_nx, thn_rt, thn_ex, thn_no, res_nx, res_rt, res_ex, res_no, nxs_st, rts_st, bos_st, iteS_t, iteS_f, exSs_nil, exSs_cons, exS_ex, exS_asg, exS_par, exS_ret, exS_ret0, exS_pas, exS_ite, exS_loop, exS_tri, exS_rai, exS_sat, exS_six, triS_nx, triS_rt, triS_ex, ev_v, ev_cst, ev_gi, ev_bin, ev_neg, negK_int, ev_cmp, ev_chn, chnK_t, chnK_f, ev_isN, ev_ntN, noneB, ev_and, ev_or, andK_t, andK_f, orK_t, orK_f, notK_bl, ev_not, ev_ite, ev_tup, ev_lst, ev_idx, ev_slc, ev_att, ev_call, ev_mth, ev_new, ev_bi, ev_bm, ev_lc, ev_frz, ev_tupS, ev_lstS, evz_nil, evz_f, evz_t, evT_yes, evT_e, andT_t, andT_f, orT_t, orT_f, evT_and, evT_or, evT_not, evO_om, evO_e, intO_int, evs_nil, evs_cons, evI_sq, evI_en, evI_zp, evI_r1, evI_r2, asgn_nm, asgn_tp, asgns_nil, asgns_cons, oneS_st, lcOne_st, add_int, sub_int, items_lst, items_fro, items_tup, itemsN_lst, itemsN_fro, itemsL_lst, lt_int, le_int, gt_int, ge_int, eq_int, ne_int, tru_b, tru_non, tru_lst, tru_tup, int_int, isBool_bl, nox_k, Cn.w, srcOf_lst, srcOf_tup, srcOf_fro, srcOf_ref, still_nil, List.getElem?_cons_zero, List.getElem?_cons_succ, List.set_cons_zero, List.set_cons_succ, startE, List.map_cons, List.map_nil, List.length_cons, List.length_nil, List.length_map, List.length_range, List.cons_append, List.nil_append, List.replicate_succ, List.replicate_zero, wipeE, unE, Nat.reduceAdd, Nat.reduceSub, decide_true, decide_false, Bool.not_true, Bool.not_false, mul_int, mod_int, fdiv_int, pow_int, mkL_f, mkL_t, len_lst, len_tup, len_fro, tuple_lst, tuple_tup, tuple_fro, list_lst, list_tup, list_fro, int_bl, min_two, max_two, tupK_ok, hbg] at hjo
  rw [hjo]
  rcases hw19 with rfl | ⟨ws, rfl, hw19⟩
  · simp (disch := first | assumption | (simp; done) | omega | (simp; omega) | decide) only [bd_st, bdR_ok, bdR_ex, bdR_no, pu_st, no_st, bo_ok, bo_ex, bo_no, thn_nx, thn_rt, thn_ex, thn_no, res_nx, res_rt, res_ex, res_no, nxs_st, rts_st, bos_st, iteS_t, iteS_f, exSs_nil, exSs_cons, exS_ex, exS_asg, exS_par, exS_ret, exS_ret0, exS_pas, exS_ite, exS_loop, exS_tri, exS_rai, exS_sat, exS_six, triS_nx, triS_rt, triS_ex, ev_v, ev_cst, ev_gi, ev_bin, ev_neg, negK_int, ev_cmp, ev_chn, chnK_t, chnK_f, ev_isN, ev_ntN, noneB, ev_and, ev_or, andK_t, andK_f, orK_t, orK_f, notK_bl, ev_not, ev_ite, ev_tup, ev_lst, ev_idx, ev_slc, ev_att, ev_call, ev_mth, ev_new, ev_bi, ev_bm, ev_lc, ev_frz, ev_tupS, ev_lstS, evz_nil, evz_f, evz_t, evT_yes, evT_e, andT_t, andT_f, orT_t, orT_f, evT_and, evT_or, evT_not, evO_om, evO_e, intO_int, evs_nil, evs_cons, evI_sq, evI_en, evI_zp, evI_r1, evI_r2, asgn_nm, asgn_tp, asgns_nil, asgns_cons, oneS_st, lcOne_st, add_int, sub_int, items_lst, items_fro, items_tup, itemsN_lst, itemsN_fro, itemsL_lst, lt_int, le_int, gt_int, ge_int, eq_int, ne_int, tru_b, tru_non, tru_lst, tru_tup, int_int, isBool_bl, nox_k, Cn.w, srcOf_lst, srcOf_tup, srcOf_fro, srcOf_ref, still_nil, List.getElem?_cons_zero, List.getElem?_cons_succ, List.set_cons_zero, List.set_cons_succ, startE, List.map_cons, List.map_nil, List.length_cons, List.length_nil, List.length_map, List.length_range, List.cons_append, List.nil_append, List.replicate_succ, List.replicate_zero, wipeE, unE, Nat.reduceAdd, Nat.reduceSub, decide_true, decide_false, Bool.not_true, Bool.not_false, mul_int, mod_int, fdiv_int, pow_int, mkL_f, mkL_t, len_lst, len_tup, len_fro, tuple_lst, tuple_tup, tuple_fro, list_lst, list_tup, list_fro, int_bl, min_two, max_two, tupK_ok, at_states, hrl, hss', hlp, hwd, hr2, ho7, lc9, hnew, hw8]
  · simp (disch := first | assumption | (simp; done) | omega | (simp; omega) | decide) only [bd_st, bdR_ok, bdR_ex, bdR_no, pu_st, no_st, bo_ok, bo_ex, bo_no, thn_nx, thn_rt, thn_ex, thn_no, res_nx, res_rt, res_ex, res_no, nxs_st, rts_st, bos_st, iteS_t, iteS_f, exSs_nil, exSs_cons, exS_ex, exS_asg, exS_par, exS_ret, exS_ret0, exS_pas, exS_ite, exS_loop, exS_tri, exS_rai, exS_sat, exS_six, triS_nx, triS_rt, triS_ex, ev_v, ev_cst, ev_gi, ev_bin, ev_neg, negK_int, ev_cmp, ev_chn, chnK_t, chnK_f, ev_isN, ev_ntN, noneB, ev_and, ev_or, andK_t, andK_f, orK_t, orK_f, notK_bl, ev_not, ev_ite, ev_tup, ev_lst, ev_idx, ev_slc, ev_att, ev_call, ev_mth, ev_new, ev_bi, ev_bm, ev_lc, ev_frz, ev_tupS, ev_lstS, evz_nil, evz_f, evz_t, evT_yes, evT_e, andT_t, andT_f, orT_t, orT_f, evT_and, evT_or, evT_not, evO_om, evO_e, intO_int, evs_nil, evs_cons, evI_sq, evI_en, evI_zp, evI_r1, evI_r2, asgn_nm, asgn_tp, asgns_nil, asgns_cons, oneS_st, lcOne_st, add_int, sub_int, items_lst, items_fro, items_tup, itemsN_lst, itemsN_fro, itemsL_lst, lt_int, le_int, gt_int, ge_int, eq_int, ne_int, tru_b, tru_non, tru_lst, tru_tup, int_int, isBool_bl, nox_k, Cn.w, srcOf_lst, srcOf_tup, srcOf_fro, srcOf_ref, still_nil, List.getElem?_cons_zero, List.getElem?_cons_succ, List.set_cons_zero, List.set_cons_succ, startE, List.map_cons, List.map_nil, List.length_cons, List.length_nil, List.length_map, List.length_range, List.cons_append, List.nil_append, List.replicate_succ, List.replicate_zero, wipeE, unE, Nat.reduceAdd, Nat.reduceSub, decide_true, decide_false, Bool.not_true, Bool.not_false, mul_int, mod_int, fdiv_int, pow_int, mkL_f, mkL_t, len_lst, len_tup, len_fro, tuple_lst, tuple_tup, tuple_fro, list_lst, list_tup, list_fro, int_bl, min_two, max_two, tupK_ok, at_states, hrl, hss', hlp, hwd, hr2, ho7, lc9, hnew, hw8, hw19]
theorem cells_ok (ns : List Int) (a2 a12 a13 a14 : Option W) (h : Wt rows lev) (hb : ∀ r ∈ rows, ∀ x ∈ r, x < 2 ^ 50) (hnn : ¬ nought rows) (hO : Ord rows lev) : ∀ (cs : List Int) (a1 a4 a5 a6 a7 a8 a9 a10 a11 : Option W) (s : Store),
    ∃ (env : Ev) (s' : Store), forGo (oneS T (run T 13) none (.nm 4) b20_6) [] (cs.map .int) [some (.fro (ns.map .int)), a1, a2, some (sgW rows lev), a4, a5, a6, a7, a8, a9, a10, a11, a12, a13, a14] s = .nx env s'
  | [], _, _, _, _, _, _, _, _, _, s => ⟨_, s, forGo_nil still_nil⟩
  | c :: cs, a1, a4, a5, a6, a7, a8, a9, a10, a11, s => by
    obtain ⟨b1, b5, b6, b7, b8, b9, b10, b11, s', h1⟩ := cell_ok (some (.fro (ns.map .int))) a1 a2 a4 a5 a6 a7 a8 a9 a10 a11 a12 a13 a14 s h hb hnn hO c
    obtain ⟨env, s2, h3⟩ := cells_ok ns a2 a12 a13 a14 h hb hnn hO cs b1 (some (.int c)) b5 b6 b7 b8 b9 b10 b11 s'
    exact ⟨env, s2, by rw [List.map_cons, forGo_cons still_nil, h1, thn_nx, h3]⟩
end
def atD2 : Fd := ⟨("_law_at_of", none), ["_law_script", "_law_k"], 2, atD.body⟩
theorem at2_ok (n : Nat) (ns : List Int) (k : Nat) (st : Store) : run T (n + 1) 13 [.fro (ns.map .int), .int k] st = .ok (.int (ns[k]?.getD 0)) st := by
  rw [run_eq (d := atD2) rfl rfl]
  by_cases h : k < ns.length
  · have h1 : ((k : Int) < (ns.length : Int)) := by omega
    have h2 : (ns.map W.int)[k]? = some (.int ns[k]) := by simp [h]
    simp only [atD2, atD, bd_st, bdR_ok, bdR_ex, bdR_no, pu_st, no_st, bo_ok, bo_ex, bo_no, thn_nx, thn_rt, thn_ex, thn_no, res_nx, res_rt, res_ex, res_no, nxs_st, rts_st, bos_st, iteS_t, iteS_f, exSs_nil, exSs_cons, exS_ex, exS_asg, exS_par, exS_ret, exS_ret0, exS_pas, exS_ite, exS_loop, exS_tri, exS_rai, exS_sat, exS_six, triS_nx, triS_rt, triS_ex, ev_v, ev_cst, ev_gi, ev_bin, ev_neg, negK_int, ev_cmp, ev_chn, chnK_t, chnK_f, ev_isN, ev_ntN, noneB, ev_and, ev_or, andK_t, andK_f, orK_t, orK_f, notK_bl, ev_not, ev_ite, ev_tup, ev_lst, ev_idx, ev_slc, ev_att, ev_call, ev_mth, ev_new, ev_bi, ev_bm, ev_lc, ev_frz, ev_tupS, ev_lstS, evz_nil, evz_f, evz_t, evT_yes, evT_e, andT_t, andT_f, orT_t, orT_f, evT_and, evT_or, evT_not, evO_om, evO_e, intO_int, evs_nil, evs_cons, evI_sq, evI_en, evI_zp, evI_r1, evI_r2, asgn_nm, asgn_tp, asgns_nil, asgns_cons, oneS_st, lcOne_st, add_int, sub_int, items_lst, items_fro, items_tup, itemsN_lst, itemsN_fro, itemsL_lst, lt_int, le_int, gt_int, ge_int, eq_int, ne_int, tru_b, tru_non, tru_lst, tru_tup, int_int, isBool_bl, nox_k, Cn.w, srcOf_lst, srcOf_tup, srcOf_fro, srcOf_ref, still_nil, List.getElem?_cons_zero, List.getElem?_cons_succ, List.set_cons_zero, List.set_cons_succ, startE, List.map_cons, List.map_nil, List.length_cons, List.length_nil, List.length_map, List.length_range, List.cons_append, List.nil_append, List.replicate_succ, List.replicate_zero, wipeE, unE, Nat.reduceAdd, Nat.reduceSub, decide_true, decide_false, Bool.not_true, Bool.not_false, len_of (items_fro), h1, idx_nat items_fro k rfl h2, cut_self]
    simp [h]
  · have h1 : ¬ ((k : Int) < (ns.length : Int)) := by omega
    simp only [atD2, atD, bd_st, bdR_ok, bdR_ex, bdR_no, pu_st, no_st, bo_ok, bo_ex, bo_no, thn_nx, thn_rt, thn_ex, thn_no, res_nx, res_rt, res_ex, res_no, nxs_st, rts_st, bos_st, iteS_t, iteS_f, exSs_nil, exSs_cons, exS_ex, exS_asg, exS_par, exS_ret, exS_ret0, exS_pas, exS_ite, exS_loop, exS_tri, exS_rai, exS_sat, exS_six, triS_nx, triS_rt, triS_ex, ev_v, ev_cst, ev_gi, ev_bin, ev_neg, negK_int, ev_cmp, ev_chn, chnK_t, chnK_f, ev_isN, ev_ntN, noneB, ev_and, ev_or, andK_t, andK_f, orK_t, orK_f, notK_bl, ev_not, ev_ite, ev_tup, ev_lst, ev_idx, ev_slc, ev_att, ev_call, ev_mth, ev_new, ev_bi, ev_bm, ev_lc, ev_frz, ev_tupS, ev_lstS, evz_nil, evz_f, evz_t, evT_yes, evT_e, andT_t, andT_f, orT_t, orT_f, evT_and, evT_or, evT_not, evO_om, evO_e, intO_int, evs_nil, evs_cons, evI_sq, evI_en, evI_zp, evI_r1, evI_r2, asgn_nm, asgn_tp, asgns_nil, asgns_cons, oneS_st, lcOne_st, add_int, sub_int, items_lst, items_fro, items_tup, itemsN_lst, itemsN_fro, itemsL_lst, lt_int, le_int, gt_int, ge_int, eq_int, ne_int, tru_b, tru_non, tru_lst, tru_tup, int_int, isBool_bl, nox_k, Cn.w, srcOf_lst, srcOf_tup, srcOf_fro, srcOf_ref, still_nil, List.getElem?_cons_zero, List.getElem?_cons_succ, List.set_cons_zero, List.set_cons_succ, startE, List.map_cons, List.map_nil, List.length_cons, List.length_nil, List.length_map, List.length_range, List.cons_append, List.nil_append, List.replicate_succ, List.replicate_zero, wipeE, unE, Nat.reduceAdd, Nat.reduceSub, decide_true, decide_false, Bool.not_true, Bool.not_false, len_of (items_fro), h1, cut_self]
    simp at h
    simp [h]
theorem pl (ns : List Int) (hn : ns.length ≤ 63) : ∃ s, run T 14 20 [.fro (ns.map .int)] [] = .ok (.bl true) s := by
  rw [run_eq (n := 13) (d := f20) rfl rfl]
  have ha0 : run T 13 13 [.fro (ns.map .int), .int 0] [] = .ok (.int (ns[0]?.getD 0)) [] := at2_ok 12 ns 0 []
  obtain ⟨x, hb, hp⟩ := bag_ok (T := T) (f := 11) rfl 12 (ns[0]?.getD 0) []
  simp only [Nat.reduceAdd, List.length_nil, List.nil_append] at hb hp
  obtain ⟨c, s1, hd1, hc, hP1, hs1⟩ := draw_ok (T := T) (f := 12) rfl 12 (p := 0) (lim := 5) hp (by omega) (by omega)
  obtain ⟨d, s2, hd2, hd, hP2, hs2⟩ := draw_ok (T := T) (f := 12) rfl 12 (p := 0) (lim := 5) hP1.pool (by omega) (by omega)
  obtain ⟨base, ps, s3, hg, hpl, hC, hbl, hb4, hP3, hs3⟩ := gen_ok 11 hP2.pool (1 + c) (1 + d) (by omega) (by omega) (by omega)
  obtain ⟨hW, hbd, hnn⟩ := gen_wt hC hbl hb4 (by omega) (by omega) (by omega) (by omega)
  have hO := gen_ord (base := base) (lev := 1 + d) hC
  generalize toI base (1 + d) ps = rows at *
  have hnew := new_ok 11 _ rows (1 + d) s3 (RL.rws (w := .lst (rows.map lW)) rfl RL.lsts) hW
  rw [if_neg hnn] at hnew
  have hor := ordered_ok 9 s3 hW
  have ha1 : run T 13 13 [.fro (ns.map .int), .int 1] s3 = .ok (.int (ns[1]?.getD 0)) s3 := at2_ok 12 ns 1 s3
  have hsl : slcW false (.fro (ns.map .int)) (some 2) (some 7) s3 = .ok (lW ((ns.drop 2).take 5)) s3 := by
    rw [slc_fro]
    have := slice_mid (xs := ns.map W.int) (a := 2) (b := 7)
    rw [show ((2 : Nat) : Int) = (2 : Int) from rfl, show ((7 : Nat) : Int) = (7 : Int) from rfl] at this
    rw [this, mkL_f (by simp; omega)]
    simp
  have hadd : opB .add false (.lst [.int (ns[1]?.getD 0)]) (lW ((ns.drop 2).take 5)) s3 = .ok (lW (ns[1]?.getD 0 :: (ns.drop 2).take 5)) s3 := by
    rw [add_lst itemsL_lst itemsL_lst, mkL_f (by simp; omega)]; rfl
  obtain ⟨env, s4, h4⟩ := cells_ok (rows := rows) (lev := 1 + d) ns (some (.lst (rows.map lW))) none none none hW hbd hnn hO (ns[1]?.getD 0 :: (ns.drop 2).take 5) (some (.ref 0)) none none none none none none none none s3
  rw [List.map_cons] at h4
  have hc0 := crossing_ok 12 [] (.lst []) s4 (.inl rfl) (by simp)
  have hm : ((ns.drop 2).take 5).length ≤ 16777216 := by simp; omega
  have e1 : ((1 : Int) + (c : Int)) = ((1 + c : Nat) : Int) := by omega
  have e2 : ((1 : Int) + (d : Int)) = ((1 + d : Nat) : Int) := by omega
  simp only [Nat.reduceAdd] at hd1 hd2 hg hnew hor hc0
  have e : ∃ s, (exSs T (run T 13) none f20.body (startE f20.N [.fro (ns.map .int)]) []).res = .ok (.bl true) s := by
    refine ⟨s4, ?_⟩
    simp (disch := first | assumption | (simp; done) | omega | (simp; omega) | decide) only [bd_st, bdR_ok, bdR_ex, bdR_no, pu_st, no_st, bo_ok, bo_ex, bo_no, thn_nx, thn_rt, thn_ex, thn_no, res_nx, res_rt, res_ex, res_no, nxs_st, rts_st, bos_st, iteS_t, iteS_f, exSs_nil, exSs_cons, exS_ex, exS_asg, exS_par, exS_ret, exS_ret0, exS_pas, exS_ite, exS_loop, exS_tri, exS_rai, exS_sat, exS_six, triS_nx, triS_rt, triS_ex, ev_v, ev_cst, ev_gi, ev_bin, ev_neg, negK_int, ev_cmp, ev_chn, chnK_t, chnK_f, ev_isN, ev_ntN, noneB, ev_and, ev_or, andK_t, andK_f, orK_t, orK_f, notK_bl, ev_not, ev_ite, ev_tup, ev_lst, ev_idx, ev_slc, ev_att, ev_call, ev_mth, ev_new, ev_bi, ev_bm, ev_lc, ev_frz, ev_tupS, ev_lstS, evz_nil, evz_f, evz_t, evT_yes, evT_e, andT_t, andT_f, orT_t, orT_f, evT_and, evT_or, evT_not, evO_om, evO_e, intO_int, evs_nil, evs_cons, evI_sq, evI_en, evI_zp, evI_r1, evI_r2, asgn_nm, asgn_tp, asgns_nil, asgns_cons, oneS_st, lcOne_st, add_int, sub_int, items_lst, items_fro, items_tup, itemsN_lst, itemsN_fro, itemsL_lst, lt_int, le_int, gt_int, ge_int, eq_int, ne_int, tru_b, tru_non, tru_lst, tru_tup, int_int, isBool_bl, nox_k, Cn.w, srcOf_lst, srcOf_tup, srcOf_fro, srcOf_ref, still_nil, List.getElem?_cons_zero, List.getElem?_cons_succ, List.set_cons_zero, List.set_cons_succ, startE, List.map_cons, List.map_nil, List.length_cons, List.length_nil, List.length_map, List.length_range, List.cons_append, List.nil_append, List.replicate_succ, List.replicate_zero, wipeE, unE, Nat.reduceAdd, Nat.reduceSub, decide_true, decide_false, Bool.not_true, Bool.not_false, mul_int, mod_int, fdiv_int, pow_int, mkL_f, mkL_t, len_lst, len_tup, len_fro, tuple_lst, tuple_tup, tuple_fro, list_lst, list_tup, list_fro, int_bl, min_two, max_two, tupK_ok, f20, b20, ha0, hb, hd1, hd2, e1, e2, hg, hnew, hor, hO, ha1, hsl, hadd, loopS_st, h4, hc0]
  obtain ⟨s, e⟩ := e
  rw [e]
  simp only [cut]
  split
  · exact ⟨_, rfl⟩
  · exact ⟨_, rfl⟩
end Mi.K46
set_option maxHeartbeats 0
theorem PySem.Challenge.cw_risingknobs_k46_whole_means_that_cross_holds : PySem.Challenge.rw_risingknobs_k46_whole_means_that_cross.Holds := by
  exact Mi.K46.holds_of Mi.K46.pl
