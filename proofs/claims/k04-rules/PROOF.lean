import PyProof.Rows.All
import Wide.All
import OpenK.AllK
import Wide.FinOn
import KE.SortData
import KE.DatumIndex
import HandS.ForMost
import HandS.Exc
import HandS.TryOnly
import HandS.CallSlots
import HandS.WordsExc
import HandS.HeadHook4
import HandS.Head2
import HandS.TupAny
import HandS.TupLe
import HandS.Wide
import HandS.WideBits
import HandS.Deep
import HandS.Flow
import HandS.ExcOwn
import HandS.Defaults
import HandS.Ends
import HandS.HeadEnd
import HandS.Zip
import HandS.Rev
import HandS.Style
import HandS.SortInts
import HandS.IsInst
import HandS.TupSets
import HandS.Strs
import PyProof.SetRoads
import PyProof.TupleOfSeq
import HandS.ExcValue
import HandS.Words
import HandS.Codes
import HandS.Head0
import HandS.Head1
import HandS.HeadHook1
import HandS.HeadHook2
import PyProof.Rows.StrBin
import PyProof.Rows.StrDigitsNeg
import PySem.Challenge.RW_stopsfirst_k04_one_rule_and_two_lots
set_option Elab.async false
set_option linter.all false
set_option maxRecDepth 100000
set_option maxHeartbeats 4000000
set_option autoImplicit false
/-! DLBase: plain data D, how data lies in the abstract heap, owned lists, the relation between slots of data and slots of values. -/
namespace DL
open PySem PySem.Spec PyProof.Rows L2

/-- plain data: what a Python value is, without addresses -/
inductive D where
  | non | bool (b : Bool) | int (i : Int) | str (x : Str) | tup (xs : List D) | lst (xs : List D) | dic (es : List D) | obj (k : Nat) (xs : List D) | ro (xs : List D)

/-- the written part, and what an object of kind k with the data xs asks of the heap at its address -/
structure Wd where
  K : PySem.W.Frag
  oa : Addr → Nat → List D → Hp → Prop
  new : ∀ {a : Addr} {k : Nat} {ds : List D} {H : Hp} {p : Addr} {o : HO}, H p = none → oa a k ds H → oa a k ds (upd H p o)
  put : ∀ {a : Addr} {k : Nat} {ds : List D} {H : Hp} {p : Addr} {xs ys : List V}, H p = some (.lst xs) → oa a k ds H → oa a k ds (upd H p (.lst ys))

/-- a list that is never written: the script, a list of the module's top -/
def RoL (K : PySem.W.Frag) (H : Hp) (a : Addr) (vs : List V) : Prop := (∃ o, H a = some (.frz o (.lst vs))) ∨
  ∃ (o : Obj) (its : Array Value) (n : Nat), K.lookup a = some o ∧ o.cls = .type "list" ∧ o.dict = none ∧ o.data = .seq its n ∧ its.size ≤ sizeLine ∧ Vals vs its.toList
theorem RoL.sq {K : PySem.W.Frag} {H : Hp} {a : Addr} {vs : List V} (h : RoL K H a vs) : SqL K H a vs := by
  rcases h with ⟨o, h⟩ | h
  · exact .inl (.inr ⟨o, h⟩)
  · exact .inr h
mutual
/-- the value v is the datum d in the heap H; no list of it lies at an address of Z -/
def Rp (W : Wd) (Z : Addr → Prop) (H : Hp) : D → V → Prop
  | .non, v => v = .non
  | .bool b, v => v = .bl b
  | .int i, v => v = .int i
  | .str x, v => v = .str x
  | .tup ds, v => ∃ a vs, v = .ref a ∧ (SqT W.K H a vs ∧ vs.length ≤ sizeLine) ∧ RpL W Z H ds vs
  | .lst ds, v => ∃ a vs, v = .ref a ∧ ¬ Z a ∧ (H a = some (.lst vs) ∧ vs.length ≤ sizeLine) ∧ RpL W Z H ds vs
  | .dic _, _ => False
  | .obj k ds, v => ∃ a, v = .ref a ∧ W.oa a k ds H
  | .ro ds, v => ∃ a vs, v = .ref a ∧ (RoL W.K H a vs ∧ vs.length ≤ sizeLine) ∧ RpL W Z H ds vs
def RpL (W : Wd) (Z : Addr → Prop) (H : Hp) : List D → List V → Prop
  | [], vs => vs = []
  | d :: ds, vs => ∃ v us, vs = v :: us ∧ Rp W Z H d v ∧ RpL W Z H ds us
end

/-- what stays: all that is tracked outside of Z (but instances), tuples, the objects' data, what is allocated -/
structure Ev (W : Wd) (Z : Addr → Prop) (H H' : Hp) : Prop where
  lst : ∀ a xs, H a = some (.lst xs) → ¬ Z a → H' a = some (.lst xs)
  tup : ∀ a xs, H a = some (.tup xs) → H' a = some (.tup xs)
  frz : ∀ a o u, H a = some (.frz o u) → H' a = some (.frz o u)
  dk : ∀ a kvs, H a = some (.dK kvs) → ¬ Z a → H' a = some (.dK kvs)
  dt : ∀ a kvs, H a = some (.dT kvs) → ¬ Z a → H' a = some (.dT kvs)
  obj : ∀ a k ds, W.oa a k ds H → W.oa a k ds H'
  dom : ∀ a, H' a = none → H a = none

theorem Ev.refl {W : Wd} {Z : Addr → Prop} {H : Hp} : Ev W Z H H := ⟨fun _ _ h _ => h, fun _ _ h => h, fun _ _ _ h => h, fun _ _ h _ => h, fun _ _ h _ => h, fun _ _ _ h => h, fun _ h => h⟩
theorem Ev.trans {W : Wd} {Z : Addr → Prop} {H H1 H2 : Hp} (a : Ev W Z H H1) (b : Ev W Z H1 H2) : Ev W Z H H2 :=
  ⟨fun c xs h z => b.lst c xs (a.lst c xs h z) z, fun c xs h => b.tup c xs (a.tup c xs h), fun c o u h => b.frz c o u (a.frz c o u h), fun c xs h z => b.dk c xs (a.dk c xs h z) z, fun c xs h z => b.dt c xs (a.dt c xs h z) z,
    fun c k ds h => b.obj c k ds (a.obj c k ds h), fun c h => a.dom c (b.dom c h)⟩
/-- a smaller set of what may change: a stronger fact. What Z' has besides Z must not be allocated ahead -/
theorem Ev.mono {W : Wd} {Z Z' : Addr → Prop} {H H' : Hp} (e : Ev W Z H H') (z : ∀ a, Z a → H a ≠ none → Z' a) : Ev W Z' H H' :=
  ⟨fun a xs h n => e.lst a xs h fun q => n (z a q (by rw [h]; exact fun w => nomatch w)), e.tup, e.frz, fun a xs h n => e.dk a xs h fun q => n (z a q (by rw [h]; exact fun w => nomatch w)),
    fun a xs h n => e.dt a xs h fun q => n (z a q (by rw [h]; exact fun w => nomatch w)), e.obj, e.dom⟩
theorem Ev.new {W : Wd} {Z : Addr → Prop} {H : Hp} {p : Addr} {o : HO} (n : H p = none) : Ev W Z H (upd H p o) :=
  have ne : ∀ a u, H a = some u → a ≠ p := fun a u h z => by rw [z, n] at h; cases h
  ⟨fun a xs h _ => by rw [upd_ne (ne a _ h)]; exact h, fun a xs h => by rw [upd_ne (ne a _ h)]; exact h, fun a x u h => by rw [upd_ne (ne a _ h)]; exact h, fun a xs h _ => by rw [upd_ne (ne a _ h)]; exact h,
    fun a xs h _ => by rw [upd_ne (ne a _ h)]; exact h, fun a k ds h => W.new n h, fun a h => by
      by_cases e : a = p
      · rw [e]; exact n
      · rw [upd_ne e] at h; exact h⟩
theorem Ev.put {W : Wd} {Z : Addr → Prop} {H : Hp} {p : Addr} {xs ys : List V} (n : H p = some (.lst xs)) (z : Z p) : Ev W Z H (upd H p (.lst ys)) := by
  have ne : ∀ a u, H a = some u → u ≠ .lst xs → a ≠ p := fun a u h d q => by rw [q, n] at h; exact d (Option.some.inj h).symm
  refine ⟨fun a us h q => ?_, fun a us h => ?_, fun a x u h => ?_, fun a us h _ => ?_, fun a us h _ => ?_, fun a k ds h => W.put n h, fun a h => ?_⟩
  · rw [upd_ne (fun e => q (by rw [e]; exact z))]; exact h
  · rw [upd_ne (ne a _ h (fun w => nomatch w))]; exact h
  · rw [upd_ne (ne a _ h (fun w => nomatch w))]; exact h
  · rw [upd_ne (ne a _ h (fun w => nomatch w))]; exact h
  · rw [upd_ne (ne a _ h (fun w => nomatch w))]; exact h
  · by_cases e : a = p
    · rw [e, upd_same] at h; cases h
    · rw [upd_ne e] at h; exact h

theorem Ev.sqt {W : Wd} {Z : Addr → Prop} {H H' : Hp} (e : Ev W Z H H') {a : Addr} {vs : List V} (h : SqT W.K H a vs) : SqT W.K H' a vs := by
  rcases h with h | h
  · rcases h with h | ⟨o, h⟩
    · exact .inl (.inl (e.tup _ _ h))
    · exact .inl (.inr ⟨o, e.frz _ _ _ h⟩)
  · exact .inr h
theorem Ev.rol {W : Wd} {Z : Addr → Prop} {H H' : Hp} (e : Ev W Z H H') {a : Addr} {vs : List V} (h : RoL W.K H a vs) : RoL W.K H' a vs := by
  rcases h with ⟨o, h⟩ | h
  · exact .inl ⟨o, e.frz _ _ _ h⟩
  · exact .inr h
theorem Ev.rdl {W : Wd} {Z : Addr → Prop} {H H' : Hp} (e : Ev W Z H H') {a : Addr} {vs : List V} (z : ¬ Z a) (h : Rd H a (.lst vs)) : Rd H' a (.lst vs) := by
  rcases h with h | ⟨o, h⟩
  · exact .inl (e.lst _ _ h z)
  · exact .inr ⟨o, e.frz _ _ _ h⟩
theorem rd_alloc {H : Hp} {a : Addr} {u : HO} (h : H a = some u) : H a ≠ none := by
  rw [h]; exact fun w => nomatch w

mutual
theorem Rp.ev {W : Wd} {Z : Addr → Prop} {H H' : Hp} (e : Ev W Z H H') : ∀ (d : D) (v : V), Rp W Z H d v → Rp W Z H' d v
  | .non, _, h => h
  | .bool _, _, h => h
  | .int _, _, h => h
  | .str _, _, h => h
  | .tup ds, _, h => by
    unfold Rp at h ⊢
    obtain ⟨a, vs, h1, h2, h3⟩ := h
    exact ⟨a, vs, h1, ⟨e.sqt h2.1, h2.2⟩, RpL.ev e ds vs h3⟩
  | .lst ds, _, h => by
    unfold Rp at h ⊢
    obtain ⟨a, vs, h1, h2, h3, h4⟩ := h
    exact ⟨a, vs, h1, h2, ⟨e.lst _ _ h3.1 h2, h3.2⟩, RpL.ev e ds vs h4⟩
  | .dic _, _, h => by
    unfold Rp at h
    exact h.elim
  | .obj k ds, _, h => by
    unfold Rp at h ⊢
    obtain ⟨a, h1, h2⟩ := h
    exact ⟨a, h1, e.obj _ _ _ h2⟩
  | .ro ds, _, h => by
    unfold Rp at h ⊢
    obtain ⟨a, vs, h1, h2, h3⟩ := h
    exact ⟨a, vs, h1, ⟨e.rol h2.1, h2.2⟩, RpL.ev e ds vs h3⟩
theorem RpL.ev {W : Wd} {Z : Addr → Prop} {H H' : Hp} (e : Ev W Z H H') : ∀ (ds : List D) (vs : List V), RpL W Z H ds vs → RpL W Z H' ds vs
  | [], _, h => by
    unfold RpL at h ⊢
    exact h
  | d :: ds, _, h => by
    unfold RpL at h ⊢
    obtain ⟨v, us, h1, h2, h3⟩ := h
    exact ⟨v, us, h1, Rp.ev e d v h2, RpL.ev e ds us h3⟩
end
mutual
/-- another set to be shunned: what it has besides is not allocated -/
theorem Rp.shun {W : Wd} {Z Z' : Addr → Prop} {H : Hp} (z : ∀ a, Z' a → H a ≠ none → Z a) : ∀ (d : D) (v : V), Rp W Z H d v → Rp W Z' H d v
  | .non, _, h => h
  | .bool _, _, h => h
  | .int _, _, h => h
  | .str _, _, h => h
  | .tup ds, _, h => by
    unfold Rp at h ⊢
    obtain ⟨a, vs, h1, h2, h3⟩ := h
    exact ⟨a, vs, h1, h2, RpL.shun z ds vs h3⟩
  | .lst ds, _, h => by
    unfold Rp at h ⊢
    obtain ⟨a, vs, h1, h2, h3, h4⟩ := h
    exact ⟨a, vs, h1, fun q => h2 (z a q (rd_alloc h3.1)), h3, RpL.shun z ds vs h4⟩
  | .dic _, _, h => by
    unfold Rp at h
    exact h.elim
  | .obj k ds, _, h => by
    unfold Rp at h ⊢
    exact h
  | .ro ds, _, h => by
    unfold Rp at h ⊢
    obtain ⟨a, vs, h1, h2, h3⟩ := h
    exact ⟨a, vs, h1, h2, RpL.shun z ds vs h3⟩
theorem RpL.shun {W : Wd} {Z Z' : Addr → Prop} {H : Hp} (z : ∀ a, Z' a → H a ≠ none → Z a) : ∀ (ds : List D) (vs : List V), RpL W Z H ds vs → RpL W Z' H ds vs
  | [], _, h => by
    unfold RpL at h ⊢
    exact h
  | d :: ds, _, h => by
    unfold RpL at h ⊢
    obtain ⟨v, us, h1, h2, h3⟩ := h
    exact ⟨v, us, h1, Rp.shun z d v h2, RpL.shun z ds us h3⟩
end
mutual
/-- no list within -/
def D.flat : D → Bool
  | .non => true
  | .bool _ => true
  | .int _ => true
  | .str _ => true
  | .tup ds => flatL ds
  | .lst _ => false
  | .dic _ => false
  | .obj _ _ => true
  | .ro ds => flatL ds
def flatL : List D → Bool
  | [] => true
  | d :: ds => d.flat && flatL ds
end
mutual
theorem Rp.flat {W : Wd} {Z Z' : Addr → Prop} {H : Hp} : ∀ (d : D) (v : V), d.flat = true → Rp W Z H d v → Rp W Z' H d v
  | .non, _, _, h => h
  | .bool _, _, _, h => h
  | .int _, _, _, h => h
  | .str _, _, _, h => h
  | .tup ds, _, f, h => by
    unfold Rp at h ⊢
    obtain ⟨a, vs, h1, h2, h3⟩ := h
    exact ⟨a, vs, h1, h2, RpL.flat ds vs (by simpa [D.flat] using f) h3⟩
  | .lst ds, _, f, h => by simp [D.flat] at f
  | .dic _, _, f, h => by simp [D.flat] at f
  | .obj k ds, _, _, h => by
    unfold Rp at h ⊢
    exact h
  | .ro ds, _, f, h => by
    unfold Rp at h ⊢
    obtain ⟨a, vs, h1, h2, h3⟩ := h
    exact ⟨a, vs, h1, h2, RpL.flat ds vs (by simpa [D.flat] using f) h3⟩
theorem RpL.flat {W : Wd} {Z Z' : Addr → Prop} {H : Hp} : ∀ (ds : List D) (vs : List V), flatL ds = true → RpL W Z H ds vs → RpL W Z' H ds vs
  | [], _, _, h => by
    unfold RpL at h ⊢
    exact h
  | d :: ds, _, f, h => by
    unfold RpL at h ⊢
    obtain ⟨v, us, h1, h2, h3⟩ := h
    have f' : d.flat = true ∧ flatL ds = true := by simpa [flatL] using f
    exact ⟨v, us, h1, Rp.flat d v f'.1 h2, RpL.flat ds us f'.2 h3⟩
end
theorem RpL.length {W : Wd} {Z : Addr → Prop} {H : Hp} : ∀ {ds : List D} {vs : List V}, RpL W Z H ds vs → ds.length = vs.length
  | [], _, h => by
    unfold RpL at h
    rw [h] <;> rfl
  | d :: ds, _, h => by
    unfold RpL at h
    obtain ⟨v, us, h1, _, h3⟩ := h
    rw [h1, List.length_cons, List.length_cons, RpL.length h3]
theorem RpL.get {W : Wd} {Z : Addr → Prop} {H : Hp} : ∀ {ds : List D} {vs : List V}, RpL W Z H ds vs → ∀ {i : Nat} {v : V}, vs[i]? = some v → ∃ d, ds[i]? = some d ∧ Rp W Z H d v
  | [], _, h, i, v, e => by
    unfold RpL at h
    rw [h] at e
    simp at e
  | d :: ds, _, h, i, v, e => by
    unfold RpL at h
    obtain ⟨u, us, h1, h2, h3⟩ := h
    rw [h1] at e
    cases i with
    | zero =>
      have q : u = v := by simpa using e
      rw [← q]
      exact ⟨d, by simp, h2⟩
    | succ j =>
      obtain ⟨d', q1, q2⟩ := RpL.get h3 (i := j) (v := v) (by simpa using e)
      exact ⟨d', by simpa using q1, q2⟩
theorem RpL.getD {W : Wd} {Z : Addr → Prop} {H : Hp} {ds : List D} {vs : List V} (h : RpL W Z H ds vs) {i : Nat} {d : D} (e : ds[i]? = some d) : ∃ v, vs[i]? = some v ∧ Rp W Z H d v := by
  have hi : i < vs.length := by
    rw [← h.length]
    exact (List.getElem?_eq_some_iff.mp e).1
  obtain ⟨d', q1, q2⟩ := h.get (List.getElem?_eq_getElem hi)
  rw [e] at q1
  rw [Option.some.inj q1]
  exact ⟨_, List.getElem?_eq_getElem hi, q2⟩
theorem RpL.of {W : Wd} {Z : Addr → Prop} {H : Hp} : ∀ {ds : List D} {vs : List V}, ds.length = vs.length → (∀ (i : Nat) (d : D) (v : V), ds[i]? = some d → vs[i]? = some v → Rp W Z H d v) → RpL W Z H ds vs
  | [], vs, l, _ => by
    unfold RpL
    cases vs with
    | nil => rfl
    | cons => cases l
  | d :: ds, [], l, _ => by cases l
  | d :: ds, v :: vs, l, h => by
    unfold RpL
    exact ⟨v, vs, rfl, h 0 d v (by simp) (by simp), RpL.of (by simpa using l) fun i d' v' h1 h2 => h (i + 1) d' v' (by simpa using h1) (by simpa using h2)⟩
theorem RpL.append {W : Wd} {Z : Addr → Prop} {H : Hp} : ∀ {ds es : List D} {vs us : List V}, RpL W Z H ds vs → RpL W Z H es us → RpL W Z H (ds ++ es) (vs ++ us)
  | [], es, vs, us, h, h' => by
    unfold RpL at h
    rw [h]
    exact h'
  | d :: ds, es, vs, us, h, h' => by
    unfold RpL at h
    obtain ⟨v, ws, h1, h2, h3⟩ := h
    rw [h1]
    show RpL W Z H (d :: (ds ++ es)) (v :: (ws ++ us))
    unfold RpL
    exact ⟨v, _, rfl, h2, RpL.append h3 h'⟩
theorem RpL.take {W : Wd} {Z : Addr → Prop} {H : Hp} {ds : List D} {vs : List V} (n : Nat) (h : RpL W Z H ds vs) : RpL W Z H (ds.take n) (vs.take n) := by
  refine RpL.of (by simp [h.length]) fun i d v h1 h2 => ?_
  rw [List.getElem?_take] at h1 h2
  by_cases q : i < n
  · rw [if_pos q] at h1 h2
    obtain ⟨v', e1, e2⟩ := h.getD h1
    rw [h2] at e1
    rw [Option.some.inj e1]
    exact e2
  · rw [if_neg q] at h1
    cases h1
theorem RpL.drop {W : Wd} {Z : Addr → Prop} {H : Hp} {ds : List D} {vs : List V} (n : Nat) (h : RpL W Z H ds vs) : RpL W Z H (ds.drop n) (vs.drop n) := by
  refine RpL.of (by simp [h.length]) fun i d v h1 h2 => ?_
  rw [List.getElem?_drop] at h1 h2
  obtain ⟨v', e1, e2⟩ := h.getD h1
  rw [h2] at e1
  rw [Option.some.inj e1]
  exact e2
theorem RpL.reverse {W : Wd} {Z : Addr → Prop} {H : Hp} : ∀ {ds : List D} {vs : List V}, RpL W Z H ds vs → RpL W Z H ds.reverse vs.reverse
  | [], vs, h => by
    unfold RpL at h
    rw [h]
    exact (by unfold RpL; rfl : RpL W Z H [] [])
  | d :: ds, vs, h => by
    unfold RpL at h
    obtain ⟨v, us, h1, h2, h3⟩ := h
    rw [h1, List.reverse_cons, List.reverse_cons]
    exact (RpL.reverse h3).append (by unfold RpL; exact ⟨v, [], rfl, h2, by unfold RpL; rfl⟩)
theorem RpL.set {W : Wd} {Z : Addr → Prop} {H : Hp} {ds : List D} {vs : List V} (h : RpL W Z H ds vs) {d : D} {v : V} (q : Rp W Z H d v) (i : Nat) : RpL W Z H (ds.set i d) (vs.set i v) := by
  refine RpL.of (by simp [h.length]) fun j d' v' h1 h2 => ?_
  by_cases e : i = j
  · subst e
    have hi : i < ds.length := by
      have := (List.getElem?_eq_some_iff.mp h1).1
      simpa using this
    rw [List.getElem?_set_self hi] at h1
    rw [List.getElem?_set_self (by rw [← h.length]; exact hi)] at h2
    rw [← Option.some.inj h1, ← Option.some.inj h2]
    exact q
  · rw [List.getElem?_set_ne e] at h1 h2
    obtain ⟨v'', e1, e2⟩ := h.getD h1
    rw [h2] at e1
    rw [Option.some.inj e1]
    exact e2
end DL
/-! DLRel: outcomes, labels (which slot owns which list), the relation between data slots and value slots. -/
namespace DL
open PySem PySem.Spec PyProof.Rows L2

abbrev EnvD := List (Option D)
abbrev Lab := Addr → Option (List Nat)
inductive Out (α : Type) where
  | ok (a : α) (e : EnvD) | exc (c : Str) (a : Option D) (e : EnvD) | bad
def Out.bind {α β : Type} : Out α → (α → EnvD → Out β) → Out β
  | .ok a e, f => f a e
  | .exc c a e, _ => .exc c a e
  | .bad, _ => .bad
abbrev M (α : Type) := EnvD → Out α

abbrev No : Addr → Prop := fun _ => False
/-- the lists that some slot (or the caller) owns -/
def Zo (L : Lab) : Addr → Prop := fun a => L a ≠ none
/-- the label of what is made and not yet put anywhere -/
def tmp : Nat := 1000000
/-- what an expression may change: nothing, if it is pure; else what slots own -/
def Zp : Bool → Lab → Addr → Prop
  | true, _ => No
  | false, L => fun a => ∃ i q, L a = some (i :: q) ∧ i < tmp
theorem Zp.sub {p : Bool} {L : Lab} {a : Addr} (h : Zp p L a) : Zo L a := by
  cases p with
  | true => exact h.elim
  | false =>
    obtain ⟨i, q, h, _⟩ := h
    intro w
    rw [w] at h
    cases h

/-- d lies at v; lists down to the depth n are owned, their labels begin with p -/
def Ow (W : Wd) (L : Lab) (H : Hp) : Nat → List Nat → D → V → Prop
  | 0, _, d, v => Rp W (Zo L) H d v
  | n + 1, p, .lst ds, v => ∃ a vs, v = .ref a ∧ L a = some p ∧ H a = some (.lst vs) ∧ (ds.length = vs.length ∧ vs.length ≤ sizeLine) ∧ ∀ (j : Nat) (d' : D) (v' : V), ds[j]? = some d' → vs[j]? = some v' → Ow W L H n (p ++ [j]) d' v'
  | _ + 1, _, d, v => Rp W (Zo L) H d v
theorem Ow.any {W : Wd} {L : Lab} {H : Hp} : ∀ (n : Nat) (p : List Nat) (d : D) (v : V), Ow W L H n p d v → Rp W No H d v
  | 0, p, d, v, h => Rp.shun (fun _ z _ => z.elim) d v h
  | n + 1, p, .lst ds, v, h => by
    unfold Ow at h
    obtain ⟨a, vs, h1, _, h3, h4, h5⟩ := h
    unfold Rp
    exact ⟨a, vs, h1, fun z => z, ⟨h3, h4.2⟩, RpL.of h4.1 fun j d' v' q1 q2 => Ow.any n _ d' v' (h5 j d' v' q1 q2)⟩
  | n + 1, p, .non, v, h => Rp.shun (fun _ z _ => z.elim) _ v h
  | n + 1, p, .bool _, v, h => Rp.shun (fun _ z _ => z.elim) _ v h
  | n + 1, p, .int _, v, h => Rp.shun (fun _ z _ => z.elim) _ v h
  | n + 1, p, .str _, v, h => Rp.shun (fun _ z _ => z.elim) _ v h
  | n + 1, p, .tup _, v, h => Rp.shun (fun _ z _ => z.elim) _ v h
  | n + 1, p, .dic _, v, h => Rp.shun (fun _ z _ => z.elim) _ v h
  | n + 1, p, .obj _ _, v, h => Rp.shun (fun _ z _ => z.elim) _ v h
  | n + 1, p, .ro _, v, h => Rp.shun (fun _ z _ => z.elim) _ v h
/-- other labels, another heap: frozen parts go over by f, owned lists by g -/
theorem Ow.map {W : Wd} {L L' : Lab} {H H' : Hp} (f : ∀ d v, Rp W (Zo L) H d v → Rp W (Zo L') H' d v) : ∀ (n : Nat) (p p' : List Nat) (d : D) (v : V),
    (∀ a q vs, L a = some (p ++ q) → H a = some (.lst vs) → L' a = some (p' ++ q) ∧ H' a = some (.lst vs)) → Ow W L H n p d v → Ow W L' H' n p' d v
  | 0, p, p', d, v, _, h => f d v h
  | n + 1, p, p', .lst ds, v, g, h => by
    unfold Ow at h ⊢
    obtain ⟨a, vs, h1, h2, h3, h4, h5⟩ := h
    obtain ⟨g1, g2⟩ := g a [] vs (by rw [List.append_nil]; exact h2) h3
    rw [List.append_nil] at g1
    refine ⟨a, vs, h1, g1, g2, h4, fun j d' v' q1 q2 => Ow.map f n (p ++ [j]) (p' ++ [j]) d' v' (fun b q us e1 e2 => ?_) (h5 j d' v' q1 q2)⟩
    obtain ⟨r1, r2⟩ := g b ([j] ++ q) us (by rw [← List.append_assoc]; exact e1) e2
    exact ⟨by rw [r1, List.append_assoc], r2⟩
  | n + 1, p, p', .non, v, _, h => f _ v h
  | n + 1, p, p', .bool _, v, _, h => f _ v h
  | n + 1, p, p', .int _, v, _, h => f _ v h
  | n + 1, p, p', .str _, v, _, h => f _ v h
  | n + 1, p, p', .tup _, v, _, h => f _ v h
  | n + 1, p, p', .dic _, v, _, h => f _ v h
  | n + 1, p, p', .obj _ _, v, _, h => f _ v h
  | n + 1, p, p', .ro _, v, _, h => f _ v h
/-- what is owned is given free: its labels go -/
theorem Ow.thaw {W : Wd} {L L' : Lab} {H : Hp} (z : ∀ a, L' a ≠ none → L a ≠ none) : ∀ (n : Nat) (p : List Nat) (d : D) (v : V), (∀ a q, L a = some (p ++ q) → L' a = none) → Ow W L H n p d v → Rp W (Zo L') H d v
  | 0, p, d, v, _, h => Rp.shun (fun a q _ => z a q) d v h
  | n + 1, p, .lst ds, v, g, h => by
    unfold Ow at h
    obtain ⟨a, vs, h1, h2, h3, h4, h5⟩ := h
    unfold Rp
    refine ⟨a, vs, h1, fun q => q (g a [] (by rw [List.append_nil]; exact h2)), ⟨h3, h4.2⟩, RpL.of h4.1 fun j d' v' q1 q2 => Ow.thaw z n _ d' v' (fun b q e => g b ([j] ++ q) (by rw [← List.append_assoc]; exact e)) (h5 j d' v' q1 q2)⟩
  | n + 1, p, .non, v, _, h => Rp.shun (fun a q _ => z a q) _ v h
  | n + 1, p, .bool _, v, _, h => Rp.shun (fun a q _ => z a q) _ v h
  | n + 1, p, .int _, v, _, h => Rp.shun (fun a q _ => z a q) _ v h
  | n + 1, p, .str _, v, _, h => Rp.shun (fun a q _ => z a q) _ v h
  | n + 1, p, .tup _, v, _, h => Rp.shun (fun a q _ => z a q) _ v h
  | n + 1, p, .dic _, v, _, h => Rp.shun (fun a q _ => z a q) _ v h
  | n + 1, p, .obj _ _, v, _, h => Rp.shun (fun a q _ => z a q) _ v h
  | n + 1, p, .ro _, v, _, h => Rp.shun (fun a q _ => z a q) _ v h

/-- how free a value is: 0 any; 1 its own list may be owned, the items are not; 2 nothing of it is owned -/
def RpZ (W : Wd) (L : Lab) (H : Hp) : Nat → D → V → Prop
  | 0, d, v => Rp W No H d v
  | 1, .lst ds, v => ∃ a vs, v = .ref a ∧ (H a = some (.lst vs) ∧ vs.length ≤ sizeLine) ∧ RpL W (Zo L) H ds vs
  | _, d, v => Rp W (Zo L) H d v
theorem RpZ.any {W : Wd} {L : Lab} {H : Hp} {z : Nat} {d : D} {v : V} (h : RpZ W L H z d v) : Rp W No H d v := by
  match z, d, h with
  | 0, _, h => exact h
  | 1, .lst ds, h =>
    obtain ⟨a, vs, h1, h2, h3⟩ := h
    unfold Rp
    exact ⟨a, vs, h1, fun q => q, h2, RpL.shun (fun _ q _ => q.elim) ds vs h3⟩
  | 1, .non, h => exact Rp.shun (Z := Zo L) (fun _ q _ => q.elim) _ v h
  | 1, .bool _, h => exact Rp.shun (Z := Zo L) (fun _ q _ => q.elim) _ v h
  | 1, .int _, h => exact Rp.shun (Z := Zo L) (fun _ q _ => q.elim) _ v h
  | 1, .str _, h => exact Rp.shun (Z := Zo L) (fun _ q _ => q.elim) _ v h
  | 1, .tup _, h => exact Rp.shun (Z := Zo L) (fun _ q _ => q.elim) _ v h
  | 1, .dic _, h => exact Rp.shun (Z := Zo L) (fun _ q _ => q.elim) _ v h
  | 1, .obj _ _, h => exact Rp.shun (Z := Zo L) (fun _ q _ => q.elim) _ v h
  | 1, .ro _, h => exact Rp.shun (Z := Zo L) (fun _ q _ => q.elim) _ v h
  | _ + 2, _, h => exact Rp.shun (Z := Zo L) (fun _ q _ => q.elim) _ v h
theorem RpZ.two {W : Wd} {L : Lab} {H : Hp} {d : D} {v : V} (h : Rp W (Zo L) H d v) : RpZ W L H 2 d v := h
theorem RpZ.of2 {W : Wd} {L : Lab} {H : Hp} {z : Nat} {d : D} {v : V} (h : Rp W (Zo L) H d v) : RpZ W L H z d v := by
  match z, d, h with
  | 0, _, h => exact Rp.shun (fun _ q _ => q.elim) _ v h
  | 1, .lst ds, h =>
    unfold Rp at h
    obtain ⟨a, vs, h1, _, h3, h4⟩ := h
    exact ⟨a, vs, h1, h3, h4⟩
  | 1, .non, h => exact h
  | 1, .bool _, h => exact h
  | 1, .int _, h => exact h
  | 1, .str _, h => exact h
  | 1, .tup _, h => exact h
  | 1, .dic _, h => exact h
  | 1, .obj _ _, h => exact h
  | 1, .ro _, h => exact h
  | _ + 2, _, h => exact h

/-- what a def knows of its entry: the heap, the labels (0 :: .. its first argument's, if that may change down to the depth n; the caller's own: [] ), the first argument -/
structure Gh where
  H : Hp
  L : Lab
  n : Nat
  v : V
  no : n = 0 → ∀ a q, L a ≠ some (0 :: q)
  hd : ∀ a l, L a = some l → l = [] ∨ ∃ q, l = 0 :: q
def Gh.io (G : Gh) : Addr → Prop := fun a => ∃ q, G.L a = some (0 :: q)

structure Rel (W : Wd) (G : Gh) (O : List Nat) (L : Lab) (env : EnvD) (σ : L2.St) (H : Hp) : Prop where
  len : env.length = σ.length
  slot : ∀ (i : Nat) (d : D), env[i]? = some (some d) → ∃ v, σ[i]? = some (some v) ∧ Ow W L H (O.getD i 0) [i] d v
  dom : ∀ a, L a ≠ none → H a ≠ none
  ent : Ev W G.io G.H H
  ext : ∀ a l, G.L a = some l → L a = some l
  loc : ∀ a l, L a = some l → G.L a = none → G.H a = none ∧ ∃ i q, l = i :: q
  first : G.n ≠ 0 → σ[0]? = some (some G.v) ∧ O.getD 0 0 = G.n
  zero : G.n ≠ 0 → ∀ a q, L a = some (0 :: q) → G.L a = some (0 :: q)

section
variable {W : Wd} {G : Gh} {O : List Nat} {L : Lab} {env : EnvD} {σ : L2.St} {H H' : Hp}
/-- the heap goes on: what is labelled stays or is told by hs -/
theorem Rel.ev {Z : Addr → Prop} (R : Rel W G O L env σ H) (e : Ev W Z H H') (z : ∀ a, Z a → L a = none ∧ False) : Rel W G O L env σ H' := by
  have hz : ∀ a, ¬ Z a := fun a q => (z a q).2
  have e' : Ev W (Zo L) H H' := e.mono fun a q _ => (hz a q).elim
  have e0 : Ev W G.io H H' := e.mono fun a q _ => (hz a q).elim
  refine ⟨R.len, fun i d h => ?_, fun a q n => R.dom a q (e.dom a n), R.ent.trans e0, R.ext, R.loc, R.first, R.zero⟩
  obtain ⟨v, h1, h2⟩ := R.slot i d h
  exact ⟨v, h1, Ow.map (fun d v => Rp.ev e' d v) _ _ _ d v (fun a q vs q1 q2 => ⟨q1, e.lst a vs q2 (hz a)⟩) h2⟩
theorem Rel.pure (R : Rel W G O L env σ H) (e : Ev W No H H') : Rel W G O L env σ H' := R.ev e fun _ q => q.elim
theorem Rel.new (R : Rel W G O L env σ H) {p : Addr} {o : HO} (n : H p = none) : Rel W G O L env σ (upd H p o) := R.pure (Ev.new n)
theorem Rel.free (R : Rel W G O L env σ H) {p : Addr} (n : H p = none) : L p = none := by
  cases q : L p with
  | none => rfl
  | some l => exact absurd n (R.dom p (by rw [q]; exact fun w => nomatch w))
/-- a slot's value -/
theorem Rel.any (R : Rel W G O L env σ H) {i : Nat} {d : D} (h : env[i]? = some (some d)) : ∃ v, σ[i]? = some (some v) ∧ Rp W No H d v := by
  obtain ⟨v, h1, h2⟩ := R.slot i d h
  exact ⟨v, h1, Ow.any _ _ _ _ h2⟩
theorem Rel.frozen (R : Rel W G O L env σ H) {i : Nat} {d : D} (h : env[i]? = some (some d)) (o : O.getD i 0 = 0) : ∃ v, σ[i]? = some (some v) ∧ Rp W (Zo L) H d v := by
  obtain ⟨v, h1, h2⟩ := R.slot i d h
  rw [o] at h2
  exact ⟨v, h1, h2⟩
theorem Rel.shallow (R : Rel W G O L env σ H) {i : Nat} {d : D} (h : env[i]? = some (some d)) (o : O.getD i 0 ≤ 1) : ∃ v, σ[i]? = some (some v) ∧ RpZ W L H 1 d v := by
  obtain ⟨v, h1, h2⟩ := R.slot i d h
  refine ⟨v, h1, ?_⟩
  have o' : O.getD i 0 = 0 ∨ O.getD i 0 = 1 := by omega
  rcases o' with o' | o'
  · rw [o'] at h2
    exact RpZ.of2 h2
  · rw [o'] at h2
    match d, h2 with
    | .lst ds, h2 =>
      unfold Ow at h2
      obtain ⟨a, vs, q1, _, q3, q4, q5⟩ := h2
      exact ⟨a, vs, q1, ⟨q3, q4.2⟩, RpL.of q4.1 fun j d' v' e1 e2 => q5 j d' v' e1 e2⟩
    | .non, h2 => exact h2
    | .bool _, h2 => exact h2
    | .int _, h2 => exact h2
    | .str _, h2 => exact h2
    | .tup _, h2 => exact h2
    | .dic _, h2 => exact h2
    | .obj _ _, h2 => exact h2
    | .ro _, h2 => exact h2

theorem getD_set {O : List Nat} {i j n : Nat} : (O.set i n).getD j 0 = if i = j ∧ i < O.length then n else O.getD j 0 := by
  rw [List.getD_eq_getElem?_getD, List.getD_eq_getElem?_getD, List.getElem?_set]
  by_cases h : i = j
  · subst h
    by_cases h2 : i < O.length
    · simp [h2]
    · have : O[i]? = none := List.getElem?_eq_none_iff.mpr (by omega)
      simp [h2, this]
  · simp [h]
/-- a frozen value goes into a slot -/
theorem Rel.set (R : Rel W G O L env σ H) {i : Nat} {d : D} {v : V} (h : Rp W (Zo L) H d v) (hi : i ≠ 0 ∨ G.n = 0) : Rel W G (O.set i 0) L (env.set i (some d)) (σ.set i (some v)) H := by
  refine ⟨by rw [List.length_set, List.length_set, R.len], fun j d' e => ?_, R.dom, R.ent, R.ext, R.loc, fun hn => ?_, R.zero⟩
  · by_cases q : i = j
    · subst q
      have hl : i < env.length := by
        have := (List.getElem?_eq_some_iff.mp e).1
        simpa using this
      rw [List.getElem?_set_self hl] at e
      have e' : d = d' := Option.some.inj (Option.some.inj e)
      subst e'
      refine ⟨v, List.getElem?_set_self (by rw [← R.len]; exact hl), ?_⟩
      have : (O.set i 0).getD i 0 = 0 := by
        rw [getD_set]
        split
        · rfl
        · rename_i z
          rw [List.getD_eq_getElem?_getD, List.getElem?_eq_none_iff.mpr (by simp at z; omega)]
          rfl
      rw [this]
      exact h
    · rw [List.getElem?_set_ne q] at e
      obtain ⟨v', h1, h2⟩ := R.slot j d' e
      refine ⟨v', by rw [List.getElem?_set_ne q]; exact h1, ?_⟩
      rw [getD_set, if_neg (fun z => q z.1)]
      exact h2
  · have h0 : i ≠ 0 := hi.resolve_right hn
    obtain ⟨a, b⟩ := R.first hn
    refine ⟨by rw [List.getElem?_set_ne h0]; exact a, ?_⟩
    rw [getD_set, if_neg (fun z => h0 z.1)]
    exact b
/-- a slot is forgotten -/
theorem Rel.drop (R : Rel W G O L env σ H) (i : Nat) : Rel W G O L (env.set i none) σ H := by
  refine ⟨by rw [List.length_set, R.len], fun j d' e => ?_, R.dom, R.ent, R.ext, R.loc, R.first, R.zero⟩
  by_cases q : i = j
  · subst q
    rw [List.getElem?_set] at e
    split at e
    · split at e <;> cases e
    · exact R.slot i d' e
  · rw [List.getElem?_set_ne q] at e
    exact R.slot j d' e
/-- fewer slots are known -/
theorem Rel.less (R : Rel W G O L env σ H) {env' : EnvD} (hl : env'.length = env.length) (h : ∀ (i : Nat) (d : D), env'[i]? = some (some d) → env[i]? = some (some d)) : Rel W G O L env' σ H :=
  ⟨hl.trans R.len, fun i d e => R.slot i d (h i d e), R.dom, R.ent, R.ext, R.loc, R.first, R.zero⟩
/-- fewer labels -/
theorem Rel.unlabel (R : Rel W G O L env σ H) {L' : Lab} (h : ∀ a l, L' a = some l → L a = some l) (k : ∀ a i q, i < O.length → L a = some (i :: q) → L' a = some (i :: q)) (x : ∀ a l, G.L a = some l → L' a = some l) : Rel W G O L' env σ H := by
  have z : ∀ a, Zo L' a → Zo L a := fun a q e => by
    cases r : L' a with
    | none => exact q r
    | some l => rw [h a l r] at e; cases e
  refine ⟨R.len, fun i d e => ?_, fun a q => R.dom a (z a q), R.ent, x, fun a l e q => R.loc a l (h a l e) q, R.first, fun hn a q e => R.zero hn a q (h a _ e)⟩
  obtain ⟨v, h1, h2⟩ := R.slot i d e
  refine ⟨v, h1, ?_⟩
  by_cases hi : i < O.length
  · exact Ow.map (fun d v => Rp.shun (fun a q _ => z a q) d v) _ _ _ d v (fun a q vs e1 e2 => ⟨k a i q hi e1, e2⟩) h2
  · have o : O.getD i 0 = 0 := by
      rw [List.getD_eq_getElem?_getD, List.getElem?_eq_none_iff.mpr (by omega)]
      rfl
    rw [o] at h2 ⊢
    exact Rp.shun (fun a q _ => z a q) d v h2
/-- a slot's list is owned no more -/
def cut (L : Lab) (i : Nat) : Lab := fun a => match L a with
  | some (j :: q) => if j = i then none else some (j :: q)
  | x => x
theorem cut_some {L : Lab} {i : Nat} {a : Addr} {l : List Nat} (h : cut L i a = some l) : L a = some l ∧ ∀ q, l ≠ i :: q := by
  unfold cut at h
  split at h
  · rename_i j q e
    split at h
    · cases h
    · rename_i ne
      cases h
      refine ⟨e, fun q' z => ?_⟩
      injection z with z1 _
      exact ne z1
  · rename_i hx
    refine ⟨h, fun q z => ?_⟩
    subst z
    exact (hx i q h).elim
theorem cut_keep {L : Lab} {i : Nat} {a : Addr} {l : List Nat} (h : L a = some l) (ne : ∀ q, l ≠ i :: q) : cut L i a = some l := by
  unfold cut
  split
  · rename_i j q e
    rw [h] at e
    cases e
    rw [if_neg]
    intro z
    subst z
    exact ne q rfl
  · exact h
theorem cut_gone {L : Lab} {i : Nat} {a : Addr} {q : List Nat} (h : L a = some (i :: q)) : cut L i a = none := by
  unfold cut
  rw [h]
  simp
theorem Rel.freeze (R : Rel W G O L env σ H) (i : Nat) (hi : i ≠ 0 ∨ G.n = 0) : Rel W G (O.set i 0) (cut L i) env σ H := by
  have z : ∀ a, Zo (cut L i) a → Zo L a := fun a q e => by
    cases r : cut L i a with
    | none => exact q r
    | some l => rw [(cut_some r).1] at e; cases e
  have noi : ∀ a l, G.L a = some l → ∀ q, l ≠ i :: q := fun a l e q w => by
    subst w
    rcases G.hd a _ e with w | ⟨q', w⟩
    · cases w
    · injection w with w1 _
      rcases hi with hi | hi
      · exact hi w1
      · rw [w1] at e
        exact G.no hi a q e
  refine ⟨R.len, fun j d e => ?_, fun a q => R.dom a (z a q), R.ent, fun a l e => cut_keep (R.ext a l e) (noi a l e), fun a l e q => R.loc a l (cut_some e).1 q, fun hn => ?_, fun hn a q e => R.zero hn a q (cut_some e).1⟩
  · obtain ⟨v, h1, h2⟩ := R.slot j d e
    refine ⟨v, h1, ?_⟩
    by_cases q : i = j
    · subst q
      have : (O.set i 0).getD i 0 = 0 := by
        rw [getD_set]
        split
        · rfl
        · rename_i z
          rw [List.getD_eq_getElem?_getD, List.getElem?_eq_none_iff.mpr (by simp at z; omega)]
          rfl
      rw [this]
      exact Ow.thaw z _ _ d v (fun a q e => cut_gone e) h2
    · rw [getD_set, if_neg (fun w => q w.1)]
      exact Ow.map (fun d v => Rp.shun (fun a q _ => z a q) d v) _ _ _ d v (fun a r vs e1 e2 => ⟨cut_keep e1 (fun q' w => by injection w with w1 _; exact q w1.symm), e2⟩) h2
  · have h0 : i ≠ 0 := hi.resolve_right hn
    obtain ⟨a, b⟩ := R.first hn
    refine ⟨a, ?_⟩
    rw [getD_set, if_neg (fun w => h0 w.1)]
    exact b
end
end DL
/-! DLExpr: the judgement of expressions over data, its first rules. -/
namespace DL
open PySem PySem.Spec PyProof.Rows L2

/-! ### giving lists free, many at once -/
def thinB (O O' : List Nat) : Bool := (List.range (max O.length O'.length)).all fun i => O'.getD i 0 == O.getD i 0 || O'.getD i 0 == 0
theorem thinB_ok {O O' : List Nat} (h : thinB O O' = true) (i : Nat) : O'.getD i 0 = O.getD i 0 ∨ O'.getD i 0 = 0 := by
  by_cases hi : i < max O.length O'.length
  · have := (List.all_eq_true.mp h) i (List.mem_range.mpr hi)
    simpa using this
  · right
    rw [List.getD_eq_getElem?_getD, List.getElem?_eq_none_iff.mpr (by omega)]
    rfl
def thinL (O O' : List Nat) (L : Lab) : Lab := fun a => match L a with
  | some (j :: q) => if O'.getD j 0 = O.getD j 0 then some (j :: q) else none
  | x => x
section
variable {W : Wd} {G : Gh} {O O' : List Nat} {L : Lab} {env : EnvD} {σ : L2.St} {H H' : Hp}
theorem thinL_some {a : Addr} {l : List Nat} (h : thinL O O' L a = some l) : L a = some l ∧ ∀ j q, l = j :: q → O'.getD j 0 = O.getD j 0 := by
  unfold thinL at h
  split at h
  · rename_i j q e
    split at h
    · rename_i c
      cases h
      refine ⟨e, fun j' q' z => ?_⟩
      injection z with z1 _
      rw [← z1]
      exact c
    · cases h
  · rename_i hx
    refine ⟨h, fun j q z => ?_⟩
    subst z
    exact (hx j q h).elim
theorem thinL_keep {a : Addr} {l : List Nat} (h : L a = some l) (k : ∀ j q, l = j :: q → O'.getD j 0 = O.getD j 0) : thinL O O' L a = some l := by
  unfold thinL
  split
  · rename_i j q e
    rw [h] at e
    cases e
    rw [if_pos (k j q rfl)]
  · exact h
theorem thinL_sub {a : Addr} (h : thinL O O' L a ≠ none) : L a ≠ none := fun z => by
  cases q : thinL O O' L a with
  | none => exact h q
  | some l => rw [(thinL_some q).1] at z; cases z
theorem Rel.thin (R : Rel W G O L env σ H) (h : thinB O O' = true) (h0 : G.n ≠ 0 → O'.getD 0 0 = O.getD 0 0) : Rel W G O' (thinL O O' L) env σ H := by
  refine ⟨R.len, fun j d e => ?_, fun a q => R.dom a (thinL_sub q), R.ent, fun a l e => thinL_keep (R.ext a l e) fun j q z => ?_, fun a l e q => R.loc a l (thinL_some e).1 q, fun hn => ?_, fun hn a q e => R.zero hn a q (thinL_some e).1⟩
  · obtain ⟨v, h1, h2⟩ := R.slot j d e
    refine ⟨v, h1, ?_⟩
    by_cases c : O'.getD j 0 = O.getD j 0
    · rw [c]
      exact Ow.map (fun d v => Rp.shun (fun a q _ => thinL_sub q) d v) _ _ _ d v (fun a r vs e1 e2 => ⟨thinL_keep e1 (fun j' q' w => by
        have w' : j :: r = j' :: q' := w
        injection w' with w1 _
        rw [← w1]
        exact c), e2⟩) h2
    · have o : O'.getD j 0 = 0 := (thinB_ok h j).resolve_left c
      rw [o]
      refine Ow.thaw (fun a q => thinL_sub q) _ _ d v (fun a q e => ?_) h2
      cases r : thinL O O' L a with
      | none => rfl
      | some l =>
        obtain ⟨r1, r2⟩ := thinL_some r
        rw [e] at r1
        exact (c (r2 j q (Option.some.inj r1).symm)).elim
  · subst z
    rcases G.hd a _ e with w | ⟨q', w⟩
    · cases w
    · injection w with w1 _
      subst w1
      by_cases hn : G.n = 0
      · exact (G.no hn a q e).elim
      · exact h0 hn
  · obtain ⟨a, b⟩ := R.first hn
    exact ⟨a, (h0 hn).trans b⟩
end

/-! ### the judgement -/
/-- how an exception of the class named c lies: its field `at` is a -/
def ExR (W : Wd) (L : Lab) (c : Str) (a : Option D) (cv : Value) (dd : Option Addr) (H : Hp) : Prop :=
  cv = .ref (He.ga W.K c) ∧ ∀ d, a = some d → ∃ (x : Addr) (v : V), dd = some x ∧ H x = some (.xd [("at", v)]) ∧ Rp W (Zo L) H d v

def PostE (W : Wd) (G : Gh) (O : List Nat) (L : Lab) (p : Bool) (z : Nat) (Wx : WX) (env : EnvD) (σ : L2.St) (H : Hp) (Q : VK) : Out D → Prop
  | .ok d env' => ∀ v H', Rel W G O L env' σ H' → Ev W (Zp p L) H H' → (p = true → env' = env) → RpZ W L H' z d v → Q v H'
  | .exc c a env' => ∀ cv dd H', Rel W G O L env' σ H' → ExR W L c a cv dd H' → Wx cv dd σ H'
  | .bad => False

/-- e gives what m says; z: how free the value is; p: nothing owned is changed -/
structure DE (W : Wd) (X : Cx) (Wx : WX) (O : List Nat) (e : Expr) (m : M D) (z : Nat) (p : Bool) : Prop where
  k : X.K = W.K
  run : ∃ t, PE X e t ∧ ∀ (G : Gh) (L : Lab) (env : EnvD) (σ : L2.St) (H : Hp) (Q : VK), Rel W G O L env σ H → PostE W G O L p z Wx env σ H Q (m env) → t σ H Q

/-- a test -/
def PostT (W : Wd) (G : Gh) (O : List Nat) (L : Lab) (p : Bool) (Wx : WX) (env : EnvD) (σ : L2.St) (H : Hp) (Q : Bool → Hp → Prop) : Out Bool → Prop
  | .ok b env' => ∀ H', Rel W G O L env' σ H' → Ev W (Zp p L) H H' → (p = true → env' = env) → Q b H'
  | .exc c a env' => ∀ cv dd H', Rel W G O L env' σ H' → ExR W L c a cv dd H' → Wx cv dd σ H'
  | .bad => False
structure DT (W : Wd) (X : Cx) (Wx : WX) (O : List Nat) (e : Expr) (m : M Bool) (p : Bool) : Prop where
  k : X.K = W.K
  run : ∃ t, PT X e t ∧ ∀ (G : Gh) (L : Lab) (env : EnvD) (σ : L2.St) (H : Hp) (Q : Bool → Hp → Prop), Rel W G O L env σ H → PostT W G O L p Wx env σ H Q (m env) → t σ H Q
/-- as a member of and, or -/
structure DW (W : Wd) (X : Cx) (Wx : WX) (O : List Nat) (e : Expr) (m : M Bool) (p : Bool) : Prop where
  k : X.K = W.K
  run : ∃ t, PW X e t ∧ ∀ (G : Gh) (L : Lab) (env : EnvD) (σ : L2.St) (H : Hp) (Q : Bool → Hp → Prop), Rel W G O L env σ H → PostT W G O L p Wx env σ H Q (m env) → t σ H Q

/-- arguments -/
def PostA (W : Wd) (G : Gh) (O : List Nat) (L : Lab) (p : Bool) (z : Nat) (Wx : WX) (env : EnvD) (σ : L2.St) (H : Hp) (Q : List V → Hp → Prop) : Out (List D) → Prop
  | .ok ds env' => ∀ vs H', Rel W G O L env' σ H' → Ev W (Zp p L) H H' → (p = true → env' = env) → RpL W (if z = 2 then Zo L else No) H' ds vs → Q vs H'
  | .exc c a env' => ∀ cv dd H', Rel W G O L env' σ H' → ExR W L c a cv dd H' → Wx cv dd σ H'
  | .bad => False
structure DA (W : Wd) (X : Cx) (Wx : WX) (O : List Nat) (es : List Expr) (m : M (List D)) (z : Nat) (p : Bool) : Prop where
  k : X.K = W.K
  run : ∃ t, PA X es t ∧ ∀ (G : Gh) (L : Lab) (env : EnvD) (σ : L2.St) (H : Hp) (Q : List V → Hp → Prop), Rel W G O L env σ H → PostA W G O L p z Wx env σ H Q (m env) → t σ H Q

section
variable {W : Wd} {X : Cx} {Wx : WX} {G : Gh} {O : List Nat} {L : Lab} {env : EnvD} {σ : L2.St} {H H' : Hp} {p q : Bool} {z : Nat}

theorem RpZ.le {z' : Nat} {d : D} {v : V} (h : RpZ W L H z d v) (l : z' ≤ z ∨ z' = 0) (k : z ≤ 2) : RpZ W L H z' d v := by
  rcases l with l | l
  · rcases Nat.lt_or_ge z' z with l' | l'
    · match z, z', h, l', k with
      | 1, 0, h, _, _ => exact h.any
      | 2, 0, h, _, _ => exact RpZ.any (z := 2) h
      | 2, 1, h, _, _ => exact RpZ.of2 h
    · have : z' = z := by omega
      rw [this]
      exact h
  · rw [l]
    exact h.any
theorem Zp_mono {p p' : Bool} (h : p' = true → p = true) {a : Addr} (z : Zp p L a) : Zp p' L a := by
  cases p' with
  | true => rw [h rfl] at z; exact z
  | false =>
    cases p with
    | true => exact z.elim
    | false => exact z
theorem Rp_of2 {d : D} {v : V} (h : RpZ W L H 2 d v) : Rp W (Zo L) H d v := h
/-- along with what goes on -/
theorem RpZ.ev {d : D} {v : V} (h : RpZ W L H z d v) (e : Ev W (Zp p L) H H') (c : p = true ∨ z = 2) : RpZ W L H' z d v := by
  rcases c with c | c
  · subst c
    match z, d, h with
    | 0, d, h => exact Rp.ev e d v h
    | 1, .lst ds, h =>
      obtain ⟨a, vs, h1, h2, h3⟩ := h
      exact ⟨a, vs, h1, ⟨e.lst _ _ h2.1 (fun z => z), h2.2⟩, RpL.ev (e.mono fun _ z _ => z.elim) ds vs h3⟩
    | 1, .non, h => exact h
    | 1, .bool _, h => exact h
    | 1, .int _, h => exact h
    | 1, .str _, h => exact h
    | 1, .tup ds, h => exact Rp.ev (Z := Zo L) (e.mono fun _ z _ => z.elim) (.tup ds) v h
    | 1, .dic ds, h => exact Rp.ev (Z := Zo L) (e.mono fun _ z _ => z.elim) (.dic ds) v h
    | 1, .obj k ds, h => exact Rp.ev (Z := Zo L) (e.mono fun _ z _ => z.elim) (.obj k ds) v h
    | 1, .ro ds, h => exact Rp.ev (Z := Zo L) (e.mono fun _ z _ => z.elim) (.ro ds) v h
    | n + 2, d, h => exact Rp.ev (Z := Zo L) (e.mono fun _ z _ => z.elim) d v h
  · subst c
    exact Rp.ev (Z := Zo L) (e.mono fun _ z _ => z.sub) d v h
end

/-! ### leaves -/
def dC (d : D) : M D := fun env => .ok d env
def dVar (i : Nat) : M D := fun env => match env[i]? with
  | some (some d) => .ok d env
  | _ => .bad
section
variable {W : Wd} {X : Cx} {Wx : WX} {O : List Nat} {x : Str} {pos : Pos} {i : Nat}
theorem dVar_ok {env : EnvD} {i : Nat} {d : D} (h : env[i]? = some (some d)) : dVar i env = .ok d env := by
  unfold dVar
  rw [h]
/-- a frozen slot -/
theorem de_var (o : O.getD i 0 = 0) (pv : PE X (.Name x pos) (tVar i)) (k : X.K = W.K := by rfl) : DE W X Wx O (.Name x pos) (dVar i) 2 true := by
  refine ⟨k, _, pv, fun G L env σ H Q R h => ?_⟩
  unfold dVar at h
  split at h
  · rename_i d e
    obtain ⟨v, h1, h2⟩ := R.frozen e o
    exact ⟨v, h1, h v H R Ev.refl (fun _ => rfl) h2⟩
  · exact h.elim
/-- a slot that owns its list (not the items) -/
theorem de_var1 (o : O.getD i 0 ≤ 1) (pv : PE X (.Name x pos) (tVar i)) (k : X.K = W.K := by rfl) : DE W X Wx O (.Name x pos) (dVar i) 1 true := by
  refine ⟨k, _, pv, fun G L env σ H Q R h => ?_⟩
  unfold dVar at h
  split at h
  · rename_i d e
    obtain ⟨v, h1, h2⟩ := R.shallow e o
    exact ⟨v, h1, h v H R Ev.refl (fun _ => rfl) h2⟩
  · exact h.elim
/-- any slot -/
theorem de_var0 (pv : PE X (.Name x pos) (tVar i)) (k : X.K = W.K := by rfl) : DE W X Wx O (.Name x pos) (dVar i) 0 true := by
  refine ⟨k, _, pv, fun G L env σ H Q R h => ?_⟩
  unfold dVar at h
  split at h
  · rename_i d e
    obtain ⟨v, h1, h2⟩ := R.any e
    exact ⟨v, h1, h v H R Ev.refl (fun _ => rfl) h2⟩
  · exact h.elim
/-- flat constants -/
def cst : D → Option V
  | .non => some .non
  | .bool b => some (.bl b)
  | .int i => some (.int i)
  | .str x => some (.str x)
  | _ => none
theorem cst_rp {d : D} {v : V} (h : cst d = some v) (Z : Addr → Prop) (H : Hp) : Rp W Z H d v := by
  cases d <;> cases h <;> (unfold Rp; rfl)
theorem de_cst {e : Expr} {d : D} {v : V} (h : PE X e (tC v)) (c : cst d = some v := by rfl) (k : X.K = W.K := by rfl) : DE W X Wx O e (dC d) 2 true :=
  ⟨k, _, h, fun G L env σ H Q R hq => hq v H R Ev.refl (fun _ => rfl) (cst_rp c _ _)⟩

/-- a weaker word -/
theorem DE.weak {e : Expr} {m : M D} {z z' : Nat} {p p' : Bool} (h : DE W X Wx O e m z p) (hz : z' ≤ z) (h2 : z ≤ 2 := by decide) (hp : p' = true → p = true := by decide) : DE W X Wx O e m z' p' := by
  obtain ⟨k, t, pe, s⟩ := h
  refine ⟨k, t, pe, fun G L env σ H Q R hq => s G L env σ H Q R ?_⟩
  cases q : m env with
  | ok d env' =>
    rw [q] at hq
    exact fun v H' R' E P z => hq v H' R' (E.mono fun a y _ => Zp_mono hp y) (fun c => P (hp c)) (z.le (.inl hz) h2)
  | exc c a env' =>
    rw [q] at hq
    exact hq
  | bad =>
    rw [q] at hq
    exact hq.elim
end
/-- since the entry: what changed bears a label of this def's, or is the first argument's -/
theorem Rel.entry {W : Wd} {G : Gh} {O : List Nat} {L : Lab} {env : EnvD} {σ : L2.St} {H H' : Hp} {Z : Addr → Prop} (R : Rel W G O L env σ H) (ev : Ev W Z H H') (hz : ∀ a, Z a → ∃ j q, L a = some (j :: q)) : Ev W G.io G.H H' := by
  have key : ∀ a, Z a → G.H a ≠ none → G.io a := fun a z hn => by
    obtain ⟨j, q, e⟩ := hz a z
    cases g : G.L a with
    | none => exact (hn (R.loc a _ e g).1).elim
    | some l =>
      rcases G.hd a l g with w | ⟨r, w⟩
      · have := R.ext a l g
        rw [e, w] at this
        cases this
      · exact ⟨r, by rw [g, w]⟩
  exact ⟨fun a xs h z => ev.lst a xs (R.ent.lst a xs h z) fun y => z (key a y (by rw [h]; exact fun w => nomatch w)), fun a xs h => ev.tup a xs (R.ent.tup a xs h), fun a o u h => ev.frz a o u (R.ent.frz a o u h),
    fun a xs h z => ev.dk a xs (R.ent.dk a xs h z) fun y => z (key a y (by rw [h]; exact fun w => nomatch w)), fun a xs h z => ev.dt a xs (R.ent.dt a xs h z) fun y => z (key a y (by rw [h]; exact fun w => nomatch w)),
    fun a k ds h => ev.obj a k ds (R.ent.obj a k ds h), fun a h => R.ent.dom a (ev.dom a h)⟩
end DL
/-! DLOps: operators, comparisons, tests, and, or, if-expressions over data. -/
namespace DL
open PySem PySem.Spec PyProof.Rows L2

/-! ### plain data as the library's data -/
mutual
def D.py : D → PyData
  | .non => .none
  | .bool b => .bool b
  | .int i => .int i
  | .str x => .str x
  | .tup xs => .tuple (pyL xs)
  | .lst xs => .list (pyL xs)
  | .ro xs => .list (pyL xs)
  | .dic _ => .none
  | .obj _ _ => .none
def pyL : List D → List PyData
  | [] => []
  | d :: ds => d.py :: pyL ds
end
mutual
/-- no object, no dict within -/
def D.plain : D → Bool
  | .non => true
  | .bool _ => true
  | .int _ => true
  | .str _ => true
  | .tup xs => plainL xs
  | .lst xs => plainL xs
  | .ro xs => plainL xs
  | .dic _ => false
  | .obj _ _ => false
def plainL : List D → Bool
  | [] => true
  | d :: ds => d.plain && plainL ds
end
mutual
theorem Rp.dp {W : Wd} {Z : Addr → Prop} {H : Hp} : ∀ (d : D) (v : V), d.plain = true → Rp W Z H d v → Dp W.K H v d.py
  | .non, v, _, h => by
    unfold Rp at h
    rw [h]
    exact .non
  | .bool b, v, _, h => by
    unfold Rp at h
    rw [h]
    exact .bl b
  | .int i, v, _, h => by
    unfold Rp at h
    rw [h]
    exact .int i
  | .str x, v, _, h => by
    unfold Rp at h
    rw [h]
    exact .str x
  | .tup ds, v, f, h => by
    unfold Rp at h
    obtain ⟨a, vs, h1, h2, h3⟩ := h
    rw [h1]
    exact .tup h2.1 (RpL.dp ds vs (by simpa [D.plain] using f) h3)
  | .lst ds, v, f, h => by
    unfold Rp at h
    obtain ⟨a, vs, h1, _, h2, h3⟩ := h
    rw [h1]
    exact .lst (SqL.of h2.1) (RpL.dp ds vs (by simpa [D.plain] using f) h3)
  | .ro ds, v, f, h => by
    unfold Rp at h
    obtain ⟨a, vs, h1, h2, h3⟩ := h
    rw [h1]
    exact .lst h2.1.sq (RpL.dp ds vs (by simpa [D.plain] using f) h3)
  | .dic _, _, f, _ => by simp [D.plain] at f
  | .obj _ _, _, f, _ => by simp [D.plain] at f
theorem RpL.dp {W : Wd} {Z : Addr → Prop} {H : Hp} : ∀ (ds : List D) (vs : List V), plainL ds = true → RpL W Z H ds vs → DpAll W.K H vs (pyL ds)
  | [], vs, _, h => by
    unfold RpL at h
    rw [h]
    exact .nil
  | d :: ds, vs, f, h => by
    unfold RpL at h
    obtain ⟨v, us, h1, h2, h3⟩ := h
    have f' : d.plain = true ∧ plainL ds = true := by simpa [plainL] using f
    rw [h1]
    exact .cons (Rp.dp d v f'.1 h2) (RpL.dp ds us f'.2 h3)
end
/-- may be compared -/
def D.fine (d : D) : Bool := d.plain && SeqAt.shaped d.py
/-- Python's == -/
def deq (a b : D) : Option Bool := if a.fine = true ∧ b.fine = true then some (PyData.eqv a.py b.py) else none

/-! ### two-place operations -/
theorem OpR.or {X : Cx} {f : Value → Value → Sem Value} {r r' : R2} (h : OpR X f r) (h' : OpR X f r') : OpR X f (fun x y H Q => r x y H Q ∨ r' x y H Q) := fun pins s σ H x y v u Q I rx ry q => by
  rcases q with q | q
  · exact h pins s σ H x y v u Q I rx ry q
  · exact h' pins s σ H x y v u Q I rx ry q
/-- on values, r does what F says of data -/
def RF (W : Wd) (y1 y2 zo : Nat) (r : R2) (F : D → D → Option D) : Prop := ∀ (L : Lab) (H : Hp) (a b d : D) (x y : V) (Q : VK), RpZ W L H y1 a x → RpZ W L H y2 b y → F a b = some d → (∀ a, L a ≠ none → H a ≠ none) →
  (∀ v H', Ev W No H H' → RpZ W L H' zo d v → Q v H') → r x y H Q
def lift (o : Option D) (e : EnvD) : Out D := match o with
  | some d => .ok d e
  | none => .bad
def dOp2 (F : D → D → Option D) (m1 m2 : M D) : M D := fun env => (m1 env).bind fun a e1 => (m2 e1).bind fun b e2 => lift (F a b) e2

section
variable {W : Wd} {X : Cx} {Wx : WX} {O : List Nat} {a b c : Expr} {m1 m2 : M D} {z1 z2 y1 y2 zo : Nat} {p1 p2 : Bool} {pos : Pos}
theorem snd_op2 {r : R2} {F : D → D → Option D} (f : RF W y1 y2 zo r F) {ta tb : TE} {G : Gh} {L : Lab} {env : EnvD} {σ : L2.St} {H : Hp} {Q : VK}
    (sa : ∀ (G : Gh) (L : Lab) (env : EnvD) (σ : L2.St) (H : Hp) (Q : VK), Rel W G O L env σ H → PostE W G O L p1 z1 Wx env σ H Q (m1 env) → ta σ H Q)
    (sb : ∀ (G : Gh) (L : Lab) (env : EnvD) (σ : L2.St) (H : Hp) (Q : VK), Rel W G O L env σ H → PostE W G O L p2 z2 Wx env σ H Q (m2 env) → tb σ H Q)
    (l1 : y1 ≤ z1) (k1 : z1 ≤ 2) (l2 : y2 ≤ z2) (k2 : z2 ≤ 2) (cc : p2 = true ∨ z1 = 2)
    (R : Rel W G O L env σ H) (h : PostE W G O L (p1 && p2) zo Wx env σ H Q (dOp2 F m1 m2 env)) : tOp r ta tb σ H Q := by
  unfold dOp2 at h
  refine sa G L env σ H _ R ?_
  cases q1 : m1 env with
  | bad => rw [q1] at h; exact h.elim
  | exc c a e => rw [q1] at h; exact h
  | ok d1 e1 =>
    rw [q1] at h
    intro x H1 R1 E1 P1 Z1
    refine sb G L e1 σ H1 _ R1 ?_
    have h : PostE W G O L (p1 && p2) zo Wx env σ H Q ((m2 e1).bind fun b e2 => lift (F d1 b) e2) := h
    cases q2 : m2 e1 with
    | bad => rw [q2] at h; exact h.elim
    | exc c a e => rw [q2] at h; exact h
    | ok d2 e2 =>
      rw [q2] at h
      intro y H2 R2 E2 P2 Z2
      have h : PostE W G O L (p1 && p2) zo Wx env σ H Q (lift (F d1 d2) e2) := h
      cases q3 : F d1 d2 with
      | none => rw [q3] at h; exact h.elim
      | some d =>
        rw [q3] at h
        refine f L H2 d1 d2 d x y Q ((Z1.ev E2 cc).le (.inl l1) k1) (Z2.le (.inl l2) k2) q3 R2.dom fun v H' E3 Z3 => ?_
        refine h v H' (R2.pure E3) ((E1.mono fun a z _ => Zp_mono (fun w => ?_) z).trans ((E2.mono fun a z _ => Zp_mono (fun w => ?_) z).trans (E3.mono fun _ z _ => z.elim))) (fun w => ?_) Z3
        · exact (Bool.and_eq_true_iff.mp w).1
        · exact (Bool.and_eq_true_iff.mp w).2
        · rw [P2 (Bool.and_eq_true_iff.mp w).2, P1 (Bool.and_eq_true_iff.mp w).1]
theorem de_op2 {op : Operator} {r : R2} {F : D → D → Option D} (hr : OpR X (binaryOp op) r) (f : RF W y1 y2 zo r F) (ha : DE W X Wx O a m1 z1 p1) (hb : DE W X Wx O b m2 z2 p2)
    (l1 : y1 ≤ z1 := by decide) (k1 : z1 ≤ 2 := by decide) (l2 : y2 ≤ z2 := by decide) (k2 : z2 ≤ 2 := by decide) (cc : p2 = true ∨ z1 = 2 := by first | exact .inl rfl | exact .inr rfl) :
    DE W X Wx O (.BinOp a op b pos) (dOp2 F m1 m2) zo (p1 && p2) := by
  obtain ⟨k, ta, pa, sa⟩ := ha
  obtain ⟨_, tb, pb, sb⟩ := hb
  exact ⟨k, _, pe_op hr pa pb, fun G L env σ H Q R h => snd_op2 f sa sb l1 k1 l2 k2 cc R h⟩
theorem de_cmp {op : CmpOp} {r : R2} {F : D → D → Option D} (hr : OpR X (compareOp op) r) (f : RF W y1 y2 zo r F) (ha : DE W X Wx O a m1 z1 p1) (hb : DE W X Wx O b m2 z2 p2)
    (l1 : y1 ≤ z1 := by decide) (k1 : z1 ≤ 2 := by decide) (l2 : y2 ≤ z2 := by decide) (k2 : z2 ≤ 2 := by decide) (cc : p2 = true ∨ z1 = 2 := by first | exact .inl rfl | exact .inr rfl) (hm : behindInMarks op b = false := by rfl) :
    DE W X Wx O (.Compare a [op] [b] pos) (dOp2 F m1 m2) zo (p1 && p2) := by
  obtain ⟨k, ta, pa, sa⟩ := ha
  obtain ⟨_, tb, pb, sb⟩ := hb
  exact ⟨k, _, pe_cmpR hr pa pb hm, fun G L env σ H Q R h => snd_op2 f sa sb l1 k1 l2 k2 cc R h⟩
/-- the index rule -/
theorem de_ix {r : R2} {F : D → D → Option D} (hr : IxR X r) (f : RF W y1 y2 zo r F) (ha : DE W X Wx O a m1 z1 p1) (hb : DE W X Wx O b m2 z2 p2)
    (l1 : y1 ≤ z1 := by decide) (k1 : z1 ≤ 2 := by decide) (l2 : y2 ≤ z2 := by decide) (k2 : z2 ≤ 2 := by decide) (cc : p2 = true ∨ z1 = 2 := by first | exact .inl rfl | exact .inr rfl) (hs : PlainIx b := by exact fun _ _ => rfl) :
    DE W X Wx O (.Subscript a b pos) (dOp2 F m1 m2) zo (p1 && p2) := by
  obtain ⟨k, ta, pa, sa⟩ := ha
  obtain ⟨_, tb, pb, sb⟩ := hb
  exact ⟨k, _, pe_ix hr pa pb hs, fun G L env σ H Q R h => snd_op2 f sa sb l1 k1 l2 k2 cc R h⟩

/-! ### tests -/
def dTest (m : M D) : M Bool := fun env => (m env).bind fun d e => match d with
  | .bool b => .ok b e
  | _ => .bad
theorem dt_val (h : DE W X Wx O a m1 z1 p1) (he : ∀ whole, isTrue a X.env whole = (do let v ← whole; standAt a.pos; holding [v] (truthy v)) := by intro _; rfl) : DT W X Wx O a (dTest m1) p1 := by
  obtain ⟨k, ta, pa, sa⟩ := h
  refine ⟨k, _, pt_val pa he, fun G L env σ H Q R h => sa G L env σ H _ R ?_⟩
  unfold dTest at h
  cases q1 : m1 env with
  | bad => rw [q1] at h; exact h.elim
  | exc c a e => rw [q1] at h; exact h
  | ok d1 e1 =>
    rw [q1] at h
    intro v H' R' E P Z
    match d1, Z, h with
    | .bool b, Z, h =>
      have e := Z.any
      unfold Rp at e
      exact ⟨b, e, h H' R' E P⟩
theorem dt_cmp {op : CmpOp} {r : R2} {F : D → D → Option D} (hr : OpR X (compareOp op) r) (f : RF W y1 y2 zo r F) (ha : DE W X Wx O a m1 z1 p1) (hb : DE W X Wx O b m2 z2 p2)
    (l1 : y1 ≤ z1 := by decide) (k1 : z1 ≤ 2 := by decide) (l2 : y2 ≤ z2 := by decide) (k2 : z2 ≤ 2 := by decide) (cc : p2 = true ∨ z1 = 2 := by first | exact .inl rfl | exact .inr rfl) (hm : behindInMarks op b = false := by rfl) :
    DT W X Wx O (.Compare a [op] [b] pos) (dTest (dOp2 F m1 m2)) (p1 && p2) := by
  obtain ⟨k, ta, pa, sa⟩ := ha
  obtain ⟨_, tb, pb, sb⟩ := hb
  refine ⟨k, _, pt_cmpR hr pa pb hm, fun G L env σ H Q R h => ?_⟩
  refine snd_op2 (zo := zo) f sa sb l1 k1 l2 k2 cc R ?_
  unfold dTest at h
  cases q1 : dOp2 F m1 m2 env with
  | bad => rw [q1] at h; exact h.elim
  | exc c a e => rw [q1] at h; exact h
  | ok d1 e1 =>
    rw [q1] at h
    intro v H' R' E P Z
    match d1, Z, h with
    | .bool b, Z, h =>
      have e := Z.any
      unfold Rp at e
      exact ⟨b, e, h H' R' E P⟩
/-- a value's truth -/
def truth : D → Option Bool
  | .non => some false
  | .bool b => some b
  | .int i => some (i != 0)
  | .str x => if x.length ≤ sizeLine then some (x.length != 0) else none
  | .tup xs => some (!xs.isEmpty)
  | .lst xs => some (!xs.isEmpty)
  | .ro xs => some (!xs.isEmpty)
  | _ => none
def dTru (m : M D) : M Bool := fun env => (m env).bind fun d e => match truth d with
  | some b => .ok b e
  | none => .bad
theorem isE_len {α β : Type} {xs : List α} {ys : List β} (h : xs.length = ys.length) : xs.isEmpty = ys.isEmpty := by
  cases xs <;> cases ys <;> simp at h <;> rfl
theorem truth_v {Z : Addr → Prop} {H : Hp} {d : D} {v : V} {k : Bool} (h : Rp W Z H d v) (t : truth d = some k) : TruV W.K v H k := by
  cases d with
  | non => unfold Rp at h; subst h; cases t; rfl
  | bool b => unfold Rp at h; subst h; cases t; rfl
  | int i => unfold Rp at h; subst h; cases t; rfl
  | str x =>
    unfold Rp at h
    subst h
    have t : (if x.length ≤ sizeLine then some (x.length != 0) else none) = some k := t
    by_cases hz : x.length ≤ sizeLine
    · rw [if_pos hz] at t
      refine ⟨hz, ?_⟩
      rw [← Option.some.inj t]
      refine Bool.eq_iff_iff.mpr ?_
      rw [bne_iff_ne, bne_iff_ne]
      omega
    · rw [if_neg hz] at t
      cases t
  | tup ds =>
    unfold Rp at h
    obtain ⟨a, vs, rfl, h2, h3⟩ := h
    cases t
    exact .inr (.inl ⟨vs, h2.1, by rw [isE_len h3.length]⟩)
  | lst ds =>
    unfold Rp at h
    obtain ⟨a, vs, rfl, _, h2, h3⟩ := h
    cases t
    exact .inl ⟨vs, SqL.of h2.1, by rw [isE_len h3.length]⟩
  | ro ds =>
    unfold Rp at h
    obtain ⟨a, vs, rfl, h2, h3⟩ := h
    cases t
    exact .inl ⟨vs, h2.1.sq, by rw [isE_len h3.length]⟩
  | dic _ => cases t
  | obj _ _ => cases t
theorem dt_tru (h : DE W X Wx O a m1 z1 p1) (he : ∀ whole, isTrue a X.env whole = (do let v ← whole; standAt a.pos; holding [v] (truthy v)) := by intro _; rfl) : DT W X Wx O a (dTru m1) p1 := by
  obtain ⟨k, ta, pa, sa⟩ := h
  refine ⟨k, _, pt_truth pa he, fun G L env σ H Q R h => sa G L env σ H _ R ?_⟩
  unfold dTru at h
  cases q1 : m1 env with
  | bad => rw [q1] at h; exact h.elim
  | exc c a e => rw [q1] at h; exact h
  | ok d1 e1 =>
    rw [q1] at h
    intro v H' R' E P Z
    have h : PostT W G O L p1 Wx env σ H Q (match truth d1 with | some b => .ok b e1 | none => .bad) := h
    cases q2 : truth d1 with
    | none => rw [q2] at h; exact h.elim
    | some b =>
      rw [q2] at h
      have t := truth_v (Z.any) q2
      rw [← k] at t
      exact ⟨b, t, h H' R' E P⟩
def dNot (m : M Bool) : M Bool := fun env => (m env).bind fun b e => .ok (!b) e
theorem dt_not {m : M Bool} (h : DT W X Wx O a m p1) : DT W X Wx O (.UnaryOp .Not a pos) (dNot m) p1 := by
  obtain ⟨k, ta, pa, sa⟩ := h
  refine ⟨k, _, pt_not pa, fun G L env σ H Q R h => sa G L env σ H _ R ?_⟩
  unfold dNot at h
  cases q1 : m env with
  | bad => rw [q1] at h; exact h.elim
  | exc c a e => rw [q1] at h; exact h
  | ok d1 e1 =>
    rw [q1] at h
    exact fun H' R' E P => h H' R' E P
def dAnd (m n : M Bool) : M Bool := fun env => (m env).bind fun b e => if b = true then n e else .ok false e
def dOr (m n : M Bool) : M Bool := fun env => (m env).bind fun b e => if b = true then .ok true e else n e
theorem dw_and1 {m : M Bool} (h : DT W X Wx O a m p1) : DW W X Wx O (.BoolOp .And [a] pos) m p1 := by
  obtain ⟨k, ta, pa, sa⟩ := h
  exact ⟨k, _, pw_and1 pa, sa⟩
theorem dw_or1 {m : M Bool} (h : DT W X Wx O a m p1) : DW W X Wx O (.BoolOp .Or [a] pos) m p1 := by
  obtain ⟨k, ta, pa, sa⟩ := h
  exact ⟨k, _, pw_or1 pa, sa⟩
theorem dt_w {m : M Bool} (h : DW W X Wx O a m p1) : DT W X Wx O a m p1 := by
  obtain ⟨k, ta, pa, sa⟩ := h
  exact ⟨k, _, pa.pt, sa⟩
/-- behind a first part that changed little, the rest's word -/
theorem postT_then {G : Gh} {L : Lab} {env e1 : EnvD} {σ : L2.St} {H H1 : Hp} {Q : Bool → Hp → Prop} {r : Out Bool} (E1 : Ev W (Zp p1 L) H H1) (P1 : p1 = true → e1 = env) (h : PostT W G O L (p1 && p2) Wx env σ H Q r) : PostT W G O L p2 Wx e1 σ H1 Q r := by
  cases r with
  | bad => exact h
  | exc c a e => exact h
  | ok b e2 =>
    exact fun H' R' E P => h H' R' ((E1.mono fun a z _ => Zp_mono (fun w => (Bool.and_eq_true_iff.mp w).1) z).trans (E.mono fun a z _ => Zp_mono (fun w => (Bool.and_eq_true_iff.mp w).2) z)) fun w => by
      rw [P (Bool.and_eq_true_iff.mp w).2, P1 (Bool.and_eq_true_iff.mp w).1]
theorem postE_then {G : Gh} {L : Lab} {z : Nat} {env e1 : EnvD} {σ : L2.St} {H H1 : Hp} {Q : VK} {r : Out D} (E1 : Ev W (Zp p1 L) H H1) (P1 : p1 = true → e1 = env) (h : PostE W G O L (p1 && p2) z Wx env σ H Q r) : PostE W G O L p2 z Wx e1 σ H1 Q r := by
  cases r with
  | bad => exact h
  | exc c a e => exact h
  | ok b e2 =>
    exact fun v H' R' E P Z => h v H' R' ((E1.mono fun a z _ => Zp_mono (fun w => (Bool.and_eq_true_iff.mp w).1) z).trans (E.mono fun a z _ => Zp_mono (fun w => (Bool.and_eq_true_iff.mp w).2) z)) (fun w => by
      rw [P (Bool.and_eq_true_iff.mp w).2, P1 (Bool.and_eq_true_iff.mp w).1]) Z
theorem dw_and {m n : M Bool} {rest : List Expr} (ha : DT W X Wx O a m p1) (hb : DW W X Wx O (.BoolOp .And (b :: rest) pos) n p2) : DW W X Wx O (.BoolOp .And (a :: b :: rest) pos) (dAnd m n) (p1 && p2) := by
  obtain ⟨k, ta, pa, sa⟩ := ha
  obtain ⟨_, tb, pb, sb⟩ := hb
  refine ⟨k, _, pw_and pa pb, fun G L env σ H Q R h => sa G L env σ H _ R ?_⟩
  unfold dAnd at h
  cases q1 : m env with
  | bad => rw [q1] at h; exact h.elim
  | exc c a e => rw [q1] at h; exact h
  | ok b1 e1 =>
    rw [q1] at h
    have h : PostT W G O L (p1 && p2) Wx env σ H Q (if b1 = true then n e1 else .ok false e1) := h
    intro H' R' E P
    cases b1 with
    | true =>
      rw [if_pos rfl] at h ⊢
      exact sb G L e1 σ H' Q R' (postT_then E P h)
    | false =>
      rw [if_neg (by decide)] at h ⊢
      exact h H' R' (E.mono fun a z _ => Zp_mono (fun w => (Bool.and_eq_true_iff.mp w).1) z) fun w => P (Bool.and_eq_true_iff.mp w).1
theorem dw_or {m n : M Bool} {rest : List Expr} (ha : DT W X Wx O a m p1) (hb : DW W X Wx O (.BoolOp .Or (b :: rest) pos) n p2) : DW W X Wx O (.BoolOp .Or (a :: b :: rest) pos) (dOr m n) (p1 && p2) := by
  obtain ⟨k, ta, pa, sa⟩ := ha
  obtain ⟨_, tb, pb, sb⟩ := hb
  refine ⟨k, _, pw_or pa pb, fun G L env σ H Q R h => sa G L env σ H _ R ?_⟩
  unfold dOr at h
  cases q1 : m env with
  | bad => rw [q1] at h; exact h.elim
  | exc c a e => rw [q1] at h; exact h
  | ok b1 e1 =>
    rw [q1] at h
    have h : PostT W G O L (p1 && p2) Wx env σ H Q (if b1 = true then .ok true e1 else n e1) := h
    intro H' R' E P
    cases b1 with
    | false =>
      rw [if_neg (by decide)] at h ⊢
      exact sb G L e1 σ H' Q R' (postT_then E P h)
    | true =>
      rw [if_pos rfl] at h ⊢
      exact h H' R' (E.mono fun a z _ => Zp_mono (fun w => (Bool.and_eq_true_iff.mp w).1) z) fun w => P (Bool.and_eq_true_iff.mp w).1
def dIf (t : M Bool) (m n : M D) : M D := fun env => (t env).bind fun b e => if b = true then m e else n e
theorem de_if {t : M Bool} {p0 : Bool} {z p} (hc : DT W X Wx O c t p0) (ha : DE W X Wx O a m1 z p) (hb : DE W X Wx O b m2 z p) : DE W X Wx O (.IfExp c a b pos) (dIf t m1 m2) z (p0 && p) := by
  obtain ⟨k, tc, pc, sc⟩ := hc
  obtain ⟨_, ta, pa, sa⟩ := ha
  obtain ⟨_, tb, pb, sb⟩ := hb
  refine ⟨k, _, pe_ifExp pc pa pb, fun G L env σ H Q R h => sc G L env σ H _ R ?_⟩
  unfold dIf at h
  cases q1 : t env with
  | bad => rw [q1] at h; exact h.elim
  | exc c a e => rw [q1] at h; exact h
  | ok b1 e1 =>
    rw [q1] at h
    have h : PostE W G O L (p0 && p) z Wx env σ H Q (if b1 = true then m1 e1 else m2 e1) := h
    intro H' R' E P
    cases b1 with
    | true =>
      rw [if_pos rfl] at h ⊢
      exact sa G L e1 σ H' Q R' (postE_then E P h)
    | false =>
      rw [if_neg (by decide)] at h ⊢
      exact sb G L e1 σ H' Q R' (postE_then E P h)
/-- not, and, or as values of bools -/
def dBool (t : M Bool) : M D := fun env => (t env).bind fun b e => .ok (.bool b) e
theorem de_notv (ha : DE W X Wx O a m1 z1 p1) : DE W X Wx O (.UnaryOp .Not a pos) (dBool (dNot (dTru m1))) 2 p1 := by
  obtain ⟨k, ta, pa, sa⟩ := ha
  refine ⟨k, _, pe_notT pa, fun G L env σ H Q R h => sa G L env σ H _ R ?_⟩
  unfold dBool dNot dTru at h
  cases q1 : m1 env with
  | bad => rw [q1] at h; exact h.elim
  | exc c a e => rw [q1] at h; exact h
  | ok d1 e1 =>
    rw [q1] at h
    intro v H' R' E P Z
    have h : PostE W G O L p1 2 Wx env σ H Q ((((match truth d1 with | some b => Out.ok b e1 | none => .bad).bind fun b e => .ok (!b) e)).bind fun b e => .ok (.bool b) e) := h
    cases q2 : truth d1 with
    | none => rw [q2] at h; exact h.elim
    | some b =>
      rw [q2] at h
      have t := truth_v (Z.any) q2
      rw [← k] at t
      exact ⟨b, t, h _ H' R' E P (by show Rp W (Zo L) H' (.bool _) _; unfold Rp; rfl)⟩
def dAndV (m n : M D) : M D := fun env => (m env).bind fun d e => match truth d with
  | some true => n e
  | some false => .ok d e
  | none => .bad
def dOrV (m n : M D) : M D := fun env => (m env).bind fun d e => match truth d with
  | some false => n e
  | some true => .ok d e
  | none => .bad
theorem de_one {op : BoolOp} {z p} (h : DE W X Wx O a m1 z p) : DE W X Wx O (.BoolOp op [a] pos) m1 z p := by
  obtain ⟨k, ta, pa, sa⟩ := h
  exact ⟨k, _, pe_one pa, sa⟩
theorem de_andv {rest : List Expr} {z : Nat} (ha : DE W X Wx O a m1 z p1) (hb : DE W X Wx O (.BoolOp .And (b :: rest) pos) m2 z p2) : DE W X Wx O (.BoolOp .And (a :: b :: rest) pos) (dAndV m1 m2) z (p1 && p2) := by
  obtain ⟨k, ta, pa, sa⟩ := ha
  obtain ⟨_, tb, pb, sb⟩ := hb
  refine ⟨k, _, pe_andT pa pb, fun G L env σ H Q R h => sa G L env σ H _ R ?_⟩
  unfold dAndV at h
  cases q1 : m1 env with
  | bad => rw [q1] at h; exact h.elim
  | exc c a e => rw [q1] at h; exact h
  | ok d1 e1 =>
    rw [q1] at h
    intro v H' R' E P Z
    have h : PostE W G O L (p1 && p2) z Wx env σ H Q (match truth d1 with | some true => m2 e1 | some false => .ok d1 e1 | none => .bad) := h
    cases q2 : truth d1 with
    | none => rw [q2] at h; exact h.elim
    | some b =>
      rw [q2] at h
      have t := truth_v (Z.any) q2
      rw [← k] at t
      refine ⟨b, t, ?_⟩
      cases b with
      | true =>
        rw [if_pos rfl]
        exact sb G L e1 σ H' Q R' (postE_then E P h)
      | false =>
        rw [if_neg (by decide)]
        exact h v H' R' (E.mono fun a z _ => Zp_mono (fun w => (Bool.and_eq_true_iff.mp w).1) z) (fun w => P (Bool.and_eq_true_iff.mp w).1) Z
theorem de_orv {rest : List Expr} {z : Nat} (ha : DE W X Wx O a m1 z p1) (hb : DE W X Wx O (.BoolOp .Or (b :: rest) pos) m2 z p2) : DE W X Wx O (.BoolOp .Or (a :: b :: rest) pos) (dOrV m1 m2) z (p1 && p2) := by
  obtain ⟨k, ta, pa, sa⟩ := ha
  obtain ⟨_, tb, pb, sb⟩ := hb
  refine ⟨k, _, pe_orT pa pb, fun G L env σ H Q R h => sa G L env σ H _ R ?_⟩
  unfold dOrV at h
  cases q1 : m1 env with
  | bad => rw [q1] at h; exact h.elim
  | exc c a e => rw [q1] at h; exact h
  | ok d1 e1 =>
    rw [q1] at h
    intro v H' R' E P Z
    have h : PostE W G O L (p1 && p2) z Wx env σ H Q (match truth d1 with | some false => m2 e1 | some true => .ok d1 e1 | none => .bad) := h
    cases q2 : truth d1 with
    | none => rw [q2] at h; exact h.elim
    | some b =>
      rw [q2] at h
      have t := truth_v (Z.any) q2
      rw [← k] at t
      refine ⟨b, t, ?_⟩
      cases b with
      | false =>
        rw [if_neg (by decide)]
        exact sb G L e1 σ H' Q R' (postE_then E P h)
      | true =>
        rw [if_pos rfl]
        exact h v H' R' (E.mono fun a z _ => Zp_mono (fun w => (Bool.and_eq_true_iff.mp w).1) z) (fun w => P (Bool.and_eq_true_iff.mp w).1) Z
end
end DL
/-! DLFn: what a def keeps, where no repr is under way (FnG); from a body; a call; the law's own call. -/
namespace DL
open PySem PySem.Spec PyProof.Rows L2

/-- a def's promise, for calls from where no repr is under way -/
structure FnG (P : Program) (w : World) (K : PySem.W.Frag) (mg : Str → Option Value) (base : Heap) (k : Nat) (f : Addr) (fd : FuncData) (ps : List Str) (sp : Sp) : Prop where
  size : ∀ vs H Q E, sp vs H Q E → vs.length = ps.length
  go : ∀ (A : Around), Room k A → A.guards = some [] → ∀ (outer : List Env) (s : Shared), ∀ H : Hp, Env0 P w K mg base A outer s H → ∀ (args : Args) (us : List Value), BindsTo s fd args (ps.zip us) →
    ∀ (vs : List V), Vals vs us → ∀ (Q : VK) (E : XK), sp vs H Q E → codeAny (model P w) A (.call (.ref f) args) (CR (CX P w) outer P w H s Q E) s
theorem FnG.mono {P : Program} {w : World} {K : PySem.W.Frag} {mg : Str → Option Value} {base : Heap} {j k : Nat} {f : Addr} {fd : FuncData} {ps : List Str} {sp : Sp} (F : FnG P w K mg base j f fd ps sp) (h : j ≤ k) : FnG P w K mg base k f fd ps sp :=
  ⟨F.size, fun A hr => F.go A (hr.mono h)⟩
theorem FnG.imp {P : Program} {w : World} {K : PySem.W.Frag} {mg : Str → Option Value} {base : Heap} {k : Nat} {f : Addr} {fd : FuncData} {ps : List Str} {sp sp' : Sp} (F : FnG P w K mg base k f fd ps sp) (h : ∀ vs H Q E, sp' vs H Q E → sp vs H Q E) : FnG P w K mg base k f fd ps sp' :=
  ⟨fun vs H Q E q => F.size vs H Q E (h _ _ _ _ q), fun A hr hg outer s H e0 args us hb vs hv Q E q => F.go A hr hg outer s H e0 args us hb vs hv Q E (h _ _ _ _ q)⟩
theorem deeper_guards {A : Around} {env : Env} (h : A.guards = some []) : (A.deeper env).guards = some [] := by
  first | exact h | (unfold Around.deeper; exact h) | (show A.guards = some []; exact h) | simpa [Around.deeper] using h

section
variable {P : Program} {w : World} {K : PySem.W.Frag} {mg : Str → Option Value} {base : Heap}
/-- from a body -/
theorem fnG_of {x qual : Str} {params : Arguments} {body : List Stmt} {scope : Scope} {dvs : List V} {kws : List (Str × V)} {f : Addr} {fd : FuncData} {N ps : List Str} {k : Nat} {sp : Sp} (F : FunD K x qual params body scope dvs kws f fd) (S : FnScope N ps scope)
    (size : ∀ vs H Q E, sp vs H Q E → vs.length = ps.length)
    (run : ∀ (cdv : Value) (A : Around), A.guards = some [] → ∀ (outer : List Env) (s : Shared) (H : Hp) (vs : List V) (Q : VK) (E : XK), Room k (A.deeper (envOfC qual scope s.heap.objs.size f cdv)) → sp vs H Q E →
      ∃ t, PSs (cxOf (CX P w) P w K mg base N qual scope f cdv A outer s H E) body t ∧ t { nx := fun _ H' => Q .non H', rt := Q } (start N vs) H) : FnG P w K mg base (k + 1) f fd ps sp := by
  obtain ⟨oc, od, dV, kV, doc, pm, an, cdv, ct, osl, rfl, lk, hcd, _, _⟩ := F.ex
  refine ⟨size, fun A hr hg outer s H e0 args us hb vs rv Q E hsp => ?_⟩
  have inK : K.In s.heap := e0.mod.kin.keeps (fun b o z => (e0.bs b o z).1)
  have noL : s.heap.NoLimit := e0.mod.nolimit.keeps (fun b o z => (e0.bs b o z).1)
  have hk : ∀ y ∈ ps.zip us, scope.names.lookup y.1 = some .local ∨ scope.names.lookup y.1 = some .cell ∧ ((cellsFrom (s.heap.objs.size + 1) scope.names []).lookup y.1).isSome = true := by
    rintro ⟨n, v⟩ hy
    rcases S.par n (List.of_mem_zip hy).1 with q | q
    · exact Or.inl q
    · exact Or.inr ⟨q, PySem.W.cellsFrom_some _ _ _ (Or.inl q)⟩
  refine codeAny_call_function hr.depth (inK _ _ lk) rfl S.co S.gen rfl (PySem.W.codeRec_of inK hcd) (hb _ _ _ _ (wpAny_newFunctionEnv_cells S.kind hk fun env he s1 x => ?_))
  subst he
  refine ⟨noL.keeps x.toInCall.keep, codeAny_func ?_⟩
  obtain ⟨t, ht, hq⟩ := run cdv A hg outer s H vs Q E (hr.deeper _) hsp
  have J := inv_start (CX := CX P w) (E := E) S hr.hd e0 (size _ _ _ _ hsp) rv x
  refine wpAny_mono (ht.run [] s1 (start N vs) H _ J hq) (fun fl s' hs => ?_) (fun _ _ hs => hs)
  cases fl with
  | brk => exact hs.elim fun _ q => q.elim fun _ q => q.2.elim
  | cont => exact hs.elim fun _ q => q.elim fun _ q => q.2.elim
  | next =>
    obtain ⟨σ', H', I', q⟩ := hs
    exact ⟨.non, H', I'.os, I'.bare, I'.base, I'.hok, rfl, q⟩
  | ret u =>
    obtain ⟨v, σ', H', I', rv', q⟩ := hs
    exact ⟨v, H', I'.os, I'.bare, I'.base, I'.hok, rv', q⟩
end

section
variable {X : Cx} {k : Nat} {f : Addr} {fd : FuncData} {ps : List Str} {sp : Sp} {dvs : List V} {ds : List Value} {Wx : WX} {x : Str} {p pos : Pos} {e : Expr} {es : List Expr} {t : TA}
/-- the callee's run, from a body -/
theorem goG {pins : List (Addr × Obj)} {σ : L2.St} {H : Hp} {s : Shared} {Q : VK} {us : List Value} {vs : List V} (F : FnG X.prog X.w X.K X.mg X.base k f fd ps sp) (hr : Room k X.A) (hg : X.A.guards = some []) (hb : Binds X.K fd ps ds) (hd : Vals dvs ds) (tk : Takes X Wx)
    (I : Inv X pins σ H s) (r : Vals vs us) (h : sp (vs ++ dvs) H Q (WE Wx σ)) : wpAny (model X.prog X.w) X.A (call (.ref f) us) (EP X pins σ Q) X.xe s := by
  have r2 := r.append hd
  have hl : (us ++ ds).length = ps.length := r2.length ▸ F.size _ _ _ _ h
  refine wpAny_call (codeAny_mono (F.go X.A hr hg X.stack s H I.env0 ⟨us, []⟩ (us ++ ds) (hb s us I.kIn hl) _ r2 Q _ h) fun r s' hq => ?_)
  cases r with
  | error z => exact passAt tk σ pins H s z s' I hq
  | ok fl =>
    cases fl with
    | ret u => exact I.after hq
    | next => exact hq.elim
    | brk => exact hq.elim
    | cont => exact hq.elim
def tCallG (sp : Sp) (dvs : List V) (Wx : WX) (t : TA) : TE := fun σ H Q => t σ H fun vs H1 => sp (vs ++ dvs) H1 Q (WE Wx σ)
theorem pe_callG (F : FnG X.prog X.w X.K X.mg X.base k f fd ps sp) (hr : Room k X.A) (hg : X.A.guards = some []) (gl : Gl X x) (hm : X.mg x = some (.ref f)) (hk : PySem.W.keepIn X.K (.ref f) = true) (hb : Binds X.K fd ps ds) (hd : Vals dvs ds) (tk : Takes X Wx)
    (ha : PA X (e :: es) t) (hdb : (x == ("__debug__" : Str)) = false := by decide) (he : starEach (e :: es) X.env = (false, eval e X.env) :: starEach es X.env := by rfl) (hpl : (backTo pos (starEach es X.env)).any (·.1) = false := by rfl) :
    PE X (.Call (.Name x p) (e :: es) [] pos) (tCallG sp dvs Wx t) := PE.mk fun pins s σ H Q I h =>
  wpAny_Call_Name_kw (ld_glob I gl hm (PySem.W.callWith_K (h₀ := X.base) I.ok.mod.kin hk (thn (ha.run pos pins s σ H _ I h) fun us s1 q => by
    obtain ⟨vs, H1, I1, r, q⟩ := q
    exact ⟨I1.kIn, goG F hr hg hb hd tk I1 r q⟩) he hpl) hdb)
end

/-! ### the law's own call -/
theorem lawG {P : Program} {w : World} {K : PySem.W.Frag} {mg mb : Str → Option Value} {k : Nat} {fa a : Addr} {fd : FuncData} {x : Str} {sp : Sp} {s : Shared} {vs : List Value} {ns : List Int}
    (KX : K.In s.heap) (g : s.heap.Ns mainGlobals mg) (b : s.heap.Ns builtinsNs mb) (bb : ∀ x : Str, x ≠ "__name__" → mb x = bootBuiltins x) (nl : s.heap.NoLimit) (hg : s.gens = #[])
    (ha : s.heap.get? a = some { cls := .type "list", data := .seq vs.toArray }) (hi : IntsAre vs ns) (hl : ns.length ≤ sizeLine) (hr : Room k callerA)
    (F : ∀ base : Heap, K.In base → base.Ns mainGlobals mg → FnG P w K mg base k fa fd [x] sp) (hb : ∀ (s : Shared) (u : Value), BindsTo s fd ⟨[u], []⟩ [(x, u)])
    (hsp : ∀ H : Hp, Only H → RoL K H a (ns.map V.int) → sp [.ref a] H (fun v _ => v = .bl true) fun _ _ _ => False) :
    codeAny (model P w) callerA (.call (.ref fa) ⟨[.ref a], []⟩) (fun r s' => r = .ok (.ret (.bool true)) ∧ OldK s.heap s'.heap ∧ s'.os = s.os ∧ AllBare s'.gens) s := by
  have hv := vals_ints hi
  -- an abstract heap that tracks at most the script
  have main : ∀ H : Hp, Only H → RoL K H a (ns.map V.int) → HOk P w H s.heap → (∀ c, H c ≠ none → c = a) → (H a ≠ none → K.lookup a = none) →
      codeAny (model P w) callerA (.call (.ref fa) ⟨[.ref a], []⟩) (fun r s' => r = .ok (.ret (.bool true)) ∧ OldK s.heap s'.heap ∧ s'.os = s.os ∧ AllBare s'.gens) s := by
    intro H hO hS ok only noK
    have seq : ∀ {c : Addr} {u : HO}, H c = some u → s.heap.get? c = some { cls := .type "list", data := .seq vs.toArray } := fun {c u} q => by
      rw [only c (by rw [q]; exact fun z => nomatch z)]
      exact ha
    have hid : ∀ {c : Addr} {o : Obj} {es : Array DictEntry} {ep : Nat}, s.heap.get? c = some o → o.data = .dict es ep → (hidT s.heap H).get? c = some o := fun {c o es ep} q d => by
      cases r : H c with
      | none => exact hidT_get q r
      | some u =>
        have z := seq r
        rw [q] at z
        rw [Option.some.inj z] at d
        exact nomatch d
    have ns' : ∀ {c : Addr} {m : Str → Option Value}, s.heap.Ns c m → (hidT s.heap H).Ns c m := by
      rintro c m ⟨o, es, ep, q, d, r⟩
      exact ⟨o, es, ep, hid q d, d, r⟩
    have KB : K.In (hidT s.heap H) := fun c o q => by
      cases r : H c with
      | none => exact hidT_get (KX c o q) r
      | some u =>
        have z := only c (by rw [r]; exact fun z => nomatch z)
        rw [z] at q r
        rw [noK (by rw [r]; exact fun z => nomatch z)] at q
        exact nomatch q
    obtain ⟨mc, l1, l2⟩ := nl
    have M0 : Mod K mg (hidT s.heap H) := { kin := KB, glob := ns' g, blt := ⟨mb, ns' b, bb⟩, nolimit := ⟨mc, ns' l1, l2⟩ }
    have e0 : Env0 P w K mg (hidT s.heap H) callerA [] s H := { frames := rfl, mod := M0, bs := fun c o q => of_hidT q, bsz := Nat.le_of_eq (hidT_size _ _), funs := trivial, frf := fun c z => (List.not_mem_nil z).elim, hok := ok, bare := .of_eq hg }
    refine codeAny_mono ((F _ KB (ns' g)).go callerA hr rfl [] s H e0 ⟨[.ref a], []⟩ [.ref a] (hb s (.ref a)) [.ref a] (.cons rfl .nil) _ _ (hsp H hO hS)) fun r s' z => ?_
    match r, z with
    | .error e, z =>
      obtain ⟨_, _, _, _, _, _, _, _, _, _, _, _, z⟩ := z
      exact z.elim
    | .ok .next, z => exact z.elim
    | .ok .brk, z => exact z.elim
    | .ok .cont, z => exact z.elim
    | .ok (.ret u), z =>
      obtain ⟨v, H', os, bare, un, ok', rv, q⟩ := z
      subst q
      have rv : u = Value.bool true := rv
      subst rv
      refine ⟨rfl, OldK.of_keep fun c o e => ?_, os, bare⟩
      cases q : H c with
      | none => exact un.keep c o e q (by intro z; cases z) (by simp)
      | some u =>
        rcases hO c with z | ⟨ob, xs, z⟩
        · rw [q] at z; cases z
        · obtain ⟨f1, _⟩ := ok c _ z
          obtain ⟨f2, _⟩ := ok' c _ (un.frzs c ob _ z)
          rw [e] at f1
          rw [Option.some.inj f1]
          exact f2
  cases hk : K.lookup a with
  | some o =>
    have q := KX a o hk
    rw [ha] at q
    rw [← Option.some.inj q] at hk
    refine main (fun _ => none) (fun _ => Or.inl rfl) (Or.inr ⟨_, vs.toArray, _, hk, rfl, rfl, rfl, ?_, by simpa using hv⟩) (fun c u z => nomatch z) (fun c z => (z rfl).elim) (fun z => (z rfl).elim)
    rw [List.size_toArray, hi.length]
    exact hl
  | none =>
    refine main (fun c => if c = a then some (.frz { cls := .type "list", data := .seq vs.toArray } (.lst (ns.map V.int))) else none) (fun c => ?_) (Or.inl ⟨_, if_pos rfl⟩) (fun c u z => ?_) (fun c z => ?_) (fun _ => hk)
    · by_cases q : c = a
      · exact Or.inr ⟨_, _, if_pos q⟩
      · exact Or.inl (if_neg q)
    · by_cases q : c = a
      · subst q
        have z : (if c = c then some (HO.frz { cls := .type "list", data := .seq vs.toArray } (.lst (ns.map V.int))) else none) = some u := z
        rw [if_pos rfl] at z
        rw [← Option.some.inj z]
        refine ⟨ha, ?_, vs, 0, hv, ha⟩
        rw [List.length_map]
        exact hl
      · have z : (if c = a then some (HO.frz { cls := .type "list", data := .seq vs.toArray } (.lst (ns.map V.int))) else none) = some u := z
        rw [if_neg q] at z
        exact nomatch z
    · by_cases q : c = a
      · exact q
      · exact (z (if_neg q)).elim
theorem walkG {l : PySem.W.OpenLaw} {n k : Nat} {q : Program} {loose : List Str} {XP : (Str → Option Value) → Heap → Prop} {YP : World → Heap → Prop} {d : DefRec} {x : Str}
    (hn : l.most = some n) (hn2 : n ≤ sizeLine) (hdf : d.params.defaults = []) (hr : Room k callerA)
    (F : ∀ (w : World) (mg : Str → Option Value) (fa : Addr) (h : Heap), YP w h → h.Ns mainGlobals mg → mg d.name = some (.ref fa) →
      ∃ (K : PySem.W.Frag) (fd : FuncData) (sp : Sp), K.In h ∧ (∀ (s : Shared) (u : Value), BindsTo s fd ⟨[u], []⟩ [(x, u)]) ∧
        (∀ (H : Hp) (a : Addr) (ns : List Int), ns.length ≤ n → Only H → RoL K H a (ns.map V.int) → sp [.ref a] H (fun v _ => v = .bl true) fun _ _ _ => False) ∧
        ∀ base : Heap, K.In base → base.Ns mainGlobals mg → FnG l.prog w K mg base k fa fd [x] sp) :
    PySem.W.WalkO q loose XP YP l.row.toRowW d [] (fun f vs => PySem.call f vs) :=
  Att.attach_call hn hdf fun w s₀ s₁ mg mb fa o pm cd doc a vs ns G Y ho hd hcd hmg hobj hints hlen hg => by
    obtain ⟨K, fd, sp, KX, hb, hsp, hF⟩ := F w mg fa _ Y G.T.g hmg
    exact lawG KX G.T.g G.T.b G.T.builtins G.T.nolimit hg hobj hints (Nat.le_trans hlen hn2) hr hF hb fun H hO hS => hsp H a ns hlen hO hS
end DL
/-! DLStmt: statements over data; a def from its body. -/
namespace DL
open PySem PySem.Spec PyProof.Rows L2

inductive OutS where
  | nx (e : EnvD) | rt (d : D) (e : EnvD) | bk (e : EnvD) | ct (e : EnvD) | exc (c : Str) (a : Option D) (e : EnvD) | bad
abbrev MS := EnvD → OutS
def OutS.seq : OutS → MS → OutS
  | .nx e, f => f e
  | x, _ => x

/-- from (L, H) on to (L', H') -/
structure Fw (W : Wd) (L : Lab) (H : Hp) (L' : Lab) (H' : Hp) : Prop where
  ev : Ev W (Zo L) H H'
  lab : ∀ a, L' a ≠ none → L a ≠ none ∨ H a = none
theorem Fw.refl {W : Wd} {L : Lab} {H : Hp} : Fw W L H L H := ⟨Ev.refl, fun _ h => .inl h⟩
theorem Fw.of {W : Wd} {L : Lab} {H H' : Hp} {p : Bool} (e : Ev W (Zp p L) H H') : Fw W L H L H' := ⟨e.mono fun _ z _ => z.sub, fun _ h => .inl h⟩
theorem Fw.trans {W : Wd} {L L1 L2 : Lab} {H H1 H2 : Hp} (a : Fw W L H L1 H1) (b : Fw W L1 H1 L2 H2) : Fw W L H L2 H2 := by
  refine ⟨⟨fun c xs h z => b.ev.lst c xs (a.ev.lst c xs h z) fun q => ?_, fun c xs h => b.ev.tup c xs (a.ev.tup c xs h), fun c o u h => b.ev.frz c o u (a.ev.frz c o u h), fun c xs h z => b.ev.dk c xs (a.ev.dk c xs h z) fun q => ?_,
    fun c xs h z => b.ev.dt c xs (a.ev.dt c xs h z) fun q => ?_, fun c k ds h => b.ev.obj c k ds (a.ev.obj c k ds h), fun c h => a.ev.dom c (b.ev.dom c h)⟩, fun c h => ?_⟩
  · rcases a.lab c q with q | q
    · exact z q
    · rw [h] at q; cases q
  · rcases a.lab c q with q | q
    · exact z q
    · rw [h] at q; cases q
  · rcases a.lab c q with q | q
    · exact z q
    · rw [h] at q; cases q
  · rcases b.lab c h with q | q
    · exact a.lab c q
    · exact .inr (a.ev.dom c q)
theorem Fw.thin {W : Wd} {L : Lab} {H : Hp} {O O' : List Nat} : Fw W L H (thinL O O' L) H := ⟨Ev.refl, fun _ h => .inl (thinL_sub h)⟩
theorem Rp.fw {W : Wd} {L L' : Lab} {H H' : Hp} (f : Fw W L H L' H') {d : D} {v : V} (h : Rp W (Zo L) H d v) : Rp W (Zo L') H' d v := by
  have h1 : Rp W (fun a => Zo L a ∨ Zo L' a) H d v := Rp.shun (fun a z n => by
    rcases z with z | z
    · exact z
    · exact (f.lab a z).resolve_right n) d v h
  have h2 := Rp.ev (f.ev.mono fun a z _ => (Or.inl z : Zo L a ∨ Zo L' a)) d v h1
  exact Rp.shun (fun a z _ => .inr z) d v h2
theorem RpL.fw {W : Wd} {L L' : Lab} {H H' : Hp} (f : Fw W L H L' H') {ds : List D} {vs : List V} (h : RpL W (Zo L) H ds vs) : RpL W (Zo L') H' ds vs :=
  RpL.of h.length fun i d v h1 h2 => by
    obtain ⟨v', e1, e2⟩ := h.getD h1
    rw [h2] at e1
    rw [Option.some.inj e1]
    exact Rp.fw f e2

/-- what a def's exits want: which slots own ahead of a break, of a return, of an exception; how much of what is returned is new -/
structure Fc where
  ob : List Nat
  ort : List Nat
  ox : List Nat
  fr : Nat

def PostS (W : Wd) (G : Gh) (F : Fc) (Wx : WX) (O' : List Nat) (L : Lab) (H : Hp) (Dn : Ends) : OutS → Prop
  | .nx e => ∀ σ' H' L', Rel W G O' L' e σ' H' → Fw W L H L' H' → Dn.nx σ' H'
  | .rt d e => ∀ v σ' H' L', Rel W G F.ort L' e σ' H' → Ow W L' H' F.fr [tmp] d v → Dn.rt v H'
  | .bk e => ∀ σ' H' L', Rel W G F.ob L' e σ' H' → Fw W L H L' H' → Dn.bk σ' H'
  | .ct e => ∀ σ' H' L', Rel W G F.ob L' e σ' H' → Fw W L H L' H' → Dn.ct σ' H'
  | .exc c a e => ∀ cv dd σ' H' L', Rel W G F.ox L' e σ' H' → ExR W L' c a cv dd H' → Wx cv dd σ' H'
  | .bad => False
def SndS (W : Wd) (F : Fc) (Wx : WX) (O O' : List Nat) (t : TS) (m : MS) : Prop := ∀ (G : Gh) (L : Lab) (env : EnvD) (σ : L2.St) (H : Hp) (Dn : Ends), (G.n ≠ 0 → F.ort.getD 0 0 = G.n ∧ F.ox.getD 0 0 = G.n ∧ F.ob.getD 0 0 = G.n) → Rel W G O L env σ H → PostS W G F Wx O' L H Dn (m env) → t Dn σ H
structure DS (W : Wd) (X : Cx) (Wx : WX) (F : Fc) (O : List Nat) (st : Stmt) (m : MS) (O' : List Nat) : Prop where
  k : X.K = W.K
  run : ∃ t, PS X st t ∧ SndS W F Wx O O' t m
structure DSs (W : Wd) (X : Cx) (Wx : WX) (F : Fc) (O : List Nat) (st : List Stmt) (m : MS) (O' : List Nat) : Prop where
  k : X.K = W.K
  run : ∃ t, PSs X st t ∧ SndS W F Wx O O' t m

section
variable {W : Wd} {X : Cx} {Wx : WX} {F : Fc} {O O1 O' : List Nat} {st : Stmt} {rest : List Stmt} {m n : MS} {G : Gh} {L L1 : Lab} {H H1 : Hp} {Dn : Ends}
theorem PostS.fw {r : OutS} (f : Fw W L H L1 H1) (h : PostS W G F Wx O' L H Dn r) : PostS W G F Wx O' L1 H1 Dn r := by
  cases r with
  | nx e => exact fun σ' H' L' R q => h σ' H' L' R (f.trans q)
  | rt d e => exact h
  | bk e => exact fun σ' H' L' R q => h σ' H' L' R (f.trans q)
  | ct e => exact fun σ' H' L' R q => h σ' H' L' R (f.trans q)
  | exc c a e => exact h
  | bad => exact h
def dSkip : MS := fun env => .nx env
def dSeq (m n : MS) : MS := fun env => (m env).seq n
theorem dss_nil (k : X.K = W.K := by rfl) : DSs W X Wx F O [] dSkip O := ⟨k, _, pss_nil, fun G L env σ H Dn g R h => h σ H L R Fw.refl⟩
theorem dss_one (h : DS W X Wx F O st m O') : DSs W X Wx F O [st] m O' := by
  obtain ⟨k, t, p, s⟩ := h
  exact ⟨k, t, pss_one p, s⟩
theorem snd_seq {t u : TS} (s1 : SndS W F Wx O O1 t m) (s2 : SndS W F Wx O1 O' u n) : SndS W F Wx O O' (tSeq t u) (dSeq m n) := by
  intro G L env σ H Dn g R h
  refine s1 G L env σ H _ g R ?_
  have h : PostS W G F Wx O' L H Dn ((m env).seq n) := h
  cases q : m env with
  | nx e =>
    rw [q] at h
    exact fun σ' H' L' R' f => s2 G L' e σ' H' Dn g R' (h.fw f)
  | rt d e => rw [q] at h; exact h
  | bk e => rw [q] at h; exact h
  | ct e => rw [q] at h; exact h
  | exc c a e => rw [q] at h; exact h
  | bad => rw [q] at h; exact h
theorem dss_cons (h1 : DS W X Wx F O st m O1) (h2 : DSs W X Wx F O1 rest n O') : DSs W X Wx F O (st :: rest) (dSeq m n) O' := by
  obtain ⟨k, t, p1, s1⟩ := h1
  obtain ⟨_, u, p2, s2⟩ := h2
  exact ⟨k, _, pss_cons p1 p2, snd_seq s1 s2⟩
/-- some lists are given free ahead -/
theorem DSs.thin (h : DSs W X Wx F O1 rest m O') (c : thinB O O1 = true := by decide) (c0 : O1.getD 0 0 = O.getD 0 0 := by decide) : DSs W X Wx F O rest m O' := by
  obtain ⟨k, t, p, s⟩ := h
  exact ⟨k, t, p, fun G L env σ H Dn g R h => s G _ env σ H Dn g (R.thin c fun _ => c0) (h.fw Fw.thin)⟩
theorem DS.thin (h : DS W X Wx F O1 st m O') (c : thinB O O1 = true := by decide) (c0 : O1.getD 0 0 = O.getD 0 0 := by decide) : DS W X Wx F O st m O' := by
  obtain ⟨k, t, p, s⟩ := h
  exact ⟨k, t, p, fun G L env σ H Dn g R h => s G _ env σ H Dn g (R.thin c fun _ => c0) (h.fw Fw.thin)⟩
/-- .. behind -/
theorem snd_behind {t : TS} (s : SndS W F Wx O O1 t m) (c : thinB O1 O' = true) (c0 : O'.getD 0 0 = O1.getD 0 0) : SndS W F Wx O O' t m := fun G L env σ H Dn g R h => s G L env σ H Dn g R (by
  cases q : m env with
  | nx e => rw [q] at h; exact fun σ' H' L' R' f => h σ' H' _ (R'.thin c fun _ => c0) (f.trans Fw.thin)
  | rt d e => rw [q] at h; exact h
  | bk e => rw [q] at h; exact h
  | ct e => rw [q] at h; exact h
  | exc c a e => rw [q] at h; exact h
  | bad => rw [q] at h; exact h)
theorem DSs.behind (h : DSs W X Wx F O rest m O1) (c : thinB O1 O' = true := by decide) (c0 : O'.getD 0 0 = O1.getD 0 0 := by decide) : DSs W X Wx F O rest m O' := by
  obtain ⟨k, t, p, s⟩ := h
  exact ⟨k, t, p, snd_behind s c c0⟩
theorem DS.behind (h : DS W X Wx F O st m O1) (c : thinB O1 O' = true := by decide) (c0 : O'.getD 0 0 = O1.getD 0 0 := by decide) : DS W X Wx F O st m O' := by
  obtain ⟨k, t, p, s⟩ := h
  exact ⟨k, t, p, snd_behind s c c0⟩
/-- what goes out of an expression by an exception goes out of its statement -/
theorem exc_out {z : Nat} {p : Bool} {env e : EnvD} {σ : L2.St} {c : Str} {a : Option D} (g : G.n ≠ 0 → F.ox.getD 0 0 = G.n) (cx : thinB O F.ox = true) (h : ∀ cv dd σ' H' L', Rel W G F.ox L' e σ' H' → ExR W L' c a cv dd H' → Wx cv dd σ' H') :
    ∀ cv dd H', Rel W G O L e σ H' → ExR W L c a cv dd H' → Wx cv dd σ H' := fun cv dd H' R x => by
  refine h cv dd σ H' _ (R.thin cx fun hn => (g hn).trans (R.first hn).2.symm) ⟨x.1, fun d q => ?_⟩
  obtain ⟨y, v, q1, q2, q3⟩ := x.2 d q
  exact ⟨y, v, q1, q2, Rp.shun (fun a z _ => thinL_sub z) d v q3⟩

/-! ### assignment of what is frozen -/
def dSet (i : Nat) (m : M D) : MS := fun env => match m env with
  | .ok d e => .nx (e.set i (some d))
  | .exc c a e => .exc c a e
  | .bad => .bad
variable {e : Expr} {me : M D} {p : Bool} {i : Nat} {x : Str} {pos pos' : Pos}
theorem ds_set (he : DE W X Wx O e me 2 p) (ps : ∀ te, PE X e te → PS X (.Assign [.Name x pos'] e pos) (tAsg te (gName i))) (hi : i ≠ 0 ∨ O.getD 0 0 = 0 := by decide) (cx : thinB O F.ox = true := by decide) :
    DS W X Wx F O (.Assign [.Name x pos'] e pos) (dSet i me) (O.set i 0) := by
  obtain ⟨k, te, pe, se⟩ := he
  refine ⟨k, _, ps te pe, fun G L env σ H Dn g R h => se G L env σ H _ R ?_⟩
  unfold dSet at h
  cases q : me env with
  | bad => rw [q] at h; exact h.elim
  | exc c a e =>
    rw [q] at h
    exact exc_out (z := 0) (p := true) (env := env) (fun hn => (g hn).2.1) cx h
  | ok d e1 =>
    rw [q] at h
    exact fun v H' R' E P Z => h _ H' L (R'.set (Rp_of2 Z) (hi.imp id fun z => Decidable.by_contra fun hn => hn ((R.first hn).2.symm.trans z))) (Fw.of E)
/-- an expression alone -/
def dExpr (m : M D) : MS := fun env => match m env with
  | .ok _ e => .nx e
  | .exc c a e => .exc c a e
  | .bad => .bad
theorem ds_expr {z : Nat} (he : DE W X Wx O e me z p) (hs : swapsWith e none pos.line X.env = pure false := by rfl) (cx : thinB O F.ox = true := by decide) : DS W X Wx F O (.Expr e pos) (dExpr me) O := by
  obtain ⟨k, te, pe, se⟩ := he
  refine ⟨k, _, ps_expr pe hs, fun G L env σ H Dn g R h => se G L env σ H _ R ?_⟩
  unfold dExpr at h
  cases q : me env with
  | bad => rw [q] at h; exact h.elim
  | exc c a e =>
    rw [q] at h
    exact exc_out (z := 0) (p := true) (env := env) (fun hn => (g hn).2.1) cx h
  | ok d e1 =>
    rw [q] at h
    exact fun v H' R' E P Z => h σ H' L R' (Fw.of E)
/-! ### return -/
def dRet (m : M D) : MS := fun env => match m env with
  | .ok d e => .rt d e
  | .exc c a e => .exc c a e
  | .bad => .bad
theorem ds_ret (he : DE W X Wx O e me 2 p) (f0 : F.fr = 0 := by rfl) (cx : thinB O F.ox = true := by decide) (cr : thinB O F.ort = true := by decide) : DS W X Wx F O (.Return (some e) pos) (dRet me) O' := by
  obtain ⟨k, te, pe, se⟩ := he
  refine ⟨k, _, ps_ret pe, fun G L env σ H Dn g R h => se G L env σ H _ R ?_⟩
  unfold dRet at h
  cases q : me env with
  | bad => rw [q] at h; exact h.elim
  | exc c a e =>
    rw [q] at h
    exact exc_out (z := 0) (p := true) (env := env) (fun hn => (g hn).2.1) cx h
  | ok d e1 =>
    rw [q] at h
    intro v H' R' E P Z
    refine h v σ H' _ (R'.thin cr fun hn => ((g hn).1).trans (R.first hn).2.symm) ?_
    rw [f0]
    exact Rp.shun (fun a z _ => thinL_sub z) d v (Rp_of2 Z)
def dRetN : MS := fun env => .rt .non env
theorem ds_retN (f0 : F.fr = 0 := by rfl) (cr : thinB O F.ort = true := by decide) (k : X.K = W.K := by rfl) : DS W X Wx F O (.Return none pos) dRetN O' := by
  refine ⟨k, _, ps_retN, fun G L env σ H Dn g R h => ?_⟩
  refine h .non σ H _ (R.thin cr fun hn => ((g hn).1).trans (R.first hn).2.symm) ?_
  rw [f0]
  show Rp W _ H .non .non
  unfold Rp
  rfl
/-! ### if -/
def dIte (t : M Bool) (m n : MS) : MS := fun env => match t env with
  | .ok b e => if b = true then m e else n e
  | .exc c a e => .exc c a e
  | .bad => .bad
theorem ds_if {c : Expr} {a b : List Stmt} {t : M Bool} {p0 : Bool} (hc : DT W X Wx O c t p0) (ha : DSs W X Wx F O a m O') (hb : DSs W X Wx F O b n O') (cx : thinB O F.ox = true := by decide) : DS W X Wx F O (.If c a b pos) (dIte t m n) O' := by
  obtain ⟨k, tc, pc, sc⟩ := hc
  obtain ⟨_, ta, pa, sa⟩ := ha
  obtain ⟨_, tb, pb, sb⟩ := hb
  refine ⟨k, _, ps_if pc pa pb, fun G L env σ H Dn g R h => sc G L env σ H _ R ?_⟩
  unfold dIte at h
  cases q : t env with
  | bad => rw [q] at h; exact h.elim
  | exc c a e =>
    rw [q] at h
    exact exc_out (z := 0) (p := true) (env := env) (fun hn => (g hn).2.1) cx h
  | ok b1 e1 =>
    rw [q] at h
    have h : PostS W G F Wx O' L H Dn (if b1 = true then m e1 else n e1) := h
    intro H' R' E P
    cases b1 with
    | true =>
      rw [if_pos rfl] at h ⊢
      exact sa G L e1 σ H' Dn g R' (h.fw (Fw.of E))
    | false =>
      rw [if_neg (by decide)] at h ⊢
      exact sb G L e1 σ H' Dn g R' (h.fw (Fw.of E))
theorem ds_pass (k : X.K = W.K := by rfl) : DS W X Wx F O (.Pass pos) dSkip O := ⟨k, _, ps_pass, fun G L env σ H Dn g R h => h σ H L R Fw.refl⟩
def dBrk : MS := fun env => .bk env
def dCnt : MS := fun env => .ct env
theorem ds_brk (k : X.K = W.K := by rfl) (cb : thinB O F.ob = true := by decide) : DS W X Wx F O (.Break pos) dBrk O' := ⟨k, _, ps_break, fun G L env σ H Dn g R h => h σ H _ (R.thin cb fun hn => ((g hn).2.2).trans (R.first hn).2.symm) Fw.thin⟩
theorem ds_cnt (k : X.K = W.K := by rfl) (cb : thinB O F.ob = true := by decide) : DS W X Wx F O (.Continue pos) dCnt O' := ⟨k, _, ps_continue, fun G L env σ H Dn g R h => h σ H _ (R.thin cb fun hn => ((g hn).2.2).trans (R.first hn).2.symm) Fw.thin⟩
end

/-! ### defs -/
inductive FOut where
  | ok (d : D) (io : D) | exc (c : Str) (a : Option D) (io : D) | bad
abbrev FM := List D → FOut
def ioOf (n0 : Nat) (e : EnvD) : Option D := match n0, e with
  | 0, _ => some .non
  | _ + 1, some d :: _ => some d
  | _ + 1, _ => none
/-- a def of n slots, whose first argument changes (n0 > 0) or not, by its body -/
def runF (n n0 : Nat) (m : MS) : FM := fun ds => match m (ds.map some ++ List.replicate (n - ds.length) none) with
  | .nx e => (match ioOf n0 e with | some d => .ok .non d | none => .bad)
  | .rt d e => (match ioOf n0 e with | some d' => .ok d d' | none => .bad)
  | .exc c a e => (match ioOf n0 e with | some d' => .exc c a d' | none => .bad)
  | _ => .bad
def PostF (W : Wd) (G : Gh) (fr : Nat) (Q : VK) (E : XK) : FOut → Prop
  | .ok d io => ∀ v H' L', (∀ a l, G.L a = some l → L' a = some l) → (∀ a l, L' a = some l → G.L a = none → G.H a = none) → (G.n ≠ 0 → ∀ a q, L' a = some (0 :: q) → G.L a = some (0 :: q)) → (∀ a, L' a ≠ none → H' a ≠ none) → Ev W G.io G.H H' → (G.n ≠ 0 → Ow W L' H' G.n [0] io G.v) → Ow W L' H' fr [tmp] d v → Q v H'
  | .exc c a io => ∀ cv dd H' L', (∀ a l, G.L a = some l → L' a = some l) → (∀ a l, L' a = some l → G.L a = none → G.H a = none) → (G.n ≠ 0 → ∀ a q, L' a = some (0 :: q) → G.L a = some (0 :: q)) → (∀ a, L' a ≠ none → H' a ≠ none) → Ev W G.io G.H H' → (G.n ≠ 0 → Ow W L' H' G.n [0] io G.v) → ExR W L' c a cv dd H' → E cv dd H'
  | .bad => False
/-- the arguments lie as they should -/
structure ArgsOk (W : Wd) (G : Gh) (ds : List D) (vs : List V) : Prop where
  len : ds.length = vs.length
  at_ : ∀ (i : Nat) (d : D) (v : V), ds[i]? = some d → vs[i]? = some v → Ow W G.L G.H (if i = 0 then G.n else 0) [i] d v
  dom : ∀ a, G.L a ≠ none → G.H a ≠ none
  first : G.n ≠ 0 → vs[0]? = some G.v
def spD (W : Wd) (n0 fr ar : Nat) (M : FM) : Sp := fun vs H Q E => vs.length = ar ∧ ∃ (G : Gh) (ds : List D), G.H = H ∧ G.n = n0 ∧ ArgsOk W G ds vs ∧ PostF W G fr Q E (M ds)
def startO (n n0 : Nat) : List Nat := match n with
  | 0 => []
  | n + 1 => n0 :: List.replicate n 0
theorem startO_get {n n0 : Nat} (i : Nat) : (startO n n0).getD i 0 = if i = 0 ∧ n ≠ 0 then n0 else 0 := by
  cases n with
  | zero => simp [startO]
  | succ n =>
    cases i with
    | zero => simp [startO]
    | succ i =>
      simp only [startO, List.getD_cons_succ]
      rw [List.getD_eq_getElem?_getD, List.getElem?_replicate]
      split <;> simp
/-- a def keeps what its body does -/
theorem fn_body {W : Wd} {P : Program} {w : World} {mg : Str → Option Value} {base : Heap} {x qual : Str} {params : Arguments} {body : List Stmt} {scope : Scope} {dvs : List V} {kws : List (Str × V)} {f : Addr} {fd : FuncData} {N ps : List Str} {k n0 fr : Nat} {m : MS} {O' : List Nat}
    (F : FunD W.K x qual params body scope dvs kws f fd) (S : FnScope N ps scope) (hf0 : fr = 0 ∨ fr ≠ 0)
    (hb : ∀ (cdv : Value) (A : Around), A.guards = some [] → ∀ (outer : List Env) (s : Shared) (H : Hp) (E : XK), Room k (A.deeper (envOfC qual scope s.heap.objs.size f cdv)) →
      DSs W (cxOf (CX P w) P w W.K mg base N qual scope f cdv A outer s H E) (fun cls d _ H => E cls d H) ⟨startO 1 n0, startO 1 n0, startO 1 n0, fr⟩ (startO N.length n0) body m O')
    (hN : N.length ≠ 0) (hO : O'.getD 0 0 = n0) (hend : fr = 0 ∨ ∀ env e, m env ≠ .nx e) : FnG P w W.K mg base (k + 1) f fd ps (spD W n0 fr ps.length (runF N.length n0 m)) := by
  refine fnG_of F S (fun vs H Q E h => h.1) (fun cdv A hg outer s H vs Q E hr h => ?_)
  obtain ⟨hl, G, ds, rfl, rfl, ha, hq⟩ := h
  obtain ⟨hk, t, pt, st⟩ := hb cdv A hg outer s G.H E hr
  refine ⟨t, pt, st G G.L (ds.map some ++ List.replicate (N.length - ds.length) none) (start N vs) G.H _ (fun hn => ⟨?_, ?_, ?_⟩) ?_ ?_⟩
  · simp [startO]
  · simp [startO]
  · simp [startO]
  · refine ⟨?_, fun i d h => ?_, ha.dom, Ev.refl, fun _ _ h => h, fun a l h q => ?_, fun hn => ?_, fun _ _ _ h => h⟩
    · unfold L2.start
      simp [ha.len]
    · have hi : i < ds.length := by
        by_cases hi : i < ds.length
        · exact hi
        · rw [List.getElem?_append_right (by simpa using hi), List.getElem?_replicate] at h
          split at h <;> cases h
      rw [List.getElem?_append_left (by simpa using hi), List.getElem?_map] at h
      have hd : ds[i]? = some d := by
        cases q : ds[i]? with
        | none => rw [q] at h; cases h
        | some d' =>
          rw [q] at h
          exact congrArg some (Option.some.inj (Option.some.inj h))
      have hv : i < vs.length := by rw [← ha.len]; exact hi
      refine ⟨vs[i], ?_, ?_⟩
      · unfold L2.start
        rw [List.getElem?_append_left (by simpa using hv), List.getElem?_map, List.getElem?_eq_getElem hv]
        rfl
      · have q := ha.at_ i d _ hd (List.getElem?_eq_getElem hv)
        rw [startO_get]
        simpa [hN] using q
    · rw [h] at q; cases q
    · refine ⟨?_, ?_⟩
      · have q := ha.first hn
        unfold L2.start
        have hv : 0 < vs.length := (List.getElem?_eq_some_iff.mp q).1
        rw [List.getElem?_append_left (by simpa using hv), List.getElem?_map, q]
        rfl
      · rw [startO_get]
        simp [hN]
  · have fin : ∀ {O2 : List Nat} {L' : Lab} {e : EnvD} {σ' : L2.St} {H' : Hp} {io : D}, Rel W G O2 L' e σ' H' → ioOf G.n e = some io → O2.getD 0 0 = G.n → (G.n ≠ 0 → Ow W L' H' G.n [0] io G.v) := by
      intro O2 L' e σ' H' io R q qo hn
      have e0 : e[0]? = some (some io) := by
        obtain ⟨n', hG⟩ : ∃ n', G.n = n' + 1 := ⟨G.n - 1, by omega⟩
        rw [hG] at q
        match e, q with
        | some d :: e', q =>
          have q' : some d = some io := q
          rw [List.getElem?_cons_zero, q']
        | none :: e', q => cases q
        | [], q => cases q
      obtain ⟨v, h1, h2⟩ := R.slot 0 io e0
      rw [(R.first hn).1] at h1
      have : G.v = v := Option.some.inj (Option.some.inj h1)
      rw [this]
      rw [qo] at h2
      exact h2
    unfold runF at hq
    cases qm : m (ds.map some ++ List.replicate (N.length - ds.length) none) with
    | bk e => rw [qm] at hq; exact hq.elim
    | ct e => rw [qm] at hq; exact hq.elim
    | bad => rw [qm] at hq; exact hq.elim
    | nx e =>
      rw [qm] at hq
      have hq : PostF W G fr Q E (match ioOf G.n e with | some d => .ok .non d | none => .bad) := hq
      cases qi : ioOf G.n e with
      | none => rw [qi] at hq; exact hq.elim
      | some io =>
        rw [qi] at hq
        intro σ' H' L' R f
        refine hq .non H' L' R.ext (fun a l h q => (R.loc a l h q).1) R.zero R.dom R.ent (fin R qi hO) ?_
        rcases hend with hend | hend
        · rw [hend]
          show Rp W _ H' .non .non
          unfold Rp
          rfl
        · exact (hend _ _ qm).elim
    | rt d e =>
      rw [qm] at hq
      have hq : PostF W G fr Q E (match ioOf G.n e with | some d' => .ok d d' | none => .bad) := hq
      cases qi : ioOf G.n e with
      | none => rw [qi] at hq; exact hq.elim
      | some io =>
        rw [qi] at hq
        intro v σ' H' L' R o
        exact hq v H' L' R.ext (fun a l h q => (R.loc a l h q).1) R.zero R.dom R.ent (fin R qi (by simp [startO])) o
    | exc c a e =>
      rw [qm] at hq
      have hq : PostF W G fr Q E (match ioOf G.n e with | some d' => .exc c a d' | none => .bad) := hq
      cases qi : ioOf G.n e with
      | none => rw [qi] at hq; exact hq.elim
      | some io =>
        rw [qi] at hq
        intro cv dd σ' H' L' R x
        exact hq cv dd H' L' R.ext (fun a l h q => (R.loc a l h q).1) R.zero R.dom R.ent (fin R qi (by simp [startO])) x
end DL
/-! DLCall: arguments, what is newly made (DO), displays, calls of built-ins and of defs. -/
namespace DL
open PySem PySem.Spec PyProof.Rows L2

/-! ### labels laid and taken away -/
def lay (L : Lab) (p : Addr) (l : List Nat) : Lab := fun a => if a = p then some l else L a
theorem lay_same {L : Lab} {p : Addr} {l : List Nat} : lay L p l p = some l := if_pos rfl
theorem lay_ne {L : Lab} {p a : Addr} {l : List Nat} (h : a ≠ p) : lay L p l a = L a := if_neg h
section
variable {W : Wd} {G : Gh} {O : List Nat} {L L' : Lab} {env : EnvD} {σ : L2.St} {H H' : Hp}
theorem Rel.lay (R : Rel W G O L env σ H) {p : Addr} {o : HO} (n : H p = none) {i : Nat} {q : List Nat} (hi : i ≠ 0 := by decide) : Rel W G O (lay L p (i :: q)) env σ (upd H p o) := by
  have np : L p = none := R.free n
  have sh : ∀ a, Zo (DL.lay L p (i :: q)) a → H a ≠ none → Zo L a := fun a z hn => by
    by_cases e : a = p
    · rw [e] at hn
      exact (hn n).elim
    · unfold Zo at z
      rw [lay_ne e] at z
      exact z
  have ev : Ev W No H (upd H p o) := Ev.new n
  refine ⟨R.len, fun j d h => ?_, fun a z => ?_, R.ent.trans (ev.mono fun _ z _ => z.elim), fun a l h => ?_, fun a l h g => ?_, R.first, fun hn a r h => ?_⟩
  · obtain ⟨v, h1, h2⟩ := R.slot j d h
    refine ⟨v, h1, Ow.map (fun d v h => Rp.ev (ev.mono fun _ z _ => z.elim) d v (Rp.shun sh d v h)) _ _ _ d v (fun a r vs e1 e2 => ?_) h2⟩
    have ne : a ≠ p := fun e => by rw [e, np] at e1; cases e1
    exact ⟨by rw [lay_ne ne]; exact e1, by rw [upd_ne ne]; exact e2⟩
  · by_cases e : a = p
    · rw [e, upd_same]; exact fun w => nomatch w
    · rw [upd_ne e]
      rw [lay_ne e] at z
      exact R.dom a z
  · have ne : a ≠ p := fun e => by
      have := R.ext a l h
      rw [e, np] at this
      cases this
    rw [lay_ne ne]
    exact R.ext a l h
  · by_cases e : a = p
    · rw [e, lay_same] at h
      rw [e]
      exact ⟨R.ent.dom p n, i, q, (Option.some.inj h).symm⟩
    · rw [lay_ne e] at h
      exact R.loc a l h g
  · by_cases e : a = p
    · rw [e, lay_same] at h
      injection h with h
      injection h with h _
      exact (hi h).elim
    · rw [lay_ne e] at h
      exact R.zero hn a r h
/-- the unlabelled: what is tmp's goes -/
def untmp (L : Lab) (L' : Lab) : Prop := (∀ a l, L a = some l → L' a = some l) ∧ ∀ a l, L' a = some l → L a = none → ∃ q, l = tmp :: q
theorem Rel.untmp (R : Rel W G O L' env σ H) (u : untmp L L') (h : O.length ≤ tmp) (x : ∀ a l, G.L a = some l → L a = some l) : Rel W G O L env σ H := by
  refine R.unlabel u.1 (fun a i q hi e => ?_) x
  cases r : L a with
  | some l => rw [u.1 a l r] at e; exact e
  | none =>
    obtain ⟨q', w⟩ := u.2 a _ e r
    injection w with w1 _
    rw [w1] at hi
    exact absurd hi (by omega)
end

/-- what is labelled newly was not there -/
def Nw (L L' : Lab) (H : Hp) : Prop := ∀ a, L' a ≠ none → L a ≠ none ∨ H a = none
theorem Nw.back {W : Wd} {Z : Addr → Prop} {L L' : Lab} {H H' : Hp} (h : Nw L L' H') (e : Ev W Z H H') : Nw L L' H := fun a z => (h a z).imp id fun w => e.dom a w
/-- what is owned newly, without what had labels before -/
def nl (L L' : Lab) : Lab := fun a => match L a with
  | some _ => some []
  | none => L' a
theorem nl_new {L L' : Lab} {a : Addr} (h : L a = none) : nl L L' a = L' a := by
  unfold nl
  rw [h]
theorem nl_cons {L L' : Lab} {a : Addr} {i : Nat} {q : List Nat} (h : nl L L' a = some (i :: q)) : L a = none ∧ L' a = some (i :: q) := by
  unfold nl at h
  cases r : L a with
  | none => rw [r] at h; exact ⟨rfl, h⟩
  | some l => rw [r] at h; cases h
theorem nl_zo {L L' : Lab} (u : ∀ a l, L a = some l → L' a = some l) {a : Addr} : Zo (nl L L') a ↔ Zo L' a := by
  cases r : L a with
  | none =>
    have e : nl L L' a = L' a := nl_new r
    unfold Zo
    rw [e]
  | some l =>
    have e : nl L L' a = some [] := by
      unfold nl
      rw [r]
    unfold Zo
    rw [e, u a l r]
    constructor
    · intro _ w; cases w
    · intro _ w; cases w
def OwN (W : Wd) (L L' : Lab) (H : Hp) (n : Nat) (d : D) (v : V) : Prop := Ow W (nl L L') H n [tmp] d v
theorem OwN.ow {W : Wd} {L L' : Lab} {H : Hp} {n : Nat} {d : D} {v : V} (h : OwN W L L' H n d v) (u : ∀ a l, L a = some l → L' a = some l) : Ow W L' H n [tmp] d v :=
  Ow.map (fun d v => Rp.shun (fun a z _ => (nl_zo u).mpr z) d v) n [tmp] [tmp] d v (fun a r vs e1 e2 => ⟨(nl_cons e1).2, e2⟩) h
theorem OwN.of {W : Wd} {L L' : Lab} {H : Hp} {n : Nat} {d : D} {v : V} (h : Ow W L' H n [tmp] d v) (u : ∀ a l, L a = some l → L' a = some l) (nn : ∀ a q, L' a = some (tmp :: q) → L a = none) : OwN W L L' H n d v :=
  Ow.map (fun d v => Rp.shun (fun a z _ => (nl_zo u).mp z) d v) n [tmp] [tmp] d v (fun a r vs e1 e2 => ⟨by rw [nl_new (nn a _ e1)]; exact e1, e2⟩) h
theorem OwN.zero {W : Wd} {L L' : Lab} {H : Hp} {d : D} {v : V} (h : Rp W (Zo L') H d v) (u : ∀ a l, L a = some l → L' a = some l) : OwN W L L' H 0 d v := Rp.shun (fun a z _ => (nl_zo u).mp z) d v h
/-- e gives what m says, newly made: down to the depth n its lists are nobody else's -/
def PostO (W : Wd) (G : Gh) (O : List Nat) (L : Lab) (p : Bool) (n : Nat) (Wx : WX) (env : EnvD) (σ : L2.St) (H : Hp) (Q : VK) : Out D → Prop
  | .ok d env' => ∀ v H' L', untmp L L' → Nw L L' H → Rel W G O L' env' σ H' → Rel W G O L env' σ H' → Ev W (Zp p L) H H' → (p = true → env' = env) → OwN W L L' H' n d v → Rp W (Zo L) H' d v → Q v H'
  | .exc c a env' => ∀ cv dd H', Rel W G O L env' σ H' → ExR W L c a cv dd H' → Wx cv dd σ H'
  | .bad => False
structure DO (W : Wd) (X : Cx) (Wx : WX) (O : List Nat) (e : Expr) (m : M D) (n : Nat) (p : Bool) : Prop where
  k : X.K = W.K
  run : ∃ t, PE X e t ∧ ∀ (G : Gh) (L : Lab) (env : EnvD) (σ : L2.St) (H : Hp) (Q : VK), Rel W G O L env σ H → PostO W G O L p n Wx env σ H Q (m env) → t σ H Q

section
variable {W : Wd} {X : Cx} {Wx : WX} {O : List Nat} {e : Expr} {es : List Expr} {m : M D} {n : Nat} {p p1 p2 : Bool} {z z1 z2 : Nat} {G : Gh} {L : Lab} {env : EnvD} {σ : L2.St} {H : Hp}
/-- what is new is free -/
theorem DO.de (h : DO W X Wx O e m n p) : DE W X Wx O e m 2 p := by
  obtain ⟨k, t, pe, s⟩ := h
  refine ⟨k, t, pe, fun G L env σ H Q R hq => s G L env σ H Q R ?_⟩
  cases q : m env with
  | ok d env' =>
    rw [q] at hq
    exact fun v H' L' u w R' R2 E P o r => hq v H' R2 E P r
  | exc c a env' => rw [q] at hq; exact hq
  | bad => rw [q] at hq; exact hq.elim
/-- a value with nothing owned is as good as new, at the depth 0 -/
theorem DE.do0 (h : DE W X Wx O e m 2 p) : DO W X Wx O e m 0 p := by
  obtain ⟨k, t, pe, s⟩ := h
  refine ⟨k, t, pe, fun G L env σ H Q R hq => s G L env σ H Q R ?_⟩
  cases q : m env with
  | ok d env' =>
    rw [q] at hq
    exact fun v H' R' E P r => hq v H' L ⟨fun _ _ h => h, fun a l h w => by rw [h] at w; cases w⟩ (fun _ h => .inl h) R' R' E P (OwN.zero r fun _ _ z => z) r
  | exc c a env' => rw [q] at hq; exact hq
  | bad => rw [q] at hq; exact hq.elim
/-- a new list of frozen things, at p -/
theorem new_list (R : Rel W G O L env σ H) {pa : Addr} (np : H pa = none) {ds : List D} {vs : List V} (r : RpL W (Zo L) H ds vs) (sz : vs.length ≤ sizeLine) :
    untmp L (lay L pa [tmp]) ∧ Nw L (lay L pa [tmp]) H ∧ Rel W G O (lay L pa [tmp]) env σ (upd H pa (.lst vs)) ∧ Rel W G O L env σ (upd H pa (.lst vs)) ∧ OwN W L (lay L pa [tmp]) (upd H pa (.lst vs)) 1 (.lst ds) (.ref pa) ∧ Rp W (Zo L) (upd H pa (.lst vs)) (.lst ds) (.ref pa) := by
  have nL := R.free np
  have R1 : Rel W G O (lay L pa [tmp]) env σ (upd H pa (.lst vs)) := R.lay (o := .lst vs) np (i := tmp) (q := [])
  have R2 : Rel W G O L env σ (upd H pa (.lst vs)) := R.new np
  have f : Fw W L H (lay L pa [tmp]) (upd H pa (.lst vs)) := ⟨Ev.new np, fun a h => by
    by_cases e : a = pa
    · rw [e]; exact .inr np
    · rw [lay_ne e] at h; exact .inl h⟩
  have r1 := RpL.fw f r
  refine ⟨⟨fun a l h => ?_, fun a l h g => ?_⟩, f.lab, R1, R2, ?_, ?_⟩
  · rw [lay_ne (fun e => by rw [e, nL] at h; cases h)]; exact h
  · by_cases e : a = pa
    · rw [e, lay_same] at h
      exact ⟨[], (Option.some.inj h).symm⟩
    · rw [lay_ne e, g] at h
      cases h
  · have u : ∀ a l, L a = some l → lay L pa [tmp] a = some l := fun a l h => by
      rw [lay_ne (fun e => by rw [e, nL] at h; cases h)]; exact h
    refine ⟨pa, vs, rfl, by rw [nl_new nL]; exact lay_same, upd_same, ⟨r.length, sz⟩, fun j d v h1 h2 => ?_⟩
    obtain ⟨v', e1, e2⟩ := r1.getD h1
    rw [h2] at e1
    rw [Option.some.inj e1]
    exact Rp.shun (fun a z _ => (nl_zo u).mp z) d v' e2
  · unfold Rp
    exact ⟨pa, vs, rfl, fun z => z nL, ⟨upd_same, sz⟩, RpL.ev (Ev.new np) ds vs r⟩

/-! ### arguments -/
def AllZ (W : Wd) (L : Lab) (H : Hp) (z : Nat) (ds : List D) (vs : List V) : Prop := ds.length = vs.length ∧ ∀ (i : Nat) (d : D) (v : V), ds[i]? = some d → vs[i]? = some v → RpZ W L H z d v
theorem AllZ.two {ds : List D} {vs : List V} (h : AllZ W L H 2 ds vs) : RpL W (Zo L) H ds vs := RpL.of h.1 fun i d v h1 h2 => h.2 i d v h1 h2
theorem AllZ.any {ds : List D} {vs : List V} (h : AllZ W L H z ds vs) : RpL W No H ds vs := RpL.of h.1 fun i d v h1 h2 => (h.2 i d v h1 h2).any
def PostAr (W : Wd) (G : Gh) (O : List Nat) (L : Lab) (p : Bool) (z : Nat) (Wx : WX) (env : EnvD) (σ : L2.St) (H : Hp) (Q : List V → Hp → Prop) : Out (List D) → Prop
  | .ok ds env' => ∀ vs H', Rel W G O L env' σ H' → Ev W (Zp p L) H H' → (p = true → env' = env) → AllZ W L H' z ds vs → Q vs H'
  | .exc c a env' => ∀ cv dd H', Rel W G O L env' σ H' → ExR W L c a cv dd H' → Wx cv dd σ H'
  | .bad => False
structure DAr (W : Wd) (X : Cx) (Wx : WX) (O : List Nat) (es : List Expr) (m : M (List D)) (z : Nat) (p : Bool) : Prop where
  k : X.K = W.K
  len : ∀ env ds e, m env = .ok ds e → ds.length = es.length
  run : ∃ t, PA X es t ∧ ∀ (G : Gh) (L : Lab) (env : EnvD) (σ : L2.St) (H : Hp) (Q : List V → Hp → Prop), Rel W G O L env σ H → PostAr W G O L p z Wx env σ H Q (m env) → t σ H Q
def dNil : M (List D) := fun env => .ok [] env
def dCons (m : M D) (ms : M (List D)) : M (List D) := fun env => (m env).bind fun d e => (ms e).bind fun ds e2 => .ok (d :: ds) e2
theorem da_nil (k : X.K = W.K := by rfl) : DAr W X Wx O [] dNil z true := ⟨k, fun env ds e h => by cases h; rfl, _, pa_nil, fun G L env σ H Q R h => h [] H R Ev.refl (fun _ => rfl) ⟨rfl, fun i d v h1 _ => by simp at h1⟩⟩
theorem da_cons {ms : M (List D)} (ha : DE W X Wx O e m z1 p1) (hr : DAr W X Wx O es ms z p2) (l : z ≤ z1 := by decide) (k1 : z1 ≤ 2 := by decide) (cc : p2 = true ∨ z1 = 2 := by first | exact .inl rfl | exact .inr rfl)
    (hs : starEach (e :: es) X.env = (false, eval e X.env) :: starEach es X.env := by rfl) : DAr W X Wx O (e :: es) (dCons m ms) z (p1 && p2) := by
  obtain ⟨k, t, pe, s⟩ := ha
  obtain ⟨_, ln, u, pr, sr⟩ := hr
  refine ⟨k, fun env ds e h => ?_, _, pa_cons pe pr hs, fun G L env σ H Q R h => s G L env σ H _ R ?_⟩
  · unfold dCons at h
    cases q1 : m env with
    | bad => rw [q1] at h; cases h
    | exc c a e => rw [q1] at h; cases h
    | ok d1 e1 =>
      rw [q1] at h
      have h : ((ms e1).bind fun ds e2 => Out.ok (d1 :: ds) e2) = .ok ds e := h
      cases q2 : ms e1 with
      | bad => rw [q2] at h; cases h
      | exc c a e => rw [q2] at h; cases h
      | ok ds' e2 =>
        rw [q2] at h
        cases h
        rw [List.length_cons, List.length_cons, ln _ _ _ q2]
  unfold dCons at h
  cases q1 : m env with
  | bad => rw [q1] at h; exact h.elim
  | exc c a e => rw [q1] at h; exact h
  | ok d1 e1 =>
    rw [q1] at h
    intro x H1 R1 E1 P1 Z1
    refine sr G L e1 σ H1 _ R1 ?_
    have h : PostAr W G O L (p1 && p2) z Wx env σ H Q ((ms e1).bind fun ds e2 => .ok (d1 :: ds) e2) := h
    cases q2 : ms e1 with
    | bad => rw [q2] at h; exact h.elim
    | exc c a e => rw [q2] at h; exact h
    | ok ds e2 =>
      rw [q2] at h
      intro vs H2 R2 E2 P2 A
      have Z := (Z1.ev E2 cc).le (.inl l) k1
      refine h (x :: vs) H2 R2 ((E1.mono fun a z _ => Zp_mono (fun w => (Bool.and_eq_true_iff.mp w).1) z).trans (E2.mono fun a z _ => Zp_mono (fun w => (Bool.and_eq_true_iff.mp w).2) z)) (fun w => ?_) ⟨?_, fun i d v h1 h2 => ?_⟩
      · rw [P2 (Bool.and_eq_true_iff.mp w).2, P1 (Bool.and_eq_true_iff.mp w).1]
      · rw [List.length_cons, List.length_cons, A.1]
      · cases i with
        | zero =>
          rw [List.getElem?_cons_zero] at h1 h2
          rw [← Option.some.inj h1, ← Option.some.inj h2]
          exact Z
        | succ i => exact A.2 i d v (by simpa using h1) (by simpa using h2)
/-- f of the arguments, by values -/
def CF (W : Wd) (z zo : Nat) (r : List V → Hp → VK → Prop) (F : List D → Option D) : Prop := ∀ (L : Lab) (H : Hp) (ds : List D) (vs : List V) (d : D) (Q : VK), AllZ W L H z ds vs → F ds = some d → (∀ a, L a ≠ none → H a ≠ none) →
  (∀ v H', Ev W No H H' → RpZ W L H' zo d v → Q v H') → r vs H Q
def dCB (F : List D → Option D) (ms : M (List D)) : M D := fun env => (ms env).bind fun ds e => lift (F ds) e
theorem snd_cb {r : List V → Hp → VK → Prop} {F : List D → Option D} {zo : Nat} {ms : M (List D)} {t : TA} {Q : VK} (f : CF W z zo r F)
    (s : ∀ (G : Gh) (L : Lab) (env : EnvD) (σ : L2.St) (H : Hp) (Q : List V → Hp → Prop), Rel W G O L env σ H → PostAr W G O L p z Wx env σ H Q (ms env) → t σ H Q)
    (R : Rel W G O L env σ H) (h : PostE W G O L p zo Wx env σ H Q (dCB F ms env)) : tCB r t σ H Q := by
  refine s G L env σ H _ R ?_
  unfold dCB at h
  cases q1 : ms env with
  | bad => rw [q1] at h; exact h.elim
  | exc c a e => rw [q1] at h; exact h
  | ok ds e1 =>
    rw [q1] at h
    intro vs H1 R1 E1 P1 A
    have h : PostE W G O L p zo Wx env σ H Q (lift (F ds) e1) := h
    cases q2 : F ds with
    | none => rw [q2] at h; exact h.elim
    | some d =>
      rw [q2] at h
      exact f L H1 ds vs d Q A q2 R1.dom fun v H' E Z => h v H' (R1.pure E) (E1.trans (E.mono fun _ z _ => z.elim)) P1 Z
theorem de_callB {id : String} {x : Str} {r : List V → Hp → VK → Prop} {F : List D → Option D} {zo : Nat} {ms : M (List D)} {p0 pos : Pos} (hc : CallR X (.builtin id) r) (f : CF W z zo r F) (hg : Gl X x) (hm : X.mg x = none) (hv : bootBuiltins x = some (.builtin id))
    (ha : DAr W X Wx O (e :: es) ms z p) (hn : x ≠ "__name__" := by decide) (hdb : (x == ("__debug__" : Str)) = false := by decide)
    (he : starEach (e :: es) X.env = (false, eval e X.env) :: starEach es X.env := by rfl) (hpl : (backTo pos (starEach es X.env)).any (·.1) = false := by rfl) :
    DE W X Wx O (.Call (.Name x p0) (e :: es) [] pos) (dCB F ms) zo p := by
  obtain ⟨k, _, t, pa, s⟩ := ha
  exact ⟨k, _, L2.pe_callB hc hg hm hv pa hn hdb he hpl, fun G L env σ H Q R h => snd_cb f s R h⟩
theorem de_callTy {T : String} {x : Str} {r : List V → Hp → VK → Prop} {F : List D → Option D} {zo : Nat} {ms : M (List D)} {p0 pos : Pos} (hc : CallR X (.type T) r) (f : CF W z zo r F) (hg : Gl X x) (hm : X.mg x = none) (hv : bootBuiltins x = some (.type T))
    (ha : DAr W X Wx O (e :: es) ms z p) (hn : x ≠ "__name__" := by decide) (hdb : (x == ("__debug__" : Str)) = false := by decide)
    (he : starEach (e :: es) X.env = (false, eval e X.env) :: starEach es X.env := by rfl) (hpl : (backTo pos (starEach es X.env)).any (·.1) = false := by rfl) :
    DE W X Wx O (.Call (.Name x p0) (e :: es) [] pos) (dCB F ms) zo p := by
  obtain ⟨k, _, t, pa, s⟩ := ha
  exact ⟨k, _, L2.pe_callTy hc hg hm hv pa hn hdb he hpl, fun G L env σ H Q R h => snd_cb f s R h⟩

/-! ### displays -/
def dTup (ms : M (List D)) : M D := fun env => (ms env).bind fun ds e => .ok (.tup ds) e
def dLst (ms : M (List D)) : M D := fun env => (ms env).bind fun ds e => .ok (.lst ds) e
theorem de_tup {ms : M (List D)} {x1 : Nat} {pos : Pos} (h : DAr W X Wx O es ms 2 p) (hl : es.length ≤ 1000 := by decide) : DE W X Wx O (.Tuple es x1 pos) (dTup ms) 2 p := by
  obtain ⟨k, ln, t, pa, s⟩ := h
  refine ⟨k, _, pe_tup pa, fun G L env σ H Q R h => s G L env σ H _ R ?_⟩
  unfold dTup at h
  cases q1 : ms env with
  | bad => rw [q1] at h; exact h.elim
  | exc c a e => rw [q1] at h; exact h
  | ok ds e1 =>
    rw [q1] at h
    intro vs H1 R1 E1 P1 A
    have sz : vs.length ≤ sizeLine := Nat.le_of_lt (small1000 (by rw [← A.1, ln _ _ _ q1]; exact hl))
    refine ⟨sz, fun pa np => ?_⟩
    refine h _ _ (R1.new np) (E1.trans (Ev.new np)) P1 ?_
    show Rp W (Zo L) _ (.tup ds) _
    unfold Rp
    exact ⟨pa, vs, rfl, ⟨SqT.of upd_same, sz⟩, RpL.ev (Ev.new np) ds vs A.two⟩
theorem do_lst {ms : M (List D)} {pos : Pos} (h : DAr W X Wx O es ms 2 p) (hl : es.length ≤ 1000 := by decide) : DO W X Wx O (.List es pos) (dLst ms) 1 p := by
  obtain ⟨k, ln, t, pa, s⟩ := h
  refine ⟨k, _, pe_lst pa, fun G L env σ H Q R h => s G L env σ H _ R ?_⟩
  unfold dLst at h
  cases q1 : ms env with
  | bad => rw [q1] at h; exact h.elim
  | exc c a e => rw [q1] at h; exact h
  | ok ds e1 =>
    rw [q1] at h
    intro vs H1 R1 E1 P1 A
    have sz : vs.length ≤ sizeLine := Nat.le_of_lt (small1000 (by rw [← A.1, ln _ _ _ q1]; exact hl))
    refine ⟨sz, fun pa np => ?_⟩
    obtain ⟨u, w, r1, r2, o, r⟩ := new_list R1 np A.two sz
    exact h _ _ _ u (w.back E1) r1 r2 (E1.trans (Ev.new np)) P1 o r
/-- a display that is only looked at -/
theorem de_lst0 {ms : M (List D)} {pos : Pos} (h : DAr W X Wx O es ms 0 p) (hl : es.length ≤ 1000 := by decide) : DE W X Wx O (.List es pos) (dLst ms) 0 p := by
  obtain ⟨k, ln, t, pa, s⟩ := h
  refine ⟨k, _, pe_lst pa, fun G L env σ H Q R h => s G L env σ H _ R ?_⟩
  unfold dLst at h
  cases q1 : ms env with
  | bad => rw [q1] at h; exact h.elim
  | exc c a e => rw [q1] at h; exact h
  | ok ds e1 =>
    rw [q1] at h
    intro vs H1 R1 E1 P1 A
    have sz : vs.length ≤ sizeLine := Nat.le_of_lt (small1000 (by rw [← A.1, ln _ _ _ q1]; exact hl))
    refine ⟨sz, fun pa np => ?_⟩
    refine h _ _ (R1.new np) (E1.trans (Ev.new np)) P1 ?_
    show Rp W No _ (.lst ds) _
    unfold Rp
    exact ⟨pa, vs, rfl, fun z => z, ⟨upd_same, sz⟩, RpL.ev (Ev.new np) ds vs A.any⟩

/-! ### a slot takes what is new -/
def relab (L : Lab) (i : Nat) : Lab := fun a => match L a with
  | some (j :: q) => if j = tmp then some (i :: q) else some (j :: q)
  | x => x
theorem relab_zo {L : Lab} {i : Nat} {a : Addr} : relab L i a ≠ none ↔ L a ≠ none := by
  unfold relab
  split
  · rename_i j q e
    rw [e]
    constructor
    · intro _ w; cases w
    · intro _ w; split at w <;> cases w
  · exact Iff.rfl
theorem relab_tmp {L : Lab} {i : Nat} {a : Addr} {q : List Nat} (h : L a = some (tmp :: q)) : relab L i a = some (i :: q) := by
  unfold relab
  rw [h]
  simp
theorem relab_ne {L : Lab} {i : Nat} {a : Addr} {l : List Nat} (h : L a = some l) (ne : ∀ q, l ≠ tmp :: q) : relab L i a = some l := by
  unfold relab
  split
  · rename_i j q e
    rw [h] at e
    cases e
    rw [if_neg]
    intro w
    exact ne q (by rw [w])
  · exact h
theorem relab_cases {L : Lab} {i : Nat} {a : Addr} {l : List Nat} (h : relab L i a = some l) : L a = some l ∨ ∃ q, L a = some (tmp :: q) ∧ l = i :: q := by
  unfold relab at h
  split at h
  · rename_i j q e
    split at h
    · rename_i c
      right
      exact ⟨q, by rw [e, c], (Option.some.inj h).symm⟩
    · left
      rw [e]; exact h
  · exact .inl h
theorem Rel.own (R : Rel W G O L env σ H) {i : Nat} {d : D} {v : V} (h : Ow W L H n [tmp] d v) (hi : i ≠ 0 ∨ G.n = 0) (hl : O.length ≤ tmp) (il : i < O.length) : Rel W G (O.set i n) (relab L i) (env.set i (some d)) (σ.set i (some v)) H := by
  have sh : ∀ d v, Rp W (Zo L) H d v → Rp W (Zo (relab L i)) H d v := fun d v => Rp.shun (fun a z _ => relab_zo.mp z) d v
  refine ⟨by rw [List.length_set, List.length_set, R.len], fun j d' e => ?_, fun a z => R.dom a (relab_zo.mp z), R.ent, fun a l e => relab_ne (R.ext a l e) fun q w => ?_, fun a l e g => ?_, fun hn => ?_, fun hn a q e => ?_⟩
  · by_cases q : i = j
    · subst q
      have hlt : i < env.length := by
        have := (List.getElem?_eq_some_iff.mp e).1
        simpa using this
      rw [List.getElem?_set_self hlt] at e
      have e' : d = d' := Option.some.inj (Option.some.inj e)
      subst e'
      refine ⟨v, List.getElem?_set_self (by rw [← R.len]; exact hlt), ?_⟩
      rw [getD_set, if_pos ⟨rfl, il⟩]
      refine Ow.map sh n [tmp] [i] d v (fun a r vs e1 e2 => ⟨relab_tmp e1, e2⟩) h
    · rw [List.getElem?_set_ne q] at e
      obtain ⟨v', h1, h2⟩ := R.slot j d' e
      refine ⟨v', by rw [List.getElem?_set_ne q]; exact h1, ?_⟩
      rw [getD_set, if_neg (fun z => q z.1)]
      by_cases hj : j < O.length
      · refine Ow.map sh _ [j] [j] d' v' (fun a r vs e1 e2 => ⟨relab_ne e1 fun q' w => ?_, e2⟩) h2
        have w' : j :: r = tmp :: q' := w
        injection w' with w1 _
        omega
      · have o : O.getD j 0 = 0 := by
          rw [List.getD_eq_getElem?_getD, List.getElem?_eq_none_iff.mpr (by omega)]
          rfl
        rw [o] at h2 ⊢
        exact sh d' v' h2
  · rw [w] at e
    rcases G.hd a _ e with r | ⟨r, r2⟩
    · cases r
    · injection r2 with r3 _
      exact absurd r3 (by decide)
  · rcases relab_cases e with e | ⟨q, e, w⟩
    · exact R.loc a l e g
    · exact ⟨(R.loc a _ e g).1, i, q, w⟩
  · have h0 : i ≠ 0 := hi.resolve_right hn
    obtain ⟨a, b⟩ := R.first hn
    refine ⟨by rw [List.getElem?_set_ne h0]; exact a, ?_⟩
    rw [getD_set, if_neg (fun z => h0 z.1)]
    exact b
  · rcases relab_cases e with e | ⟨q', e, w⟩
    · exact R.zero hn a q e
    · injection w with w _
      exact (hi.resolve_right hn w.symm).elim
theorem ds_own {F : Fc} {i : Nat} {x : Str} {pos pos' : Pos} (he : DO W X Wx O e m n p) (ps : ∀ te, PE X e te → PS X (.Assign [.Name x pos'] e pos) (tAsg te (gName i))) (hi : i ≠ 0 ∨ O.getD 0 0 = 0 := by decide) (hl : O.length ≤ tmp := by decide) (il : i < O.length := by decide) (cx : thinB O F.ox = true := by decide) :
    DS W X Wx F O (.Assign [.Name x pos'] e pos) (dSet i m) (O.set i n) := by
  obtain ⟨k, te, pe, se⟩ := he
  refine ⟨k, _, ps te pe, fun G L env σ H Dn g R h => se G L env σ H _ R ?_⟩
  unfold dSet at h
  cases q : m env with
  | bad => rw [q] at h; exact h.elim
  | exc c a e =>
    rw [q] at h
    exact exc_out (z := 0) (p := true) (env := env) (fun hn => (g hn).2.1) cx h
  | ok d e1 =>
    rw [q] at h
    intro v H' L' u w R1 R2 E P o r
    exact h _ H' _ (R1.own (o.ow u.1) (hi.imp id fun z => Decidable.by_contra fun hn => hn ((R.first hn).2.symm.trans z)) hl il) ⟨E.mono fun _ z _ => z.sub, fun a z => w a (relab_zo.mp z)⟩
theorem ds_retO {F : Fc} {pos : Pos} {O' : List Nat} (he : DO W X Wx O e m n p) (f0 : F.fr = n := by rfl) (hl : O.length ≤ tmp := by decide) (cx : thinB O F.ox = true := by decide) (cr : thinB O F.ort = true := by decide) : DS W X Wx F O (.Return (some e) pos) (dRet m) O' := by
  obtain ⟨k, te, pe, se⟩ := he
  refine ⟨k, _, ps_ret pe, fun G L env σ H Dn g R h => se G L env σ H _ R ?_⟩
  unfold dRet at h
  cases q : m env with
  | bad => rw [q] at h; exact h.elim
  | exc c a e =>
    rw [q] at h
    exact exc_out (z := 0) (p := true) (env := env) (fun hn => (g hn).2.1) cx h
  | ok d e1 =>
    rw [q] at h
    intro v H' L' u w R1 R2 E P o r
    refine h v σ H' _ (R1.thin cr fun hn => ((g hn).1).trans (R.first hn).2.symm) ?_
    rw [f0]
    refine Ow.map (fun d v => Rp.shun (fun a z _ => thinL_sub z) d v) _ [tmp] [tmp] d v (fun a r vs e1 e2 => ⟨thinL_keep e1 fun j q w => ?_, e2⟩) (o.ow u.1)
    have w' : tmp :: r = j :: q := w
    injection w' with w1 _
    have gd : ∀ (l : List Nat), l.length ≤ tmp → l.getD j 0 = 0 := fun l hl => by
      rw [List.getD_eq_getElem?_getD, List.getElem?_eq_none_iff.mpr (by omega)]
      rfl
    rcases thinB_ok cr j with c | c
    · exact c
    · rw [c, gd O hl]
end
end DL
/-! DLDef: calls of defs: with frozen arguments; with arguments that are only looked at, a flat answer; with a first argument that changes. -/
namespace DL
open PySem PySem.Spec PyProof.Rows L2

/-- the callee's labels: the slot i's list becomes 0's, all other labels the caller's own -/
def subL (L : Lab) (i : Nat) : Lab := fun a => match L a with
  | some (j :: q) => if j = i then some (0 :: q) else some []
  | some [] => some []
  | none => none
theorem subL_none {L : Lab} {i : Nat} {a : Addr} : subL L i a = none ↔ L a = none := by
  unfold subL
  cases L a with
  | none => simp
  | some l =>
    cases l with
    | nil => simp
    | cons j q => by_cases c : j = i <;> simp [c]
theorem subL_hd {L : Lab} {i : Nat} {a : Addr} {l : List Nat} (h : subL L i a = some l) : l = [] ∨ ∃ q, l = 0 :: q := by
  unfold subL at h
  split at h
  · split at h
    · exact .inr ⟨_, (Option.some.inj h).symm⟩
    · exact .inl (Option.some.inj h).symm
  · exact .inl (Option.some.inj h).symm
  · cases h
theorem subL_io {L : Lab} {i : Nat} {a : Addr} {q : List Nat} : subL L i a = some (0 :: q) ↔ L a = some (i :: q) := by
  unfold subL
  cases L a with
  | none => simp
  | some l =>
    cases l with
    | nil => simp
    | cons j r => by_cases c : j = i <;> simp [c]
/-- all labels the caller's own -/
def own0 (L : Lab) : Lab := fun a => (L a).map fun _ => []
theorem own0_none {L : Lab} {a : Addr} : own0 L a = none ↔ L a = none := by
  unfold own0
  cases L a <;> simp
theorem own0_hd {L : Lab} {a : Addr} {l : List Nat} (h : own0 L a = some l) : l = [] := by
  unfold own0 at h
  cases w : L a with
  | none => rw [w] at h; cases h
  | some l' => rw [w] at h; exact (Option.some.inj h).symm
/-- behind a call: the caller's labels, and tmp's of what is new -/
def backL (L L' : Lab) : Lab := fun a => match L a with
  | some l => some l
  | none => match L' a with
    | some (j :: q) => if j = tmp then some (tmp :: q) else none
    | _ => none
theorem backL_old {L L' : Lab} {a : Addr} {l : List Nat} (h : L a = some l) : backL L L' a = some l := by
  unfold backL
  rw [h]
theorem backL_tmp {L L' : Lab} {a : Addr} {q : List Nat} (h : L a = none) (h' : L' a = some (tmp :: q)) : backL L L' a = some (tmp :: q) := by
  unfold backL
  rw [h]
  show (match L' a with | some (j :: q) => if j = tmp then some (tmp :: q) else none | _ => none) = some (tmp :: q)
  rw [h']
  simp
theorem backL_cases {L L' : Lab} {a : Addr} {l : List Nat} (h : backL L L' a = some l) : L a = some l ∨ (L a = none ∧ ∃ q, l = tmp :: q ∧ L' a = some (tmp :: q)) := by
  unfold backL at h
  split at h
  · rename_i e
    left
    rw [e]; exact h
  · rename_i e
    right
    refine ⟨e, ?_⟩
    split at h
    · rename_i j q e'
      split at h
      · rename_i c
        exact ⟨q, (Option.some.inj h).symm, by rw [e', c]⟩
      · cases h
    · cases h
section
variable {W : Wd} {G : Gh} {O : List Nat} {L L' : Lab} {env env' : EnvD} {σ : L2.St} {H H' : Hp} {i n0 : Nat}
theorem backL_zo {S : Lab} (hS : ∀ a, S a = none ↔ L a = none) {a : Addr} (ext : ∀ a l, S a = some l → L' a = some l) (z : Zo (backL L L') a) : Zo L' a := by
  cases w : backL L L' a with
  | none => exact (z w).elim
  | some l =>
    rcases backL_cases w with w | ⟨w, q, _, w2⟩
    · intro w2
      cases w3 : S a with
      | none => rw [(hS a).mp w3] at w; cases w
      | some l' => rw [ext a l' w3] at w2; cases w2
    · intro w3; rw [w2] at w3; cases w3
theorem zo_ext {S : Lab} (hS : ∀ a, S a = none ↔ L a = none) {a : Addr} (ext : ∀ a l, S a = some l → L' a = some l) (z : Zo L a) : Zo L' a := by
  intro w2
  cases w3 : S a with
  | none => exact z ((hS a).mp w3)
  | some l' => rw [ext a l' w3] at w2; cases w2
/-- more labels, on what is new -/
theorem Rel.grow (R : Rel W G O L env σ H) (e : Ev W No H H') {L2 : Lab} (sub : ∀ a l, L a = some l → L2 a = some l) (nw : ∀ a l, L2 a = some l → L a = none → H a = none ∧ H' a ≠ none ∧ ∃ q, l = tmp :: q) : Rel W G O L2 env σ H' := by
  have zs : ∀ a, Zo L2 a → H a ≠ none → Zo L a := fun a z hn w => by
    cases r : L2 a with
    | none => exact z r
    | some l => exact hn (nw a l r w).1
  refine ⟨R.len, fun j d h => ?_, fun a z => ?_, R.ent.trans (e.mono fun _ z _ => z.elim), fun a l h => sub a l (R.ext a l h), fun a l h g => ?_, R.first, fun hn a q h => ?_⟩
  · obtain ⟨v, h1, h2⟩ := R.slot j d h
    exact ⟨v, h1, Ow.map (fun d v h => Rp.ev (e.mono fun _ z _ => z.elim) d v (Rp.shun zs d v h)) _ _ _ d v (fun a r vs e1 e2 => ⟨sub a _ e1, e.lst a vs e2 fun z => z⟩) h2⟩
  · cases r : L2 a with
    | none => exact (z r).elim
    | some l =>
      by_cases w : L a = none
      · exact (nw a l r w).2.1
      · exact fun y => R.dom a w (e.dom a y)
  · cases w : L a with
    | none =>
      obtain ⟨h1, _, q, h3⟩ := nw a l h w
      exact ⟨R.ent.dom a h1, tmp, q, h3⟩
    | some l' =>
      have := sub a l' w
      rw [h] at this
      rw [Option.some.inj this]
      exact R.loc a l' w g
  · cases w : L a with
    | none =>
      obtain ⟨_, _, r, h3⟩ := nw a _ h w
      injection h3 with h3 _
      exact absurd h3 (by decide)
    | some l' =>
      have := sub a l' w
      rw [h] at this
      rw [← Option.some.inj this] at w
      exact R.zero hn a q w
/-- the ghosts of a callee that changes nothing of ours -/
def gh0 (H : Hp) (L : Lab) : Gh := { H := H, L := own0 L, n := 0, v := .non, no := fun _ a q h => (nomatch own0_hd h), hd := fun a l h => .inl (own0_hd h) }
/-- .. that changes what slot i owns -/
def gh1 (H : Hp) (L : Lab) (i n : Nat) (v : V) (h : n ≠ 0) : Gh := { H := H, L := subL L i, n := n, v := v, no := fun z => (h z).elim, hd := fun a l h => subL_hd h }
theorem gh0_io {H : Hp} {L : Lab} {a : Addr} : ¬ (gh0 H L).io a := fun ⟨q, h⟩ => nomatch own0_hd h
theorem gh1_io {H : Hp} {L : Lab} {i n : Nat} {v : V} {h : n ≠ 0} {a : Addr} : (gh1 H L i n v h).io a ↔ ∃ q, L a = some (i :: q) :=
  ⟨fun ⟨q, z⟩ => ⟨q, subL_io.mp z⟩, fun ⟨q, z⟩ => ⟨q, subL_io.mpr z⟩⟩
theorem ExR.back {L L' : Lab} {c : Str} {a : Option D} {cv : Value} {dd : Option Addr} (z : ∀ a, Zo L a → Zo L' a) (h : ExR W L' c a cv dd H) : ExR W L c a cv dd H :=
  ⟨h.1, fun d e => by
    obtain ⟨x, v, h1, h2, h3⟩ := h.2 d e
    exact ⟨x, v, h1, h2, Rp.shun (fun a y _ => z a y) d v h3⟩⟩
end

/-! ### f(..), its arguments frozen -/
def ofF (e : EnvD) : FOut → Out D
  | .ok d _ => .ok d e
  | .exc c a _ => .exc c a e
  | .bad => .bad
def dCall (M : FM) (dd : List D) (ms : DL.M (List D)) : DL.M D := fun env => (ms env).bind fun ds e => ofF e (M (ds ++ dd))
section
variable {W : Wd} {X : Cx} {Wx : WX} {O : List Nat} {e : Expr} {es : List Expr} {ms : M (List D)} {p : Bool} {x : Str} {p0 pos : Pos} {k fr ar n0 : Nat} {f : Addr} {fd : FuncData} {ps : List Str} {FF : FM} {dvs : List V} {vds : List Value} {dd : List D}
theorem snd_call {t : TA} (hfr : True) (dflt : ∀ (Z : Addr → Prop) (H : Hp), RpL W Z H dd dvs) (hn : (ps.length = ar))
    (s : ∀ (G : Gh) (L : Lab) (env : EnvD) (σ : L2.St) (H : Hp) (Q : List V → Hp → Prop), Rel W G O L env σ H → PostAr W G O L p 2 Wx env σ H Q (ms env) → t σ H Q) (ln : ∀ env ds e, ms env = .ok ds e → (ds ++ dd).length = ar)
    {G : Gh} {L : Lab} {env : EnvD} {σ : L2.St} {H : Hp} {Q : VK} (R : Rel W G O L env σ H) (h : PostO W G O L p fr Wx env σ H Q (dCall FF dd ms env)) : tCallG (spD W 0 fr ar FF) dvs Wx t σ H Q := by
  refine s G L env σ H _ R ?_
  unfold dCall at h
  cases q1 : ms env with
  | bad => rw [q1] at h; exact h.elim
  | exc c a e => rw [q1] at h; exact h
  | ok ds e1 =>
    rw [q1] at h
    intro vs H1 R1 E1 P1 A
    have rA : RpL W (Zo L) H1 (ds ++ dd) (vs ++ dvs) := A.two.append (dflt _ _)
    have h : PostO W G O L p fr Wx env σ H Q (ofF e1 (FF (ds ++ dd))) := h
    refine ⟨by rw [← rA.length]; exact ln _ _ _ q1, gh0 H1 L, ds ++ dd, rfl, rfl, ⟨rA.length, fun i d v h1 h2 => ?_, fun a z => R1.dom a fun w => z (own0_none.mpr w), fun hn => (hn rfl).elim⟩, ?_⟩
    · obtain ⟨v', w1, w2⟩ := rA.getD h1
      rw [h2] at w1
      rw [Option.some.inj w1]
      have : (if i = 0 then (gh0 H1 L).n else 0) = 0 := by
        split <;> rfl
      rw [this]
      exact Rp.shun (fun a z _ w => z (own0_none.mpr w)) d v' w2
    · cases q2 : FF (ds ++ dd) with
      | bad => rw [q2] at h; exact h.elim
      | exc c a io =>
        rw [q2] at h
        intro cv dx H' L' ext new _ dom ev _ x
        have ev' : Ev W No H1 H' := ev.mono fun a z _ => gh0_io z
        exact h cv dx H' (R1.pure ev') (ExR.back (fun a z => zo_ext (fun _ => own0_none) ext z) x)
      | ok d io =>
        rw [q2] at h
        intro v H' L' ext new _ dom ev _ o
        have ev' : Ev W No H1 H' := ev.mono fun a z _ => gh0_io z
        have hz : ∀ a, Zo (backL L L') a → Zo L' a := fun a z => backL_zo (fun _ => own0_none) ext z
        have R2 : Rel W G O (backL L L') e1 σ H' := R1.grow ev' (fun a l z => backL_old z) fun a l z w => by
          rcases backL_cases z with z | ⟨_, q, z1, z2⟩
          · rw [w] at z; cases z
          · exact ⟨new a _ z2 (own0_none.mpr w), dom a (by rw [z2]; exact fun w => nomatch w), q, z1⟩
        have nonew : ∀ a q, L' a = some (tmp :: q) → L a = none := fun a q z => by
          cases w : L a with
          | none => rfl
          | some l =>
            cases w2 : own0 L a with
            | none => rw [own0_none.mp w2] at w; cases w
            | some l' =>
              have := ext a l' w2
              rw [z, own0_hd w2] at this
              cases this
        refine h v H' (backL L L') ⟨fun a l z => backL_old z, fun a l z w => ?_⟩ (fun a z => ?_) R2 (R1.pure ev') (E1.trans (ev'.mono fun _ z _ => z.elim)) P1
          (Ow.map (fun d v => Rp.shun (fun a z _ => hz a ((nl_zo fun _ _ z => backL_old z).mp z)) d v) _ [tmp] [tmp] d v (fun a q us z1 z2 => ⟨by rw [nl_new (nonew a q z1)]; exact backL_tmp (nonew a q z1) z1, z2⟩) o) ?_
        · rcases backL_cases z with z | ⟨_, q, z1, z2⟩
          · rw [w] at z; cases z
          · exact ⟨q, z1⟩
        · by_cases w : L a = none
          · right
            cases y : backL L L' a with
            | none => exact (z y).elim
            | some l =>
              rcases backL_cases y with y | ⟨_, q, z1, z2⟩
              · rw [w] at y; cases y
              · exact E1.dom a (new a _ z2 (own0_none.mpr w))
          · exact .inl w
        · refine Ow.thaw (L := L') (L' := L) (fun a z => zo_ext (fun _ => own0_none) ext z) _ [tmp] d v (fun a q z => nonew a q z) o
theorem do_call (F : FnG X.prog X.w X.K X.mg X.base k f fd ps (spD W 0 fr ar FF)) (hr : Room k X.A) (hg : X.A.guards = some []) (gl : Gl X x) (hm : X.mg x = some (.ref f)) (hk : PySem.W.keepIn X.K (.ref f) = true) (hb : Binds X.K fd ps vds) (hd : Vals dvs vds) (tk : Takes X Wx)
    (dflt : ∀ (Z : Addr → Prop) (H : Hp), RpL W Z H dd dvs) (ha : DAr W X Wx O (e :: es) ms 2 p) (hn : ps.length = ar) (ha2 : (e :: es).length + dd.length = ar)
    (hdb : (x == ("__debug__" : Str)) = false := by decide) (he : starEach (e :: es) X.env = (false, eval e X.env) :: starEach es X.env := by rfl) (hpl : (backTo pos (starEach es X.env)).any (·.1) = false := by rfl) :
    DO W X Wx O (.Call (.Name x p0) (e :: es) [] pos) (dCall FF dd ms) fr p := by
  obtain ⟨k', ln, t, pa, s⟩ := ha
  exact ⟨k', _, pe_callG F hr hg gl hm hk hb hd tk pa hdb he hpl, fun G L env σ H Q R h => snd_call trivial dflt hn s (fun env ds e z => by rw [List.length_append, ln _ _ _ z]; exact ha2) R h⟩

/-! ### f(..), its arguments only looked at, its answer without lists -/
def flatO (a : Option D) : Bool := match a with
  | some d => d.flat
  | none => true
def ofFB (e : EnvD) : FOut → Out D
  | .ok d _ => if d.flat = true then .ok d e else .bad
  | .exc c a _ => if flatO a = true then .exc c a e else .bad
  | .bad => .bad
def dCallB (M : FM) (dd : List D) (ms : DL.M (List D)) : DL.M D := fun env => (ms env).bind fun ds e => ofFB e (M (ds ++ dd))
def ghN (H : Hp) : Gh := { H := H, L := fun _ => none, n := 0, v := .non, no := fun _ a q h => (nomatch h), hd := fun a l h => (nomatch h) }
theorem de_callF (F : FnG X.prog X.w X.K X.mg X.base k f fd ps (spD W 0 fr ar FF)) (hr : Room k X.A) (hg : X.A.guards = some []) (gl : Gl X x) (hm : X.mg x = some (.ref f)) (hk : PySem.W.keepIn X.K (.ref f) = true) (hb : Binds X.K fd ps vds) (hd : Vals dvs vds) (tk : Takes X Wx)
    (dflt : ∀ (Z : Addr → Prop) (H : Hp), RpL W Z H dd dvs) {z : Nat} (ha : DAr W X Wx O (e :: es) ms z p) (hn : ps.length = ar) (ha2 : (e :: es).length + dd.length = ar)
    (hdb : (x == ("__debug__" : Str)) = false := by decide) (he : starEach (e :: es) X.env = (false, eval e X.env) :: starEach es X.env := by rfl) (hpl : (backTo pos (starEach es X.env)).any (·.1) = false := by rfl) :
    DE W X Wx O (.Call (.Name x p0) (e :: es) [] pos) (dCallB FF dd ms) 2 p := by
  obtain ⟨k', ln, t, pa, s⟩ := ha
  refine ⟨k', _, pe_callG F hr hg gl hm hk hb hd tk pa hdb he hpl, fun G L env σ H Q R h => s G L env σ H _ R ?_⟩
  unfold dCallB at h
  cases q1 : ms env with
  | bad => rw [q1] at h; exact h.elim
  | exc c a e => rw [q1] at h; exact h
  | ok ds e1 =>
    rw [q1] at h
    intro vs H1 R1 E1 P1 A
    have rA : RpL W No H1 (ds ++ dd) (vs ++ dvs) := A.any.append (dflt _ _)
    have h : PostE W G O L p 2 Wx env σ H Q (ofFB e1 (FF (ds ++ dd))) := h
    refine ⟨by rw [← rA.length, List.length_append, ln _ _ _ q1]; exact ha2, ghN H1, ds ++ dd, rfl, rfl, ⟨rA.length, fun i d v h1 h2 => ?_, fun a z => (z rfl).elim, fun hn => (hn rfl).elim⟩, ?_⟩
    · obtain ⟨v', w1, w2⟩ := rA.getD h1
      rw [h2] at w1
      rw [Option.some.inj w1]
      have : (if i = 0 then (ghN H1).n else 0) = 0 := by
        split <;> rfl
      rw [this]
      exact Rp.shun (fun a z _ => z rfl) d v' w2
    · cases q2 : FF (ds ++ dd) with
      | bad => rw [q2] at h; exact h.elim
      | exc c a io =>
        rw [q2] at h
        have h : PostE W G O L p 2 Wx env σ H Q (if flatO a = true then .exc c a e1 else .bad) := h
        by_cases fl : flatO a = true
        · rw [if_pos fl] at h
          intro cv dx H' L' ext new _ dom ev _ x
          refine h cv dx H' (R1.pure (ev.mono fun a z _ => z.elim fun _ w => nomatch w)) ⟨x.1, fun d e => ?_⟩
          obtain ⟨y, v, h1, h2, h3⟩ := x.2 d e
          refine ⟨y, v, h1, h2, Rp.flat d v ?_ h3⟩
          rw [e] at fl
          exact fl
        · rw [if_neg fl] at h
          exact h.elim
      | ok d io =>
        rw [q2] at h
        have h : PostE W G O L p 2 Wx env σ H Q (if d.flat = true then .ok d e1 else .bad) := h
        by_cases fl : d.flat = true
        · rw [if_pos fl] at h
          intro v H' L' ext new _ dom ev _ o
          have ev' : Ev W No H1 H' := ev.mono fun a z _ => z.elim fun _ w => nomatch w
          exact h v H' (R1.pure ev') (E1.trans (ev'.mono fun _ z _ => z.elim)) P1 (Rp.flat d v fl (Ow.any _ _ d v o))
        · rw [if_neg fl] at h
          exact h.elim

/-! ### f(x, ..), what slot i owns may change -/
theorem rel_io {G : Gh} {L L' L2 : Lab} {env : EnvD} {σ : _root_.L2.St} {H H' : Hp} {i : Nat} {v : V} {io : D} (R : Rel W G O L env σ H) (h0 : n0 ≠ 0) (hv : σ[i]? = some (some v)) (ho : O.getD i 0 = n0)
    (ext : ∀ a l, subL L i a = some l → L' a = some l) (zero : ∀ a q, L' a = some (0 :: q) → subL L i a = some (0 :: q)) (ev : Ev W (fun a => ∃ q, L a = some (i :: q)) H H') (own : Ow W L' H' n0 [0] io v)
    (sub : ∀ a l, L a = some l → L2 a = some l) (nw : ∀ a l, L2 a = some l → L a = none → H a = none ∧ H' a ≠ none ∧ ∃ q, l = tmp :: q) (z2 : ∀ a, Zo L2 a → Zo L' a) : Rel W G O L2 (env.set i (some io)) σ H' := by
  have zs : ∀ a, Zo L2 a → H a ≠ none → Zo L a := fun a z hn w => by
    cases r : L2 a with
    | none => exact z r
    | some l => exact hn (nw a l r w).1
  have ev2 : Ev W (Zo L2) H H' := ev.mono fun a ⟨q, z⟩ _ w => by
    rw [sub a _ z] at w; cases w
  refine ⟨by rw [List.length_set, R.len], fun j d h => ?_, fun a z => ?_, R.entry ev fun a ⟨q, z⟩ => ⟨i, q, z⟩, fun a l h => sub a l (R.ext a l h), fun a l h g => ?_, R.first, fun hn a q h => ?_⟩
  · by_cases q : i = j
    · subst q
      have hl : i < env.length := by
        have := (List.getElem?_eq_some_iff.mp h).1
        simpa using this
      rw [List.getElem?_set_self hl] at h
      have e' : io = d := Option.some.inj (Option.some.inj h)
      subst e'
      refine ⟨v, hv, ?_⟩
      rw [ho]
      exact Ow.map (fun d v => Rp.shun (fun a z _ => z2 a z) d v) _ [0] [i] io v (fun a q us e1 e2 => ⟨sub a _ (subL_io.mp (zero a q e1)), e2⟩) own
    · rw [List.getElem?_set_ne q] at h
      obtain ⟨v', h1, h2⟩ := R.slot j d h
      refine ⟨v', h1, Ow.map (fun d v h => Rp.ev ev2 d v (Rp.shun zs d v h)) _ _ _ d v' (fun a r us e1 e2 => ⟨sub a _ e1, ev.lst a us e2 fun ⟨q', z⟩ => ?_⟩) h2⟩
      have e1' : L a = some (j :: r) := e1
      rw [e1'] at z
      injection z with z
      injection z with z _
      exact q z.symm
  · cases r : L2 a with
    | none => exact (z r).elim
    | some l =>
      by_cases w : L a = none
      · exact (nw a l r w).2.1
      · exact fun y => R.dom a w (ev.dom a y)
  · cases w : L a with
    | none =>
      obtain ⟨h1, _, q, h3⟩ := nw a l h w
      exact ⟨R.ent.dom a h1, tmp, q, h3⟩
    | some l' =>
      have := sub a l' w
      rw [h] at this
      rw [Option.some.inj this]
      exact R.loc a l' w g
  · cases w : L a with
    | none =>
      obtain ⟨_, _, r, h3⟩ := nw a _ h w
      injection h3 with h3 _
      exact absurd h3 (by decide)
    | some l' =>
      have := sub a l' w
      rw [h] at this
      rw [← Option.some.inj this] at w
      exact R.zero hn a q w
def ofFI (e : EnvD) (i : Nat) : FOut → Out D
  | .ok d io => .ok d (e.set i (some io))
  | .exc c a io => .exc c a (e.set i (some io))
  | .bad => .bad
def dCallI (M : FM) (i : Nat) (dd : List D) (ms : DL.M (List D)) : DL.M D := fun env => match env[i]? with
  | some (some _) => (ms env).bind fun ds e => (match e[i]? with
    | some (some d0) => ofFI e i (M (d0 :: (ds ++ dd)))
    | _ => .bad)
  | _ => .bad
theorem do_callI {i : Nat} {y : Str} {py : Pos} (F : FnG X.prog X.w X.K X.mg X.base k f fd ps (spD W n0 fr ar FF)) (hr : Room k X.A) (hg : X.A.guards = some []) (gl : Gl X x) (hm : X.mg x = some (.ref f)) (hk : PySem.W.keepIn X.K (.ref f) = true) (hb : Binds X.K fd ps vds) (hd : Vals dvs vds) (tk : Takes X Wx)
    (dflt : ∀ (Z : Addr → Prop) (H : Hp), RpL W Z H dd dvs) (pv : PE X (.Name y py) (tVar i)) (ha : DAr W X Wx O es ms 2 p) (ho : O.getD i 0 = n0) (h0 : n0 ≠ 0) (ha2 : es.length + dd.length + 1 = ar) (hl : i < tmp := by decide)
    (hs : starEach (.Name y py :: es) X.env = (false, eval (.Name y py) X.env) :: starEach es X.env := by rfl)
    (hdb : (x == ("__debug__" : Str)) = false := by decide) (hpl : (backTo pos (starEach es X.env)).any (·.1) = false := by rfl) :
    DO W X Wx O (.Call (.Name x p0) (.Name y py :: es) [] pos) (dCallI FF i dd ms) fr false := by
  obtain ⟨k', ln, t, pa, s⟩ := ha
  refine ⟨k', _, pe_callG F hr hg gl hm hk hb hd tk (pa_cons pv pa hs) hdb hs hpl, fun G L env σ H Q R h => ?_⟩
  unfold dCallI at h
  split at h
  · rename_i dz ez
    obtain ⟨v, hv, _⟩ := R.slot i dz ez
    refine ⟨v, hv, s G L env σ H _ R ?_⟩
    cases q1 : ms env with
    | bad => rw [q1] at h; exact h.elim
    | exc c a e => rw [q1] at h; exact h
    | ok ds e1 =>
      rw [q1] at h
      intro vs H1 R1 E1 P1 A
      have rA : RpL W (Zo L) H1 (ds ++ dd) (vs ++ dvs) := A.two.append (dflt _ _)
      have h : PostO W G O L false fr Wx env σ H Q (match e1[i]? with | some (some d0) => ofFI e1 i (FF (d0 :: (ds ++ dd))) | _ => .bad) := h
      split at h
      · rename_i d0 e0
        obtain ⟨v2, hv2, hO⟩ := R1.slot i d0 e0
        rw [hv] at hv2
        have ev2 : v = v2 := Option.some.inj (Option.some.inj hv2)
        subst ev2
        rw [ho] at hO
        refine ⟨?_, gh1 H1 L i n0 v h0, d0 :: (ds ++ dd), rfl, rfl, ⟨?_, fun j d u h1 h2 => ?_, fun a z => R1.dom a fun w => z (subL_none.mpr w), fun _ => rfl⟩, ?_⟩
        · show (v :: vs ++ dvs).length = ar
          rw [List.cons_append, List.length_cons, ← rA.length, List.length_append, ln _ _ _ q1]
          exact ha2
        · show (d0 :: (ds ++ dd)).length = (v :: (vs ++ dvs)).length
          rw [List.length_cons, List.length_cons, rA.length]
        · cases j with
          | zero =>
            have h1 : some d0 = some d := h1
            have h2 : some v = some u := h2
            rw [← Option.some.inj h1, ← Option.some.inj h2, if_pos rfl]
            exact Ow.map (fun d v => Rp.shun (fun a z _ w => z (subL_none.mpr w)) d v) _ [i] [0] d0 v (fun a q us e1 e2 => ⟨subL_io.mpr e1, e2⟩) hO
          | succ j =>
            have h1 : (ds ++ dd)[j]? = some d := h1
            have h2 : (vs ++ dvs)[j]? = some u := h2
            obtain ⟨v', w1, w2⟩ := rA.getD h1
            rw [h2] at w1
            rw [Option.some.inj w1, if_neg (Nat.succ_ne_zero j)]
            exact Rp.shun (fun a z _ w => z (subL_none.mpr w)) d v' w2
        · cases q2 : FF (d0 :: (ds ++ dd)) with
          | bad => rw [q2] at h; exact h.elim
          | exc c a io =>
            rw [q2] at h
            intro cv dx H' L' ext new zero dom ev own x
            have ev' : Ev W (fun a => ∃ q, L a = some (i :: q)) H1 H' := ev.mono fun a z _ => gh1_io.mp z
            exact h cv dx H' (rel_io R1 h0 hv ho ext (zero h0) ev' (own h0) (fun a l z => z) (fun a l z w => by rw [w] at z; cases z) fun a z => zo_ext (fun _ => subL_none) ext z) (ExR.back (fun a z => zo_ext (fun _ => subL_none) ext z) x)
          | ok d io =>
            rw [q2] at h
            intro u H' L' ext new zero dom ev own o
            have ev' : Ev W (fun a => ∃ q, L a = some (i :: q)) H1 H' := ev.mono fun a z _ => gh1_io.mp z
            have hz : ∀ a, Zo (backL L L') a → Zo L' a := fun a z => backL_zo (fun _ => subL_none) ext z
            have nonew : ∀ a q, L' a = some (tmp :: q) → L a = none := fun a q z => by
              cases w : L a with
              | none => rfl
              | some l =>
                cases w2 : subL L i a with
                | none => rw [subL_none.mp w2] at w; cases w
                | some l' =>
                  have := ext a l' w2
                  rw [z] at this
                  have := Option.some.inj this
                  rcases subL_hd w2 with w3 | ⟨q', w3⟩
                  · rw [w3] at this; cases this
                  · rw [w3] at this
                    injection this with this _
                    exact absurd this (by decide)
            have R2 : Rel W G O (backL L L') (e1.set i (some io)) σ H' := rel_io R1 h0 hv ho ext (zero h0) ev' (own h0) (fun a l z => backL_old z) (fun a l z w => by
              rcases backL_cases z with z | ⟨_, q, z1, z2⟩
              · rw [w] at z; cases z
              · exact ⟨new a _ z2 (subL_none.mpr w), dom a (by rw [z2]; exact fun w => nomatch w), q, z1⟩) hz
            have R3 : Rel W G O L (e1.set i (some io)) σ H' := rel_io R1 h0 hv ho ext (zero h0) ev' (own h0) (fun a l z => z) (fun a l z w => by rw [w] at z; cases z) fun a z => zo_ext (fun _ => subL_none) ext z
            refine h u H' (backL L L') ⟨fun a l z => backL_old z, fun a l z w => ?_⟩ (fun a z => ?_) R2 R3 ((E1.mono fun a z _ => Zp_mono (p := p) (p' := false) (fun w => nomatch w) z).trans (ev'.mono fun a ⟨q, z⟩ _ => ⟨i, q, z, hl⟩)) (fun z => nomatch z)
              (Ow.map (fun d v => Rp.shun (fun a z _ => hz a ((nl_zo fun _ _ z => backL_old z).mp z)) d v) _ [tmp] [tmp] d u (fun a q us z1 z2 => ⟨by rw [nl_new (nonew a q z1)]; exact backL_tmp (nonew a q z1) z1, z2⟩) o) ?_
            · rcases backL_cases z with z | ⟨_, q, z1, z2⟩
              · rw [w] at z; cases z
              · exact ⟨q, z1⟩
            · by_cases w : L a = none
              · right
                cases y : backL L L' a with
                | none => exact (z y).elim
                | some l =>
                  rcases backL_cases y with y | ⟨_, q, z1, z2⟩
                  · rw [w] at y; cases y
                  · exact E1.dom a (new a _ z2 (subL_none.mpr w))
              · exact .inl w
            · exact Ow.thaw (L := L') (L' := L) (fun a z => zo_ext (fun _ => subL_none) ext z) _ [tmp] d u (fun a q z => nonew a q z) o
      · exact h.elim
  · exact h.elim
end
end DL
/-! DLIter: what is walked, targets, for loops, list comprehensions over data. -/
namespace DL
open PySem PySem.Spec PyProof.Rows L2

/-- the walk J yields the data ds, whatever changes that they shun -/
def ItemsOk (W : Wd) (J : It) (L : Lab) (H0 : Hp) (ds : List D) : Prop := ds.length ≤ sizeLine ∧ ∀ (Z : Addr → Prop), (∀ a, Z a → H0 a ≠ none → Zo L a) → ∀ (i : Nat) (H : Hp), Ev W Z H0 H →
  (i < ds.length → J.go i H ∧ ∀ x H', J.yld i H x H' → Ev W No H H' ∧ ∃ d, ds[i]? = some d ∧ Rp W Z H' d x) ∧ (ds.length ≤ i → J.stop i H)
def PostI (W : Wd) (G : Gh) (O : List Nat) (L : Lab) (p : Bool) (Wx : WX) (env : EnvD) (σ : L2.St) (H : Hp) (R : It → Hp → Prop) : Out (List D) → Prop
  | .ok ds env' => ∀ J H', Rel W G O L env' σ H' → Ev W (Zp p L) H H' → (p = true → env' = env) → ItemsOk W J L H' ds → R J H'
  | .exc c a env' => ∀ cv dd H', Rel W G O L env' σ H' → ExR W L c a cv dd H' → Wx cv dd σ H'
  | .bad => False
structure DI (W : Wd) (X : Cx) (Wx : WX) (O : List Nat) (tg iter : Expr) (m : M (List D)) (p : Bool) : Prop where
  k : X.K = W.K
  run : ∃ wi, PI X tg iter wi ∧ ∀ (G : Gh) (L : Lab) (env : EnvD) (σ : L2.St) (H : Hp) (R : It → Hp → Prop), Rel W G O L env σ H → PostI W G O L p Wx env σ H R (m env) → wi σ H R
theorem PI.or {X : Cx} {tg iter : Expr} {w1 w2 : TI} (h1 : PI X tg iter w1) (h2 : PI X tg iter w2) : PI X tg iter (fun σ H R => w1 σ H R ∨ w2 σ H R) := ⟨fun pins s σ H R I q => by
  rcases q with q | q
  · exact h1.run pins s σ H R I q
  · exact h2.run pins s σ H R I q⟩

section
variable {W : Wd} {X : Cx} {Wx : WX} {O : List Nat} {tg e : Expr} {m : M D} {p : Bool} {G : Gh} {L : Lab} {H : Hp}
theorem items_vals {vs : List V} {ds : List D} (r : RpL W (Zo L) H ds vs) {Z : Addr → Prop} (hz : ∀ a, Z a → H a ≠ none → Zo L a) {H' : Hp} (ev : Ev W Z H H') {i : Nat} (hi : i < ds.length) : ∃ x d, vs[i]? = some x ∧ ds[i]? = some d ∧ Rp W Z H' d x := by
  obtain ⟨v, h1, h2⟩ := r.getD (List.getElem?_eq_getElem hi)
  exact ⟨v, _, h1, List.getElem?_eq_getElem hi, Rp.ev ev _ _ (Rp.shun hz _ _ h2)⟩
/-- a list -/
theorem items_lst {K : PySem.W.Frag} {a : Addr} {vs : List V} {ds : List D} (na : ¬ Zo L a) (h : H a = some (.lst vs)) (sz : vs.length ≤ sizeLine) (r : RpL W (Zo L) H ds vs) : ItemsOk W (Itl K a) L H ds := by
  refine ⟨by rw [r.length]; exact sz, fun Z hz i H' ev => ?_⟩
  have h' : SqL K H' a vs := SqL.of (ev.lst a vs h fun z => na (hz a z (by rw [h]; exact fun w => nomatch w)))
  refine ⟨fun hi => ?_, fun hi => ⟨vs, h', by rw [← r.length]; exact hi⟩⟩
  obtain ⟨x, d, h1, h2, h3⟩ := items_vals r hz ev hi
  refine ⟨⟨vs, x, h', h1⟩, fun y H2 hy => ?_⟩
  obtain ⟨rfl, hy⟩ := hy
  have := hy vs h'
  rw [h1] at this
  rw [← Option.some.inj this]
  exact ⟨Ev.refl, d, h2, h3⟩
theorem items_ro {a : Addr} {vs : List V} {ds : List D} (h : RoL W.K H a vs) (sz : vs.length ≤ sizeLine) (r : RpL W (Zo L) H ds vs) : ItemsOk W (Itl W.K a) L H ds := by
  refine ⟨by rw [r.length]; exact sz, fun Z hz i H' ev => ?_⟩
  have h' : SqL W.K H' a vs := (ev.rol h).sq
  refine ⟨fun hi => ?_, fun hi => ⟨vs, h', by rw [← r.length]; exact hi⟩⟩
  obtain ⟨x, d, h1, h2, h3⟩ := items_vals r hz ev hi
  refine ⟨⟨vs, x, h', h1⟩, fun y H2 hy => ?_⟩
  obtain ⟨rfl, hy⟩ := hy
  have := hy vs h'
  rw [h1] at this
  rw [← Option.some.inj this]
  exact ⟨Ev.refl, d, h2, h3⟩
theorem items_tup {a : Addr} {vs : List V} {ds : List D} (h : SqT W.K H a vs) (sz : vs.length ≤ sizeLine) (r : RpL W (Zo L) H ds vs) : ItemsOk W (Itt W.K a) L H ds := by
  refine ⟨by rw [r.length]; exact sz, fun Z hz i H' ev => ?_⟩
  have h' : SqT W.K H' a vs := ev.sqt h
  refine ⟨fun hi => ?_, fun hi => ⟨vs, h', by rw [← r.length]; exact hi⟩⟩
  obtain ⟨x, d, h1, h2, h3⟩ := items_vals r hz ev hi
  refine ⟨⟨vs, x, h', h1⟩, fun y H2 hy => ?_⟩
  obtain ⟨rfl, hy⟩ := hy
  have := hy vs h'
  rw [h1] at this
  rw [← Option.some.inj this]
  exact ⟨Ev.refl, d, h2, h3⟩
def signs (x : Str) : List D := x.cps.toList.map fun c => .str ⟨#[c]⟩
theorem items_str {x : Str} (sz : x.length ≤ sizeLine) : ItemsOk W (Its x) L H (signs x) := by
  have ln : (signs x).length = x.cps.size := by simp [signs]
  refine ⟨by rw [ln]; exact sz, fun Z hz i H' ev => ⟨fun hi => ⟨by rw [ln] at hi; exact hi, fun y H2 hy => ?_⟩, fun hi => by rw [ln] at hi; exact hi⟩⟩
  obtain ⟨rfl, c, h1, rfl⟩ := hy
  refine ⟨Ev.refl, .str ⟨#[c]⟩, ?_, by unfold Rp; rfl⟩
  unfold signs
  rw [List.getElem?_map, ← Array.getElem?_toList] at *
  rw [h1]
  rfl
/-- the items of a value that is walked -/
def items : D → Option (List D)
  | .lst ds => some ds
  | .ro ds => some ds
  | .tup ds => some ds
  | .str x => if x.length ≤ sizeLine then some (signs x) else none
  | _ => none
def dItems (m : M D) : M (List D) := fun env => (m env).bind fun d e => match items d with
  | some ds => .ok ds e
  | none => .bad
/-- a list, a tuple, a text; nothing of it is owned -/
theorem di_seq (h : DE W X Wx O e m 2 p) : DI W X Wx O tg e (dItems m) p := by
  obtain ⟨k, t, pe, s⟩ := h
  refine ⟨k, _, PI.or (pi_list pe) (PI.or (pi_tup pe) (pi_str pe)), fun G L env σ H R Rl h => ?_⟩
  unfold dItems at h
  cases q1 : m env with
  | bad => rw [q1] at h; exact h.elim
  | exc c a e =>
    rw [q1] at h
    refine .inl (s G L env σ H _ Rl ?_)
    rw [q1]
    exact h
  | ok d1 e1 =>
    rw [q1] at h
    have h : PostI W G O L p Wx env σ H R (match items d1 with | some ds => .ok ds e1 | none => .bad) := h
    match d1, h, q1 with
    | .lst ds, h, q1 =>
      refine .inl (s G L env σ H _ Rl ?_)
      rw [q1]
      intro v H' R' E P Z
      have Z := Rp_of2 Z
      unfold Rp at Z
      obtain ⟨a, vs, rfl, na, ⟨h2, sz⟩, h3⟩ := Z
      exact ⟨a, rfl, ⟨vs, SqL.of h2⟩, h _ H' R' E P (items_lst na h2 sz h3)⟩
    | .ro ds, h, q1 =>
      refine .inl (s G L env σ H _ Rl ?_)
      rw [q1]
      intro v H' R' E P Z
      have Z := Rp_of2 Z
      unfold Rp at Z
      obtain ⟨a, vs, rfl, ⟨h2, sz⟩, h3⟩ := Z
      rw [← k] at h2
      refine ⟨a, rfl, ⟨vs, h2.sq⟩, h _ H' R' E P ?_⟩
      rw [k] at h2 ⊢
      exact items_ro h2 sz h3
    | .tup ds, h, q1 =>
      refine .inr (.inl (s G L env σ H _ Rl ?_))
      rw [q1]
      intro v H' R' E P Z
      have Z := Rp_of2 Z
      unfold Rp at Z
      obtain ⟨a, vs, rfl, ⟨h2, sz⟩, h3⟩ := Z
      rw [← k] at h2
      refine ⟨a, rfl, ⟨vs, h2⟩, h _ H' R' E P ?_⟩
      rw [k] at h2 ⊢
      exact items_tup h2 sz h3
    | .str x, h, q1 =>
      refine .inr (.inr (s G L env σ H _ Rl ?_))
      rw [q1]
      intro v H' R' E P Z
      have Z := Rp_of2 Z
      unfold Rp at Z
      subst Z
      have h : PostI W G O L p Wx env σ H R (match (if x.length ≤ sizeLine then some (signs x) else none) with | some ds => .ok ds e1 | none => .bad) := h
      by_cases sz : x.length ≤ sizeLine
      · rw [if_pos sz] at h
        exact ⟨x, rfl, h _ H' R' E P (items_str sz)⟩
      · rw [if_neg sz] at h
        exact h.elim
    | .non, h, _ => exact h.elim
    | .bool _, h, _ => exact h.elim
    | .int _, h, _ => exact h.elim
    | .dic _, h, _ => exact h.elim
    | .obj _ _, h, _ => exact h.elim
/-- range -/
def rangeD (lo : Int) (n : Nat) : List D := (List.range n).map fun i => .int (lo + (i : Nat))
theorem items_rng {lo : Int} {n : Nat} (hn : n ≤ sizeLine) : ItemsOk W (Itr lo n) L H (rangeD lo n) := by
  have ln : (rangeD lo n).length = n := by simp [rangeD]
  refine ⟨by rw [ln]; exact hn, fun Z hz i H' ev => ⟨fun hi => ⟨by rw [ln] at hi; exact hi, fun y H2 hy => ?_⟩, fun hi => by rw [ln] at hi; exact hi⟩⟩
  obtain ⟨rfl, rfl⟩ := hy
  refine ⟨Ev.refl, .int (lo + (i : Nat)), ?_, by unfold Rp; rfl⟩
  rw [ln] at hi
  unfold rangeD
  rw [List.getElem?_map, List.getElem?_range hi]
  rfl
def small62 (i : Int) : Bool := decide (-(2 ^ 62) ≤ i ∧ i < 2 ^ 62)
def dRange (ms : M (List D)) : M (List D) := fun env => (ms env).bind fun ds e => match ds with
  | [.int j] => if j.toNat ≤ sizeLine ∧ -(2 ^ 62) ≤ j then .ok (rangeD 0 j.toNat) e else .bad
  | [.int i, .int j] => if (j - i).toNat ≤ sizeLine ∧ (-(2 ^ 61) ≤ i ∧ i < 2 ^ 61) ∧ -(2 ^ 61) ≤ j then .ok (rangeD i (j - i).toNat) e else .bad
  | _ => .bad
theorem sizeLine_lt : (sizeLine : Nat) < 2 ^ 60 := by rw [sizeLine_eq]; decide
theorem all1 {z : Nat} {ds : List D} {vs : List V} {d : D} (h : AllZ W L H z [d] vs) : ∃ v, vs = [v] ∧ Rp W No H d v := by
  obtain ⟨hl, ha⟩ := h
  match vs, hl, ha with
  | [v], _, ha => exact ⟨v, rfl, (ha 0 d v rfl rfl).any⟩
theorem all2 {z : Nat} {vs : List V} {d d' : D} (h : AllZ W L H z [d, d'] vs) : ∃ v v', vs = [v, v'] ∧ Rp W No H d v ∧ Rp W No H d' v' := by
  obtain ⟨hl, ha⟩ := h
  match vs, hl, ha with
  | [v, v'], _, ha => exact ⟨v, v', rfl, (ha 0 d v rfl rfl).any, (ha 1 d' v' rfl rfl).any⟩
theorem di_range1 {a : Expr} {ms : M (List D)} {z : Nat} {p0 pos : Pos} (hg : Gl X "range") (hm : X.mg "range" = none) (ha : DAr W X Wx O [a] ms z p) (hs : starEach [a] X.env = [(false, eval a X.env)] := by rfl) :
    DI W X Wx O tg (.Call (.Name "range" p0) [a] [] pos) (dRange ms) p := by
  obtain ⟨k, ln, t, pa, s⟩ := ha
  refine ⟨k, _, pi_range1 hg hm pa hs, fun G L env σ H R Rl h => s G L env σ H _ Rl ?_⟩
  unfold dRange at h
  cases q1 : ms env with
  | bad => rw [q1] at h; exact h.elim
  | exc c a e => rw [q1] at h; exact h
  | ok ds e1 =>
    rw [q1] at h
    have hl := ln _ _ _ q1
    intro vs H' R' E P A
    match ds, hl, A, h with
    | [d], _, A, h =>
      obtain ⟨v, rfl, r⟩ := all1 (ds := []) A
      match d, r, h with
      | .int j, r, h =>
        unfold Rp at r
        subst r
        have h : PostI W G O L p Wx env σ H R (if j.toNat ≤ sizeLine ∧ -(2 ^ 62) ≤ j then .ok (rangeD 0 j.toNat) e1 else .bad) := h
        by_cases c : j.toNat ≤ sizeLine ∧ -(2 ^ 62) ≤ j
        · rw [if_pos c] at h
          have := sizeLine_lt
          exact ⟨j, rfl, c.2, by omega, h _ H' R' E P (items_rng c.1)⟩
        · rw [if_neg c] at h
          exact h.elim
      | .non, _, h => exact h.elim
      | .bool _, _, h => exact h.elim
      | .str _, _, h => exact h.elim
      | .tup _, _, h => exact h.elim
      | .lst _, _, h => exact h.elim
      | .ro _, _, h => exact h.elim
      | .dic _, _, h => exact h.elim
      | .obj _ _, _, h => exact h.elim
theorem di_range2 {a b : Expr} {ms : M (List D)} {z : Nat} {p0 pos : Pos} (hg : Gl X "range") (hm : X.mg "range" = none) (ha : DAr W X Wx O [a, b] ms z p) (hs : starEach [a, b] X.env = [(false, eval a X.env), (false, eval b X.env)] := by rfl) (hs2 : starEach [b] X.env = [(false, eval b X.env)] := by rfl) :
    DI W X Wx O tg (.Call (.Name "range" p0) [a, b] [] pos) (dRange ms) p := by
  obtain ⟨k, ln, t, pa, s⟩ := ha
  refine ⟨k, _, pi_range2 hg hm pa hs hs2, fun G L env σ H R Rl h => s G L env σ H _ Rl ?_⟩
  unfold dRange at h
  cases q1 : ms env with
  | bad => rw [q1] at h; exact h.elim
  | exc c a e => rw [q1] at h; exact h
  | ok ds e1 =>
    rw [q1] at h
    have hl := ln _ _ _ q1
    intro vs H' R' E P A
    match ds, hl, A, h with
    | [d, d'], _, A, h =>
      obtain ⟨v, v', rfl, r, r'⟩ := all2 A
      have ex : ∀ r : Out (List D), (match [d, d'] with
        | [.int j] => if j.toNat ≤ sizeLine ∧ -(2 ^ 62) ≤ j then Out.ok (rangeD 0 j.toNat) e1 else .bad
        | [.int i, .int j] => if (j - i).toNat ≤ sizeLine ∧ (-(2 ^ 61) ≤ i ∧ i < 2 ^ 61) ∧ -(2 ^ 61) ≤ j then .ok (rangeD i (j - i).toNat) e1 else .bad
        | _ => .bad) = r → r ≠ .bad → ∃ i j : Int, d = .int i ∧ d' = .int j := by
        intro r hr hb
        cases d <;> first | (exact (hb hr.symm).elim) | skip
        cases d' <;> first | (exact (hb hr.symm).elim) | skip
        exact ⟨_, _, rfl, rfl⟩
      obtain ⟨i, j, rfl, rfl⟩ := ex _ rfl (fun z => by
        have h : PostI W G O L p Wx env σ H R (match [d, d'] with
          | [.int j] => if j.toNat ≤ sizeLine ∧ -(2 ^ 62) ≤ j then Out.ok (rangeD 0 j.toNat) e1 else .bad
          | [.int i, .int j] => if (j - i).toNat ≤ sizeLine ∧ (-(2 ^ 61) ≤ i ∧ i < 2 ^ 61) ∧ -(2 ^ 61) ≤ j then .ok (rangeD i (j - i).toNat) e1 else .bad
          | _ => .bad) := h
        rw [z] at h
        exact h)
      unfold Rp at r r'
      subst r r'
      have h : PostI W G O L p Wx env σ H R (if (j - i).toNat ≤ sizeLine ∧ (-(2 ^ 61) ≤ i ∧ i < 2 ^ 61) ∧ -(2 ^ 61) ≤ j then .ok (rangeD i (j - i).toNat) e1 else .bad) := h
      by_cases c : (j - i).toNat ≤ sizeLine ∧ (-(2 ^ 61) ≤ i ∧ i < 2 ^ 61) ∧ -(2 ^ 61) ≤ j
      · rw [if_pos c] at h
        have := sizeLine_lt
        refine ⟨i, j, rfl, ⟨by omega, by omega, by omega, by omega⟩, h _ H' R' E P (items_rng c.1)⟩
      · rw [if_neg c] at h
        exact h.elim
/-- enumerate of a list -/
def dEnum (m : M (List D)) : M (List D) := fun env => (m env).bind fun ds e => match ds with
  | [.lst xs] => .ok (xs.mapIdx fun i d => .tup [.int (i : Nat), d]) e
  | [.ro xs] => .ok (xs.mapIdx fun i d => .tup [.int (i : Nat), d]) e
  | _ => .bad
theorem items_enum {K : PySem.W.Frag} {a : Addr} {vs : List V} {ds : List D} (hs : ∀ (Z : Addr → Prop), (∀ a, Z a → H a ≠ none → Zo L a) → ∀ H', Ev W Z H H' → SqL K H' a vs) (sz : vs.length ≤ sizeLine) (r : RpL W (Zo L) H ds vs) :
    ItemsOk W (Ite K a) L H (ds.mapIdx fun i d => .tup [.int (i : Nat), d]) := by
  refine ⟨by rw [List.length_mapIdx, r.length]; exact sz, fun Z hz i H' ev => ?_⟩
  have h' := hs Z hz H' ev
  rw [List.length_mapIdx]
  refine ⟨fun hi => ?_, fun hi => ⟨vs, h', by rw [← r.length]; exact hi⟩⟩
  obtain ⟨x, d, h1, h2, h3⟩ := items_vals r hz ev hi
  refine ⟨⟨vs, x, h', h1⟩, fun y H2 hy => ?_⟩
  obtain ⟨T, x', rfl, nT, rfl, hx⟩ := hy
  have := hx vs h'
  rw [h1] at this
  have ex : x = x' := Option.some.inj this
  subst ex
  refine ⟨Ev.new nT, .tup [.int (i : Nat), d], by rw [List.getElem?_mapIdx, h2]; rfl, ?_⟩
  unfold Rp
  refine ⟨T, _, rfl, ⟨SqT.of upd_same, by rw [sizeLine_eq]; show 2 ≤ 16777216; decide⟩, ?_⟩
  unfold RpL
  refine ⟨_, _, rfl, by unfold Rp; rfl, ?_⟩
  unfold RpL
  refine ⟨_, _, rfl, Rp.ev (Ev.new nT) d x h3, by unfold RpL; rfl⟩
theorem di_enum {a : Expr} {ms : M (List D)} {elts : List Expr} {kk : Nat} {p0 pos tpos : Pos} (hg : Gl X "enumerate") (hm : X.mg "enumerate" = none) (ha : DAr W X Wx O [a] ms 2 p) (hs : starEach [a] X.env = [(false, eval a X.env)] := by rfl) :
    DI W X Wx O (.Tuple elts kk tpos) (.Call (.Name "enumerate" p0) [a] [] pos) (dEnum ms) p := by
  obtain ⟨k, ln, t, pa, s⟩ := ha
  refine ⟨k, _, pi_enum hg hm pa hs, fun G L env σ H R Rl h => s G L env σ H _ Rl ?_⟩
  unfold dEnum at h
  cases q1 : ms env with
  | bad => rw [q1] at h; exact h.elim
  | exc c a e => rw [q1] at h; exact h
  | ok ds e1 =>
    rw [q1] at h
    have hl := ln _ _ _ q1
    intro vs H' R' E P A
    have A2 := A.two
    match ds, hl, A2, h with
    | [d], _, A2, h =>
      unfold RpL at A2
      obtain ⟨v, us, rfl, r, r0⟩ := A2
      unfold RpL at r0
      subst r0
      match d, r, h with
      | .lst xs, r, h =>
        unfold Rp at r
        obtain ⟨a, vs, rfl, na, ⟨h2, sz⟩, h3⟩ := r
        exact ⟨a, vs, rfl, SqL.of h2, h _ H' R' E P (items_enum (fun Z hz H2 ev => SqL.of (ev.lst a vs h2 fun z => na (hz a z (by rw [h2]; exact fun w => nomatch w)))) sz h3)⟩
      | .ro xs, r, h =>
        unfold Rp at r
        obtain ⟨a, vs, rfl, ⟨h2, sz⟩, h3⟩ := r
        refine ⟨a, vs, rfl, by rw [k]; exact h2.sq, h _ H' R' E P ?_⟩
        rw [k]
        exact items_enum (fun Z hz H2 ev => (ev.rol h2).sq) sz h3
      | .int _, _, h => exact h.elim
      | .non, _, h => exact h.elim
      | .bool _, _, h => exact h.elim
      | .str _, _, h => exact h.elim
      | .tup _, _, h => exact h.elim
      | .dic _, _, h => exact h.elim
      | .obj _ _, _, h => exact h.elim
end

/-! ### targets -/
theorem Rel.congr {W : Wd} {G : Gh} {O O' : List Nat} {L : Lab} {env : EnvD} {σ : L2.St} {H : Hp} (R : Rel W G O L env σ H) (h : ∀ i, O'.getD i 0 = O.getD i 0) : Rel W G O' L env σ H :=
  ⟨R.len, fun i d e => by rw [h]; exact R.slot i d e, R.dom, R.ent, R.ext, R.loc, fun hn => by rw [h]; exact R.first hn, R.zero⟩
theorem wipe_set {i : Nat} {v : Option V} : ∀ {vs : List Nat} {σ : L2.St}, i ∈ vs → wipe (σ.set i v) vs = wipe σ vs
  | [], _, h => (List.not_mem_nil h).elim
  | j :: vs, σ, h => by
    unfold wipe
    by_cases e : i ∈ vs
    · rw [wipe_set e]
    · have ej : i = j := (List.mem_cons.mp h).resolve_right e
      subst ej
      have : ∀ (vs : List Nat), i ∉ vs → wipe (σ.set i v) vs = (wipe σ vs).set i v := by
        intro vs
        induction vs with
        | nil => intro _; rfl
        | cons k r ih =>
          intro hn
          have hk : k ≠ i := fun z => hn (by simp [z])
          have hr : i ∉ r := fun z => hn (by simp [z])
          show (wipe (σ.set i v) r).set k none = ((wipe σ r).set k none).set i v
          rw [ih hr, List.set_comm _ _ (Ne.symm hk)]
      rw [this vs e, List.set_set]
structure DG (W : Wd) (X : Cx) (O : List Nat) (tg : Expr) (gd : D → EnvD → Option EnvD) (is : List Nat) : Prop where
  run : ∃ g, PG X tg g ∧ ∀ (G : Gh) (L : Lab) (env : EnvD) (σ : L2.St) (H : Hp) (x : V) (d : D) (Q : L2.St → Hp → Prop), Rel W G O L env σ H → Rp W (Zo L) H d x →
    (∃ env', gd d env = some env' ∧ ∀ σ', Rel W G O L env' σ' H → (∀ vs, (∀ i ∈ is, i ∈ vs) → wipe σ' vs = wipe σ vs) → Q σ' H) → g x σ H Q
structure DGs (W : Wd) (X : Cx) (O : List Nat) (tgs : List Expr) (gd : List D → EnvD → Option EnvD) (is : List Nat) : Prop where
  run : ∃ g, PGs X tgs g ∧ ∀ (G : Gh) (L : Lab) (env : EnvD) (σ : L2.St) (H : Hp) (xs : List V) (ds : List D) (Q : L2.St → Hp → Prop), Rel W G O L env σ H → RpL W (Zo L) H ds xs →
    (∃ env', gd ds env = some env' ∧ ∀ σ', Rel W G O L env' σ' H → (∀ vs, (∀ i ∈ is, i ∈ vs) → wipe σ' vs = wipe σ vs) → Q σ' H) → g xs σ H Q
def gN (i : Nat) : D → EnvD → Option EnvD := fun d env => some (env.set i (some d))
section
variable {W : Wd} {X : Cx} {O : List Nat} {tg : Expr} {tgs : List Expr} {x : Str} {pos : Pos} {i : Nat}
theorem dg_name (pg : PG X (.Name x pos) (gName i)) (o : O.getD i 0 = 0 := by rfl) (hi : i ≠ 0 ∨ O.getD 0 0 = 0 := by decide) : DG W X O (.Name x pos) (gN i) [i] := by
  refine ⟨_, pg, fun G L env σ H x d Q R r h => ?_⟩
  obtain ⟨env', he, h⟩ := h
  cases he
  have R2 := R.set r (hi.imp id fun z => Decidable.by_contra fun hn => hn ((R.first hn).2.symm.trans z))
  refine h _ (R2.congr fun j => ?_) fun vs hv => wipe_set (hv i (by simp))
  rw [getD_set]
  split
  · rename_i c
    rw [← c.1]
    exact o
  · rfl
def gsNil : List D → EnvD → Option EnvD := fun ds env => match ds with
  | [] => some env
  | _ => none
def gsCons (g : D → EnvD → Option EnvD) (gs : List D → EnvD → Option EnvD) : List D → EnvD → Option EnvD := fun ds env => match ds with
  | d :: r => (g d env).bind (gs r)
  | [] => none
theorem dgs_nil : DGs W X O [] gsNil [] := ⟨_, pgs_nil, fun G L env σ H xs ds Q R r h => by
  obtain ⟨env', he, h⟩ := h
  match ds, he, r with
  | [], he, r =>
    unfold RpL at r
    cases he
    exact ⟨r, h σ R fun _ _ => rfl⟩⟩
theorem dgs_cons {e : Expr} {es : List Expr} {g : D → EnvD → Option EnvD} {gs : List D → EnvD → Option EnvD} {is js : List Nat} (h1 : DG W X O e g is) (h2 : DGs W X O es gs js) (pc : ∀ {t u}, PG X e t → PGs X es u → PGs X (e :: es) (gCons t u)) : DGs W X O (e :: es) (gsCons g gs) (is ++ js) := by
  obtain ⟨t, pt, st⟩ := h1
  obtain ⟨u, pu, su⟩ := h2
  refine ⟨_, pc pt pu, fun G L env σ H xs ds Q R r h => ?_⟩
  obtain ⟨env', he, h⟩ := h
  match ds, he, r with
  | [], he, r => cases he
  | d :: ds, he, r =>
    unfold RpL at r
    obtain ⟨v, us, rfl, r1, r2⟩ := r
    have he : (g d env).bind (gs ds) = some env' := he
    cases q : g d env with
    | none => rw [q] at he; cases he
    | some e1 =>
      rw [q] at he
      refine ⟨v, us, rfl, st G L env σ H v d _ R r1 ⟨e1, q, fun σ' R' w => ?_⟩⟩
      refine su G L e1 σ' H us ds _ R' r2 ⟨env', he, fun σ2 R2 w2 => h σ2 R2 fun vs hv => ?_⟩
      rw [w2 vs (fun i hi => hv i (List.mem_append_right _ hi)), w vs (fun i hi => hv i (List.mem_append_left _ hi))]
def gT (n : Nat) (gs : List D → EnvD → Option EnvD) : D → EnvD → Option EnvD := fun d env => match d with
  | .tup ds => if ds.length = n then gs ds env else none
  | _ => none
theorem dg_tup {es : List Expr} {k n : Nat} {gs : List D → EnvD → Option EnvD} {is : List Nat} (hc : X.calm = true) (hk : X.K = W.K) (h : DGs W X O es gs is) (hn : (assignEach es X.env).length = n := by rfl) (hst : (assignEach es X.env).findIdx? (·.1) = none := by rfl) :
    DG W X O (.Tuple es k pos) (gT n gs) is := by
  obtain ⟨u, pu, su⟩ := h
  refine ⟨_, pg_tup hc pu hn hst, fun G L env σ H x d Q R r h => ?_⟩
  obtain ⟨env', he, h⟩ := h
  match d, he, r with
  | .tup ds, he, r =>
    unfold Rp at r
    obtain ⟨a, vs, rfl, ⟨h2, _⟩, h3⟩ := r
    have he : (if ds.length = n then gs ds env else none) = some env' := he
    by_cases c : ds.length = n
    · rw [if_pos c] at he
      exact ⟨a, vs, rfl, by rw [hk]; exact h2, by rw [← h3.length]; exact c, su G L env σ H vs ds Q R h3 ⟨env', he, h⟩⟩
    · rw [if_neg c] at he
      cases he
  | .non, he, _ => cases he
  | .bool _, he, _ => cases he
  | .int _, he, _ => cases he
  | .str _, he, _ => cases he
  | .lst _, he, _ => cases he
  | .ro _, he, _ => cases he
  | .dic _, he, _ => cases he
  | .obj _ _, he, _ => cases he
end

/-! ### for -/
def forGo (gd : D → EnvD → Option EnvD) (body : MS) : List D → MS
  | [], env => .nx env
  | d :: ds, env => match gd d env with
    | none => .bad
    | some e => match body e with
      | .nx e2 => forGo gd body ds e2
      | .ct e2 => forGo gd body ds e2
      | .bk e2 => .nx e2
      | r => r
def dFor (src : M (List D)) (gd : D → EnvD → Option EnvD) (body : MS) : MS := fun env => match src env with
  | .ok ds e => forGo gd body ds e
  | .exc c a e => .exc c a e
  | .bad => .bad
theorem zo_items {W : Wd} {J : It} {L L' : Lab} {H0 H : Hp} {ds : List D} (I : ItemsOk W J L H0 ds) (f : Fw W L H0 L' H) {i : Nat} :
    (i < ds.length → J.go i H ∧ ∀ x H', J.yld i H x H' → Ev W No H H' ∧ ∃ d, ds[i]? = some d ∧ Rp W (Zo L') H' d x) ∧ (ds.length ≤ i → J.stop i H) := by
  obtain ⟨h1, h2⟩ := I.2 (fun a => Zo L a ∨ Zo L' a) (fun a z hn => z.elim id fun z => (f.lab a z).resolve_right hn) i H (f.ev.mono fun a z _ => Or.inl z)
  refine ⟨fun hi => ?_, h2⟩
  obtain ⟨g, y⟩ := h1 hi
  refine ⟨g, fun x H' hy => ?_⟩
  obtain ⟨ev, d, e1, e2⟩ := y x H' hy
  exact ⟨ev, d, e1, Rp.shun (fun a z _ => Or.inr z) d x e2⟩
theorem ds_for {W : Wd} {X : Cx} {Wx : WX} {F : Fc} {O : List Nat} {tg iter : Expr} {body : List Stmt} {src : M (List D)} {p : Bool} {gd : D → EnvD → Option EnvD} {is : List Nat} {mb : MS} {pos : Pos} (hp : PassesOwn (model X.prog X.w) X.A X.env X.xe) (hc : X.calm = true)
    (hi : DI W X Wx O tg iter src p) (hg : DG W X O tg gd is) (hb : DSs W X Wx ⟨O, F.ort, F.ox, F.fr⟩ O body mb O) (hs : ∀ x, foldedSetIterable iter X.env x = pure x := by intro _; rfl) (cx : thinB O F.ox = true := by decide) :
    DS W X Wx F O (.For tg iter body [] pos) (dFor src gd mb) O := by
  obtain ⟨k, wi, pi, si⟩ := hi
  obtain ⟨gt, pg, sg⟩ := hg
  obtain ⟨_, tb, pb, sb⟩ := hb
  refine ⟨k, _, ps_for hp hc pi pg pb hs, fun G L env σ H Dn g R h => si G L env σ H _ R ?_⟩
  unfold dFor at h
  cases q1 : src env with
  | bad => rw [q1] at h; exact h.elim
  | exc c a e =>
    rw [q1] at h
    exact exc_out (z := 0) (p := true) (env := env) (fun hn => (g hn).2.1) cx h
  | ok ds e1 =>
    rw [q1] at h
    intro J H1 R1 E1 P1 I
    have h : PostS W G F Wx O L H Dn (forGo gd mb ds e1) := h
    have h := h.fw (Fw.of E1)
    refine ⟨fun i m σ' H' => i + m = ds.length ∧ ∃ env' L', Rel W G O L' env' σ' H' ∧ Fw W L H1 L' H' ∧ PostS W G F Wx O L' H' Dn (forGo gd mb (ds.drop i) env'), ⟨ds.length, by simp, e1, L, R1, Fw.refl, h⟩, ?_⟩
    rintro i m σ' H' ⟨hm, env', L', R', f, hp'⟩
    obtain ⟨hgo, hstop⟩ := zo_items I f (i := i)
    by_cases hi : i < ds.length
    · obtain ⟨g1, g2⟩ := hgo hi
      have dr : ds.drop i = ds[i] :: ds.drop (i + 1) := List.drop_eq_getElem_cons hi
      rw [dr] at hp'
      refine .inr ⟨g1, fun σ2 H2 => ∃ env2 L2, Rel W G O L2 env2 σ2 H2 ∧ Fw W L H1 L2 H2 ∧ PostS W G F Wx O L2 H2 Dn (forGo gd mb (ds.drop (i + 1)) env2), fun σ2 H2 ⟨env2, L2, r2, f2, p2⟩ => ⟨m - 1, by omega, by omega, env2, L2, r2, f2, p2⟩, fun x H2 hy => ?_⟩
      obtain ⟨ev, d, hd, rd⟩ := g2 x H2 hy
      have hd' : ds[i] = d := by
        rw [List.getElem?_eq_getElem hi] at hd
        exact Option.some.inj hd
      rw [hd'] at hp'
      have R2 := R'.pure ev
      have hp' : PostS W G F Wx O L' H' Dn (match gd d env' with | none => .bad | some e => match mb e with | .nx e2 => forGo gd mb (ds.drop (i + 1)) e2 | .ct e2 => forGo gd mb (ds.drop (i + 1)) e2 | .bk e2 => .nx e2 | r => r) := hp'
      cases qg : gd d env' with
      | none => rw [qg] at hp'; exact hp'.elim
      | some e2 =>
        rw [qg] at hp'
        refine sg G L' env' σ' H2 x d _ R2 rd ⟨e2, qg, fun σ3 R3 _ => ?_⟩
        refine sb G L' e2 σ3 H2 _ (fun hn => ⟨(g hn).1, (g hn).2.1, (R1.first hn).2⟩) R3 ?_
        have f2 : Fw W L H1 L' H2 := f.trans (Fw.of (p := true) ev)
        have hp' : PostS W G F Wx O L' H' Dn (match mb e2 with | .nx e2 => forGo gd mb (ds.drop (i + 1)) e2 | .ct e2 => forGo gd mb (ds.drop (i + 1)) e2 | .bk e2 => .nx e2 | r => r) := hp'
        have hp2 := hp'.fw (Fw.of (p := true) ev)
        cases qb : mb e2 with
        | nx e3 =>
          rw [qb] at hp2
          exact fun σ4 H4 L4 R4 f4 => ⟨e3, L4, R4, f2.trans f4, hp2.fw f4⟩
        | ct e3 =>
          rw [qb] at hp2
          exact fun σ4 H4 L4 R4 f4 => ⟨e3, L4, R4, f2.trans f4, hp2.fw f4⟩
        | bk e3 =>
          rw [qb] at hp2
          exact fun σ4 H4 L4 R4 f4 => hp2 σ4 H4 L4 R4 f4
        | rt d e3 => rw [qb] at hp2; exact hp2
        | exc c a e3 => rw [qb] at hp2; exact hp2
        | bad => rw [qb] at hp2; exact hp2.elim
    · have : ds.drop i = [] := List.drop_eq_nil_of_le (by omega)
      rw [this] at hp'
      exact .inl ⟨hstop (by omega), hp' σ' H' L' R' Fw.refl⟩
end DL
/-! DLComp: list comprehensions over data. -/
namespace DL
open PySem PySem.Spec PyProof.Rows L2

/-! ### readings that do not lean on a context -/
def tE (W : Wd) (Wx : WX) (O : List Nat) (m : M D) (z : Nat) (p : Bool) : TE := fun σ H Q => ∃ (G : Gh) (L : Lab) (env : EnvD), Rel W G O L env σ H ∧ PostE W G O L p z Wx env σ H Q (m env)
def tT (W : Wd) (Wx : WX) (O : List Nat) (m : M Bool) (p : Bool) : TT := fun σ H Q => ∃ (G : Gh) (L : Lab) (env : EnvD), Rel W G O L env σ H ∧ PostT W G O L p Wx env σ H Q (m env)
def tG (W : Wd) (O : List Nat) (gd : D → EnvD → Option EnvD) (is : List Nat) : TG := fun x σ H Q => ∃ (G : Gh) (L : Lab) (env : EnvD) (d : D), Rel W G O L env σ H ∧ Rp W (Zo L) H d x ∧
  ∃ env', gd d env = some env' ∧ ∀ σ', Rel W G O L env' σ' H → (∀ vs, (∀ i ∈ is, i ∈ vs) → wipe σ' vs = wipe σ vs) → Q σ' H
section
variable {W : Wd} {X : Cx} {Wx : WX} {O : List Nat} {e tg : Expr} {m : M D} {mt : M Bool} {z : Nat} {p : Bool} {gd : D → EnvD → Option EnvD} {is : List Nat}
theorem DE.plain_ (h : DE W X Wx O e m z p) : PE X e (tE W Wx O m z p) := by
  obtain ⟨_, t, pe, s⟩ := h
  exact ⟨fun pins st σ H Q I ⟨G, L, env, R, q⟩ => pe.run pins st σ H Q I (s G L env σ H Q R q)⟩
theorem DT.plain_ (h : DT W X Wx O e mt p) : PT X e (tT W Wx O mt p) := by
  obtain ⟨_, t, pe, s⟩ := h
  exact ⟨fun pins st σ H Q I ⟨G, L, env, R, q⟩ => pe.run pins st σ H Q I (s G L env σ H Q R q)⟩
theorem DG.plain_ (h : DG W X O tg gd is) : PG X tg (tG W O gd is) := by
  obtain ⟨t, pg, s⟩ := h
  exact ⟨fun pins st σ H v u Q I r ⟨G, L, env, d, R, rp, env', he, q⟩ => pg.run pins st σ H v u Q I r (s G L env σ H v d Q R rp ⟨env', he, q⟩)⟩
end

def wipeE (env : EnvD) : List Nat → EnvD
  | [] => env
  | v :: vs => (wipeE env vs).set v none
theorem wipeE_len (env : EnvD) : ∀ vs, (wipeE env vs).length = env.length
  | [] => rfl
  | v :: vs => by
    unfold wipeE
    rw [List.length_set, wipeE_len env vs]
theorem wipeE_some {env : EnvD} {i : Nat} {d : D} : ∀ {vs : List Nat}, (wipeE env vs)[i]? = some (some d) → env[i]? = some (some d) ∧ i ∉ vs
  | [], h => ⟨h, by simp⟩
  | v :: vs, h => by
    unfold wipeE at h
    by_cases hi : v = i
    · subst hi
      rw [List.getElem?_set] at h
      split at h
      · split at h <;> cases h
      · rename_i ne
        exact (ne rfl).elim
    · rw [List.getElem?_set_ne hi] at h
      obtain ⟨h1, h2⟩ := wipeE_some h
      exact ⟨h1, fun z => (List.mem_cons.mp z).elim (fun z => hi z.symm) h2⟩
theorem wipe_keep {σ : L2.St} {i : Nat} : ∀ {vs : List Nat}, i ∉ vs → (wipe σ vs)[i]? = σ[i]?
  | [], _ => rfl
  | v :: vs, h => by
    unfold wipe
    have h1 : v ≠ i := fun z => h (by simp [z])
    rw [List.getElem?_set_ne h1, wipe_keep fun z => h (by simp [z])]
theorem wipe_none {σ : L2.St} {j : Nat} : ∀ {us : List Nat}, j ∈ us → (wipe σ us)[j]? = some none ∨ (wipe σ us)[j]? = none
  | [], z => by cases z
  | k :: us, z => by
    unfold wipe
    by_cases e : k = j
    · subst e
      by_cases hl : k < (wipe σ us).length
      · left; rw [List.getElem?_set_self hl]
      · right; exact List.getElem?_eq_none (by simpa using hl)
    · rw [List.getElem?_set_ne e]
      exact wipe_none ((List.mem_cons.mp z).resolve_left fun z => e z.symm)
theorem wipe_id {τ : L2.St} : ∀ {us : List Nat}, (∀ j ∈ us, τ[j]? = some none ∨ τ[j]? = none) → wipe τ us = τ
  | [], _ => rfl
  | j :: us, hτ => by
    unfold wipe
    rw [wipe_id fun k hk => hτ k (List.mem_cons_of_mem _ hk)]
    rcases hτ j List.mem_cons_self with z | z
    · refine List.ext_getElem? fun k => ?_
      rw [List.getElem?_set]
      split
      · rename_i e
        subst e
        rw [z]
        split
        · rfl
        · rename_i hk
          rw [List.getElem?_eq_none (by omega)] at z
          cases z
      · rfl
    · exact List.set_eq_of_length_le (by have := List.getElem?_eq_none_iff.mp z; omega)
theorem wipe_wipe {σ : L2.St} {vs : List Nat} : wipe (wipe σ vs) vs = wipe σ vs := wipe_id fun _ hj => wipe_none hj
section
variable {W : Wd} {G : Gh} {O : List Nat} {L : Lab} {env : EnvD} {σ σ' : L2.St} {H : Hp} {vs : List Nat}
/-- into a block: its own slots are forgotten -/
theorem Rel.wipe (R : Rel W G O L env σ H) (h0 : G.n ≠ 0 → 0 ∉ vs) : Rel W G O L (wipeE env vs) (wipe σ vs) H := by
  refine ⟨by rw [wipeE_len, wipe_length, R.len], fun i d h => ?_, R.dom, R.ent, R.ext, R.loc, fun hn => ?_, R.zero⟩
  · obtain ⟨h1, h2⟩ := wipeE_some h
    obtain ⟨v, q1, q2⟩ := R.slot i d h1
    exact ⟨v, by rw [wipe_keep h2]; exact q1, q2⟩
  · obtain ⟨a, b⟩ := R.first hn
    exact ⟨by rw [wipe_keep (h0 hn)]; exact a, b⟩
/-- and out of it -/
theorem Rel.unwipe (R : Rel W G O L env σ' H) (w : L2.wipe σ' vs = L2.wipe σ vs) (h0 : G.n ≠ 0 → 0 ∉ vs) (len : σ.length = σ'.length) : Rel W G O L (wipeE env vs) σ H := by
  refine ⟨by rw [wipeE_len, R.len, len], fun i d h => ?_, R.dom, R.ent, R.ext, R.loc, fun hn => ?_, R.zero⟩
  · obtain ⟨h1, h2⟩ := wipeE_some h
    obtain ⟨v, q1, q2⟩ := R.slot i d h1
    refine ⟨v, ?_, q2⟩
    rw [← wipe_keep (σ := σ) h2, ← w, wipe_keep h2]
    exact q1
  · obtain ⟨a, b⟩ := R.first hn
    refine ⟨?_, b⟩
    rw [← wipe_keep (σ := σ) (h0 hn), ← w, wipe_keep (h0 hn)]
    exact a
theorem Ev.trans2 {Z Z' : Addr → Prop} {H H1 H2 : Hp} (a : Ev W Z H H1) (b : Ev W Z' H1 H2) (h : ∀ c, Z' c → H c ≠ none → Z c) : Ev W Z H H2 :=
  ⟨fun c xs q z => b.lst c xs (a.lst c xs q z) fun w => z (h c w (by rw [q]; exact fun w => nomatch w)), fun c xs q => b.tup c xs (a.tup c xs q), fun c o u q => b.frz c o u (a.frz c o u q),
    fun c xs q z => b.dk c xs (a.dk c xs q z) fun w => z (h c w (by rw [q]; exact fun w => nomatch w)), fun c xs q z => b.dt c xs (a.dt c xs q z) fun w => z (h c w (by rw [q]; exact fun w => nomatch w)), fun c k ds q => b.obj c k ds (a.obj c k ds q), fun c q => a.dom c (b.dom c q)⟩
/-- a label beyond all slots is changed to another one -/
theorem Rel.relay {p : Addr} {i j : Nat} (hL : L p = none) (R : Rel W G O (DL.lay L p [i]) env σ H) (hi : O.length ≤ i) (hj : j ≠ 0) : Rel W G O (DL.lay L p [j]) env σ H := by
  have zz : ∀ a, Zo (DL.lay L p [j]) a ↔ Zo (DL.lay L p [i]) a := fun a => by
    unfold Zo
    by_cases e : a = p
    · rw [e, DL.lay_same, DL.lay_same]
      exact ⟨fun _ w => (nomatch w), fun _ w => (nomatch w)⟩
    · rw [DL.lay_ne e, DL.lay_ne e]
  have np : G.L p = none := by
    cases q : G.L p with
    | none => rfl
    | some l =>
      have := R.ext p l q
      rw [DL.lay_same] at this
      rcases G.hd p l q with w | ⟨r, w⟩
      · rw [w] at this; cases this
      · rw [w] at this
        have := (List.cons.inj (Option.some.inj this)).1
        subst this
        by_cases hn : G.n = 0
        · rw [w] at q
          exact (G.no hn p r q).elim
        · have o := (R.first hn).2
          rw [List.getD_eq_getElem?_getD, List.getElem?_eq_none_iff.mpr (by omega)] at o
          exact (hn o.symm).elim
  refine ⟨R.len, fun k d h => ?_, fun a z => R.dom a ((zz a).mp z), R.ent, fun a l h => ?_, fun a l h g => ?_, R.first, fun hn a q h => ?_⟩
  · obtain ⟨v, h1, h2⟩ := R.slot k d h
    refine ⟨v, h1, ?_⟩
    by_cases hk : k < O.length
    · refine Ow.map (fun d v => Rp.shun (fun a z _ => (zz a).mp z) d v) _ [k] [k] d v (fun a r us e1 e2 => ⟨?_, e2⟩) h2
      have ne : a ≠ p := fun e => by
        rw [e, DL.lay_same] at e1
        have e1' : some [i] = some (k :: r) := e1
        have := (List.cons.inj (Option.some.inj e1')).1
        omega
      rw [DL.lay_ne ne] at e1 ⊢
      exact e1
    · have o : O.getD k 0 = 0 := by
        rw [List.getD_eq_getElem?_getD, List.getElem?_eq_none_iff.mpr (by omega)]
        rfl
      rw [o] at h2 ⊢
      exact Rp.shun (fun a z _ => (zz a).mp z) d v h2
  · have ne : a ≠ p := fun e => by rw [e, np] at h; cases h
    have := R.ext a l h
    rw [DL.lay_ne ne] at this ⊢
    exact this
  · by_cases e : a = p
    · rw [e, DL.lay_same] at h
      rw [e]
      exact ⟨(R.loc p [i] DL.lay_same np).1, j, [], (Option.some.inj h).symm⟩
    · rw [DL.lay_ne e] at h
      exact R.loc a l (by rw [DL.lay_ne e]; exact h) g
  · by_cases e : a = p
    · rw [e, DL.lay_same] at h
      exact (hj (List.cons.inj (Option.some.inj h)).1).elim
    · rw [DL.lay_ne e] at h
      exact R.zero hn a q (by rw [DL.lay_ne e]; exact h)
end

/-- the hidden list is written -/
theorem Rel.hide {W : Wd} {G : Gh} {O : List Nat} {L : Lab} {env : EnvD} {σ : L2.St} {H : Hp} {p : Addr} {xs ys : List V} (R : Rel W G O (DL.lay L p [tmp + 1]) env σ H) (h : H p = some (.lst xs)) (hl : O.length ≤ tmp) : Rel W G O (DL.lay L p [tmp + 1]) env σ (upd H p (.lst ys)) := by
  have evD : Ev W (fun a => a = p) H (upd H p (.lst ys)) := Ev.put h rfl
  have evZ : Ev W (Zo (DL.lay L p [tmp + 1])) H (upd H p (.lst ys)) := evD.mono fun a z _ w => by rw [z, DL.lay_same] at w; cases w
  refine ⟨R.len, fun i d e => ?_, fun a z => ?_, R.entry evD fun a z => ⟨tmp + 1, [], by rw [z]; exact DL.lay_same⟩, R.ext, R.loc, R.first, R.zero⟩
  · obtain ⟨v, h1, h2⟩ := R.slot i d e
    refine ⟨v, h1, ?_⟩
    by_cases hi : i < O.length
    · refine Ow.map (fun d v => Rp.ev evZ d v) _ _ _ d v (fun a q us e1 e2 => ⟨e1, evD.lst a us e2 fun z => ?_⟩) h2
      rw [z, DL.lay_same] at e1
      have e1' : some [tmp + 1] = some (i :: q) := e1
      have := (List.cons.inj (Option.some.inj e1')).1
      omega
    · have o : O.getD i 0 = 0 := by
        rw [List.getD_eq_getElem?_getD, List.getElem?_eq_none_iff.mpr (by omega)]
        rfl
      rw [o] at h2 ⊢
      exact Rp.ev evZ d v h2
  · exact fun w => R.dom a z (evD.dom a w)

/-- the loop of a comprehension; b: nothing changes within -/
def lcGo (b : Bool) (gd : D → EnvD → Option EnvD) (mt : M Bool) (me : M D) (vs : List Nat) : List D → EnvD → Option (List D × EnvD)
  | [], env => some ([], env)
  | d :: ds, env => match gd d (wipeE env vs) with
    | none => none
    | some e1 => match mt e1 with
      | .ok true e2 => (match me e2 with
        | .ok y e3 => (match lcGo b gd mt me vs ds (if b = true then env else wipeE e3 vs) with
          | some r => some (y :: r.1, r.2)
          | none => none)
        | _ => none)
      | .ok false e2 => lcGo b gd mt me vs ds (if b = true then env else wipeE e2 vs)
      | _ => none
def dLc (b : Bool) (src : M (List D)) (gd : D → EnvD → Option EnvD) (mt : M Bool) (me : M D) (vs : List Nat) : M D := fun env => match src env with
  | .ok ds e => (match lcGo b gd mt me vs ds e with
    | some r => .ok (.lst r.1) r.2
    | none => .bad)
  | .exc c a e => .exc c a e
  | .bad => .bad
abbrev Wx0 : WX := fun _ _ _ _ => False
/-- what a comprehension asks of the things that it walks; b: nothing changes meanwhile -/
def Walks (W : Wd) (b : Bool) (IO : It → Lab → Hp → List D → Prop) : Prop := ∀ J L H1 ds, IO J L H1 ds → ds.length ≤ sizeLine ∧ ∀ (L' : Lab) (H' : Hp), Fw W L H1 L' H' → Ev W (Zp b L) H1 H' → ∀ i : Nat,
  (i < ds.length → J.go i H' ∧ ∀ x H2, J.yld i H' x H2 → Ev W No H' H2 ∧ ∃ d, ds[i]? = some d ∧ Rp W (Zo L') H2 d x) ∧ (ds.length ≤ i → J.stop i H')
def PostIg (W : Wd) (IO : It → Lab → Hp → List D → Prop) (G : Gh) (O : List Nat) (L : Lab) (p : Bool) (Wx : WX) (env : EnvD) (σ : L2.St) (H : Hp) (R : It → Hp → Prop) : Out (List D) → Prop
  | .ok ds env' => ∀ J H', Rel W G O L env' σ H' → Ev W (Zp p L) H H' → (p = true → env' = env) → IO J L H' ds → R J H'
  | .exc c a env' => ∀ cv dd H', Rel W G O L env' σ H' → ExR W L c a cv dd H' → Wx cv dd σ H'
  | .bad => False
theorem walks_ok {W : Wd} {b : Bool} : Walks W b (ItemsOk W) := fun J L H1 ds I => ⟨I.1, fun L' H' f _ i => zo_items I f (i := i)⟩
theorem postIg {W : Wd} {G : Gh} {O : List Nat} {L : Lab} {p : Bool} {Wx : WX} {env : EnvD} {σ : L2.St} {H : Hp} {R : It → Hp → Prop} {o : Out (List D)} (h : PostIg W (ItemsOk W) G O L p Wx env σ H R o) : PostI W G O L p Wx env σ H R o := by
  cases o <;> exact h
theorem snd_lcG {IO : It → Lab → Hp → List D → Prop} {W : Wd} {Wx : WX} {O : List Nat} {wi : TI} {src : M (List D)} {p b : Bool} {gd : D → EnvD → Option EnvD} {is vs : List Nat} {mt : M Bool} {me : M D}
    (si : ∀ (G : Gh) (L : Lab) (env : EnvD) (σ : L2.St) (H : Hp) (R : It → Hp → Prop), Rel W G O L env σ H → PostIg W IO G O L p Wx env σ H R (src env) → wi σ H R) (hio : Walks W b IO) (hv : ∀ i ∈ is, i ∈ vs) (hl : O.length ≤ tmp) (h0 : O.getD 0 0 = 0 ∨ 0 ∉ vs)
    {G : Gh} {L : Lab} {env : EnvD} {σ : L2.St} {H : Hp} {Q : VK} (R : Rel W G O L env σ H) (h : PostO W G O L (p && b) 1 Wx env σ H Q (dLc b src gd mt me vs env)) :
    tLc wi (tG W O gd is) (tT W Wx0 O mt b) (tE W Wx0 O me 2 b) vs σ H Q := by
  have hn0 : G.n ≠ 0 → 0 ∉ vs := fun hn => h0.resolve_left fun z => hn ((R.first hn).2.symm.trans z)
  refine si G L env σ H _ R ?_
  unfold dLc at h
  cases q1 : src env with
  | bad => rw [q1] at h; exact h.elim
  | exc c a e => rw [q1] at h; exact h
  | ok ds e1 =>
    rw [q1] at h
    intro J H1 R1 E1 P1 I Dn nD
    have h : PostO W G O L (p && b) 1 Wx env σ H Q (match lcGo b gd mt me vs ds e1 with | some r => .ok (.lst r.1) r.2 | none => .bad) := h
    cases q0 : lcGo b gd mt me vs ds e1 with
    | none => rw [q0] at h; exact h.elim
    | some r0 =>
    rw [q0] at h
    have nL := R1.free nD
    have hzp : ∀ a, Zp b (lay L Dn [tmp + 1]) a → H1 a ≠ none → Zp b L a := fun a z hn => by
      cases b with
      | true => exact z.elim
      | false =>
        obtain ⟨i, q, z, hi⟩ := z
        by_cases e : a = Dn
        · rw [e] at hn
          exact (hn nD).elim
        · rw [lay_ne e] at z
          exact ⟨i, q, z, hi⟩
    have notD : ¬ Zp b (lay L Dn [tmp + 1]) Dn := fun z => by
      cases b with
      | true => exact z
      | false =>
        obtain ⟨i, q, z, hi⟩ := z
        rw [lay_same] at z
        have := (List.cons.inj (Option.some.inj z)).1
        omega
    have fw : ∀ H', Ev W (Zp b L) H1 H' → Fw W L H1 (lay L Dn [tmp + 1]) H' := fun H' ev => ⟨ev.mono fun _ z _ => z.sub, fun a z => by
      by_cases e : a = Dn
      · right; rw [e]; exact nD
      · rw [lay_ne e] at z
        exact .inl z⟩
    refine ⟨fun i m H' => i + m = ds.length ∧ ∃ env' acc ys r, Rel W G O (lay L Dn [tmp + 1]) env' σ H' ∧ Ev W (Zp b L) H1 H' ∧ H' Dn = some (.lst acc) ∧ RpL W (Zo (lay L Dn [tmp + 1])) H' ys acc ∧ ys.length ≤ i ∧ (b = true → env' = e1) ∧
      lcGo b gd mt me vs (ds.drop i) env' = some r ∧ r0 = (ys ++ r.1, r.2), ⟨ds.length, by simp, e1, [], [], r0, R1.lay (o := .lst []) nD (i := tmp + 1) (q := []), Ev.new nD, upd_same, by unfold RpL; rfl, Nat.le_refl _, fun _ => rfl, q0, rfl⟩, ?_⟩
    rintro i m H' ⟨hm, env', acc, ys, r, R', ev, hD, ra, hy, hb, hr, h0'⟩
    obtain ⟨hgo, hstop⟩ := (hio J L H1 ds I).2 _ H' (fw H' ev) ev i
    by_cases hi : i < ds.length
    · obtain ⟨g1, g2⟩ := hgo hi
      have dr : ds.drop i = ds[i] :: ds.drop (i + 1) := List.drop_eq_getElem_cons hi
      rw [dr] at hr
      refine .inr ⟨g1, fun H2 => ∃ env2 acc2 ys2 r2, Rel W G O (lay L Dn [tmp + 1]) env2 σ H2 ∧ Ev W (Zp b L) H1 H2 ∧ H2 Dn = some (.lst acc2) ∧ RpL W (Zo (lay L Dn [tmp + 1])) H2 ys2 acc2 ∧ ys2.length ≤ i + 1 ∧ (b = true → env2 = e1) ∧
        lcGo b gd mt me vs (ds.drop (i + 1)) env2 = some r2 ∧ r0 = (ys2 ++ r2.1, r2.2), fun H2 z => ⟨m - 1, by omega, by omega, z⟩, fun x H2 hx => ?_⟩
      obtain ⟨evx, d, hd, rd⟩ := g2 x H2 hx
      have hd' : ds[i] = d := by
        rw [List.getElem?_eq_getElem hi] at hd
        exact Option.some.inj hd
      rw [hd'] at hr
      have R2 := (R'.pure evx).wipe (vs := vs) hn0
      have hr : (match gd d (wipeE env' vs) with
        | none => none
        | some e1 => match mt e1 with
          | .ok true e2 => (match me e2 with
            | .ok y e3 => (match lcGo b gd mt me vs (ds.drop (i + 1)) (if b = true then env' else wipeE e3 vs) with
              | some r => some (y :: r.1, r.2)
              | none => none)
            | _ => none)
          | .ok false e2 => lcGo b gd mt me vs (ds.drop (i + 1)) (if b = true then env' else wipeE e2 vs)
          | _ => none) = some r := hr
      cases qg : gd d (wipeE env' vs) with
      | none => rw [qg] at hr; cases hr
      | some ea =>
      rw [qg] at hr
      refine ⟨G, lay L Dn [tmp + 1], wipeE env' vs, d, R2, rd, ea, qg, fun σ2 R3 w => ⟨(w vs hv).trans wipe_wipe, G, lay L Dn [tmp + 1], ea, R3, ?_⟩⟩
      have w2 : wipe σ2 vs = wipe σ vs := (w vs hv).trans wipe_wipe
      have hr : (match mt ea with
          | .ok true e2 => (match me e2 with
            | .ok y e3 => (match lcGo b gd mt me vs (ds.drop (i + 1)) (if b = true then env' else wipeE e3 vs) with
              | some r => some (y :: r.1, r.2)
              | none => none)
            | _ => none)
          | .ok false e2 => lcGo b gd mt me vs (ds.drop (i + 1)) (if b = true then env' else wipeE e2 vs)
          | _ => none) = some r := hr
      have hD2 : H2 Dn = some (.lst acc) := evx.lst Dn acc hD fun z => z
      have hra2 := RpL.ev (Z := Zo (lay L Dn [tmp + 1])) (evx.mono fun _ z _ => z.elim) ys acc ra
      have ev2 : Ev W (Zp b L) H1 H2 := ev.trans (evx.mono fun _ z _ => z.elim)
      cases qt : mt ea with
      | bad => rw [qt] at hr; cases hr
      | exc c a e => rw [qt] at hr; cases hr
      | ok tb e2 =>
      rw [qt] at hr
      intro H3 R4 ev3 P3
      have hD3 : H3 Dn = some (.lst acc) := ev3.lst Dn acc hD2 notD
      have hra3 := RpL.ev (Z := Zo (lay L Dn [tmp + 1])) (ev3.mono fun _ z _ => z.sub) ys acc hra2
      have ev23 : Ev W (Zp b L) H1 H3 := ev2.trans2 ev3 hzp
      have back : ∀ (H5 : Hp) (e5 : EnvD), Rel W G O (lay L Dn [tmp + 1]) e5 σ2 H5 → (b = true → Ev W No H2 H5) → Rel W G O (lay L Dn [tmp + 1]) (if b = true then env' else wipeE e5 vs) σ H5 := fun H5 e5 R5 e => by
        by_cases hbt : b = true
        · rw [if_pos hbt]
          exact (R'.pure evx).pure (e hbt)
        · rw [if_neg hbt]
          have l2 : σ.length = σ2.length := by
            have := congrArg List.length w2
            rw [wipe_length, wipe_length] at this
            exact this.symm
          exact R5.unwipe w2 hn0 l2
      cases tb with
      | false =>
        rw [if_neg (by decide)]
        have hr : lcGo b gd mt me vs (ds.drop (i + 1)) (if b = true then env' else wipeE e2 vs) = some r := hr
        exact ⟨_, acc, ys, r, back H3 e2 R4 (fun z => by rw [z] at ev3; exact ev3), ev23, hD3, hra3, by omega, fun z => by rw [if_pos z]; exact hb z, hr, h0'⟩
      | true =>
        rw [if_pos rfl]
        have hr : (match me e2 with
            | .ok y e3 => (match lcGo b gd mt me vs (ds.drop (i + 1)) (if b = true then env' else wipeE e3 vs) with
              | some r => some (y :: r.1, r.2)
              | none => none)
            | _ => none) = some r := hr
        refine ⟨G, lay L Dn [tmp + 1], e2, R4, ?_⟩
        cases qe : me e2 with
        | bad => rw [qe] at hr; cases hr
        | exc c a e => rw [qe] at hr; cases hr
        | ok y e3 =>
        rw [qe] at hr
        have hr : (match lcGo b gd mt me vs (ds.drop (i + 1)) (if b = true then env' else wipeE e3 vs) with
              | some r => some (y :: r.1, r.2)
              | none => none) = some r := hr
        intro v H4 R5 ev4 P4 Z4
        have Z4 := Rp_of2 Z4
        have hD4 : H4 Dn = some (.lst acc) := ev4.lst Dn acc hD3 notD
        have hra4 := RpL.ev (Z := Zo (lay L Dn [tmp + 1])) (ev4.mono fun _ z _ => z.sub) ys acc hra3
        have ev24 : Ev W (Zp b L) H1 H4 := ev23.trans2 ev4 hzp
        cases ql : lcGo b gd mt me vs (ds.drop (i + 1)) (if b = true then env' else wipeE e3 vs) with
        | none => rw [ql] at hr; cases hr
        | some r2 =>
        rw [ql] at hr
        have hr : some (y :: r2.1, r2.2) = some r := hr
        have la : acc.length = ys.length := hra4.length.symm
        have evD : Ev W (fun a => a = Dn) H4 (upd H4 Dn (.lst (acc ++ [v]))) := Ev.put hD4 rfl
        have evZ : Ev W (Zo (lay L Dn [tmp + 1])) H4 (upd H4 Dn (.lst (acc ++ [v]))) := evD.mono fun a z _ w => by rw [z, lay_same] at w; cases w
        have R6 := back H4 e3 R5 (fun z => by rw [z] at ev3 ev4; exact ev3.trans ev4)
        refine ⟨acc, hD4, by have := (hio J L H1 ds I).1; omega, _, acc ++ [v], ys ++ [y], r2, R6.hide hD4 hl, ev24.trans2 evD (fun a z hn => by rw [z] at hn; exact (hn nD).elim), upd_same, ?_, by simp; omega, fun z => by rw [if_pos z]; exact hb z, ql, ?_⟩
        · refine RpL.append (RpL.ev evZ ys acc hra4) ?_
          unfold RpL
          exact ⟨v, [], rfl, Rp.ev evZ y v Z4, by unfold RpL; rfl⟩
        · rw [h0', ← Option.some.inj hr]
          simp
    · have de : ds.drop i = [] := List.drop_eq_nil_of_le (by omega)
      rw [de] at hr
      cases hr
      refine .inl ⟨hstop (by omega), ?_⟩
      rw [h0', List.append_nil] at h
      have szA : acc.length ≤ sizeLine := by have := (hio J L H1 ds I).1; have := ra.length; omega
      have Rt : Rel W G O (lay L Dn [tmp]) env' σ H' := R'.relay nL (by omega) (by decide)
      have Rn : Rel W G O L env' σ H' := R'.unlabel (fun a l z => by
        rw [lay_ne (fun e => by rw [e, nL] at z; cases z)]
        exact z) (fun a j q hj z => by
        by_cases e : a = Dn
        · rw [e, lay_same] at z
          have := (List.cons.inj (Option.some.inj z)).1
          omega
        · rw [lay_ne e] at z
          exact z) R1.ext
      have zt : ∀ a, Zo (lay L Dn [tmp]) a → Zo (lay L Dn [tmp + 1]) a := fun a z => by
        by_cases e : a = Dn
        · rw [e]
          unfold Zo
          rw [lay_same]
          exact fun w => nomatch w
        · unfold Zo at z ⊢
          rw [lay_ne e] at z ⊢
          exact z
      have zL : ∀ a, Zo L a → Zo (lay L Dn [tmp + 1]) a := fun a z => by
        have e : a ≠ Dn := fun e => z (by rw [e]; exact nL)
        unfold Zo
        rw [lay_ne e]
        exact z
      refine h _ H' (lay L Dn [tmp]) ⟨fun a l z => ?_, fun a l z w => ?_⟩ (fun a z => ?_) Rt Rn ?_ (fun z => ?_) ?_ ?_
      · rw [lay_ne (fun e => by rw [e, nL] at z; cases z)]
        exact z
      · by_cases e : a = Dn
        · rw [e, lay_same] at z
          exact ⟨[], (Option.some.inj z).symm⟩
        · rw [lay_ne e, w] at z
          cases z
      · by_cases e : a = Dn
        · right
          rw [e]
          exact E1.dom Dn nD
        · rw [lay_ne e] at z
          exact .inl z
      · exact (E1.mono fun a z _ => Zp_mono (fun w => (Bool.and_eq_true_iff.mp w).1) z).trans (ev.mono fun a z _ => Zp_mono (fun w => (Bool.and_eq_true_iff.mp w).2) z)
      · rw [hb (Bool.and_eq_true_iff.mp z).2]
        exact P1 (Bool.and_eq_true_iff.mp z).1
      · refine ⟨Dn, acc, rfl, by rw [nl_new nL]; exact lay_same, hD, ⟨ra.length, szA⟩, fun j d v h1 h2 => ?_⟩
        obtain ⟨v', e1, e2⟩ := ra.getD h1
        rw [h2] at e1
        rw [Option.some.inj e1]
        exact Rp.shun (fun a z _ => zt a ((nl_zo fun a l z => by rw [lay_ne (fun e => by rw [e, nL] at z; cases z)]; exact z).mp z)) d v' e2
      · unfold Rp
        exact ⟨Dn, acc, rfl, fun z => z nL, ⟨hD, szA⟩, RpL.shun (fun a z _ => zL a z) ys acc ra⟩

theorem snd_lc {W : Wd} {Wx : WX} {O : List Nat} {wi : TI} {src : M (List D)} {p b : Bool} {gd : D → EnvD → Option EnvD} {is vs : List Nat} {mt : M Bool} {me : M D}
    (si : ∀ (G : Gh) (L : Lab) (env : EnvD) (σ : L2.St) (H : Hp) (R : It → Hp → Prop), Rel W G O L env σ H → PostI W G O L p Wx env σ H R (src env) → wi σ H R) (hv : ∀ i ∈ is, i ∈ vs) (hl : O.length ≤ tmp) (h0 : O.getD 0 0 = 0 ∨ 0 ∉ vs)
    {G : Gh} {L : Lab} {env : EnvD} {σ : L2.St} {H : Hp} {Q : VK} (R : Rel W G O L env σ H) (h : PostO W G O L (p && b) 1 Wx env σ H Q (dLc b src gd mt me vs env)) :
    tLc wi (tG W O gd is) (tT W Wx0 O mt b) (tE W Wx0 O me 2 b) vs σ H Q :=
  snd_lcG (IO := ItemsOk W) (fun G L env σ H R r h => si G L env σ H R r (postIg h)) walks_ok hv hl h0 R h

section
variable {W : Wd} {X : Cx} {Wx : WX} {F : Fc} {O : List Nat} {elt tg iter c : Expr} {scope : Scope} {own : List (Str × Nat)} {src : M (List D)} {p b : Bool} {gd : D → EnvD → Option EnvD} {is : List Nat} {mt : M Bool} {me : M D} {pos : Pos}
def mYes : M Bool := fun env => .ok true env
/-- [elt for tg in iter] -/
theorem do_lc0 (hc : X.calm = true) (hN : X.N.Nodup) (hi : DI W X Wx O tg iter src p) (ok : BlkOk X.N X.env.scope scope own)
    (hg : ∀ (s : Shared) (H : Hp) (C : Addr) (cl : List (Str × Addr)) (fp : List Addr), DG W (X.blk s H scope (compEnvC scope cl C X.env) fp) O tg gd is)
    (he : ∀ (s : Shared) (H : Hp) (C : Addr) (cl : List (Str × Addr)) (fp : List Addr), DE W (X.blk s H scope (compEnvC scope cl C X.env) fp) Wx0 O elt me 2 b) (hv : ∀ i ∈ is, i ∈ own.map (·.2)) (hl : O.length ≤ tmp := by decide) (h0 : O.getD 0 0 = 0 ∨ 0 ∉ own.map (·.2) := by decide)
    (hs : ∀ x, foldedSetIterable iter X.env x = pure x := by intro _; rfl) : DO W X Wx O (.ListComp elt [⟨tg, iter, [], 0⟩] scope pos) (dLc b src gd mYes me (own.map (·.2))) 1 (p && b) := by
  obtain ⟨k, wi, pi, si⟩ := hi
  refine ⟨k, _, pe_lc (tt := tT W Wx0 O mYes b) hc hN pi ok (fun s H C cl fp => (hg s H C cl fp).plain_) (fun s H C cl fp => ?_) (fun s H C cl fp => (he s H C cl fp).plain_) hs, fun G L env σ H Q R h => snd_lc si hv hl h0 R h⟩
  refine ⟨fun pins st σ H' Q I ⟨G, L, env, R, q⟩ => pts_nil.run pins st σ H' Q I ?_⟩
  exact q H' R Ev.refl fun _ => rfl
/-- [elt for tg in iter if c] -/
theorem do_lc1 (hc : X.calm = true) (hN : X.N.Nodup) (hi : DI W X Wx O tg iter src p) (ok : BlkOk X.N X.env.scope scope own)
    (hg : ∀ (s : Shared) (H : Hp) (C : Addr) (cl : List (Str × Addr)) (fp : List Addr), DG W (X.blk s H scope (compEnvC scope cl C X.env) fp) O tg gd is)
    (ht : ∀ (s : Shared) (H : Hp) (C : Addr) (cl : List (Str × Addr)) (fp : List Addr), DT W (X.blk s H scope (compEnvC scope cl C X.env) fp) Wx0 O c mt b)
    (he : ∀ (s : Shared) (H : Hp) (C : Addr) (cl : List (Str × Addr)) (fp : List Addr), DE W (X.blk s H scope (compEnvC scope cl C X.env) fp) Wx0 O elt me 2 b) (hv : ∀ i ∈ is, i ∈ own.map (·.2)) (hl : O.length ≤ tmp := by decide) (h0 : O.getD 0 0 = 0 ∨ 0 ∉ own.map (·.2) := by decide)
    (hs : ∀ x, foldedSetIterable iter X.env x = pure x := by intro _; rfl) : DO W X Wx O (.ListComp elt [⟨tg, iter, [c], 0⟩] scope pos) (dLc b src gd mt me (own.map (·.2))) 1 (p && b) := by
  obtain ⟨k, wi, pi, si⟩ := hi
  exact ⟨k, _, pe_lc hc hN pi ok (fun s H C cl fp => (hg s H C cl fp).plain_) (fun s H C cl fp => pts_one (ht s H C cl fp).plain_) (fun s H C cl fp => (he s H C cl fp).plain_) hs, fun G L env σ H Q R h => snd_lc si hv hl h0 R h⟩
end
end DL
/-! DLPrim: operators and built-ins, what each does to data. -/
namespace DL
open PySem PySem.Spec PyProof.Rows L2

/-! ### operations whose answer may be a new list -/
def NewV (W : Wd) (L : Lab) (H : Hp) (d : D) (v : V) (H' : Hp) : Prop :=
  (∃ (pa : Addr) (vs : List V) (ds : List D), d = .lst ds ∧ v = .ref pa ∧ H pa = none ∧ H' = upd H pa (.lst vs) ∧ RpL W (Zo L) H ds vs ∧ vs.length ≤ sizeLine) ∨ ((∀ ds, d ≠ .lst ds) ∧ Ev W No H H' ∧ Rp W (Zo L) H' d v)
def RFO (W : Wd) (y1 y2 : Nat) (r : R2) (F : D → D → Option D) : Prop := ∀ (L : Lab) (H : Hp) (a b d : D) (x y : V) (Q : VK), RpZ W L H y1 a x → RpZ W L H y2 b y → F a b = some d → (∀ a, L a ≠ none → H a ≠ none) → (∀ v H', NewV W L H d v H' → Q v H') → r x y H Q
def CFO (W : Wd) (z : Nat) (r : List V → Hp → VK → Prop) (F : List D → Option D) : Prop := ∀ (L : Lab) (H : Hp) (ds : List D) (vs : List V) (d : D) (Q : VK), AllZ W L H z ds vs → F ds = some d → (∀ a, L a ≠ none → H a ≠ none) → (∀ v H', NewV W L H d v H' → Q v H') → r vs H Q
section
variable {W : Wd} {X : Cx} {Wx : WX} {G : Gh} {O : List Nat} {L : Lab} {env : EnvD} {σ : L2.St} {H H' : Hp} {a b e : Expr} {es : List Expr} {m1 m2 : M D} {z z1 z2 y1 y2 zo : Nat} {p p1 p2 : Bool} {pos : Pos}
theorem newV_post {H0 : Hp} {d : D} {v : V} (R : Rel W G O L env σ H) (nv : NewV W L H d v H') (e : Ev W No H0 H ∨ True) : ∃ L', untmp L L' ∧ Nw L L' H ∧ Rel W G O L' env σ H' ∧ Rel W G O L env σ H' ∧ Ev W No H H' ∧ OwN W L L' H' 1 d v ∧ Rp W (Zo L) H' d v := by
  rcases nv with ⟨pa, vs, ds, rfl, rfl, np, rfl, r, sz⟩ | ⟨nl, ev, r⟩
  · obtain ⟨u, w, r1, r2, o, rr⟩ := new_list R np r sz
    exact ⟨_, u, w, r1, r2, Ev.new np, o, rr⟩
  · refine ⟨L, ⟨fun _ _ h => h, fun a l h w => by rw [h] at w; cases w⟩, fun _ h => .inl h, R.pure ev, R.pure ev, ev, ?_, r⟩
    have r' := Rp.shun (Z := Zo L) (Z' := Zo (DL.nl L L)) (fun a z _ => (nl_zo fun _ _ z => z).mp z) d v r
    cases d with
    | lst ds => exact (nl ds rfl).elim
    | _ => exact r'
theorem snd_op2O {r : R2} {F : D → D → Option D} (f : RFO W y1 y2 r F) {ta tb : TE} {Q : VK}
    (sa : ∀ (G : Gh) (L : Lab) (env : EnvD) (σ : L2.St) (H : Hp) (Q : VK), Rel W G O L env σ H → PostE W G O L p1 z1 Wx env σ H Q (m1 env) → ta σ H Q)
    (sb : ∀ (G : Gh) (L : Lab) (env : EnvD) (σ : L2.St) (H : Hp) (Q : VK), Rel W G O L env σ H → PostE W G O L p2 z2 Wx env σ H Q (m2 env) → tb σ H Q)
    (l1 : y1 ≤ z1) (k1 : z1 ≤ 2) (l2 : y2 ≤ z2) (k2 : z2 ≤ 2) (cc : p2 = true ∨ z1 = 2)
    (R : Rel W G O L env σ H) (h : PostO W G O L (p1 && p2) 1 Wx env σ H Q (dOp2 F m1 m2 env)) : tOp r ta tb σ H Q := by
  unfold dOp2 at h
  refine sa G L env σ H _ R ?_
  cases q1 : m1 env with
  | bad => rw [q1] at h; exact h.elim
  | exc c a e => rw [q1] at h; exact h
  | ok d1 e1 =>
    rw [q1] at h
    intro x H1 R1 E1 P1 Z1
    refine sb G L e1 σ H1 _ R1 ?_
    have h : PostO W G O L (p1 && p2) 1 Wx env σ H Q ((m2 e1).bind fun b e2 => lift (F d1 b) e2) := h
    cases q2 : m2 e1 with
    | bad => rw [q2] at h; exact h.elim
    | exc c a e => rw [q2] at h; exact h
    | ok d2 e2 =>
      rw [q2] at h
      intro y H2 R2 E2 P2 Z2
      have h : PostO W G O L (p1 && p2) 1 Wx env σ H Q (lift (F d1 d2) e2) := h
      cases q3 : F d1 d2 with
      | none => rw [q3] at h; exact h.elim
      | some d =>
        rw [q3] at h
        refine f L H2 d1 d2 d x y Q ((Z1.ev E2 cc).le (.inl l1) k1) (Z2.le (.inl l2) k2) q3 R2.dom fun v H' nv => ?_
        obtain ⟨L', u, w, ra, rb, ev, o, rr⟩ := newV_post R2 nv (H0 := H) (.inr trivial)
        have E12 : Ev W (Zp (p1 && p2) L) H H2 := (E1.mono fun a z _ => Zp_mono (fun w => (Bool.and_eq_true_iff.mp w).1) z).trans (E2.mono fun a z _ => Zp_mono (fun w => (Bool.and_eq_true_iff.mp w).2) z)
        exact h v H' L' u (w.back E12) ra rb (E12.trans (ev.mono fun _ z _ => z.elim)) (fun w => by rw [P2 (Bool.and_eq_true_iff.mp w).2, P1 (Bool.and_eq_true_iff.mp w).1]) o rr
theorem do_op2 {op : Operator} {r : R2} {F : D → D → Option D} (hr : OpR X (binaryOp op) r) (f : RFO W y1 y2 r F) (ha : DE W X Wx O a m1 z1 p1) (hb : DE W X Wx O b m2 z2 p2)
    (l1 : y1 ≤ z1 := by decide) (k1 : z1 ≤ 2 := by decide) (l2 : y2 ≤ z2 := by decide) (k2 : z2 ≤ 2 := by decide) (cc : p2 = true ∨ z1 = 2 := by first | exact .inl rfl | exact .inr rfl) :
    DO W X Wx O (.BinOp a op b pos) (dOp2 F m1 m2) 1 (p1 && p2) := by
  obtain ⟨k, ta, pa, sa⟩ := ha
  obtain ⟨_, tb, pb, sb⟩ := hb
  exact ⟨k, _, pe_op hr pa pb, fun G L env σ H Q R h => snd_op2O f sa sb l1 k1 l2 k2 cc R h⟩
theorem snd_cbO {r : List V → Hp → VK → Prop} {F : List D → Option D} {ms : M (List D)} {t : TA} {Q : VK} (f : CFO W z r F)
    (s : ∀ (G : Gh) (L : Lab) (env : EnvD) (σ : L2.St) (H : Hp) (Q : List V → Hp → Prop), Rel W G O L env σ H → PostAr W G O L p z Wx env σ H Q (ms env) → t σ H Q)
    (R : Rel W G O L env σ H) (h : PostO W G O L p 1 Wx env σ H Q (dCB F ms env)) : tCB r t σ H Q := by
  refine s G L env σ H _ R ?_
  unfold dCB at h
  cases q1 : ms env with
  | bad => rw [q1] at h; exact h.elim
  | exc c a e => rw [q1] at h; exact h
  | ok ds e1 =>
    rw [q1] at h
    intro vs H1 R1 E1 P1 A
    have h : PostO W G O L p 1 Wx env σ H Q (lift (F ds) e1) := h
    cases q2 : F ds with
    | none => rw [q2] at h; exact h.elim
    | some d =>
      rw [q2] at h
      refine f L H1 ds vs d Q A q2 R1.dom fun v H' nv => ?_
      obtain ⟨L', u, w, ra, rb, ev, o, rr⟩ := newV_post R1 nv (H0 := H) (.inr trivial)
      exact h v H' L' u (w.back E1) ra rb (E1.trans (ev.mono fun _ z _ => z.elim)) P1 o rr
theorem do_callB {id : String} {x : Str} {r : List V → Hp → VK → Prop} {F : List D → Option D} {ms : M (List D)} {p0 pos : Pos} (hc : CallR X (.builtin id) r) (f : CFO W z r F) (hg : Gl X x) (hm : X.mg x = none) (hv : bootBuiltins x = some (.builtin id))
    (ha : DAr W X Wx O (e :: es) ms z p) (hn : x ≠ "__name__" := by decide) (hdb : (x == ("__debug__" : Str)) = false := by decide)
    (he : starEach (e :: es) X.env = (false, eval e X.env) :: starEach es X.env := by rfl) (hpl : (backTo pos (starEach es X.env)).any (·.1) = false := by rfl) :
    DO W X Wx O (.Call (.Name x p0) (e :: es) [] pos) (dCB F ms) 1 p := by
  obtain ⟨k, _, t, pa, s⟩ := ha
  exact ⟨k, _, L2.pe_callB hc hg hm hv pa hn hdb he hpl, fun G L env σ H Q R h => snd_cbO f s R h⟩
theorem do_callTy {T : String} {x : Str} {r : List V → Hp → VK → Prop} {F : List D → Option D} {ms : M (List D)} {p0 pos : Pos} (hc : CallR X (.type T) r) (f : CFO W z r F) (hg : Gl X x) (hm : X.mg x = none) (hv : bootBuiltins x = some (.type T))
    (ha : DAr W X Wx O (e :: es) ms z p) (hn : x ≠ "__name__" := by decide) (hdb : (x == ("__debug__" : Str)) = false := by decide)
    (he : starEach (e :: es) X.env = (false, eval e X.env) :: starEach es X.env := by rfl) (hpl : (backTo pos (starEach es X.env)).any (·.1) = false := by rfl) :
    DO W X Wx O (.Call (.Name x p0) (e :: es) [] pos) (dCB F ms) 1 p := by
  obtain ⟨k, _, t, pa, s⟩ := ha
  exact ⟨k, _, L2.pe_callTy hc hg hm hv pa hn hdb he hpl, fun G L env σ H Q R h => snd_cbO f s R h⟩
end

section
variable {W : Wd} {L : Lab} {H : Hp} {z : Nat} {v : V}
theorem rz_int {i : Int} (h : RpZ W L H z (.int i) v) : v = .int i := by
  have h := h.any
  unfold Rp at h
  exact h
theorem rz_bool {i : Bool} (h : RpZ W L H z (.bool i) v) : v = .bl i := by
  have h := h.any
  unfold Rp at h
  exact h
theorem rz_str {i : Str} (h : RpZ W L H z (.str i) v) : v = .str i := by
  have h := h.any
  unfold Rp at h
  exact h
theorem rz_non (h : RpZ W L H z .non v) : v = .non := by
  have h := h.any
  unfold Rp at h
  exact h
theorem rz_lst {ds : List D} (h : RpZ W L H 1 (.lst ds) v) : ∃ a vs, v = .ref a ∧ H a = some (.lst vs) ∧ vs.length ≤ sizeLine ∧ RpL W (Zo L) H ds vs := by
  obtain ⟨a, vs, h1, h2, h3⟩ := h
  exact ⟨a, vs, h1, h2.1, h2.2, h3⟩
theorem rz_tup {ds : List D} (h : RpZ W L H 1 (.tup ds) v) : ∃ a vs, v = .ref a ∧ SqT W.K H a vs ∧ vs.length ≤ sizeLine ∧ RpL W (Zo L) H ds vs := by
  have h : Rp W (Zo L) H (.tup ds) v := h
  unfold Rp at h
  obtain ⟨a, vs, h1, h2, h3⟩ := h
  exact ⟨a, vs, h1, h2.1, h2.2, h3⟩
theorem rz_ro {ds : List D} (h : RpZ W L H 1 (.ro ds) v) : ∃ a vs, v = .ref a ∧ SqL W.K H a vs ∧ vs.length ≤ sizeLine ∧ RpL W (Zo L) H ds vs := by
  have h : Rp W (Zo L) H (.ro ds) v := h
  unfold Rp at h
  obtain ⟨a, vs, h1, h2, h3⟩ := h
  exact ⟨a, vs, h1, h2.1.sq, h2.2, h3⟩
theorem rp_int {i : Int} {Z : Addr → Prop} : Rp W Z H (.int i) (.int i) := by unfold Rp; rfl
theorem rp_bool {i : Bool} {Z : Addr → Prop} : Rp W Z H (.bool i) (.bl i) := by unfold Rp; rfl
theorem rp_str {i : Str} {Z : Addr → Prop} : Rp W Z H (.str i) (.str i) := by unfold Rp; rfl
theorem rp_non {Z : Addr → Prop} : Rp W Z H .non .non := by unfold Rp; rfl
theorem rz2_int {i : Int} : RpZ W L H 2 (.int i) (.int i) := rp_int (W := W) (H := H) (Z := Zo L)
theorem rz2_bool {i : Bool} : RpZ W L H 2 (.bool i) (.bl i) := rp_bool (W := W) (H := H) (Z := Zo L)
theorem rz2_str {i : Str} : RpZ W L H 2 (.str i) (.str i) := rp_str (W := W) (H := H) (Z := Zo L)
end

/-! ### == and != -/
def dEq (a b : D) : Option D := (deq a b).map .bool
def dNe (a b : D) : Option D := (deq a b).map fun c => .bool (!c)
theorem deq_fine {a b : D} {c : Bool} (h : deq a b = some c) : a.fine = true ∧ b.fine = true ∧ c = PyData.eqv a.py b.py := by
  unfold deq at h
  split at h
  · rename_i q
    exact ⟨q.1, q.2, (Option.some.inj h).symm⟩
  · cases h
section
variable {W : Wd} {X : Cx}
theorem rf_eq (k : X.K = W.K) : RF W 0 0 2 (rEqD X.K) dEq := by
  intro L H a b d x y Q ha hb h dom q
  unfold dEq at h
  cases e : deq a b with
  | none => rw [e] at h; cases h
  | some c =>
    rw [e] at h
    cases h
    obtain ⟨f1, f2, rfl⟩ := deq_fine e
    have f1' : a.plain = true ∧ SeqAt.shaped a.py = true := by simpa [D.fine] using f1
    have f2' : b.plain = true ∧ SeqAt.shaped b.py = true := by simpa [D.fine] using f2
    refine ⟨a.py, b.py, ?_, ?_, f1'.2, f2'.2, q _ H Ev.refl rz2_bool⟩
    · rw [k]; exact Rp.dp a x f1'.1 ha.any
    · rw [k]; exact Rp.dp b y f2'.1 hb.any
theorem rf_ne (k : X.K = W.K) : RF W 0 0 2 (rNeD X.K) dNe := by
  intro L H a b d x y Q ha hb h dom q
  unfold dNe at h
  cases e : deq a b with
  | none => rw [e] at h; cases h
  | some c =>
    rw [e] at h
    cases h
    obtain ⟨f1, f2, rfl⟩ := deq_fine e
    have f1' : a.plain = true ∧ SeqAt.shaped a.py = true := by simpa [D.fine] using f1
    have f2' : b.plain = true ∧ SeqAt.shaped b.py = true := by simpa [D.fine] using f2
    refine ⟨a.py, b.py, ?_, ?_, f1'.2, f2'.2, q _ H Ev.refl rz2_bool⟩
    · rw [k]; exact Rp.dp a x f1'.1 ha.any
    · rw [k]; exact Rp.dp b y f2'.1 hb.any

/-! ### order -/
def dLt (a b : D) : Option D := match a, b with
  | .int i, .int j => some (.bool (decide (i < j)))
  | .str i, .str j => some (.bool (decide (i.cps.toList < j.cps.toList)))
  | _, _ => none
def dLe (a b : D) : Option D := match a, b with
  | .int i, .int j => some (.bool (decide (i ≤ j)))
  | .str i, .str j => some (.bool (!decide (j.cps.toList < i.cps.toList)))
  | _, _ => none
def dGt (a b : D) : Option D := match a, b with
  | .int i, .int j => some (.bool (decide (j < i)))
  | .str i, .str j => some (.bool (decide (j.cps.toList < i.cps.toList)))
  | _, _ => none
def dGe (a b : D) : Option D := match a, b with
  | .int i, .int j => some (.bool (decide (j ≤ i)))
  | .str i, .str j => some (.bool (!decide (i.cps.toList < j.cps.toList)))
  | _, _ => none
theorem rf_of_int {f : Int → Int → V} {g : Int → Int → D} {F : D → D → Option D} {r : R2} (hF : ∀ a b d, F a b = some d → (∃ i j, a = .int i ∧ b = .int j ∧ d = g i j) ∨ ∃ i j, a = .str i ∧ b = .str j ∧ ∃ c, d = .bool c ∧ ∀ (H : Hp) (Q : VK), Q (.bl c) H → r (.str i) (.str j) H Q)
    (hg : ∀ i j, cst (g i j) = some (f i j)) : RF W 0 0 2 (fun x y H Q => rI0 f x y H Q ∨ r x y H Q) F := by
  intro L H a b d x y Q ha hb h dom q
  rcases hF a b d h with ⟨i, j, rfl, rfl, rfl⟩ | ⟨i, j, rfl, rfl, c, rfl, hr⟩
  · rw [rz_int ha, rz_int hb]
    exact .inl ⟨i, j, rfl, rfl, q _ H Ev.refl (cst_rp (hg i j) _ _)⟩
  · rw [rz_str ha, rz_str hb]
    exact .inr (hr H Q (q _ H Ev.refl rz2_bool))
theorem rf_lt : RF W 0 0 2 (fun x y H Q => rI0 (fun i j => .bl (decide (i < j))) x y H Q ∨ ∃ i j, x = .str i ∧ y = .str j ∧ Q (.bl (decide (i.cps.toList < j.cps.toList))) H) dLt :=
  rf_of_int (g := fun i j => .bool (decide (i < j))) (r := fun x y H Q => ∃ i j, x = V.str i ∧ y = V.str j ∧ Q (.bl (decide (i.cps.toList < j.cps.toList))) H) (fun a b d h => by
    unfold dLt at h
    split at h <;> first | (cases h; exact .inl ⟨_, _, rfl, rfl, rfl⟩) | (cases h; exact .inr ⟨_, _, rfl, rfl, _, rfl, fun H Q q => ⟨_, _, rfl, rfl, q⟩⟩) | cases h) fun _ _ => rfl
theorem rf_le : RF W 0 0 2 (fun x y H Q => rI0 (fun i j => .bl (decide (i ≤ j))) x y H Q ∨ ∃ i j, x = .str i ∧ y = .str j ∧ Q (.bl (!decide (j.cps.toList < i.cps.toList))) H) dLe :=
  rf_of_int (g := fun i j => .bool (decide (i ≤ j))) (r := fun x y H Q => ∃ i j, x = V.str i ∧ y = V.str j ∧ Q (.bl (!decide (j.cps.toList < i.cps.toList))) H) (fun a b d h => by
    unfold dLe at h
    split at h <;> first | (cases h; exact .inl ⟨_, _, rfl, rfl, rfl⟩) | (cases h; exact .inr ⟨_, _, rfl, rfl, _, rfl, fun H Q q => ⟨_, _, rfl, rfl, q⟩⟩) | cases h) fun _ _ => rfl
theorem rf_gt : RF W 0 0 2 (fun x y H Q => rI0 (fun i j => .bl (decide (j < i))) x y H Q ∨ ∃ i j, x = .str i ∧ y = .str j ∧ Q (.bl (decide (j.cps.toList < i.cps.toList))) H) dGt :=
  rf_of_int (g := fun i j => .bool (decide (j < i))) (r := fun x y H Q => ∃ i j, x = V.str i ∧ y = V.str j ∧ Q (.bl (decide (j.cps.toList < i.cps.toList))) H) (fun a b d h => by
    unfold dGt at h
    split at h <;> first | (cases h; exact .inl ⟨_, _, rfl, rfl, rfl⟩) | (cases h; exact .inr ⟨_, _, rfl, rfl, _, rfl, fun H Q q => ⟨_, _, rfl, rfl, q⟩⟩) | cases h) fun _ _ => rfl
theorem rf_ge : RF W 0 0 2 (fun x y H Q => rI0 (fun i j => .bl (decide (j ≤ i))) x y H Q ∨ ∃ i j, x = .str i ∧ y = .str j ∧ Q (.bl (!decide (i.cps.toList < j.cps.toList))) H) dGe :=
  rf_of_int (g := fun i j => .bool (decide (j ≤ i))) (r := fun x y H Q => ∃ i j, x = V.str i ∧ y = V.str j ∧ Q (.bl (!decide (i.cps.toList < j.cps.toList))) H) (fun a b d h => by
    unfold dGe at h
    split at h <;> first | (cases h; exact .inl ⟨_, _, rfl, rfl, rfl⟩) | (cases h; exact .inr ⟨_, _, rfl, rfl, _, rfl, fun H Q q => ⟨_, _, rfl, rfl, q⟩⟩) | cases h) fun _ _ => rfl
/-- is None, is not None -/
def dIsN (a b : D) : Option D := match a, b with
  | .non, .non => some (.bool true)
  | _, .non => some (.bool false)
  | _, _ => none
def dNotN (a b : D) : Option D := match a, b with
  | .non, .non => some (.bool false)
  | _, .non => some (.bool true)
  | _, _ => none
theorem notnon {L : Lab} {H : Hp} {z : Nat} {a : D} {x : V} (h : RpZ W L H z a x) : x = .non ↔ a = .non := by
  have h := h.any
  constructor
  · intro e
    subst e
    cases a with
    | non => rfl
    | _ => (unfold Rp at h; first | (obtain ⟨_, _, h, _⟩ := h; cases h) | (obtain ⟨_, h, _⟩ := h; cases h) | cases h)
  · intro e
    subst e
    unfold Rp at h
    exact h
theorem rf_isN : RF W 0 0 2 (fun x y H Q => y = .non ∧ Q (.bl (decide (x = .non))) H) dIsN := by
  intro L H a b d x y Q ha hb h dom q
  cases b with
  | non =>
    refine ⟨rz_non hb, ?_⟩
    by_cases e : a = .non
    · subst e
      cases h
      rw [decide_eq_true ((notnon ha).mpr rfl)]
      exact q _ H Ev.refl rz2_bool
    · have hd : d = .bool false := by
        cases a <;> first | exact (e rfl).elim | exact (Option.some.inj h).symm
      rw [hd] at q
      rw [decide_eq_false fun z => e ((notnon ha).mp z)]
      exact q _ H Ev.refl rz2_bool
  | _ => cases a <;> cases h
theorem rf_notN : RF W 0 0 2 (fun x y H Q => y = .non ∧ Q (.bl (!decide (x = .non))) H) dNotN := by
  intro L H a b d x y Q ha hb h dom q
  cases b with
  | non =>
    refine ⟨rz_non hb, ?_⟩
    by_cases e : a = .non
    · subst e
      cases h
      rw [decide_eq_true ((notnon ha).mpr rfl)]
      exact q _ H Ev.refl rz2_bool
    · have hd : d = .bool true := by
        cases a <;> first | exact (e rfl).elim | exact (Option.some.inj h).symm
      rw [hd] at q
      rw [decide_eq_false fun z => e ((notnon ha).mp z)]
      exact q _ H Ev.refl rz2_bool
  | _ => cases a <;> cases h
/-- x is True -/
def dIsB (a b : D) : Option D := match a, b with
  | .bool i, .bool j => some (.bool (decide (i = j)))
  | _, _ => none
def dNotB (a b : D) : Option D := match a, b with
  | .bool i, .bool j => some (.bool (!decide (i = j)))
  | _, _ => none
theorem rf_isB : RF W 0 0 2 (fun x y H Q => ∃ a b, x = .bl a ∧ y = .bl b ∧ Q (.bl (decide (a = b))) H) dIsB := by
  intro L H a b d x y Q ha hb h dom q
  unfold dIsB at h
  split at h
  · cases h
    exact ⟨_, _, rz_bool ha, rz_bool hb, q _ H Ev.refl rz2_bool⟩
  · cases h
theorem rf_notB : RF W 0 0 2 (fun x y H Q => ∃ a b, x = .bl a ∧ y = .bl b ∧ Q (.bl (!decide (a = b))) H) dNotB := by
  intro L H a b d x y Q ha hb h dom q
  unfold dNotB at h
  split at h
  · cases h
    exact ⟨_, _, rz_bool ha, rz_bool hb, q _ H Ev.refl rz2_bool⟩
  · cases h

/-! ### arithmetic -/
def i2 (f : Int → Int → Option Int) (a b : D) : Option D := match a, b with
  | .int i, .int j => (f i j).map .int
  | _, _ => none
theorem rf_i2 {C : Int → Int → Prop} {g : Int → Int → Int} {f : Int → Int → Option Int} (h : ∀ i j k, f i j = some k → C i j ∧ k = g i j) : RF W 0 0 2 (rI C fun i j => .int (g i j)) (i2 f) := by
  intro L H a b d x y Q ha hb hd dom q
  unfold i2 at hd
  split at hd
  · rename_i i j
    cases e : f i j with
    | none => rw [e] at hd; cases hd
    | some k =>
      rw [e] at hd
      cases hd
      obtain ⟨c, rfl⟩ := h i j k e
      exact ⟨i, j, rz_int ha, rz_int hb, c, q _ H Ev.refl rz2_int⟩
  · cases hd
theorem rf_i0 {g : Int → Int → Int} : RF W 0 0 2 (rI0 fun i j => .int (g i j)) (i2 fun i j => some (g i j)) := by
  intro L H a b d x y Q ha hb hd dom q
  unfold i2 at hd
  split at hd
  · rename_i i j
    cases hd
    exact ⟨i, j, rz_int ha, rz_int hb, q _ H Ev.refl rz2_int⟩
  · cases hd
abbrev dSub := i2 fun i j => some (i - j)
abbrev dMod := i2 fun i j => if 0 < j then some (i % j) else none
/-- + of ints, texts, lists, tuples -/
def dAdd (a b : D) : Option D := match a, b with
  | .int i, .int j => some (.int (i + j))
  | .str i, .str j => if i.length + j.length ≤ sizeLine then some (.str (i ++ j)) else none
  | .lst xs, .lst ys => if xs.length + ys.length ≤ sizeLine then some (.lst (xs ++ ys)) else none
  | .tup xs, .tup ys => if xs.length + ys.length ≤ sizeLine then some (.tup (xs ++ ys)) else none
  | _, _ => none
def rAddD (K : PySem.W.Frag) : R2 := fun x y H Q => rI0 (fun i j => .int (i + j)) x y H Q ∨ (∃ i j, x = .str i ∧ y = .str j ∧ i.length + j.length ≤ sizeLine ∧ Q (.str (i ++ j)) H) ∨ rCat x y H Q ∨ rCatA K x y H Q
theorem op_addD : OpR X (binaryOp .Add) (rAddD X.K) := OpR.or op_add (OpR.or op_add_str (OpR.or op_cat op_catA))
theorem rfo_add (k : X.K = W.K) : RFO W 1 1 (rAddD X.K) dAdd := by
  intro L H a b d x y Q ha hb h dom q
  unfold dAdd at h
  split at h
  · cases h
    exact .inl ⟨_, _, rz_int ha, rz_int hb, q _ H (.inr ⟨fun _ z => (nomatch z), Ev.refl, rp_int⟩)⟩
  · split at h
    · rename_i hz
      cases h
      exact .inr (.inl ⟨_, _, rz_str ha, rz_str hb, hz, q _ H (.inr ⟨fun _ z => (nomatch z), Ev.refl, rp_str⟩)⟩)
    · cases h
  · split at h
    · rename_i xs ys hz
      cases h
      obtain ⟨l, vs, e1, h1, s1, r1⟩ := rz_lst ha
      obtain ⟨m, us, e2, h2, s2, r2⟩ := rz_lst hb
      have hz' : vs.length + us.length ≤ sizeLine := by rw [← r1.length, ← r2.length]; exact hz
      exact .inr (.inr (.inl ⟨l, m, vs, us, e1, e2, h1, h2, hz', fun pa np => q _ _ (.inl ⟨pa, _, _, rfl, rfl, np, rfl, r1.append r2, by rw [List.length_append]; exact hz'⟩)⟩))
    · cases h
  · split at h
    · rename_i xs ys hz
      cases h
      obtain ⟨l, vs, e1, h1, s1, r1⟩ := rz_tup ha
      obtain ⟨m, us, e2, h2, s2, r2⟩ := rz_tup hb
      have hz' : vs.length + us.length ≤ sizeLine := by rw [← r1.length, ← r2.length]; exact hz
      refine .inr (.inr (.inr ⟨l, m, vs, us, e1, e2, by rw [k]; exact h1, by rw [k]; exact h2, hz', fun e => ?_, fun _ e => ?_, fun _ _ pa np => ?_⟩))
      · subst e
        have : xs = [] := List.eq_nil_of_length_eq_zero (by rw [r1.length]; rfl)
        subst this
        refine q _ H (.inr ⟨fun _ z => (nomatch z), Ev.refl, ?_⟩)
        unfold Rp
        exact ⟨m, us, rfl, ⟨h2, s2⟩, r2⟩
      · subst e
        have : ys = [] := List.eq_nil_of_length_eq_zero (by rw [r2.length]; rfl)
        subst this
        refine q _ H (.inr ⟨fun _ z => (nomatch z), Ev.refl, ?_⟩)
        rw [List.append_nil]
        unfold Rp
        exact ⟨l, vs, rfl, ⟨h1, s1⟩, r1⟩
      · refine q _ _ (.inr ⟨fun _ z => (nomatch z), Ev.new np, ?_⟩)
        unfold Rp
        exact ⟨pa, _, rfl, ⟨SqT.of upd_same, by rw [List.length_append]; exact hz'⟩, RpL.ev (Ev.new np) _ _ (r1.append r2)⟩
    · cases h
  · cases h
/-- an item -/
def atD (ds : List D) (i : Int) : Option D := atI ds i
def dIx (a b : D) : Option D := match a, b with
  | .lst ds, .int i => atI ds i
  | .ro ds, .int i => atI ds i
  | .tup ds, .int i => atI ds i
  | .str z, .int i => if z.length ≤ sizeLine then (atI z.cps.toList i).map fun c => .str ⟨#[c]⟩ else none
  | _, _ => none
theorem atI_rp {Z : Addr → Prop} {H : Hp} {ds : List D} {vs : List V} {i : Int} {d : D} (r : RpL W Z H ds vs) (h : atI ds i = some d) : ∃ v, atI vs i = some v ∧ Rp W Z H d v := by
  unfold atI at h ⊢
  rw [← r.length]
  cases e : ixN ds.length i with
  | none => rw [e] at h; cases h
  | some j =>
    rw [e] at h
    exact r.getD h
theorem ix_or : IxR X (fun x y H Q => rIxL X.K x y H Q ∨ rIxT X.K x y H Q ∨ rIxS x y H Q) := ix_seq
theorem rf_ix (k : X.K = W.K) : RF W 1 0 2 (fun x y H Q => rIxL X.K x y H Q ∨ rIxT X.K x y H Q ∨ rIxS x y H Q) dIx := by
  intro L H a b d x y Q ha hb h dom q
  unfold dIx at h
  split at h
  · obtain ⟨l, vs, e1, h1, s1, r1⟩ := rz_lst ha
    obtain ⟨v, h2, h3⟩ := atI_rp r1 h
    exact .inl ⟨l, vs, _, v, e1, rz_int hb, SqL.of h1, h2, q v H Ev.refl h3⟩
  · obtain ⟨l, vs, e1, h1, s1, r1⟩ := rz_ro ha
    obtain ⟨v, h2, h3⟩ := atI_rp r1 h
    exact .inl ⟨l, vs, _, v, e1, rz_int hb, by rw [k]; exact h1, h2, q v H Ev.refl h3⟩
  · obtain ⟨l, vs, e1, h1, s1, r1⟩ := rz_tup ha
    obtain ⟨v, h2, h3⟩ := atI_rp r1 h
    exact .inr (.inl ⟨l, vs, _, v, e1, rz_int hb, by rw [k]; exact h1, h2, q v H Ev.refl h3⟩)
  · split at h
    · rename_i hz
      cases e : atI _ _ with
      | none => rw [e] at h; cases h
      | some c =>
        rw [e] at h
        cases h
        exact .inr (.inr ⟨_, _, c, rz_str ha, rz_int hb, hz, e, q _ H Ev.refl rz2_str⟩)
    · cases h
  · cases h

/-! ### in -/
/-- a value in a list, a tuple -/
def seqOf : D → Option (List D)
  | .lst ds => some ds
  | .ro ds => some ds
  | .tup ds => some ds
  | _ => none
def dIn (a b : D) : Option D := match b with
  | .str z => (match a with
    | .str i => some (.bool (!(Builtin.Str.occurrences z i 0 z.length 1).isEmpty))
    | _ => none)
  | b => match seqOf b with
    | some ds => if a.fine = true ∧ b.fine = true then some (.bool (ds.any fun y => PyData.eqv y.py a.py)) else none
    | none => none
def dNotIn (a b : D) : Option D := match dIn a b with
  | some (.bool c) => some (.bool (!c))
  | _ => none
def rInT (K : PySem.W.Frag) (neg : Bool) : R2 := fun x y H Q => ∃ d ds, Dp K H x d ∧ Dp K H y (.tuple ds) ∧ SeqAt.shaped d = true ∧ SeqAt.shaped (.tuple ds) = true ∧ Q (.bl (if neg then !ds.any fun z => PyData.eqv z d else ds.any fun z => PyData.eqv z d)) H
theorem shaped_all {ds : List PyData} (h : SeqAt.shaped (.tuple ds) = true) : PyData.canLayAll0 ds = true ∧ PyData.depthAll ds ≤ 64 := by
  have h1 := SeqAt.canLay_of_shaped h
  have h2 := SeqAt.depth_of_shaped h
  refine ⟨by simpa [PyData.canLay0] using h1, ?_⟩
  have : PyData.depth (.tuple ds) = PyData.depthAll ds + 1 := by simp [PyData.depth]
  omega
theorem op_inT (hu : X.A.units + 65 < cLine) : OpR X (compareOp .In) (rInT X.K false) := fun pins s σ H x y v u Q I rx ry h => by
  obtain ⟨d, ds, hd, he, sd, se, q⟩ := h
  obtain ⟨as, r1⟩ := Dp.reads I d x v hd rx
  obtain ⟨bs, r2⟩ := Dp.reads I (.tuple ds) y u he ry
  exact SeqAt.in_tuple_reads r2 r1 (shaped_all se).1 (SeqAt.canLay_of_shaped sd) (by have := (shaped_all se).2; omega) ⟨.bl _, H, I, rfl, q⟩
theorem op_notInT (hu : X.A.units + 65 < cLine) : OpR X (compareOp .NotIn) (rInT X.K true) := fun pins s σ H x y v u Q I rx ry h => by
  obtain ⟨d, ds, hd, he, sd, se, q⟩ := h
  obtain ⟨as, r1⟩ := Dp.reads I d x v hd rx
  obtain ⟨bs, r2⟩ := Dp.reads I (.tuple ds) y u he ry
  exact SeqAt.notIn_tuple_reads r2 r1 (shaped_all se).1 (SeqAt.canLay_of_shaped sd) (by have := (shaped_all se).2; omega) ⟨.bl _, H, I, rfl, q⟩
def rInAll (K : PySem.W.Frag) : R2 := fun x y H Q => (∃ i j, x = .str i ∧ y = .str j ∧ Q (.bl (!(Builtin.Str.occurrences j i 0 j.length 1).isEmpty)) H) ∨ rInD K x y H Q ∨ rInT K false x y H Q
def rNotInAll (K : PySem.W.Frag) : R2 := fun x y H Q => (∃ i j, x = .str i ∧ y = .str j ∧ Q (.bl (!(!(Builtin.Str.occurrences j i 0 j.length 1).isEmpty))) H) ∨ rNotInD K x y H Q ∨ rInT K true x y H Q
theorem op_inAll (hu : X.A.units + 65 < cLine) : OpR X (compareOp .In) (rInAll X.K) := OpR.or op_in_str (OpR.or (op_inD hu) (op_inT hu))
theorem op_notInAll (hu : X.A.units + 65 < cLine) : OpR X (compareOp .NotIn) (rNotInAll X.K) := OpR.or op_notin_str (OpR.or (op_notInD hu) (op_notInT hu))
theorem any_py (a : PyData) : ∀ ds : List D, (pyL ds).any (fun z => PyData.eqv z a) = ds.any fun y => PyData.eqv y.py a
  | [] => by simp [pyL]
  | d :: ds => by simp [pyL, any_py a ds]
theorem dIn_cases {a b d : D} (h : dIn a b = some d) : (∃ i z, a = .str i ∧ b = .str z ∧ d = .bool (!(Builtin.Str.occurrences z i 0 z.length 1).isEmpty)) ∨
    ∃ ds, (a.plain = true ∧ SeqAt.shaped a.py = true) ∧ (b.plain = true ∧ SeqAt.shaped b.py = true) ∧ d = .bool ((pyL ds).any fun z => PyData.eqv z a.py) ∧ (b.py = .list (pyL ds) ∨ b.py = .tuple (pyL ds)) := by
  unfold dIn at h
  split at h
  · split at h
    · cases h
      exact .inl ⟨_, _, rfl, rfl, rfl⟩
    · cases h
  · rename_i hb
    right
    cases e : seqOf b with
    | none => rw [e] at h; cases h
    | some ds =>
      rw [e] at h
      have h : (if a.fine = true ∧ b.fine = true then some (D.bool (ds.any fun y => PyData.eqv y.py a.py)) else none) = some d := h
      split at h
      · rename_i f
        refine ⟨ds, by simpa [D.fine] using f.1, by simpa [D.fine] using f.2, ?_, ?_⟩
        · rw [any_py]
          exact (Option.some.inj h).symm
        · cases b with
          | lst xs => cases e; exact .inl (by simp [D.py])
          | ro xs => cases e; exact .inl (by simp [D.py])
          | tup xs => cases e; exact .inr (by simp [D.py])
          | _ => cases e
      · cases h
theorem rf_in (k : X.K = W.K) : RF W 0 0 2 (rInAll X.K) dIn := by
  intro L H a b d x y Q ha hb h dom q
  rcases dIn_cases h with ⟨i, z, rfl, rfl, rfl⟩ | ⟨ds, f1, f2, rfl, e⟩
  · exact .inl ⟨i, z, rz_str ha, rz_str hb, q _ H Ev.refl rz2_bool⟩
  · have h1 := Rp.dp a x f1.1 ha.any
    have h2 := Rp.dp b y f2.1 hb.any
    have s2 := f2.2
    rw [← k] at h1 h2
    rcases e with e | e
    · rw [e] at h2 s2
      exact .inr (.inl ⟨_, _, h1, h2, f1.2, s2, q _ H Ev.refl rz2_bool⟩)
    · rw [e] at h2 s2
      exact .inr (.inr ⟨_, _, h1, h2, f1.2, s2, q _ H Ev.refl rz2_bool⟩)
theorem rf_notIn (k : X.K = W.K) : RF W 0 0 2 (rNotInAll X.K) dNotIn := by
  intro L H a b d x y Q ha hb h dom q
  unfold dNotIn at h
  split at h
  · rename_i c hc
    cases h
    rcases dIn_cases hc with ⟨i, z, rfl, rfl, e⟩ | ⟨ds, f1, f2, e0, e⟩
    · cases e
      exact .inl ⟨i, z, rz_str ha, rz_str hb, q _ H Ev.refl rz2_bool⟩
    · cases e0
      have h1 := Rp.dp a x f1.1 ha.any
      have h2 := Rp.dp b y f2.1 hb.any
      have s2 := f2.2
      rw [← k] at h1 h2
      rcases e with e | e
      · rw [e] at h2 s2
        exact .inr (.inl ⟨_, _, h1, h2, f1.2, s2, q _ H Ev.refl rz2_bool⟩)
      · rw [e] at h2 s2
        exact .inr (.inr ⟨_, _, h1, h2, f1.2, s2, q _ H Ev.refl rz2_bool⟩)
  · cases h
end
end DL
/-! DLRevT: t[::-1] of a tuple. -/
namespace DL
open PySem PySem.Spec PyProof.Rows L2 HT
section
variable {prog : Program} {w : World} {A : Around} {E : Value → Shared → Prop} {s : Shared}
theorem places_down (n : Nat) : Builtin.Slice.slicePlaces ((n : Int) - 1) (-1) (-1) = n := by
  unfold Builtin.Slice.slicePlaces
  simp
  omega
theorem adjust_down (n : Nat) : Builtin.Slice.sliceAdjust none none (-1) (n : Int) = ((n : Int) - 1, -1) := by
  unfold Builtin.Slice.sliceAdjust
  simp
theorem pick_down (xs : Array Value) : ((List.range xs.size).filterMap fun (m : Nat) => xs[((xs.size : Int) - 1 + (m : Int) * (-1)).toNat]?).toArray = xs.toList.reverse.toArray := by
  have e : (fun (m : Nat) => xs[((xs.size : Int) - 1 + (m : Int) * (-1)).toNat]?) = (fun k => xs[k]?) ∘ fun m => xs.size - 1 - m := by
    funext m
    have : ((xs.size : Int) - 1 + (m : Int) * (-1)).toNat = xs.size - 1 - m := by omega
    rw [this]
    rfl
  rw [e, ← List.filterMap_map, PySem.W.krv_range, List.filterMap_reverse, PySem.W.krv_all]
theorem applied_down {sl : Addr} {vk : Value} {n : Nat} {Q : Int × Int × Nat → Shared → Prop} (hs : s.heap.IsSliceOf sl .none .none vk) (pk : IsPart vk (some (-1))) (h : Q ((n : Int) - 1, -1, n) s) : wpAny (model prog w) A (Builtin.Slice.sliceApplied (.ref sl) (pure (n : Int))) Q E s := by
  obtain ⟨os, hos, hcs, hds⟩ := hs
  unfold Builtin.Slice.sliceApplied Builtin.Slice.sliceFields
  refine wpAny_bind (wpAny_bind (wpAny_field hos hds (x := .none) rfl (wpAny_bind (wpAny_field hos hds (x := .none) rfl (wpAny_bind (wpAny_field hos hds (x := vk) rfl (wpAny_pure ?_)))))))
  refine wpAny_bind (slicePart_ pk ?_)
  show wpAny _ _ (if (((-1 : Int)) == 0) = true then _ else _) _ _ s
  rw [if_neg (by decide)]
  refine wpAny_bind (slicePart_none (wpAny_bind (slicePart_none (wpAny_bind (wpAny_pure ?_)))))
  show wpAny _ _ (match Builtin.Slice.sliceAdjust none none (-1) (n : Int) with | (a, b) => pure (a, (-1 : Int), Builtin.Slice.slicePlaces a b (-1))) _ _ s
  rw [adjust_down n]
  show wpAny _ _ (pure ((n : Int) - 1, (-1 : Int), Builtin.Slice.slicePlaces ((n : Int) - 1) (-1) (-1))) _ _ s
  rw [places_down]
  exact wpAny_pure h
theorem getItem_tuple_down {t sl : Addr} {its : Array Value} {vk : Value} {Q : Value → Shared → Prop} (ht : IsTup s.heap t its) (hs : s.heap.IsSliceOf sl .none .none vk) (pk : IsPart vk (some (-1)))
    (h : Q (.ref s.heap.objs.size) { s with heap := s.heap.push { cls := .type "tuple", data := .seq its.toList.reverse.toArray } }) (hz : its.size ≤ sizeLine) : wpAny (model prog w) A (getItem (.ref t) (.ref sl)) Q E s := by
  have fits : sizeOk (.seq its.toList.reverse.toArray) := by
    show its.toList.reverse.toArray.size ≤ sizeLine
    simpa using hz
  have isS : s.TypeIs (.ref sl) "slice" := by
    obtain ⟨os, h1, h2, _⟩ := hs
    exact ⟨os, h1, h2⟩
  unfold getItem
  try with_reducible refine wpAny_holding ?_
  first | refine wpAny_bind (wpAny_pure ?_) | skip
  refine wpAny_bind (wpAny_sequenceKey ht.typeIs (by decide) (wpAny_bind ?_))
  refine wpAny_callSpecial?_slot (name := Str.ofString "__getitem__") ht.typeIs PyProof.Rows.slot_tuple_getitem (wpAny_call_entry PyProof.Rows.slot_tuple_getitem ht.typeIs entry_tuple_getitem ?_ (args_tuple_getitem _ _))
  show wpAny _ _ (Builtin.Tuple.tupleItemsOf (.ref t) >>= _) _ _ s
  refine wpAny_bind (tupleItemsOf_ ht (wpAny_bind (wpAny_typeOf isS ?_)))
  rw [if_pos (by decide)]
  refine wpAny_bind (applied_down hs pk ?_)
  show wpAny _ _ (if ((((its.size : Int) - 1) == 0 && ((-1 : Int)) == 1 && its.size == its.size)) = true then _ else _) _ _ s
  rw [if_neg (by simp), pick_down]
  first
    | exact wpAny_bind (m := Builtin.Tuple.tupleExact _) (wpAny_newObj_type (wpAny_pure ⟨_, rfl, wpAny_pure h⟩) fits)
    | exact wpAny_bind (m := Builtin.Tuple.tupleExact _) (wpAny_newObj_type (wpAny_bind (wpAny_pure (wpAny_pure ⟨_, rfl, wpAny_pure h⟩))) fits)
    | exact wpAny_bind (wpAny_bind (m := Builtin.Tuple.tupleExact _) (wpAny_newObj_type (wpAny_pure (wpAny_pure ⟨_, rfl, wpAny_pure h⟩)) fits))
    | exact wpAny_bind (wpAny_bind (m := Builtin.Tuple.tupleExact _) (wpAny_newObj_type (wpAny_pure ⟨_, rfl, wpAny_pure h⟩) fits))
end

section
variable {W : Wd} {X : Cx} {Wx : WX} {O : List Nat} {e : Expr} {m : M D} {z : Nat} {p : Bool} {pos p1 p2 p3 : Pos} {k : Nat}
def tRevT (K : PySem.W.Frag) (te : TE) : TE := fun σ H Q => te σ H fun x H1 => ∃ a xs, x = .ref a ∧ SqT K H1 a xs ∧ ∀ l, H1 l = none → Q (.ref l) (upd H1 l (.tup xs.reverse))
theorem pe_revT {te : TE} (he : PE X e te) : PE X (.Subscript e (.Slice none none (some (.UnaryOp .USub (.Constant (.int 1) k p1) p2)) p3) pos) (tRevT X.K te) := PE.mk fun pins s σ H Q I h => by
  refine Subscript_ (thn (he.run pins s σ H _ I h) fun v s1 w => ?_)
  obtain ⟨x, H1, I1, r1, a, xs, rfl, hx, q⟩ := w
  cases r1
  have part : PO X (some (.UnaryOp .USub (.Constant (.int 1) k p1) p2)) (tPart (tUn (rU fun i => .int (-i)) (tC (.int 1)))) := po_some (pe_un un_neg pe_int)
  refine wpAny_Slice (thn (po_none.run pins s1 σ H1 (fun o H2 => o = none ∧ H2 = H1) I1 ⟨rfl, rfl⟩) fun lo s2 y2 => ?_)
  obtain ⟨_, _, I2, pl, rfl, rfl⟩ := y2
  refine thn (po_none.run pins s2 σ _ (fun o H2 => o = none ∧ H2 = _) I2 ⟨rfl, rfl⟩) fun hi s3 y3 => ?_
  obtain ⟨_, _, I3, pu, rfl, rfl⟩ := y3
  refine thn (part.run pins s3 σ _ (fun o H2 => o = some (-1) ∧ H2 = _) I3 ⟨1, rfl, -1, rfl, rfl, rfl⟩) fun st s4 y4 => ?_
  obtain ⟨_, _, I4, ps, rfl, rfl⟩ := y4
  cases pl
  cases pu
  have I5 := I4.kept (h' := s4.heap.push { cls := .type "slice", data := .fields #[.none, .none, st] }) (t' := s4.toks) fun b ob w => Heap.get?_push_of_some _ w
  obtain ⟨its, r, ht, hz⟩ := I5.tuple hx
  have hl := r.length
  show wpAny (model X.prog X.w) X.A (subscriptTail e (.Slice none none (some (.UnaryOp .USub (.Constant (.int 1) k p1) p2)) p3) (.ref a) (.ref s4.heap.objs.size)) (EP X pins σ Q) X.xe _
  refine tail_any (ops := [.ref a, .ref s4.heap.objs.size]) ht.typeIs (PyProof.Rows.slot_tuple_getitem.lookup) (getItem_tuple_down ht (Heap.IsSliceOf.new _ .none .none st) ps ?_ (by rw [List.size_toArray]; omega)) (by with_unfolding_all rfl)
  have e5 : its.toArray.toList.reverse.toArray = its.reverse.toArray := by simp
  rw [e5]
  refine ⟨.ref _, _, I5.laid (t' := s4.toks) (o := .tup xs.reverse) (fun b ob w => Heap.get?_push_of_some _ w) (Nat.le_refl _) ⟨by simpa using hz, its.reverse, ?_, ⟨_, Heap.get?_push_size _ rfl, rfl, _, rfl⟩⟩, rfl, q _ (I5.hok.fresh (Nat.le_refl _))⟩
  have rev : ∀ {ys : List V} {us : List Value}, Vals ys us → Vals ys.reverse us.reverse := by
    intro ys us w
    induction w with
    | nil => exact .nil
    | cons w1 _ ih =>
      rw [List.reverse_cons, List.reverse_cons]
      exact ih.append (.cons w1 .nil)
  exact rev r
def dRev (d : D) : Option D := match d with
  | .lst ds => some (.lst ds.reverse)
  | .ro ds => some (.lst ds.reverse)
  | .tup ds => some (.tup ds.reverse)
  | _ => none
def dUn (F : D → Option D) (m : M D) : M D := fun env => (m env).bind fun d e => lift (F d) e
theorem PE.or {t u : TE} (h1 : PE X e t) (h2 : PE X e u) : PE X e (fun σ H Q => t σ H Q ∨ u σ H Q) := ⟨fun pins s σ H Q I q => by
  rcases q with q | q
  · exact h1.run pins s σ H Q I q
  · exact h2.run pins s σ H Q I q⟩
theorem do_rev (h : DE W X Wx O e m z p) (l1 : 1 ≤ z := by decide) (k2 : z ≤ 2 := by decide) : DO W X Wx O (.Subscript e (.Slice none none (some (.UnaryOp .USub (.Constant (.int 1) k p1) p2)) p3) pos) (dUn dRev m) 1 p := by
  obtain ⟨hk, t, pe, s⟩ := h
  refine ⟨hk, _, PE.or (pe_revL pe) (pe_revT pe), fun G L env σ H Q R h => ?_⟩
  unfold dUn at h
  cases q1 : m env with
  | bad => rw [q1] at h; exact h.elim
  | exc c a e =>
    rw [q1] at h
    refine .inl (s G L env σ H _ R ?_)
    rw [q1]
    exact h
  | ok d e1 =>
    rw [q1] at h
    have fin : ∀ (d' : D) (v : V) (H1 H' : Hp), PostO W G O L p 1 Wx env σ H Q (.ok d' e1) → Rel W G O L e1 σ H1 → Ev W (Zp p L) H H1 → (p = true → e1 = env) → NewV W L H1 d' v H' → Q v H' := fun d' v H1 H' h R1 E1 P1 nv => by
      obtain ⟨L', u, w, ra, rb, ev, o, rr⟩ := newV_post R1 nv (H0 := H) (.inr trivial)
      exact h v H' L' u (w.back E1) ra rb (E1.trans (ev.mono fun _ z _ => z.elim)) P1 o rr
    match d, h, q1 with
    | .lst ds, h, q1 =>
      refine .inl (s G L env σ H _ R ?_)
      rw [q1]
      intro v H1 R1 E1 P1 Z1
      obtain ⟨a, vs, rfl, h1, sz, r⟩ := rz_lst (Z1.le (.inl l1) k2)
      exact ⟨a, vs, rfl, SqL.of h1, fun pa np => fin _ _ H1 _ h R1 E1 P1 (.inl ⟨pa, _, _, rfl, rfl, np, rfl, r.reverse, by simpa using sz⟩)⟩
    | .ro ds, h, q1 =>
      refine .inl (s G L env σ H _ R ?_)
      rw [q1]
      intro v H1 R1 E1 P1 Z1
      obtain ⟨a, vs, rfl, h1, sz, r⟩ := rz_ro (Z1.le (.inl l1) k2)
      exact ⟨a, vs, rfl, by rw [hk]; exact h1, fun pa np => fin _ _ H1 _ h R1 E1 P1 (.inl ⟨pa, _, _, rfl, rfl, np, rfl, r.reverse, by simpa using sz⟩)⟩
    | .tup ds, h, q1 =>
      refine .inr (s G L env σ H _ R ?_)
      rw [q1]
      intro v H1 R1 E1 P1 Z1
      obtain ⟨a, vs, rfl, h1, sz, r⟩ := rz_tup (Z1.le (.inl l1) k2)
      refine ⟨a, vs, rfl, by rw [hk]; exact h1, fun pa np => fin _ _ H1 _ h R1 E1 P1 (.inr ⟨fun _ z => (nomatch z), Ev.new np, ?_⟩)⟩
      unfold Rp
      exact ⟨pa, _, rfl, ⟨SqT.of upd_same, by simpa using sz⟩, RpL.ev (Ev.new np) _ _ r.reverse⟩
    | .non, h, _ => exact h.elim
    | .bool _, h, _ => exact h.elim
    | .int _, h, _ => exact h.elim
    | .str _, h, _ => exact h.elim
    | .dic _, h, _ => exact h.elim
    | .obj _ _, h, _ => exact h.elim
end
end DL
/-! DLBuilt: built-in functions, slices, methods of an owned list, x[i] = e. -/
namespace DL
open PySem PySem.Spec PyProof.Rows L2

section
variable {W : Wd} {X : Cx} {L : Lab} {H : Hp} {z : Nat} {d : D} {vs : List V}
theorem all1z (h : AllZ W L H z [d] vs) : ∃ v, vs = [v] ∧ RpZ W L H z d v := by
  obtain ⟨hl, ha⟩ := h
  match vs, hl, ha with
  | [v], _, ha => exact ⟨v, rfl, ha 0 d v rfl rfl⟩
theorem all2z {d' : D} (h : AllZ W L H z [d, d'] vs) : ∃ v v', vs = [v, v'] ∧ RpZ W L H z d v ∧ RpZ W L H z d' v' := by
  obtain ⟨hl, ha⟩ := h
  match vs, hl, ha with
  | [v, v'], _, ha => exact ⟨v, v', rfl, ha 0 d v rfl rfl, ha 1 d' v' rfl rfl⟩
/-! ### len -/
def dLen : List D → Option D
  | [.lst ds] => some (.int ds.length)
  | [.ro ds] => some (.int ds.length)
  | [.tup ds] => some (.int ds.length)
  | [.str x] => if x.length ≤ sizeLine then some (.int x.length) else none
  | _ => none
theorem cf_len (k : X.K = W.K) : CF W 0 2 (fun xs H Q => ∃ x n, xs = [x] ∧ LenV X.K x H n ∧ Q (.int n) H) dLen := by
  intro L H ds vs d Q A h dom q
  unfold dLen at h
  split at h
  · obtain ⟨v, rfl, r⟩ := all1z A
    have r : Rp W No H (.lst _) v := r
    unfold Rp at r
    obtain ⟨a, us, rfl, _, ⟨h1, _⟩, h2⟩ := r
    cases h
    exact ⟨_, _, rfl, .inl ⟨us, SqL.of h1, h2.length⟩, q _ H Ev.refl rz2_int⟩
  · obtain ⟨v, rfl, r⟩ := all1z A
    have r : Rp W No H (.ro _) v := r
    unfold Rp at r
    obtain ⟨a, us, rfl, ⟨h1, _⟩, h2⟩ := r
    cases h
    exact ⟨_, _, rfl, .inl ⟨us, by rw [k]; exact h1.sq, h2.length⟩, q _ H Ev.refl rz2_int⟩
  · obtain ⟨v, rfl, r⟩ := all1z A
    have r : Rp W No H (.tup _) v := r
    unfold Rp at r
    obtain ⟨a, us, rfl, ⟨h1, _⟩, h2⟩ := r
    cases h
    exact ⟨_, _, rfl, .inr ⟨us, by rw [k]; exact h1, h2.length⟩, q _ H Ev.refl rz2_int⟩
  · split at h
    · rename_i hz
      cases h
      obtain ⟨v, rfl, r⟩ := all1z A
      rw [rz_str r]
      exact ⟨_, _, rfl, ⟨hz, rfl⟩, q _ H Ev.refl rz2_int⟩
    · cases h
  · cases h
/-! ### tuple(..), list(..) -/
def dTuple : List D → Option D
  | [.lst ds] => some (.tup ds)
  | [.ro ds] => some (.tup ds)
  | [.tup ds] => some (.tup ds)
  | _ => none
theorem cf_tuple (k : X.K = W.K) : CF W 1 2 (fun xs H Q => ∃ p ys, xs = [.ref p] ∧ ((SqL X.K H p ys ∧ ∀ l, H l = none → Q (.ref l) (upd H l (.tup ys))) ∨ (SqT X.K H p ys ∧ Q (.ref p) H))) dTuple := by
  intro L H ds vs d Q A h dom q
  have fin : ∀ (ds : List D) (us : List V), RpL W (Zo L) H ds us → us.length ≤ sizeLine → ∀ l, H l = none → RpZ W L (upd H l (.tup us)) 2 (.tup ds) (.ref l) := fun ds us r sz l nl => by
    show Rp W (Zo L) _ (.tup ds) _
    unfold Rp
    exact ⟨l, us, rfl, ⟨SqT.of upd_same, sz⟩, RpL.ev (Ev.new nl) _ _ r⟩
  unfold dTuple at h
  split at h
  · cases h
    obtain ⟨v, rfl, r⟩ := all1z A
    obtain ⟨a, us, rfl, h1, sz, r⟩ := rz_lst r
    exact ⟨a, us, rfl, .inl ⟨SqL.of h1, fun l nl => q _ _ (Ev.new nl) (fin _ us r sz l nl)⟩⟩
  · cases h
    obtain ⟨v, rfl, r⟩ := all1z A
    obtain ⟨a, us, rfl, h1, sz, r⟩ := rz_ro r
    exact ⟨a, us, rfl, .inl ⟨by rw [k]; exact h1, fun l nl => q _ _ (Ev.new nl) (fin _ us r sz l nl)⟩⟩
  · cases h
    obtain ⟨v, rfl, r⟩ := all1z A
    obtain ⟨a, us, rfl, h1, sz, r⟩ := rz_tup r
    refine ⟨a, us, rfl, .inr ⟨by rw [k]; exact h1, q _ H Ev.refl ?_⟩⟩
    show Rp W (Zo L) _ (.tup _) _
    unfold Rp
    exact ⟨a, us, rfl, ⟨h1, sz⟩, r⟩
  · cases h
def dList : List D → Option D
  | [.lst ds] => some (.lst ds)
  | [.ro ds] => some (.lst ds)
  | [.tup ds] => some (.lst ds)
  | _ => none
theorem cfo_list (k : X.K = W.K) : CFO W 1 (fun xs H Q => ∃ p ys, xs = [.ref p] ∧ (SqL X.K H p ys ∨ SqT X.K H p ys) ∧ ∀ l, H l = none → Q (.ref l) (upd H l (.lst ys))) dList := by
  intro L H ds vs d Q A h dom q
  unfold dList at h
  split at h
  · cases h
    obtain ⟨v, rfl, r⟩ := all1z A
    obtain ⟨a, us, rfl, h1, sz, r⟩ := rz_lst r
    exact ⟨a, us, rfl, .inl (SqL.of h1), fun l nl => q _ _ (.inl ⟨l, us, _, rfl, rfl, nl, rfl, r, sz⟩)⟩
  · cases h
    obtain ⟨v, rfl, r⟩ := all1z A
    obtain ⟨a, us, rfl, h1, sz, r⟩ := rz_ro r
    exact ⟨a, us, rfl, .inl (by rw [k]; exact h1), fun l nl => q _ _ (.inl ⟨l, us, _, rfl, rfl, nl, rfl, r, sz⟩)⟩
  · cases h
    obtain ⟨v, rfl, r⟩ := all1z A
    obtain ⟨a, us, rfl, h1, sz, r⟩ := rz_tup r
    exact ⟨a, us, rfl, .inr (by rw [k]; exact h1), fun l nl => q _ _ (.inl ⟨l, us, _, rfl, rfl, nl, rfl, r, sz⟩)⟩
  · cases h
/-! ### all, any, sum of a list -/
def boolsOf : List D → Option (List Bool)
  | [] => some []
  | .bool b :: r => (boolsOf r).map (b :: ·)
  | _ :: _ => none
def intsOf : List D → Option (List Int)
  | [] => some []
  | .int b :: r => (intsOf r).map (b :: ·)
  | _ :: _ => none
theorem boolsOf_v {Z : Addr → Prop} : ∀ {ds : List D} {us : List V} {bs : List Bool}, RpL W Z H ds us → boolsOf ds = some bs → us = bs.map V.bl
  | [], us, bs, r, h => by
    unfold RpL at r
    cases h
    exact r
  | d :: ds, us, bs, r, h => by
    unfold RpL at r
    obtain ⟨v, ws, rfl, r1, r2⟩ := r
    cases d with
    | bool b =>
      have h : (boolsOf ds).map (b :: ·) = some bs := h
      cases e : boolsOf ds with
      | none => rw [e] at h; cases h
      | some bs' =>
        rw [e] at h
        cases h
        unfold Rp at r1
        rw [r1, boolsOf_v r2 e]
        rfl
    | _ => cases h
theorem intsOf_v {Z : Addr → Prop} : ∀ {ds : List D} {us : List V} {bs : List Int}, RpL W Z H ds us → intsOf ds = some bs → us = bs.map V.int
  | [], us, bs, r, h => by
    unfold RpL at r
    cases h
    exact r
  | d :: ds, us, bs, r, h => by
    unfold RpL at r
    obtain ⟨v, ws, rfl, r1, r2⟩ := r
    cases d with
    | int b =>
      have h : (intsOf ds).map (b :: ·) = some bs := h
      cases e : intsOf ds with
      | none => rw [e] at h; cases h
      | some bs' =>
        rw [e] at h
        cases h
        unfold Rp at r1
        rw [r1, intsOf_v r2 e]
        rfl
    | _ => cases h
/-- a list, as it is looked at -/
theorem lst_any {d : D} {ds : List D} {v : V} (e : d = .lst ds ∨ d = .ro ds) (k : X.K = W.K) (r : RpZ W L H z d v) : ∃ a us, v = .ref a ∧ SqL X.K H a us ∧ RpL W No H ds us := by
  have r := r.any
  rcases e with rfl | rfl
  · unfold Rp at r
    obtain ⟨a, us, rfl, _, ⟨h1, _⟩, h2⟩ := r
    exact ⟨a, us, rfl, SqL.of h1, h2⟩
  · unfold Rp at r
    obtain ⟨a, us, rfl, ⟨h1, _⟩, h2⟩ := r
    exact ⟨a, us, rfl, by rw [k]; exact h1.sq, h2⟩
def dAll : List D → Option D
  | [.lst ds] => (boolsOf ds).map fun bs => .bool (bs.all id)
  | _ => none
def dAny : List D → Option D
  | [.lst ds] => (boolsOf ds).map fun bs => .bool (bs.any id)
  | _ => none
def dSum : List D → Option D
  | [.lst ds] => (intsOf ds).map fun bs => .int bs.sum
  | _ => none
theorem cf_all (k : X.K = W.K) : CF W 0 2 (rAll X.K) dAll := by
  intro L H ds vs d Q A h dom q
  unfold dAll at h
  split at h
  · cases e : boolsOf _ with
    | none => rw [e] at h; cases h
    | some bs =>
      rw [e] at h
      cases h
      obtain ⟨v, rfl, r⟩ := all1z A
      obtain ⟨a, us, rfl, h1, h2⟩ := lst_any (.inl rfl) k r
      rw [boolsOf_v h2 e] at h1
      exact ⟨a, bs, rfl, h1, q _ H Ev.refl rz2_bool⟩
  · cases h
theorem cf_any (k : X.K = W.K) : CF W 0 2 (rAny X.K) dAny := by
  intro L H ds vs d Q A h dom q
  unfold dAny at h
  split at h
  · cases e : boolsOf _ with
    | none => rw [e] at h; cases h
    | some bs =>
      rw [e] at h
      cases h
      obtain ⟨v, rfl, r⟩ := all1z A
      obtain ⟨a, us, rfl, h1, h2⟩ := lst_any (.inl rfl) k r
      rw [boolsOf_v h2 e] at h1
      exact ⟨a, bs, rfl, h1, q _ H Ev.refl rz2_bool⟩
  · cases h
theorem cf_sum (k : X.K = W.K) : CF W 0 2 (rSum X.K) dSum := by
  intro L H ds vs d Q A h dom q
  unfold dSum at h
  split at h
  · cases e : intsOf _ with
    | none => rw [e] at h; cases h
    | some bs =>
      rw [e] at h
      cases h
      obtain ⟨v, rfl, r⟩ := all1z A
      obtain ⟨a, us, rfl, h1, h2⟩ := lst_any (.inl rfl) k r
      rw [intsOf_v h2 e] at h1
      exact ⟨a, bs, rfl, h1, q _ H Ev.refl rz2_int⟩
  · cases h
/-! ### numbers -/
def dAbs : List D → Option D
  | [.int i] => some (.int (if i < 0 then -i else i))
  | _ => none
theorem cf_abs : CF W 0 2 (fun xs H Q => ∃ i, xs = [.int i] ∧ Q (.int (if i < 0 then -i else i)) H) dAbs := by
  intro L H ds vs d Q A h dom q
  unfold dAbs at h
  split at h
  · cases h
    obtain ⟨v, rfl, r⟩ := all1z A
    rw [rz_int r]
    exact ⟨_, rfl, q _ H Ev.refl rz2_int⟩
  · cases h
def dInt : List D → Option D
  | [.int i] => some (.int i)
  | [.bool b] => some (.int (if b then 1 else 0))
  | _ => none
theorem cf_int : CF W 0 2 (fun xs H Q => (∃ i, xs = [.int i] ∧ Q (.int i) H) ∨ ∃ k, xs = [.bl k] ∧ Q (.int (if k then 1 else 0)) H) dInt := by
  intro L H ds vs d Q A h dom q
  unfold dInt at h
  split at h
  · cases h
    obtain ⟨v, rfl, r⟩ := all1z A
    rw [rz_int r]
    exact .inl ⟨_, rfl, q _ H Ev.refl rz2_int⟩
  · cases h
    obtain ⟨v, rfl, r⟩ := all1z A
    rw [rz_bool r]
    exact .inr ⟨_, rfl, q _ H Ev.refl rz2_int⟩
  · cases h
def dMax2 : List D → Option D
  | [.int i, .int j] => some (.int (if j > i then j else i))
  | _ => none
def dMin2 : List D → Option D
  | [.int i, .int j] => some (.int (if j < i then j else i))
  | _ => none
theorem cf_max2 : CF W 0 2 (fun xs H Q => ∃ i j, xs = [.int i, .int j] ∧ Q (.int (if j > i then j else i)) H) dMax2 := by
  intro L H ds vs d Q A h dom q
  unfold dMax2 at h
  split at h
  · cases h
    obtain ⟨v, v', rfl, r, r'⟩ := all2z A
    rw [rz_int r, rz_int r']
    exact ⟨_, _, rfl, q _ H Ev.refl rz2_int⟩
  · cases h
theorem cf_min2 : CF W 0 2 (fun xs H Q => ∃ i j, xs = [.int i, .int j] ∧ Q (.int (if j < i then j else i)) H) dMin2 := by
  intro L H ds vs d Q A h dom q
  unfold dMin2 at h
  split at h
  · cases h
    obtain ⟨v, v', rfl, r, r'⟩ := all2z A
    rw [rz_int r, rz_int r']
    exact ⟨_, _, rfl, q _ H Ev.refl rz2_int⟩
  · cases h
end

/-! ### slices -/
def cutD {α : Type} (xs : List α) (lo hi : Option Int) : List α := (xs.drop (HT.sIx xs.length 0 lo)).take (HT.sIx xs.length xs.length hi - HT.sIx xs.length 0 lo)
def dCut (d : D) (lo hi : Option Int) : Option D := match d with
  | .lst ds => some (.lst (cutD ds lo hi))
  | .ro ds => some (.lst (cutD ds lo hi))
  | .tup ds => some (.tup (cutD ds lo hi))
  | .str x => if x.length ≤ sizeLine then some (.str (cutS x lo hi)) else none
  | _ => none
def dPart (m : Option (M D)) : M (Option Int) := fun env => match m with
  | none => .ok none env
  | some m => (m env).bind fun d e => match d with
    | .int i => .ok (some i) e
    | _ => .bad
def D.cuts : D → Bool
  | .lst _ => true
  | .ro _ => true
  | .tup _ => true
  | .str _ => true
  | _ => false
def dSlice (m : M D) (lo hi : Option (M D)) : M D := fun env => (m env).bind fun d e => bif d.cuts then (dPart lo e).bind fun l e2 => (dPart hi e2).bind fun u e3 => lift (dCut d l u) e3 else .bad
section
variable {W : Wd} {X : Cx} {Wx : WX} {O : List Nat} {e : Expr} {m : M D} {z : Nat} {p : Bool} {pos p2 : Pos} {lo hi : Option Expr} {ml mh : Option (M D)}
/-- a bound of a slice -/
structure DP (W : Wd) (X : Cx) (Wx : WX) (O : List Nat) (e : Option Expr) (m : Option (M D)) (p : Bool) : Prop where
  run : ∃ t, PO X e t ∧ ∀ (G : Gh) (L : Lab) (env : EnvD) (σ : L2.St) (H : Hp) (Q : Option Int → Hp → Prop), Rel W G O L env σ H → (match dPart m env with
    | .ok o env' => ∀ H', Rel W G O L env' σ H' → Ev W (Zp p L) H H' → (p = true → env' = env) → Q o H'
    | .exc c a env' => ∀ cv dd H', Rel W G O L env' σ H' → ExR W L c a cv dd H' → Wx cv dd σ H'
    | .bad => False) → t σ H Q
theorem dp_none : DP W X Wx O none none true := ⟨_, po_none, fun G L env σ H Q R h => h H R Ev.refl fun _ => rfl⟩
theorem dp_some {e : Expr} (h : DE W X Wx O e m z p) : DP W X Wx O (some e) (some m) p := by
  obtain ⟨k, t, pe, s⟩ := h
  refine ⟨_, po_some pe, fun G L env σ H Q R h => s G L env σ H _ R ?_⟩
  cases q : m env with
  | bad => unfold dPart at h; simp only [q] at h; exact h.elim
  | exc c a e => unfold dPart at h; simp only [q] at h; exact h
  | ok d e1 =>
    intro v H' R' E P Z
    unfold dPart at h
    simp only [q] at h
    match d, Z, h with
    | .int i, Z, h => exact ⟨i, rz_int Z, h H' R' E P⟩
    | .non, _, h => exact h.elim
    | .bool _, _, h => exact h.elim
    | .str _, _, h => exact h.elim
    | .tup _, _, h => exact h.elim
    | .lst _, _, h => exact h.elim
    | .ro _, _, h => exact h.elim
    | .dic _, _, h => exact h.elim
    | .obj _ _, _, h => exact h.elim
theorem cutV_rp {Z : Addr → Prop} {H : Hp} {ds : List D} {vs : List V} {l u : Option Int} (r : RpL W Z H ds vs) : RpL W Z H (cutD ds l u) (cutV vs l u) := by
  unfold cutD cutV
  rw [r.length]
  exact (r.drop _).take _
theorem do_slice (h : DE W X Wx O e m z p) {pl ph : Bool} (hl : DP W X Wx O lo ml pl) (hh : DP W X Wx O hi mh ph) (cc : (pl && ph) = true ∨ z = 2 := by first | exact .inl rfl | exact .inr rfl) (l1 : 1 ≤ z := by decide) (k2 : z ≤ 2 := by decide) : DO W X Wx O (.Subscript e (.Slice lo hi none p2) pos) (dSlice m ml mh) 1 (p && (pl && ph)) := by
  obtain ⟨hk, t, pe, s⟩ := h
  obtain ⟨tl, pol, sl⟩ := hl
  obtain ⟨th, poh, sh⟩ := hh
  refine ⟨hk, _, PE.or (pe_slice sl_list pe pol poh) (PE.or (pe_slice sl_tupA pe pol poh) (pe_slice sl_str pe pol poh)), fun G L env σ H Q R h => ?_⟩
  -- the parts, whatever r is
  have parts : ∀ (d : D) (e1 : EnvD) (r : V → Option Int → Option Int → Hp → VK → Prop), m env = .ok d e1 → d.cuts = true →
      (∀ (v : V) (H3 : Hp) (l u : Option Int) (d' : D) (e1 : EnvD), Rel W G O L e1 σ H3 → Ev W (Zp (p && (pl && ph)) L) H H3 → ((p && (pl && ph)) = true → e1 = env) → RpZ W L H3 1 d v → dCut d l u = some d' → PostO W G O L (p && (pl && ph)) 1 Wx env σ H Q (.ok d' e1) → r v l u H3 Q) → tSl r t tl th σ H Q := by
    intro d e1 r q1 dc hr
    have h1 : PostO W G O L (p && (pl && ph)) 1 Wx env σ H Q ((dPart ml e1).bind fun l e2 => (dPart mh e2).bind fun u e3 => lift (dCut d l u) e3) := by
      have h1 := h
      unfold dSlice at h1
      rw [q1] at h1
      have h1 : PostO W G O L (p && (pl && ph)) 1 Wx env σ H Q (bif d.cuts then (dPart ml e1).bind fun l e2 => (dPart mh e2).bind fun u e3 => lift (dCut d l u) e3 else .bad) := h1
      rw [dc] at h1
      exact h1
    refine s G L env σ H _ R ?_
    rw [q1]
    intro v H1 R1 E1 P1 Z1
    refine sl G L e1 σ H1 _ R1 ?_
    cases ql : dPart ml e1 with
    | bad => rw [ql] at h1; exact h1.elim
    | exc c a e => rw [ql] at h1; exact h1
    | ok l e2 =>
      rw [ql] at h1
      intro H2 R2 E2 P2
      have h2 : PostO W G O L (p && (pl && ph)) 1 Wx env σ H Q ((dPart mh e2).bind fun u e3 => lift (dCut d l u) e3) := h1
      refine sh G L e2 σ H2 _ R2 ?_
      cases qh : dPart mh e2 with
      | bad => rw [qh] at h2; exact h2.elim
      | exc c a e => rw [qh] at h2; exact h2
      | ok u e3 =>
        rw [qh] at h2
        intro H3 R3 E3 P3
        have h3 : PostO W G O L (p && (pl && ph)) 1 Wx env σ H Q (lift (dCut d l u) e3) := h2
        cases qc : dCut d l u with
        | none => rw [qc] at h3; exact h3.elim
        | some d' =>
          rw [qc] at h3
          have E23 : Ev W (Zp (pl && ph) L) H1 H3 := (E2.mono fun a z _ => Zp_mono (fun w => (Bool.and_eq_true_iff.mp w).1) z).trans (E3.mono fun a z _ => Zp_mono (fun w => (Bool.and_eq_true_iff.mp w).2) z)
          exact hr v H3 l u d' e3 R3 ((E1.mono fun a z _ => Zp_mono (fun w => (Bool.and_eq_true_iff.mp w).1) z).trans (E23.mono fun a z _ => Zp_mono (fun w => (Bool.and_eq_true_iff.mp w).2) z))
            (fun w => by rw [P3 (Bool.and_eq_true_iff.mp (Bool.and_eq_true_iff.mp w).2).2, P2 (Bool.and_eq_true_iff.mp (Bool.and_eq_true_iff.mp w).2).1, P1 (Bool.and_eq_true_iff.mp w).1]) ((Z1.ev E23 cc).le (.inl l1) k2) qc h3
  have fin : ∀ (d' : D) (v : V) (e1 : EnvD) (H1 H' : Hp), PostO W G O L (p && (pl && ph)) 1 Wx env σ H Q (.ok d' e1) → Rel W G O L e1 σ H1 → Ev W (Zp (p && (pl && ph)) L) H H1 → ((p && (pl && ph)) = true → e1 = env) → NewV W L H1 d' v H' → Q v H' := fun d' v e1 H1 H' h R1 E1 P1 nv => by
    obtain ⟨L', u, w, ra, rb, ev, o, rr⟩ := newV_post R1 nv (H0 := H) (.inr trivial)
    exact h v H' L' u (w.back E1) ra rb (E1.trans (ev.mono fun _ z _ => z.elim)) P1 o rr
  cases q1 : m env with
  | bad =>
    unfold dSlice at h
    rw [q1] at h
    exact h.elim
  | exc c a e =>
    refine .inl (s G L env σ H _ R ?_)
    unfold dSlice at h
    rw [q1] at h ⊢
    exact h
  | ok d e1 =>
    cases d with
    | lst ds =>
      refine .inl (parts _ e1 _ q1 rfl fun v H3 l u d' e1 R3 E3 P3 Z3 qc h => ?_)
      cases qc
      obtain ⟨a, vs, rfl, h1, sz, r⟩ := rz_lst Z3
      exact ⟨a, vs, rfl, SqL.of h1, fun pa np => fin _ _ e1 H3 _ h R3 E3 P3 (.inl ⟨pa, _, _, rfl, rfl, np, rfl, cutV_rp r, Nat.le_trans (cutV_length _ _ _) sz⟩)⟩
    | ro ds =>
      refine .inl (parts _ e1 _ q1 rfl fun v H3 l u d' e1 R3 E3 P3 Z3 qc h => ?_)
      cases qc
      obtain ⟨a, vs, rfl, h1, sz, r⟩ := rz_ro Z3
      exact ⟨a, vs, rfl, by rw [hk]; exact h1, fun pa np => fin _ _ e1 H3 _ h R3 E3 P3 (.inl ⟨pa, _, _, rfl, rfl, np, rfl, cutV_rp r, Nat.le_trans (cutV_length _ _ _) sz⟩)⟩
    | tup ds =>
      refine .inr (.inl (parts _ e1 _ q1 rfl fun v H3 l u d' e1 R3 E3 P3 Z3 qc h => ?_))
      cases qc
      obtain ⟨a, vs, rfl, h1, sz, r⟩ := rz_tup Z3
      refine ⟨a, vs, rfl, by rw [hk]; exact h1, fun w => fin _ _ e1 H3 _ h R3 E3 P3 (.inr ⟨fun _ z => (nomatch z), Ev.refl, ?_⟩), fun w pa np => fin _ _ e1 H3 _ h R3 E3 P3 (.inr ⟨fun _ z => (nomatch z), Ev.new np, ?_⟩)⟩
      · have : cutD ds l u = ds := by
          unfold cutD
          rw [r.length, w.1, w.2, List.drop_zero, Nat.sub_zero, ← r.length, List.take_length]
        rw [this]
        unfold Rp
        exact ⟨a, vs, rfl, ⟨h1, sz⟩, r⟩
      · unfold Rp
        exact ⟨pa, _, rfl, ⟨SqT.of upd_same, Nat.le_trans (cutV_length _ _ _) sz⟩, RpL.ev (Ev.new np) _ _ (cutV_rp r)⟩
    | str x =>
      refine .inr (.inr (parts _ e1 _ q1 rfl fun v H3 l u d' e1 R3 E3 P3 Z3 qc h => ?_))
      have qc : (if x.length ≤ sizeLine then some (D.str (cutS x l u)) else none) = some d' := qc
      split at qc
      · rename_i hz
        cases qc
        exact ⟨x, rz_str Z3, hz, fin _ _ e1 H3 _ h R3 E3 P3 (.inr ⟨fun _ z => (nomatch z), Ev.refl, rp_str⟩)⟩
      · cases qc
    | _ =>
      exfalso
      unfold dSlice at h
      rw [q1] at h
      exact h
end
end DL
/-! DLMut: what a slot owns is changed: append, pop, x[i] = ..; parallel assignment; while. -/
namespace DL
open PySem PySem.Spec PyProof.Rows L2

section
variable {W : Wd} {G : Gh} {O : List Nat} {L : Lab} {env : EnvD} {σ : L2.St} {H : Hp} {n i : Nat}
/-- the list that slot i owns is rewritten -/
theorem Rel.mutn (R : Rel W G O L env σ H) {ds ds' : List D} {a : Addr} {vs vs' : List V} (h : env[i]? = some (some (.lst ds))) (o : O.getD i 0 = n + 1) (hv : σ[i]? = some (some (.ref a))) (ha : L a = some [i]) (hh : H a = some (.lst vs))
    (r : ∀ (j : Nat) (d : D) (v : V), ds'[j]? = some d → vs'[j]? = some v → Ow W L H n ([i] ++ [j]) d v) (ln : ds'.length = vs'.length) (sz : vs'.length ≤ sizeLine) : Rel W G O L (env.set i (some (.lst ds'))) σ (upd H a (.lst vs')) := by
  have evA : Ev W (fun b => b = a) H (upd H a (.lst vs')) := Ev.put hh rfl
  have evL : Ev W (Zo L) H (upd H a (.lst vs')) := evA.mono fun b z _ w => by rw [z, ha] at w; cases w
  refine ⟨by rw [List.length_set, R.len], fun j d e => ?_, fun b z w => R.dom b z (evA.dom b w), R.entry evA fun b z => ⟨i, [], by rw [z]; exact ha⟩, R.ext, R.loc, R.first, R.zero⟩
  by_cases q : i = j
  · subst q
    have hl : i < env.length := by
      have := (List.getElem?_eq_some_iff.mp e).1
      simpa using this
    rw [List.getElem?_set_self hl] at e
    have e' : D.lst ds' = d := Option.some.inj (Option.some.inj e)
    subst e'
    refine ⟨.ref a, hv, ?_⟩
    rw [o]
    refine ⟨a, vs', rfl, ha, upd_same, ⟨ln, sz⟩, fun j d v h1 h2 => ?_⟩
    refine Ow.map (fun d v => Rp.ev evL d v) _ _ _ d v (fun b q us e1 e2 => ⟨e1, ?_⟩) (r j d v h1 h2)
    have ne : b ≠ a := fun z => by
      rw [z, ha] at e1
      have := Option.some.inj e1
      simp at this
    rw [upd_ne ne]
    exact e2
  · rw [List.getElem?_set_ne q] at e
    obtain ⟨v', h1, h2⟩ := R.slot j d e
    refine ⟨v', h1, Ow.map (fun d v => Rp.ev evL d v) _ _ _ d v' (fun b q' us e1 e2 => ⟨e1, ?_⟩) h2⟩
    have ne : b ≠ a := fun z => by
      rw [z, ha] at e1
      have := Option.some.inj e1
      simp at this
      exact q this.1
    rw [upd_ne ne]
    exact e2
/-- .. what slot i owns, seen -/
theorem Rel.top (R : Rel W G O L env σ H) {ds : List D} (h : env[i]? = some (some (.lst ds))) (o : O.getD i 0 = n + 1) : ∃ a vs, σ[i]? = some (some (.ref a)) ∧ L a = some [i] ∧ H a = some (.lst vs) ∧ ds.length = vs.length ∧ vs.length ≤ sizeLine ∧
    ∀ (j : Nat) (d : D) (v : V), ds[j]? = some d → vs[j]? = some v → Ow W L H n ([i] ++ [j]) d v := by
  obtain ⟨v, h1, h2⟩ := R.slot i _ h
  rw [o] at h2
  unfold Ow at h2
  obtain ⟨a, vs, rfl, q1, q2, q3, q4⟩ := h2
  exact ⟨a, vs, h1, q1, q2, q3.1, q3.2, q4⟩
theorem Ow.flat0 {p q : List Nat} {d : D} {v : V} (h : Rp W (Zo L) H d v) (f : n = 0 ∨ ∀ ds, d ≠ .lst ds) : Ow W L H n p d v := by
  cases n with
  | zero => exact h
  | succ n =>
    cases d with
    | lst ds => exact ((f.resolve_left (by omega)) ds rfl).elim
    | _ => exact h
theorem Ow.path {p q : List Nat} {d : D} {v : V} (h : Ow W L H n p d v) (e : n = 0 ∨ p = q) : Ow W L H n q d v := by
  rcases e with e | e
  · subst e
    exact h
  · rw [← e]
    exact h
end

section
variable {W : Wd} {X : Cx} {Wx : WX} {F : Fc} {O O' : List Nat} {e : Expr} {me : M D} {p : Bool} {i n : Nat} {x : Str} {px apos cpos spos : Pos}
def isLst : D → Bool
  | .lst _ => true
  | _ => false
theorem isLst_ne {d : D} (h : isLst d = false) : ∀ ds, d ≠ .lst ds := fun ds e => by rw [e] at h; cases h
/-- x.append(e) -/
def dApp (i : Nat) (m : M D) : MS := fun env => match m env with
  | .ok d e => (match e[i]? with
    | some (some (.lst ds)) => if ds.length < sizeLine then .nx (e.set i (some (.lst (ds ++ [d])))) else .bad
    | _ => .bad)
  | .exc c a e => .exc c a e
  | .bad => .bad
/-- the slot holds a list, whatever the expression does -/
def preL (i : Nat) (m : MS) : MS := fun env => match env[i]? with
  | some (some (.lst _)) => m env
  | _ => .bad
theorem getSlot {W : Wd} {G : Gh} {L : Lab} {env e1 : EnvD} {σ : L2.St} {H H1 : Hp} (R : Rel W G O L env σ H) (R1 : Rel W G O L e1 σ H1) (o : O.getD i 0 = n + 1) {ds ds1 : List D} (h : env[i]? = some (some (.lst ds))) (h1 : e1[i]? = some (some (.lst ds1))) :
    ∃ a vs vs1, σ[i]? = some (some (.ref a)) ∧ L a = some [i] ∧ H a = some (.lst vs) ∧ H1 a = some (.lst vs1) ∧ ds1.length = vs1.length ∧ vs1.length ≤ sizeLine ∧ ∀ (j : Nat) (d : D) (v : V), ds1[j]? = some d → vs1[j]? = some v → Ow W L H1 n ([i] ++ [j]) d v := by
  obtain ⟨a, vs, s1, l1, h1', _⟩ := R.top h o
  obtain ⟨b, vs1, s2, l2, h2, h3, h4, h5⟩ := R1.top h1 o
  rw [s1] at s2
  cases s2
  exact ⟨a, vs, vs1, s1, l1, h1', h2, h3, h4, h5⟩
theorem ow_snoc {W : Wd} {L : Lab} {H : Hp} {ds : List D} {vs : List V} {d : D} {v : V} (ln : ds.length = vs.length) (h : ∀ (j : Nat) (d : D) (v : V), ds[j]? = some d → vs[j]? = some v → Ow W L H n ([i] ++ [j]) d v) (r : Rp W (Zo L) H d v) (f : n = 0 ∨ ∀ ds, d ≠ .lst ds) :
    ∀ (j : Nat) (d' : D) (v' : V), (ds ++ [d])[j]? = some d' → (vs ++ [v])[j]? = some v' → Ow W L H n ([i] ++ [j]) d' v' := fun j d' v' h1 h2 => by
  by_cases hj : j < ds.length
  · rw [List.getElem?_append_left hj] at h1
    rw [List.getElem?_append_left (by omega)] at h2
    exact h j d' v' h1 h2
  · rw [List.getElem?_append_right (by omega)] at h1
    rw [List.getElem?_append_right (by omega)] at h2
    have e0 : j - ds.length = 0 := by
      have := (List.getElem?_eq_some_iff.mp h1).1
      simp at this
      omega
    rw [e0] at h1
    rw [show j - vs.length = 0 by omega] at h2
    cases h1
    cases h2
    exact Ow.flat0 (q := []) r f
theorem ds_app (pv : PE X (.Name x px) (tVar i)) (he : DE W X Wx O e me 2 p) (o : O.getD i 0 = 1 := by rfl) (hi : i < tmp := by decide) (cx : thinB O F.ox = true := by decide)
    (hbase : attributeBase (.Name x px) "append" X.env (eval (.Name x px) X.env) = eval (.Name x px) X.env := by rfl)
    (hfew : ((backTo cpos (starEach [e] X.env)).all (fun x => !x.1) && (backToKw cpos (keywordEach [] X.env)).all (fun x => x.1.isSome)
      && decide ([e].length + ([] : List Keyword).length + (if ([] : List Keyword).isEmpty then 0 else 1) < 30)) = true := by rfl)
    (hline : (apos.endLine == cpos.line) = true := by rfl) (hs : starEach [e] X.env = (false, eval e X.env) :: starEach [] X.env := by rfl) (hplain : (backTo cpos (starEach [] X.env)).any (·.1) = false := by rfl)
    (hsw : swapsWith (.Call (.Attribute (.Name x px) "append" apos) [e] [] cpos) none spos.line X.env = pure false := by rfl) :
    DS W X Wx F O (.Expr (.Call (.Attribute (.Name x px) "append" apos) [e] [] cpos) spos) (preL i (dApp i me)) O := by
  obtain ⟨k, te, pe, se⟩ := he
  refine ⟨k, _, ps_expr (pe_bm PySem.F.plainAttrs_list PySem.F.slot_list_append PySem.F.type_list_append (fun pins s σ H x xs v us Q I r1 r2 h => mt_append pins s σ H x xs v us Q I r1 r2 h) pv (pa_cons pe pa_nil hs) hbase hfew hline hs hplain) hsw, fun G L env σ H Dn g R h => ?_⟩
  unfold preL at h
  split at h
  · rename_i ds0 e0
    obtain ⟨a0, vs0, s0, l0, h0, _⟩ := R.top e0 o
    refine ⟨.ref a0, s0, .inl ⟨rfl, vs0, SqL.of h0⟩, se G L env σ H _ R ?_⟩
    unfold dApp at h
    cases q : me env with
    | bad => rw [q] at h; exact h.elim
    | exc c a e =>
      rw [q] at h
      exact exc_out (z := 0) (p := true) (env := env) (fun hn => (g hn).2.1) cx h
    | ok d e1 =>
      rw [q] at h
      intro v H1 R1 E1 P1 Z1
      have h : PostS W G F Wx O L H Dn (match e1[i]? with
        | some (some (.lst ds)) => if ds.length < sizeLine then .nx (e1.set i (some (.lst (ds ++ [d])))) else .bad
        | _ => .bad) := h
      split at h
      · rename_i ds ed
        obtain ⟨a, vs, vs1, s1, l1, h1, h2, h3, h4, h5⟩ := getSlot R R1 o e0 ed
        rw [s0] at s1
        cases s1
        split at h
        · rename_i sz
          refine ⟨a0, vs1, v, rfl, rfl, h2, by omega, h _ _ L (R1.mutn ed o s0 l1 h2 (ow_snoc h3 h5 (Rp_of2 Z1) (.inl rfl)) (by simp [h3]) (by simp; omega)) ⟨?_, fun _ z => .inl z⟩⟩
          refine (E1.mono fun a z _ => z.sub).trans ((Ev.put (Z := fun b => b = a0) h2 rfl).mono fun b z _ w => ?_)
          rw [z, l1] at w
          cases w
        · exact h.elim
      · exact h.elim
  · exact h.elim
end
end DL
/-! DLOwn: several new things at once, each with its own labels; displays of owned things; a, b = x, y. -/
namespace DL
open PySem PySem.Spec PyProof.Rows L2

/-! ### what is new in L1 gets other labels -/
def relabN (f : List Nat → List Nat) (L L1 : Lab) : Lab := fun a => match L a with
  | some l => some l
  | none => (L1 a).map f
section
variable {W : Wd} {G : Gh} {O : List Nat} {L L1 : Lab} {env : EnvD} {σ : L2.St} {H H' : Hp} {f : List Nat → List Nat}
theorem relabN_old {a : Addr} {l : List Nat} (h : L a = some l) : relabN f L L1 a = some l := by
  unfold relabN
  rw [h]
theorem relabN_new {a : Addr} {l : List Nat} (h : L a = none) (h1 : L1 a = some l) : relabN f L L1 a = some (f l) := by
  unfold relabN
  simp only [h, h1, Option.map_some]
theorem relabN_cases {a : Addr} {l : List Nat} (h : relabN f L L1 a = some l) : L a = some l ∨ (L a = none ∧ ∃ l1, L1 a = some l1 ∧ l = f l1) := by
  unfold relabN at h
  cases q : L a with
  | some l0 => rw [q] at h; exact .inl h
  | none =>
    rw [q] at h
    cases q1 : L1 a with
    | none => rw [q1] at h; cases h
    | some l1 => rw [q1] at h; exact .inr ⟨rfl, l1, rfl, (Option.some.inj h).symm⟩
theorem relabN_zo (ext : ∀ a l, L a = some l → L1 a = some l) {a : Addr} : relabN f L L1 a ≠ none ↔ L1 a ≠ none := by
  cases q : L a with
  | some l =>
    rw [relabN_old q, ext a l q]
  | none =>
    cases q1 : L1 a with
    | none =>
      have : relabN f L L1 a = none := by simp only [relabN, q, q1, Option.map_none]
      rw [this]
    | some l1 =>
      rw [relabN_new q q1]
      constructor <;> (intro _ w; cases w)
/-- labels of slots beyond all slots -/
def Beyond (O : List Nat) (L L1 : Lab) : Prop := ∀ a l, L1 a = some l → L a = none → ∃ i q, l = i :: q ∧ O.length ≤ i
theorem Rel.relabN (R : Rel W G O L1 env σ H) (ext : ∀ a l, L a = some l → L1 a = some l) (b : Beyond O L L1) (b' : ∀ a l, L1 a = some l → L a = none → ∃ i q, f l = i :: q ∧ O.length ≤ i ∧ i ≠ 0) (x : ∀ a l, G.L a = some l → L a = some l) : Rel W G O (DL.relabN f L L1) env σ H := by
  have sh : ∀ d v, Rp W (Zo L1) H d v → Rp W (Zo (DL.relabN f L L1)) H d v := fun d v => Rp.shun (fun a z _ => (relabN_zo ext).mp z) d v
  refine ⟨R.len, fun j d e => ?_, fun a z => R.dom a ((relabN_zo ext).mp z), R.ent, fun a l e => relabN_old (x a l e), fun a l e g => ?_, R.first, fun hn a q e => ?_⟩
  · obtain ⟨v, h1, h2⟩ := R.slot j d e
    refine ⟨v, h1, ?_⟩
    by_cases hj : j < O.length
    · refine Ow.map sh _ [j] [j] d v (fun a r vs e1 e2 => ⟨?_, e2⟩) h2
      cases q : L a with
      | some l =>
        have := ext a l q
        rw [e1] at this
        rw [relabN_old q, ← this]
      | none =>
        obtain ⟨i, q', w, hi⟩ := b a _ e1 q
        injection w with w1 _
        omega
    · have o : O.getD j 0 = 0 := by
        rw [List.getD_eq_getElem?_getD, List.getElem?_eq_none_iff.mpr (by omega)]
        rfl
      rw [o] at h2 ⊢
      exact sh d v h2
  · rcases relabN_cases e with e | ⟨hL, l1, e1, w⟩
    · exact R.loc a l (ext a l e) g
    · obtain ⟨i, q, w1, _⟩ := b' a l1 e1 hL
      exact ⟨(R.loc a l1 e1 g).1, i, q, by rw [w, w1]⟩
  · rcases relabN_cases e with e | ⟨e0, l1, e1, w⟩
    · exact R.zero hn a q (ext a _ e)
    · obtain ⟨i, q', w1, _, w3⟩ := b' a l1 e1 e0
      rw [w1] at w
      injection w with w _
      exact (w3 w.symm).elim
end

/-! ### a slot takes what has the label t -/
def relabT (t i : Nat) (L : Lab) : Lab := fun a => match L a with
  | some (j :: q) => if j = t then some (i :: q) else some (j :: q)
  | x => x
section
variable {W : Wd} {G : Gh} {O : List Nat} {L L1 : Lab} {env : EnvD} {σ : L2.St} {H H' : Hp} {n t : Nat}
theorem relabT_zo {i : Nat} {a : Addr} : relabT t i L a ≠ none ↔ L a ≠ none := by
  unfold relabT
  split
  · rename_i j q e
    rw [e]
    constructor
    · intro _ w; cases w
    · intro _ w; split at w <;> cases w
  · exact Iff.rfl
theorem relabT_t {i : Nat} {a : Addr} {q : List Nat} (h : L a = some (t :: q)) : relabT t i L a = some (i :: q) := by
  unfold relabT
  rw [h]
  simp
theorem relabT_ne {i : Nat} {a : Addr} {l : List Nat} (h : L a = some l) (ne : ∀ q, l ≠ t :: q) : relabT t i L a = some l := by
  unfold relabT
  split
  · rename_i j q e
    rw [h] at e
    cases e
    rw [if_neg]
    intro w
    exact ne q (by rw [w])
  · exact h
theorem relabT_cases {i : Nat} {a : Addr} {l : List Nat} (h : relabT t i L a = some l) : L a = some l ∨ ∃ q, L a = some (t :: q) ∧ l = i :: q := by
  unfold relabT at h
  split at h
  · rename_i j q e
    split at h
    · rename_i c
      right
      exact ⟨q, by rw [e, c], (Option.some.inj h).symm⟩
    · left
      rw [e]; exact h
  · exact .inl h
theorem Rel.ownT (R : Rel W G O L env σ H) {i : Nat} {d : D} {v : V} (h : Ow W L H n [t] d v) (ht : t ≠ 0) (hi : i ≠ 0 ∨ G.n = 0) (hl : O.length ≤ t) (il : i < O.length) : Rel W G (O.set i n) (relabT t i L) (env.set i (some d)) (σ.set i (some v)) H := by
  have sh : ∀ d v, Rp W (Zo L) H d v → Rp W (Zo (relabT t i L)) H d v := fun d v => Rp.shun (fun a z _ => relabT_zo.mp z) d v
  refine ⟨by rw [List.length_set, List.length_set, R.len], fun j d' e => ?_, fun a z => R.dom a (relabT_zo.mp z), R.ent, fun a l e => relabT_ne (R.ext a l e) fun q w => ?_, fun a l e g => ?_, fun hn => ?_, fun hn a q e => ?_⟩
  · by_cases q : i = j
    · subst q
      have hlt : i < env.length := by
        have := (List.getElem?_eq_some_iff.mp e).1
        simpa using this
      rw [List.getElem?_set_self hlt] at e
      have e' : d = d' := Option.some.inj (Option.some.inj e)
      subst e'
      refine ⟨v, List.getElem?_set_self (by rw [← R.len]; exact hlt), ?_⟩
      rw [getD_set, if_pos ⟨rfl, il⟩]
      refine Ow.map sh n [t] [i] d v (fun a r vs e1 e2 => ⟨relabT_t e1, e2⟩) h
    · rw [List.getElem?_set_ne q] at e
      obtain ⟨v', h1, h2⟩ := R.slot j d' e
      refine ⟨v', by rw [List.getElem?_set_ne q]; exact h1, ?_⟩
      rw [getD_set, if_neg (fun z => q z.1)]
      by_cases hj : j < O.length
      · refine Ow.map sh _ [j] [j] d' v' (fun a r vs e1 e2 => ⟨relabT_ne e1 fun q' w => ?_, e2⟩) h2
        have w' : j :: r = t :: q' := w
        injection w' with w1 _
        omega
      · have o : O.getD j 0 = 0 := by
          rw [List.getD_eq_getElem?_getD, List.getElem?_eq_none_iff.mpr (by omega)]
          rfl
        rw [o] at h2 ⊢
        exact sh d' v' h2
  · rw [w] at e
    rcases G.hd a _ e with r | ⟨r, r2⟩
    · cases r
    · injection r2 with r3 _
      exact ht r3
  · rcases relabT_cases e with e | ⟨q, e, w⟩
    · exact R.loc a l e g
    · exact ⟨(R.loc a _ e g).1, i, q, w⟩
  · have h0 : i ≠ 0 := hi.resolve_right hn
    obtain ⟨a, b⟩ := R.first hn
    refine ⟨by rw [List.getElem?_set_ne h0]; exact a, ?_⟩
    rw [getD_set, if_neg (fun z => h0 z.1)]
    exact b
  · rcases relabT_cases e with e | ⟨q', e, w⟩
    · exact R.zero hn a q e
    · injection w with w _
      exact (hi.resolve_right hn w.symm).elim
theorem Ow.relabT {i t' : Nat} {d : D} {v : V} (h : Ow W L H n [t'] d v) (ne : t' ≠ t) : Ow W (DL.relabT t i L) H n [t'] d v :=
  Ow.map (fun d v => Rp.shun (fun a z _ => relabT_zo.mp z) d v) n [t'] [t'] d v (fun a r vs e1 e2 => ⟨relabT_ne e1 fun q w => by
    have w' : t' :: r = t :: q := w
    injection w' with w1 _
    exact ne w1, e2⟩) h
end

/-! ### several new things -/
def tk (k : Nat) : Nat := tmp + 2 + k
structure News (W : Wd) (L : Lab) (H : Hp) (k0 : Nat) (ns : List Nat) (ds : List D) (L' : Lab) (H' : Hp) (vs : List V) : Prop where
  ext : ∀ a l, L a = some l → L' a = some l
  new : ∀ a l, L' a = some l → L a = none → ∃ j q, l = tk (k0 + j) :: q
  nw : Nw L L' H
  len : ds.length = vs.length
  at_ : ∀ (j : Nat) (d : D) (v : V), ds[j]? = some d → vs[j]? = some v → Ow W (nl L L') H' (ns.getD j 0) [tk (k0 + j)] d v
def PostOs (W : Wd) (G : Gh) (O : List Nat) (L : Lab) (p : Bool) (k0 : Nat) (ns : List Nat) (Wx : WX) (env : EnvD) (σ : L2.St) (H : Hp) (Q : List V → Hp → Prop) : Out (List D) → Prop
  | .ok ds env' => ∀ vs H' L', News W L H k0 ns ds L' H' vs → Rel W G O L' env' σ H' → Rel W G O L env' σ H' → Ev W (Zp p L) H H' → (p = true → env' = env) → Q vs H'
  | .exc c a env' => ∀ cv dd H', Rel W G O L env' σ H' → ExR W L c a cv dd H' → Wx cv dd σ H'
  | .bad => False
structure DOs (W : Wd) (X : Cx) (Wx : WX) (O : List Nat) (es : List Expr) (m : M (List D)) (k0 : Nat) (ns : List Nat) (p : Bool) : Prop where
  k : X.K = W.K
  len : ∀ env ds e, m env = .ok ds e → ds.length = es.length
  run : ∃ t, PA X es t ∧ ∀ (G : Gh) (L : Lab) (env : EnvD) (σ : L2.St) (H : Hp) (Q : List V → Hp → Prop), Rel W G O L env σ H → PostOs W G O L p k0 ns Wx env σ H Q (m env) → t σ H Q
section
variable {W : Wd} {X : Cx} {Wx : WX} {O : List Nat} {e : Expr} {es : List Expr} {m : M D} {n k0 : Nat} {ns : List Nat} {p1 p2 p : Bool} {ms : M (List D)}
theorem dos_nil (k : X.K = W.K := by rfl) : DOs W X Wx O [] dNil k0 [] true := ⟨k, fun env ds e h => by cases h; rfl, _, pa_nil, fun G L env σ H Q R h => h [] H L ⟨fun _ _ z => z, fun a l z w => (by rw [w] at z; cases z), fun a z => .inl z, rfl, fun j d v h1 _ => by simp at h1⟩ R R Ev.refl fun _ => rfl⟩
theorem tmp_tk (k : Nat) : tk k ≠ tmp := by unfold tk; omega
theorem dos_cons (ha : DO W X Wx O e m n p1) (hr : DOs W X Wx O es ms (k0 + 1) ns p2) (hl : O.length ≤ tmp := by decide)
    (hs : starEach (e :: es) X.env = (false, eval e X.env) :: starEach es X.env := by rfl) : DOs W X Wx O (e :: es) (dCons m ms) k0 (n :: ns) (p1 && p2) := by
  obtain ⟨k, t, pe, s⟩ := ha
  obtain ⟨_, ln, u, pr, sr⟩ := hr
  refine ⟨k, fun env ds e h => ?_, _, pa_cons pe pr hs, fun G L env σ H Q R h => s G L env σ H _ R ?_⟩
  · unfold dCons at h
    cases q1 : m env with
    | bad => rw [q1] at h; cases h
    | exc c a e => rw [q1] at h; cases h
    | ok d1 e1 =>
      rw [q1] at h
      have h : ((ms e1).bind fun ds e2 => Out.ok (d1 :: ds) e2) = .ok ds e := h
      cases q2 : ms e1 with
      | bad => rw [q2] at h; cases h
      | exc c a e => rw [q2] at h; cases h
      | ok ds' e2 =>
        rw [q2] at h
        cases h
        rw [List.length_cons, List.length_cons, ln _ _ _ q2]
  unfold dCons at h
  cases q1 : m env with
  | bad => rw [q1] at h; exact h.elim
  | exc c a e => rw [q1] at h; exact h
  | ok d1 e1 =>
    rw [q1] at h
    intro x H1 L1 u1 w1 R1 R1' E1 P1 o1 r1
    have h : PostOs W G O L (p1 && p2) k0 (n :: ns) Wx env σ H Q ((ms e1).bind fun ds e2 => .ok (d1 :: ds) e2) := h
    let f : List Nat → List Nat := fun l => tk k0 :: l.tail
    let L2 := relabN f L L1
    have fin : ∀ a l, L1 a = some l → L a = none → ∃ q, l = tmp :: q := fun a l z w => u1.2 a l z w
    have by1 : Beyond O L L1 := fun a l z w => by
      obtain ⟨q, e⟩ := fin a l z w
      exact ⟨tmp, q, e, hl⟩
    have R2 : Rel W G O L2 e1 σ H1 := R1.relabN u1.1 by1 (fun a l z w => ⟨tk k0, l.tail, rfl, by unfold tk; omega, by unfold tk; omega⟩) R.ext
    have zo2 : ∀ a, Zo L2 a ↔ Zo L1 a := fun a => relabN_zo u1.1
    have ext2 : ∀ a l, L a = some l → L2 a = some l := fun a l z => relabN_old z
    have o2 : Ow W (nl L L2) H1 n [tk k0] d1 x := Ow.map (fun d v => Rp.shun (fun a z _ => (nl_zo u1.1).mpr ((zo2 a).mp ((nl_zo ext2).mp z))) d v) n [tmp] [tk k0] d1 x (fun a r vs e1 e2 => ⟨by
      obtain ⟨q1, q2⟩ := nl_cons e1
      rw [nl_new q1]
      exact relabN_new q1 q2, e2⟩) o1
    refine sr G L2 e1 σ H1 _ R2 ?_
    cases q2 : ms e1 with
    | bad => rw [q2] at h; exact h.elim
    | exc c a e =>
      rw [q2] at h
      intro cv dd H' R' x
      have rl : ∀ a l, G.L a = some l → L a = some l := R.ext
      refine h cv dd H' (R'.unlabel (fun a l z => ext2 a l z) (fun a i q hi z => ?_) R.ext) ⟨x.1, fun d e => ?_⟩
      · rcases relabN_cases z with z | ⟨_, l1, _, w⟩
        · exact z
        · injection w with w _
          have : tk k0 = tmp + 2 + k0 := rfl
          omega
      · obtain ⟨y, v, a1, a2, a3⟩ := x.2 d e
        refine ⟨y, v, a1, a2, Rp.shun (fun a z _ w => ?_) d v a3⟩
        cases r : L a with
        | none => exact z r
        | some l => rw [ext2 a l r] at w; cases w
    | ok ds e2 =>
      rw [q2] at h
      have h : PostOs W G O L (p1 && p2) k0 (n :: ns) Wx env σ H Q (.ok (d1 :: ds) e2) := h
      intro vs H2 L3 N R3 R3' E2 P2
      have zL : ∀ a, Zo L2 a → Zo L3 a := fun a z w => by
        cases r : L2 a with
        | none => exact z r
        | some l => rw [N.ext a l r] at w; cases w
      have E12 : Ev W (Zp (p1 && p2) L) H H2 := (E1.mono fun a z _ => Zp_mono (fun w => (Bool.and_eq_true_iff.mp w).1) z).trans2 E2 fun a z hn => by
        cases p2 with
        | true => exact z.elim
        | false =>
          rw [Bool.and_false]
          obtain ⟨i, q, z, hi⟩ := z
          rcases relabN_cases z with z | ⟨_, l1, _, w⟩
          · exact ⟨i, q, z, hi⟩
          · injection w with w _
            have : tk k0 = tmp + 2 + k0 := rfl
            omega
      refine h (x :: vs) H2 L3 ⟨fun a l z => N.ext a l (ext2 a l z), fun a l z w => ?_, fun a z => ?_, ?_, fun j d v a1 a2 => ?_⟩ R3 ?_ E12 fun w => ?_
      · cases r : L2 a with
        | none =>
          obtain ⟨j, q, e⟩ := N.new a l z r
          exact ⟨j + 1, q, by rw [e]; congr 1; unfold tk; omega⟩
        | some l2 =>
          rw [N.ext a l2 r] at z
          rcases relabN_cases r with r | ⟨_, l1, _, r2⟩
          · rw [w] at r; cases r
          · exact ⟨0, l1.tail, by rw [← Option.some.inj z, r2] <;> rfl⟩
      · rcases N.nw a z with z | z
        · rcases w1 a ((zo2 a).mp z) with z | z
          · exact .inl z
          · exact .inr z
        · exact .inr (E1.dom a z)
      · rw [List.length_cons, List.length_cons, N.len]
      · cases j with
        | zero =>
          rw [List.getElem?_cons_zero] at a1 a2
          rw [← Option.some.inj a1, ← Option.some.inj a2]
          show Ow W (nl L L3) H2 n [tk k0] d1 x
          have evZ : Ev W (fun a => Zo L2 a ∨ Zo L3 a) H1 H2 := E2.mono fun a z _ => .inl z.sub
          have x3 : ∀ a l, L a = some l → L3 a = some l := fun a l z => N.ext a l (ext2 a l z)
          refine Ow.map (fun d v r => ?_) n [tk k0] [tk k0] d1 x (fun a r vs e1 e2 => ?_) o2
          · refine Rp.shun (fun a z _ => Or.inr ((nl_zo x3).mp z)) d v (Rp.ev evZ d v (Rp.shun (fun a z hn => ?_) d v r))
            rcases z with z | z
            · exact (nl_zo ext2).mpr z
            · exact (nl_zo ext2).mpr ((N.nw a z).resolve_right hn)
          · obtain ⟨e0, e1⟩ := nl_cons (L := L) (L' := L2) e1
            refine ⟨by rw [nl_new e0]; exact N.ext a _ e1, E2.lst a vs e2 fun z => ?_⟩
            cases p2 with
            | true => exact z
            | false =>
              obtain ⟨i, q, z, hi⟩ := z
              rw [e1] at z
              have := (List.cons.inj (Option.some.inj z)).1
              have : tk k0 = tmp + 2 + k0 := rfl
              omega
        | succ j =>
          have := N.at_ j d v (by simpa using a1) (by simpa using a2)
          rw [show k0 + (j + 1) = k0 + 1 + j by omega]
          have x3 : ∀ a l, L a = some l → L3 a = some l := fun a l z => N.ext a l (ext2 a l z)
          exact Ow.map (fun d v => Rp.shun (fun a z _ => (nl_zo N.ext).mpr ((nl_zo x3).mp z)) d v) _ [tk (k0 + 1 + j)] [tk (k0 + 1 + j)] d v (fun a r vs e1 e2 => ⟨by
            obtain ⟨q1, q2⟩ := nl_cons e1
            have q0 : L a = none := by
              cases r : L a with
              | none => rfl
              | some l => rw [ext2 a l r] at q1; cases q1
            rw [nl_new q0]
            exact q2, e2⟩) this
      · refine R3'.unlabel (fun a l z => ext2 a l z) (fun a i q hi z => ?_) R.ext
        rcases relabN_cases z with z | ⟨_, l1, _, w⟩
        · exact z
        · injection w with w _
          have : tk k0 = tmp + 2 + k0 := rfl
          omega
      · rw [P2 (Bool.and_eq_true_iff.mp w).2, P1 (Bool.and_eq_true_iff.mp w).1]
/-- a list of new things, itself new: one level deeper -/
theorem do_lstN (h : DOs W X Wx O es ms 0 ns p) (hn : ns.all (· == n) = true) (hln : ns.length = es.length := by rfl) (hl : es.length ≤ 1000 := by decide) (ho : O.length ≤ tmp := by decide) {pos : Pos} : DO W X Wx O (.List es pos) (dLst ms) (n + 1) p := by
  obtain ⟨k, ln, t, pa, s⟩ := h
  refine ⟨k, _, pe_lst pa, fun G L env σ H Q R h => s G L env σ H _ R ?_⟩
  unfold dLst at h
  cases q1 : ms env with
  | bad => rw [q1] at h; exact h.elim
  | exc c a e => rw [q1] at h; exact h
  | ok ds e1 =>
    rw [q1] at h
    intro vs H1 L1 N R1 R1' E1 P1
    have lds : ds.length = es.length := ln _ _ _ q1
    have sz : vs.length ≤ sizeLine := Nat.le_of_lt (small1000 (by rw [← N.len, lds]; exact hl))
    refine ⟨sz, fun pa np => ?_⟩
    have nL1 := R1.free np
    have nL : L pa = none := R1'.free np
    -- labels of the items: tk j :: q becomes tmp :: j :: q
    let f : List Nat → List Nat := fun l => match l with
      | t :: q => tmp :: (t - (tmp + 2)) :: q
      | [] => []
    have fnew : ∀ a l, L1 a = some l → L a = none → ∃ j q, l = tk j :: q := fun a l z w => by
      obtain ⟨j, q, e⟩ := N.new a l z w
      exact ⟨0 + j, q, e⟩
    have ft : ∀ j q, f (tk j :: q) = tmp :: j :: q := fun j q => by
      show tmp :: (tk j - (tmp + 2)) :: q = _
      rw [show tk j - (tmp + 2) = j by unfold tk; omega]
    let L2 := relabN f L L1
    have R2 : Rel W G O L2 e1 σ H1 := R1.relabN N.ext (fun a l z w => by
      obtain ⟨j, q, e⟩ := fnew a l z w
      exact ⟨_, q, e, by unfold tk; omega⟩) (fun a l z w => by
      obtain ⟨j, q, e⟩ := fnew a l z w
      exact ⟨tmp, j :: q, by rw [e, ft], ho, by decide⟩) R.ext
    have n2 : L2 pa = none := R2.free np
    have R3 : Rel W G O (lay L2 pa [tmp]) e1 σ (upd H1 pa (.lst vs)) := R2.lay (o := .lst vs) np (i := tmp) (q := [])
    have R4 : Rel W G O L e1 σ (upd H1 pa (.lst vs)) := R1'.new np
    have u : untmp L (lay L2 pa [tmp]) := ⟨fun a l z => by
      rw [lay_ne (fun e => by rw [e, nL] at z; cases z)]
      exact relabN_old z, fun a l z w => by
      by_cases e : a = pa
      · rw [e, lay_same] at z
        exact ⟨[], (Option.some.inj z).symm⟩
      · rw [lay_ne e] at z
        rcases relabN_cases z with z | ⟨_, l1, z1, z2⟩
        · rw [w] at z; cases z
        · obtain ⟨j, q, e⟩ := fnew a l1 z1 w
          exact ⟨j :: q, by rw [z2, e, ft]⟩⟩
    have zz : ∀ a, Zo L2 a ↔ Zo L1 a := fun a => relabN_zo N.ext
    have evN : Ev W No H1 (upd H1 pa (.lst vs)) := Ev.new np
    have fz : ∀ d v, Rp W (Zo L1) H1 d v → Rp W (Zo (nl L (lay L2 pa [tmp]))) (upd H1 pa (.lst vs)) d v := fun d v r => by
      refine Rp.shun (fun a z hn => ?_) d v (Rp.ev (evN.mono fun _ z _ => z.elim) d v (Rp.shun (Z' := fun a => Zo L1 a ∨ a = pa) (fun a z hn => z.elim id fun z => (hn (by rw [z]; exact np)).elim) d v r))
      have z := (nl_zo u.1).mp z
      by_cases e : a = pa
      · exact .inr e
      · unfold Zo at z
        rw [lay_ne e] at z
        exact .inl ((zz a).mp z)
    refine h _ _ (lay L2 pa [tmp]) u (fun a z => ?_) R3 R4 (E1.trans (Ev.new np)) P1 ?_ ?_
    · by_cases e : a = pa
      · rw [e]
        exact .inr (E1.dom pa np)
      · rw [lay_ne e] at z
        exact N.nw a ((zz a).mp z)
    · refine ⟨pa, vs, rfl, by rw [nl_new nL]; exact lay_same, upd_same, ⟨N.len, sz⟩, fun j d v a1 a2 => ?_⟩
      have oj := N.at_ j d v a1 a2
      have hj : j < ns.length := by
        have := (List.getElem?_eq_some_iff.mp a1).1
        omega
      have gj : ns.getD j 0 = n := by
        have e1 := List.all_eq_true.mp hn (ns[j]) (List.getElem_mem hj)
        rw [List.getD_eq_getElem?_getD, List.getElem?_eq_getElem hj]
        simpa using e1
      rw [gj, Nat.zero_add] at oj
      refine Ow.map (fun d v r => fz d v (Rp.shun (fun a z _ => (nl_zo N.ext).mpr z) d v r)) n [tk j] ([tmp] ++ [j]) d v (fun a r us e1 e2 => ?_) oj
      obtain ⟨q1, q2⟩ := nl_cons e1
      have ne : a ≠ pa := fun e => by rw [e, nL1] at q2; cases q2
      refine ⟨by rw [nl_new q1, lay_ne ne, show L2 a = some (f (tk j :: ([] ++ r))) from relabN_new q1 q2, ft]; rfl, by rw [upd_ne ne]; exact e2⟩
    · unfold Rp
      refine ⟨pa, vs, rfl, fun z => z nL, ⟨upd_same, sz⟩, RpL.of N.len fun j d v a1 a2 => ?_⟩
      have oj := N.at_ j d v a1 a2
      rw [Nat.zero_add] at oj
      have t := Ow.thaw (L := nl L L1) (L' := L) (fun a z => (nl_zo N.ext).mpr fun w => by
        cases r : L a with
        | none => exact z r
        | some l => rw [N.ext a l r] at w; cases w) _ [tk j] d v (fun a q z => (nl_cons z).1) oj
      exact Rp.ev (evN.mono fun _ z _ => z.elim) d v t
end
end DL
/-! DLPar: a, b = x, y; methods of owned lists; x[i] = e; while. -/
namespace DL
open PySem PySem.Spec PyProof.Rows L2

def stE : EnvD → List Nat → List D → EnvD
  | e, i :: is, d :: ds => stE (e.set i (some d)) is ds
  | e, _, _ => e
def stV : L2.St → List Nat → List V → L2.St
  | e, i :: is, d :: ds => stV (e.set i (some d)) is ds
  | e, _, _ => e
def stO : List Nat → List Nat → List Nat → List Nat
  | e, i :: is, d :: ds => stO (e.set i d) is ds
  | e, _, _ => e
theorem rel_store {W : Wd} {G : Gh} {H : Hp} : ∀ (is ns : List Nat) (ds : List D) (vs : List V) (k : Nat) (O : List Nat) (L : Lab) (env : EnvD) (σ : L2.St), Rel W G O L env σ H →
    (∀ (j : Nat) (d : D) (v : V), ds[j]? = some d → vs[j]? = some v → Ow W L H (ns.getD j 0) [tk (k + j)] d v) → ds.length = vs.length → ds.length = is.length → ns.length = is.length → (∀ i ∈ is, (i ≠ 0 ∨ G.n = 0) ∧ i < O.length) → O.length ≤ tmp →
    ∃ L', Rel W G (stO O is ns) L' (stE env is ds) (stV σ is vs) H ∧ ∀ a, L' a ≠ none ↔ L a ≠ none
  | [], ns, ds, vs, k, O, L, env, σ, R, h, l1, l2, l3, hi, hl => by
    have : ns = [] := List.eq_nil_of_length_eq_zero l3
    subst this
    have : ds = [] := List.eq_nil_of_length_eq_zero l2
    subst this
    have : vs = [] := List.eq_nil_of_length_eq_zero l1.symm
    subst this
    exact ⟨L, R, fun _ => Iff.rfl⟩
  | i :: is, n :: ns, d :: ds, v :: vs, k, O, L, env, σ, R, h, l1, l2, l3, hi, hl => by
    obtain ⟨h1, h2⟩ := hi i List.mem_cons_self
    have o := h 0 d v rfl rfl
    have R1 := R.ownT (t := tk k) (i := i) (n := n) o (by unfold tk; omega) h1 (by unfold tk; omega) h2
    obtain ⟨L', R2, z⟩ := rel_store is ns ds vs (k + 1) _ _ _ _ R1 (fun j d v a1 a2 => by
      have := h (j + 1) d v (by simpa using a1) (by simpa using a2)
      rw [show k + 1 + j = k + (j + 1) by omega]
      exact this.relabT (by unfold tk; omega)) (by simpa using l1) (by simpa using l2) (by simpa using l3) (fun i' hi' => by
      rw [List.length_set]
      exact hi i' (List.mem_cons_of_mem _ hi')) (by rw [List.length_set]; exact hl)
    exact ⟨L', R2, fun a => (z a).trans relabT_zo⟩
def dPar (is : List Nat) (ms : M (List D)) : MS := fun env => match ms env with
  | .ok ds e => .nx (stE e is ds)
  | .exc c a e => .exc c a e
  | .bad => .bad
def okIs (O is : List Nat) : Bool := is.all fun i => (decide (i ≠ 0) || O.getD 0 0 == 0) && decide (i < O.length)
section
variable {W : Wd} {X : Cx} {Wx : WX} {F : Fc} {O O' : List Nat} {e : Expr} {es : List Expr} {me : M D} {ms : M (List D)} {p : Bool} {is ns : List Nat} {st : Stmt}
/-- what a statement does that stores all of them at once -/
theorem snd_par {t : TA} {K : Ends → L2.St → List V → Hp → Prop} (s : ∀ (G : Gh) (L : Lab) (env : EnvD) (σ : L2.St) (H : Hp) (Q : List V → Hp → Prop), Rel W G O L env σ H → PostOs W G O L p 0 ns Wx env σ H Q (ms env) → t σ H Q)
    (hu : ∀ (Dn : Ends) (σ : L2.St) (H : Hp) (vs : List V), vs.length = is.length → Dn.nx (stV σ is vs) H → K Dn σ vs H) (ln : ∀ env ds e, ms env = .ok ds e → ds.length = is.length)
    (hn : ns.length = is.length) (ok : okIs O is = true) (hl : O.length ≤ tmp) (cx : thinB O F.ox = true) : SndS W F Wx O (stO O is ns) (fun Dn σ H => t σ H (K Dn σ)) (dPar is ms) := fun G L env σ H Dn g R h => by
  refine s G L env σ H _ R ?_
  unfold dPar at h
  cases q : ms env with
  | bad => rw [q] at h; exact h.elim
  | exc c a e =>
    rw [q] at h
    exact exc_out (z := 0) (p := true) (env := env) (fun hn => (g hn).2.1) cx h
  | ok ds e1 =>
    rw [q] at h
    intro vs H' L' N R1 R1' E P
    have ld := ln _ _ _ q
    obtain ⟨L2, R2, z⟩ := rel_store is ns ds vs 0 O L' e1 σ R1 (fun j d v a1 a2 => Ow.map (fun d v => Rp.shun (fun a z _ => (nl_zo N.ext).mpr z) d v) _ _ _ d v (fun a r us e1 e2 => ⟨(nl_cons e1).2, e2⟩) (N.at_ j d v a1 a2)) N.len ld hn (fun i hi => by
      have := List.all_eq_true.mp ok i hi
      have := Bool.and_eq_true_iff.mp this
      refine ⟨?_, of_decide_eq_true this.2⟩
      rcases Bool.or_eq_true_iff.mp this.1 with w | w
      · exact .inl (of_decide_eq_true w)
      · right
        exact Decidable.by_contra fun hn => hn ((R.first hn).2.symm.trans (by simpa using w))) hl
    exact hu Dn σ H' vs (N.len.symm.trans ld) (h _ H' L2 R2 ⟨E.mono fun _ z _ => z.sub, fun a w => N.nw a ((z a).mp w)⟩)
theorem ds_par2 {a b : Expr} {x y : Str} {i j : Nat} {px py pt pos : Pos} {kt k2 : Nat} {pt2 : Pos} (ha : DOs W X Wx O [a, b] ms 0 ns p) (ps : ∀ t, PA X [a, b] t → PS X (.Assign [.Tuple [.Name x px, .Name y py] kt pt] (.Tuple [a, b] k2 pt2) pos) (tPar i j t))
    (hn : ns.length = 2 := by rfl) (ok : okIs O [i, j] = true := by decide) (hl : O.length ≤ tmp := by decide) (cx : thinB O F.ox = true := by decide) :
    DS W X Wx F O (.Assign [.Tuple [.Name x px, .Name y py] kt pt] (.Tuple [a, b] k2 pt2) pos) (dPar [i, j] ms) (stO O [i, j] ns) := by
  obtain ⟨k, ln, t, pa, s⟩ := ha
  refine ⟨k, _, ps t pa, snd_par s (fun Dn σ H vs lv h => ?_) ln hn ok hl cx⟩
  match vs, lv, h with
  | [v, w], _, h => exact ⟨v, w, rfl, h⟩
theorem ds_par3 {a b c : Expr} {x y z : Str} {i j l : Nat} {px py pz pt pos : Pos} {kt k2 : Nat} {pt2 : Pos} (ha : DOs W X Wx O [a, b, c] ms 0 ns p) (ps : ∀ t, PA X [a, b, c] t → PS X (.Assign [.Tuple [.Name x px, .Name y py, .Name z pz] kt pt] (.Tuple [a, b, c] k2 pt2) pos) (tPar3 i j l t))
    (hn : ns.length = 3 := by rfl) (ok : okIs O [i, j, l] = true := by decide) (hl : O.length ≤ tmp := by decide) (cx : thinB O F.ox = true := by decide) :
    DS W X Wx F O (.Assign [.Tuple [.Name x px, .Name y py, .Name z pz] kt pt] (.Tuple [a, b, c] k2 pt2) pos) (dPar [i, j, l] ms) (stO O [i, j, l] ns) := by
  obtain ⟨k, ln, t, pa, s⟩ := ha
  refine ⟨k, _, ps t pa, snd_par s (fun Dn σ H vs lv h => ?_) ln hn ok hl cx⟩
  match vs, lv, h with
  | [u, v, w], _, h => exact ⟨u, v, w, rfl, h⟩

/-! ### methods of what a slot owns -/
def MF (W : Wd) (r : V → List V → Hp → VK → Prop) (FM : List D → List D → Option (D × List D)) : Prop := ∀ (L : Lab) (H : Hp) (a : Addr) (vs us : List V) (ds args : List D) (d : D) (ds' : List D) (Q : VK), H a = some (.lst vs) → vs.length ≤ sizeLine → RpL W (Zo L) H ds vs → RpL W (Zo L) H args us →
  FM ds args = some (d, ds') → (∀ v vs', RpL W (Zo L) H ds' vs' → Rp W (Zo L) H d v → vs'.length ≤ sizeLine → Q v (upd H a (.lst vs'))) → r (.ref a) us H Q
def dMeth (i : Nat) (FM : List D → List D → Option (D × List D)) (ms : M (List D)) : M D := fun env => match env[i]? with
  | some (some (.lst _)) => (ms env).bind fun args e => (match e[i]? with
    | some (some (.lst ds)) => (match FM ds args with
      | some r => .ok r.1 (e.set i (some (.lst r.2)))
      | none => .bad)
    | _ => .bad)
  | _ => .bad
theorem snd_meth {r : V → List V → Hp → VK → Prop} {FM : List D → List D → Option (D × List D)} {i : Nat} {t : TA} (f : MF W r FM) (s : ∀ (G : Gh) (L : Lab) (env : EnvD) (σ : L2.St) (H : Hp) (Q : List V → Hp → Prop), Rel W G O L env σ H → PostAr W G O L p 2 Wx env σ H Q (ms env) → t σ H Q)
    (o : O.getD i 0 = 1) (hi : i < tmp) {K : PySem.W.Frag} {G : Gh} {L : Lab} {env : EnvD} {σ : L2.St} {H : Hp} {Q : VK} (R : Rel W G O L env σ H) (h : PostE W G O L false 2 Wx env σ H Q (dMeth i FM ms env)) :
    tBM K "list" r (tVar i) t σ H Q := by
  unfold dMeth at h
  split at h
  · rename_i ds0 e0
    obtain ⟨a0, vs0, s0, l0, h0, _⟩ := R.top e0 o
    refine ⟨.ref a0, s0, .inl ⟨rfl, vs0, SqL.of h0⟩, s G L env σ H _ R ?_⟩
    cases q : ms env with
    | bad => rw [q] at h; exact h.elim
    | exc c a e => rw [q] at h; exact h
    | ok args e1 =>
      rw [q] at h
      intro us H1 R1 E1 P1 A
      have h : PostE W G O L false 2 Wx env σ H Q (match e1[i]? with
        | some (some (.lst ds)) => (match FM ds args with
          | some r => .ok r.1 (e1.set i (some (.lst r.2)))
          | none => .bad)
        | _ => .bad) := h
      split at h
      · rename_i ds ed
        obtain ⟨a, vs, vs1, s1, l1, h1, h2, h3, h4, h5⟩ := getSlot R R1 o e0 ed
        rw [s0] at s1
        cases s1
        cases qf : FM ds args with
        | none => rw [qf] at h; exact h.elim
        | some rr =>
          rw [qf] at h
          refine f L H1 a0 vs1 us ds args rr.1 rr.2 Q h2 h4 (RpL.of h3 fun j d v a1 a2 => h5 j d v a1 a2) A.two qf fun v vs' rl rv sz => ?_
          have evA : Ev W (fun b => b = a0) H1 (upd H1 a0 (.lst vs')) := Ev.put h2 rfl
          have evL : Ev W (Zo L) H1 (upd H1 a0 (.lst vs')) := evA.mono fun b z _ w => by rw [z, l1] at w; cases w
          refine h v _ (R1.mutn ed o s0 l1 h2 (fun j d v a1 a2 => ?_) rl.length sz) ((E1.mono fun a z _ => Zp_mono (p := p) (p' := false) (fun w => nomatch w) z).trans (evA.mono fun b z _ => ⟨i, [], by rw [z]; exact l1, hi⟩)) (fun z => nomatch z) (Rp.ev evL _ v rv)
          obtain ⟨v', w1, w2⟩ := rl.getD a1
          rw [a2] at w1
          rw [Option.some.inj w1]
          exact w2
      · exact h.elim
  · exact h.elim
theorem de_meth {r : V → List V → Hp → VK → Prop} {FM : List D → List D → Option (D × List D)} {i : Nat} {x nm : Str} {id : String} {px apos cpos : Pos} (slot : Slot "list" nm id) (hty : typeOf (.builtin id) = pure (.type "method_descriptor")) (hm : MtR X id r) (f : MF W r FM) (pv : PE X (.Name x px) (tVar i)) (ha : DAr W X Wx O (e :: es) ms 2 p)
    (o : O.getD i 0 = 1 := by rfl) (hi : i < tmp := by decide)
    (hbase : attributeBase (.Name x px) nm X.env (eval (.Name x px) X.env) = eval (.Name x px) X.env := by rfl)
    (hfew : ((backTo cpos (starEach (e :: es) X.env)).all (fun x => !x.1) && (backToKw cpos (keywordEach [] X.env)).all (fun x => x.1.isSome)
      && decide ((e :: es).length + ([] : List Keyword).length + (if ([] : List Keyword).isEmpty then 0 else 1) < 30)) = true := by rfl)
    (hline : (apos.endLine == cpos.line) = true := by rfl) (hs : starEach (e :: es) X.env = (false, eval e X.env) :: starEach es X.env := by rfl) (hplain : (backTo cpos (starEach es X.env)).any (·.1) = false := by rfl) :
    DE W X Wx O (.Call (.Attribute (.Name x px) nm apos) (e :: es) [] cpos) (dMeth i FM ms) 2 false := by
  obtain ⟨k, _, t, pa, s⟩ := ha
  exact ⟨k, _, pe_bm PySem.F.plainAttrs_list slot hty hm pv pa hbase hfew hline hs hplain, fun G L env σ H Q R h => snd_meth f s o hi R h⟩
theorem de_meth0 {r : V → List V → Hp → VK → Prop} {FM : List D → List D → Option (D × List D)} {i : Nat} {x nm : Str} {id : String} {px apos cpos : Pos} (slot : Slot "list" nm id) (hty : typeOf (.builtin id) = pure (.type "method_descriptor")) (hm : MtR X id r) (f : MF W r FM) (pv : PE X (.Name x px) (tVar i))
    (o : O.getD i 0 = 1 := by rfl) (hi : i < tmp := by decide) (k : X.K = W.K := by rfl)
    (hbase : attributeBase (.Name x px) nm X.env (eval (.Name x px) X.env) = eval (.Name x px) X.env := by rfl)
    (hline : (apos.endLine == cpos.line) = true := by rfl) :
    DE W X Wx O (.Call (.Attribute (.Name x px) nm apos) [] [] cpos) (dMeth i FM dNil) 2 false := by
  obtain ⟨_, _, t, pa, s⟩ := (da_nil (W := W) (X := X) (Wx := Wx) (O := O) (z := 2) (k := k))
  refine ⟨k, _, pe_bm0 PySem.F.plainAttrs_list slot hty hm pv hbase hline, fun G L env σ H Q R h => ?_⟩
  have h2 := snd_meth (t := fun σ H Q => Q [] H) (p := true) (ms := dNil) (K := X.K) f (fun G L env σ H Q R h => h [] H R Ev.refl (fun _ => rfl) ⟨rfl, fun i d v a1 _ => by simp at a1⟩) o hi R h
  exact h2

/-! #### the methods -/
def mAppend : List D → List D → Option (D × List D) := fun ds args => match args with
  | [d] => if ds.length < sizeLine then some (.non, ds ++ [d]) else none
  | _ => none
theorem rpl1 {H : Hp} {Z : Addr → Prop} {d : D} {us : List V} (h : RpL W Z H [d] us) : ∃ v, us = [v] ∧ Rp W Z H d v := by
  unfold RpL at h
  obtain ⟨v, vs, rfl, r, h⟩ := h
  unfold RpL at h
  subst h
  exact ⟨v, rfl, r⟩
theorem rpl0 {H : Hp} {Z : Addr → Prop} {us : List V} (h : RpL W Z H [] us) : us = [] := by
  unfold RpL at h
  exact h
theorem mf_append : MF W rAppend mAppend := fun L H a vs us ds args d ds' Q h sz rd ra hf hq => by
  match args, ra, hf with
  | [x], ra, hf =>
    obtain ⟨v, rfl, rx⟩ := rpl1 ra
    have hf : (if ds.length < sizeLine then some (D.non, ds ++ [x]) else none) = some (d, ds') := hf
    split at hf
    · rename_i c
      cases hf
      have := rd.length
      refine ⟨a, vs, v, rfl, rfl, h, by omega, hq .non _ (rd.append ?_) (by unfold Rp; rfl) (by simp; omega)⟩
      unfold RpL
      exact ⟨v, [], rfl, rx, by unfold RpL; rfl⟩
    · cases hf
  | [], _, hf => cases hf
  | _ :: _ :: _, _, hf => cases hf
def mPop : List D → List D → Option (D × List D) := fun ds args => match args, ds[ds.length - 1]? with
  | [], some d => some (d, ds.dropLast)
  | _, _ => none
theorem mf_pop : MF W rPop mPop := fun L H a vs us ds args d ds' Q h sz rd ra hf hq => by
  match args, ra, hf with
  | [], ra, hf =>
    have := rpl0 ra
    subst this
    unfold mPop at hf
    cases q : ds[ds.length - 1]? with
    | none => rw [q] at hf; cases hf
    | some x =>
      rw [q] at hf
      cases hf
      obtain ⟨v, hv, rv⟩ := rd.getD q
      rw [rd.length] at hv
      refine ⟨a, vs, v, rfl, rfl, h, hv, hq v _ ?_ rv (by simp; omega)⟩
      rw [List.dropLast_eq_take, List.dropLast_eq_take, rd.length]
      exact rd.take _
  | _ :: _, _, hf => cases hf
def mPopAt : List D → List D → Option (D × List D) := fun ds args => match args with
  | [.int i] => if -(2 ^ 63) ≤ i ∧ i < 2 ^ 63 then (match seqIndex? i ds.length with
    | some k => (match ds[k]? with
      | some d => some (d, ds.eraseIdx k)
      | none => none)
    | none => none) else none
  | _ => none
theorem RpL.erase {Z : Addr → Prop} {H : Hp} {ds : List D} {vs : List V} (h : RpL W Z H ds vs) (i : Nat) : RpL W Z H (ds.eraseIdx i) (vs.eraseIdx i) := by
  rw [List.eraseIdx_eq_take_drop_succ, List.eraseIdx_eq_take_drop_succ]
  exact (h.take _).append (h.drop _)
theorem mf_popAt : MF W rPopAt mPopAt := fun L H a vs us ds args d ds' Q h sz rd ra hf hq => by
  match args, ra, hf with
  | [.int i], ra, hf =>
    obtain ⟨v, rfl, rx⟩ := rpl1 ra
    unfold Rp at rx
    subst rx
    have hf : (if -(2 ^ 63) ≤ i ∧ i < 2 ^ 63 then (match seqIndex? i ds.length with
      | some k => (match ds[k]? with
        | some d => some (d, ds.eraseIdx k)
        | none => none)
      | none => none) else none) = some (d, ds') := hf
    split at hf
    · rename_i c
      cases qk : seqIndex? i ds.length with
      | none => rw [qk] at hf; cases hf
      | some k =>
        rw [qk] at hf
        have hf : (match ds[k]? with
          | some d => some (d, ds.eraseIdx k)
          | none => none) = some (d, ds') := hf
        cases qd : ds[k]? with
        | none => rw [qd] at hf; cases hf
        | some x =>
          rw [qd] at hf
          cases hf
          obtain ⟨v, hv, rv⟩ := rd.getD qd
          rw [rd.length] at qk
          exact ⟨a, vs, i, k, v, rfl, rfl, h, c.1, c.2, qk, hv, hq v _ (rd.erase k) rv (Nat.le_trans (len_erase vs k) sz)⟩
    · cases hf
  | [], _, hf => cases hf
  | x :: _ :: _, _, hf => cases x <;> cases hf
  | [.non], _, hf => cases hf
  | [.bool _], _, hf => cases hf
  | [.str _], _, hf => cases hf
  | [.tup _], _, hf => cases hf
  | [.lst _], _, hf => cases hf
  | [.ro _], _, hf => cases hf
  | [.dic _], _, hf => cases hf
  | [.obj _ _], _, hf => cases hf

/-! ### x[j] = e -/
def dSetIx (i : Nat) (m2 m1 : M D) : MS := fun env => match env[i]? with
  | some (some (.lst _)) => (match m2 env with
    | .ok d e1 => (match m1 e1 with
      | .ok (.int k) e2 => (match e2[i]? with
        | some (some (.lst ds)) => (match ixN ds.length k with
          | some j => .nx (e2.set i (some (.lst (ds.set j d))))
          | none => .bad)
        | _ => .bad)
      | .exc c a e => .exc c a e
      | _ => .bad)
    | .exc c a e => .exc c a e
    | .bad => .bad)
  | _ => .bad
theorem ds_setIx {i z1 : Nat} {p1 : Bool} {x : Str} {e1 e2 : Expr} {m1 m2 : M D} {px pos spos : Pos} (h2 : DE W X Wx O e2 m2 2 p) (pv : PE X (.Name x px) (tVar i)) (h1 : DE W X Wx O e1 m1 z1 p1)
    (o : O.getD i 0 = 1 := by rfl) (hi : i < tmp := by decide) (cx : thinB O F.ox = true := by decide)
    (ha : ∀ v, assign (.Subscript (.Name x px) e1 pos) X.env v = (do
      let ov ← holding [v] (eval (.Name x px) X.env)
      let iv ← holding [v, ov] (eval e1 X.env)
      standAt pos
      holding [v, ov, iv] (setItem ov iv v)
      release [v, ov, iv] []) := by intro _; rfl)
    (hs : swapsWithSole [.Subscript (.Name x px) e1 pos] e2 spos.line X.env = pure false := by rfl) (hw : swappedStores [.Subscript (.Name x px) e1 pos] e2 X.env = pure none := by rfl)
    (hh : (assignEach [.Subscript (.Name x px) e1 pos] X.env).map (·.2) = [assign (.Subscript (.Name x px) e1 pos) X.env] := by rfl) :
    DS W X Wx F O (.Assign [.Subscript (.Name x px) e1 pos] e2 spos) (dSetIx i m2 m1) O := by
  obtain ⟨k, t2, p2, s2⟩ := h2
  obtain ⟨_, t1, p1', s1⟩ := h1
  refine ⟨k, _, ps_asg p2 (pg_sub pv p1' set_list ha) hs hw hh, fun G L env σ H Dn g R h => s2 G L env σ H _ R ?_⟩
  unfold dSetIx at h
  split at h
  · rename_i ds0 ez
    cases q : m2 env with
    | bad => rw [q] at h; exact h.elim
    | exc c a e =>
      rw [q] at h
      exact exc_out (z := 0) (p := true) (env := env) (fun hn => (g hn).2.1) cx h
    | ok d ea =>
      rw [q] at h
      have h : PostS W G F Wx O L H Dn (match m1 ea with
        | .ok (.int k) e2 => (match e2[i]? with
          | some (some (.lst ds)) => (match ixN ds.length k with
            | some j => .nx (e2.set i (some (.lst (ds.set j d))))
            | none => .bad)
          | _ => .bad)
        | .exc c a e => .exc c a e
        | _ => .bad) := h
      intro v H1 R1 E1 P1 Z1
      obtain ⟨a0, vs0, s0, l0, h0, _⟩ := R.top ez o
      refine ⟨.ref a0, s0, s1 G L ea σ H1 _ R1 ?_⟩
      cases q1 : m1 ea with
      | bad => rw [q1] at h; exact h.elim
      | exc c a e =>
        rw [q1] at h
        exact exc_out (z := 0) (p := true) (env := env) (fun hn => (g hn).2.1) cx h
      | ok di eb =>
        rw [q1] at h
        cases di with
        | int k =>
          have h : PostS W G F Wx O L H Dn (match eb[i]? with
            | some (some (.lst ds)) => (match ixN ds.length k with
              | some j => .nx (eb.set i (some (.lst (ds.set j d))))
              | none => .bad)
            | _ => .bad) := h
          intro iv H2 R2 E2 P2 Z2
          have iv' := rz_int Z2
          subst iv'
          split at h
          · rename_i ds ed
            obtain ⟨a, vs, vs1, sA, l1, hA, h2, h3, h4, h5⟩ := getSlot R R2 o ez ed
            rw [s0] at sA
            cases sA
            cases qj : ixN ds.length k with
            | none => rw [qj] at h; exact h.elim
            | some j =>
              rw [qj] at h
              have rv : Rp W (Zo L) H2 d v := Rp.ev (E2.mono fun _ z _ => z.sub) d v (Rp_of2 Z1)
              refine ⟨a0, vs1, k, j, rfl, rfl, h2, by rw [← h3]; exact qj, ?_⟩
              have rl : RpL W (Zo L) H2 (ds.set j d) (vs1.set j v) := (RpL.of h3 fun j d v a1 a2 => h5 j d v a1 a2).set rv j
              have evA : Ev W (fun b => b = a0) H2 (upd H2 a0 (.lst (vs1.set j v))) := Ev.put h2 rfl
              refine h _ _ L (R2.mutn ed o s0 l1 h2 (fun j d v a1 a2 => ?_) rl.length (by rw [List.length_set]; exact h4)) ⟨((E1.mono fun a z _ => z.sub).trans (E2.mono fun a z _ => z.sub)).trans (evA.mono fun b z _ w => by rw [z, l1] at w; cases w), fun _ z => .inl z⟩
              obtain ⟨v', w1, w2⟩ := rl.getD a1
              rw [a2] at w1
              rw [Option.some.inj w1]
              exact w2
          · exact h.elim
        | non => exact h.elim
        | bool _ => exact h.elim
        | str _ => exact h.elim
        | tup _ => exact h.elim
        | lst _ => exact h.elim
        | ro _ => exact h.elim
        | dic _ => exact h.elim
        | obj _ _ => exact h.elim
  · exact h.elim

/-! ### while -/
def dWhile (t : M Bool) (b : MS) : Nat → MS
  | 0, _ => .bad
  | n + 1, env => match t env with
    | .ok true e => (match b e with
      | .nx e2 => dWhile t b n e2
      | .ct e2 => dWhile t b n e2
      | .bk e2 => .nx e2
      | r => r)
    | .ok false e => .nx e
    | .exc c a e => .exc c a e
    | .bad => .bad
theorem ds_while {c : Expr} {body : List Stmt} {mt : M Bool} {mb : MS} {pos : Pos} (n : Nat) (hp : PassesOwn (model X.prog X.w) X.A X.env X.xe) (hc : DT W X Wx O c mt p) (hb : DSs W X Wx ⟨O, F.ort, F.ox, F.fr⟩ O body mb O) (cx : thinB O F.ox = true := by decide) :
    DS W X Wx F O (.While c body [] pos) (dWhile mt mb n) O := by
  obtain ⟨k, tc, pc, sc⟩ := hc
  obtain ⟨_, tb, pb, sb⟩ := hb
  refine ⟨k, _, ps_while hp pc pb, fun G L env σ H Dn g R h => ?_⟩
  refine ⟨fun m σ' H' => ∃ env' L', Rel W G O L' env' σ' H' ∧ Fw W L H L' H' ∧ PostS W G F Wx O L' H' Dn (dWhile mt mb m env'), ⟨n, env, L, R, Fw.refl, h⟩, ?_⟩
  rintro m σ1 H1 ⟨e1, L1, R1, f1, h1⟩
  cases m with
  | zero => exact h1.elim
  | succ m =>
    refine sc G L1 e1 σ1 H1 _ R1 ?_
    have h1 : PostS W G F Wx O L1 H1 Dn (match mt e1 with
      | .ok true e => (match mb e with
        | .nx e2 => dWhile mt mb m e2
        | .ct e2 => dWhile mt mb m e2
        | .bk e2 => .nx e2
        | r => r)
      | .ok false e => .nx e
      | .exc c a e => .exc c a e
      | .bad => .bad) := h1
    cases q : mt e1 with
    | bad => rw [q] at h1; exact h1.elim
    | exc c a e =>
      rw [q] at h1
      exact exc_out (z := 0) (p := true) (env := e1) (fun hn => (g hn).2.1) cx h1
    | ok b e2 =>
      rw [q] at h1
      intro H2 R2 E2 P2
      cases b with
      | false =>
        rw [if_neg (by decide)]
        exact h1 σ1 H2 L1 R2 (Fw.of E2)
      | true =>
        rw [if_pos rfl]
        have h2 : PostS W G F Wx O L1 H1 Dn (match mb e2 with
          | .nx e2 => dWhile mt mb m e2
          | .ct e2 => dWhile mt mb m e2
          | .bk e2 => .nx e2
          | r => r) := h1
        have h2 := h2.fw (Fw.of E2)
        refine ⟨fun σ3 H3 => ∃ e3 L3, Rel W G O L3 e3 σ3 H3 ∧ Fw W L H L3 H3 ∧ PostS W G F Wx O L3 H3 Dn (dWhile mt mb m e3), fun σ3 H3 z => ⟨m, by omega, z⟩, ?_⟩
        refine sb G L1 e2 σ1 H2 _ (fun hn => ⟨(g hn).1, (g hn).2.1, (R1.first hn).2⟩) R2 ?_
        have f2 := f1.trans (Fw.of E2)
        cases qb : mb e2 with
        | nx e3 =>
          rw [qb] at h2
          exact fun σ4 H4 L4 R4 f4 => ⟨e3, L4, R4, f2.trans f4, h2.fw f4⟩
        | ct e3 =>
          rw [qb] at h2
          exact fun σ4 H4 L4 R4 f4 => ⟨e3, L4, R4, f2.trans f4, h2.fw f4⟩
        | bk e3 =>
          rw [qb] at h2
          exact fun σ4 H4 L4 R4 f4 => h2 σ4 H4 L4 R4 f4
        | rt d e3 => rw [qb] at h2; exact h2
        | exc c a e3 => rw [qb] at h2; exact h2
        | bad => rw [qb] at h2; exact h2.elim
end
end DL
/-! DLKit: the operators packed, chains, isinstance, names of the module. -/
namespace DL
open PySem PySem.Spec PyProof.Rows L2

section
variable {W : Wd} {X : Cx} {Wx : WX} {O : List Nat} {a b c e : Expr} {m m1 m2 m3 : M D} {z z1 z2 z3 : Nat} {p p1 p2 p3 : Bool} {pos : Pos}

/-! ### whole numbers -/
def iSub : D → D → Option D := i2 fun i j => some (i - j)
def iMul : D → D → Option D := i2 fun i j => if (-(2 ^ 64) < i ∧ i < 2 ^ 64) ∨ (-(2 ^ 64) < j ∧ j < 2 ^ 64) then some (i * j) else none
def iDiv : D → D → Option D := i2 fun i j => if 0 < j ∧ j < 1073741824 then some (i / j) else none
def iMod : D → D → Option D := i2 fun i j => if 0 < j then some (i % j) else none
def iPow : D → D → Option D := i2 fun i j => if 0 ≤ j ∧ j ≤ 1000000 ∧ i.natAbs < 2 ^ 64 then some (i ^ j.toNat) else none
def iShl : D → D → Option D := i2 fun i j => if 0 ≤ j ∧ j ≤ 1000000 ∧ i.natAbs < 2 ^ 64 then some (i * 2 ^ j.toNat) else none
def iShr : D → D → Option D := i2 fun i j => if 0 ≤ j then some (i / 2 ^ j.toNat) else none
def iAnd : D → D → Option D := i2 fun i j => some (Builtin.bitAnd i j)
def iOr : D → D → Option D := i2 fun i j => some (Builtin.bitOr i j)
def iXor : D → D → Option D := i2 fun i j => some (Builtin.bitXor i j)
theorem rf_sub : RF W 0 0 2 (rI0 fun i j => .int (i - j)) iSub := rf_i0
theorem rf_and : RF W 0 0 2 (rI0 fun i j => .int (Builtin.bitAnd i j)) iAnd := rf_i0
theorem rf_or : RF W 0 0 2 (rI0 fun i j => .int (Builtin.bitOr i j)) iOr := rf_i0
theorem rf_xor : RF W 0 0 2 (rI0 fun i j => .int (Builtin.bitXor i j)) iXor := rf_i0
theorem ite_some {P : Prop} [Decidable P] {α : Type} {x k : α} (h : (if P then some x else none) = some k) : P ∧ k = x := by
  by_cases c : P
  · rw [if_pos c] at h
    exact ⟨c, (Option.some.inj h).symm⟩
  · rw [if_neg c] at h
    cases h
theorem rf_mul : RF W 0 0 2 (rI CMul fun i j => .int (i * j)) iMul := rf_i2 fun i j _ h => ite_some (P := (-(2 ^ 64) < i ∧ i < 2 ^ 64) ∨ (-(2 ^ 64) < j ∧ j < 2 ^ 64)) h
theorem rf_div : RF W 0 0 2 (rI CDiv fun i j => .int (i / j)) iDiv := rf_i2 fun i j _ h => ite_some (P := 0 < j ∧ j < 1073741824) h
theorem rf_mod : RF W 0 0 2 (rI (fun _ j => 0 < j) fun i j => .int (i % j)) iMod := rf_i2 fun _ _ _ h => ite_some h
theorem rf_pow : RF W 0 0 2 (rI CPow fun i j => .int (i ^ j.toNat)) iPow := rf_i2 fun i j _ h => ite_some (P := 0 ≤ j ∧ j ≤ 1000000 ∧ i.natAbs < 2 ^ 64) h
theorem rf_shl : RF W 0 0 2 (rI CPow fun i j => .int (i * 2 ^ j.toNat)) iShl := rf_i2 fun i j _ h => ite_some (P := 0 ≤ j ∧ j ≤ 1000000 ∧ i.natAbs < 2 ^ 64) h
theorem rf_shr : RF W 0 0 2 (rI (fun _ j => 0 ≤ j) fun i j => .int (i / 2 ^ j.toNat)) iShr := rf_i2 fun _ _ _ h => ite_some h

/-! ### chains -/
def dChain (F F' : D → D → Option D) (m1 m2 m3 : M D) : M D := fun env => (m1 env).bind fun a e1 => (m2 e1).bind fun b e2 => match F a b with
  | some (.bool true) => (m3 e2).bind fun c e3 => lift (F' b c) e3
  | some (.bool false) => .ok (.bool false) e2
  | _ => .bad
theorem snd_chain {r r' : R2} {F F' : D → D → Option D} (f : RF W 0 0 2 r F) (f' : RF W 0 0 2 r' F') {ta tb tc : TE} {G : Gh} {L : Lab} {env : EnvD} {σ : L2.St} {H : Hp} {Q : VK}
    (sa : ∀ (G : Gh) (L : Lab) (env : EnvD) (σ : L2.St) (H : Hp) (Q : VK), Rel W G O L env σ H → PostE W G O L true z1 Wx env σ H Q (m1 env) → ta σ H Q)
    (sb : ∀ (G : Gh) (L : Lab) (env : EnvD) (σ : L2.St) (H : Hp) (Q : VK), Rel W G O L env σ H → PostE W G O L true z2 Wx env σ H Q (m2 env) → tb σ H Q)
    (sc : ∀ (G : Gh) (L : Lab) (env : EnvD) (σ : L2.St) (H : Hp) (Q : VK), Rel W G O L env σ H → PostE W G O L true z3 Wx env σ H Q (m3 env) → tc σ H Q)
    (k1 : z1 ≤ 2) (k2 : z2 ≤ 2) (k3 : z3 ≤ 2) (R : Rel W G O L env σ H) (h : PostE W G O L true 2 Wx env σ H Q (dChain F F' m1 m2 m3 env)) : tChain r r' ta tb tc σ H Q := by
  unfold dChain at h
  refine sa G L env σ H _ R ?_
  cases q1 : m1 env with
  | bad => rw [q1] at h; exact h.elim
  | exc c a e => rw [q1] at h; exact h
  | ok d1 e1 =>
    rw [q1] at h
    intro x H1 R1 E1 P1 Z1
    refine sb G L e1 σ H1 _ R1 ?_
    have h : PostE W G O L true 2 Wx env σ H Q ((m2 e1).bind fun b e2 => match F d1 b with
      | some (.bool true) => (m3 e2).bind fun c e3 => lift (F' b c) e3
      | some (.bool false) => .ok (.bool false) e2
      | _ => .bad) := h
    cases q2 : m2 e1 with
    | bad => rw [q2] at h; exact h.elim
    | exc c a e => rw [q2] at h; exact h
    | ok d2 e2 =>
      rw [q2] at h
      intro y H2 R2 E2 P2 Z2
      have h : PostE W G O L true 2 Wx env σ H Q (match F d1 d2 with
        | some (.bool true) => (m3 e2).bind fun c e3 => lift (F' d2 c) e3
        | some (.bool false) => .ok (.bool false) e2
        | _ => .bad) := h
      have go : ∀ k, F d1 d2 = some (.bool k) → PostE W G O L true 2 Wx env σ H Q (if k = true then (m3 e2).bind fun c e3 => lift (F' d2 c) e3 else .ok (.bool false) e2) →
          r x y H2 (fun z H3 => ∃ k, z = .bl k ∧ (if k = true then tc σ H3 fun w' H4 => r' y w' H4 Q else Q (.bl false) H3)) := fun k qf h => by
        refine f L H2 d1 d2 _ x y _ ((Z1.ev E2 (.inl rfl)).le (.inr rfl) k1) (Z2.le (.inr rfl) k2) qf R2.dom fun v H3 E3 Z3 => ?_
        have ev := rz_bool Z3
        subst ev
        refine ⟨k, rfl, ?_⟩
        cases k with
        | false =>
          rw [if_neg (by decide)] at h ⊢
          exact h _ H3 (R2.pure E3) ((E1.trans E2).trans E3) (fun _ => by rw [P2 rfl, P1 rfl]) rz2_bool
        | true =>
          rw [if_pos rfl] at h ⊢
          refine sc G L e2 σ H3 _ (R2.pure E3) ?_
          cases q3 : m3 e2 with
          | bad => rw [q3] at h; exact h.elim
          | exc c a e => rw [q3] at h; exact h
          | ok d3 e3 =>
            rw [q3] at h
            intro w H4 R4 E4 P4 Z4
            have h : PostE W G O L true 2 Wx env σ H Q (lift (F' d2 d3) e3) := h
            cases q4 : F' d2 d3 with
            | none => rw [q4] at h; exact h.elim
            | some d =>
              rw [q4] at h
              refine f' L H4 d2 d3 d y w Q ((Z2.ev (p := true) (E3.trans E4) (.inl rfl)).le (.inr rfl) k2) (Z4.le (.inr rfl) k3) q4 R4.dom fun v H5 E5 Z5 => ?_
              exact h v H5 (R4.pure E5) ((((E1.trans E2).trans E3).trans E4).trans E5) (fun _ => by rw [P4 rfl, P2 rfl, P1 rfl]) Z5
      cases qf : F d1 d2 with
      | none => rw [qf] at h; exact h.elim
      | some df =>
        rw [qf] at h
        cases df with
        | bool k => cases k <;> exact go _ qf h
        | _ => exact h.elim
theorem de_chain {op op' : CmpOp} {r r' : R2} {F F' : D → D → Option D} (ho : OpR X (compareOp op) r) (f : RF W 0 0 2 r F) (ho' : OpR X (compareOp op') r') (f' : RF W 0 0 2 r' F') (ha : DE W X Wx O a m1 z1 true) (hb : DE W X Wx O b m2 z2 true) (hc : DE W X Wx O c m3 z3 true)
    (k1 : z1 ≤ 2 := by decide) (k2 : z2 ≤ 2 := by decide) (k3 : z3 ≤ 2 := by decide) (hm : lastMarks [op, op'] [b, c] = false := by with_unfolding_all rfl) : DE W X Wx O (.Compare a [op, op'] [b, c] pos) (dChain F F' m1 m2 m3) 2 true := by
  obtain ⟨k, ta, pa, sa⟩ := ha
  obtain ⟨_, tb, pb, sb⟩ := hb
  obtain ⟨_, tc, pc, sc⟩ := hc
  exact ⟨k, _, pe_chain ho ho' pa pb pc hm, fun G L env σ H Q R h => snd_chain f f' sa sb sc k1 k2 k3 R h⟩
/-- as a test -/
theorem dt_chain {op op' : CmpOp} {r r' : R2} {F F' : D → D → Option D} (ho : OpR X (compareOp op) r) (f : RF W 0 0 2 r F) (ho' : OpR X (compareOp op') r') (f' : RF W 0 0 2 r' F') (ha : DE W X Wx O a m1 z1 true) (hb : DE W X Wx O b m2 z2 true) (hc : DE W X Wx O c m3 z3 true)
    (k1 : z1 ≤ 2 := by decide) (k2 : z2 ≤ 2 := by decide) (k3 : z3 ≤ 2 := by decide) (hm : lastMarks [op, op'] [b, c] = false := by with_unfolding_all rfl) : DT W X Wx O (.Compare a [op, op'] [b, c] pos) (dTest (dChain F F' m1 m2 m3)) true := by
  obtain ⟨k, ta, pa, sa⟩ := ha
  obtain ⟨_, tb, pb, sb⟩ := hb
  obtain ⟨_, tc, pc, sc⟩ := hc
  refine ⟨k, _, pt_chain ho ho' pa pb pc hm, fun G L env σ H Q R h => ?_⟩
  refine snd_chain (Q := fun v H1 => ∃ b, v = .bl b ∧ Q b H1) f f' sa sb sc k1 k2 k3 R ?_
  unfold dTest at h
  cases q : dChain F F' m1 m2 m3 env with
  | bad => rw [q] at h; exact h.elim
  | exc c a e => rw [q] at h; exact h
  | ok d e1 =>
    rw [q] at h
    intro v H1 R1 E1 P1 Z1
    cases d with
    | bool b =>
      have h : PostT W G O L true Wx env σ H Q (.ok b e1) := h
      exact ⟨b, rz_bool Z1, h H1 R1 E1 P1⟩
    | _ => exact h.elim

/-! ### unary minus -/
def dNeg : D → Option D
  | .int i => some (.int (-i))
  | _ => none
theorem de_neg (h : DE W X Wx O e m z p) : DE W X Wx O (.UnaryOp .USub e pos) (dUn dNeg m) 2 p := by
  obtain ⟨k, t, pe, s⟩ := h
  refine ⟨k, _, pe_un un_neg pe, fun G L env σ H Q R h => s G L env σ H _ R ?_⟩
  unfold dUn at h
  cases q1 : m env with
  | bad => rw [q1] at h; exact h.elim
  | exc c a e => rw [q1] at h; exact h
  | ok d e1 =>
    rw [q1] at h
    intro v H1 R1 E1 P1 Z1
    have h : PostE W G O L p 2 Wx env σ H Q (lift (dNeg d) e1) := h
    cases d with
    | int i =>
      rw [rz_int Z1]
      exact ⟨i, rfl, h _ H1 R1 E1 P1 rz2_int⟩
    | _ => exact h.elim

/-! ### isinstance -/
def dTy : D → Option String
  | .non => some "NoneType"
  | .bool _ => some "bool"
  | .int _ => some "int"
  | .str _ => some "str"
  | .tup _ => some "tuple"
  | .lst _ => some "list"
  | .ro _ => some "list"
  | .dic _ => none
  | .obj _ _ => none
theorem rp_ty {Z : Addr → Prop} {H : Hp} {d : D} {v : V} {t : String} (h : Rp W Z H d v) (e : dTy d = some t) : TyX W.K H v (.type t) := by
  cases d with
  | non => cases e; unfold Rp at h; rw [h]; exact .base .non
  | bool b => cases e; unfold Rp at h; rw [h]; exact .base (.bl b)
  | int i => cases e; unfold Rp at h; rw [h]; exact .base (.int i)
  | str x => cases e; unfold Rp at h; rw [h]; exact .base (.str x)
  | tup ds =>
    cases e
    unfold Rp at h
    obtain ⟨a, vs, rfl, ⟨h, _⟩, _⟩ := h
    rcases h with (h | ⟨o, h⟩) | ⟨o, its, n, h, hc, _⟩
    · exact .base (.tup h)
    · exact .fTuple h
    · exact .kTuple h hc
  | lst ds =>
    cases e
    unfold Rp at h
    obtain ⟨a, vs, rfl, _, ⟨h, _⟩, _⟩ := h
    exact .base (.lst h)
  | ro ds =>
    cases e
    unfold Rp at h
    obtain ⟨a, vs, rfl, ⟨h, _⟩, _⟩ := h
    rcases h with ⟨o, h⟩ | ⟨o, its, n, h, hc, _⟩
    · exact .base (.frz h)
    · exact .kList h hc
  | dic _ => cases e
  | obj _ _ => cases e
def isK (t c : String) : Bool := t == c || (t == "bool" && c == "int")
theorem kitOne_is {K : PySem.W.Frag} {d : D} {t c : String} (e : dTy d = some t) (hc : c = "str" ∨ c = "int" ∨ c = "tuple" ∨ c = "list" ∨ c = "bool" ∨ c = "dict") : PySem.W.kitOne K (.type t) (.type c) = some (isK t c) := by
  have ht : t = "NoneType" ∨ t = "bool" ∨ t = "int" ∨ t = "str" ∨ t = "tuple" ∨ t = "list" := by
    cases d <;> cases e <;> simp
  rcases ht with rfl | rfl | rfl | rfl | rfl | rfl <;> rcases hc with rfl | rfl | rfl | rfl | rfl | rfl <;> kernel_rfl
def dIsT (c : String) (d : D) : Option D := (dTy d).map fun t => .bool (isK t c)
theorem de_isi {x : Str} {c : String} {p0 p1 : Pos} (h : DE W X Wx O e m z p) (k2 : z ≤ 2 := by decide) (hg : Gl X "isinstance" := by rfl) (hm : X.mg "isinstance" = none) (hg2 : Gl X x := by rfl) (hm2 : X.mg x = none) (hb : bootBuiltins x = some (.type c) := by decide +kernel)
    (hc : c = "str" ∨ c = "int" ∨ c = "tuple" ∨ c = "list" ∨ c = "bool" ∨ c = "dict" := by decide) (hn : x ≠ "__name__" := by decide) (hd : (x == ("__debug__" : Str)) = false := by decide)
    (he : starEach (e :: [.Name x p1]) X.env = (false, eval e X.env) :: starEach [.Name x p1] X.env := by rfl) (hs2 : starEach (.Name x p1 :: []) X.env = (false, eval (.Name x p1) X.env) :: starEach [] X.env := by rfl) (hpl : (backTo pos (starEach [.Name x p1] X.env)).any (·.1) = false := by rfl) :
    DE W X Wx O (.Call (.Name "isinstance" p0) [e, .Name x p1] [] pos) (dUn (dIsT c) m) 2 p := by
  obtain ⟨k, t, pe, s⟩ := h
  refine ⟨k, _, L2.pe_callB call_isi hg hm (by decide +kernel) (pa_cons pe (pa_cons (pe_bltn hg2 hm2 hb (v := V.ty c) rfl hn hd) pa_nil hs2) he) (by decide) (by decide) he hpl, fun G L env σ H Q R h => s G L env σ H _ R ?_⟩
  unfold dUn at h
  cases q1 : m env with
  | bad => rw [q1] at h; exact h.elim
  | exc c a e => rw [q1] at h; exact h
  | ok d e1 =>
    rw [q1] at h
    intro v H1 R1 E1 P1 Z1
    have h : PostE W G O L p 2 Wx env σ H Q (lift (dIsT c d) e1) := h
    unfold dIsT at h
    cases qt : dTy d with
    | none => rw [qt] at h; exact h.elim
    | some ty =>
      rw [qt] at h
      have hq : Q (.bl (isK ty c)) H1 := h _ H1 R1 E1 P1 rz2_bool
      refine ⟨v, .ty c, .type ty, .type c, isK ty c, rfl, .ty c, ?_, kitOne_is qt hc, hq⟩
      rw [k]
      exact rp_ty Z1.any qt
end
/-- in a block nothing may be raised -/
theorem takes0 {X : Cx} : Takes X Wx0 := fun u s' h => by
  obtain ⟨a, B, sI, pins, σ, H, cls, d, e, I, nb, up, sky, na, os, ag, w⟩ := h
  exact w.elim
end DL
/-! DLSet: y = [..]; calls without defaults; small helps. -/
namespace DL
open PySem PySem.Spec PyProof.Rows L2

theorem u64 {k : Nat} {A : Around} (hr : Room k A) : A.units + 64 < cLine := by
  have := hr.un
  omega
theorem u65 {k : Nat} {A : Around} (hr : Room k A) : A.units + 65 < cLine := by
  have := hr.un
  omega
theorem u70 {k : Nat} {A : Around} (hr : Room k A) : A.units + 70 < cLine := by
  have := hr.un
  omega
section
variable {W : Wd} {X : Cx} {Wx : WX} {F : Fc} {O : List Nat} {elt tg iter c : Expr} {scope : Scope} {own : List (Str × Nat)} {src : M (List D)} {p b : Bool} {gd : D → EnvD → Option EnvD} {is : List Nat} {mt : M Bool} {me : M D} {pos spos py : Pos} {i : Nat} {y : Str}
theorem DT.weak {e : Expr} {m : M Bool} {p p' : Bool} (h : DT W X Wx O e m p) (hp : p' = true → p = true := by decide) : DT W X Wx O e m p' := by
  obtain ⟨k, t, pe, s⟩ := h
  refine ⟨k, t, pe, fun G L env σ H Q R hq => s G L env σ H Q R ?_⟩
  cases q : m env with
  | ok d env' =>
    rw [q] at hq
    exact fun H' R' E P => hq H' R' (E.mono fun a z _ => Zp_mono hp z) fun w => P (hp w)
  | exc c a env' => rw [q] at hq; exact hq
  | bad => rw [q] at hq; exact hq.elim
theorem snd_setO {te : TE} {m : M D} {n : Nat} (se : ∀ (G : Gh) (L : Lab) (env : EnvD) (σ : L2.St) (H : Hp) (Q : VK), Rel W G O L env σ H → PostO W G O L p n Wx env σ H Q (m env) → te σ H Q)
    (hi : i ≠ 0 ∨ O.getD 0 0 = 0) (hl : O.length ≤ tmp) (il : i < O.length) (cx : thinB O F.ox = true) : SndS W F Wx O (O.set i n) (tAsg te (gName i)) (dSet i m) := fun G L env σ H Dn g R h => se G L env σ H _ R (by
  unfold dSet at h
  cases q : m env with
  | bad => rw [q] at h; exact h.elim
  | exc c a e =>
    rw [q] at h
    exact exc_out (z := 0) (p := true) (env := env) (fun hn => (g hn).2.1) cx h
  | ok d e1 =>
    rw [q] at h
    intro v H' L' u w R1 R2 E P o r
    exact h _ H' _ (R1.own (o.ow u.1) (hi.imp id fun z => Decidable.by_contra fun hn => hn ((R.first hn).2.symm.trans z)) hl il) ⟨E.mono fun _ z _ => z.sub, fun a z => w a (relab_zo.mp z)⟩)
/-- y = [elt for tg in iter] -/
theorem ds_lc0 (hc : X.calm = true) (hN : X.N.Nodup) (hy : X.N[i]? = some y) (hyl : X.env.scope.names.lookup y = some .local) (hsw : swapsWith (.ListComp elt [⟨tg, iter, [], 0⟩] scope pos) (some (.Name y py)) spos.line X.env = pure true)
    (hi : DI W X Wx O tg iter src p) (ok : BlkOk X.N X.env.scope scope own)
    (hg : ∀ (s : Shared) (H : Hp) (C : Addr) (cl : List (Str × Addr)) (fp : List Addr), DG W (X.blk s H scope (compEnvC scope cl C X.env) fp) O tg gd is)
    (he : ∀ (s : Shared) (H : Hp) (C : Addr) (cl : List (Str × Addr)) (fp : List Addr), DE W (X.blk s H scope (compEnvC scope cl C X.env) fp) Wx0 O elt me 2 b) (hv : ∀ i ∈ is, i ∈ own.map (·.2)) (hl : O.length ≤ tmp := by decide) (h0 : O.getD 0 0 = 0 ∨ 0 ∉ own.map (·.2) := by decide)
    (hi0 : i ≠ 0 ∨ O.getD 0 0 = 0 := by decide) (il : i < O.length := by decide) (cx : thinB O F.ox = true := by decide)
    (hs : ∀ x, foldedSetIterable iter X.env x = pure x := by intro _; rfl) : DS W X Wx F O (.Assign [.Name y py] (.ListComp elt [⟨tg, iter, [], 0⟩] scope pos) spos) (dSet i (dLc b src gd mYes me (own.map (·.2)))) (O.set i 1) := by
  obtain ⟨k, wi, pi, si⟩ := hi
  refine ⟨k, _, ps_setLc (tt := tT W Wx0 O mYes b) hc hN hy hyl hsw pi ok (fun s H C cl fp => (hg s H C cl fp).plain_) (fun s H C cl fp => ?_) (fun s H C cl fp => (he s H C cl fp).plain_) hs, snd_setO (p := p && b) (n := 1) (fun G L env σ H Q R h => snd_lc si hv hl h0 R h) hi0 hl il cx⟩
  refine ⟨fun pins st σ H' Q I ⟨G, L, env, R, q⟩ => pts_nil.run pins st σ H' Q I ?_⟩
  exact q H' R Ev.refl fun _ => rfl
/-- y = [elt for tg in iter if c] -/
theorem ds_lc1 (hc : X.calm = true) (hN : X.N.Nodup) (hy : X.N[i]? = some y) (hyl : X.env.scope.names.lookup y = some .local) (hsw : swapsWith (.ListComp elt [⟨tg, iter, [c], 0⟩] scope pos) (some (.Name y py)) spos.line X.env = pure true)
    (hi : DI W X Wx O tg iter src p) (ok : BlkOk X.N X.env.scope scope own)
    (hg : ∀ (s : Shared) (H : Hp) (C : Addr) (cl : List (Str × Addr)) (fp : List Addr), DG W (X.blk s H scope (compEnvC scope cl C X.env) fp) O tg gd is)
    (ht : ∀ (s : Shared) (H : Hp) (C : Addr) (cl : List (Str × Addr)) (fp : List Addr), DT W (X.blk s H scope (compEnvC scope cl C X.env) fp) Wx0 O c mt b)
    (he : ∀ (s : Shared) (H : Hp) (C : Addr) (cl : List (Str × Addr)) (fp : List Addr), DE W (X.blk s H scope (compEnvC scope cl C X.env) fp) Wx0 O elt me 2 b) (hv : ∀ i ∈ is, i ∈ own.map (·.2)) (hl : O.length ≤ tmp := by decide) (h0 : O.getD 0 0 = 0 ∨ 0 ∉ own.map (·.2) := by decide)
    (hi0 : i ≠ 0 ∨ O.getD 0 0 = 0 := by decide) (il : i < O.length := by decide) (cx : thinB O F.ox = true := by decide)
    (hs : ∀ x, foldedSetIterable iter X.env x = pure x := by intro _; rfl) : DS W X Wx F O (.Assign [.Name y py] (.ListComp elt [⟨tg, iter, [c], 0⟩] scope pos) spos) (dSet i (dLc b src gd mt me (own.map (·.2)))) (O.set i 1) := by
  obtain ⟨k, wi, pi, si⟩ := hi
  exact ⟨k, _, ps_setLc hc hN hy hyl hsw pi ok (fun s H C cl fp => (hg s H C cl fp).plain_) (fun s H C cl fp => pts_one (ht s H C cl fp).plain_) (fun s H C cl fp => (he s H C cl fp).plain_) hs, snd_setO (p := p && b) (n := 1) (fun G L env σ H Q R h => snd_lc si hv hl h0 R h) hi0 hl il cx⟩
end

/-! ### calls without defaults -/
section
variable {W : Wd} {X : Cx} {Wx : WX} {O : List Nat} {e : Expr} {es : List Expr} {ms : M (List D)} {p : Bool} {k j fr ar n0 : Nat} {f : Addr} {fd : FuncData} {ps : List Str} {FF : FM} {x : Str} {p0 pos : Pos}
theorem no_dflt {Z : Addr → Prop} {H : Hp} : RpL W Z H [] [] := by unfold RpL; rfl
theorem call0 (F : FnG X.prog X.w X.K X.mg X.base j f fd ps (spD W 0 fr ar FF)) (hr : Room k X.A) (hj : j ≤ k) (hg : X.A.guards = some []) (gl : Gl X x) (hm : X.mg x = some (.ref f)) (hk : PySem.W.keepIn X.K (.ref f) = true) (hb : Binds X.K fd ps []) (tk : Takes X Wx)
    (ha : DAr W X Wx O (e :: es) ms 2 p) (hn : ps.length = ar := by rfl) (ha2 : (e :: es).length = ar := by rfl)
    (hdb : (x == ("__debug__" : Str)) = false := by decide) (he : starEach (e :: es) X.env = (false, eval e X.env) :: starEach es X.env := by rfl) (hpl : (backTo pos (starEach es X.env)).any (·.1) = false := by rfl) :
    DO W X Wx O (.Call (.Name x p0) (e :: es) [] pos) (dCall FF [] ms) fr p :=
  do_call (F.mono hj) hr hg gl hm hk hb .nil tk (fun _ _ => no_dflt) ha hn (by simpa using ha2) hdb he hpl
theorem callF0 {z : Nat} (F : FnG X.prog X.w X.K X.mg X.base j f fd ps (spD W 0 fr ar FF)) (hr : Room k X.A) (hj : j ≤ k) (hg : X.A.guards = some []) (gl : Gl X x) (hm : X.mg x = some (.ref f)) (hk : PySem.W.keepIn X.K (.ref f) = true) (hb : Binds X.K fd ps []) (tk : Takes X Wx)
    (ha : DAr W X Wx O (e :: es) ms z p) (hn : ps.length = ar := by rfl) (ha2 : (e :: es).length = ar := by rfl)
    (hdb : (x == ("__debug__" : Str)) = false := by decide) (he : starEach (e :: es) X.env = (false, eval e X.env) :: starEach es X.env := by rfl) (hpl : (backTo pos (starEach es X.env)).any (·.1) = false := by rfl) :
    DE W X Wx O (.Call (.Name x p0) (e :: es) [] pos) (dCallB FF [] ms) 2 p :=
  de_callF (F.mono hj) hr hg gl hm hk hb .nil tk (fun _ _ => no_dflt) ha hn (by simpa using ha2) hdb he hpl
theorem callI0 {i : Nat} {y : Str} {py : Pos} (F : FnG X.prog X.w X.K X.mg X.base j f fd ps (spD W n0 fr ar FF)) (hr : Room k X.A) (hj : j ≤ k) (hg : X.A.guards = some []) (gl : Gl X x) (hm : X.mg x = some (.ref f)) (hk : PySem.W.keepIn X.K (.ref f) = true) (hb : Binds X.K fd ps []) (tk : Takes X Wx)
    (pv : PE X (.Name y py) (tVar i)) (ha : DAr W X Wx O es ms 2 p) (ho : O.getD i 0 = n0 := by rfl) (h0 : n0 ≠ 0 := by decide) (ha2 : es.length + 1 = ar := by rfl) (hl : i < tmp := by decide)
    (hs : starEach (.Name y py :: es) X.env = (false, eval (.Name y py) X.env) :: starEach es X.env := by rfl)
    (hdb : (x == ("__debug__" : Str)) = false := by decide) (hpl : (backTo pos (starEach es X.env)).any (·.1) = false := by rfl) :
    DO W X Wx O (.Call (.Name x p0) (.Name y py :: es) [] pos) (dCallI FF i [] ms) fr false :=
  do_callI (F.mono hj) hr hg gl hm hk hb .nil tk (fun _ _ => no_dflt) pv ha ho h0 (by simpa using ha2) hl hs hdb hpl
end
/-! ### bodies that never fall through -/
def NoNx (m : MS) : Prop := ∀ env e, m env ≠ .nx e
theorem nx_ret {m : M D} : NoNx (dRet m) := fun env e h => by
  unfold dRet at h
  split at h <;> cases h
theorem nx_retN : NoNx dRetN := fun env e h => by cases h
theorem nx_brk : NoNx dBrk := fun env e h => by cases h
theorem nx_cnt : NoNx dCnt := fun env e h => by cases h
theorem nx_seq {m n : MS} (h : NoNx n) : NoNx (dSeq m n) := fun env e z => by
  have z : (m env).seq n = .nx e := z
  cases q : m env with
  | nx e1 => rw [q] at z; exact h e1 e z
  | rt d e1 => rw [q] at z; cases z
  | bk e1 => rw [q] at z; cases z
  | ct e1 => rw [q] at z; cases z
  | exc c a e1 => rw [q] at z; cases z
  | bad => rw [q] at z; cases z
theorem nx_ite {t : M Bool} {m n : MS} (hm : NoNx m) (hn : NoNx n) : NoNx (dIte t m n) := fun env e z => by
  unfold dIte at z
  cases q : t env with
  | ok b e1 =>
    rw [q] at z
    have z : (if b = true then m e1 else n e1) = .nx e := z
    cases b with
    | true => rw [if_pos rfl] at z; exact hm e1 e z
    | false => rw [if_neg (by decide)] at z; exact hn e1 e z
  | exc c a e1 => rw [q] at z; cases z
  | bad => rw [q] at z; cases z
/-- a name of the module, by its value -/
theorem pe_gv {X : Cx} {x : Str} {v : V} {pos : Pos} (hg : Gl X x) (h : ∃ u, X.mg x = some u ∧ RelV v u) (hd : (x == ("__debug__" : Str)) = false := by decide) : PE X (.Name x pos) (tC v) := by
  obtain ⟨u, hm, r⟩ := h
  exact pe_glob hg hm r hd
/-! ### a, b, .. = x, y, .. by a tuple -/
def gNames : List Nat → TGs
  | [] => gNil
  | i :: is => gCons (gName i) (gNames is)
theorem gNames_st : ∀ (is : List Nat) (vs : List V) (σ : L2.St) (H : Hp) (Q : L2.St → Hp → Prop), vs.length = is.length → Q (stV σ is vs) H → gNames is vs σ H Q
  | [], [], σ, H, Q, _, h => ⟨rfl, h⟩
  | [], _ :: _, σ, H, Q, l, _ => by cases l
  | _ :: _, [], σ, H, Q, l, _ => by cases l
  | i :: is, v :: vs, σ, H, Q, l, h => ⟨v, vs, rfl, gNames_st is vs (σ.set i (some v)) H Q (by simpa using l) h⟩
theorem ds_parN {W : Wd} {X : Cx} {Wx : WX} {F : Fc} {O : List Nat} {es tgs : List Expr} {ms : M (List D)} {p : Bool} {is ns : List Nat} {kt k2 : Nat} {pt pt2 pos : Pos} (ha : DOs W X Wx O es ms 0 ns p) (pg : PGs X tgs (gNames is)) (hc : X.calm = true := by rfl)
    (hl2 : es.length = is.length := by rfl) (hn : ns.length = is.length := by rfl) (ok : okIs O is = true := by decide) (hl : O.length ≤ tmp := by decide) (cx : thinB O F.ox = true := by decide) (h1000 : es.length ≤ 1000 := by decide)
    (hna : (assignEach tgs X.env).length = is.length := by rfl) (hst : (assignEach tgs X.env).findIdx? (·.1) = none := by rfl)
    (hs : swapsWithSole [.Tuple tgs kt pt] (.Tuple es k2 pt2) pos.line X.env = pure false := by rfl) (hw : swappedStores [.Tuple tgs kt pt] (.Tuple es k2 pt2) X.env = pure none := by rfl) (h1 : (assignEach [.Tuple tgs kt pt] X.env).map (·.2) = [assign (.Tuple tgs kt pt) X.env] := by rfl) :
    DS W X Wx F O (.Assign [.Tuple tgs kt pt] (.Tuple es k2 pt2) pos) (dPar is ms) (stO O is ns) := by
  obtain ⟨k, ln, t, pa, s⟩ := ha
  refine ⟨k, _, ps_asg (pe_tup pa) (pg_tup hc pg hna hst) hs hw h1, fun G L env σ H Dn g R h => s G L env σ H _ R ?_⟩
  unfold dPar at h
  cases q : ms env with
  | bad => rw [q] at h; exact h.elim
  | exc c a e =>
    rw [q] at h
    exact exc_out (z := 0) (p := true) (env := env) (fun hn => (g hn).2.1) cx h
  | ok ds e1 =>
    rw [q] at h
    intro vs H' L' N R1 R1' E P
    have ld := (ln _ _ _ q).trans hl2
    have lv : vs.length = is.length := N.len.symm.trans ld
    have sz : vs.length ≤ sizeLine := Nat.le_of_lt (small1000 (by rw [lv, ← hl2]; exact h1000))
    obtain ⟨L2, R2, z⟩ := rel_store is ns ds vs 0 O L' e1 σ R1 (fun j d v a1 a2 => Ow.map (fun d v => Rp.shun (fun a z _ => (nl_zo N.ext).mpr z) d v) _ _ _ d v (fun a r us e1 e2 => ⟨(nl_cons e1).2, e2⟩) (N.at_ j d v a1 a2)) N.len ld hn (fun i hi => by
      have := List.all_eq_true.mp ok i hi
      have := Bool.and_eq_true_iff.mp this
      refine ⟨?_, of_decide_eq_true this.2⟩
      rcases Bool.or_eq_true_iff.mp this.1 with w | w
      · exact .inl (of_decide_eq_true w)
      · right
        exact Decidable.by_contra fun hn => hn ((R.first hn).2.symm.trans (by simpa using w))) hl
    refine ⟨sz, fun b nb => ⟨b, vs, rfl, SqT.of upd_same, lv, gNames_st is vs σ _ _ lv ?_⟩⟩
    exact h _ _ L2 (R2.new nb) ⟨(E.mono fun _ z _ => z.sub).trans (Ev.new nb), fun a w => N.nw a ((z a).mp w)⟩
end DL
/-! DLSort: sorted(..) of data: tuples with the empty one among them too. -/
namespace DL
open PySem PySem.Spec PySem.Calls PyProof.Rows PySem.W PySem.SeqAt

section
variable {prog : Program} {w : World} {A : Around} {E : Value → Shared → Prop} {s : Shared}
/-- tuple's own < as sorting calls it -/
theorem tup_lt_call {l b : Addr} {xs ys : Array Value} {e r : Nat → Bool} {Q : Value → Shared → Prop} (hl : s.heap.IsTuple l xs) (hb : s.heap.IsTuple b ys)
    (he : ∀ j (h1 : j < xs.size) (h2 : j < ys.size), EqAt A.in1 s xs[j] ys[j] (e j)) (hr : ∀ j (h1 : j < xs.size) (h2 : j < ys.size), e j = false → RcLt A.in1 s xs[j] ys[j] (r j))
    (h : Q (.bool (firstLt e r (decide (xs.size < ys.size)) (List.range (min xs.size ys.size)))) s) : wpAny (model prog w) A (call (.builtin "tuple.__lt__") [.ref l, .ref b]) Q E s := by
  obtain ⟨⟨c1, d1, t1, s1⟩, o1, q1, n1, r1⟩ := hl
  obtain ⟨⟨c2, d2, t2, s2⟩, o2, q2, n2, r2⟩ := hb
  simp only at q1 r1 q2 r2
  subst q1 r1 q2 r2
  exact call_meets F.slot_tuple_lt ⟨_, o1, rfl⟩ F.entry_tuple_lt (F.args_tuple_lt_2 _ _) (tuple_ltAt l b xs ys n1 n2 d1 d2 s1 s2 e r) ⟨o1, o2, he, hr, h⟩
/-- one tuple key against another, both of the one type -/
theorem tup_one_lt {xs ys : List PyData} {a b : Value} {as bs : List Addr} {Q : Bool → Shared → Prop} (ra : Reads s.heap a (.tuple xs) as) (rb : Reads s.heap b (.tuple ys) bs) (hal : alikeAll xs ys = true)
    (hu : A.units + min (PyData.depth (.tuple xs)) (PyData.depth (.tuple ys)) < cLine) (hq : Q (dataLt (.tuple xs) (.tuple ys)) s) : wpAny (model prog w) A (oneLt' true a b) Q E s := by
  cases ra with
  | @tuple l o us n _ as₁ g1 g2 g3 g4 =>
    cases rb with
    | @tuple l' o' us' n' _ bs₁ k1 k2 k3 k4 =>
      have e1 : us.size = xs.length := by simpa using ReadsAll.length _ _ _ g4
      have e2 : us'.size = ys.length := by simpa using ReadsAll.length _ _ _ k4
      rw [dataLt_tuple, ← firstLt_toks xs ys hal, ← e1, ← e2] at hq
      rw [oneLt'_eq]
      simp only [if_true]
      refine wpAny_bind (wpAny_cRoomFor (room_here hu) (wpAny_bind (wpAny_callSpecialIfBound?_slot (T := "tuple") ⟨_, g1, g2⟩ F.slot_tuple_lt ?_)))
      refine tup_lt_call (e := pairEq xs ys) (r := fun j => dataLt (xs.getD j .none) (ys.getD j .none)) ⟨_, g1, g2, _, g3⟩ ⟨_, k1, k2, _, k3⟩ (fun j j1 j2 => ?_) (fun j j1 j2 hj => ?_) (wpAny_truthy_bool hq)
      · have t := eqAt_alikeAll xs ys A.in1 s us.toList us'.toList _ _ g4 k4 hal (room_in hu) j (by simpa using j1) (by simpa using j2)
        simpa using t
      · have t := rcLt_alikeAll xs ys A.in1 s us.toList us'.toList _ _ g4 k4 hal (room_in hu) j (by simpa using j1) (by simpa using j2) hj
        simpa using t

def isTup : PyData → Bool
  | .tuple _ => true
  | _ => false
def isTup1 : PyData → Bool
  | .tuple (_ :: _) => true
  | _ => false
/-- the first items, asked -/
theorem firsts_ask {Q : List (Option Value) → Shared → Prop} : ∀ {vs : List Value} {ds : List PyData}, EachIs (fun v d => ∃ as, Reads s.heap v d as) vs ds → (∀ d ∈ ds, isTup d = true) →
    (∀ fs : List (Option Value), fs.map Option.isSome = ds.map isTup1 → Q fs s) → wpAny (model prog w) A (vs.mapM firstOfTuple') Q E s
  | _, _, .nil, _, h => by
    rw [List.mapM_nil]
    exact wpAny_pure (h [] rfl)
  | _, _, .cons (a := v) (b := d) ⟨as, r⟩ t, ht, h => by
    rw [List.mapM_cons]
    have hd := ht d List.mem_cons_self
    cases d with
    | tuple xs =>
      cases r with
      | @tuple l o us n _ _ g1 g2 g3 g4 =>
        have e1 : us.toList.length = xs.length := ReadsAll.length _ _ _ g4
        refine wpAny_bind ?_
        rw [kas_first_eq]
        refine wpAny_bind (wpAny_typeOf (T := "tuple") ⟨_, g1, g2⟩ ?_)
        rw [if_neg (by decide)]
        refine wpAny_bind (listItems_at g1 g3 (wpAny_pure (wpAny_bind ?_)))
        refine firsts_ask t (fun d hd => ht d (List.mem_cons_of_mem _ hd)) fun fs hf => wpAny_pure (h _ ?_)
        rw [List.map_cons, List.map_cons, hf]
        congr 1
        cases xs with
        | nil =>
          have : us.size = 0 := by simpa using e1
          simp [isTup1, this]
        | cons x r =>
          have : 0 < us.size := by
            have : us.size = r.length + 1 := by simpa using e1
            omega
          simp [isTup1, this]
    | _ => cases hd
theorem types_ask {Q : List Value → Shared → Prop} : ∀ {vs : List Value} {ds : List PyData}, EachIs (fun v d => ∃ as, Reads s.heap v d as) vs ds → (∀ d ∈ ds, isTup d = true) →
    Q (vs.map fun _ => Value.type "tuple") s → wpAny (model prog w) A (vs.mapM typeOf) Q E s
  | _, _, .nil, _, h => by
    rw [List.mapM_nil]
    exact wpAny_pure h
  | _, _, .cons (a := v) (b := d) ⟨as, r⟩ t, ht, h => by
    rw [List.mapM_cons]
    have hd := ht d List.mem_cons_self
    cases d with
    | tuple xs =>
      cases r with
      | @tuple l o us n _ _ g1 g2 g3 g4 => exact wpAny_bind (wpAny_typeOf (T := "tuple") ⟨_, g1, g2⟩ (wpAny_bind (types_ask t (fun d hd => ht d (List.mem_cons_of_mem _ hd)) (wpAny_pure h))))
    | _ => cases hd
/-- data that can be sorted: alike; tuples, or neither tuples nor None -/
def SortD (ds : List PyData) : Prop := AllAlike ds ∧ ((∀ d ∈ ds, isTup d = true) ∨ ∀ d ∈ ds, d ≠ .none ∧ ∀ xs, d ≠ .tuple xs)
theorem keyLt_general (x y : Value) : keyLt' general' x y = oneLt' false x y := rfl
theorem is1_of {d : PyData} (h : isTup1 d = true) : ∃ x r, d = .tuple (x :: r) := by
  unfold isTup1 at h
  split at h
  · exact ⟨_, _, rfl⟩
  · cases h
theorem sorts_at {vs : List Value} {ds : List PyData} (e : EachIs (fun v d => ∃ as, Reads s.heap v d as) vs ds) (hd : SortD ds) (hu : ∀ d, d ∈ ds → A.units + d.depth < cLine) : SortsAt prog w A s (dataKind s.heap ds) vs := by
  obtain ⟨hal, hk⟩ := hd
  rcases hk with ht | hn
  · by_cases h1 : ∀ d ∈ ds, isTup1 d = true
    · exact SortsAt.data e hal (.inl fun d hd => is1_of (h1 d hd)) hu
    · -- an empty tuple is among them
      have room : ∀ {d d' : PyData}, d ∈ ds → A.units + min d.depth d'.depth < cLine := fun {d d'} hd => Nat.lt_of_le_of_lt (Nat.add_le_add_left (Nat.min_le_left _ _) _) (hu d hd)
      have lts : ∀ kd : SortKind, (kd = oneType' ∨ kd = general') → H.LtAt prog w A s (dataKind s.heap ds) kd := by
        intro kd hkd E x y a b Q ha hb hq
        obtain ⟨d, as, hd, ra, rfl⟩ := dataKind_inv ha
        obtain ⟨d', as', hd', rb, rfl⟩ := dataKind_inv hb
        have hdd := hal d hd d' hd'
        have td := ht d hd
        have td' := ht d' hd'
        cases d with
        | tuple xs =>
          cases d' with
          | tuple ys =>
            have hq' : Q (dataLt (.tuple xs) (.tuple ys)) s := hq
            rcases hkd with hkd | hkd
            · rw [hkd, keyLt'_oneType]
              exact tup_one_lt ra rb (by simpa [alike] using hdd) (room hd) hq'
            · rw [hkd, keyLt_general]
              exact oneLt_alike (fun z => nomatch z) ra rb hdd (fun z => nomatch z) (room hd) hq'
          | _ => cases td'
        | _ => cases td
      have keys : ∀ v, v ∈ vs → ∃ a, (dataKind s.heap ds).keyOf v = some a := fun v hv => by
        obtain ⟨d, hd, as, r⟩ := e.left v hv
        exact ⟨_, dataKind_some hal hd r⟩
      have all0 : (ds.map isTup1).all id = false := by
        rw [Bool.eq_false_iff]
        intro z
        refine h1 fun d hd => ?_
        exact List.all_eq_true.mp z _ (List.mem_map.mpr ⟨d, hd, rfl⟩)
      have kind : ∀ (E : Value → Shared → Prop) {Q : SortKind → Shared → Prop}, Q (if (ds.map isTup1).headD false = true then general' else oneType') s → wpAny (model prog w) A (keyKind' vs.toArray) Q E s := by
        intro E Q hq
        have hvs : vs ≠ [] := by
          rintro rfl
          cases e
          exact h1 fun d hd => by cases hd
        rw [keyKind'_eq, List.mapM_toArray, map_eq_pure_bind]
        refine wpAny_bind (wpAny_bind (firsts_ask e ht fun fs hf => wpAny_pure ?_))
        have ha : (fs.toArray.all fun x => x.isSome) = false := by
          rw [← all0, ← hf, List.all_map]
          simp only [List.all_toArray]
          rfl
        rw [ha, if_neg (by decide)]
        have h0 : (fs.toArray[0]?.bind id).isSome = (ds.map isTup1).headD false := by
          rw [← hf]
          cases fs with
          | nil => rfl
          | cons f fr => cases f <;> rfl
        rw [h0]
        cases hh : (ds.map isTup1).headD false with
        | true =>
          rw [hh, if_pos rfl] at hq
          rw [if_pos rfl]
          exact wpAny_pure hq
        | false =>
          rw [hh, if_neg (by decide)] at hq
          rw [if_neg (by decide)]
          rw [oneTypeOnly'_eq, List.mapM_toArray, map_eq_pure_bind]
          refine wpAny_bind (wpAny_bind (wpAny_bind (types_ask e ht (wpAny_pure ?_))))
          cases vs with
          | nil => exact (hvs rfl).elim
          | cons v vr =>
            have hall : ((List.map (fun _ => Value.type "tuple") (v :: vr)).toArray.all fun x => x == Value.type "tuple") = true := by
              simp only [List.all_toArray, List.all_map, List.all_eq_true]
              intro _ _
              exact beq_self_eq_true _
            have hz : (List.map (fun _ => Value.type "tuple") (v :: vr)).toArray[0]? = some (Value.type "tuple") := by simp
            rw [hz]
            simp only [hall, if_true]
            exact wpAny_pure (wpAny_pure hq)
      refine ⟨keys, _, lts _ ?_, fun _ E Q hq => kind E hq⟩
      split
      · exact .inr rfl
      · exact .inl rfl
  · exact SortsAt.data e hal (.inr hn) hu
/-- sorted(xs) over the heap -/
theorem sorted_list {β : Type} {vs : List Value} {bs : List β} {enc : β → PyData} {R : Value → β → Prop} {l : Addr} {Q : Value → Shared → Prop} (hl : s.heap.IsList l vs.toArray) (e : EachIs R vs bs) (er : EachIs (fun v b => ∃ as, Reads s.heap v (enc b) as) vs bs) (hd : SortD (bs.map enc)) (hL : bs.length ≤ sizeLine)
    (hu : ∀ b, b ∈ bs → A.units + 2 + (enc b).depth < cLine) (h : ∀ out, out.length = bs.length → EachIs R out (bs.mergeSort (dataLe false enc)) → Q (.ref (s.heap.objs.size + 1)) { s with heap := sortedAll s.heap vs (List.toArray out) }) :
    wpAny (model prog w) A (call (.builtin "sorted") [.ref l]) Q E s := by
  have er' : EachIs (fun v b => ∃ as, Reads (sortingHeap (copyHeap s.heap vs) (s.heap.objs.size + 1) vs) v (enc b) as) vs bs := er.mono fun _ _ z => by
    obtain ⟨as, r⟩ := z
    exact ⟨as, PyProof.Rows.Reads.keeps (fun _ _ => sorting_copy_old) r⟩
  refine sorted_vals hl (sorts_at (s := { s with heap := sortingHeap (copyHeap s.heap vs) (s.heap.objs.size + 1) vs }) (ds := bs.map enc) (each_map (R := fun v d => ∃ as, Reads (sortingHeap (copyHeap s.heap vs) (s.heap.objs.size + 1) vs) v d as) enc er') hd (bound_map hu)) (by rw [e.length]; exact hL) (h _ ?_ (sortVals_data false e er' hd.1))
  rw [sortVals_length false rfl]
  exact e.length
end
end DL

namespace DL
open PySem PySem.Spec PyProof.Rows L2 PySem.W

/-! ### sorted, as a rule -/
def pyP (p : D × V) : PyData := p.1.py
def rSortD (K : PySem.W.Frag) : List V → Hp → VK → Prop := fun xs H Q => ∃ (a : Addr) (ps : List (D × V)), xs = [.ref a] ∧ SqL K H a (ps.map (·.2)) ∧ (∀ p ∈ ps, Dp K H p.2 p.1.py) ∧ SortD (ps.map pyP) ∧ (∀ p ∈ ps, p.1.py.depth ≤ 64) ∧
  ∀ l, H l = none → Q (.ref l) (upd H l (.lst ((ps.mergeSort (dataLe false pyP)).map (·.2))))
theorem each_vals {H : Hp} {X : Cx} {pins : List (Addr × Obj)} {σ : L2.St} {s : Shared} (I : Inv X pins σ H s) : ∀ {ps : List (D × V)} {us : List Value}, Vals (ps.map (·.2)) us → (∀ p ∈ ps, Dp X.K H p.2 p.1.py) →
    EachIs (fun v (p : D × V) => RelV p.2 v) us ps ∧ EachIs (fun v (p : D × V) => ∃ as, Reads s.heap v (pyP p) as) us ps
  | [], _, h, _ => by
    cases h
    exact ⟨.nil, .nil⟩
  | p :: ps, _, h, hd => by
    cases h with
    | cons r t =>
      obtain ⟨h1, h2⟩ := each_vals I t fun q hq => hd q (List.mem_cons_of_mem _ hq)
      exact ⟨.cons r h1, .cons (Dp.reads I _ _ _ (hd p List.mem_cons_self) r) h2⟩
theorem vals_each : ∀ {ps : List (D × V)} {us : List Value}, EachIs (fun v (p : D × V) => RelV p.2 v) us ps → Vals (ps.map (·.2)) us
  | _, _, .nil => .nil
  | _, _, .cons r t => .cons r (vals_each t)
theorem cr_sortD {X : Cx} (hu : X.A.units + 70 < cLine) : CallR X (.builtin "sorted") (rSortD X.K) := by
  intro pins s σ H xs us Q I r h
  obtain ⟨a, ps, rfl, hs, hd, ho, hz, q⟩ := h
  obtain ⟨its, rv, hl, sz⟩ := I.list hs
  rw [Vals.ref1 r]
  obtain ⟨e1, e2⟩ := each_vals I rv hd
  refine sorted_list (R := fun v (p : D × V) => RelV p.2 v) (enc := pyP) hl.isList e1 e2 ho (by rw [List.length_map] at sz; exact sz) (fun p hp => by have : (pyP p).depth ≤ 64 := hz p hp; omega) fun out lo eo => ?_
  obtain ⟨ep, he'⟩ := PyProof.Rows.sortedAll_at s.heap its out.toArray
  have hv : Vals ((ps.mergeSort (dataLe false pyP)).map (·.2)) out := vals_each eo
  have hlen : ((ps.mergeSort (dataLe false pyP)).map (·.2)).length ≤ sizeLine := by
    rw [List.length_map, List.length_mergeSort]
    rw [List.length_map] at sz
    exact sz
  exact ⟨.ref _, upd H (s.heap.objs.size + 1) (.lst ((ps.mergeSort (dataLe false pyP)).map (·.2))), I.laid (t' := s.toks) (fun _ _ => PyProof.Rows.sortedAll_old) (Nat.le_succ _) ⟨hlen, out, ep, hv, he'⟩, rfl, q _ (I.hok.fresh (Nat.le_succ _))⟩

/-! ### sorted of data -/
def alikeD (ds : List D) : Bool := ds.all fun a => ds.all fun b => alike a.py b.py
def tupsD (ds : List D) : Bool := ds.all fun a => isTup a.py
def restD (ds : List D) : Bool := ds.all fun a => match a.py with | .none => false | .tuple _ => false | _ => true
def sortOk (ds : List D) : Bool := plainL ds && (alikeD ds && ((tupsD ds || restD ds) && ds.all fun a => decide (a.py.depth ≤ 64)))
def sortD (ds : List D) : List D := ds.mergeSort (dataLe false D.py)
def dSorted : List D → Option D := fun args => match args with
  | [.lst ds] => if sortOk ds = true then some (.lst (sortD ds)) else none
  | [.ro ds] => if sortOk ds = true then some (.lst (sortD ds)) else none
  | _ => none
theorem plainL_mem : ∀ {ds : List D}, plainL ds = true → ∀ d ∈ ds, d.plain = true
  | [], _, d, h => by cases h
  | x :: ds, h, d, hd => by
    unfold plainL at h
    rcases List.mem_cons.mp hd with e | hd
    · rw [e]
      exact (Bool.and_eq_true_iff.mp h).1
    · exact plainL_mem (Bool.and_eq_true_iff.mp h).2 d hd
theorem sortOk_D {ds : List D} (h : sortOk ds = true) : (∀ d ∈ ds, d.plain = true) ∧ SortD (ds.map D.py) ∧ ∀ d ∈ ds, d.py.depth ≤ 64 := by
  unfold sortOk at h
  obtain ⟨h1, h2⟩ := Bool.and_eq_true_iff.mp h
  obtain ⟨h3, h4⟩ := Bool.and_eq_true_iff.mp h2
  obtain ⟨h5, h6⟩ := Bool.and_eq_true_iff.mp h4
  refine ⟨fun d hd => plainL_mem h1 d hd, ⟨fun x hx y hy => ?_, ?_⟩, fun d hd => of_decide_eq_true (List.all_eq_true.mp h6 d hd)⟩
  · obtain ⟨a, ha, rfl⟩ := List.mem_map.mp hx
    obtain ⟨b, hb, rfl⟩ := List.mem_map.mp hy
    exact List.all_eq_true.mp (List.all_eq_true.mp h3 a ha) b hb
  · rcases Bool.or_eq_true_iff.mp h5 with h5 | h5
    · left
      intro x hx
      obtain ⟨a, ha, rfl⟩ := List.mem_map.mp hx
      exact List.all_eq_true.mp h5 a ha
    · right
      intro x hx
      obtain ⟨a, ha, rfl⟩ := List.mem_map.mp hx
      have := List.all_eq_true.mp h5 a ha
      refine ⟨fun e => ?_, fun xs e => ?_⟩ <;> (simp only [e] at this; cases this)
theorem zip_fst {ds : List D} {vs : List V} (h : ds.length = vs.length) : (ds.zip vs).map (·.1) = ds := by
  rw [List.map_fst_zip (by omega)]
theorem zip_snd {ds : List D} {vs : List V} (h : ds.length = vs.length) : (ds.zip vs).map (·.2) = vs := by
  rw [List.map_snd_zip (by omega)]
theorem rpl_zip {W : Wd} {Z : Addr → Prop} {H : Hp} {ds : List D} {vs : List V} (r : RpL W Z H ds vs) : ∀ p ∈ ds.zip vs, Rp W Z H p.1 p.2 := by
  intro p hp
  obtain ⟨i, hi, e⟩ := List.getElem_of_mem hp
  have e1 : ds[i]? = some p.1 := by
    have : (ds.zip vs)[i]? = some p := by rw [List.getElem?_eq_getElem hi, e]
    rw [List.getElem?_zip_eq_some] at this
    exact this.1
  have e2 : vs[i]? = some p.2 := by
    have : (ds.zip vs)[i]? = some p := by rw [List.getElem?_eq_getElem hi, e]
    rw [List.getElem?_zip_eq_some] at this
    exact this.2
  obtain ⟨v, h1, h2⟩ := r.getD e1
  rw [e2] at h1
  rw [Option.some.inj h1]
  exact h2
theorem unzip_rpl {W : Wd} {Z : Addr → Prop} {H : Hp} : ∀ {ps : List (D × V)}, (∀ p ∈ ps, Rp W Z H p.1 p.2) → RpL W Z H (ps.map (·.1)) (ps.map (·.2))
  | [], _ => by unfold RpL; rfl
  | p :: ps, h => by
    show RpL W Z H (p.1 :: ps.map (·.1)) (p.2 :: ps.map (·.2))
    unfold RpL
    exact ⟨p.2, _, rfl, h p List.mem_cons_self, unzip_rpl fun q hq => h q (List.mem_cons_of_mem _ hq)⟩
theorem cfo_sorted {W : Wd} {X : Cx} (k : X.K = W.K) : CFO W 1 (rSortD X.K) dSorted := by
  have main : ∀ (L : Lab) (H : Hp) (ds : List D) (d : D) (a : Addr) (us : List V) (Q : VK), SqL X.K H a us → us.length ≤ sizeLine → RpL W (Zo L) H ds us → (if sortOk ds = true then some (D.lst (sortD ds)) else none) = some d →
      (∀ v H', NewV W L H d v H' → Q v H') → rSortD X.K [.ref a] H Q := by
    intro L H ds d a us Q hs sz r hd hq
    by_cases ok : sortOk ds = true
    · rw [if_pos ok] at hd
      cases hd
      obtain ⟨o1, o2, o3⟩ := sortOk_D ok
      have ln := r.length
      have rz := rpl_zip r
      have mem1 : ∀ p ∈ ds.zip us, p.1 ∈ ds := fun p hp => (List.of_mem_zip hp).1
      refine ⟨a, ds.zip us, rfl, by rw [zip_snd ln]; exact hs, fun p hp => ?_, ?_, fun p hp => o3 _ (mem1 p hp), fun l nl => hq _ _ (.inl ⟨l, _, _, rfl, rfl, nl, rfl, ?_, ?_⟩)⟩
      · rw [k]
        exact Rp.dp p.1 p.2 (o1 _ (mem1 p hp)) (rz p hp)
      · have : (ds.zip us).map pyP = ds.map D.py := by
          rw [← zip_fst ln, List.map_map, zip_fst ln]
          rfl
        rw [this]
        exact o2
      · have e : sortD ds = ((ds.zip us).mergeSort (dataLe false pyP)).map (·.1) := by
          have t := List.map_mergeSort (r := dataLe false pyP) (s := dataLe false D.py) (f := Prod.fst) (l := ds.zip us) (fun _ _ _ _ => rfl)
          unfold sortD
          rw [← zip_fst ln, ← t, zip_fst ln]
        rw [e]
        exact unzip_rpl fun p hp => rz p (List.mem_mergeSort.mp hp)
      · rw [List.length_map, List.length_mergeSort, List.length_zip]
        omega
    · rw [if_neg ok] at hd
      cases hd
  intro L H ds vs d Q A hf dom hq
  match ds, A, hf with
  | [.lst xs], A, hf =>
    obtain ⟨v, rfl, rv⟩ := all1z A
    obtain ⟨a, us, rfl, h1, sz, r⟩ := rz_lst rv
    exact main L H xs d a us Q (SqL.of h1) sz r hf hq
  | [.ro xs], A, hf =>
    obtain ⟨v, rfl, rv⟩ := all1z A
    obtain ⟨a, us, rfl, h1, sz, r⟩ := rz_ro rv
    exact main L H xs d a us Q (by rw [k]; exact h1) sz r hf hq

/-! ### repr -/
def rReprD (K : PySem.W.Frag) : List V → Hp → VK → Prop := fun xs H Q => ∃ (v : V) (d : PyData), xs = [v] ∧ Dp K H v d ∧ d.showable = true ∧ d.hasDict = false ∧ d.depth ≤ 64 ∧ d.shown.length ≤ sizeLine ∧ Q (.str d.shown) H
theorem cr_reprD {X : Cx} (hg : X.A.guards = some []) (hu : X.A.units + 70 < cLine) : CallR X (.builtin "repr") (rReprD X.K) := by
  intro pins s σ H xs us Q I r h
  obtain ⟨v, d, rfl, hd, hs, nd, dz, sz, q⟩ := h
  obtain ⟨u, rfl, ru⟩ := r.one
  obtain ⟨as, rd⟩ := Dp.reads I d v u hd ru
  have obj : ∀ a, u = .ref a → wpAny (model X.prog X.w) X.A (call (.builtin "repr") [u]) (EP X pins σ Q) X.xe s := fun a e => by
    subst e
    refine repr_of_reads' rd hs (PyData.noDict_hsm nd) hg (by omega) (fun _ _ e => e) (fun h' t tk hk => ?_) sz
    exact ⟨.str d.shown, H, I.kept (t' := tk) hk, ⟨_, rfl⟩, q⟩
  cases rd with
  | none => exact P.repr_of_none ⟨.str (PyData.shown .none), H, I.tok _, ⟨_, rfl⟩, q⟩
  | bool b => exact P.repr_of_bool ⟨.str (PyData.shown (.bool b)), H, I.tok _, ⟨_, rfl⟩, q⟩
  | int i t => exact P.repr_of_int (by simpa [PyData.showable] using hs) ⟨.str (PyData.shown (.int i)), H, I.tok _, ⟨_, rfl⟩, q⟩
  | str x t => exact P.repr_of_str ⟨.str (PyData.shown (.str x)), H, I.tok _, ⟨_, rfl⟩, q⟩ sz
  | list _ _ _ _ => exact obj _ rfl
  | tuple _ _ _ _ => exact obj _ rfl
  | dict _ _ _ _ _ => exact obj _ rfl
def reprOk (d : D) : Bool := d.plain && (d.py.showable && ((!d.py.hasDict) && (decide (d.py.depth ≤ 64) && decide (d.py.shown.length ≤ sizeLine))))
def dRepr : List D → Option D := fun args => match args with
  | [d] => if reprOk d = true then some (.str d.py.shown) else none
  | _ => none
theorem cf_repr {W : Wd} {X : Cx} (k : X.K = W.K) : CF W 0 2 (rReprD X.K) dRepr := by
  intro L H ds vs d Q A hf dom hq
  match ds, A, hf with
  | [x], A, hf =>
    obtain ⟨v, rfl, rv⟩ := all1z A
    have hf : (if reprOk x = true then some (D.str x.py.shown) else none) = some d := hf
    by_cases ok : reprOk x = true
    · rw [if_pos ok] at hf
      cases hf
      unfold reprOk at ok
      obtain ⟨h1, ok⟩ := Bool.and_eq_true_iff.mp ok
      obtain ⟨h2, ok⟩ := Bool.and_eq_true_iff.mp ok
      obtain ⟨h3, ok⟩ := Bool.and_eq_true_iff.mp ok
      obtain ⟨h4, h5⟩ := Bool.and_eq_true_iff.mp ok
      refine ⟨v, x.py, rfl, ?_, h2, by simpa using h3, of_decide_eq_true h4, of_decide_eq_true h5, hq _ H Ev.refl rz2_str⟩
      rw [k]
      exact Rp.dp x v h1 rv.any
    · rw [if_neg ok] at hf
      cases hf
end DL
/-! DLSetK: sets of whatever can be added: set(xs), sorted(set), len(set), for any kind of members. -/
namespace DL
open PySem PySem.Spec PySem.Calls PyProof.Rows L2

/-- a new set's object -/
abbrev set0 (w : World) : Obj := { cls := .type "set", dict := none, data := .set #[] 0 (.fresh 0 0 (!w.params.followText "set-order")) }
/-- a kind of members of sets -/
structure Kit (P : Program) (w : World) where
  K : Type
  is : Heap → K → Value → Prop
  keep : ∀ {h h' : Heap} {k : K} {v : Value}, (∀ b o, h.get? b = some o → h'.get? b = some o) → is h k v → is h' k v
  apart : ∀ {h h' : Heap} {k : K} {v : Value} {a : Addr} {o : Obj} {es : Array (Int × Value)} {ep : Nat} {t : SetTable}, is h k v → h.get? a = some o → o.data = .set es ep t → Heap.SameBut a h h' → is h' k v
  hold : Heap → Addr → List (K × Value) → Prop
  held : ∀ {h h' : Heap} {a : Addr} {L : List (K × Value)}, hold h a L → (∀ o, h.get? a = some o → h'.get? a = some o) → hold h' a L
  most : Nat
  fresh : ∀ {h : Heap} {a : Addr}, h.get? a = some (set0 w) → hold h a []
  seen : ∀ {h : Heap} {a : Addr} {L : List (K × Value)}, hold h a L → ∃ o es ep t, h.get? a = some o ∧ o.cls = .type "set" ∧ o.data = .set es ep t ∧ es.toList.map (·.2) = L.map (·.2) ∧ t.fits es.size = true ∧ es.size < scanBound ∧ Ris t.place.toList ∧
    (w.params.followText "set-order" = true ∨ t.led = true)
  nodup : ∀ {h : Heap} {a : Addr} {L : List (K × Value)}, hold h a L → (L.map (·.1)).Nodup
  add : ∀ {A : Around} {E : Value → Shared → Prop} {s : Shared} {a : Addr} {L : List (K × Value)} {k : K} {v : Value} {Q : Bool → Shared → Prop}, A.units + 8 < cLine → hold s.heap a L → (∀ p ∈ L, is s.heap p.1 p.2) → is s.heap k v → L.length < most →
    (∀ b h' L' tk, s.toks ≤ tk → Heap.SameBut a s.heap h' → hold h' a L' → (k ∈ L.map (·.1) → L' = L) → (k ∉ L.map (·.1) → L'.Perm ((k, v) :: L)) → Q b { s with heap := h', toks := tk }) → wpAny (model P w) A (setAdd a v) Q E s

/-- what the first i of ks leave -/
structure Taken {K : Type} (ks : List (K × Value)) (i : Nat) (L : List (K × Value)) : Prop where
  sub : ∀ p ∈ L, p ∈ ks.take i
  all : ∀ p ∈ ks.take i, p.1 ∈ L.map (·.1)
  few : L.length ≤ i
theorem taken0 {K : Type} (ks : List (K × Value)) : Taken ks 0 [] := ⟨fun _ h => (by cases h), fun _ h => (by simp at h), Nat.le_refl 0⟩
theorem Taken.step {K : Type} {ks L L' : List (K × Value)} {i : Nat} {x : K × Value} (g : Taken ks i L) (h : ks[i]? = some x) (c : (x.1 ∈ L.map (·.1) ∧ L' = L) ∨ L'.Perm (x :: L)) : Taken ks (i + 1) L' := by
  have tk : ks.take (i + 1) = ks.take i ++ [x] := by rw [List.take_succ, h]; rfl
  rcases c with ⟨hm, rfl⟩ | pm
  · refine ⟨fun p hp => ?_, fun p hp => ?_, Nat.le_succ_of_le g.few⟩
    · rw [tk]
      exact List.mem_append_left _ (g.sub p hp)
    · rw [tk] at hp
      rcases List.mem_append.mp hp with hp | hp
      · exact g.all p hp
      · rw [List.mem_singleton.mp hp]
        exact hm
  · refine ⟨fun p hp => ?_, fun p hp => ?_, ?_⟩
    · rw [tk]
      rcases List.mem_cons.mp (pm.mem_iff.mp hp) with e | hp
      · rw [e]
        exact List.mem_append_right _ (List.mem_singleton.mpr rfl)
      · exact List.mem_append_left _ (g.sub p hp)
    · rw [(pm.map (·.1)).mem_iff, List.map_cons]
      rw [tk] at hp
      rcases List.mem_append.mp hp with hp | hp
      · exact List.mem_cons_of_mem _ (g.all p hp)
      · rw [List.mem_singleton.mp hp]
        exact List.mem_cons_self
    · rw [pm.length_eq, List.length_cons]
      exact Nat.succ_le_succ g.few

section
variable {P : Program} {w : World} {A : Around} {E : Value → Shared → Prop} {s : Shared}
/-- set.update's turns -/
theorem upd_turns (T : Kit P w) {I : Addr} {fp wr : List Addr} {G : Array GenState → Array GenState → Prop} {n : Nat} {Pv : Nat → Value → Prop} {St : Nat → Shared → Prop} {R : Result → Shared → Prop}
    (Wk : WalksS P w A.in1 I fp wr G n Pv St) (S : Addr) (nS : S ∉ fp) (ks : List (T.K × Value)) (hn : n = ks.length) (hm : ks.length ≤ T.most) (hval : ∀ i v, Pv i v → ∃ p, ks[i]? = some p ∧ v = p.2)
    (h0 : Heap) (hk : ∀ p ∈ ks, T.is h0 p.1 p.2) (hS0 : h0.get? S = none) (hw0 : ∀ b ∈ wr, h0.get? b = none) (hu : A.units + 20 < cLine) :
    ∀ (m i : Nat) (s : Shared), i + m = n → St i s → (∀ b o, h0.get? b = some o → s.heap.get? b = some o) → (∃ L, T.hold s.heap S L ∧ Taken ks i L) →
      (∀ s' L, Moved (S :: wr) G s s' → T.hold s'.heap S L → Taken ks n L → (∀ b o, h0.get? b = some o → s'.heap.get? b = some o) → R (.ok (.ret .none)) s') →
      codeAny (model P w) A (.builtin "set.update.loop" ⟨[.ref S, .ref I], []⟩) R s := by
  have nW : S ∉ wr := fun z => nS (Wk.sub _ z)
  have wS : ∀ b ∈ wr, b ∈ S :: wr := fun b z => List.mem_cons_of_mem _ z
  have going : ∀ {s s' : Shared}, Moved wr G s s' → (∀ b o, h0.get? b = some o → s.heap.get? b = some o) → ∀ b o, h0.get? b = some o → s'.heap.get? b = some o := fun mv kp b o z =>
    mv.heap b o (fun y => by rw [hw0 b y] at z; cases z) (kp b o z)
  intro m
  induction m with
  | zero =>
    intro i s hi hst kp ⟨L, hS, g⟩ hR
    obtain rfl : i = n := by omega
    refine codeAny_builtin F.entry_set_update_loop ?_
    rw [Around.under_plainId F.plain_set_update_loop _]
    show wpAny _ A.in1 (pyNext (.ref I) >>= _) _ _ s
    refine wpAny_bind (Wk.done s _ _ hst fun s' mv => ?_)
    show wpAny _ A.in1 (ret Value.none) _ _ s'
    exact wpAny_pure (hR s' L (mv.mono wS) (T.held hS fun o z => mv.heap S o nW z) g (going mv kp))
  | succ m ih =>
    intro i s hi hst kp ⟨L, hS, g⟩ hR
    have hlt : i < n := by omega
    refine codeAny_builtin F.entry_set_update_loop ?_
    rw [Around.under_plainId F.plain_set_update_loop _]
    show wpAny _ A.in1 (pyNext (.ref I) >>= _) _ _ s
    refine wpAny_bind (Wk.item i s _ _ hlt hst fun v s' hP hst' mv => ?_)
    obtain ⟨p, hp, rfl⟩ := hval i v hP
    have kp' := going mv kp
    have hS' : T.hold s'.heap S L := T.held hS fun o z => mv.heap S o nW z
    have inks : ∀ q ∈ L, q ∈ ks := fun q hq => List.mem_of_mem_take (g.sub q hq)
    show wpAny _ A.in1 (holding [p.2] (setAdd S p.2) >>= _) _ _ s'
    refine wpAny_bind (wpAny_holding ?_)
    have u1 : A.in1.units + 8 < cLine := by show A.units + 1 + 8 < cLine; omega
    refine T.add u1 hS' (fun q hq => T.keep kp' (hk q (inks q hq))) (T.keep kp' (hk p (List.mem_of_getElem? hp))) (by have := g.few; omega) fun b h' L' tk ht sb hS2 c1 c2 => ?_
    have g' : Taken ks (i + 1) L' := by
      rcases Classical.em (p.1 ∈ L.map (·.1)) with c | c
      · exact g.step hp (.inl ⟨c, c1 c⟩)
      · exact g.step hp (.inr (c2 c))
    have kp2 : ∀ b o, h0.get? b = some o → h'.get? b = some o := fun b o z => (sb.2 b (fun y => by rw [y, hS0] at z; cases z)).trans (kp' b o z)
    refine wpAny_pure ⟨plainId_quiet F.plain_set_update_loop _, ih (i + 1) _ (by omega) (Wk.frame _ s' _ _ hst' ht fun b hb o z => ?_) kp2 ⟨L', hS2, g'⟩ fun s'' L2 mv2 hS3 g2 kp3 => ?_⟩
    · rw [sb.2 b (fun y : b = S => nS (by rw [← y]; exact hb))]
      exact z
    · refine hR s'' L2 (Moved.trans Wk.gtrans ((mv.mono wS).then_heap ht fun b o hb z => ?_) mv2) hS3 g2 kp3
      rw [sb.2 b (fun y : b = S => hb (by rw [y]; exact List.mem_cons_self))]
      exact z
/-- what set(xs) leaves -/
def SetMade (T : Kit P w) (s : Shared) (ks : List (T.K × Value)) (Q : Value → Shared → Prop) : Prop := ∀ (h' : Heap) (tk : Nat) (L : List (T.K × Value)), T.hold h' s.heap.objs.size L → Taken ks ks.length L → (∀ b o, s.heap.get? b = some o → h'.get? b = some o) → Q (.ref s.heap.objs.size) { s with heap := h', toks := tk }
/-- the making of a set: what its __init__ does is asked -/
theorem set_made {l : Addr} {Q : Value → Shared → Prop}
    (hin : ∀ (E' : Value → Shared → Prop), wpAny (model P w) A.in1.in1 (Builtin.«set.__init__» ⟨[.ref s.heap.objs.size, .ref l], []⟩) (fun f s₂ => match f with
        | .done f => (wants (fun r s₂ => r = .none ∧ Q (.ref s.heap.objs.size) s₂) E') (.ok f) s₂
        | .again c => c.quiet = true ∧ codeAny (model P w) A.in1 c (wants (fun r s₂ => r = .none ∧ Q (.ref s.heap.objs.size) s₂) E') s₂)
      (fun e s₂ => (wants (fun r s₂ => r = .none ∧ Q (.ref s.heap.objs.size) s₂) E') (.error e) s₂) { s with heap := s.heap.push (set0 w) }) :
    wpAny (model P w) A (call (.type "set") [.ref l]) Q E s := by
  obtain ⟨c, tl, hmro⟩ := F.called_set.mro
  have q1 := F.called_set.made
  have q2 := F.called_set.sub
  refine wpAny_call (codeAny_of_tree ?_)
  show wpAny _ _ (callAny (.type "set") _) _ _ _
  refine wpAny_pure ⟨Code.quiet_builtin _ (by decide +kernel), codeAny_builtin F.entry_type_call ?_⟩
  rw [Around.under_plain (weight_type_call_type "set" [.ref l] []) rfl]
  have q3 := F.called_set.notType
  have q4 := F.called_set.canCreate
  have q5 := F.typeCall_set_1 (.ref l)
  repeat (any_goals (first | assumption | wp_step))
  refine codeAny_mono (code_set_led1 (.ref l) (E := E) (Q₁ := fun v s₁ => v = .ref s.heap.objs.size ∧ s₁ = { s with heap := s.heap.push (set0 w) }) ⟨rfl, rfl⟩) fun r s₁ hr => ?_
  match r, hr with
  | .error e, hr => exact hr
  | .ok .next, hr => exact hr.elim
  | .ok .brk, hr => exact hr.elim
  | .ok .cont, hr => exact hr.elim
  | .ok (.ret obj), hr =>
    obtain ⟨rfl, rfl⟩ := hr
    have g1 : (s.heap.push (set0 w)).get? s.heap.objs.size = some (set0 w) := Heap.get?_push_size _ rfl
    have g2 : Shared.TypeIs { s with heap := s.heap.push (set0 w) } (.ref s.heap.objs.size) "set" := ⟨_, g1, rfl⟩
    have g3 := F.called_set.init.lookup
    have g4 := F.called_set.init.bind (.ref s.heap.objs.size)
    repeat (any_goals (first | assumption | wp_step))
    refine codeAny_mono (codeAny_call_builtin (R := wants (fun r s₂ => r = .none ∧ Q (.ref s.heap.objs.size) s₂) E) F.called_set.init.plain F.entry_set_init (check_set_init_1 g2 ?_)) fun r₂ s₂ hr₂ => ?_
    · exact hin E
    · match r₂, hr₂ with
      | .error e, hr₂ => exact hr₂
      | .ok .next, hr₂ => exact hr₂.elim
      | .ok .brk, hr₂ => exact hr₂.elim
      | .ok .cont, hr₂ => exact hr₂.elim
      | .ok (.ret u), hr₂ =>
        obtain ⟨rfl, hq⟩ := hr₂
        repeat (any_goals (first | assumption | wp_step))
/-- set(xs), xs a list or a tuple -/
theorem set_call (T : Kit P w) {l : Addr} {items : Array Value} (ks : List (T.K × Value)) {Q : Value → Shared → Prop} (hh : A.handled = none) (hl : s.heap.IsList l items ∨ s.heap.IsTuple l items) (hit : items.toList = ks.map (·.2))
    (hk : ∀ p ∈ ks, T.is s.heap p.1 p.2) (hm : ks.length ≤ T.most) (hu : A.units + 24 < cLine) (h : SetMade T s ks Q) : wpAny (model P w) A (call (.type "set") [.ref l]) Q E s := by
  have hsz : items.size = ks.length := by
    have q := congrArg List.length hit
    rw [Array.length_toList, List.length_map] at q
    exact q
  have hval : ∀ (i : Nat) (v : Value), items[i]? = some v → ∃ p, ks[i]? = some p ∧ v = p.2 := fun i v hv => by
    have q : items.toList[i]? = some v := by rw [Array.getElem?_toList]; exact hv
    rw [hit, List.getElem?_map] at q
    cases r : ks[i]? with
    | none => rw [r] at q; cases q
    | some p =>
      rw [r] at q
      exact ⟨p, rfl, (Option.some.inj q).symm⟩
  have gone : ∀ b, s.heap.objs.size ≤ b → s.heap.get? b = none := fun b hb => by
    cases q : s.heap.get? b with
    | none => rfl
    | some o => exact absurd (Nat.lt_of_lt_of_le (Heap.lt_size q) hb) (Nat.lt_irrefl _)
  have h3 : A.in1.in1.in1.handled = none := by simp [hh]
  have g1 : (s.heap.push (set0 w)).get? s.heap.objs.size = some (set0 w) := Heap.get?_push_size _ rfl
  -- the turns, from the iterator on
  have turns : ∀ (E' : Value → Shared → Prop) (itc : String) {St : Nat → Shared → Prop} {Pv : Nat → Value → Prop} {G : Array GenState → Array GenState → Prop},
      (∀ i v, Pv i v → items[i]? = some v) → (∀ g g', G g g' → g' = g) → l < s.heap.objs.size →
      WalksS P w A.in1.in1.in1 (s.heap.objs.size + 1) [s.heap.objs.size + 1, l] [s.heap.objs.size + 1] G items.size Pv St →
      St 0 { s with heap := (s.heap.push (set0 w)).push { cls := .type itc, data := .fields #[.ref l, .int 0 0] } } →
      codeAny (model P w) A.in1.in1 (.builtin "set.update.loop" ⟨[.ref s.heap.objs.size, .ref (s.heap.objs.size + 1)], []⟩)
        (fun r s' => r = .ok (.ret .none) ∧ ∃ h' tk L, s' = { s with heap := h', toks := tk } ∧ T.hold h' s.heap.objs.size L ∧ Taken ks ks.length L ∧ (∀ b o, s.heap.get? b = some o → h'.get? b = some o))
        { s with heap := (s.heap.push (set0 w)).push { cls := .type itc, data := .fields #[.ref l, .int 0 0] } } := by
    intro E' itc St Pv G hP hG hlS Wk hst
    refine upd_turns T Wk s.heap.objs.size (by simp only [List.mem_cons, List.not_mem_nil, or_false, not_or]; exact ⟨Nat.ne_of_lt (Nat.lt_succ_self _), Nat.ne_of_gt hlS⟩) ks hsz hm (fun i v hv => hval i v (hP i v hv)) s.heap hk (gone _ (Nat.le_refl _))
      (fun b hb => gone b (by rw [List.mem_singleton.mp hb]; exact Nat.le_succ _)) (by show A.units + 1 + 1 + 20 < cLine; omega) items.size 0 _ (by omega) hst (fun b o e => Heap.get?_push_of_some _ (Heap.get?_push_of_some _ e)) ⟨[], ?_, taken0 ks⟩ ?_
    · exact T.fresh (Heap.get?_push_of_some _ g1)
    · intro s' L mv hS g kp
      obtain ⟨h', g2, d', tk', os'⟩ := s'
      have eg : g2 = s.gens := hG _ _ mv.gens
      have ed : d' = s.drawn := mv.drawn
      have eo : os' = s.os := mv.os
      subst eg ed eo
      rw [hsz] at g
      exact ⟨rfl, h', tk', L, rfl, hS, g, kp⟩
  refine set_made fun E' => ?_
  have fin : ∀ (E' : Value → Shared → Prop) (r : Result) (s' : Shared), (r = .ok (.ret .none) ∧ ∃ h' tk L, s' = { s with heap := h', toks := tk } ∧ T.hold h' s.heap.objs.size L ∧ Taken ks ks.length L ∧ (∀ b o, s.heap.get? b = some o → h'.get? b = some o)) →
      ∃ h' tk, r = .ok (.ret .none) ∧ s' = { s with heap := h', toks := tk } ∧ Q (.ref s.heap.objs.size) s' := by
    intro E' r s' z
    obtain ⟨rfl, h', tk, L, rfl, a1, a2, a3⟩ := z
    exact ⟨h', tk, rfl, rfl, h h' tk L a1 a2 a3⟩
  rcases hl with hl | hl
  · obtain ⟨⟨oc, od, ot, os⟩, o1, o2, n, o3⟩ := hl
    simp only at o2 o3
    subst o2 o3
    have o4 : (s.heap.push (set0 w)).get? l = some { cls := .type "list", dict := od, data := .seq items n, slots := os } := Heap.get?_push_of_some _ o1
    have f1 := F.sub_list_set
    have f2 := F.sub_list_frozenset
    have f3 : (Value.type "list" == Value.type "dict") = false := by decide
    have lt : l < s.heap.objs.size := Heap.lt_size o1
    have isL : (s.heap.push (set0 w)).IsList l items := ⟨_, o4, rfl, n, rfl⟩
    have zz : (s.heap.push (set0 w)).objs.size = s.heap.objs.size + 1 := Heap.size_push ..
    unfold Builtin.«set.__init__» noKeywords Builtin.Frozenset.updateFrom
    generalize hPI : pyIter = PI
    wp_walk
    subst hPI
    refine wpAny_pyIter_list isL ?_
    refine wpAny_bind (wpAny_runValue ?_)
    rw [zz]
    refine codeAny_mono (turns E' "list_iterator" (fun _ _ z => z) (fun _ _ z => z) lt ((Walks.list h3 (s.heap.objs.size + 1) l (Nat.ne_of_lt (Nat.lt_succ_of_lt lt)) items).toS) ⟨⟨_, by rw [← zz]; exact Heap.get?_push_size _ rfl, rfl, rfl⟩, isL.push _⟩) fun r s' z => ?_
    obtain ⟨h', tk, rfl, rfl, q⟩ := fin E' r s' z
    show wpAny _ _ _ _ _ _
    refine wpAny_pure ?_
    show wpAny _ _ (ret Value.none) _ _ _
    exact wpAny_pure ⟨rfl, q⟩
  · obtain ⟨⟨oc, od, ot, os⟩, o1, o2, n, o3⟩ := hl
    simp only at o2 o3
    subst o2 o3
    have o4 : (s.heap.push (set0 w)).get? l = some { cls := .type "tuple", dict := od, data := .seq items n, slots := os } := Heap.get?_push_of_some _ o1
    have f1 := F.sub_tuple_set
    have f2 := F.sub_tuple_frozenset
    have f3 : (Value.type "tuple" == Value.type "dict") = false := by decide
    have lt : l < s.heap.objs.size := Heap.lt_size o1
    have isT : (s.heap.push (set0 w)).IsTuple l items := ⟨_, o4, rfl, n, rfl⟩
    have zz : (s.heap.push (set0 w)).objs.size = s.heap.objs.size + 1 := Heap.size_push ..
    unfold Builtin.«set.__init__» noKeywords Builtin.Frozenset.updateFrom
    generalize hPI : pyIter = PI
    wp_walk
    subst hPI
    refine wpAny_pyIter_tuple isT ?_
    refine wpAny_bind (wpAny_runValue ?_)
    rw [zz]
    refine codeAny_mono (turns E' "tuple_iterator" (fun _ _ z => z) (fun _ _ z => z) lt ((Walks.tuple h3 (s.heap.objs.size + 1) l (Nat.ne_of_lt (Nat.lt_succ_of_lt lt)) items).toS) ⟨⟨_, by rw [← zz]; exact Heap.get?_push_size _ rfl, rfl, rfl⟩, isT.push _⟩) fun r s' z => ?_
    obtain ⟨h', tk, rfl, rfl, q⟩ := fin E' r s' z
    show wpAny _ _ _ _ _ _
    refine wpAny_pure ?_
    show wpAny _ _ (ret Value.none) _ _ _
    exact wpAny_pure ⟨rfl, q⟩
end
end DL
/-! DLSetV: the kind of members that are carried by value: whole numbers, texts. -/
namespace DL
open PySem PySem.Spec PySem.Calls PyProof.Rows L2

/-- what is a permutation of a mapped list is mapped itself -/
theorem perm_map {α β : Type} {f : α → β} : ∀ {xs ys : List β}, xs.Perm ys → ∀ L : List α, ys = L.map f → ∃ L' : List α, xs = L'.map f ∧ L'.Perm L := by
  intro xs ys h
  induction h with
  | nil => exact fun L e => ⟨L, e, .refl _⟩
  | @cons x l1 l2 p ih =>
    intro L e
    cases L with
    | nil => cases e
    | cons y L =>
      rw [List.map_cons] at e
      injection e with e1 e2
      obtain ⟨L', a, b⟩ := ih L e2
      exact ⟨y :: L', by rw [List.map_cons, e1, a], b.cons y⟩
  | swap x y l =>
    intro L e
    match L, e with
    | [], e => cases e
    | [a], e => simp at e
    | a :: b :: L, e =>
      rw [List.map_cons, List.map_cons] at e
      injection e with e1 e2
      injection e2 with e2 e3
      exact ⟨b :: a :: L, by rw [List.map_cons, List.map_cons, e1, e2, e3], .swap a b L⟩
  | trans _ _ ih1 ih2 =>
    intro L e
    obtain ⟨L1, a1, b1⟩ := ih2 L e
    obtain ⟨L2, a2, b2⟩ := ih1 L1 a1
    exact ⟨L2, a2, b2.trans b1⟩

section
variable {P : Program} {w : World}
def rowV (P : Program) (w : World) (p : Key × Value) : Int × Value := ((mixKind P w).hash p.1, p.2)
/-- the set at a has the members L -/
def HoldV (P : Program) (w : World) (h : Heap) (a : Addr) (L : List (Key × Value)) : Prop :=
  ∃ o es ep t, h.get? a = some o ∧ o.ExactSet ∧ o.data = .set es ep t ∧ es.toList = L.map (rowV P w) ∧ (∀ p ∈ L, (mixKind P w).is p.1 p.2 = true ∧ p.2.scannable = true) ∧ (L.map (·.1)).Nodup ∧
    es.size < scanBound ∧ t.fits es.size = true ∧ Ris t.place.toList ∧ (w.params.followText "set-order" = true ∨ t.led = true)
theorem key_scan {k : Key} {v : Value} (h : (mixKind P w).is k v = true) : v.scannable = true := by
  rcases keyIs_shape (show keyIs k v = true from h) with ⟨i, t, rfl, rfl⟩ | ⟨x, t, rfl, rfl⟩ <;> rfl
theorem rows_elems {L : List (Key × Value)} (g : ∀ p ∈ L, (mixKind P w).is p.1 p.2 = true ∧ p.2.scannable = true) : ElemsOf (mixKind P w) (L.map (rowV P w)) := fun e he => by
  obtain ⟨p, hp, rfl⟩ := List.mem_map.mp he
  exact ⟨⟨p.1, (g p hp).1, rfl⟩, (g p hp).2⟩
theorem rows_has {L : List (Key × Value)} (g : ∀ p ∈ L, (mixKind P w).is p.1 p.2 = true ∧ p.2.scannable = true) (k : Key) : k ∈ L.map (·.1) ↔ ∃ e ∈ L.map (rowV P w), (mixKind P w).is k e.2 = true := by
  constructor
  · intro h
    obtain ⟨p, hp, rfl⟩ := List.mem_map.mp h
    exact ⟨_, List.mem_map.mpr ⟨p, hp, rfl⟩, (g p hp).1⟩
  · rintro ⟨e, he, q⟩
    obtain ⟨p, hp, rfl⟩ := List.mem_map.mp he
    exact List.mem_map.mpr ⟨p, hp, (mixKind P w).inj _ _ _ (g p hp).1 q⟩

/-- the end of an add: the rows stored, laid anew where it is full -/
theorem addV_tail {A : Around} {E : Value → Shared → Prop} {s : Shared} {a : Addr} {g : Bool → Sem Unit} (hg : ∀ (b : Bool) (s₁ : Shared) (Q' : Unit → Shared → Prop), Q' () s₁ → wpAny (model P w) A (g b) Q' E s₁)
    {o : Obj} {es es1 : Array (Int × Value)} {ep : Nat} {t t2 : SetTable} {L1 : List (Key × Value)} (ho : s.heap.get? a = some o) (hex : o.ExactSet) (hd : o.data = .set es ep t) (e1 : es1.toList = L1.map (rowV P w))
    (g1 : ∀ p ∈ L1, (mixKind P w).is p.1 p.2 = true ∧ p.2.scannable = true) (nd1 : (L1.map (·.1)).Nodup) (hb1 : es1.size < scanBound) (hf2 : t2.fits es1.size = true) (hr : Ris t2.place.toList) (hl : w.params.followText "set-order" = true ∨ t2.led = true) {wasDummy : Bool} {R : Option Bool → Shared → Prop}
    (hR : ∀ h' L', Heap.SameBut a s.heap h' → HoldV P w h' a L' → L'.Perm L1 → R (some true) { s with heap := h' }) :
    wpAny (model P w) A (do
        storeSet a es1 t2
        if (!wasDummy && t2.tooFull) = true then do
            g (relayAll t2 es1 (SetTable.grown es1.size)).2.2
            storeSet a (relayAll t2 es1 (SetTable.grown es1.size)).1 (relayAll t2 es1 (SetTable.grown es1.size)).2.1
            pure (some true)
          else pure (some true)) R E s := by
  refine wpAny_bind (wpAny_storeSet_of ho hd ?_ (fits_of_scanBound hb1))
  have ho1 := store_at (es' := es1) (t' := t2) ho hd
  have sb1 := Heap.SameBut.update s.heap a (Obj.putSet es1 t2)
  by_cases hfull : (!wasDummy && t2.tooFull) = true
  · rw [if_pos hfull]
    have p1 := relayAll_perm t2 es1 (SetTable.grown es1.size)
    have p2 := relayAll_fits t2 es1 (SetTable.grown es1.size)
    have p3 := relayAll_ris t2 es1 (SetTable.grown es1.size)
    have p4 := relayAll_led t2 es1 (SetTable.grown es1.size)
    generalize relayAll t2 es1 (SetTable.grown es1.size) = Z at p1 p2 p3 p4 ⊢
    obtain ⟨es2, t3, gave⟩ := Z
    dsimp only at p1 p2 p3 p4 ⊢
    obtain ⟨L2, q1, q2⟩ := perm_map p1 L1 e1
    have sz : es2.size = es1.size := by rw [← Array.length_toList, p1.length_eq, Array.length_toList]
    have hb2 : es2.size < scanBound := by rw [sz]; exact hb1
    refine wpAny_bind (hg _ _ _ (wpAny_bind (wpAny_storeSet_of ho1 rfl ?_ (fits_of_scanBound hb2))))
    have ho2 := store_at (es' := es2) (t' := t3) ho1 rfl
    exact wpAny_pure (hR _ L2 (sb1.trans (Heap.SameBut.update _ a _)) ⟨_, es2, _, t3, ho2, hex, rfl, q1, fun p hp => g1 p (q2.mem_iff.mp hp), (q2.map (·.1)).nodup_iff.mpr nd1, hb2, by rw [sz] at p2 ⊢; exact p2, p3, hl.imp id fun z => by rw [p4]; exact z⟩ q2)
  · rw [if_neg hfull]
    exact wpAny_pure (hR _ L1 sb1 ⟨_, es1, _, t2, ho1, hex, rfl, e1, g1, nd1, hb1, hf2, hr, hl⟩ (.refl _))
theorem addV {A : Around} {E : Value → Shared → Prop} {s : Shared} {a : Addr} {L : List (Key × Value)} {k : Key} {v : Value} {Q : Bool → Shared → Prop} (R : HoldV P w s.heap a L) (hk : (mixKind P w).is k v = true) (room : L.length + 1 < scanBound)
    (hQ : ∀ b h' L', Heap.SameBut a s.heap h' → HoldV P w h' a L' → (k ∈ L.map (·.1) → L' = L) → (k ∉ L.map (·.1) → L'.Perm ((k, v) :: L)) → Q b { s with heap := h' }) :
    wpAny (model P w) A (setAddHashed a v ((mixKind P w).hash k)) Q E s := by
  obtain ⟨o, es, ep, t, ho, hex, hd, he, g, nd, hb, hf, hr, hl⟩ := R
  have sc := key_scan hk
  have el : ElemsOf (mixKind P w) es.toList := by rw [he]; exact rows_elems g
  have szL : es.size = L.length := by rw [← Array.length_toList, he, List.length_map]
  unfold setAddHashed setAddHashedIn
  refine wpAny_holding (wpAny_bind (wpAny_setState_of ho hd hf ?_))
  dsimp only
  rw [byScan_of sc hb el]
  simp only [↓reduceIte]
  unfold setAddByScan
  refine wpAny_bind (wpAny_bind (wpAny_rule (wpAny_bind (wpAny_setScan_of hk ho hd hf el ?_))))
  cases hfi : List.findIdx? (fun e => (mixKind P w).is k e.2) es.toList with
  | some j =>
    dsimp only
    obtain ⟨hj, pj, _⟩ := List.findIdx?_eq_some_iff_getElem.mp hfi
    have hin : k ∈ L.map (·.1) := (rows_has g k).mpr ⟨es.toList[j], by rw [← he]; exact List.getElem_mem hj, pj⟩
    exact wpAny_pure (wpAny_pure (hQ false s.heap L (Heap.SameBut.refl a s.heap) ⟨o, es, ep, t, ho, hex, hd, he, g, nd, hb, hf, hr, hl⟩ (fun _ => rfl) fun z => absurd hin z))
  | none =>
    dsimp only
    have hout : k ∉ L.map (·.1) := fun z => by
      obtain ⟨e, me, q⟩ := (rows_has g k).mp z
      rw [← he] at me
      have c := List.findIdx?_eq_none_iff.mp hfi e me
      rw [q] at c
      cases c
    have gw : ∀ (b : Bool) {s₁ : Shared} {Q' : Unit → Shared → Prop}, Q' () s₁ → wpAny (model P w) A (match b with | true => rule "set.scan.the-table-gave-way" | false => pure ()) Q' E s₁ :=
      fun b s₁ Q' q => by cases b <;> first | exact wpAny_pure q | exact wpAny_rule q
    have p1 := layNew_perm t es ((mixKind P w).hash k) v
    have p2 := layNew_fits t es ((mixKind P w).hash k) v
    have p3 := layNew_ris t es ((mixKind P w).hash k) v hr
    have p4 := layNew_led t es ((mixKind P w).hash k) v
    generalize layNew t es ((mixKind P w).hash k) v = Z at p1 p2 p3 p4 ⊢
    obtain ⟨es1, t1, wasDummy, gave⟩ := Z
    dsimp only at p1 p2 p3 p4 ⊢
    rw [Array.toList_push] at p1
    have pc : es1.toList.Perm (((mixKind P w).hash k, v) :: es.toList) := p1.trans (List.perm_append_singleton _ _)
    obtain ⟨L1, q1, q2⟩ := perm_map pc ((k, v) :: L) (by rw [List.map_cons, ← he]; rfl)
    have g1 : ∀ p ∈ L1, (mixKind P w).is p.1 p.2 = true ∧ p.2.scannable = true := fun p hp => by
      rcases List.mem_cons.mp (q2.mem_iff.mp hp) with z | z
      · rw [z]; exact ⟨hk, sc⟩
      · exact g p z
    have nd1 : (L1.map (·.1)).Nodup := (q2.map (·.1)).nodup_iff.mpr (List.nodup_cons.mpr ⟨hout, nd⟩)
    have sz1 : es1.size = L.length + 1 := by rw [← Array.length_toList, pc.length_eq, List.length_cons, Array.length_toList, szL]
    have hb1 : es1.size < scanBound := by rw [sz1]; exact room
    have hl1 : w.params.followText "set-order" = true ∨ t1.led = true := hl.imp id fun z => by rw [p4]; exact z
    have fin : ∀ h' L', Heap.SameBut a s.heap h' → HoldV P w h' a L' → L'.Perm L1 → Q true { s with heap := h' } := fun h' L' sb r pm => hQ true h' L' sb r (fun z => absurd z hout) fun _ => pm.trans q2
    refine wpAny_bind (gw _ ?_)
    split
    · refine wpAny_bind ?_
      rw [hashByValue_scannable 8 sc]
      refine wpAny_pure ?_
      refine addV_tail ?_ ho hex hd q1 g1 nd1 hb1 ?_ ?_ ?_ ?_
      · intro b s₁ Q' q; cases b <;> first | exact wpAny_pure q | exact wpAny_rule q
      · first | (split <;> first | exact p2 | exact SetTable.fits_plain_off p2) | exact p2
      · first | (split <;> exact p3) | exact p3
      · first | (split <;> exact hl1) | exact hl1
      · intro h' L' sb r pm; dsimp only; exact wpAny_pure (fin h' L' sb r pm)
    · refine wpAny_bind (wpAny_pure ?_)
      simp only [↓reduceIte]
      refine addV_tail ?_ ho hex hd q1 g1 nd1 hb1 p2 p3 hl1 ?_
      · intro b s₁ Q' q; cases b <;> first | exact wpAny_pure q | exact wpAny_rule q
      · intro h' L' sb r pm; dsimp only; exact wpAny_pure (fin h' L' sb r pm)
theorem led0 : w.params.followText "set-order" = true ∨ (SetTable.fresh 0 0 (!w.params.followText "set-order")).led = true := by
  show _ ∨ (!w.params.followText "set-order") = true
  cases w.params.followText "set-order"
  · exact .inr rfl
  · exact .inl rfl
/-- whole numbers and texts -/
def kitV (P : Program) (w : World) : Kit P w where
  K := Key
  is := fun _ k v => (mixKind P w).is k v = true
  keep := fun _ h => h
  apart := fun h _ _ _ => h
  hold := HoldV P w
  held := fun h k => by
    obtain ⟨o, es, ep, t, ho, r⟩ := h
    exact ⟨o, es, ep, t, k o ho, r⟩
  most := scanBound - 1
  fresh := fun {h a} e => ⟨_, #[], 0, _, e, ⟨rfl, rfl, rfl⟩, rfl, rfl, fun p hp => (by cases hp), List.nodup_nil, (by decide), rfl, List.Pairwise.nil, led0⟩
  seen := fun h => by
    obtain ⟨o, es, ep, t, ho, hex, hd, he, g, nd, hb, hf, hr, hl⟩ := h
    exact ⟨o, es, ep, t, ho, hex.1, hd, by rw [he, List.map_map]; rfl, hf, hb, hr, hl⟩
  nodup := fun h => by
    obtain ⟨o, es, ep, t, ho, hex, hd, he, g, nd, r⟩ := h
    exact nd
  add := fun {A E s a L k v Q} hu R hL hk hm hQ => by
    unfold setAdd
    refine wpAny_holding (wpAny_bind ((mixKind P w).pyHash hk ?_))
    exact addV (s := { s with toks := s.toks + 1 }) R hk (by omega) fun b h' L' sb r c1 c2 => hQ b h' L' _ (Nat.le_succ _) sb r c1 c2
end
end DL
/-! DLSetT: the kind of members that are flat tuples of numbers and texts. -/
namespace DL
open PySem PySem.Spec PySem.Calls PyProof.Rows L2

section
variable {P : Program} {w : World} {A : Around} {E : Value → Shared → Prop} {s : Shared}
abbrev Lot := List Key
abbrev LotAt (P : Program) (w : World) (h : Heap) (k : Lot) (b : Addr) : Prop := IsTupleKey (mixKind P w) h k b
abbrev lotH (P : Program) (w : World) (k : Lot) : Int := tupleKeyHash (mixKind P w) k
theorem flat_item {k : Lot} {vs : List Value} (h : ItemsAre (mixKind P w) k vs) : ∀ v ∈ vs, (∀ n, ofAClassStatement n v = pure false) ∧ ∃ b, ∀ n, hashByValue n v = pure b := by
  induction h with
  | nil => intro v hv; cases hv
  | @cons k0 u ks us h1 _ ih =>
    intro v hv
    rcases List.mem_cons.mp hv with rfl | hv
    · rcases keyIs_shape (show keyIs k0 v = true from h1) with ⟨i, t, rfl, rfl⟩ | ⟨x, t, rfl, rfl⟩
      · exact ⟨fun n => by cases n <;> rfl, _, fun n => hashByValue_scannable n rfl⟩
      · exact ⟨fun n => by cases n <;> rfl, _, fun n => hashByValue_scannable n rfl⟩
    · exact ih v hv
/-- two walks over a flat tuple's items that find nothing -/
theorem lot_class {k : Lot} {b : Addr} {Q : Bool → Shared → Prop} (hk : LotAt P w s.heap k b) (h : Q false s) : wpAny (model P w) A (ofAClassStatement 8 (.ref b)) Q E s := by
  have ty := hk.typeIs
  obtain ⟨o, its, n, ho, _, hd, hi⟩ := hk
  have quiet := flat_item hi
  unfold ofAClassStatement
  refine wpAny_bind (wpAny_typeOf ty ?_)
  dsimp only
  simp only [show (("tuple" : String) == "tuple") = true from by decide, if_true, Bool.not_true, Bool.false_eq_true, if_false]
  try refine wpAny_bind (wpAny_pure ?_)
  try simp only [Bool.not_true, Bool.false_eq_true, if_false]
  show wpAny _ _ (seqItems? (.ref b) >>= _) _ _ s
  refine wpAny_bind (wpAny_seqItems ho hd ?_)
  dsimp only
  refine wpAny_bind ?_
  show wpAny _ _ (forIn its _ _) _ _ s
  rw [← Array.forIn_toList]
  refine wpAny_forIn_list _ (fun todo r s' => r.1 = none ∧ (s' = s ∧ ∀ v ∈ todo, v ∈ its.toList)) _ ?turn ?over _ _ ⟨rfl, rfl, fun _ z => z⟩
  case turn =>
    rintro v todo r s' ⟨_, rfl, sub⟩
    rw [(quiet v (sub v List.mem_cons_self)).1]
    refine wpAny_bind (wpAny_pure ?_)
    simp only [Bool.false_eq_true, if_false]
    exact wpAny_pure ⟨rfl, rfl, fun u hu => sub u (List.mem_cons_of_mem _ hu)⟩
  case over =>
    rintro ⟨r1, _⟩ s' ⟨e, rfl, _⟩
    simp only at e
    subst e
    exact wpAny_pure h
theorem lot_plain {k : Lot} {b : Addr} {Q : Bool → Shared → Prop} (hk : LotAt P w s.heap k b) (h : ∀ c, Q c s) : wpAny (model P w) A (hashByValue 8 (.ref b)) Q E s := by
  have ty := hk.typeIs
  obtain ⟨o, its, n, ho, _, hd, hi⟩ := hk
  have quiet := flat_item hi
  unfold hashByValue
  refine wpAny_bind (wpAny_specialOf ty F.slot_tuple_hash.lookup ?_)
  show wpAny _ _ (seqItems? (.ref b) >>= _) _ _ s
  refine wpAny_bind (wpAny_seqItems ho hd ?_)
  refine wpAny_bind ?_
  show wpAny _ _ (forIn its _ _) _ _ s
  rw [← Array.forIn_toList]
  refine wpAny_forIn_list _ (fun todo r s' => r.1 = none ∧ (s' = s ∧ ∀ v ∈ todo, v ∈ its.toList)) _ ?turn ?over _ _ ⟨rfl, rfl, fun _ z => z⟩
  case turn =>
    rintro v todo r s' ⟨_, rfl, sub⟩
    obtain ⟨c, hc⟩ := (quiet v (sub v List.mem_cons_self)).2
    rw [hc]
    refine wpAny_bind (wpAny_pure ?_)
    cases c with
    | true =>
      simp only [Bool.not_true, Bool.false_eq_true, if_false]
      exact wpAny_pure ⟨rfl, rfl, fun u hu => sub u (List.mem_cons_of_mem _ hu)⟩
    | false =>
      simp only [Bool.not_false, if_true]
      exact wpAny_pure (wpAny_pure (h false))
  case over =>
    rintro ⟨r1, _⟩ s' ⟨e, rfl, _⟩
    simp only at e
    subst e
    exact wpAny_pure (h true)
/-- a search among flat tuples shows nothing of the table -/
theorem lots_unseen {k : Lot} {b : Addr} {Q : Bool → Shared → Prop} (hk : LotAt P w s.heap k b) {ys : List Value} (hy : ∀ y ∈ ys, ∃ k' c, y = Value.ref c ∧ LotAt P w s.heap k' c) (h : Q false s) :
    wpAny (model P w) A (searchCouldBeSeen (.ref b) ys) Q E s := by
  unfold searchCouldBeSeen
  refine wpAny_bind ?_
  refine wpAny_forIn_list _ (fun todo r s' => r.1 = none ∧ (s' = s ∧ ∀ y ∈ todo, y ∈ ys)) _ ?turn ?over _ _ ⟨rfl, rfl, fun _ z => z⟩
  case turn =>
    rintro v todo r s' ⟨_, rfl, sub⟩
    obtain ⟨k', c, rfl, hc⟩ := hy v (sub v List.mem_cons_self)
    have sub' : ∀ y ∈ todo, y ∈ ys := fun u hu => sub u (List.mem_cons_of_mem _ hu)
    dsimp only
    by_cases same : (b == c || (carriedByValue (.ref b) && carriedByValue (.ref c))) = true
    · exact wp_if_pos same (wpAny_pure ⟨rfl, rfl, sub'⟩)
    · refine wp_if_neg same (wpAny_bind (wpAny_eqIsQuiet_tuple hk ?_))
      simp only [Bool.not_true, Bool.false_eq_true, if_false]
      refine wpAny_bind (wpAny_eqIsQuiet_tuple hc ?_)
      simp only [Bool.not_true, Bool.false_eq_true, if_false]
      refine wpAny_bind (lot_class hk ?_)
      simp only [Bool.false_eq_true, if_false]
      refine wpAny_bind (lot_class hc ?_)
      simp only [Bool.false_eq_true, if_false]
      exact wpAny_pure ⟨rfl, rfl, sub'⟩
  case over =>
    rintro ⟨r1, _⟩ s' ⟨e, rfl, _⟩
    simp only at e
    subst e
    exact wpAny_pure h

/-! ### the set -/
def rowT (P : Program) (w : World) (p : Lot × Value) : Int × Value := (lotH P w p.1, p.2)
structure HoldT (P : Program) (w : World) (h : Heap) (a : Addr) (L : List (Lot × Value)) (es : Array (Int × Value)) (ep : Nat) (t : SetTable) : Prop where
  obj : ∃ o, h.get? a = some o ∧ (o.ExactSet ∧ o.data = .set es ep t)
  rows : es.toList = L.map (rowT P w)
  refs : ∀ p ∈ L, ∃ b, p.2 = .ref b
  tab : TabOk t (L.map fun p => lotH P w p.1)
  nd : (L.map (·.1)).Nodup
  led : w.params.followText "set-order" = true ∨ t.led = true
  room : L.length * 5 < t.mask * 3
  few : L.length < 64
variable {a : Addr} {L : List (Lot × Value)} {es : Array (Int × Value)} {ep : Nat} {t : SetTable}
theorem HoldT.size {h : Heap} (R : HoldT P w h a L es ep t) : es.size = L.length := by rw [← Array.length_toList, R.rows, List.length_map]
theorem HoldT.fits {h : Heap} (R : HoldT P w h a L es ep t) : t.fits es.size = true := by
  have h1 := R.tab.sz
  have h2 := R.size
  have h3 := R.room
  rw [List.length_map] at h1
  unfold SetTable.fits SetTable.fill
  rw [R.tab.dm, Bool.and_eq_true, beq_iff_eq, decide_eq_true_eq]
  show t.place.size = es.size ∧ t.place.size + 0 ≤ t.mask
  omega
theorem HoldT.row {h : Heap} (R : HoldT P w h a L es ep t) {i : Nat} {p : Lot × Value} (e : L[i]? = some p) : es[i]? = some (lotH P w p.1, p.2) := by
  rw [← Array.getElem?_toList, R.rows, List.getElem?_map, e]
  rfl

/-! ### the search -/
abbrev wayTo (t : SetTable) (h : Int) (c : Nat) : Nat := way t.mask h c
abbrev probeAt (t : SetTable) (h : Int) (c : Nat) : SetTable.Probe := nth t.mask (runAt t.mask (SetTable.bits h % (t.mask + 1)) (SetTable.bits h)) c
theorem probe_dummy (m : Nat) : ∀ (n : Nat) (p : SetTable.Probe), p.dummy = none → (nth m p n).dummy = none
  | 0, _, h => h
  | n + 1, p, h => probe_dummy m n (adv m p) (by unfold adv; split <;> exact h)
theorem seek (R : HoldT P w s.heap a L es ep t) (hL : ∀ p ∈ L, ∃ b, p.2 = .ref b ∧ LotAt P w s.heap p.1 b) {x : Addr} {k : Lot} (hx : LotAt P w s.heap k x) (hu : A.units < cLine) {N : Nat} (nf : N < 10 * SetTable.turns t.mask)
    (nE : wayTo t (lotH P w k) N ∉ t.place.toList) (nB : ∀ c, c < N → wayTo t (lotH P w k) c ∈ t.place.toList) {Q : SetFound → Shared → Prop} (yes : k ∈ L.map (·.1) → Q (.there none) s) (no : k ∉ L.map (·.1) → Q (.free (wayTo t (lotH P w k) N) false) s) :
    ∀ (f c : Nat) (from_ : Option SetTable.Probe), from_.getD (t.probeStart (lotH P w k)) = probeAt t (lotH P w k) c → c ≤ N → N - c < f →
      (∀ (i : Nat) p, L[i]? = some p → p.1 = k → ∃ d, c ≤ d ∧ d < N ∧ t.place.toList[i]? = some (wayTo t (lotH P w k) d)) → wpAny (model P w) A (setSearchFrom a (.ref x) (lotH P w k) true f from_) Q E s
  | 0, c, _, _, _, hf, _ => absurd hf (Nat.not_lt_zero _)
  | f + 1, c, from_, hst, hc, hf, ahead => by
    obtain ⟨o, o1, o2, o3⟩ := R.obj
    have odd : ¬ t.gaveWay = true := by
      unfold SetTable.gaveWay
      rw [mask_odd R.tab.mok]
      decide
    rw [setSearchFrom_succ]
    refine wpAny_bind (wpAny_setState_of o1 o3 R.fits ?_)
    dsimp only
    refine wp_if_neg odd ?_
    try refine wpAny_bind (wpAny_pure ?_)
    have sum : ∀ q, nth t.mask (probeAt t (lotH P w k) c) q = probeAt t (lotH P w k) (c + q) := fun q => (nth_add t.mask c _ q).symm
    have sumJ : ∀ q, (nth t.mask (probeAt t (lotH P w k) c) q).j = wayTo t (lotH P w k) (c + q) := fun q => congrArg SetTable.Probe.j (sum q)
    have told := go_spec t R.tab.ris R.tab.dm (fun i => (es[i]?.map (·.1)).getD 0) (lotH P w k) (10 * SetTable.turns t.mask) (N - c) _ (probe_dummy t.mask c _ rfl) (by omega) (fun q hq => by rw [sumJ]; exact nB (c + q) (by omega))
      (by rw [sumJ, show c + (N - c) = N by omega]; exact nE)
    have hOf : ∀ (i : Nat) p, L[i]? = some p → (fun i => (es[i]?.map (·.1)).getD 0) i = lotH P w p.1 := fun i p hp => by
      show (es[i]?.map (·.1)).getD 0 = _
      rw [R.row hp]
      rfl
    rcases told with ⟨q, i, hq, hi, _, first, found⟩ | ⟨first, found⟩
    · have met : t.probe (fun i => (es[i]?.map (·.1)).getD 0) (lotH P w k) (from_.getD (t.probeStart (lotH P w k))) = some (.candidate (wayTo t (lotH P w k) (c + q)) i (probeAt t (lotH P w k) (c + (q + 1)))) := by
        rw [hst, ← sumJ, ← sum]
        exact found
      rw [met]
      dsimp only
      rw [sumJ] at hi
      have iL : i < L.length := by
        have z1 : i < t.place.toList.length := (List.getElem?_eq_some_iff.mp hi).1
        have z2 := R.tab.sz
        rw [List.length_map] at z2
        rw [Array.length_toList] at z1
        omega
      have hp : L[i]? = some L[i] := List.getElem?_eq_getElem iL
      generalize L[i] = p at hp
      have pm : p ∈ L := List.mem_of_getElem? hp
      obtain ⟨b, eb, hb⟩ := hL p pm
      have rest : wpAny (model P w) A (searchRest a (.ref x) (lotH P w k) true f es t (wayTo t (lotH P w k) (c + q)) i (probeAt t (lotH P w k) (c + (q + 1)))) Q E s := by
        unfold searchRest
        rw [R.row hp, eb]
        dsimp only
        refine wpAny_bind (wpAny_holding (wpAny_eqBool_tuple hu hb hx (wpAny_bind (wpAny_setState_of o1 o3 R.fits ?_))))
        dsimp only
        by_cases same : p.1 = k
        · exact wp_if_pos (by simp [same]) (wpAny_pure (yes (List.mem_map.mpr ⟨p, pm, same⟩)))
        · refine wp_if_neg (by simp [same]) ?_
          try refine wpAny_bind (wpAny_pure ?_)
          rw [sameMem]
          dsimp only
          have live : t.slot (wayTo t (lotH P w k) (c + q)) = .live i := slot_live R.tab.ris hi
          simp only [if_true, live, R.row hp, eb]
          refine wpAny_bind (wpAny_isSame_ref_self (wpAny_bind (wpAny_pure ?_)))
          simp only [if_true]
          refine wp_if_neg (by simp [same]) ?_
          refine seek R hL hx hu nf nE nB yes no f (c + (q + 1)) _ rfl (by omega) (by omega) fun i0 p0 h0 e0 => ?_
          obtain ⟨d, d1, d2, d3⟩ := ahead i0 p0 h0 e0
          refine ⟨d, ?_, d2, d3⟩
          rcases Nat.lt_trichotomy d (c + q) with z | z | z
          · refine (first (d - c) i0 (by omega) (by rw [sumJ, show c + (d - c) = d by omega]; exact d3) ?_).elim
            exact (hOf i0 p0 h0).trans (congrArg (lotH P w) e0)
          · rw [z] at d3
            have live0 := slot_live R.tab.ris d3
            rw [live] at live0
            injection live0 with ei
            rw [← ei, hp] at h0
            exact (same ((congrArg Prod.fst (Option.some.inj h0)).trans e0)).elim
          · omega
      by_cases lq : t.led = true
      · refine wp_if_neg (by simp [lq]) ?_
        try refine wpAny_bind (wpAny_pure ?_)
        exact rest
      · refine wp_if_pos (by simp [lq]) (wpAny_bind (lots_unseen hx (fun y hy => ?_) ?_))
        · obtain ⟨e, he, rfl⟩ := List.mem_map.mp hy
          have he1 : e ∈ es ∧ e.1 = lotH P w k := by simpa using he
          have he2 : e ∈ es.toList := by simpa using he1.1
          rw [R.rows] at he2
          obtain ⟨p2, m2, rfl⟩ := List.mem_map.mp he2
          obtain ⟨b2, eb2, hb2⟩ := hL p2 m2
          exact ⟨p2.1, b2, eb2, hb2⟩
        · refine wp_if_neg (by decide) ?_
          try refine wpAny_bind (wpAny_pure ?_)
          exact rest
    · have met : t.probe (fun i => (es[i]?.map (·.1)).getD 0) (lotH P w k) (from_.getD (t.probeStart (lotH P w k))) = some (.empty (wayTo t (lotH P w k) N) none) := by
        have e2 : wayTo t (lotH P w k) N = (nth t.mask (probeAt t (lotH P w k) c) (N - c)).j := by rw [sumJ, show c + (N - c) = N by omega]
        rw [hst, e2]
        exact found
      rw [met]
      dsimp only
      refine wpAny_pure (no fun hm => ?_)
      obtain ⟨p0, m0, e0⟩ := List.mem_map.mp hm
      obtain ⟨i0, l0, g0⟩ := List.getElem_of_mem m0
      have h0 : L[i0]? = some p0 := by rw [List.getElem?_eq_getElem l0, g0]
      obtain ⟨d, d1, d2, d3⟩ := ahead i0 p0 h0 e0
      exact first (d - c) i0 (by omega) (by rw [sumJ, show c + (d - c) = d by omega]; exact d3) ((hOf i0 p0 h0).trans (congrArg (lotH P w) e0))
/-- as adding asks for it -/
theorem seek_add (R : HoldT P w s.heap a L es ep t) (hL : ∀ p ∈ L, ∃ b, p.2 = .ref b ∧ LotAt P w s.heap p.1 b) {x : Addr} {k : Lot} (hx : LotAt P w s.heap k x) (hu : A.units < cLine) {Q : SetFound → Shared → Prop} (yes : k ∈ L.map (·.1) → Q (.there none) s)
    (no : ∀ N, k ∉ L.map (·.1) → wayTo t (lotH P w k) N ∉ t.place.toList → (∀ c, c < N → wayTo t (lotH P w k) c ∈ t.place.toList) → Q (.free (wayTo t (lotH P w k) N) false) s) : wpAny (model P w) A (setSearch a (.ref x) (lotH P w k) true) Q E s := by
  have rm := R.room
  obtain ⟨N, nf, nE, nB⟩ := R.tab.first (by rw [List.length_map]; omega) (lotH P w k)
  have big : N < 100000 := by
    have : 10 * SetTable.turns t.mask ≤ 1420 := by
      unfold SetTable.turns
      rcases R.tab.mok with e | e | e <;> omega
    omega
  unfold setSearch
  refine seek R hL hx hu nf nE nB yes (fun z => no N z nE nB) 100000 0 none rfl (Nat.zero_le _) (by omega) fun i p hp hk => ?_
  have hi : (L.map fun p => lotH P w p.1)[i]? = some (lotH P w k) := by rw [List.getElem?_map, hp, ← hk]; rfl
  have il : i < t.place.toList.length := by
    have z1 : i < L.length := (List.getElem?_eq_some_iff.mp hp).1
    have z2 := R.tab.sz
    rw [List.length_map] at z2
    rw [Array.length_toList]
    omega
  obtain ⟨d, hd, e⟩ := R.tab.before nE hi (List.getElem?_eq_getElem il)
  exact ⟨d, Nat.zero_le _, hd, by rw [List.getElem?_eq_getElem il]; exact congrArg some e.symm⟩

/-! ### laid anew; added -/
theorem range_pick {α : Type} (L : List α) : (List.range L.length).filterMap (fun i => L[i]?) = L := by
  have key : ∀ n, n ≤ L.length → (List.range n).filterMap (fun i => L[i]?) = L.take n := by
    intro n
    induction n with
    | zero => intro _; rfl
    | succ n ih =>
      intro hn
      have hlt : n < L.length := hn
      rw [List.range_succ, List.filterMap_append, ih (Nat.le_of_lt hlt), List.take_succ, List.getElem?_eq_getElem hlt]
      congr 1
      simp [List.getElem?_eq_getElem hlt]
  rw [key L.length (Nat.le_refl _), List.take_length]
theorem order_pick {L : List (Lot × Value)} {es : Array (Int × Value)} {order : Array Nat} (hr : es.toList = L.map (rowT P w)) (hp : order.toList.Perm (List.range L.length)) :
    ∃ L2 : List (Lot × Value), (order.filterMap (es[·]?)).toList = L2.map (rowT P w) ∧ L2.Perm L ∧ (L2.map fun p => lotH P w p.1) = order.toList.map fun i => (es.map (·.1)).getD i 0 := by
  have ent : ∀ i (h : i < L.length), es[i]? = some (rowT P w L[i]) := fun i h => by
    rw [← Array.getElem?_toList, hr, List.getElem?_map, List.getElem?_eq_getElem h]
    rfl
  have key : ∀ l : List Nat, (∀ i ∈ l, i < L.length) → l.filterMap (fun i => es[i]?) = (l.filterMap fun i => L[i]?).map (rowT P w) ∧ ((l.filterMap fun i => L[i]?).map fun p => lotH P w p.1) = l.map fun i => (es.map (·.1)).getD i 0 := by
    intro l
    induction l with
    | nil => intro _; exact ⟨rfl, rfl⟩
    | cons i l ih =>
      intro hl
      have hi := hl i List.mem_cons_self
      obtain ⟨e1, e2⟩ := ih fun j hj => hl j (List.mem_cons_of_mem _ hj)
      rw [List.filterMap_cons_some (ent i hi), List.filterMap_cons_some (List.getElem?_eq_getElem hi), List.map_cons, List.map_cons, List.map_cons, e1, e2]
      refine ⟨rfl, ?_⟩
      congr 1
      have e5 : (es.map (·.1))[i]? = some (rowT P w L[i]).1 := by rw [Array.getElem?_map, ent i hi]; rfl
      rw [Array.getD_eq_getD_getElem?, e5]
      rfl
  obtain ⟨e1, e2⟩ := key order.toList fun i hi => List.mem_range.mp (hp.mem_iff.mp hi)
  refine ⟨order.toList.filterMap fun i => L[i]?, by first | (rw [Array.toList_filterMap]; exact e1) | simpa using e1, ?_, e2⟩
  have := hp.filterMap fun i => L[i]?
  rw [range_pick] at this
  exact this
theorem relayT {o : Obj} (ho : s.heap.get? a = some o) (hex : o.ExactSet) (hd : o.data = .set es ep t) (rows : es.toList = L.map (rowT P w)) (refs : ∀ p ∈ L, ∃ b, p.2 = .ref b) (psz : t.place.size = es.size) (hdm : t.dummies = #[]) (hfl : es.size ≤ t.mask)
    (nd : (L.map (·.1)).Nodup) (ld : w.params.followText "set-order" = true ∨ t.led = true) (few : L.length < 64) {wanted M : Nat} (hw : SetTable.sizeAbove wanted - 1 = M) (hM : MaskOk M) (hw2 : SetTable.sizeAbove wanted ≤ 128) (hn : L.length * 5 < M * 3) {Q : Unit → Shared → Prop}
    (hQ : ∀ h' L' es' ep' t', Heap.SameBut a s.heap h' → HoldT P w h' a L' es' ep' t' → L'.Perm L → Q () { s with heap := h' }) : wpAny (model P w) A (setRelay a wanted) Q E s := by
  have szL : es.size = L.length := by rw [← Array.length_toList, rows, List.length_map]
  have fits : t.fits es.size = true := by
    unfold SetTable.fits SetTable.fill
    rw [hdm, Bool.and_eq_true, beq_iff_eq, decide_eq_true_eq]
    show t.place.size = es.size ∧ t.place.size + 0 ≤ t.mask
    omega
  obtain ⟨t', order, e, hp, T, em, el, ep', ed⟩ := relaid_ok t (hs := es.map (·.1)) (wanted := wanted) hw hM (by rw [Array.size_map, szL]; omega)
  rw [Array.size_map, szL] at hp
  obtain ⟨L2, r1, r2, r3⟩ := order_pick rows hp
  rw [← r3] at T
  have sz2 : (order.filterMap (es[·]?)).size = es.size := by rw [← Array.length_toList, r1, List.length_map, r2.length_eq, szL]
  rw [setRelay_eq]
  refine wpAny_bind (wpAny_setState_of ho hd fits ?_)
  dsimp only
  refine wp_if_neg (by rw [sizeLine_eq]; omega) ?_
  try refine wpAny_bind (wpAny_pure ?_)
  rw [e]
  dsimp only
  refine wpAny_bind (wp_if_neg (by rw [sz2]; simp) ?_)
  try refine wpAny_bind (wpAny_pure ?_)
  refine wpAny_pure ?_
  dsimp only
  refine wpAny_storeSet_of ho hd ?_ (by rw [sz2, szL, sizeLine_eq]; omega)
  refine hQ _ L2 (order.filterMap (es[·]?)) (ep + 1) t' (Heap.SameBut.update ..) ⟨⟨_, store_at ho hd, ⟨hex.1, hex.2.1, hex.2.2⟩, rfl⟩, r1, fun p hp => refs p (r2.mem_iff.mp hp), T, (r2.map (·.1)).nodup_iff.mpr nd, by rw [el]; exact ld, ?_, by rw [r2.length_eq]; exact few⟩ r2
  rw [r2.length_eq, em]
  exact hn
theorem addT (R : HoldT P w s.heap a L es ep t) (hL : ∀ p ∈ L, ∃ b, p.2 = .ref b ∧ LotAt P w s.heap p.1 b) {x : Addr} {k : Lot} (hx : LotAt P w s.heap k x) (hu : A.units < cLine) (few : L.length + 1 < 64) {Q : Bool → Shared → Prop}
    (hQ : ∀ b h' L' es' ep' t', Heap.SameBut a s.heap h' → HoldT P w h' a L' es' ep' t' → (k ∈ L.map (·.1) → L' = L) → (k ∉ L.map (·.1) → L'.Perm ((k, .ref x) :: L)) → Q b { s with heap := h' }) : wpAny (model P w) A (setAddHashed a (.ref x) (lotH P w k)) Q E s := by
  obtain ⟨o, o1, o2, o3⟩ := R.obj
  have szL := R.size
  have rm := R.room
  unfold setAddHashed
  refine wpAny_holding ?_
  rw [show (100000 : Nat) = 99999 + 1 from rfl, setAddHashedIn_succ]
  refine wpAny_bind (wpAny_setState_of o1 o3 R.fits ?_)
  dsimp only
  refine wp_if_neg (by simp [byScan, Value.scannable]) ?_
  try refine wpAny_bind (wpAny_pure ?_)
  refine wpAny_bind (seek_add R hL hx hu (fun hm => ?_) fun N hm nE nB => ?_)
  · dsimp only
    exact wpAny_pure (hQ false s.heap L es ep t (Heap.SameBut.refl a s.heap) R (fun _ => rfl) fun z => absurd hm z)
  · dsimp only
    refine wpAny_bind (wpAny_setState_of o1 o3 R.fits ?_)
    dsimp only
    obtain ⟨q1, q2, q3, q4, q5, q6, q7, q8, q9⟩ := R.tab.put nE nB
    generalize hz : t.put (way t.mask (lotH P w k) N) = z at q1 q3 q4 q5 q6 q7 q8 q9
    obtain ⟨t0, pos⟩ := z
    dsimp only at q1 q3 q4 q5 q6 q7 q8 q9 ⊢
    subst q1
    have main : ∀ t1 : SetTable, TabOk t1 ((L.map fun p => lotH P w p.1).take (SetTable.below t.place (way t.mask (lotH P w k) N)) ++ lotH P w k :: (L.map fun p => lotH P w p.1).drop (SetTable.below t.place (way t.mask (lotH P w k) N))) → t1.mask = t.mask → t1.led = t.led → t1.fill = (L.map fun p => lotH P w p.1).length + 1 →
        wpAny (model P w) A (do
          storeSet a (SetTable.insertAt es (SetTable.below t.place (way t.mask (lotH P w k) N)) (lotH P w k, Value.ref x)) t1
          if (!false && t1.tooFull) = true then do
            setRelay a (SetTable.grown (es.size + 1))
            pure true
          else pure true) Q E s := by
      clear q3 q4 q5 q6 q7 q8 q9 hz
      intro t1 q3 q4 q5 q9
      have rows1 : (SetTable.insertAt es (SetTable.below t.place (way t.mask (lotH P w k) N)) (lotH P w k, Value.ref x)).toList = (L.take (SetTable.below t.place (way t.mask (lotH P w k) N)) ++ (k, Value.ref x) :: L.drop (SetTable.below t.place (way t.mask (lotH P w k) N))).map (rowT P w) := by
        rw [SetTable.toList_insertAt, R.rows, List.map_append, List.map_cons, List.map_take, List.map_drop]
        rfl
      generalize SetTable.below t.place (way t.mask (lotH P w k) N) = pos at q2 q3 rows1 ⊢
      have pm : (L.take pos ++ (k, Value.ref x) :: L.drop pos).Perm ((k, Value.ref x) :: L) := by
        have h : (L.take pos ++ (k, Value.ref x) :: L.drop pos).Perm ((k, Value.ref x) :: (L.take pos ++ L.drop pos)) := List.perm_middle
        rw [List.take_append_drop] at h
        exact h
      have tab1 : TabOk t1 ((L.take pos ++ (k, Value.ref x) :: L.drop pos).map fun p => lotH P w p.1) := by
        rw [List.map_append, List.map_cons, List.map_take, List.map_drop]
        exact q3
      generalize SetTable.insertAt es pos (lotH P w k, Value.ref x) = es1 at rows1 ⊢
      generalize L.take pos ++ (k, Value.ref x) :: L.drop pos = L1 at pm tab1 rows1
      have len1 : L1.length = L.length + 1 := pm.length_eq
      have nd1 : (L1.map (·.1)).Nodup := (pm.map (·.1)).nodup_iff.mpr (List.nodup_cons.mpr ⟨hm, R.nd⟩)
      have sz1 : es1.size = L.length + 1 := by rw [← Array.length_toList, rows1, List.length_map, len1]
      have refs1 : ∀ p ∈ L1, ∃ b, p.2 = Value.ref b := fun p hp => by
        rcases List.mem_cons.mp (pm.mem_iff.mp hp) with e | hp
        · rw [e]; exact ⟨x, rfl⟩
        · exact R.refs p hp
      have ld1 : w.params.followText "set-order" = true ∨ t1.led = true := by rw [q5]; exact R.led
      refine wpAny_bind (wpAny_storeSet_of o1 o3 ?_ (by rw [sz1, sizeLine_eq]; omega))
      have sb : Heap.SameBut a s.heap (s.heap.update a (Obj.putSet es1 t1)) := Heap.SameBut.update ..
      have ho1 := store_at (es' := es1) (t' := t1) o1 o3
      generalize s.heap.update a (Obj.putSet es1 t1) = h1 at sb ho1 ⊢
      have fill1 : t1.fill = L.length + 1 := by rw [q9, List.length_map]
      by_cases full : t1.tooFull = true
      · have hfull : (L.length + 1) * 5 ≥ t1.mask * 3 := by
          have h := full
          unfold SetTable.tooFull at h
          rw [decide_eq_true_eq, fill1] at h
          exact h
        first
          | (refine wpAny_bind ?_; refine wp_if_pos (by simp [full]) ?_)
          | (refine wp_if_pos (by simp [full]) ?_; refine wpAny_bind ?_)
        rw [szL]
        have psz1 : t1.place.size = es1.size := by
          have h := tab1.sz
          rw [List.length_map, len1] at h
          rw [h, sz1]
        have which : (t.mask = 7 ∧ L.length = 4) ∨ (t.mask = 31 ∧ L.length = 18) := by
          rcases R.tab.mok with e | e | e
          · exact .inl ⟨e, by rw [q4, e] at hfull; rw [e] at rm; omega⟩
          · exact .inr ⟨e, by rw [q4, e] at hfull; rw [e] at rm; omega⟩
          · rw [q4, e] at hfull
            omega
        have go : ∀ M, SetTable.sizeAbove (SetTable.grown (L.length + 1)) - 1 = M → MaskOk M → SetTable.sizeAbove (SetTable.grown (L.length + 1)) ≤ 128 → (L.length + 1) * 5 < M * 3 →
            wpAny (model P w) A (setRelay a (SetTable.grown (L.length + 1))) (fun _ s' => wpAny (model P w) A (pure true) Q E s') E { s with heap := h1 } := fun M m1 m2 m3 m4 =>
          relayT (s := { s with heap := h1 }) ho1 ⟨o2.1, o2.2.1, o2.2.2⟩ rfl rows1 refs1 psz1 tab1.dm (by rw [sz1, q4]; rcases which with ⟨e, e2⟩ | ⟨e, e2⟩ <;> omega) nd1 ld1 (by rw [len1]; exact few) m1 m2 m3 (by rw [len1]; exact m4)
            fun h2 L2 es2 ep2 t2 sb2 R2 pm2 => wpAny_pure (hQ true h2 L2 es2 ep2 t2 (sb.trans sb2) R2 (fun z => absurd z hm) fun _ => pm2.trans pm)
        rcases which with ⟨_, e2⟩ | ⟨_, e2⟩
        · exact go 31 (by rw [e2, size_20]) (.inr (.inl rfl)) (by rw [e2, size_20]; decide) (by omega)
        · exact go 127 (by rw [e2, size_76]) (.inr (.inr rfl)) (by rw [e2, size_76]; decide) (by omega)
      · first
          | refine wp_if_neg (by simp [full]) ?_
          | (refine wpAny_bind ?_; refine wp_if_neg (by simp [full]) ?_; refine wpAny_pure ?_)
        refine wpAny_pure (hQ true h1 L1 es1 (ep + 1) t1 sb ⟨⟨_, ho1, ⟨o2.1, o2.2.1, o2.2.2⟩, rfl⟩, rows1, refs1, tab1, nd1, ld1, ?_, by rw [len1]; exact few⟩ (fun z => absurd z hm) fun _ => pm)
        have h := full
        unfold SetTable.tooFull at h
        rw [decide_eq_true_eq, fill1] at h
        rw [len1]
        omega
    have t0' : ∀ c : Bool, TabOk (if c = true then t0 else { t0 with plain := false }) ((L.map fun p => lotH P w p.1).take (SetTable.below t.place (way t.mask (lotH P w k) N)) ++ lotH P w k :: (L.map fun p => lotH P w p.1).drop (SetTable.below t.place (way t.mask (lotH P w k) N))) ∧
        (if c = true then t0 else { t0 with plain := false }).mask = t.mask ∧ (if c = true then t0 else { t0 with plain := false }).led = t.led ∧ (if c = true then t0 else { t0 with plain := false }).fill = (L.map fun p => lotH P w p.1).length + 1 := fun c => by
      cases c with
      | true => exact ⟨q3, q4, q5, q9⟩
      | false => exact ⟨⟨q3.ris, q3.dm, q3.sz, q3.mok, q3.bd, q3.reach⟩, q4, q5, q9⟩
    by_cases pl : t0.plain = true
    · refine wp_if_pos pl (wpAny_bind (lot_plain hx fun c => ?_))
      obtain ⟨a1, a2, a3, a4⟩ := t0' c
      exact main _ a1 a2 a3 a4
    · refine wp_if_neg pl (wpAny_bind (wpAny_pure ?_))
      obtain ⟨a1, a2, a3, a4⟩ := t0' true
      exact main _ a1 a2 a3 a4
end
/-- flat tuples of numbers and texts -/
def kitT (P : Program) (w : World) : Kit P w where
  K := Lot
  is := fun h k v => ∃ b, v = .ref b ∧ LotAt P w h k b
  keep := fun hk h => by
    obtain ⟨b, e, o, its, n, ho, r⟩ := h
    exact ⟨b, e, o, its, n, hk b o ho, r⟩
  apart := fun h ho hd hs => by
    obtain ⟨b, e, o', its, n, ho', hc, hd', hi⟩ := h
    refine ⟨b, e, o', its, n, (hs.2 b fun z => ?_).trans ho', hc, hd', hi⟩
    rw [z, ho] at ho'
    rw [← Option.some.inj ho', hd] at hd'
    cases hd'
  hold := fun h a L => ∃ es ep t, HoldT P w h a L es ep t
  held := fun h k => by
    obtain ⟨es, ep, t, R⟩ := h
    obtain ⟨o, ho, r⟩ := R.obj
    exact ⟨es, ep, t, ⟨o, k o ho, r⟩, R.rows, R.refs, R.tab, R.nd, R.led, R.room, R.few⟩
  most := 62
  fresh := fun {h a} e => ⟨#[], 0, _, ⟨_, e, ⟨rfl, rfl, rfl⟩, rfl⟩, rfl, fun p hp => (by cases hp), ⟨List.Pairwise.nil, rfl, rfl, .inl rfl, fun x hx => (by cases hx), fun i h j hi => (by simp at hi)⟩, List.nodup_nil, led0, (by show 0 * 5 < 7 * 3; decide), (by decide)⟩
  seen := fun h => by
    obtain ⟨es, ep, t, R⟩ := h
    obtain ⟨o, o1, o2, o3⟩ := R.obj
    have := R.size
    have := R.few
    exact ⟨o, es, ep, t, o1, o2.1, o3, by rw [R.rows, List.map_map]; rfl, R.fits, by unfold scanBound; omega, R.tab.ris, R.led⟩
  nodup := fun h => by
    obtain ⟨es, ep, t, R⟩ := h
    exact R.nd
  add := fun {A E s a L k v Q} hu R hL hk hm hQ => by
    obtain ⟨es, ep, t, R⟩ := R
    obtain ⟨x, rfl, hx⟩ := hk
    unfold setAdd
    refine wpAny_holding (wpAny_bind (wpAny_pyHash_tuple (by omega) hx ?_))
    exact addT (s := { s with toks := s.toks + (k.length + 1) }) R hL hx (by omega) (by omega) fun b h' L' es' ep' t' sb R' c1 c2 => hQ b h' L' _ (Nat.le_add_right _ _) sb ⟨es', ep', t', R'⟩ c1 c2
end DL
/-! DLSetR: sorted(set(xs)) of data. -/
namespace DL
open PySem PySem.Spec PySem.Calls PyProof.Rows L2 PySem.W

/-! ### one sorted list -/
theorem sorted_one {α : Type} {le : α → α → Bool} : ∀ {xs ys : List α}, xs.Perm ys → (∀ a b, a ∈ xs → b ∈ xs → le a b = true → le b a = true → a = b) → xs.Pairwise (fun a b => le a b = true) → ys.Pairwise (fun a b => le a b = true) → xs = ys
  | [], ys, p, _, _, _ => (p.nil_eq)
  | x :: xs, [], p, _, _, _ => by
    have := p.length_eq
    simp at this
  | x :: xs, y :: ys, p, anti, s1, s2 => by
    have hx : x ∈ y :: ys := p.mem_iff.mp List.mem_cons_self
    have hy : y ∈ x :: xs := p.mem_iff.mpr List.mem_cons_self
    have e : x = y := by
      rcases List.mem_cons.mp hx with e | hx
      · exact e
      · rcases List.mem_cons.mp hy with e | hy
        · exact e.symm
        · exact anti x y List.mem_cons_self (List.mem_cons_of_mem _ hy) ((List.pairwise_cons.mp s1).1 y hy) ((List.pairwise_cons.mp s2).1 x hx)
    subst e
    rw [sorted_one (List.perm_cons x |>.mp p) (fun a b ha hb => anti a b (List.mem_cons_of_mem _ ha) (List.mem_cons_of_mem _ hb)) (List.pairwise_cons.mp s1).2 (List.pairwise_cons.mp s2).2]
theorem dataLe_trans {β : Type} (k : β → PyData) (a b c : β) (h1 : dataLe false k a b = true) (h2 : dataLe false k b c = true) : dataLe false k a c = true := by
  have h1 : (!dataLt (k b) (k a)) = true := h1
  have h2 : (!dataLt (k c) (k b)) = true := h2
  show (!dataLt (k c) (k a)) = true
  cases q : dataLt (k c) (k a) with
  | false => rfl
  | true =>
    rcases (listOrd itemOrd).negTrans (keyToks (k c)) (keyToks (k b)) (keyToks (k a)) q with z | z
    · have z : dataLt (k c) (k b) = true := z
      rw [z] at h2
      cases h2
    · have z : dataLt (k b) (k a) = true := z
      rw [z] at h1
      cases h1
theorem dataLe_total {β : Type} (k : β → PyData) (a b : β) : (dataLe false k a b || dataLe false k b a) = true := by
  show (!dataLt (k b) (k a) || !dataLt (k a) (k b)) = true
  cases q : dataLt (k b) (k a) with
  | false => rfl
  | true =>
    cases q2 : dataLt (k a) (k b) with
    | false => rfl
    | true =>
      have := (listOrd itemOrd).trans _ _ _ (show (listOrd itemOrd).blt (keyToks (k b)) (keyToks (k a)) = true from q) (show (listOrd itemOrd).blt (keyToks (k a)) (keyToks (k b)) = true from q2)
      rw [(listOrd itemOrd).irrefl] at this
      cases this
theorem dataLe_anti {β : Type} (k : β → PyData) (a b : β) (h1 : dataLe false k a b = true) (h2 : dataLe false k b a = true) : keyToks (k a) = keyToks (k b) := by
  have h1 : (!dataLt (k b) (k a)) = true := h1
  have h2 : (!dataLt (k a) (k b)) = true := h2
  exact (listOrd itemOrd).total _ _ (show dataLt (k a) (k b) = false by simpa using h2) (show dataLt (k b) (k a) = false by simpa using h1)
theorem sort_perm {β : Type} {k : β → PyData} {xs ys : List β} (p : xs.Perm ys) (inj : ∀ a b, a ∈ xs → b ∈ xs → keyToks (k a) = keyToks (k b) → a = b) : xs.mergeSort (dataLe false k) = ys.mergeSort (dataLe false k) := by
  refine sorted_one (le := dataLe false k) ((List.mergeSort_perm xs _).trans (p.trans (List.mergeSort_perm ys _).symm)) (fun a b ha hb h1 h2 => inj a b (List.mem_mergeSort.mp ha) (List.mem_mergeSort.mp hb) (dataLe_anti k a b h1 h2)) ?_ ?_
  · exact List.pairwise_mergeSort (fun a b c => dataLe_trans k a b c) (fun a b => dataLe_total k a b) xs
  · exact List.pairwise_mergeSort (fun a b c => dataLe_trans k a b c) (fun a b => dataLe_total k a b) ys

/-! ### keys -/
def keyD : D → Option Key
  | .int i => some (.inl i)
  | .str x => some (.inr x)
  | _ => none
def keysD : List D → Option (List Key)
  | [] => some []
  | d :: ds => match keyD d, keysD ds with
    | some k, some ks => some (k :: ks)
    | _, _ => none
def lotD : D → Option Lot
  | .tup ds => keysD ds
  | _ => none
theorem keyD_inj {a b : D} {k : Key} (ha : keyD a = some k) (hb : keyD b = some k) : a = b := by
  cases a <;> cases ha <;> cases b <;> cases hb <;> rfl
theorem keysD_cons {d : D} {ds : List D} {ks : List Key} (h : keysD (d :: ds) = some ks) : ∃ k r, ks = k :: r ∧ keyD d = some k ∧ keysD ds = some r := by
  unfold keysD at h
  cases q1 : keyD d with
  | none => rw [q1] at h; cases h
  | some k =>
    cases q2 : keysD ds with
    | none => rw [q1, q2] at h; cases h
    | some r =>
      rw [q1, q2] at h
      exact ⟨k, r, (Option.some.inj h).symm, rfl, rfl⟩
theorem keysD_inj : ∀ {a b : List D} {k : List Key}, keysD a = some k → keysD b = some k → a = b
  | [], [], _, _, _ => rfl
  | [], _ :: _, _, ha, hb => by
    cases ha
    obtain ⟨_, _, e, _⟩ := keysD_cons hb
    cases e
  | _ :: _, [], _, ha, hb => by
    cases hb
    obtain ⟨_, _, e, _⟩ := keysD_cons ha
    cases e
  | a :: as, b :: bs, _, ha, hb => by
    obtain ⟨k, r, rfl, h1, h2⟩ := keysD_cons ha
    obtain ⟨k', r', e, h3, h4⟩ := keysD_cons hb
    injection e with e1 e2
    subst e1 e2
    rw [keyD_inj h1 h3, keysD_inj h2 h4]
theorem lotD_inj {a b : D} {k : Lot} (ha : lotD a = some k) (hb : lotD b = some k) : a = b := by
  cases a <;> first | (cases ha; done) | skip
  cases b <;> first | (cases hb; done) | skip
  rw [keysD_inj ha hb]
/-- equal signs, equal data -/
theorem key_toks {a b : D} {k k' : Key} (ha : keyD a = some k) (hb : keyD b = some k') (l m : List (Int ⊕ List Nat)) (h : keyToks a.py ++ l = keyToks b.py ++ m) : a = b ∧ l = m := by
  cases a <;> cases ha <;> cases b <;> cases hb
  all_goals simp only [D.py, keyToks, List.singleton_append, List.cons.injEq, Sum.inl.injEq, Sum.inr.injEq, reduceCtorEq, false_and] at h
  · exact ⟨by rw [h.1], h.2⟩
  · rename_i x y
    refine ⟨?_, h.2⟩
    have e : x = y := by
      cases x with
      | mk cx =>
        cases y with
        | mk cy =>
          have := h.1
          congr 1
          exact Array.toList_inj.mp this
    rw [e]
theorem keys_toks : ∀ {a b : List D} {k k' : List Key}, keysD a = some k → keysD b = some k' → keyToksAll (pyL a) = keyToksAll (pyL b) → a = b
  | [], [], _, _, _, _, _ => rfl
  | [], b :: bs, _, _, _, _, h => by
    simp [pyL, keyToksAll] at h
  | a :: as, [], _, _, _, _, h => by
    simp [pyL, keyToksAll] at h
  | a :: as, b :: bs, _, _, ha, hb, h => by
    obtain ⟨k, r, rfl, h1, h2⟩ := keysD_cons ha
    obtain ⟨k', r', rfl, h3, h4⟩ := keysD_cons hb
    simp only [pyL, keyToksAll, List.cons.injEq, true_and] at h
    obtain ⟨e1, e2⟩ := key_toks h1 h3 _ _ h
    rw [e1, keys_toks h2 h4 e2]

/-! ### the rules -/
theorem each_perm {α β : Type} {R : α → β → Prop} {xs xs' : List α} (p : xs'.Perm xs) : ∀ {ys : List β}, EachIs R xs ys → ∃ ys' : List β, ys'.Perm ys ∧ EachIs R xs' ys' := by
  induction p with
  | nil => intro ys e; exact ⟨ys, .refl _, e⟩
  | cons x _ ih =>
    intro ys e
    cases e with
    | cons r t =>
      obtain ⟨ys', a, b⟩ := ih t
      exact ⟨_ :: ys', a.cons _, .cons r b⟩
  | swap x y l =>
    intro ys e
    cases e with
    | cons r t =>
      cases t with
      | cons r2 t => exact ⟨_, .swap _ _ _, .cons r2 (.cons r t)⟩
  | trans _ _ ih1 ih2 =>
    intro ys e
    obtain ⟨y1, a1, b1⟩ := ih2 e
    obtain ⟨y2, a2, b2⟩ := ih1 b1
    exact ⟨y2, a2.trans a1, b2⟩
theorem each_and {α β : Type} {R S : α → β → Prop} : ∀ {xs : List α} {ys : List β}, EachIs R xs ys → EachIs S xs ys → EachIs (fun x y => R x y ∧ S x y) xs ys
  | _, _, .nil, .nil => .nil
  | _, _, .cons r t, .cons r' t' => .cons ⟨r, r'⟩ (each_and t t')
section
variable {P : Program} {w : World}
/-- the set at a: its members are the data and values ps -/
def SetOD (T : Kit P w) (rd : D → Option T.K) (a : Addr) (ps : List (D × V)) : HO := .ext fun h => ∃ L, T.hold h a L ∧ EachIs (fun (q : T.K × Value) (p : D × V) => RelV p.2 q.2 ∧ rd p.1 = some q.1) L ps
theorem setOD_new (T : Kit P w) {rd : D → Option T.K} {H : Hp} {h : Heap} {a : Addr} {ps : List (D × V)} {L : List (T.K × Value)} (x : T.hold h a L) (e : EachIs (fun (q : T.K × Value) (p : D × V) => RelV p.2 q.2 ∧ rd p.1 = some q.1) L ps) : ObjOk P w H h a (SetOD T rd a ps) := by
  obtain ⟨o, es, ep, t, ho, _⟩ := T.seen x
  refine ⟨⟨L, x, e⟩, ⟨o, ho⟩, fun h1 h2 z k => ?_⟩
  obtain ⟨L', x', e'⟩ := z
  exact ⟨L', T.held x' k, e'⟩
/-- a datum at a value is a member for T -/
def KeyAt (X : Cx) (T : Kit X.prog X.w) (rd : D → Option T.K) (H : Hp) (p : D × V) : Prop := ∃ k, rd p.1 = some k ∧ ∀ (pins : List (Addr × Obj)) (σ : L2.St) (s : Shared) (u : Value), Inv X pins σ H s → RelV p.2 u → T.is s.heap k u
def rSetK (X : Cx) (T : Kit X.prog X.w) (rd : D → Option T.K) : List V → Hp → VK → Prop := fun xs H Q => ∃ (l : Addr) (ps : List (D × V)), xs = [.ref l] ∧ (SqL X.K H l (ps.map (·.2)) ∨ SqT X.K H l (ps.map (·.2))) ∧ (∀ p ∈ ps, KeyAt X T rd H p) ∧ ps.length ≤ T.most ∧
  ∀ a ps', H a = none → (∀ p ∈ ps', p ∈ ps) → (ps'.map fun p => rd p.1).Nodup → (∀ p ∈ ps, ∃ q ∈ ps', rd q.1 = rd p.1) → Q (.ref a) (upd H a (SetOD T rd a ps'))
theorem each_keys {X : Cx} {T : Kit X.prog X.w} {rd : D → Option T.K} {H : Hp} {pins : List (Addr × Obj)} {σ : L2.St} {s : Shared} (I : Inv X pins σ H s) : ∀ {ps : List (D × V)} {us : List Value}, Vals (ps.map (·.2)) us → (∀ p ∈ ps, KeyAt X T rd H p) →
    ∃ ks : List (T.K × Value), us = ks.map (·.2) ∧ (∀ q ∈ ks, T.is s.heap q.1 q.2) ∧ EachIs (fun (q : T.K × Value) (p : D × V) => RelV p.2 q.2 ∧ rd p.1 = some q.1) ks ps
  | [], _, h, _ => by
    cases h
    exact ⟨[], rfl, fun q hq => (by cases hq), .nil⟩
  | p :: ps, _, h, hk => by
    cases h with
    | @cons _ u _ us r t =>
      obtain ⟨ks, e1, e2, e3⟩ := each_keys I t fun q hq => hk q (List.mem_cons_of_mem _ hq)
      obtain ⟨k, h1, h2⟩ := hk p List.mem_cons_self
      refine ⟨(k, u) :: ks, by rw [List.map_cons, e1], fun q hq => ?_, .cons ⟨r, h1⟩ e3⟩
      rcases List.mem_cons.mp hq with rfl | hq
      · exact h2 pins σ s u I r
      · exact e2 q hq
theorem each_sub {α β : Type} {R : α → β → Prop} {xs : List α} {ys : List β} (e : EachIs R xs ys) : ∀ {zs : List α}, (∀ z ∈ zs, z ∈ xs) → ∃ ws : List β, (∀ w ∈ ws, w ∈ ys) ∧ EachIs R zs ws
  | [], _ => ⟨[], fun _ h => (by cases h), .nil⟩
  | z :: zs, h => by
    obtain ⟨ws, a, b⟩ := each_sub e fun y hy => h y (List.mem_cons_of_mem _ hy)
    have find : ∀ {xs : List α} {ys : List β}, EachIs R xs ys → z ∈ xs → ∃ w ∈ ys, R z w := by
      intro xs ys e
      induction e with
      | nil => intro h; cases h
      | cons r t ih =>
        intro h
        rcases List.mem_cons.mp h with rfl | h
        · exact ⟨_, List.mem_cons_self, r⟩
        · obtain ⟨w, hw, r⟩ := ih h
          exact ⟨w, List.mem_cons_of_mem _ hw, r⟩
    obtain ⟨w, hw, r⟩ := find e (h z List.mem_cons_self)
    refine ⟨w :: ws, fun y hy => ?_, .cons r b⟩
    rcases List.mem_cons.mp hy with rfl | hy
    · exact hw
    · exact a y hy
theorem each_rd {K : Type} {rd : D → Option K} : ∀ {L : List (K × Value)} {ps : List (D × V)}, EachIs (fun (q : K × Value) (p : D × V) => RelV p.2 q.2 ∧ rd p.1 = some q.1) L ps → (ps.map fun p => rd p.1) = L.map fun q => some q.1
  | _, _, .nil => rfl
  | _, _, .cons r t => by rw [List.map_cons, List.map_cons, each_rd t, r.2]
theorem some_nodup {α : Type} : ∀ {l : List α}, l.Nodup → (l.map some).Nodup
  | [], _ => List.nodup_nil
  | x :: l, h => by
    obtain ⟨h1, h2⟩ := List.nodup_cons.mp h
    refine List.nodup_cons.mpr ⟨fun z => ?_, some_nodup h2⟩
    obtain ⟨y, hy, e⟩ := List.mem_map.mp z
    rw [Option.some.inj e] at hy
    exact h1 hy
theorem cr_setK {X : Cx} (T : Kit X.prog X.w) {rd : D → Option T.K} (hc : X.calm = true) (hu : X.A.units + 24 < cLine) : CallR X (.type "set") (rSetK X T rd) := by
  intro pins s σ H xs us Q I r h
  obtain ⟨l, ps, rfl, hs, hk, hm, q⟩ := h
  rw [Vals.ref1 r]
  have go : ∀ its : List Value, Vals (ps.map (·.2)) its → (s.heap.IsList l its.toArray ∨ s.heap.IsTuple l its.toArray) → wpAny (model X.prog X.w) X.A (call (.type "set") [.ref l]) (EP X pins σ Q) X.xe s := by
    intro its rv hl
    obtain ⟨ks, e1, e2, e3⟩ := each_keys I rv hk
    have lk : ks.length = ps.length := e3.length
    refine set_call T ks (I.ok.hd hc) hl (by simpa using e1) e2 (by rw [lk]; exact hm) hu fun h' tk L hL g kp => ?_
    rw [lk] at g
    have sub : ∀ q ∈ L, q ∈ ks := fun q hq => List.mem_of_mem_take (g.sub q hq)
    obtain ⟨ps', a1, a2⟩ := each_sub e3 sub
    have hn : H s.heap.objs.size = none := I.hok.fresh (Nat.le_refl _)
    refine ⟨.ref s.heap.objs.size, upd H s.heap.objs.size (SetOD T rd s.heap.objs.size ps'), I.laid (t' := tk) kp (Nat.le_refl _) (setOD_new T hL a2), rfl, q _ ps' hn a1 ?_ fun p hp => ?_⟩
    · rw [each_rd a2]
      have := T.nodup hL
      have e : (L.map fun q => some q.1) = (L.map (·.1)).map some := by rw [List.map_map]; rfl
      rw [e]
      exact some_nodup this
    · have hp' : rd p.1 ∈ ps.map fun p => rd p.1 := List.mem_map.mpr ⟨p, hp, rfl⟩
      rw [each_rd e3] at hp'
      obtain ⟨k, hk', ek⟩ := List.mem_map.mp hp'
      have : k.1 ∈ L.map (·.1) := g.all k (by rw [← lk, List.take_length]; exact hk')
      obtain ⟨k2, hk2, ek2⟩ := List.mem_map.mp this
      have : some k2.1 ∈ L.map fun q => some q.1 := List.mem_map.mpr ⟨k2, hk2, rfl⟩
      rw [← each_rd a2] at this
      obtain ⟨q, hq, eq⟩ := List.mem_map.mp this
      exact ⟨q, hq, by rw [eq, ek2, ek]⟩
  rcases hs with hs | hs
  · obtain ⟨its, rv, pl, _⟩ := I.list hs
    exact go its rv (.inl pl.isList)
  · obtain ⟨its, rv, pl, _⟩ := I.tuple hs
    exact go its rv (.inr pl)
/-! ### sorted of such a set -/
def rSortSet (X : Cx) (T : Kit X.prog X.w) (rd : D → Option T.K) : List V → Hp → VK → Prop := fun xs H Q => ∃ (a : Addr) (ps : List (D × V)), xs = [.ref a] ∧ H a = some (SetOD T rd a ps) ∧ (∀ p ∈ ps, Dp X.K H p.2 p.1.py) ∧ SortD (ps.map pyP) ∧ (∀ p ∈ ps, p.1.py.depth ≤ 64) ∧
  ∀ (l : Addr) (ps' : List (D × V)), ps'.Perm ps → H l = none → Q (.ref l) (upd H l (.lst ((ps'.mergeSort (dataLe false pyP)).map (·.2))))
theorem sortD_perm {ds es : List PyData} (p : es.Perm ds) (h : SortD ds) : SortD es := by
  refine ⟨fun d hd d' hd' => h.1 d (p.mem_iff.mp hd) d' (p.mem_iff.mp hd'), h.2.imp (fun z d hd => z d (p.mem_iff.mp hd)) fun z d hd => z d (p.mem_iff.mp hd)⟩
theorem cr_sortSet {X : Cx} (T : Kit X.prog X.w) {rd : D → Option T.K} (hc : X.calm = true) (hu : X.A.units + 70 < cLine) : CallR X (.builtin "sorted") (rSortSet X T rd) := by
  intro pins s σ H xs us Q I r h
  obtain ⟨a, ps, rfl, ha, hd, ho, hz, q⟩ := h
  rw [Vals.ref1 r]
  obtain ⟨⟨L, hL, e⟩, _⟩ := (show ObjOk X.prog X.w H s.heap a (.ext fun h => ∃ L, T.hold h a L ∧ EachIs (fun (q : T.K × Value) (p : D × V) => RelV p.2 q.2 ∧ rd p.1 = some q.1) L ps) from I.hok a _ ha)
  obtain ⟨o, es, ep, t, o1, o2, o3, rows, fits, sb, ris, led⟩ := T.seen hL
  -- the members as values that read as the data
  have e1 : EachIs (fun (u : Value) (p : D × V) => RelV p.2 u ∧ ∃ as, Reads s.heap u (pyP p) as) (L.map (·.2)) ps := by
    have key : ∀ {L : List (T.K × Value)} {ps : List (D × V)}, EachIs (fun (q : T.K × Value) (p : D × V) => RelV p.2 q.2 ∧ rd p.1 = some q.1) L ps → (∀ p ∈ ps, Dp X.K H p.2 p.1.py) → EachIs (fun (u : Value) (p : D × V) => RelV p.2 u ∧ ∃ as, Reads s.heap u (pyP p) as) (L.map (·.2)) ps := by
      intro L ps e
      induction e with
      | nil => intro _; exact .nil
      | cons r t ih =>
        intro hd
        exact .cons ⟨r.1, Dp.reads I _ _ _ (hd _ List.mem_cons_self) r.1⟩ (ih fun p hp => hd p (List.mem_cons_of_mem _ hp))
    exact key e hd
  refine Calls.call_function_entry kind_sorted plain_sorted entry_sorted (args_sorted1 _) ?_
  unfold Builtin.«sorted»
  refine wpAny_bind (m := checkCount "sorted" 1 1 _) (wpAny_pure ?_)
  refine wpAny_bind (collect_set (A := X.A.in1) (I.ok.hd hc) ⟨o, o1, o2, o3⟩ fits sb ris led fun s1 vs k1 hz1 g1 os1 pm => ?_)
  rw [rows] at pm
  obtain ⟨ps', pp, e2⟩ := each_perm pm e1
  have lvs : vs.length = ps'.length := e2.length
  have lps : ps'.length = es.size := by
    rw [← lvs, pm.length_eq, ← rows, List.length_map, Array.length_toList]
  have szv : vs.length ≤ sizeLine := by
    rw [lvs, lps, sizeLine_eq]
    unfold scanBound at sb
    omega
  refine wpAny_bind (wpAny_newList ?_ szv)
  have hoL : (s1.heap.push (seqObj "list" vs.toArray 0)).get? s1.heap.objs.size = some (seqObj "list" vs.toArray 0) := Heap.get?_push_size _ rfl
  have keepS : ∀ b o, s.heap.get? b = some o → (sortingHeap (s1.heap.push (seqObj "list" vs.toArray 0)) s1.heap.objs.size vs).get? b = some o := fun b o z =>
    sortingHeap_old (Nat.ne_of_lt (Heap.lt_size (k1 b o z))) (Heap.get?_push_of_some _ (k1 b o z))
  have er : EachIs (fun (u : Value) (p : D × V) => ∃ as, Reads (sortingHeap (s1.heap.push (seqObj "list" vs.toArray 0)) s1.heap.objs.size vs) u (pyP p) as) vs ps' := e2.mono fun _ _ z => by
    obtain ⟨_, as, rr⟩ := z
    exact ⟨as, PyProof.Rows.Reads.keeps keepS rr⟩
  have ev : EachIs (fun (u : Value) (p : D × V) => RelV p.2 u) vs ps' := e2.mono fun _ _ z => z.1
  have ho' : SortD (ps'.map pyP) := sortD_perm (pp.map pyP) ho
  have hz' : ∀ p ∈ ps', p.1.py.depth ≤ 64 := fun p hp => hz p (pp.mem_iff.mp hp)
  refine wpAny_bind (wpAny_holding (wpAny_call_entry slot_list_sort ⟨_, hoL, rfl⟩ entry_list_sort (list_sort_vals (s := { s1 with heap := s1.heap.push (seqObj "list" vs.toArray 0) }) (κ := dataKind (sortingHeap (s1.heap.push (seqObj "list" vs.toArray 0)) s1.heap.objs.size vs) (ps'.map pyP)) hoL
    (sorts_at (s := { s1 with heap := sortingHeap (s1.heap.push (seqObj "list" vs.toArray 0)) s1.heap.objs.size vs }) (ds := ps'.map pyP) (each_map (R := fun v d => ∃ as, Reads (sortingHeap (s1.heap.push (seqObj "list" vs.toArray 0)) s1.heap.objs.size vs) v d as) pyP er) ho'
      (bound_map fun p hp => by have : (pyP p).depth ≤ 64 := hz' p hp; show X.A.units + 1 + 1 + (pyP p).depth < cLine; omega)) szv ⟨.none, rfl, ?_⟩) (args_list_sort _)))
  have eo := sortVals_data (h' := sortingHeap (s1.heap.push (seqObj "list" vs.toArray 0)) s1.heap.objs.size vs) (enc := pyP) false ev er ho'.1
  generalize hout : sortVals (dataKind (sortingHeap (s1.heap.push (seqObj "list" vs.toArray 0)) s1.heap.objs.size vs) (ps'.map pyP)) false vs vs = out at eo
  obtain ⟨c, hc'⟩ := sortedHeap_at (vs := vs) (out := out.toArray) hoL
  have kp : ∀ b o, s.heap.get? b = some o → (sortedHeap (s1.heap.push (seqObj "list" vs.toArray 0)) s1.heap.objs.size vs out.toArray).get? b = some o := fun b o z => by
    have z1 := k1 b o z
    have lt := Heap.lt_size z1
    rw [sortedHeap_old (Nat.ne_of_lt lt) (by rw [size_push']; exact Nat.lt_succ_of_lt lt)]
    exact Heap.get?_push_of_some _ z1
  have hv : Vals ((ps'.mergeSort (dataLe false pyP)).map (·.2)) out := vals_each eo
  have hlen : ((ps'.mergeSort (dataLe false pyP)).map (·.2)).length ≤ sizeLine := by rw [List.length_map, List.length_mergeSort, ← lvs]; exact szv
  have hn : H s1.heap.objs.size = none := I.hok.fresh hz1
  have J : Inv X pins σ (upd H s1.heap.objs.size (.lst ((ps'.mergeSort (dataLe false pyP)).map (·.2)))) { s with heap := sortedHeap (s1.heap.push (seqObj "list" vs.toArray 0)) s1.heap.objs.size vs out.toArray, gens := s1.gens, drawn := s1.drawn, toks := s1.toks } :=
    I.call (ch := []) (Un.laid kp hz1 hn) (I.hok.laid kp hz1 ⟨hlen, out, c, hv, hc'⟩) (by rw [g1]; exact I.bare) (fun _ z => nomatch z)
  obtain ⟨sh, sg, sd, stk, so⟩ := s1
  have eos : so = s.os := os1
  subst eos
  exact wpAny_pure ⟨_, rfl, ⟨.ref _, _, J, rfl, q _ ps' pp hn⟩⟩
end
end DL
/-! DLSetD: sorted(set(e)) over data. -/
namespace DL
open PySem PySem.Spec PyProof.Rows L2 PySem.W

/-! ### each key once -/
def dedup {K : Type} [DecidableEq K] (rd : D → Option K) : List D → List D
  | [] => []
  | d :: ds => d :: (dedup rd ds).filter fun x => decide (rd x ≠ rd d)
theorem dedup_mem {K : Type} [DecidableEq K] {rd : D → Option K} : ∀ {ds : List D} {x : D}, x ∈ dedup rd ds → x ∈ ds
  | [], _, h => h
  | d :: ds, x, h => by
    unfold dedup at h
    rcases List.mem_cons.mp h with rfl | h
    · exact List.mem_cons_self
    · exact List.mem_cons_of_mem _ (dedup_mem (List.mem_filter.mp h).1)
theorem dedup_nodup {K : Type} [DecidableEq K] {rd : D → Option K} : ∀ (ds : List D), ((dedup rd ds).map rd).Nodup
  | [] => List.nodup_nil
  | d :: ds => by
    unfold dedup
    rw [List.map_cons]
    refine List.nodup_cons.mpr ⟨fun h => ?_, ?_⟩
    · obtain ⟨x, hx, e⟩ := List.mem_map.mp h
      have := (List.mem_filter.mp hx).2
      exact (of_decide_eq_true this) e
    · exact List.Nodup.sublist (List.filter_sublist.map rd) (dedup_nodup ds)
theorem dedup_all {K : Type} [DecidableEq K] {rd : D → Option K} : ∀ {ds : List D} {d : D}, d ∈ ds → ∃ x ∈ dedup rd ds, rd x = rd d
  | [], _, h => by cases h
  | y :: ds, d, h => by
    unfold dedup
    by_cases e : rd d = rd y
    · exact ⟨y, List.mem_cons_self, e.symm⟩
    · rcases List.mem_cons.mp h with rfl | h
      · exact (e rfl).elim
      · obtain ⟨x, hx, ex⟩ := dedup_all (rd := rd) h
        exact ⟨x, List.mem_cons_of_mem _ (List.mem_filter.mpr ⟨hx, decide_eq_true (by rw [ex]; exact e)⟩), ex⟩
def itemsOf : D → Option (List D)
  | .lst ds => some ds
  | .ro ds => some ds
  | .tup ds => some ds
  | _ => none
def sortSetV (ds : List D) : Option D := if (ds.all fun d => (keyD d).isSome) = true ∧ ds.length ≤ 1000 ∧ sortOk (dedup keyD ds) = true then some (.lst (sortD (dedup keyD ds))) else none
def sortSetT (ds : List D) : Option D := if (ds.all fun d => (lotD d).isSome) = true ∧ ds.length ≤ 62 ∧ sortOk (dedup lotD ds) = true then some (.lst (sortD (dedup lotD ds))) else none
def dSortSet (d : D) : Option D := match itemsOf d with
  | some ds => (match sortSetV ds with
    | some r => some r
    | none => sortSetT ds)
  | none => none

section
variable {W : Wd} {X : Cx} {Wx : WX} {O : List Nat} {e : Expr} {m : M D} {z : Nat} {p : Bool} {p0 p1 pos pos1 : Pos}
/-- what the reading of sorted(set(..)) asks of the list's items -/
theorem sortSet_sound {K : Type} [DecidableEq K] {T : Kit X.prog X.w} {rd : D → Option T.K} {rk : D → Option K} (k : X.K = W.K) (inj : ∀ a b x, rd a = some x → rd b = some x → a = b) (same : ∀ a b, rk a = rk b ↔ rd a = rd b)
    (tok : ∀ a b x y, rd a = some x → rd b = some y → keyToks a.py = keyToks b.py → a = b) (hkey : ∀ (H : Hp) (p : D × V) (x : T.K), rd p.1 = some x → Rp W No H p.1 p.2 → KeyAt X T rd H p)
    {G : Gh} {L : Lab} {env : EnvD} {σ : L2.St} {H : Hp} {Q : VK} {ds : List D} {vs : List V} {a : Addr} (R : Rel W G O L env σ H) (hs : SqL X.K H a vs ∨ SqT X.K H a vs) (sz : vs.length ≤ sizeLine) (r : RpL W (Zo L) H ds vs)
    (hall : ∀ d ∈ ds, (rd d).isSome = true) (hmost : ds.length ≤ T.most) (ok : sortOk (dedup rk ds) = true)
    (hq : ∀ v H' L', untmp L L' → Nw L L' H → Rel W G O L' env σ H' → Rel W G O L env σ H' → Ev W No H H' → OwN W L L' H' 1 (.lst (sortD (dedup rk ds))) v → Rp W (Zo L) H' (.lst (sortD (dedup rk ds))) v → Q v H') :
    rSetK X T rd [.ref a] H fun v H2 => rSortSet X T rd [v] H2 Q := by
  have ln := r.length
  have rz := rpl_zip r
  have mem1 : ∀ p ∈ ds.zip vs, p.1 ∈ ds := fun p hp => (List.of_mem_zip hp).1
  obtain ⟨o1, o2, o3⟩ := sortOk_D ok
  refine ⟨a, ds.zip vs, rfl, by rw [zip_snd ln]; exact hs, fun p hp => ?_, by rw [List.length_zip]; omega, fun b ps' nb sub nd cov => ?_⟩
  · obtain ⟨x, hx⟩ := Option.isSome_iff_exists.mp (hall _ (mem1 p hp))
    exact hkey H p x hx (Rp.shun (fun _ z _ => z.elim) _ _ (rz p hp))
  · have R2 : Rel W G O L env σ (upd H b (SetOD T rd b ps')) := R.new nb
    have ev : Ev W No H (upd H b (SetOD T rd b ps')) := Ev.new nb
    have rz' : ∀ p ∈ ps', Rp W (Zo L) (upd H b (SetOD T rd b ps')) p.1 p.2 := fun p hp => Rp.ev (ev.mono fun _ z _ => z.elim) _ _ (rz p (sub p hp))
    have ind : ∀ p ∈ ps', p.1 ∈ ds := fun p hp => mem1 p (sub p hp)
    -- the data of the members are those of the list, each once
    have nd1 : (ps'.map (·.1)).Nodup := by
      have e : (ps'.map fun p => rd p.1) = (ps'.map (·.1)).map rd := by rw [List.map_map]; rfl
      rw [e] at nd
      exact List.Pairwise.of_map rd (fun _ _ h e => h (congrArg rd e)) nd
    have nd2 : (dedup rk ds).Nodup := List.Pairwise.of_map rk (fun _ _ h e => h (congrArg rk e)) (dedup_nodup ds)
    have same_mem : ∀ d, d ∈ ps'.map (·.1) ↔ d ∈ dedup rk ds := fun d => by
      constructor
      · intro h
        obtain ⟨p, hp, rfl⟩ := List.mem_map.mp h
        obtain ⟨x, hx, ex⟩ := dedup_all (rd := rk) (ind p hp)
        obtain ⟨y, hy⟩ := Option.isSome_iff_exists.mp (hall _ (ind p hp))
        have e2 := (same _ _).mp ex
        rw [← inj _ _ y (e2.trans hy) hy]
        exact hx
      · intro h
        have hd := dedup_mem h
        obtain ⟨i, hi, ei⟩ := List.getElem_of_mem hd
        have hz : (d, vs[i]'(by omega)) ∈ ds.zip vs := by
          have hl : i < (ds.zip vs).length := by rw [List.length_zip]; omega
          have : (ds.zip vs)[i] = (d, vs[i]'(by omega)) := by rw [List.getElem_zip, ei]
          rw [← this]
          exact List.getElem_mem hl
        obtain ⟨q, hq, eq⟩ := cov _ hz
        obtain ⟨y, hy⟩ := Option.isSome_iff_exists.mp (hall _ hd)
        have : q.1 = d := inj _ _ y (eq.trans hy) hy
        exact List.mem_map.mpr ⟨q, hq, this⟩
    have pm : (ps'.map (·.1)).Perm (dedup rk ds) := (List.perm_ext_iff_of_nodup nd1 nd2).mpr same_mem
    have pl : ∀ p ∈ ps', p.1 ∈ dedup rk ds := fun p hp => (same_mem p.1).mp (List.mem_map.mpr ⟨p, hp, rfl⟩)
    refine ⟨b, ps', rfl, upd_same, fun p hp => ?_, ?_, fun p hp => o3 _ (pl p hp), fun l ps'' pp nl => ?_⟩
    · rw [k]
      exact Rp.dp p.1 p.2 (o1 _ (pl p hp)) (rz' p hp)
    · have e : ps'.map pyP = (ps'.map (·.1)).map D.py := by rw [List.map_map]; rfl
      rw [e]
      exact sortD_perm (pm.map D.py) o2
    · have e : sortD (dedup rk ds) = ((ps''.mergeSort (dataLe false pyP)).map (·.1)) := by
        rw [List.map_mergeSort (r := dataLe false pyP) (s := dataLe false D.py) (f := Prod.fst) (l := ps'') (fun _ _ _ _ => rfl)]
        refine (sort_perm ((pp.map (·.1)).trans pm) fun x y hx hy ht => ?_).symm
        have hx' := dedup_mem ((((pp.map (·.1)).trans pm)).mem_iff.mp hx)
        have hy' := dedup_mem ((((pp.map (·.1)).trans pm)).mem_iff.mp hy)
        obtain ⟨kx, ex⟩ := Option.isSome_iff_exists.mp (hall _ hx')
        obtain ⟨ky, ey⟩ := Option.isSome_iff_exists.mp (hall _ hy')
        exact tok x y kx ky ex ey ht
      have szl : ((ps''.mergeSort (dataLe false pyP)).map (·.2)).length ≤ sizeLine := by
        rw [List.length_map, List.length_mergeSort, pp.length_eq]
        have h1 := pm.length_eq
        rw [List.length_map] at h1
        have h2 : (dedup rk ds).length ≤ ds.length := by
          clear h1
          clear hq ok o1 o2 o3 nd2 same_mem pm pl
          have : ∀ ds : List D, (dedup rk ds).length ≤ ds.length := by
            intro ds
            induction ds with
            | nil => exact Nat.le_refl _
            | cons d ds ih =>
              unfold dedup
              rw [List.length_cons, List.length_cons]
              exact Nat.succ_le_succ (Nat.le_trans (List.length_filter_le _ _) ih)
          exact this ds
        omega
      have nv : NewV W L (upd H b (SetOD T rd b ps')) (.lst (sortD (dedup rk ds))) (.ref l) (upd (upd H b (SetOD T rd b ps')) l (.lst ((ps''.mergeSort (dataLe false pyP)).map (·.2)))) :=
        .inl ⟨l, _, _, rfl, rfl, nl, rfl, by rw [e]; exact unzip_rpl fun p hp => rz' p (pp.mem_iff.mp (List.mem_mergeSort.mp hp)), szl⟩
      obtain ⟨L', u, w, ra, rb, ev2, o, rr⟩ := newV_post R2 nv (H0 := H) (.inr trivial)
      exact hq _ _ L' u (w.back ev) ra rb (ev.trans ev2) o rr
theorem mix_int {P : Program} {w : World} (i : Int) (t : Tok) : (mixKind P w).is (.inl i) (.int i t) = true := by
  show Value.isInt i (.int i t) = true
  simp [Value.isInt]
theorem mix_str {P : Program} {w : World} (x : Str) (t : Tok) : (mixKind P w).is (.inr x) (.str x t) = true := by
  show Value.isStrOf x (.str x t) = true
  simp [Value.isStrOf]
theorem keyV_at {H : Hp} {p : D × V} {x : Key} (h : keyD p.1 = some x) (r : Rp W No H p.1 p.2) : KeyAt X (kitV X.prog X.w) keyD H p := by
  refine ⟨x, h, fun pins σ s u I ru => ?_⟩
  obtain ⟨d, v⟩ := p
  cases d <;> cases h <;> (unfold Rp at r; subst r; obtain ⟨t, rfl⟩ := ru; first | exact mix_int _ t | exact mix_str _ t)
theorem items_keys {H : Hp} {P : Program} {w : World} : ∀ {ds : List D} {vs : List V} {us : List Value} {ks : List Key}, keysD ds = some ks → RpL W No H ds vs → Vals vs us → ItemsAre (mixKind P w) ks us
  | [], vs, us, ks, h, r, rv => by
    cases h
    rw [rpl0 r] at rv
    cases rv
    exact .nil
  | d :: ds, vs, us, ks, h, r, rv => by
    obtain ⟨k, kr, rfl, h1, h2⟩ := keysD_cons h
    unfold RpL at r
    obtain ⟨v, vr, rfl, r1, r2⟩ := r
    cases rv with
    | cons a b =>
      refine .cons ?_ (items_keys h2 r2 b)
      cases d <;> cases h1 <;> (unfold Rp at r1; subst r1; obtain ⟨t, rfl⟩ := a; first | exact mix_int _ t | exact mix_str _ t)
theorem keyT_at {H : Hp} {p : D × V} {x : Lot} (k : X.K = W.K) (h : lotD p.1 = some x) (r : Rp W No H p.1 p.2) : KeyAt X (kitT X.prog X.w) lotD H p := by
  refine ⟨x, h, fun pins σ s u I ru => ?_⟩
  obtain ⟨d, v⟩ := p
  cases d <;> first | (cases h; done) | skip
  rename_i ds
  unfold Rp at r
  obtain ⟨a, vs, rfl, ⟨hs, _⟩, rl⟩ := r
  rw [← k] at hs
  obtain ⟨its, rv, ⟨o, ho, hc, n, hd⟩, _⟩ := I.tuple hs
  cases ru
  exact ⟨a, rfl, o, its.toArray, n, ho, hc, hd, by simpa using items_keys h rl rv⟩
theorem do_sortSet (h : DE W X Wx O e m z p) (hu : X.A.units + 70 < cLine) (hc : X.calm = true := by rfl) (hg : Gl X "sorted" := by rfl) (hm : X.mg "sorted" = none) (hg2 : Gl X "set" := by rfl) (hm2 : X.mg "set" = none) (l1 : 1 ≤ z := by decide) (k2 : z ≤ 2 := by decide)
    (hs1 : starEach [e] X.env = (false, eval e X.env) :: starEach [] X.env := by rfl)
    (hs2 : starEach [.Call (.Name "set" p1) [e] [] pos1] X.env = (false, eval (.Call (.Name "set" p1) [e] [] pos1) X.env) :: starEach [] X.env := by rfl) (hp1 : (backTo pos1 (starEach [] X.env)).any (·.1) = false := by rfl) (hp2 : (backTo pos (starEach [] X.env)).any (·.1) = false := by rfl) :
    DO W X Wx O (.Call (.Name "sorted" p0) [.Call (.Name "set" p1) [e] [] pos1] [] pos) (dUn dSortSet m) 1 p := by
  obtain ⟨k, t, pe, s⟩ := h
  have mk : ∀ (T : Kit X.prog X.w) (rd : D → Option T.K), PE X (.Call (.Name "sorted" p0) [.Call (.Name "set" p1) [e] [] pos1] [] pos) (tCB (rSortSet X T rd) (tCons (tCB (rSetK X T rd) (tCons t tNil)) tNil)) := fun T rd =>
    L2.pe_callB (cr_sortSet T hc hu) hg hm (by decide +kernel) (pa_cons (L2.pe_callTy (cr_setK T hc (by omega)) hg2 hm2 (by decide +kernel) (pa_cons pe pa_nil hs1) (by decide) (by decide) hs1 hp1) pa_nil hs2) (by decide) (by decide) hs2 hp2
  refine ⟨k, _, PE.or (mk (kitV X.prog X.w) keyD) (mk (kitT X.prog X.w) lotD), fun G L env σ H Q R h => ?_⟩
  unfold dUn at h
  cases q1 : m env with
  | bad => rw [q1] at h; exact h.elim
  | exc c a e =>
    rw [q1] at h
    refine .inl (s G L env σ H _ R ?_)
    rw [q1]
    exact h
  | ok d e1 =>
    rw [q1] at h
    have h : PostO W G O L p 1 Wx env σ H Q (lift (dSortSet d) e1) := h
    unfold dSortSet at h
    cases qi : itemsOf d with
    | none => rw [qi] at h; exact h.elim
    | some ds =>
      rw [qi] at h
      have h : PostO W G O L p 1 Wx env σ H Q (lift (match sortSetV ds with | some r => some r | none => sortSetT ds) e1) := h
      have seen : ∀ {v : V} {H1 : Hp}, RpZ W L H1 1 d v → ∃ a vs, v = .ref a ∧ (SqL X.K H1 a vs ∨ SqT X.K H1 a vs) ∧ vs.length ≤ sizeLine ∧ RpL W (Zo L) H1 ds vs := fun {v H1} Z => by
        cases d with
        | lst xs =>
          cases qi
          obtain ⟨a, vs, rfl, h1, sz, r⟩ := rz_lst Z
          exact ⟨a, vs, rfl, .inl (SqL.of h1), sz, r⟩
        | ro xs =>
          cases qi
          obtain ⟨a, vs, rfl, h1, sz, r⟩ := rz_ro Z
          exact ⟨a, vs, rfl, .inl (by rw [k]; exact h1), sz, r⟩
        | tup xs =>
          cases qi
          obtain ⟨a, vs, rfl, h1, sz, r⟩ := rz_tup Z
          exact ⟨a, vs, rfl, .inr (by rw [k]; exact h1), sz, r⟩
        | _ => cases qi
      by_cases cv : (ds.all fun d => (keyD d).isSome) = true ∧ ds.length ≤ 1000 ∧ sortOk (dedup keyD ds) = true
      · have ev : sortSetV ds = some (.lst (sortD (dedup keyD ds))) := if_pos cv
        rw [ev] at h
        have h : PostO W G O L p 1 Wx env σ H Q (.ok (.lst (sortD (dedup keyD ds))) e1) := h
        refine .inl (s G L env σ H _ R ?_)
        rw [q1]
        intro v H1 R1 E1 P1 Z1
        obtain ⟨a, vs, rfl, hs, sz, r⟩ := seen (Z1.le (.inl l1) k2)
        refine sortSet_sound (T := kitV X.prog X.w) (rd := keyD) (rk := keyD) k (fun a b x ha hb => keyD_inj ha hb) (fun a b => Iff.rfl) (fun a b x y ha hb ht => (key_toks ha hb [] [] (by rw [ht])).1) (fun H p x hx rx => keyV_at hx rx) R1 hs sz r
          (fun d hd => List.all_eq_true.mp cv.1 d hd) (by show ds.length ≤ scanBound - 1; unfold scanBound; omega) cv.2.2 fun v H' L' u w ra rb ev o rr => ?_
        exact h v H' L' u (w.back E1) ra rb (E1.trans (ev.mono fun _ z _ => z.elim)) P1 o rr
      · have ev : sortSetV ds = none := if_neg cv
        rw [ev] at h
        have h : PostO W G O L p 1 Wx env σ H Q (lift (sortSetT ds) e1) := h
        by_cases ct : (ds.all fun d => (lotD d).isSome) = true ∧ ds.length ≤ 62 ∧ sortOk (dedup lotD ds) = true
        · have et : sortSetT ds = some (.lst (sortD (dedup lotD ds))) := if_pos ct
          rw [et] at h
          have h : PostO W G O L p 1 Wx env σ H Q (.ok (.lst (sortD (dedup lotD ds))) e1) := h
          refine .inr (s G L env σ H _ R ?_)
          rw [q1]
          intro v H1 R1 E1 P1 Z1
          obtain ⟨a, vs, rfl, hs, sz, r⟩ := seen (Z1.le (.inl l1) k2)
          refine sortSet_sound (T := kitT X.prog X.w) (rd := lotD) (rk := lotD) k (fun a b x ha hb => lotD_inj ha hb) (fun a b => Iff.rfl) (fun a b x y ha hb ht => ?_) (fun H p x hx rx => keyT_at k hx rx) R1 hs sz r
            (fun d hd => List.all_eq_true.mp ct.1 d hd) ct.2.1 ct.2.2 fun v H' L' u w ra rb ev o rr => ?_
          · cases a <;> first | (cases ha; done) | skip
            cases b <;> first | (cases hb; done) | skip
            rw [keys_toks ha hb (by simpa [D.py, keyToks] using ht)]
          · exact h v H' L' u (w.back E1) ra rb (E1.trans (ev.mono fun _ z _ => z.elim)) P1 o rr
        · have et : sortSetT ds = none := if_neg ct
          rw [et] at h
          exact h.elim
end
end DL
/-! DLKw: calls with keywords. -/
namespace DL
open PySem PySem.Spec PyProof.Rows L2

/-! ### the parameters' order -/
def pick {α : Type} (pm : List Nat) (l : List α) : List α := pm.filterMap fun i => l[i]?
section
variable {α β : Type}
theorem pick_nil {l : List α} : pick [] l = [] := rfl
theorem pick_cons {i : Nat} {pm : List Nat} {l : List α} {a : α} (h : l[i]? = some a) : pick (i :: pm) l = a :: pick pm l := by
  unfold pick
  rw [List.filterMap_cons, h]
theorem pick_len {pm : List Nat} {l : List α} (h : ∀ i ∈ pm, i < l.length) : (pick pm l).length = pm.length := by
  induction pm with
  | nil => rfl
  | cons i pm ih =>
    have : i < l.length := h i (List.mem_cons_self ..)
    rw [pick_cons (List.getElem?_eq_getElem this), List.length_cons, List.length_cons, ih fun j m => h j (List.mem_cons_of_mem _ m)]
theorem pick_get {pm : List Nat} {l : List α} (h : ∀ i ∈ pm, i < l.length) (j : Nat) : (pick pm l)[j]? = (pm[j]?).bind fun i => l[i]? := by
  induction pm generalizing j with
  | nil => simp [pick]
  | cons i pm ih =>
    have : i < l.length := h i (List.mem_cons_self ..)
    rw [pick_cons (List.getElem?_eq_getElem this)]
    cases j with
    | zero => simp [List.getElem?_eq_getElem this]
    | succ j => simpa using ih (fun j m => h j (List.mem_cons_of_mem _ m)) j
end
theorem pick_vals {pm : List Nat} {vs : List V} {us : List Value} (r : Vals vs us) (h : ∀ i ∈ pm, i < vs.length) : Vals (pick pm vs) (pick pm us) := by
  induction pm with
  | nil => exact .nil
  | cons i pm ih =>
    have e1 : i < vs.length := h i (List.mem_cons_self ..)
    have e2 : i < us.length := r.length ▸ e1
    rw [pick_cons (List.getElem?_eq_getElem e1), pick_cons (List.getElem?_eq_getElem e2)]
    refine .cons ?_ (ih fun j m => h j (List.mem_cons_of_mem _ m))
    clear h ih
    induction r generalizing i with
    | nil => exact absurd e1 (Nat.not_lt_zero _)
    | cons r1 r2 ih =>
      cases i with
      | zero => exact r1
      | succ i => exact ih i (Nat.lt_of_succ_lt_succ e1) (Nat.lt_of_succ_lt_succ e2)
/-- how a call with n positional values and the keywords ks binds -/
structure KB (K : PySem.W.Frag) (fd : FuncData) (ps ks : List Str) (n : Nat) (pm : List Nat) (ds : List Value) : Prop where
  to : ∀ (s : Shared) (us ws : List Value), K.In s.heap → us.length = n → ws.length = ks.length → BindsTo s fd ⟨us, ks.zip ws⟩ (ps.zip (pick pm (us ++ ws ++ ds)))
section
variable {K : PySem.W.Frag} {x qual : Str} {params : Arguments} {body : List Stmt} {scope : Scope} {dvs : List V} {f : Addr} {fd : FuncData} {ps ks : List Str} {n : Nat} {pm : List Nat}
theorem kbN (F : FunD K x qual params body scope [] [] f fd)
    (h : ∀ (kV doc pV : Value) (an : Option Addr) (cdv ct : Value) (us ws : List Value), us.length = n → ws.length = ks.length → bindArgs (PySem.W.fnOf x qual params body scope .none kV doc pV an cdv ct) ⟨us, ks.zip ws⟩ = pure (ps.zip (pick pm (us ++ ws ++ [])))) : KB K fd ps ks n pm [] := by
  obtain ⟨oc, od, dV, kV, doc, pV, an, cdv, ct, osl, rfl, lk, hcd, hD, hK⟩ := F.ex
  rcases hD with ⟨_, rfl⟩ | ⟨e, _⟩
  · exact ⟨fun s us ws X l1 l2 => .of_eq (h kV doc pV an cdv ct us ws l1 l2)⟩
  · exact absurd rfl e
theorem kbD (F : FunD K x qual params body scope dvs [] f fd) (hd : dvs ≠ [])
    (h : ∀ (T : Addr) (kV doc pV : Value) (an : Option Addr) (cdv ct : Value) (us ws its : List Value), us.length = n → ws.length = ks.length → its.length = dvs.length →
      ∃ k, bindArgs (PySem.W.fnOf x qual params body scope (.ref T) kV doc pV an cdv ct) ⟨us, ks.zip ws⟩ = seqItems? (.ref T) >>= k ∧ k (some its.toArray) = pure (ps.zip (pick pm (us ++ ws ++ its)))) :
    ∃ its, Vals dvs its ∧ KB K fd ps ks n pm its := by
  obtain ⟨oc, od, dV, kV, doc, pV, an, cdv, ct, osl, rfl, lk, hcd, hD, hK⟩ := F.ex
  rcases hD with ⟨e, _⟩ | ⟨_, T, o, its, m, rfl, lT, oT, rT⟩
  · exact absurd e hd
  · refine ⟨its, rT, ⟨fun s us ws X l1 l2 => ?_⟩⟩
    obtain ⟨k, e1, e2⟩ := h T kV doc pV an cdv ct us ws its l1 l2 rT.length.symm
    refine BindsTo.of_looks fun M => ?_
    rw [e1]
    exact looks_items X lT oT (.of_pure e2)
end

/-- the same, the defaults' values among them -/
def KBx (K : PySem.W.Frag) (fd : FuncData) (ps ks : List Str) (n : Nat) (pm : List Nat) (dvs : List V) : Prop := ∃ its, Vals dvs its ∧ KB K fd ps ks n pm its
section
variable {K : PySem.W.Frag} {x qual : Str} {params : Arguments} {body : List Stmt} {scope : Scope} {dvs : List V} {kws : List (Str × V)} {f : Addr} {fd : FuncData} {ps ks : List Str} {n : Nat} {pm : List Nat}
theorem kbx (h : KB K fd ps ks n pm []) : KBx K fd ps ks n pm [] := ⟨[], .nil, h⟩
/-- keyword-only parameters; those of ms lack in the call -/
theorem kbK (F : FunD K x qual params body scope [] kws f fd) (ms : List (Str × V)) (hk : kws ≠ []) (hms : ∀ q ∈ ms, q ∈ kws)
    (h : ∀ (D : Addr) (doc pV : Value) (an : Option Addr) (cdv ct : Value) (us ws mv : List Value), us.length = n → ws.length = ks.length → mv.length = ms.length →
      KwChain D ((ms.map (·.1)).zip mv) (bindArgs (PySem.W.fnOf x qual params body scope .none (.ref D) doc pV an cdv ct) ⟨us, ks.zip ws⟩) (ps.zip (pick pm (us ++ ws ++ mv)))) : KBx K fd ps ks n pm (ms.map (·.2)) := by
  obtain ⟨oc, od, dV, kV, doc, pV, an, cdv, ct, osl, rfl, lk, hcd, hD, hK⟩ := F.ex
  rcases hD with ⟨_, rfl⟩ | ⟨e, _⟩
  · rcases hK with e | ⟨D, rfl, hq⟩
    · exact absurd e hk
    · obtain ⟨mv, hl, rk, hks⟩ := kwd_vals (ms := ms) fun q hm => hq q (hms q hm)
      exact ⟨mv, rk, ⟨fun s us ws X l1 l2 => BindsTo.of_looks fun M => KwChain.looks X hks (h D doc pV an cdv ct us ws mv l1 l2 hl)⟩⟩
  · exact absurd rfl e
end

/-! ### what is written in the call -/
structure DKs (W : Wd) (X : Cx) (Wx : WX) (O : List Nat) (kws : List Keyword) (m : M (List D)) (z : Nat) (p : Bool) : Prop where
  k : X.K = W.K
  len : ∀ env ds e, m env = .ok ds e → ds.length = kws.length
  run : ∃ t, PK X kws t ∧ ∀ (G : Gh) (L : Lab) (env : EnvD) (σ : L2.St) (H : Hp) (Q : List V → Hp → Prop), Rel W G O L env σ H → PostAr W G O L p z Wx env σ H Q (m env) → t σ H Q
structure DKw (W : Wd) (X : Cx) (Wx : WX) (O : List Nat) (es : List Expr) (kws : List Keyword) (m : M (List D)) (z : Nat) (p : Bool) : Prop where
  k : X.K = W.K
  len : ∀ env ds e, m env = .ok ds e → ds.length = es.length + kws.length
  run : ∃ t1 t2, PA X es t1 ∧ PK X kws t2 ∧ ∀ (G : Gh) (L : Lab) (env : EnvD) (σ : L2.St) (H : Hp) (Q : List V → List V → Hp → Prop), Rel W G O L env σ H →
    PostAr W G O L p z Wx env σ H (fun l H => ∀ vs zs, l = vs ++ zs → vs.length = es.length → Q vs zs H) (m env) → t1 σ H fun vs H1 => t2 σ H1 fun zs H2 => Q vs zs H2
section
variable {W : Wd} {X : Cx} {Wx : WX} {O : List Nat} {e : Expr} {es : List Expr} {kws : List Keyword} {m : M D} {ms : M (List D)} {p p1 p2 : Bool} {z z1 : Nat} {nm : Option Str} {kpos : Pos}
theorem dcons_len {a : Nat} (ln : ∀ env ds e, ms env = .ok ds e → ds.length = a) : ∀ env ds e, dCons m ms env = .ok ds e → ds.length = a + 1 := fun env ds e h => by
  unfold dCons at h
  cases q1 : m env with
  | bad => rw [q1] at h; cases h
  | exc c a e => rw [q1] at h; cases h
  | ok d1 e1 =>
    rw [q1] at h
    have h : ((ms e1).bind fun ds e2 => Out.ok (d1 :: ds) e2) = .ok ds e := h
    cases q2 : ms e1 with
    | bad => rw [q2] at h; cases h
    | exc c a e => rw [q2] at h; cases h
    | ok ds' e2 =>
      rw [q2] at h
      cases h
      rw [List.length_cons, ln _ _ _ q2]
theorem snd_cons {B B' : Type} {t : TE} {u : L2.St → Hp → (B → Hp → Prop) → Prop} (ok : B → List V → Prop) (ok' : B' → List V → Prop) (f : V → B → B') (hf : ∀ x l b, ok b l → ok' (f x b) (x :: l))
    (s : ∀ (G : Gh) (L : Lab) (env : EnvD) (σ : L2.St) (H : Hp) (Q : VK), Rel W G O L env σ H → PostE W G O L p1 z1 Wx env σ H Q (m env) → t σ H Q)
    (sr : ∀ (G : Gh) (L : Lab) (env : EnvD) (σ : L2.St) (H : Hp) (Q : B → Hp → Prop), Rel W G O L env σ H → PostAr W G O L p2 z Wx env σ H (fun l H => ∀ b, ok b l → Q b H) (ms env) → u σ H Q)
    (l : z ≤ z1) (k1 : z1 ≤ 2) (cc : p2 = true ∨ z1 = 2) {G : Gh} {L : Lab} {env : EnvD} {σ : L2.St} {H : Hp} {Q : B' → Hp → Prop} (R : Rel W G O L env σ H)
    (h : PostAr W G O L (p1 && p2) z Wx env σ H (fun l H => ∀ b, ok' b l → Q b H) (dCons m ms env)) : t σ H fun x H1 => u σ H1 fun b H2 => Q (f x b) H2 := by
  refine s G L env σ H _ R ?_
  unfold dCons at h
  cases q1 : m env with
  | bad => rw [q1] at h; exact h.elim
  | exc c a e => rw [q1] at h; exact h
  | ok d1 e1 =>
    rw [q1] at h
    intro x H1 R1 E1 P1 Z1
    refine sr G L e1 σ H1 _ R1 ?_
    have h : PostAr W G O L (p1 && p2) z Wx env σ H (fun l H => ∀ b, ok' b l → Q b H) ((ms e1).bind fun ds e2 => .ok (d1 :: ds) e2) := h
    cases q2 : ms e1 with
    | bad => rw [q2] at h; exact h.elim
    | exc c a e => rw [q2] at h; exact h
    | ok ds e2 =>
      rw [q2] at h
      intro vs H2 R2 E2 P2 A b hb
      have Z := (Z1.ev E2 cc).le (.inl l) k1
      refine h (x :: vs) H2 R2 ((E1.mono fun a z _ => Zp_mono (fun w => (Bool.and_eq_true_iff.mp w).1) z).trans (E2.mono fun a z _ => Zp_mono (fun w => (Bool.and_eq_true_iff.mp w).2) z)) (fun w => ?_) ⟨?_, fun i d v h1 h2 => ?_⟩ _ (hf x vs b hb)
      · rw [P2 (Bool.and_eq_true_iff.mp w).2, P1 (Bool.and_eq_true_iff.mp w).1]
      · rw [List.length_cons, List.length_cons, A.1]
      · cases i with
        | zero =>
          rw [List.getElem?_cons_zero] at h1 h2
          rw [← Option.some.inj h1, ← Option.some.inj h2]
          exact Z
        | succ i => exact A.2 i d v (by simpa using h1) (by simpa using h2)
theorem PostAr.imp {G : Gh} {L : Lab} {env : EnvD} {σ : L2.St} {H : Hp} {Q Q' : List V → Hp → Prop} {o : Out (List D)} (f : ∀ l H, Q l H → Q' l H) (h : PostAr W G O L p z Wx env σ H Q o) : PostAr W G O L p z Wx env σ H Q' o := by
  cases o with
  | bad => exact h
  | exc c a e => exact h
  | ok ds e => exact fun vs H' R E P A => f _ _ (h vs H' R E P A)
theorem ks_nil (k : X.K = W.K := by rfl) : DKs W X Wx O [] dNil z true := ⟨k, fun env ds e h => by cases h; rfl, _, pk_nil, fun G L env σ H Q R h => h [] H R Ev.refl (fun _ => rfl) ⟨rfl, fun i d v h1 _ => by simp at h1⟩⟩
theorem ks_cons (ha : DE W X Wx O e m z1 p1) (hr : DKs W X Wx O kws ms z p2) (l : z ≤ z1 := by decide) (k1 : z1 ≤ 2 := by decide) (cc : p2 = true ∨ z1 = 2 := by first | exact .inl rfl | exact .inr rfl) :
    DKs W X Wx O (⟨nm, e, kpos⟩ :: kws) (dCons m ms) z (p1 && p2) := by
  obtain ⟨k, t, pe, s⟩ := ha
  obtain ⟨_, ln, u, pr, sr⟩ := hr
  refine ⟨k, fun env ds e h => dcons_len ln env ds e h, _, pk_cons pe pr, fun G L env σ H Q R h => ?_⟩
  exact snd_cons (u := u) (fun b l => b = l) (fun b l => b = l) List.cons (fun x l b h => by rw [h]) s (fun G L env σ H Q R h => sr G L env σ H Q R (h.imp fun l H z => z l rfl)) l k1 cc R (h.imp fun l H z b e => by rw [e]; exact z)
theorem dk_of (h : DKs W X Wx O kws ms z p) : DKw W X Wx O [] kws ms z p := by
  obtain ⟨k, ln, t, pk, s⟩ := h
  exact ⟨k, fun env ds e h => by rw [ln _ _ _ h]; simp, _, t, pa_nil, pk, fun G L env σ H Q R h => s G L env σ H _ R (h.imp fun l H z => z [] l rfl rfl)⟩
theorem dk_pos (ha : DE W X Wx O e m z1 p1) (hr : DKw W X Wx O es kws ms z p2) (l : z ≤ z1 := by decide) (k1 : z1 ≤ 2 := by decide) (cc : p2 = true ∨ z1 = 2 := by first | exact .inl rfl | exact .inr rfl)
    (hs : starEach (e :: es) X.env = (false, eval e X.env) :: starEach es X.env := by rfl) : DKw W X Wx O (e :: es) kws (dCons m ms) z (p1 && p2) := by
  obtain ⟨k, t, pe, s⟩ := ha
  obtain ⟨_, ln, u1, u2, pr1, pr2, sr⟩ := hr
  refine ⟨k, fun env ds e h => ?_, _, u2, pa_cons pe pr1 hs, pr2, fun G L env σ H Q R h => ?_⟩
  · rw [dcons_len ln env ds e h, List.length_cons]
    omega
  · exact snd_cons (u := fun σ H (Q : List V × List V → Hp → Prop) => u1 σ H fun vs H1 => u2 σ H1 fun zs H2 => Q (vs, zs) H2) (fun b l => l = b.1 ++ b.2 ∧ b.1.length = es.length) (fun b l => l = b.1 ++ b.2 ∧ b.1.length = (e :: es).length) (fun x b => (x :: b.1, b.2))
      (fun x l b h => ⟨by rw [h.1]; rfl, by rw [List.length_cons, List.length_cons, h.2]⟩) s (fun G L env σ H Q R h => sr G L env σ H _ R (h.imp fun l H z vs zs e1 e2 => z (vs, zs) ⟨e1, e2⟩)) l k1 cc (Q := fun b H => Q b.1 b.2 H) R (h.imp fun l H z b e => z b.1 b.2 e.1 e.2)
end

/-! ### f(e, .., k = v, ..) -/
def tKw (n m : Nat) (pm : List Nat) (dvs : List V) (t1 t2 : TA) : TA := fun σ H Q => t1 σ H fun vs H1 => t2 σ H1 fun zs H2 => vs.length = n ∧ zs.length = m ∧ Q (pick pm (vs ++ zs ++ dvs)) H2
section
variable {X : Cx} {k n : Nat} {f : Addr} {fd : FuncData} {ps ks : List Str} {sp : Sp} {dvs : List V} {ds : List Value} {pm : List Nat} {Wx : WX} {x : Str} {p pos : Pos} {e : Expr} {es : List Expr} {kws : List Keyword} {t t2 : TA}
theorem goKG {pins : List (Addr × Obj)} {σ : L2.St} {H : Hp} {s : Shared} {Q : VK} {us ws : List Value} {vs zs : List V} (F : FnG X.prog X.w X.K X.mg X.base k f fd ps sp) (hr : Room k X.A) (hg : X.A.guards = some []) (hb : KB X.K fd ps ks n pm ds) (hd : Vals dvs ds) (tk : Takes X Wx)
    (hpm : ∀ i ∈ pm, i < n + ks.length + dvs.length) (I : Inv X pins σ H s) (r : Vals vs us) (rz : Vals zs ws) (l1 : vs.length = n) (l2 : zs.length = ks.length) (h : sp (pick pm (vs ++ zs ++ dvs) ++ []) H Q (WE Wx σ)) :
    wpAny (model X.prog X.w) X.A (call (.ref f) us (ks.zip ws)) (EP X pins σ Q) X.xe s := by
  have r2 : Vals (pick pm (vs ++ zs ++ dvs)) (pick pm (us ++ ws ++ ds)) := pick_vals ((r.append rz).append hd) fun i m => by
    rw [List.length_append, List.length_append, l1, l2]
    exact hpm i m
  refine wpAny_call (codeAny_mono (F.go X.A hr hg X.stack s H I.env0 ⟨us, ks.zip ws⟩ (pick pm (us ++ ws ++ ds)) (hb.to s us ws I.kIn (r.length.symm.trans l1) (rz.length.symm.trans l2)) _ r2 Q _ (by rw [List.append_nil] at h; exact h)) fun r s' hq => ?_)
  cases r with
  | error z => exact passAt tk σ pins H s z s' I hq
  | ok fl =>
    cases fl with
    | ret u => exact I.after hq
    | next => exact hq.elim
    | brk => exact hq.elim
    | cont => exact hq.elim
theorem pe_callKG (F : FnG X.prog X.w X.K X.mg X.base k f fd ps sp) (hr : Room k X.A) (hg : X.A.guards = some []) (gl : Gl X x) (hm : X.mg x = some (.ref f)) (hk : PySem.W.keepIn X.K (.ref f) = true) (hb : KB X.K fd ps ks n pm ds) (hd : Vals dvs ds) (tk : Takes X Wx)
    (hpm : ∀ i ∈ pm, i < n + ks.length + dvs.length) (ha : PA X (e :: es) t) (hkw : PK X kws t2) (hall : (backToKw pos (keywordEach kws X.env)).all (·.1.isSome) = true := by rfl) (hks : (backToKw pos (keywordEach kws X.env)).filterMap (·.1) = ks := by rfl)
    (hdb : (x == ("__debug__" : Str)) = false := by decide) (he : starEach (e :: es) X.env = (false, eval e X.env) :: starEach es X.env := by rfl)
    (hpl : ((backTo pos (starEach (e :: es) X.env)).any (·.1) || (backToKw pos (keywordEach kws X.env)).any (·.1.isNone)) = false := by rfl) :
    PE X (.Call (.Name x p) (e :: es) kws pos) (tCallG sp [] Wx (tKw n ks.length pm dvs t t2)) := PE.mk fun pins s σ H Q I h => by
  refine wpAny_Call_Name_kw (ld_glob I gl hm ?_ hdb)
  refine PySem.W.callWith_KW (h₀ := X.base) I.ok.mod.kin hk hall (thn (ha.run pos pins s σ H _ I h) fun us s1 ⟨vs, H1, I1, r, q⟩ => ?_) hpl he
  refine thn (hkw.run pos pins s1 σ H1 _ I1 q) fun ws s2 ⟨zs, H2, I2, rz, l1, l2, q2⟩ => ⟨I2.kIn, ?_⟩
  rw [hks]
  exact goKG F hr hg hb hd tk hpm I2 r rz l1 l2 q2
theorem pe_callKG0 (F : FnG X.prog X.w X.K X.mg X.base k f fd ps sp) (hr : Room k X.A) (hg : X.A.guards = some []) (gl : Gl X x) (hm : X.mg x = some (.ref f)) (hk : PySem.W.keepIn X.K (.ref f) = true) (hb : KB X.K fd ps ks 0 pm ds) (hd : Vals dvs ds) (tk : Takes X Wx)
    (hpm : ∀ i ∈ pm, i < 0 + ks.length + dvs.length) (hkw : PK X kws t2) (hall : (backToKw pos (keywordEach kws X.env)).all (·.1.isSome) = true := by rfl) (hks : (backToKw pos (keywordEach kws X.env)).filterMap (·.1) = ks := by rfl)
    (hdb : (x == ("__debug__" : Str)) = false := by decide)
    (hpl : ((backTo pos (starEach [] X.env)).any (·.1) || (backToKw pos (keywordEach kws X.env)).any (·.1.isNone)) = false := by rfl) :
    PE X (.Call (.Name x p) [] kws pos) (tCallG sp [] Wx (tKw 0 ks.length pm dvs tNil t2)) := PE.mk fun pins s σ H Q I h => by
  refine wpAny_Call_Name_kw (ld_glob I gl hm ?_ hdb)
  refine PySem.W.callWith_KW0 (h₀ := X.base) I.ok.mod.kin hk hall ?_ hpl
  refine thn (hkw.run pos pins s σ H _ I h) fun ws s2 ⟨zs, H2, I2, rz, l1, l2, q2⟩ => ⟨I2.kIn, ?_⟩
  rw [hks]
  exact goKG (us := []) (vs := []) F hr hg hb hd tk hpm I2 .nil rz l1 l2 q2
end

/-! ### the data in the parameters' order -/
def dPick (pm : List Nat) (dd : List D) (ms : M (List D)) : M (List D) := fun env => (ms env).bind fun ds e => .ok (pick pm (ds ++ dd)) e
section
variable {W : Wd} {X : Cx} {Wx : WX} {O : List Nat} {e : Expr} {es : List Expr} {kws : List Keyword} {m : M D} {ms : M (List D)} {p p1 p2 : Bool} {z z1 : Nat} {L : Lab} {H : Hp}
theorem AllZ.app {ds dd : List D} {vs dvs : List V} (h : AllZ W L H z ds vs) (hz : z ≠ 1) (dflt : ∀ (Z : Addr → Prop) (H : Hp), RpL W Z H dd dvs) : AllZ W L H z (ds ++ dd) (vs ++ dvs) := by
  have ld := (dflt No H).length
  refine ⟨by rw [List.length_append, List.length_append, h.1, ld], fun i d v h1 h2 => ?_⟩
  by_cases q : i < ds.length
  · rw [List.getElem?_append_left q] at h1
    rw [List.getElem?_append_left (h.1 ▸ q)] at h2
    exact h.2 i d v h1 h2
  · have q := Nat.le_of_not_lt q
    rw [List.getElem?_append_right q] at h1
    rw [List.getElem?_append_right (h.1 ▸ q), ← h.1] at h2
    obtain ⟨v', w1, w2⟩ := (dflt No H).getD h1
    obtain ⟨v2, y1, y2⟩ := (dflt (Zo L) H).getD h1
    rw [h2] at w1 y1
    rw [← Option.some.inj w1] at w2
    rw [← Option.some.inj y1] at y2
    match z, hz with
    | 0, _ => exact w2
    | z + 2, _ => exact y2
theorem AllZ.pick {ds : List D} {vs : List V} {pm : List Nat} (h : AllZ W L H z ds vs) (hp : ∀ i ∈ pm, i < ds.length) : AllZ W L H z (DL.pick pm ds) (DL.pick pm vs) := by
  have hp' : ∀ i ∈ pm, i < vs.length := fun i m => h.1 ▸ hp i m
  refine ⟨by rw [pick_len hp, pick_len hp'], fun j d v h1 h2 => ?_⟩
  rw [pick_get hp] at h1
  rw [pick_get hp'] at h2
  cases q : pm[j]? with
  | none => rw [q] at h1; cases h1
  | some i =>
    rw [q] at h1 h2
    exact h.2 i d v h1 h2
theorem snd_pick {n k : Nat} {pm : List Nat} {dd : List D} {dvs : List V} {t1 t2 : TA}
    (s : ∀ (G : Gh) (L : Lab) (env : EnvD) (σ : L2.St) (H : Hp) (Q : List V → List V → Hp → Prop), Rel W G O L env σ H → PostAr W G O L p z Wx env σ H (fun l H => ∀ vs zs, l = vs ++ zs → vs.length = n → Q vs zs H) (ms env) → t1 σ H fun vs H1 => t2 σ H1 fun zs H2 => Q vs zs H2)
    (ln : ∀ env ds e, ms env = .ok ds e → ds.length = n + k) (hz : z ≠ 1) (dflt : ∀ (Z : Addr → Prop) (H : Hp), RpL W Z H dd dvs) (hpm : ∀ i ∈ pm, i < n + k + dd.length)
    (G : Gh) (L : Lab) (env : EnvD) (σ : L2.St) (H : Hp) (Q : List V → Hp → Prop) (R : Rel W G O L env σ H) (h : PostAr W G O L p z Wx env σ H Q (dPick pm dd ms env)) : tKw n k pm dvs t1 t2 σ H Q := by
  refine s G L env σ H (fun vs zs H => vs.length = n ∧ zs.length = k ∧ Q (DL.pick pm (vs ++ zs ++ dvs)) H) R ?_
  unfold dPick at h
  cases q1 : ms env with
  | bad => rw [q1] at h; exact h.elim
  | exc c a e => rw [q1] at h; exact h
  | ok ds e1 =>
    rw [q1] at h
    intro l H1 R1 E1 P1 A vs zs el l1
    have h : PostAr W G O L p z Wx env σ H Q (.ok (DL.pick pm (ds ++ dd)) e1) := h
    have len := ln _ _ _ q1
    have l2 : zs.length = k := by
      have := A.1
      rw [el, List.length_append, len, l1] at this
      omega
    refine ⟨l1, l2, h _ H1 R1 E1 P1 ?_⟩
    rw [← el]
    exact (A.app hz dflt).pick fun i m => by
      rw [List.length_append, len]
      exact hpm i m
theorem dpick_len {a : Nat} {pm : List Nat} {dd : List D} (ln : ∀ env ds e, ms env = .ok ds e → ds.length = a) (hpm : ∀ i ∈ pm, i < a + dd.length) : ∀ env ds e, dPick pm dd ms env = .ok ds e → ds.length = pm.length := fun env ds e h => by
  unfold dPick at h
  cases q1 : ms env with
  | bad => rw [q1] at h; cases h
  | exc c a e => rw [q1] at h; cases h
  | ok d1 e1 =>
    rw [q1] at h
    cases h
    exact pick_len fun i m => by
      rw [List.length_append, ln _ _ _ q1]
      exact hpm i m
end
section
variable {W : Wd} {X : Cx} {Wx : WX} {O : List Nat} {e : Expr} {es : List Expr} {kws : List Keyword} {ms : M (List D)} {p : Bool} {x : Str} {p0 pos : Pos} {k j fr ar n0 z : Nat} {f : Addr} {fd : FuncData} {ps ks : List Str} {FF : FM} {dvs : List V} {vds : List Value} {dd : List D} {pm : List Nat}
theorem dflt_cons {Z : Addr → Prop} {H : Hp} {d : D} {v : V} {ds : List D} {vs : List V} (h : Rp W Z H d v) (r : RpL W Z H ds vs) : RpL W Z H (d :: ds) (v :: vs) := by
  unfold RpL
  exact ⟨v, vs, rfl, h, r⟩
theorem lt_all {a b : Nat} {pm : List Nat} (h : (pm.all fun i => decide (i < a)) = true) (e : a ≤ b) : ∀ i ∈ pm, i < b := fun i m => Nat.lt_of_lt_of_le (of_decide_eq_true (List.all_eq_true.mp h i m)) e
theorem do_callK (F : FnG X.prog X.w X.K X.mg X.base j f fd ps (spD W 0 fr ar FF)) (hr : Room k X.A) (hj : j ≤ k) (hg : X.A.guards = some []) (gl : Gl X x) (hm : X.mg x = some (.ref f)) (hk : PySem.W.keepIn X.K (.ref f) = true) (hb : KBx X.K fd ps ks (es.length + 1) pm dvs) (tk : Takes X Wx)
    (dflt : ∀ (Z : Addr → Prop) (H : Hp), RpL W Z H dd dvs) (ha : DKw W X Wx O (e :: es) kws ms 2 p) (hp : (pm.all fun i => decide (i < (e :: es).length + ks.length + dd.length)) = true := by rfl) (hl : dd.length = dvs.length := by rfl) (hkl : kws.length = ks.length := by rfl) (hn : ps.length = ar := by rfl) (ha2 : pm.length = ar := by rfl)
    (hall : (backToKw pos (keywordEach kws X.env)).all (·.1.isSome) = true := by rfl) (hks : (backToKw pos (keywordEach kws X.env)).filterMap (·.1) = ks := by rfl)
    (hdb : (x == ("__debug__" : Str)) = false := by decide) (he : starEach (e :: es) X.env = (false, eval e X.env) :: starEach es X.env := by rfl)
    (hpl : ((backTo pos (starEach (e :: es) X.env)).any (·.1) || (backToKw pos (keywordEach kws X.env)).any (·.1.isNone)) = false := by rfl) :
    DO W X Wx O (.Call (.Name x p0) (e :: es) kws pos) (dCall FF [] (dPick pm dd ms)) fr p := by
  obtain ⟨k', ln, t1, t2, pa, pk, s⟩ := ha
  obtain ⟨vds, hd, hb⟩ := hb
  have hpm := lt_all hp (Nat.le_refl _)
  refine ⟨k', _, pe_callKG (F.mono hj) hr hg gl hm hk hb hd tk (by rw [← hl]; exact hpm) pa pk hall hks hdb he hpl, fun G L env σ H Q R h => snd_call trivial (fun _ _ => no_dflt) hn (snd_pick (n := es.length + 1) (k := ks.length) s (fun env ds e z => by rw [ln _ _ _ z, hkl]; rfl) (by decide) dflt hpm) (fun env ds e z => ?_) R h⟩
  rw [List.append_nil, dpick_len (a := es.length + 1 + ks.length) (fun env ds e z => by rw [ln _ _ _ z, hkl]; rfl) hpm _ _ _ z]
  exact ha2
theorem do_callK0 (F : FnG X.prog X.w X.K X.mg X.base j f fd ps (spD W 0 fr ar FF)) (hr : Room k X.A) (hj : j ≤ k) (hg : X.A.guards = some []) (gl : Gl X x) (hm : X.mg x = some (.ref f)) (hk : PySem.W.keepIn X.K (.ref f) = true) (hb : KBx X.K fd ps ks 0 pm dvs) (tk : Takes X Wx)
    (dflt : ∀ (Z : Addr → Prop) (H : Hp), RpL W Z H dd dvs) (ha : DKs W X Wx O kws ms 2 p) (hp : (pm.all fun i => decide (i < 0 + ks.length + dd.length)) = true := by rfl) (hl : dd.length = dvs.length := by rfl) (hkl : kws.length = ks.length := by rfl) (hn : ps.length = ar := by rfl) (ha2 : pm.length = ar := by rfl)
    (hall : (backToKw pos (keywordEach kws X.env)).all (·.1.isSome) = true := by rfl) (hks : (backToKw pos (keywordEach kws X.env)).filterMap (·.1) = ks := by rfl)
    (hdb : (x == ("__debug__" : Str)) = false := by decide)
    (hpl : ((backTo pos (starEach [] X.env)).any (·.1) || (backToKw pos (keywordEach kws X.env)).any (·.1.isNone)) = false := by rfl) :
    DO W X Wx O (.Call (.Name x p0) [] kws pos) (dCall FF [] (dPick pm dd ms)) fr p := by
  obtain ⟨k', ln, t2, pk, s⟩ := ha
  obtain ⟨vds, hd, hb⟩ := hb
  have hpm := lt_all hp (Nat.le_refl _)
  refine ⟨k', _, pe_callKG0 (F.mono hj) hr hg gl hm hk hb hd tk (by rw [← hl]; exact hpm) pk hall hks hdb hpl, fun G L env σ H Q R h => snd_call trivial (fun _ _ => no_dflt) hn
    (snd_pick (t1 := tNil) (n := 0) (fun G L env σ H Q R h => s G L env σ H _ R (h.imp fun l H z => z [] l rfl rfl)) (fun env ds e z => by rw [ln _ _ _ z, Nat.zero_add]; exact hkl) (by decide) dflt hpm) (fun env ds e z => ?_) R h⟩
  rw [List.append_nil, dpick_len (a := 0 + ks.length) (fun env ds e z => by rw [ln _ _ _ z, Nat.zero_add]; exact hkl) hpm _ _ _ z]
  exact ha2
end
end DL
/-! DLEnd: the law's own promise. -/
namespace DL
open PySem PySem.Spec PyProof.Rows L2
/-- no object's fields are tracked -/
def W0 (K : PySem.W.Frag) : Wd := ⟨K, fun _ _ _ _ => False, fun _ h => h, fun _ h => h⟩
theorem law_sp {W : Wd} {F : FM} {H : Hp} {a : Addr} {ns : List Int} (hS : RoL W.K H a (ns.map V.int)) (hl : ns.length ≤ sizeLine) (h : ∃ io, F [.ro (ns.map D.int)] = .ok (.bool true) io) : spD W 0 0 1 F [.ref a] H (fun v _ => v = .bl true) fun _ _ _ => False := by
  obtain ⟨io, h⟩ := h
  refine ⟨rfl, ghN H, [.ro (ns.map D.int)], rfl, rfl, ⟨rfl, fun i d v h1 h2 => ?_, fun a z => (z rfl).elim, fun hn => (hn rfl).elim⟩, ?_⟩
  · cases i with
    | succ i => simp at h1
    | zero =>
      cases h1
      cases h2
      show Rp W _ H (.ro (ns.map D.int)) (.ref a)
      unfold Rp
      refine ⟨a, _, rfl, ⟨hS, by rw [List.length_map]; exact hl⟩, ?_⟩
      clear h hl hS
      induction ns with
      | nil => exact no_dflt
      | cons n ns ih => exact dflt_cons rp_int ih
  · rw [h]
    intro v H' L' _ _ _ _ _ _ o
    have o : Rp W (Zo L') H' (.bool true) v := o
    unfold Rp at o
    exact o
end DL
/-! DLBad: what is not covered has no answer; it is fine where it is never reached. -/
namespace DL
open PySem PySem.Spec PyProof.Rows L2
def dBad : M D := fun _ => .bad
def dBadT : M Bool := fun _ => .bad
def dBadL : M (List D) := fun _ => .bad
def dBadS : MS := fun _ => .bad
section
variable {W : Wd} {X : Cx} {Wx : WX} {F : Fc} {O O' : List Nat} {e tg : Expr} {st : Stmt} {z n : Nat} {p : Bool}
theorem pe_false : PE X e (fun _ _ _ => False) := ⟨by intros; contradiction⟩
theorem ps_false : PS X st (fun _ _ _ => False) := ⟨by intros; contradiction⟩
theorem pi_false : PI X tg e (fun _ _ _ => False) := ⟨by intros; contradiction⟩
theorem de_bad (k : X.K = W.K := by rfl) : DE W X Wx O e dBad z p := ⟨k, _, pe_false, fun _ _ _ _ _ _ _ h => h⟩
theorem do_bad (k : X.K = W.K := by rfl) : DO W X Wx O e dBad n p := ⟨k, _, pe_false, fun _ _ _ _ _ _ _ h => h⟩
theorem di_bad (k : X.K = W.K := by rfl) : DI W X Wx O tg e dBadL p := ⟨k, _, pi_false, fun _ _ _ _ _ _ _ h => h⟩
theorem ds_bad (k : X.K = W.K := by rfl) : DS W X Wx F O st dBadS O' := ⟨k, _, ps_false, fun _ _ _ _ _ _ _ _ h => h⟩
theorem nx_bad : NoNx dBadS := fun env e h => by cases h
end
end DL
/-! DLIsi: isinstance of two built-in types. -/
namespace DL
open PySem PySem.Spec PyProof.Rows L2
section
variable {W : Wd} {X : Cx} {Wx : WX} {O : List Nat} {e : Expr} {m : M D} {z : Nat} {p : Bool} {pos : Pos}
def dIsT2 (c1 c2 : String) (d : D) : Option D := (dTy d).map fun t => .bool (isK t c1 || isK t c2)
theorem kitAny2 {K : PySem.W.Frag} {d : D} {t c1 c2 : String} (e : dTy d = some t) (h1 : c1 = "str" ∨ c1 = "int" ∨ c1 = "tuple" ∨ c1 = "list" ∨ c1 = "bool" ∨ c1 = "dict") (h2 : c2 = "str" ∨ c2 = "int" ∨ c2 = "tuple" ∨ c2 = "list" ∨ c2 = "bool" ∨ c2 = "dict") :
    PySem.W.kitAny K (.type t) [.type c1, .type c2] = some (isK t c1 || isK t c2) := by
  refine kitAny_cons (kitOne_is e h1) (fun hb => kitAny_cons (kitOne_is e h2) (fun hb2 => ?_) (fun hb2 => ?_)) fun hb => ?_
  · rw [hb, hb2, kitAny_nil]
    rfl
  · rw [hb, hb2]
    rfl
  · rw [hb]
    rfl
theorem de_isiT {x1 x2 : Str} {c1 c2 : String} {p0 p1 p2 p3 : Pos} {n : Nat} (h : DE W X Wx O e m z p) (k2 : z ≤ 2 := by decide) (hg : Gl X "isinstance" := by rfl) (hm : X.mg "isinstance" = none) (hg1 : Gl X x1 := by rfl) (hm1 : X.mg x1 = none) (hb1 : bootBuiltins x1 = some (.type c1) := by decide +kernel)
    (hg2 : Gl X x2 := by rfl) (hm2 : X.mg x2 = none) (hb2 : bootBuiltins x2 = some (.type c2) := by decide +kernel)
    (hc1 : c1 = "str" ∨ c1 = "int" ∨ c1 = "tuple" ∨ c1 = "list" ∨ c1 = "bool" ∨ c1 = "dict" := by decide) (hn1 : x1 ≠ "__name__" := by decide) (hd1 : (x1 == ("__debug__" : Str)) = false := by decide)
    (hc2 : c2 = "str" ∨ c2 = "int" ∨ c2 = "tuple" ∨ c2 = "list" ∨ c2 = "bool" ∨ c2 = "dict" := by decide) (hn2 : x2 ≠ "__name__" := by decide) (hd2 : (x2 == ("__debug__" : Str)) = false := by decide)
    (he : starEach (e :: [.Tuple [.Name x1 p1, .Name x2 p2] n p3]) X.env = (false, eval e X.env) :: starEach [.Tuple [.Name x1 p1, .Name x2 p2] n p3] X.env := by rfl)
    (hst : starEach (.Tuple [.Name x1 p1, .Name x2 p2] n p3 :: []) X.env = (false, eval (.Tuple [.Name x1 p1, .Name x2 p2] n p3) X.env) :: starEach [] X.env := by rfl)
    (hs1 : starEach (.Name x1 p1 :: [.Name x2 p2]) X.env = (false, eval (.Name x1 p1) X.env) :: starEach [.Name x2 p2] X.env := by rfl)
    (hs2 : starEach (.Name x2 p2 :: []) X.env = (false, eval (.Name x2 p2) X.env) :: starEach [] X.env := by rfl) (hpl : (backTo pos (starEach [.Tuple [.Name x1 p1, .Name x2 p2] n p3] X.env)).any (·.1) = false := by rfl) :
    DE W X Wx O (.Call (.Name "isinstance" p0) [e, .Tuple [.Name x1 p1, .Name x2 p2] n p3] [] pos) (dUn (dIsT2 c1 c2) m) 2 p := by
  obtain ⟨k, t, pe, s⟩ := h
  refine ⟨k, _, L2.pe_callB call_isiT hg hm (by decide +kernel) (pa_cons pe (pa_cons (pe_tup (pa_cons (pe_bltn hg1 hm1 hb1 (v := V.ty c1) rfl hn1 hd1) (pa_cons (pe_bltn hg2 hm2 hb2 (v := V.ty c2) rfl hn2 hd2) pa_nil hs2) hs1)) pa_nil hst) he) (by decide) (by decide) he hpl, fun G L env σ H Q R h => s G L env σ H _ R ?_⟩
  unfold dUn at h
  cases q1 : m env with
  | bad => rw [q1] at h; exact h.elim
  | exc c a e => rw [q1] at h; exact h
  | ok d e1 =>
    rw [q1] at h
    intro v H1 R1 E1 P1 Z1
    have h : PostE W G O L p 2 Wx env σ H Q (lift (dIsT2 c1 c2 d) e1) := h
    unfold dIsT2 at h
    cases qt : dTy d with
    | none => rw [qt] at h; exact h.elim
    | some ty =>
      rw [qt] at h
      refine ⟨(by decide : 2 ≤ sizeLine), fun q nq => ?_⟩
      have ev : Ev W No H1 (upd H1 q (.tup [V.ty c1, V.ty c2])) := Ev.new nq
      have hq : Q (.bl (isK ty c1 || isK ty c2)) (upd H1 q (.tup [V.ty c1, V.ty c2])) := h _ _ (R1.pure ev) (E1.trans (ev.mono fun _ z _ => z.elim)) P1 rz2_bool
      refine ⟨v, q, _, .type ty, [.type c1, .type c2], isK ty c1 || isK ty c2, rfl, upd_same, .cons (.ty c1) (.cons (.ty c2) .nil), ?_, kitAny2 qt hc1 hc2, hq⟩
      rw [k]
      exact rp_ty (Rp.ev ev _ _ Z1.any) qt
end
end DL
/-! DLCompW: comprehensions over a list of one's own, within which nothing changes. -/
namespace DL
open PySem PySem.Spec PyProof.Rows L2
/-- the walk yields the data, as long as nothing changes -/
def ItemsOw (W : Wd) (J : It) (L : Lab) (H0 : Hp) (ds : List D) : Prop := ds.length ≤ sizeLine ∧ ∀ (i : Nat) (H : Hp), Ev W No H0 H →
  (i < ds.length → J.go i H ∧ ∀ x H', J.yld i H x H' → Ev W No H H' ∧ ∃ d, ds[i]? = some d ∧ Rp W (Zo L) H0 d x) ∧ (ds.length ≤ i → J.stop i H)
def IOw (W : Wd) (J : It) (L : Lab) (H0 : Hp) (ds : List D) : Prop := ItemsOk W J L H0 ds ∨ ItemsOw W J L H0 ds
theorem walks_iow {W : Wd} : Walks W true (IOw W) := by
  intro J L H1 ds I
  rcases I with I | I
  · exact walks_ok J L H1 ds I
  · refine ⟨I.1, fun L' H' f ev i => ?_⟩
    obtain ⟨h1, h2⟩ := I.2 i H' ev
    refine ⟨fun hi => ?_, h2⟩
    obtain ⟨g, y⟩ := h1 hi
    refine ⟨g, fun x H2 hy => ?_⟩
    obtain ⟨ev2, d, e1, e2⟩ := y x H2 hy
    have ev : Ev W No H1 H' := ev
    exact ⟨ev2, d, e1, Rp.ev ((ev.trans ev2).mono fun _ z _ => z.elim) _ _ (Rp.shun (fun a z hn => (f.lab a z).resolve_right hn) _ _ e2)⟩
theorem items_lstw {W : Wd} {L : Lab} {H : Hp} {K : PySem.W.Frag} {a : Addr} {vs : List V} {ds : List D} (h : H a = some (.lst vs)) (sz : vs.length ≤ sizeLine) (r : RpL W (Zo L) H ds vs) : ItemsOw W (Itl K a) L H ds := by
  refine ⟨by rw [r.length]; exact sz, fun i H' ev => ?_⟩
  have h' : SqL K H' a vs := SqL.of (ev.lst a vs h fun z => z)
  refine ⟨fun hi => ?_, fun hi => ⟨vs, h', by rw [← r.length]; exact hi⟩⟩
  obtain ⟨v, h1, h2⟩ := r.getD (List.getElem?_eq_getElem hi)
  refine ⟨⟨vs, v, h', h1⟩, fun y H2 hy => ?_⟩
  obtain ⟨rfl, hy⟩ := hy
  have := hy vs h'
  rw [h1] at this
  rw [← Option.some.inj this]
  exact ⟨Ev.refl, _, List.getElem?_eq_getElem hi, h2⟩
structure DIw (W : Wd) (X : Cx) (Wx : WX) (O : List Nat) (tg iter : Expr) (m : M (List D)) (p : Bool) : Prop where
  k : X.K = W.K
  run : ∃ wi, PI X tg iter wi ∧ ∀ (G : Gh) (L : Lab) (env : EnvD) (σ : L2.St) (H : Hp) (R : It → Hp → Prop), Rel W G O L env σ H → PostIg W (IOw W) G O L p Wx env σ H R (m env) → wi σ H R
section
variable {W : Wd} {X : Cx} {Wx : WX} {O : List Nat} {tg e : Expr} {m : M D} {p : Bool}
theorem di_seqw (h : DE W X Wx O e m 1 p) : DIw W X Wx O tg e (dItems m) p := by
  obtain ⟨k, t, pe, s⟩ := h
  refine ⟨k, _, PI.or (pi_list pe) (PI.or (pi_tup pe) (pi_str pe)), fun G L env σ H R Rl h => ?_⟩
  unfold dItems at h
  cases q1 : m env with
  | bad => rw [q1] at h; exact h.elim
  | exc c a e =>
    rw [q1] at h
    refine .inl (s G L env σ H _ Rl ?_)
    rw [q1]
    exact h
  | ok d1 e1 =>
    rw [q1] at h
    have h : PostIg W (IOw W) G O L p Wx env σ H R (match items d1 with | some ds => .ok ds e1 | none => .bad) := h
    match d1, h, q1 with
    | .lst ds, h, q1 =>
      refine .inl (s G L env σ H _ Rl ?_)
      rw [q1]
      intro v H' R' E P Z
      obtain ⟨a, vs, rfl, h2, sz, h3⟩ := rz_lst Z
      exact ⟨a, rfl, ⟨vs, SqL.of h2⟩, h _ H' R' E P (.inr (items_lstw h2 sz h3))⟩
    | .ro ds, h, q1 =>
      refine .inl (s G L env σ H _ Rl ?_)
      rw [q1]
      intro v H' R' E P Z
      have Z : Rp W (Zo L) H' (.ro ds) v := Z
      unfold Rp at Z
      obtain ⟨a, vs, rfl, ⟨h2, sz⟩, h3⟩ := Z
      rw [← k] at h2
      refine ⟨a, rfl, ⟨vs, h2.sq⟩, h _ H' R' E P ?_⟩
      rw [k] at h2 ⊢
      exact .inl (items_ro h2 sz h3)
    | .tup ds, h, q1 =>
      refine .inr (.inl (s G L env σ H _ Rl ?_))
      rw [q1]
      intro v H' R' E P Z
      have Z : Rp W (Zo L) H' (.tup ds) v := Z
      unfold Rp at Z
      obtain ⟨a, vs, rfl, ⟨h2, sz⟩, h3⟩ := Z
      rw [← k] at h2
      refine ⟨a, rfl, ⟨vs, h2⟩, h _ H' R' E P ?_⟩
      rw [k] at h2 ⊢
      exact .inl (items_tup h2 sz h3)
    | .str x, h, q1 =>
      refine .inr (.inr (s G L env σ H _ Rl ?_))
      rw [q1]
      intro v H' R' E P Z
      have Z : Rp W (Zo L) H' (.str x) v := Z
      unfold Rp at Z
      subst Z
      have h : PostIg W (IOw W) G O L p Wx env σ H R (match (if x.length ≤ sizeLine then some (signs x) else none) with | some ds => .ok ds e1 | none => .bad) := h
      by_cases sz : x.length ≤ sizeLine
      · rw [if_pos sz] at h
        exact ⟨x, rfl, h _ H' R' E P (.inl (items_str sz))⟩
      · rw [if_neg sz] at h
        exact h.elim
    | .non, h, _ => exact h.elim
    | .bool _, h, _ => exact h.elim
    | .int _, h, _ => exact h.elim
    | .dic _, h, _ => exact h.elim
    | .obj _ _, h, _ => exact h.elim
end
section
variable {W : Wd} {X : Cx} {Wx : WX} {F : Fc} {O : List Nat} {elt tg iter c : Expr} {scope : Scope} {own : List (Str × Nat)} {src : M (List D)} {p : Bool} {gd : D → EnvD → Option EnvD} {is : List Nat} {mt : M Bool} {me : M D} {pos spos py : Pos} {i : Nat} {y : Str}
/-- [elt for tg in iter] -/
theorem do_lcw0 (hc : X.calm = true) (hN : X.N.Nodup) (hi : DIw W X Wx O tg iter src p) (ok : BlkOk X.N X.env.scope scope own)
    (hg : ∀ (s : Shared) (H : Hp) (C : Addr) (cl : List (Str × Addr)) (fp : List Addr), DG W (X.blk s H scope (compEnvC scope cl C X.env) fp) O tg gd is)
    (he : ∀ (s : Shared) (H : Hp) (C : Addr) (cl : List (Str × Addr)) (fp : List Addr), DE W (X.blk s H scope (compEnvC scope cl C X.env) fp) Wx0 O elt me 2 true) (hv : ∀ i ∈ is, i ∈ own.map (·.2)) (hl : O.length ≤ tmp := by decide) (h0 : O.getD 0 0 = 0 ∨ 0 ∉ own.map (·.2) := by decide)
    (hs : ∀ x, foldedSetIterable iter X.env x = pure x := by intro _; rfl) : DO W X Wx O (.ListComp elt [⟨tg, iter, [], 0⟩] scope pos) (dLc true src gd mYes me (own.map (·.2))) 1 (p && true) := by
  obtain ⟨k, wi, pi, si⟩ := hi
  refine ⟨k, _, pe_lc (tt := tT W Wx0 O mYes true) hc hN pi ok (fun s H C cl fp => (hg s H C cl fp).plain_) (fun s H C cl fp => ?_) (fun s H C cl fp => (he s H C cl fp).plain_) hs, fun G L env σ H Q R h => snd_lcG (IO := IOw W) (b := true) si walks_iow hv hl h0 R h⟩
  refine ⟨fun pins st σ H' Q I ⟨G, L, env, R, q⟩ => pts_nil.run pins st σ H' Q I ?_⟩
  exact q H' R Ev.refl fun _ => rfl
/-- [elt for tg in iter if c] -/
theorem do_lcw1 (hc : X.calm = true) (hN : X.N.Nodup) (hi : DIw W X Wx O tg iter src p) (ok : BlkOk X.N X.env.scope scope own)
    (hg : ∀ (s : Shared) (H : Hp) (C : Addr) (cl : List (Str × Addr)) (fp : List Addr), DG W (X.blk s H scope (compEnvC scope cl C X.env) fp) O tg gd is)
    (ht : ∀ (s : Shared) (H : Hp) (C : Addr) (cl : List (Str × Addr)) (fp : List Addr), DT W (X.blk s H scope (compEnvC scope cl C X.env) fp) Wx0 O c mt true)
    (he : ∀ (s : Shared) (H : Hp) (C : Addr) (cl : List (Str × Addr)) (fp : List Addr), DE W (X.blk s H scope (compEnvC scope cl C X.env) fp) Wx0 O elt me 2 true) (hv : ∀ i ∈ is, i ∈ own.map (·.2)) (hl : O.length ≤ tmp := by decide) (h0 : O.getD 0 0 = 0 ∨ 0 ∉ own.map (·.2) := by decide)
    (hs : ∀ x, foldedSetIterable iter X.env x = pure x := by intro _; rfl) : DO W X Wx O (.ListComp elt [⟨tg, iter, [c], 0⟩] scope pos) (dLc true src gd mt me (own.map (·.2))) 1 (p && true) := by
  obtain ⟨k, wi, pi, si⟩ := hi
  exact ⟨k, _, pe_lc hc hN pi ok (fun s H C cl fp => (hg s H C cl fp).plain_) (fun s H C cl fp => pts_one (ht s H C cl fp).plain_) (fun s H C cl fp => (he s H C cl fp).plain_) hs, fun G L env σ H Q R h => snd_lcG (IO := IOw W) (b := true) si walks_iow hv hl h0 R h⟩
/-- y = [elt for tg in iter] -/
theorem ds_lcw0 (hc : X.calm = true) (hN : X.N.Nodup) (hy : X.N[i]? = some y) (hyl : X.env.scope.names.lookup y = some .local) (hsw : swapsWith (.ListComp elt [⟨tg, iter, [], 0⟩] scope pos) (some (.Name y py)) spos.line X.env = pure true)
    (hi : DIw W X Wx O tg iter src p) (ok : BlkOk X.N X.env.scope scope own)
    (hg : ∀ (s : Shared) (H : Hp) (C : Addr) (cl : List (Str × Addr)) (fp : List Addr), DG W (X.blk s H scope (compEnvC scope cl C X.env) fp) O tg gd is)
    (he : ∀ (s : Shared) (H : Hp) (C : Addr) (cl : List (Str × Addr)) (fp : List Addr), DE W (X.blk s H scope (compEnvC scope cl C X.env) fp) Wx0 O elt me 2 true) (hv : ∀ i ∈ is, i ∈ own.map (·.2)) (hl : O.length ≤ tmp := by decide) (h0 : O.getD 0 0 = 0 ∨ 0 ∉ own.map (·.2) := by decide)
    (hi0 : i ≠ 0 ∨ O.getD 0 0 = 0 := by decide) (il : i < O.length := by decide) (cx : thinB O F.ox = true := by decide)
    (hs : ∀ x, foldedSetIterable iter X.env x = pure x := by intro _; rfl) : DS W X Wx F O (.Assign [.Name y py] (.ListComp elt [⟨tg, iter, [], 0⟩] scope pos) spos) (dSet i (dLc true src gd mYes me (own.map (·.2)))) (O.set i 1) := by
  obtain ⟨k, wi, pi, si⟩ := hi
  refine ⟨k, _, ps_setLc (tt := tT W Wx0 O mYes true) hc hN hy hyl hsw pi ok (fun s H C cl fp => (hg s H C cl fp).plain_) (fun s H C cl fp => ?_) (fun s H C cl fp => (he s H C cl fp).plain_) hs, snd_setO (p := p && true) (n := 1) (fun G L env σ H Q R h => snd_lcG (IO := IOw W) (b := true) si walks_iow hv hl h0 R h) hi0 hl il cx⟩
  refine ⟨fun pins st σ H' Q I ⟨G, L, env, R, q⟩ => pts_nil.run pins st σ H' Q I ?_⟩
  exact q H' R Ev.refl fun _ => rfl
/-- y = [elt for tg in iter if c] -/
theorem ds_lcw1 (hc : X.calm = true) (hN : X.N.Nodup) (hy : X.N[i]? = some y) (hyl : X.env.scope.names.lookup y = some .local) (hsw : swapsWith (.ListComp elt [⟨tg, iter, [c], 0⟩] scope pos) (some (.Name y py)) spos.line X.env = pure true)
    (hi : DIw W X Wx O tg iter src p) (ok : BlkOk X.N X.env.scope scope own)
    (hg : ∀ (s : Shared) (H : Hp) (C : Addr) (cl : List (Str × Addr)) (fp : List Addr), DG W (X.blk s H scope (compEnvC scope cl C X.env) fp) O tg gd is)
    (ht : ∀ (s : Shared) (H : Hp) (C : Addr) (cl : List (Str × Addr)) (fp : List Addr), DT W (X.blk s H scope (compEnvC scope cl C X.env) fp) Wx0 O c mt true)
    (he : ∀ (s : Shared) (H : Hp) (C : Addr) (cl : List (Str × Addr)) (fp : List Addr), DE W (X.blk s H scope (compEnvC scope cl C X.env) fp) Wx0 O elt me 2 true) (hv : ∀ i ∈ is, i ∈ own.map (·.2)) (hl : O.length ≤ tmp := by decide) (h0 : O.getD 0 0 = 0 ∨ 0 ∉ own.map (·.2) := by decide)
    (hi0 : i ≠ 0 ∨ O.getD 0 0 = 0 := by decide) (il : i < O.length := by decide) (cx : thinB O F.ox = true := by decide)
    (hs : ∀ x, foldedSetIterable iter X.env x = pure x := by intro _; rfl) : DS W X Wx F O (.Assign [.Name y py] (.ListComp elt [⟨tg, iter, [c], 0⟩] scope pos) spos) (dSet i (dLc true src gd mt me (own.map (·.2)))) (O.set i 1) := by
  obtain ⟨k, wi, pi, si⟩ := hi
  exact ⟨k, _, ps_setLc hc hN hy hyl hsw pi ok (fun s H C cl fp => (hg s H C cl fp).plain_) (fun s H C cl fp => pts_one (ht s H C cl fp).plain_) (fun s H C cl fp => (he s H C cl fp).plain_) hs, snd_setO (p := p && true) (n := 1) (fun G L env σ H Q R h => snd_lcG (IO := IOw W) (b := true) si walks_iow hv hl h0 R h) hi0 hl il cx⟩
end
end DL
/-! DLLenSet: len(set(e)) over data. -/
namespace DL
open PySem PySem.Spec PyProof.Rows L2 PySem.W
def lenSetV (ds : List D) : Option D := if (ds.all fun d => (keyD d).isSome) = true ∧ ds.length ≤ 1000 then some (.int (dedup keyD ds).length) else none
def lenSetT (ds : List D) : Option D := if (ds.all fun d => (lotD d).isSome) = true ∧ ds.length ≤ 62 then some (.int (dedup lotD ds).length) else none
def dLenSet (d : D) : Option D := match itemsOf d with
  | some ds => (match lenSetV ds with
    | some r => some r
    | none => lenSetT ds)
  | none => none
/-- a set that len can be asked of -/
def Sized {P : Program} {w : World} (T : Kit P w) : Prop := ∀ (h : Heap) (a : Addr) (L : List (T.K × Value)), T.hold h a L → ∃ o es ep t, h.get? a = some o ∧ o.ExactSet ∧ o.data = .set es ep t ∧ t.fits es.size = true ∧ es.size = L.length ∧ es.size < scanBound
theorem sizedV {P : Program} {w : World} : Sized (kitV P w) := fun h a L q => by
  obtain ⟨o, es, ep, t, ho, hex, hd, he, g, nd, hb, hf, hr, hl⟩ := q
  have e : es.size = L.length := by
    rw [← Array.length_toList, he]
    exact List.length_map ..
  exact ⟨o, es, ep, t, ho, hex, hd, hf, e, hb⟩
theorem sizedT {P : Program} {w : World} : Sized (kitT P w) := fun h a L q => by
  obtain ⟨es, ep, t, R⟩ := q
  obtain ⟨o, o1, o2, o3⟩ := R.obj
  have := R.size
  have := R.few
  exact ⟨o, es, ep, t, o1, o2, o3, R.fits, R.size, by unfold scanBound; omega⟩
def rLenSet (X : Cx) (T : Kit X.prog X.w) (rd : D → Option T.K) : List V → Hp → VK → Prop := fun xs H Q => ∃ (a : Addr) (ps : List (D × V)), xs = [.ref a] ∧ H a = some (SetOD T rd a ps) ∧ Q (.int ps.length) H
theorem each_len {α β : Type} {R : α → β → Prop} {xs : List α} {ys : List β} (e : EachIs R xs ys) : xs.length = ys.length := by
  induction e with
  | nil => rfl
  | cons _ _ ih => rw [List.length_cons, List.length_cons, ih]
theorem cr_lenSet {X : Cx} (T : Kit X.prog X.w) (sz : Sized T) {rd : D → Option T.K} : CallR X (.builtin "len") (rLenSet X T rd) := by
  intro pins s σ H xs us Q I r h
  obtain ⟨a, ps, rfl, ha, q⟩ := h
  rw [Vals.ref1 r]
  obtain ⟨⟨L, hL, e⟩, _⟩ := (show ObjOk X.prog X.w H s.heap a (.ext fun h => ∃ L, T.hold h a L ∧ EachIs (fun (q : T.K × Value) (p : D × V) => RelV p.2 q.2 ∧ rd p.1 = some q.1) L ps) from I.hok a _ ha)
  obtain ⟨o, es, ep, t, o1, o2, o3, fits, sl, sb⟩ := sz _ _ _ hL
  have el := each_len e
  refine call_len_set o1 o2 o3 fits (by unfold scanBound at sb; omega) ?_
  rw [sl, el]
  exact ⟨.int ps.length, H, I.tok _, ⟨_, rfl⟩, q⟩
section
variable {W : Wd} {X : Cx} {Wx : WX} {O : List Nat} {e : Expr} {m : M D} {z : Nat} {p : Bool} {p0 p1 pos pos1 : Pos}
theorem lenSet_sound {K : Type} [DecidableEq K] {T : Kit X.prog X.w} {rd : D → Option T.K} {rk : D → Option K} (k : X.K = W.K) (inj : ∀ a b x, rd a = some x → rd b = some x → a = b) (same : ∀ a b, rk a = rk b ↔ rd a = rd b)
    (hkey : ∀ (H : Hp) (p : D × V) (x : T.K), rd p.1 = some x → Rp W No H p.1 p.2 → KeyAt X T rd H p) {L : Lab} {H : Hp} {Q : VK} {ds : List D} {vs : List V} {a : Addr} (hs : SqL X.K H a vs ∨ SqT X.K H a vs) (r : RpL W (Zo L) H ds vs)
    (hall : ∀ d ∈ ds, (rd d).isSome = true) (hmost : ds.length ≤ T.most) (hq : ∀ H', Ev W No H H' → Q (.int (dedup rk ds).length) H') : rSetK X T rd [.ref a] H fun v H2 => rLenSet X T rd [v] H2 Q := by
  have ln := r.length
  have rz := rpl_zip r
  have mem1 : ∀ p ∈ ds.zip vs, p.1 ∈ ds := fun p hp => (List.of_mem_zip hp).1
  refine ⟨a, ds.zip vs, rfl, by rw [zip_snd ln]; exact hs, fun p hp => ?_, by rw [List.length_zip]; omega, fun b ps' nb sub nd cov => ?_⟩
  · obtain ⟨x, hx⟩ := Option.isSome_iff_exists.mp (hall _ (mem1 p hp))
    exact hkey H p x hx (Rp.shun (fun _ z _ => z.elim) _ _ (rz p hp))
  · have ev : Ev W No H (upd H b (SetOD T rd b ps')) := Ev.new nb
    have ind : ∀ p ∈ ps', p.1 ∈ ds := fun p hp => mem1 p (sub p hp)
    have nd1 : (ps'.map (·.1)).Nodup := by
      have e : (ps'.map fun p => rd p.1) = (ps'.map (·.1)).map rd := by rw [List.map_map]; rfl
      rw [e] at nd
      exact List.Pairwise.of_map rd (fun _ _ h e => h (congrArg rd e)) nd
    have nd2 : (dedup rk ds).Nodup := List.Pairwise.of_map rk (fun _ _ h e => h (congrArg rk e)) (dedup_nodup ds)
    have same_mem : ∀ d, d ∈ ps'.map (·.1) ↔ d ∈ dedup rk ds := fun d => by
      constructor
      · intro h
        obtain ⟨p, hp, rfl⟩ := List.mem_map.mp h
        obtain ⟨x, hx, ex⟩ := dedup_all (rd := rk) (ind p hp)
        obtain ⟨y, hy⟩ := Option.isSome_iff_exists.mp (hall _ (ind p hp))
        have e2 := (same _ _).mp ex
        rw [← inj _ _ y (e2.trans hy) hy]
        exact hx
      · intro h
        have hd := dedup_mem h
        obtain ⟨i, hi, ei⟩ := List.getElem_of_mem hd
        have hz : (d, vs[i]'(by omega)) ∈ ds.zip vs := by
          have hl : i < (ds.zip vs).length := by rw [List.length_zip]; omega
          have : (ds.zip vs)[i] = (d, vs[i]'(by omega)) := by rw [List.getElem_zip, ei]
          rw [← this]
          exact List.getElem_mem hl
        obtain ⟨q, hq, eq⟩ := cov _ hz
        obtain ⟨y, hy⟩ := Option.isSome_iff_exists.mp (hall _ hd)
        have : q.1 = d := inj _ _ y (eq.trans hy) hy
        exact List.mem_map.mpr ⟨q, hq, this⟩
    have pm : (ps'.map (·.1)).Perm (dedup rk ds) := (List.perm_ext_iff_of_nodup nd1 nd2).mpr same_mem
    have pl := pm.length_eq
    rw [List.length_map] at pl
    refine ⟨b, ps', rfl, upd_same, ?_⟩
    rw [pl]
    exact hq _ ev
theorem de_lenSet (h : DE W X Wx O e m z p) (hu : X.A.units + 70 < cLine) (hc : X.calm = true := by rfl) (hg : Gl X "len" := by rfl) (hm : X.mg "len" = none) (hg2 : Gl X "set" := by rfl) (hm2 : X.mg "set" = none) (l1 : 1 ≤ z := by decide) (k2 : z ≤ 2 := by decide)
    (hs1 : starEach [e] X.env = (false, eval e X.env) :: starEach [] X.env := by rfl)
    (hs2 : starEach [.Call (.Name "set" p1) [e] [] pos1] X.env = (false, eval (.Call (.Name "set" p1) [e] [] pos1) X.env) :: starEach [] X.env := by rfl) (hp1 : (backTo pos1 (starEach [] X.env)).any (·.1) = false := by rfl) (hp2 : (backTo pos (starEach [] X.env)).any (·.1) = false := by rfl) :
    DE W X Wx O (.Call (.Name "len" p0) [.Call (.Name "set" p1) [e] [] pos1] [] pos) (dUn dLenSet m) 2 p := by
  obtain ⟨k, t, pe, s⟩ := h
  have mk : ∀ (T : Kit X.prog X.w) (sz : Sized T) (rd : D → Option T.K), PE X (.Call (.Name "len" p0) [.Call (.Name "set" p1) [e] [] pos1] [] pos) (tCB (rLenSet X T rd) (tCons (tCB (rSetK X T rd) (tCons t tNil)) tNil)) := fun T sz rd =>
    L2.pe_callB (cr_lenSet T sz) hg hm (by decide +kernel) (pa_cons (L2.pe_callTy (cr_setK T hc (by omega)) hg2 hm2 (by decide +kernel) (pa_cons pe pa_nil hs1) (by decide) (by decide) hs1 hp1) pa_nil hs2) (by decide) (by decide) hs2 hp2
  refine ⟨k, _, PE.or (mk (kitV X.prog X.w) sizedV keyD) (mk (kitT X.prog X.w) sizedT lotD), fun G L env σ H Q R h => ?_⟩
  unfold dUn at h
  cases q1 : m env with
  | bad => rw [q1] at h; exact h.elim
  | exc c a e =>
    rw [q1] at h
    refine .inl (s G L env σ H _ R ?_)
    rw [q1]
    exact h
  | ok d e1 =>
    rw [q1] at h
    have h : PostE W G O L p 2 Wx env σ H Q (lift (dLenSet d) e1) := h
    unfold dLenSet at h
    cases qi : itemsOf d with
    | none => rw [qi] at h; exact h.elim
    | some ds =>
      rw [qi] at h
      have h : PostE W G O L p 2 Wx env σ H Q (lift (match lenSetV ds with | some r => some r | none => lenSetT ds) e1) := h
      have seen : ∀ {v : V} {H1 : Hp}, RpZ W L H1 1 d v → ∃ a vs, v = .ref a ∧ (SqL X.K H1 a vs ∨ SqT X.K H1 a vs) ∧ vs.length ≤ sizeLine ∧ RpL W (Zo L) H1 ds vs := fun {v H1} Z => by
        cases d with
        | lst xs =>
          cases qi
          obtain ⟨a, vs, rfl, h1, sz, r⟩ := rz_lst Z
          exact ⟨a, vs, rfl, .inl (SqL.of h1), sz, r⟩
        | ro xs =>
          cases qi
          obtain ⟨a, vs, rfl, h1, sz, r⟩ := rz_ro Z
          exact ⟨a, vs, rfl, .inl (by rw [k]; exact h1), sz, r⟩
        | tup xs =>
          cases qi
          obtain ⟨a, vs, rfl, h1, sz, r⟩ := rz_tup Z
          exact ⟨a, vs, rfl, .inr (by rw [k]; exact h1), sz, r⟩
        | _ => cases qi
      by_cases cv : (ds.all fun d => (keyD d).isSome) = true ∧ ds.length ≤ 1000
      · have ev : lenSetV ds = some (.int (dedup keyD ds).length) := if_pos cv
        rw [ev] at h
        have h : PostE W G O L p 2 Wx env σ H Q (.ok (.int (dedup keyD ds).length) e1) := h
        refine .inl (s G L env σ H _ R ?_)
        rw [q1]
        intro v H1 R1 E1 P1 Z1
        obtain ⟨a, vs, rfl, hs, sz, r⟩ := seen (Z1.le (.inl l1) k2)
        exact lenSet_sound (T := kitV X.prog X.w) (rd := keyD) (rk := keyD) k (fun a b x ha hb => keyD_inj ha hb) (fun a b => Iff.rfl) (fun H p x hx rx => keyV_at hx rx) hs r
          (fun d hd => List.all_eq_true.mp cv.1 d hd) (by show ds.length ≤ scanBound - 1; unfold scanBound; omega) fun H' ev => h _ H' (R1.pure ev) (E1.trans (ev.mono fun _ z _ => z.elim)) P1 rz2_int
      · have ev : lenSetV ds = none := if_neg cv
        rw [ev] at h
        have h : PostE W G O L p 2 Wx env σ H Q (lift (lenSetT ds) e1) := h
        by_cases ct : (ds.all fun d => (lotD d).isSome) = true ∧ ds.length ≤ 62
        · have et : lenSetT ds = some (.int (dedup lotD ds).length) := if_pos ct
          rw [et] at h
          have h : PostE W G O L p 2 Wx env σ H Q (.ok (.int (dedup lotD ds).length) e1) := h
          refine .inr (s G L env σ H _ R ?_)
          rw [q1]
          intro v H1 R1 E1 P1 Z1
          obtain ⟨a, vs, rfl, hs, sz, r⟩ := seen (Z1.le (.inl l1) k2)
          exact lenSet_sound (T := kitT X.prog X.w) (rd := lotD) (rk := lotD) k (fun a b x ha hb => lotD_inj ha hb) (fun a b => Iff.rfl) (fun H p x hx rx => keyT_at k hx rx) hs r
            (fun d hd => List.all_eq_true.mp ct.1 d hd) ct.2 fun H' ev => h _ H' (R1.pure ev) (E1.trans (ev.mono fun _ z _ => z.elim)) P1 rz2_int
        · have et : lenSetT ds = none := if_neg ct
          rw [et] at h
          exact h.elim
end
end DL
/-! DLDeep: lists of one's own lists: x[k].append(e), x[k].pop(), x[k] read, x[k] = e. -/
namespace DL
open PySem PySem.Spec PyProof.Rows L2
/-- a label that no slot has -/
def far : Nat := 5000000
section
variable {W : Wd} {G : Gh} {O : List Nat} {L : Lab} {env e2 : EnvD} {σ : L2.St} {H H2 : Hp} {n i : Nat}
/-- slot i is out of reach for a while -/
theorem Rel.away (R : Rel W G O L env σ H) (hi : i ≠ 0 ∨ G.n = 0) (il : i < O.length) (hl : O.length ≤ tmp) : Rel W G O (relabT i far L) (env.set i none) σ H := by
  have sh : ∀ d v, Rp W (Zo L) H d v → Rp W (Zo (relabT i far L)) H d v := fun d v => Rp.shun (fun a z _ => relabT_zo.mp z) d v
  refine ⟨by rw [List.length_set, R.len], fun j d e => ?_, fun a z => R.dom a (relabT_zo.mp z), R.ent, fun a l e => relabT_ne (R.ext a l e) fun q w => ?_, fun a l e g => ?_, R.first, fun hn a q e => ?_⟩
  · by_cases q : i = j
    · subst q
      rw [List.getElem?_set] at e
      split at e
      · split at e <;> cases e
      · rename_i w
        exact (w rfl).elim
    · rw [List.getElem?_set_ne q] at e
      obtain ⟨v, h1, h2⟩ := R.slot j d e
      exact ⟨v, h1, Ow.map sh _ [j] [j] d v (fun a r vs e1 e2 => ⟨relabT_ne e1 fun q' w => by
        have w : j :: r = i :: q' := w
        injection w with w1 _
        exact q w1.symm, e2⟩) h2⟩
  · rw [w] at e
    rcases G.hd a _ e with r | ⟨r, r2⟩
    · cases r
    · injection r2 with r3 _
      rcases hi with hi | hi
      · exact hi r3
      · exact G.no hi a q (by rw [e, r3])
  · rcases relabT_cases e with e | ⟨q, e, w⟩
    · exact R.loc a l e g
    · exact ⟨(R.loc a _ e g).1, far, q, w⟩
  · rcases relabT_cases e with e | ⟨q', e, w⟩
    · exact R.zero hn a q e
    · injection w with w _
      cases w
/-- .. and again within reach, forgotten -/
theorem Rel.home (R : Rel W G O L env σ H) (R2 : Rel W G O (relabT i far L) e2 σ H2) (hl : O.length ≤ tmp) : Rel W G O L (e2.set i none) σ H2 := by
  have sh : ∀ d v, Rp W (Zo (relabT i far L)) H2 d v → Rp W (Zo L) H2 d v := fun d v => Rp.shun (fun a z _ => relabT_zo.mpr z) d v
  refine ⟨by rw [List.length_set, R2.len], fun j d e => ?_, fun a z => R2.dom a (relabT_zo.mpr z), R2.ent, R.ext, R.loc, R2.first, R.zero⟩
  by_cases q : i = j
  · subst q
    rw [List.getElem?_set] at e
    split at e
    · split at e <;> cases e
    · rename_i w
      exact (w rfl).elim
  · rw [List.getElem?_set_ne q] at e
    obtain ⟨v, h1, h2⟩ := R2.slot j d e
    refine ⟨v, h1, ?_⟩
    by_cases hj : j < O.length
    · refine Ow.map sh _ [j] [j] d v (fun a r vs e1 e2 => ⟨?_, e2⟩) h2
      rcases relabT_cases e1 with e1 | ⟨q', e1, w⟩
      · exact e1
      · have w : j :: r = far :: q' := w
        injection w with w _
        unfold far at w
        unfold tmp at hl
        omega
    · have o : O.getD j 0 = 0 := by
        rw [List.getD_eq_getElem?_getD, List.getElem?_eq_none_iff.mpr (by omega)]
        rfl
      rw [o] at h2 ⊢
      exact sh d v h2
/-- a slot's datum is known again -/
theorem Rel.fill (R : Rel W G O L env σ H) {d : D} {v : V} (hv : σ[i]? = some (some v)) (h : Ow W L H (O.getD i 0) [i] d v) : Rel W G O L (env.set i (some d)) σ H := by
  refine ⟨by rw [List.length_set, R.len], fun j d' e => ?_, R.dom, R.ent, R.ext, R.loc, R.first, R.zero⟩
  by_cases q : i = j
  · subst q
    have hlt : i < env.length := by
      have := (List.getElem?_eq_some_iff.mp e).1
      simpa using this
    rw [List.getElem?_set_self hlt] at e
    have e' : d = d' := Option.some.inj (Option.some.inj e)
    subst e'
    exact ⟨v, hv, h⟩
  · rw [List.getElem?_set_ne q] at e
    exact R.slot j d' e
/-- the list that stands in slot i's list at j is rewritten -/
theorem Rel.mutn2 (R : Rel W G O L env σ H) {ds es' : List D} {a b : Addr} {vs ws ws' : List V} {j : Nat} (h : env[i]? = some (some (.lst ds))) (o : O.getD i 0 = 2) (hv : σ[i]? = some (some (.ref a))) (ha : L a = some [i]) (hh : H a = some (.lst vs)) (hln : ds.length = vs.length) (hsz : vs.length ≤ sizeLine)
    (r : ∀ (j : Nat) (d : D) (v : V), ds[j]? = some d → vs[j]? = some v → Ow W L H 1 ([i] ++ [j]) d v) (hj : vs[j]? = some (.ref b)) (hb : L b = some [i, j]) (hhb : H b = some (.lst ws)) (rl : RpL W (Zo L) H es' ws') (sz : ws'.length ≤ sizeLine) :
    Rel W G O L (env.set i (some (.lst (ds.set j (.lst es'))))) σ (upd H b (.lst ws')) := by
  have evB : Ev W (fun c => c = b) H (upd H b (.lst ws')) := Ev.put hhb rfl
  have evL : Ev W (Zo L) H (upd H b (.lst ws')) := evB.mono fun c z _ w => by rw [z, hb] at w; cases w
  have nab : a ≠ b := fun z => by
    rw [z, hb] at ha
    cases ha
  refine ⟨by rw [List.length_set, R.len], fun k d e => ?_, fun c z w => R.dom c z (evB.dom c w), R.entry evB fun c z => ⟨i, [j], by rw [z]; exact hb⟩, R.ext, R.loc, R.first, R.zero⟩
  by_cases q : i = k
  · subst q
    have hlt : i < env.length := (List.getElem?_eq_some_iff.mp h).1
    rw [List.getElem?_set_self hlt] at e
    have e' : D.lst (ds.set j (.lst es')) = d := Option.some.inj (Option.some.inj e)
    subst e'
    refine ⟨.ref a, hv, ?_⟩
    rw [o]
    refine ⟨a, vs, rfl, ha, by rw [upd_ne nab]; exact hh, ⟨by rw [List.length_set]; exact hln, hsz⟩, fun k d v h1 h2 => ?_⟩
    by_cases hk : j = k
    · subst hk
      have hjl : j < ds.length := by
        have := (List.getElem?_eq_some_iff.mp h1).1
        simpa using this
      rw [List.getElem?_set_self hjl] at h1
      cases h1
      rw [hj] at h2
      cases h2
      refine ⟨b, ws', rfl, hb, upd_same, ⟨rl.length, sz⟩, fun m d' v' q1 q2 => ?_⟩
      obtain ⟨v'', w1, w2⟩ := rl.getD q1
      rw [q2] at w1
      rw [Option.some.inj w1]
      exact Rp.ev evL _ _ w2
    · rw [List.getElem?_set_ne hk] at h1
      refine Ow.map (fun d v => Rp.ev evL d v) _ _ _ d v (fun c p us e1 e2 => ⟨e1, ?_⟩) (r k d v h1 h2)
      have ne : c ≠ b := fun z => by
        rw [z, hb] at e1
        have := Option.some.inj e1
        simp at this
        exact hk this.1
      rw [upd_ne ne]
      exact e2
  · rw [List.getElem?_set_ne q] at e
    obtain ⟨v', h1, h2⟩ := R.slot k d e
    refine ⟨v', h1, Ow.map (fun d v => Rp.ev evL d v) _ _ _ d v' (fun c p us e1 e2 => ⟨e1, ?_⟩) h2⟩
    have ne : c ≠ b := fun z => by
      rw [z, hb] at e1
      have := Option.some.inj e1
      simp at this
      exact q this.1
    rw [upd_ne ne]
    exact e2
end
/-- x[k].method(args): while the arguments are worked out, x is out of reach -/
def in2 (i : Nat) (FM : List D → List D → Option (D × List D)) (ms : M (List D)) (ds es : List D) (j : Nat) (e1 : EnvD) : Out D := match ms (e1.set i none) with
  | .ok args e2 => (match FM es args with
    | some r => .ok r.1 (e2.set i (some (.lst (ds.set j (.lst r.2)))))
    | none => .bad)
  | _ => .bad
def at2 (kd : D) (od : Option (Option D)) : Option (List D × Nat × List D) := match kd, od with
  | .int k, some (some (.lst ds)) => (match ixN ds.length k with
    | some j => (match ds[j]? with
      | some (.lst es) => some (ds, j, es)
      | _ => none)
    | none => none)
  | _, _ => none
theorem at2_some {kd : D} {od : Option (Option D)} {ds es : List D} {j : Nat} (h : at2 kd od = some (ds, j, es)) : ∃ k, kd = .int k ∧ od = some (some (.lst ds)) ∧ ixN ds.length k = some j ∧ ds[j]? = some (.lst es) := by
  unfold at2 at h
  split at h
  · rename_i k ds'
    split at h
    · rename_i j' hj
      split at h
      · rename_i es' he
        cases h
        exact ⟨k, rfl, rfl, hj, he⟩
      · cases h
    · cases h
  · cases h
def dMeth2 (i : Nat) (mk : M D) (FM : List D → List D → Option (D × List D)) (ms : M (List D)) : M D := fun env => match env[i]? with
  | some (some (.lst _)) => (mk env).bind fun kd e1 => (match at2 kd e1[i]? with
    | some (ds, j, es) => in2 i FM ms ds es j e1
    | none => .bad)
  | _ => .bad
section
variable {W : Wd} {X : Cx} {Wx : WX} {O : List Nat} {e kx : Expr} {es : List Expr} {ms : M (List D)} {mk : M D} {p pk : Bool} {zk : Nat}
theorem snd_meth2 {r : V → List V → Hp → VK → Prop} {FM : List D → List D → Option (D × List D)} {i : Nat} {t : TA} {tk : TE} (f : MF W r FM) (k0 : X.K = W.K) (sk : ∀ (G : Gh) (L : Lab) (env : EnvD) (σ : L2.St) (H : Hp) (Q : VK), Rel W G O L env σ H → PostE W G O L pk zk Wx env σ H Q (mk env) → tk σ H Q)
    (s : ∀ (G : Gh) (L : Lab) (env : EnvD) (σ : L2.St) (H : Hp) (Q : List V → Hp → Prop), Rel W G O L env σ H → PostAr W G O L p 2 Wx0 env σ H Q (ms env) → t σ H Q)
    (o : O.getD i 0 = 2) (hi0 : i ≠ 0 ∨ p = true) (il : i < O.length) (hl : O.length ≤ tmp) {G : Gh} {L : Lab} {env : EnvD} {σ : L2.St} {H : Hp} {Q : VK} (R : Rel W G O L env σ H) (h : PostE W G O L false 2 Wx env σ H Q (dMeth2 i mk FM ms env)) :
    tBM X.K "list" r (tOp (rIxL X.K) (tVar i) tk) t σ H Q := by
  unfold dMeth2 at h
  split at h
  · rename_i ds0 e0
    obtain ⟨a0, vs0, s0, l0, h0, _⟩ := R.top e0 o
    refine ⟨.ref a0, s0, sk G L env σ H _ R ?_⟩
    cases q : mk env with
    | bad => rw [q] at h; exact h.elim
    | exc c a e => rw [q] at h; exact h
    | ok kd e1 =>
      rw [q] at h
      intro y H1 R1 E1 P1 Z1
      have hh : ∀ r, at2 kd e1[i]? = r → PostE W G O L false 2 Wx env σ H Q (match r with
        | some (ds, j, es) => in2 i FM ms ds es j e1
        | none => .bad) := fun r e => by
        rw [← e]
        exact h
      cases qa : at2 kd e1[i]? with
      | none => exact (hh _ qa).elim
      | some tr =>
            obtain ⟨ds, j, es1⟩ := tr
            have hin : PostE W G O L false 2 Wx env σ H Q (in2 i FM ms ds es1 j e1) := hh _ qa
            clear hh h
            obtain ⟨k, rfl, ed, qx, qj⟩ := at2_some qa
            obtain ⟨a, vs, s1, l1, h1, h2, h3, h4⟩ := R1.top ed o
            rw [s0] at s1
            cases s1
            have hjv : j < vs.length := by
              rw [← h2]
              exact (List.getElem?_eq_some_iff.mp qj).1
            have oj := h4 j _ _ qj (List.getElem?_eq_getElem hjv)
            unfold Ow at oj
            obtain ⟨b, ws, hbv, hb, hhb, hlz, hit⟩ := oj
            have hjb : vs[j]? = some (.ref b) := by rw [List.getElem?_eq_getElem hjv, hbv]
            have hy : y = .int k := rz_int Z1
            have hat : atI vs k = some (.ref b) := by
              unfold atI
              rw [← h2, qx]
              exact hjb
            refine ⟨a0, vs, k, .ref b, rfl, hy, SqL.of h1, hat, .inl ⟨rfl, ws, SqL.of hhb⟩, ?_⟩
            have hin' : ∀ r, ms (e1.set i none) = r → PostE W G O L false 2 Wx env σ H Q (match r with
              | .ok args e2 => (match FM es1 args with
                | some r => .ok r.1 (e2.set i (some (.lst (ds.set j (.lst r.2)))))
                | none => .bad)
              | _ => .bad) := fun r e => by
              rw [← e]
              exact hin
            -- what is left once the arguments are there
            have fin : ∀ (args : List D) (e2 : EnvD) (us : List V) (H2 : Hp), ms (e1.set i none) = .ok args e2 → Rel W G O L (e2.set i none) σ H2 → (∀ c q xs, L c = some (i :: q) → H1 c = some (.lst xs) → H2 c = some (.lst xs)) → Ev W (Zo L) H1 H2 → Ev W (Zp false L) H1 H2 → RpL W (Zo L) H2 args us → e2.length = e1.length → r (.ref b) us H2 Q := by
              intro args e2 us H2 qm Rh evO ev12 evP A2 len2
              have h := hin' _ qm
              have h : PostE W G O L false 2 Wx env σ H Q (match FM es1 args with
                | some r => .ok r.1 (e2.set i (some (.lst (ds.set j (.lst r.2)))))
                | none => .bad) := h
              cases qf : FM es1 args with
              | none => rw [qf] at h; exact h.elim
              | some rr =>
                rw [qf] at h
                have h1' : H2 a0 = some (.lst vs) := evO a0 [] vs l1 h1
                have hb' : H2 b = some (.lst ws) := evO b [j] ws hb hhb
                have inner : ∀ (m : Nat) (d : D) (v : V), ds[m]? = some d → vs[m]? = some v → Ow W L H2 1 ([i] ++ [m]) d v := fun m d v q1 q2 =>
                  Ow.map (fun d v => Rp.ev ev12 d v) _ _ _ d v (fun c q xs e1 e2 => ⟨e1, evO c ([m] ++ q) xs (by rw [e1]; rfl) e2⟩) (h4 m d v q1 q2)
                have own : Ow W L H2 (O.getD i 0) [i] (.lst ds) (.ref a0) := by
                  rw [o]
                  exact ⟨a0, vs, rfl, l1, h1', ⟨h2, h3⟩, inner⟩
                have Rf := Rh.fill s0 own
                have hlt : i < e2.length := by
                  have := (List.getElem?_eq_some_iff.mp ed).1
                  rw [len2]
                  exact this
                have hset : ((e2.set i none).set i (some (.lst ds)))[i]? = some (some (.lst ds)) := List.getElem?_set_self (by rw [List.length_set]; exact hlt)
                have items : RpL W (Zo L) H2 es1 ws := RpL.of hlz.1 fun m d v q1 q2 => Rp.ev ev12 d v (hit m d v q1 q2)
                refine f L H2 b ws us es1 args rr.1 rr.2 Q hb' hlz.2 items A2 qf fun v ws' rl rv sz => ?_
                have R3 := Rf.mutn2 hset o s0 l1 h1' h2 h3 inner hjb hb hb' rl sz
                rw [List.set_set, List.set_set] at R3
                have evB : Ev W (fun c => c = b) H2 (upd H2 b (.lst ws')) := Ev.put hb' rfl
                have evL : Ev W (Zo L) H2 (upd H2 b (.lst ws')) := evB.mono fun c z _ w => by rw [z, hb] at w; cases w
                refine h v _ R3 ?_ (fun z => nomatch z) (Rp.ev evL _ v rv)
                exact ((E1.mono fun c z _ => Zp_mono (p := pk) (p' := false) (fun w => nomatch w) z).trans evP).trans (evB.mono fun c z _ => ⟨i, [j], by rw [z]; exact hb, by omega⟩)
            by_cases hp : p = true
            · subst hp
              refine s G L _ σ H1 _ (R1.drop i) ?_
              cases qm : ms (e1.set i none) with
              | bad => exact (hin' _ qm).elim
              | exc c a e => exact (hin' _ qm).elim
              | ok args e2 =>
                intro us H2 R2 E2 P2 A
                have E2 : Ev W No H1 H2 := E2
                refine fin args e2 us H2 qm (R2.drop i) (fun c q xs hc hx => E2.lst c xs hx fun z => z) (E2.mono fun _ z _ => z.elim) (E2.mono fun _ z _ => z.elim) A.two ?_
                rw [R2.len, ← R1.len]
            · refine s G _ _ σ H1 _ (R1.away (i := i) (.inl (hi0.resolve_right hp)) il hl) ?_
              cases qm : ms (e1.set i none) with
              | bad => exact (hin' _ qm).elim
              | exc c a e => exact (hin' _ qm).elim
              | ok args e2 =>
                intro us H2 R2 E2 P2 A
                have hp : p = false := by simpa using hp
                subst hp
                have nz : ∀ c q, L c = some (i :: q) → ¬ Zp false (relabT i far L) c := fun c q hc z => by
                  obtain ⟨m, q', hm, hlt⟩ := z
                  rw [relabT_t hc] at hm
                  have := (List.cons.inj (Option.some.inj hm)).1
                  unfold far at this
                  unfold tmp at hlt
                  omega
                refine fin args e2 us H2 qm (Rel.home R1 R2 hl) (fun c q xs hc hx => E2.lst c xs hx (nz c q hc)) (E2.mono fun c z _ => relabT_zo.mp z.sub) (E2.mono fun c z _ => ?_) (RpL.shun (fun c z _ => relabT_zo.mpr z) _ _ (show RpL W (Zo (relabT i far L)) H2 args us from A.two)) ?_
                · obtain ⟨m, q', hm, hlt⟩ := z
                  rcases relabT_cases hm with hm | ⟨q2, hm, w⟩
                  · exact ⟨m, q', hm, hlt⟩
                  · exact ⟨i, q2, hm, by omega⟩
                · rw [R2.len, ← R1.len]
  · exact h.elim
end
/-! ### a list of new lists -/
def D.isLst : D → Bool
  | .lst _ => true
  | _ => false
def okNew : List Nat → List D → Bool
  | n :: ns, d :: ds => (n == 1 || (n == 0 && !d.isLst)) && okNew ns ds
  | [], [] => true
  | _, _ => false
theorem okNew_at : ∀ {ns : List Nat} {ds : List D}, okNew ns ds = true → ∀ {j : Nat} {d : D}, ds[j]? = some d → ns.getD j 0 = 1 ∨ (ns.getD j 0 = 0 ∧ ∀ es, d ≠ .lst es)
  | [], [], _, j, d, h => by simp at h
  | [], _ :: _, h, _, _, _ => by cases h
  | _ :: _, [], h, _, _, _ => by cases h
  | n :: ns, d :: ds, h, j, d', hj => by
    unfold okNew at h
    obtain ⟨h1, h2⟩ := Bool.and_eq_true_iff.mp h
    cases j with
    | zero =>
      have e : d = d' := by simpa using hj
      subst e
      rcases Bool.or_eq_true_iff.mp h1 with h1 | h1
      · exact .inl (by simpa using h1)
      · obtain ⟨h3, h4⟩ := Bool.and_eq_true_iff.mp h1
        refine .inr ⟨by simpa using h3, fun es e => ?_⟩
        rw [e] at h4
        cases h4
    | succ j => exact okNew_at h2 (by simpa using hj)
def dLst2 (ns : List Nat) (ms : M (List D)) : M D := fun env => (ms env).bind fun ds e => if okNew ns ds = true then .ok (.lst ds) e else .bad
section
variable {W : Wd} {X : Cx} {Wx : WX} {O : List Nat} {es : List Expr} {ms : M (List D)} {ns : List Nat} {p : Bool}
def rel2 (l : List Nat) : List Nat := match l with
  | t :: q => tmp :: (t - (tmp + 2)) :: q
  | [] => [tmp]
theorem do_lst2 {pos : Pos} (h : DOs W X Wx O es ms 0 ns p) (hl : es.length ≤ 1000 := by decide) (ho : O.length ≤ tmp := by decide) : DO W X Wx O (.List es pos) (dLst2 ns ms) 2 p := by
  obtain ⟨k, ln, t, pa, s⟩ := h
  refine ⟨k, _, pe_lst pa, fun G L env σ H Q R h => s G L env σ H _ R ?_⟩
  unfold dLst2 at h
  cases q1 : ms env with
  | bad => rw [q1] at h; exact h.elim
  | exc c a e => rw [q1] at h; exact h
  | ok ds e1 =>
    rw [q1] at h
    have h : PostO W G O L p 2 Wx env σ H Q (if okNew ns ds = true then .ok (.lst ds) e1 else .bad) := h
    by_cases ok : okNew ns ds = true
    · rw [if_pos ok] at h
      intro vs H1 L1 N R1 R1' E1 P1
      have sz : vs.length ≤ sizeLine := Nat.le_of_lt (small1000 (by rw [← N.len, ln _ _ _ q1]; exact hl))
      refine ⟨sz, fun b nb => ?_⟩
      have nL : L b = none := R1'.free nb
      have nL1 : L1 b = none := R1.free nb
      let L2 := relabN rel2 L L1
      have by1 : Beyond O L L1 := fun a l z w => by
        obtain ⟨j, q, e⟩ := N.new a l z w
        exact ⟨_, q, e, by unfold tk; omega⟩
      have R2 : Rel W G O L2 e1 σ H1 := R1.relabN N.ext by1 (fun a l z w => by
        obtain ⟨j, q, e⟩ := N.new a l z w
        rw [e]
        exact ⟨tmp, _, rfl, ho, by decide⟩) R.ext
      have nL2 : L2 b = none := R2.free nb
      have R3 : Rel W G O (lay L2 b [tmp]) e1 σ (upd H1 b (.lst vs)) := R2.lay (o := .lst vs) nb (i := tmp) (q := [])
      have R3' : Rel W G O L e1 σ (upd H1 b (.lst vs)) := R1'.new nb
      have ev : Ev W No H1 (upd H1 b (.lst vs)) := Ev.new nb
      have ext2 : ∀ a l, L a = some l → L2 a = some l := fun a l z => relabN_old z
      have ext3 : ∀ a l, L a = some l → lay L2 b [tmp] a = some l := fun a l z => by
        rw [lay_ne (fun e => by rw [e, nL] at z; cases z)]
        exact ext2 a l z
      have lab : ∀ (a : Addr) (j : Nat) (q : List Nat), nl L L1 a = some (tk (0 + j) :: q) → nl L (lay L2 b [tmp]) a = some (tmp :: j :: q) ∧ a ≠ b := fun a j q e => by
        obtain ⟨x1, x2⟩ := nl_cons e
        have ne : a ≠ b := fun z => by rw [z, nL1] at x2; cases x2
        refine ⟨?_, ne⟩
        rw [nl_new x1, lay_ne ne]
        have := relabN_new (f := rel2) x1 x2
        rw [show L2 a = _ from this]
        show some (tmp :: (tk (0 + j) - (tmp + 2)) :: q) = _
        have : tk (0 + j) - (tmp + 2) = j := by unfold tk; omega
        rw [this]
      have free : RpL W (Zo L) (upd H1 b (.lst vs)) ds vs := RpL.of N.len fun j d v a1 a2 => by
        have o := N.at_ j d v a1 a2
        have r : Rp W (Zo L) H1 d v := Ow.thaw (L := nl L L1) (L' := L) (fun a z w => by
          cases q : L a with
          | none => exact z q
          | some l => unfold nl at w; rw [q] at w; cases w) _ _ d v (fun a q e => (nl_cons e).1) o
        exact Rp.ev (ev.mono fun _ z _ => z.elim) d v r
      have sh : ∀ d v, Rp W (Zo (nl L L1)) H1 d v → Rp W (Zo (nl L (lay L2 b [tmp]))) (upd H1 b (.lst vs)) d v := fun d v r => by
        refine Rp.ev (ev.mono fun _ z _ => z.elim) d v (Rp.shun (fun a z hn w => ?_) d v r)
        by_cases e : a = b
        · rw [e] at hn
          exact hn nb
        · have z1 := (nl_zo ext3).mp z
          unfold Zo at z1
          rw [lay_ne e] at z1
          have z2 := (relabN_zo N.ext).mp z1
          exact (nl_zo N.ext).mpr z2 w
      refine h (.ref b) _ (lay L2 b [tmp]) ⟨ext3, fun a l z w => ?_⟩ (fun a z => ?_) R3 R3' (E1.trans (ev.mono fun _ z _ => z.elim)) P1 ?_ ?_
      · by_cases e : a = b
        · rw [e, lay_same] at z
          exact ⟨[], (Option.some.inj z).symm⟩
        · rw [lay_ne e] at z
          rcases relabN_cases z with z | ⟨_, l1, z1, z2⟩
          · rw [w] at z; cases z
          · obtain ⟨j, q, e'⟩ := N.new a l1 z1 w
            rw [e'] at z2
            exact ⟨_, z2⟩
      · by_cases e : a = b
        · rw [e]
          exact .inr (E1.dom b nb)
        · rw [lay_ne e] at z
          exact N.nw a ((relabN_zo N.ext).mp z)
      · refine ⟨b, vs, rfl, by rw [nl_new nL]; exact lay_same, upd_same, ⟨N.len, sz⟩, fun j d v a1 a2 => ?_⟩
        have o := N.at_ j d v a1 a2
        rcases okNew_at ok a1 with e | ⟨e, nd⟩
        · rw [e] at o
          refine Ow.map sh 1 [tk (0 + j)] [tmp, j] d v (fun a q us x1 x2 => ?_) o
          obtain ⟨y1, y2⟩ := lab a j q x1
          exact ⟨y1, by rw [upd_ne y2]; exact x2⟩
        · rw [e] at o
          exact Ow.flat0 (q := []) (sh d v o) (.inr nd)
      · unfold Rp
        exact ⟨b, vs, rfl, fun z => z nL, ⟨upd_same, sz⟩, free⟩
    · rw [if_neg ok] at h
      exact h.elim
end
/-! ### reading, writing, methods -/
def dIxO (i : Nat) (mk : M D) : M D := fun env => match env[i]? with
  | some (some (.lst ds)) => (mk env).bind fun kd e => lift (dIx (.lst ds) kd) e
  | _ => .bad
section
variable {W : Wd} {X : Cx} {Wx : WX} {F : Fc} {O : List Nat} {e kx : Expr} {es : List Expr} {ms : M (List D)} {mk m2 : M D} {p pk : Bool} {zk i : Nat} {x nm : Str} {px pos apos cpos spos : Pos} {id : String}
/-- x[k], looked at -/
theorem de_ixO (pv : PE X (.Name x px) (tVar i)) (hk : DE W X Wx O kx mk zk true) (o : O.getD i 0 = 2 := by rfl) (hs : PlainIx kx := by exact fun _ _ => rfl) : DE W X Wx O (.Subscript (.Name x px) kx pos) (dIxO i mk) 1 true := by
  obtain ⟨k, tk, pk, sk⟩ := hk
  refine ⟨k, _, pe_ix ix_list pv pk hs, fun G L env σ H Q R h => ?_⟩
  unfold dIxO at h
  split at h
  · rename_i ds e0
    obtain ⟨a, vs, s0, l0, h0, h2, h3, h4⟩ := R.top e0 o
    refine ⟨.ref a, s0, sk G L env σ H _ R ?_⟩
    cases q : mk env with
    | bad => rw [q] at h; exact h.elim
    | exc c a e => rw [q] at h; exact h
    | ok kd e1 =>
      rw [q] at h
      intro y H1 R1 E1 P1 Z1
      have E1 : Ev W No H H1 := E1
      have h : PostE W G O L true 1 Wx env σ H Q (lift (dIx (.lst ds) kd) e1) := h
      cases kd with
      | int kk =>
        cases qa : atI ds kk with
        | none =>
          rw [show dIx (.lst ds) (.int kk) = atI ds kk from rfl, qa] at h
          exact h.elim
        | some d =>
          rw [show dIx (.lst ds) (.int kk) = atI ds kk from rfl, qa] at h
          unfold atI at qa
          cases qx : ixN ds.length kk with
          | none => rw [qx] at qa; cases qa
          | some j =>
            rw [qx] at qa
            have qa : ds[j]? = some d := qa
            have hjv : j < vs.length := by
              rw [← h2]
              exact (List.getElem?_eq_some_iff.mp qa).1
            have hat : atI vs kk = some vs[j] := by
              unfold atI
              rw [← h2, qx]
              exact List.getElem?_eq_getElem hjv
            have oj := h4 j d _ qa (List.getElem?_eq_getElem hjv)
            have ev : Ev W (Zo L) H H1 := E1.mono fun _ z _ => z.elim
            refine ⟨a, vs, kk, vs[j], rfl, rz_int Z1, SqL.of (E1.lst a vs h0 fun z => z), hat, h _ H1 R1 E1 P1 ?_⟩
            cases d with
            | lst es =>
              unfold Ow at oj
              obtain ⟨b, ws, x1, x2, x3, x4, x5⟩ := oj
              exact ⟨b, ws, x1, ⟨E1.lst b ws x3 fun z => z, x4.2⟩, RpL.of x4.1 fun m d v q1 q2 => Rp.ev ev d v (x5 m d v q1 q2)⟩
            | non => exact RpZ.of2 (Rp.ev ev _ _ oj)
            | bool _ => exact RpZ.of2 (Rp.ev ev _ _ oj)
            | int _ => exact RpZ.of2 (Rp.ev ev _ _ oj)
            | str _ => exact RpZ.of2 (Rp.ev ev _ _ oj)
            | tup _ => exact RpZ.of2 (Rp.ev ev _ _ oj)
            | ro _ => exact RpZ.of2 (Rp.ev ev _ _ oj)
            | dic _ => exact RpZ.of2 (Rp.ev ev _ _ oj)
            | obj _ _ => exact RpZ.of2 (Rp.ev ev _ _ oj)
      | non => exact h.elim
      | bool _ => exact h.elim
      | str _ => exact h.elim
      | tup _ => exact h.elim
      | lst _ => exact h.elim
      | ro _ => exact h.elim
      | dic _ => exact h.elim
      | obj _ _ => exact h.elim
  · exact h.elim
theorem de_meth2 {r : V → List V → Hp → VK → Prop} {FM : List D → List D → Option (D × List D)} (slot : Slot "list" nm id) (hty : typeOf (.builtin id) = pure (.type "method_descriptor")) (hm : MtR X id r) (f : MF W r FM) (pv : PE X (.Name x px) (tVar i)) (hk : DE W X Wx O kx mk zk pk) (ha : DAr W X Wx0 O (e :: es) ms 2 p)
    (o : O.getD i 0 = 2 := by rfl) (hi0 : i ≠ 0 ∨ p = true := by first | exact .inr rfl | exact .inl (by decide)) (il : i < O.length := by decide) (hl : O.length ≤ tmp := by decide) (hs2 : PlainIx kx := by exact fun _ _ => rfl)
    (hbase : attributeBase (.Subscript (.Name x px) kx pos) nm X.env (eval (.Subscript (.Name x px) kx pos) X.env) = eval (.Subscript (.Name x px) kx pos) X.env := by rfl)
    (hfew : ((backTo cpos (starEach (e :: es) X.env)).all (fun x => !x.1) && (backToKw cpos (keywordEach [] X.env)).all (fun x => x.1.isSome)
      && decide ((e :: es).length + ([] : List Keyword).length + (if ([] : List Keyword).isEmpty then 0 else 1) < 30)) = true := by rfl)
    (hline : (apos.endLine == cpos.line) = true := by rfl) (hs : starEach (e :: es) X.env = (false, eval e X.env) :: starEach es X.env := by rfl) (hplain : (backTo cpos (starEach es X.env)).any (·.1) = false := by rfl) :
    DE W X Wx O (.Call (.Attribute (.Subscript (.Name x px) kx pos) nm apos) (e :: es) [] cpos) (dMeth2 i mk FM ms) 2 false := by
  obtain ⟨k, _, t, pa, s⟩ := ha
  obtain ⟨_, tk, pk, sk⟩ := hk
  exact ⟨k, _, pe_bm PySem.F.plainAttrs_list slot hty hm (pe_ix ix_list pv pk hs2) pa hbase hfew hline hs hplain, fun G L env σ H Q R h => snd_meth2 f k sk s o hi0 il hl R h⟩
theorem de_meth20 {r : V → List V → Hp → VK → Prop} {FM : List D → List D → Option (D × List D)} (slot : Slot "list" nm id) (hty : typeOf (.builtin id) = pure (.type "method_descriptor")) (hm : MtR X id r) (f : MF W r FM) (pv : PE X (.Name x px) (tVar i)) (hk : DE W X Wx O kx mk zk pk)
    (o : O.getD i 0 = 2 := by rfl) (il : i < O.length := by decide) (hl : O.length ≤ tmp := by decide) (hs2 : PlainIx kx := by exact fun _ _ => rfl)
    (hbase : attributeBase (.Subscript (.Name x px) kx pos) nm X.env (eval (.Subscript (.Name x px) kx pos) X.env) = eval (.Subscript (.Name x px) kx pos) X.env := by rfl)
    (hline : (apos.endLine == cpos.line) = true := by rfl) :
    DE W X Wx O (.Call (.Attribute (.Subscript (.Name x px) kx pos) nm apos) [] [] cpos) (dMeth2 i mk FM dNil) 2 false := by
  obtain ⟨k, tk, pk, sk⟩ := hk
  refine ⟨k, _, pe_bm0 PySem.F.plainAttrs_list slot hty hm (pe_ix ix_list pv pk hs2) hbase hline, fun G L env σ H Q R h => ?_⟩
  have h2 := snd_meth2 (t := fun σ H Q => Q [] H) (p := true) (ms := dNil) f k sk (fun G L env σ H Q R h => h [] H R Ev.refl (fun _ => rfl) ⟨rfl, fun i d v a1 _ => by simp at a1⟩) o (.inr rfl) il hl R h
  exact h2
/-- x[k] = e, where no list is given and none goes -/
def dSetIxO (i : Nat) (m2 m1 : M D) : MS := fun env => match env[i]? with
  | some (some (.lst _)) => (match m2 env with
    | .ok d e1 => (match m1 e1 with
      | .ok (.int k) e2 => (match e2[i]? with
        | some (some (.lst ds)) => (match ixN ds.length k with
          | some j => if d.isLst = true then .bad else .nx (e2.set i (some (.lst (ds.set j d))))
          | none => .bad)
        | _ => .bad)
      | .exc c a e => .exc c a e
      | _ => .bad)
    | .exc c a e => .exc c a e
    | .bad => .bad)
  | _ => .bad
theorem ds_setIxO {z1 : Nat} {p1 : Bool} {e1 e2 : Expr} {m1 : M D} (h2 : DE W X Wx O e2 m2 2 p) (pv : PE X (.Name x px) (tVar i)) (h1 : DE W X Wx O e1 m1 z1 p1)
    (o : O.getD i 0 = 2 := by rfl) (hi : i < tmp := by decide) (cx : thinB O F.ox = true := by decide)
    (ha : ∀ v, assign (.Subscript (.Name x px) e1 pos) X.env v = (do
      let ov ← holding [v] (eval (.Name x px) X.env)
      let iv ← holding [v, ov] (eval e1 X.env)
      standAt pos
      holding [v, ov, iv] (setItem ov iv v)
      release [v, ov, iv] []) := by intro _; rfl)
    (hs : swapsWithSole [.Subscript (.Name x px) e1 pos] e2 spos.line X.env = pure false := by rfl) (hw : swappedStores [.Subscript (.Name x px) e1 pos] e2 X.env = pure none := by rfl)
    (hh : (assignEach [.Subscript (.Name x px) e1 pos] X.env).map (·.2) = [assign (.Subscript (.Name x px) e1 pos) X.env] := by rfl) :
    DS W X Wx F O (.Assign [.Subscript (.Name x px) e1 pos] e2 spos) (dSetIxO i m2 m1) O := by
  obtain ⟨k, t2, p2, s2⟩ := h2
  obtain ⟨_, t1, p1', s1⟩ := h1
  refine ⟨k, _, ps_asg p2 (pg_sub pv p1' set_list ha) hs hw hh, fun G L env σ H Dn g R h => s2 G L env σ H _ R ?_⟩
  unfold dSetIxO at h
  split at h
  · rename_i ds0 ez
    cases q : m2 env with
    | bad => rw [q] at h; exact h.elim
    | exc c a e =>
      rw [q] at h
      exact exc_out (z := 0) (p := true) (env := env) (fun hn => (g hn).2.1) cx h
    | ok d ea =>
      rw [q] at h
      have h : PostS W G F Wx O L H Dn (match m1 ea with
        | .ok (.int k) e2 => (match e2[i]? with
          | some (some (.lst ds)) => (match ixN ds.length k with
            | some j => if d.isLst = true then .bad else .nx (e2.set i (some (.lst (ds.set j d))))
            | none => .bad)
          | _ => .bad)
        | .exc c a e => .exc c a e
        | _ => .bad) := h
      intro v H1 R1 E1 P1 Z1
      obtain ⟨a0, vs0, s0, l0, h0, _⟩ := R.top ez o
      refine ⟨.ref a0, s0, s1 G L ea σ H1 _ R1 ?_⟩
      cases q1 : m1 ea with
      | bad => rw [q1] at h; exact h.elim
      | exc c a e =>
        rw [q1] at h
        exact exc_out (z := 0) (p := true) (env := env) (fun hn => (g hn).2.1) cx h
      | ok di eb =>
        rw [q1] at h
        cases di with
        | int k =>
          have h : PostS W G F Wx O L H Dn (match eb[i]? with
            | some (some (.lst ds)) => (match ixN ds.length k with
              | some j => if d.isLst = true then .bad else .nx (eb.set i (some (.lst (ds.set j d))))
              | none => .bad)
            | _ => .bad) := h
          intro iv H2 R2 E2 P2 Z2
          have iv' := rz_int Z2
          subst iv'
          split at h
          · rename_i ds ed
            obtain ⟨a, vs1, sA, l1, h2, h3, h4, h5⟩ := R2.top ed o
            rw [s0] at sA
            cases sA
            cases qj : ixN ds.length k with
            | none => rw [qj] at h; exact h.elim
            | some j =>
              rw [qj] at h
              have h : PostS W G F Wx O L H Dn (if d.isLst = true then .bad else .nx (eb.set i (some (.lst (ds.set j d))))) := h
              by_cases nd : d.isLst = true
              · rw [if_pos nd] at h
                exact h.elim
              · rw [if_neg nd] at h
                have rv : Rp W (Zo L) H2 d v := Rp.ev (E2.mono fun _ z _ => z.sub) d v (Rp_of2 Z1)
                refine ⟨a0, vs1, k, j, rfl, rfl, h2, by rw [← h3]; exact qj, ?_⟩
                have evA : Ev W (fun b => b = a0) H2 (upd H2 a0 (.lst (vs1.set j v))) := Ev.put h2 rfl
                refine h _ _ L (R2.mutn ed o s0 l1 h2 (fun m d' v' a1 a2 => ?_) (by rw [List.length_set, List.length_set]; exact h3) (by rw [List.length_set]; exact h4)) ⟨((E1.mono fun a z _ => z.sub).trans (E2.mono fun a z _ => z.sub)).trans (evA.mono fun b z _ w => by rw [z, l1] at w; cases w), fun _ z => .inl z⟩
                by_cases e : j = m
                · subst e
                  have hj : j < ds.length := by
                    have := (List.getElem?_eq_some_iff.mp a1).1
                    simpa using this
                  rw [List.getElem?_set_self hj] at a1
                  rw [List.getElem?_set_self (by rw [← h3]; exact hj)] at a2
                  cases a1
                  cases a2
                  exact Ow.flat0 (q := []) rv (.inr fun es w => nd (by rw [w]; rfl))
                · rw [List.getElem?_set_ne e] at a1 a2
                  exact h5 m d' v' a1 a2
          · exact h.elim
        | non => exact h.elim
        | bool _ => exact h.elim
        | str _ => exact h.elim
        | tup _ => exact h.elim
        | lst _ => exact h.elim
        | ro _ => exact h.elim
        | dic _ => exact h.elim
        | obj _ _ => exact h.elim
  · exact h.elim
end
end DL
/-! DLSortT: sorted of a tuple, too. -/
namespace DL
open PySem PySem.Spec PyProof.Rows L2 PySem.W
def rSortT (K : PySem.W.Frag) : List V → Hp → VK → Prop := fun xs H Q => ∃ (a : Addr) (ps : List (D × V)), xs = [.ref a] ∧ SqT K H a (ps.map (·.2)) ∧ (∀ p ∈ ps, Dp K H p.2 p.1.py) ∧ SortD (ps.map pyP) ∧ (∀ p ∈ ps, p.1.py.depth ≤ 64) ∧
  ∀ l, H l = none → Q (.ref l) (upd H l (.lst ((ps.mergeSort (dataLe false pyP)).map (·.2))))
theorem cr_sortT {X : Cx} (hu : X.A.units + 70 < cLine) : CallR X (.builtin "sorted") (rSortT X.K) := by
  intro pins s σ H xs us Q I r h
  obtain ⟨a, ps, rfl, hs, hd, ho, hz, q⟩ := h
  obtain ⟨its, rv, ⟨o, o1, o2, n, o3⟩, sz⟩ := I.tuple hs
  rw [Vals.ref1 r]
  obtain ⟨e1, e2⟩ := each_vals I rv hd
  rw [List.length_map] at sz
  have lvs : its.length = ps.length := e1.length
  have szv : its.length ≤ sizeLine := by omega
  refine Calls.call_function_entry kind_sorted plain_sorted entry_sorted (args_sorted1 _) ?_
  unfold Builtin.«sorted»
  refine wpAny_bind (m := checkCount "sorted" 1 1 _) (wpAny_pure ?_)
  refine wpAny_bind (wpAny_collect_seq a (.inr rfl) o1 o2 o3 (fun h1 k1 => ?_) (by rw [List.size_toArray]; exact szv))
  refine wpAny_bind (wpAny_newList ?_ szv)
  have hoL : (h1.push (seqObj "list" its.toArray 0)).get? h1.objs.size = some (seqObj "list" its.toArray 0) := Heap.get?_push_size _ rfl
  have keepS : ∀ b o, s.heap.get? b = some o → (sortingHeap (h1.push (seqObj "list" its.toArray 0)) h1.objs.size its).get? b = some o := fun b o z =>
    sortingHeap_old (Nat.ne_of_lt (Heap.lt_size (k1 b o z))) (Heap.get?_push_of_some _ (k1 b o z))
  have er : EachIs (fun (u : Value) (p : D × V) => ∃ as, Reads (sortingHeap (h1.push (seqObj "list" its.toArray 0)) h1.objs.size its) u (pyP p) as) its ps := e2.mono fun _ _ z => by
    obtain ⟨as, rr⟩ := z
    exact ⟨as, PyProof.Rows.Reads.keeps keepS rr⟩
  refine wpAny_bind (wpAny_holding (wpAny_call_entry slot_list_sort ⟨_, hoL, rfl⟩ entry_list_sort (list_sort_vals (s := { s with heap := h1.push (seqObj "list" its.toArray 0) }) (κ := dataKind (sortingHeap (h1.push (seqObj "list" its.toArray 0)) h1.objs.size its) (ps.map pyP)) hoL
    (sorts_at (s := { s with heap := sortingHeap (h1.push (seqObj "list" its.toArray 0)) h1.objs.size its }) (ds := ps.map pyP) (each_map (R := fun v d => ∃ as, Reads (sortingHeap (h1.push (seqObj "list" its.toArray 0)) h1.objs.size its) v d as) pyP er) ho
      (bound_map fun p hp => by have : (pyP p).depth ≤ 64 := hz p hp; show X.A.units + 1 + 1 + (pyP p).depth < cLine; omega)) szv ⟨.none, rfl, ?_⟩) (args_list_sort _)))
  have eo := sortVals_data (h' := sortingHeap (h1.push (seqObj "list" its.toArray 0)) h1.objs.size its) (enc := pyP) false e1 er ho.1
  generalize hout : sortVals (dataKind (sortingHeap (h1.push (seqObj "list" its.toArray 0)) h1.objs.size its) (ps.map pyP)) false its its = out at eo
  obtain ⟨c, hc'⟩ := sortedHeap_at (vs := its) (out := out.toArray) hoL
  have kp : ∀ b o, s.heap.get? b = some o → (sortedHeap (h1.push (seqObj "list" its.toArray 0)) h1.objs.size its out.toArray).get? b = some o := fun b o z => by
    have z1 := k1 b o z
    have lt := Heap.lt_size z1
    rw [sortedHeap_old (Nat.ne_of_lt lt) (by rw [size_push']; exact Nat.lt_succ_of_lt lt)]
    exact Heap.get?_push_of_some _ z1
  have hv : Vals ((ps.mergeSort (dataLe false pyP)).map (·.2)) out := vals_each eo
  have hlen : ((ps.mergeSort (dataLe false pyP)).map (·.2)).length ≤ sizeLine := by rw [List.length_map, List.length_mergeSort]; omega
  have hg0 : s.heap.get? h1.objs.size = none := by
    cases q : s.heap.get? h1.objs.size with
    | none => rfl
    | some o => exact absurd (Heap.lt_size (k1 _ o q)) (Nat.lt_irrefl _)
  have hn : H h1.objs.size = none := I.hok.gone hg0
  have J : Inv X pins σ (upd H h1.objs.size (.lst ((ps.mergeSort (dataLe false pyP)).map (·.2)))) { s with heap := sortedHeap (h1.push (seqObj "list" its.toArray 0)) h1.objs.size its out.toArray } :=
    I.call (ch := []) (Un.laidN kp hg0 hn) (HOk.laidN I.hok kp hn ⟨hlen, out, c, hv, hc'⟩) I.bare (fun _ z => nomatch z)
  exact wpAny_pure ⟨_, rfl, ⟨.ref _, _, J, rfl, q _ hn⟩⟩
def dSortedT : List D → Option D := fun args => match args with
  | [.tup ds] => if sortOk ds = true then some (.lst (sortD ds)) else none
  | xs => dSorted xs
def rSortA (K : PySem.W.Frag) : List V → Hp → VK → Prop := fun xs H Q => rSortD K xs H Q ∨ rSortT K xs H Q
theorem cr_sortA {X : Cx} (hu : X.A.units + 70 < cLine) : CallR X (.builtin "sorted") (rSortA X.K) := by
  intro pins s σ H xs us Q I r h
  rcases h with h | h
  · exact cr_sortD hu pins s σ H xs us Q I r h
  · exact cr_sortT hu pins s σ H xs us Q I r h
theorem cfo_sortedT {W : Wd} {X : Cx} (k : X.K = W.K) : CFO W 1 (rSortA X.K) dSortedT := by
  intro L H ds vs d Q A hf dom hq
  by_cases ht : ∃ xs, ds = [.tup xs]
  · obtain ⟨xs, rfl⟩ := ht
    obtain ⟨v, rfl, rv⟩ := all1z A
    obtain ⟨a, us, rfl, h1, sz, r⟩ := rz_tup rv
    have hf : (if sortOk xs = true then some (D.lst (sortD xs)) else none) = some d := hf
    by_cases ok : sortOk xs = true
    · rw [if_pos ok] at hf
      cases hf
      obtain ⟨o1, o2, o3⟩ := sortOk_D ok
      have ln := r.length
      have rz := rpl_zip r
      have mem1 : ∀ p ∈ xs.zip us, p.1 ∈ xs := fun p hp => (List.of_mem_zip hp).1
      refine .inr ⟨a, xs.zip us, rfl, by rw [zip_snd ln, k]; exact h1, fun p hp => ?_, ?_, fun p hp => o3 _ (mem1 p hp), fun l nl => hq _ _ (.inl ⟨l, _, _, rfl, rfl, nl, rfl, ?_, ?_⟩)⟩
      · rw [k]
        exact Rp.dp p.1 p.2 (o1 _ (mem1 p hp)) (rz p hp)
      · have : (xs.zip us).map pyP = xs.map D.py := by
          rw [← zip_fst ln, List.map_map, zip_fst ln]
          rfl
        rw [this]
        exact o2
      · have e : sortD xs = ((xs.zip us).mergeSort (dataLe false pyP)).map (·.1) := by
          have t := List.map_mergeSort (r := dataLe false pyP) (s := dataLe false D.py) (f := Prod.fst) (l := xs.zip us) (fun _ _ _ _ => rfl)
          unfold sortD
          rw [← zip_fst ln, ← t, zip_fst ln]
        rw [e]
        exact unzip_rpl fun p hp => rz p (List.mem_mergeSort.mp hp)
      · rw [List.length_map, List.length_mergeSort, List.length_zip]
        omega
    · rw [if_neg ok] at hf
      cases hf
  · have hf : dSorted ds = some d := by
      unfold dSortedT at hf
      split at hf
      · exact (ht ⟨_, rfl⟩).elim
      · exact hf
    exact .inl (cfo_sorted k L H ds vs d Q A hf dom hq)
end DL
namespace Law
open PySem PySem.Spec PyProof.Rows L2 DL
def top (i : Nat) : Stmt := PySem.Challenge.pw_stopsfirst_k04_one_rule_and_two_lots.main.body.getD i (.Pass ⟨0, 0, 0, 0⟩)
def fuel : Nat := 100000
abbrev s_is_sequence : Stmt := top 4
abbrev s_is_integer : Stmt := top 5
abbrev s_common : Stmt := top 6
abbrev s_united : Stmt := top 7
abbrev s_is_part : Stmt := top 8
abbrev s_is_number : Stmt := top 11
abbrev s_kept_number : Stmt := top 12
abbrev s_kept_lot : Stmt := top 13
abbrev s_kept_pairs : Stmt := top 14
abbrev s_kept_triples : Stmt := top 15
abbrev s_kept_lots : Stmt := top 16
abbrev s_kept_feed : Stmt := top 17
abbrev s_kept_rule : Stmt := top 18
abbrev s_made_rule : Stmt := top 19
abbrev s_sum_of : Stmt := top 20
abbrev s_cut_of : Stmt := top 21
abbrev s_allows : Stmt := top 22
abbrev s_names_of : Stmt := top 23
abbrev s_meet_or_join : Stmt := top 24
abbrev s__law_box : Stmt := top 26
abbrev s__law_take : Stmt := top 27
abbrev s__law_pick : Stmt := top 28
abbrev s__law_mixed : Stmt := top 29
abbrev s__law_names : Stmt := top 30
abbrev s__law_lot : Stmt := top 31
abbrev s__law_all : Stmt := top 32
abbrev s__law_number : Stmt := top 33
abbrev s__law_cut : Stmt := top 34
abbrev s__law_feed : Stmt := top 35
abbrev s__law_rule : Stmt := top 36
abbrev s__law_breaks : Stmt := top 37
abbrev s__law_named : Stmt := top 38
abbrev s__law_rule_right : Stmt := top 39
abbrev s_law : Stmt := top 40
/-- what the head tells -/
structure Fct (K : PySem.W.Frag) (mg : Str → Option Value) where
  a_is_sequence : Addr
  d_is_sequence : FuncData
  F_is_sequence : FunD K "is_sequence" "is_sequence" (defArgs s_is_sequence) (defBody s_is_sequence) (defScope s_is_sequence) [] [] a_is_sequence d_is_sequence
  g_is_sequence : mg "is_sequence" = some (.ref a_is_sequence)
  b_is_sequence : Binds K d_is_sequence ["value"] []
  a_is_integer : Addr
  d_is_integer : FuncData
  F_is_integer : FunD K "is_integer" "is_integer" (defArgs s_is_integer) (defBody s_is_integer) (defScope s_is_integer) [] [] a_is_integer d_is_integer
  g_is_integer : mg "is_integer" = some (.ref a_is_integer)
  b_is_integer : Binds K d_is_integer ["value"] []
  a_common : Addr
  d_common : FuncData
  F_common : FunD K "common" "common" (defArgs s_common) (defBody s_common) (defScope s_common) [] [] a_common d_common
  g_common : mg "common" = some (.ref a_common)
  b_common : Binds K d_common ["one", "other"] []
  a_united : Addr
  d_united : FuncData
  F_united : FunD K "united" "united" (defArgs s_united) (defBody s_united) (defScope s_united) [] [] a_united d_united
  g_united : mg "united" = some (.ref a_united)
  b_united : Binds K d_united ["one", "other"] []
  a_is_part : Addr
  d_is_part : FuncData
  F_is_part : FunD K "is_part" "is_part" (defArgs s_is_part) (defBody s_is_part) (defScope s_is_part) [] [] a_is_part d_is_part
  g_is_part : mg "is_part" = some (.ref a_is_part)
  b_is_part : Binds K d_is_part ["one", "other"] []
  a_is_number : Addr
  d_is_number : FuncData
  F_is_number : FunD K "is_number" "is_number" (defArgs s_is_number) (defBody s_is_number) (defScope s_is_number) [] [] a_is_number d_is_number
  g_is_number : mg "is_number" = some (.ref a_is_number)
  b_is_number : Binds K d_is_number ["value", "least"] []
  a_kept_number : Addr
  d_kept_number : FuncData
  F_kept_number : FunD K "kept_number" "kept_number" (defArgs s_kept_number) (defBody s_kept_number) (defScope s_kept_number) [] [] a_kept_number d_kept_number
  g_kept_number : mg "kept_number" = some (.ref a_kept_number)
  b_kept_number : Binds K d_kept_number ["value", "least"] []
  a_kept_lot : Addr
  d_kept_lot : FuncData
  F_kept_lot : FunD K "kept_lot" "kept_lot" (defArgs s_kept_lot) (defBody s_kept_lot) (defScope s_kept_lot) [] [] a_kept_lot d_kept_lot
  g_kept_lot : mg "kept_lot" = some (.ref a_kept_lot)
  b_kept_lot : Binds K d_kept_lot ["value", "services"] []
  a_kept_pairs : Addr
  d_kept_pairs : FuncData
  F_kept_pairs : FunD K "kept_pairs" "kept_pairs" (defArgs s_kept_pairs) (defBody s_kept_pairs) (defScope s_kept_pairs) [] [] a_kept_pairs d_kept_pairs
  g_kept_pairs : mg "kept_pairs" = some (.ref a_kept_pairs)
  b_kept_pairs : Binds K d_kept_pairs ["value", "services"] []
  a_kept_triples : Addr
  d_kept_triples : FuncData
  F_kept_triples : FunD K "kept_triples" "kept_triples" (defArgs s_kept_triples) (defBody s_kept_triples) (defScope s_kept_triples) [] [] a_kept_triples d_kept_triples
  g_kept_triples : mg "kept_triples" = some (.ref a_kept_triples)
  b_kept_triples : Binds K d_kept_triples ["value", "services"] []
  a_kept_lots : Addr
  d_kept_lots : FuncData
  F_kept_lots : FunD K "kept_lots" "kept_lots" (defArgs s_kept_lots) (defBody s_kept_lots) (defScope s_kept_lots) [] [] a_kept_lots d_kept_lots
  g_kept_lots : mg "kept_lots" = some (.ref a_kept_lots)
  b_kept_lots : Binds K d_kept_lots ["value", "names"] []
  a_kept_feed : Addr
  d_kept_feed : FuncData
  F_kept_feed : FunD K "kept_feed" "kept_feed" (defArgs s_kept_feed) (defBody s_kept_feed) (defScope s_kept_feed) [] [] a_kept_feed d_kept_feed
  g_kept_feed : mg "kept_feed" = some (.ref a_kept_feed)
  b_kept_feed : Binds K d_kept_feed ["users", "sources", "services"] []
  a_kept_rule : Addr
  d_kept_rule : FuncData
  F_kept_rule : FunD K "kept_rule" "kept_rule" (defArgs s_kept_rule) (defBody s_kept_rule) (defScope s_kept_rule) [] [] a_kept_rule d_kept_rule
  g_kept_rule : mg "kept_rule" = some (.ref a_kept_rule)
  b_kept_rule : Binds K d_kept_rule ["services", "value"] []
  a_made_rule : Addr
  d_made_rule : FuncData
  F_made_rule : FunD K "made_rule" "made_rule" (defArgs s_made_rule) (defBody s_made_rule) (defScope s_made_rule) [] [] a_made_rule d_made_rule
  g_made_rule : mg "made_rule" = some (.ref a_made_rule)
  b_made_rule : Binds K d_made_rule ["services", "value"] []
  a_sum_of : Addr
  d_sum_of : FuncData
  F_sum_of : FunD K "sum_of" "sum_of" (defArgs s_sum_of) (defBody s_sum_of) (defScope s_sum_of) [] [] a_sum_of d_sum_of
  g_sum_of : mg "sum_of" = some (.ref a_sum_of)
  b_sum_of : Binds K d_sum_of ["pairs", "state"] []
  a_cut_of : Addr
  d_cut_of : FuncData
  F_cut_of : FunD K "cut_of" "cut_of" (defArgs s_cut_of) (defBody s_cut_of) (defScope s_cut_of) [] [] a_cut_of d_cut_of
  g_cut_of : mg "cut_of" = some (.ref a_cut_of)
  b_cut_of : Binds K d_cut_of ["triples", "state"] []
  a_allows : Addr
  d_allows : FuncData
  F_allows : FunD K "allows" "allows" (defArgs s_allows) (defBody s_allows) (defScope s_allows) [] [] a_allows d_allows
  g_allows : mg "allows" = some (.ref a_allows)
  b_allows : Binds K d_allows ["rule", "state"] []
  a_names_of : Addr
  d_names_of : FuncData
  F_names_of : FunD K "names_of" "names_of" (defArgs s_names_of) (defBody s_names_of) (defScope s_names_of) [] [] a_names_of d_names_of
  g_names_of : mg "names_of" = some (.ref a_names_of)
  b_names_of : Binds K d_names_of ["rule"] []
  a_meet_or_join : Addr
  d_meet_or_join : FuncData
  F_meet_or_join : FunD K "meet_or_join" "meet_or_join" (defArgs s_meet_or_join) (defBody s_meet_or_join) (defScope s_meet_or_join) [] [] a_meet_or_join d_meet_or_join
  g_meet_or_join : mg "meet_or_join" = some (.ref a_meet_or_join)
  b_meet_or_join : Binds K d_meet_or_join ["rule", "one", "other"] []
  a__law_box : Addr
  d__law_box : FuncData
  F__law_box : FunD K "_law_box" "_law_box" (defArgs s__law_box) (defBody s__law_box) (defScope s__law_box) [] [] a__law_box d__law_box
  g__law_box : mg "_law_box" = some (.ref a__law_box)
  b__law_box : Binds K d__law_box ["_law_script", "_law_k"] []
  a__law_take : Addr
  d__law_take : FuncData
  F__law_take : FunD K "_law_take" "_law_take" (defArgs s__law_take) (defBody s__law_take) (defScope s__law_take) [] [] a__law_take d__law_take
  g__law_take : mg "_law_take" = some (.ref a__law_take)
  b__law_take : Binds K d__law_take ["_law_box_here", "_law_many"] []
  a__law_pick : Addr
  d__law_pick : FuncData
  F__law_pick : FunD K "_law_pick" "_law_pick" (defArgs s__law_pick) (defBody s__law_pick) (defScope s__law_pick) [] [] a__law_pick d__law_pick
  g__law_pick : mg "_law_pick" = some (.ref a__law_pick)
  b__law_pick : Binds K d__law_pick ["_law_box_here", "_law_some"] []
  a__law_mixed : Addr
  d__law_mixed : FuncData
  F__law_mixed : FunD K "_law_mixed" "_law_mixed" (defArgs s__law_mixed) (defBody s__law_mixed) (defScope s__law_mixed) [] [] a__law_mixed d__law_mixed
  g__law_mixed : mg "_law_mixed" = some (.ref a__law_mixed)
  b__law_mixed : Binds K d__law_mixed ["_law_box_here", "_law_some"] []
  a__law_names : Addr
  d__law_names : FuncData
  F__law_names : FunD K "_law_names" "_law_names" (defArgs s__law_names) (defBody s__law_names) (defScope s__law_names) [] [] a__law_names d__law_names
  g__law_names : mg "_law_names" = some (.ref a__law_names)
  b__law_names : Binds K d__law_names ["_law_box_here", "_law_many"] []
  a__law_lot : Addr
  d__law_lot : FuncData
  F__law_lot : FunD K "_law_lot" "_law_lot" (defArgs s__law_lot) (defBody s__law_lot) (defScope s__law_lot) [] [] a__law_lot d__law_lot
  g__law_lot : mg "_law_lot" = some (.ref a__law_lot)
  b__law_lot : Binds K d__law_lot ["_law_box_here", "_law_names_here"] []
  a__law_all : Addr
  d__law_all : FuncData
  F__law_all : FunD K "_law_all" "_law_all" (defArgs s__law_all) (defBody s__law_all) (defScope s__law_all) [] [] a__law_all d__law_all
  g__law_all : mg "_law_all" = some (.ref a__law_all)
  b__law_all : Binds K d__law_all ["_law_names_here"] []
  a__law_number : Addr
  d__law_number : FuncData
  F__law_number : FunD K "_law_number" "_law_number" (defArgs s__law_number) (defBody s__law_number) (defScope s__law_number) [] [] a__law_number d__law_number
  g__law_number : mg "_law_number" = some (.ref a__law_number)
  b__law_number : Binds K d__law_number ["_law_box_here"] []
  a__law_cut : Addr
  d__law_cut : FuncData
  F__law_cut : FunD K "_law_cut" "_law_cut" (defArgs s__law_cut) (defBody s__law_cut) (defScope s__law_cut) [] [] a__law_cut d__law_cut
  g__law_cut : mg "_law_cut" = some (.ref a__law_cut)
  b__law_cut : Binds K d__law_cut ["_law_box_here", "_law_names_here"] []
  a__law_feed : Addr
  d__law_feed : FuncData
  F__law_feed : FunD K "_law_feed" "_law_feed" (defArgs s__law_feed) (defBody s__law_feed) (defScope s__law_feed) [] [] a__law_feed d__law_feed
  g__law_feed : mg "_law_feed" = some (.ref a__law_feed)
  b__law_feed : Binds K d__law_feed ["_law_box_here", "_law_names_here"] []
  a__law_rule : Addr
  d__law_rule : FuncData
  F__law_rule : FunD K "_law_rule" "_law_rule" (defArgs s__law_rule) (defBody s__law_rule) (defScope s__law_rule) [] [] a__law_rule d__law_rule
  g__law_rule : mg "_law_rule" = some (.ref a__law_rule)
  b__law_rule : Binds K d__law_rule ["_law_box_here", "_law_names_here"] []
  a__law_breaks : Addr
  d__law_breaks : FuncData
  F__law_breaks : FunD K "_law_breaks" "_law_breaks" (defArgs s__law_breaks) (defBody s__law_breaks) (defScope s__law_breaks) [] [] a__law_breaks d__law_breaks
  g__law_breaks : mg "_law_breaks" = some (.ref a__law_breaks)
  b__law_breaks : Binds K d__law_breaks ["_law_rule_here", "_law_state"] []
  a__law_named : Addr
  d__law_named : FuncData
  F__law_named : FunD K "_law_named" "_law_named" (defArgs s__law_named) (defBody s__law_named) (defScope s__law_named) [] [] a__law_named d__law_named
  g__law_named : mg "_law_named" = some (.ref a__law_named)
  b__law_named : Binds K d__law_named ["_law_rule_here"] []
  a__law_rule_right : Addr
  d__law_rule_right : FuncData
  F__law_rule_right : FunD K "_law_rule_right" "_law_rule_right" (defArgs s__law_rule_right) (defBody s__law_rule_right) (defScope s__law_rule_right) [] [] a__law_rule_right d__law_rule_right
  g__law_rule_right : mg "_law_rule_right" = some (.ref a__law_rule_right)
  b__law_rule_right : Binds K d__law_rule_right ["_law_rule_here", "_law_lots"] []
  a_law : Addr
  d_law : FuncData
  F_law : FunD K "law" "law" (defArgs s_law) (defBody s_law) (defScope s_law) [] [] a_law d_law
  g_law : mg "law" = some (.ref a_law)
  b_law : Binds K d_law ["_law_script"] []
  n_GREATEST : ∃ u, mg "GREATEST" = some u ∧ RelV (.int 1000000) u
  x_abs : mg "abs" = none
  x_all : mg "all" = none
  x_any : mg "any" = none
  x_bool : mg "bool" = none
  x_enumerate : mg "enumerate" = none
  x_int : mg "int" = none
  x_isinstance : mg "isinstance" = none
  x_len : mg "len" = none
  x_list : mg "list" = none
  x_max : mg "max" = none
  x_min : mg "min" = none
  x_range : mg "range" = none
  x_repr : mg "repr" = none
  x_set : mg "set" = none
  x_sorted : mg "sorted" = none
  x_str : mg "str" = none
  x_sum : mg "sum" = none
  x_tuple : mg "tuple" = none
section
variable {P : Program} {w : World} {W : Wd} {mg : Str → Option Value} {base : Heap}
def m_is_sequence : MS := (dRet (dUn (dIsT2 "list" "tuple") (dVar 0)))
def F_is_sequence : FM := runF 1 0 m_is_sequence
theorem sc_is_sequence : FnScope ["value"] ["value"] (defScope s_is_sequence) := ⟨rfl, rfl, rfl, by decide +kernel, rfl, by decide +kernel, by decide +kernel⟩
theorem ok_is_sequence (c : Fct W.K mg) : FnG P w W.K mg base 1 c.a_is_sequence c.d_is_sequence ["value"] (spD W 0 0 1 F_is_sequence) := by
  refine fn_body (N := ["value"]) (m := m_is_sequence) (O' := [0]) c.F_is_sequence sc_is_sequence (by decide) (fun cdv A hg0 outer s H E hr => ?_) (by decide) rfl (.inl rfl)
  have hgu := deeper_guards (env := envOfC "is_sequence" (defScope s_is_sequence) s.heap.objs.size c.a_is_sequence cdv) hg0
  exact (dss_one (ds_ret (de_isiT (de_var rfl (L2.pv 0)) (hm := c.x_isinstance) (hm1 := c.x_list) (hm2 := c.x_tuple))))
def m_is_integer : MS := (dRet (dAndV (dUn (dIsT "int") (dVar 0)) (dBool (dNot (dTru (dUn (dIsT "bool") (dVar 0)))))))
def F_is_integer : FM := runF 1 0 m_is_integer
theorem sc_is_integer : FnScope ["value"] ["value"] (defScope s_is_integer) := ⟨rfl, rfl, rfl, by decide +kernel, rfl, by decide +kernel, by decide +kernel⟩
theorem ok_is_integer (c : Fct W.K mg) : FnG P w W.K mg base 1 c.a_is_integer c.d_is_integer ["value"] (spD W 0 0 1 F_is_integer) := by
  refine fn_body (N := ["value"]) (m := m_is_integer) (O' := [0]) c.F_is_integer sc_is_integer (by decide) (fun cdv A hg0 outer s H E hr => ?_) (by decide) rfl (.inl rfl)
  have hgu := deeper_guards (env := envOfC "is_integer" (defScope s_is_integer) s.heap.objs.size c.a_is_integer cdv) hg0
  exact (dss_one (ds_ret (de_andv (de_isi (de_var rfl (L2.pv 0)) (hm := c.x_isinstance) (hm2 := c.x_int)) (de_one (de_notv (de_isi (de_var rfl (L2.pv 0)) (hm := c.x_isinstance) (hm2 := c.x_bool)))))))
def m_common : MS := (dRet (dCB dTuple (dCons (dLc true (dItems (dVar 0)) (gN 2) (dTest (dOp2 dIn (dVar 2) (dVar 1))) (dVar 2) [2]) dNil)))
def F_common : FM := runF 3 0 m_common
theorem sc_common : FnScope ["one", "other", "name"] ["one", "other"] (defScope s_common) := ⟨rfl, rfl, rfl, by decide +kernel, rfl, by decide +kernel, by decide +kernel⟩
theorem ok_common (c : Fct W.K mg) : FnG P w W.K mg base 1 c.a_common c.d_common ["one", "other"] (spD W 0 0 2 F_common) := by
  refine fn_body (N := ["one", "other", "name"]) (m := m_common) (O' := [0, 0, 0]) c.F_common sc_common (by decide) (fun cdv A hg0 outer s H E hr => ?_) (by decide) rfl (.inl rfl)
  have hgu := deeper_guards (env := envOfC "common" (defScope s_common) s.heap.objs.size c.a_common cdv) hg0
  exact (dss_one (ds_ret (de_callTy call_tuple_of (cf_tuple rfl) rfl c.x_tuple boot_tuple (da_cons (DO.de (do_lc1 rfl sc_common.nd (own := [("name", 2)]) (b := true) (di_seq (de_var rfl (L2.pv 0))) (blkOk_by (by kernel_rfl)) (fun s H C cl fp => (dg_name (pg_name (i := 2) sc_common.nd rfl (by first | exact .inl rfl | exact .inr rfl)))) (fun s H C cl fp => (DT.weak (p' := true) (dt_cmp (op_inAll (u65 hr)) (rf_in rfl) (de_var rfl (L2.pv 2)) (de_var rfl (L2.pv 1))))) (fun s H C cl fp => (DE.weak (z' := 2) (p' := true) (de_var rfl (L2.pv 2)) (by decide))) (by decide))) (da_nil (z := 1))))))
def m_united : MS := (dRet (dCB dTuple (dCons (dUn dSortSet (dOp2 dAdd (dVar 0) (dVar 1))) dNil)))
def F_united : FM := runF 2 0 m_united
theorem sc_united : FnScope ["one", "other"] ["one", "other"] (defScope s_united) := ⟨rfl, rfl, rfl, by decide +kernel, rfl, by decide +kernel, by decide +kernel⟩
theorem ok_united (c : Fct W.K mg) : FnG P w W.K mg base 1 c.a_united c.d_united ["one", "other"] (spD W 0 0 2 F_united) := by
  refine fn_body (N := ["one", "other"]) (m := m_united) (O' := [0, 0]) c.F_united sc_united (by decide) (fun cdv A hg0 outer s H E hr => ?_) (by decide) rfl (.inl rfl)
  have hgu := deeper_guards (env := envOfC "united" (defScope s_united) s.heap.objs.size c.a_united cdv) hg0
  exact (dss_one (ds_ret (de_callTy call_tuple_of (cf_tuple rfl) rfl c.x_tuple boot_tuple (da_cons (DO.de (do_sortSet (DO.de (do_op2 op_addD (rfo_add rfl) (de_var rfl (L2.pv 0)) (de_var rfl (L2.pv 1)))) (u70 hr) (hm := c.x_sorted) (hm2 := c.x_set))) (da_nil (z := 1))))))
def m_is_part : MS := (dRet (dCB dAll (dCons (dLc true (dItems (dVar 0)) (gN 2) mYes (dOp2 dIn (dVar 2) (dVar 1)) [2]) dNil)))
def F_is_part : FM := runF 3 0 m_is_part
theorem sc_is_part : FnScope ["one", "other", "name"] ["one", "other"] (defScope s_is_part) := ⟨rfl, rfl, rfl, by decide +kernel, rfl, by decide +kernel, by decide +kernel⟩
theorem ok_is_part (c : Fct W.K mg) : FnG P w W.K mg base 1 c.a_is_part c.d_is_part ["one", "other"] (spD W 0 0 2 F_is_part) := by
  refine fn_body (N := ["one", "other", "name"]) (m := m_is_part) (O' := [0, 0, 0]) c.F_is_part sc_is_part (by decide) (fun cdv A hg0 outer s H E hr => ?_) (by decide) rfl (.inl rfl)
  have hgu := deeper_guards (env := envOfC "is_part" (defScope s_is_part) s.heap.objs.size c.a_is_part cdv) hg0
  exact (dss_one (ds_ret (de_callB (cr_all rfl) (cf_all rfl) rfl c.x_all boot_all (da_cons (DO.de (do_lc0 rfl sc_is_part.nd (own := [("name", 2)]) (b := true) (di_seq (de_var rfl (L2.pv 0))) (blkOk_by (by kernel_rfl)) (fun s H C cl fp => (dg_name (pg_name (i := 2) sc_is_part.nd rfl (by first | exact .inl rfl | exact .inr rfl)))) (fun s H C cl fp => (DE.weak (z' := 2) (p' := true) (de_cmp (op_inAll (u65 hr)) (rf_in rfl) (de_var rfl (L2.pv 2)) (de_var rfl (L2.pv 1))) (by decide))) (by decide))) (da_nil (z := 0))))))
def m_is_number : MS := (dRet (dAndV (dCall F_is_integer [] (dCons (dVar 0) dNil)) (dChain dLe dLe (dVar 1) (dVar 0) (dC (.int 1000000)))))
def F_is_number : FM := runF 2 0 m_is_number
theorem sc_is_number : FnScope ["value", "least"] ["value", "least"] (defScope s_is_number) := ⟨rfl, rfl, rfl, by decide +kernel, rfl, by decide +kernel, by decide +kernel⟩
theorem ok_is_number (c : Fct W.K mg) : FnG P w W.K mg base 2 c.a_is_number c.d_is_number ["value", "least"] (spD W 0 0 2 F_is_number) := by
  refine fn_body (N := ["value", "least"]) (m := m_is_number) (O' := [0, 0]) c.F_is_number sc_is_number (by decide) (fun cdv A hg0 outer s H E hr => ?_) (by decide) rfl (.inl rfl)
  have hgu := deeper_guards (env := envOfC "is_number" (defScope s_is_number) s.heap.objs.size c.a_is_number cdv) hg0
  exact (dss_one (ds_ret (de_andv (DO.de (call0 (ok_is_integer c) hr (by decide) hgu rfl c.g_is_integer c.F_is_integer.kp c.b_is_integer (takes_of rfl rfl rfl rfl) (da_cons (de_var rfl (L2.pv 0)) (da_nil (z := 2))))) (de_one (de_chain (DL.OpR.or op_le op_le_str) rf_le (DL.OpR.or op_le op_le_str) rf_le (de_var rfl (L2.pv 1)) (de_var rfl (L2.pv 0)) (de_cst (pe_gv rfl c.n_GREATEST)))))))
def m_kept_number : MS := (dRet (dIf (dTru (dCall F_is_number [] (dCons (dVar 0) (dCons (dVar 1) dNil)))) (dVar 0) (dC .non)))
def F_kept_number : FM := runF 2 0 m_kept_number
theorem sc_kept_number : FnScope ["value", "least"] ["value", "least"] (defScope s_kept_number) := ⟨rfl, rfl, rfl, by decide +kernel, rfl, by decide +kernel, by decide +kernel⟩
theorem ok_kept_number (c : Fct W.K mg) : FnG P w W.K mg base 3 c.a_kept_number c.d_kept_number ["value", "least"] (spD W 0 0 2 F_kept_number) := by
  refine fn_body (N := ["value", "least"]) (m := m_kept_number) (O' := [0, 0]) c.F_kept_number sc_kept_number (by decide) (fun cdv A hg0 outer s H E hr => ?_) (by decide) rfl (.inl rfl)
  have hgu := deeper_guards (env := envOfC "kept_number" (defScope s_kept_number) s.heap.objs.size c.a_kept_number cdv) hg0
  exact (dss_one (ds_ret (de_if (dt_tru (DO.de (call0 (ok_is_number c) hr (by decide) hgu rfl c.g_is_number c.F_is_number.kp c.b_is_number (takes_of rfl rfl rfl rfl) (da_cons (de_var rfl (L2.pv 0)) (da_cons (de_var rfl (L2.pv 1)) (da_nil (z := 2))))))) (de_var rfl (L2.pv 0)) (de_cst pe_non))))
def m_kept_lot : MS := (dSeq (dIte (dOr (dNot (dTru (dCall F_is_sequence [] (dCons (dVar 0) dNil)))) (dNot (dTru (dCB dAll (dCons (dLc true (dItems (dVar 0)) (gN 3) mYes (dAndV (dUn (dIsT "str") (dVar 3)) (dOp2 dIn (dVar 3) (dVar 1))) [3]) dNil))))) (dRet (dC .non)) dSkip)
  (dSeq (dSet 2 (dCB dTuple (dCons (dCB dSortedT (dCons (dVar 0) dNil)) dNil)))
  (dRet (dIf (dTru (dCB dAll (dCons (dLc true (dRange (dCons (dOp2 iSub (dCB dLen (dCons (dVar 2) dNil)) (dC (.int 1))) dNil)) (gN 4) mYes (dOp2 dNe (dOp2 dIx (dVar 2) (dVar 4)) (dOp2 dIx (dVar 2) (dOp2 dAdd (dVar 4) (dC (.int 1))))) [4]) dNil))) (dVar 2) (dC .non)))))
def F_kept_lot : FM := runF 5 0 m_kept_lot
theorem sc_kept_lot : FnScope ["value", "services", "lot", "one", "at"] ["value", "services"] (defScope s_kept_lot) := ⟨rfl, rfl, rfl, by decide +kernel, rfl, by decide +kernel, by decide +kernel⟩
theorem ok_kept_lot (c : Fct W.K mg) : FnG P w W.K mg base 2 c.a_kept_lot c.d_kept_lot ["value", "services"] (spD W 0 0 2 F_kept_lot) := by
  refine fn_body (N := ["value", "services", "lot", "one", "at"]) (m := m_kept_lot) (O' := [0, 0, 0, 0, 0]) c.F_kept_lot sc_kept_lot (by decide) (fun cdv A hg0 outer s H E hr => ?_) (by decide) rfl (.inl rfl)
  have hgu := deeper_guards (env := envOfC "kept_lot" (defScope s_kept_lot) s.heap.objs.size c.a_kept_lot cdv) hg0
  exact (dss_cons (ds_if (dt_w (dw_or (dt_not (dt_tru (DO.de (call0 (ok_is_sequence c) hr (by decide) hgu rfl c.g_is_sequence c.F_is_sequence.kp c.b_is_sequence (takes_of rfl rfl rfl rfl) (da_cons (de_var rfl (L2.pv 0)) (da_nil (z := 2))))))) (dw_or1 (dt_not (dt_tru (de_callB (cr_all rfl) (cf_all rfl) rfl c.x_all boot_all (da_cons (DO.de (do_lc0 rfl sc_kept_lot.nd (own := [("one", 3)]) (b := true) (di_seq (de_var rfl (L2.pv 0))) (blkOk_by (by kernel_rfl)) (fun s H C cl fp => (dg_name (pg_name (i := 3) sc_kept_lot.nd rfl (by first | exact .inl rfl | exact .inr rfl)))) (fun s H C cl fp => (DE.weak (z' := 2) (p' := true) (de_andv (de_isi (de_var rfl (L2.pv 3)) (hm := c.x_isinstance) (hm2 := c.x_str)) (de_one (de_cmp (op_inAll (u65 hr)) (rf_in rfl) (de_var rfl (L2.pv 3)) (de_var rfl (L2.pv 1))))) (by decide))) (by decide))) (da_nil (z := 0))))))))) (dss_one (ds_ret (de_cst pe_non))) dss_nil)
  (dss_cons (ds_set (de_callTy call_tuple_of (cf_tuple rfl) rfl c.x_tuple boot_tuple (da_cons (DO.de (do_callB (cr_sortA (u70 hr)) (cfo_sortedT rfl) rfl c.x_sorted (by decide +kernel) (da_cons (de_var rfl (L2.pv 0)) (da_nil (z := 1))))) (da_nil (z := 1)))) (fun _ pe => ps_set sc_kept_lot.nd rfl (by first | exact .inl rfl | exact .inr rfl) pe))
  (dss_one (ds_ret (de_if (dt_tru (de_callB (cr_all rfl) (cf_all rfl) rfl c.x_all boot_all (da_cons (DO.de (do_lc0 rfl sc_kept_lot.nd (own := [("at", 4)]) (b := true) (di_range1 rfl c.x_range (da_cons (de_op2 op_sub rf_sub (de_callB call_len (cf_len rfl) rfl c.x_len boot_len (da_cons (de_var rfl (L2.pv 2)) (da_nil (z := 0)))) (de_cst pe_int)) (da_nil (z := 0)))) (blkOk_by (by kernel_rfl)) (fun s H C cl fp => (dg_name (pg_name (i := 4) sc_kept_lot.nd rfl (by first | exact .inl rfl | exact .inr rfl)))) (fun s H C cl fp => (DE.weak (z' := 2) (p' := true) (de_cmp (op_neD (u64 hr)) (rf_ne rfl) (de_ix ix_or (rf_ix rfl) (de_var rfl (L2.pv 2)) (de_var rfl (L2.pv 4))) (de_ix ix_or (rf_ix rfl) (de_var rfl (L2.pv 2)) (DO.de (do_op2 op_addD (rfo_add rfl) (de_var rfl (L2.pv 4)) (de_cst pe_int))))) (by decide))) (by decide))) (da_nil (z := 0))))) (de_var rfl (L2.pv 2)) (de_cst pe_non))))))
def m_kept_pairs : MS := (dSeq (dIte (dOr (dNot (dTru (dCall F_is_sequence [] (dCons (dVar 0) dNil)))) (dNot (dTru (dCB dAll (dCons (dLc true (dItems (dVar 0)) (gN 2) mYes (dAndV (dCall F_is_sequence [] (dCons (dVar 2) dNil)) (dOp2 dEq (dCB dLen (dCons (dVar 2) dNil)) (dC (.int 2)))) [2]) dNil))))) (dRet (dC .non)) dSkip)
  (dSeq (dIte (dOr (dTest (dOp2 dIsN (dCall F_kept_lot [] (dCons (dLc true (dItems (dVar 0)) (gN 2) mYes (dOp2 dIx (dVar 2) (dC (.int 0))) [2]) (dCons (dVar 1) dNil))) (dC .non))) (dNot (dTru (dCB dAll (dCons (dLc true (dItems (dVar 0)) (gN 2) mYes (dCall F_is_number [] (dCons (dOp2 dIx (dVar 2) (dC (.int 1))) (dCons (dC (.int 0)) dNil))) [2]) dNil))))) (dRet (dC .non)) dSkip)
  (dRet (dCB dTuple (dCons (dCB dSortedT (dCons (dLc true (dItems (dVar 0)) (gN 2) mYes (dCB dTuple (dCons (dVar 2) dNil)) [2]) dNil)) dNil)))))
def F_kept_pairs : FM := runF 3 0 m_kept_pairs
theorem sc_kept_pairs : FnScope ["value", "services", "pair"] ["value", "services"] (defScope s_kept_pairs) := ⟨rfl, rfl, rfl, by decide +kernel, rfl, by decide +kernel, by decide +kernel⟩
theorem ok_kept_pairs (c : Fct W.K mg) : FnG P w W.K mg base 3 c.a_kept_pairs c.d_kept_pairs ["value", "services"] (spD W 0 0 2 F_kept_pairs) := by
  refine fn_body (N := ["value", "services", "pair"]) (m := m_kept_pairs) (O' := [0, 0, 0]) c.F_kept_pairs sc_kept_pairs (by decide) (fun cdv A hg0 outer s H E hr => ?_) (by decide) rfl (.inl rfl)
  have hgu := deeper_guards (env := envOfC "kept_pairs" (defScope s_kept_pairs) s.heap.objs.size c.a_kept_pairs cdv) hg0
  exact (dss_cons (ds_if (dt_w (dw_or (dt_not (dt_tru (DO.de (call0 (ok_is_sequence c) hr (by decide) hgu rfl c.g_is_sequence c.F_is_sequence.kp c.b_is_sequence (takes_of rfl rfl rfl rfl) (da_cons (de_var rfl (L2.pv 0)) (da_nil (z := 2))))))) (dw_or1 (dt_not (dt_tru (de_callB (cr_all rfl) (cf_all rfl) rfl c.x_all boot_all (da_cons (DO.de (do_lc0 rfl sc_kept_pairs.nd (own := [("pair", 2)]) (b := true) (di_seq (de_var rfl (L2.pv 0))) (blkOk_by (by kernel_rfl)) (fun s H C cl fp => (dg_name (pg_name (i := 2) sc_kept_pairs.nd rfl (by first | exact .inl rfl | exact .inr rfl)))) (fun s H C cl fp => (DE.weak (z' := 2) (p' := true) (de_andv (DO.de (call0 (ok_is_sequence c) hr (by decide) hgu rfl c.g_is_sequence c.F_is_sequence.kp c.b_is_sequence DL.takes0 (da_cons (de_var rfl (L2.pv 2)) (da_nil (z := 2))))) (de_one (de_cmp (op_eqD (u64 hr)) (rf_eq rfl) (de_callB call_len (cf_len rfl) rfl c.x_len boot_len (da_cons (de_var rfl (L2.pv 2)) (da_nil (z := 0)))) (de_cst pe_int)))) (by decide))) (by decide))) (da_nil (z := 0))))))))) (dss_one (ds_ret (de_cst pe_non))) dss_nil)
  (dss_cons (ds_if (dt_w (dw_or (dt_cmp op_isN rf_isN (DO.de (call0 (ok_kept_lot c) hr (by decide) hgu rfl c.g_kept_lot c.F_kept_lot.kp c.b_kept_lot (takes_of rfl rfl rfl rfl) (da_cons (DO.de (do_lc0 rfl sc_kept_pairs.nd (own := [("pair", 2)]) (b := true) (di_seq (de_var rfl (L2.pv 0))) (blkOk_by (by kernel_rfl)) (fun s H C cl fp => (dg_name (pg_name (i := 2) sc_kept_pairs.nd rfl (by first | exact .inl rfl | exact .inr rfl)))) (fun s H C cl fp => (DE.weak (z' := 2) (p' := true) (de_ix ix_or (rf_ix rfl) (de_var rfl (L2.pv 2)) (de_cst pe_int)) (by decide))) (by decide))) (da_cons (de_var rfl (L2.pv 1)) (da_nil (z := 2)))))) (de_cst pe_non)) (dw_or1 (dt_not (dt_tru (de_callB (cr_all rfl) (cf_all rfl) rfl c.x_all boot_all (da_cons (DO.de (do_lc0 rfl sc_kept_pairs.nd (own := [("pair", 2)]) (b := true) (di_seq (de_var rfl (L2.pv 0))) (blkOk_by (by kernel_rfl)) (fun s H C cl fp => (dg_name (pg_name (i := 2) sc_kept_pairs.nd rfl (by first | exact .inl rfl | exact .inr rfl)))) (fun s H C cl fp => (DE.weak (z' := 2) (p' := true) (DO.de (call0 (ok_is_number c) hr (by decide) hgu rfl c.g_is_number c.F_is_number.kp c.b_is_number DL.takes0 (da_cons (de_ix ix_or (rf_ix rfl) (de_var rfl (L2.pv 2)) (de_cst pe_int)) (da_cons (de_cst pe_int) (da_nil (z := 2)))))) (by decide))) (by decide))) (da_nil (z := 0))))))))) (dss_one (ds_ret (de_cst pe_non))) dss_nil)
  (dss_one (ds_ret (de_callTy call_tuple_of (cf_tuple rfl) rfl c.x_tuple boot_tuple (da_cons (DO.de (do_callB (cr_sortA (u70 hr)) (cfo_sortedT rfl) rfl c.x_sorted (by decide +kernel) (da_cons (DO.de (do_lc0 rfl sc_kept_pairs.nd (own := [("pair", 2)]) (b := true) (di_seq (de_var rfl (L2.pv 0))) (blkOk_by (by kernel_rfl)) (fun s H C cl fp => (dg_name (pg_name (i := 2) sc_kept_pairs.nd rfl (by first | exact .inl rfl | exact .inr rfl)))) (fun s H C cl fp => (DE.weak (z' := 2) (p' := true) (de_callTy call_tuple_of (cf_tuple rfl) rfl c.x_tuple boot_tuple (da_cons (de_var rfl (L2.pv 2)) (da_nil (z := 1)))) (by decide))) (by decide))) (da_nil (z := 1))))) (da_nil (z := 1))))))))
def m_kept_triples : MS := (dSeq (dIte (dNot (dTru (dCall F_is_sequence [] (dCons (dVar 0) dNil)))) (dRet (dC .non)) dSkip)
  (dSeq (dSet 2 (dLst dNil))
  (dSeq (dFor (dItems (dVar 0)) (gN 3) (dSeq (dIte (dOr (dNot (dTru (dCall F_is_sequence [] (dCons (dVar 3) dNil)))) (dOr (dTest (dOp2 dNe (dCB dLen (dCons (dVar 3) dNil)) (dC (.int 3)))) (dNot (dTru (dCall F_is_number [] (dCons (dOp2 dIx (dVar 3) (dC (.int 2))) (dCons (dC (.int 1)) dNil))))))) (dRet (dC .non)) dSkip)
  (dSeq (dSet 4 (dCall F_kept_lot [] (dCons (dSlice (dVar 3) none (some (dC (.int 2)))) (dCons (dVar 1) dNil))))
  (dSeq (dIte (dOr (dTest (dOp2 dIsN (dVar 4) (dC .non))) (dTru (dCB dAny (dCons (dLc true (dItems (dVar 2)) (gN 5) mYes (dOp2 dEq (dSlice (dVar 5) none (some (dC (.int 2)))) (dVar 4)) [5]) dNil)))) (dRet (dC .non)) dSkip)
  (dExpr (dMeth 2 mAppend (dCons (dOp2 dAdd (dVar 4) (dTup (dCons (dOp2 dIx (dVar 3) (dC (.int 2))) dNil))) dNil)))))))
  (dRet (dCB dTuple (dCons (dCB dSortedT (dCons (dVar 2) dNil)) dNil))))))
def F_kept_triples : FM := runF 6 0 m_kept_triples
theorem sc_kept_triples : FnScope ["value", "services", "found", "triple", "ends", "other"] ["value", "services"] (defScope s_kept_triples) := ⟨rfl, rfl, rfl, by decide +kernel, rfl, by decide +kernel, by decide +kernel⟩
theorem ok_kept_triples (c : Fct W.K mg) : FnG P w W.K mg base 3 c.a_kept_triples c.d_kept_triples ["value", "services"] (spD W 0 0 2 F_kept_triples) := by
  refine fn_body (N := ["value", "services", "found", "triple", "ends", "other"]) (m := m_kept_triples) (O' := [0, 0, 0, 0, 0, 0]) c.F_kept_triples sc_kept_triples (by decide) (fun cdv A hg0 outer s H E hr => ?_) (by decide) rfl (.inl rfl)
  have hgu := deeper_guards (env := envOfC "kept_triples" (defScope s_kept_triples) s.heap.objs.size c.a_kept_triples cdv) hg0
  exact (dss_cons (ds_if (dt_not (dt_tru (DO.de (call0 (ok_is_sequence c) hr (by decide) hgu rfl c.g_is_sequence c.F_is_sequence.kp c.b_is_sequence (takes_of rfl rfl rfl rfl) (da_cons (de_var rfl (L2.pv 0)) (da_nil (z := 2))))))) (dss_one (ds_ret (de_cst pe_non))) dss_nil)
  (dss_cons (ds_own (do_lst (da_nil (z := 2))) (fun _ pe => ps_set sc_kept_triples.nd rfl (by first | exact .inl rfl | exact .inr rfl) pe))
  (dss_cons (ds_for (passes_of rfl) rfl (di_seq (de_var rfl (L2.pv 0))) (dg_name (pg_name (i := 3) sc_kept_triples.nd rfl (by first | exact .inl rfl | exact .inr rfl))) (dss_cons (ds_if (dt_w (dw_or (dt_not (dt_tru (DO.de (call0 (ok_is_sequence c) hr (by decide) hgu rfl c.g_is_sequence c.F_is_sequence.kp c.b_is_sequence (takes_of rfl rfl rfl rfl) (da_cons (de_var rfl (L2.pv 3)) (da_nil (z := 2))))))) (dw_or (dt_cmp (op_neD (u64 hr)) (rf_ne rfl) (de_callB call_len (cf_len rfl) rfl c.x_len boot_len (da_cons (de_var rfl (L2.pv 3)) (da_nil (z := 0)))) (de_cst pe_int)) (dw_or1 (dt_not (dt_tru (DO.de (call0 (ok_is_number c) hr (by decide) hgu rfl c.g_is_number c.F_is_number.kp c.b_is_number (takes_of rfl rfl rfl rfl) (da_cons (de_ix ix_or (rf_ix rfl) (de_var rfl (L2.pv 3)) (de_cst pe_int)) (da_cons (de_cst pe_int) (da_nil (z := 2)))))))))))) (DSs.thin (O1 := [0, 0, 0, 0, 0, 0]) (dss_one (ds_ret (de_cst pe_non)))) dss_nil)
  (dss_cons (ds_set (DO.de (call0 (ok_kept_lot c) hr (by decide) hgu rfl c.g_kept_lot c.F_kept_lot.kp c.b_kept_lot (takes_of rfl rfl rfl rfl) (da_cons (DO.de (do_slice (de_var rfl (L2.pv 3)) dp_none (dp_some (de_cst pe_int)))) (da_cons (de_var rfl (L2.pv 1)) (da_nil (z := 2)))))) (fun _ pe => ps_set sc_kept_triples.nd rfl (by first | exact .inl rfl | exact .inr rfl) pe))
  (dss_cons (ds_if (dt_w (dw_or (dt_cmp op_isN rf_isN (de_var rfl (L2.pv 4)) (de_cst pe_non)) (dw_or1 (dt_tru (de_callB (cr_any rfl) (cf_any rfl) rfl c.x_any boot_any (da_cons (DO.de (do_lcw0 rfl sc_kept_triples.nd (own := [("other", 5)]) (di_seqw (de_var1 (by decide) (L2.pv 2))) (blkOk_by (by kernel_rfl)) (fun s H C cl fp => (dg_name (pg_name (i := 5) sc_kept_triples.nd rfl (by first | exact .inl rfl | exact .inr rfl)))) (fun s H C cl fp => (DE.weak (z' := 2) (p' := true) (de_cmp (op_eqD (u64 hr)) (rf_eq rfl) (DO.de (do_slice (de_var rfl (L2.pv 5)) dp_none (dp_some (de_cst pe_int)))) (de_var rfl (L2.pv 4))) (by decide))) (by decide))) (da_nil (z := 0)))))))) (DSs.thin (O1 := [0, 0, 0, 0, 0, 0]) (dss_one (ds_ret (de_cst pe_non)))) dss_nil)
  (dss_one (ds_expr (de_meth PySem.F.slot_list_append PySem.F.type_list_append mt_append mf_append (L2.pv 2) (da_cons (DO.de (do_op2 op_addD (rfo_add rfl) (de_var rfl (L2.pv 4)) (de_tup (da_cons (de_ix ix_or (rf_ix rfl) (de_var rfl (L2.pv 3)) (de_cst pe_int)) (da_nil (z := 2)))))) (da_nil (z := 2))))))))))
  (DSs.thin (O1 := [0, 0, 0, 0, 0, 0]) (dss_one (ds_ret (de_callTy call_tuple_of (cf_tuple rfl) rfl c.x_tuple boot_tuple (da_cons (DO.de (do_callB (cr_sortA (u70 hr)) (cfo_sortedT rfl) rfl c.x_sorted (by decide +kernel) (da_cons (de_var rfl (L2.pv 2)) (da_nil (z := 1))))) (da_nil (z := 1))))))))))
def m_kept_lots : MS := (dSeq (dIte (dOr (dTest (dOp2 dIsN (dVar 1) (dC .non))) (dNot (dTru (dCall F_is_sequence [] (dCons (dVar 0) dNil))))) (dRet (dC .non)) dSkip)
  (dSeq (dSet 2 (dLc true (dItems (dVar 0)) (gN 3) mYes (dCall F_kept_lot [] (dCons (dVar 3) (dCons (dVar 1) dNil))) [3]))
  (dSeq (dIte (dOr (dTest (dOp2 dIn (dC .non) (dVar 2))) (dTest (dOp2 dNe (dUn dLenSet (dVar 2)) (dCB dLen (dCons (dVar 2) dNil))))) (dRet (dC .non)) dSkip)
  (dRet (dCB dTuple (dCons (dCB dSortedT (dCons (dVar 2) dNil)) dNil))))))
def F_kept_lots : FM := runF 4 0 m_kept_lots
theorem sc_kept_lots : FnScope ["value", "names", "lots", "one"] ["value", "names"] (defScope s_kept_lots) := ⟨rfl, rfl, rfl, by decide +kernel, rfl, by decide +kernel, by decide +kernel⟩
theorem ok_kept_lots (c : Fct W.K mg) : FnG P w W.K mg base 3 c.a_kept_lots c.d_kept_lots ["value", "names"] (spD W 0 0 2 F_kept_lots) := by
  refine fn_body (N := ["value", "names", "lots", "one"]) (m := m_kept_lots) (O' := [0, 0, 0, 0]) c.F_kept_lots sc_kept_lots (by decide) (fun cdv A hg0 outer s H E hr => ?_) (by decide) rfl (.inl rfl)
  have hgu := deeper_guards (env := envOfC "kept_lots" (defScope s_kept_lots) s.heap.objs.size c.a_kept_lots cdv) hg0
  exact (dss_cons (ds_if (dt_w (dw_or (dt_cmp op_isN rf_isN (de_var rfl (L2.pv 1)) (de_cst pe_non)) (dw_or1 (dt_not (dt_tru (DO.de (call0 (ok_is_sequence c) hr (by decide) hgu rfl c.g_is_sequence c.F_is_sequence.kp c.b_is_sequence (takes_of rfl rfl rfl rfl) (da_cons (de_var rfl (L2.pv 0)) (da_nil (z := 2)))))))))) (dss_one (ds_ret (de_cst pe_non))) dss_nil)
  (dss_cons (ds_lc0 rfl sc_kept_lots.nd rfl rfl (sw_true rfl rfl rfl rfl) (own := [("one", 3)]) (b := true) (di_seq (de_var rfl (L2.pv 0))) (blkOk_by (by kernel_rfl)) (fun s H C cl fp => (dg_name (pg_name (i := 3) sc_kept_lots.nd rfl (by first | exact .inl rfl | exact .inr rfl)))) (fun s H C cl fp => (DE.weak (z' := 2) (p' := true) (DO.de (call0 (ok_kept_lot c) hr (by decide) hgu rfl c.g_kept_lot c.F_kept_lot.kp c.b_kept_lot DL.takes0 (da_cons (de_var rfl (L2.pv 3)) (da_cons (de_var rfl (L2.pv 1)) (da_nil (z := 2)))))) (by decide))) (by decide))
  (DSs.thin (O1 := [0, 0, 0, 0]) (dss_cons (ds_if (dt_w (dw_or (dt_cmp (op_inAll (u65 hr)) (rf_in rfl) (de_cst pe_non) (de_var rfl (L2.pv 2))) (dw_or1 (dt_cmp (op_neD (u64 hr)) (rf_ne rfl) (de_lenSet (de_var rfl (L2.pv 2)) (u70 hr) (hm := c.x_len) (hm2 := c.x_set)) (de_callB call_len (cf_len rfl) rfl c.x_len boot_len (da_cons (de_var rfl (L2.pv 2)) (da_nil (z := 0)))))))) (dss_one (ds_ret (de_cst pe_non))) dss_nil)
  (dss_one (ds_ret (de_callTy call_tuple_of (cf_tuple rfl) rfl c.x_tuple boot_tuple (da_cons (DO.de (do_callB (cr_sortA (u70 hr)) (cfo_sortedT rfl) rfl c.x_sorted (by decide +kernel) (da_cons (de_var rfl (L2.pv 2)) (da_nil (z := 1))))) (da_nil (z := 1))))))))))
def m_kept_feed : MS := (dSeq (dPar [3, 4] (dCons (dCall F_kept_pairs [] (dCons (dVar 0) (dCons (dVar 2) dNil))) (dCons (dCall F_kept_pairs [] (dCons (dVar 1) (dCons (dVar 2) dNil))) dNil)))
  (dSeq (dIte (dOr (dTest (dOp2 dIsN (dVar 3) (dC .non))) (dOr (dTest (dOp2 dIsN (dVar 4) (dC .non))) (dTest (dOp2 dIsN (dCall F_kept_lot [] (dCons (dLc true (dItems (dOp2 dAdd (dVar 3) (dVar 4))) (gN 5) mYes (dOp2 dIx (dVar 5) (dC (.int 0))) [5]) (dCons (dVar 2) dNil))) (dC .non))))) (dRet (dTup (dCons (dC .non) (dCons (dC .non) dNil)))) dSkip)
  (dRet (dTup (dCons (dVar 3) (dCons (dVar 4) dNil))))))
def F_kept_feed : FM := runF 6 0 m_kept_feed
theorem sc_kept_feed : FnScope ["users", "sources", "services", "some", "others", "pair"] ["users", "sources", "services"] (defScope s_kept_feed) := ⟨rfl, rfl, rfl, by decide +kernel, rfl, by decide +kernel, by decide +kernel⟩
theorem ok_kept_feed (c : Fct W.K mg) : FnG P w W.K mg base 4 c.a_kept_feed c.d_kept_feed ["users", "sources", "services"] (spD W 0 0 3 F_kept_feed) := by
  refine fn_body (N := ["users", "sources", "services", "some", "others", "pair"]) (m := m_kept_feed) (O' := [0, 0, 0, 0, 0, 0]) c.F_kept_feed sc_kept_feed (by decide) (fun cdv A hg0 outer s H E hr => ?_) (by decide) rfl (.inl rfl)
  have hgu := deeper_guards (env := envOfC "kept_feed" (defScope s_kept_feed) s.heap.objs.size c.a_kept_feed cdv) hg0
  exact (dss_cons (ds_par2 (dos_cons (call0 (ok_kept_pairs c) hr (by decide) hgu rfl c.g_kept_pairs c.F_kept_pairs.kp c.b_kept_pairs (takes_of rfl rfl rfl rfl) (da_cons (de_var rfl (L2.pv 0)) (da_cons (de_var rfl (L2.pv 2)) (da_nil (z := 2))))) (dos_cons (call0 (ok_kept_pairs c) hr (by decide) hgu rfl c.g_kept_pairs c.F_kept_pairs.kp c.b_kept_pairs (takes_of rfl rfl rfl rfl) (da_cons (de_var rfl (L2.pv 1)) (da_cons (de_var rfl (L2.pv 2)) (da_nil (z := 2))))) dos_nil)) (fun _ pa => ps_par rfl sc_kept_feed.nd rfl rfl (by decide) rfl rfl pa rfl))
  (dss_cons (ds_if (dt_w (dw_or (dt_cmp op_isN rf_isN (de_var rfl (L2.pv 3)) (de_cst pe_non)) (dw_or (dt_cmp op_isN rf_isN (de_var rfl (L2.pv 4)) (de_cst pe_non)) (dw_or1 (dt_cmp op_isN rf_isN (DO.de (call0 (ok_kept_lot c) hr (by decide) hgu rfl c.g_kept_lot c.F_kept_lot.kp c.b_kept_lot (takes_of rfl rfl rfl rfl) (da_cons (DO.de (do_lc0 rfl sc_kept_feed.nd (own := [("pair", 5)]) (b := true) (di_seq (DO.de (do_op2 op_addD (rfo_add rfl) (de_var rfl (L2.pv 3)) (de_var rfl (L2.pv 4))))) (blkOk_by (by kernel_rfl)) (fun s H C cl fp => (dg_name (pg_name (i := 5) sc_kept_feed.nd rfl (by first | exact .inl rfl | exact .inr rfl)))) (fun s H C cl fp => (DE.weak (z' := 2) (p' := true) (de_ix ix_or (rf_ix rfl) (de_var rfl (L2.pv 5)) (de_cst pe_int)) (by decide))) (by decide))) (da_cons (de_var rfl (L2.pv 2)) (da_nil (z := 2)))))) (de_cst pe_non)))))) (dss_one (ds_ret (de_tup (da_cons (de_cst pe_non) (da_cons (de_cst pe_non) (da_nil (z := 2))))))) dss_nil)
  (dss_one (ds_ret (de_tup (da_cons (de_var rfl (L2.pv 3)) (da_cons (de_var rfl (L2.pv 4)) (da_nil (z := 2)))))))))
def m_kept_rule : MS := (dSeq (dIte (dOr (dNot (dTru (dCall F_is_sequence [] (dCons (dVar 1) dNil)))) (dOr (dTest (dOp2 dNotIn (dCB dLen (dCons (dVar 1) dNil)) (dTup (dCons (dC (.int 3)) (dCons (dC (.int 4)) dNil))))) (dNot (dTru (dUn (dIsT "str") (dOp2 dIx (dVar 1) (dC (.int 0)))))))) (dRet (dC .non)) dSkip)
  (dSeq (dPar [2, 3, 4] (dCons (dOp2 dIx (dVar 1) (dC (.int 0))) (dCons (dOp2 dIx (dVar 1) (dC (.int 1))) (dCons (dOp2 dIx (dVar 1) (dC (.int 2))) dNil))))
  (dSeq (dSet 5 (dTup (dCons (dC .non) dNil)))
  (dSeq (dIte (dTest (dOp2 dEq (dCB dLen (dCons (dVar 1) dNil)) (dC (.int 4)))) (dIte (dTest (dOp2 dEq (dVar 2) (dC (.str "feed")))) (dSet 5 (dOp2 dAdd (dCall F_kept_feed [] (dCons (dVar 3) (dCons (dVar 4) (dCons (dVar 0) dNil)))) (dTup (dCons (dCall F_kept_number [] (dCons (dOp2 dIx (dVar 1) (dC (.int 3))) (dCons (dUn dNeg (dC (.int 1000000))) dNil))) dNil)))) dSkip) (dIte (dTest (dOp2 dEq (dVar 2) (dC (.str "imply")))) (dSet 5 (dTup (dCons (dCall F_kept_lot [] (dCons (dVar 3) (dCons (dVar 0) dNil))) (dCons (dCall F_kept_lot [] (dCons (dVar 4) (dCons (dVar 0) dNil))) dNil)))) (dIte (dTest (dOp2 dEq (dVar 2) (dC (.str "cap")))) (dSet 5 (dTup (dCons (dCall F_kept_pairs [] (dCons (dVar 3) (dCons (dVar 0) dNil))) (dCons (dCall F_kept_number [] (dCons (dVar 4) (dCons (dC (.int 0)) dNil))) dNil)))) (dIte (dTest (dOp2 dEq (dVar 2) (dC (.str "cut")))) (dSet 5 (dTup (dCons (dCall F_kept_triples [] (dCons (dVar 3) (dCons (dVar 0) dNil))) (dCons (dCall F_kept_number [] (dCons (dVar 4) (dCons (dC (.int 0)) dNil))) dNil)))) (dIte (dTest (dOp2 dEq (dVar 2) (dC (.str "table")))) (dSeq (dSet 6 (dCall F_kept_lot [] (dCons (dVar 3) (dCons (dVar 0) dNil))))
  (dSet 5 (dTup (dCons (dVar 6) (dCons (dCall F_kept_lots [] (dCons (dVar 4) (dCons (dVar 6) dNil))) dNil))))) dSkip)))))
  (dRet (dIf (dTest (dOp2 dIn (dC .non) (dVar 5))) (dC .non) (dOp2 dAdd (dTup (dCons (dVar 2) dNil)) (dVar 5))))))))
def F_kept_rule : FM := runF 7 0 m_kept_rule
theorem sc_kept_rule : FnScope ["services", "value", "word", "one", "other", "found", "names"] ["services", "value"] (defScope s_kept_rule) := ⟨rfl, rfl, rfl, by decide +kernel, rfl, by decide +kernel, by decide +kernel⟩
theorem ok_kept_rule (c : Fct W.K mg) : FnG P w W.K mg base 5 c.a_kept_rule c.d_kept_rule ["services", "value"] (spD W 0 0 2 F_kept_rule) := by
  refine fn_body (N := ["services", "value", "word", "one", "other", "found", "names"]) (m := m_kept_rule) (O' := [0, 0, 0, 0, 0, 0, 0]) c.F_kept_rule sc_kept_rule (by decide) (fun cdv A hg0 outer s H E hr => ?_) (by decide) rfl (.inl rfl)
  have hgu := deeper_guards (env := envOfC "kept_rule" (defScope s_kept_rule) s.heap.objs.size c.a_kept_rule cdv) hg0
  exact (dss_cons (ds_if (dt_w (dw_or (dt_not (dt_tru (DO.de (call0 (ok_is_sequence c) hr (by decide) hgu rfl c.g_is_sequence c.F_is_sequence.kp c.b_is_sequence (takes_of rfl rfl rfl rfl) (da_cons (de_var rfl (L2.pv 1)) (da_nil (z := 2))))))) (dw_or (dt_cmp (op_notInAll (u65 hr)) (rf_notIn rfl) (de_callB call_len (cf_len rfl) rfl c.x_len boot_len (da_cons (de_var rfl (L2.pv 1)) (da_nil (z := 0)))) (de_tup (da_cons (de_cst pe_int) (da_cons (de_cst pe_int) (da_nil (z := 2)))))) (dw_or1 (dt_not (dt_tru (de_isi (de_ix ix_or (rf_ix rfl) (de_var rfl (L2.pv 1)) (de_cst pe_int)) (hm := c.x_isinstance) (hm2 := c.x_str)))))))) (dss_one (ds_ret (de_cst pe_non))) dss_nil)
  (dss_cons (ds_par3 (dos_cons (DE.do0 (de_ix ix_or (rf_ix rfl) (de_var rfl (L2.pv 1)) (de_cst pe_int))) (dos_cons (DE.do0 (de_ix ix_or (rf_ix rfl) (de_var rfl (L2.pv 1)) (de_cst pe_int))) (dos_cons (DE.do0 (de_ix ix_or (rf_ix rfl) (de_var rfl (L2.pv 1)) (de_cst pe_int))) dos_nil))) (fun _ pa => ps_par3 rfl sc_kept_rule.nd rfl rfl rfl (by decide) (by decide) (by decide) rfl rfl rfl pa rfl))
  (dss_cons (ds_set (de_tup (da_cons (de_cst pe_non) (da_nil (z := 2)))) (fun _ pe => ps_set sc_kept_rule.nd rfl (by first | exact .inl rfl | exact .inr rfl) pe))
  (dss_cons (ds_if (dt_cmp (op_eqD (u64 hr)) (rf_eq rfl) (de_callB call_len (cf_len rfl) rfl c.x_len boot_len (da_cons (de_var rfl (L2.pv 1)) (da_nil (z := 0)))) (de_cst pe_int)) (dss_one (ds_if (dt_cmp (op_eqD (u64 hr)) (rf_eq rfl) (de_var rfl (L2.pv 2)) (de_cst pe_str)) (dss_one (ds_set (DO.de (do_op2 op_addD (rfo_add rfl) (DO.de (call0 (ok_kept_feed c) hr (by decide) hgu rfl c.g_kept_feed c.F_kept_feed.kp c.b_kept_feed (takes_of rfl rfl rfl rfl) (da_cons (de_var rfl (L2.pv 3)) (da_cons (de_var rfl (L2.pv 4)) (da_cons (de_var rfl (L2.pv 0)) (da_nil (z := 2))))))) (de_tup (da_cons (DO.de (call0 (ok_kept_number c) hr (by decide) hgu rfl c.g_kept_number c.F_kept_number.kp c.b_kept_number (takes_of rfl rfl rfl rfl) (da_cons (de_ix ix_or (rf_ix rfl) (de_var rfl (L2.pv 1)) (de_cst pe_int)) (da_cons (de_neg (de_cst (pe_gv rfl c.n_GREATEST))) (da_nil (z := 2)))))) (da_nil (z := 2)))))) (fun _ pe => ps_set sc_kept_rule.nd rfl (by first | exact .inl rfl | exact .inr rfl) pe))) dss_nil)) (dss_one (ds_if (dt_cmp (op_eqD (u64 hr)) (rf_eq rfl) (de_var rfl (L2.pv 2)) (de_cst pe_str)) (dss_one (ds_set (de_tup (da_cons (DO.de (call0 (ok_kept_lot c) hr (by decide) hgu rfl c.g_kept_lot c.F_kept_lot.kp c.b_kept_lot (takes_of rfl rfl rfl rfl) (da_cons (de_var rfl (L2.pv 3)) (da_cons (de_var rfl (L2.pv 0)) (da_nil (z := 2)))))) (da_cons (DO.de (call0 (ok_kept_lot c) hr (by decide) hgu rfl c.g_kept_lot c.F_kept_lot.kp c.b_kept_lot (takes_of rfl rfl rfl rfl) (da_cons (de_var rfl (L2.pv 4)) (da_cons (de_var rfl (L2.pv 0)) (da_nil (z := 2)))))) (da_nil (z := 2))))) (fun _ pe => ps_set sc_kept_rule.nd rfl (by first | exact .inl rfl | exact .inr rfl) pe))) (dss_one (ds_if (dt_cmp (op_eqD (u64 hr)) (rf_eq rfl) (de_var rfl (L2.pv 2)) (de_cst pe_str)) (dss_one (ds_set (de_tup (da_cons (DO.de (call0 (ok_kept_pairs c) hr (by decide) hgu rfl c.g_kept_pairs c.F_kept_pairs.kp c.b_kept_pairs (takes_of rfl rfl rfl rfl) (da_cons (de_var rfl (L2.pv 3)) (da_cons (de_var rfl (L2.pv 0)) (da_nil (z := 2)))))) (da_cons (DO.de (call0 (ok_kept_number c) hr (by decide) hgu rfl c.g_kept_number c.F_kept_number.kp c.b_kept_number (takes_of rfl rfl rfl rfl) (da_cons (de_var rfl (L2.pv 4)) (da_cons (de_cst pe_int) (da_nil (z := 2)))))) (da_nil (z := 2))))) (fun _ pe => ps_set sc_kept_rule.nd rfl (by first | exact .inl rfl | exact .inr rfl) pe))) (dss_one (ds_if (dt_cmp (op_eqD (u64 hr)) (rf_eq rfl) (de_var rfl (L2.pv 2)) (de_cst pe_str)) (dss_one (ds_set (de_tup (da_cons (DO.de (call0 (ok_kept_triples c) hr (by decide) hgu rfl c.g_kept_triples c.F_kept_triples.kp c.b_kept_triples (takes_of rfl rfl rfl rfl) (da_cons (de_var rfl (L2.pv 3)) (da_cons (de_var rfl (L2.pv 0)) (da_nil (z := 2)))))) (da_cons (DO.de (call0 (ok_kept_number c) hr (by decide) hgu rfl c.g_kept_number c.F_kept_number.kp c.b_kept_number (takes_of rfl rfl rfl rfl) (da_cons (de_var rfl (L2.pv 4)) (da_cons (de_cst pe_int) (da_nil (z := 2)))))) (da_nil (z := 2))))) (fun _ pe => ps_set sc_kept_rule.nd rfl (by first | exact .inl rfl | exact .inr rfl) pe))) (dss_one (ds_if (dt_cmp (op_eqD (u64 hr)) (rf_eq rfl) (de_var rfl (L2.pv 2)) (de_cst pe_str)) (dss_cons (ds_set (DO.de (call0 (ok_kept_lot c) hr (by decide) hgu rfl c.g_kept_lot c.F_kept_lot.kp c.b_kept_lot (takes_of rfl rfl rfl rfl) (da_cons (de_var rfl (L2.pv 3)) (da_cons (de_var rfl (L2.pv 0)) (da_nil (z := 2)))))) (fun _ pe => ps_set sc_kept_rule.nd rfl (by first | exact .inl rfl | exact .inr rfl) pe))
  (dss_one (ds_set (de_tup (da_cons (de_var rfl (L2.pv 6)) (da_cons (DO.de (call0 (ok_kept_lots c) hr (by decide) hgu rfl c.g_kept_lots c.F_kept_lots.kp c.b_kept_lots (takes_of rfl rfl rfl rfl) (da_cons (de_var rfl (L2.pv 4)) (da_cons (de_var rfl (L2.pv 6)) (da_nil (z := 2)))))) (da_nil (z := 2))))) (fun _ pe => ps_set sc_kept_rule.nd rfl (by first | exact .inl rfl | exact .inr rfl) pe)))) dss_nil)))))))))
  (dss_one (ds_ret (de_if (dt_cmp (op_inAll (u65 hr)) (rf_in rfl) (de_cst pe_non) (de_var rfl (L2.pv 5))) (de_cst pe_non) (DO.de (do_op2 op_addD (rfo_add rfl) (de_tup (da_cons (de_var rfl (L2.pv 2)) (da_nil (z := 2)))) (de_var rfl (L2.pv 5)))))))))))
def m_made_rule : MS := (dSeq (dSet 2 (dCall F_kept_rule [] (dCons (dVar 0) (dCons (dVar 1) dNil))))
  (dSeq (dIte (dTest (dOp2 dIsN (dVar 2) (dC .non))) dBadS dSkip)
  (dRet (dVar 2))))
def F_made_rule : FM := runF 3 0 m_made_rule
theorem sc_made_rule : FnScope ["services", "value", "rule"] ["services", "value"] (defScope s_made_rule) := ⟨rfl, rfl, rfl, by decide +kernel, rfl, by decide +kernel, by decide +kernel⟩
theorem ok_made_rule (c : Fct W.K mg) : FnG P w W.K mg base 6 c.a_made_rule c.d_made_rule ["services", "value"] (spD W 0 0 2 F_made_rule) := by
  refine fn_body (N := ["services", "value", "rule"]) (m := m_made_rule) (O' := [0, 0, 0]) c.F_made_rule sc_made_rule (by decide) (fun cdv A hg0 outer s H E hr => ?_) (by decide) rfl (.inl rfl)
  have hgu := deeper_guards (env := envOfC "made_rule" (defScope s_made_rule) s.heap.objs.size c.a_made_rule cdv) hg0
  exact (dss_cons (ds_set (DO.de (call0 (ok_kept_rule c) hr (by decide) hgu rfl c.g_kept_rule c.F_kept_rule.kp c.b_kept_rule (takes_of rfl rfl rfl rfl) (da_cons (de_var rfl (L2.pv 0)) (da_cons (de_var rfl (L2.pv 1)) (da_nil (z := 2)))))) (fun _ pe => ps_set sc_made_rule.nd rfl (by first | exact .inl rfl | exact .inr rfl) pe))
  (dss_cons (ds_if (dt_cmp op_isN rf_isN (de_var rfl (L2.pv 2)) (de_cst pe_non)) (dss_one ds_bad) dss_nil)
  (dss_one (ds_ret (de_var rfl (L2.pv 2))))))
def m_sum_of : MS := (dRet (dCB dSum (dCons (dLc true (dItems (dVar 0)) (gT 2 (gsCons (gN 2) (gsCons (gN 3) gsNil))) (dTest (dOp2 dIn (dVar 2) (dVar 1))) (dVar 3) [2, 3]) dNil)))
def F_sum_of : FM := runF 4 0 m_sum_of
theorem sc_sum_of : FnScope ["pairs", "state", "name", "number"] ["pairs", "state"] (defScope s_sum_of) := ⟨rfl, rfl, rfl, by decide +kernel, rfl, by decide +kernel, by decide +kernel⟩
theorem ok_sum_of (c : Fct W.K mg) : FnG P w W.K mg base 1 c.a_sum_of c.d_sum_of ["pairs", "state"] (spD W 0 0 2 F_sum_of) := by
  refine fn_body (N := ["pairs", "state", "name", "number"]) (m := m_sum_of) (O' := [0, 0, 0, 0]) c.F_sum_of sc_sum_of (by decide) (fun cdv A hg0 outer s H E hr => ?_) (by decide) rfl (.inl rfl)
  have hgu := deeper_guards (env := envOfC "sum_of" (defScope s_sum_of) s.heap.objs.size c.a_sum_of cdv) hg0
  exact (dss_one (ds_ret (de_callB (cr_sum rfl) (cf_sum rfl) rfl c.x_sum boot_sum (da_cons (DO.de (do_lc1 rfl sc_sum_of.nd (own := [("name", 2), ("number", 3)]) (b := true) (di_seq (de_var rfl (L2.pv 0))) (blkOk_by (by kernel_rfl)) (fun s H C cl fp => (dg_tup (n := 2) rfl rfl (dgs_cons (dg_name (pg_name (i := 2) sc_sum_of.nd rfl (by first | exact .inl rfl | exact .inr rfl))) (dgs_cons (dg_name (pg_name (i := 3) sc_sum_of.nd rfl (by first | exact .inl rfl | exact .inr rfl))) dgs_nil pgs_cons) pgs_cons))) (fun s H C cl fp => (DT.weak (p' := true) (dt_cmp (op_inAll (u65 hr)) (rf_in rfl) (de_var rfl (L2.pv 2)) (de_var rfl (L2.pv 1))))) (fun s H C cl fp => (DE.weak (z' := 2) (p' := true) (de_var rfl (L2.pv 3)) (by decide))) (by decide))) (da_nil (z := 0))))))
def m_cut_of : MS := (dRet (dCB dSum (dCons (dLc true (dItems (dVar 0)) (gT 3 (gsCons (gN 2) (gsCons (gN 3) (gsCons (gN 4) gsNil)))) (dTest (dOp2 dNe (dOp2 dIn (dVar 2) (dVar 1)) (dOp2 dIn (dVar 3) (dVar 1)))) (dVar 4) [2, 3, 4]) dNil)))
def F_cut_of : FM := runF 5 0 m_cut_of
theorem sc_cut_of : FnScope ["triples", "state", "one", "other", "number"] ["triples", "state"] (defScope s_cut_of) := ⟨rfl, rfl, rfl, by decide +kernel, rfl, by decide +kernel, by decide +kernel⟩
theorem ok_cut_of (c : Fct W.K mg) : FnG P w W.K mg base 1 c.a_cut_of c.d_cut_of ["triples", "state"] (spD W 0 0 2 F_cut_of) := by
  refine fn_body (N := ["triples", "state", "one", "other", "number"]) (m := m_cut_of) (O' := [0, 0, 0, 0, 0]) c.F_cut_of sc_cut_of (by decide) (fun cdv A hg0 outer s H E hr => ?_) (by decide) rfl (.inl rfl)
  have hgu := deeper_guards (env := envOfC "cut_of" (defScope s_cut_of) s.heap.objs.size c.a_cut_of cdv) hg0
  exact (dss_one (ds_ret (de_callB (cr_sum rfl) (cf_sum rfl) rfl c.x_sum boot_sum (da_cons (DO.de (do_lc1 rfl sc_cut_of.nd (own := [("one", 2), ("other", 3), ("number", 4)]) (b := true) (di_seq (de_var rfl (L2.pv 0))) (blkOk_by (by kernel_rfl)) (fun s H C cl fp => (dg_tup (n := 3) rfl rfl (dgs_cons (dg_name (pg_name (i := 2) sc_cut_of.nd rfl (by first | exact .inl rfl | exact .inr rfl))) (dgs_cons (dg_name (pg_name (i := 3) sc_cut_of.nd rfl (by first | exact .inl rfl | exact .inr rfl))) (dgs_cons (dg_name (pg_name (i := 4) sc_cut_of.nd rfl (by first | exact .inl rfl | exact .inr rfl))) dgs_nil pgs_cons) pgs_cons) pgs_cons))) (fun s H C cl fp => (DT.weak (p' := true) (dt_cmp (op_neD (u64 hr)) (rf_ne rfl) (de_cmp (op_inAll (u65 hr)) (rf_in rfl) (de_var rfl (L2.pv 2)) (de_var rfl (L2.pv 1))) (de_cmp (op_inAll (u65 hr)) (rf_in rfl) (de_var rfl (L2.pv 3)) (de_var rfl (L2.pv 1)))))) (fun s H C cl fp => (DE.weak (z' := 2) (p' := true) (de_var rfl (L2.pv 4)) (by decide))) (by decide))) (da_nil (z := 0))))))
def m_allows : MS := (dSeq (dSet 2 (dOp2 dIx (dVar 0) (dC (.int 0))))
  (dSeq (dIte (dTest (dOp2 dEq (dVar 2) (dC (.str "imply")))) (dRet (dOrV (dBool (dNot (dTru (dCall F_is_part [] (dCons (dOp2 dIx (dVar 0) (dC (.int 1))) (dCons (dVar 1) dNil)))))) (dOp2 dGt (dCB dLen (dCons (dCall F_common [] (dCons (dOp2 dIx (dVar 0) (dC (.int 2))) (dCons (dVar 1) dNil))) dNil)) (dC (.int 0))))) dSkip)
  (dSeq (dIte (dTest (dOp2 dEq (dVar 2) (dC (.str "cap")))) (dRet (dOp2 dLe (dCall F_sum_of [] (dCons (dOp2 dIx (dVar 0) (dC (.int 1))) (dCons (dVar 1) dNil))) (dOp2 dIx (dVar 0) (dC (.int 2))))) dSkip)
  (dSeq (dIte (dTest (dOp2 dEq (dVar 2) (dC (.str "cut")))) (dRet (dOp2 dLe (dCall F_cut_of [] (dCons (dOp2 dIx (dVar 0) (dC (.int 1))) (dCons (dVar 1) dNil))) (dOp2 dIx (dVar 0) (dC (.int 2))))) dSkip)
  (dSeq (dIte (dTest (dOp2 dEq (dVar 2) (dC (.str "feed")))) (dRet (dOp2 dLe (dCall F_sum_of [] (dCons (dOp2 dIx (dVar 0) (dC (.int 1))) (dCons (dVar 1) dNil))) (dOp2 dAdd (dCall F_sum_of [] (dCons (dOp2 dIx (dVar 0) (dC (.int 2))) (dCons (dVar 1) dNil))) (dOp2 dIx (dVar 0) (dC (.int 3)))))) dSkip)
  (dRet (dOp2 dIn (dCall F_common [] (dCons (dOp2 dIx (dVar 0) (dC (.int 1))) (dCons (dVar 1) dNil))) (dOp2 dIx (dVar 0) (dC (.int 2))))))))))
def F_allows : FM := runF 3 0 m_allows
theorem sc_allows : FnScope ["rule", "state", "word"] ["rule", "state"] (defScope s_allows) := ⟨rfl, rfl, rfl, by decide +kernel, rfl, by decide +kernel, by decide +kernel⟩
theorem ok_allows (c : Fct W.K mg) : FnG P w W.K mg base 2 c.a_allows c.d_allows ["rule", "state"] (spD W 0 0 2 F_allows) := by
  refine fn_body (N := ["rule", "state", "word"]) (m := m_allows) (O' := [0, 0, 0]) c.F_allows sc_allows (by decide) (fun cdv A hg0 outer s H E hr => ?_) (by decide) rfl (.inl rfl)
  have hgu := deeper_guards (env := envOfC "allows" (defScope s_allows) s.heap.objs.size c.a_allows cdv) hg0
  exact (dss_cons (ds_set (de_ix ix_or (rf_ix rfl) (de_var rfl (L2.pv 0)) (de_cst pe_int)) (fun _ pe => ps_set sc_allows.nd rfl (by first | exact .inl rfl | exact .inr rfl) pe))
  (dss_cons (ds_if (dt_cmp (op_eqD (u64 hr)) (rf_eq rfl) (de_var rfl (L2.pv 2)) (de_cst pe_str)) (dss_one (ds_ret (de_orv (de_notv (DO.de (call0 (ok_is_part c) hr (by decide) hgu rfl c.g_is_part c.F_is_part.kp c.b_is_part (takes_of rfl rfl rfl rfl) (da_cons (de_ix ix_or (rf_ix rfl) (de_var rfl (L2.pv 0)) (de_cst pe_int)) (da_cons (de_var rfl (L2.pv 1)) (da_nil (z := 2))))))) (de_one (de_cmp (DL.OpR.or op_gt op_gt_str) rf_gt (de_callB call_len (cf_len rfl) rfl c.x_len boot_len (da_cons (DO.de (call0 (ok_common c) hr (by decide) hgu rfl c.g_common c.F_common.kp c.b_common (takes_of rfl rfl rfl rfl) (da_cons (de_ix ix_or (rf_ix rfl) (de_var rfl (L2.pv 0)) (de_cst pe_int)) (da_cons (de_var rfl (L2.pv 1)) (da_nil (z := 2)))))) (da_nil (z := 0)))) (de_cst pe_int)))))) dss_nil)
  (dss_cons (ds_if (dt_cmp (op_eqD (u64 hr)) (rf_eq rfl) (de_var rfl (L2.pv 2)) (de_cst pe_str)) (dss_one (ds_ret (de_cmp (DL.OpR.or op_le op_le_str) rf_le (DO.de (call0 (ok_sum_of c) hr (by decide) hgu rfl c.g_sum_of c.F_sum_of.kp c.b_sum_of (takes_of rfl rfl rfl rfl) (da_cons (de_ix ix_or (rf_ix rfl) (de_var rfl (L2.pv 0)) (de_cst pe_int)) (da_cons (de_var rfl (L2.pv 1)) (da_nil (z := 2)))))) (de_ix ix_or (rf_ix rfl) (de_var rfl (L2.pv 0)) (de_cst pe_int))))) dss_nil)
  (dss_cons (ds_if (dt_cmp (op_eqD (u64 hr)) (rf_eq rfl) (de_var rfl (L2.pv 2)) (de_cst pe_str)) (dss_one (ds_ret (de_cmp (DL.OpR.or op_le op_le_str) rf_le (DO.de (call0 (ok_cut_of c) hr (by decide) hgu rfl c.g_cut_of c.F_cut_of.kp c.b_cut_of (takes_of rfl rfl rfl rfl) (da_cons (de_ix ix_or (rf_ix rfl) (de_var rfl (L2.pv 0)) (de_cst pe_int)) (da_cons (de_var rfl (L2.pv 1)) (da_nil (z := 2)))))) (de_ix ix_or (rf_ix rfl) (de_var rfl (L2.pv 0)) (de_cst pe_int))))) dss_nil)
  (dss_cons (ds_if (dt_cmp (op_eqD (u64 hr)) (rf_eq rfl) (de_var rfl (L2.pv 2)) (de_cst pe_str)) (dss_one (ds_ret (de_cmp (DL.OpR.or op_le op_le_str) rf_le (DO.de (call0 (ok_sum_of c) hr (by decide) hgu rfl c.g_sum_of c.F_sum_of.kp c.b_sum_of (takes_of rfl rfl rfl rfl) (da_cons (de_ix ix_or (rf_ix rfl) (de_var rfl (L2.pv 0)) (de_cst pe_int)) (da_cons (de_var rfl (L2.pv 1)) (da_nil (z := 2)))))) (DO.de (do_op2 op_addD (rfo_add rfl) (DO.de (call0 (ok_sum_of c) hr (by decide) hgu rfl c.g_sum_of c.F_sum_of.kp c.b_sum_of (takes_of rfl rfl rfl rfl) (da_cons (de_ix ix_or (rf_ix rfl) (de_var rfl (L2.pv 0)) (de_cst pe_int)) (da_cons (de_var rfl (L2.pv 1)) (da_nil (z := 2)))))) (de_ix ix_or (rf_ix rfl) (de_var rfl (L2.pv 0)) (de_cst pe_int))))))) dss_nil)
  (dss_one (ds_ret (de_cmp (op_inAll (u65 hr)) (rf_in rfl) (DO.de (call0 (ok_common c) hr (by decide) hgu rfl c.g_common c.F_common.kp c.b_common (takes_of rfl rfl rfl rfl) (da_cons (de_ix ix_or (rf_ix rfl) (de_var rfl (L2.pv 0)) (de_cst pe_int)) (da_cons (de_var rfl (L2.pv 1)) (da_nil (z := 2)))))) (de_ix ix_or (rf_ix rfl) (de_var rfl (L2.pv 0)) (de_cst pe_int))))))))))
def m_names_of : MS := (dSeq (dSet 1 (dOp2 dIx (dVar 0) (dC (.int 0))))
  (dSeq (dIte (dTest (dOp2 dEq (dVar 1) (dC (.str "imply")))) (dRet (dCall F_united [] (dCons (dOp2 dIx (dVar 0) (dC (.int 1))) (dCons (dOp2 dIx (dVar 0) (dC (.int 2))) dNil)))) dSkip)
  (dSeq (dIte (dTest (dOp2 dEq (dVar 1) (dC (.str "table")))) (dRet (dOp2 dIx (dVar 0) (dC (.int 1)))) dSkip)
  (dSeq (dIte (dTest (dOp2 dEq (dVar 1) (dC (.str "cut")))) (dSet 2 (dOp2 dAdd (dLc true (dItems (dOp2 dIx (dVar 0) (dC (.int 1)))) (gN 4) mYes (dOp2 dIx (dVar 4) (dC (.int 0))) [4]) (dLc true (dItems (dOp2 dIx (dVar 0) (dC (.int 1)))) (gN 4) mYes (dOp2 dIx (dVar 4) (dC (.int 1))) [4]))) (dSeq (dSet 2 (dLc true (dItems (dOp2 dIx (dVar 0) (dC (.int 1)))) (gN 3) mYes (dOp2 dIx (dVar 3) (dC (.int 0))) [3]))
  (dIte (dTest (dOp2 dEq (dVar 1) (dC (.str "feed")))) (dSet 2 (dOp2 dAdd (dVar 2) (dLc true (dItems (dOp2 dIx (dVar 0) (dC (.int 2)))) (gN 3) mYes (dOp2 dIx (dVar 3) (dC (.int 0))) [3]))) dSkip)))
  (dRet (dCB dTuple (dCons (dUn dSortSet (dVar 2)) dNil)))))))
def F_names_of : FM := runF 5 0 m_names_of
theorem sc_names_of : FnScope ["rule", "word", "names", "pair", "triple"] ["rule"] (defScope s_names_of) := ⟨rfl, rfl, rfl, by decide +kernel, rfl, by decide +kernel, by decide +kernel⟩
theorem ok_names_of (c : Fct W.K mg) : FnG P w W.K mg base 2 c.a_names_of c.d_names_of ["rule"] (spD W 0 0 1 F_names_of) := by
  refine fn_body (N := ["rule", "word", "names", "pair", "triple"]) (m := m_names_of) (O' := [0, 0, 0, 0, 0]) c.F_names_of sc_names_of (by decide) (fun cdv A hg0 outer s H E hr => ?_) (by decide) rfl (.inl rfl)
  have hgu := deeper_guards (env := envOfC "names_of" (defScope s_names_of) s.heap.objs.size c.a_names_of cdv) hg0
  exact (dss_cons (ds_set (de_ix ix_or (rf_ix rfl) (de_var rfl (L2.pv 0)) (de_cst pe_int)) (fun _ pe => ps_set sc_names_of.nd rfl (by first | exact .inl rfl | exact .inr rfl) pe))
  (dss_cons (ds_if (dt_cmp (op_eqD (u64 hr)) (rf_eq rfl) (de_var rfl (L2.pv 1)) (de_cst pe_str)) (dss_one (ds_ret (DO.de (call0 (ok_united c) hr (by decide) hgu rfl c.g_united c.F_united.kp c.b_united (takes_of rfl rfl rfl rfl) (da_cons (de_ix ix_or (rf_ix rfl) (de_var rfl (L2.pv 0)) (de_cst pe_int)) (da_cons (de_ix ix_or (rf_ix rfl) (de_var rfl (L2.pv 0)) (de_cst pe_int)) (da_nil (z := 2)))))))) dss_nil)
  (dss_cons (ds_if (dt_cmp (op_eqD (u64 hr)) (rf_eq rfl) (de_var rfl (L2.pv 1)) (de_cst pe_str)) (dss_one (ds_ret (de_ix ix_or (rf_ix rfl) (de_var rfl (L2.pv 0)) (de_cst pe_int)))) dss_nil)
  (dss_cons (ds_if (dt_cmp (op_eqD (u64 hr)) (rf_eq rfl) (de_var rfl (L2.pv 1)) (de_cst pe_str)) (dss_one (ds_set (DO.de (do_op2 op_addD (rfo_add rfl) (DO.de (do_lc0 rfl sc_names_of.nd (own := [("triple", 4)]) (b := true) (di_seq (de_ix ix_or (rf_ix rfl) (de_var rfl (L2.pv 0)) (de_cst pe_int))) (blkOk_by (by kernel_rfl)) (fun s H C cl fp => (dg_name (pg_name (i := 4) sc_names_of.nd rfl (by first | exact .inl rfl | exact .inr rfl)))) (fun s H C cl fp => (DE.weak (z' := 2) (p' := true) (de_ix ix_or (rf_ix rfl) (de_var rfl (L2.pv 4)) (de_cst pe_int)) (by decide))) (by decide))) (DO.de (do_lc0 rfl sc_names_of.nd (own := [("triple", 4)]) (b := true) (di_seq (de_ix ix_or (rf_ix rfl) (de_var rfl (L2.pv 0)) (de_cst pe_int))) (blkOk_by (by kernel_rfl)) (fun s H C cl fp => (dg_name (pg_name (i := 4) sc_names_of.nd rfl (by first | exact .inl rfl | exact .inr rfl)))) (fun s H C cl fp => (DE.weak (z' := 2) (p' := true) (de_ix ix_or (rf_ix rfl) (de_var rfl (L2.pv 4)) (de_cst pe_int)) (by decide))) (by decide))))) (fun _ pe => ps_set sc_names_of.nd rfl (by first | exact .inl rfl | exact .inr rfl) pe))) (dss_cons (ds_lc0 rfl sc_names_of.nd rfl rfl (sw_true rfl rfl rfl rfl) (own := [("pair", 3)]) (b := true) (di_seq (de_ix ix_or (rf_ix rfl) (de_var rfl (L2.pv 0)) (de_cst pe_int))) (blkOk_by (by kernel_rfl)) (fun s H C cl fp => (dg_name (pg_name (i := 3) sc_names_of.nd rfl (by first | exact .inl rfl | exact .inr rfl)))) (fun s H C cl fp => (DE.weak (z' := 2) (p' := true) (de_ix ix_or (rf_ix rfl) (de_var rfl (L2.pv 3)) (de_cst pe_int)) (by decide))) (by decide))
  (DSs.thin (O1 := [0, 0, 0, 0, 0]) (dss_one (ds_if (dt_cmp (op_eqD (u64 hr)) (rf_eq rfl) (de_var rfl (L2.pv 1)) (de_cst pe_str)) (dss_one (ds_set (DO.de (do_op2 op_addD (rfo_add rfl) (de_var rfl (L2.pv 2)) (DO.de (do_lc0 rfl sc_names_of.nd (own := [("pair", 3)]) (b := true) (di_seq (de_ix ix_or (rf_ix rfl) (de_var rfl (L2.pv 0)) (de_cst pe_int))) (blkOk_by (by kernel_rfl)) (fun s H C cl fp => (dg_name (pg_name (i := 3) sc_names_of.nd rfl (by first | exact .inl rfl | exact .inr rfl)))) (fun s H C cl fp => (DE.weak (z' := 2) (p' := true) (de_ix ix_or (rf_ix rfl) (de_var rfl (L2.pv 3)) (de_cst pe_int)) (by decide))) (by decide))))) (fun _ pe => ps_set sc_names_of.nd rfl (by first | exact .inl rfl | exact .inr rfl) pe))) dss_nil)))))
  (dss_one (ds_ret (de_callTy call_tuple_of (cf_tuple rfl) rfl c.x_tuple boot_tuple (da_cons (DO.de (do_sortSet (de_var rfl (L2.pv 2)) (u70 hr) (hm := c.x_sorted) (hm2 := c.x_set))) (da_nil (z := 1))))))))))
def m_meet_or_join : MS := (dSeq (dIte (dTru (dCall F_allows [] (dCons (dVar 0) (dCons (dCall F_common [] (dCons (dVar 1) (dCons (dVar 2) dNil))) dNil)))) (dRet (dC (.str "meet"))) dSkip)
  (dRet (dIf (dTru (dCall F_allows [] (dCons (dVar 0) (dCons (dCall F_united [] (dCons (dVar 1) (dCons (dVar 2) dNil))) dNil)))) (dC (.str "join")) (dC .non))))
def F_meet_or_join : FM := runF 3 0 m_meet_or_join
theorem sc_meet_or_join : FnScope ["rule", "one", "other"] ["rule", "one", "other"] (defScope s_meet_or_join) := ⟨rfl, rfl, rfl, by decide +kernel, rfl, by decide +kernel, by decide +kernel⟩
theorem ok_meet_or_join (c : Fct W.K mg) : FnG P w W.K mg base 3 c.a_meet_or_join c.d_meet_or_join ["rule", "one", "other"] (spD W 0 0 3 F_meet_or_join) := by
  refine fn_body (N := ["rule", "one", "other"]) (m := m_meet_or_join) (O' := [0, 0, 0]) c.F_meet_or_join sc_meet_or_join (by decide) (fun cdv A hg0 outer s H E hr => ?_) (by decide) rfl (.inl rfl)
  have hgu := deeper_guards (env := envOfC "meet_or_join" (defScope s_meet_or_join) s.heap.objs.size c.a_meet_or_join cdv) hg0
  exact (dss_cons (ds_if (dt_tru (DO.de (call0 (ok_allows c) hr (by decide) hgu rfl c.g_allows c.F_allows.kp c.b_allows (takes_of rfl rfl rfl rfl) (da_cons (de_var rfl (L2.pv 0)) (da_cons (DO.de (call0 (ok_common c) hr (by decide) hgu rfl c.g_common c.F_common.kp c.b_common (takes_of rfl rfl rfl rfl) (da_cons (de_var rfl (L2.pv 1)) (da_cons (de_var rfl (L2.pv 2)) (da_nil (z := 2)))))) (da_nil (z := 2))))))) (dss_one (ds_ret (de_cst pe_str))) dss_nil)
  (dss_one (ds_ret (de_if (dt_tru (DO.de (call0 (ok_allows c) hr (by decide) hgu rfl c.g_allows c.F_allows.kp c.b_allows (takes_of rfl rfl rfl rfl) (da_cons (de_var rfl (L2.pv 0)) (da_cons (DO.de (call0 (ok_united c) hr (by decide) hgu rfl c.g_united c.F_united.kp c.b_united (takes_of rfl rfl rfl rfl) (da_cons (de_var rfl (L2.pv 1)) (da_cons (de_var rfl (L2.pv 2)) (da_nil (z := 2)))))) (da_nil (z := 2))))))) (de_cst pe_str) (de_cst pe_non)))))
def m__law_box : MS := (dSeq (dSet 2 (dOp2 dAdd (dOp2 iMul (dC (.int 9043)) (dVar 1)) (dC (.int 36011))))
  (dSeq (dIte (dTest (dOp2 dLt (dVar 1) (dCB dLen (dCons (dVar 0) dNil)))) (dSet 2 (dCB dAbs (dCons (dOp2 dIx (dVar 0) (dVar 1)) dNil))) (dIte (dTest (dOp2 dGt (dCB dLen (dCons (dVar 0) dNil)) (dC (.int 0)))) (dSet 2 (dOp2 dAdd (dVar 2) (dOp2 iMul (dOp2 iMod (dCB dInt (dCons (dCB dAbs (dCons (dOp2 dIx (dVar 0) (dOp2 iMod (dCB dInt (dCons (dVar 1) dNil)) (dCB dLen (dCons (dVar 0) dNil)))) dNil)) dNil)) (dC (.int 2147483629))) (dC (.int 59053))))) dSkip))
  (dRet (dLst (dCons (dOp2 dIx (dLst (dCons (dC (.int 0)) (dCons (dVar 2) dNil))) (dCB dInt (dCons (dOp2 dGe (dVar 2) (dOp2 iPow (dC (.int 10)) (dC (.int 18)))) dNil))) (dCons (dOp2 dAdd (dOp2 iMod (dCB dInt (dCons (dOp2 dAdd (dOp2 dAdd (dOp2 iMul (dOp2 iMod (dCB dInt (dCons (dVar 2) dNil)) (dC (.int 2147483629))) (dC (.int 48271))) (dOp2 iMul (dC (.int 30781)) (dVar 1))) (dC (.int 1709))) dNil)) (dC (.int 2147483629))) (dC (.int 1))) (dCons (dC (.int 0)) dNil)))))))
def F__law_box : FM := runF 3 0 m__law_box
theorem sc__law_box : FnScope ["_law_script", "_law_k", "_law_cell"] ["_law_script", "_law_k"] (defScope s__law_box) := ⟨rfl, rfl, rfl, by decide +kernel, rfl, by decide +kernel, by decide +kernel⟩
theorem ok__law_box (c : Fct W.K mg) : FnG P w W.K mg base 1 c.a__law_box c.d__law_box ["_law_script", "_law_k"] (spD W 0 1 2 F__law_box) := by
  refine fn_body (N := ["_law_script", "_law_k", "_law_cell"]) (m := m__law_box) (O' := [0, 0, 0]) c.F__law_box sc__law_box (by decide) (fun cdv A hg0 outer s H E hr => ?_) (by decide) rfl (.inr (fun env e => (nx_seq (nx_seq nx_ret)) env e))
  have hgu := deeper_guards (env := envOfC "_law_box" (defScope s__law_box) s.heap.objs.size c.a__law_box cdv) hg0
  exact (dss_cons (ds_set (DO.de (do_op2 op_addD (rfo_add rfl) (de_op2 op_mul rf_mul (de_cst pe_int) (de_var rfl (L2.pv 1))) (de_cst pe_int))) (fun _ pe => ps_set sc__law_box.nd rfl (by first | exact .inl rfl | exact .inr rfl) pe))
  (dss_cons (ds_if (dt_cmp (DL.OpR.or op_lt op_lt_str) rf_lt (de_var rfl (L2.pv 1)) (de_callB call_len (cf_len rfl) rfl c.x_len boot_len (da_cons (de_var rfl (L2.pv 0)) (da_nil (z := 0))))) (dss_one (ds_set (de_callB call_abs (cf_abs) rfl c.x_abs boot_abs (da_cons (de_ix ix_or (rf_ix rfl) (de_var rfl (L2.pv 0)) (de_var rfl (L2.pv 1))) (da_nil (z := 0)))) (fun _ pe => ps_set sc__law_box.nd rfl (by first | exact .inl rfl | exact .inr rfl) pe))) (dss_one (ds_if (dt_cmp (DL.OpR.or op_gt op_gt_str) rf_gt (de_callB call_len (cf_len rfl) rfl c.x_len boot_len (da_cons (de_var rfl (L2.pv 0)) (da_nil (z := 0)))) (de_cst pe_int)) (dss_one (ds_set (DO.de (do_op2 op_addD (rfo_add rfl) (de_var rfl (L2.pv 2)) (de_op2 op_mul rf_mul (de_op2 op_mod rf_mod (de_callTy call_int1 (cf_int) rfl c.x_int boot_int (da_cons (de_callB call_abs (cf_abs) rfl c.x_abs boot_abs (da_cons (de_ix ix_or (rf_ix rfl) (de_var rfl (L2.pv 0)) (de_op2 op_mod rf_mod (de_callTy call_int1 (cf_int) rfl c.x_int boot_int (da_cons (de_var rfl (L2.pv 1)) (da_nil (z := 0)))) (de_callB call_len (cf_len rfl) rfl c.x_len boot_len (da_cons (de_var rfl (L2.pv 0)) (da_nil (z := 0)))))) (da_nil (z := 0)))) (da_nil (z := 0)))) (de_cst pe_int)) (de_cst pe_int)))) (fun _ pe => ps_set sc__law_box.nd rfl (by first | exact .inl rfl | exact .inr rfl) pe))) dss_nil)))
  (dss_one (ds_retO (do_lst (da_cons (de_ix ix_or (rf_ix rfl) (DO.de (do_lst (da_cons (de_cst pe_int) (da_cons (de_var rfl (L2.pv 2)) (da_nil (z := 2)))))) (de_callTy call_int1 (cf_int) rfl c.x_int boot_int (da_cons (de_cmp (DL.OpR.or op_ge op_ge_str) rf_ge (de_var rfl (L2.pv 2)) (de_op2 op_pow rf_pow (de_cst pe_int) (de_cst pe_int))) (da_nil (z := 0))))) (da_cons (DO.de (do_op2 op_addD (rfo_add rfl) (de_op2 op_mod rf_mod (de_callTy call_int1 (cf_int) rfl c.x_int boot_int (da_cons (DO.de (do_op2 op_addD (rfo_add rfl) (DO.de (do_op2 op_addD (rfo_add rfl) (de_op2 op_mul rf_mul (de_op2 op_mod rf_mod (de_callTy call_int1 (cf_int) rfl c.x_int boot_int (da_cons (de_var rfl (L2.pv 2)) (da_nil (z := 0)))) (de_cst pe_int)) (de_cst pe_int)) (de_op2 op_mul rf_mul (de_cst pe_int) (de_var rfl (L2.pv 1))))) (de_cst pe_int))) (da_nil (z := 0)))) (de_cst pe_int)) (de_cst pe_int))) (da_cons (de_cst pe_int) (da_nil (z := 2))))))))))
def m__law_take : MS := (dSeq (dIte (dTest (dOp2 dGt (dOp2 dIx (dVar 0) (dC (.int 0))) (dC (.int 0)))) (dSeq (dSet 2 (dOp2 iMod (dCB dInt (dCons (dOp2 dIx (dVar 0) (dC (.int 0))) dNil)) (dVar 1)))
  (dSeq (dSetIx 0 (dOp2 iDiv (dOp2 dIx (dVar 0) (dC (.int 0))) (dVar 1)) (dC (.int 0)))
  (dRet (dVar 2)))) dSkip)
  (dSeq (dSetIx 0 (dOp2 dAdd (dOp2 dIx (dVar 0) (dC (.int 2))) (dC (.int 1))) (dC (.int 2)))
  (dSeq (dSet 3 (dOp2 iMod (dCB dInt (dCons (dOp2 dAdd (dOp2 iMul (dOp2 dAdd (dOp2 dIx (dVar 0) (dC (.int 1))) (dOp2 iMul (dC (.int 98011)) (dOp2 dIx (dVar 0) (dC (.int 2))))) (dC (.int 69621))) (dC (.int 53))) dNil)) (dC (.int 2147483563))))
  (dSeq (dSetIx 0 (dOp2 dAdd (dOp2 iMod (dCB dInt (dCons (dOp2 dAdd (dOp2 iMul (dVar 3) (dC (.int 40692))) (dC (.int 31013))) dNil)) (dC (.int 2147483629))) (dC (.int 1))) (dC (.int 1)))
  (dRet (dOp2 iMod (dCB dInt (dCons (dOp2 iDiv (dOp2 dAdd (dOp2 iMul (dVar 3) (dC (.int 2147483647))) (dOp2 dIx (dVar 0) (dC (.int 1)))) (dC (.int 8191))) dNil)) (dVar 1)))))))
def F__law_take : FM := runF 4 1 m__law_take
theorem sc__law_take : FnScope ["_law_box_here", "_law_many", "_law_digit", "_law_raw"] ["_law_box_here", "_law_many"] (defScope s__law_take) := ⟨rfl, rfl, rfl, by decide +kernel, rfl, by decide +kernel, by decide +kernel⟩
theorem ok__law_take (c : Fct W.K mg) : FnG P w W.K mg base 1 c.a__law_take c.d__law_take ["_law_box_here", "_law_many"] (spD W 1 0 2 F__law_take) := by
  refine fn_body (N := ["_law_box_here", "_law_many", "_law_digit", "_law_raw"]) (m := m__law_take) (O' := [1, 0, 0, 0]) c.F__law_take sc__law_take (by decide) (fun cdv A hg0 outer s H E hr => ?_) (by decide) rfl (.inl rfl)
  have hgu := deeper_guards (env := envOfC "_law_take" (defScope s__law_take) s.heap.objs.size c.a__law_take cdv) hg0
  exact (dss_cons (ds_if (dt_cmp (DL.OpR.or op_gt op_gt_str) rf_gt (de_ix ix_or (rf_ix rfl) (de_var1 (by decide) (L2.pv 0)) (de_cst pe_int)) (de_cst pe_int)) (dss_cons (ds_set (de_op2 op_mod rf_mod (de_callTy call_int1 (cf_int) rfl c.x_int boot_int (da_cons (de_ix ix_or (rf_ix rfl) (de_var1 (by decide) (L2.pv 0)) (de_cst pe_int)) (da_nil (z := 0)))) (de_var rfl (L2.pv 1))) (fun _ pe => ps_set sc__law_take.nd rfl (by first | exact .inl rfl | exact .inr rfl) pe))
  (dss_cons (ds_setIx (de_op2 op_fdiv rf_div (de_ix ix_or (rf_ix rfl) (de_var1 (by decide) (L2.pv 0)) (de_cst pe_int)) (de_var rfl (L2.pv 1))) (L2.pv 0) (de_cst pe_int))
  (dss_one (ds_ret (de_var rfl (L2.pv 2)))))) dss_nil)
  (dss_cons (ds_setIx (DO.de (do_op2 op_addD (rfo_add rfl) (de_ix ix_or (rf_ix rfl) (de_var1 (by decide) (L2.pv 0)) (de_cst pe_int)) (de_cst pe_int))) (L2.pv 0) (de_cst pe_int))
  (dss_cons (ds_set (de_op2 op_mod rf_mod (de_callTy call_int1 (cf_int) rfl c.x_int boot_int (da_cons (DO.de (do_op2 op_addD (rfo_add rfl) (de_op2 op_mul rf_mul (DO.de (do_op2 op_addD (rfo_add rfl) (de_ix ix_or (rf_ix rfl) (de_var1 (by decide) (L2.pv 0)) (de_cst pe_int)) (de_op2 op_mul rf_mul (de_cst pe_int) (de_ix ix_or (rf_ix rfl) (de_var1 (by decide) (L2.pv 0)) (de_cst pe_int))))) (de_cst pe_int)) (de_cst pe_int))) (da_nil (z := 0)))) (de_cst pe_int)) (fun _ pe => ps_set sc__law_take.nd rfl (by first | exact .inl rfl | exact .inr rfl) pe))
  (dss_cons (ds_setIx (DO.de (do_op2 op_addD (rfo_add rfl) (de_op2 op_mod rf_mod (de_callTy call_int1 (cf_int) rfl c.x_int boot_int (da_cons (DO.de (do_op2 op_addD (rfo_add rfl) (de_op2 op_mul rf_mul (de_var rfl (L2.pv 3)) (de_cst pe_int)) (de_cst pe_int))) (da_nil (z := 0)))) (de_cst pe_int)) (de_cst pe_int))) (L2.pv 0) (de_cst pe_int))
  (dss_one (ds_ret (de_op2 op_mod rf_mod (de_callTy call_int1 (cf_int) rfl c.x_int boot_int (da_cons (de_op2 op_fdiv rf_div (DO.de (do_op2 op_addD (rfo_add rfl) (de_op2 op_mul rf_mul (de_var rfl (L2.pv 3)) (de_cst pe_int)) (de_ix ix_or (rf_ix rfl) (de_var1 (by decide) (L2.pv 0)) (de_cst pe_int)))) (de_cst pe_int)) (da_nil (z := 0)))) (de_var rfl (L2.pv 1)))))))))
def m__law_pick : MS := (dRet (dOp2 dIx (dVar 1) (dCallI F__law_take 0 [] (dCons (dCB dLen (dCons (dVar 1) dNil)) dNil))))
def F__law_pick : FM := runF 2 1 m__law_pick
theorem sc__law_pick : FnScope ["_law_box_here", "_law_some"] ["_law_box_here", "_law_some"] (defScope s__law_pick) := ⟨rfl, rfl, rfl, by decide +kernel, rfl, by decide +kernel, by decide +kernel⟩
theorem ok__law_pick (c : Fct W.K mg) : FnG P w W.K mg base 2 c.a__law_pick c.d__law_pick ["_law_box_here", "_law_some"] (spD W 1 0 2 F__law_pick) := by
  refine fn_body (N := ["_law_box_here", "_law_some"]) (m := m__law_pick) (O' := [1, 0]) c.F__law_pick sc__law_pick (by decide) (fun cdv A hg0 outer s H E hr => ?_) (by decide) rfl (.inl rfl)
  have hgu := deeper_guards (env := envOfC "_law_pick" (defScope s__law_pick) s.heap.objs.size c.a__law_pick cdv) hg0
  exact (dss_one (ds_ret (de_ix ix_or (rf_ix rfl) (de_var rfl (L2.pv 1)) (DO.de (callI0 (ok__law_take c) hr (by decide) hgu rfl c.g__law_take c.F__law_take.kp c.b__law_take (takes_of rfl rfl rfl rfl) (L2.pv 0) (da_cons (de_callB call_len (cf_len rfl) rfl c.x_len boot_len (da_cons (de_var rfl (L2.pv 1)) (da_nil (z := 0)))) (da_nil (z := 2))))))))
def m__law_mixed : MS := (dSeq (dPar [2, 3] (dCons (dCB dList (dCons (dVar 1) dNil)) (dCons (dLst dNil) dNil)))
  (dSeq (dWhile (dTest (dOp2 dGt (dCB dLen (dCons (dVar 2) dNil)) (dC (.int 0)))) (dExpr (dMeth 3 mAppend (dCons (dMeth 2 mPopAt (dCons (dCallI F__law_take 0 [] (dCons (dCB dLen (dCons (dVar 2) dNil)) dNil)) dNil)) dNil))) fuel)
  (dRet (dVar 3))))
def F__law_mixed : FM := runF 4 1 m__law_mixed
theorem sc__law_mixed : FnScope ["_law_box_here", "_law_some", "_law_left", "_law_found"] ["_law_box_here", "_law_some"] (defScope s__law_mixed) := ⟨rfl, rfl, rfl, by decide +kernel, rfl, by decide +kernel, by decide +kernel⟩
theorem ok__law_mixed (c : Fct W.K mg) : FnG P w W.K mg base 2 c.a__law_mixed c.d__law_mixed ["_law_box_here", "_law_some"] (spD W 1 0 2 F__law_mixed) := by
  refine fn_body (N := ["_law_box_here", "_law_some", "_law_left", "_law_found"]) (m := m__law_mixed) (O' := [1, 0, 0, 0]) c.F__law_mixed sc__law_mixed (by decide) (fun cdv A hg0 outer s H E hr => ?_) (by decide) rfl (.inl rfl)
  have hgu := deeper_guards (env := envOfC "_law_mixed" (defScope s__law_mixed) s.heap.objs.size c.a__law_mixed cdv) hg0
  exact (dss_cons (ds_par2 (dos_cons (do_callTy call_list_of (cfo_list rfl) rfl c.x_list boot_list (da_cons (de_var rfl (L2.pv 1)) (da_nil (z := 1)))) (dos_cons (do_lst (da_nil (z := 2))) dos_nil)) (fun _ pa => ps_par rfl sc__law_mixed.nd rfl rfl (by decide) rfl rfl pa rfl))
  (dss_cons (ds_while fuel (passes_of rfl) (dt_cmp (DL.OpR.or op_gt op_gt_str) rf_gt (de_callB call_len (cf_len rfl) rfl c.x_len boot_len (da_cons (de_var1 (by decide) (L2.pv 2)) (da_nil (z := 0)))) (de_cst pe_int)) (dss_one (ds_expr (de_meth PySem.F.slot_list_append PySem.F.type_list_append mt_append mf_append (L2.pv 3) (da_cons (de_meth PySem.F.slot_list_pop PySem.F.type_list_pop mt_popAt mf_popAt (L2.pv 2) (da_cons (DO.de (callI0 (ok__law_take c) hr (by decide) hgu rfl c.g__law_take c.F__law_take.kp c.b__law_take (takes_of rfl rfl rfl rfl) (L2.pv 0) (da_cons (de_callB call_len (cf_len rfl) rfl c.x_len boot_len (da_cons (de_var1 (by decide) (L2.pv 2)) (da_nil (z := 0)))) (da_nil (z := 2))))) (da_nil (z := 2)))) (da_nil (z := 2)))))))
  (DSs.thin (O1 := [1, 0, 0, 0]) (dss_one (ds_ret (de_var rfl (L2.pv 3)))))))
def m__law_names : MS := (dSeq (dPar [2, 3] (dCons (dCallI F__law_take 0 [] (dCons (dC (.int 2)) dNil)) (dCons (dLst dNil) dNil)))
  (dSeq (dFor (dRange (dCons (dOp2 iMul (dC (.int 4)) (dVar 1)) dNil)) (gN 4) (dSeq (dIte (dTest (dOp2 dEq (dCB dLen (dCons (dVar 3) dNil)) (dVar 1))) dBrk dSkip)
  (dSeq (dSet 5 (dC (.str "")))
  (dSeq (dFor (dRange (dCons (dOp2 dAdd (dC (.int 1)) (dCallI F__law_take 0 [] (dCons (dOp2 dIx (dLst (dCons (dC (.int 2)) (dCons (dC (.int 5)) dNil))) (dVar 2)) dNil))) dNil)) (gN 6) (dSet 5 (dOp2 dAdd (dVar 5) (dOp2 dIx (dC (.str "abcdefghijklmnopqrstuvwxyz")) (dCallI F__law_take 0 [] (dCons (dOp2 dIx (dLst (dCons (dC (.int 3)) (dCons (dC (.int 26)) dNil))) (dVar 2)) dNil))))))
  (dIte (dTest (dOp2 dNotIn (dVar 5) (dVar 3))) (dExpr (dMeth 3 mAppend (dCons (dVar 5) dNil))) dSkip)))))
  (dRet (dCB dSortedT (dCons (dVar 3) dNil)))))
def F__law_names : FM := runF 7 1 m__law_names
theorem sc__law_names : FnScope ["_law_box_here", "_law_many", "_law_wide", "_law_names_here", "_law_turn", "_law_name", "_law_spot"] ["_law_box_here", "_law_many"] (defScope s__law_names) := ⟨rfl, rfl, rfl, by decide +kernel, rfl, by decide +kernel, by decide +kernel⟩
theorem ok__law_names (c : Fct W.K mg) : FnG P w W.K mg base 2 c.a__law_names c.d__law_names ["_law_box_here", "_law_many"] (spD W 1 1 2 F__law_names) := by
  refine fn_body (N := ["_law_box_here", "_law_many", "_law_wide", "_law_names_here", "_law_turn", "_law_name", "_law_spot"]) (m := m__law_names) (O' := [1, 0, 0, 0, 0, 0, 0]) c.F__law_names sc__law_names (by decide) (fun cdv A hg0 outer s H E hr => ?_) (by decide) rfl (.inr (fun env e => (nx_seq (nx_seq nx_ret)) env e))
  have hgu := deeper_guards (env := envOfC "_law_names" (defScope s__law_names) s.heap.objs.size c.a__law_names cdv) hg0
  exact (dss_cons (ds_par2 (dos_cons (callI0 (ok__law_take c) hr (by decide) hgu rfl c.g__law_take c.F__law_take.kp c.b__law_take (takes_of rfl rfl rfl rfl) (L2.pv 0) (da_cons (de_cst pe_int) (da_nil (z := 2)))) (dos_cons (do_lst (da_nil (z := 2))) dos_nil)) (fun _ pa => ps_par rfl sc__law_names.nd rfl rfl (by decide) rfl rfl pa rfl))
  (dss_cons (ds_for (passes_of rfl) rfl (di_range1 rfl c.x_range (da_cons (de_op2 op_mul rf_mul (de_cst pe_int) (de_var rfl (L2.pv 1))) (da_nil (z := 0)))) (dg_name (pg_name (i := 4) sc__law_names.nd rfl (by first | exact .inl rfl | exact .inr rfl))) (dss_cons (ds_if (dt_cmp (op_eqD (u64 hr)) (rf_eq rfl) (de_callB call_len (cf_len rfl) rfl c.x_len boot_len (da_cons (de_var1 (by decide) (L2.pv 3)) (da_nil (z := 0)))) (de_var rfl (L2.pv 1))) (dss_one ds_brk) dss_nil)
  (dss_cons (ds_set (de_cst pe_str) (fun _ pe => ps_set sc__law_names.nd rfl (by first | exact .inl rfl | exact .inr rfl) pe))
  (dss_cons (ds_for (passes_of rfl) rfl (di_range1 rfl c.x_range (da_cons (DO.de (do_op2 op_addD (rfo_add rfl) (de_cst pe_int) (DO.de (callI0 (ok__law_take c) hr (by decide) hgu rfl c.g__law_take c.F__law_take.kp c.b__law_take (takes_of rfl rfl rfl rfl) (L2.pv 0) (da_cons (de_ix ix_or (rf_ix rfl) (DO.de (do_lst (da_cons (de_cst pe_int) (da_cons (de_cst pe_int) (da_nil (z := 2)))))) (de_var rfl (L2.pv 2))) (da_nil (z := 2))))))) (da_nil (z := 0)))) (dg_name (pg_name (i := 6) sc__law_names.nd rfl (by first | exact .inl rfl | exact .inr rfl))) (dss_one (ds_set (DO.de (do_op2 op_addD (rfo_add rfl) (de_var rfl (L2.pv 5)) (de_ix ix_or (rf_ix rfl) (de_cst pe_str) (DO.de (callI0 (ok__law_take c) hr (by decide) hgu rfl c.g__law_take c.F__law_take.kp c.b__law_take (takes_of rfl rfl rfl rfl) (L2.pv 0) (da_cons (de_ix ix_or (rf_ix rfl) (DO.de (do_lst (da_cons (de_cst pe_int) (da_cons (de_cst pe_int) (da_nil (z := 2)))))) (de_var rfl (L2.pv 2))) (da_nil (z := 2)))))))) (fun _ pe => ps_set sc__law_names.nd rfl (by first | exact .inl rfl | exact .inr rfl) pe))))
  (dss_one (ds_if (dt_cmp (op_notInAll (u65 hr)) (rf_notIn rfl) (de_var rfl (L2.pv 5)) (de_var1 (by decide) (L2.pv 3))) (dss_one (ds_expr (de_meth PySem.F.slot_list_append PySem.F.type_list_append mt_append mf_append (L2.pv 3) (da_cons (de_var rfl (L2.pv 5)) (da_nil (z := 2)))))) dss_nil))))))
  (DSs.thin (O1 := [1, 0, 0, 0, 0, 0, 0]) (dss_one (ds_retO (do_callB (cr_sortA (u70 hr)) (cfo_sortedT rfl) rfl c.x_sorted (by decide +kernel) (da_cons (de_var rfl (L2.pv 3)) (da_nil (z := 1)))))))))
def m__law_lot : MS := (dRet (dCB dTuple (dCons (dLc false (dItems (dVar 1)) (gN 2) (dTest (dOp2 dEq (dCallI F__law_take 0 [] (dCons (dC (.int 2)) dNil)) (dC (.int 0)))) (dVar 2) [2]) dNil)))
def F__law_lot : FM := runF 3 1 m__law_lot
theorem sc__law_lot : FnScope ["_law_box_here", "_law_names_here", "_law_name"] ["_law_box_here", "_law_names_here"] (defScope s__law_lot) := ⟨rfl, rfl, rfl, by decide +kernel, rfl, by decide +kernel, by decide +kernel⟩
theorem ok__law_lot (c : Fct W.K mg) : FnG P w W.K mg base 2 c.a__law_lot c.d__law_lot ["_law_box_here", "_law_names_here"] (spD W 1 0 2 F__law_lot) := by
  refine fn_body (N := ["_law_box_here", "_law_names_here", "_law_name"]) (m := m__law_lot) (O' := [1, 0, 0]) c.F__law_lot sc__law_lot (by decide) (fun cdv A hg0 outer s H E hr => ?_) (by decide) rfl (.inl rfl)
  have hgu := deeper_guards (env := envOfC "_law_lot" (defScope s__law_lot) s.heap.objs.size c.a__law_lot cdv) hg0
  exact (dss_one (ds_ret (de_callTy call_tuple_of (cf_tuple rfl) rfl c.x_tuple boot_tuple (da_cons (DO.de (do_lc1 rfl sc__law_lot.nd (own := [("_law_name", 2)]) (b := false) (di_seq (de_var rfl (L2.pv 1))) (blkOk_by (by kernel_rfl)) (fun s H C cl fp => (dg_name (pg_name (i := 2) sc__law_lot.nd rfl (by first | exact .inl rfl | exact .inr rfl)))) (fun s H C cl fp => (DT.weak (p' := false) (dt_cmp (op_eqD (u64 hr)) (rf_eq rfl) (DO.de (callI0 (ok__law_take c) hr (by decide) hgu rfl c.g__law_take c.F__law_take.kp c.b__law_take DL.takes0 (L2.pv 0) (da_cons (de_cst pe_int) (da_nil (z := 2))))) (de_cst pe_int)))) (fun s H C cl fp => (DE.weak (z' := 2) (p' := false) (de_var rfl (L2.pv 2)) (by decide))) (by decide))) (da_nil (z := 1))))))
def m__law_all : MS := (dSeq (dSet 1 (dLst (dCons (dTup dNil) dNil)))
  (dSeq (dFor (dItems (dVar 0)) (gN 2) (dSet 1 (dOp2 dAdd (dVar 1) (dLc true (dItems (dVar 1)) (gN 3) mYes (dOp2 dAdd (dVar 3) (dTup (dCons (dVar 2) dNil))) [3]))))
  (dRet (dCB dSortedT (dCons (dVar 1) dNil)))))
def F__law_all : FM := runF 4 0 m__law_all
theorem sc__law_all : FnScope ["_law_names_here", "_law_found", "_law_name", "_law_part"] ["_law_names_here"] (defScope s__law_all) := ⟨rfl, rfl, rfl, by decide +kernel, rfl, by decide +kernel, by decide +kernel⟩
theorem ok__law_all (c : Fct W.K mg) : FnG P w W.K mg base 1 c.a__law_all c.d__law_all ["_law_names_here"] (spD W 0 1 1 F__law_all) := by
  refine fn_body (N := ["_law_names_here", "_law_found", "_law_name", "_law_part"]) (m := m__law_all) (O' := [0, 0, 0, 0]) c.F__law_all sc__law_all (by decide) (fun cdv A hg0 outer s H E hr => ?_) (by decide) rfl (.inr (fun env e => (nx_seq (nx_seq nx_ret)) env e))
  have hgu := deeper_guards (env := envOfC "_law_all" (defScope s__law_all) s.heap.objs.size c.a__law_all cdv) hg0
  exact (dss_cons (ds_set (DO.de (do_lst (da_cons (de_tup (da_nil (z := 2))) (da_nil (z := 2))))) (fun _ pe => ps_set sc__law_all.nd rfl (by first | exact .inl rfl | exact .inr rfl) pe))
  (dss_cons (ds_for (passes_of rfl) rfl (di_seq (de_var rfl (L2.pv 0))) (dg_name (pg_name (i := 2) sc__law_all.nd rfl (by first | exact .inl rfl | exact .inr rfl))) (dss_one (ds_set (DO.de (do_op2 op_addD (rfo_add rfl) (de_var rfl (L2.pv 1)) (DO.de (do_lc0 rfl sc__law_all.nd (own := [("_law_part", 3)]) (b := true) (di_seq (de_var rfl (L2.pv 1))) (blkOk_by (by kernel_rfl)) (fun s H C cl fp => (dg_name (pg_name (i := 3) sc__law_all.nd rfl (by first | exact .inl rfl | exact .inr rfl)))) (fun s H C cl fp => (DE.weak (z' := 2) (p' := true) (DO.de (do_op2 op_addD (rfo_add rfl) (de_var rfl (L2.pv 3)) (de_tup (da_cons (de_var rfl (L2.pv 2)) (da_nil (z := 2)))))) (by decide))) (by decide))))) (fun _ pe => ps_set sc__law_all.nd rfl (by first | exact .inl rfl | exact .inr rfl) pe))))
  (dss_one (ds_retO (do_callB (cr_sortA (u70 hr)) (cfo_sortedT rfl) rfl c.x_sorted (by decide +kernel) (da_cons (de_var rfl (L2.pv 1)) (da_nil (z := 1))))))))
def m__law_number : MS := (dRet (dIf (dTest (dOp2 dGt (dCallI F__law_take 0 [] (dCons (dC (.int 6)) dNil)) (dC (.int 0)))) (dCallI F__law_take 0 [] (dCons (dC (.int 5)) dNil)) (dCallI F__law_take 0 [] (dCons (dC (.int 1000001)) dNil))))
def F__law_number : FM := runF 1 1 m__law_number
theorem sc__law_number : FnScope ["_law_box_here"] ["_law_box_here"] (defScope s__law_number) := ⟨rfl, rfl, rfl, by decide +kernel, rfl, by decide +kernel, by decide +kernel⟩
theorem ok__law_number (c : Fct W.K mg) : FnG P w W.K mg base 2 c.a__law_number c.d__law_number ["_law_box_here"] (spD W 1 0 1 F__law_number) := by
  refine fn_body (N := ["_law_box_here"]) (m := m__law_number) (O' := [1]) c.F__law_number sc__law_number (by decide) (fun cdv A hg0 outer s H E hr => ?_) (by decide) rfl (.inl rfl)
  have hgu := deeper_guards (env := envOfC "_law_number" (defScope s__law_number) s.heap.objs.size c.a__law_number cdv) hg0
  exact (dss_one (ds_ret (de_if (dt_cmp (DL.OpR.or op_gt op_gt_str) rf_gt (DO.de (callI0 (ok__law_take c) hr (by decide) hgu rfl c.g__law_take c.F__law_take.kp c.b__law_take (takes_of rfl rfl rfl rfl) (L2.pv 0) (da_cons (de_cst pe_int) (da_nil (z := 2))))) (de_cst pe_int)) (DO.de (callI0 (ok__law_take c) hr (by decide) hgu rfl c.g__law_take c.F__law_take.kp c.b__law_take (takes_of rfl rfl rfl rfl) (L2.pv 0) (da_cons (de_cst pe_int) (da_nil (z := 2))))) (DO.de (callI0 (ok__law_take c) hr (by decide) hgu rfl c.g__law_take c.F__law_take.kp c.b__law_take (takes_of rfl rfl rfl rfl) (L2.pv 0) (da_cons (de_cst pe_int) (da_nil (z := 2))))))))
def m__law_cut : MS := (dSeq (dSet 2 (dLst dNil))
  (dSeq (dFor (dEnum (dCons (dVar 1) dNil)) (gT 2 (gsCons (gN 3) (gsCons (gN 4) gsNil))) (dFor (dItems (dSlice (dVar 1) (some (dOp2 dAdd (dVar 3) (dC (.int 1)))) none)) (gN 5) (dIte (dTest (dOp2 dEq (dCallI F__law_take 0 [] (dCons (dC (.int 2)) dNil)) (dC (.int 0)))) (dExpr (dMeth 2 mAppend (dCons (dTup (dCons (dVar 4) (dCons (dVar 5) (dCons (dOp2 dAdd (dC (.int 1)) (dCallI F__law_take 0 [] (dCons (dC (.int 3)) dNil))) dNil)))) dNil))) dSkip)))
  (dRet (dCB dTuple (dCons (dVar 2) dNil)))))
def F__law_cut : FM := runF 6 1 m__law_cut
theorem sc__law_cut : FnScope ["_law_box_here", "_law_names_here", "_law_found", "_law_at", "_law_one", "_law_other"] ["_law_box_here", "_law_names_here"] (defScope s__law_cut) := ⟨rfl, rfl, rfl, by decide +kernel, rfl, by decide +kernel, by decide +kernel⟩
theorem ok__law_cut (c : Fct W.K mg) : FnG P w W.K mg base 2 c.a__law_cut c.d__law_cut ["_law_box_here", "_law_names_here"] (spD W 1 0 2 F__law_cut) := by
  refine fn_body (N := ["_law_box_here", "_law_names_here", "_law_found", "_law_at", "_law_one", "_law_other"]) (m := m__law_cut) (O' := [1, 0, 0, 0, 0, 0]) c.F__law_cut sc__law_cut (by decide) (fun cdv A hg0 outer s H E hr => ?_) (by decide) rfl (.inl rfl)
  have hgu := deeper_guards (env := envOfC "_law_cut" (defScope s__law_cut) s.heap.objs.size c.a__law_cut cdv) hg0
  exact (dss_cons (ds_own (do_lst (da_nil (z := 2))) (fun _ pe => ps_set sc__law_cut.nd rfl (by first | exact .inl rfl | exact .inr rfl) pe))
  (dss_cons (ds_for (passes_of rfl) rfl (di_enum rfl c.x_enumerate (da_cons (de_var rfl (L2.pv 1)) (da_nil (z := 2)))) (dg_tup (n := 2) rfl rfl (dgs_cons (dg_name (pg_name (i := 3) sc__law_cut.nd rfl (by first | exact .inl rfl | exact .inr rfl))) (dgs_cons (dg_name (pg_name (i := 4) sc__law_cut.nd rfl (by first | exact .inl rfl | exact .inr rfl))) dgs_nil pgs_cons) pgs_cons)) (dss_one (ds_for (passes_of rfl) rfl (di_seq (DO.de (do_slice (de_var rfl (L2.pv 1)) (dp_some (DO.de (do_op2 op_addD (rfo_add rfl) (de_var rfl (L2.pv 3)) (de_cst pe_int)))) dp_none))) (dg_name (pg_name (i := 5) sc__law_cut.nd rfl (by first | exact .inl rfl | exact .inr rfl))) (dss_one (ds_if (dt_cmp (op_eqD (u64 hr)) (rf_eq rfl) (DO.de (callI0 (ok__law_take c) hr (by decide) hgu rfl c.g__law_take c.F__law_take.kp c.b__law_take (takes_of rfl rfl rfl rfl) (L2.pv 0) (da_cons (de_cst pe_int) (da_nil (z := 2))))) (de_cst pe_int)) (dss_one (ds_expr (de_meth PySem.F.slot_list_append PySem.F.type_list_append mt_append mf_append (L2.pv 2) (da_cons (de_tup (da_cons (de_var rfl (L2.pv 4)) (da_cons (de_var rfl (L2.pv 5)) (da_cons (DO.de (do_op2 op_addD (rfo_add rfl) (de_cst pe_int) (DO.de (callI0 (ok__law_take c) hr (by decide) hgu rfl c.g__law_take c.F__law_take.kp c.b__law_take (takes_of rfl rfl rfl rfl) (L2.pv 0) (da_cons (de_cst pe_int) (da_nil (z := 2))))))) (da_nil (z := 2)))))) (da_nil (z := 2)))))) dss_nil)))))
  (DSs.thin (O1 := [1, 0, 0, 0, 0, 0]) (dss_one (ds_ret (de_callTy call_tuple_of (cf_tuple rfl) rfl c.x_tuple boot_tuple (da_cons (de_var rfl (L2.pv 2)) (da_nil (z := 1)))))))))
def m__law_feed : MS := (dSeq (dSet 2 (dLst2 [1, 1, 1] (dCons (dLst dNil) (dCons (dLst dNil) (dCons (dLst dNil) dNil)))))
  (dSeq (dFor (dItems (dVar 1)) (gN 3) (dExpr (dMeth2 2 (dCallI F__law_take 0 [] (dCons (dC (.int 3)) dNil)) mAppend (dCons (dTup (dCons (dVar 3) (dCons (dCallI F__law_number 0 [] dNil) dNil))) dNil))))
  (dRet (dTup (dCons (dC (.str "feed")) (dCons (dCB dTuple (dCons (dOp2 dIx (dVar 2) (dC (.int 0))) dNil)) (dCons (dCB dTuple (dCons (dOp2 dIx (dVar 2) (dC (.int 1))) dNil)) (dCons (dOp2 iSub (dCallI F__law_take 0 [] (dCons (dC (.int 7)) dNil)) (dC (.int 3))) dNil))))))))
def F__law_feed : FM := runF 4 1 m__law_feed
theorem sc__law_feed : FnScope ["_law_box_here", "_law_names_here", "_law_sides", "_law_name"] ["_law_box_here", "_law_names_here"] (defScope s__law_feed) := ⟨rfl, rfl, rfl, by decide +kernel, rfl, by decide +kernel, by decide +kernel⟩
theorem ok__law_feed (c : Fct W.K mg) : FnG P w W.K mg base 3 c.a__law_feed c.d__law_feed ["_law_box_here", "_law_names_here"] (spD W 1 0 2 F__law_feed) := by
  refine fn_body (N := ["_law_box_here", "_law_names_here", "_law_sides", "_law_name"]) (m := m__law_feed) (O' := [1, 0, 0, 0]) c.F__law_feed sc__law_feed (by decide) (fun cdv A hg0 outer s H E hr => ?_) (by decide) rfl (.inl rfl)
  have hgu := deeper_guards (env := envOfC "_law_feed" (defScope s__law_feed) s.heap.objs.size c.a__law_feed cdv) hg0
  exact (dss_cons (ds_own (do_lst2 (dos_cons (do_lst (da_nil (z := 2))) (dos_cons (do_lst (da_nil (z := 2))) (dos_cons (do_lst (da_nil (z := 2))) dos_nil)))) (fun _ pe => ps_set sc__law_feed.nd rfl (by first | exact .inl rfl | exact .inr rfl) pe))
  (dss_cons (ds_for (passes_of rfl) rfl (di_seq (de_var rfl (L2.pv 1))) (dg_name (pg_name (i := 3) sc__law_feed.nd rfl (by first | exact .inl rfl | exact .inr rfl))) (dss_one (ds_expr (de_meth2 PySem.F.slot_list_append PySem.F.type_list_append mt_append mf_append (L2.pv 2) (DO.de (callI0 (ok__law_take c) hr (by decide) hgu rfl c.g__law_take c.F__law_take.kp c.b__law_take (takes_of rfl rfl rfl rfl) (L2.pv 0) (da_cons (de_cst pe_int) (da_nil (z := 2))))) (da_cons (de_tup (da_cons (de_var rfl (L2.pv 3)) (da_cons (DO.de (callI0 (ok__law_number c) hr (by decide) hgu rfl c.g__law_number c.F__law_number.kp c.b__law_number DL.takes0 (L2.pv 0) (da_nil (z := 2)))) (da_nil (z := 2))))) (da_nil (z := 2)))))))
  (DSs.thin (O1 := [1, 0, 0, 0]) (dss_one (ds_ret (de_tup (da_cons (de_cst pe_str) (da_cons (de_callTy call_tuple_of (cf_tuple rfl) rfl c.x_tuple boot_tuple (da_cons (de_ix ix_or (rf_ix rfl) (de_var rfl (L2.pv 2)) (de_cst pe_int)) (da_nil (z := 1)))) (da_cons (de_callTy call_tuple_of (cf_tuple rfl) rfl c.x_tuple boot_tuple (da_cons (de_ix ix_or (rf_ix rfl) (de_var rfl (L2.pv 2)) (de_cst pe_int)) (da_nil (z := 1)))) (da_cons (de_op2 op_sub rf_sub (DO.de (callI0 (ok__law_take c) hr (by decide) hgu rfl c.g__law_take c.F__law_take.kp c.b__law_take (takes_of rfl rfl rfl rfl) (L2.pv 0) (da_cons (de_cst pe_int) (da_nil (z := 2))))) (de_cst pe_int)) (da_nil (z := 2))))))))))))
def m__law_rule : MS := (dSeq (dPar [2, 3] (dCons (dCallI F__law_take 0 [] (dCons (dC (.int 6)) dNil)) (dCons (dCallI F__law_lot 0 [] (dCons (dVar 1) dNil)) dNil)))
  (dSeq (dIte (dTest (dOp2 dLt (dVar 2) (dC (.int 2)))) (dRet (dTup (dCons (dC (.str "imply")) (dCons (dVar 3) (dCons (dCallI F__law_lot 0 [] (dCons (dVar 1) dNil)) dNil))))) dSkip)
  (dSeq (dIte (dTest (dOp2 dEq (dVar 2) (dC (.int 2)))) (dRet (dTup (dCons (dC (.str "cap")) (dCons (dCB dTuple (dCons (dLc false (dItems (dVar 3)) (gN 4) mYes (dTup (dCons (dVar 4) (dCons (dCallI F__law_number 0 [] dNil) dNil))) [4]) dNil)) (dCons (dCallI F__law_number 0 [] dNil) dNil))))) dSkip)
  (dSeq (dIte (dTest (dOp2 dEq (dVar 2) (dC (.int 3)))) (dRet (dTup (dCons (dC (.str "cut")) (dCons (dCallI F__law_cut 0 [] (dCons (dVar 1) dNil)) (dCons (dCallI F__law_number 0 [] dNil) dNil))))) dSkip)
  (dSeq (dIte (dTest (dOp2 dEq (dVar 2) (dC (.int 4)))) (dRet (dCallI F__law_feed 0 [] (dCons (dVar 1) dNil))) dSkip)
  (dRet (dTup (dCons (dC (.str "table")) (dCons (dVar 3) (dCons (dCB dTuple (dCons (dLc false (dItems (dCall F__law_all [] (dCons (dVar 3) dNil))) (gN 5) (dTest (dOp2 dGt (dCallI F__law_take 0 [] (dCons (dC (.int 3)) dNil)) (dC (.int 0)))) (dVar 5) [5]) dNil)) dNil))))))))))
def F__law_rule : FM := runF 6 1 m__law_rule
theorem sc__law_rule : FnScope ["_law_box_here", "_law_names_here", "_law_form", "_law_some", "_law_name", "_law_lot_here"] ["_law_box_here", "_law_names_here"] (defScope s__law_rule) := ⟨rfl, rfl, rfl, by decide +kernel, rfl, by decide +kernel, by decide +kernel⟩
theorem ok__law_rule (c : Fct W.K mg) : FnG P w W.K mg base 4 c.a__law_rule c.d__law_rule ["_law_box_here", "_law_names_here"] (spD W 1 0 2 F__law_rule) := by
  refine fn_body (N := ["_law_box_here", "_law_names_here", "_law_form", "_law_some", "_law_name", "_law_lot_here"]) (m := m__law_rule) (O' := [1, 0, 0, 0, 0, 0]) c.F__law_rule sc__law_rule (by decide) (fun cdv A hg0 outer s H E hr => ?_) (by decide) rfl (.inl rfl)
  have hgu := deeper_guards (env := envOfC "_law_rule" (defScope s__law_rule) s.heap.objs.size c.a__law_rule cdv) hg0
  exact (dss_cons (ds_par2 (dos_cons (callI0 (ok__law_take c) hr (by decide) hgu rfl c.g__law_take c.F__law_take.kp c.b__law_take (takes_of rfl rfl rfl rfl) (L2.pv 0) (da_cons (de_cst pe_int) (da_nil (z := 2)))) (dos_cons (callI0 (ok__law_lot c) hr (by decide) hgu rfl c.g__law_lot c.F__law_lot.kp c.b__law_lot (takes_of rfl rfl rfl rfl) (L2.pv 0) (da_cons (de_var rfl (L2.pv 1)) (da_nil (z := 2)))) dos_nil)) (fun _ pa => ps_par rfl sc__law_rule.nd rfl rfl (by decide) rfl rfl pa rfl))
  (dss_cons (ds_if (dt_cmp (DL.OpR.or op_lt op_lt_str) rf_lt (de_var rfl (L2.pv 2)) (de_cst pe_int)) (dss_one (ds_ret (de_tup (da_cons (de_cst pe_str) (da_cons (de_var rfl (L2.pv 3)) (da_cons (DO.de (callI0 (ok__law_lot c) hr (by decide) hgu rfl c.g__law_lot c.F__law_lot.kp c.b__law_lot (takes_of rfl rfl rfl rfl) (L2.pv 0) (da_cons (de_var rfl (L2.pv 1)) (da_nil (z := 2))))) (da_nil (z := 2)))))))) dss_nil)
  (dss_cons (ds_if (dt_cmp (op_eqD (u64 hr)) (rf_eq rfl) (de_var rfl (L2.pv 2)) (de_cst pe_int)) (dss_one (ds_ret (de_tup (da_cons (de_cst pe_str) (da_cons (de_callTy call_tuple_of (cf_tuple rfl) rfl c.x_tuple boot_tuple (da_cons (DO.de (do_lc0 rfl sc__law_rule.nd (own := [("_law_name", 4)]) (b := false) (di_seq (de_var rfl (L2.pv 3))) (blkOk_by (by kernel_rfl)) (fun s H C cl fp => (dg_name (pg_name (i := 4) sc__law_rule.nd rfl (by first | exact .inl rfl | exact .inr rfl)))) (fun s H C cl fp => (DE.weak (z' := 2) (p' := false) (de_tup (da_cons (de_var rfl (L2.pv 4)) (da_cons (DO.de (callI0 (ok__law_number c) hr (by decide) hgu rfl c.g__law_number c.F__law_number.kp c.b__law_number DL.takes0 (L2.pv 0) (da_nil (z := 2)))) (da_nil (z := 2))))) (by decide))) (by decide))) (da_nil (z := 1)))) (da_cons (DO.de (callI0 (ok__law_number c) hr (by decide) hgu rfl c.g__law_number c.F__law_number.kp c.b__law_number (takes_of rfl rfl rfl rfl) (L2.pv 0) (da_nil (z := 2)))) (da_nil (z := 2)))))))) dss_nil)
  (dss_cons (ds_if (dt_cmp (op_eqD (u64 hr)) (rf_eq rfl) (de_var rfl (L2.pv 2)) (de_cst pe_int)) (dss_one (ds_ret (de_tup (da_cons (de_cst pe_str) (da_cons (DO.de (callI0 (ok__law_cut c) hr (by decide) hgu rfl c.g__law_cut c.F__law_cut.kp c.b__law_cut (takes_of rfl rfl rfl rfl) (L2.pv 0) (da_cons (de_var rfl (L2.pv 1)) (da_nil (z := 2))))) (da_cons (DO.de (callI0 (ok__law_number c) hr (by decide) hgu rfl c.g__law_number c.F__law_number.kp c.b__law_number (takes_of rfl rfl rfl rfl) (L2.pv 0) (da_nil (z := 2)))) (da_nil (z := 2)))))))) dss_nil)
  (dss_cons (ds_if (dt_cmp (op_eqD (u64 hr)) (rf_eq rfl) (de_var rfl (L2.pv 2)) (de_cst pe_int)) (dss_one (ds_ret (DO.de (callI0 (ok__law_feed c) hr (by decide) hgu rfl c.g__law_feed c.F__law_feed.kp c.b__law_feed (takes_of rfl rfl rfl rfl) (L2.pv 0) (da_cons (de_var rfl (L2.pv 1)) (da_nil (z := 2))))))) dss_nil)
  (dss_one (ds_ret (de_tup (da_cons (de_cst pe_str) (da_cons (de_var rfl (L2.pv 3)) (da_cons (de_callTy call_tuple_of (cf_tuple rfl) rfl c.x_tuple boot_tuple (da_cons (DO.de (do_lc1 rfl sc__law_rule.nd (own := [("_law_lot_here", 5)]) (b := false) (di_seq (DO.de (call0 (ok__law_all c) hr (by decide) hgu rfl c.g__law_all c.F__law_all.kp c.b__law_all (takes_of rfl rfl rfl rfl) (da_cons (de_var rfl (L2.pv 3)) (da_nil (z := 2)))))) (blkOk_by (by kernel_rfl)) (fun s H C cl fp => (dg_name (pg_name (i := 5) sc__law_rule.nd rfl (by first | exact .inl rfl | exact .inr rfl)))) (fun s H C cl fp => (DT.weak (p' := false) (dt_cmp (DL.OpR.or op_gt op_gt_str) rf_gt (DO.de (callI0 (ok__law_take c) hr (by decide) hgu rfl c.g__law_take c.F__law_take.kp c.b__law_take DL.takes0 (L2.pv 0) (da_cons (de_cst pe_int) (da_nil (z := 2))))) (de_cst pe_int)))) (fun s H C cl fp => (DE.weak (z' := 2) (p' := false) (de_var rfl (L2.pv 5)) (by decide))) (by decide))) (da_nil (z := 1)))) (da_nil (z := 2)))))))))))))
def m__law_breaks : MS := (dSeq (dSet 2 (dOp2 dIx (dVar 0) (dC (.int 0))))
  (dSeq (dIte (dTest (dOp2 dEq (dVar 2) (dC (.str "imply")))) (dRet (dAndV (dOp2 dEq (dCB dLen (dCons (dLc true (dItems (dOp2 dIx (dVar 0) (dC (.int 1)))) (gN 4) (dTest (dOp2 dNotIn (dVar 4) (dVar 1))) (dVar 4) [4]) dNil)) (dC (.int 0))) (dOp2 dEq (dCB dLen (dCons (dLc true (dItems (dOp2 dIx (dVar 0) (dC (.int 2)))) (gN 5) (dTest (dOp2 dIn (dVar 5) (dVar 1))) (dVar 5) [5]) dNil)) (dC (.int 0))))) dSkip)
  (dSeq (dIte (dTest (dOp2 dEq (dVar 2) (dC (.str "cap")))) (dRet (dOp2 dGt (dCB dSum (dCons (dLc true (dItems (dOp2 dIx (dVar 0) (dC (.int 1)))) (gN 6) (dTest (dOp2 dIn (dOp2 dIx (dVar 6) (dC (.int 0))) (dVar 1))) (dOp2 dIx (dVar 6) (dC (.int 1))) [6]) dNil)) (dOp2 dIx (dVar 0) (dC (.int 2))))) dSkip)
  (dSeq (dIte (dTest (dOp2 dEq (dVar 2) (dC (.str "cut")))) (dRet (dOp2 dGt (dCB dSum (dCons (dLc true (dItems (dOp2 dIx (dVar 0) (dC (.int 1)))) (gN 7) (dTest (dOp2 dNe (dOp2 dIn (dOp2 dIx (dVar 7) (dC (.int 0))) (dVar 1)) (dOp2 dIn (dOp2 dIx (dVar 7) (dC (.int 1))) (dVar 1)))) (dOp2 dIx (dVar 7) (dC (.int 2))) [7]) dNil)) (dOp2 dIx (dVar 0) (dC (.int 2))))) dSkip)
  (dSeq (dIte (dTest (dOp2 dEq (dVar 2) (dC (.str "feed")))) (dSeq (dSet 3 (dOp2 dAdd (dOp2 dIx (dVar 0) (dC (.int 3))) (dCB dSum (dCons (dLc true (dItems (dOp2 dIx (dVar 0) (dC (.int 2)))) (gN 6) (dTest (dOp2 dIn (dOp2 dIx (dVar 6) (dC (.int 0))) (dVar 1))) (dOp2 dIx (dVar 6) (dC (.int 1))) [6]) dNil))))
  (dRet (dOp2 dGt (dCB dSum (dCons (dLc true (dItems (dOp2 dIx (dVar 0) (dC (.int 1)))) (gN 6) (dTest (dOp2 dIn (dOp2 dIx (dVar 6) (dC (.int 0))) (dVar 1))) (dOp2 dIx (dVar 6) (dC (.int 1))) [6]) dNil)) (dVar 3)))) dSkip)
  (dRet (dOp2 dNotIn (dCB dTuple (dCons (dLc true (dItems (dOp2 dIx (dVar 0) (dC (.int 1)))) (gN 8) (dTest (dOp2 dIn (dVar 8) (dVar 1))) (dVar 8) [8]) dNil)) (dOp2 dIx (dVar 0) (dC (.int 2))))))))))
def F__law_breaks : FM := runF 9 0 m__law_breaks
theorem sc__law_breaks : FnScope ["_law_rule_here", "_law_state", "_law_word", "_law_given", "_law_x", "_law_y", "_law_pair", "_law_row", "_law_name"] ["_law_rule_here", "_law_state"] (defScope s__law_breaks) := ⟨rfl, rfl, rfl, by decide +kernel, rfl, by decide +kernel, by decide +kernel⟩
theorem ok__law_breaks (c : Fct W.K mg) : FnG P w W.K mg base 1 c.a__law_breaks c.d__law_breaks ["_law_rule_here", "_law_state"] (spD W 0 0 2 F__law_breaks) := by
  refine fn_body (N := ["_law_rule_here", "_law_state", "_law_word", "_law_given", "_law_x", "_law_y", "_law_pair", "_law_row", "_law_name"]) (m := m__law_breaks) (O' := [0, 0, 0, 0, 0, 0, 0, 0, 0]) c.F__law_breaks sc__law_breaks (by decide) (fun cdv A hg0 outer s H E hr => ?_) (by decide) rfl (.inl rfl)
  have hgu := deeper_guards (env := envOfC "_law_breaks" (defScope s__law_breaks) s.heap.objs.size c.a__law_breaks cdv) hg0
  exact (dss_cons (ds_set (de_ix ix_or (rf_ix rfl) (de_var rfl (L2.pv 0)) (de_cst pe_int)) (fun _ pe => ps_set sc__law_breaks.nd rfl (by first | exact .inl rfl | exact .inr rfl) pe))
  (dss_cons (ds_if (dt_cmp (op_eqD (u64 hr)) (rf_eq rfl) (de_var rfl (L2.pv 2)) (de_cst pe_str)) (dss_one (ds_ret (de_andv (de_cmp (op_eqD (u64 hr)) (rf_eq rfl) (de_callB call_len (cf_len rfl) rfl c.x_len boot_len (da_cons (DO.de (do_lc1 rfl sc__law_breaks.nd (own := [("_law_x", 4)]) (b := true) (di_seq (de_ix ix_or (rf_ix rfl) (de_var rfl (L2.pv 0)) (de_cst pe_int))) (blkOk_by (by kernel_rfl)) (fun s H C cl fp => (dg_name (pg_name (i := 4) sc__law_breaks.nd rfl (by first | exact .inl rfl | exact .inr rfl)))) (fun s H C cl fp => (DT.weak (p' := true) (dt_cmp (op_notInAll (u65 hr)) (rf_notIn rfl) (de_var rfl (L2.pv 4)) (de_var rfl (L2.pv 1))))) (fun s H C cl fp => (DE.weak (z' := 2) (p' := true) (de_var rfl (L2.pv 4)) (by decide))) (by decide))) (da_nil (z := 0)))) (de_cst pe_int)) (de_one (de_cmp (op_eqD (u64 hr)) (rf_eq rfl) (de_callB call_len (cf_len rfl) rfl c.x_len boot_len (da_cons (DO.de (do_lc1 rfl sc__law_breaks.nd (own := [("_law_y", 5)]) (b := true) (di_seq (de_ix ix_or (rf_ix rfl) (de_var rfl (L2.pv 0)) (de_cst pe_int))) (blkOk_by (by kernel_rfl)) (fun s H C cl fp => (dg_name (pg_name (i := 5) sc__law_breaks.nd rfl (by first | exact .inl rfl | exact .inr rfl)))) (fun s H C cl fp => (DT.weak (p' := true) (dt_cmp (op_inAll (u65 hr)) (rf_in rfl) (de_var rfl (L2.pv 5)) (de_var rfl (L2.pv 1))))) (fun s H C cl fp => (DE.weak (z' := 2) (p' := true) (de_var rfl (L2.pv 5)) (by decide))) (by decide))) (da_nil (z := 0)))) (de_cst pe_int)))))) dss_nil)
  (dss_cons (ds_if (dt_cmp (op_eqD (u64 hr)) (rf_eq rfl) (de_var rfl (L2.pv 2)) (de_cst pe_str)) (dss_one (ds_ret (de_cmp (DL.OpR.or op_gt op_gt_str) rf_gt (de_callB (cr_sum rfl) (cf_sum rfl) rfl c.x_sum boot_sum (da_cons (DO.de (do_lc1 rfl sc__law_breaks.nd (own := [("_law_pair", 6)]) (b := true) (di_seq (de_ix ix_or (rf_ix rfl) (de_var rfl (L2.pv 0)) (de_cst pe_int))) (blkOk_by (by kernel_rfl)) (fun s H C cl fp => (dg_name (pg_name (i := 6) sc__law_breaks.nd rfl (by first | exact .inl rfl | exact .inr rfl)))) (fun s H C cl fp => (DT.weak (p' := true) (dt_cmp (op_inAll (u65 hr)) (rf_in rfl) (de_ix ix_or (rf_ix rfl) (de_var rfl (L2.pv 6)) (de_cst pe_int)) (de_var rfl (L2.pv 1))))) (fun s H C cl fp => (DE.weak (z' := 2) (p' := true) (de_ix ix_or (rf_ix rfl) (de_var rfl (L2.pv 6)) (de_cst pe_int)) (by decide))) (by decide))) (da_nil (z := 0)))) (de_ix ix_or (rf_ix rfl) (de_var rfl (L2.pv 0)) (de_cst pe_int))))) dss_nil)
  (dss_cons (ds_if (dt_cmp (op_eqD (u64 hr)) (rf_eq rfl) (de_var rfl (L2.pv 2)) (de_cst pe_str)) (dss_one (ds_ret (de_cmp (DL.OpR.or op_gt op_gt_str) rf_gt (de_callB (cr_sum rfl) (cf_sum rfl) rfl c.x_sum boot_sum (da_cons (DO.de (do_lc1 rfl sc__law_breaks.nd (own := [("_law_row", 7)]) (b := true) (di_seq (de_ix ix_or (rf_ix rfl) (de_var rfl (L2.pv 0)) (de_cst pe_int))) (blkOk_by (by kernel_rfl)) (fun s H C cl fp => (dg_name (pg_name (i := 7) sc__law_breaks.nd rfl (by first | exact .inl rfl | exact .inr rfl)))) (fun s H C cl fp => (DT.weak (p' := true) (dt_cmp (op_neD (u64 hr)) (rf_ne rfl) (de_cmp (op_inAll (u65 hr)) (rf_in rfl) (de_ix ix_or (rf_ix rfl) (de_var rfl (L2.pv 7)) (de_cst pe_int)) (de_var rfl (L2.pv 1))) (de_cmp (op_inAll (u65 hr)) (rf_in rfl) (de_ix ix_or (rf_ix rfl) (de_var rfl (L2.pv 7)) (de_cst pe_int)) (de_var rfl (L2.pv 1)))))) (fun s H C cl fp => (DE.weak (z' := 2) (p' := true) (de_ix ix_or (rf_ix rfl) (de_var rfl (L2.pv 7)) (de_cst pe_int)) (by decide))) (by decide))) (da_nil (z := 0)))) (de_ix ix_or (rf_ix rfl) (de_var rfl (L2.pv 0)) (de_cst pe_int))))) dss_nil)
  (dss_cons (ds_if (dt_cmp (op_eqD (u64 hr)) (rf_eq rfl) (de_var rfl (L2.pv 2)) (de_cst pe_str)) (dss_cons (ds_set (DO.de (do_op2 op_addD (rfo_add rfl) (de_ix ix_or (rf_ix rfl) (de_var rfl (L2.pv 0)) (de_cst pe_int)) (de_callB (cr_sum rfl) (cf_sum rfl) rfl c.x_sum boot_sum (da_cons (DO.de (do_lc1 rfl sc__law_breaks.nd (own := [("_law_pair", 6)]) (b := true) (di_seq (de_ix ix_or (rf_ix rfl) (de_var rfl (L2.pv 0)) (de_cst pe_int))) (blkOk_by (by kernel_rfl)) (fun s H C cl fp => (dg_name (pg_name (i := 6) sc__law_breaks.nd rfl (by first | exact .inl rfl | exact .inr rfl)))) (fun s H C cl fp => (DT.weak (p' := true) (dt_cmp (op_inAll (u65 hr)) (rf_in rfl) (de_ix ix_or (rf_ix rfl) (de_var rfl (L2.pv 6)) (de_cst pe_int)) (de_var rfl (L2.pv 1))))) (fun s H C cl fp => (DE.weak (z' := 2) (p' := true) (de_ix ix_or (rf_ix rfl) (de_var rfl (L2.pv 6)) (de_cst pe_int)) (by decide))) (by decide))) (da_nil (z := 0)))))) (fun _ pe => ps_set sc__law_breaks.nd rfl (by first | exact .inl rfl | exact .inr rfl) pe))
  (dss_one (ds_ret (de_cmp (DL.OpR.or op_gt op_gt_str) rf_gt (de_callB (cr_sum rfl) (cf_sum rfl) rfl c.x_sum boot_sum (da_cons (DO.de (do_lc1 rfl sc__law_breaks.nd (own := [("_law_pair", 6)]) (b := true) (di_seq (de_ix ix_or (rf_ix rfl) (de_var rfl (L2.pv 0)) (de_cst pe_int))) (blkOk_by (by kernel_rfl)) (fun s H C cl fp => (dg_name (pg_name (i := 6) sc__law_breaks.nd rfl (by first | exact .inl rfl | exact .inr rfl)))) (fun s H C cl fp => (DT.weak (p' := true) (dt_cmp (op_inAll (u65 hr)) (rf_in rfl) (de_ix ix_or (rf_ix rfl) (de_var rfl (L2.pv 6)) (de_cst pe_int)) (de_var rfl (L2.pv 1))))) (fun s H C cl fp => (DE.weak (z' := 2) (p' := true) (de_ix ix_or (rf_ix rfl) (de_var rfl (L2.pv 6)) (de_cst pe_int)) (by decide))) (by decide))) (da_nil (z := 0)))) (de_var rfl (L2.pv 3)))))) dss_nil)
  (dss_one (ds_ret (de_cmp (op_notInAll (u65 hr)) (rf_notIn rfl) (de_callTy call_tuple_of (cf_tuple rfl) rfl c.x_tuple boot_tuple (da_cons (DO.de (do_lc1 rfl sc__law_breaks.nd (own := [("_law_name", 8)]) (b := true) (di_seq (de_ix ix_or (rf_ix rfl) (de_var rfl (L2.pv 0)) (de_cst pe_int))) (blkOk_by (by kernel_rfl)) (fun s H C cl fp => (dg_name (pg_name (i := 8) sc__law_breaks.nd rfl (by first | exact .inl rfl | exact .inr rfl)))) (fun s H C cl fp => (DT.weak (p' := true) (dt_cmp (op_inAll (u65 hr)) (rf_in rfl) (de_var rfl (L2.pv 8)) (de_var rfl (L2.pv 1))))) (fun s H C cl fp => (DE.weak (z' := 2) (p' := true) (de_var rfl (L2.pv 8)) (by decide))) (by decide))) (da_nil (z := 1)))) (de_ix ix_or (rf_ix rfl) (de_var rfl (L2.pv 0)) (de_cst pe_int))))))))))
def m__law_named : MS := (dSeq (dSet 1 (dOp2 dIx (dVar 0) (dC (.int 0))))
  (dSeq (dSet 2 (dCB dList (dCons (dOp2 dIx (dVar 0) (dC (.int 1))) dNil)))
  (dSeq (dIte (dTest (dOp2 dEq (dVar 1) (dC (.str "imply")))) (dSet 2 (dOp2 dAdd (dVar 2) (dCB dList (dCons (dOp2 dIx (dVar 0) (dC (.int 2))) dNil)))) (dIte (dTest (dOp2 dEq (dVar 1) (dC (.str "cut")))) (dSet 2 (dOp2 dAdd (dLc true (dItems (dOp2 dIx (dVar 0) (dC (.int 1)))) (gN 3) mYes (dOp2 dIx (dVar 3) (dC (.int 0))) [3]) (dLc true (dItems (dOp2 dIx (dVar 0) (dC (.int 1)))) (gN 3) mYes (dOp2 dIx (dVar 3) (dC (.int 1))) [3]))) (dIte (dTest (dOp2 dEq (dVar 1) (dC (.str "cap")))) (dSet 2 (dLc true (dItems (dOp2 dIx (dVar 0) (dC (.int 1)))) (gN 4) mYes (dOp2 dIx (dVar 4) (dC (.int 0))) [4])) (dIte (dTest (dOp2 dEq (dVar 1) (dC (.str "feed")))) (dSet 2 (dOp2 dAdd (dLc true (dItems (dOp2 dIx (dVar 0) (dC (.int 1)))) (gN 4) mYes (dOp2 dIx (dVar 4) (dC (.int 0))) [4]) (dLc true (dItems (dOp2 dIx (dVar 0) (dC (.int 2)))) (gN 4) mYes (dOp2 dIx (dVar 4) (dC (.int 0))) [4]))) dSkip))))
  (dSeq (dSet 2 (dCB dSortedT (dCons (dVar 2) dNil)))
  (dRet (dCB dTuple (dCons (dLc true (dEnum (dCons (dVar 2) dNil)) (gT 2 (gsCons (gN 5) (gsCons (gN 6) gsNil))) (dTest (dOp2 dNotIn (dVar 6) (dSlice (dVar 2) none (some (dVar 5))))) (dVar 6) [5, 6]) dNil)))))))
def F__law_named : FM := runF 7 0 m__law_named
theorem sc__law_named : FnScope ["_law_rule_here", "_law_word", "_law_found", "_law_row", "_law_pair", "_law_at", "_law_name"] ["_law_rule_here"] (defScope s__law_named) := ⟨rfl, rfl, rfl, by decide +kernel, rfl, by decide +kernel, by decide +kernel⟩
theorem ok__law_named (c : Fct W.K mg) : FnG P w W.K mg base 1 c.a__law_named c.d__law_named ["_law_rule_here"] (spD W 0 0 1 F__law_named) := by
  refine fn_body (N := ["_law_rule_here", "_law_word", "_law_found", "_law_row", "_law_pair", "_law_at", "_law_name"]) (m := m__law_named) (O' := [0, 0, 0, 0, 0, 0, 0]) c.F__law_named sc__law_named (by decide) (fun cdv A hg0 outer s H E hr => ?_) (by decide) rfl (.inl rfl)
  have hgu := deeper_guards (env := envOfC "_law_named" (defScope s__law_named) s.heap.objs.size c.a__law_named cdv) hg0
  exact (dss_cons (ds_set (de_ix ix_or (rf_ix rfl) (de_var rfl (L2.pv 0)) (de_cst pe_int)) (fun _ pe => ps_set sc__law_named.nd rfl (by first | exact .inl rfl | exact .inr rfl) pe))
  (dss_cons (ds_set (DO.de (do_callTy call_list_of (cfo_list rfl) rfl c.x_list boot_list (da_cons (de_ix ix_or (rf_ix rfl) (de_var rfl (L2.pv 0)) (de_cst pe_int)) (da_nil (z := 1))))) (fun _ pe => ps_set sc__law_named.nd rfl (by first | exact .inl rfl | exact .inr rfl) pe))
  (dss_cons (ds_if (dt_cmp (op_eqD (u64 hr)) (rf_eq rfl) (de_var rfl (L2.pv 1)) (de_cst pe_str)) (dss_one (ds_set (DO.de (do_op2 op_addD (rfo_add rfl) (de_var rfl (L2.pv 2)) (DO.de (do_callTy call_list_of (cfo_list rfl) rfl c.x_list boot_list (da_cons (de_ix ix_or (rf_ix rfl) (de_var rfl (L2.pv 0)) (de_cst pe_int)) (da_nil (z := 1))))))) (fun _ pe => ps_set sc__law_named.nd rfl (by first | exact .inl rfl | exact .inr rfl) pe))) (dss_one (ds_if (dt_cmp (op_eqD (u64 hr)) (rf_eq rfl) (de_var rfl (L2.pv 1)) (de_cst pe_str)) (dss_one (ds_set (DO.de (do_op2 op_addD (rfo_add rfl) (DO.de (do_lc0 rfl sc__law_named.nd (own := [("_law_row", 3)]) (b := true) (di_seq (de_ix ix_or (rf_ix rfl) (de_var rfl (L2.pv 0)) (de_cst pe_int))) (blkOk_by (by kernel_rfl)) (fun s H C cl fp => (dg_name (pg_name (i := 3) sc__law_named.nd rfl (by first | exact .inl rfl | exact .inr rfl)))) (fun s H C cl fp => (DE.weak (z' := 2) (p' := true) (de_ix ix_or (rf_ix rfl) (de_var rfl (L2.pv 3)) (de_cst pe_int)) (by decide))) (by decide))) (DO.de (do_lc0 rfl sc__law_named.nd (own := [("_law_row", 3)]) (b := true) (di_seq (de_ix ix_or (rf_ix rfl) (de_var rfl (L2.pv 0)) (de_cst pe_int))) (blkOk_by (by kernel_rfl)) (fun s H C cl fp => (dg_name (pg_name (i := 3) sc__law_named.nd rfl (by first | exact .inl rfl | exact .inr rfl)))) (fun s H C cl fp => (DE.weak (z' := 2) (p' := true) (de_ix ix_or (rf_ix rfl) (de_var rfl (L2.pv 3)) (de_cst pe_int)) (by decide))) (by decide))))) (fun _ pe => ps_set sc__law_named.nd rfl (by first | exact .inl rfl | exact .inr rfl) pe))) (dss_one (ds_if (dt_cmp (op_eqD (u64 hr)) (rf_eq rfl) (de_var rfl (L2.pv 1)) (de_cst pe_str)) (dss_one (ds_set (DO.de (do_lc0 rfl sc__law_named.nd (own := [("_law_pair", 4)]) (b := true) (di_seq (de_ix ix_or (rf_ix rfl) (de_var rfl (L2.pv 0)) (de_cst pe_int))) (blkOk_by (by kernel_rfl)) (fun s H C cl fp => (dg_name (pg_name (i := 4) sc__law_named.nd rfl (by first | exact .inl rfl | exact .inr rfl)))) (fun s H C cl fp => (DE.weak (z' := 2) (p' := true) (de_ix ix_or (rf_ix rfl) (de_var rfl (L2.pv 4)) (de_cst pe_int)) (by decide))) (by decide))) (fun _ pe => ps_set sc__law_named.nd rfl (by first | exact .inl rfl | exact .inr rfl) pe))) (dss_one (ds_if (dt_cmp (op_eqD (u64 hr)) (rf_eq rfl) (de_var rfl (L2.pv 1)) (de_cst pe_str)) (dss_one (ds_set (DO.de (do_op2 op_addD (rfo_add rfl) (DO.de (do_lc0 rfl sc__law_named.nd (own := [("_law_pair", 4)]) (b := true) (di_seq (de_ix ix_or (rf_ix rfl) (de_var rfl (L2.pv 0)) (de_cst pe_int))) (blkOk_by (by kernel_rfl)) (fun s H C cl fp => (dg_name (pg_name (i := 4) sc__law_named.nd rfl (by first | exact .inl rfl | exact .inr rfl)))) (fun s H C cl fp => (DE.weak (z' := 2) (p' := true) (de_ix ix_or (rf_ix rfl) (de_var rfl (L2.pv 4)) (de_cst pe_int)) (by decide))) (by decide))) (DO.de (do_lc0 rfl sc__law_named.nd (own := [("_law_pair", 4)]) (b := true) (di_seq (de_ix ix_or (rf_ix rfl) (de_var rfl (L2.pv 0)) (de_cst pe_int))) (blkOk_by (by kernel_rfl)) (fun s H C cl fp => (dg_name (pg_name (i := 4) sc__law_named.nd rfl (by first | exact .inl rfl | exact .inr rfl)))) (fun s H C cl fp => (DE.weak (z' := 2) (p' := true) (de_ix ix_or (rf_ix rfl) (de_var rfl (L2.pv 4)) (de_cst pe_int)) (by decide))) (by decide))))) (fun _ pe => ps_set sc__law_named.nd rfl (by first | exact .inl rfl | exact .inr rfl) pe))) dss_nil)))))))
  (dss_cons (ds_set (DO.de (do_callB (cr_sortA (u70 hr)) (cfo_sortedT rfl) rfl c.x_sorted (by decide +kernel) (da_cons (de_var rfl (L2.pv 2)) (da_nil (z := 1))))) (fun _ pe => ps_set sc__law_named.nd rfl (by first | exact .inl rfl | exact .inr rfl) pe))
  (dss_one (ds_ret (de_callTy call_tuple_of (cf_tuple rfl) rfl c.x_tuple boot_tuple (da_cons (DO.de (do_lc1 rfl sc__law_named.nd (own := [("_law_at", 5), ("_law_name", 6)]) (b := true) (di_enum rfl c.x_enumerate (da_cons (de_var rfl (L2.pv 2)) (da_nil (z := 2)))) (blkOk_by (by kernel_rfl)) (fun s H C cl fp => (dg_tup (n := 2) rfl rfl (dgs_cons (dg_name (pg_name (i := 5) sc__law_named.nd rfl (by first | exact .inl rfl | exact .inr rfl))) (dgs_cons (dg_name (pg_name (i := 6) sc__law_named.nd rfl (by first | exact .inl rfl | exact .inr rfl))) dgs_nil pgs_cons) pgs_cons))) (fun s H C cl fp => (DT.weak (p' := true) (dt_cmp (op_notInAll (u65 hr)) (rf_notIn rfl) (de_var rfl (L2.pv 6)) (DO.de (do_slice (de_var rfl (L2.pv 2)) dp_none (dp_some (de_var rfl (L2.pv 5)))))))) (fun s H C cl fp => (DE.weak (z' := 2) (p' := true) (de_var rfl (L2.pv 6)) (by decide))) (by decide))) (da_nil (z := 1))))))))))
def m__law_rule_right : MS := (dSeq (dIte (dTest (dOp2 dNe (dCB dRepr (dCons (dCall F_names_of [] (dCons (dVar 0) dNil)) dNil)) (dCB dRepr (dCons (dCall F__law_named [] (dCons (dVar 0) dNil)) dNil)))) (dRet (dC (.bool false))) dSkip)
  (dSeq (dFor (dEnum (dCons (dVar 1) dNil)) (gT 2 (gsCons (gN 2) (gsCons (gN 3) gsNil))) (dSeq (dIte (dTest (dOp2 dNe (dCB dRepr (dCons (dCall F_allows [] (dCons (dVar 0) (dCons (dVar 3) dNil))) dNil)) (dCB dRepr (dCons (dBool (dNot (dTru (dCall F__law_breaks [] (dCons (dVar 0) (dCons (dVar 3) dNil)))))) dNil)))) (dRet (dC (.bool false))) dSkip)
  (dFor (dItems (dSlice (dVar 1) (some (dVar 2)) none)) (gN 4) (dSeq (dSet 5 (dCB dTuple (dCons (dLc true (dItems (dVar 3)) (gN 8) (dTest (dOp2 dIn (dVar 8) (dVar 4))) (dVar 8) [8]) dNil)))
  (dSeq (dSet 6 (dCB dTuple (dCons (dCB dSortedT (dCons (dOp2 dAdd (dCB dList (dCons (dVar 3) dNil)) (dLc true (dItems (dVar 4)) (gN 8) (dTest (dOp2 dNotIn (dVar 8) (dVar 3))) (dVar 8) [8])) dNil)) dNil)))
  (dSeq (dSet 7 (dC .non))
  (dSeq (dIte (dNot (dTru (dCall F__law_breaks [] (dCons (dVar 0) (dCons (dVar 5) dNil))))) (dSet 7 (dC (.str "meet"))) (dIte (dNot (dTru (dCall F__law_breaks [] (dCons (dVar 0) (dCons (dVar 6) dNil))))) (dSet 7 (dC (.str "join"))) dSkip))
  (dSeq (dIte (dOr (dTest (dOp2 dNe (dCall F_meet_or_join [] (dCons (dVar 0) (dCons (dVar 3) (dCons (dVar 4) dNil)))) (dVar 7))) (dTest (dOp2 dNe (dCall F_meet_or_join [] (dCons (dVar 0) (dCons (dVar 4) (dCons (dVar 3) dNil)))) (dVar 7)))) (dRet (dC (.bool false))) dSkip)
  (dSeq (dIte (dAnd (dTest (dOp2 dNotN (dVar 7) (dC .non))) (dNot (dTru (dCall F_allows [] (dCons (dVar 0) (dCons (dIf (dTest (dOp2 dEq (dVar 7) (dC (.str "meet")))) (dCall F_common [] (dCons (dVar 3) (dCons (dVar 4) dNil))) (dCall F_united [] (dCons (dVar 4) (dCons (dVar 3) dNil)))) dNil)))))) (dRet (dC (.bool false))) dSkip)
  (dIte (dAnd (dTest (dOp2 dIsN (dVar 7) (dC .non))) (dAnd (dTest (dOp2 dNe (dOp2 dIx (dVar 0) (dC (.int 0))) (dC (.str "table")))) (dAnd (dNot (dTru (dCall F__law_breaks [] (dCons (dVar 0) (dCons (dVar 3) dNil))))) (dNot (dTru (dCall F__law_breaks [] (dCons (dVar 0) (dCons (dVar 4) dNil)))))))) (dRet (dC (.bool false))) dSkip))))))))))
  (dRet (dC (.bool true)))))
def F__law_rule_right : FM := runF 9 0 m__law_rule_right
theorem sc__law_rule_right : FnScope ["_law_rule_here", "_law_lots", "_law_at", "_law_one", "_law_other", "_law_meet", "_law_union", "_law_due", "_law_name"] ["_law_rule_here", "_law_lots"] (defScope s__law_rule_right) := ⟨rfl, rfl, rfl, by decide +kernel, rfl, by decide +kernel, by decide +kernel⟩
theorem ok__law_rule_right (c : Fct W.K mg) : FnG P w W.K mg base 4 c.a__law_rule_right c.d__law_rule_right ["_law_rule_here", "_law_lots"] (spD W 0 0 2 F__law_rule_right) := by
  refine fn_body (N := ["_law_rule_here", "_law_lots", "_law_at", "_law_one", "_law_other", "_law_meet", "_law_union", "_law_due", "_law_name"]) (m := m__law_rule_right) (O' := [0, 0, 0, 0, 0, 0, 0, 0, 0]) c.F__law_rule_right sc__law_rule_right (by decide) (fun cdv A hg0 outer s H E hr => ?_) (by decide) rfl (.inl rfl)
  have hgu := deeper_guards (env := envOfC "_law_rule_right" (defScope s__law_rule_right) s.heap.objs.size c.a__law_rule_right cdv) hg0
  exact (dss_cons (ds_if (dt_cmp (op_neD (u64 hr)) (rf_ne rfl) (de_callB (cr_reprD hgu (u70 hr)) (cf_repr rfl) rfl c.x_repr (by decide +kernel) (da_cons (DO.de (call0 (ok_names_of c) hr (by decide) hgu rfl c.g_names_of c.F_names_of.kp c.b_names_of (takes_of rfl rfl rfl rfl) (da_cons (de_var rfl (L2.pv 0)) (da_nil (z := 2))))) (da_nil (z := 0)))) (de_callB (cr_reprD hgu (u70 hr)) (cf_repr rfl) rfl c.x_repr (by decide +kernel) (da_cons (DO.de (call0 (ok__law_named c) hr (by decide) hgu rfl c.g__law_named c.F__law_named.kp c.b__law_named (takes_of rfl rfl rfl rfl) (da_cons (de_var rfl (L2.pv 0)) (da_nil (z := 2))))) (da_nil (z := 0))))) (dss_one (ds_ret (de_cst pe_bl))) dss_nil)
  (dss_cons (ds_for (passes_of rfl) rfl (di_enum rfl c.x_enumerate (da_cons (de_var rfl (L2.pv 1)) (da_nil (z := 2)))) (dg_tup (n := 2) rfl rfl (dgs_cons (dg_name (pg_name (i := 2) sc__law_rule_right.nd rfl (by first | exact .inl rfl | exact .inr rfl))) (dgs_cons (dg_name (pg_name (i := 3) sc__law_rule_right.nd rfl (by first | exact .inl rfl | exact .inr rfl))) dgs_nil pgs_cons) pgs_cons)) (dss_cons (ds_if (dt_cmp (op_neD (u64 hr)) (rf_ne rfl) (de_callB (cr_reprD hgu (u70 hr)) (cf_repr rfl) rfl c.x_repr (by decide +kernel) (da_cons (DO.de (call0 (ok_allows c) hr (by decide) hgu rfl c.g_allows c.F_allows.kp c.b_allows (takes_of rfl rfl rfl rfl) (da_cons (de_var rfl (L2.pv 0)) (da_cons (de_var rfl (L2.pv 3)) (da_nil (z := 2)))))) (da_nil (z := 0)))) (de_callB (cr_reprD hgu (u70 hr)) (cf_repr rfl) rfl c.x_repr (by decide +kernel) (da_cons (de_notv (DO.de (call0 (ok__law_breaks c) hr (by decide) hgu rfl c.g__law_breaks c.F__law_breaks.kp c.b__law_breaks (takes_of rfl rfl rfl rfl) (da_cons (de_var rfl (L2.pv 0)) (da_cons (de_var rfl (L2.pv 3)) (da_nil (z := 2))))))) (da_nil (z := 0))))) (dss_one (ds_ret (de_cst pe_bl))) dss_nil)
  (dss_one (ds_for (passes_of rfl) rfl (di_seq (DO.de (do_slice (de_var rfl (L2.pv 1)) (dp_some (de_var rfl (L2.pv 2))) dp_none))) (dg_name (pg_name (i := 4) sc__law_rule_right.nd rfl (by first | exact .inl rfl | exact .inr rfl))) (dss_cons (ds_set (de_callTy call_tuple_of (cf_tuple rfl) rfl c.x_tuple boot_tuple (da_cons (DO.de (do_lc1 rfl sc__law_rule_right.nd (own := [("_law_name", 8)]) (b := true) (di_seq (de_var rfl (L2.pv 3))) (blkOk_by (by kernel_rfl)) (fun s H C cl fp => (dg_name (pg_name (i := 8) sc__law_rule_right.nd rfl (by first | exact .inl rfl | exact .inr rfl)))) (fun s H C cl fp => (DT.weak (p' := true) (dt_cmp (op_inAll (u65 hr)) (rf_in rfl) (de_var rfl (L2.pv 8)) (de_var rfl (L2.pv 4))))) (fun s H C cl fp => (DE.weak (z' := 2) (p' := true) (de_var rfl (L2.pv 8)) (by decide))) (by decide))) (da_nil (z := 1)))) (fun _ pe => ps_set sc__law_rule_right.nd rfl (by first | exact .inl rfl | exact .inr rfl) pe))
  (dss_cons (ds_set (de_callTy call_tuple_of (cf_tuple rfl) rfl c.x_tuple boot_tuple (da_cons (DO.de (do_callB (cr_sortA (u70 hr)) (cfo_sortedT rfl) rfl c.x_sorted (by decide +kernel) (da_cons (DO.de (do_op2 op_addD (rfo_add rfl) (DO.de (do_callTy call_list_of (cfo_list rfl) rfl c.x_list boot_list (da_cons (de_var rfl (L2.pv 3)) (da_nil (z := 1))))) (DO.de (do_lc1 rfl sc__law_rule_right.nd (own := [("_law_name", 8)]) (b := true) (di_seq (de_var rfl (L2.pv 4))) (blkOk_by (by kernel_rfl)) (fun s H C cl fp => (dg_name (pg_name (i := 8) sc__law_rule_right.nd rfl (by first | exact .inl rfl | exact .inr rfl)))) (fun s H C cl fp => (DT.weak (p' := true) (dt_cmp (op_notInAll (u65 hr)) (rf_notIn rfl) (de_var rfl (L2.pv 8)) (de_var rfl (L2.pv 3))))) (fun s H C cl fp => (DE.weak (z' := 2) (p' := true) (de_var rfl (L2.pv 8)) (by decide))) (by decide))))) (da_nil (z := 1))))) (da_nil (z := 1)))) (fun _ pe => ps_set sc__law_rule_right.nd rfl (by first | exact .inl rfl | exact .inr rfl) pe))
  (dss_cons (ds_set (de_cst pe_non) (fun _ pe => ps_set sc__law_rule_right.nd rfl (by first | exact .inl rfl | exact .inr rfl) pe))
  (dss_cons (ds_if (dt_not (dt_tru (DO.de (call0 (ok__law_breaks c) hr (by decide) hgu rfl c.g__law_breaks c.F__law_breaks.kp c.b__law_breaks (takes_of rfl rfl rfl rfl) (da_cons (de_var rfl (L2.pv 0)) (da_cons (de_var rfl (L2.pv 5)) (da_nil (z := 2)))))))) (dss_one (ds_set (de_cst pe_str) (fun _ pe => ps_set sc__law_rule_right.nd rfl (by first | exact .inl rfl | exact .inr rfl) pe))) (dss_one (ds_if (dt_not (dt_tru (DO.de (call0 (ok__law_breaks c) hr (by decide) hgu rfl c.g__law_breaks c.F__law_breaks.kp c.b__law_breaks (takes_of rfl rfl rfl rfl) (da_cons (de_var rfl (L2.pv 0)) (da_cons (de_var rfl (L2.pv 6)) (da_nil (z := 2)))))))) (dss_one (ds_set (de_cst pe_str) (fun _ pe => ps_set sc__law_rule_right.nd rfl (by first | exact .inl rfl | exact .inr rfl) pe))) dss_nil)))
  (dss_cons (ds_if (dt_w (dw_or (dt_cmp (op_neD (u64 hr)) (rf_ne rfl) (DO.de (call0 (ok_meet_or_join c) hr (by decide) hgu rfl c.g_meet_or_join c.F_meet_or_join.kp c.b_meet_or_join (takes_of rfl rfl rfl rfl) (da_cons (de_var rfl (L2.pv 0)) (da_cons (de_var rfl (L2.pv 3)) (da_cons (de_var rfl (L2.pv 4)) (da_nil (z := 2))))))) (de_var rfl (L2.pv 7))) (dw_or1 (dt_cmp (op_neD (u64 hr)) (rf_ne rfl) (DO.de (call0 (ok_meet_or_join c) hr (by decide) hgu rfl c.g_meet_or_join c.F_meet_or_join.kp c.b_meet_or_join (takes_of rfl rfl rfl rfl) (da_cons (de_var rfl (L2.pv 0)) (da_cons (de_var rfl (L2.pv 4)) (da_cons (de_var rfl (L2.pv 3)) (da_nil (z := 2))))))) (de_var rfl (L2.pv 7)))))) (dss_one (ds_ret (de_cst pe_bl))) dss_nil)
  (dss_cons (ds_if (dt_w (dw_and (dt_cmp op_notN rf_notN (de_var rfl (L2.pv 7)) (de_cst pe_non)) (dw_and1 (dt_not (dt_tru (DO.de (call0 (ok_allows c) hr (by decide) hgu rfl c.g_allows c.F_allows.kp c.b_allows (takes_of rfl rfl rfl rfl) (da_cons (de_var rfl (L2.pv 0)) (da_cons (de_if (dt_cmp (op_eqD (u64 hr)) (rf_eq rfl) (de_var rfl (L2.pv 7)) (de_cst pe_str)) (DO.de (call0 (ok_common c) hr (by decide) hgu rfl c.g_common c.F_common.kp c.b_common (takes_of rfl rfl rfl rfl) (da_cons (de_var rfl (L2.pv 3)) (da_cons (de_var rfl (L2.pv 4)) (da_nil (z := 2)))))) (DO.de (call0 (ok_united c) hr (by decide) hgu rfl c.g_united c.F_united.kp c.b_united (takes_of rfl rfl rfl rfl) (da_cons (de_var rfl (L2.pv 4)) (da_cons (de_var rfl (L2.pv 3)) (da_nil (z := 2))))))) (da_nil (z := 2))))))))))) (dss_one (ds_ret (de_cst pe_bl))) dss_nil)
  (dss_one (ds_if (dt_w (dw_and (dt_cmp op_isN rf_isN (de_var rfl (L2.pv 7)) (de_cst pe_non)) (dw_and (dt_cmp (op_neD (u64 hr)) (rf_ne rfl) (de_ix ix_or (rf_ix rfl) (de_var rfl (L2.pv 0)) (de_cst pe_int)) (de_cst pe_str)) (dw_and (dt_not (dt_tru (DO.de (call0 (ok__law_breaks c) hr (by decide) hgu rfl c.g__law_breaks c.F__law_breaks.kp c.b__law_breaks (takes_of rfl rfl rfl rfl) (da_cons (de_var rfl (L2.pv 0)) (da_cons (de_var rfl (L2.pv 3)) (da_nil (z := 2)))))))) (dw_and1 (dt_not (dt_tru (DO.de (call0 (ok__law_breaks c) hr (by decide) hgu rfl c.g__law_breaks c.F__law_breaks.kp c.b__law_breaks (takes_of rfl rfl rfl rfl) (da_cons (de_var rfl (L2.pv 0)) (da_cons (de_var rfl (L2.pv 4)) (da_nil (z := 2))))))))))))) (dss_one (ds_ret (de_cst pe_bl))) dss_nil))))))))))))
  (dss_one (ds_ret (de_cst pe_bl)))))
def m_law : MS := (dSeq (dFor (dRange (dCons (dCB dMax2 (dCons (dC (.int 1)) (dCons (dCB dMin2 (dCons (dC (.int 3)) (dCons (dCB dLen (dCons (dVar 0) dNil)) dNil))) dNil))) dNil)) (gN 1) (dSeq (dSet 2 (dCall F__law_box [] (dCons (dVar 0) (dCons (dVar 1) dNil))))
  (dSeq (dSet 3 (dCallI F__law_names 2 [] (dCons (dOp2 dAdd (dC (.int 1)) (dCallI F__law_take 2 [] (dCons (dC (.int 4)) dNil))) dNil)))
  (dSeq (dSet 4 (dCallI F__law_rule 2 [] (dCons (dVar 3) dNil)))
  (dIte (dOr (dTest (dOp2 dNe (dCB dRepr (dCons (dCall F_made_rule [] (dCons (dCB dTuple (dCons (dVar 3) dNil)) (dCons (dVar 4) dNil))) dNil)) (dCB dRepr (dCons (dVar 4) dNil)))) (dNot (dTru (dCall F__law_rule_right [] (dCons (dVar 4) (dCons (dCall F__law_all [] (dCons (dVar 3) dNil)) dNil)))))) (dRet (dC (.bool false))) dSkip)))))
  (dRet (dC (.bool true))))
def F_law : FM := runF 5 0 m_law
theorem sc_law : FnScope ["_law_script", "_law_k", "_law_box_here", "_law_names_here", "_law_rule_here"] ["_law_script"] (defScope s_law) := ⟨rfl, rfl, rfl, by decide +kernel, rfl, by decide +kernel, by decide +kernel⟩
theorem ok_law (c : Fct W.K mg) : FnG P w W.K mg base 7 c.a_law c.d_law ["_law_script"] (spD W 0 0 1 F_law) := by
  refine fn_body (N := ["_law_script", "_law_k", "_law_box_here", "_law_names_here", "_law_rule_here"]) (m := m_law) (O' := [0, 0, 0, 0, 0]) c.F_law sc_law (by decide) (fun cdv A hg0 outer s H E hr => ?_) (by decide) rfl (.inl rfl)
  have hgu := deeper_guards (env := envOfC "law" (defScope s_law) s.heap.objs.size c.a_law cdv) hg0
  exact (dss_cons (ds_for (passes_of rfl) rfl (di_range1 rfl c.x_range (da_cons (de_callB (call_max2 rfl) (cf_max2) rfl c.x_max boot_max (da_cons (de_cst pe_int) (da_cons (de_callB (call_min2 rfl) (cf_min2) rfl c.x_min boot_min (da_cons (de_cst pe_int) (da_cons (de_callB call_len (cf_len rfl) rfl c.x_len boot_len (da_cons (de_var rfl (L2.pv 0)) (da_nil (z := 0)))) (da_nil (z := 0))))) (da_nil (z := 0))))) (da_nil (z := 0)))) (dg_name (pg_name (i := 1) sc_law.nd rfl (by first | exact .inl rfl | exact .inr rfl))) (dss_cons (ds_own (call0 (ok__law_box c) hr (by decide) hgu rfl c.g__law_box c.F__law_box.kp c.b__law_box (takes_of rfl rfl rfl rfl) (da_cons (de_var rfl (L2.pv 0)) (da_cons (de_var rfl (L2.pv 1)) (da_nil (z := 2))))) (fun _ pe => ps_set sc_law.nd rfl (by first | exact .inl rfl | exact .inr rfl) pe))
  (dss_cons (ds_set (DO.de (callI0 (ok__law_names c) hr (by decide) hgu rfl c.g__law_names c.F__law_names.kp c.b__law_names (takes_of rfl rfl rfl rfl) (L2.pv 2) (da_cons (DO.de (do_op2 op_addD (rfo_add rfl) (de_cst pe_int) (DO.de (callI0 (ok__law_take c) hr (by decide) hgu rfl c.g__law_take c.F__law_take.kp c.b__law_take (takes_of rfl rfl rfl rfl) (L2.pv 2) (da_cons (de_cst pe_int) (da_nil (z := 2))))))) (da_nil (z := 2))))) (fun _ pe => ps_set sc_law.nd rfl (by first | exact .inl rfl | exact .inr rfl) pe))
  (dss_cons (ds_set (DO.de (callI0 (ok__law_rule c) hr (by decide) hgu rfl c.g__law_rule c.F__law_rule.kp c.b__law_rule (takes_of rfl rfl rfl rfl) (L2.pv 2) (da_cons (de_var rfl (L2.pv 3)) (da_nil (z := 2))))) (fun _ pe => ps_set sc_law.nd rfl (by first | exact .inl rfl | exact .inr rfl) pe))
  (DSs.thin (O1 := [0, 0, 0, 0, 0]) (dss_one (ds_if (dt_w (dw_or (dt_cmp (op_neD (u64 hr)) (rf_ne rfl) (de_callB (cr_reprD hgu (u70 hr)) (cf_repr rfl) rfl c.x_repr (by decide +kernel) (da_cons (DO.de (call0 (ok_made_rule c) hr (by decide) hgu rfl c.g_made_rule c.F_made_rule.kp c.b_made_rule (takes_of rfl rfl rfl rfl) (da_cons (de_callTy call_tuple_of (cf_tuple rfl) rfl c.x_tuple boot_tuple (da_cons (de_var rfl (L2.pv 3)) (da_nil (z := 1)))) (da_cons (de_var rfl (L2.pv 4)) (da_nil (z := 2)))))) (da_nil (z := 0)))) (de_callB (cr_reprD hgu (u70 hr)) (cf_repr rfl) rfl c.x_repr (by decide +kernel) (da_cons (de_var rfl (L2.pv 4)) (da_nil (z := 0))))) (dw_or1 (dt_not (dt_tru (DO.de (call0 (ok__law_rule_right c) hr (by decide) hgu rfl c.g__law_rule_right c.F__law_rule_right.kp c.b__law_rule_right (takes_of rfl rfl rfl rfl) (da_cons (de_var rfl (L2.pv 4)) (da_cons (DO.de (call0 (ok__law_all c) hr (by decide) hgu rfl c.g__law_all c.F__law_all.kp c.b__law_all (takes_of rfl rfl rfl rfl) (da_cons (de_var rfl (L2.pv 3)) (da_nil (z := 2))))) (da_nil (z := 2))))))))))) (dss_one (ds_ret (de_cst pe_bl))) dss_nil)))))))
  (dss_one (ds_ret (de_cst pe_bl))))
end
def fn : List He.DefD := [⟨("is_sequence", none), "is_sequence", "is_sequence", defArgs s_is_sequence, defBody s_is_sequence, defScope s_is_sequence, [], []⟩,
  ⟨("is_integer", none), "is_integer", "is_integer", defArgs s_is_integer, defBody s_is_integer, defScope s_is_integer, [], []⟩,
  ⟨("common", none), "common", "common", defArgs s_common, defBody s_common, defScope s_common, [], []⟩,
  ⟨("united", none), "united", "united", defArgs s_united, defBody s_united, defScope s_united, [], []⟩,
  ⟨("is_part", none), "is_part", "is_part", defArgs s_is_part, defBody s_is_part, defScope s_is_part, [], []⟩,
  ⟨("is_number", none), "is_number", "is_number", defArgs s_is_number, defBody s_is_number, defScope s_is_number, [], []⟩,
  ⟨("kept_number", none), "kept_number", "kept_number", defArgs s_kept_number, defBody s_kept_number, defScope s_kept_number, [], []⟩,
  ⟨("kept_lot", none), "kept_lot", "kept_lot", defArgs s_kept_lot, defBody s_kept_lot, defScope s_kept_lot, [], []⟩,
  ⟨("kept_pairs", none), "kept_pairs", "kept_pairs", defArgs s_kept_pairs, defBody s_kept_pairs, defScope s_kept_pairs, [], []⟩,
  ⟨("kept_triples", none), "kept_triples", "kept_triples", defArgs s_kept_triples, defBody s_kept_triples, defScope s_kept_triples, [], []⟩,
  ⟨("kept_lots", none), "kept_lots", "kept_lots", defArgs s_kept_lots, defBody s_kept_lots, defScope s_kept_lots, [], []⟩,
  ⟨("kept_feed", none), "kept_feed", "kept_feed", defArgs s_kept_feed, defBody s_kept_feed, defScope s_kept_feed, [], []⟩,
  ⟨("kept_rule", none), "kept_rule", "kept_rule", defArgs s_kept_rule, defBody s_kept_rule, defScope s_kept_rule, [], []⟩,
  ⟨("made_rule", none), "made_rule", "made_rule", defArgs s_made_rule, defBody s_made_rule, defScope s_made_rule, [], []⟩,
  ⟨("sum_of", none), "sum_of", "sum_of", defArgs s_sum_of, defBody s_sum_of, defScope s_sum_of, [], []⟩,
  ⟨("cut_of", none), "cut_of", "cut_of", defArgs s_cut_of, defBody s_cut_of, defScope s_cut_of, [], []⟩,
  ⟨("allows", none), "allows", "allows", defArgs s_allows, defBody s_allows, defScope s_allows, [], []⟩,
  ⟨("names_of", none), "names_of", "names_of", defArgs s_names_of, defBody s_names_of, defScope s_names_of, [], []⟩,
  ⟨("meet_or_join", none), "meet_or_join", "meet_or_join", defArgs s_meet_or_join, defBody s_meet_or_join, defScope s_meet_or_join, [], []⟩,
  ⟨("_law_box", none), "_law_box", "_law_box", defArgs s__law_box, defBody s__law_box, defScope s__law_box, [], []⟩,
  ⟨("_law_take", none), "_law_take", "_law_take", defArgs s__law_take, defBody s__law_take, defScope s__law_take, [], []⟩,
  ⟨("_law_pick", none), "_law_pick", "_law_pick", defArgs s__law_pick, defBody s__law_pick, defScope s__law_pick, [], []⟩,
  ⟨("_law_mixed", none), "_law_mixed", "_law_mixed", defArgs s__law_mixed, defBody s__law_mixed, defScope s__law_mixed, [], []⟩,
  ⟨("_law_names", none), "_law_names", "_law_names", defArgs s__law_names, defBody s__law_names, defScope s__law_names, [], []⟩,
  ⟨("_law_lot", none), "_law_lot", "_law_lot", defArgs s__law_lot, defBody s__law_lot, defScope s__law_lot, [], []⟩,
  ⟨("_law_all", none), "_law_all", "_law_all", defArgs s__law_all, defBody s__law_all, defScope s__law_all, [], []⟩,
  ⟨("_law_number", none), "_law_number", "_law_number", defArgs s__law_number, defBody s__law_number, defScope s__law_number, [], []⟩,
  ⟨("_law_cut", none), "_law_cut", "_law_cut", defArgs s__law_cut, defBody s__law_cut, defScope s__law_cut, [], []⟩,
  ⟨("_law_feed", none), "_law_feed", "_law_feed", defArgs s__law_feed, defBody s__law_feed, defScope s__law_feed, [], []⟩,
  ⟨("_law_rule", none), "_law_rule", "_law_rule", defArgs s__law_rule, defBody s__law_rule, defScope s__law_rule, [], []⟩,
  ⟨("_law_breaks", none), "_law_breaks", "_law_breaks", defArgs s__law_breaks, defBody s__law_breaks, defScope s__law_breaks, [], []⟩,
  ⟨("_law_named", none), "_law_named", "_law_named", defArgs s__law_named, defBody s__law_named, defScope s__law_named, [], []⟩,
  ⟨("_law_rule_right", none), "_law_rule_right", "_law_rule_right", defArgs s__law_rule_right, defBody s__law_rule_right, defScope s__law_rule_right, [], []⟩,
  ⟨("law", none), "law", "law", defArgs s_law, defBody s_law, defScope s_law, [], []⟩]
def fa : List He.Fa := [.glo "is_sequence", .glo "is_integer", .glo "common", .glo "united", .glo "is_part", .glo "is_number", .glo "kept_number", .glo "kept_lot", .glo "kept_pairs", .glo "kept_triples", .glo "kept_lots", .glo "kept_feed", .glo "kept_rule", .glo "made_rule", .glo "sum_of", .glo "cut_of", .glo "allows", .glo "names_of", .glo "meet_or_join", .glo "_law_box", .glo "_law_take", .glo "_law_pick", .glo "_law_mixed", .glo "_law_names", .glo "_law_lot", .glo "_law_all", .glo "_law_number", .glo "_law_cut", .glo "_law_feed", .glo "_law_rule", .glo "_law_breaks", .glo "_law_named", .glo "_law_rule_right", .glo "law", .int "GREATEST" 1000000, .free "abs", .free "all", .free "any", .free "bool", .free "enumerate", .free "int", .free "isinstance", .free "len", .free "list", .free "max", .free "min", .free "range", .free "repr", .free "set", .free "sorted", .free "str", .free "sum", .free "tuple"]
def loose0 : List Str := ["StopError", "InvalidRule", "is_sequence", "is_integer", "common", "united", "is_part", "GREATEST", "is_number", "kept_number", "kept_lot", "kept_pairs", "kept_triples", "kept_lots", "kept_feed", "kept_rule", "made_rule", "sum_of", "cut_of", "allows", "names_of", "meet_or_join", "_law_box", "_law_take", "_law_pick", "_law_mixed", "_law_names", "_law_lot", "_law_all", "_law_number"]
def loose1 : List Str := ["_law_cut", "_law_feed", "_law_rule", "_law_breaks", "_law_named", "_law_rule_right"]
def loose : List Str := loose0 ++ loose1
abbrev R : PySem.W.OpenRow := PySem.W.OpenLaw.row PySem.Challenge.rw_stopsfirst_k04_one_rule_and_two_lots
abbrev hk : PySem.W.Hook := He.hookD 4 fa fn
def ob (s : PySem.W.SharedT) : He.AlD := He.obsDG 4 fa fn (HandSHeadRun.getT s)
theorem ob_eq (s : PySem.W.SharedT) : ob s = hk.obs s.abs := He.obsDG_eq (HandSHeadRun.getT_eq s)
theorem run (w : World) : HandSHeadRun.RunEq R (PySem.W.view R.prog [40]) hk ob 6000 loose w := by
  intro os
  kernel_rfl
theorem fct {K : PySem.W.Frag} {h : Heap} {mg : Str → Option Value} (X : K.In h) (G : h.Ns mainGlobals mg) (c : He.SaysD fa fn K) : ∃ c : Fct K mg, c.a_law = He.ga K "law" := by
  obtain ⟨d0, F0⟩ := c.def_ 0 rfl
  obtain ⟨d1, F1⟩ := c.def_ 1 rfl
  obtain ⟨d2, F2⟩ := c.def_ 2 rfl
  obtain ⟨d3, F3⟩ := c.def_ 3 rfl
  obtain ⟨d4, F4⟩ := c.def_ 4 rfl
  obtain ⟨d5, F5⟩ := c.def_ 5 rfl
  obtain ⟨d6, F6⟩ := c.def_ 6 rfl
  obtain ⟨d7, F7⟩ := c.def_ 7 rfl
  obtain ⟨d8, F8⟩ := c.def_ 8 rfl
  obtain ⟨d9, F9⟩ := c.def_ 9 rfl
  obtain ⟨d10, F10⟩ := c.def_ 10 rfl
  obtain ⟨d11, F11⟩ := c.def_ 11 rfl
  obtain ⟨d12, F12⟩ := c.def_ 12 rfl
  obtain ⟨d13, F13⟩ := c.def_ 13 rfl
  obtain ⟨d14, F14⟩ := c.def_ 14 rfl
  obtain ⟨d15, F15⟩ := c.def_ 15 rfl
  obtain ⟨d16, F16⟩ := c.def_ 16 rfl
  obtain ⟨d17, F17⟩ := c.def_ 17 rfl
  obtain ⟨d18, F18⟩ := c.def_ 18 rfl
  obtain ⟨d19, F19⟩ := c.def_ 19 rfl
  obtain ⟨d20, F20⟩ := c.def_ 20 rfl
  obtain ⟨d21, F21⟩ := c.def_ 21 rfl
  obtain ⟨d22, F22⟩ := c.def_ 22 rfl
  obtain ⟨d23, F23⟩ := c.def_ 23 rfl
  obtain ⟨d24, F24⟩ := c.def_ 24 rfl
  obtain ⟨d25, F25⟩ := c.def_ 25 rfl
  obtain ⟨d26, F26⟩ := c.def_ 26 rfl
  obtain ⟨d27, F27⟩ := c.def_ 27 rfl
  obtain ⟨d28, F28⟩ := c.def_ 28 rfl
  obtain ⟨d29, F29⟩ := c.def_ 29 rfl
  obtain ⟨d30, F30⟩ := c.def_ 30 rfl
  obtain ⟨d31, F31⟩ := c.def_ 31 rfl
  obtain ⟨d32, F32⟩ := c.def_ 32 rfl
  obtain ⟨d33, F33⟩ := c.def_ 33 rfl
  exact ⟨{
    a_is_sequence := _,
    d_is_sequence := d0,
    F_is_sequence := F0,
    g_is_sequence := He.glo_ok X G (c.fact 0 rfl),
    b_is_sequence := FunD.bindsN (ps := ["value"]) F0 fun _ _ _ _ _ _ us hl => match us, hl with | [_], _ => rfl,
    a_is_integer := _,
    d_is_integer := d1,
    F_is_integer := F1,
    g_is_integer := He.glo_ok X G (c.fact 1 rfl),
    b_is_integer := FunD.bindsN (ps := ["value"]) F1 fun _ _ _ _ _ _ us hl => match us, hl with | [_], _ => rfl,
    a_common := _,
    d_common := d2,
    F_common := F2,
    g_common := He.glo_ok X G (c.fact 2 rfl),
    b_common := FunD.bindsN (ps := ["one", "other"]) F2 fun _ _ _ _ _ _ us hl => match us, hl with | [_, _], _ => rfl,
    a_united := _,
    d_united := d3,
    F_united := F3,
    g_united := He.glo_ok X G (c.fact 3 rfl),
    b_united := FunD.bindsN (ps := ["one", "other"]) F3 fun _ _ _ _ _ _ us hl => match us, hl with | [_, _], _ => rfl,
    a_is_part := _,
    d_is_part := d4,
    F_is_part := F4,
    g_is_part := He.glo_ok X G (c.fact 4 rfl),
    b_is_part := FunD.bindsN (ps := ["one", "other"]) F4 fun _ _ _ _ _ _ us hl => match us, hl with | [_, _], _ => rfl,
    a_is_number := _,
    d_is_number := d5,
    F_is_number := F5,
    g_is_number := He.glo_ok X G (c.fact 5 rfl),
    b_is_number := FunD.bindsN (ps := ["value", "least"]) F5 fun _ _ _ _ _ _ us hl => match us, hl with | [_, _], _ => rfl,
    a_kept_number := _,
    d_kept_number := d6,
    F_kept_number := F6,
    g_kept_number := He.glo_ok X G (c.fact 6 rfl),
    b_kept_number := FunD.bindsN (ps := ["value", "least"]) F6 fun _ _ _ _ _ _ us hl => match us, hl with | [_, _], _ => rfl,
    a_kept_lot := _,
    d_kept_lot := d7,
    F_kept_lot := F7,
    g_kept_lot := He.glo_ok X G (c.fact 7 rfl),
    b_kept_lot := FunD.bindsN (ps := ["value", "services"]) F7 fun _ _ _ _ _ _ us hl => match us, hl with | [_, _], _ => rfl,
    a_kept_pairs := _,
    d_kept_pairs := d8,
    F_kept_pairs := F8,
    g_kept_pairs := He.glo_ok X G (c.fact 8 rfl),
    b_kept_pairs := FunD.bindsN (ps := ["value", "services"]) F8 fun _ _ _ _ _ _ us hl => match us, hl with | [_, _], _ => rfl,
    a_kept_triples := _,
    d_kept_triples := d9,
    F_kept_triples := F9,
    g_kept_triples := He.glo_ok X G (c.fact 9 rfl),
    b_kept_triples := FunD.bindsN (ps := ["value", "services"]) F9 fun _ _ _ _ _ _ us hl => match us, hl with | [_, _], _ => rfl,
    a_kept_lots := _,
    d_kept_lots := d10,
    F_kept_lots := F10,
    g_kept_lots := He.glo_ok X G (c.fact 10 rfl),
    b_kept_lots := FunD.bindsN (ps := ["value", "names"]) F10 fun _ _ _ _ _ _ us hl => match us, hl with | [_, _], _ => rfl,
    a_kept_feed := _,
    d_kept_feed := d11,
    F_kept_feed := F11,
    g_kept_feed := He.glo_ok X G (c.fact 11 rfl),
    b_kept_feed := FunD.bindsN (ps := ["users", "sources", "services"]) F11 fun _ _ _ _ _ _ us hl => match us, hl with | [_, _, _], _ => rfl,
    a_kept_rule := _,
    d_kept_rule := d12,
    F_kept_rule := F12,
    g_kept_rule := He.glo_ok X G (c.fact 12 rfl),
    b_kept_rule := FunD.bindsN (ps := ["services", "value"]) F12 fun _ _ _ _ _ _ us hl => match us, hl with | [_, _], _ => rfl,
    a_made_rule := _,
    d_made_rule := d13,
    F_made_rule := F13,
    g_made_rule := He.glo_ok X G (c.fact 13 rfl),
    b_made_rule := FunD.bindsN (ps := ["services", "value"]) F13 fun _ _ _ _ _ _ us hl => match us, hl with | [_, _], _ => rfl,
    a_sum_of := _,
    d_sum_of := d14,
    F_sum_of := F14,
    g_sum_of := He.glo_ok X G (c.fact 14 rfl),
    b_sum_of := FunD.bindsN (ps := ["pairs", "state"]) F14 fun _ _ _ _ _ _ us hl => match us, hl with | [_, _], _ => rfl,
    a_cut_of := _,
    d_cut_of := d15,
    F_cut_of := F15,
    g_cut_of := He.glo_ok X G (c.fact 15 rfl),
    b_cut_of := FunD.bindsN (ps := ["triples", "state"]) F15 fun _ _ _ _ _ _ us hl => match us, hl with | [_, _], _ => rfl,
    a_allows := _,
    d_allows := d16,
    F_allows := F16,
    g_allows := He.glo_ok X G (c.fact 16 rfl),
    b_allows := FunD.bindsN (ps := ["rule", "state"]) F16 fun _ _ _ _ _ _ us hl => match us, hl with | [_, _], _ => rfl,
    a_names_of := _,
    d_names_of := d17,
    F_names_of := F17,
    g_names_of := He.glo_ok X G (c.fact 17 rfl),
    b_names_of := FunD.bindsN (ps := ["rule"]) F17 fun _ _ _ _ _ _ us hl => match us, hl with | [_], _ => rfl,
    a_meet_or_join := _,
    d_meet_or_join := d18,
    F_meet_or_join := F18,
    g_meet_or_join := He.glo_ok X G (c.fact 18 rfl),
    b_meet_or_join := FunD.bindsN (ps := ["rule", "one", "other"]) F18 fun _ _ _ _ _ _ us hl => match us, hl with | [_, _, _], _ => rfl,
    a__law_box := _,
    d__law_box := d19,
    F__law_box := F19,
    g__law_box := He.glo_ok X G (c.fact 19 rfl),
    b__law_box := FunD.bindsN (ps := ["_law_script", "_law_k"]) F19 fun _ _ _ _ _ _ us hl => match us, hl with | [_, _], _ => rfl,
    a__law_take := _,
    d__law_take := d20,
    F__law_take := F20,
    g__law_take := He.glo_ok X G (c.fact 20 rfl),
    b__law_take := FunD.bindsN (ps := ["_law_box_here", "_law_many"]) F20 fun _ _ _ _ _ _ us hl => match us, hl with | [_, _], _ => rfl,
    a__law_pick := _,
    d__law_pick := d21,
    F__law_pick := F21,
    g__law_pick := He.glo_ok X G (c.fact 21 rfl),
    b__law_pick := FunD.bindsN (ps := ["_law_box_here", "_law_some"]) F21 fun _ _ _ _ _ _ us hl => match us, hl with | [_, _], _ => rfl,
    a__law_mixed := _,
    d__law_mixed := d22,
    F__law_mixed := F22,
    g__law_mixed := He.glo_ok X G (c.fact 22 rfl),
    b__law_mixed := FunD.bindsN (ps := ["_law_box_here", "_law_some"]) F22 fun _ _ _ _ _ _ us hl => match us, hl with | [_, _], _ => rfl,
    a__law_names := _,
    d__law_names := d23,
    F__law_names := F23,
    g__law_names := He.glo_ok X G (c.fact 23 rfl),
    b__law_names := FunD.bindsN (ps := ["_law_box_here", "_law_many"]) F23 fun _ _ _ _ _ _ us hl => match us, hl with | [_, _], _ => rfl,
    a__law_lot := _,
    d__law_lot := d24,
    F__law_lot := F24,
    g__law_lot := He.glo_ok X G (c.fact 24 rfl),
    b__law_lot := FunD.bindsN (ps := ["_law_box_here", "_law_names_here"]) F24 fun _ _ _ _ _ _ us hl => match us, hl with | [_, _], _ => rfl,
    a__law_all := _,
    d__law_all := d25,
    F__law_all := F25,
    g__law_all := He.glo_ok X G (c.fact 25 rfl),
    b__law_all := FunD.bindsN (ps := ["_law_names_here"]) F25 fun _ _ _ _ _ _ us hl => match us, hl with | [_], _ => rfl,
    a__law_number := _,
    d__law_number := d26,
    F__law_number := F26,
    g__law_number := He.glo_ok X G (c.fact 26 rfl),
    b__law_number := FunD.bindsN (ps := ["_law_box_here"]) F26 fun _ _ _ _ _ _ us hl => match us, hl with | [_], _ => rfl,
    a__law_cut := _,
    d__law_cut := d27,
    F__law_cut := F27,
    g__law_cut := He.glo_ok X G (c.fact 27 rfl),
    b__law_cut := FunD.bindsN (ps := ["_law_box_here", "_law_names_here"]) F27 fun _ _ _ _ _ _ us hl => match us, hl with | [_, _], _ => rfl,
    a__law_feed := _,
    d__law_feed := d28,
    F__law_feed := F28,
    g__law_feed := He.glo_ok X G (c.fact 28 rfl),
    b__law_feed := FunD.bindsN (ps := ["_law_box_here", "_law_names_here"]) F28 fun _ _ _ _ _ _ us hl => match us, hl with | [_, _], _ => rfl,
    a__law_rule := _,
    d__law_rule := d29,
    F__law_rule := F29,
    g__law_rule := He.glo_ok X G (c.fact 29 rfl),
    b__law_rule := FunD.bindsN (ps := ["_law_box_here", "_law_names_here"]) F29 fun _ _ _ _ _ _ us hl => match us, hl with | [_, _], _ => rfl,
    a__law_breaks := _,
    d__law_breaks := d30,
    F__law_breaks := F30,
    g__law_breaks := He.glo_ok X G (c.fact 30 rfl),
    b__law_breaks := FunD.bindsN (ps := ["_law_rule_here", "_law_state"]) F30 fun _ _ _ _ _ _ us hl => match us, hl with | [_, _], _ => rfl,
    a__law_named := _,
    d__law_named := d31,
    F__law_named := F31,
    g__law_named := He.glo_ok X G (c.fact 31 rfl),
    b__law_named := FunD.bindsN (ps := ["_law_rule_here"]) F31 fun _ _ _ _ _ _ us hl => match us, hl with | [_], _ => rfl,
    a__law_rule_right := _,
    d__law_rule_right := d32,
    F__law_rule_right := F32,
    g__law_rule_right := He.glo_ok X G (c.fact 32 rfl),
    b__law_rule_right := FunD.bindsN (ps := ["_law_rule_here", "_law_lots"]) F32 fun _ _ _ _ _ _ us hl => match us, hl with | [_, _], _ => rfl,
    a_law := _,
    d_law := d33,
    F_law := F33,
    g_law := He.glo_ok X G (c.fact 33 rfl),
    b_law := FunD.bindsN (ps := ["_law_script"]) F33 fun _ _ _ _ _ _ us hl => match us, hl with | [_], _ => rfl,
    n_GREATEST := (He.int_ok X G (c.fact 34 rfl)).elim fun t e => ⟨_, e, _, rfl⟩,
    x_abs := He.free_ok X G (c.fact 35 rfl),
    x_all := He.free_ok X G (c.fact 36 rfl),
    x_any := He.free_ok X G (c.fact 37 rfl),
    x_bool := He.free_ok X G (c.fact 38 rfl),
    x_enumerate := He.free_ok X G (c.fact 39 rfl),
    x_int := He.free_ok X G (c.fact 40 rfl),
    x_isinstance := He.free_ok X G (c.fact 41 rfl),
    x_len := He.free_ok X G (c.fact 42 rfl),
    x_list := He.free_ok X G (c.fact 43 rfl),
    x_max := He.free_ok X G (c.fact 44 rfl),
    x_min := He.free_ok X G (c.fact 45 rfl),
    x_range := He.free_ok X G (c.fact 46 rfl),
    x_repr := He.free_ok X G (c.fact 47 rfl),
    x_set := He.free_ok X G (c.fact 48 rfl),
    x_sorted := He.free_ok X G (c.fact 49 rfl),
    x_str := He.free_ok X G (c.fact 50 rfl),
    x_sum := He.free_ok X G (c.fact 51 rfl),
    x_tuple := He.free_ok X G (c.fact 52 rfl) }, rfl⟩
theorem holds_of (pl : ∀ ns : List Int, ns.length ≤ 63 → ∃ io, F_law [.ro (ns.map D.int)] = .ok (.bool true) io) : PySem.Challenge.rw_stopsfirst_k04_one_rule_and_two_lots.Holds := by
  w_on; o_law
  refine HandSHeadRun.head_any (r := R) (q := PySem.W.view R.prog [40]) (H := hk) (ob := ob) (M := 6000) (loose := loose) (d := HandSHeadRun.topDef R.prog 40) (kwd := []) ob_eq
    (by kernel_rfl) (fun s => by kernel_rfl) run (by kernel_rfl) (by kernel_rfl) (by kernel_rfl) (by rfl) (by first | assumption | decide +kernel) (by decide +kernel) ⟨rfl, rfl, rfl, rfl, rfl, by decide +kernel⟩ ?hw ?hc
  case hw => w_witness2
  case hc =>
    refine walkG (l := PySem.Challenge.rw_stopsfirst_k04_one_rule_and_two_lots) (n := 63) (k := 7) (x := "_law_script") rfl (by decide) (by kernel_rfl) ⟨rfl, by decide, by decide⟩ ?F
    intro w mg fa h Y G hmg0
    obtain ⟨K, KX, c⟩ := Y
    have hmg : mg ("law" : Str) = some (.ref fa) := by
      have e : (HandSHeadRun.topDef R.prog 40).name = ("law" : Str) := by kernel_rfl
      rw [← e]
      exact hmg0
    obtain ⟨f, _⟩ := fct KX G c
    cases Option.some.inj (hmg.symm.trans f.g_law)
    exact ⟨K, f.d_law, _, KX, fun s u => FunD.bindsA (ps := ["_law_script"]) f.F_law (fun _ _ _ _ _ _ us hl => match us, hl with | [_], _ => rfl) s [u] rfl,
      fun H a ns hl _ hS => law_sp (W := W0 K) hS (Nat.le_trans hl (by decide)) (pl ns hl), fun base _ _ => ok_law (W := W0 K) f⟩
end Law
/-! DLEval: the data functions, evaluated. -/
namespace DL
open PySem PySem.Spec PyProof.Rows L2
section
variable {α β : Type}
@[simp] theorem ob_ok {a : α} {e : EnvD} {f : α → EnvD → Out β} : (Out.ok a e).bind f = f a e := rfl
@[simp] theorem ob_exc {c : Str} {a : Option D} {e : EnvD} {f : α → EnvD → Out β} : (Out.exc c a e : Out α).bind f = .exc c a e := rfl
@[simp] theorem os_nx {e : EnvD} {f : MS} : (OutS.nx e).seq f = f e := rfl
@[simp] theorem os_rt {d : D} {e : EnvD} {f : MS} : (OutS.rt d e).seq f = .rt d e := rfl
@[simp] theorem os_bk {e : EnvD} {f : MS} : (OutS.bk e).seq f = .bk e := rfl
@[simp] theorem os_ct {e : EnvD} {f : MS} : (OutS.ct e).seq f = .ct e := rfl
@[simp] theorem os_exc {c : Str} {a : Option D} {e : EnvD} {f : MS} : (OutS.exc c a e).seq f = .exc c a e := rfl
end
section
variable {env e : EnvD} {d : D} {m m1 m2 m3 : M D} {ms : M (List D)} {t t1 t2 : M Bool} {s s1 s2 : MS} {i k n n0 : Nat} {F : D → D → Option D} {FU : D → Option D} {FL : List D → Option D} {FF : FM} {dd : List D}
@[simp] theorem u_c : dC d env = .ok d env := rfl
@[simp] theorem u_lift : lift (some d) env = .ok d env := rfl
@[simp] theorem u_var : dVar i env = (match env[i]? with | some (some d) => .ok d env | _ => .bad) := rfl
@[simp] theorem u_op2 : dOp2 F m1 m2 env = (m1 env).bind fun a e1 => (m2 e1).bind fun b e2 => lift (F a b) e2 := rfl
@[simp] theorem u_un : dUn FU m env = (m env).bind fun d e => lift (FU d) e := rfl
@[simp] theorem u_nil : dNil env = .ok [] env := rfl
@[simp] theorem u_cons : dCons m ms env = (m env).bind fun d e => (ms e).bind fun ds e2 => .ok (d :: ds) e2 := rfl
@[simp] theorem u_cb : dCB FL ms env = (ms env).bind fun ds e => lift (FL ds) e := rfl
@[simp] theorem u_tup : dTup ms env = (ms env).bind fun ds e => .ok (.tup ds) e := rfl
@[simp] theorem u_lst : dLst ms env = (ms env).bind fun ds e => .ok (.lst ds) e := rfl
@[simp] theorem u_test : dTest m env = (m env).bind fun d e => match d with | .bool b => .ok b e | _ => .bad := rfl
@[simp] theorem u_tru : dTru m env = (m env).bind fun d e => match truth d with | some b => .ok b e | none => .bad := rfl
@[simp] theorem u_not : dNot t env = (t env).bind fun b e => .ok (!b) e := rfl
@[simp] theorem u_bool : dBool t env = (t env).bind fun b e => .ok (.bool b) e := rfl
@[simp] theorem u_and : dAnd t1 t2 env = (t1 env).bind fun b e => if b = true then t2 e else .ok false e := rfl
@[simp] theorem u_or : dOr t1 t2 env = (t1 env).bind fun b e => if b = true then .ok true e else t2 e := rfl
@[simp] theorem u_andv : dAndV m1 m2 env = (m1 env).bind fun d e => match truth d with | some true => m2 e | some false => .ok d e | none => .bad := rfl
@[simp] theorem u_orv : dOrV m1 m2 env = (m1 env).bind fun d e => match truth d with | some false => m2 e | some true => .ok d e | none => .bad := rfl
@[simp] theorem u_if : dIf t m1 m2 env = (t env).bind fun b e => if b = true then m1 e else m2 e := rfl
@[simp] theorem u_items : dItems m env = (m env).bind fun d e => match items d with | some ds => .ok ds e | none => .bad := rfl
@[simp] theorem u_yes : mYes env = .ok true env := rfl
@[simp] theorem u_seq : dSeq s1 s2 env = (s1 env).seq s2 := rfl
@[simp] theorem u_ite : dIte t s1 s2 env = (match t env with | .ok b e => if b = true then s1 e else s2 e | .exc c a e => .exc c a e | .bad => .bad) := rfl
@[simp] theorem u_set : dSet i m env = (match m env with | .ok d e => .nx (e.set i (some d)) | .exc c a e => .exc c a e | .bad => .bad) := rfl
@[simp] theorem u_ret : dRet m env = (match m env with | .ok d e => .rt d e | .exc c a e => .exc c a e | .bad => .bad) := rfl
@[simp] theorem u_skip : dSkip env = .nx env := rfl
@[simp] theorem u_brk : dBrk env = .bk env := rfl
@[simp] theorem u_cnt : dCnt env = .ct env := rfl
@[simp] theorem u_expr : dExpr m env = (match m env with | .ok _ e => .nx e | .exc c a e => .exc c a e | .bad => .bad) := rfl
@[simp] theorem u_setIx : dSetIx i m2 m1 env = (match env[i]? with
    | some (some (.lst _)) => (match m2 env with
      | .ok d e1 => (match m1 e1 with
        | .ok (.int k) e2 => (match e2[i]? with
          | some (some (.lst ds)) => (match ixN ds.length k with
            | some j => .nx (e2.set i (some (.lst (ds.set j d))))
            | none => .bad)
          | _ => .bad)
        | .exc c a e => .exc c a e
        | _ => .bad)
      | .exc c a e => .exc c a e
      | .bad => .bad)
    | _ => .bad) := rfl
@[simp] theorem u_par {is : List Nat} : dPar is ms env = (match ms env with | .ok ds e => .nx (stE e is ds) | .exc c a e => .exc c a e | .bad => .bad) := rfl
@[simp] theorem u_stE0 {ds : List D} : stE e [] ds = e := by cases ds <;> rfl
@[simp] theorem u_stE {is : List Nat} {ds : List D} : stE e (i :: is) (d :: ds) = stE (e.set i (some d)) is ds := rfl
@[simp] theorem u_call : dCall FF dd ms env = (ms env).bind fun ds e => ofF e (FF (ds ++ dd)) := rfl
@[simp] theorem u_callB : dCallB FF dd ms env = (ms env).bind fun ds e => ofFB e (FF (ds ++ dd)) := rfl
@[simp] theorem u_callI : dCallI FF i dd ms env = (match env[i]? with
  | some (some _) => (ms env).bind fun ds e => (match e[i]? with
    | some (some d0) => ofFI e i (FF (d0 :: (ds ++ dd)))
    | _ => .bad)
  | _ => .bad) := rfl
@[simp] theorem u_ofF {io : D} : ofF env (.ok d io) = .ok d env := rfl
@[simp] theorem u_ofFI {io : D} : ofFI env i (.ok d io) = .ok d (env.set i (some io)) := rfl
@[simp] theorem u_ofFB {io : D} : ofFB env (.ok d io) = if d.flat = true then .ok d env else .bad := rfl
@[simp] theorem u_pick {pm : List Nat} : dPick pm dd ms env = (ms env).bind fun ds e => .ok (pick pm (ds ++ dd)) e := rfl
@[simp] theorem u_chain {F' : D → D → Option D} : dChain F F' m1 m2 m3 env = (m1 env).bind fun a e1 => (m2 e1).bind fun b e2 => match F a b with
  | some (.bool true) => (m3 e2).bind fun c e3 => lift (F' b c) e3
  | some (.bool false) => .ok (.bool false) e2
  | _ => .bad := rfl
@[simp] theorem u_range : dRange ms env = (ms env).bind fun ds e => match ds with
  | [.int j] => if j.toNat ≤ sizeLine ∧ -(2 ^ 62) ≤ j then .ok (rangeD 0 j.toNat) e else .bad
  | [.int i, .int j] => if (j - i).toNat ≤ sizeLine ∧ (-(2 ^ 61) ≤ i ∧ i < 2 ^ 61) ∧ -(2 ^ 61) ≤ j then .ok (rangeD i (j - i).toNat) e else .bad
  | _ => .bad := rfl
@[simp] theorem u_meth {FM : List D → List D → Option (D × List D)} : dMeth i FM ms env = (match env[i]? with
  | some (some (.lst _)) => (ms env).bind fun args e => (match e[i]? with
    | some (some (.lst ds)) => (match FM ds args with
      | some r => .ok r.1 (e.set i (some (.lst r.2)))
      | none => .bad)
    | _ => .bad)
  | _ => .bad) := rfl
@[simp] theorem u_for {src : M (List D)} {gd : D → EnvD → Option EnvD} : dFor src gd s env = (match src env with
  | .ok ds e => forGo gd s ds e
  | .exc c a e => .exc c a e
  | .bad => .bad) := rfl
@[simp] theorem u_lc {b : Bool} {src : M (List D)} {gd : D → EnvD → Option EnvD} {vs : List Nat} : dLc b src gd t m vs env = (match src env with
  | .ok ds e => (match lcGo b gd t m vs ds e with
    | some r => .ok (.lst r.1) r.2
    | none => .bad)
  | .exc c a e => .exc c a e
  | .bad => .bad) := rfl
@[simp] theorem u_gN : gN i d env = some (env.set i (some d)) := rfl
/-- a def, where its body answers -/
theorem run_rt {ds : List D} (h : s (ds.map some ++ List.replicate (n - ds.length) none) = .rt d e) (n0 : Nat) : runF n n0 s ds = (match ioOf n0 e with | some d' => .ok d d' | none => .bad) := by
  unfold runF
  rw [h] <;> rfl
/-! ### operators on data -/
variable {a b : Int} {xs ys : List D}
@[simp] theorem u_addI : dAdd (.int a) (.int b) = some (.int (a + b)) := rfl
@[simp] theorem u_subI : iSub (.int a) (.int b) = some (.int (a - b)) := rfl
@[simp] theorem u_mulI : iMul (.int a) (.int b) = (if (-(2 ^ 64) < a ∧ a < 2 ^ 64) ∨ (-(2 ^ 64) < b ∧ b < 2 ^ 64) then some (a * b) else none).map .int := rfl
@[simp] theorem u_divI : iDiv (.int a) (.int b) = (if 0 < b ∧ b < 1073741824 then some (a / b) else none).map .int := rfl
@[simp] theorem u_modI : iMod (.int a) (.int b) = (if 0 < b then some (a % b) else none).map .int := rfl
@[simp] theorem u_powI : iPow (.int a) (.int b) = (if 0 ≤ b ∧ b ≤ 1000000 ∧ a.natAbs < 2 ^ 64 then some (a ^ b.toNat) else none).map .int := rfl
@[simp] theorem u_ltI : dLt (.int a) (.int b) = some (.bool (decide (a < b))) := rfl
@[simp] theorem u_leI : dLe (.int a) (.int b) = some (.bool (decide (a ≤ b))) := rfl
@[simp] theorem u_gtI : dGt (.int a) (.int b) = some (.bool (decide (b < a))) := rfl
@[simp] theorem u_geI : dGe (.int a) (.int b) = some (.bool (decide (b ≤ a))) := rfl
@[simp] theorem u_ixL : dIx (.lst xs) (.int a) = atI xs a := rfl
@[simp] theorem u_ixR : dIx (.ro xs) (.int a) = atI xs a := rfl
@[simp] theorem u_ixT : dIx (.tup xs) (.int a) = atI xs a := rfl
@[simp] theorem u_lenL : dLen [.lst xs] = some (.int xs.length) := rfl
@[simp] theorem u_lenR : dLen [.ro xs] = some (.int xs.length) := rfl
@[simp] theorem u_lenT : dLen [.tup xs] = some (.int xs.length) := rfl
@[simp] theorem u_tupL : dTuple [.lst xs] = some (.tup xs) := rfl
@[simp] theorem u_tupR : dTuple [.ro xs] = some (.tup xs) := rfl
@[simp] theorem u_tupT : dTuple [.tup xs] = some (.tup xs) := rfl
@[simp] theorem u_lstL : dList [.lst xs] = some (.lst xs) := rfl
@[simp] theorem u_lstR : dList [.ro xs] = some (.lst xs) := rfl
@[simp] theorem u_lstT : dList [.tup xs] = some (.lst xs) := rfl
@[simp] theorem u_itL : items (.lst xs) = some xs := rfl
@[simp] theorem u_itR : items (.ro xs) = some xs := rfl
@[simp] theorem u_itT : items (.tup xs) = some xs := rfl
@[simp] theorem u_intI : dInt [.int a] = some (.int a) := rfl
@[simp] theorem u_intB {c : Bool} : dInt [.bool c] = some (.int (if c then 1 else 0)) := rfl
@[simp] theorem u_absI : dAbs [.int a] = some (.int (if a < 0 then -a else a)) := rfl
@[simp] theorem u_addL : dAdd (.lst xs) (.lst ys) = if xs.length + ys.length ≤ sizeLine then some (.lst (xs ++ ys)) else none := rfl
@[simp] theorem u_addT : dAdd (.tup xs) (.tup ys) = if xs.length + ys.length ≤ sizeLine then some (.tup (xs ++ ys)) else none := rfl
@[simp] theorem u_io0 : ioOf 0 e = some .non := by
  unfold ioOf
  rfl
@[simp] theorem u_io1 : ioOf (n + 1) (some d :: e) = some d := rfl
end
/-! ### loops -/
section
variable {gd : D → EnvD → Option EnvD} {t : M Bool} {m : M D} {vs : List Nat} {body : MS}
/-- a comprehension within which nothing changes -/
theorem lc_pure {env : EnvD} (p : D → Bool) (f : D → D) : ∀ {ds : List D}, (∀ d ∈ ds, ∃ e1 e2 e3, gd d (wipeE env vs) = some e1 ∧ t e1 = .ok (p d) e2 ∧ (p d = true → m e2 = .ok (f d) e3)) → lcGo true gd t m vs ds env = some ((ds.filter p).map f, env)
  | [], _ => rfl
  | d :: ds, h => by
    obtain ⟨e1, e2, e3, h1, h2, h3⟩ := h d List.mem_cons_self
    have ih := lc_pure (env := env) p f (ds := ds) fun x hx => h x (List.mem_cons_of_mem _ hx)
    unfold lcGo
    rw [h1]
    simp only [h2]
    cases q : p d with
    | false => simp [q, ih]
    | true => simp [q, h3 q, ih]
/-- all items, each changed -/
theorem lc_map {env : EnvD} (f : D → D) {ds : List D} (h : ∀ d ∈ ds, ∃ e1 e3, gd d (wipeE env vs) = some e1 ∧ m e1 = .ok (f d) e3) : lcGo true gd mYes m vs ds env = some (ds.map f, env) := by
  have := lc_pure (gd := gd) (t := mYes) (m := m) (vs := vs) (env := env) (fun _ => true) f (ds := ds) fun d hd => by
    obtain ⟨e1, e3, h1, h2⟩ := h d hd
    exact ⟨e1, e1, e3, h1, rfl, fun _ => h2⟩
  rw [List.filter_eq_self.mpr (fun _ _ => rfl)] at this
  exact this
/-- a comprehension that keeps some of the items -/
theorem lc_sub {I : EnvD → Prop} : ∀ {ds : List D} {env : EnvD}, I env → (∀ d ∈ ds, ∀ env, I env → ∃ e1 c e2, gd d (wipeE env vs) = some e1 ∧ t e1 = .ok c e2 ∧ (c = false → I (wipeE e2 vs)) ∧ (c = true → ∃ e3, m e2 = .ok d e3 ∧ I (wipeE e3 vs))) →
    ∃ r env', lcGo false gd t m vs ds env = some (r, env') ∧ r.Sublist ds ∧ I env'
  | [], env, i, _ => ⟨[], env, rfl, .slnil, i⟩
  | d :: ds, env, i, h => by
    obtain ⟨e1, c, e2, h1, h2, h3, h4⟩ := h d List.mem_cons_self env i
    have hr := fun x hx => h x (List.mem_cons_of_mem _ hx)
    cases c with
    | false =>
      obtain ⟨r, env', q1, q2, q3⟩ := lc_sub (h3 rfl) hr
      refine ⟨r, env', ?_, q2.cons _, q3⟩
      unfold lcGo
      simp [h1, h2, q1]
    | true =>
      obtain ⟨e3, y, h5⟩ := h4 rfl
      obtain ⟨r, env', q1, q2, q3⟩ := lc_sub h5 hr
      refine ⟨d :: r, env', ?_, q2.cons₂ _, q3⟩
      unfold lcGo
      simp [h1, h2, y, q1]
/-- a comprehension whose items are made with a change -/
theorem lc_make {I : EnvD → Prop} {P : D → Prop} : ∀ {ds : List D} {env : EnvD}, I env → (∀ d ∈ ds, ∀ env, I env → ∃ e1 y e3, gd d (wipeE env vs) = some e1 ∧ m e1 = .ok y e3 ∧ P y ∧ I (wipeE e3 vs)) →
    ∃ r env', lcGo false gd mYes m vs ds env = some (r, env') ∧ r.length = ds.length ∧ (∀ y ∈ r, P y) ∧ I env'
  | [], env, i, _ => ⟨[], env, rfl, rfl, (fun _ h => nomatch h), i⟩
  | d :: ds, env, i, h => by
    obtain ⟨e1, y, e3, h1, h2, h3, h4⟩ := h d List.mem_cons_self env i
    obtain ⟨r, env', q1, q2, q3, q4⟩ := lc_make h4 fun x hx => h x (List.mem_cons_of_mem _ hx)
    refine ⟨y :: r, env', ?_, by simp [q2], fun z hz => ?_, q4⟩
    · unfold lcGo
      simp [h1, h2, q1, mYes]
    · rcases List.mem_cons.mp hz with rfl | hz
      · exact h3
      · exact q3 z hz
/-- a walk that goes through, or ends by break -/
theorem for_inv {I : Nat → EnvD → Prop} {J : EnvD → Prop} : ∀ {ds : List D} {k : Nat} {env : EnvD}, I k env → (∀ (i : Nat) (d : D) env, ds[i]? = some d → I (k + i) env → ∃ e, gd d env = some e ∧ ((∃ e2, (body e = .nx e2 ∨ body e = .ct e2) ∧ I (k + i + 1) e2) ∨ ∃ e2, body e = .bk e2 ∧ J e2)) →
    ∃ env', forGo gd body ds env = .nx env' ∧ (I (k + ds.length) env' ∨ J env')
  | [], k, env, i, _ => ⟨env, rfl, .inl i⟩
  | d :: ds, k, env, i, h => by
    obtain ⟨e, h1, h2⟩ := h 0 d env rfl i
    rcases h2 with ⟨e2, h3, h4⟩ | ⟨e2, h3, h4⟩
    · obtain ⟨env', q1, q2⟩ := for_inv (I := I) (J := J) (ds := ds) (k := k + 1) (env := e2) h4 fun i d env hd hi => by
        have := h (i + 1) d env (by simpa using hd) (by rw [← Nat.add_assoc, Nat.add_right_comm]; exact hi)
        rw [show k + (i + 1) = k + 1 + i by omega] at this
        exact this
      refine ⟨env', ?_, ?_⟩
      · unfold forGo
        rcases h3 with h3 | h3 <;> simp [h1, h3, q1]
      · rw [List.length_cons, show k + (ds.length + 1) = k + 1 + ds.length by omega]
        exact q2
    · refine ⟨e2, ?_, .inr h4⟩
      unfold forGo
      simp [h1, h3]
end
end DL
/-! PLCost: how long the repr of data can be. -/
namespace PL
open PySem PySem.Spec PyProof.Rows L2 DL
open PySem.PyData (strOk)
mutual
def cost : PyData → Nat
  | .none => 4
  | .bool _ => 5
  | .int i => i.natAbs.log2 + 2
  | .str x => 10 * x.cps.size + 2
  | .list xs => costAll xs + 3
  | .tuple xs => costAll xs + 3
  | .dict _ => 0
def costAll : List PyData → Nat
  | [] => 0
  | x :: xs => cost x + 2 + costAll xs
end
theorem digits_le {b : Nat} (hb : 2 ≤ b) {n k : Nat} (hk : 1 ≤ k) (h : n < b ^ k) : (Nat.toDigits b n).length ≤ k := by
  have := digitsCore_len_pow b hb k (n + 1) n [] hk h
  simpa [Nat.toDigits] using this
theorem natRepr_le (n : Nat) : (Nat.repr n).length ≤ n.log2 + 1 := by
  have h : n < 10 ^ (n.log2 + 1) := Nat.lt_of_lt_of_le (Nat.lt_log2_self) (Nat.pow_le_pow_left (by omega) _)
  have := digits_le (b := 10) (by omega) (k := n.log2 + 1) (by omega) h
  simpa [Nat.repr] using this
theorem intText_le (i : Int) : (Str.ofString (toString i)).length ≤ i.natAbs.log2 + 2 := by
  by_cases h : i < 0
  · rw [len_text_neg h]
    have : (Str.ofString (toString (0 - i))).length ≤ (0 - i).natAbs.log2 + 1 := by
      rw [ofString_len]
      obtain ⟨m, e⟩ := Int.eq_ofNat_of_zero_le (show 0 ≤ 0 - i by omega)
      rw [e]
      exact natRepr_le m
    have e : (0 - i).natAbs = i.natAbs := by omega
    rw [e] at this
    omega
  · obtain ⟨m, rfl⟩ := Int.eq_ofNat_of_zero_le (show 0 ≤ i by omega)
    rw [ofString_len]
    have := natRepr_le m
    show (Nat.repr m).length ≤ _
    simp
    omega
theorem reprChar_le {q c : Nat} (h : c < 0x110000) : (Builtin.Str.reprChar q c).length ≤ 10 := by
  unfold Builtin.Str.reprChar
  have h6 := digits_le (b := 16) (by omega) (n := c) (k := 6) (by omega) (by omega)
  simp only
  split
  · simp
  split
  · simp
  split
  · simp
  split
  · simp
  split
  · simp
  split
  · simp; omega
  split
  · simp; omega
  · simp; omega
theorem fold_le {q : Nat} : ∀ (l : List Nat) (n : Nat), (∀ c ∈ l, c < 0x110000) → l.foldl (fun n c => n + (Builtin.Str.reprChar q c).length) n ≤ n + 10 * l.length
  | [], n, _ => by simp
  | c :: l, n, h => by
    have h1 := reprChar_le (q := q) (h c List.mem_cons_self)
    have := fold_le (q := q) l (n + (Builtin.Str.reprChar q c).length) fun x hx => h x (List.mem_cons_of_mem _ hx)
    simp only [List.foldl_cons, List.length_cons]
    omega
theorem reprText_le {x : Str} (h : strOk x = true) : (reprText x).length ≤ 10 * x.cps.size + 2 := by
  have hc : ∀ c ∈ x.cps.toList, c < 0x110000 := fun c hc => by
    unfold strOk at h
    rw [← Array.all_toList] at h
    exact of_decide_eq_true (List.all_eq_true.mp h c hc)
  rw [← reprLen_eq, ← Array.foldl_toList]
  have := fold_le (q := reprQuote x) x.cps.toList 2 hc
  simp only [Array.length_toList] at this
  omega
theorem textFrom_le : ∀ (ts : List Str) (k : Nat) (acc : Str), (textFrom k acc ts).length ≤ acc.length + piled ts
  | [], k, acc => by unfold textFrom; simp [piled]
  | t :: ts, k, acc => by
    unfold textFrom
    have := textFrom_le ts (k + 1) (acc ++ (if k > 0 then ", " else "" : String) ++ t)
    have e : (acc ++ (if k > 0 then ", " else "" : String) ++ t).length ≤ acc.length + 2 + t.length := by
      rw [strLen_append, strLen_append]
      have : ((if k > 0 then ", " else "" : String) : Str).length ≤ 2 := by
        split
        · exact Nat.le_refl 2
        · exact Nat.zero_le 2
      omega
    rw [piled_cons]
    omega
mutual
theorem shown_le : ∀ (d : PyData), d.canLay0 = true → d.shown.length ≤ cost d
  | .none, _ => by
    unfold PyData.shown cost
    exact Nat.le_refl 4
  | .bool b, _ => by
    cases b <;> (unfold PyData.shown cost; decide)
  | .int i, _ => by
    unfold PyData.shown cost
    exact intText_le i
  | .str x, h => by
    unfold PyData.shown cost
    exact reprText_le (by simpa [PyData.canLay0] using h)
  | .list xs, h => by
    unfold PyData.shown cost
    have := shownAll_le xs (by simpa [PyData.canLay0] using h)
    unfold listText
    rw [strLen_append]
    have h2 := textFrom_le (PyData.shownAll xs) 0 "["
    have e1 : (("[" : String) : Str).length = 1 := rfl
    have e2 : (("]" : String) : Str).length = 1 := rfl
    omega
  | .tuple xs, h => by
    unfold PyData.shown cost
    have := shownAll_le xs (by simpa [PyData.canLay0] using h)
    unfold tupleText
    rw [strLen_append, strLen_append]
    have e1 : (("(" : String) : Str).length = 1 := rfl
    have e2 : ((if (PyData.shownAll xs).length == 1 then ",)" else ")" : String) : Str).length ≤ 2 := by
      split
      · exact Nat.le_refl 2
      · exact (by decide : (1 : Nat) ≤ 2)
    have e3 : (Str.join ", " (PyData.shownAll xs)).length ≤ piled (PyData.shownAll xs) := by
      by_cases z : PyData.shownAll xs = []
      · rw [z]
        exact Nat.le_refl 0
      · have := join_length_add _ z
        omega
    omega
  | .dict _, h => by simp [PyData.canLay0] at h
theorem shownAll_le : ∀ (ds : List PyData), PyData.canLayAll0 ds = true → piled (PyData.shownAll ds) ≤ costAll ds
  | [], _ => by
    unfold PyData.shownAll costAll
    exact Nat.le_refl 0
  | d :: ds, h => by
    have h' : d.canLay0 = true ∧ PyData.canLayAll0 ds = true := by simpa [PyData.canLayAll0] using h
    unfold PyData.shownAll costAll
    rw [piled_cons]
    have := shown_le d h'.1
    have := shownAll_le ds h'.2
    omega
end
/-! ### what is shown lies within Unicode -/
theorem ok_append {a b : Str} (ha : strOk a = true) (hb : strOk b = true) : strOk (a ++ b) = true := by
  show (a.cps ++ b.cps).all _ = true
  rw [Array.all_append]
  exact Bool.and_eq_true_iff.mpr ⟨ha, hb⟩
theorem char_lt (c : Char) : c.toNat < 0x110000 := by
  have : c.val.toNat < 0xd800 ∨ (0xdfff < c.val.toNat ∧ c.val.toNat < 0x110000) := c.valid
  show c.val.toNat < 0x110000
  omega
theorem ok_string (s : String) : strOk (Str.ofString s) = true := by
  rw [Str.ofString_eq_toList]
  unfold strOk
  rw [← Array.all_toList]
  refine List.all_eq_true.mpr fun c hc => decide_eq_true ?_
  obtain ⟨x, _, rfl⟩ := List.mem_map.mp hc
  exact char_lt x
theorem reprChar_ok {q c : Nat} (h : c < 0x110000) : ∀ x ∈ Builtin.Str.reprChar q c, x < 0x110000 := by
  have hex : ∀ w, ∀ x ∈ (let d := (Nat.toDigits 16 c).map Char.toNat; List.replicate (w - d.length) 48 ++ d), x < 0x110000 := by
    intro w x hx
    rcases List.mem_append.mp hx with q | q
    · rw [(List.mem_replicate.mp q).2]
      decide
    · obtain ⟨y, _, rfl⟩ := List.mem_map.mp q
      exact char_lt y
  have pre : ∀ (a b : Nat) (w : Nat), a < 0x110000 → b < 0x110000 → ∀ x ∈ [a, b] ++ (let d := (Nat.toDigits 16 c).map Char.toNat; List.replicate (w - d.length) 48 ++ d), x < 0x110000 := by
    intro a b w ha hb x hx
    rcases List.mem_append.mp hx with q | q
    · rcases List.mem_cons.mp q with rfl | q
      · exact ha
      · rw [List.mem_singleton.mp q]
        exact hb
    · exact hex w x q
  have two : ∀ a b : Nat, a < 0x110000 → b < 0x110000 → ∀ x ∈ [a, b], x < 0x110000 := by
    intro a b ha hb x hx
    rcases List.mem_cons.mp hx with rfl | q
    · exact ha
    · rw [List.mem_singleton.mp q]
      exact hb
  unfold Builtin.Str.reprChar
  simp only
  split
  · exact two _ _ (by decide) h
  split
  · exact two _ _ (by decide) (by decide)
  split
  · exact two _ _ (by decide) (by decide)
  split
  · exact two _ _ (by decide) (by decide)
  split
  · intro x hx
    rw [List.mem_singleton.mp hx]
    exact h
  split
  · exact pre _ _ 2 (by decide) (by decide)
  split
  · exact pre _ _ 4 (by decide) (by decide)
  · exact pre _ _ 8 (by decide) (by decide)
theorem fold_ok {q : Nat} : ∀ (l : List Nat) (acc : Array Nat), (∀ x ∈ acc.toList, x < 0x110000) → (∀ c ∈ l, c < 0x110000) → ∀ x ∈ (l.foldl (fun out c => out ++ (Builtin.Str.reprChar q c).toArray) acc).toList, x < 0x110000
  | [], acc, h, _ => h
  | c :: l, acc, h, hl => by
    rw [List.foldl_cons]
    refine fold_ok l _ (fun x hx => ?_) fun x hx => hl x (List.mem_cons_of_mem _ hx)
    rw [Array.toList_append] at hx
    rcases List.mem_append.mp hx with r | r
    · exact h x r
    · exact reprChar_ok (hl c List.mem_cons_self) x r
theorem quote_ok (x : Str) : reprQuote x < 0x110000 := by
  unfold reprQuote
  split <;> decide
theorem reprText_ok {x : Str} (h : strOk x = true) : strOk (reprText x) = true := by
  have hc : ∀ c ∈ x.cps.toList, c < 0x110000 := fun c hc => by
    unfold strOk at h
    rw [← Array.all_toList] at h
    exact of_decide_eq_true (List.all_eq_true.mp h c hc)
  unfold reprText strOk
  rw [← Array.all_toList]
  refine List.all_eq_true.mpr fun c q => decide_eq_true ?_
  simp only at q
  rw [Array.toList_push, ← Array.foldl_toList] at q
  rcases List.mem_append.mp q with r | r
  · exact fold_ok x.cps.toList _ (fun y hy => by
      have : y = reprQuote x := by simpa using hy
      rw [this]
      exact quote_ok x) hc c r
  · rw [List.mem_singleton.mp r]
    exact quote_ok x
theorem textFrom_ok : ∀ (ts : List Str) (k : Nat) (acc : Str), (∀ t ∈ ts, strOk t = true) → strOk acc = true → strOk (textFrom k acc ts) = true
  | [], k, acc, _, h => by
    unfold textFrom
    exact h
  | t :: ts, k, acc, ht, h => by
    unfold textFrom
    exact textFrom_ok ts _ _ (fun x hx => ht x (List.mem_cons_of_mem _ hx)) (ok_append (ok_append h (ok_string _)) (ht t List.mem_cons_self))
theorem join_ok : ∀ (ts : List Str), (∀ t ∈ ts, strOk t = true) → strOk (Str.join ", " ts) = true
  | [], _ => by
    show strOk Str.empty = true
    unfold strOk Str.empty
    simp
  | [x], h => h x List.mem_cons_self
  | x :: y :: r, h => ok_append (ok_append (h x List.mem_cons_self) (ok_string _)) (join_ok (y :: r) fun t ht => h t (List.mem_cons_of_mem _ ht))
mutual
theorem shown_ok : ∀ (d : PyData), d.canLay0 = true → strOk d.shown = true
  | .none, _ => by
    unfold PyData.shown
    exact ok_string _
  | .bool b, _ => by
    unfold PyData.shown
    split <;> exact ok_string _
  | .int i, _ => by
    unfold PyData.shown
    exact ok_string _
  | .str x, h => by
    unfold PyData.shown
    exact reprText_ok (by simpa [PyData.canLay0] using h)
  | .list xs, h => by
    unfold PyData.shown listText
    exact ok_append (textFrom_ok _ _ _ (shownAll_ok xs (by simpa [PyData.canLay0] using h)) (ok_string _)) (ok_string _)
  | .tuple xs, h => by
    unfold PyData.shown tupleText
    exact ok_append (ok_append (ok_string _) (join_ok _ (shownAll_ok xs (by simpa [PyData.canLay0] using h)))) (ok_string _)
  | .dict _, h => by simp [PyData.canLay0] at h
theorem shownAll_ok : ∀ (ds : List PyData), PyData.canLayAll0 ds = true → ∀ t ∈ PyData.shownAll ds, strOk t = true
  | [], _, t, ht => by
    unfold PyData.shownAll at ht
    cases ht
  | d :: ds, h, t, ht => by
    have h' : d.canLay0 = true ∧ PyData.canLayAll0 ds = true := by simpa [PyData.canLayAll0] using h
    unfold PyData.shownAll at ht
    rcases List.mem_cons.mp ht with rfl | q
    · exact shown_ok d h'.1
    · exact shownAll_ok ds h'.2 t q
end
/-- all that reprOk asks, of data with texts within Unicode -/
theorem reprOk_of {d : D} (h1 : d.plain = true) (h2 : d.py.canLay0 = true) (h3 : d.py.showable = true) (h4 : d.py.depth ≤ 64) (h5 : cost d.py ≤ sizeLine) : reprOk d = true := by
  unfold reprOk
  rw [h1, h3, PyData.hasDict_of_canLay _ h2, decide_eq_true h4, decide_eq_true (Nat.le_trans (shown_le _ h2) h5)]
  rfl
theorem fine_of {d : D} (h1 : d.plain = true) (h2 : d.py.canLay0 = true) (h4 : d.py.depth ≤ 64) : d.fine = true := by
  unfold D.fine SeqAt.shaped
  rw [h1, h2, decide_eq_true h4]
  rfl
end PL
/-! PLLot: names and lots, in plain Lean. -/
namespace PL
open PySem PySem.Spec PySem.W PyProof.Rows L2 DL

/-! ### order -/
theorem lt_irrefl (d : PyData) : dataLt d d = false := (listOrd itemOrd).irrefl _
theorem lt_trans {a b c : PyData} (h1 : dataLt a b = true) (h2 : dataLt b c = true) : dataLt a c = true :=
  (listOrd itemOrd).trans _ _ _ (show (listOrd itemOrd).blt (keyToks a) (keyToks b) = true from h1) (show (listOrd itemOrd).blt (keyToks b) (keyToks c) = true from h2)
theorem lt_asymm {a b : PyData} (h : dataLt a b = true) : dataLt b a = false := by
  cases q : dataLt b a with
  | false => rfl
  | true =>
    have := lt_trans h q
    rw [lt_irrefl] at this
    cases this
/-- strictly ascending data -/
def Asc (ds : List D) : Prop := ds.Pairwise fun a b => dataLt a.py b.py = true
theorem asc_tri : ∀ {ds : List D}, Asc ds → ∀ {a b : D}, a ∈ ds → b ∈ ds → a = b ∨ dataLt a.py b.py = true ∨ dataLt b.py a.py = true
  | [], _, _, _, h, _ => nomatch h
  | d :: ds, s, a, b, ha, hb => by
    obtain ⟨s1, s2⟩ := List.pairwise_cons.mp s
    rcases List.mem_cons.mp ha with e | ha
    · rcases List.mem_cons.mp hb with e' | hb
      · exact .inl (e.trans e'.symm)
      · rw [e]
        exact .inr (.inl (s1 b hb))
    · rcases List.mem_cons.mp hb with e | hb
      · rw [e]
        exact .inr (.inr (s1 a ha))
      · exact asc_tri s2 ha hb
theorem sortD_asc {xs ys : List D} (p : xs.Perm ys) (s : Asc ys) : sortD xs = ys := by
  have pe : (sortD xs).Perm ys := (List.mergeSort_perm xs _).trans p
  refine sorted_one (le := dataLe false D.py) pe (fun a b ha hb h1 h2 => ?_) (List.pairwise_mergeSort (fun a b c => dataLe_trans D.py a b c) (fun a b => dataLe_total D.py a b) xs) (s.imp fun {a b} h => ?_)
  · have h1 : (!dataLt b.py a.py) = true := h1
    have h2 : (!dataLt a.py b.py) = true := h2
    rcases asc_tri s (pe.mem_iff.mp ha) (pe.mem_iff.mp hb) with e | e | e
    · exact e
    · rw [e] at h2; cases h2
    · rw [e] at h1; cases h1
  · show (!dataLt b.py a.py) = true
    rw [lt_asymm h]
    rfl
theorem asc_nodup {ds : List D} (s : Asc ds) : ds.Nodup := s.imp fun {a b} h e => by
  rw [e, lt_irrefl] at h
  cases h
theorem perm_of {α : Type} : ∀ {xs ys : List α}, xs.Nodup → ys.Nodup → (∀ x, x ∈ xs ↔ x ∈ ys) → xs.Perm ys
  | [], ys, _, _, h => by
    cases ys with
    | nil => exact .nil
    | cons y r => exact absurd ((h y).mpr List.mem_cons_self) (by simp)
  | x :: xs, ys, h1, h2, h => by
    obtain ⟨s, t, rfl⟩ := List.append_of_mem ((h x).mp List.mem_cons_self)
    obtain ⟨n1, n2⟩ := List.nodup_cons.mp h1
    obtain ⟨m1, m2⟩ := List.nodup_cons.mp ((List.perm_middle (a := x) (l₁ := s) (l₂ := t)).nodup_iff.mp h2)
    refine (List.Perm.cons x (perm_of n2 m2 fun z => ?_)).trans List.perm_middle.symm
    constructor
    · intro hz
      have := (h z).mp (List.mem_cons_of_mem _ hz)
      rcases List.mem_append.mp this with q | q
      · exact List.mem_append.mpr (.inl q)
      · rcases List.mem_cons.mp q with rfl | q
        · exact (n1 hz).elim
        · exact List.mem_append.mpr (.inr q)
    · intro hz
      have : z ∈ s ++ x :: t := by
        rcases List.mem_append.mp hz with q | q
        · exact List.mem_append.mpr (.inl q)
        · exact List.mem_append.mpr (.inr (List.mem_cons_of_mem _ q))
      rcases List.mem_cons.mp ((h z).mpr this) with rfl | q
      · exact (m1 hz).elim
      · exact q

/-! ### names -/
def Lt (x y : Str) : Prop := x.cps.toList < y.cps.toList
instance (x y : Str) : Decidable (Lt x y) := inferInstanceAs (Decidable (x.cps.toList < y.cps.toList))
theorem lt_str (x y : Str) : dataLt (D.str x).py (D.str y).py = decide (Lt x y) := dataLt_str x y
/-- a name: one to five letters a to z -/
def Nam (x : Str) : Prop := (1 ≤ x.cps.size ∧ x.cps.size ≤ 5) ∧ ∀ c ∈ x.cps.toList, 97 ≤ c ∧ c ≤ 122
/-- ascending names -/
def Up (l : List Str) : Prop := l.Pairwise Lt
theorem Lt.irrefl {x : Str} : ¬ Lt x x := fun h => by
  have := lt_irrefl (D.str x).py
  rw [lt_str, decide_eq_true h] at this
  cases this
theorem Lt.trans {x y z : Str} (h1 : Lt x y) (h2 : Lt y z) : Lt x z := by
  have := lt_trans (a := (D.str x).py) (b := (D.str y).py) (c := (D.str z).py) (by rw [lt_str]; exact decide_eq_true h1) (by rw [lt_str]; exact decide_eq_true h2)
  rw [lt_str] at this
  exact of_decide_eq_true this
theorem Lt.asymm {x y : Str} (h1 : Lt x y) : ¬ Lt y x := fun h2 => Lt.irrefl (h1.trans h2)
theorem Up.nodup {l : List Str} (h : Up l) : l.Nodup := h.imp fun {a b} q e => by
  rw [e] at q
  exact Lt.irrefl q
abbrev S (x : Str) : D := .str x
def T (l : List Str) : D := .tup (l.map D.str)
theorem asc_S {l : List Str} : Asc (l.map S) ↔ Up l := by
  unfold Asc Up
  rw [List.pairwise_map]
  constructor
  · exact fun h => h.imp fun {a b} q => by rw [lt_str] at q; exact of_decide_eq_true q
  · exact fun h => h.imp fun {a b} q => by rw [lt_str]; exact decide_eq_true q
theorem S_inj {x y : Str} (h : S x = S y) : x = y := by cases h; rfl
theorem mapS_inj : ∀ {a b : List Str}, a.map S = b.map S → a = b
  | [], [], _ => rfl
  | [], _ :: _, h => nomatch h
  | _ :: _, [], h => nomatch h
  | x :: a, y :: b, h => by
    obtain ⟨h1, h2⟩ := List.cons.inj h
    rw [S_inj h1, mapS_inj h2]
theorem T_inj {a b : List Str} (h : T a = T b) : a = b := mapS_inj (D.tup.inj h)
theorem map_inj_mem {α β : Type} {f : α → β} (inj : ∀ {a b}, f a = f b → a = b) {x : α} {l : List α} : f x ∈ l.map f ↔ x ∈ l := by
  constructor
  · intro h
    obtain ⟨y, hy, e⟩ := List.mem_map.mp h
    rw [← inj e]
    exact hy
  · exact fun h => List.mem_map.mpr ⟨x, h, rfl⟩
theorem map_nodup {α β : Type} {f : α → β} (inj : ∀ {a b}, f a = f b → a = b) {l : List α} (h : l.Nodup) : (l.map f).Nodup := by
  unfold List.Nodup
  rw [List.pairwise_map]
  exact h.imp fun {a b} q e => q (inj e)

/-! ### what they are as data -/
theorem pyL_map {l : List D} : pyL l = l.map D.py := by
  induction l with
  | nil => rfl
  | cons d l ih =>
    unfold pyL
    rw [ih]
    rfl
theorem plainL_of {l : List D} (h : ∀ d ∈ l, d.plain = true) : plainL l = true := by
  induction l with
  | nil => rfl
  | cons d l ih =>
    unfold plainL
    rw [h d List.mem_cons_self, ih fun x hx => h x (List.mem_cons_of_mem _ hx)]
    rfl
theorem canLayL_of {l : List D} (h : ∀ d ∈ l, d.py.canLay0 = true) : PyData.canLayAll0 (pyL l) = true := by
  induction l with
  | nil => rfl
  | cons d l ih =>
    unfold pyL PyData.canLayAll0
    rw [h d List.mem_cons_self, ih fun x hx => h x (List.mem_cons_of_mem _ hx)]
    rfl
theorem showL_of {l : List D} (h : ∀ d ∈ l, d.py.showable = true) : PyData.showableAll (pyL l) = true := by
  induction l with
  | nil => rfl
  | cons d l ih =>
    unfold pyL PyData.showableAll
    rw [h d List.mem_cons_self, ih fun x hx => h x (List.mem_cons_of_mem _ hx)]
    rfl
theorem depthL_of {n : Nat} {l : List D} (h : ∀ d ∈ l, d.py.depth ≤ n) : PyData.depthAll (pyL l) ≤ n := by
  induction l with
  | nil => exact Nat.zero_le _
  | cons d l ih =>
    unfold pyL PyData.depthAll
    exact Nat.max_le.mpr ⟨h d List.mem_cons_self, ih fun x hx => h x (List.mem_cons_of_mem _ hx)⟩
theorem costL_of {n : Nat} {l : List D} (h : ∀ d ∈ l, cost d.py ≤ n) : costAll (pyL l) ≤ l.length * (n + 2) := by
  induction l with
  | nil => exact Nat.zero_le _
  | cons d l ih =>
    unfold pyL costAll
    have := h d List.mem_cons_self
    have := ih fun x hx => h x (List.mem_cons_of_mem _ hx)
    rw [List.length_cons, Nat.add_mul]
    omega
/-- data that may be shown and compared: how deep, how long -/
structure Nice (n c : Nat) (d : D) : Prop where
  plain : d.plain = true
  lay : d.py.canLay0 = true
  show' : d.py.showable = true
  depth : d.py.depth ≤ n
  cost : cost d.py ≤ c
theorem Nice.mono {n m c k : Nat} {d : D} (h : Nice n c d) (h1 : n ≤ m) (h2 : c ≤ k) : Nice m k d := ⟨h.plain, h.lay, h.show', Nat.le_trans h.depth h1, Nat.le_trans h.cost h2⟩
theorem Nice.fine {n c : Nat} {d : D} (h : Nice n c d) (hn : n ≤ 64 := by decide) : d.fine = true := fine_of h.plain h.lay (Nat.le_trans h.depth hn)
theorem Nice.repr {n c : Nat} {d : D} (h : Nice n c d) (hn : n ≤ 64 := by decide) (hc : c ≤ sizeLine := by decide) : reprOk d = true := reprOk_of h.plain h.lay h.show' (Nat.le_trans h.depth hn) (Nat.le_trans h.cost hc)
theorem nice_bool {n c : Nat} {b : Bool} (hc : 5 ≤ c := by decide) : Nice n c (.bool b) := ⟨rfl, rfl, rfl, Nat.zero_le _, hc⟩
theorem nice_str {n : Nat} {x : Str} (h : Nam x) : Nice n 52 (.str x) := by
  refine ⟨rfl, ?_, rfl, Nat.zero_le _, ?_⟩
  · show PyData.strOk x = true
    unfold PyData.strOk
    rw [← Array.all_toList]
    exact List.all_eq_true.mpr fun c hc => decide_eq_true (by have := (h.2 c hc).2; omega)
  · show 10 * x.cps.size + 2 ≤ 52
    have := h.1.2
    omega
theorem nice_tup {n c : Nat} {l : List D} (h : ∀ d ∈ l, Nice n c d) : Nice (n + 1) (l.length * (c + 2) + 3) (.tup l) := by
  refine ⟨plainL_of fun d hd => (h d hd).plain, ?_, ?_, ?_, ?_⟩
  · show PyData.canLay0 (.tuple (pyL l)) = true
    unfold PyData.canLay0
    exact canLayL_of fun d hd => (h d hd).lay
  · show PyData.showable (.tuple (pyL l)) = true
    unfold PyData.showable
    exact showL_of fun d hd => (h d hd).show'
  · show PyData.depth (.tuple (pyL l)) ≤ _
    unfold PyData.depth
    have := depthL_of fun d hd => (h d hd).depth
    omega
  · show PL.cost (.tuple (pyL l)) ≤ _
    unfold PL.cost
    have := costL_of fun d hd => (h d hd).cost
    omega
theorem nice_lst {n c : Nat} {l : List D} (h : ∀ d ∈ l, Nice n c d) : Nice (n + 1) (l.length * (c + 2) + 3) (.lst l) := by
  refine ⟨plainL_of fun d hd => (h d hd).plain, ?_, ?_, ?_, ?_⟩
  · show PyData.canLay0 (.list (pyL l)) = true
    unfold PyData.canLay0
    exact canLayL_of fun d hd => (h d hd).lay
  · show PyData.showable (.list (pyL l)) = true
    unfold PyData.showable
    exact showL_of fun d hd => (h d hd).show'
  · show PyData.depth (.list (pyL l)) ≤ _
    unfold PyData.depth
    have := depthL_of fun d hd => (h d hd).depth
    omega
  · show PL.cost (.list (pyL l)) ≤ _
    unfold PL.cost
    have := costL_of fun d hd => (h d hd).cost
    omega
/-- a lot of at most ten names -/
def Lot10 (l : List Str) : Prop := (∀ x ∈ l, Nam x) ∧ l.length ≤ 10
theorem nice_T {l : List Str} (h : Lot10 l) : Nice 1 600 (T l) := by
  refine (nice_tup (n := 0) (c := 52) (l := l.map D.str) fun d hd => ?_).mono (Nat.le_refl _) ?_
  · obtain ⟨x, hx, rfl⟩ := List.mem_map.mp hd
    exact nice_str (h.1 x hx)
  · rw [List.length_map]
    have := h.2
    omega
theorem nice_Ss {l : List Str} (h : Lot10 l) : Nice 1 600 (.lst (l.map D.str)) := by
  refine (nice_lst (n := 0) (c := 52) (l := l.map D.str) fun d hd => ?_).mono (Nat.le_refl _) ?_
  · obtain ⟨x, hx, rfl⟩ := List.mem_map.mp hd
    exact nice_str (h.1 x hx)
  · rw [List.length_map]
    have := h.2
    omega

/-! ### == and in -/
theorem eqv_str (x y : Str) : PyData.eqv (D.str x).py (D.str y).py = decide (x = y) := by
  show PyData.eqv (.str x) (.str y) = _
  unfold PyData.eqv
  rfl
theorem eqvAll_S : ∀ (a b : List Str), PyData.eqvAll (pyL (a.map D.str)) (pyL (b.map D.str)) = decide (a = b)
  | [], [] => by simp [pyL, PyData.eqvAll]
  | [], _ :: _ => by simp [pyL, PyData.eqvAll]
  | _ :: _, [] => by simp [pyL, PyData.eqvAll]
  | x :: a, y :: b => by
    simp only [List.map_cons, pyL, PyData.eqvAll]
    rw [eqvAll_S a b, eqv_str]
    by_cases h1 : x = y <;> by_cases h2 : a = b <;> simp [h1, h2]
theorem eqv_T (a b : List Str) : PyData.eqv (T a).py (T b).py = decide (a = b) := by
  show PyData.eqv (.tuple (pyL (a.map D.str))) (.tuple (pyL (b.map D.str))) = _
  unfold PyData.eqv
  exact eqvAll_S a b
theorem deq_str {x y : Str} (hx : Nam x) (hy : Nam y) : deq (.str x) (.str y) = some (decide (x = y)) := by
  unfold deq
  rw [(nice_str (n := 0) hx).fine, (nice_str (n := 0) hy).fine, eqv_str]
  simp
theorem deq_T {a b : List Str} (ha : Lot10 a) (hb : Lot10 b) : deq (T a) (T b) = some (decide (a = b)) := by
  unfold deq
  rw [(nice_T ha).fine, (nice_T hb).fine, eqv_T]
  simp
theorem any_S (l : List Str) (x : Str) : ((l.map D.str).any fun y => PyData.eqv y.py (D.str x).py) = decide (x ∈ l) := by
  rw [List.any_map, Bool.eq_iff_iff]
  simp only [List.any_eq_true, Function.comp_apply, decide_eq_true_eq]
  constructor
  · rintro ⟨y, hy, e⟩
    rw [eqv_str] at e
    rw [← of_decide_eq_true e]
    exact hy
  · intro h
    refine ⟨x, h, ?_⟩
    rw [eqv_str]
    simp
theorem any_T (l : List (List Str)) (x : List Str) : ((l.map T).any fun y => PyData.eqv y.py (T x).py) = decide (x ∈ l) := by
  rw [List.any_map, Bool.eq_iff_iff]
  simp only [List.any_eq_true, Function.comp_apply, decide_eq_true_eq]
  constructor
  · rintro ⟨y, hy, e⟩
    rw [eqv_T] at e
    rw [← of_decide_eq_true e]
    exact hy
  · intro h
    refine ⟨x, h, ?_⟩
    rw [eqv_T]
    simp
theorem in_T {x : Str} {l : List Str} (hx : Nam x) (hl : Lot10 l) : dIn (.str x) (T l) = some (.bool (decide (x ∈ l))) := by
  show (if (D.str x).fine = true ∧ (T l).fine = true then some (D.bool ((l.map D.str).any fun y => PyData.eqv y.py (D.str x).py)) else none) = _
  rw [if_pos ⟨(nice_str (n := 0) hx).fine, (nice_T hl).fine⟩, any_S]
theorem in_Ss {x : Str} {l : List Str} (hx : Nam x) (hl : Lot10 l) : dIn (.str x) (.lst (l.map D.str)) = some (.bool (decide (x ∈ l))) := by
  show (if (D.str x).fine = true ∧ (D.lst (l.map D.str)).fine = true then some (D.bool ((l.map D.str).any fun y => PyData.eqv y.py (D.str x).py)) else none) = _
  rw [if_pos ⟨(nice_str (n := 0) hx).fine, (nice_Ss hl).fine⟩, any_S]
theorem nin_T {x : Str} {l : List Str} (hx : Nam x) (hl : Lot10 l) : dNotIn (.str x) (T l) = some (.bool (!decide (x ∈ l))) := by
  unfold dNotIn
  rw [in_T hx hl]
theorem nin_Ss {x : Str} {l : List Str} (hx : Nam x) (hl : Lot10 l) : dNotIn (.str x) (.lst (l.map D.str)) = some (.bool (!decide (x ∈ l))) := by
  unfold dNotIn
  rw [in_Ss hx hl]
/-- rows of lots -/
def Row (ls : List (List Str)) : Prop := (∀ l ∈ ls, Lot10 l) ∧ ls.length ≤ 1024
theorem nice_row {ls : List (List Str)} (h : Row ls) : Nice 2 700000 (.lst (ls.map T)) := by
  refine (nice_lst (n := 1) (c := 600) (l := ls.map T) fun d hd => ?_).mono (Nat.le_refl _) ?_
  · obtain ⟨x, hx, rfl⟩ := List.mem_map.mp hd
    exact nice_T (h.1 x hx)
  · rw [List.length_map]
    have := h.2
    omega
theorem nice_rowT {ls : List (List Str)} (h : Row ls) : Nice 2 700000 (.tup (ls.map T)) := by
  refine (nice_tup (n := 1) (c := 600) (l := ls.map T) fun d hd => ?_).mono (Nat.le_refl _) ?_
  · obtain ⟨x, hx, rfl⟩ := List.mem_map.mp hd
    exact nice_T (h.1 x hx)
  · rw [List.length_map]
    have := h.2
    omega
theorem in_row {x : List Str} {ls : List (List Str)} (hx : Lot10 x) (hl : Row ls) : dIn (T x) (.lst (ls.map T)) = some (.bool (decide (x ∈ ls))) := by
  show (if (T x).fine = true ∧ (D.lst (ls.map T)).fine = true then some (D.bool ((ls.map T).any fun y => PyData.eqv y.py (T x).py)) else none) = _
  rw [if_pos ⟨(nice_T hx).fine, (nice_row hl).fine⟩, any_T]

/-! ### what may be sorted -/
theorem alikeAll_S : ∀ (a b : List Str), alikeAll (pyL (a.map D.str)) (pyL (b.map D.str)) = true
  | [], _ => by simp [pyL, alikeAll]
  | _ :: _, [] => by simp [pyL, alikeAll]
  | x :: a, y :: b => by
    simp only [List.map_cons, pyL, alikeAll]
    rw [alikeAll_S a b]
    rfl
theorem sortOk_S {l : List Str} : sortOk (l.map D.str) = true := by
  unfold sortOk
  rw [plainL_of (by simp [D.plain])]
  simp [alikeD, restD, D.py, alike, PyData.depth]
theorem sortOk_T {ls : List (List Str)} : sortOk (ls.map T) = true := by
  unfold sortOk
  rw [plainL_of]
  · have h1 : alikeD (ls.map T) = true := by
      unfold alikeD
      refine List.all_eq_true.mpr fun a ha => List.all_eq_true.mpr fun b hb => ?_
      obtain ⟨x, _, rfl⟩ := List.mem_map.mp ha
      obtain ⟨y, _, rfl⟩ := List.mem_map.mp hb
      show alike (.tuple (pyL (x.map D.str))) (.tuple (pyL (y.map D.str))) = true
      unfold alike
      exact alikeAll_S x y
    have h2 : tupsD (ls.map T) = true := by
      unfold tupsD
      refine List.all_eq_true.mpr fun a ha => ?_
      obtain ⟨x, _, rfl⟩ := List.mem_map.mp ha
      rfl
    rw [h1, h2]
    simp only [Bool.true_and, Bool.true_or, List.all_eq_true]
    intro a ha
    obtain ⟨x, _, rfl⟩ := List.mem_map.mp ha
    refine decide_eq_true ?_
    show PyData.depth (.tuple (pyL (x.map D.str))) ≤ 64
    unfold PyData.depth
    have := depthL_of (n := 0) (l := x.map D.str) fun d hd => by
      obtain ⟨y, _, rfl⟩ := List.mem_map.mp hd
      exact Nat.le_refl _
    omega
  · intro d hd
    obtain ⟨x, _, rfl⟩ := List.mem_map.mp hd
    show plainL (x.map D.str) = true
    exact plainL_of fun d hd => by
      obtain ⟨y, _, rfl⟩ := List.mem_map.mp hd
      rfl
end PL
/-! PLPart: all parts of a lot, what sorted(set(..)) gives, lots among the names. -/
namespace PL
open PySem PySem.Spec PySem.W PyProof.Rows L2 DL

def parts : List Str → List (List Str)
  | [] => [[]]
  | n :: ns => [] :: ((parts ns).map (n :: ·) ++ (parts ns).tail)
theorem parts_ne (ns : List Str) : ∃ r, parts ns = [] :: r := by cases ns <;> exact ⟨_, rfl⟩
theorem mem_parts : ∀ {ns l : List Str}, l ∈ parts ns ↔ l.Sublist ns
  | [], l => by simp [parts]
  | n :: ns, l => by
    rw [parts, List.mem_cons, List.mem_append, List.mem_map, List.sublist_cons_iff]
    obtain ⟨r, e⟩ := parts_ne ns
    constructor
    · rintro (rfl | ⟨a, ha, rfl⟩ | h)
      · exact .inl (List.nil_sublist _)
      · exact .inr ⟨a, rfl, mem_parts.mp ha⟩
      · exact .inl (mem_parts.mp (List.mem_of_mem_tail h))
    · rintro (h | ⟨r', rfl, h⟩)
      · have := mem_parts.mpr h
        rw [e] at this ⊢
        rcases List.mem_cons.mp this with q | q
        · exact .inl q
        · exact .inr (.inr q)
      · exact .inr (.inl ⟨r', mem_parts.mpr h, rfl⟩)
theorem len_parts : ∀ (ns : List Str), (parts ns).length = 2 ^ ns.length
  | [] => rfl
  | n :: ns => by
    have ih := len_parts ns
    obtain ⟨r, e⟩ := parts_ne ns
    rw [parts, List.length_cons, List.length_append, List.length_map, List.length_tail, ih, List.length_cons, Nat.pow_succ]
    have : 0 < 2 ^ ns.length := Nat.pow_pos (by omega)
    omega
theorem ltT_eq (a b : List Str) : dataLt (T a).py (T b).py = PyProof.Rows.lexLt itemOrd (keyToksAll (pyL (a.map D.str))) (keyToksAll (pyL (b.map D.str))) := dataLt_tuple _ _
theorem ltT_nil {x : Str} {l : List Str} : dataLt (T []).py (T (x :: l)).py = true := by
  rw [ltT_eq]
  show PyProof.Rows.lexLt itemOrd [.inl 0] (.inl 1 :: _) = true
  rw [lex_diff (O := itemOrd) (by simp)]
  rfl
theorem ltT_same {x : Str} {a b : List Str} : dataLt (T (x :: a)).py (T (x :: b)).py = dataLt (T a).py (T b).py := by
  rw [ltT_eq, ltT_eq]
  show PyProof.Rows.lexLt itemOrd (.inl 1 :: ([.inr x.cps.toList] ++ _)) (.inl 1 :: ([.inr x.cps.toList] ++ _)) = _
  rw [lex_self (O := itemOrd)]
  exact lex_pre _ _ _
theorem ltT_diff {x y : Str} {a b : List Str} (h : Lt x y) : dataLt (T (x :: a)).py (T (y :: b)).py = true := by
  rw [ltT_eq]
  show PyProof.Rows.lexLt itemOrd (.inl 1 :: (.inr x.cps.toList :: _)) (.inl 1 :: (.inr y.cps.toList :: _)) = _
  rw [lex_self (O := itemOrd), lex_diff (O := itemOrd) (fun e => ?_)]
  · exact decide_eq_true h
  · have e : x.cps.toList = y.cps.toList := Sum.inr.inj e
    have e : x = y := str_of_cps e
    rw [e] at h
    exact Lt.irrefl h
theorem asc_T {ls : List (List Str)} : Asc (ls.map T) ↔ ls.Pairwise fun a b => dataLt (T a).py (T b).py = true := by
  unfold Asc
  rw [List.pairwise_map]
theorem asc_parts : ∀ {ns : List Str}, Up ns → Asc ((parts ns).map T)
  | [], _ => by simp [parts, Asc]
  | n :: ns, h => by
    obtain ⟨h1, h2⟩ := List.pairwise_cons.mp h
    have ih := asc_T.mp (asc_parts h2)
    obtain ⟨r, e⟩ := parts_ne ns
    rw [e] at ih
    obtain ⟨i1, i2⟩ := List.pairwise_cons.mp ih
    rw [asc_T, parts, List.pairwise_cons, List.pairwise_append, List.pairwise_map, e, List.tail_cons]
    refine ⟨fun b hb => ?_, ?_, i2, fun a ha b hb => ?_⟩
    · rcases List.mem_append.mp hb with q | q
      · obtain ⟨c, _, rfl⟩ := List.mem_map.mp q
        exact ltT_nil
      · exact i1 b q
    · exact ih.imp fun {a b} q => by rw [ltT_same]; exact q
    · obtain ⟨c, _, rfl⟩ := List.mem_map.mp ha
      have hs : b.Sublist ns := mem_parts.mp (by rw [e]; exact List.mem_cons_of_mem _ hb)
      cases b with
      | nil =>
        have := i1 [] hb
        rw [lt_irrefl] at this
        cases this
      | cons m b => exact ltT_diff (h1 m (hs.subset List.mem_cons_self))
/-- the law's own walk over all lots -/
def grow (F : List (List Str)) (n : Str) : List (List Str) := F ++ F.map (· ++ [n])
theorem fm_perm {α β : Type} (f g : α → List β) : ∀ F : List α, (F.flatMap f ++ F.flatMap g).Perm (F.flatMap fun s => f s ++ g s)
  | [] => .nil
  | x :: F => by
    simp only [List.flatMap_cons]
    refine List.Perm.trans ?_ ((List.Perm.refl (f x ++ g x)).append (fm_perm f g F))
    rw [List.append_assoc, List.append_assoc]
    refine (List.Perm.refl (f x)).append ?_
    rw [← List.append_assoc, ← List.append_assoc]
    exact (List.perm_append_comm).append_right _
theorem fm_congr {α β : Type} {f g : α → List β} (h : ∀ s, (f s).Perm (g s)) : ∀ F : List α, (F.flatMap f).Perm (F.flatMap g)
  | [] => .nil
  | x :: F => by
    simp only [List.flatMap_cons]
    exact (h x).append (fm_congr h F)
theorem parts_perm (n : Str) (ns : List Str) : (parts ns ++ (parts ns).map (n :: ·)).Perm (parts (n :: ns)) := by
  obtain ⟨r, e⟩ := parts_ne ns
  rw [parts, e, List.tail_cons]
  exact List.Perm.cons _ List.perm_append_comm
theorem grow_perm : ∀ (ns : List Str) (F : List (List Str)), (ns.foldl grow F).Perm (F.flatMap fun s => (parts ns).map (s ++ ·))
  | [], F => by
    have : (F.flatMap fun s => (parts []).map (s ++ ·)) = F := by
      induction F with
      | nil => rfl
      | cons x F ih => simp [parts] at ih ⊢
    rw [this]
    exact .refl _
  | n :: ns, F => by
    rw [List.foldl_cons]
    refine (grow_perm ns (grow F n)).trans ?_
    unfold grow
    rw [List.flatMap_append, List.flatMap_map]
    refine (fm_perm _ _ F).trans (fm_congr (fun s => ?_) F)
    have : (parts ns).map ((s ++ [n]) ++ ·) = ((parts ns).map (n :: ·)).map (s ++ ·) := by
      rw [List.map_map]
      exact List.map_congr_left fun a _ => by simp
    show ((parts ns).map (s ++ ·) ++ (parts ns).map ((s ++ [n]) ++ ·)).Perm _
    rw [this, ← List.map_append]
    exact (parts_perm n ns).map _
theorem grow_parts (ns : List Str) : (ns.foldl grow [[]]).Perm (parts ns) := by
  have := grow_perm ns [[]]
  simpa using this
theorem len_grow : ∀ (ns : List Str) (F : List (List Str)), (ns.foldl grow F).length = F.length * 2 ^ ns.length
  | [], F => by simp
  | n :: ns, F => by
    rw [List.foldl_cons, len_grow ns, List.length_cons, Nat.pow_succ]
    unfold grow
    rw [List.length_append, List.length_map]
    rw [show F.length + F.length = F.length * 2 by omega, Nat.mul_assoc, Nat.mul_comm 2]

/-! ### sorted(set(..)) -/
theorem dedup_map {α K : Type} [DecidableEq K] {rd : D → Option K} {f : α → D} (inj : ∀ a b, rd (f a) = rd (f b) → a = b) : ∀ (l : List α), ∃ m : List α, dedup rd (l.map f) = m.map f ∧ m.Nodup ∧ (∀ x, x ∈ m ↔ x ∈ l) ∧ m.length ≤ l.length
  | [] => ⟨[], rfl, .nil, fun _ => .rfl, Nat.le_refl _⟩
  | a :: l => by
    obtain ⟨m, h1, h2, h3, h4⟩ := dedup_map inj l
    refine ⟨a :: m.filter fun x => decide (rd (f x) ≠ rd (f a)), ?_, List.nodup_cons.mpr ⟨fun h => ?_, h2.sublist List.filter_sublist⟩, fun x => ?_, ?_⟩
    · rw [List.map_cons, dedup, h1, List.map_cons, List.filter_map]
      rfl
    · have := (List.mem_filter.mp h).2
      simp at this
    · rw [List.mem_cons, List.mem_cons, List.mem_filter, h3]
      constructor
      · rintro (h | h)
        · exact .inl h
        · exact .inr h.1
      · rintro (h | h)
        · exact .inl h
        · by_cases e : x = a
          · exact .inl e
          · exact .inr ⟨h, decide_eq_true fun z => e (inj _ _ z)⟩
    · rw [List.length_cons, List.length_cons]
      have := List.length_filter_le (fun x => decide (rd (f x) ≠ rd (f a))) m
      omega
theorem keyD_str (x : Str) : keyD (.str x) = some (.inr x) := rfl
theorem sortS {l t : List Str} (p : l.Perm t) (ht : Up t) : sortD (l.map D.str) = t.map D.str := sortD_asc (p.map _) (asc_S.mpr ht)
theorem sortT {l t : List (List Str)} (p : l.Perm t) (ht : Asc (t.map T)) : sortD (l.map T) = t.map T := sortD_asc (p.map _) ht
theorem sortSetV_S {l t : List Str} (hl : l.length ≤ 1000) (ht : Up t) (h : ∀ x, x ∈ l ↔ x ∈ t) : sortSetV (l.map D.str) = some (.lst (t.map D.str)) := by
  obtain ⟨m, h1, h2, h3, h4⟩ := dedup_map (rd := keyD) (f := D.str) (fun a b e => by
    rw [keyD_str, keyD_str] at e
    exact Sum.inr.inj (Option.some.inj e)) l
  have ok : ((l.map D.str).all fun d => (keyD d).isSome) = true := List.all_eq_true.mpr fun d hd => by
    obtain ⟨x, _, rfl⟩ := List.mem_map.mp hd
    rfl
  unfold sortSetV
  rw [h1, if_pos ⟨ok, by rw [List.length_map]; exact hl, sortOk_S⟩, sortS (perm_of h2 ht.nodup fun x => (h3 x).trans (h x)) ht]
theorem keysD_S : ∀ l : List Str, ∃ k, keysD (l.map D.str) = some k
  | [] => ⟨[], rfl⟩
  | x :: l => by
    obtain ⟨k, e⟩ := keysD_S l
    exact ⟨.inr x :: k, by simp [keysD, e, keyD_str]⟩
theorem lotD_T (l : List Str) : ∃ k, lotD (T l) = some k := keysD_S l
theorem asc_nodupT {ls : List (List Str)} (h : Asc (ls.map T)) : ls.Nodup := (asc_T.mp h).imp fun {a b} q e => by
  rw [e, lt_irrefl] at q
  cases q
theorem sortSetT_T {l t : List (List Str)} (hl : l.length ≤ 62) (ht : Asc (t.map T)) (h : ∀ x, x ∈ l ↔ x ∈ t) : dSortSet (.lst (l.map T)) = some (.lst (t.map T)) ∧ dSortSet (.tup (l.map T)) = some (.lst (t.map T)) := by
  obtain ⟨m, h1, h2, h3, h4⟩ := dedup_map (rd := lotD) (f := T) (fun a b e => by
    obtain ⟨k, ek⟩ := lotD_T a
    exact T_inj (lotD_inj ek (e.symm.trans ek))) l
  have ok : ((l.map T).all fun d => (lotD d).isSome) = true := List.all_eq_true.mpr fun d hd => by
    obtain ⟨x, _, rfl⟩ := List.mem_map.mp hd
    obtain ⟨k, ek⟩ := lotD_T x
    rw [ek]
    rfl
  have hT : sortSetT (l.map T) = some (.lst (t.map T)) := by
    unfold sortSetT
    rw [h1, if_pos ⟨ok, by rw [List.length_map]; exact hl, sortOk_T⟩, sortT (perm_of h2 (asc_nodupT ht) fun x => (h3 x).trans (h x)) ht]
  have main : (match sortSetV (l.map T) with | some r => some r | none => sortSetT (l.map T)) = some (.lst (t.map T)) := by
    cases l with
    | nil =>
      have : t = [] := by
        cases t with
        | nil => rfl
        | cons x t => exact absurd ((h x).mpr List.mem_cons_self) (by simp)
      subst this
      have := sortSetV_S (l := []) (t := []) (by decide) .nil (fun _ => .rfl)
      rw [show ([] : List (List Str)).map T = ([] : List Str).map D.str from rfl, this]
    | cons x l =>
      have : sortSetV ((x :: l).map T) = none := by
        unfold sortSetV
        rw [if_neg]
        rintro ⟨q, _⟩
        have := List.all_eq_true.mp q (T x) List.mem_cons_self
        cases this
      rw [this]
      exact hT
  exact ⟨main, main⟩
theorem sortSet_S {l t : List Str} (hl : l.length ≤ 1000) (ht : Up t) (h : ∀ x, x ∈ l ↔ x ∈ t) : dSortSet (.lst (l.map D.str)) = some (.lst (t.map D.str)) ∧ dSortSet (.tup (l.map D.str)) = some (.lst (t.map D.str)) := by
  have main : (match sortSetV (l.map D.str) with | some r => some r | none => sortSetT (l.map D.str)) = some (.lst (t.map D.str)) := by
    rw [sortSetV_S hl ht h]
  exact ⟨main, main⟩

/-! ### lots among the names -/
theorem sub_filter {a ns : List Str} (h : a.Sublist ns) (nd : ns.Nodup) : (ns.filter fun x => decide (x ∈ a)) = a := by
  induction h with
  | slnil => rfl
  | @cons l₁ l₂ x h ih =>
    obtain ⟨n1, n2⟩ := List.nodup_cons.mp nd
    rw [List.filter_cons_of_neg (by simpa using fun q => n1 (h.subset q)), ih n2]
  | @cons_cons l₁ l₂ x h ih =>
    obtain ⟨n1, n2⟩ := List.nodup_cons.mp nd
    rw [List.filter_cons_of_pos (by simp)]
    congr 1
    refine Eq.trans (List.filter_congr fun y hy => ?_) (ih n2)
    have : y ≠ x := fun e => n1 (e ▸ hy)
    simp [this]
theorem Up.sub {a ns : List Str} (h : Up ns) (s : a.Sublist ns) : Up a := List.Pairwise.sublist s h
theorem filter_eq {a ns : List Str} {p : Str → Bool} (h : a.Sublist ns) (nd : ns.Nodup) (e : ∀ x ∈ ns, p x = true ↔ x ∈ a) : ns.filter p = a := by
  rw [← sub_filter h nd]
  refine List.filter_congr fun x hx => ?_
  rw [Bool.eq_iff_iff, e x hx]
  simp
/-- both lots are parts of the names -/
theorem sub_of_mem {a b ns : List Str} (ha : a.Sublist ns) (hb : b.Sublist ns) (nd : ns.Nodup) (h : ∀ x ∈ a, x ∈ b) : a.Sublist b := by
  have : (b.filter fun x => decide (x ∈ a)) = a := by
    have := sub_filter ha nd
    rw [← sub_filter hb nd, List.filter_filter]
    refine Eq.trans (List.filter_congr fun x _ => ?_) this
    by_cases q : x ∈ a
    · simp [q, h x q]
    · simp [q]
  rw [← this]
  exact List.filter_sublist
def uni (ns a b : List Str) : List Str := ns.filter fun x => decide (x ∈ a) || decide (x ∈ b)
theorem mem_uni {ns a b : List Str} (ha : a.Sublist ns) (hb : b.Sublist ns) {x : Str} : x ∈ uni ns a b ↔ x ∈ a ∨ x ∈ b := by
  unfold uni
  rw [List.mem_filter]
  simp only [Bool.or_eq_true, decide_eq_true_eq]
  exact ⟨fun h => h.2, fun h => ⟨h.elim (fun q => ha.subset q) fun q => hb.subset q, h⟩⟩
theorem sub_uni {ns a b : List Str} : (uni ns a b).Sublist ns := List.filter_sublist
theorem nodup_map_on {α β : Type} {f : α → β} : ∀ {l : List α}, (∀ a ∈ l, ∀ b ∈ l, f a = f b → a = b) → l.Nodup → (l.map f).Nodup
  | [], _, _ => .nil
  | x :: l, inj, nd => by
    obtain ⟨n1, n2⟩ := List.nodup_cons.mp nd
    rw [List.map_cons]
    refine List.nodup_cons.mpr ⟨fun h => ?_, nodup_map_on (fun a ha b hb => inj a (List.mem_cons_of_mem _ ha) b (List.mem_cons_of_mem _ hb)) n2⟩
    obtain ⟨y, hy, e⟩ := List.mem_map.mp h
    rw [inj y (List.mem_cons_of_mem _ hy) x List.mem_cons_self e] at hy
    exact n1 hy
def within (a b : List Str) : Bool := a.all fun x => decide (x ∈ b)
theorem within_iff {a b : List Str} : within a b = true ↔ ∀ x ∈ a, x ∈ b := by simp [within]
/-- the lots between two, the law's way -/
def due (ns a b : List Str) : List (List Str) := (parts ns).filter fun l => within a l && within l b
theorem between {ns a b : List Str} (hn : Up ns) (ha : a.Sublist ns) (hb : b.Sublist ns) (h : within a b = true) : ((parts (b.filter fun x => !decide (x ∈ a))).map (uni ns a)).Perm (due ns a b) := by
  have nd := hn.nodup
  have hd : (b.filter fun x => !decide (x ∈ a)).Sublist ns := List.filter_sublist.trans hb
  have npp : (parts (b.filter fun x => !decide (x ∈ a))).Nodup := asc_nodupT (asc_parts (hn.sub hd))
  have back : ∀ p, p.Sublist (b.filter fun x => !decide (x ∈ a)) → ((uni ns a p).filter fun x => !decide (x ∈ a)) = p := fun p hp => by
    unfold uni
    rw [List.filter_filter]
    refine filter_eq (hp.trans hd) nd fun x hx => ?_
    have : x ∈ p → ¬ x ∈ a := fun q => by
      have := (List.mem_filter.mp (hp.subset q)).2
      simpa using this
    by_cases q : x ∈ p
    · simp [q, this q]
    · by_cases r : x ∈ a <;> simp [q, r]
  refine perm_of (nodup_map_on (fun p hp q hq e => ?_) npp) ((asc_nodupT (asc_parts hn)).sublist List.filter_sublist) fun l => ?_
  · rw [← back p (mem_parts.mp hp), e, back q (mem_parts.mp hq)]
  · unfold due
    rw [List.mem_map, List.mem_filter, Bool.and_eq_true, within_iff, within_iff, mem_parts]
    constructor
    · rintro ⟨p, hp, rfl⟩
      have hp' := mem_parts.mp hp
      refine ⟨sub_uni, fun x hx => (mem_uni ha (hp'.trans hd)).mpr (.inl hx), fun x hx => ?_⟩
      rcases (mem_uni ha (hp'.trans hd)).mp hx with q | q
      · exact within_iff.mp h x q
      · exact (List.mem_filter.mp (hp'.subset q)).1
    · rintro ⟨h1, h2, h3⟩
      have hs := (sub_of_mem h1 hb nd h3).filter fun x => !decide (x ∈ a)
      refine ⟨_, mem_parts.mpr hs, ?_⟩
      refine filter_eq h1 nd fun x hx => ?_
      rw [Bool.or_eq_true, decide_eq_true_eq, decide_eq_true_eq, List.mem_filter]
      constructor
      · rintro (q | q)
        · exact h2 x q
        · exact q.1
      · intro q
        by_cases r : x ∈ a
        · exact .inl r
        · exact .inr ⟨q, by simp [r]⟩
theorem due_none {ns a b : List Str} (h : within a b = false) : due ns a b = [] := by
  unfold due
  refine List.filter_eq_nil_iff.mpr fun l _ q => ?_
  rw [Bool.and_eq_true, within_iff, within_iff] at q
  have : within a b = true := within_iff.mpr fun x hx => q.2 x (q.1 x hx)
  rw [h] at this
  cases this
theorem due_some {ns a b : List Str} (ha : a.Sublist ns) (h : within a b = true) : a ∈ due ns a b := by
  unfold due
  rw [List.mem_filter, Bool.and_eq_true]
  exact ⟨mem_parts.mpr ha, within_iff.mpr fun _ q => q, h⟩
end PL
/-! PLDo: comprehensions over names and lots, evaluated. -/
namespace PL
open PySem PySem.Spec PySem.W PyProof.Rows L2 DL

@[simp] theorem items_T {l : List Str} : items (T l) = some (l.map D.str) := rfl
@[simp] theorem tuple_T {l : List Str} : dTuple [T l] = some (T l) := rfl
@[simp] theorem list_T {l : List Str} : dList [T l] = some (.lst (l.map D.str)) := rfl
@[simp] theorem len_T {l : List Str} : dLen [T l] = some (.int l.length) := by
  show some (D.int (l.map D.str).length) = _
  rw [List.length_map]
@[simp] theorem tup_S {l : List Str} : D.tup (l.map D.str) = T l := rfl
@[simp] theorem rev_T {l : List Str} : dRev (T l) = some (T l.reverse) := by
  show some (D.tup (l.map D.str).reverse) = _
  rw [← List.map_reverse]
  rfl
@[simp] theorem truth_b {b : Bool} : truth (.bool b) = some b := rfl
@[simp] theorem lift_n {e : EnvD} : lift none e = .bad := rfl
/-! ### slices -/
section
variable {env : EnvD} {m : M D} {lo hi : Option (M D)} {ds : List D}
@[simp] theorem u_slice : dSlice m lo hi env = (m env).bind fun d e => bif d.cuts then (dPart lo e).bind fun l e2 => (dPart hi e2).bind fun u e3 => lift (dCut d l u) e3 else .bad := rfl
@[simp] theorem u_partN : dPart none env = .ok none env := rfl
@[simp] theorem u_partS : dPart (some m) env = (m env).bind fun d e => match d with | .int i => .ok (some i) e | _ => .bad := rfl
@[simp] theorem cuts_L : (D.lst ds).cuts = true := rfl
@[simp] theorem cuts_R : (D.ro ds).cuts = true := rfl
@[simp] theorem cuts_T : (D.tup ds).cuts = true := rfl
@[simp] theorem cuts_TT {l : List Str} : (T l).cuts = true := rfl
@[simp] theorem cuts_S {x : Str} : (D.str x).cuts = true := rfl
theorem cut_from {α : Type} (xs : List α) {k : Int} (h : 0 ≤ k) : DL.cutD xs (some k) none = xs.drop k.toNat := by
  obtain ⟨n, rfl⟩ := Int.eq_ofNat_of_zero_le h
  unfold DL.cutD
  rw [HT.sIx_none, HT.sIx_nat, Int.toNat_natCast]
  by_cases q : n ≤ xs.length
  · rw [Nat.min_eq_left q]
    exact List.take_of_length_le (by rw [List.length_drop]; omega)
  · rw [Nat.min_eq_right (by omega), List.drop_of_length_le (Nat.le_refl _), List.drop_of_length_le (by omega)]
    simp
theorem cut_to {α : Type} (xs : List α) {k : Int} (h : 0 ≤ k) : DL.cutD xs none (some k) = xs.take k.toNat := by
  obtain ⟨n, rfl⟩ := Int.eq_ofNat_of_zero_le h
  unfold DL.cutD
  rw [HT.sIx_none, HT.sIx_nat, Int.toNat_natCast, List.drop_zero, Nat.sub_zero]
  by_cases q : n ≤ xs.length
  · rw [Nat.min_eq_left q]
  · rw [Nat.min_eq_right (by omega), List.take_of_length_le (Nat.le_refl _), List.take_of_length_le (by omega)]
@[simp] theorem cutL {a b : Option Int} : dCut (.lst ds) a b = some (.lst (DL.cutD ds a b)) := rfl
@[simp] theorem cutTT {l : List Str} {a b : Option Int} : dCut (T l) a b = some (T (DL.cutD l a b)) := by
  show some (D.tup (DL.cutD (l.map D.str) a b)) = _
  unfold DL.cutD
  rw [List.length_map, ← List.map_drop, ← List.map_take]
  rfl
end
section
variable {gd : D → EnvD → Option EnvD} {t : M Bool} {m : M D} {vs : List Nat} {env : EnvD}
/-- a comprehension over things laid as data -/
theorem lc_emb {α : Type} (f : α → D) (p : α → Bool) (g : α → D) : ∀ {l : List α}, (∀ x ∈ l, ∃ e1 e2 e3, gd (f x) (wipeE env vs) = some e1 ∧ t e1 = .ok (p x) e2 ∧ (p x = true → m e2 = .ok (g x) e3)) → lcGo true gd t m vs (l.map f) env = some ((l.filter p).map g, env)
  | [], _ => rfl
  | d :: l, h => by
    obtain ⟨e1, e2, e3, h1, h2, h3⟩ := h d List.mem_cons_self
    have ih := lc_emb f p g (l := l) fun x hx => h x (List.mem_cons_of_mem _ hx)
    rw [List.map_cons]
    unfold lcGo
    rw [h1]
    simp only [h2]
    cases q : p d with
    | false => simp [q, ih]
    | true => simp [q, h3 q, ih]
theorem lc_embMap {α : Type} (f : α → D) (g : α → D) {l : List α} (h : ∀ x ∈ l, ∃ e1 e3, gd (f x) (wipeE env vs) = some e1 ∧ m e1 = .ok (g x) e3) : lcGo true gd mYes m vs (l.map f) env = some (l.map g, env) := by
  have := lc_emb (gd := gd) (t := mYes) (m := m) (vs := vs) (env := env) f (fun _ => true) g (l := l) fun x hx => by
    obtain ⟨e1, e3, h1, h2⟩ := h x hx
    exact ⟨e1, e1, e3, h1, rfl, fun _ => h2⟩
  rw [List.filter_eq_self.mpr (fun _ _ => rfl)] at this
  exact this
theorem lc_embPure {α : Type} (f : α → D) (g : α → D) {l : List α} (h : ∀ x ∈ l, ∃ e1, gd (f x) (wipeE env vs) = some e1 ∧ m e1 = .ok (g x) e1) : lcGo true gd mYes m vs (l.map f) env = some (l.map g, env) :=
  lc_embMap f g fun x hx => by
    obtain ⟨e1, h1, h2⟩ := h x hx
    exact ⟨e1, e1, h1, h2⟩
theorem lc_filter {α : Type} (f : α → D) (p : α → Bool) (g : α → D) {l : List α} (h : ∀ x ∈ l, ∃ e1, gd (f x) (wipeE env vs) = some e1 ∧ t e1 = .ok (p x) e1 ∧ (p x = true → m e1 = .ok (g x) e1)) : lcGo true gd t m vs (l.map f) env = some ((l.filter p).map g, env) :=
  lc_emb f p g fun x hx => by
    obtain ⟨e1, h1, h2, h3⟩ := h x hx
    exact ⟨e1, e1, e1, h1, h2, h3⟩
theorem lc_in_T {i j : Nat} {a b : List Str} (ha : Lot10 a) (hb : Lot10 b) (hj : env[j]? = some (some (T b))) (hij : i ≠ j) (hi : i < env.length) :
    lcGo true (gN i) (dTest (dOp2 dIn (dVar i) (dVar j))) (dVar i) [i] (a.map D.str) env = some ((a.filter fun x => decide (x ∈ b)).map D.str, env) :=
  lc_emb D.str (fun x => decide (x ∈ b)) D.str fun x hx => ⟨_, _, _, rfl, by
    simp [wipeE, List.getElem?_set, hij, hi, hj, in_T (ha.1 x hx) hb]
    rfl, fun _ => by simp [wipeE, List.getElem?_set, hi]; rfl⟩
theorem lc_nin_T {i j : Nat} {a b : List Str} (ha : Lot10 a) (hb : Lot10 b) (hj : env[j]? = some (some (T b))) (hij : i ≠ j) (hi : i < env.length) :
    lcGo true (gN i) (dTest (dOp2 dNotIn (dVar i) (dVar j))) (dVar i) [i] (a.map D.str) env = some ((a.filter fun x => !decide (x ∈ b)).map D.str, env) :=
  lc_emb D.str (fun x => !decide (x ∈ b)) D.str fun x hx => ⟨_, _, _, rfl, by
    simp [wipeE, List.getElem?_set, hij, hi, hj, nin_T (ha.1 x hx) hb]
    rfl, fun _ => by simp [wipeE, List.getElem?_set, hi]; rfl⟩
theorem lc_row {i j : Nat} {a b : List (List Str)} (ha : Row a) (hb : Row b) (hj : env[j]? = some (some (.lst (b.map T)))) (hij : i ≠ j) (hi : i < env.length) :
    lcGo true (gN i) (dTest (dOp2 dIn (dVar i) (dVar j))) (dVar i) [i] (a.map T) env = some ((a.filter fun x => decide (x ∈ b)).map T, env) :=
  lc_emb T (fun x => decide (x ∈ b)) T fun x hx => ⟨_, _, _, rfl, by
    simp [wipeE, List.getElem?_set, hij, hi, hj, in_row (ha.1 x hx) hb]
    rfl, fun _ => by simp [wipeE, List.getElem?_set, hi]; rfl⟩
/-- the tests alone, as data -/
theorem lc_ins {i j : Nat} {a b : List Str} (ha : Lot10 a) (hb : Lot10 b) (hj : env[j]? = some (some (T b))) (hij : i ≠ j) (hi : i < env.length) :
    lcGo true (gN i) mYes (dOp2 dIn (dVar i) (dVar j)) [i] (a.map D.str) env = some (a.map fun x => D.bool (decide (x ∈ b)), env) :=
  lc_embMap D.str _ fun x hx => ⟨_, _, rfl, by
    simp [wipeE, List.getElem?_set, hij, hi, hj, in_T (ha.1 x hx) hb]
    rfl⟩
end
theorem boolsOf_map {α : Type} (f : α → Bool) : ∀ l : List α, boolsOf (l.map fun x => D.bool (f x)) = some (l.map f)
  | [] => rfl
  | x :: l => by
    simp only [List.map_cons, boolsOf, boolsOf_map f l]
    rfl
theorem dAll_map {α : Type} (f : α → Bool) (l : List α) : dAll [.lst (l.map fun x => D.bool (f x))] = some (.bool (l.all f)) := by
  show (boolsOf _).map _ = _
  rw [boolsOf_map]
  simp [List.all_map]
theorem dAny_map {α : Type} (f : α → Bool) (l : List α) : dAny [.lst (l.map fun x => D.bool (f x))] = some (.bool (l.any f)) := by
  show (boolsOf _).map _ = _
  rw [boolsOf_map]
  simp [List.any_map]
theorem sortedS {l : List Str} : dSorted [.lst (l.map D.str)] = some (.lst (sortD (l.map D.str))) := by
  show (if sortOk (l.map D.str) = true then _ else none) = _
  rw [if_pos sortOk_S]
theorem sortedT {l : List (List Str)} : dSorted [.lst (l.map T)] = some (.lst (sortD (l.map T))) := by
  show (if sortOk (l.map T) = true then _ else none) = _
  rw [if_pos sortOk_T]
theorem repr_of {n c : Nat} {d : D} (h : Nice n c d) (hn : n ≤ 64 := by decide) (hc : c ≤ sizeLine := by decide) : dRepr [d] = some (.str d.py.shown) := by
  show (if reprOk d = true then _ else none) = _
  rw [if_pos (h.repr hn hc)]
theorem fine_shown {n c : Nat} {d : D} (h : Nice n c d) : (D.str d.py.shown).fine = true := fine_of rfl (by
  show PyData.canLay0 (.str d.py.shown) = true
  unfold PyData.canLay0
  exact shown_ok d.py h.lay) (Nat.zero_le _)
/-- the texts of one and the same are told equal -/
theorem ne_shown {n c : Nat} {d : D} (h : Nice n c d) : dNe (.str d.py.shown) (.str d.py.shown) = some (.bool false) := by
  unfold dNe deq
  rw [fine_shown h, eqv_str]
  simp
theorem eq_shown {n c : Nat} {d : D} (h : Nice n c d) : dEq (.str d.py.shown) (.str d.py.shown) = some (.bool true) := by
  unfold dEq deq
  rw [fine_shown h, eqv_str]
  simp
theorem deq_int (a b : Int) : dEq (.int a) (.int b) = some (.bool (decide (a = b))) := by
  unfold dEq deq
  have e : PyData.eqv (D.int a).py (D.int b).py = decide (a = b) := by
    show PyData.eqv (.int a) (.int b) = _
    unfold PyData.eqv
    rw [Bool.eq_iff_iff]
    simp
  rw [e]
  rfl
theorem dne_int (a b : Int) : dNe (.int a) (.int b) = some (.bool (!decide (a = b))) := by
  have h := deq_int a b
  unfold dEq at h
  unfold dNe
  cases q : deq (.int a) (.int b) with
  | none => rw [q] at h; cases h
  | some c =>
    rw [q] at h
    have : c = decide (a = b) := by simpa using h
    rw [this]
    rfl
theorem deq_bool (a b : Bool) : dEq (.bool a) (.bool b) = some (.bool (decide (a = b))) := by
  cases a <;> cases b <;> rfl
theorem len0 (a b : List Str) : dEq (.int ((a.filter fun x => !decide (x ∈ b)).length : Int)) (.int 0) = some (.bool (within a b)) := by
  rw [deq_int]
  congr 2
  rw [Bool.eq_iff_iff, within_iff, decide_eq_true_eq]
  rw [show ((a.filter fun x => !decide (x ∈ b)).length : Int) = 0 ↔ (a.filter fun x => !decide (x ∈ b)) = [] by
    rw [← List.length_eq_zero_iff]
    omega]
  rw [List.filter_eq_nil_iff]
  simp
end PL
/-! PLEv: more of the data functions, evaluated. -/
namespace PL
open PySem PySem.Spec PySem.W PyProof.Rows L2 DL
section
variable {env e : EnvD} {d : D} {m mk m1 m2 : M D} {ms : M (List D)} {i n : Nat} {ds xs : List D} {ns : List Nat} {FM : List D → List D → Option (D × List D)} {c1 c2 : String} {gs : List D → EnvD → Option EnvD} {g : D → EnvD → Option EnvD}
@[simp] theorem u_lst2 : dLst2 ns ms env = (ms env).bind fun ds e => if okNew ns ds = true then .ok (.lst ds) e else .bad := rfl
@[simp] theorem u_ixO : dIxO i mk env = (match env[i]? with
  | some (some (.lst ds)) => (mk env).bind fun kd e => lift (dIx (.lst ds) kd) e
  | _ => .bad) := rfl
@[simp] theorem u_meth2 : dMeth2 i mk FM ms env = (match env[i]? with
  | some (some (.lst _)) => (mk env).bind fun kd e1 => (match at2 kd e1[i]? with
    | some (ds, j, es) => in2 i FM ms ds es j e1
    | none => .bad)
  | _ => .bad) := rfl
@[simp] theorem u_enum : dEnum ms env = (ms env).bind fun ds e => match ds with
  | [.lst xs] => .ok (xs.mapIdx fun i d => .tup [.int (i : Nat), d]) e
  | [.ro xs] => .ok (xs.mapIdx fun i d => .tup [.int (i : Nat), d]) e
  | _ => .bad := rfl
@[simp] theorem u_gT : gT n gs (.tup ds) env = if ds.length = n then gs ds env else none := rfl
@[simp] theorem u_gsCons : gsCons g gs (d :: ds) env = (g d env).bind (gs ds) := rfl
@[simp] theorem u_gsNil : gsNil [] env = some env := rfl
@[simp] theorem sortedT_l : dSortedT [.lst ds] = if sortOk ds = true then some (.lst (sortD ds)) else none := rfl
@[simp] theorem sortedT_t : dSortedT [.tup ds] = if sortOk ds = true then some (.lst (sortD ds)) else none := rfl
@[simp] theorem itype2 {t : String} (h : dTy d = some t) : dIsT2 c1 c2 d = some (.bool (isK t c1 || isK t c2)) := by
  unfold dIsT2
  rw [h]
  rfl
end
theorem mapIdx_enum (l : List D) : (l.mapIdx fun i d => D.tup [.int (i : Nat), d]) = (l.zipIdx).map fun p => D.tup [.int (p.2 : Nat), p.1] := by
  rw [List.mapIdx_eq_zipIdx_map]
theorem deq_strs {x y : Str} (hx : PyData.strOk x = true) (hy : PyData.strOk y = true) : deq (.str x) (.str y) = some (decide (x = y)) := by
  have f : ∀ z : Str, PyData.strOk z = true → (D.str z).fine = true := fun z hz => fine_of rfl (by show PyData.canLay0 (.str z) = true; unfold PyData.canLay0; exact hz) (Nat.zero_le _)
  unfold deq
  rw [f x hx, f y hy, eqv_str]
  simp
@[simp] theorem sortOk_Sx {l : List Str} : sortOk (l.map D.str) = true := sortOk_S
@[simp] theorem sortOk_Tx {l : List (List Str)} : sortOk (l.map T) = true := sortOk_T
end PL
namespace Law
open PySem PySem.Spec PySem.W PyProof.Rows L2 DL PL
def Box (d : D) : Prop := ∃ a b c : Int, d = .lst [.int a, .int b, .int c] ∧ 0 ≤ a
theorem take_ok {x : D} {m : Int} (hx : Box x) (hm : 0 < m) (hm2 : m < 1073741824) : ∃ (d : Int) (x' : D), F__law_take [x, .int m] = .ok (.int d) x' ∧ Box x' ∧ 0 ≤ d ∧ d < m := by
  obtain ⟨a, b, c, rfl, ha⟩ := hx
  have h2 : m < 1073741824 := hm2
  by_cases h : 0 < a
  · refine ⟨a % m, .lst [.int (a / m), .int b, .int c], ?_, ⟨_, _, _, rfl, Int.ediv_nonneg ha (Int.le_of_lt hm)⟩, Int.emod_nonneg _ (by omega), Int.emod_lt_of_pos _ hm⟩
    unfold F__law_take runF m__law_take
    simp [atI, ixN, h, hm, h2]
  · have e : F__law_take [.lst [.int a, .int b, .int c], .int m] = runF 4 1 m__law_take [.lst [.int a, .int b, .int c], .int m] := rfl
    simp [runF, m__law_take, atI, ixN, h, hm, h2] at e
    exact ⟨_, _, e, ⟨_, _, _, rfl, ha⟩, Int.emod_nonneg _ (by omega), Int.emod_lt_of_pos _ hm⟩
theorem at_get {xs : List D} {k : Int} (h0 : 0 ≤ k) (h1 : k < xs.length) : atI xs k = some (xs[k.toNat]'(by omega)) := by
  unfold atI ixN
  rw [if_pos h0, if_pos h1]
  exact List.getElem?_eq_getElem _
/-- the box of a cell -/
theorem box_end {e0 : D} {k q : Int} (hq : 0 ≤ q) (hk : k < 100) (h0 : 0 ≤ k) : ∃ x, (dRet (dLst (dCons (dOp2 dIx (dLst (dCons (dC (.int 0)) (dCons (dVar 2) dNil))) (dCB dInt (dCons (dOp2 dGe (dVar 2) (dOp2 iPow (dC (.int 10)) (dC (.int 18)))) dNil))) (dCons (dOp2 dAdd (dOp2 iMod (dCB dInt (dCons (dOp2 dAdd (dOp2 dAdd (dOp2 iMul (dOp2 iMod (dCB dInt (dCons (dVar 2) dNil)) (dC (.int 2147483629))) (dC (.int 48271))) (dOp2 iMul (dC (.int 30781)) (dVar 1))) (dC (.int 1709))) dNil)) (dC (.int 2147483629))) (dC (.int 1))) (dCons (dC (.int 0)) dNil))))) [some e0, some (.int k), some (.int q)] = .rt x [some e0, some (.int k), some (.int q)] ∧ Box x := by
  by_cases h : (1000000000000000000 : Int) ≤ q
  · simp [h, atI, ixN]
    exact ⟨_, _, _, rfl, hq⟩
  · simp [h, atI, ixN]
    exact ⟨_, _, _, rfl, Int.le_refl 0⟩
theorem box_cell {ns : List Int} {k : Int} (h0 : 0 ≤ k) (h1 : k < 100) (C : MS) : ∃ q : Int, 0 ≤ q ∧ dSeq (dSet 2 (dOp2 dAdd (dOp2 iMul (dC (.int 9043)) (dVar 1)) (dC (.int 36011))))
  (dSeq (dIte (dTest (dOp2 dLt (dVar 1) (dCB dLen (dCons (dVar 0) dNil)))) (dSet 2 (dCB dAbs (dCons (dOp2 dIx (dVar 0) (dVar 1)) dNil))) (dIte (dTest (dOp2 dGt (dCB dLen (dCons (dVar 0) dNil)) (dC (.int 0)))) (dSet 2 (dOp2 dAdd (dVar 2) (dOp2 iMul (dOp2 iMod (dCB dInt (dCons (dCB dAbs (dCons (dOp2 dIx (dVar 0) (dOp2 iMod (dCB dInt (dCons (dVar 1) dNil)) (dCB dLen (dCons (dVar 0) dNil)))) dNil)) dNil)) (dC (.int 2147483629))) (dC (.int 59053))))) dSkip)) C)
  [some (.ro (ns.map .int)), some (.int k), none] = C [some (.ro (ns.map .int)), some (.int k), some (.int q)] := by
  have abs_ok : ∀ n : Int, 0 ≤ (if n < 0 then -n else n) := fun n => by split <;> omega
  by_cases h : k < ns.length
  · have hn := at_get (xs := ns.map D.int) h0 (by simpa using h)
    rw [List.getElem_map] at hn
    generalize ns[k.toNat]'(by omega) = n at hn
    refine ⟨_, abs_ok n, ?_⟩
    simp [h, hn]
  · by_cases z : ns.length = 0
    · refine ⟨9043 * k + 36011, by omega, ?_⟩
      have : ¬ k < 0 := by omega
      simp [h, z, this]
    · have zp : (0 : Int) < ns.length := by omega
      have hm0 : 0 ≤ k % (ns.length : Int) := Int.emod_nonneg _ (by omega)
      have hm1 : k % (ns.length : Int) < ns.length := Int.emod_lt_of_pos _ zp
      have hn := at_get (xs := ns.map D.int) hm0 (by simpa using hm1)
      rw [List.getElem_map] at hn
      generalize ns[(k % (ns.length : Int)).toNat]'(by omega) = n at hn
      have := abs_ok n
      refine ⟨9043 * k + 36011 + (if n < 0 then -n else n) % 2147483629 * 59053, ?_, ?_⟩
      · have : 0 ≤ (if n < 0 then -n else n) % 2147483629 := Int.emod_nonneg _ (by decide)
        omega
      · have zp' : 0 < ns.length := by omega
        simp [h, hn, zp, zp']
theorem box_ok {ns : List Int} {k : Int} (h0 : 0 ≤ k) (h1 : k < 100) : ∃ x, F__law_box [.ro (ns.map .int), .int k] = .ok x .non ∧ Box x := by
  obtain ⟨q, hq, e⟩ := box_cell (ns := ns) h0 h1 (dRet (dLst (dCons (dOp2 dIx (dLst (dCons (dC (.int 0)) (dCons (dVar 2) dNil))) (dCB dInt (dCons (dOp2 dGe (dVar 2) (dOp2 iPow (dC (.int 10)) (dC (.int 18)))) dNil))) (dCons (dOp2 dAdd (dOp2 iMod (dCB dInt (dCons (dOp2 dAdd (dOp2 dAdd (dOp2 iMul (dOp2 iMod (dCB dInt (dCons (dVar 2) dNil)) (dC (.int 2147483629))) (dC (.int 48271))) (dOp2 iMul (dC (.int 30781)) (dVar 1))) (dC (.int 1709))) dNil)) (dC (.int 2147483629))) (dC (.int 1))) (dCons (dC (.int 0)) dNil)))))
  obtain ⟨x, e1, e2⟩ := box_end (e0 := .ro (ns.map .int)) hq h1 h0
  refine ⟨x, ?_, e2⟩
  have e3 := e.trans e1
  show runF 3 0 m__law_box _ = _
  unfold runF
  show (match m__law_box [some (.ro (ns.map .int)), some (.int k), none] with
    | .nx e => (match ioOf 0 e with | some d => FOut.ok .non d | none => .bad)
    | .rt d e => (match ioOf 0 e with | some d' => .ok d d' | none => .bad)
    | .exc c a e => (match ioOf 0 e with | some d' => .exc c a d' | none => .bad)
    | _ => .bad) = _
  unfold m__law_box
  rw [e3]
  rfl
theorem common_ok {a b : List Str} (ha : Lot10 a) (hb : Lot10 b) : F_common [T a, T b] = .ok (T (a.filter fun x => decide (x ∈ b))) .non := by
  unfold F_common runF m_common
  simp [lc_in_T ha hb]
theorem is_part_ok {a b : List Str} (ha : Lot10 a) (hb : Lot10 b) : F_is_part [T a, T b] = .ok (.bool (within a b)) .non := by
  unfold F_is_part runF m_is_part
  simp [lc_ins ha hb, dAll_map]
  rfl
theorem united_ok {a b t : List Str} (ha : Lot10 a) (hb : Lot10 b) (ht : Up t) (h : ∀ x, x ∈ t ↔ x ∈ a ∨ x ∈ b) : F_united [T a, T b] = .ok (T t) .non := by
  have e : dAdd (T a) (T b) = some (T (a ++ b)) := by
    show (if (a.map D.str).length + (b.map D.str).length ≤ sizeLine then _ else _) = _
    rw [if_pos, ← List.map_append]
    · rfl
    · rw [List.length_map, List.length_map]
      have := ha.2
      have := hb.2
      have : 20 ≤ sizeLine := by decide
      omega
  have e2 : dSortSet (T (a ++ b)) = some (.lst (t.map D.str)) := (sortSet_S (l := a ++ b) (by
    rw [List.length_append]
    have := ha.2
    have := hb.2
    omega) ht fun x => by rw [List.mem_append, h]).2
  unfold F_united runF m_united
  simp [e, e2]
theorem all_ok {a : List Str} (hu : Up a) (ha : a.length ≤ 10) : F__law_all [.lst (a.map D.str)] = .ok (.lst ((parts a).map T)) .non := by
  have step : ∀ (bs : List Str) (F : List (List Str)), F.length * 2 ^ bs.length ≤ 1024 → (∀ l ∈ F, l.length + bs.length ≤ 10) → ∀ o o3, ∃ o' o3', forGo (gN 2) (dSet 1 (dOp2 dAdd (dVar 1) (dLc true (dItems (dVar 1)) (gN 3) mYes (dOp2 dAdd (dVar 3) (dTup (dCons (dVar 2) dNil))) [3]))) (bs.map D.str) [some (.lst (a.map D.str)), some (.lst (F.map T)), o, o3] = .nx [some (.lst (a.map D.str)), some (.lst ((bs.foldl grow F).map T)), o', o3'] := by
    intro bs
    induction bs with
    | nil => exact fun F _ _ o o3 => ⟨o, o3, rfl⟩
    | cons b bs ih =>
      intro F hF hl o o3
      rw [List.length_cons, Nat.pow_succ] at hF
      have pos : 0 < 2 ^ bs.length := Nat.pow_pos (by omega)
      have hF1 : F.length ≤ 1024 := by
        have : F.length * 1 ≤ F.length * (2 ^ bs.length * 2) := Nat.mul_le_mul_left _ (by omega)
        omega
      obtain ⟨o', o3', e⟩ := ih (grow F b) (by
        unfold grow
        rw [List.length_append, List.length_map, show F.length + F.length = F.length * 2 by omega, Nat.mul_assoc, Nat.mul_comm 2]
        exact hF) (fun l hm => by
        unfold grow at hm
        rcases List.mem_append.mp hm with q | q
        · have := hl l q
          rw [List.length_cons] at this
          omega
        · obtain ⟨y, hy, rfl⟩ := List.mem_map.mp q
          have := hl y hy
          rw [List.length_cons] at this
          rw [List.length_append, List.length_singleton]
          omega) (some (.str b)) o3
      refine ⟨o', o3', ?_⟩
      have sz : 4000 ≤ sizeLine := by decide
      have h1 := lc_embPure (env := [some (.lst (a.map D.str)), some (.lst (F.map T)), some (.str b), o3]) (gd := gN 3) (m := dOp2 dAdd (dVar 3) (dTup (dCons (dVar 2) dNil))) (vs := [3]) T (fun p => T (p ++ [b])) (l := F) fun p hp => by
        refine ⟨_, rfl, ?_⟩
        have : dAdd (T p) (.tup [D.str b]) = some (T (p ++ [b])) := by
          show (if (p.map D.str).length + [D.str b].length ≤ sizeLine then some (D.tup (p.map D.str ++ [D.str b])) else _) = _
          have := hl p hp
          rw [if_pos (by rw [List.length_map, List.length_singleton]; omega)]
          unfold T
          rw [List.map_append]
          rfl
        simp [wipeE, this]
      have h2 : (dSet 1 (dOp2 dAdd (dVar 1) (dLc true (dItems (dVar 1)) (gN 3) mYes (dOp2 dAdd (dVar 3) (dTup (dCons (dVar 2) dNil))) [3]))) [some (.lst (a.map D.str)), some (.lst (F.map T)), some (.str b), o3] = .nx [some (.lst (a.map D.str)), some (.lst ((grow F b).map T)), some (.str b), o3] := by
        have e1 : dAdd (.lst (F.map T)) (.lst (F.map fun p => T (p ++ [b]))) = some (.lst ((grow F b).map T)) := by
          show (if _ + _ ≤ sizeLine then _ else _) = _
          rw [if_pos (by rw [List.length_map, List.length_map]; omega)]
          unfold grow
          rw [List.map_append, List.map_map]
          rfl
        simp [h1, -u_addL, e1]
      rw [List.map_cons, List.foldl_cons]
      unfold forGo
      simp only [gN, List.set, h2]
      exact e
  obtain ⟨o', o3', e⟩ := step a [[]] (by
    rw [List.length_singleton, Nat.one_mul]
    exact Nat.pow_le_pow_right (n := 2) (by omega) ha) (by simpa using ha) none none
  have e1 := (show forGo _ _ _ [some (.lst (a.map D.str)), some (D.lst [D.tup []]), none, none] = _ from e)
  have e2 := sortT (grow_parts a) (asc_parts hu)
  unfold F__law_all runF m__law_all
  simp only [u_seq, u_set, u_lst, u_cons, u_nil, u_tup, ob_ok, os_nx, u_for, u_items, u_un, u_var, List.map_cons, List.map_nil, List.length_cons, List.length_nil, List.replicate, List.cons_append, List.nil_append, List.set, List.getElem?_cons_zero, u_lift, u_itL]
  rw [e1]
  simp [sortedT, e2]
end Law
namespace PL
open PySem PySem.Spec PySem.W PyProof.Rows L2 DL PL
theorem exists_sorted {l : List Str} (nd : l.Nodup) : ∃ ns, sortD (l.map D.str) = ns.map D.str ∧ Up ns ∧ ns.Perm l := by
  have pe := List.mergeSort_perm l fun a b => dataLe false D.py (.str a) (.str b)
  have sp : (l.mergeSort fun a b => dataLe false D.py (.str a) (.str b)).Pairwise fun a b => dataLe false D.py (.str a) (.str b) = true := List.pairwise_mergeSort (le := fun a b => dataLe false D.py (.str a) (.str b)) (fun a b c => dataLe_trans D.py (.str a) (.str b) (.str c)) (fun a b => dataLe_total D.py (.str a) (.str b)) l
  refine ⟨_, (List.map_mergeSort (r := fun a b => dataLe false D.py (.str a) (.str b)) (s := dataLe false D.py) (f := D.str) (l := l) (fun _ _ _ _ => rfl)).symm, ?_, pe⟩
  refine (sp.and (pe.nodup_iff.mpr nd)).imp fun {a b} h => ?_
  obtain ⟨h1, h2⟩ := h
  have h1 : (!dataLt (D.str b).py (D.str a).py) = true := h1
  rw [lt_str] at h1
  by_cases q : Lt a b
  · exact q
  · have e1 : dataLt (D.str a).py (D.str b).py = false := by rw [lt_str]; exact decide_eq_false q
    have e2 : dataLt (D.str b).py (D.str a).py = false := by rw [lt_str]; simpa using h1
    have t := (listOrd itemOrd).total _ _ (show (listOrd itemOrd).blt (keyToks (D.str a).py) (keyToks (D.str b).py) = false from e1) e2
    have t : [Sum.inr a.cps.toList] = [Sum.inr b.cps.toList] := t
    exact absurd (str_of_cps (Sum.inr.inj (List.cons.inj t).1)) h2
/-- the letters -/
def letter (n : Nat) : Str := ⟨#[97 + n]⟩
theorem alpha_nat : ∀ n : Nat, n < 26 → atI (Str.ofString "abcdefghijklmnopqrstuvwxyz").cps.toList (n : Int) = some (97 + n) := by decide +kernel
theorem alpha_at {c : Int} (h0 : 0 ≤ c) (h1 : c < 26) : dIx (.str "abcdefghijklmnopqrstuvwxyz") (.int c) = some (.str (letter c.toNat)) := by
  obtain ⟨n, rfl⟩ := Int.eq_ofNat_of_zero_le h0
  show (if (Str.ofString "abcdefghijklmnopqrstuvwxyz").length ≤ sizeLine then (atI (Str.ofString "abcdefghijklmnopqrstuvwxyz").cps.toList (n : Int)).map fun c => D.str ⟨#[c]⟩ else none) = _
  rw [if_pos (by decide +kernel), alpha_nat n (by omega)]
  rfl
end PL
namespace Law
open PySem PySem.Spec PySem.W PyProof.Rows L2 DL PL
theorem lot_ok {x : D} (hx : Box x) {ns : List Str} : ∃ (l : List Str) (x' : D), F__law_lot [x, .lst (ns.map D.str)] = .ok (T l) x' ∧ Box x' ∧ l.Sublist ns := by
  obtain ⟨r, env, h1, h2, x', h3, rfl⟩ := lc_sub (gd := gN 2) (t := dTest (dOp2 dEq (dCallI F__law_take 0 [] (dCons (dC (.int 2)) dNil)) (dC (.int 0)))) (m := dVar 2) (vs := [2]) (I := fun e => ∃ x', Box x' ∧ e = [some x', some (.lst (ns.map D.str)), none]) (ds := ns.map D.str) (env := [some x, some (.lst (ns.map D.str)), none]) ⟨x, hx, rfl⟩ fun d hd env hI => by
    obtain ⟨y, hy, rfl⟩ := hI
    obtain ⟨k, y', e, hy', _, _⟩ := take_ok hy (m := 2) (by omega) (by omega)
    refine ⟨_, decide (k = 0), [some y', some (.lst (ns.map D.str)), some d], rfl, ?_, fun _ => ⟨y', hy', rfl⟩, fun _ => ⟨_, rfl, y', hy', rfl⟩⟩
    simp [wipeE, e, deq_int]
  obtain ⟨l, hl, rfl⟩ := List.sublist_map_iff.mp h2
  refine ⟨l, x', ?_, h3, hl⟩
  unfold F__law_lot runF m__law_lot
  simp [h1]
/-- one name is made -/
theorem name_in {m w : Int} {ls : D} {o4 : Option D} (hw : w = 0 ∨ w = 1) : ∀ (ds : List D) (x : D) (y : Str) (o6 : Option D), Box x → (∀ c ∈ y.cps.toList, 97 ≤ c ∧ c ≤ 122) → y.cps.size + ds.length ≤ 10 →
    ∃ x' y' o6', forGo (gN 6) (dSet 5 (dOp2 dAdd (dVar 5) (dOp2 dIx (dC (.str "abcdefghijklmnopqrstuvwxyz")) (dCallI F__law_take 0 [] (dCons (dOp2 dIx (dLst (dCons (dC (.int 3)) (dCons (dC (.int 26)) dNil))) (dVar 2)) dNil))))) ds [some x, some (.int m), some (.int w), some ls, o4, some (.str y), o6] = .nx [some x', some (.int m), some (.int w), some ls, o4, some (.str y'), o6'] ∧ Box x' ∧ (∀ c ∈ y'.cps.toList, 97 ≤ c ∧ c ≤ 122) ∧ y'.cps.size = y.cps.size + ds.length
  | [], x, y, o6, hx, hy, _ => ⟨x, y, o6, rfl, hx, hy, rfl⟩
  | d :: ds, x, y, o6, hx, hy, hs => by
    rw [List.length_cons] at hs
    have hm : dIx (.lst [.int 3, .int 26]) (.int w) = some (.int (if w = 0 then 3 else 26)) := by rcases hw with rfl | rfl <;> rfl
    obtain ⟨k, x1, e, hx1, k0, k1⟩ := take_ok hx (m := if w = 0 then 3 else 26) (by split <;> omega) (by split <;> omega)
    have k2 : k < 26 := by
      split at k1 <;> omega
    have e2 := alpha_at k0 k2
    have e3 : dAdd (.str y) (.str (letter k.toNat)) = some (.str (y ++ letter k.toNat)) := by
      show (if y.length + (letter k.toNat).length ≤ sizeLine then _ else _) = _
      rw [if_pos]
      show y.cps.size + 1 ≤ sizeLine
      have : 20 ≤ sizeLine := by decide
      omega
    have hsz : (y ++ letter k.toNat).cps.size = y.cps.size + 1 := by
      show (y.cps ++ _).size = _
      rw [Array.size_append]
      rfl
    obtain ⟨x', y', o6', h1, h2, h3, h4⟩ := name_in (m := m) (ls := ls) (o4 := o4) hw ds x1 (y ++ letter k.toNat) (some d) hx1 (fun c hc => by
      have hc : c ∈ (y.cps ++ #[97 + k.toNat]).toList := hc
      rw [Array.toList_append] at hc
      rcases List.mem_append.mp hc with q | q
      · exact hy c q
      · have : c = 97 + k.toNat := by simpa using q
        omega) (by omega)
    refine ⟨x', y', o6', ?_, h2, h3, by rw [List.length_cons]; omega⟩
    unfold forGo
    simp [-u_ixL, hm, e, e2, e3]
    exact h1
/-- the names at a turn of the walk -/
def NamesAt (m : Int) (k : Nat) (e : EnvD) : Prop := ∃ (x : D) (w : Int) (l : List Str) (o4 o5 o6 : Option D), Box x ∧ (w = 0 ∨ w = 1) ∧ l.Nodup ∧ (∀ n ∈ l, Nam n) ∧ (l.length : Int) ≤ m ∧ (1 ≤ k → l ≠ []) ∧ e = [some x, some (.int m), some (.int w), some (.lst (l.map D.str)), o4, o5, o6]
theorem len_range {i : Int} {n : Nat} : (rangeD i n).length = n := by simp [rangeD]
theorem names_ok {x : D} (hx : Box x) {m : Int} (h1 : 1 ≤ m) (h2 : m ≤ 10) : ∃ (ns : List Str) (x' : D), F__law_names [x, .int m] = .ok (.lst (ns.map D.str)) x' ∧ Box x' ∧ Up ns ∧ ns ≠ [] ∧ (∀ n ∈ ns, Nam n) ∧ (ns.length : Int) ≤ m := by
  have sz : 4000 ≤ sizeLine := by decide
  obtain ⟨w, x1, e1, hx1, w0, w1⟩ := take_ok hx (m := 2) (by omega) (by omega)
  have hr : 4 * m ≤ (sizeLine : Int) ∧ -4611686018427387904 ≤ 4 * m := ⟨by omega, by omega⟩
  obtain ⟨env', q1, q2⟩ := for_inv (gd := gN 4) (body := (dSeq (dIte (dTest (dOp2 dEq (dCB dLen (dCons (dVar 3) dNil)) (dVar 1))) dBrk dSkip)
  (dSeq (dSet 5 (dC (.str "")))
  (dSeq (dFor (dRange (dCons (dOp2 dAdd (dC (.int 1)) (dCallI F__law_take 0 [] (dCons (dOp2 dIx (dLst (dCons (dC (.int 2)) (dCons (dC (.int 5)) dNil))) (dVar 2)) dNil))) dNil)) (gN 6) (dSet 5 (dOp2 dAdd (dVar 5) (dOp2 dIx (dC (.str "abcdefghijklmnopqrstuvwxyz")) (dCallI F__law_take 0 [] (dCons (dOp2 dIx (dLst (dCons (dC (.int 3)) (dCons (dC (.int 26)) dNil))) (dVar 2)) dNil))))))
  (dIte (dTest (dOp2 dNotIn (dVar 5) (dVar 3))) (dExpr (dMeth 3 mAppend (dCons (dVar 5) dNil))) dSkip))))) (I := NamesAt m) (J := NamesAt m 1) (ds := rangeD 0 (4 * m).toNat) (k := 0) (env := [some x1, some (.int m), some (.int w), some (.lst []), none, none, none]) ⟨x1, w, [], none, none, none, hx1, by omega, .nil, (fun _ h => nomatch h), by simp; omega, (fun h => absurd h (by omega)), rfl⟩ fun i d env hd hI => by
    obtain ⟨y, w, l, o4, o5, o6, hy, hw, nd, hn, hl, hk, rfl⟩ := hI
    refine ⟨_, rfl, ?_⟩
    by_cases full : (l.length : Int) = m
    · right
      refine ⟨[some y, some (.int m), some (.int w), some (.lst (l.map D.str)), some d, o5, o6], ?_, y, w, l, some d, o5, o6, hy, hw, nd, hn, hl, (fun _ => ?_), rfl⟩
      · simp [deq_int, full]
      · rintro rfl
        simp at full
        omega
    · left
      have hm : dIx (.lst [.int 2, .int 5]) (.int w) = some (.int (if w = 0 then 2 else 5)) := by rcases hw with rfl | rfl <;> rfl
      obtain ⟨k, y1, e2, hy1, k0, k1⟩ := take_ok hy (m := if w = 0 then 2 else 5) (by split <;> omega) (by split <;> omega)
      have k2 : k < 5 := by split at k1 <;> omega
      obtain ⟨y2, z, o6', e3, hy2, hz1, hz2⟩ := name_in (m := m) (w := w) (ls := .lst (l.map D.str)) (o4 := some d) hw (rangeD 0 (1 + k).toNat) y1 "" o6 hy1 (by
        have : (Str.ofString "").cps.toList = [] := by decide +kernel
        rw [this]
        exact fun _ h => nomatch h) (by
        have : (Str.ofString "").cps.size = 0 := by decide +kernel
        rw [this, len_range]
        omega)
      have z0 : (Str.ofString "").cps.size = 0 := by decide +kernel
      rw [z0, len_range] at hz2
      have nz : Nam z := ⟨⟨by omega, by omega⟩, hz1⟩
      have lot : Lot10 l := ⟨hn, by omega⟩
      have hr2 : 1 + k ≤ (sizeLine : Int) ∧ -4611686018427387904 ≤ 1 + k := ⟨by omega, by omega⟩
      have hi := nin_Ss nz lot
      by_cases old : z ∈ l
      · refine ⟨[some y2, some (.int m), some (.int w), some (.lst (l.map D.str)), some d, some (.str z), o6'], .inl ?_, y2, w, l, some d, some (.str z), o6', hy2, hw, nd, hn, hl, (fun _ h => by rw [h] at old; cases old), rfl⟩
        simp [deq_int, full, -u_ixL, hm, e2, hr2, e3, hi, old]
      · refine ⟨[some y2, some (.int m), some (.int w), some (.lst ((l ++ [z]).map D.str)), some d, some (.str z), o6'], .inl ?_, y2, w, l ++ [z], some d, some (.str z), o6', hy2, hw, ?_, ?_, ?_, (fun _ h => by simp at h), rfl⟩
        · have ap : mAppend (l.map D.str) [.str z] = some (.non, (l ++ [z]).map D.str) := by
            show (if (l.map D.str).length < sizeLine then _ else _) = _
            rw [if_pos (by rw [List.length_map]; omega), List.map_append]
            rfl
          simp [deq_int, full, -u_ixL, hm, e2, hr2, e3, hi, old, ap]
        · rw [List.nodup_append]
          refine ⟨nd, by simp, fun a ha b hb e => ?_⟩
          rw [List.mem_singleton.mp hb] at e
          rw [e] at ha
          exact old ha
        · intro n q
          rcases List.mem_append.mp q with q | q
          · exact hn n q
          · rw [List.mem_singleton.mp q]
            exact nz
        · rw [List.length_append, List.length_singleton]
          omega
  have fin : ∃ k, 1 ≤ k ∧ NamesAt m k env' := by
    rcases q2 with q | q
    · rw [len_range] at q
      exact ⟨_, by omega, q⟩
    · exact ⟨1, Nat.le_refl _, q⟩
  obtain ⟨k, hk1, y, w', l, o4, o5, o6, hy, hw, nd, hn, hl, hk, rfl⟩ := fin
  obtain ⟨ns, s1, s2, s3⟩ := exists_sorted nd
  refine ⟨ns, y, ?_, hy, s2, fun h => ?_, fun n q => hn n (s3.mem_iff.mp q), by rw [s3.length_eq]; exact hl⟩
  · unfold F__law_names runF m__law_names
    simp [e1, hr, q1, s1, PL.sortedS]
  · rw [h] at s3
    exact hk hk1 (List.nil_perm.mp s3)
end Law
namespace PL
open PySem PySem.Spec PySem.W PyProof.Rows L2 DL PL
/-- names, as the law draws them -/
structure Nms (ns : List Str) : Prop where
  up : Up ns
  nam : ∀ x ∈ ns, Nam x
  len : ns.length ≤ 10
theorem Nms.lot {ns a : List Str} (h : Nms ns) (s : a.Sublist ns) : Lot10 a := ⟨fun x hx => h.nam x (s.subset hx), Nat.le_trans s.length_le h.len⟩
theorem Nms.row {ns : List Str} (h : Nms ns) : Row (parts ns) := ⟨fun l hl => h.lot (mem_parts.mp hl), by
  rw [len_parts]
  exact Nat.pow_le_pow_right (n := 2) (by omega) h.len⟩
theorem Row.sub {a b : List (List Str)} (h : Row b) (s : a.Sublist b) : Row a := ⟨fun x hx => h.1 x (s.subset hx), Nat.le_trans s.length_le h.2⟩
theorem asc_sub {a b : List (List Str)} (h : Asc (b.map T)) (s : a.Sublist b) : Asc (a.map T) := List.Pairwise.sublist (s.map T) h
theorem uni_perm {ns a b : List Str} (hn : Up ns) (ha : a.Sublist ns) (hb : b.Sublist ns) : (a ++ b.filter fun x => !decide (x ∈ a)).Perm (uni ns a b) := by
  refine perm_of ?_ (hn.nodup.sublist sub_uni) fun x => ?_
  · rw [List.nodup_append]
    refine ⟨hn.nodup.sublist ha, (hn.nodup.sublist hb).sublist List.filter_sublist, fun x hx y hy e => ?_⟩
    have := (List.mem_filter.mp hy).2
    rw [← e] at this
    simp at this
    exact this hx
  · rw [List.mem_append, List.mem_filter, mem_uni ha hb]
    by_cases q : x ∈ a <;> simp [q]
end PL
namespace Law
open PySem PySem.Spec PySem.W PyProof.Rows L2 DL PL
theorem united_uni {ns a b : List Str} (hn : Nms ns) (ha : a.Sublist ns) (hb : b.Sublist ns) : F_united [T a, T b] = .ok (T (uni ns a b)) .non :=
  united_ok (hn.lot ha) (hn.lot hb) (hn.up.sub sub_uni) fun x => mem_uni ha hb
end Law
namespace PL
open PySem PySem.Spec PySem.W PyProof.Rows L2 DL
/-! ### rules -/
inductive Rule where
  | imply (a b : List Str)
  | cap (ps : List (Str × Int)) (n : Int)
  | cut (ts : List (Str × Str × Int)) (n : Int)
  | feed (us ss : List (Str × Int)) (n : Int)
  | table (a : List Str) (ls : List (List Str))
def pairN (p : Str × Int) : D := .tup [.str p.1, .int p.2]
def tripD (t : Str × Str × Int) : D := .tup [.str t.1, .str t.2.1, .int t.2.2]
def ruleD : Rule → D
  | .imply a b => .tup [.str "imply", T a, T b]
  | .cap ps n => .tup [.str "cap", .tup (ps.map pairN), .int n]
  | .cut ts n => .tup [.str "cut", .tup (ts.map tripD), .int n]
  | .feed us ss n => .tup [.str "feed", .tup (us.map pairN), .tup (ss.map pairN), .int n]
  | .table a ls => .tup [.str "table", T a, .tup (ls.map T)]
def psum (ps : List (Str × Int)) (s : List Str) : Int := ((ps.filter fun p => decide (p.1 ∈ s)).map (·.2)).sum
def csum (ts : List (Str × Str × Int)) (s : List Str) : Int := ((ts.filter fun t => decide (t.1 ∈ s) != decide (t.2.1 ∈ s)).map (·.2.2)).sum
def brk : Rule → List Str → Bool
  | .imply a b, s => within a s && !(b.any fun y => decide (y ∈ s))
  | .cap ps n, s => decide (n < psum ps s)
  | .cut ts n, s => decide (n < csum ts s)
  | .feed us ss n, s => decide (n + psum ss s < psum us s)
  | .table a ls, s => !decide ((a.filter fun x => decide (x ∈ s)) ∈ ls)
def Rule.isTable : Rule → Bool
  | .table _ _ => true
  | _ => false
def key (t : Str × Str × Int) : Str × Str := (t.1, t.2.1)
def prs : List Str → List (Str × Str)
  | [] => []
  | n :: ns => ns.map (fun m => (n, m)) ++ prs ns
/-- a rule about the names, in its kept form -/
def Good (ns : List Str) : Rule → Prop
  | .imply a b => a.Sublist ns ∧ b.Sublist ns
  | .cap ps n => (ps.map (·.1)).Sublist ns ∧ (∀ p ∈ ps, 0 ≤ p.2 ∧ p.2 ≤ 1000000) ∧ 0 ≤ n ∧ n ≤ 1000000
  | .cut ts n => (ts.map key).Sublist (prs ns) ∧ (∀ t ∈ ts, 1 ≤ t.2.2 ∧ t.2.2 ≤ 3) ∧ 0 ≤ n ∧ n ≤ 1000000
  | .feed us ss n => ((us.map (·.1)).Sublist ns ∧ (ss.map (·.1)).Sublist ns ∧ ∀ p ∈ us, ∀ q ∈ ss, p.1 ≠ q.1) ∧ (∀ p ∈ us, 0 ≤ p.2 ∧ p.2 ≤ 1000000) ∧ (∀ p ∈ ss, 0 ≤ p.2 ∧ p.2 ≤ 1000000) ∧ -3 ≤ n ∧ n ≤ 3
  | .table a ls => a.Sublist ns ∧ ls.Sublist (parts a)

/-! ### common and united lots -/
theorem mem_com {a b : List Str} {x : Str} : x ∈ (a.filter fun x => decide (x ∈ b)) ↔ x ∈ a ∧ x ∈ b := by
  rw [List.mem_filter, decide_eq_true_eq]
def ind (b : Bool) (n : Int) : Int := if b then n else 0
theorem psum_cons (p : Str × Int) (ps : List (Str × Int)) (s : List Str) : psum (p :: ps) s = ind (decide (p.1 ∈ s)) p.2 + psum ps s := by
  unfold psum ind
  by_cases h : p.1 ∈ s <;> simp [h]
theorem csum_cons (t : Str × Str × Int) (ts : List (Str × Str × Int)) (s : List Str) : csum (t :: ts) s = ind (decide (t.1 ∈ s) != decide (t.2.1 ∈ s)) t.2.2 + csum ts s := by
  unfold csum ind
  cases h : decide (t.1 ∈ s) != decide (t.2.1 ∈ s) <;> simp [h]
/-- u and v: what two lots have in common, and both together -/
structure MJ (a b u v : List Str) : Prop where
  meet : ∀ x, x ∈ u ↔ x ∈ a ∧ x ∈ b
  join : ∀ x, x ∈ v ↔ x ∈ a ∨ x ∈ b
theorem psum_meet {a b u v : List Str} (h : MJ a b u v) : ∀ ps : List (Str × Int), (∀ p ∈ ps, 0 ≤ p.2 ∧ p.2 ≤ 1000000) → psum ps u ≤ psum ps a
  | [], _ => Int.le_refl _
  | p :: ps, hp => by
    have ih := psum_meet h ps fun q hq => hp q (List.mem_cons_of_mem _ hq)
    have := (hp p List.mem_cons_self).1
    rw [psum_cons, psum_cons]
    have hm := h.meet p.1
    unfold ind
    by_cases h1 : p.1 ∈ u
    · have := (hm.mp h1).1
      simp [h1, this]
      omega
    · by_cases h2 : p.1 ∈ a <;> simp [h1, h2] <;> omega
theorem psum_both {a b u v : List Str} (h : MJ a b u v) : ∀ ps : List (Str × Int), psum ps u + psum ps v = psum ps a + psum ps b
  | [] => rfl
  | p :: ps => by
    have ih := psum_both h ps
    rw [psum_cons, psum_cons, psum_cons, psum_cons]
    have hm := h.meet p.1
    have hj := h.join p.1
    unfold ind
    by_cases h1 : p.1 ∈ a <;> by_cases h2 : p.1 ∈ b <;> simp [hm, hj, h1, h2] <;> omega
theorem csum_both {a b u v : List Str} (h : MJ a b u v) : ∀ ts : List (Str × Str × Int), (∀ t ∈ ts, 1 ≤ t.2.2 ∧ t.2.2 ≤ 3) → csum ts u + csum ts v ≤ csum ts a + csum ts b
  | [], _ => Int.le_refl _
  | t :: ts, ht => by
    have ih := csum_both h ts fun q hq => ht q (List.mem_cons_of_mem _ hq)
    have := (ht t List.mem_cons_self).1
    rw [csum_cons, csum_cons, csum_cons, csum_cons]
    have m1 := h.meet t.1
    have m2 := h.meet t.2.1
    have j1 := h.join t.1
    have j2 := h.join t.2.1
    unfold ind
    by_cases h1 : t.1 ∈ a <;> by_cases h2 : t.1 ∈ b <;> by_cases h3 : t.2.1 ∈ a <;> by_cases h4 : t.2.1 ∈ b <;> simp [m1, m2, j1, j2, h1, h2, h3, h4] <;> omega
/-- where both lots are allowed and the rule is no table, one of the two is -/
theorem one_of {ns : List Str} {r : Rule} (g : Good ns r) (nt : r.isTable = false) {a b u v : List Str} (h : MJ a b u v) (ha : brk r a = false) (hb : brk r b = false) : brk r u = false ∨ brk r v = false := by
  cases r with
  | imply p q =>
    by_cases c : brk (.imply p q) u = false
    · exact .inl c
    · right
      have c : (within p u && !(q.any fun y => decide (y ∈ u))) = true := by
        have c : brk (.imply p q) u = true := by simpa using c
        exact c
      have ha : (within p a && !(q.any fun y => decide (y ∈ a))) = false := ha
      show (within p v && !(q.any fun y => decide (y ∈ v))) = false
      rw [Bool.and_eq_true] at c
      have hw : within p a = true := within_iff.mpr fun x hx => ((h.meet x).mp (within_iff.mp c.1 x hx)).1
      rw [hw, Bool.true_and] at ha
      have ha : (q.any fun y => decide (y ∈ a)) = true := by simpa using ha
      obtain ⟨y, hy, e⟩ := List.any_eq_true.mp ha
      have : (q.any fun y => decide (y ∈ v)) = true := List.any_eq_true.mpr ⟨y, hy, decide_eq_true ((h.join y).mpr (.inl (of_decide_eq_true e)))⟩
      rw [this]
      simp
  | cap ps n =>
    left
    have := psum_meet h ps g.2.1
    unfold brk at ha ⊢
    have ha := of_decide_eq_false ha
    exact decide_eq_false (by omega)
  | cut ts n =>
    have := csum_both h ts g.2.1
    unfold brk at ha hb ⊢
    have ha := of_decide_eq_false ha
    have hb := of_decide_eq_false hb
    by_cases c : n < csum ts u
    · exact .inr (decide_eq_false (by omega))
    · exact .inl (decide_eq_false c)
  | feed us ss n =>
    have h1 := psum_both h us
    have h2 := psum_both h ss
    unfold brk at ha hb ⊢
    have ha := of_decide_eq_false ha
    have hb := of_decide_eq_false hb
    by_cases c : n + psum ss u < psum us u
    · exact .inr (decide_eq_false (by omega))
    · exact .inl (decide_eq_false c)
  | table p ls => cases nt
end PL
namespace Law
open PySem PySem.Spec PySem.W PyProof.Rows L2 DL PL
theorem number_ok {x : D} (hx : Box x) : ∃ (n : Int) (x' : D), F__law_number [x] = .ok (.int n) x' ∧ Box x' ∧ 0 ≤ n ∧ n ≤ 1000000 := by
  obtain ⟨k, x1, e1, hx1, k0, k1⟩ := take_ok hx (m := 6) (by omega) (by omega)
  by_cases h : 0 < k
  · obtain ⟨n, x2, e2, hx2, n0, n1⟩ := take_ok hx1 (m := 5) (by omega) (by omega)
    refine ⟨n, x2, ?_, hx2, n0, by omega⟩
    unfold F__law_number runF m__law_number
    simp [e1, h, e2]
  · obtain ⟨n, x2, e2, hx2, n0, n1⟩ := take_ok hx1 (m := 1000001) (by omega) (by omega)
    refine ⟨n, x2, ?_, hx2, n0, by omega⟩
    unfold F__law_number runF m__law_number
    simp [e1, h, e2]
theorem append_len {v : List D} {d : D} (h : v.length ≤ 1000) : mAppend v [d] = some (.non, v ++ [d]) := by
  have : 4000 ≤ sizeLine := by decide
  show (if v.length < sizeLine then _ else _) = _
  rw [if_pos (by omega)]
abbrev cutBody : MS := (dIte (dTest (dOp2 dEq (dCallI F__law_take 0 [] (dCons (dC (.int 2)) dNil)) (dC (.int 0)))) (dExpr (dMeth 2 mAppend (dCons (dTup (dCons (dVar 4) (dCons (dVar 5) (dCons (dOp2 dAdd (dC (.int 1)) (dCallI F__law_take 0 [] (dCons (dC (.int 3)) dNil))) dNil)))) dNil))) dSkip)
theorem cut_in {ns : List Str} {at_ : Int} {one : Str} : ∀ (os : List Str) (x : D) (ts : List (Str × Str × Int)) (o5 : Option D), Box x → ts.length + os.length ≤ 1000 →
    ∃ x' us o5', forGo (gN 5) cutBody (os.map D.str) [some x, some (.lst (ns.map D.str)), some (.lst (ts.map tripD)), some (.int at_), some (.str one), o5] = .nx [some x', some (.lst (ns.map D.str)), some (.lst ((ts ++ us).map tripD)), some (.int at_), some (.str one), o5'] ∧ Box x' ∧ (us.map key).Sublist (os.map fun m => (one, m)) ∧ (∀ t ∈ us, 1 ≤ t.2.2 ∧ t.2.2 ≤ 3)
  | [], x, ts, o5, hx, _ => ⟨x, [], o5, by simp [forGo], hx, List.nil_sublist _, fun _ h => nomatch h⟩
  | m :: os, x, ts, o5, hx, hl => by
    rw [List.length_cons] at hl
    obtain ⟨k, x1, e1, hx1, k0, k1⟩ := take_ok hx (m := 2) (by omega) (by omega)
    by_cases h : k = 0
    · obtain ⟨n, x2, e2, hx2, n0, n1⟩ := take_ok hx1 (m := 3) (by omega) (by omega)
      obtain ⟨x', us, o5', q1, q2, q3, q4⟩ := cut_in (ns := ns) (at_ := at_) (one := one) os x2 (ts ++ [(one, m, 1 + n)]) (some (.str m)) hx2 (by rw [List.length_append, List.length_singleton]; omega)
      refine ⟨x', (one, m, 1 + n) :: us, o5', ?_, q2, ?_, fun t ht => ?_⟩
      · have ap := append_len (v := ts.map tripD) (d := .tup [.str one, .str m, .int (1 + n)]) (by rw [List.length_map]; omega)
        have e3 : ts.map tripD ++ [D.tup [.str one, .str m, .int (1 + n)]] = (ts ++ [(one, m, 1 + n)]).map tripD := by
          rw [List.map_append]
          rfl
        rw [e3] at ap
        have st : cutBody [some x, some (.lst (ns.map D.str)), some (.lst (ts.map tripD)), some (.int at_), some (.str one), some (.str m)] = .nx [some x2, some (.lst (ns.map D.str)), some (.lst ((ts ++ [(one, m, 1 + n)]).map tripD)), some (.int at_), some (.str one), some (.str m)] := by
          simp [cutBody, e1, deq_int, h, e2, ap, -List.map_append]
        rw [List.map_cons]
        unfold forGo
        simp only [gN, List.set, st]
        rw [q1, List.append_assoc]
        rfl
      · rw [List.map_cons, List.map_cons]
        exact q3.cons_cons _
      · rcases List.mem_cons.mp ht with rfl | ht
        · exact ⟨by show 1 ≤ 1 + n; omega, by show 1 + n ≤ 3; omega⟩
        · exact q4 t ht
    · obtain ⟨x', us, o5', q1, q2, q3, q4⟩ := cut_in (ns := ns) (at_ := at_) (one := one) os x1 ts (some (.str m)) hx1 (by omega)
      refine ⟨x', us, o5', ?_, q2, ?_, q4⟩
      · have st : cutBody [some x, some (.lst (ns.map D.str)), some (.lst (ts.map tripD)), some (.int at_), some (.str one), some (.str m)] = .nx [some x1, some (.lst (ns.map D.str)), some (.lst (ts.map tripD)), some (.int at_), some (.str one), some (.str m)] := by
          simp [cutBody, e1, deq_int, h]
        rw [List.map_cons]
        unfold forGo
        simp only [gN, List.set, st]
        exact q1
      · rw [List.map_cons]
        exact q3.cons _
abbrev cutTurn : MS := (dFor (dItems (dSlice (dVar 1) (some (dOp2 dAdd (dVar 3) (dC (.int 1)))) none)) (gN 5) cutBody)
theorem cut_out {ns : List Str} : ∀ (rest : List Str) (k : Nat) (x : D) (ts : List (Str × Str × Int)) (o3 o4 o5 : Option D), Box x → ns.drop k = rest → ts.length + (prs rest).length ≤ 1000 →
    ∃ x' us o3' o4' o5', forGo (gT 2 (gsCons (gN 3) (gsCons (gN 4) gsNil))) cutTurn ((rest.zipIdx k).map fun p => D.tup [.int (p.2 : Nat), .str p.1]) [some x, some (.lst (ns.map D.str)), some (.lst (ts.map tripD)), o3, o4, o5] = .nx [some x', some (.lst (ns.map D.str)), some (.lst ((ts ++ us).map tripD)), o3', o4', o5'] ∧ Box x' ∧ (us.map key).Sublist (prs rest) ∧ (∀ t ∈ us, 1 ≤ t.2.2 ∧ t.2.2 ≤ 3)
  | [], k, x, ts, o3, o4, o5, hx, _, _ => ⟨x, [], o3, o4, o5, by simp [forGo], hx, List.nil_sublist _, fun _ h => nomatch h⟩
  | n :: rest, k, x, ts, o3, o4, o5, hx, hk, hl => by
    rw [prs, List.length_append, List.length_map] at hl
    have hd : ns.drop (k + 1) = rest := by
      rw [← List.drop_drop, hk]
      rfl
    obtain ⟨x1, us1, p5, q1, q2, q3, q4⟩ := cut_in (ns := ns) (at_ := (k : Nat)) (one := n) rest x ts o5 hx (by omega)
    have l1 : us1.length ≤ rest.length := by
      have := q3.length_le
      rw [List.length_map, List.length_map] at this
      exact this
    obtain ⟨x', us, o3', o4', o5', r1, r2, r3, r4⟩ := cut_out (ns := ns) rest (k + 1) x1 (ts ++ us1) (some (.int (k : Nat))) (some (.str n)) p5 q2 hd (by rw [List.length_append]; omega)
    refine ⟨x', us1 ++ us, o3', o4', o5', ?_, r2, ?_, fun t ht => ?_⟩
    · have cut : DL.cutD (ns.map D.str) (some ((k : Int) + 1)) none = rest.map D.str := by
        rw [cut_from _ (by omega), ← List.map_drop, show ((k : Int) + 1).toNat = k + 1 by omega, hd]
      have st : cutTurn [some x, some (.lst (ns.map D.str)), some (.lst (ts.map tripD)), some (.int (k : Nat)), some (.str n), o5] = .nx [some x1, some (.lst (ns.map D.str)), some (.lst ((ts ++ us1).map tripD)), some (.int (k : Nat)), some (.str n), p5] := by
        rw [← q1]
        simp [cutTurn, cut]
      rw [List.zipIdx_cons, List.map_cons]
      unfold forGo
      simp only [u_gT, List.length_cons, List.length_nil, u_gsCons, u_gN, u_gsNil, Option.bind_some, List.set, if_true, st]
      rw [r1, List.append_assoc]
    · rw [List.map_append, prs]
      exact q3.append r3
    · rcases List.mem_append.mp ht with ht | ht
      · exact q4 t ht
      · exact r4 t ht
theorem pairs_len : ∀ ns : List Str, (prs ns).length ≤ ns.length * ns.length
  | [] => Nat.le_refl _
  | n :: ns => by
    have := pairs_len ns
    rw [prs, List.length_append, List.length_map, List.length_cons, Nat.add_mul, Nat.mul_add]
    omega
theorem cut_ok {x : D} (hx : Box x) {ns : List Str} (hl : ns.length ≤ 10) : ∃ (ts : List (Str × Str × Int)) (x' : D), F__law_cut [x, .lst (ns.map D.str)] = .ok (.tup (ts.map tripD)) x' ∧ Box x' ∧ (ts.map key).Sublist (prs ns) ∧ ∀ t ∈ ts, 1 ≤ t.2.2 ∧ t.2.2 ≤ 3 := by
  have hp : (prs ns).length ≤ 100 := Nat.le_trans (pairs_len ns) (Nat.mul_le_mul hl hl)
  obtain ⟨x', us, o3, o4, o5, r1, r2, r3, r4⟩ := cut_out (ns := ns) ns 0 x [] none none none hx rfl (by rw [List.length_nil]; omega)
  refine ⟨us, x', ?_, r2, r3, r4⟩
  have en : ((ns.map D.str).mapIdx fun i d => D.tup [.int (i : Nat), d]) = (ns.zipIdx 0).map fun p => D.tup [.int (p.2 : Nat), .str p.1] := by
    rw [mapIdx_enum, List.zipIdx_map, List.map_map]
    rfl
  have r1 := (show forGo _ cutTurn _ [some x, some (.lst (ns.map D.str)), some (.lst []), none, none, none] = _ from r1)
  unfold F__law_cut runF m__law_cut
  simp only [u_seq, u_set, u_lst, u_cons, u_nil, ob_ok, os_nx, u_for, u_enum, u_var, List.map_cons, List.map_nil, List.length_cons, List.length_nil, List.replicate, List.cons_append, List.nil_append, List.set, List.getElem?_cons_zero, List.getElem?_cons_succ, en]
  rw [r1]
  simp
end Law
namespace Law
open PySem PySem.Spec PySem.W PyProof.Rows L2 DL PL
theorem all_of {a : List Str} {d0 : D} (hi : items d0 = some (a.map D.str)) (hu : Up a) (ha : a.length ≤ 10) : F__law_all [d0] = .ok (.lst ((parts a).map T)) .non := by
  have step : ∀ (bs : List Str) (F : List (List Str)), F.length * 2 ^ bs.length ≤ 1024 → (∀ l ∈ F, l.length + bs.length ≤ 10) → ∀ o o3, ∃ o' o3', forGo (gN 2) (dSet 1 (dOp2 dAdd (dVar 1) (dLc true (dItems (dVar 1)) (gN 3) mYes (dOp2 dAdd (dVar 3) (dTup (dCons (dVar 2) dNil))) [3]))) (bs.map D.str) [some d0, some (.lst (F.map T)), o, o3] = .nx [some d0, some (.lst ((bs.foldl grow F).map T)), o', o3'] := by
    intro bs
    induction bs with
    | nil => exact fun F _ _ o o3 => ⟨o, o3, rfl⟩
    | cons b bs ih =>
      intro F hF hl o o3
      rw [List.length_cons, Nat.pow_succ] at hF
      have pos : 0 < 2 ^ bs.length := Nat.pow_pos (by omega)
      have hF1 : F.length ≤ 1024 := by
        have : F.length * 1 ≤ F.length * (2 ^ bs.length * 2) := Nat.mul_le_mul_left _ (by omega)
        omega
      obtain ⟨o', o3', e⟩ := ih (grow F b) (by
        unfold grow
        rw [List.length_append, List.length_map, show F.length + F.length = F.length * 2 by omega, Nat.mul_assoc, Nat.mul_comm 2]
        exact hF) (fun l hm => by
        unfold grow at hm
        rcases List.mem_append.mp hm with q | q
        · have := hl l q
          rw [List.length_cons] at this
          omega
        · obtain ⟨y, hy, rfl⟩ := List.mem_map.mp q
          have := hl y hy
          rw [List.length_cons] at this
          rw [List.length_append, List.length_singleton]
          omega) (some (.str b)) o3
      refine ⟨o', o3', ?_⟩
      have sz : 4000 ≤ sizeLine := by decide
      have h1 := lc_embPure (env := [some d0, some (.lst (F.map T)), some (.str b), o3]) (gd := gN 3) (m := dOp2 dAdd (dVar 3) (dTup (dCons (dVar 2) dNil))) (vs := [3]) T (fun p => T (p ++ [b])) (l := F) fun p hp => by
        refine ⟨_, rfl, ?_⟩
        have : dAdd (T p) (.tup [D.str b]) = some (T (p ++ [b])) := by
          show (if (p.map D.str).length + [D.str b].length ≤ sizeLine then some (D.tup (p.map D.str ++ [D.str b])) else _) = _
          have := hl p hp
          rw [if_pos (by rw [List.length_map, List.length_singleton]; omega)]
          unfold T
          rw [List.map_append]
          rfl
        simp [wipeE, this]
      have h2 : (dSet 1 (dOp2 dAdd (dVar 1) (dLc true (dItems (dVar 1)) (gN 3) mYes (dOp2 dAdd (dVar 3) (dTup (dCons (dVar 2) dNil))) [3]))) [some d0, some (.lst (F.map T)), some (.str b), o3] = .nx [some d0, some (.lst ((grow F b).map T)), some (.str b), o3] := by
        have e1 : dAdd (.lst (F.map T)) (.lst (F.map fun p => T (p ++ [b]))) = some (.lst ((grow F b).map T)) := by
          show (if _ + _ ≤ sizeLine then _ else _) = _
          rw [if_pos (by rw [List.length_map, List.length_map]; omega)]
          unfold grow
          rw [List.map_append, List.map_map]
          rfl
        simp [h1, -u_addL, e1]
      rw [List.map_cons, List.foldl_cons]
      unfold forGo
      simp only [gN, List.set, h2]
      exact e
  obtain ⟨o', o3', e⟩ := step a [[]] (by
    rw [List.length_singleton, Nat.one_mul]
    exact Nat.pow_le_pow_right (n := 2) (by omega) ha) (by simpa using ha) none none
  have e1 := (show forGo _ _ _ [some d0, some (D.lst [D.tup []]), none, none] = _ from e)
  have e2 := sortT (grow_parts a) (asc_parts hu)
  unfold F__law_all runF m__law_all
  simp only [u_seq, u_set, u_lst, u_cons, u_nil, u_tup, ob_ok, os_nx, u_for, u_items, u_un, u_var, List.map_cons, List.map_nil, List.length_cons, List.length_nil, List.replicate, List.cons_append, List.nil_append, List.set, List.getElem?_cons_zero, u_lift, hi]
  rw [e1]
  simp [sortedT, e2]
abbrev feedBody : MS := (dExpr (dMeth2 2 (dCallI F__law_take 0 [] (dCons (dC (.int 3)) dNil)) mAppend (dCons (dTup (dCons (dVar 3) (dCons (dCallI F__law_number 0 [] dNil) dNil))) dNil)))
abbrev sides (s0 s1 s2 : List (Str × Int)) : D := .lst [.lst (s0.map pairN), .lst (s1.map pairN), .lst (s2.map pairN)]
theorem feed_in {ns : List Str} : ∀ (l : List Str) (x : D) (s0 s1 s2 : List (Str × Int)) (o3 : Option D), Box x → l.Nodup → s0.length + l.length ≤ 1000 → s1.length + l.length ≤ 1000 → s2.length + l.length ≤ 1000 →
    ∃ x' u0 u1 u2 o3', forGo (gN 3) feedBody (l.map D.str) [some x, some (.lst (ns.map D.str)), some (sides s0 s1 s2), o3] = .nx [some x', some (.lst (ns.map D.str)), some (sides (s0 ++ u0) (s1 ++ u1) (s2 ++ u2)), o3'] ∧ Box x' ∧ ((u0.map (·.1)).Sublist l ∧ (u1.map (·.1)).Sublist l ∧ ∀ p ∈ u0, ∀ q ∈ u1, p.1 ≠ q.1) ∧ (∀ p ∈ u0, 0 ≤ p.2 ∧ p.2 ≤ 1000000) ∧ (∀ p ∈ u1, 0 ≤ p.2 ∧ p.2 ≤ 1000000)
  | [], x, s0, s1, s2, o3, hx, _, _, _, _ => ⟨x, [], [], [], o3, by simp [forGo], hx, ⟨List.nil_sublist _, List.nil_sublist _, fun _ h => nomatch h⟩, (fun _ h => nomatch h), fun _ h => nomatch h⟩
  | m :: l, x, s0, s1, s2, o3, hx, nd, h0, h1, h2 => by
    rw [List.length_cons] at h0 h1 h2
    obtain ⟨nd1, nd2⟩ := List.nodup_cons.mp nd
    obtain ⟨k, x1, e1, hx1, k0, k1⟩ := take_ok hx (m := 3) (by omega) (by omega)
    obtain ⟨n, x2, e2, hx2, n0, n1⟩ := number_ok hx1
    have ap : ∀ s : List (Str × Int), s.length ≤ 1000 → mAppend (s.map pairN) [.tup [.str m, .int n]] = some (D.non, (s ++ [(m, n)]).map pairN) := fun s hs => by
      rw [append_len (by rw [List.length_map]; exact hs), List.map_append]
      rfl
    have kk : k = 0 ∨ k = 1 ∨ k = 2 := by omega
    rcases kk with rfl | rfl | rfl
    · obtain ⟨x', u0, u1, u2, o3', q1, q2, ⟨q3, q4, q5⟩, q6, q7⟩ := feed_in (ns := ns) l x2 (s0 ++ [(m, n)]) s1 s2 (some (.str m)) hx2 nd2 (by rw [List.length_append, List.length_singleton]; omega) (by omega) (by omega)
      refine ⟨x', (m, n) :: u0, u1, u2, o3', ?_, q2, ⟨?_, q4.cons _, fun p hp q hq => ?_⟩, fun p hp => ?_, q7⟩
      · have st : feedBody [some x, some (.lst (ns.map D.str)), some (sides s0 s1 s2), some (.str m)] = .nx [some x2, some (.lst (ns.map D.str)), some (sides (s0 ++ [(m, n)]) s1 s2), some (.str m)] := by
          simp [feedBody, sides, e1, at2, ixN, in2, e2, ap s0 (by omega), -List.map_append]
        rw [List.map_cons]
        unfold forGo
        simp only [gN, List.set, st]
        rw [q1, List.append_assoc]
        rfl
      · rw [List.map_cons]
        exact q3.cons_cons _
      · rcases List.mem_cons.mp hp with rfl | hp
        · intro e
          exact nd1 (by have := q4.subset (List.mem_map.mpr ⟨q, hq, rfl⟩); rw [← e] at this; exact this)
        · exact q5 p hp q hq
      · rcases List.mem_cons.mp hp with rfl | hp
        · exact ⟨n0, n1⟩
        · exact q6 p hp
    · obtain ⟨x', u0, u1, u2, o3', q1, q2, ⟨q3, q4, q5⟩, q6, q7⟩ := feed_in (ns := ns) l x2 s0 (s1 ++ [(m, n)]) s2 (some (.str m)) hx2 nd2 (by omega) (by rw [List.length_append, List.length_singleton]; omega) (by omega)
      refine ⟨x', u0, (m, n) :: u1, u2, o3', ?_, q2, ⟨q3.cons _, ?_, fun p hp q hq => ?_⟩, q6, fun p hp => ?_⟩
      · have st : feedBody [some x, some (.lst (ns.map D.str)), some (sides s0 s1 s2), some (.str m)] = .nx [some x2, some (.lst (ns.map D.str)), some (sides s0 (s1 ++ [(m, n)]) s2), some (.str m)] := by
          simp [feedBody, sides, e1, at2, ixN, in2, e2, ap s1 (by omega), -List.map_append]
        rw [List.map_cons]
        unfold forGo
        simp only [gN, List.set, st]
        rw [q1, List.append_assoc]
        rfl
      · rw [List.map_cons]
        exact q4.cons_cons _
      · rcases List.mem_cons.mp hq with rfl | hq
        · intro e
          exact nd1 (by have := q3.subset (List.mem_map.mpr ⟨p, hp, rfl⟩); rw [e] at this; exact this)
        · exact q5 p hp q hq
      · rcases List.mem_cons.mp hp with rfl | hp
        · exact ⟨n0, n1⟩
        · exact q7 p hp
    · obtain ⟨x', u0, u1, u2, o3', q1, q2, ⟨q3, q4, q5⟩, q6, q7⟩ := feed_in (ns := ns) l x2 s0 s1 (s2 ++ [(m, n)]) (some (.str m)) hx2 nd2 (by omega) (by omega) (by rw [List.length_append, List.length_singleton]; omega)
      refine ⟨x', u0, u1, (m, n) :: u2, o3', ?_, q2, ⟨q3.cons _, q4.cons _, q5⟩, q6, q7⟩
      have st : feedBody [some x, some (.lst (ns.map D.str)), some (sides s0 s1 s2), some (.str m)] = .nx [some x2, some (.lst (ns.map D.str)), some (sides s0 s1 (s2 ++ [(m, n)])), some (.str m)] := by
        simp [feedBody, sides, e1, at2, ixN, in2, e2, ap s2 (by omega), -List.map_append]
      rw [List.map_cons]
      unfold forGo
      simp only [gN, List.set, st]
      rw [q1, List.append_assoc]
      rfl
theorem feed_ok {x : D} (hx : Box x) {ns : List Str} (hn : Nms ns) : ∃ (r : Rule) (x' : D), F__law_feed [x, .lst (ns.map D.str)] = .ok (ruleD r) x' ∧ Box x' ∧ Good ns r := by
  have := hn.len
  obtain ⟨x1, u0, u1, u2, o3, q1, hx1, q3, q4, q5⟩ := feed_in (ns := ns) ns x [] [] [] none hx hn.up.nodup (by rw [List.length_nil]; omega) (by rw [List.length_nil]; omega) (by rw [List.length_nil]; omega)
  obtain ⟨k, x2, e2, hx2, k0, k1⟩ := take_ok hx1 (m := 7) (by omega) (by omega)
  refine ⟨.feed u0 u1 (k - 3), x2, ?_, hx2, q3, q4, q5, by omega, by omega⟩
  have q1 := (show forGo (gN 3) feedBody (ns.map D.str) [some x, some (.lst (ns.map D.str)), some (.lst [.lst [], .lst [], .lst []]), none] = _ from q1)
  have okn : okNew [1, 1, 1] [.lst [], .lst [], .lst []] = true := rfl
  unfold F__law_feed runF m__law_feed
  simp only [u_seq, u_set, u_lst2, u_lst, u_cons, u_nil, ob_ok, os_nx, u_for, u_items, u_var, u_itL, List.map_cons, List.map_nil, List.length_cons, List.length_nil, List.replicate, List.cons_append, List.nil_append, List.set, List.getElem?_cons_zero, List.getElem?_cons_succ, okn, if_true]
  rw [q1]
  simp [sides, e2, atI, ixN, ruleD]
theorem pairs_make {x : D} (hx : Box x) {ns s : List Str} {o2 o3 o5 : Option D} : ∃ (ps : List (Str × Int)) (env' : EnvD) (x' : D), lcGo false (gN 4) mYes (dTup (dCons (dVar 4) (dCons (dCallI F__law_number 0 [] dNil) dNil))) [4] (s.map D.str) [some x, some (.lst (ns.map D.str)), o2, o3, none, o5] = some (ps.map pairN, env') ∧ env' = [some x', some (.lst (ns.map D.str)), o2, o3, none, o5] ∧ Box x' ∧ ps.map (·.1) = s ∧ ∀ p ∈ ps, 0 ≤ p.2 ∧ p.2 ≤ 1000000 := by
  induction s generalizing x with
  | nil => exact ⟨[], _, x, rfl, rfl, hx, rfl, fun _ h => nomatch h⟩
  | cons m s ih =>
    obtain ⟨n, x1, e1, hx1, n0, n1⟩ := number_ok hx
    obtain ⟨ps, env', x', q1, q2, q3, q4, q5⟩ := ih hx1
    refine ⟨(m, n) :: ps, env', x', ?_, q2, q3, by rw [List.map_cons, q4], fun p hp => ?_⟩
    · rw [List.map_cons]
      unfold lcGo
      simp [wipeE, e1, mYes, q1]
      rfl
    · rcases List.mem_cons.mp hp with rfl | hp
      · exact ⟨n0, n1⟩
      · exact q5 p hp
theorem rule_ok {x : D} (hx : Box x) {ns : List Str} (hn : Nms ns) : ∃ (r : Rule) (x' : D), F__law_rule [x, .lst (ns.map D.str)] = .ok (ruleD r) x' ∧ Box x' ∧ Good ns r := by
  obtain ⟨k, x1, e1, hx1, k0, k1⟩ := take_ok hx (m := 6) (by omega) (by omega)
  obtain ⟨a, x2, e2, hx2, ha⟩ := lot_ok hx1 (ns := ns)
  by_cases c1 : k < 2
  · obtain ⟨b, x3, e3, hx3, hb⟩ := lot_ok hx2 (ns := ns)
    refine ⟨.imply a b, x3, ?_, hx3, ha, hb⟩
    unfold F__law_rule runF m__law_rule
    simp [e1, e2, c1, e3, ruleD]
  by_cases c2 : k = 2
  · subst c2
    obtain ⟨ps, env', x3, q1, rfl, hx3, q4, q5⟩ := pairs_make (ns := ns) (s := a) (o2 := some (.int 2)) (o3 := some (T a)) (o5 := none) hx2
    obtain ⟨n, x4, e4, hx4, n0, n1⟩ := number_ok hx3
    refine ⟨.cap ps n, x4, ?_, hx4, by rw [q4]; exact ha, q5, n0, n1⟩
    unfold F__law_rule runF m__law_rule
    simp [e1, e2, deq_int, q1, e4, ruleD]
  by_cases c3 : k = 3
  · subst c3
    obtain ⟨ts, x3, e3, hx3, q3, q4⟩ := cut_ok hx2 (ns := ns) hn.len
    obtain ⟨n, x4, e4, hx4, n0, n1⟩ := number_ok hx3
    refine ⟨.cut ts n, x4, ?_, hx4, q3, q4, n0, n1⟩
    unfold F__law_rule runF m__law_rule
    simp [e1, e2, deq_int, e3, e4, ruleD]
  by_cases c4 : k = 4
  · subst c4
    obtain ⟨r, x3, e3, hx3, g⟩ := feed_ok hx2 hn
    refine ⟨r, x3, ?_, hx3, g⟩
    unfold F__law_rule runF m__law_rule
    simp [e1, e2, deq_int, e3]
  · have hall := all_of (d0 := T a) rfl (hn.up.sub ha) (hn.lot ha).2
    obtain ⟨r, env, h1, h2, x', h3, rfl⟩ := lc_sub (gd := gN 5) (t := dTest (dOp2 dGt (dCallI F__law_take 0 [] (dCons (dC (.int 3)) dNil)) (dC (.int 0)))) (m := dVar 5) (vs := [5]) (I := fun e => ∃ x', Box x' ∧ e = [some x', some (.lst (ns.map D.str)), some (.int k), some (T a), none, none]) (ds := (parts a).map T) (env := [some x2, some (.lst (ns.map D.str)), some (.int k), some (T a), none, none]) ⟨x2, hx2, rfl⟩ fun d hd env hI => by
      obtain ⟨y, hy, rfl⟩ := hI
      obtain ⟨j, y', e, hy', _, _⟩ := take_ok hy (m := 3) (by omega) (by omega)
      refine ⟨_, decide (0 < j), [some y', some (.lst (ns.map D.str)), some (.int k), some (T a), none, some d], rfl, ?_, fun _ => ⟨y', hy', rfl⟩, fun _ => ⟨_, rfl, y', hy', rfl⟩⟩
      simp [wipeE, e]
    obtain ⟨ls, hls, rfl⟩ := List.sublist_map_iff.mp h2
    refine ⟨.table a ls, x', ?_, h3, ha, hls⟩
    unfold F__law_rule runF m__law_rule
    simp [e1, e2, deq_int, c1, c2, c3, c4, hall, h1, ruleD]
end Law
namespace PL
open PySem PySem.Spec PySem.W PyProof.Rows L2 DL
theorem dEq_w {x y : Str} {b : Bool} (h : deq (.str x) (.str y) = some b) : dEq (.str x) (.str y) = some (.bool b) := by
  unfold dEq
  rw [h]
  rfl
@[simp] theorem w_imply_imply : dEq (.str "imply") (.str "imply") = some (.bool true) := dEq_w (by decide +kernel)
@[simp] theorem w_imply_cap : dEq (.str "imply") (.str "cap") = some (.bool false) := dEq_w (by decide +kernel)
@[simp] theorem w_imply_cut : dEq (.str "imply") (.str "cut") = some (.bool false) := dEq_w (by decide +kernel)
@[simp] theorem w_imply_feed : dEq (.str "imply") (.str "feed") = some (.bool false) := dEq_w (by decide +kernel)
@[simp] theorem w_imply_table : dEq (.str "imply") (.str "table") = some (.bool false) := dEq_w (by decide +kernel)
@[simp] theorem w_cap_imply : dEq (.str "cap") (.str "imply") = some (.bool false) := dEq_w (by decide +kernel)
@[simp] theorem w_cap_cap : dEq (.str "cap") (.str "cap") = some (.bool true) := dEq_w (by decide +kernel)
@[simp] theorem w_cap_cut : dEq (.str "cap") (.str "cut") = some (.bool false) := dEq_w (by decide +kernel)
@[simp] theorem w_cap_feed : dEq (.str "cap") (.str "feed") = some (.bool false) := dEq_w (by decide +kernel)
@[simp] theorem w_cap_table : dEq (.str "cap") (.str "table") = some (.bool false) := dEq_w (by decide +kernel)
@[simp] theorem w_cut_imply : dEq (.str "cut") (.str "imply") = some (.bool false) := dEq_w (by decide +kernel)
@[simp] theorem w_cut_cap : dEq (.str "cut") (.str "cap") = some (.bool false) := dEq_w (by decide +kernel)
@[simp] theorem w_cut_cut : dEq (.str "cut") (.str "cut") = some (.bool true) := dEq_w (by decide +kernel)
@[simp] theorem w_cut_feed : dEq (.str "cut") (.str "feed") = some (.bool false) := dEq_w (by decide +kernel)
@[simp] theorem w_cut_table : dEq (.str "cut") (.str "table") = some (.bool false) := dEq_w (by decide +kernel)
@[simp] theorem w_feed_imply : dEq (.str "feed") (.str "imply") = some (.bool false) := dEq_w (by decide +kernel)
@[simp] theorem w_feed_cap : dEq (.str "feed") (.str "cap") = some (.bool false) := dEq_w (by decide +kernel)
@[simp] theorem w_feed_cut : dEq (.str "feed") (.str "cut") = some (.bool false) := dEq_w (by decide +kernel)
@[simp] theorem w_feed_feed : dEq (.str "feed") (.str "feed") = some (.bool true) := dEq_w (by decide +kernel)
@[simp] theorem w_feed_table : dEq (.str "feed") (.str "table") = some (.bool false) := dEq_w (by decide +kernel)
@[simp] theorem w_table_imply : dEq (.str "table") (.str "imply") = some (.bool false) := dEq_w (by decide +kernel)
@[simp] theorem w_table_cap : dEq (.str "table") (.str "cap") = some (.bool false) := dEq_w (by decide +kernel)
@[simp] theorem w_table_cut : dEq (.str "table") (.str "cut") = some (.bool false) := dEq_w (by decide +kernel)
@[simp] theorem w_table_feed : dEq (.str "table") (.str "feed") = some (.bool false) := dEq_w (by decide +kernel)
@[simp] theorem w_table_table : dEq (.str "table") (.str "table") = some (.bool true) := dEq_w (by decide +kernel)
theorem len0_any {α : Type} (xs : List α) (p : α → Bool) : dEq (.int ((xs.filter p).length : Int)) (.int 0) = some (.bool (!xs.any p)) := by
  rw [deq_int]
  congr 2
  rw [Bool.eq_iff_iff, decide_eq_true_eq]
  rw [show ((xs.filter p).length : Int) = 0 ↔ xs.filter p = [] by
    rw [← List.length_eq_zero_iff]
    omega]
  rw [List.filter_eq_nil_iff]
  simp
theorem len0_in (b s : List Str) : dEq (.int ((b.filter fun x => decide (x ∈ s)).length : Int)) (.int 0) = some (.bool (!b.any fun x => decide (x ∈ s))) := len0_any b _
theorem intsOf_map {α : Type} (f : α → Int) : ∀ l : List α, intsOf (l.map fun x => D.int (f x)) = some (l.map f)
  | [] => rfl
  | x :: l => by
    simp only [List.map_cons, intsOf, intsOf_map f l]
    rfl
theorem dSum_map {α : Type} (f : α → Int) (l : List α) : dSum [.lst (l.map fun x => D.int (f x))] = some (.int (l.map f).sum) := by
  show (intsOf _).map _ = _
  rw [intsOf_map]
  rfl
theorem dne_bool (a b : Bool) : dNe (.bool a) (.bool b) = some (.bool (a != b)) := by
  cases a <;> cases b <;> rfl
theorem in_rowT {x : List Str} {ls : List (List Str)} (hx : Lot10 x) (hl : Row ls) : dIn (T x) (.tup (ls.map T)) = some (.bool (decide (x ∈ ls))) := by
  show (if (T x).fine = true ∧ (D.tup (ls.map T)).fine = true then some (D.bool ((ls.map T).any fun y => PyData.eqv y.py (T x).py)) else none) = _
  rw [if_pos ⟨(nice_T hx).fine, (nice_rowT hl).fine⟩, any_T]
theorem nin_rowT {x : List Str} {ls : List (List Str)} (hx : Lot10 x) (hl : Row ls) : dNotIn (T x) (.tup (ls.map T)) = some (.bool (!decide (x ∈ ls))) := by
  unfold dNotIn
  rw [in_rowT hx hl]
theorem prs_mem : ∀ {ns : List Str} {p : Str × Str}, p ∈ prs ns → p.1 ∈ ns ∧ p.2 ∈ ns
  | n :: ns, p, h => by
    rw [prs] at h
    rcases List.mem_append.mp h with h | h
    · obtain ⟨m, hm, rfl⟩ := List.mem_map.mp h
      exact ⟨List.mem_cons_self, List.mem_cons_of_mem _ hm⟩
    · obtain ⟨h1, h2⟩ := prs_mem h
      exact ⟨List.mem_cons_of_mem _ h1, List.mem_cons_of_mem _ h2⟩
section
variable {ns s : List Str} {env : EnvD}
/-- sums of the numbers of those that run, both ways of telling them -/
theorem lc_pairs {ps : List (Str × Int)} (hn : Nms ns) (hp : (ps.map (·.1)).Sublist ns) (hs : s.Sublist ns) {i j : Nat} (hj : env[j]? = some (some (T s))) (hij : i ≠ j) (hi : i < env.length) :
    lcGo true (gN i) (dTest (dOp2 dIn (dOp2 dIx (dVar i) (dC (.int 0))) (dVar j))) (dOp2 dIx (dVar i) (dC (.int 1))) [i] (ps.map pairN) env = some ((ps.filter fun p => decide (p.1 ∈ s)).map fun p => D.int p.2, env) :=
  lc_filter pairN (fun p => decide (p.1 ∈ s)) (fun p => D.int p.2) fun p h => ⟨_, rfl, by
    have : Nam p.1 := hn.nam _ (hp.subset (List.mem_map.mpr ⟨p, h, rfl⟩))
    simp [wipeE, List.getElem?_set, hij, hi, hj, pairN, atI, ixN, in_T this (hn.lot hs)], fun _ => by
    simp [wipeE, List.getElem?_set, hi, pairN, atI, ixN]⟩
theorem lc_trips {ts : List (Str × Str × Int)} (hn : Nms ns) (hp : (ts.map key).Sublist (prs ns)) (hs : s.Sublist ns) {i j : Nat} (hj : env[j]? = some (some (T s))) (hij : i ≠ j) (hi : i < env.length) :
    lcGo true (gN i) (dTest (dOp2 dNe (dOp2 dIn (dOp2 dIx (dVar i) (dC (.int 0))) (dVar j)) (dOp2 dIn (dOp2 dIx (dVar i) (dC (.int 1))) (dVar j)))) (dOp2 dIx (dVar i) (dC (.int 2))) [i] (ts.map tripD) env = some ((ts.filter fun t => decide (t.1 ∈ s) != decide (t.2.1 ∈ s)).map fun t => D.int t.2.2, env) :=
  lc_filter tripD (fun t => decide (t.1 ∈ s) != decide (t.2.1 ∈ s)) (fun t => D.int t.2.2) fun t h => ⟨_, rfl, by
    have m := prs_mem (hp.subset (List.mem_map.mpr ⟨t, h, rfl⟩))
    have h1 : Nam t.1 := hn.nam _ m.1
    have h2 : Nam t.2.1 := hn.nam _ m.2
    simp [wipeE, List.getElem?_set, hij, hi, hj, tripD, atI, ixN, in_T h1 (hn.lot hs), in_T h2 (hn.lot hs), dne_bool], fun _ => by
    simp [wipeE, List.getElem?_set, hi, tripD, atI, ixN]⟩
end
end PL
namespace Law
open PySem PySem.Spec PySem.W PyProof.Rows L2 DL PL
theorem breaks_ok {ns s : List Str} {r : Rule} (hn : Nms ns) (g : Good ns r) (hs : s.Sublist ns) : F__law_breaks [ruleD r, T s] = .ok (.bool (brk r s)) .non := by
  have ls := hn.lot hs
  cases r with
  | imply a b =>
    have la := hn.lot g.1
    have lb := hn.lot g.2
    unfold F__law_breaks runF m__law_breaks
    simp [ruleD, atI, ixN, lc_nin_T la ls, len0, lc_in_T lb ls, len0_in]
    cases h : within a s <;> simp [h, brk]
  | cap ps n =>
    unfold F__law_breaks runF m__law_breaks
    simp [ruleD, atI, ixN, lc_pairs hn g.1 hs, dSum_map]
    rfl
  | cut ts n =>
    unfold F__law_breaks runF m__law_breaks
    simp [ruleD, atI, ixN, lc_trips hn g.1 hs, dSum_map]
    rfl
  | feed us ss n =>
    unfold F__law_breaks runF m__law_breaks
    simp [ruleD, atI, ixN, lc_pairs hn g.1.1 hs, lc_pairs hn g.1.2.1 hs, dSum_map]
    rfl
  | table a ls2 =>
    have la := hn.lot g.1
    have lf : Lot10 (a.filter fun x => decide (x ∈ s)) := hn.lot (List.filter_sublist.trans g.1)
    have rw2 : Row ls2 := (Nms.row ⟨hn.up.sub g.1, la.1, la.2⟩).sub g.2
    unfold F__law_breaks runF m__law_breaks
    simp [ruleD, atI, ixN, lc_in_T la ls, nin_rowT lf rw2, brk]
theorem sum_of_ok {ns s : List Str} {ps : List (Str × Int)} (hn : Nms ns) (hp : (ps.map (·.1)).Sublist ns) (hs : s.Sublist ns) : F_sum_of [.tup (ps.map pairN), T s] = .ok (.int (psum ps s)) .non := by
  have h := lc_filter (env := [some (.tup (ps.map pairN)), some (T s), none, none]) (gd := gT 2 (gsCons (gN 2) (gsCons (gN 3) gsNil))) (t := dTest (dOp2 dIn (dVar 2) (dVar 1))) (m := dVar 3) (vs := [2, 3]) pairN (fun p => decide (p.1 ∈ s)) (fun p => D.int p.2) (l := ps) fun p h => ⟨_, rfl, by
    have : Nam p.1 := hn.nam _ (hp.subset (List.mem_map.mpr ⟨p, h, rfl⟩))
    simp [wipeE, in_T this (hn.lot hs)], fun _ => by simp [wipeE]⟩
  unfold F_sum_of runF m_sum_of
  simp [h, dSum_map]
  rfl
theorem cut_of_ok {ns s : List Str} {ts : List (Str × Str × Int)} (hn : Nms ns) (hp : (ts.map key).Sublist (prs ns)) (hs : s.Sublist ns) : F_cut_of [.tup (ts.map tripD), T s] = .ok (.int (csum ts s)) .non := by
  have h := lc_filter (env := [some (.tup (ts.map tripD)), some (T s), none, none, none]) (gd := gT 3 (gsCons (gN 2) (gsCons (gN 3) (gsCons (gN 4) gsNil)))) (t := (dTest (dOp2 dNe (dOp2 dIn (dVar 2) (dVar 1)) (dOp2 dIn (dVar 3) (dVar 1))))) (m := dVar 4) (vs := [2, 3, 4]) tripD (fun t => decide (t.1 ∈ s) != decide (t.2.1 ∈ s)) (fun t => D.int t.2.2) (l := ts) fun t h => ⟨_, rfl, by
    have m := prs_mem (hp.subset (List.mem_map.mpr ⟨t, h, rfl⟩))
    have h1 : Nam t.1 := hn.nam _ m.1
    have h2 : Nam t.2.1 := hn.nam _ m.2
    simp [wipeE, in_T h1 (hn.lot hs), in_T h2 (hn.lot hs), dne_bool], fun _ => by simp [wipeE]⟩
  unfold F_cut_of runF m_cut_of
  simp [h, dSum_map]
  rfl
theorem allows_ok {ns s : List Str} {r : Rule} (hn : Nms ns) (g : Good ns r) (hs : s.Sublist ns) : F_allows [ruleD r, T s] = .ok (.bool (!brk r s)) .non := by
  have ls := hn.lot hs
  cases r with
  | imply a b =>
    have la := hn.lot g.1
    have lb := hn.lot g.2
    have hp := is_part_ok la ls
    have hc := common_ok lb ls
    have e : (0 < (b.filter fun x => decide (x ∈ s)).length) ↔ (b.any fun x => decide (x ∈ s)) = true := by
      rw [List.length_pos_iff, ne_eq, List.filter_eq_nil_iff]
      simp
    have hbr : brk (.imply a b) s = (within a s && !(b.any fun x => decide (x ∈ s))) := rfl
    rw [hbr]
    unfold F_allows runF m_allows
    cases h : within a s with
    | false =>
      rw [h] at hp
      simp [ruleD, atI, ixN, hp]
    | true =>
      rw [h] at hp
      simp [ruleD, atI, ixN, hp, hc, e]
      rw [Bool.eq_iff_iff]
      simp
  | cap ps n =>
    have h := sum_of_ok hn g.1 hs
    have hbr : brk (.cap ps n) s = decide (n < psum ps s) := rfl
    rw [hbr]
    unfold F_allows runF m_allows
    simp [ruleD, atI, ixN, h]
    rw [Bool.eq_iff_iff]
    simp [Int.not_lt]
  | cut ts n =>
    have h := cut_of_ok hn g.1 hs
    have hbr : brk (.cut ts n) s = decide (n < csum ts s) := rfl
    rw [hbr]
    unfold F_allows runF m_allows
    simp [ruleD, atI, ixN, h]
    rw [Bool.eq_iff_iff]
    simp [Int.not_lt]
  | feed us ss n =>
    have h1 := sum_of_ok hn g.1.1 hs
    have h2 := sum_of_ok hn g.1.2.1 hs
    have hbr : brk (.feed us ss n) s = decide (n + psum ss s < psum us s) := rfl
    rw [hbr]
    unfold F_allows runF m_allows
    simp [ruleD, atI, ixN, h1, h2, Int.add_comm]
    rw [Bool.eq_iff_iff]
    simp [Int.not_lt]
  | table a ls2 =>
    have la := hn.lot g.1
    have lf : Lot10 (a.filter fun x => decide (x ∈ s)) := hn.lot (List.filter_sublist.trans g.1)
    have rw2 : Row ls2 := (Nms.row ⟨hn.up.sub g.1, la.1, la.2⟩).sub g.2
    have hc := common_ok la ls
    have hbr : brk (.table a ls2) s = !decide ((a.filter fun x => decide (x ∈ s)) ∈ ls2) := rfl
    rw [hbr]
    unfold F_allows runF m_allows
    simp [ruleD, atI, ixN, hc, in_rowT lf rw2]
end Law
namespace PL
open PySem PySem.Spec PySem.W PyProof.Rows L2 DL
theorem up_ext {a b : List Str} (ha : Up a) (hb : Up b) (h : ∀ x, x ∈ a ↔ x ∈ b) : a = b := by
  have h1 := sortS (.refl a) ha
  have h2 := sortS (perm_of ha.nodup hb.nodup h) hb
  exact mapS_inj (h1.symm.trans h2)
theorem lt_total {x y : Str} (h1 : ¬ Lt x y) (h2 : ¬ Lt y x) : x = y := by
  have e1 : dataLt (D.str x).py (D.str y).py = false := by rw [lt_str]; exact decide_eq_false h1
  have e2 : dataLt (D.str y).py (D.str x).py = false := by rw [lt_str]; exact decide_eq_false h2
  have t := (listOrd itemOrd).total _ _ (show (listOrd itemOrd).blt (keyToks (D.str x).py) (keyToks (D.str y).py) = false from e1) e2
  have t : [Sum.inr x.cps.toList] = [Sum.inr y.cps.toList] := t
  exact str_of_cps (Sum.inr.inj (List.cons.inj t).1)
theorem sortedW (l : List Str) : ∃ q : List Str, sortD (l.map D.str) = q.map D.str ∧ q.Perm l ∧ q.Pairwise fun a b => ¬ Lt b a := by
  have pe := List.mergeSort_perm l fun a b => dataLe false D.py (.str a) (.str b)
  have sp : (l.mergeSort fun a b => dataLe false D.py (.str a) (.str b)).Pairwise fun a b => dataLe false D.py (.str a) (.str b) = true := List.pairwise_mergeSort (le := fun a b => dataLe false D.py (.str a) (.str b)) (fun a b c => dataLe_trans D.py (.str a) (.str b) (.str c)) (fun a b => dataLe_total D.py (.str a) (.str b)) l
  refine ⟨_, (List.map_mergeSort (r := fun a b => dataLe false D.py (.str a) (.str b)) (s := dataLe false D.py) (f := D.str) (l := l) (fun _ _ _ _ => rfl)).symm, pe, sp.imp fun {a b} h => ?_⟩
  have h1 : (!dataLt (D.str b).py (D.str a).py) = true := h
  rw [lt_str] at h1
  simpa using h1
/-- each one where it first stands -/
theorem firsts_at : ∀ (q pre : List Str), (((q.zipIdx pre.length).filter fun p => !decide (p.1 ∈ (pre ++ q).take p.2)).map (·.1)).Sublist q ∧ (((q.zipIdx pre.length).filter fun p => !decide (p.1 ∈ (pre ++ q).take p.2)).map (·.1)).Nodup ∧ ∀ x, x ∈ (((q.zipIdx pre.length).filter fun p => !decide (p.1 ∈ (pre ++ q).take p.2)).map (·.1)) ↔ x ∈ q ∧ x ∉ pre
  | [], pre => ⟨List.nil_sublist _, .nil, fun x => by simp⟩
  | y :: q, pre => by
    have ih := firsts_at q (pre ++ [y])
    rw [List.append_assoc, List.length_append, List.length_singleton, List.singleton_append] at ih
    obtain ⟨i1, i2, i3⟩ := ih
    have tk : (pre ++ y :: q).take pre.length = pre := List.take_left ..
    rw [List.zipIdx_cons]
    by_cases h : y ∈ pre
    · rw [List.filter_cons_of_neg (by simp [tk, h])]
      refine ⟨i1.cons _, i2, fun x => ?_⟩
      rw [i3]
      simp only [List.mem_append, List.mem_cons, List.not_mem_nil, or_false]
      constructor
      · rintro ⟨a, b⟩
        exact ⟨.inr a, fun z => b (.inl z)⟩
      · rintro ⟨a | a, b⟩
        · exact (b (by rw [a]; exact h)).elim
        · refine ⟨a, fun z => ?_⟩
          rcases z with z | z
          · exact b z
          · exact b (by rw [z]; exact h)
    · rw [List.filter_cons_of_pos (by simp [tk, h]), List.map_cons]
      refine ⟨i1.cons_cons _, List.nodup_cons.mpr ⟨fun z => ?_, i2⟩, fun x => ?_⟩
      · have := ((i3 y).mp z).2
        exact this (by simp)
      · rw [List.mem_cons, i3]
        simp only [List.mem_append, List.mem_cons, List.not_mem_nil, or_false]
        constructor
        · rintro (a | ⟨a, b⟩)
          · exact ⟨.inl a, by rw [a]; exact h⟩
          · exact ⟨.inr a, fun z => b (.inl z)⟩
        · rintro ⟨a | a, b⟩
          · exact .inl a
          · by_cases e : x = y
            · exact .inl e
            · exact .inr ⟨a, fun z => z.elim b e⟩
theorem firsts_eq {q t : List Str} (hq : q.Pairwise fun a b => ¬ Lt b a) (ht : Up t) (h : ∀ x, x ∈ q ↔ x ∈ t) : ((q.zipIdx.filter fun p => !decide (p.1 ∈ q.take p.2)).map (·.1)) = t := by
  obtain ⟨i1, i2, i3⟩ := firsts_at q []
  refine up_ext ?_ ht fun x => ?_
  · refine ((List.Pairwise.sublist i1 hq).and i2).imp fun {a b} z => ?_
    by_cases l : Lt a b
    · exact l
    · exact (z.2 (lt_total l z.1)).elim
  · have := i3 x
    simp only [List.length_nil, List.nil_append, List.not_mem_nil, not_false_eq_true, and_true] at this
    rw [← h]
    exact this
theorem fine_Sl {l : List Str} (h : ∀ x ∈ l, Nam x) : (D.lst (l.map D.str)).fine = true := by
  refine fine_of (plainL_of fun d hd => ?_) ?_ ?_
  · obtain ⟨x, _, rfl⟩ := List.mem_map.mp hd
    rfl
  · show PyData.canLay0 (.list (pyL _)) = true
    unfold PyData.canLay0
    refine canLayL_of fun d hd => ?_
    obtain ⟨x, hx, rfl⟩ := List.mem_map.mp hd
    exact (nice_str (n := 0) (h x hx)).lay
  · show PyData.depth (.list (pyL _)) ≤ 64
    unfold PyData.depth
    have := depthL_of (n := 0) (l := l.map D.str) fun d hd => by
      obtain ⟨x, _, rfl⟩ := List.mem_map.mp hd
      exact Nat.le_refl _
    omega
theorem nin_Sl {x : Str} {l : List Str} (hx : Nam x) (hl : ∀ y ∈ l, Nam y) : dNotIn (.str x) (.lst (l.map D.str)) = some (.bool (!decide (x ∈ l))) := by
  have : dIn (.str x) (.lst (l.map D.str)) = some (.bool (decide (x ∈ l))) := by
    show (if (D.str x).fine = true ∧ (D.lst (l.map D.str)).fine = true then some (D.bool ((l.map D.str).any fun y => PyData.eqv y.py (D.str x).py)) else none) = _
    rw [if_pos ⟨(nice_str (n := 0) hx).fine, fine_Sl hl⟩, any_S]
  unfold dNotIn
  rw [this]
/-- the names that stand in a rule, as they stand there -/
def raw : Rule → List Str
  | .imply a b => a ++ b
  | .cap ps _ => ps.map (·.1)
  | .cut ts _ => ts.map (·.1) ++ ts.map (·.2.1)
  | .feed us ss _ => us.map (·.1) ++ ss.map (·.1)
  | .table a _ => a
def nmOf (ns : List Str) (r : Rule) : List Str := ns.filter fun x => decide (x ∈ raw r)
theorem raw_sub {ns : List Str} {r : Rule} (hn : Nms ns) (g : Good ns r) : (∀ x ∈ raw r, x ∈ ns) ∧ (raw r).length ≤ 300 := by
  have hl := hn.len
  cases r with
  | imply a b =>
    refine ⟨fun x hx => ?_, ?_⟩
    · rcases List.mem_append.mp hx with h | h
      · exact g.1.subset h
      · exact g.2.subset h
    · have := g.1.length_le
      have := g.2.length_le
      show (a ++ b).length ≤ 300
      rw [List.length_append]
      omega
  | cap ps n =>
    refine ⟨fun x hx => g.1.subset hx, ?_⟩
    have := g.1.length_le
    show (ps.map (·.1)).length ≤ 300
    omega
  | cut ts n =>
    have l2 := g.1.length_le
    have hp : (prs ns).length ≤ 100 := Nat.le_trans (Law.pairs_len ns) (Nat.mul_le_mul hl hl)
    rw [List.length_map] at l2
    refine ⟨fun x hx => ?_, ?_⟩
    · rcases List.mem_append.mp hx with h | h
      · obtain ⟨t, ht, rfl⟩ := List.mem_map.mp h
        exact (prs_mem (g.1.subset (List.mem_map.mpr ⟨t, ht, rfl⟩))).1
      · obtain ⟨t, ht, rfl⟩ := List.mem_map.mp h
        exact (prs_mem (g.1.subset (List.mem_map.mpr ⟨t, ht, rfl⟩))).2
    · show (ts.map (·.1) ++ ts.map (·.2.1)).length ≤ 300
      rw [List.length_append, List.length_map, List.length_map]
      omega
  | feed us ss n =>
    refine ⟨fun x hx => ?_, ?_⟩
    · rcases List.mem_append.mp hx with h | h
      · exact g.1.1.subset h
      · exact g.1.2.1.subset h
    · have := g.1.1.length_le
      have := g.1.2.1.length_le
      show (us.map (·.1) ++ ss.map (·.1)).length ≤ 300
      rw [List.length_append]
      omega
  | table a ls =>
    refine ⟨fun x hx => g.1.subset hx, ?_⟩
    have := g.1.length_le
    show a.length ≤ 300
    omega
theorem nm_mem {ns : List Str} {r : Rule} (hn : Nms ns) (g : Good ns r) {x : Str} : x ∈ nmOf ns r ↔ x ∈ raw r := by
  unfold nmOf
  rw [List.mem_filter, decide_eq_true_eq]
  exact ⟨fun h => h.2, fun h => ⟨(raw_sub hn g).1 x h, h⟩⟩
theorem nm_sub {ns : List Str} {r : Rule} : (nmOf ns r).Sublist ns := List.filter_sublist
section
variable {env : EnvD} {i : Nat}
theorem lc_fst {ps : List (Str × Int)} (hi : i < env.length) : lcGo true (gN i) mYes (dOp2 dIx (dVar i) (dC (.int 0))) [i] (ps.map pairN) env = some ((ps.map (·.1)).map D.str, env) := by
  rw [List.map_map]
  exact lc_embPure pairN _ fun p h => ⟨_, rfl, by simp [wipeE, List.getElem?_set, hi, pairN, atI, ixN]⟩
theorem lc_t1 {ts : List (Str × Str × Int)} (hi : i < env.length) : lcGo true (gN i) mYes (dOp2 dIx (dVar i) (dC (.int 0))) [i] (ts.map tripD) env = some ((ts.map (·.1)).map D.str, env) := by
  rw [List.map_map]
  exact lc_embPure tripD _ fun p h => ⟨_, rfl, by simp [wipeE, List.getElem?_set, hi, tripD, atI, ixN]⟩
theorem lc_t2 {ts : List (Str × Str × Int)} (hi : i < env.length) : lcGo true (gN i) mYes (dOp2 dIx (dVar i) (dC (.int 1))) [i] (ts.map tripD) env = some ((ts.map (·.2.1)).map D.str, env) := by
  rw [List.map_map]
  exact lc_embPure tripD _ fun p h => ⟨_, rfl, by simp [wipeE, List.getElem?_set, hi, tripD, atI, ixN]⟩
end
theorem add_Ss {a b : List Str} (h : a.length + b.length ≤ 1000) : dAdd (.lst (a.map D.str)) (.lst (b.map D.str)) = some (.lst ((a ++ b).map D.str)) := by
  have : 4000 ≤ sizeLine := by decide
  show (if _ + _ ≤ sizeLine then _ else _) = _
  rw [if_pos (by rw [List.length_map, List.length_map]; omega), ← List.map_append]
end PL
namespace Law
open PySem PySem.Spec PySem.W PyProof.Rows L2 DL PL
theorem names_of_ok {ns : List Str} {r : Rule} (hn : Nms ns) (g : Good ns r) : F_names_of [ruleD r] = .ok (T (nmOf ns r)) .non := by
  have hs := raw_sub hn g
  have hm : ∀ x, x ∈ raw r ↔ x ∈ nmOf ns r := fun x => (nm_mem hn g).symm
  have up : Up (nmOf ns r) := hn.up.sub nm_sub
  have ss := (sortSet_S (l := raw r) (by have := hs.2; omega) up hm).1
  have hl := hs.2
  cases r with
  | imply a b =>
    have h := united_ok (hn.lot g.1) (hn.lot g.2) up fun x => by rw [← hm]; exact List.mem_append
    unfold F_names_of runF m_names_of
    simp [ruleD, atI, ixN, h]
  | cap ps n =>
    have ss : dSortSet (.lst ((ps.map (·.1)).map D.str)) = _ := ss
    unfold F_names_of runF m_names_of
    simp [ruleD, atI, ixN, lc_fst, ss, -List.map_map]
  | cut ts n =>
    have ss : dSortSet (.lst ((ts.map (·.1) ++ ts.map (·.2.1)).map D.str)) = _ := ss
    have hl : (ts.map (·.1) ++ ts.map (·.2.1)).length ≤ 300 := hl
    rw [List.length_append] at hl
    have ad := add_Ss (a := ts.map (·.1)) (b := ts.map (·.2.1)) (by omega)
    unfold F_names_of runF m_names_of
    simp [ruleD, atI, ixN, lc_t1, lc_t2, ad, ss, -List.map_map, -List.map_append, -u_addL]
  | feed us ss2 n =>
    have ss : dSortSet (.lst ((us.map (·.1) ++ ss2.map (·.1)).map D.str)) = _ := ss
    have hl : (us.map (·.1) ++ ss2.map (·.1)).length ≤ 300 := hl
    rw [List.length_append] at hl
    have ad := add_Ss (a := us.map (·.1)) (b := ss2.map (·.1)) (by omega)
    unfold F_names_of runF m_names_of
    simp [ruleD, atI, ixN, lc_fst, ad, ss, -List.map_map, -List.map_append, -u_addL]
  | table a ls =>
    have e : nmOf ns (.table a ls) = a := sub_filter g.1 hn.up.nodup
    rw [e]
    unfold F_names_of runF m_names_of
    simp [ruleD, atI, ixN]
end Law
namespace Law
open PySem PySem.Spec PyProof.Rows L2 DL
def s__law_named_0 : MS := dSet 1 (dOp2 dIx (dVar 0) (dC (.int 0)))
def s__law_named_1 : MS := dSet 2 (dCB dList (dCons (dOp2 dIx (dVar 0) (dC (.int 1))) dNil))
def s__law_named_2 : MS := dIte (dTest (dOp2 dEq (dVar 1) (dC (.str "imply")))) (dSet 2 (dOp2 dAdd (dVar 2) (dCB dList (dCons (dOp2 dIx (dVar 0) (dC (.int 2))) dNil)))) (dIte (dTest (dOp2 dEq (dVar 1) (dC (.str "cut")))) (dSet 2 (dOp2 dAdd (dLc true (dItems (dOp2 dIx (dVar 0) (dC (.int 1)))) (gN 3) mYes (dOp2 dIx (dVar 3) (dC (.int 0))) [3]) (dLc true (dItems (dOp2 dIx (dVar 0) (dC (.int 1)))) (gN 3) mYes (dOp2 dIx (dVar 3) (dC (.int 1))) [3]))) (dIte (dTest (dOp2 dEq (dVar 1) (dC (.str "cap")))) (dSet 2 (dLc true (dItems (dOp2 dIx (dVar 0) (dC (.int 1)))) (gN 4) mYes (dOp2 dIx (dVar 4) (dC (.int 0))) [4])) (dIte (dTest (dOp2 dEq (dVar 1) (dC (.str "feed")))) (dSet 2 (dOp2 dAdd (dLc true (dItems (dOp2 dIx (dVar 0) (dC (.int 1)))) (gN 4) mYes (dOp2 dIx (dVar 4) (dC (.int 0))) [4]) (dLc true (dItems (dOp2 dIx (dVar 0) (dC (.int 2)))) (gN 4) mYes (dOp2 dIx (dVar 4) (dC (.int 0))) [4]))) dSkip)))
def s__law_named_3 : MS := dSet 2 (dCB dSortedT (dCons (dVar 2) dNil))
def s__law_named_4 : MS := dRet (dCB dTuple (dCons (dLc true (dEnum (dCons (dVar 2) dNil)) (gT 2 (gsCons (gN 5) (gsCons (gN 6) gsNil))) (dTest (dOp2 dNotIn (dVar 6) (dSlice (dVar 2) none (some (dVar 5))))) (dVar 6) [5, 6]) dNil))
theorem m__law_named_eq : m__law_named = (dSeq s__law_named_0 (dSeq s__law_named_1 (dSeq s__law_named_2 (dSeq s__law_named_3 s__law_named_4)))) := rfl
def s__law_rule_right_0 : MS := dIte (dTest (dOp2 dNe (dCB dRepr (dCons (dCall F_names_of [] (dCons (dVar 0) dNil)) dNil)) (dCB dRepr (dCons (dCall F__law_named [] (dCons (dVar 0) dNil)) dNil)))) (dRet (dC (.bool false))) dSkip
def s__law_rule_right_1b_0 : MS := dIte (dTest (dOp2 dNe (dCB dRepr (dCons (dCall F_allows [] (dCons (dVar 0) (dCons (dVar 3) dNil))) dNil)) (dCB dRepr (dCons (dBool (dNot (dTru (dCall F__law_breaks [] (dCons (dVar 0) (dCons (dVar 3) dNil)))))) dNil)))) (dRet (dC (.bool false))) dSkip
def s__law_rule_right_1b_1b_0 : MS := dSet 5 (dCB dTuple (dCons (dLc true (dItems (dVar 3)) (gN 8) (dTest (dOp2 dIn (dVar 8) (dVar 4))) (dVar 8) [8]) dNil))
def s__law_rule_right_1b_1b_1 : MS := dSet 6 (dCB dTuple (dCons (dCB dSortedT (dCons (dOp2 dAdd (dCB dList (dCons (dVar 3) dNil)) (dLc true (dItems (dVar 4)) (gN 8) (dTest (dOp2 dNotIn (dVar 8) (dVar 3))) (dVar 8) [8])) dNil)) dNil))
def s__law_rule_right_1b_1b_2 : MS := dSet 7 (dC .non)
def s__law_rule_right_1b_1b_3 : MS := dIte (dNot (dTru (dCall F__law_breaks [] (dCons (dVar 0) (dCons (dVar 5) dNil))))) (dSet 7 (dC (.str "meet"))) (dIte (dNot (dTru (dCall F__law_breaks [] (dCons (dVar 0) (dCons (dVar 6) dNil))))) (dSet 7 (dC (.str "join"))) dSkip)
def s__law_rule_right_1b_1b_4 : MS := dIte (dOr (dTest (dOp2 dNe (dCall F_meet_or_join [] (dCons (dVar 0) (dCons (dVar 3) (dCons (dVar 4) dNil)))) (dVar 7))) (dTest (dOp2 dNe (dCall F_meet_or_join [] (dCons (dVar 0) (dCons (dVar 4) (dCons (dVar 3) dNil)))) (dVar 7)))) (dRet (dC (.bool false))) dSkip
def s__law_rule_right_1b_1b_5 : MS := dIte (dAnd (dTest (dOp2 dNotN (dVar 7) (dC .non))) (dNot (dTru (dCall F_allows [] (dCons (dVar 0) (dCons (dIf (dTest (dOp2 dEq (dVar 7) (dC (.str "meet")))) (dCall F_common [] (dCons (dVar 3) (dCons (dVar 4) dNil))) (dCall F_united [] (dCons (dVar 4) (dCons (dVar 3) dNil)))) dNil)))))) (dRet (dC (.bool false))) dSkip
def s__law_rule_right_1b_1b_6 : MS := dIte (dAnd (dTest (dOp2 dIsN (dVar 7) (dC .non))) (dAnd (dTest (dOp2 dNe (dOp2 dIx (dVar 0) (dC (.int 0))) (dC (.str "table")))) (dAnd (dNot (dTru (dCall F__law_breaks [] (dCons (dVar 0) (dCons (dVar 3) dNil))))) (dNot (dTru (dCall F__law_breaks [] (dCons (dVar 0) (dCons (dVar 4) dNil)))))))) (dRet (dC (.bool false))) dSkip
def s__law_rule_right_1b_1 : MS := dFor (dItems (dSlice (dVar 1) (some (dVar 2)) none)) (gN 4) (dSeq s__law_rule_right_1b_1b_0 (dSeq s__law_rule_right_1b_1b_1 (dSeq s__law_rule_right_1b_1b_2 (dSeq s__law_rule_right_1b_1b_3 (dSeq s__law_rule_right_1b_1b_4 (dSeq s__law_rule_right_1b_1b_5 s__law_rule_right_1b_1b_6))))))
def s__law_rule_right_1 : MS := dFor (dEnum (dCons (dVar 1) dNil)) (gT 2 (gsCons (gN 2) (gsCons (gN 3) gsNil))) (dSeq s__law_rule_right_1b_0 s__law_rule_right_1b_1)
def s__law_rule_right_2 : MS := dRet (dC (.bool true))
theorem m__law_rule_right_eq : m__law_rule_right = (dSeq s__law_rule_right_0 (dSeq s__law_rule_right_1 s__law_rule_right_2)) := rfl
def s_law_0b_0 : MS := dSet 2 (dCall F__law_box [] (dCons (dVar 0) (dCons (dVar 1) dNil)))
def s_law_0b_1 : MS := dSet 3 (dCallI F__law_names 2 [] (dCons (dOp2 dAdd (dC (.int 1)) (dCallI F__law_take 2 [] (dCons (dC (.int 4)) dNil))) dNil))
def s_law_0b_2 : MS := dSet 4 (dCallI F__law_rule 2 [] (dCons (dVar 3) dNil))
def s_law_0b_3 : MS := dIte (dOr (dTest (dOp2 dNe (dCB dRepr (dCons (dCall F_made_rule [] (dCons (dCB dTuple (dCons (dVar 3) dNil)) (dCons (dVar 4) dNil))) dNil)) (dCB dRepr (dCons (dVar 4) dNil)))) (dNot (dTru (dCall F__law_rule_right [] (dCons (dVar 4) (dCons (dCall F__law_all [] (dCons (dVar 3) dNil)) dNil)))))) (dRet (dC (.bool false))) dSkip
def s_law_0 : MS := dFor (dRange (dCons (dCB dMax2 (dCons (dC (.int 1)) (dCons (dCB dMin2 (dCons (dC (.int 3)) (dCons (dCB dLen (dCons (dVar 0) dNil)) dNil))) dNil))) dNil)) (gN 1) (dSeq s_law_0b_0 (dSeq s_law_0b_1 (dSeq s_law_0b_2 s_law_0b_3)))
def s_law_1 : MS := dRet (dC (.bool true))
theorem m_law_eq : m_law = (dSeq s_law_0 s_law_1) := rfl
def s_made_rule_0 : MS := dSet 2 (dCall F_kept_rule [] (dCons (dVar 0) (dCons (dVar 1) dNil)))
def s_made_rule_1 : MS := dIte (dTest (dOp2 dIsN (dVar 2) (dC .non))) dBadS dSkip
def s_made_rule_2 : MS := dRet (dVar 2)
theorem m_made_rule_eq : m_made_rule = (dSeq s_made_rule_0 (dSeq s_made_rule_1 s_made_rule_2)) := rfl
def s_kept_rule_0 : MS := dIte (dOr (dNot (dTru (dCall F_is_sequence [] (dCons (dVar 1) dNil)))) (dOr (dTest (dOp2 dNotIn (dCB dLen (dCons (dVar 1) dNil)) (dTup (dCons (dC (.int 3)) (dCons (dC (.int 4)) dNil))))) (dNot (dTru (dUn (dIsT "str") (dOp2 dIx (dVar 1) (dC (.int 0)))))))) (dRet (dC .non)) dSkip
def s_kept_rule_1 : MS := dPar [2, 3, 4] (dCons (dOp2 dIx (dVar 1) (dC (.int 0))) (dCons (dOp2 dIx (dVar 1) (dC (.int 1))) (dCons (dOp2 dIx (dVar 1) (dC (.int 2))) dNil)))
def s_kept_rule_2 : MS := dSet 5 (dTup (dCons (dC .non) dNil))
def s_kept_rule_3 : MS := dIte (dTest (dOp2 dEq (dCB dLen (dCons (dVar 1) dNil)) (dC (.int 4)))) (dIte (dTest (dOp2 dEq (dVar 2) (dC (.str "feed")))) (dSet 5 (dOp2 dAdd (dCall F_kept_feed [] (dCons (dVar 3) (dCons (dVar 4) (dCons (dVar 0) dNil)))) (dTup (dCons (dCall F_kept_number [] (dCons (dOp2 dIx (dVar 1) (dC (.int 3))) (dCons (dUn dNeg (dC (.int 1000000))) dNil))) dNil)))) dSkip) (dIte (dTest (dOp2 dEq (dVar 2) (dC (.str "imply")))) (dSet 5 (dTup (dCons (dCall F_kept_lot [] (dCons (dVar 3) (dCons (dVar 0) dNil))) (dCons (dCall F_kept_lot [] (dCons (dVar 4) (dCons (dVar 0) dNil))) dNil)))) (dIte (dTest (dOp2 dEq (dVar 2) (dC (.str "cap")))) (dSet 5 (dTup (dCons (dCall F_kept_pairs [] (dCons (dVar 3) (dCons (dVar 0) dNil))) (dCons (dCall F_kept_number [] (dCons (dVar 4) (dCons (dC (.int 0)) dNil))) dNil)))) (dIte (dTest (dOp2 dEq (dVar 2) (dC (.str "cut")))) (dSet 5 (dTup (dCons (dCall F_kept_triples [] (dCons (dVar 3) (dCons (dVar 0) dNil))) (dCons (dCall F_kept_number [] (dCons (dVar 4) (dCons (dC (.int 0)) dNil))) dNil)))) (dIte (dTest (dOp2 dEq (dVar 2) (dC (.str "table")))) (dSeq (dSet 6 (dCall F_kept_lot [] (dCons (dVar 3) (dCons (dVar 0) dNil))))   (dSet 5 (dTup (dCons (dVar 6) (dCons (dCall F_kept_lots [] (dCons (dVar 4) (dCons (dVar 6) dNil))) dNil))))) dSkip))))
def s_kept_rule_4 : MS := dRet (dIf (dTest (dOp2 dIn (dC .non) (dVar 5))) (dC .non) (dOp2 dAdd (dTup (dCons (dVar 2) dNil)) (dVar 5)))
theorem m_kept_rule_eq : m_kept_rule = (dSeq s_kept_rule_0 (dSeq s_kept_rule_1 (dSeq s_kept_rule_2 (dSeq s_kept_rule_3 s_kept_rule_4)))) := rfl
def s_kept_triples_0 : MS := dIte (dNot (dTru (dCall F_is_sequence [] (dCons (dVar 0) dNil)))) (dRet (dC .non)) dSkip
def s_kept_triples_1 : MS := dSet 2 (dLst dNil)
def s_kept_triples_2b_0 : MS := dIte (dOr (dNot (dTru (dCall F_is_sequence [] (dCons (dVar 3) dNil)))) (dOr (dTest (dOp2 dNe (dCB dLen (dCons (dVar 3) dNil)) (dC (.int 3)))) (dNot (dTru (dCall F_is_number [] (dCons (dOp2 dIx (dVar 3) (dC (.int 2))) (dCons (dC (.int 1)) dNil))))))) (dRet (dC .non)) dSkip
def s_kept_triples_2b_1 : MS := dSet 4 (dCall F_kept_lot [] (dCons (dSlice (dVar 3) none (some (dC (.int 2)))) (dCons (dVar 1) dNil)))
def s_kept_triples_2b_2 : MS := dIte (dOr (dTest (dOp2 dIsN (dVar 4) (dC .non))) (dTru (dCB dAny (dCons (dLc true (dItems (dVar 2)) (gN 5) mYes (dOp2 dEq (dSlice (dVar 5) none (some (dC (.int 2)))) (dVar 4)) [5]) dNil)))) (dRet (dC .non)) dSkip
def s_kept_triples_2b_3 : MS := dExpr (dMeth 2 mAppend (dCons (dOp2 dAdd (dVar 4) (dTup (dCons (dOp2 dIx (dVar 3) (dC (.int 2))) dNil))) dNil))
def s_kept_triples_2 : MS := dFor (dItems (dVar 0)) (gN 3) (dSeq s_kept_triples_2b_0 (dSeq s_kept_triples_2b_1 (dSeq s_kept_triples_2b_2 s_kept_triples_2b_3)))
def s_kept_triples_3 : MS := dRet (dCB dTuple (dCons (dCB dSortedT (dCons (dVar 2) dNil)) dNil))
theorem m_kept_triples_eq : m_kept_triples = (dSeq s_kept_triples_0 (dSeq s_kept_triples_1 (dSeq s_kept_triples_2 s_kept_triples_3))) := rfl
end Law
namespace Law
open PySem PySem.Spec PySem.W PyProof.Rows L2 DL PL
theorem named_end {ns : List Str} {l : List Str} {t : List Str} {o0 o1 o3 o4 o5 o6 : Option D} (hn : Nms ns) (hl : ∀ x ∈ l, x ∈ ns) (ht : Up t) (h : ∀ x, x ∈ l ↔ x ∈ t) :
    ∃ e, (dSeq (dSet 2 (dCB dSortedT (dCons (dVar 2) dNil))) (dRet (dCB dTuple (dCons (dLc true (dEnum (dCons (dVar 2) dNil)) (gT 2 (gsCons (gN 5) (gsCons (gN 6) gsNil))) (dTest (dOp2 dNotIn (dVar 6) (dSlice (dVar 2) none (some (dVar 5))))) (dVar 6) [5, 6]) dNil)))) [o0, o1, some (.lst (l.map D.str)), o3, o4, o5, o6] = .rt (T t) e ∧ e.length = 7 := by
  obtain ⟨q, h1, h2, h3⟩ := sortedW l
  have hq : ∀ x ∈ q, Nam x := fun x hx => hn.nam x (hl x (h2.mem_iff.mp hx))
  have en : ((q.map D.str).mapIdx fun i d => D.tup [.int (i : Nat), d]) = (q.zipIdx).map fun p => D.tup [.int (p.2 : Nat), .str p.1] := by
    rw [mapIdx_enum, List.zipIdx_map, List.map_map]
    rfl
  have lc := lc_filter (env := [o0, o1, some (.lst (q.map D.str)), o3, o4, o5, o6]) (gd := gT 2 (gsCons (gN 5) (gsCons (gN 6) gsNil))) (t := dTest (dOp2 dNotIn (dVar 6) (dSlice (dVar 2) none (some (dVar 5))))) (m := dVar 6) (vs := [5, 6]) (fun p : Str × Nat => D.tup [.int (p.2 : Nat), .str p.1]) (fun p => !decide (p.1 ∈ q.take p.2)) (fun p => D.str p.1) (l := q.zipIdx) fun p hp => ⟨_, rfl, by
    have hx : Nam p.1 := hq _ (List.fst_mem_of_mem_zipIdx hp)
    have cut : DL.cutD (q.map D.str) none (some (p.2 : Int)) = (q.take p.2).map D.str := by
      rw [cut_to _ (by omega), ← List.map_take]
      rfl
    have ni := nin_Sl hx (l := q.take p.2) fun y hy => hq y (List.mem_of_mem_take hy)
    rw [← cut] at ni
    simp [wipeE, ni], fun _ => by simp [wipeE]⟩
  have fe := firsts_eq h3 ht fun x => (h2.mem_iff).trans (h x)
  have fe2 : (q.zipIdx.filter fun p => !decide (p.1 ∈ q.take p.2)).map (fun p => D.str p.1) = t.map D.str := by
    rw [← fe, List.map_map]
    rfl
  rw [fe2] at lc
  refine ⟨[o0, o1, some (.lst (q.map D.str)), o3, o4, o5, o6], ?_, rfl⟩
  simp [h1, en, lc]
def word : Rule → Str
  | .imply _ _ => "imply"
  | .cap _ _ => "cap"
  | .cut _ _ => "cut"
  | .feed _ _ _ => "feed"
  | .table _ _ => "table"
theorem named_ok {ns : List Str} {r : Rule} (hn : Nms ns) (g : Good ns r) : F__law_named [ruleD r] = .ok (T (nmOf ns r)) .non := by
  have hs := raw_sub hn g
  have hm : ∀ x, x ∈ raw r ↔ x ∈ nmOf ns r := fun x => (nm_mem hn g).symm
  have up : Up (nmOf ns r) := hn.up.sub nm_sub
  have hl := hs.2
  have st : (s__law_named_0 [some (ruleD r), none, none, none, none, none, none]).seq (dSeq s__law_named_1 s__law_named_2) = .nx [some (ruleD r), some (.str (word r)), some (.lst ((raw r).map D.str)), none, none, none, none] := by
    cases r with
    | imply a b =>
      have ad := add_Ss (a := a) (b := b) (by have : (a ++ b).length ≤ 300 := hl; rw [List.length_append] at this; omega)
      unfold s__law_named_0 s__law_named_1 s__law_named_2
      simp [word, raw, ruleD, atI, ixN, ad, -u_addL, -List.map_append]
    | cap ps n =>
      unfold s__law_named_0 s__law_named_1 s__law_named_2
      simp [word, raw, ruleD, atI, ixN, lc_fst, -List.map_map]
    | cut ts n =>
      have ad := add_Ss (a := ts.map (·.1)) (b := ts.map (·.2.1)) (by have : (ts.map (·.1) ++ ts.map (·.2.1)).length ≤ 300 := hl; rw [List.length_append] at this; omega)
      unfold s__law_named_0 s__law_named_1 s__law_named_2
      simp [word, raw, ruleD, atI, ixN, lc_t1, lc_t2, ad, -List.map_map, -List.map_append, -u_addL]
    | feed us ss n =>
      have ad := add_Ss (a := us.map (·.1)) (b := ss.map (·.1)) (by have : (us.map (·.1) ++ ss.map (·.1)).length ≤ 300 := hl; rw [List.length_append] at this; omega)
      unfold s__law_named_0 s__law_named_1 s__law_named_2
      simp [word, raw, ruleD, atI, ixN, lc_fst, ad, -List.map_map, -List.map_append, -u_addL]
    | table a ls =>
      unfold s__law_named_0 s__law_named_1 s__law_named_2
      simp [word, raw, ruleD, atI, ixN]
  obtain ⟨e, en, le⟩ := named_end (o0 := some (ruleD r)) (o1 := some (.str (word r))) (o3 := none) (o4 := none) (o5 := none) (o6 := none) hn hs.1 up hm
  unfold F__law_named runF
  rw [m__law_named_eq]
  have assoc : ∀ (s : OutS) (f g : MS), (s.seq f).seq g = s.seq (dSeq f g) := fun s f g => by cases s <;> rfl
  have sa : ∀ (f g h : MS), dSeq (dSeq f g) h = dSeq f (dSeq g h) := fun f g h => by
    funext e
    exact assoc _ _ _
  have st' := congrArg (fun s => OutS.seq s (dSeq s__law_named_3 s__law_named_4)) st
  simp only [assoc, sa, os_nx] at st'
  have en' : (dSeq s__law_named_3 s__law_named_4) [some (ruleD r), some (.str (word r)), some (.lst ((raw r).map D.str)), none, none, none, none] = .rt (T (nmOf ns r)) e := en
  rw [en'] at st'
  show (match (dSeq s__law_named_0 (dSeq s__law_named_1 (dSeq s__law_named_2 (dSeq s__law_named_3 s__law_named_4)))) [some (ruleD r), none, none, none, none, none, none] with | .nx e => _ | .rt d e => _ | .exc c a e => _ | _ => _) = _
  rw [u_seq, st']
  rfl
end Law
namespace PL
open PySem PySem.Spec PySem.W PyProof.Rows L2 DL
def com (a b : List Str) : List Str := a.filter fun x => decide (x ∈ b)
theorem com_sub {ns a b : List Str} (ha : a.Sublist ns) : (com a b).Sublist ns := List.filter_sublist.trans ha
theorem com_comm {ns a b : List Str} (hn : Up ns) (ha : a.Sublist ns) (hb : b.Sublist ns) : com b a = com a b :=
  up_ext (hn.sub (com_sub hb)) (hn.sub (com_sub ha)) fun x => by
    unfold com
    rw [mem_com, mem_com]
    exact ⟨fun h => ⟨h.2, h.1⟩, fun h => ⟨h.2, h.1⟩⟩
theorem uni_comm {ns a b : List Str} : uni ns b a = uni ns a b := by
  unfold uni
  exact List.filter_congr fun x _ => Bool.or_comm ..
theorem mj_of {ns a b : List Str} (ha : a.Sublist ns) (hb : b.Sublist ns) : MJ a b (com a b) (uni ns a b) := ⟨fun x => mem_com, fun x => mem_uni ha hb⟩
/-- what is due of a rule and two lots -/
def dueD (ns : List Str) (r : Rule) (a b : List Str) : D := if brk r (com a b) = false then .str "meet" else if brk r (uni ns a b) = false then .str "join" else .non
theorem dNe_w {x y : D} {b : Bool} (h : deq x y = some b) : dNe x y = some (.bool (!b)) := by
  unfold dNe
  rw [h]
  rfl
@[simp] theorem ne_mm : dNe (.str "meet") (.str "meet") = some (.bool false) := dNe_w (b := true) (by decide +kernel)
@[simp] theorem ne_jj : dNe (.str "join") (.str "join") = some (.bool false) := dNe_w (b := true) (by decide +kernel)
@[simp] theorem ne_nn : dNe .non .non = some (.bool false) := dNe_w (b := true) (by decide +kernel)
@[simp] theorem eq_mm : dEq (.str "meet") (.str "meet") = some (.bool true) := dEq_w (by decide +kernel)
@[simp] theorem eq_jm : dEq (.str "join") (.str "meet") = some (.bool false) := dEq_w (by decide +kernel)
@[simp] theorem isN_s {x : Str} : dIsN (.str x) .non = some (.bool false) := rfl
@[simp] theorem isN_n : dIsN .non .non = some (.bool true) := rfl
@[simp] theorem notN_s {x : Str} : dNotN (.str x) .non = some (.bool true) := rfl
@[simp] theorem notN_n : dNotN .non .non = some (.bool false) := rfl
theorem ne_table (r : Rule) : dNe (.str (Law.word r)) (.str "table") = some (.bool (!r.isTable)) := by
  cases r with
  | imply _ _ => exact (dNe_w (b := false) (by decide +kernel) : dNe (.str "imply") (.str "table") = _)
  | cap _ _ => exact (dNe_w (b := false) (by decide +kernel) : dNe (.str "cap") (.str "table") = _)
  | cut _ _ => exact (dNe_w (b := false) (by decide +kernel) : dNe (.str "cut") (.str "table") = _)
  | feed _ _ _ => exact (dNe_w (b := false) (by decide +kernel) : dNe (.str "feed") (.str "table") = _)
  | table _ _ => exact (dNe_w (b := true) (by decide +kernel) : dNe (.str "table") (.str "table") = _)
theorem ix_word (r : Rule) : dIx (ruleD r) (.int 0) = some (.str (Law.word r)) := by
  cases r <;> rfl
end PL
namespace Law
open PySem PySem.Spec PySem.W PyProof.Rows L2 DL PL
theorem meet_or_join_ok {ns a b : List Str} {r : Rule} (hn : Nms ns) (g : Good ns r) (ha : a.Sublist ns) (hb : b.Sublist ns) : F_meet_or_join [ruleD r, T a, T b] = .ok (dueD ns r a b) .non := by
  have hc : F_common [T a, T b] = .ok (T (com a b)) .non := common_ok (hn.lot ha) (hn.lot hb)
  have hu := united_uni hn ha hb
  have h1 := allows_ok hn g (com_sub (b := b) ha)
  have h2 := allows_ok hn g (sub_uni (a := a) (b := b))
  unfold F_meet_or_join runF m_meet_or_join dueD
  cases c1 : brk r (com a b) with
  | false =>
    rw [c1] at h1
    simp [hc, h1]
  | true =>
    rw [c1] at h1
    cases c2 : brk r (uni ns a b) with
    | false =>
      rw [c2] at h2
      simp [hc, h1, hu, h2]
    | true =>
      rw [c2] at h2
      simp [hc, h1, hu, h2]
/-- a pair of lots -/
def PairAt (ns : List Str) (r : Rule) (at_ : Int) (a : List Str) (e : EnvD) : Prop := ∃ o4 o5 o6 o7 o8, e = [some (ruleD r), some (.lst ((parts ns).map T)), some (.int at_), some (T a), o4, o5, o6, o7, o8]
theorem pair_turn {ns a b : List Str} {r : Rule} {at_ : Int} (hn : Nms ns) (g : Good ns r) (ha : a.Sublist ns) (hb : b.Sublist ns) {e : EnvD} (h : PairAt ns r at_ a e) :
    ∃ e2, (dSeq s__law_rule_right_1b_1b_0 (dSeq s__law_rule_right_1b_1b_1 (dSeq s__law_rule_right_1b_1b_2 (dSeq s__law_rule_right_1b_1b_3 (dSeq s__law_rule_right_1b_1b_4 (dSeq s__law_rule_right_1b_1b_5 s__law_rule_right_1b_1b_6)))))) (e.set 4 (some (T b))) = .nx e2 ∧ PairAt ns r at_ a e2 := by
  obtain ⟨o4, o5, o6, o7, o8, rfl⟩ := h
  have la := hn.lot ha
  have lb := hn.lot hb
  have st0 : s__law_rule_right_1b_1b_0 [some (ruleD r), some (.lst ((parts ns).map T)), some (.int at_), some (T a), some (T b), o5, o6, o7, o8] = .nx [some (ruleD r), some (.lst ((parts ns).map T)), some (.int at_), some (T a), some (T b), some (T (com a b)), o6, o7, o8] := by
    unfold s__law_rule_right_1b_1b_0
    simp [lc_in_T la lb]
    rfl
  have ad := add_Ss (a := a) (b := b.filter fun x => !decide (x ∈ a)) (by have := la.2; have := (hn.lot (List.filter_sublist.trans hb) : Lot10 (b.filter fun x => !decide (x ∈ a))).2; omega)
  have su := sortS (uni_perm hn.up ha hb) (hn.up.sub sub_uni)
  have st1 : s__law_rule_right_1b_1b_1 [some (ruleD r), some (.lst ((parts ns).map T)), some (.int at_), some (T a), some (T b), some (T (com a b)), o6, o7, o8] = .nx [some (ruleD r), some (.lst ((parts ns).map T)), some (.int at_), some (T a), some (T b), some (T (com a b)), some (T (uni ns a b)), o7, o8] := by
    unfold s__law_rule_right_1b_1b_1
    simp [lc_nin_T lb la, ad, su, -u_addL, -List.map_append]
  have b1 := breaks_ok hn g (com_sub (b := b) ha)
  have b2 := breaks_ok hn g (sub_uni (a := a) (b := b))
  have st3 : s__law_rule_right_1b_1b_3 [some (ruleD r), some (.lst ((parts ns).map T)), some (.int at_), some (T a), some (T b), some (T (com a b)), some (T (uni ns a b)), some .non, o8] = .nx [some (ruleD r), some (.lst ((parts ns).map T)), some (.int at_), some (T a), some (T b), some (T (com a b)), some (T (uni ns a b)), some (dueD ns r a b), o8] := by
    unfold s__law_rule_right_1b_1b_3 dueD
    cases c1 : brk r (com a b) with
    | false =>
      rw [c1] at b1
      simp [b1]
    | true =>
      rw [c1] at b1
      cases c2 : brk r (uni ns a b) with
      | false =>
        rw [c2] at b2
        simp [b1, b2]
      | true =>
        rw [c2] at b2
        simp [b1, b2]
  have m1 := meet_or_join_ok hn g ha hb
  have m2 : F_meet_or_join [ruleD r, T b, T a] = .ok (dueD ns r a b) .non := by
    rw [meet_or_join_ok hn g hb ha]
    unfold dueD
    rw [com_comm hn.up ha hb, uni_comm]
  have nd : dNe (dueD ns r a b) (dueD ns r a b) = some (.bool false) := by
    unfold dueD
    split
    · exact ne_mm
    · split
      · exact ne_jj
      · exact ne_nn
  have st4 : s__law_rule_right_1b_1b_4 [some (ruleD r), some (.lst ((parts ns).map T)), some (.int at_), some (T a), some (T b), some (T (com a b)), some (T (uni ns a b)), some (dueD ns r a b), o8] = .nx [some (ruleD r), some (.lst ((parts ns).map T)), some (.int at_), some (T a), some (T b), some (T (com a b)), some (T (uni ns a b)), some (dueD ns r a b), o8] := by
    unfold s__law_rule_right_1b_1b_4
    simp [m1, m2, nd]
  have hc : F_common [T a, T b] = .ok (T (com a b)) .non := common_ok la lb
  have hu : F_united [T b, T a] = .ok (T (uni ns a b)) .non := by rw [united_uni hn hb ha, uni_comm]
  have h1 := allows_ok hn g (com_sub (b := b) ha)
  have h2 := allows_ok hn g (sub_uni (a := a) (b := b))
  have st5 : s__law_rule_right_1b_1b_5 [some (ruleD r), some (.lst ((parts ns).map T)), some (.int at_), some (T a), some (T b), some (T (com a b)), some (T (uni ns a b)), some (dueD ns r a b), o8] = .nx [some (ruleD r), some (.lst ((parts ns).map T)), some (.int at_), some (T a), some (T b), some (T (com a b)), some (T (uni ns a b)), some (dueD ns r a b), o8] := by
    unfold s__law_rule_right_1b_1b_5 dueD
    cases c1 : brk r (com a b) with
    | false =>
      rw [c1] at h1
      simp [hc, h1]
    | true =>
      cases c2 : brk r (uni ns a b) with
      | false =>
        rw [c2] at h2
        simp [hu, h2]
      | true => simp
  have b3 := breaks_ok hn g ha
  have b4 := breaks_ok hn g hb
  have st6 : s__law_rule_right_1b_1b_6 [some (ruleD r), some (.lst ((parts ns).map T)), some (.int at_), some (T a), some (T b), some (T (com a b)), some (T (uni ns a b)), some (dueD ns r a b), o8] = .nx [some (ruleD r), some (.lst ((parts ns).map T)), some (.int at_), some (T a), some (T b), some (T (com a b)), some (T (uni ns a b)), some (dueD ns r a b), o8] := by
    unfold s__law_rule_right_1b_1b_6 dueD
    cases c1 : brk r (com a b) with
    | false => simp
    | true =>
      cases c2 : brk r (uni ns a b) with
      | false => simp
      | true =>
        cases c3 : r.isTable with
        | true => simp [ix_word, ne_table, c3]
        | false =>
          cases c4 : brk r a with
          | true =>
            rw [c4] at b3
            simp [ix_word, ne_table, c3, b3]
          | false =>
            cases c5 : brk r b with
            | true =>
              rw [c4] at b3
              rw [c5] at b4
              simp [ix_word, ne_table, c3, b3, b4]
            | false =>
              rcases one_of g c3 (mj_of ha hb) c4 c5 with q | q
              · rw [c1] at q; cases q
              · rw [c2] at q; cases q
  refine ⟨_, ?_, some (T b), some (T (com a b)), some (T (uni ns a b)), some (dueD ns r a b), o8, rfl⟩
  show (dSeq s__law_rule_right_1b_1b_0 _) [some (ruleD r), some (.lst ((parts ns).map T)), some (.int at_), some (T a), some (T b), o5, o6, o7, o8] = _
  have st2 : s__law_rule_right_1b_1b_2 [some (ruleD r), some (.lst ((parts ns).map T)), some (.int at_), some (T a), some (T b), some (T (com a b)), some (T (uni ns a b)), o7, o8] = .nx [some (ruleD r), some (.lst ((parts ns).map T)), some (.int at_), some (T a), some (T b), some (T (com a b)), some (T (uni ns a b)), some .non, o8] := rfl
  simp only [u_seq, st0, st1, st2, st3, st4, st5, st6, os_nx]
/-- a lot and all behind it -/
def LotAt (ns : List Str) (r : Rule) (e : EnvD) : Prop := ∃ o2 o3 o4 o5 o6 o7 o8, e = [some (ruleD r), some (.lst ((parts ns).map T)), o2, o3, o4, o5, o6, o7, o8]
theorem rule_right_ok {ns : List Str} {r : Rule} (hn : Nms ns) (g : Good ns r) : F__law_rule_right [ruleD r, .lst ((parts ns).map T)] = .ok (.bool true) .non := by
  have n1 := names_of_ok hn g
  have n2 := named_ok hn g
  have rn := repr_of (nice_T (hn.lot (nm_sub (ns := ns) (r := r))))
  have nn := ne_shown (nice_T (hn.lot (nm_sub (ns := ns) (r := r))))
  have st0 : s__law_rule_right_0 [some (ruleD r), some (.lst ((parts ns).map T)), none, none, none, none, none, none, none] = .nx [some (ruleD r), some (.lst ((parts ns).map T)), none, none, none, none, none, none, none] := by
    unfold s__law_rule_right_0
    simp [n1, n2, rn, nn]
  have en : (((parts ns).map T).mapIdx fun i d => D.tup [.int (i : Nat), d]) = ((parts ns).zipIdx).map fun p => D.tup [.int (p.2 : Nat), T p.1] := by
    rw [mapIdx_enum, List.zipIdx_map, List.map_map]
    rfl
  obtain ⟨env, q1, q2⟩ := for_inv (gd := gT 2 (gsCons (gN 2) (gsCons (gN 3) gsNil))) (body := dSeq s__law_rule_right_1b_0 s__law_rule_right_1b_1) (I := fun _ e => LotAt ns r e) (J := fun _ => False) (ds := ((parts ns).zipIdx).map fun p => D.tup [.int (p.2 : Nat), T p.1]) (k := 0) (env := [some (ruleD r), some (.lst ((parts ns).map T)), none, none, none, none, none, none, none]) ⟨_, _, _, _, _, _, _, rfl⟩ fun i d env hd hI => by
    obtain ⟨o2, o3, o4, o5, o6, o7, o8, rfl⟩ := hI
    obtain ⟨p, hp, rfl⟩ := List.mem_map.mp (List.mem_of_getElem? hd)
    have ha : p.1.Sublist ns := mem_parts.mp (List.fst_mem_of_mem_zipIdx hp)
    refine ⟨[some (ruleD r), some (.lst ((parts ns).map T)), some (.int (p.2 : Nat)), some (T p.1), o4, o5, o6, o7, o8], rfl, .inl ?_⟩
    have h1 := allows_ok hn g ha
    have h2 := breaks_ok hn g ha
    have rb := repr_of (nice_bool (n := 1) (c := 600) (b := !brk r p.1))
    have nb := ne_shown (nice_bool (n := 1) (c := 600) (b := !brk r p.1))
    have st1 : s__law_rule_right_1b_0 [some (ruleD r), some (.lst ((parts ns).map T)), some (.int (p.2 : Nat)), some (T p.1), o4, o5, o6, o7, o8] = .nx [some (ruleD r), some (.lst ((parts ns).map T)), some (.int (p.2 : Nat)), some (T p.1), o4, o5, o6, o7, o8] := by
      unfold s__law_rule_right_1b_0
      simp [h1, h2, rb, nb]
    obtain ⟨e2, w1, w2⟩ := for_inv (gd := gN 4) (body := (dSeq s__law_rule_right_1b_1b_0 (dSeq s__law_rule_right_1b_1b_1 (dSeq s__law_rule_right_1b_1b_2 (dSeq s__law_rule_right_1b_1b_3 (dSeq s__law_rule_right_1b_1b_4 (dSeq s__law_rule_right_1b_1b_5 s__law_rule_right_1b_1b_6))))))) (I := fun _ e => PairAt ns r (p.2 : Nat) p.1 e) (J := fun _ => False) (ds := ((parts ns).drop p.2).map T) (k := 0) (env := [some (ruleD r), some (.lst ((parts ns).map T)), some (.int (p.2 : Nat)), some (T p.1), o4, o5, o6, o7, o8]) ⟨_, _, _, _, _, rfl⟩ fun i d env hd hI => by
      obtain ⟨b, hb, rfl⟩ := List.mem_map.mp (List.mem_of_getElem? hd)
      obtain ⟨e2, x1, x2⟩ := pair_turn hn g ha (mem_parts.mp (List.mem_of_mem_drop hb)) hI
      exact ⟨_, rfl, .inl ⟨e2, .inl x1, x2⟩⟩
    have w2 : PairAt ns r (p.2 : Nat) p.1 e2 := w2.elim id False.elim
    have cut : DL.cutD ((parts ns).map T) (some (p.2 : Int)) none = ((parts ns).drop p.2).map T := by
      rw [cut_from _ (by omega), ← List.map_drop]
      rfl
    refine ⟨e2, .inl ?_, ?_⟩
    · rw [u_seq, st1, os_nx, ← w1]
      unfold s__law_rule_right_1b_1
      simp [cut]
    · obtain ⟨p4, p5, p6, p7, p8, rfl⟩ := w2
      exact ⟨_, _, _, _, _, _, _, rfl⟩
  obtain ⟨o2, o3, o4, o5, o6, o7, o8, rfl⟩ := q2.elim id False.elim
  unfold F__law_rule_right runF
  rw [m__law_rule_right_eq]
  have st1 : s__law_rule_right_1 [some (ruleD r), some (.lst ((parts ns).map T)), none, none, none, none, none, none, none] = .nx [some (ruleD r), some (.lst ((parts ns).map T)), o2, o3, o4, o5, o6, o7, o8] := by
    rw [← q1]
    unfold s__law_rule_right_1
    simp only [u_for, u_enum, u_cons, u_nil, u_var, ob_ok, List.getElem?_cons_succ, List.getElem?_cons_zero, en]
  simp [st0, st1, s__law_rule_right_2]
end Law
namespace PL
open PySem PySem.Spec PySem.W PyProof.Rows L2 DL
@[simp] theorem cutTup {ds : List D} {a b : Option Int} : dCut (.tup ds) a b = some (.tup (DL.cutD ds a b)) := rfl
theorem nice_int {n : Int} (h : -1000000 ≤ n ∧ n ≤ 1000000) : Nice 0 52 (.int n) := by
  have h1 : n.natAbs < 2 ^ 20 := by omega
  have h2 : n.natAbs.log2 < 20 := by
    by_cases z : n.natAbs = 0
    · rw [z]
      decide
    · exact (Nat.log2_lt z).mpr h1
  refine ⟨rfl, rfl, ?_, Nat.zero_le _, ?_⟩
  · show PyData.showable (.int n) = true
    unfold PyData.showable
    exact decide_eq_true (by omega)
  · show n.natAbs.log2 + 2 ≤ 52
    omega
theorem nam_imply : Nam (Str.ofString "imply") := ⟨⟨by decide +kernel, by decide +kernel⟩, by decide +kernel⟩
theorem nam_cap : Nam (Str.ofString "cap") := ⟨⟨by decide +kernel, by decide +kernel⟩, by decide +kernel⟩
theorem nam_cut : Nam (Str.ofString "cut") := ⟨⟨by decide +kernel, by decide +kernel⟩, by decide +kernel⟩
theorem nam_feed : Nam (Str.ofString "feed") := ⟨⟨by decide +kernel, by decide +kernel⟩, by decide +kernel⟩
theorem nam_table : Nam (Str.ofString "table") := ⟨⟨by decide +kernel, by decide +kernel⟩, by decide +kernel⟩
theorem nam_word (r : Rule) : Nam (Law.word r) := by
  cases r with
  | imply _ _ => exact nam_imply
  | cap _ _ => exact nam_cap
  | cut _ _ => exact nam_cut
  | feed _ _ _ => exact nam_feed
  | table _ _ => exact nam_table
theorem nice_tupW {n c m : Nat} {l : List D} (h : ∀ d ∈ l, Nice n c d) (hl : l.length ≤ m) : Nice (n + 1) (m * (c + 2) + 3) (.tup l) := by
  refine (nice_tup h).mono (Nat.le_refl _) ?_
  have := Nat.mul_le_mul_right (c + 2) hl
  omega
theorem nice_pair {p : Str × Int} (h1 : Nam p.1) (h2 : 0 ≤ p.2 ∧ p.2 ≤ 1000000) : Nice 1 120 (pairN p) := by
  refine (nice_tupW (n := 0) (c := 52) (m := 2) (l := [.str p.1, .int p.2]) (fun d hd => ?_) (by simp)).mono (Nat.le_refl _) (by decide)
  rcases List.mem_cons.mp hd with rfl | hd
  · exact nice_str h1
  · rw [List.mem_singleton.mp hd]
    exact nice_int ⟨by omega, h2.2⟩
theorem nice_trip {t : Str × Str × Int} (h1 : Nam t.1) (h2 : Nam t.2.1) (h3 : 1 ≤ t.2.2 ∧ t.2.2 ≤ 3) : Nice 1 170 (tripD t) := by
  refine (nice_tupW (n := 0) (c := 52) (m := 3) (l := [.str t.1, .str t.2.1, .int t.2.2]) (fun d hd => ?_) (by simp)).mono (Nat.le_refl _) (by decide)
  rcases List.mem_cons.mp hd with rfl | hd
  · exact nice_str h1
  · rcases List.mem_cons.mp hd with rfl | hd
    · exact nice_str h2
    · rw [List.mem_singleton.mp hd]
      exact nice_int ⟨by omega, by omega⟩
theorem nice_pairs {ns : List Str} {ps : List (Str × Int)} (hn : Nms ns) (hp : (ps.map (·.1)).Sublist ns) (hq : ∀ p ∈ ps, 0 ≤ p.2 ∧ p.2 ≤ 1000000) : Nice 2 700000 (.tup (ps.map pairN)) := by
  have hl := hp.length_le
  have := hn.len
  rw [List.length_map] at hl
  refine (nice_tupW (n := 1) (c := 120) (m := 10) (fun d hd => ?_) (by rw [List.length_map]; omega)).mono (Nat.le_refl _) (by decide)
  obtain ⟨p, h, rfl⟩ := List.mem_map.mp hd
  exact nice_pair (hn.nam _ (hp.subset (List.mem_map.mpr ⟨p, h, rfl⟩))) (hq p h)
theorem nice_trips {ns : List Str} {ts : List (Str × Str × Int)} (hn : Nms ns) (hp : (ts.map key).Sublist (prs ns)) (hq : ∀ t ∈ ts, 1 ≤ t.2.2 ∧ t.2.2 ≤ 3) : Nice 2 700000 (.tup (ts.map tripD)) := by
  have l2 := hp.length_le
  have hp2 : (prs ns).length ≤ 100 := Nat.le_trans (Law.pairs_len ns) (Nat.mul_le_mul hn.len hn.len)
  rw [List.length_map] at l2
  refine (nice_tupW (n := 1) (c := 170) (m := 100) (fun d hd => ?_) (by rw [List.length_map]; omega)).mono (Nat.le_refl _) (by decide)
  obtain ⟨t, h, rfl⟩ := List.mem_map.mp hd
  have m := prs_mem (hp.subset (List.mem_map.mpr ⟨t, h, rfl⟩))
  exact nice_trip (hn.nam _ m.1) (hn.nam _ m.2) (hq t h)
theorem Row_of {ns a : List Str} {ls : List (List Str)} (hn : Nms ns) (ha : a.Sublist ns) (h : ls.Sublist (parts a)) : Row ls := (Nms.row ⟨hn.up.sub ha, (hn.lot ha).1, (hn.lot ha).2⟩).sub h
/-- a rule can be shown and compared -/
theorem nice_rule {ns : List Str} {r : Rule} (hn : Nms ns) (g : Good ns r) : Nice 3 2900000 (ruleD r) := by
  have w := (nice_str (n := 0) (nam_word r)).mono (m := 2) (k := 700000) (by decide) (by decide)
  have tp : ∀ l : List D, (∀ d ∈ l, Nice 2 700000 d) → l.length ≤ 4 → Nice 3 2900000 (.tup l) := fun l h hl => (nice_tupW (m := 4) h hl).mono (Nat.le_refl _) (by decide)
  cases r with
  | imply a b =>
    refine tp _ (fun d hd => ?_) (by simp)
    simp only [List.mem_cons, List.not_mem_nil, or_false] at hd
    rcases hd with rfl | rfl | rfl
    · exact w
    · exact (nice_T (hn.lot g.1)).mono (by decide) (by decide)
    · exact (nice_T (hn.lot g.2)).mono (by decide) (by decide)
  | cap ps n =>
    refine tp _ (fun d hd => ?_) (by simp)
    simp only [List.mem_cons, List.not_mem_nil, or_false] at hd
    rcases hd with rfl | rfl | rfl
    · exact w
    · exact nice_pairs hn g.1 g.2.1
    · exact (nice_int ⟨by have := g.2.2.1; omega, g.2.2.2⟩).mono (by decide) (by decide)
  | cut ts n =>
    refine tp _ (fun d hd => ?_) (by simp)
    simp only [List.mem_cons, List.not_mem_nil, or_false] at hd
    rcases hd with rfl | rfl | rfl
    · exact w
    · exact nice_trips hn g.1 g.2.1
    · exact (nice_int ⟨by have := g.2.2.1; omega, g.2.2.2⟩).mono (by decide) (by decide)
  | feed us ss n =>
    refine tp _ (fun d hd => ?_) (by simp)
    simp only [List.mem_cons, List.not_mem_nil, or_false] at hd
    rcases hd with rfl | rfl | rfl | rfl
    · exact w
    · exact nice_pairs hn g.1.1 g.2.1
    · exact nice_pairs hn g.1.2.1 g.2.2.1
    · exact (nice_int ⟨by have := g.2.2.2.1; omega, by have := g.2.2.2.2; omega⟩).mono (by decide) (by decide)
  | table a ls =>
    refine tp _ (fun d hd => ?_) (by simp)
    simp only [List.mem_cons, List.not_mem_nil, or_false] at hd
    rcases hd with rfl | rfl | rfl
    · exact w
    · exact (nice_T (hn.lot g.1)).mono (by decide) (by decide)
    · exact nice_rowT (Row_of hn g.1 g.2)
/-- None is not among what was kept -/
theorem no_non {ds : List D} (h : ∀ d ∈ ds, Nice 2 700000 d ∧ PyData.eqv d.py .none = false) : dIn .non (.tup ds) = some (.bool false) := by
  show (if D.non.fine = true ∧ (D.tup ds).fine = true then some (D.bool (ds.any fun y => PyData.eqv y.py .none)) else none) = _
  rw [if_pos ⟨rfl, (nice_tup fun d hd => (h d hd).1).fine⟩]
  congr 2
  exact List.any_eq_false.mpr fun d hd => by
    rw [(h d hd).2]
    decide
theorem no_nonL {ds : List D} (h : ∀ d ∈ ds, Nice 2 700000 d ∧ PyData.eqv d.py .none = false) : dIn .non (.lst ds) = some (.bool false) := by
  show (if D.non.fine = true ∧ (D.lst ds).fine = true then some (D.bool (ds.any fun y => PyData.eqv y.py .none)) else none) = _
  rw [if_pos ⟨rfl, (nice_lst fun d hd => (h d hd).1).fine⟩]
  congr 2
  exact List.any_eq_false.mpr fun d hd => by
    rw [(h d hd).2]
    decide
/-! ### pairs and triples, sorted -/
theorem ltP {p q : Str × Int} (h : Lt p.1 q.1) : dataLt (pairN p).py (pairN q).py = true := by
  show dataLt (.tuple (pyL [.str p.1, .int p.2])) (.tuple (pyL [.str q.1, .int q.2])) = true
  rw [dataLt_tuple]
  show PyProof.Rows.lexLt itemOrd (.inl 1 :: (.inr p.1.cps.toList :: _)) (.inl 1 :: (.inr q.1.cps.toList :: _)) = _
  rw [lex_self (O := itemOrd), lex_diff (O := itemOrd) (fun e => ?_)]
  · exact decide_eq_true h
  · have e : p.1.cps.toList = q.1.cps.toList := Sum.inr.inj e
    have e : p.1 = q.1 := str_of_cps e
    rw [e] at h
    exact Lt.irrefl h
theorem ltTr {p q : Str × Str × Int} (h : Lt p.1 q.1 ∨ (p.1 = q.1 ∧ Lt p.2.1 q.2.1)) : dataLt (tripD p).py (tripD q).py = true := by
  show dataLt (.tuple (pyL [.str p.1, .str p.2.1, .int p.2.2])) (.tuple (pyL [.str q.1, .str q.2.1, .int q.2.2])) = true
  rw [dataLt_tuple]
  show PyProof.Rows.lexLt itemOrd (.inl 1 :: (.inr p.1.cps.toList :: (.inl 1 :: (.inr p.2.1.cps.toList :: _)))) (.inl 1 :: (.inr q.1.cps.toList :: (.inl 1 :: (.inr q.2.1.cps.toList :: _)))) = _
  rw [lex_self (O := itemOrd)]
  rcases h with h | ⟨h1, h⟩
  · rw [lex_diff (O := itemOrd) (fun e => ?_)]
    · exact decide_eq_true h
    · have e : p.1.cps.toList = q.1.cps.toList := Sum.inr.inj e
      have e : p.1 = q.1 := str_of_cps e
      rw [e] at h
      exact Lt.irrefl h
  · rw [h1, lex_self (O := itemOrd), lex_self (O := itemOrd), lex_diff (O := itemOrd) (fun e => ?_)]
    · exact decide_eq_true h
    · have e : p.2.1.cps.toList = q.2.1.cps.toList := Sum.inr.inj e
      have e : p.2.1 = q.2.1 := str_of_cps e
      rw [e] at h
      exact Lt.irrefl h
theorem asc_prs : ∀ {ns : List Str}, Up ns → (prs ns).Pairwise fun p q => Lt p.1 q.1 ∨ (p.1 = q.1 ∧ Lt p.2 q.2)
  | [], _ => .nil
  | n :: ns, h => by
    obtain ⟨h1, h2⟩ := List.pairwise_cons.mp h
    rw [prs, List.pairwise_append, List.pairwise_map]
    refine ⟨h2.imp fun {a b} q => .inr ⟨rfl, q⟩, asc_prs h2, fun a ha b hb => ?_⟩
    obtain ⟨m, hm, rfl⟩ := List.mem_map.mp ha
    exact .inl (h1 _ (prs_mem hb).1)
theorem asc_pairs {ns : List Str} {ps : List (Str × Int)} (hn : Up ns) (hp : (ps.map (·.1)).Sublist ns) : Asc (ps.map pairN) := by
  have u : Up (ps.map (·.1)) := hn.sub hp
  unfold Up at u
  rw [List.pairwise_map] at u
  unfold Asc
  rw [List.pairwise_map]
  exact u.imp fun {a b} q => ltP q
theorem asc_trips {ns : List Str} {ts : List (Str × Str × Int)} (hn : Up ns) (hp : (ts.map key).Sublist (prs ns)) : Asc (ts.map tripD) := by
  have u := List.Pairwise.sublist hp (asc_prs hn)
  rw [List.pairwise_map] at u
  unfold Asc
  rw [List.pairwise_map]
  exact u.imp fun {a b} q => ltTr q
theorem sortOk_of {α : Type} {f : α → D} {l : List α} (h1 : ∀ x, (f x).plain = true) (h2 : ∀ x y, alike (f x).py (f y).py = true) (h3 : ∀ x, isTup (f x).py = true) (h4 : ∀ x, (f x).py.depth ≤ 64) : sortOk (l.map f) = true := by
  unfold sortOk
  have p : plainL (l.map f) = true := plainL_of fun d hd => by
    obtain ⟨x, _, rfl⟩ := List.mem_map.mp hd
    exact h1 x
  have a : alikeD (l.map f) = true := List.all_eq_true.mpr fun d hd => List.all_eq_true.mpr fun e he => by
    obtain ⟨x, _, rfl⟩ := List.mem_map.mp hd
    obtain ⟨y, _, rfl⟩ := List.mem_map.mp he
    exact h2 x y
  have t : tupsD (l.map f) = true := List.all_eq_true.mpr fun d hd => by
    obtain ⟨x, _, rfl⟩ := List.mem_map.mp hd
    exact h3 x
  have z : ((l.map f).all fun a => decide (a.py.depth ≤ 64)) = true := List.all_eq_true.mpr fun d hd => by
    obtain ⟨x, _, rfl⟩ := List.mem_map.mp hd
    exact decide_eq_true (h4 x)
  rw [p, a, t, z]
  rfl
theorem sortOk_pairs {ps : List (Str × Int)} : sortOk (ps.map pairN) = true := sortOk_of (fun _ => rfl) (fun _ _ => rfl) (fun _ => rfl) fun x => by
  show PyData.depth (.tuple [.str x.1, .int x.2]) ≤ 64
  simp [PyData.depth, PyData.depthAll]
theorem sortOk_trips {ts : List (Str × Str × Int)} : sortOk (ts.map tripD) = true := sortOk_of (fun _ => rfl) (fun _ _ => rfl) (fun _ => rfl) fun x => by
  show PyData.depth (.tuple [.str x.1, .str x.2.1, .int x.2.2]) ≤ 64
  simp [PyData.depth, PyData.depthAll]
end PL
namespace Law
open PySem PySem.Spec PySem.W PyProof.Rows L2 DL PL
theorem is_seq {d : D} {b : Bool} (h : dIsT2 "list" "tuple" d = some (.bool b)) : F_is_sequence [d] = .ok (.bool b) .non := by
  unfold F_is_sequence runF m_is_sequence
  simp [h]
theorem is_num {n m : Int} : F_is_number [.int n, .int m] = .ok (.bool (decide (m ≤ n) && decide (n ≤ 1000000))) .non := by
  have h : F_is_integer [.int n] = .ok (.bool true) .non := by
    have t1 : dIsT "int" (.int n) = some (.bool true) := rfl
    have t2 : dIsT "bool" (.int n) = some (.bool false) := rfl
    unfold F_is_integer runF m_is_integer
    simp [t1, t2]
  unfold F_is_number runF m_is_number
  by_cases c : m ≤ n <;> simp [h, c]
theorem kept_num {n m : Int} (h1 : m ≤ n) (h2 : n ≤ 1000000) : F_kept_number [.int n, .int m] = .ok (.int n) .non := by
  have h := is_num (n := n) (m := m)
  unfold F_kept_number runF m_kept_number
  simp [h, h1, h2]
theorem kept_lot_of {d : D} {svc l t : List Str} (hd : d = T l ∨ d = .lst (l.map D.str)) (hv : Lot10 svc) (hl : ∀ x ∈ l, x ∈ svc) (p : l.Perm t) (up : Up t) (hz : t.length ≤ 1000) : F_kept_lot [d, T svc] = .ok (T t) .non := by
  have sz : 4000 ≤ sizeLine := by decide
  have hi : items d = some (l.map D.str) := by rcases hd with rfl | rfl <;> rfl
  have hs : F_is_sequence [d] = .ok (.bool true) .non := by rcases hd with rfl | rfl <;> exact is_seq rfl
  have hso : dSortedT [d] = some (.lst (t.map D.str)) := by
    have e : dSortedT [d] = (if sortOk (l.map D.str) = true then some (.lst (sortD (l.map D.str))) else none) := by rcases hd with rfl | rfl <;> rfl
    rw [e, if_pos sortOk_S, sortS p up]
  have lc1 := fun o2 o3 o4 => lc_embPure (env := [some d, some (T svc), o2, o3, o4]) (gd := gN 3) (m := (dAndV (dUn (dIsT "str") (dVar 3)) (dOp2 dIn (dVar 3) (dVar 1)))) (vs := [3]) D.str (fun _ => D.bool true) (l := l) fun x hx => ⟨_, rfl, by
    have t1 : dIsT "str" (.str x) = some (.bool true) := rfl
    simp [wipeE, t1, in_T (hv.1 x (hl x hx)) hv, hl x hx]⟩
  have ha : ∀ {α : Type} (l : List α), dAll [.lst (l.map fun _ => D.bool true)] = some (.bool true) := fun l => by rw [dAll_map]; simp
  have hr : (t.length : Int) - 1 ≤ (sizeLine : Int) ∧ -4611686018427387904 ≤ (t.length : Int) - 1 := ⟨by omega, by omega⟩
  have e : ((t.length : Int) - 1).toNat = t.length - 1 := by omega
  have hrd : rangeD 0 (t.length - 1) = (List.range (t.length - 1)).map fun i : Nat => D.int (i : Nat) := by
    unfold rangeD
    exact List.map_congr_left fun i _ => by rw [Int.zero_add]
  have hix : ∀ (i : Nat) (x : Str), t[i]? = some x → dIx (T t) (.int (i : Int)) = some (.str x) := fun i x h => by
    have hi := (List.getElem?_eq_some_iff.mp h).1
    show atI (t.map D.str) (i : Int) = _
    unfold atI ixN
    rw [if_pos (by omega), if_pos (by rw [List.length_map]; omega)]
    simp [h]
  have nmt : ∀ x ∈ t, Nam x := fun x hx => hv.1 x (hl x (p.mem_iff.mpr hx))
  have lc2 := fun o3 o4 => lc_embPure (env := [some d, some (T svc), some (T t), o3, o4]) (gd := gN 4) (m := (dOp2 dNe (dOp2 dIx (dVar 2) (dVar 4)) (dOp2 dIx (dVar 2) (dOp2 dAdd (dVar 4) (dC (.int 1)))))) (vs := [4]) (fun i : Nat => D.int (i : Nat)) (fun _ => D.bool true) (l := List.range (t.length - 1)) fun i hi => by
    have hi := List.mem_range.mp hi
    refine ⟨_, rfl, ?_⟩
    have h1 := hix i _ (List.getElem?_eq_getElem (by omega))
    have h2 := hix (i + 1) _ (List.getElem?_eq_getElem (by omega))
    have h2 : dIx (T t) (.int ((i : Int) + 1)) = _ := h2
    have hlt : Lt (t[i]'(by omega)) (t[i + 1]'(by omega)) := (List.pairwise_iff_getElem.mp up) _ _ (by omega) (by omega) (by omega)
    have n1 : Nam (t[i]'(by omega)) := nmt _ (List.getElem_mem _)
    have n2 : Nam (t[i + 1]'(by omega)) := nmt _ (List.getElem_mem _)
    generalize t[i]'(by omega) = x at *
    generalize t[i + 1]'(by omega) = y at *
    have ne : x ≠ y := fun e => by
      rw [e] at hlt
      exact Lt.irrefl hlt
    have hne : dNe (.str x) (.str y) = some (.bool true) := by
      rw [dNe_w (deq_str n1 n2)]
      simp [ne]
    simp [wipeE, h1, h2, hne]
  unfold F_kept_lot runF m_kept_lot
  simp [hs, hi, lc1, ha, hso, hr, e, hrd, lc2]
theorem kept_lot_T {svc l : List Str} (hv : Lot10 svc) (hl : ∀ x ∈ l, x ∈ svc) (up : Up l) (hz : l.length ≤ 1000) : F_kept_lot [T l, T svc] = .ok (T l) .non := kept_lot_of (.inl rfl) hv hl (.refl l) up hz
theorem all_true {α : Type} (l : List α) : dAll [.lst (l.map fun _ => D.bool true)] = some (.bool true) := by rw [dAll_map]; simp
theorem kept_pairs_ok {ns : List Str} {ps : List (Str × Int)} (hn : Nms ns) (hp : (ps.map (·.1)).Sublist ns) (hq : ∀ p ∈ ps, 0 ≤ p.2 ∧ p.2 ≤ 1000000) : F_kept_pairs [.tup (ps.map pairN), T ns] = .ok (.tup (ps.map pairN)) .non := by
  have hs : F_is_sequence [.tup (ps.map pairN)] = .ok (.bool true) .non := is_seq rfl
  have lc1 := lc_embPure (env := [some (.tup (ps.map pairN)), some (T ns), none]) (gd := gN 2) (m := (dAndV (dCall F_is_sequence [] (dCons (dVar 2) dNil)) (dOp2 dEq (dCB dLen (dCons (dVar 2) dNil)) (dC (.int 2))))) (vs := [2]) pairN (fun _ => D.bool true) (l := ps) fun p _ => ⟨_, rfl, by
    have h : F_is_sequence [pairN p] = .ok (.bool true) .non := is_seq rfl
    have h2 : dLen [pairN p] = some (.int 2) := rfl
    simp [wipeE, h, h2, deq_int]⟩
  have hk : F_kept_lot [.lst ((ps.map (·.1)).map D.str), T ns] = .ok (T (ps.map (·.1))) .non := kept_lot_of (.inr rfl) ⟨hn.nam, hn.len⟩ (fun x hx => hp.subset hx) (.refl _) (hn.up.sub hp) (by have := hp.length_le; have := hn.len; omega)
  have lc3 := lc_embPure (env := [some (.tup (ps.map pairN)), some (T ns), none]) (gd := gN 2) (m := (dCall F_is_number [] (dCons (dOp2 dIx (dVar 2) (dC (.int 1))) (dCons (dC (.int 0)) dNil)))) (vs := [2]) pairN (fun _ => D.bool true) (l := ps) fun p hp => ⟨_, rfl, by
    have h := is_num (n := p.2) (m := 0)
    have := hq p hp
    simp [wipeE, pairN, atI, ixN, h, this]⟩
  have lc4 := lc_embPure (env := [some (.tup (ps.map pairN)), some (T ns), none]) (gd := gN 2) (m := (dCB dTuple (dCons (dVar 2) dNil))) (vs := [2]) pairN pairN (l := ps) fun p hp => ⟨_, rfl, by simp [wipeE, pairN]⟩
  have so := sortD_asc (.refl _) (asc_pairs hn.up hp)
  have isN : dIsN (T (ps.map (·.1))) .non = some (.bool false) := rfl
  unfold F_kept_pairs runF m_kept_pairs
  simp [hs, lc1, all_true, lc_fst, hk, isN, lc3, lc4, sortOk_pairs, so, -List.map_map]
theorem kept_feed_ok {ns : List Str} {us ss : List (Str × Int)} (hn : Nms ns) (hu : (us.map (·.1)).Sublist ns) (hs : (ss.map (·.1)).Sublist ns) (hd : ∀ p ∈ us, ∀ q ∈ ss, p.1 ≠ q.1) (h1 : ∀ p ∈ us, 0 ≤ p.2 ∧ p.2 ≤ 1000000) (h2 : ∀ p ∈ ss, 0 ≤ p.2 ∧ p.2 ≤ 1000000) :
    F_kept_feed [.tup (us.map pairN), .tup (ss.map pairN), T ns] = .ok (.tup [.tup (us.map pairN), .tup (ss.map pairN)]) .non := by
  have k1 := kept_pairs_ok hn hu h1
  have k2 := kept_pairs_ok hn hs h2
  have l1 := hu.length_le
  have l2 := hs.length_le
  have l3 := hn.len
  rw [List.length_map] at l1 l2
  have ad : dAdd (.tup (us.map pairN)) (.tup (ss.map pairN)) = some (.tup ((us ++ ss).map pairN)) := by
    have : 4000 ≤ sizeLine := by decide
    show (if _ + _ ≤ sizeLine then _ else _) = _
    rw [if_pos (by rw [List.length_map, List.length_map]; omega), ← List.map_append]
  have nd : ((us ++ ss).map (·.1)).Nodup := by
    rw [List.map_append, List.nodup_append]
    refine ⟨hn.up.nodup.sublist hu, hn.up.nodup.sublist hs, fun a ha b hb e => ?_⟩
    obtain ⟨p, hp, rfl⟩ := List.mem_map.mp ha
    obtain ⟨q, hq, rfl⟩ := List.mem_map.mp hb
    exact hd p hp q hq e
  have mem : ∀ x ∈ (us ++ ss).map (·.1), x ∈ ns := fun x hx => by
    rw [List.map_append] at hx
    rcases List.mem_append.mp hx with h | h
    · exact hu.subset h
    · exact hs.subset h
  have hk : F_kept_lot [.lst (((us ++ ss).map (·.1)).map D.str), T ns] = .ok (T (ns.filter fun x => decide (x ∈ (us ++ ss).map (·.1)))) .non := by
    refine kept_lot_of (.inr rfl) ⟨hn.nam, hn.len⟩ mem (perm_of nd (hn.up.nodup.sublist List.filter_sublist) fun x => ?_) (hn.up.sub List.filter_sublist) ?_
    · rw [List.mem_filter, decide_eq_true_eq]
      exact ⟨fun h => ⟨mem x h, h⟩, fun h => h.2⟩
    · have := (List.filter_sublist (p := fun x => decide (x ∈ (us ++ ss).map (·.1))) (l := ns)).length_le
      omega
  have n1 : dIsN (.tup (us.map pairN)) .non = some (.bool false) := rfl
  have n2 : dIsN (.tup (ss.map pairN)) .non = some (.bool false) := rfl
  have n3 : ∀ l, dIsN (T l) .non = some (.bool false) := fun _ => rfl
  unfold F_kept_feed runF m_kept_feed
  simp [k1, k2, n1, n2, ad, lc_fst, hk, n3, -List.map_map, -List.map_append, -u_addT]
end Law
namespace PL
open PySem PySem.Spec PySem.W PyProof.Rows L2 DL
theorem dedup_nd {α K : Type} [DecidableEq K] {rd : D → Option K} {f : α → D} (inj : ∀ a b, rd (f a) = rd (f b) → a = b) {l : List α} (nd : l.Nodup) : (dedup rd (l.map f)).length = l.length := by
  obtain ⟨m, h1, h2, h3, h4⟩ := dedup_map (rd := rd) inj l
  rw [h1, List.length_map]
  exact (perm_of h2 nd h3).length_eq
theorem lenSet_T {ls : List (List Str)} (nd : ls.Nodup) (hl : ls.length ≤ 62) : dLenSet (.lst (ls.map T)) = some (.int ls.length) := by
  have inj : ∀ a b : List Str, lotD (T a) = lotD (T b) → a = b := fun a b e => by
    obtain ⟨k, ek⟩ := lotD_T a
    exact T_inj (lotD_inj ek (e.symm.trans ek))
  have ok : ((ls.map T).all fun d => (lotD d).isSome) = true := List.all_eq_true.mpr fun d hd => by
    obtain ⟨x, _, rfl⟩ := List.mem_map.mp hd
    obtain ⟨k, ek⟩ := lotD_T x
    rw [ek]
    rfl
  have hT : lenSetT (ls.map T) = some (.int ls.length) := by
    unfold lenSetT
    rw [if_pos ⟨ok, by rw [List.length_map]; exact hl⟩, dedup_nd inj nd]
  show (match lenSetV (ls.map T) with | some r => some r | none => lenSetT (ls.map T)) = _
  cases ls with
  | nil => rfl
  | cons x l =>
    have : lenSetV ((x :: l).map T) = none := by
      unfold lenSetV
      rw [if_neg]
      rintro ⟨q, _⟩
      have := List.all_eq_true.mp q (T x) List.mem_cons_self
      cases this
    rw [this]
    exact hT
theorem eqv_lot (l : List Str) : PyData.eqv (T l).py .none = false := by
  show PyData.eqv (.tuple _) .none = false
  unfold PyData.eqv
  rfl
theorem eqv_tup (l : List D) : PyData.eqv (D.tup l).py .none = false := by
  show PyData.eqv (.tuple _) .none = false
  unfold PyData.eqv
  rfl
theorem eqv_num (n : Int) : PyData.eqv (D.int n).py .none = false := by
  show PyData.eqv (.int _) .none = false
  unfold PyData.eqv
  rfl
theorem prs_lt : ∀ {ns : List Str}, Up ns → ∀ {p : Str × Str}, p ∈ prs ns → Lt p.1 p.2
  | n :: ns, h, p, hp => by
    obtain ⟨h1, h2⟩ := List.pairwise_cons.mp h
    rw [prs] at hp
    rcases List.mem_append.mp hp with hp | hp
    · obtain ⟨m, hm, rfl⟩ := List.mem_map.mp hp
      exact h1 m hm
    · exact prs_lt h2 hp
end PL
namespace Law
open PySem PySem.Spec PySem.W PyProof.Rows L2 DL PL
theorem kept_lots_ok {ns a : List Str} {ls : List (List Str)} (hn : Nms ns) (h5 : ns.length ≤ 5) (ha : a.Sublist ns) (hls : ls.Sublist (parts a)) : F_kept_lots [.tup (ls.map T), T a] = .ok (.tup (ls.map T)) .non := by
  have hs : F_is_sequence [.tup (ls.map T)] = .ok (.bool true) .non := is_seq rfl
  have la := hn.lot ha
  have upa := hn.up.sub ha
  have rw2 := Row_of hn ha hls
  have lc1 := lc_embPure (env := [some (.tup (ls.map T)), some (T a), none, none]) (gd := gN 3) (m := (dCall F_kept_lot [] (dCons (dVar 3) (dCons (dVar 1) dNil)))) (vs := [3]) T T (l := ls) fun l hl => ⟨_, rfl, by
    have hsub := mem_parts.mp (hls.subset hl)
    have h := kept_lot_T la (fun x hx => hsub.subset hx) (upa.sub hsub) (by have := hsub.length_le; have := la.2; omega)
    simp [wipeE, h]⟩
  have l62 : ls.length ≤ 62 := by
    have h1 := hls.length_le
    have h2 := ha.length_le
    rw [len_parts] at h1
    have : 2 ^ a.length ≤ 2 ^ 5 := Nat.pow_le_pow_right (by omega) (by omega)
    omega
  have nd : ls.Nodup := (asc_nodupT (asc_parts upa)).sublist hls
  have hset := lenSet_T nd l62
  have so := sortT (.refl ls) (asc_sub (asc_parts upa) hls)
  have non := no_nonL (ds := ls.map T) fun d hd => by
    obtain ⟨l, hl, rfl⟩ := List.mem_map.mp hd
    exact ⟨(nice_T (rw2.1 l hl)).mono (by decide) (by decide), eqv_lot l⟩
  have n3 : dIsN (T a) .non = some (.bool false) := rfl
  unfold F_kept_lots runF m_kept_lots
  simp [n3, hs, lc1, non, hset, dne_int, so]
theorem trip_in {ns : List Str} {v0 : D} (hn : Nms ns) : ∀ (ts us : List (Str × Str × Int)) (o3 o4 : Option D), ((us ++ ts).map key).Sublist (prs ns) → (∀ t ∈ us ++ ts, 1 ≤ t.2.2 ∧ t.2.2 ≤ 3) → us.length + ts.length ≤ 1000 →
    ∃ o3' o4', forGo (gN 3) (dSeq s_kept_triples_2b_0 (dSeq s_kept_triples_2b_1 (dSeq s_kept_triples_2b_2 s_kept_triples_2b_3))) (ts.map tripD) [some v0, some (T ns), some (.lst (us.map tripD)), o3, o4, none] = .nx [some v0, some (T ns), some (.lst ((us ++ ts).map tripD)), o3', o4', none]
  | [], us, o3, o4, _, _, _ => ⟨o3, o4, by simp [forGo]⟩
  | t :: ts, us, o3, o4, hk, hq, hl => by
    rw [List.length_cons] at hl
    have hmem : key t ∈ prs ns := hk.subset (List.mem_map.mpr ⟨t, by simp, rfl⟩)
    obtain ⟨m1, m2⟩ := prs_mem hmem
    have lt : Lt t.1 t.2.1 := prs_lt hn.up hmem
    have up2 : Up [t.1, t.2.1] := List.pairwise_cons.mpr ⟨fun y hy => by rw [List.mem_singleton.mp hy]; exact lt, List.pairwise_singleton _ _⟩
    have bd := hq t (by simp)
    have hs : F_is_sequence [tripD t] = .ok (.bool true) .non := is_seq rfl
    have hl3 : dLen [tripD t] = some (.int 3) := rfl
    have hx2 : dIx (tripD t) (.int 2) = some (.int t.2.2) := rfl
    have hnum := is_num (n := t.2.2) (m := 1)
    have b0 : s_kept_triples_2b_0 [some v0, some (T ns), some (.lst (us.map tripD)), some (tripD t), o4, none] = .nx [some v0, some (T ns), some (.lst (us.map tripD)), some (tripD t), o4, none] := by
      have c1 : t.2.2 ≤ 1000000 := by omega
      unfold s_kept_triples_2b_0
      simp [hs, hl3, dne_int, hx2, hnum, bd.1, c1]
    have cut : dCut (tripD t) none (some 2) = some (T [t.1, t.2.1]) := rfl
    have cuts3 : (tripD t).cuts = true := rfl
    have hk2 := kept_lot_T (l := [t.1, t.2.1]) ⟨hn.nam, hn.len⟩ (fun x hx => by
      rcases List.mem_cons.mp hx with rfl | hx
      · exact m1
      · rw [List.mem_singleton.mp hx]
        exact m2) up2 (by simp)
    have b1 : s_kept_triples_2b_1 [some v0, some (T ns), some (.lst (us.map tripD)), some (tripD t), o4, none] = .nx [some v0, some (T ns), some (.lst (us.map tripD)), some (tripD t), some (T [t.1, t.2.1]), none] := by
      unfold s_kept_triples_2b_1
      simp [cuts3, cut, hk2]
    have l2 : Lot10 [t.1, t.2.1] := ⟨fun x hx => by
      rcases List.mem_cons.mp hx with rfl | hx
      · exact hn.nam _ m1
      · rw [List.mem_singleton.mp hx]
        exact hn.nam _ m2, by simp⟩
    have nd : ((us ++ t :: ts).map key).Nodup := by
      have : (prs ns).Nodup := (asc_prs hn.up).imp fun {a b} h e => by
        rw [e] at h
        rcases h with h | ⟨_, h⟩
        · exact Lt.irrefl h
        · exact Lt.irrefl h
      exact this.sublist hk
    have lc := lc_embPure (env := [some v0, some (T ns), some (.lst (us.map tripD)), some (tripD t), some (T [t.1, t.2.1]), none]) (gd := gN 5) (m := (dOp2 dEq (dSlice (dVar 5) none (some (dC (.int 2)))) (dVar 4))) (vs := [5]) tripD (fun _ => D.bool false) (l := us) fun u hu => ⟨_, rfl, by
      have mu := prs_mem (hk.subset (List.mem_map.mpr ⟨u, by simp [hu], rfl⟩))
      have cutu : dCut (tripD u) none (some 2) = some (T [u.1, u.2.1]) := rfl
      have cutsu : (tripD u).cuts = true := rfl
      have lu : Lot10 [u.1, u.2.1] := ⟨fun x hx => by
        rcases List.mem_cons.mp hx with rfl | hx
        · exact hn.nam _ mu.1
        · rw [List.mem_singleton.mp hx]
          exact hn.nam _ mu.2, by simp⟩
      have ne : ¬ ([u.1, u.2.1] = [t.1, t.2.1]) := fun e => by
        rw [List.map_append, List.nodup_append] at nd
        refine nd.2.2 (key u) (List.mem_map.mpr ⟨u, hu, rfl⟩) (key t) (by simp) ?_
        injection e with e1 e2
        injection e2 with e2 _
        show (u.1, u.2.1) = (t.1, t.2.1)
        rw [e1, e2]
      have de : dEq (T [u.1, u.2.1]) (T [t.1, t.2.1]) = some (.bool false) := by
        unfold dEq
        rw [deq_T lu l2]
        simp only [ne, decide_false]
        rfl
      simp [wipeE, cutsu, cutu, de]⟩
    have any0 : dAny [.lst (us.map fun _ => D.bool false)] = some (.bool false) := by rw [dAny_map]; simp
    have n3 : dIsN (T [t.1, t.2.1]) .non = some (.bool false) := rfl
    have b2 : s_kept_triples_2b_2 [some v0, some (T ns), some (.lst (us.map tripD)), some (tripD t), some (T [t.1, t.2.1]), none] = .nx [some v0, some (T ns), some (.lst (us.map tripD)), some (tripD t), some (T [t.1, t.2.1]), none] := by
      unfold s_kept_triples_2b_2
      simp [n3, lc, any0]
    have ad : dAdd (T [t.1, t.2.1]) (.tup [.int t.2.2]) = some (tripD t) := by
      have : 4000 ≤ sizeLine := by decide
      exact (if_pos (show 2 + 1 ≤ sizeLine by omega) : (if 2 + 1 ≤ sizeLine then some (tripD t) else none) = some (tripD t))
    have ap : mAppend (us.map tripD) [tripD t] = some (D.non, (us ++ [t]).map tripD) := by
      rw [append_len (by rw [List.length_map]; omega), List.map_append]
      rfl
    have b3 : s_kept_triples_2b_3 [some v0, some (T ns), some (.lst (us.map tripD)), some (tripD t), some (T [t.1, t.2.1]), none] = .nx [some v0, some (T ns), some (.lst ((us ++ [t]).map tripD)), some (tripD t), some (T [t.1, t.2.1]), none] := by
      unfold s_kept_triples_2b_3
      simp [hx2, ad, ap, -List.map_append]
    obtain ⟨o3', o4', e⟩ := trip_in (v0 := v0) hn ts (us ++ [t]) (some (tripD t)) (some (T [t.1, t.2.1])) (by rw [List.append_assoc]; exact hk) (by rw [List.append_assoc]; exact hq) (by rw [List.length_append, List.length_singleton]; omega)
    refine ⟨o3', o4', ?_⟩
    rw [List.map_cons]
    unfold forGo
    simp only [gN, List.set, u_seq, b0, b1, b2, b3, os_nx]
    rw [e, List.append_assoc]
    rfl
theorem kept_triples_ok {ns : List Str} {ts : List (Str × Str × Int)} (hn : Nms ns) (hk : (ts.map key).Sublist (prs ns)) (hq : ∀ t ∈ ts, 1 ≤ t.2.2 ∧ t.2.2 ≤ 3) : F_kept_triples [.tup (ts.map tripD), T ns] = .ok (.tup (ts.map tripD)) .non := by
  have l2 := hk.length_le
  have hp2 : (prs ns).length ≤ 100 := Nat.le_trans (pairs_len ns) (Nat.mul_le_mul hn.len hn.len)
  rw [List.length_map] at l2
  obtain ⟨o3, o4, e⟩ := trip_in (v0 := .tup (ts.map tripD)) hn ts [] none none hk hq (by rw [List.length_nil]; omega)
  have e := (show forGo _ _ _ [some (.tup (ts.map tripD)), some (T ns), some (.lst []), none, none, none] = _ from e)
  have hs : F_is_sequence [.tup (ts.map tripD)] = .ok (.bool true) .non := is_seq rfl
  have so := sortD_asc (.refl _) (asc_trips hn.up hk)
  have st0 : s_kept_triples_0 [some (.tup (ts.map tripD)), some (T ns), none, none, none, none] = .nx [some (.tup (ts.map tripD)), some (T ns), none, none, none, none] := by
    unfold s_kept_triples_0
    simp [hs]
  have st1 : s_kept_triples_1 [some (.tup (ts.map tripD)), some (T ns), none, none, none, none] = .nx [some (.tup (ts.map tripD)), some (T ns), some (.lst []), none, none, none] := rfl
  have st2 : s_kept_triples_2 [some (.tup (ts.map tripD)), some (T ns), some (.lst []), none, none, none] = .nx [some (.tup (ts.map tripD)), some (T ns), some (.lst (ts.map tripD)), o3, o4, none] := by
    have : s_kept_triples_2 [some (.tup (ts.map tripD)), some (T ns), some (.lst []), none, none, none] = _ := e
    rw [this]
    rfl
  unfold F_kept_triples runF
  rw [m_kept_triples_eq]
  simp [st0, st1, st2, s_kept_triples_3, sortOk_trips, so]
theorem made_rule_ok {ns : List Str} {r : Rule} (hn : Nms ns) (h5 : ns.length ≤ 5) (g : Good ns r) : F_made_rule [T ns, ruleD r] = .ok (ruleD r) .non := by
  have sz : 4000 ≤ sizeLine := by decide
  have k : F_kept_rule [T ns, ruleD r] = .ok (ruleD r) .non := by
    have hs : F_is_sequence [ruleD r] = .ok (.bool true) .non := by cases r <;> exact is_seq rfl
    have in3 : dNotIn (.int 3) (.tup [.int 3, .int 4]) = some (.bool false) := rfl
    have in4 : dNotIn (.int 4) (.tup [.int 3, .int 4]) = some (.bool false) := rfl
    have ts : ∀ w : Str, dIsT "str" (.str w) = some (.bool true) := fun _ => rfl
    have w2 : ∀ l : List D, (∀ d ∈ l, Nice 2 700000 d ∧ PyData.eqv d.py .none = false) → dIn .non (.tup l) = some (.bool false) := fun l h => no_non h
    have kl : ∀ a : List Str, a.Sublist ns → F_kept_lot [T a, T ns] = .ok (T a) .non := fun a h => kept_lot_T ⟨hn.nam, hn.len⟩ (fun x hx => h.subset hx) (hn.up.sub h) (by have := h.length_le; have := hn.len; omega)
    have nT : ∀ a : List Str, a.Sublist ns → Nice 2 700000 (T a) := fun a h => (nice_T (hn.lot h)).mono (by decide) (by decide)
    have s1 : 1 + 2 ≤ sizeLine := by omega
    have s2 : 2 + 1 ≤ sizeLine := by omega
    have s3 : 1 + 3 ≤ sizeLine := by omega
    have s4 : 3 ≤ sizeLine := by omega
    have s5 : 4 ≤ sizeLine := by omega
    cases r with
    | imply a b =>
      have n := w2 [T a, T b] fun d hd => by
        rcases List.mem_cons.mp hd with rfl | hd
        · exact ⟨nT a g.1, eqv_lot a⟩
        · rw [List.mem_singleton.mp hd]
          exact ⟨nT b g.2, eqv_lot b⟩
      unfold F_kept_rule runF m_kept_rule
      simp [hs]
      simp [ruleD, in3, atI, ixN, ts, deq_int, kl a g.1, kl b g.2, n, s4]
    | cap ps m =>
      have kp := kept_pairs_ok hn g.1 g.2.1
      have kn := kept_num (n := m) (m := 0) g.2.2.1 g.2.2.2
      have n := w2 [.tup (ps.map pairN), .int m] fun d hd => by
        rcases List.mem_cons.mp hd with rfl | hd
        · exact ⟨nice_pairs hn g.1 g.2.1, eqv_tup _⟩
        · rw [List.mem_singleton.mp hd]
          exact ⟨(nice_int ⟨by have := g.2.2.1; omega, g.2.2.2⟩).mono (by decide) (by decide), eqv_num m⟩
      unfold F_kept_rule runF m_kept_rule
      simp [hs]
      simp [ruleD, in3, atI, ixN, ts, deq_int, kp, kn, n, s4]
    | cut us m =>
      have kp := kept_triples_ok hn g.1 g.2.1
      have kn := kept_num (n := m) (m := 0) g.2.2.1 g.2.2.2
      have n := w2 [.tup (us.map tripD), .int m] fun d hd => by
        rcases List.mem_cons.mp hd with rfl | hd
        · exact ⟨nice_trips hn g.1 g.2.1, eqv_tup _⟩
        · rw [List.mem_singleton.mp hd]
          exact ⟨(nice_int ⟨by have := g.2.2.1; omega, g.2.2.2⟩).mono (by decide) (by decide), eqv_num m⟩
      unfold F_kept_rule runF m_kept_rule
      simp [hs]
      simp [ruleD, in3, atI, ixN, ts, deq_int, kp, kn, n, s4]
    | feed us ss m =>
      have kp := kept_feed_ok hn g.1.1 g.1.2.1 g.1.2.2 g.2.1 g.2.2.1
      have kn := kept_num (n := m) (m := -1000000) (by have := g.2.2.2.1; omega) (by have := g.2.2.2.2; omega)
      have neg : dNeg (.int 1000000) = some (.int (-1000000)) := rfl
      have n := w2 [.tup (us.map pairN), .tup (ss.map pairN), .int m] fun d hd => by
        simp only [List.mem_cons, List.not_mem_nil, or_false] at hd
        rcases hd with rfl | rfl | rfl
        · exact ⟨nice_pairs hn g.1.1 g.2.1, eqv_tup _⟩
        · exact ⟨nice_pairs hn g.1.2.1 g.2.2.1, eqv_tup _⟩
        · exact ⟨(nice_int ⟨by have := g.2.2.2.1; omega, by have := g.2.2.2.2; omega⟩).mono (by decide) (by decide), eqv_num m⟩
      unfold F_kept_rule runF m_kept_rule
      simp [hs]
      simp [ruleD, in4, atI, ixN, ts, deq_int, kp, kn, neg, n, s4, s5]
    | table a ls =>
      have kp := kept_lots_ok hn h5 g.1 g.2
      have n := w2 [T a, .tup (ls.map T)] fun d hd => by
        rcases List.mem_cons.mp hd with rfl | hd
        · exact ⟨nT a g.1, eqv_lot a⟩
        · rw [List.mem_singleton.mp hd]
          exact ⟨nice_rowT (Row_of hn g.1 g.2), eqv_tup _⟩
      unfold F_kept_rule runF m_kept_rule
      simp [hs]
      simp [ruleD, in3, atI, ixN, ts, deq_int, kl a g.1, kp, n, s4]
  have isN : dIsN (ruleD r) .non = some (.bool false) := by cases r <;> rfl
  unfold F_made_rule runF m_made_rule
  simp [k, isN]
end Law
namespace Law
open PySem PySem.Spec PySem.W PyProof.Rows L2 DL PL
theorem body_ok {R : List Int} {k : Int} (k0 : 0 ≤ k) (k1 : k < 100) {o2 o3 o4 : Option D} : ∃ (o1' o2' o3' o4' : Option D),
    (dSeq s_law_0b_0 (dSeq s_law_0b_1 (dSeq s_law_0b_2 s_law_0b_3))) [some (.ro (R.map .int)), some (.int k), o2, o3, o4] = .nx [some (.ro (R.map .int)), o1', o2', o3', o4'] := by
  obtain ⟨x, e1, hx⟩ := box_ok (ns := R) k0 k1
  obtain ⟨m, x1, e2, hx1, m0, m1⟩ := take_ok hx (m := 4) (by omega) (by omega)
  obtain ⟨ns, x2, e3, hx2, up, ne, nam, len⟩ := names_ok hx1 (m := 1 + m) (by omega) (by omega)
  have hn : Nms ns := ⟨up, nam, by omega⟩
  obtain ⟨r, x3, e4, hx3, g⟩ := rule_ok hx2 hn
  have e5 := made_rule_ok hn (by omega) g
  have e6 := all_ok up hn.len
  have e7 := rule_right_ok hn g
  have rr := repr_of (nice_rule hn g)
  have nr := ne_shown (nice_rule hn g)
  refine ⟨some (.int k), some x3, some (.lst (ns.map D.str)), some (ruleD r), ?_⟩
  unfold s_law_0b_0 s_law_0b_1 s_law_0b_2 s_law_0b_3
  simp [e1, e2, e3, e4, e5, e6, e7, rr, nr]
theorem law_ok (R : List Int) (hR : R.length ≤ 63) : ∃ io, F_law [.ro (R.map D.int)] = .ok (.bool true) io := by
  have sz : 4000 ≤ sizeLine := by decide
  obtain ⟨j, hj, j1, j2⟩ : ∃ j : Int, dMax2 [.int 1, .int (if (R.length : Int) < 3 then (R.length : Int) else 3)] = some (.int j) ∧ j ≤ 3 ∧ 0 ≤ j := by
    refine ⟨_, rfl, ?_, ?_⟩ <;> split <;> split <;> omega
  obtain ⟨env, q1, q2⟩ := for_inv (gd := gN 1) (body := (dSeq s_law_0b_0 (dSeq s_law_0b_1 (dSeq s_law_0b_2 s_law_0b_3)))) (I := fun _ e => ∃ (o1 o2 o3 o4 : Option D), e = [some (.ro (R.map D.int)), o1, o2, o3, o4]) (J := fun _ => False) (ds := rangeD 0 j.toNat) (k := 0) (env := [some (.ro (R.map D.int)), none, none, none, none]) ⟨_, _, _, _, rfl⟩ fun i d env hd hI => by
    obtain ⟨o1, o2, o3, o4, rfl⟩ := hI
    have : ∃ k : Int, d = .int k ∧ 0 ≤ k ∧ k < 100 := by
      obtain ⟨m, hm, rfl⟩ := List.mem_map.mp (List.mem_of_getElem? hd)
      have := List.mem_range.mp hm
      exact ⟨_, rfl, by omega, by omega⟩
    obtain ⟨k, rfl, k0, k1⟩ := this
    obtain ⟨p1, p2, p3, p4, e⟩ := body_ok (R := R) (o2 := o2) (o3 := o3) (o4 := o4) k0 k1
    exact ⟨_, rfl, .inl ⟨_, .inl e, p1, p2, p3, p4, rfl⟩⟩
  obtain ⟨o1, o2, o3, o4, rfl⟩ := q2.elim id False.elim
  have hmin : dMin2 [.int 3, .int (R.length : Int)] = some (.int (if (R.length : Int) < 3 then (R.length : Int) else 3)) := rfl
  refine ⟨.non, ?_⟩
  unfold F_law runF
  rw [m_law_eq]
  unfold s_law_0 s_law_1
  simp only [u_seq, u_for, u_range, u_cons, u_nil, u_cb, u_c, u_var, ob_ok, u_lift, List.map_cons, List.map_nil, List.length_cons, List.length_nil, List.replicate, List.cons_append, List.nil_append, List.getElem?_cons_zero, u_lenR, List.length_map, hmin, hj]
  rw [if_pos (by omega)]
  simp only [q1, os_nx, u_ret, u_c]
  rfl
end Law
theorem PySem.Challenge.cw_stopsfirst_k04_one_rule_and_two_lots_holds : PySem.Challenge.rw_stopsfirst_k04_one_rule_and_two_lots.Holds :=
  Law.holds_of Law.law_ok
