import PyProof.Rows.All
import Wide.All
import OpenK.AllK
import Wide.FinOn
import KE.SortData
import KE.DatumIndex
import HandS.ForMost
import HandS.Exc
import HandS.TryOnly
import HandS.CallSlots
import HandS.WordsExc
import HandS.Lambda
import HandS.HeadHook4
import HandS.Head2
import HandS.TupAny
import HandS.TupLe
import HandS.Wide
import HandS.WideBits
import HandS.Deep
import HandS.Flow
import HandS.ExcOwn
import HandS.Defaults
import HandS.Ends
import HandS.HeadEnd
import HandS.Zip
import HandS.Rev
import HandS.Style
import HandS.SortInts
import HandS.IsInst
import HandS.TupSets
import HandS.Strs
import HandS.HeadHook2
import PyProof.SetRoads
import PyProof.TupleOfSeq
import HandS.ExcValue
import HandS.ExcInit
import HandS.Nested
import HandS.ClsMeth
import KE.KExcSuper
import KE.KSuper
import HandS.ExcField
import HandS.TryMany
import HandS.DictComp
import HandS.Dict
import KE.GoesEnum
import KE.GoesMore
import HandS.ExcIs
import KE.SortKeyHeap
import PyProof.Rows.CallKwBuiltin
import HandS.EndTab
import HandS.Property
import PyProof.StrBlock2
import HandS.TupMul
import HandS.Conv
import HandS.Codes
import HandS.OwnEq
import HandS.SlotsOwn
import HandS.Text
import PyProof.FactsAll.list_3
import PyProof.FactsAll.list_4
import PyProof.EqKinds
import KE.KDictDisplayH
import HandS.Small
import KE.DataCmp
import KE.DataFind
import PyProof.NeKinds
import HandS.More
import PyProof.Rows.StrBin
import PyProof.Rows.StrDigitsNeg
import HandS.Words
import HandS.Head0
import HandS.Head1
import HandS.HeadHook1
import PySem.Challenge.RW_stopsfirst_k51_round_trips
set_option Elab.async false
set_option linter.all false
set_option maxRecDepth 100000
set_option maxHeartbeats 4000000
set_option autoImplicit false
namespace DL
theorem gF0 {α : Type _} {β : Type _} {as : List α} (f : α → β) : (List.map f as).length = as.length := List.length_map f
theorem gF1 {α : Type _} {a : α} {l : List α} : a ∈ a :: l := List.mem_cons_self
theorem gF2 {α : Type _} (y : α) {a : α} {l : List α} : a ∈ l → a ∈ y :: l := List.mem_cons_of_mem y
theorem gF3 {α : Type _} {a b : α} (h : some a = some b) : a = b := Option.some.inj h
theorem gF5 {p : Prop} [inst : Decidable p] : decide p = true → p := of_decide_eq_true
theorem gF6 {α : Type _} {l : List α} {i : Nat} (h : i < l.length) : l[i]? = some l[i] := List.getElem?_eq_getElem h
theorem gF7 {α : Type _} {β : Type _} {b : β} {f : α → β} {l : List α} : b ∈ List.map f l ↔ ∃ a, a ∈ l ∧ f a = b := List.mem_map
theorem gF8 {α : Type _} {i : Nat} {a : α} {l : List α} : l[i]? = some a ↔ ∃ h : i < l.length, l[i] = a := List.getElem?_eq_some_iff
theorem gG0 {α : Type _} {a : α} {as : List α} : (a :: as).length = as.length + 1 := List.length_cons
theorem gG1 {α : Type _} {β : Type _} {f : α → β} {a : α} {l : List α} : List.map f (a :: l) = f a :: List.map f l := List.map_cons
theorem gG6 : ∀ {x y : Bool}, (x && y) = true ↔ x = true ∧ y = true := Bool.and_eq_true_iff
theorem gH1 {p : Prop} [inst : Decidable p] : p → decide p = true := decide_eq_true
theorem gH4 {α : Type _} {l : List α} {i j : Nat} : i ≠ j → ∀ {a : α}, (l.set i a)[j]? = l[j]? := List.getElem?_set_ne
theorem gH5 {α : Type _} {p : α → Bool} {l : List α} : l.all p = true ↔ ∀ (x : α), x ∈ l → p x = true := List.all_eq_true
theorem gH6 {α : Type _} {as : List α} {i : Nat} {a : α} : (as.set i a).length = as.length := List.length_set
theorem gH7 {α : Type _} {l : List α} {i : Nat} {a : α} : l.getD i a = l[i]?.getD a := List.getD_eq_getElem?_getD
theorem gI0 {α : Type _} {β : Type _} {f : α → β} {l : List α} {i : Nat} : (List.map f l)[i]? = Option.map f l[i]? := List.getElem?_map
theorem gI1 {α : Type _} {l : List α} {i : Nat} : l[i]? = none ↔ l.length ≤ i := List.getElem?_eq_none_iff
theorem gI3 {α : Type _} {l : List α} {i : Nat} {a : α} : i < l.length → (l.set i a)[i]? = some a := List.getElem?_set_self
theorem gE2 {α : Type _} (l : List α) : l ++ [] = l := by simp
end DL
namespace DL
open PySem PySem.Spec PyProof.Rows L2
inductive D where
 | non | bool (b : Bool) | int (i : Int) | str (x : Str) | tup (xs : List D) | lst (xs : List D) | dic (ks es : List D) | obj (k : Nat) (xs : List D) | ro (xs : List D)
def keyD : Key → D
 | .inl i => .int i
 | .inr x => .str x
def kGA (H : Hp) (a : Addr) (ks : List D) (vs : List V) : Prop := (∃ kvs : List (Key × V), H a = some (.dK kvs) ∧ ks = kvs.map (fun p => keyD p.1) ∧ vs = kvs.map (·.2)) ∨
 ∃ kvs : List (List Key × V), H a = some (.dT kvs) ∧ ks = kvs.map (fun p => .tup (p.1.map keyD)) ∧ vs = kvs.map (·.2)
def Mt : HO → Prop
 | .lst _ => True
 | .dK _ => True
 | .dT _ => True
 | _ => False
theorem kGA.mt {H : Hp} {a : Addr} {ks : List D} {vs : List V} (h : kGA H a ks vs) : ∃ o, H a = some o ∧ Mt o := by
 rcases h with ⟨kvs, h, _⟩ | ⟨kvs, h, _⟩
 ·exact ⟨_, h, trivial⟩
 ·exact ⟨_, h, trivial⟩
theorem kGA.al {H : Hp} {a : Addr} {ks : List D} {vs : List V} (h : kGA H a ks vs) : H a ≠ none := by
 obtain ⟨o, h, _⟩ := h.mt
 rw [h]
 exact fun w => nomatch w
theorem kGA.len {H : Hp} {a : Addr} {ks : List D} {vs : List V} (h : kGA H a ks vs) : ks.length = vs.length := by
 rcases h with ⟨kvs, _, rfl, rfl⟩ | ⟨kvs, _, rfl, rfl⟩ <;> simp
def KT0 (K : PySem.W.Frag) (a : Addr) : Prop := ∃ (o : Obj) (its : Array Value) (n : Nat), K.lookup a = some o ∧ o.cls = .type "tuple" ∧ o.data = .seq its n ∧ its.size ≤ sizeLine ∧ Vals ([] : List V) its.toList
structure Wd where
 K : PySem.W.Frag
 T : List (Addr × Str)
 oa : Addr → Nat → List D → List V → Hp → Prop
 new : ∀ {a : Addr} {k : Nat} {ds : List D} {vs : List V} {H : Hp} {p : Addr} {o : HO}, H p = none → oa a k ds vs H → oa a k ds vs (upd H p o)
 put : ∀ {a : Addr} {k : Nat} {ds : List D} {vs : List V} {H : Hp} {p : Addr} {o o' : HO}, H p = some o → Mt o → oa a k ds vs H → oa a k ds vs (upd H p o')
 al : ∀ {a : Addr} {k : Nat} {ds : List D} {vs : List V} {H : Hp}, oa a k ds vs H → 64 ≤ k → H a ≠ none
 tbw : ∀ {a : Addr} {k : Nat} {ds : List D} {vs : List V} {H : Hp} {p : Addr} {ps ps' : Array Value}, H p = some (.tbl ps) → oa a k ds vs H → oa a k ds vs (upd H p (.tbl ps'))
 kt : ∀ {a : Addr} {ds : List D} {vs : List V} {H : Hp}, oa a 4 ds vs H → ds = [] ∧ vs = [] ∧ KT0 K a
theorem Wd.gd {W : Wd} {Z Z' : Addr → Prop} {H : Hp} {a : Addr} {k : Nat} {ds : List D} {vs : List V} (h : W.oa a k ds vs H) (n : ¬ Z a ∨ k < 64) (z : H a ≠ none → Z' a → Z a) : ¬ Z' a ∨ k < 64 := by
 rcases Nat.lt_or_ge k 64 with c | c
 ·exact .inr c
 ·exact .inl fun q => (n.resolve_right (by omega)) (z (W.al h c) q)
def RoL (K : PySem.W.Frag) (H : Hp) (a : Addr) (vs : List V) : Prop := (∃ o, H a = some (.frz o (.lst vs))) ∨
 ∃ (o : Obj) (its : Array Value) (n : Nat), K.lookup a = some o ∧ o.cls = .type "list" ∧ o.dict = none ∧ o.data = .seq its n ∧ its.size ≤ sizeLine ∧ Vals vs its.toList
mutual
def Rp (W : Wd) (Z : Addr → Prop) (H : Hp) : D → V → Prop
 | .non, v => v = .non
 | .bool b, v => v = .bl b
 | .int i, v => v = .int i
 | .str x, v => v = .str x
 | .tup ds, v => ∃ a vs, v = .ref a ∧ (H a = some (.tup vs) ∧ vs.length ≤ sizeLine) ∧ RpL W Z H ds vs
 | .lst ds, v => ∃ a vs, v = .ref a ∧ ¬ Z a ∧ (H a = some (.lst vs) ∧ vs.length ≤ sizeLine) ∧ RpL W Z H ds vs
 | .dic ks ds, v => ∃ a vs, v = .ref a ∧ ¬ Z a ∧ kGA H a ks vs ∧ RpL W Z H ds vs
 | .obj k ds, v => ∃ a vs, v = .ref a ∧ (¬ Z a ∨ k < 64) ∧ W.oa a k ds vs H ∧ RpL W Z H ds vs
 | .ro ds, v => ∃ a vs, v = .ref a ∧ (RoL W.K H a vs ∧ vs.length ≤ sizeLine) ∧ RpL W Z H ds vs
def RpL (W : Wd) (Z : Addr → Prop) (H : Hp) : List D → List V → Prop
 | [], vs => vs = []
 | d :: ds, vs => ∃ v us, vs = v :: us ∧ Rp W Z H d v ∧ RpL W Z H ds us
end
structure Ev (W : Wd) (Z : Addr → Prop) (H H' : Hp) : Prop where
 lst : ∀ a xs, H a = some (.lst xs) → ¬ Z a → H' a = some (.lst xs)
 tup : ∀ a xs, H a = some (.tup xs) → H' a = some (.tup xs)
 frz : ∀ a o u, H a = some (.frz o u) → H' a = some (.frz o u)
 dk : ∀ a kvs, H a = some (.dK kvs) → ¬ Z a → H' a = some (.dK kvs)
 dt : ∀ a kvs, H a = some (.dT kvs) → ¬ Z a → H' a = some (.dT kvs)
 obj : ∀ a k ds vs, W.oa a k ds vs H → (¬ Z a ∨ k < 64) → W.oa a k ds vs H'
 dom : ∀ a, H' a = none → H a = none
 tab : ∀ p ∈ W.T, LamX.TabS H p.1 p.2 → LamX.TabS H' p.1 p.2
 cod : ∀ a q, H a = some (LamX.CodeO a q) → H' a = some (LamX.CodeO a q)
theorem Ev.refl {W : Wd} {Z : Addr → Prop} {H : Hp} : Ev W Z H H := ⟨fun _ _ h _ => h, fun _ _ h => h, fun _ _ _ h => h, fun _ _ h _ => h, fun _ _ h _ => h, fun _ _ _ _ h _ => h, fun _ h => h, fun _ _ h => h, fun _ _ h => h⟩
theorem Ev.trans {W : Wd} {Z : Addr → Prop} {H H1 H2 : Hp} (a : Ev W Z H H1) (b : Ev W Z H1 H2) : Ev W Z H H2 :=
 ⟨fun c xs h z => b.lst c xs (a.lst c xs h z) z, fun c xs h => b.tup c xs (a.tup c xs h), fun c o u h => b.frz c o u (a.frz c o u h), fun c xs h z => b.dk c xs (a.dk c xs h z) z, fun c xs h z => b.dt c xs (a.dt c xs h z) z,
  fun c k es ds h z => b.obj c k es ds (a.obj c k es ds h z) z, fun c h => a.dom c (b.dom c h), fun c q h => b.tab c q (a.tab c q h), fun c q h => b.cod c q (a.cod c q h)⟩
theorem Ev.mono {W : Wd} {Z Z' : Addr → Prop} {H H' : Hp} (e : Ev W Z H H') (z : ∀ a, Z a → H a ≠ none → Z' a) : Ev W Z' H H' :=
 ⟨fun a xs h n => e.lst a xs h fun q => n (z a q (by rw [h]; exact fun w => nomatch w)), e.tup, e.frz, fun a xs h n => e.dk a xs h fun q => n (z a q (by rw [h]; exact fun w => nomatch w)),
  fun a xs h n => e.dt a xs h fun q => n (z a q (by rw [h]; exact fun w => nomatch w)), fun a k ds vs h n => e.obj a k ds vs h (W.gd h n fun y q => z a q y), e.dom, e.tab, e.cod⟩
theorem Ev.new {W : Wd} {Z : Addr → Prop} {H : Hp} {p : Addr} {o : HO} (n : H p = none) : Ev W Z H (upd H p o) :=
 have ne : ∀ a u, H a = some u → a ≠ p := fun a u h z => by rw [z, n] at h; cases h
 ⟨fun a xs h _ => by rw [upd_ne (ne a _ h)]; exact h, fun a xs h => by rw [upd_ne (ne a _ h)]; exact h, fun a x u h => by rw [upd_ne (ne a _ h)]; exact h, fun a xs h _ => by rw [upd_ne (ne a _ h)]; exact h,
  fun a xs h _ => by rw [upd_ne (ne a _ h)]; exact h, fun a k es ds h _ => W.new n h, fun a h => by
   by_cases e : a = p
   ·rw [e]; exact n
   ·rw [upd_ne e] at h; exact h, fun a q h => h.ext fun b o e => by rw [upd_ne (ne b _ e)]; exact e, fun a q h => by rw [upd_ne (ne a _ h)]; exact h⟩
theorem kNw {H : Hp} {p P : Addr} {q : Str} {o' : HO} (h : LamX.TabS H P q) (n1 : ∀ ps, H p ≠ some (.tbl ps)) (n2 : ∀ φ, H p ≠ some (.ext φ)) : LamX.TabS (upd H p o') P q := by
 obtain ⟨ps, h1, h2, h3⟩ := h
 refine ⟨ps, by rw [upd_ne (fun e => n1 ps (by rw [← e]; exact h1))]; exact h1, h2, fun pos cv hc => ?_⟩
 obtain ⟨c, e1, e2⟩ := h3 pos cv hc
 exact ⟨c, e1, by rw [upd_ne (fun e => n2 _ (by rw [← e]; exact e2))]; exact e2⟩
theorem kQA {H : Hp} {p c : Addr} {q : Str} {o' : HO} (h : H c = some (LamX.CodeO c q)) (n : ∀ φ, H p ≠ some (.ext φ)) : upd H p o' c = some (LamX.CodeO c q) := by
 rw [upd_ne (fun e => n _ (by rw [← e]; exact h))]; exact h
theorem Ev.putM {W : Wd} {Z : Addr → Prop} {H : Hp} {p : Addr} {o o' : HO} (n : H p = some o) (m : Mt o) (z : Z p) : Ev W Z H (upd H p o') := by
 have ne : ∀ a u, H a = some u → ¬ Mt u → a ≠ p := fun a u h d q => by rw [q, n] at h; rw [← gF3 h] at d; exact d m
 refine ⟨fun a us h q => ?_, fun a us h => ?_, fun a x u h => ?_, fun a us h q => ?_, fun a us h q => ?_, fun a k es ds h _ => W.put n m h, fun a h => ?_, fun a q h => kNw h (fun ps e => ?_) (fun φ e => ?_), fun a q h => kQA h (fun φ e => ?_)⟩
 ·rw [upd_ne (fun e => q (by rw [e]; exact z))]; exact h
 ·rw [upd_ne (ne a _ h (fun w => w))]; exact h
 ·rw [upd_ne (ne a _ h (fun w => w))]; exact h
 ·rw [upd_ne (fun e => q (by rw [e]; exact z))]; exact h
 ·rw [upd_ne (fun e => q (by rw [e]; exact z))]; exact h
 ·by_cases e : a = p
  ·rw [e, upd_same] at h; cases h
  ·rw [upd_ne e] at h; exact h
 ·rw [n] at e; cases e; exact m
 ·rw [n] at e; cases e; exact m
 ·rw [n] at e; cases e; exact m
theorem Ev.put {W : Wd} {Z : Addr → Prop} {H : Hp} {p : Addr} {xs ys : List V} (n : H p = some (.lst xs)) (z : Z p) : Ev W Z H (upd H p (.lst ys)) := Ev.putM n trivial z
theorem Ev.dic {W : Wd} {Z : Addr → Prop} {H H' : Hp} (e : Ev W Z H H') {a : Addr} {ks : List D} {vs : List V} (h : kGA H a ks vs) (z : ¬ Z a) : kGA H' a ks vs := by
 rcases h with ⟨kvs, h, e1, e2⟩ | ⟨kvs, h, e1, e2⟩
 ·exact .inl ⟨kvs, e.dk _ _ h z, e1, e2⟩
 ·exact .inr ⟨kvs, e.dt _ _ h z, e1, e2⟩
theorem Ev.rol {W : Wd} {Z : Addr → Prop} {H H' : Hp} (e : Ev W Z H H') {a : Addr} {vs : List V} (h : RoL W.K H a vs) : RoL W.K H' a vs := by
 rcases h with ⟨o, h⟩ | h
 ·exact .inl ⟨o, e.frz _ _ _ h⟩
 ·exact .inr h
theorem kRn {H : Hp} {a : Addr} {u : HO} (h : H a = some u) : H a ≠ none := by
 rw [h]; exact fun w => nomatch w
mutual
theorem Rp.ev {W : Wd} {Z : Addr → Prop} {H H' : Hp} (e : Ev W Z H H') : ∀ (d : D) (v : V), Rp W Z H d v → Rp W Z H' d v
 | .non, _, h => h
 | .bool _, _, h => h
 | .int _, _, h => h
 | .str _, _, h => h
 | .tup ds, _, h => by
  unfold Rp at h ⊢
  obtain ⟨a, vs, h1, h2, h3⟩ := h
  exact ⟨a, vs, h1, ⟨e.tup _ _ h2.1, h2.2⟩, RpL.ev e ds vs h3⟩
 | .lst ds, _, h => by
  unfold Rp at h ⊢
  obtain ⟨a, vs, h1, h2, h3, h4⟩ := h
  exact ⟨a, vs, h1, h2, ⟨e.lst _ _ h3.1 h2, h3.2⟩, RpL.ev e ds vs h4⟩
 | .dic ks ds, _, h => by
  unfold Rp at h ⊢
  obtain ⟨a, vs, h1, h2, h3, h4⟩ := h
  exact ⟨a, vs, h1, h2, e.dic h3 h2, RpL.ev e ds vs h4⟩
 | .obj k ds, _, h => by
  unfold Rp at h ⊢
  obtain ⟨a, vs, h1, h2, h3, h4⟩ := h
  exact ⟨a, vs, h1, h2, e.obj _ _ _ _ h3 h2, RpL.ev e ds vs h4⟩
 | .ro ds, _, h => by
  unfold Rp at h ⊢
  obtain ⟨a, vs, h1, h2, h3⟩ := h
  exact ⟨a, vs, h1, ⟨e.rol h2.1, h2.2⟩, RpL.ev e ds vs h3⟩
theorem RpL.ev {W : Wd} {Z : Addr → Prop} {H H' : Hp} (e : Ev W Z H H') : ∀ (ds : List D) (vs : List V), RpL W Z H ds vs → RpL W Z H' ds vs
 | [], _, h => by
  unfold RpL at h ⊢
  exact h
 | d :: ds, _, h => by
  unfold RpL at h ⊢
  obtain ⟨v, us, h1, h2, h3⟩ := h
  exact ⟨v, us, h1, Rp.ev e d v h2, RpL.ev e ds us h3⟩
end
mutual
theorem Rp.shun {W : Wd} {Z Z' : Addr → Prop} {H : Hp} (z : ∀ a, Z' a → H a ≠ none → Z a) : ∀ (d : D) (v : V), Rp W Z H d v → Rp W Z' H d v
 | .non, _, h => h
 | .bool _, _, h => h
 | .int _, _, h => h
 | .str _, _, h => h
 | .tup ds, _, h => by
  unfold Rp at h ⊢
  obtain ⟨a, vs, h1, h2, h3⟩ := h
  exact ⟨a, vs, h1, h2, RpL.shun z ds vs h3⟩
 | .lst ds, _, h => by
  unfold Rp at h ⊢
  obtain ⟨a, vs, h1, h2, h3, h4⟩ := h
  exact ⟨a, vs, h1, fun q => h2 (z a q (kRn h3.1)), h3, RpL.shun z ds vs h4⟩
 | .dic ks ds, _, h => by
  unfold Rp at h ⊢
  obtain ⟨a, vs, h1, h2, h3, h4⟩ := h
  exact ⟨a, vs, h1, fun q => h2 (z a q h3.al), h3, RpL.shun z ds vs h4⟩
 | .obj k ds, _, h => by
  unfold Rp at h ⊢
  obtain ⟨a, vs, h1, h2, h3, h4⟩ := h
  exact ⟨a, vs, h1, W.gd h3 h2 fun y q => z a q y, h3, RpL.shun z ds vs h4⟩
 | .ro ds, _, h => by
  unfold Rp at h ⊢
  obtain ⟨a, vs, h1, h2, h3⟩ := h
  exact ⟨a, vs, h1, h2, RpL.shun z ds vs h3⟩
theorem RpL.shun {W : Wd} {Z Z' : Addr → Prop} {H : Hp} (z : ∀ a, Z' a → H a ≠ none → Z a) : ∀ (ds : List D) (vs : List V), RpL W Z H ds vs → RpL W Z' H ds vs
 | [], _, h => by
  unfold RpL at h ⊢
  exact h
 | d :: ds, _, h => by
  unfold RpL at h ⊢
  obtain ⟨v, us, h1, h2, h3⟩ := h
  exact ⟨v, us, h1, Rp.shun z d v h2, RpL.shun z ds us h3⟩
end
theorem RpL.length {W : Wd} {Z : Addr → Prop} {H : Hp} : ∀ {ds : List D} {vs : List V}, RpL W Z H ds vs → ds.length = vs.length
 | [], _, h => by
  unfold RpL at h
  rw [h] <;> rfl
 | d :: ds, _, h => by
  unfold RpL at h
  obtain ⟨v, us, h1, _, h3⟩ := h
  rw [h1, gG0, gG0, RpL.length h3]
theorem RpL.get {W : Wd} {Z : Addr → Prop} {H : Hp} : ∀ {ds : List D} {vs : List V}, RpL W Z H ds vs → ∀ {i : Nat} {v : V}, vs[i]? = some v → ∃ d, ds[i]? = some d ∧ Rp W Z H d v
 | [], _, h, i, v, e => by
  unfold RpL at h
  rw [h] at e
  simp at e
 | d :: ds, _, h, i, v, e => by
  unfold RpL at h
  obtain ⟨u, us, h1, h2, h3⟩ := h
  rw [h1] at e
  cases i with
  | zero =>
   have q : u = v := by simpa using e
   rw [← q]
   exact ⟨d, by simp, h2⟩
  | succ j =>
   obtain ⟨d', q1, q2⟩ := RpL.get h3 (i := j) (v := v) (by simpa using e)
   exact ⟨d', by simpa using q1, q2⟩
theorem RpL.getD {W : Wd} {Z : Addr → Prop} {H : Hp} {ds : List D} {vs : List V} (h : RpL W Z H ds vs) {i : Nat} {d : D} (e : ds[i]? = some d) : ∃ v, vs[i]? = some v ∧ Rp W Z H d v := by
 have hi : i < vs.length := by
  rw [← h.length]
  exact (gF8.mp e).1
 obtain ⟨d', q1, q2⟩ := h.get (gF6 hi)
 rw [e] at q1
 rw [gF3 q1]
 exact ⟨_, gF6 hi, q2⟩
theorem RpL.of {W : Wd} {Z : Addr → Prop} {H : Hp} : ∀ {ds : List D} {vs : List V}, ds.length = vs.length → (∀ (i : Nat) (d : D) (v : V), ds[i]? = some d → vs[i]? = some v → Rp W Z H d v) → RpL W Z H ds vs
 | [], vs, l, _ => by
  unfold RpL
  cases vs with
  | nil => rfl
  | cons => cases l
 | d :: ds, [], l, _ => by cases l
 | d :: ds, v :: vs, l, h => by
  unfold RpL
  exact ⟨v, vs, rfl, h 0 d v (by simp) (by simp), RpL.of (by simpa using l) fun i d' v' h1 h2 => h (i + 1) d' v' (by simpa using h1) (by simpa using h2)⟩
theorem RpL.set {W : Wd} {Z : Addr → Prop} {H : Hp} {ds : List D} {vs : List V} (h : RpL W Z H ds vs) {d : D} {v : V} (q : Rp W Z H d v) (i : Nat) : RpL W Z H (ds.set i d) (vs.set i v) := by
 refine RpL.of (by simp [h.length]) fun j d' v' h1 h2 => ?_
 by_cases e : i = j
 ·subst e
  have hi : i < ds.length := by
   have := (gF8.mp h1).1
   simpa using this
  rw [gI3 hi] at h1
  rw [gI3 (by rw [← h.length]; exact hi)] at h2
  rw [← gF3 h1, ← gF3 h2]
  exact q
 ·rw [gH4 e] at h1 h2
  obtain ⟨v'', e1, e2⟩ := h.getD h1
  rw [h2] at e1
  rw [gF3 e1]
  exact e2
abbrev EnvD := List (Option D)
abbrev Lab := Addr → Option (List Nat)
inductive Out (α : Type) where
 | ok (a : α) (e : EnvD) | exc (c : Str) (a : Option D) (e : EnvD) | bad
abbrev M (α : Type) := EnvD → Out α
abbrev No : Addr → Prop := fun _ => False
def Zo (L : Lab) : Addr → Prop := fun a => L a ≠ none
def tmp : Nat := 1000000
def Zp : Bool → Lab → Addr → Prop
 | true, _ => No
 | false, L => fun a => ∃ i q, L a = some (i :: q) ∧ i < tmp
theorem Zp.sub {p : Bool} {L : Lab} {a : Addr} (h : Zp p L a) : Zo L a := by
 cases p with
 | true => exact h.elim
 | false =>
  obtain ⟨i, q, h, _⟩ := h
  intro w
  rw [w] at h
  cases h
def Ow (W : Wd) (L : Lab) (H : Hp) : Nat → List Nat → D → V → Prop
 | 0, _, d, v => Rp W (Zo L) H d v
 | n + 1, p, .lst ds, v => ∃ a vs, v = .ref a ∧ L a = some p ∧ H a = some (.lst vs) ∧ (ds.length = vs.length ∧ vs.length ≤ sizeLine) ∧ ∀ (j : Nat) (d' : D) (v' : V), ds[j]? = some d' → vs[j]? = some v' → Ow W L H n (p ++ [j]) d' v'
 | n + 1, p, .obj k ds, v => ∃ a vs, v = .ref a ∧ L a = some p ∧ (W.oa a k ds vs H ∧ 64 ≤ k) ∧ ds.length = vs.length ∧ ∀ (j : Nat) (d' : D) (v' : V), ds[j]? = some d' → vs[j]? = some v' → Ow W L H n (p ++ [j]) d' v'
 | n + 1, p, .dic ks ds, v => ∃ a vs, v = .ref a ∧ L a = some p ∧ kGA H a ks vs ∧ ds.length = vs.length ∧ ∀ (j : Nat) (d' : D) (v' : V), ds[j]? = some d' → vs[j]? = some v' → Ow W L H n (p ++ [j]) d' v'
 | _ + 1, _, d, v => Rp W (Zo L) H d v
theorem Ow.any {W : Wd} {L : Lab} {H : Hp} : ∀ (n : Nat) (p : List Nat) (d : D) (v : V), Ow W L H n p d v → Rp W No H d v
 | 0, p, d, v, h => Rp.shun (fun _ z _ => z.elim) d v h
 | n + 1, p, .lst ds, v, h => by
  unfold Ow at h
  obtain ⟨a, vs, h1, _, h3, h4, h5⟩ := h
  unfold Rp
  exact ⟨a, vs, h1, fun z => z, ⟨h3, h4.2⟩, RpL.of h4.1 fun j d' v' q1 q2 => Ow.any n _ d' v' (h5 j d' v' q1 q2)⟩
 | n + 1, p, .non, v, h => Rp.shun (fun _ z _ => z.elim) _ v h
 | n + 1, p, .bool _, v, h => Rp.shun (fun _ z _ => z.elim) _ v h
 | n + 1, p, .int _, v, h => Rp.shun (fun _ z _ => z.elim) _ v h
 | n + 1, p, .str _, v, h => Rp.shun (fun _ z _ => z.elim) _ v h
 | n + 1, p, .tup _, v, h => Rp.shun (fun _ z _ => z.elim) _ v h
 | n + 1, p, .dic ks ds, v, h => by
  unfold Ow at h
  obtain ⟨a, vs, h1, _, h3, h4, h5⟩ := h
  unfold Rp
  exact ⟨a, vs, h1, fun z => z, h3, RpL.of h4 fun j d' v' q1 q2 => Ow.any n _ d' v' (h5 j d' v' q1 q2)⟩
 | n + 1, p, .obj k ds, v, h => by
  unfold Ow at h
  obtain ⟨a, vs, h1, _, h3, h4, h5⟩ := h
  unfold Rp
  exact ⟨a, vs, h1, .inl fun z => z, h3.1, RpL.of h4 fun j d' v' q1 q2 => Ow.any n _ d' v' (h5 j d' v' q1 q2)⟩
 | n + 1, p, .ro _, v, h => Rp.shun (fun _ z _ => z.elim) _ v h
structure Stay (W : Wd) (H H' : Hp) (a : Addr) : Prop where
 lst : ∀ vs, H a = some (.lst vs) → H' a = some (.lst vs)
 obj : ∀ k ds vs, W.oa a k ds vs H → W.oa a k ds vs H'
 dic : ∀ ks vs, kGA H a ks vs → kGA H' a ks vs
theorem Stay.refl {W : Wd} {H : Hp} {a : Addr} : Stay W H H a := ⟨fun _ z => z, fun _ _ _ z => z, fun _ _ z => z⟩
theorem Ow.map {W : Wd} {L L' : Lab} {H H' : Hp} (f : ∀ d v, Rp W (Zo L) H d v → Rp W (Zo L') H' d v) : ∀ (n : Nat) (p p' : List Nat) (d : D) (v : V),
  (∀ a q, L a = some (p ++ q) → H a ≠ none → L' a = some (p' ++ q) ∧ Stay W H H' a) → Ow W L H n p d v → Ow W L' H' n p' d v
 | 0, p, p', d, v, _, h => f d v h
 | n + 1, p, p', .lst ds, v, g, h => by
  unfold Ow at h ⊢
  obtain ⟨a, vs, h1, h2, h3, h4, h5⟩ := h
  obtain ⟨g1, g2⟩ := g a [] (by rw [gE2]; exact h2) (by rw [h3]; exact fun w => nomatch w)
  rw [gE2] at g1
  refine ⟨a, vs, h1, g1, g2.lst _ h3, h4, fun j d' v' q1 q2 => Ow.map f n (p ++ [j]) (p' ++ [j]) d' v' (fun b q e1 e2 => ?_) (h5 j d' v' q1 q2)⟩
  obtain ⟨r1, r2⟩ := g b ([j] ++ q) (by rw [← List.append_assoc]; exact e1) e2
  exact ⟨by rw [r1, List.append_assoc], r2⟩
 | n + 1, p, p', .non, v, _, h => f _ v h
 | n + 1, p, p', .bool _, v, _, h => f _ v h
 | n + 1, p, p', .int _, v, _, h => f _ v h
 | n + 1, p, p', .str _, v, _, h => f _ v h
 | n + 1, p, p', .tup _, v, _, h => f _ v h
 | n + 1, p, p', .dic ks ds, v, g, h => by
  unfold Ow at h ⊢
  obtain ⟨a, vs, h1, h2, h3, h4, h5⟩ := h
  obtain ⟨g1, g2⟩ := g a [] (by rw [gE2]; exact h2) h3.al
  rw [gE2] at g1
  refine ⟨a, vs, h1, g1, g2.dic _ _ h3, h4, fun j d' v' q1 q2 => Ow.map f n (p ++ [j]) (p' ++ [j]) d' v' (fun b q e1 e2 => ?_) (h5 j d' v' q1 q2)⟩
  obtain ⟨r1, r2⟩ := g b ([j] ++ q) (by rw [← List.append_assoc]; exact e1) e2
  exact ⟨by rw [r1, List.append_assoc], r2⟩
 | n + 1, p, p', .obj k ds, v, g, h => by
  unfold Ow at h ⊢
  obtain ⟨a, vs, h1, h2, h3, h4, h5⟩ := h
  obtain ⟨g1, g2⟩ := g a [] (by rw [gE2]; exact h2) (W.al h3.1 h3.2)
  rw [gE2] at g1
  refine ⟨a, vs, h1, g1, ⟨g2.obj _ _ _ h3.1, h3.2⟩, h4, fun j d' v' q1 q2 => Ow.map f n (p ++ [j]) (p' ++ [j]) d' v' (fun b q e1 e2 => ?_) (h5 j d' v' q1 q2)⟩
  obtain ⟨r1, r2⟩ := g b ([j] ++ q) (by rw [← List.append_assoc]; exact e1) e2
  exact ⟨by rw [r1, List.append_assoc], r2⟩
 | n + 1, p, p', .ro _, v, _, h => f _ v h
theorem Ow.thaw {W : Wd} {L L' : Lab} {H : Hp} (z : ∀ a, L' a ≠ none → L a ≠ none) : ∀ (n : Nat) (p : List Nat) (d : D) (v : V), (∀ a q, L a = some (p ++ q) → L' a = none) → Ow W L H n p d v → Rp W (Zo L') H d v
 | 0, p, d, v, _, h => Rp.shun (fun a q _ => z a q) d v h
 | n + 1, p, .lst ds, v, g, h => by
  unfold Ow at h
  obtain ⟨a, vs, h1, h2, h3, h4, h5⟩ := h
  unfold Rp
  refine ⟨a, vs, h1, fun q => q (g a [] (by rw [gE2]; exact h2)), ⟨h3, h4.2⟩, RpL.of h4.1 fun j d' v' q1 q2 => Ow.thaw z n _ d' v' (fun b q e => g b ([j] ++ q) (by rw [← List.append_assoc]; exact e)) (h5 j d' v' q1 q2)⟩
 | n + 1, p, .non, v, _, h => Rp.shun (fun a q _ => z a q) _ v h
 | n + 1, p, .bool _, v, _, h => Rp.shun (fun a q _ => z a q) _ v h
 | n + 1, p, .int _, v, _, h => Rp.shun (fun a q _ => z a q) _ v h
 | n + 1, p, .str _, v, _, h => Rp.shun (fun a q _ => z a q) _ v h
 | n + 1, p, .tup _, v, _, h => Rp.shun (fun a q _ => z a q) _ v h
 | n + 1, p, .dic ks ds, v, g, h => by
  unfold Ow at h
  obtain ⟨a, vs, h1, h2, h3, h4, h5⟩ := h
  unfold Rp
  refine ⟨a, vs, h1, fun q => q (g a [] (by rw [gE2]; exact h2)), h3, RpL.of h4 fun j d' v' q1 q2 => Ow.thaw z n _ d' v' (fun b q e => g b ([j] ++ q) (by rw [← List.append_assoc]; exact e)) (h5 j d' v' q1 q2)⟩
 | n + 1, p, .obj k ds, v, g, h => by
  unfold Ow at h
  obtain ⟨a, vs, h1, h2, h3, h4, h5⟩ := h
  unfold Rp
  refine ⟨a, vs, h1, .inl fun q => q (g a [] (by rw [gE2]; exact h2)), h3.1, RpL.of h4 fun j d' v' q1 q2 => Ow.thaw z n _ d' v' (fun b q e => g b ([j] ++ q) (by rw [← List.append_assoc]; exact e)) (h5 j d' v' q1 q2)⟩
 | n + 1, p, .ro _, v, _, h => Rp.shun (fun a q _ => z a q) _ v h
def RpZ (W : Wd) (L : Lab) (H : Hp) : Nat → D → V → Prop
 | 0, d, v => Rp W No H d v
 | 1, .lst ds, v => ∃ a vs, v = .ref a ∧ (H a = some (.lst vs) ∧ vs.length ≤ sizeLine) ∧ RpL W (Zo L) H ds vs
 | 1, .obj k ds, v => ∃ a vs, v = .ref a ∧ W.oa a k ds vs H ∧ RpL W (Zo L) H ds vs
 | 1, .dic ks ds, v => ∃ a vs, v = .ref a ∧ kGA H a ks vs ∧ RpL W (Zo L) H ds vs
 | _, d, v => Rp W (Zo L) H d v
theorem RpZ.any {W : Wd} {L : Lab} {H : Hp} {z : Nat} {d : D} {v : V} (h : RpZ W L H z d v) : Rp W No H d v := by
 match z, d, h with
 | 0, _, h => exact h
 | 1, .lst ds, h =>
  obtain ⟨a, vs, h1, h2, h3⟩ := h
  unfold Rp
  exact ⟨a, vs, h1, fun q => q, h2, RpL.shun (fun _ q _ => q.elim) ds vs h3⟩
 | 1, .non, h => exact Rp.shun (Z := Zo L) (fun _ q _ => q.elim) _ v h
 | 1, .bool _, h => exact Rp.shun (Z := Zo L) (fun _ q _ => q.elim) _ v h
 | 1, .int _, h => exact Rp.shun (Z := Zo L) (fun _ q _ => q.elim) _ v h
 | 1, .str _, h => exact Rp.shun (Z := Zo L) (fun _ q _ => q.elim) _ v h
 | 1, .tup _, h => exact Rp.shun (Z := Zo L) (fun _ q _ => q.elim) _ v h
 | 1, .dic ks ds, h =>
  obtain ⟨a, vs, h1, h2, h3⟩ := h
  unfold Rp
  exact ⟨a, vs, h1, fun q => q, h2, RpL.shun (fun _ q _ => q.elim) ds vs h3⟩
 | 1, .obj k ds, h =>
  obtain ⟨a, vs, h1, h2, h3⟩ := h
  unfold Rp
  exact ⟨a, vs, h1, .inl fun q => q, h2, RpL.shun (fun _ q _ => q.elim) ds vs h3⟩
 | 1, .ro _, h => exact Rp.shun (Z := Zo L) (fun _ q _ => q.elim) _ v h
 | _ + 2, _, h => exact Rp.shun (Z := Zo L) (fun _ q _ => q.elim) _ v h
structure Gh where
 H : Hp
 L : Lab
 n : Nat
 v : V
 no : n = 0 → ∀ a q, L a ≠ some (0 :: q)
 hd : ∀ a l, L a = some l → l = [] ∨ ∃ q, l = 0 :: q
def Gh.io (G : Gh) : Addr → Prop := fun a => ∃ q, G.L a = some (0 :: q)
structure Ent (W : Wd) (G : Gh) (H : Hp) : Prop where
 ev : Ev W G.io G.H H
 tabs : LamX.Tabs W.T H
theorem Ent.trans {W : Wd} {G : Gh} {H H' : Hp} (a : Ent W G H) (b : Ev W G.io H H') : Ent W G H' := ⟨a.ev.trans b, fun p hp => b.tab p hp (a.tabs p hp)⟩
structure Rel (W : Wd) (G : Gh) (O : List Nat) (L : Lab) (env : EnvD) (σ : L2.St) (H : Hp) : Prop where
 len : env.length = σ.length
 slot : ∀ (i : Nat) (d : D), env[i]? = some (some d) → ∃ v, σ[i]? = some (some v) ∧ Ow W L H (O.getD i 0) [i] d v
 dom : ∀ a, L a ≠ none → H a ≠ none
 ent : Ent W G H
 ext : ∀ a l, G.L a = some l → L a = some l
 loc : ∀ a l, L a = some l → G.L a = none → G.H a = none ∧ ∃ i q, l = i :: q
 first : G.n ≠ 0 → σ[0]? = some (some G.v) ∧ O.getD 0 0 = G.n
 zero : G.n ≠ 0 ∧ G.n ≤ 2 → ∀ a q, L a = some (0 :: q) → G.L a = some (0 :: q)
theorem Ev.ob {W : Wd} {Z : Addr → Prop} {H H' : Hp} (e : Ev W Z H H') {a : Addr} (z : ¬ Z a) : Stay W H H' a := ⟨fun vs h => e.lst a vs h z, fun k ds vs h => e.obj a k ds vs h (.inl z), fun ks vs h => e.dic h z⟩
section
variable {W : Wd} {G : Gh} {O : List Nat} {L : Lab} {env : EnvD} {σ : L2.St} {H H' : Hp}
theorem Rel.ev {Z : Addr → Prop} (R : Rel W G O L env σ H) (e : Ev W Z H H') (z : ∀ a, Z a → L a = none ∧ False) : Rel W G O L env σ H' := by
 have hz : ∀ a, ¬ Z a := fun a q => (z a q).2
 have e' : Ev W (Zo L) H H' := e.mono fun a q _ => (hz a q).elim
 have e0 : Ev W G.io H H' := e.mono fun a q _ => (hz a q).elim
 refine ⟨R.len, fun i d h => ?_, fun a q n => R.dom a q (e.dom a n), R.ent.trans e0, R.ext, R.loc, R.first, R.zero⟩
 obtain ⟨v, h1, h2⟩ := R.slot i d h
 exact ⟨v, h1, Ow.map (fun d v => Rp.ev e' d v) _ _ _ d v (fun a q q1 _ => ⟨q1, e.ob (hz a)⟩) h2⟩
theorem Rel.pure (R : Rel W G O L env σ H) (e : Ev W No H H') : Rel W G O L env σ H' := R.ev e fun _ q => q.elim
theorem Rel.new (R : Rel W G O L env σ H) {p : Addr} {o : HO} (n : H p = none) : Rel W G O L env σ (upd H p o) := R.pure (Ev.new n)
theorem Rel.free (R : Rel W G O L env σ H) {p : Addr} (n : H p = none) : L p = none := by
 cases q : L p with
 | none => rfl
 | some l => exact absurd n (R.dom p (by rw [q]; exact fun w => nomatch w))
theorem Rel.any (R : Rel W G O L env σ H) {i : Nat} {d : D} (h : env[i]? = some (some d)) : ∃ v, σ[i]? = some (some v) ∧ Rp W No H d v := by
 obtain ⟨v, h1, h2⟩ := R.slot i d h
 exact ⟨v, h1, Ow.any _ _ _ _ h2⟩
theorem kDr {O : List Nat} {i j n : Nat} : (O.set i n).getD j 0 = if i = j ∧ i < O.length then n else O.getD j 0 := by
 rw [gH7, gH7, List.getElem?_set]
 by_cases h : i = j
 ·subst h
  by_cases h2 : i < O.length
  ·simp [h2]
  ·have : O[i]? = none := gI1.mpr (by omega)
   simp [h2, this]
 ·simp [h]
theorem Rel.set (R : Rel W G O L env σ H) {i : Nat} {d : D} {v : V} (h : Rp W (Zo L) H d v) (hi : i ≠ 0 ∨ G.n = 0) : Rel W G (O.set i 0) L (env.set i (some d)) (σ.set i (some v)) H := by
 refine ⟨by rw [gH6, gH6, R.len], fun j d' e => ?_, R.dom, R.ent, R.ext, R.loc, fun hn => ?_, R.zero⟩
 ·by_cases q : i = j
  ·subst q
   have hl : i < env.length := by
    have := (gF8.mp e).1
    simpa using this
   rw [gI3 hl] at e
   have e' : d = d' := gF3 (gF3 e)
   subst e'
   refine ⟨v, gI3 (by rw [← R.len]; exact hl), ?_⟩
   have : (O.set i 0).getD i 0 = 0 := by
    rw [kDr]
    split
    ·rfl
    ·rename_i z
     rw [gH7, gI1.mpr (by simp at z; omega)]
     rfl
   rw [this]
   exact h
  ·rw [gH4 q] at e
   obtain ⟨v', h1, h2⟩ := R.slot j d' e
   refine ⟨v', by rw [gH4 q]; exact h1, ?_⟩
   rw [kDr, if_neg (fun z => q z.1)]
   exact h2
 ·have h0 : i ≠ 0 := hi.resolve_right hn
  obtain ⟨a, b⟩ := R.first hn
  refine ⟨by rw [gH4 h0]; exact a, ?_⟩
  rw [kDr, if_neg (fun z => h0 z.1)]
  exact b
end
def kDe (O O' : List Nat) : Bool := (List.range (max O.length O'.length)).all fun i => O'.getD i 0 == O.getD i 0 || O'.getD i 0 == 0
theorem kKo {O O' : List Nat} (h : kDe O O' = true) (i : Nat) : O'.getD i 0 = O.getD i 0 ∨ O'.getD i 0 = 0 := by
 by_cases hi : i < max O.length O'.length
 ·have := (gH5.mp h) i (List.mem_range.mpr hi)
  simpa using this
 ·right
  rw [gH7, gI1.mpr (by omega)]
  rfl
def kKn (O O' : List Nat) (L : Lab) : Lab := fun a => match L a with
 | some (j :: q) => if O'.getD j 0 = O.getD j 0 then some (j :: q) else none
 | x => x
section
variable {W : Wd} {G : Gh} {O O' : List Nat} {L : Lab} {env : EnvD} {σ : L2.St} {H H' : Hp}
theorem kGB {a : Addr} {l : List Nat} (h : kKn O O' L a = some l) : L a = some l ∧ ∀ j q, l = j :: q → O'.getD j 0 = O.getD j 0 := by
 unfold kKn at h
 split at h
 ·rename_i j q e
  split at h
  ·rename_i c
   cases h
   refine ⟨e, fun j' q' z => ?_⟩
   injection z with z1 _
   rw [← z1]
   exact c
  ·cases h
 ·rename_i hx
  refine ⟨h, fun j q z => ?_⟩
  subst z
  exact (hx j q h).elim
theorem kGC {a : Addr} {l : List Nat} (h : L a = some l) (k : ∀ j q, l = j :: q → O'.getD j 0 = O.getD j 0) : kKn O O' L a = some l := by
 unfold kKn
 split
 ·rename_i j q e
  rw [h] at e
  cases e
  rw [if_pos (k j q rfl)]
 ·exact h
theorem kCN {a : Addr} (h : kKn O O' L a ≠ none) : L a ≠ none := fun z => by
 cases q : kKn O O' L a with
 | none => exact h q
 | some l => rw [(kGB q).1] at z; cases z
theorem Rel.thin (R : Rel W G O L env σ H) (h : kDe O O' = true) (h0 : G.n ≠ 0 → O'.getD 0 0 = O.getD 0 0) : Rel W G O' (kKn O O' L) env σ H := by
 refine ⟨R.len, fun j d e => ?_, fun a q => R.dom a (kCN q), R.ent, fun a l e => kGC (R.ext a l e) fun j q z => ?_, fun a l e q => R.loc a l (kGB e).1 q, fun hn => ?_, fun hn a q e => R.zero hn a q (kGB e).1⟩
 ·obtain ⟨v, h1, h2⟩ := R.slot j d e
  refine ⟨v, h1, ?_⟩
  by_cases c : O'.getD j 0 = O.getD j 0
  ·rw [c]
   exact Ow.map (fun d v => Rp.shun (fun a q _ => kCN q) d v) _ _ _ d v (fun a r e1 _ => ⟨kGC e1 (fun j' q' w => by
    have w' : j :: r = j' :: q' := w
    injection w' with w1 _
    rw [← w1]
    exact c), Stay.refl⟩) h2
  ·have o : O'.getD j 0 = 0 := (kKo h j).resolve_left c
   rw [o]
   refine Ow.thaw (fun a q => kCN q) _ _ d v (fun a q e => ?_) h2
   cases r : kKn O O' L a with
   | none => rfl
   | some l =>
    obtain ⟨r1, r2⟩ := kGB r
    rw [e] at r1
    exact (c (r2 j q (gF3 r1).symm)).elim
 ·subst z
  rcases G.hd a _ e with w | ⟨q', w⟩
  ·cases w
  ·injection w with w1 _
   subst w1
   by_cases hn : G.n = 0
   ·exact (G.no hn a q e).elim
   ·exact h0 hn
 ·obtain ⟨a, b⟩ := R.first hn
  exact ⟨a, (h0 hn).trans b⟩
end
def ExR (W : Wd) (L : Lab) (c : Str) (a : Option D) (cv : Value) (dd : Option Addr) (H : Hp) : Prop :=
 cv = .ref (He.ga W.K c) ∧ (∀ d, a = some d → ∃ (x : Addr) (v : V), dd = some x ∧ H x = some (.xd [("at", v)]) ∧ Rp W (Zo L) H d v) ∧ (a = none → dd = none)
def kBp (W : Wd) (G : Gh) (O : List Nat) (L : Lab) (p : Bool) (z : Nat) (Wx : WX) (env : EnvD) (σ : L2.St) (H : Hp) (Q : VK) : Out D → Prop
 | .ok d env' => ∀ v H', Rel W G O L env' σ H' → Ev W (Zp p L) H H' → (p = true → env' = env) → RpZ W L H' z d v → Q v H'
 | .exc c a env' => ∀ cv dd H', Rel W G O L env' σ H' → ExR W L c a cv dd H' → Wx cv dd σ H'
 | .bad => False
structure DE (W : Wd) (X : Cx) (Wx : WX) (O : List Nat) (e : Expr) (m : M D) (z : Nat) (p : Bool) : Prop where
 k : X.K = W.K
 run : ∃ t, PE X e t ∧ ∀ (G : Gh) (L : Lab) (env : EnvD) (σ : L2.St) (H : Hp) (Q : VK), Rel W G O L env σ H → kBp W G O L p z Wx env σ H Q (m env) → t σ H Q
def kLm (W : Wd) (G : Gh) (O : List Nat) (L : Lab) (p : Bool) (Wx : WX) (env : EnvD) (σ : L2.St) (H : Hp) (Q : Bool → Hp → Prop) : Out Bool → Prop
 | .ok b env' => ∀ H', Rel W G O L env' σ H' → Ev W (Zp p L) H H' → (p = true → env' = env) → Q b H'
 | .exc c a env' => ∀ cv dd H', Rel W G O L env' σ H' → ExR W L c a cv dd H' → Wx cv dd σ H'
 | .bad => False
structure DT (W : Wd) (X : Cx) (Wx : WX) (O : List Nat) (e : Expr) (m : M Bool) (p : Bool) : Prop where
 k : X.K = W.K
 run : ∃ t, PT X e t ∧ ∀ (G : Gh) (L : Lab) (env : EnvD) (σ : L2.St) (H : Hp) (Q : Bool → Hp → Prop), Rel W G O L env σ H → kLm W G O L p Wx env σ H Q (m env) → t σ H Q
section
variable {W : Wd} {X : Cx} {Wx : WX} {G : Gh} {O : List Nat} {L : Lab} {env : EnvD} {σ : L2.St} {H H' : Hp} {p q : Bool} {z : Nat}
theorem RpZ.ev {d : D} {v : V} (h : RpZ W L H z d v) (e : Ev W (Zp p L) H H') (c : p = true ∨ z = 2) : RpZ W L H' z d v := by
 rcases c with c | c
 ·subst c
  match z, d, h with
  | 0, d, h => exact Rp.ev e d v h
  | 1, .lst ds, h =>
   obtain ⟨a, vs, h1, h2, h3⟩ := h
   exact ⟨a, vs, h1, ⟨e.lst _ _ h2.1 (fun z => z), h2.2⟩, RpL.ev (e.mono fun _ z _ => z.elim) ds vs h3⟩
  | 1, .non, h => exact h
  | 1, .bool _, h => exact h
  | 1, .int _, h => exact h
  | 1, .str _, h => exact h
  | 1, .tup ds, h => exact Rp.ev (Z := Zo L) (e.mono fun _ z _ => z.elim) (.tup ds) v h
  | 1, .dic ks ds, h =>
   obtain ⟨a, vs, h1, h2, h3⟩ := h
   exact ⟨a, vs, h1, e.dic h2 (fun z => z), RpL.ev (e.mono fun _ z _ => z.elim) ds vs h3⟩
  | 1, .obj k ds, h =>
   obtain ⟨a, vs, h1, h2, h3⟩ := h
   exact ⟨a, vs, h1, e.obj _ _ _ _ h2 (.inl fun z => z), RpL.ev (e.mono fun _ z _ => z.elim) ds vs h3⟩
  | 1, .ro ds, h => exact Rp.ev (Z := Zo L) (e.mono fun _ z _ => z.elim) (.ro ds) v h
  | n + 2, d, h => exact Rp.ev (Z := Zo L) (e.mono fun _ z _ => z.elim) d v h
 ·subst c
  exact Rp.ev (Z := Zo L) (e.mono fun _ z _ => z.sub) d v h
end
mutual
def D.py : D → PyData
 | .non => .none
 | .bool b => .bool b
 | .int i => .int i
 | .str x => .str x
 | .tup xs => .tuple (pyL xs)
 | .lst xs => .list (pyL xs)
 | .ro xs => .list (pyL xs)
 | .dic _ _ => .none
 | .obj _ _ => .none
def pyL : List D → List PyData
 | [] => []
 | d :: ds => d.py :: pyL ds
end
mutual
def D.plain : D → Bool
 | .non => true
 | .bool _ => true
 | .int _ => true
 | .str _ => true
 | .tup xs => kEx xs
 | .lst xs => kEx xs
 | .ro xs => kEx xs
 | .dic _ _ => false
 | .obj _ _ => false
def kEx : List D → Bool
 | [] => true
 | d :: ds => d.plain && kEx ds
end
structure FnG (P : Program) (w : World) (K : PySem.W.Frag) (mg : Str → Option Value) (base : Heap) (k : Nat) (f : Addr) (fd : FuncData) (ps : List Str) (sp : Sp) : Prop where
 size : ∀ vs H Q E, sp vs H Q E → vs.length = ps.length
 go : ∀ (A : Around), Room k A → A.guards = some [] → ∀ (outer : List Env) (s : Shared), ∀ H : Hp, Env0 P w K mg base A outer s H → ∀ (args : Args) (us : List Value), BindsTo s fd args (ps.zip us) →
  ∀ (vs : List V), Vals vs us → ∀ (Q : VK) (E : XK), sp vs H Q E → codeAny (model P w) A (.call (.ref f) args) (CR (CX P w) outer P w H s Q E) s
theorem FnG.mono {P : Program} {w : World} {K : PySem.W.Frag} {mg : Str → Option Value} {base : Heap} {j k : Nat} {f : Addr} {fd : FuncData} {ps : List Str} {sp : Sp} (F : FnG P w K mg base j f fd ps sp) (h : j ≤ k) : FnG P w K mg base k f fd ps sp :=
 ⟨F.size, fun A hr => F.go A (hr.mono h)⟩
inductive OutS where
 | nx (e : EnvD) | rt (d : D) (e : EnvD) | bk (e : EnvD) | ct (e : EnvD) | exc (c : Str) (a : Option D) (e : EnvD) | bad
abbrev MS := EnvD → OutS
def OutS.seq : OutS → MS → OutS
 | .nx e, f => f e
 | x, _ => x
structure Fw (W : Wd) (L : Lab) (H : Hp) (L' : Lab) (H' : Hp) : Prop where
 ev : Ev W (Zo L) H H'
 lab : ∀ a, L' a ≠ none → L a ≠ none ∨ H a = none
theorem Fw.refl {W : Wd} {L : Lab} {H : Hp} : Fw W L H L H := ⟨Ev.refl, fun _ h => .inl h⟩
theorem Fw.of {W : Wd} {L : Lab} {H H' : Hp} {p : Bool} (e : Ev W (Zp p L) H H') : Fw W L H L H' := ⟨e.mono fun _ z _ => z.sub, fun _ h => .inl h⟩
theorem Fw.trans {W : Wd} {L L1 L2 : Lab} {H H1 H2 : Hp} (a : Fw W L H L1 H1) (b : Fw W L1 H1 L2 H2) : Fw W L H L2 H2 := by
 refine ⟨⟨fun c xs h z => b.ev.lst c xs (a.ev.lst c xs h z) fun q => ?_, fun c xs h => b.ev.tup c xs (a.ev.tup c xs h), fun c o u h => b.ev.frz c o u (a.ev.frz c o u h), fun c xs h z => b.ev.dk c xs (a.ev.dk c xs h z) fun q => ?_,
  fun c xs h z => b.ev.dt c xs (a.ev.dt c xs h z) fun q => ?_, fun c k es ds h z => b.ev.obj c k es ds (a.ev.obj c k es ds h z) (W.gd h z fun y q => ?_), fun c h => a.ev.dom c (b.ev.dom c h), fun c q h => b.ev.tab c q (a.ev.tab c q h), fun c q h => b.ev.cod c q (a.ev.cod c q h)⟩, fun c h => ?_⟩
 ·rcases a.lab c q with q | q
  ·exact z q
  ·rw [h] at q; cases q
 ·rcases a.lab c q with q | q
  ·exact z q
  ·rw [h] at q; cases q
 ·rcases a.lab c q with q | q
  ·exact z q
  ·rw [h] at q; cases q
 ·rcases a.lab c q with q | q
  ·exact q
  ·exact (y q).elim
 ·rcases b.lab c h with q | q
  ·exact a.lab c q
  ·exact .inr (a.ev.dom c q)
theorem Fw.thin {W : Wd} {L : Lab} {H : Hp} {O O' : List Nat} : Fw W L H (kKn O O' L) H := ⟨Ev.refl, fun _ h => .inl (kCN h)⟩
theorem Rp.fw {W : Wd} {L L' : Lab} {H H' : Hp} (f : Fw W L H L' H') {d : D} {v : V} (h : Rp W (Zo L) H d v) : Rp W (Zo L') H' d v := by
 have h1 : Rp W (fun a => Zo L a ∨ Zo L' a) H d v := Rp.shun (fun a z n => by
  rcases z with z | z
  ·exact z
  ·exact (f.lab a z).resolve_right n) d v h
 have h2 := Rp.ev (f.ev.mono fun a z _ => (Or.inl z : Zo L a ∨ Zo L' a)) d v h1
 exact Rp.shun (fun a z _ => .inr z) d v h2
theorem RpL.fw {W : Wd} {L L' : Lab} {H H' : Hp} (f : Fw W L H L' H') {ds : List D} {vs : List V} (h : RpL W (Zo L) H ds vs) : RpL W (Zo L') H' ds vs :=
 RpL.of h.length fun i d v h1 h2 => by
  obtain ⟨v', e1, e2⟩ := h.getD h1
  rw [h2] at e1
  rw [gF3 e1]
  exact Rp.fw f e2
structure Fc where
 ob : List Nat
 ort : List Nat
 ox : List Nat
 fr : Nat
 fw : Bool
def kDq (W : Wd) (G : Gh) (F : Fc) (Wx : WX) (O' : List Nat) (L : Lab) (H : Hp) (Dn : Ends) : OutS → Prop
 | .nx e => ∀ σ' H' L', Rel W G O' L' e σ' H' → (F.fw = true → Fw W L H L' H') → Dn.nx σ' H'
 | .rt d e => ∀ v σ' H' L', Rel W G F.ort L' e σ' H' → Ow W L' H' F.fr [tmp] d v → Dn.rt v H'
 | .bk e => ∀ σ' H' L', Rel W G F.ob L' e σ' H' → (F.fw = true → Fw W L H L' H') → Dn.bk σ' H'
 | .ct e => ∀ σ' H' L', Rel W G F.ob L' e σ' H' → (F.fw = true → Fw W L H L' H') → Dn.ct σ' H'
 | .exc c a e => ∀ cv dd σ' H' L', Rel W G F.ox L' e σ' H' → ExR W L' c a cv dd H' → Wx cv dd σ' H'
 | .bad => False
def SndS (W : Wd) (F : Fc) (Wx : WX) (O O' : List Nat) (t : TS) (m : MS) : Prop := ∀ (G : Gh) (L : Lab) (env : EnvD) (σ : L2.St) (H : Hp) (Dn : Ends), (G.n ≠ 0 → F.ort.getD 0 0 = G.n ∧ F.ox.getD 0 0 = G.n ∧ F.ob.getD 0 0 = G.n) → Rel W G O L env σ H → kDq W G F Wx O' L H Dn (m env) → t Dn σ H
structure DS (W : Wd) (X : Cx) (Wx : WX) (F : Fc) (O : List Nat) (st : Stmt) (m : MS) (O' : List Nat) : Prop where
 k : X.K = W.K
 run : ∃ t, PS X st t ∧ SndS W F Wx O O' t m
structure DSs (W : Wd) (X : Cx) (Wx : WX) (F : Fc) (O : List Nat) (st : List Stmt) (m : MS) (O' : List Nat) : Prop where
 k : X.K = W.K
 run : ∃ t, PSs X st t ∧ SndS W F Wx O O' t m
section
variable {W : Wd} {X : Cx} {Wx : WX} {F : Fc} {O O1 O' : List Nat} {st : Stmt} {rest : List Stmt} {m n : MS} {G : Gh} {L L1 : Lab} {H H1 : Hp} {Dn : Ends}
theorem kDq.fw {r : OutS} (f : F.fw = true → Fw W L H L1 H1) (h : kDq W G F Wx O' L H Dn r) : kDq W G F Wx O' L1 H1 Dn r := by
 cases r with
 | nx e => exact fun σ' H' L' R q => h σ' H' L' R fun w => (f w).trans (q w)
 | rt d e => exact h
 | bk e => exact fun σ' H' L' R q => h σ' H' L' R fun w => (f w).trans (q w)
 | ct e => exact fun σ' H' L' R q => h σ' H' L' R fun w => (f w).trans (q w)
 | exc c a e => exact h
 | bad => exact h
theorem DSs.thin (h : DSs W X Wx F O1 rest m O') (c : kDe O O1 = true := by decide) (c0 : O1.getD 0 0 = O.getD 0 0 := by decide) : DSs W X Wx F O rest m O' := by
 obtain ⟨k, t, p, s⟩ := h
 exact ⟨k, t, p, fun G L env σ H Dn g R h => s G _ env σ H Dn g (R.thin c fun _ => c0) (h.fw fun _ => Fw.thin)⟩
theorem DS.thin (h : DS W X Wx F O1 st m O') (c : kDe O O1 = true := by decide) (c0 : O1.getD 0 0 = O.getD 0 0 := by decide) : DS W X Wx F O st m O' := by
 obtain ⟨k, t, p, s⟩ := h
 exact ⟨k, t, p, fun G L env σ H Dn g R h => s G _ env σ H Dn g (R.thin c fun _ => c0) (h.fw fun _ => Fw.thin)⟩
end
def lay (L : Lab) (p : Addr) (l : List Nat) : Lab := fun a => if a = p then some l else L a
theorem lay_same {L : Lab} {p : Addr} {l : List Nat} : lay L p l p = some l := if_pos rfl
theorem lay_ne {L : Lab} {p a : Addr} {l : List Nat} (h : a ≠ p) : lay L p l a = L a := if_neg h
section
variable {W : Wd} {G : Gh} {O : List Nat} {L L' : Lab} {env : EnvD} {σ : L2.St} {H H' : Hp}
theorem Rel.lay (R : Rel W G O L env σ H) {p : Addr} {o : HO} (n : H p = none) {i : Nat} {q : List Nat} (hi : i ≠ 0 := by decide) : Rel W G O (lay L p (i :: q)) env σ (upd H p o) := by
 have np : L p = none := R.free n
 have sh : ∀ a, Zo (DL.lay L p (i :: q)) a → H a ≠ none → Zo L a := fun a z hn => by
  by_cases e : a = p
  ·rw [e] at hn
   exact (hn n).elim
  ·unfold Zo at z
   rw [lay_ne e] at z
   exact z
 have ev : Ev W No H (upd H p o) := Ev.new n
 refine ⟨R.len, fun j d h => ?_, fun a z => ?_, R.ent.trans (ev.mono fun _ z _ => z.elim), fun a l h => ?_, fun a l h g => ?_, R.first, fun hn a r h => ?_⟩
 ·obtain ⟨v, h1, h2⟩ := R.slot j d h
  refine ⟨v, h1, Ow.map (fun d v h => Rp.ev (ev.mono fun _ z _ => z.elim) d v (Rp.shun sh d v h)) _ _ _ d v (fun a r e1 _ => ?_) h2⟩
  have ne : a ≠ p := fun e => by rw [e, np] at e1; cases e1
  exact ⟨by rw [lay_ne ne]; exact e1, ev.ob (fun z => z)⟩
 ·by_cases e : a = p
  ·rw [e, upd_same]; exact fun w => nomatch w
  ·rw [upd_ne e]
   rw [lay_ne e] at z
   exact R.dom a z
 ·have ne : a ≠ p := fun e => by
   have := R.ext a l h
   rw [e, np] at this
   cases this
  rw [lay_ne ne]
  exact R.ext a l h
 ·by_cases e : a = p
  ·rw [e, lay_same] at h
   rw [e]
   exact ⟨R.ent.ev.dom p n, i, q, (gF3 h).symm⟩
  ·rw [lay_ne e] at h
   exact R.loc a l h g
 ·by_cases e : a = p
  ·rw [e, lay_same] at h
   injection h with h
   injection h with h _
   exact (hi h).elim
  ·rw [lay_ne e] at h
   exact R.zero hn a r h
end
def nl (L L' : Lab) : Lab := fun a => match L a with
 | some _ => some []
 | none => L' a
theorem kGf {L L' : Lab} {a : Addr} (h : L a = none) : nl L L' a = L' a := by
 unfold nl
 rw [h]
theorem kFu {L L' : Lab} (u : ∀ a l, L a = some l → L' a = some l) {a : Addr} : Zo (nl L L') a ↔ Zo L' a := by
 cases r : L a with
 | none =>
  have e : nl L L' a = L' a := kGf r
  unfold Zo
  rw [e]
 | some l =>
  have e : nl L L' a = some [] := by
   unfold nl
   rw [r]
  unfold Zo
  rw [e, u a l r]
  constructor
  ·intro _ w; cases w
  ·intro _ w; cases w
def OwN (W : Wd) (L L' : Lab) (H : Hp) (n : Nat) (d : D) (v : V) : Prop := Ow W (nl L L') H n [tmp] d v
theorem OwN.of {W : Wd} {L L' : Lab} {H : Hp} {n : Nat} {d : D} {v : V} (h : Ow W L' H n [tmp] d v) (u : ∀ a l, L a = some l → L' a = some l) (nn : ∀ a q, L' a = some (tmp :: q) → L a = none) : OwN W L L' H n d v :=
 Ow.map (fun d v => Rp.shun (fun a z _ => (kFu u).mp z) d v) n [tmp] [tmp] d v (fun a r e1 e2 => ⟨by rw [kGf (nn a _ e1)]; exact e1, Stay.refl⟩) h
theorem OwN.zero {W : Wd} {L L' : Lab} {H : Hp} {d : D} {v : V} (h : Rp W (Zo L') H d v) (u : ∀ a l, L a = some l → L' a = some l) : OwN W L L' H 0 d v := Rp.shun (fun a z _ => (kFu u).mp z) d v h
section
variable {W : Wd} {X : Cx} {Wx : WX} {O : List Nat} {e : Expr} {es : List Expr} {m : M D} {n : Nat} {p p1 p2 : Bool} {z z1 z2 : Nat} {G : Gh} {L : Lab} {env : EnvD} {σ : L2.St} {H : Hp}
def AllZ (W : Wd) (L : Lab) (H : Hp) (z : Nat) (ds : List D) (vs : List V) : Prop := ds.length = vs.length ∧ ∀ (i : Nat) (d : D) (v : V), ds[i]? = some d → vs[i]? = some v → RpZ W L H z d v
theorem AllZ.any {ds : List D} {vs : List V} (h : AllZ W L H z ds vs) : RpL W No H ds vs := RpL.of h.1 fun i d v h1 h2 => (h.2 i d v h1 h2).any
end
structure DG (W : Wd) (X : Cx) (O : List Nat) (tg : Expr) (gd : D → EnvD → Option EnvD) (is : List Nat) : Prop where
 run : ∃ g, PG X tg g ∧ ∀ (G : Gh) (L : Lab) (env : EnvD) (σ : L2.St) (H : Hp) (x : V) (d : D) (Q : L2.St → Hp → Prop), Rel W G O L env σ H → Rp W (Zo L) H d x →
  (∃ env', gd d env = some env' ∧ ∀ σ', Rel W G O L env' σ' H → (∀ vs, (∀ i ∈ is, i ∈ vs) → wipe σ' vs = wipe σ vs) → Q σ' H) → g x σ H Q
def tE (W : Wd) (Wx : WX) (O : List Nat) (m : M D) (z : Nat) (p : Bool) : TE := fun σ H Q => ∃ (G : Gh) (L : Lab) (env : EnvD), Rel W G O L env σ H ∧ kBp W G O L p z Wx env σ H Q (m env)
def tT (W : Wd) (Wx : WX) (O : List Nat) (m : M Bool) (p : Bool) : TT := fun σ H Q => ∃ (G : Gh) (L : Lab) (env : EnvD), Rel W G O L env σ H ∧ kLm W G O L p Wx env σ H Q (m env)
def tG (W : Wd) (O : List Nat) (gd : D → EnvD → Option EnvD) (is : List Nat) : TG := fun x σ H Q => ∃ (G : Gh) (L : Lab) (env : EnvD) (d : D), Rel W G O L env σ H ∧ Rp W (Zo L) H d x ∧
 ∃ env', gd d env = some env' ∧ ∀ σ', Rel W G O L env' σ' H → (∀ vs, (∀ i ∈ is, i ∈ vs) → wipe σ' vs = wipe σ vs) → Q σ' H
section
variable {W : Wd} {X : Cx} {Wx : WX} {O : List Nat} {e tg : Expr} {m : M D} {mt : M Bool} {z : Nat} {p : Bool} {gd : D → EnvD → Option EnvD} {is : List Nat}
theorem DE.plain_ (h : DE W X Wx O e m z p) : PE X e (tE W Wx O m z p) := by
 obtain ⟨_, t, pe, s⟩ := h
 exact ⟨fun pins st σ H Q I ⟨G, L, env, R, q⟩ => pe.run pins st σ H Q I (s G L env σ H Q R q)⟩
theorem DT.plain_ (h : DT W X Wx O e mt p) : PT X e (tT W Wx O mt p) := by
 obtain ⟨_, t, pe, s⟩ := h
 exact ⟨fun pins st σ H Q I ⟨G, L, env, R, q⟩ => pe.run pins st σ H Q I (s G L env σ H Q R q)⟩
theorem DG.plain_ (h : DG W X O tg gd is) : PG X tg (tG W O gd is) := by
 obtain ⟨t, pg, s⟩ := h
 exact ⟨fun pins st σ H v u Q I r ⟨G, L, env, d, R, rp, env', he, q⟩ => pg.run pins st σ H v u Q I r (s G L env σ H v d Q R rp ⟨env', he, q⟩)⟩
end
end DL
namespace DL
open PySem PySem.Spec PyProof.Rows L2
section
variable {W : Wd} {G : Gh} {O : List Nat} {L : Lab} {env : EnvD} {σ : L2.St} {H : Hp} {n i : Nat}
theorem Rel.top (R : Rel W G O L env σ H) {ds : List D} (h : env[i]? = some (some (.lst ds))) (o : O.getD i 0 = n + 1) : ∃ a vs, σ[i]? = some (some (.ref a)) ∧ L a = some [i] ∧ H a = some (.lst vs) ∧ ds.length = vs.length ∧ vs.length ≤ sizeLine ∧
  ∀ (j : Nat) (d : D) (v : V), ds[j]? = some d → vs[j]? = some v → Ow W L H n ([i] ++ [j]) d v := by
 obtain ⟨v, h1, h2⟩ := R.slot i _ h
 rw [o] at h2
 unfold Ow at h2
 obtain ⟨a, vs, rfl, q1, q2, q3, q4⟩ := h2
 exact ⟨a, vs, h1, q1, q2, q3.1, q3.2, q4⟩
end
end DL
namespace DL
open PySem PySem.Spec PyProof.Rows L2 PySem.W
def kHz (d : D) : Bool := d.plain && (d.py.showable && ((!d.py.hasDict) && (decide (d.py.depth ≤ 64) && decide (d.py.shown.length ≤ sizeLine))))
end DL
namespace DL
open PySem PySem.Spec PySem.Calls PyProof.Rows L2
section
variable {P : Program} {w : World} {A : Around} {E : Value → Shared → Prop} {s : Shared}
abbrev Lot := List Key
abbrev lotH (P : Program) (w : World) (k : Lot) : Int := tupleKeyHash (mixKind P w) k
def rowT (P : Program) (w : World) (p : Lot × Value) : Int × Value := (lotH P w p.1, p.2)
structure HoldT (P : Program) (w : World) (h : Heap) (a : Addr) (L : List (Lot × Value)) (es : Array (Int × Value)) (ep : Nat) (t : SetTable) : Prop where
 obj : ∃ o, h.get? a = some o ∧ (o.ExactSet ∧ o.data = .set es ep t)
 rows : es.toList = L.map (rowT P w)
 refs : ∀ p ∈ L, ∃ b, p.2 = .ref b
 tab : TabOk t (L.map fun p => lotH P w p.1)
 nd : (L.map (·.1)).Nodup
 led : w.params.followText "set-order" = true ∨ t.led = true
 room : L.length * 5 < t.mask * 3
 few : L.length < 77
variable {a : Addr} {L : List (Lot × Value)} {es : Array (Int × Value)} {ep : Nat} {t : SetTable}
theorem HoldT.size {h : Heap} (R : HoldT P w h a L es ep t) : es.size = L.length := by rw [← Array.length_toList, R.rows, gF0]
theorem HoldT.row {h : Heap} (R : HoldT P w h a L es ep t) {i : Nat} {p : Lot × Value} (e : L[i]? = some p) : es[i]? = some (lotH P w p.1, p.2) := by
 rw [← Array.getElem?_toList, R.rows, gI0, e]
 rfl
end
end DL
namespace DL
open PySem PySem.Spec PySem.Calls PyProof.Rows L2 PySem.W
def keyO : D → Option Key
 | .int i => some (.inl i)
 | .str x => some (.inr x)
 | _ => none
def kHl : List D → Option (List Key)
 | [] => some []
 | d :: ds => match keyO d, kHl ds with
  | some k, some ks => some (k :: ks)
  | _, _ => none
def lotD : D → Option Lot
 | .tup ds => kHl ds
 | _ => none
end DL
namespace DL
open PySem PySem.Spec PySem.W PySem.Calls PyProof.Rows L2
def oexB (K : Frag) (C : Addr) : Bool := (match K.lookup C with
 | some ⟨.type t, _, .cls ⟨_, _, .ref C' :: bm, _, _, hd, _, _, _, _, del⟩, sl⟩ => (match sl.toList with
  | [_, _, _, _, some (.builtin n), _] => decide (t = "type") && (decide (C' = C) && (hd && (!del && (decide (n = "ValueError.__new__") && PySem.HandSPX.refsVE bm))))
  | _ => false)
 | _ => false) && (He.eqO (findIn K (.ref C) "__setattr__") (some (some (.builtin "object.__setattr__"))) && (decide (subIn K (.ref C) (.type "BaseException") = some true) && (decide (typeIn K (.ref C) = some (.type "type")) && keepIn K (.ref C))))
def kMF : List Stmt → Option (List Stmt)
 | .Expr (.Call (.Attribute (.Call (.Name s _) [] [] _) i p2) [.Constant (.str _) _ _] [] p4) _ :: rest => if (s == ("super" : Str) && (i == ("__init__" : Str) && p2.endLine == p4.line)) = true then some rest else none
 | _ => none
def kQH : List Stmt → Bool
 | [.Assign [.Attribute (.Name x _) f _] (.Name y _) _] => x == ("self" : Str) && (f == ("at" : Str) && y == ("at" : Str))
 | _ => false
def par2 : Arguments → Bool
 | ⟨[], [⟨s, _, _⟩, ⟨t, _, _⟩], none, [], [], none, []⟩ => s == ("self" : Str) && t == ("at" : Str)
 | _ => false
def par1 : Arguments → Bool
 | ⟨[], [⟨s, _, _⟩], none, [], [], none, []⟩ => s == ("self" : Str)
 | _ => false
def kSc (K : Frag) (cc C : Addr) : Bool := match K.lookup cc with
 | some ⟨_, _, .cell (some (.ref D)), _⟩ => decide (D = C)
 | _ => false
def kRK (file : Str) (K : Frag) (cd : Addr) : Bool := match K.lookup cd with
 | some ⟨_, _, .fields vs, _⟩ => (match (vs[2]? : Option Value) with
  | some (Value.str f _) => file == f
  | _ => false)
 | _ => false
abbrev iA (K : Frag) (C : Addr) : Addr := He.ma K C "__init__"
def isxB (K : Frag) (C : Addr) : Bool := He.eqO (findIn K (.ref C) "__class__") (some (some (.builtin "object.__class__"))) && (He.eqO (specialIn K (.builtin "object.__class__") "__get__") (some (some (.builtin "getset_descriptor.__get__"))) &&
 (decide (takesIn K (.builtin "object.__class__") = some true) && (decide (mroIn K C (.type "object") = some true) && (decide (mroIn K C (.ref C) = some true) && (decide (subIn K (.ref C) (.type "ValueError") = some true) && xfB K C)))))
def kVi (K : Frag) (C : Addr) : Bool := oexB K C && (He.eqO (ks_superIn K C C "__init__") (some (some (.builtin "ValueError.__init__"))) && (decide (mroIn K C (.ref C) = some true) && (decide (subIn K (.ref C) (.type "ValueError") = some true) &&
 (He.eqO (nsIn K cStatics "thirdparty.any") (some none) && (He.eqO (nsIn K mainGlobals "super") (some none) && (He.eqO (findIn K (.ref C) "__init__") (some (some (.ref (iA K C)))) && decide (typeIn K (.ref (iA K C)) = some (.type "function"))))))))
def clsB (K : Frag) (C : Addr) : Bool := kVi K C && isxB K C
def iniB (file : Str) (has : Bool) (K : Frag) (C : Addr) : Bool := clsB K C && (match K.lookup (iA K C) with
 | some ⟨_, _, .func ⟨name, qual, params, .stmts b, scope, globals, [(n, cc)], .none, _, _, _, _, .ref cd, _, builtins⟩, _⟩ => (match kMF b with
  | some r => name == ("__init__" : Str) && (n == ("__class__" : Str) && (decide (globals = mainGlobals) && (decide (builtins = builtinsNs) && (decide (scope.names.lookup ("super" : Str) = some .globalImplicit) && (codeIn K (.ref cd) qual && (kSc K cc C && (kRK file K cd &&
   (match has with
    | true => par2 params && (kQH r && (NdefX.nscB ["self", "at", "__class__"] ["self", "at"] ["__class__"] scope && (He.eqO (findIn K (.ref C) "at") (some none) && xfB K C)))
    | false => par1 params && (r.isEmpty && NdefX.nscB ["self", "__class__"] ["self"] ["__class__"] scope)))))))))
  | none => false)
 | _ => false)
end DL
namespace DL
open PySem PySem.Spec PyProof.Rows L2
abbrev Cl : Type := Value × Option Nat × (Addr → Value → Option Addr → TS)
def endN (i : Nat) (D : Ends) : Ends := { nx := fun σ' H' => D.nx (σ'.set i none) H', rt := D.rt, bk := fun σ' H' => D.bk (σ'.set i none) H', ct := fun σ' H' => D.ct (σ'.set i none) H' }
def wCl (Wout : WX) (K : PySem.W.Frag) (D : Ends) : List Cl → WX
 | [] => Wout
 | (c, none, ts) :: r => fun cls d σ H => ∃ b, PySem.W.exmOne K cls c = some b ∧ (b = true → ∀ a, H a = none → ts a cls d D σ H) ∧ (b = false → wCl Wout K D r cls d σ H)
 | (c, some i, ts) :: r => fun cls d σ H => ∃ b, PySem.W.exmOne K cls c = some b ∧ (b = true → ∀ a, H a = none → ts a cls d (endN i D) (σ.set i (some (.ref a))) H) ∧ (b = false → wCl Wout K D r cls d σ H)
inductive ClOk (X : Cx) : List ExceptHandler → List Cl → Prop
 | nil : ClOk X [] []
 | only {x : Str} {c : Value} {ts : Addr → Value → Option Addr → TS} {b₀ : Stmt} {suite : List Stmt} {np pos' : Pos} {hds : List ExceptHandler} {l : List Cl} (hc : Names X x c)
   (hsu : ∀ (a : Addr) (oe : Obj) (cls : Value) (d : Option Addr) (pn : List (Addr × Obj)), Zc cls d oe → (∃ vs, oe.data = .fields vs) → PSs (X.suite a ((a, oe) :: pn)) (b₀ :: suite) (ts a cls d)) (r : ClOk X hds l) :
   ClOk X (.ExceptHandler (some (.Name x np)) none (b₀ :: suite) pos' :: hds) ((c, none, ts) :: l)
 | as_ {x n : Str} {i : Nat} {c : Value} {ts : Addr → Value → Option Addr → TS} {b₀ : Stmt} {suite : List Stmt} {np pos' : Pos} {hds : List ExceptHandler} {l : List Cl} (hc : Names X x c) (hi : X.N[i]? = some n) (hln : X.env.kindOf n = some .local)
   (hsu : ∀ (a : Addr) (oe : Obj) (cls : Value) (d : Option Addr) (pn : List (Addr × Obj)), Zc cls d oe → (∃ vs, oe.data = .fields vs) → PSs (X.suite a ((a, oe) :: pn)) (b₀ :: suite) (ts a cls d)) (r : ClOk X hds l) :
   ClOk X (.ExceptHandler (some (.Name x np)) (some n) (b₀ :: suite) pos' :: hds) ((c, some i, ts) :: l)
def Wd.exc (W : Wd) (a : Addr) (dd : Option Addr) (v : V) (cn : Str) : Wd := ⟨W.K, W.T, fun b k ds vs H => W.oa b k ds vs H ∨ (k = 1 ∧ b = a ∧ ((vs = [v, .str cn] ∧ ∃ x, dd = some x ∧ H x = some (.xd [("at", v)])) ∨ (vs = [.str cn] ∧ dd = none))), fun {b k ds vs H p o} n h => by
  rcases h with h | ⟨e1, e2, ⟨e3, x, e4, e5⟩ | e3⟩
  ·exact .inl (W.new n h)
  ·refine .inr ⟨e1, e2, .inl ⟨e3, x, e4, ?_⟩⟩
   rw [upd_ne (fun z => by rw [z, n] at e5; cases e5)]
   exact e5
  ·exact .inr ⟨e1, e2, .inr e3⟩, fun {b k ds vs H p o o'} n m h => by
  rcases h with h | ⟨e1, e2, ⟨e3, x, e4, e5⟩ | e3⟩
  ·exact .inl (W.put n m h)
  ·refine .inr ⟨e1, e2, .inl ⟨e3, x, e4, ?_⟩⟩
   rw [upd_ne (fun z => by rw [z, n] at e5; rw [gF3 e5] at m; exact m)]
   exact e5
  ·exact .inr ⟨e1, e2, .inr e3⟩, fun {b k ds vs H} h hk => by
  rcases h with h | ⟨e1, e2, _⟩
  ·exact W.al h hk
  ·omega, fun {b k ds vs H p ps ps'} n h => by
  rcases h with h | ⟨e1, e2, ⟨e3, x, e4, e5⟩ | e3⟩
  ·exact .inl (W.tbw n h)
  ·refine .inr ⟨e1, e2, .inl ⟨e3, x, e4, ?_⟩⟩
   rw [upd_ne (fun z => by rw [z, n] at e5; cases e5)]
   exact e5
  ·exact .inr ⟨e1, e2, .inr e3⟩, fun {b ds vs H} h => by
  rcases h with h | ⟨e1, _⟩
  ·exact W.kt h
  ·exact absurd e1 (by decide)⟩
section
variable {W : Wd} {a : Addr} {dd : Option Addr} {v : V} {cn : Str} {H H' : Hp} {Z : Addr → Prop}
variable {G : Gh} {O : List Nat} {L : Lab} {env : EnvD} {σ : L2.St}
theorem Rel.mark (R : Rel W G O L env σ H) {i : Nat} {u : V} (hi : i ≠ 0 ∨ G.n = 0) : Rel W G O L (env.set i none) (σ.set i (some u)) H := by
 refine ⟨by rw [gH6, gH6, R.len], fun j d' e => ?_, R.dom, R.ent, R.ext, R.loc, fun hn => ?_, R.zero⟩
 ·by_cases q : i = j
  ·subst q
   rw [List.getElem?_set] at e
   rw [if_pos rfl] at e
   split at e <;> cases e
  ·rw [gH4 q] at e
   rw [gH4 q]
   exact R.slot j d' e
 ·obtain ⟨r1, r2⟩ := R.first hn
  rcases hi with hi | hi
  ·rw [gH4 hi]
   exact ⟨r1, r2⟩
  ·exact (hn hi).elim
end
theorem Rel.gone {W : Wd} {G : Gh} {O : List Nat} {L : Lab} {env : EnvD} {σ : L2.St} {H : Hp} (R : Rel W G O L env σ H) {i : Nat} (hi : i ≠ 0) : Rel W G O L (env.set i none) (σ.set i none) H := by
 refine ⟨by rw [gH6, gH6, R.len], fun j d' e => ?_, R.dom, R.ent, R.ext, R.loc, fun hn => ?_, R.zero⟩
 ·by_cases q : i = j
  ·subst q
   rw [List.getElem?_set] at e
   rw [if_pos rfl] at e
   split at e <;> cases e
  ·rw [gH4 q] at e
   rw [gH4 q]
   exact R.slot j d' e
 ·obtain ⟨r1, r2⟩ := R.first hn
  rw [gH4 hi]
  exact ⟨r1, r2⟩
def GF (F : Fc) (G : Gh) : Prop := G.n ≠ 0 → F.ort.getD 0 0 = G.n ∧ F.ox.getD 0 0 = G.n ∧ F.ob.getD 0 0 = G.n
def tS (W : Wd) (F : Fc) (Wx : WX) (O O' : List Nat) (m : MS) : TS := fun Dn σ H => ∃ (G : Gh) (L : Lab) (env : EnvD), GF F G ∧ Rel W G O L env σ H ∧ kDq W G F Wx O' L H Dn (m env)
theorem DSs.plain_ {W : Wd} {X : Cx} {Wx : WX} {F : Fc} {O O' : List Nat} {st : List Stmt} {m : MS} (h : DSs W X Wx F O st m O') : PSs X st (tS W F Wx O O' m) := by
 obtain ⟨_, t, pe, s⟩ := h
 exact ⟨fun pins st σ H D I ⟨G, L, env, g, R, q⟩ => pe.run pins st σ H D I (s G L env σ H D g R q)⟩
abbrev MX := Str → Option D → MS
def NoX : WX := fun _ _ _ _ => False
structure DXs (W : Wd) (X : Cx) (F : Fc) (O : List Nat) (hm : Str → Option Bool) (i : Option Nat) (a : Addr) (cls : Value) (d : Option Addr) (st : List Stmt) (ms : MX) (O' : List Nat) : Prop where
 k : X.K = W.K
 run : ∃ t, PSs X st t ∧ ∀ (G : Gh) (L : Lab) (env : EnvD) (σ : L2.St) (H : Hp) (Dn : Ends) (c : Str) (av : Option D), GF F G → Rel W G O L env σ H → (∀ j, i = some j → j < σ.length → σ[j]? = some (some (.ref a))) →
  hm c = some true → ExR W L c av cls d H → kDq W G F NoX O' L H Dn (ms c av env) → t Dn σ H
def tX (W : Wd) (F : Fc) (O O' : List Nat) (hm : Str → Option Bool) (i : Option Nat) (ms : MX) (a : Addr) (cls : Value) (d : Option Addr) : TS := fun Dn σ H => ∃ (G : Gh) (L : Lab) (env : EnvD) (c : Str) (av : Option D), GF F G ∧ Rel W G O L env σ H ∧
 (∀ j, i = some j → j < σ.length → σ[j]? = some (some (.ref a))) ∧ hm c = some true ∧ ExR W L c av cls d H ∧ kDq W G F NoX O' L H Dn (ms c av env)
theorem DXs.plain_ {W : Wd} {X : Cx} {F : Fc} {O O' : List Nat} {hm : Str → Option Bool} {i : Option Nat} {a : Addr} {cls : Value} {d : Option Addr} {st : List Stmt} {ms : MX} (h : DXs W X F O hm i a cls d st ms O') : PSs X st (tX W F O O' hm i ms a cls d) := by
 obtain ⟨_, t, pe, s⟩ := h
 exact ⟨fun pins st σ H D I ⟨G, L, env, c, av, g, R, q1, q2, q3, q4⟩ => pe.run pins st σ H D I (s G L env σ H D c av g R q1 q2 q3 q4)⟩
abbrev HdD := (Str → Option Bool) × Option Nat × MX
def unN : Option Nat → EnvD → EnvD
 | none, e => e
 | some i, e => e.set i none
def dHds (b : Bool) : List HdD → Str → Option D → EnvD → OutS
 | [], c, a, e => .exc c a e
 | (hm, i, ms) :: r, c, a, e => match hm c with
  | some true => (match ms c a (unN i e) with
   | .rt d e' => .rt d e'
   | .nx e' => if b = true then .nx (unN i e') else .bad
   | _ => .bad)
  | some false => dHds b r c a e
  | none => .bad
inductive DCl (W : Wd) (X : Cx) (F : Fc) (Ox O' : List Nat) : List ExceptHandler → List HdD → Prop
 | nil : DCl W X F Ox O' [] []
 | only {x : Str} {b₀ : Stmt} {suite : List Stmt} {np pos' : Pos} {hds : List ExceptHandler} {hm : Str → Option Bool} {ms : MX} {l : List HdD} (hc : Names X x (.ref (He.ga W.K x)))
   (hh : ∀ c b, hm c = some b → PySem.W.exmOne W.K (.ref (He.ga W.K c)) (.ref (He.ga W.K x)) = some b)
   (hsu : ∀ (a : Addr) (oe : Obj) (cls : Value) (d : Option Addr) (pn : List (Addr × Obj)), Zc cls d oe → (∃ vs, oe.data = .fields vs) → DXs W (X.suite a ((a, oe) :: pn)) F Ox hm none a cls d (b₀ :: suite) ms O') (r : DCl W X F Ox O' hds l) :
   DCl W X F Ox O' (.ExceptHandler (some (.Name x np)) none (b₀ :: suite) pos' :: hds) ((hm, none, ms) :: l)
 | as_ {x n : Str} {i : Nat} {b₀ : Stmt} {suite : List Stmt} {np pos' : Pos} {hds : List ExceptHandler} {hm : Str → Option Bool} {ms : MX} {l : List HdD} (hc : Names X x (.ref (He.ga W.K x))) (hi : X.N[i]? = some n) (hln : X.env.kindOf n = some .local) (i0 : i ≠ 0)
   (hh : ∀ c b, hm c = some b → PySem.W.exmOne W.K (.ref (He.ga W.K c)) (.ref (He.ga W.K x)) = some b)
   (hsu : ∀ (a : Addr) (oe : Obj) (cls : Value) (d : Option Addr) (pn : List (Addr × Obj)), Zc cls d oe → (∃ vs, oe.data = .fields vs) → DXs W (X.suite a ((a, oe) :: pn)) F Ox hm (some i) a cls d (b₀ :: suite) ms O') (r : DCl W X F Ox O' hds l) :
   DCl W X F Ox O' (.ExceptHandler (some (.Name x np)) (some n) (b₀ :: suite) pos' :: hds) ((hm, some i, ms) :: l)
section
variable {W : Wd} {X : Cx} {Wx : WX} {F : Fc} {O Ox O' : List Nat} {body : List Stmt} {h₀ : ExceptHandler} {hds : List ExceptHandler} {mb : MS} {l : List HdD} {pos : Pos}
theorem DCl.snd {go : Bool} (h : DCl W X F Ox O' hds l) (cx : kDe Ox F.ox = true) (hgo : go = true → F.fw = false) : ∃ l' : List Cl, ClOk X hds l' ∧ ∀ (Dn : Ends) (G : Gh) (L0 L : Lab) (e : EnvD) (σ : L2.St) (H0 H : Hp) (c : Str) (av : Option D) (cv : Value) (dd : Option Addr), GF F G → GF { F with ox := Ox } G →
  Rel W G Ox L e σ H → ExR W L c av cv dd H → kDq W G F Wx O' L0 H0 Dn (dHds go l c av e) → wCl Wx W.K Dn l' cv dd σ H := by
 induction h with
 | nil =>
  refine ⟨[], .nil, fun Dn G L0 L e σ H0 H c av cv dd g g' R x h => ?_⟩
  refine h cv dd σ H _ (R.thin cx fun hn => ((g hn).2.1).trans (g' hn).2.1.symm) ⟨x.1, fun d q => ?_, x.2.2⟩
  obtain ⟨y, v, q1, q2, q3⟩ := x.2.1 d q
  exact ⟨y, v, q1, q2, Rp.shun (fun a z _ => kCN z) d v q3⟩
 | @only x b₀ suite np pos' hds hm ms l hc hh hsu r ih =>
  obtain ⟨l', ok, snd⟩ := ih
  refine ⟨(.ref (He.ga W.K x), none, tX W F Ox O' hm none ms) :: l', .only hc (fun a oe cls d pn z f => (hsu a oe cls d pn z f).plain_) ok, fun Dn G L0 L e σ H0 H c av cv dd g g' R ex h => ?_⟩
  unfold dHds at h
  cases q : hm c with
  | none => rw [q] at h; exact h.elim
  | some b =>
   rw [q] at h
   refine ⟨b, by rw [ex.1]; exact hh c b q, fun hb a ha => ?_, fun hb => ?_⟩
   ·subst hb
    refine ⟨G, L, e, c, av, g, R, (fun j z => nomatch z), q, ex, ?_⟩
    have h : kDq W G F Wx O' L0 H0 Dn (match ms c av e with | .rt d e' => .rt d e' | .nx e' => if go = true then .nx e' else .bad | _ => .bad) := h
    cases qm : ms c av e with
    | rt d e' =>
     rw [qm] at h
     exact h
    | nx e' =>
     rw [qm] at h
     have h : kDq W G F Wx O' L0 H0 Dn (if go = true then .nx e' else .bad) := h
     split at h
     ·rename_i hg
      exact fun σ' H' L' R' _ => h σ' H' L' R' fun w => by rw [hgo hg] at w; cases w
     ·exact h.elim
    | bk e' => rw [qm] at h; exact h.elim
    | ct e' => rw [qm] at h; exact h.elim
    | exc c' a' e' => rw [qm] at h; exact h.elim
    | bad => rw [qm] at h; exact h.elim
   ·subst hb
    exact snd Dn G L0 L e σ H0 H c av cv dd g g' R ex h
 | @as_ x n i b₀ suite np pos' hds hm ms l hc hi hln i0 hh hsu r ih =>
  obtain ⟨l', ok, snd⟩ := ih
  refine ⟨(.ref (He.ga W.K x), some i, tX W F Ox O' hm (some i) ms) :: l', .as_ hc hi hln (fun a oe cls d pn z f => (hsu a oe cls d pn z f).plain_) ok, fun Dn G L0 L e σ H0 H c av cv dd g g' R ex h => ?_⟩
  unfold dHds at h
  cases q : hm c with
  | none => rw [q] at h; exact h.elim
  | some b =>
   rw [q] at h
   refine ⟨b, by rw [ex.1]; exact hh c b q, fun hb a ha => ?_, fun hb => ?_⟩
   ·subst hb
    refine ⟨G, L, e.set i none, c, av, g, R.mark (.inl i0), fun j z hj => ?_, q, ex, ?_⟩
    ·cases z
     rw [gH6] at hj
     exact gI3 hj
    have h : kDq W G F Wx O' L0 H0 Dn (match ms c av (e.set i none) with | .rt d e' => .rt d e' | .nx e' => if go = true then .nx (e'.set i none) else .bad | _ => .bad) := h
    cases qm : ms c av (e.set i none) with
    | rt d e' =>
     rw [qm] at h
     exact h
    | nx e' =>
     rw [qm] at h
     have h : kDq W G F Wx O' L0 H0 Dn (if go = true then .nx (e'.set i none) else .bad) := h
     split at h
     ·rename_i hg
      exact fun σ' H' L' R' _ => h (σ'.set i none) H' L' (R'.gone i0) fun w => by rw [hgo hg] at w; cases w
     ·exact h.elim
    | bk e' => rw [qm] at h; exact h.elim
    | ct e' => rw [qm] at h; exact h.elim
    | exc c' a' e' => rw [qm] at h; exact h.elim
    | bad => rw [qm] at h; exact h.elim
   ·subst hb
    exact snd Dn G L0 L e σ H0 H c av cv dd g g' R ex h
end
def obsI (file : Str) (ini : List (Str × Bool)) (K : PySem.W.Frag) : Bool := ini.all fun p => iniB file p.2 K (He.ga K p.1)
theorem kRA (x : Lot) : lotD (.tup (x.map keyD)) = some x := by
 show kHl (x.map keyD) = some x
 induction x with
 | nil => rfl
 | cons k x ih =>
  rw [gG1]
  unfold kHl
  have e : keyO (keyD k) = some k := by cases k <;> rfl
  rw [e, ih]
end DL
namespace DL
open PySem PySem.Spec PyProof.Rows L2
def tupS (K : PySem.W.Frag) (a : Addr) (ws : List Str) : Bool := match K.lookup a with
 | some o => (match o.data with
  | .seq its _ => decide (o.cls = .type "tuple") && decide (its.toList.length = ws.length) && (List.range ws.length).all fun i => match its.toList[i]?, ws[i]? with
   | some (.str x _), some y => decide (x = y)
   | _, _ => false
  | _ => false)
 | none => false
def insB (K : PySem.W.Frag) (C : Addr) : Bool := decide (PySem.W.findIn K (.ref C) "__class__" = some (some (.builtin "object.__class__"))) && (decide (PySem.W.specialIn K (.builtin "object.__class__") "__get__" = some (some (.builtin "getset_descriptor.__get__"))) && (decide (PySem.W.takesIn K (.builtin "object.__class__") = some true) && (decide (PySem.W.mroIn K C (.type "object") = some true) && decide (PySem.W.kitOne K (.ref C) (.ref C) = some true))))
def kIm : List Str := ["#isinstance"]
def kPC (K : PySem.W.Frag) (p : (PySem.W.Frag → Addr) × List Str) : Bool := if p.2 = kIm then insB K (p.1 K) else tupS K (p.1 K) p.2
def obsT (tps : List ((PySem.W.Frag → Addr) × List Str)) (K : PySem.W.Frag) : Bool := tps.all (kPC K)
end DL
namespace DL
open PySem PySem.Spec PyProof.Rows L2
abbrev kPD : Obj := { cls := .none, data := .fields #[] }
abbrev TF : Type := He.Defn × Str
def tabT (tf : List TF) (g : Addr → Option Obj) (K : PySem.W.Frag) : Bool := He.tabsB g (tf.map (·.1)) K && decide ((tf.map fun p => (He.cT K p.1).2).Nodup)
structure TabS (tf : List TF) (h : Heap) (K : PySem.W.Frag) : Prop where
 all : ∀ p ∈ tf, PySem.W.codeHdIn K (He.cT K p.1).1 (He.cT K p.1).2 = true ∧ K.lookup (He.cT K p.1).2 = none ∧ h.get? (He.cT K p.1).2 = some kPD
 nd : (tf.map fun p => (He.cT K p.1).2).Nodup
theorem kSV {tf : List TF} {h : Heap} {as : List Addr} (e : tabT tf h.get? (He.frT h.get? as) = true) : TabS tf h (He.frT h.get? as) := by
 obtain ⟨e1, e2⟩ := gG6.mp e
 refine ⟨fun p hp => ?_, gF5 e2⟩
 obtain ⟨h1, h2⟩ := gG6.mp (gH5.mp e1 p.1 (gF7.mpr ⟨p, hp, rfl⟩))
 cases q : h.get? (He.cT (He.frT h.get? as) p.1).2 with
 | none => rw [q] at h2; exact nomatch h2
 | some o =>
  rw [q] at h2
  exact ⟨h1, He.frT_none q h2, by rw [He.emptyTab_eq h2]⟩
def kwA (f : Str × Option Str) (x : Str) (K : PySem.W.Frag) : Addr := match K.lookup (He.fAd K f) with
 | some ⟨_, _, .func fd, _⟩ => (match fd.kwdefaults with
  | .ref D => (match PySem.W.nsIn K D x with
   | some (some (.ref b)) => b
   | _ => 0)
  | _ => 0)
 | _ => 0
def kVR (b a : Nat) : Bool := Nat.beq ((b >>> a) % 2) 1
def addF : List Addr → List Addr × Nat → List Addr × Nat
 | [], p => p
 | a :: r, p => addF r (match kVR p.2 a with
  | true => p
  | false => (a :: p.1, p.2 ||| (1 <<< a)))
def kUr (g : Addr → Option Obj) : List Addr → List Addr × Nat → List Addr × Nat
 | [], p => p
 | a :: r, p => kUr g r (match g a with
  | some o => addF (He.refsD o) p
  | none => p)
def kVb (g : Addr → Option Obj) : Nat → List Addr → List Addr → Nat → List Addr
 | 0, _, acc, _ => acc
 | n + 1, fr, acc, b => match kUr g fr ([], b) with
  | (new, b2) => kVb g n new (acc ++ new) b2
def asF (g : Addr → Option Obj) (n : Nat) : List Addr := kVb g n [mainGlobals] [cStatics, mainGlobals] (1 <<< mainGlobals)
def kTo (n : Nat) (fa : List He.Fa) (fn : List He.DefD) (tf : List TF) (file : Str) (ini : List (Str × Bool)) (tps : List ((PySem.W.Frag → Addr) × List Str)) (g : Addr → Option Obj) : He.AlD × Bool := (He.obsD fa fn (He.frT g (asF g n)), obsI file ini (He.frT g (asF g n)) && (obsT tps (He.frT g (asF g n)) && tabT tf g (He.frT g (asF g n))))
def kSB (n : Nat) (fa : List He.Fa) (fn : List He.DefD) (tf : List TF) (file : Str) (ini : List (Str × Bool)) (tps : List ((PySem.W.Frag → Addr) × List Str)) : PySem.W.Hook where
 α := He.AlD × Bool
 obs := fun s => kTo n fa fn tf file ini tps s.heap.get?
 val := fun _ => (He.valD fn, true)
 says := fun _ h => ∃ K : PySem.W.Frag, K.In h ∧ He.SaysD fa fn K ∧ obsI file ini K = true ∧ obsT tps K = true ∧ TabS tf h K
 of := fun _ _ e => by
  obtain ⟨e1, e2⟩ := gG6.mp (congrArg Prod.snd e)
  obtain ⟨e3, e4⟩ := gG6.mp e2
  exact ⟨_, He.frT_in, congrArg Prod.fst e, e1, e3, kSV e4⟩
 keeps := fun _ _ _ ⟨K, hK, c, d, d2, t⟩ k => ⟨K, PySem.W.Frag.In.keeps hK k, c, d, d2, fun p hp => ⟨(t.all p hp).1, (t.all p hp).2.1, k _ _ (t.all p hp).2.2⟩, t.nd⟩
end DL
namespace DL
open PySem PySem.Spec PySem.W PyProof.Rows L2
def getL : List D → List D → Lot → Option D
 | k :: ks, d :: ds, q => if lotD k = some q then some d else getL ks ds q
 | _, _, _ => none
theorem kOi {P : D → V → Prop} {q : Lot} {d : D} : ∀ {kvs : List (Lot × V)} {ds : List D}, (∀ (j : Nat) (d : D) (v : V), ds[j]? = some d → (kvs.map (·.2))[j]? = some v → P d v) → ds.length = kvs.length →
  getL (kvs.map fun p => D.tup (p.1.map keyD)) ds q = some d → ∃ v, valV kvs q = some v ∧ P d v
 | [], _, _, _, h => by cases h
 | p :: r, [], _, l, h => by cases h
 | p :: r, x :: ds, hp, l, h => by
  rw [gG1] at h
  unfold getL at h
  rw [kRA] at h
  by_cases e : p.1 = q
  ·rw [if_pos (congrArg some e)] at h
   cases h
   exact ⟨p.2, valV_pos e, hp 0 _ p.2 rfl rfl⟩
  ·rw [if_neg (fun z => e (gF3 z))] at h
   rw [valV_neg e]
   exact kOi (fun j d v a b => hp (j + 1) d v (by simpa using a) (by simpa using b)) (by simpa using l) h
theorem kGA.getT {H : Hp} {P : D → V → Prop} {a b : Addr} {ks ds : List D} {vs : List V} {q : Lot} {d : D} (h : kGA H a ks vs) (hb : H b = some (.tup (q.map kV))) (hp : ∀ (j : Nat) (d : D) (v : V), ds[j]? = some d → vs[j]? = some v → P d v) (l : ds.length = vs.length) (g : getL ks ds q = some d) : ∃ v, DGet H a (.ref b) (some v) ∧ P d v := by
 rcases h with ⟨kvs, h, e1, e2⟩ | ⟨kvs, h, e1, e2⟩
 ·subst e1 e2
  exfalso
  clear hp l h
  revert ds
  induction kvs with
  | nil => intro ds g; cases g
  | cons p r ih =>
   intro ds g
   cases ds with
   | nil => cases g
   | cons x ds =>
    rw [gG1] at g
    unfold getL at g
    rw [if_neg (by
     intro z
     cases e : p.1 with
     | inl i => rw [e] at z; cases z
     | inr s => rw [e] at z; cases z)] at g
    exact ih g
 ·subst e1 e2
  obtain ⟨v, w1, w2⟩ := kOi hp (by simpa using l) g
  exact ⟨v, by rw [← w1]; exact DGet.t h hb, w2⟩
end DL
namespace PL
open PySem PySem.Spec PyProof.Rows L2 DL
open PySem.PyData (strOk)
mutual
def cost : PyData → Nat
 | .none => 4
 | .bool _ => 5
 | .int i => i.natAbs.log2 + 2
 | .str x => 10 * x.cps.size + 2
 | .list xs => kGy xs + 3
 | .tuple xs => kGy xs + 3
 | .dict _ => 0
def kGy : List PyData → Nat
 | [] => 0
 | x :: xs => cost x + 2 + kGy xs
end
theorem kMl {b : Nat} (hb : 2 ≤ b) {n k : Nat} (hk : 1 ≤ k) (h : n < b ^ k) : (Nat.toDigits b n).length ≤ k := by
 have := digitsCore_len_pow b hb k (n + 1) n [] hk h
 simpa [Nat.toDigits] using this
theorem kKc (n : Nat) : (Nat.repr n).length ≤ n.log2 + 1 := by
 have h : n < 10 ^ (n.log2 + 1) := Nat.lt_of_lt_of_le (Nat.lt_log2_self) (Nat.pow_le_pow_left (by omega) _)
 have := kMl (b := 10) (by omega) (k := n.log2 + 1) (by omega) h
 simpa [Nat.repr] using this
theorem kOI (i : Int) : (Str.ofString (toString i)).length ≤ i.natAbs.log2 + 2 := by
 by_cases h : i < 0
 ·rw [len_text_neg h]
  have : (Str.ofString (toString (0 - i))).length ≤ (0 - i).natAbs.log2 + 1 := by
   rw [ofString_len]
   obtain ⟨m, e⟩ := Int.eq_ofNat_of_zero_le (show 0 ≤ 0 - i by omega)
   rw [e]
   exact kKc m
  have e : (0 - i).natAbs = i.natAbs := by omega
  rw [e] at this
  omega
 ·obtain ⟨m, rfl⟩ := Int.eq_ofNat_of_zero_le (show 0 ≤ i by omega)
  rw [ofString_len]
  have := kKc m
  show (Nat.repr m).length ≤ _
  simp
  omega
theorem kMZ {q c : Nat} (h : c < 0x110000) : (Builtin.Str.reprChar q c).length ≤ 10 := by
 unfold Builtin.Str.reprChar
 have h6 := kMl (b := 16) (by omega) (n := c) (k := 6) (by omega) (by omega)
 simp only
 split
 ·simp
 split
 ·simp
 split
 ·simp
 split
 ·simp
 split
 ·simp
 split
 ·simp; omega
 split
 ·simp; omega
 ·simp; omega
theorem kQf {q : Nat} : ∀ (l : List Nat) (n : Nat), (∀ c ∈ l, c < 0x110000) → l.foldl (fun n c => n + (Builtin.Str.reprChar q c).length) n ≤ n + 10 * l.length
 | [], n, _ => by simp
 | c :: l, n, h => by
  have h1 := kMZ (q := q) (h c gF1)
  have := kQf (q := q) l (n + (Builtin.Str.reprChar q c).length) fun x hx => h x (gF2 _ hx)
  simp only [List.foldl_cons, gG0]
  omega
theorem kMX {x : Str} (h : strOk x = true) : (reprText x).length ≤ 10 * x.cps.size + 2 := by
 have hc : ∀ c ∈ x.cps.toList, c < 0x110000 := fun c hc => by
  unfold strOk at h
  rw [← Array.all_toList] at h
  exact gF5 (gH5.mp h c hc)
 rw [← reprLen_eq, ← Array.foldl_toList]
 have := kQf (q := reprQuote x) x.cps.toList 2 hc
 simp only [Array.length_toList] at this
 omega
theorem kIW : ∀ (ts : List Str) (k : Nat) (acc : Str), (textFrom k acc ts).length ≤ acc.length + piled ts
 | [], k, acc => by unfold textFrom; simp [piled]
 | t :: ts, k, acc => by
  unfold textFrom
  have := kIW ts (k + 1) (acc ++ (if k > 0 then ", " else "" : String) ++ t)
  have e : (acc ++ (if k > 0 then ", " else "" : String) ++ t).length ≤ acc.length + 2 + t.length := by
   rw [strLen_append, strLen_append]
   have : ((if k > 0 then ", " else "" : String) : Str).length ≤ 2 := by
    split
    ·exact Nat.le_refl 2
    ·exact Nat.zero_le 2
   omega
  rw [piled_cons]
  omega
mutual
theorem kND : ∀ (d : PyData), d.canLay0 = true → d.shown.length ≤ cost d
 | .none, _ => by
  unfold PyData.shown cost
  exact Nat.le_refl 4
 | .bool b, _ => by
  cases b <;> (unfold PyData.shown cost; decide)
 | .int i, _ => by
  unfold PyData.shown cost
  exact kOI i
 | .str x, h => by
  unfold PyData.shown cost
  exact kMX (by simpa [PyData.canLay0] using h)
 | .list xs, h => by
  unfold PyData.shown cost
  have := kHa xs (by simpa [PyData.canLay0] using h)
  unfold listText
  rw [strLen_append]
  have h2 := kIW (PyData.shownAll xs) 0 "["
  have e1 : (("[" : String) : Str).length = 1 := rfl
  have e2 : (("]" : String) : Str).length = 1 := rfl
  omega
 | .tuple xs, h => by
  unfold PyData.shown cost
  have := kHa xs (by simpa [PyData.canLay0] using h)
  unfold tupleText
  rw [strLen_append, strLen_append]
  have e1 : (("(" : String) : Str).length = 1 := rfl
  have e2 : ((if (PyData.shownAll xs).length == 1 then ",)" else ")" : String) : Str).length ≤ 2 := by
   split
   ·exact Nat.le_refl 2
   ·exact (by decide : (1 : Nat) ≤ 2)
  have e3 : (Str.join ", " (PyData.shownAll xs)).length ≤ piled (PyData.shownAll xs) := by
   by_cases z : PyData.shownAll xs = []
   ·rw [z]
    exact Nat.le_refl 0
   ·have := join_length_add _ z
    omega
  omega
 | .dict _, h => by simp [PyData.canLay0] at h
theorem kHa : ∀ (ds : List PyData), PyData.canLayAll0 ds = true → piled (PyData.shownAll ds) ≤ kGy ds
 | [], _ => by
  unfold PyData.shownAll kGy
  exact Nat.le_refl 0
 | d :: ds, h => by
  have h' : d.canLay0 = true ∧ PyData.canLayAll0 ds = true := by simpa [PyData.canLayAll0] using h
  unfold PyData.shownAll kGy
  rw [piled_cons]
  have := kND d h'.1
  have := kHa ds h'.2
  omega
end
theorem kPo {d : D} (h1 : d.plain = true) (h2 : d.py.canLay0 = true) (h3 : d.py.showable = true) (h4 : d.py.depth ≤ 64) (h5 : cost d.py ≤ sizeLine) : kHz d = true := by
 unfold kHz
 rw [h1, h3, PyData.hasDict_of_canLay _ h2, gH1 h4, gH1 (Nat.le_trans (kND _ h2) h5)]
 rfl
end PL
namespace PL
open PySem PySem.Spec PySem.W PyProof.Rows L2 DL
structure Nice (n c : Nat) (d : D) : Prop where
 plain : d.plain = true
 lay : d.py.canLay0 = true
 show' : d.py.showable = true
 depth : d.py.depth ≤ n
 cost : cost d.py ≤ c
theorem Nice.repr {n c : Nat} {d : D} (h : Nice n c d) (hn : n ≤ 64 := by decide) (hc : c ≤ sizeLine := by decide) : kHz d = true := kPo h.plain h.lay h.show' (Nat.le_trans h.depth hn) (Nat.le_trans h.cost hc)
end PL
namespace Law
open PySem PySem.Spec PyProof.Rows L2 DL
def top (i : Nat) : Stmt := PySem.Challenge.pw_stopsfirst_k51_round_trips.main.body.getD i (.Pass ⟨0, 0, 0, 0⟩)
def kFG : Stmt → List Stmt
 | .ClassDef _ _ _ b _ _ _ _ _ _ _ => b
 | _ => []
abbrev kCu : Stmt := top 17
abbrev kCs : Stmt := top 18
abbrev kBR : Stmt := top 21
abbrev kBA : Stmt := top 20
abbrev kBT : Stmt := top 22
abbrev kBz : Stmt := top 6
abbrev kDu : Stmt := top 8
abbrev kBQ : Stmt := top 7
abbrev kCn : Stmt := top 11
abbrev kBP : Stmt := top 12
abbrev kCm : Stmt := top 13
abbrev kBq : Stmt := top 14
abbrev kAP : Stmt := (kFG (top 15)).getD 0 (.Pass ⟨0, 0, 0, 0⟩)
abbrev kAx : Stmt := (kFG (top 15)).getD 2 (.Pass ⟨0, 0, 0, 0⟩)
abbrev kAA : Stmt := (kFG (top 15)).getD 3 (.Pass ⟨0, 0, 0, 0⟩)
abbrev kAy : Stmt := (kFG (top 15)).getD 7 (.Pass ⟨0, 0, 0, 0⟩)
abbrev kCr : Stmt := top 23
abbrev kBB : Stmt := top 24
abbrev kCo : Stmt := top 28
abbrev kBU : Stmt := top 30
abbrev kCQ : Stmt := top 25
abbrev kCp : Stmt := top 31
abbrev kCv : Stmt := top 26
abbrev kBV : Stmt := top 27
abbrev kIv : Stmt := top 9
abbrev kAW : Stmt := (kFG (top 15)).getD 4 (.Pass ⟨0, 0, 0, 0⟩)
abbrev kAH : Stmt := (kFG (top 15)).getD 5 (.Pass ⟨0, 0, 0, 0⟩)
abbrev kAY : Stmt := (kFG (top 15)).getD 6 (.Pass ⟨0, 0, 0, 0⟩)
abbrev kCq : Stmt := top 19
abbrev kAX : Stmt := (kFG (top 15)).getD 8 (.Pass ⟨0, 0, 0, 0⟩)
abbrev kBS : Stmt := top 29
abbrev kBg : Stmt := (kFG (top 15)).getD 1 (.Pass ⟨0, 0, 0, 0⟩)
abbrev kBC : Stmt := top 32
abbrev kLF : Stmt := top 33
def fn : List He.DefD := [⟨("_law_deal", none), "_law_deal", "_law_deal", defArgs kCu, defBody kCu, defScope kCu, [], []⟩,
 ⟨("_law_draw", none), "_law_draw", "_law_draw", defArgs kCs, defBody kCs, defScope kCs, [], []⟩,
 ⟨("_law_names", none), "_law_names", "_law_names", defArgs kBR, defBody kBR, defScope kBR, [], []⟩,
 ⟨("_law_number", none), "_law_number", "_law_number", defArgs kBA, defBody kBA, defScope kBA, [], []⟩,
 ⟨("_law_lists", none), "_law_lists", "_law_lists", defArgs kBT, defBody kBT, defScope kBT, [], []⟩,
 ⟨("is_sequence", none), "is_sequence", "is_sequence", defArgs kBz, defBody kBz, defScope kBz, [], []⟩,
 ⟨("is_name", none), "is_name", "is_name", defArgs kDu, defBody kDu, defScope kDu, [], []⟩,
 ⟨("is_integer", none), "is_integer", "is_integer", defArgs kBQ, defBody kBQ, defScope kBQ, [], []⟩,
 ⟨("is_listed", none), "is_listed", "is_listed", defArgs kCn, defBody kCn, defScope kCn, [], []⟩,
 ⟨("kept_pairs", none), "kept_pairs", "kept_pairs", defArgs kBP, defBody kBP, defScope kBP, [], []⟩,
 ⟨("number_of", none), "number_of", "number_of", defArgs kCm, defBody kCm, defScope kCm, [], []⟩,
 ⟨("wrong_prices", none), "wrong_prices", "wrong_prices", defArgs kBq, defBody kBq, defScope kBq, [], []⟩,
 ⟨("Prices", some "__init__"), "__init__", "Prices.__init__", defArgs kAP, defBody kAP, defScope kAP, [], [("fee", .int 0), ("waits", .adr (kwA ("Prices", some "__init__") "waits"))]⟩,
 ⟨("Prices", some "start_price"), "start_price", "Prices.start_price", defArgs kAx, defBody kAx, defScope kAx, [], []⟩,
 ⟨("Prices", some "stop_price"), "stop_price", "Prices.stop_price", defArgs kAA, defBody kAA, defScope kAA, [], []⟩,
 ⟨("Prices", some "round_trips"), "round_trips", "Prices.round_trips", defArgs kAy, defBody kAy, defScope kAy, [], []⟩,
 ⟨("_law_kept", none), "_law_kept", "_law_kept", defArgs kCr, defBody kCr, defScope kCr, [], []⟩,
 ⟨("_law_listed", none), "_law_listed", "_law_listed", defArgs kBB, defBody kBB, defScope kBB, [], []⟩,
 ⟨("_law_sums", none), "_law_sums", "_law_sums", defArgs kCo, defBody kCo, defScope kCo, [], []⟩,
 ⟨("_law_keeps", none), "_law_keeps", "_law_keeps", defArgs kBU, defBody kBU, defScope kBU, [], []⟩,
 ⟨("_law_lot", none), "_law_lot", "_law_lot", defArgs kCQ, defBody kCQ, defScope kCQ, [], []⟩,
 ⟨("_law_plan", none), "_law_plan", "_law_plan", defArgs kCp, defBody kCp, defScope kCp, [], []⟩,
 ⟨("_law_cost", none), "_law_cost", "_law_cost", defArgs kCv, defBody kCv, defScope kCv, [], []⟩,
 ⟨("_law_costs", none), "_law_costs", "_law_costs", defArgs kBV, defBody kBV, defScope kBV, [], []⟩,
 ⟨("less", none), "less", "less", defArgs kIv, defBody kIv, defScope kIv, [], []⟩,
 ⟨("Prices", some "wait_of"), "wait_of", "Prices.wait_of", defArgs kAW, defBody kAW, defScope kAW, [], []⟩,
 ⟨("Prices", some "of_change"), "of_change", "Prices.of_change", defArgs kAH, defBody kAH, defScope kAH, [], []⟩,
 ⟨("Prices", some "of_plan"), "of_plan", "Prices.of_plan", defArgs kAY, defBody kAY, defScope kAY, [], []⟩,
 ⟨("_law_pick", none), "_law_pick", "_law_pick", defArgs kCq, defBody kCq, defScope kCq, [], []⟩,
 ⟨("Prices", some "shifted"), "shifted", "Prices.shifted", defArgs kAX, defBody kAX, defScope kAX, [], []⟩,
 ⟨("_law_moved", none), "_law_moved", "_law_moved", defArgs kBS, defBody kBS, defScope kBS, [], []⟩,
 ⟨("Prices", some "__eq__"), "__eq__", "Prices.__eq__", defArgs kBg, defBody kBg, defScope kBg, [], []⟩,
 ⟨("_law_differ", none), "_law_differ", "_law_differ", defArgs kBC, defBody kBC, defScope kBC, [], []⟩,
 ⟨("law", none), "law", "law", defArgs kLF, defBody kLF, defScope kLF, [], []⟩]
def fa : List He.Fa := [.glo "_law_deal", .glo "_law_draw", .glo "_law_names", .glo "_law_number", .glo "_law_lists", .glo "is_sequence", .glo "is_name", .glo "is_integer", .glo "is_listed", .glo "kept_pairs", .glo "number_of", .glo "wrong_prices", .mkr "Prices", .meth "Prices" "start_price", .meth "Prices" "stop_price", .meth "Prices" "round_trips", .glo "_law_kept", .glo "_law_listed", .glo "_law_sums", .glo "_law_keeps", .glo "_law_lot", .glo "_law_plan", .glo "_law_cost", .glo "_law_costs", .glo "less", .meth "Prices" "wait_of", .meth "Prices" "of_change", .meth "Prices" "of_plan", .glo "_law_pick", .meth "Prices" "shifted", .glo "_law_moved", .meth "Prices" "__eq__", .glo "_law_differ", .glo "law", .str "LETTERS" "abcdefghijklmnopqrstuvwxyz", .int "LONGEST" 5, .free "abs", .free "all", .free "any", .free "bool", .free "int", .free "isinstance", .free "len", .free "list", .free "max", .free "range", .free "repr", .free "set", .free "sorted", .free "str", .free "sum", .free "tuple", .free "zip", .glo "InvalidPrices", .cls "Prices", .glo "Prices", .noat "Prices" "starts", .noat "Prices" "stops", .noat "Prices" "fee", .noat "Prices" "waits"]
def kUR : List Str := ["StopError", "InvalidPrices", "LETTERS", "LONGEST", "is_sequence", "is_integer", "is_name", "less", "is_listed", "kept_pairs", "number_of", "wrong_prices", "Prices", "_law_deal", "_law_draw", "_law_pick", "_law_number", "_law_names", "_law_lists", "_law_kept", "_law_listed", "_law_lot", "_law_cost", "_law_costs", "_law_sums", "_law_moved", "_law_keeps", "_law_plan", "_law_differ"]
def loose : List Str := kUR
def ini : List (Str × Bool) := [("InvalidPrices", true)]
def tps : List ((PySem.W.Frag → Addr) × List Str) := [(kwA ("Prices", some "__init__") "waits", []), ((fun K => He.ga K "Prices"), kIm)]
def tf : List TF := []
abbrev R : PySem.W.OpenRow := PySem.W.OpenLaw.row PySem.Challenge.rw_stopsfirst_k51_round_trips
abbrev P0 : Program := PySem.Challenge.rw_stopsfirst_k51_round_trips.prog
abbrev kTI : Str := P0.main.file
abbrev hk : PySem.W.Hook := kSB 5 fa fn tf kTI ini tps
def ob (s : PySem.W.SharedT) : He.AlD × Bool := kTo 5 fa fn tf kTI ini tps (HandSHeadRun.getT s)
theorem run (w : World) : HandSHeadRun.RunEq R (PySem.W.view R.prog [33]) hk ob 6000 loose w := by
 intro os
 kernel_rfl
theorem htop : (P0.main.scope.names.lookup ("super" : Str)).isSome = false := by kernel_rfl
end Law
namespace DL
theorem gF4 {α : Type _} {p : α → Prop} {a : α} {l : List α} : (∀ x : α, x ∈ a :: l → p x) ↔ p a ∧ ∀ x : α, x ∈ l → p x := List.forall_mem_cons
theorem gG2 {α : Type _} {as bs : List α} : (as ++ bs).length = as.length + bs.length := List.length_append
theorem gG3 {α : Type _} {a : α} : [a].length = 1 := List.length_singleton
theorem gG4 {α : Type _} {a b : α} : a ∈ [b] ↔ a = b := List.mem_singleton
theorem gG5 {α : Type _} {b : α} {l : List α} {a : α} : a ∈ b :: l ↔ a = b ∨ a ∈ l := List.mem_cons
theorem gG7 {α : Type _} {β : Type _} {f : α → β} {l k : List α} : List.map f (l ++ k) = List.map f l ++ List.map f k := List.map_append
theorem gG8 {α : Type _} {a : α} {s t : List α} : a ∈ s ++ t ↔ a ∈ s ∨ a ∈ t := List.mem_append
theorem gG9 {α : Type _} {p : α → Bool} {l : List α} : (List.filter p l).Sublist l := List.filter_sublist
theorem gH0 {α : Type _} {p : α → Bool} {as : List α} {x : α} : x ∈ List.filter p as ↔ x ∈ as ∧ p x = true := List.mem_filter
theorem gH2 {p : Prop} [inst : Decidable p] : ¬p → decide p = false := decide_eq_false
theorem gH3 {β : Type _} {γ : Type _} {α : Type _} {g : β → γ} {f : α → β} {l : List α} : List.map g (List.map f l) = List.map (g ∘ f) l := List.map_map
theorem gH8 {α : Type _} {l k : List α} {i : Nat} : i < l.length → (l ++ k)[i]? = l[i]? := List.getElem?_append_left
theorem gH9 {α : Type _} {l : List α} {i : Nat} {a : α} : l[i]? = some a → a ∈ l := List.mem_of_getElem?
theorem gI2 {α : Type _} {a : α} : ¬a ∈ ([] : List α) := List.not_mem_nil
theorem gE0 {α : Type _} {a : α} {l : List α} : (a :: l)[0]? = some a := rfl
theorem gE1 {α : Type _} {a : α} {l : List α} {i : Nat} : (a :: l)[i + 1]? = l[i]? := rfl
theorem gE3 : (false = true) = False := by simp
end DL
namespace DL
open PySem PySem.Spec PyProof.Rows L2
def D.hot : D → Bool
 | .lst _ => true
 | .dic _ _ => true
 | .obj _ _ => true
 | _ => false
theorem KT0.sq {K : PySem.W.Frag} {a : Addr} (h : KT0 K a) (H : Hp) : SqT K H a [] := .inr h
theorem RoL.sq {K : PySem.W.Frag} {H : Hp} {a : Addr} {vs : List V} (h : RoL K H a vs) : SqL K H a vs := by
 rcases h with ⟨o, h⟩ | h
 ·exact .inl (.inr ⟨o, h⟩)
 ·exact .inr h
theorem Ev.sqt {W : Wd} {Z : Addr → Prop} {H H' : Hp} (e : Ev W Z H H') {a : Addr} {vs : List V} (h : SqT W.K H a vs) : SqT W.K H' a vs := by
 rcases h with h | h
 ·rcases h with h | ⟨o, h⟩
  ·exact .inl (.inl (e.tup _ _ h))
  ·exact .inl (.inr ⟨o, e.frz _ _ _ h⟩)
 ·exact .inr h
mutual
def D.flat : D → Bool
 | .non => true
 | .bool _ => true
 | .int _ => true
 | .str _ => true
 | .tup ds => kOK ds
 | .lst _ => false
 | .dic _ _ => false
 | .obj _ _ => false
 | .ro ds => kOK ds
def kOK : List D → Bool
 | [] => true
 | d :: ds => d.flat && kOK ds
end
mutual
theorem Rp.flat {W : Wd} {Z Z' : Addr → Prop} {H : Hp} : ∀ (d : D) (v : V), d.flat = true → Rp W Z H d v → Rp W Z' H d v
 | .non, _, _, h => h
 | .bool _, _, _, h => h
 | .int _, _, _, h => h
 | .str _, _, _, h => h
 | .tup ds, _, f, h => by
  unfold Rp at h ⊢
  obtain ⟨a, vs, h1, h2, h3⟩ := h
  exact ⟨a, vs, h1, h2, RpL.flat ds vs (by simpa [D.flat] using f) h3⟩
 | .lst ds, _, f, h => by simp [D.flat] at f
 | .dic _ _, _, f, h => by simp [D.flat] at f
 | .obj k ds, _, f, h => by simp [D.flat] at f
 | .ro ds, _, f, h => by
  unfold Rp at h ⊢
  obtain ⟨a, vs, h1, h2, h3⟩ := h
  exact ⟨a, vs, h1, h2, RpL.flat ds vs (by simpa [D.flat] using f) h3⟩
theorem RpL.flat {W : Wd} {Z Z' : Addr → Prop} {H : Hp} : ∀ (ds : List D) (vs : List V), kOK ds = true → RpL W Z H ds vs → RpL W Z' H ds vs
 | [], _, _, h => by
  unfold RpL at h ⊢
  exact h
 | d :: ds, _, f, h => by
  unfold RpL at h ⊢
  obtain ⟨v, us, h1, h2, h3⟩ := h
  have f' : d.flat = true ∧ kOK ds = true := by simpa [kOK] using f
  exact ⟨v, us, h1, Rp.flat d v f'.1 h2, RpL.flat ds us f'.2 h3⟩
end
theorem RpL.append {W : Wd} {Z : Addr → Prop} {H : Hp} : ∀ {ds es : List D} {vs us : List V}, RpL W Z H ds vs → RpL W Z H es us → RpL W Z H (ds ++ es) (vs ++ us)
 | [], es, vs, us, h, h' => by
  unfold RpL at h
  rw [h]
  exact h'
 | d :: ds, es, vs, us, h, h' => by
  unfold RpL at h
  obtain ⟨v, ws, h1, h2, h3⟩ := h
  rw [h1]
  show RpL W Z H (d :: (ds ++ es)) (v :: (ws ++ us))
  unfold RpL
  exact ⟨v, _, rfl, h2, RpL.append h3 h'⟩
theorem RpL.take {W : Wd} {Z : Addr → Prop} {H : Hp} {ds : List D} {vs : List V} (n : Nat) (h : RpL W Z H ds vs) : RpL W Z H (ds.take n) (vs.take n) := by
 refine RpL.of (by simp [h.length]) fun i d v h1 h2 => ?_
 rw [List.getElem?_take] at h1 h2
 by_cases q : i < n
 ·rw [if_pos q] at h1 h2
  obtain ⟨v', e1, e2⟩ := h.getD h1
  rw [h2] at e1
  rw [gF3 e1]
  exact e2
 ·rw [if_neg q] at h1
  cases h1
theorem RpL.drop {W : Wd} {Z : Addr → Prop} {H : Hp} {ds : List D} {vs : List V} (n : Nat) (h : RpL W Z H ds vs) : RpL W Z H (ds.drop n) (vs.drop n) := by
 refine RpL.of (by simp [h.length]) fun i d v h1 h2 => ?_
 rw [List.getElem?_drop] at h1 h2
 obtain ⟨v', e1, e2⟩ := h.getD h1
 rw [h2] at e1
 rw [gF3 e1]
 exact e2
theorem RpL.reverse {W : Wd} {Z : Addr → Prop} {H : Hp} : ∀ {ds : List D} {vs : List V}, RpL W Z H ds vs → RpL W Z H ds.reverse vs.reverse
 | [], vs, h => by
  unfold RpL at h
  rw [h]
  exact (by unfold RpL; rfl : RpL W Z H [] [])
 | d :: ds, vs, h => by
  unfold RpL at h
  obtain ⟨v, us, h1, h2, h3⟩ := h
  rw [h1, List.reverse_cons, List.reverse_cons]
  exact (RpL.reverse h3).append (by unfold RpL; exact ⟨v, [], rfl, h2, by unfold RpL; rfl⟩)
def Out.bind {α β : Type} : Out α → (α → EnvD → Out β) → Out β
 | .ok a e, f => f a e
 | .exc c a e, _ => .exc c a e
 | .bad, _ => .bad
theorem RpZ.two {W : Wd} {L : Lab} {H : Hp} {d : D} {v : V} (h : Rp W (Zo L) H d v) : RpZ W L H 2 d v := h
theorem RpZ.of2 {W : Wd} {L : Lab} {H : Hp} {z : Nat} {d : D} {v : V} (h : Rp W (Zo L) H d v) : RpZ W L H z d v := by
 match z, d, h with
 | 0, _, h => exact Rp.shun (fun _ q _ => q.elim) _ v h
 | 1, .lst ds, h =>
  unfold Rp at h
  obtain ⟨a, vs, h1, _, h3, h4⟩ := h
  exact ⟨a, vs, h1, h3, h4⟩
 | 1, .non, h => exact h
 | 1, .bool _, h => exact h
 | 1, .int _, h => exact h
 | 1, .str _, h => exact h
 | 1, .tup _, h => exact h
 | 1, .dic ks ds, h =>
  unfold Rp at h
  obtain ⟨a, vs, h1, _, h3, h4⟩ := h
  exact ⟨a, vs, h1, h3, h4⟩
 | 1, .obj k ds, h =>
  unfold Rp at h
  obtain ⟨a, vs, h1, _, h3, h4⟩ := h
  exact ⟨a, vs, h1, h3, h4⟩
 | 1, .ro _, h => exact h
 | _ + 2, _, h => exact h
section
variable {W : Wd} {G : Gh} {O : List Nat} {L : Lab} {env : EnvD} {σ : L2.St} {H H' : Hp}
theorem Rel.frozen (R : Rel W G O L env σ H) {i : Nat} {d : D} (h : env[i]? = some (some d)) (o : O.getD i 0 = 0) : ∃ v, σ[i]? = some (some v) ∧ Rp W (Zo L) H d v := by
 obtain ⟨v, h1, h2⟩ := R.slot i d h
 rw [o] at h2
 exact ⟨v, h1, h2⟩
theorem Rel.shallow (R : Rel W G O L env σ H) {i : Nat} {d : D} (h : env[i]? = some (some d)) (o : O.getD i 0 ≤ 1) : ∃ v, σ[i]? = some (some v) ∧ RpZ W L H 1 d v := by
 obtain ⟨v, h1, h2⟩ := R.slot i d h
 refine ⟨v, h1, ?_⟩
 have o' : O.getD i 0 = 0 ∨ O.getD i 0 = 1 := by omega
 rcases o' with o' | o'
 ·rw [o'] at h2
  exact RpZ.of2 h2
 ·rw [o'] at h2
  match d, h2 with
  | .lst ds, h2 =>
   unfold Ow at h2
   obtain ⟨a, vs, q1, _, q3, q4, q5⟩ := h2
   exact ⟨a, vs, q1, ⟨q3, q4.2⟩, RpL.of q4.1 fun j d' v' e1 e2 => q5 j d' v' e1 e2⟩
  | .non, h2 => exact h2
  | .bool _, h2 => exact h2
  | .int _, h2 => exact h2
  | .str _, h2 => exact h2
  | .tup _, h2 => exact h2
  | .dic ks ds, h2 =>
   unfold Ow at h2
   obtain ⟨a, vs, q1, _, q3, q4, q5⟩ := h2
   exact ⟨a, vs, q1, q3, RpL.of q4 fun j d' v' e1 e2 => q5 j d' v' e1 e2⟩
  | .obj k ds, h2 =>
   unfold Ow at h2
   obtain ⟨a, vs, q1, _, q3, q4, q5⟩ := h2
   exact ⟨a, vs, q1, q3.1, RpL.of q4 fun j d' v' e1 e2 => q5 j d' v' e1 e2⟩
  | .ro _, h2 => exact h2
theorem Rel.drop (R : Rel W G O L env σ H) (i : Nat) : Rel W G O L (env.set i none) σ H := by
 refine ⟨by rw [gH6, R.len], fun j d' e => ?_, R.dom, R.ent, R.ext, R.loc, R.first, R.zero⟩
 by_cases q : i = j
 ·subst q
  rw [List.getElem?_set] at e
  split at e
  ·split at e <;> cases e
  ·exact R.slot i d' e
 ·rw [gH4 q] at e
  exact R.slot j d' e
theorem Rel.unlabel (R : Rel W G O L env σ H) {L' : Lab} (h : ∀ a l, L' a = some l → L a = some l) (k : ∀ a i q, i < O.length → L a = some (i :: q) → L' a = some (i :: q)) (x : ∀ a l, G.L a = some l → L' a = some l) : Rel W G O L' env σ H := by
 have z : ∀ a, Zo L' a → Zo L a := fun a q e => by
  cases r : L' a with
  | none => exact q r
  | some l => rw [h a l r] at e; cases e
 refine ⟨R.len, fun i d e => ?_, fun a q => R.dom a (z a q), R.ent, x, fun a l e q => R.loc a l (h a l e) q, R.first, fun hn a q e => R.zero hn a q (h a _ e)⟩
 obtain ⟨v, h1, h2⟩ := R.slot i d e
 refine ⟨v, h1, ?_⟩
 by_cases hi : i < O.length
 ·exact Ow.map (fun d v => Rp.shun (fun a q _ => z a q) d v) _ _ _ d v (fun a q e1 _ => ⟨k a i q hi e1, Stay.refl⟩) h2
 ·have o : O.getD i 0 = 0 := by
   rw [gH7, gI1.mpr (by omega)]
   rfl
  rw [o] at h2 ⊢
  exact Rp.shun (fun a q _ => z a q) d v h2
def cut (L : Lab) (i : Nat) : Lab := fun a => match L a with
 | some (j :: q) => if j = i then none else some (j :: q)
 | x => x
end
structure DW (W : Wd) (X : Cx) (Wx : WX) (O : List Nat) (e : Expr) (m : M Bool) (p : Bool) : Prop where
 k : X.K = W.K
 run : ∃ t, PW X e t ∧ ∀ (G : Gh) (L : Lab) (env : EnvD) (σ : L2.St) (H : Hp) (Q : Bool → Hp → Prop), Rel W G O L env σ H → kLm W G O L p Wx env σ H Q (m env) → t σ H Q
section
variable {W : Wd} {X : Cx} {Wx : WX} {G : Gh} {O : List Nat} {L : Lab} {env : EnvD} {σ : L2.St} {H H' : Hp} {p q : Bool} {z : Nat}
theorem RpZ.le {z' : Nat} {d : D} {v : V} (h : RpZ W L H z d v) (l : z' ≤ z ∨ z' = 0) (k : z ≤ 2) : RpZ W L H z' d v := by
 rcases l with l | l
 ·rcases Nat.lt_or_ge z' z with l' | l'
  ·match z, z', h, l', k with
   | 1, 0, h, _, _ => exact h.any
   | 2, 0, h, _, _ => exact RpZ.any (z := 2) h
   | 2, 1, h, _, _ => exact RpZ.of2 h
  ·have : z' = z := by omega
   rw [this]
   exact h
 ·rw [l]
  exact h.any
theorem kAO {p p' : Bool} (h : p' = true → p = true) {a : Addr} (z : Zp p L a) : Zp p' L a := by
 cases p' with
 | true => rw [h rfl] at z; exact z
 | false =>
  cases p with
  | true => exact z.elim
  | false => exact z
theorem kFN {d : D} {v : V} (h : RpZ W L H 2 d v) : Rp W (Zo L) H d v := h
end
def dC (d : D) : M D := fun env => .ok d env
def dVar (i : Nat) : M D := fun env => match env[i]? with
 | some (some d) => .ok d env
 | _ => .bad
section
variable {W : Wd} {X : Cx} {Wx : WX} {O : List Nat} {x : Str} {pos : Pos} {i : Nat}
theorem kAc (o : O.getD i 0 = 0) (pv : PE X (.Name x pos) (tVar i)) (k : X.K = W.K := by rfl) : DE W X Wx O (.Name x pos) (dVar i) 2 true := by
 refine ⟨k, _, pv, fun G L env σ H Q R h => ?_⟩
 unfold dVar at h
 split at h
 ·rename_i d e
  obtain ⟨v, h1, h2⟩ := R.frozen e o
  exact ⟨v, h1, h v H R Ev.refl (fun _ => rfl) h2⟩
 ·exact h.elim
theorem kNj (o : O.getD i 0 ≤ 1) (pv : PE X (.Name x pos) (tVar i)) (k : X.K = W.K := by rfl) : DE W X Wx O (.Name x pos) (dVar i) 1 true := by
 refine ⟨k, _, pv, fun G L env σ H Q R h => ?_⟩
 unfold dVar at h
 split at h
 ·rename_i d e
  obtain ⟨v, h1, h2⟩ := R.shallow e o
  exact ⟨v, h1, h v H R Ev.refl (fun _ => rfl) h2⟩
 ·exact h.elim
def cst : D → Option V
 | .non => some .non
 | .bool b => some (.bl b)
 | .int i => some (.int i)
 | .str x => some (.str x)
 | _ => none
theorem kSF {d : D} {v : V} (h : cst d = some v) (Z : Addr → Prop) (H : Hp) : Rp W Z H d v := by
 cases d <;> cases h <;> (unfold Rp; rfl)
theorem kAe {e : Expr} {d : D} {v : V} (h : PE X e (tC v)) (c : cst d = some v := by rfl) (k : X.K = W.K := by rfl) : DE W X Wx O e (dC d) 2 true :=
 ⟨k, _, h, fun G L env σ H Q R hq => hq v H R Ev.refl (fun _ => rfl) (kSF c _ _)⟩
theorem DE.weak {e : Expr} {m : M D} {z z' : Nat} {p p' : Bool} (h : DE W X Wx O e m z p) (hz : z' ≤ z) (h2 : z ≤ 2 := by decide) (hp : p' = true → p = true := by decide) : DE W X Wx O e m z' p' := by
 obtain ⟨k, t, pe, s⟩ := h
 refine ⟨k, t, pe, fun G L env σ H Q R hq => s G L env σ H Q R ?_⟩
 cases q : m env with
 | ok d env' =>
  rw [q] at hq
  exact fun v H' R' E P z => hq v H' R' (E.mono fun a y _ => kAO hp y) (fun c => P (hp c)) (z.le (.inl hz) h2)
 | exc c a env' =>
  rw [q] at hq
  exact hq
 | bad =>
  rw [q] at hq
  exact hq.elim
end
theorem Rel.entry {W : Wd} {G : Gh} {O : List Nat} {L : Lab} {env : EnvD} {σ : L2.St} {H H' : Hp} {Z : Addr → Prop} (R : Rel W G O L env σ H) (ev : Ev W Z H H') (hz : ∀ a, Z a → ∃ j q, L a = some (j :: q)) : Ent W G H' := by
 have key : ∀ a, Z a → G.H a ≠ none → G.io a := fun a z hn => by
  obtain ⟨j, q, e⟩ := hz a z
  cases g : G.L a with
  | none => exact (hn (R.loc a _ e g).1).elim
  | some l =>
   rcases G.hd a l g with w | ⟨r, w⟩
   ·have := R.ext a l g
    rw [e, w] at this
    cases this
   ·exact ⟨r, by rw [g, w]⟩
 exact ⟨⟨fun a xs h z => ev.lst a xs (R.ent.ev.lst a xs h z) fun y => z (key a y (by rw [h]; exact fun w => nomatch w)), fun a xs h => ev.tup a xs (R.ent.ev.tup a xs h), fun a o u h => ev.frz a o u (R.ent.ev.frz a o u h),
  fun a xs h z => ev.dk a xs (R.ent.ev.dk a xs h z) fun y => z (key a y (by rw [h]; exact fun w => nomatch w)), fun a xs h z => ev.dt a xs (R.ent.ev.dt a xs h z) fun y => z (key a y (by rw [h]; exact fun w => nomatch w)),
  fun a k es ds h z => ev.obj a k es ds (R.ent.ev.obj a k es ds h z) (W.gd h z fun y q => key a q y), fun a h => R.ent.ev.dom a (ev.dom a h), fun P q h => ev.tab P q (R.ent.ev.tab P q h), fun P q h => ev.cod P q (R.ent.ev.cod P q h)⟩, fun p hp => ev.tab p hp (R.ent.tabs p hp)⟩
mutual
theorem Rp.dp {W : Wd} {Z : Addr → Prop} {H : Hp} : ∀ (d : D) (v : V), d.plain = true → Rp W Z H d v → Dp W.K H v d.py
 | .non, v, _, h => by
  unfold Rp at h
  rw [h]
  exact .non
 | .bool b, v, _, h => by
  unfold Rp at h
  rw [h]
  exact .bl b
 | .int i, v, _, h => by
  unfold Rp at h
  rw [h]
  exact .int i
 | .str x, v, _, h => by
  unfold Rp at h
  rw [h]
  exact .str x
 | .tup ds, v, f, h => by
  unfold Rp at h
  obtain ⟨a, vs, h1, h2, h3⟩ := h
  rw [h1]
  exact .tup (SqT.of h2.1) (RpL.dp ds vs (by simpa [D.plain] using f) h3)
 | .lst ds, v, f, h => by
  unfold Rp at h
  obtain ⟨a, vs, h1, _, h2, h3⟩ := h
  rw [h1]
  exact .lst (SqL.of h2.1) (RpL.dp ds vs (by simpa [D.plain] using f) h3)
 | .ro ds, v, f, h => by
  unfold Rp at h
  obtain ⟨a, vs, h1, h2, h3⟩ := h
  rw [h1]
  exact .lst h2.1.sq (RpL.dp ds vs (by simpa [D.plain] using f) h3)
 | .dic _ _, _, f, _ => by simp [D.plain] at f
 | .obj _ _, _, f, _ => by simp [D.plain] at f
theorem RpL.dp {W : Wd} {Z : Addr → Prop} {H : Hp} : ∀ (ds : List D) (vs : List V), kEx ds = true → RpL W Z H ds vs → DpAll W.K H vs (pyL ds)
 | [], vs, _, h => by
  unfold RpL at h
  rw [h]
  exact .nil
 | d :: ds, vs, f, h => by
  unfold RpL at h
  obtain ⟨v, us, h1, h2, h3⟩ := h
  have f' : d.plain = true ∧ kEx ds = true := by simpa [kEx] using f
  rw [h1]
  exact .cons (Rp.dp d v f'.1 h2) (RpL.dp ds us f'.2 h3)
end
def D.fine (d : D) : Bool := d.plain && SeqAt.shaped d.py
def deq (a b : D) : Option Bool := if a.fine = true ∧ b.fine = true then some (PyData.eqv a.py b.py) else none
theorem OpR.or {X : Cx} {f : Value → Value → Sem Value} {r r' : R2} (h : OpR X f r) (h' : OpR X f r') : OpR X f (fun x y H Q => r x y H Q ∨ r' x y H Q) := fun pins s σ H x y v u Q I rx ry q => by
 rcases q with q | q
 ·exact h pins s σ H x y v u Q I rx ry q
 ·exact h' pins s σ H x y v u Q I rx ry q
def RF (W : Wd) (y1 y2 zo : Nat) (r : R2) (F : D → D → Option D) : Prop := ∀ (L : Lab) (H : Hp) (a b d : D) (x y : V) (Q : VK), RpZ W L H y1 a x → RpZ W L H y2 b y → F a b = some d → (∀ a, L a ≠ none → H a ≠ none) →
 (∀ v H', Ev W No H H' → RpZ W L H' zo d v → Q v H') → r x y H Q
def lift (o : Option D) (e : EnvD) : Out D := match o with
 | some d => .ok d e
 | none => .bad
def dOp2 (F : D → D → Option D) (m1 m2 : M D) : M D := fun env => (m1 env).bind fun a e1 => (m2 e1).bind fun b e2 => lift (F a b) e2
section
variable {W : Wd} {X : Cx} {Wx : WX} {O : List Nat} {a b c : Expr} {m1 m2 : M D} {z1 z2 y1 y2 zo : Nat} {p1 p2 : Bool} {pos : Pos}
theorem kKv {r : R2} {F : D → D → Option D} (f : RF W y1 y2 zo r F) {ta tb : TE} {G : Gh} {L : Lab} {env : EnvD} {σ : L2.St} {H : Hp} {Q : VK}
  (sa : ∀ (G : Gh) (L : Lab) (env : EnvD) (σ : L2.St) (H : Hp) (Q : VK), Rel W G O L env σ H → kBp W G O L p1 z1 Wx env σ H Q (m1 env) → ta σ H Q)
  (sb : ∀ (G : Gh) (L : Lab) (env : EnvD) (σ : L2.St) (H : Hp) (Q : VK), Rel W G O L env σ H → kBp W G O L p2 z2 Wx env σ H Q (m2 env) → tb σ H Q)
  (l1 : y1 ≤ z1) (k1 : z1 ≤ 2) (l2 : y2 ≤ z2) (k2 : z2 ≤ 2) (cc : p2 = true ∨ z1 = 2)
  (R : Rel W G O L env σ H) (h : kBp W G O L (p1 && p2) zo Wx env σ H Q (dOp2 F m1 m2 env)) : tOp r ta tb σ H Q := by
 unfold dOp2 at h
 refine sa G L env σ H _ R ?_
 cases q1 : m1 env with
 | bad => rw [q1] at h; exact h.elim
 | exc c a e => rw [q1] at h; exact h
 | ok d1 e1 =>
  rw [q1] at h
  intro x H1 R1 E1 P1 Z1
  refine sb G L e1 σ H1 _ R1 ?_
  have h : kBp W G O L (p1 && p2) zo Wx env σ H Q ((m2 e1).bind fun b e2 => lift (F d1 b) e2) := h
  cases q2 : m2 e1 with
  | bad => rw [q2] at h; exact h.elim
  | exc c a e => rw [q2] at h; exact h
  | ok d2 e2 =>
   rw [q2] at h
   intro y H2 R2 E2 P2 Z2
   have h : kBp W G O L (p1 && p2) zo Wx env σ H Q (lift (F d1 d2) e2) := h
   cases q3 : F d1 d2 with
   | none => rw [q3] at h; exact h.elim
   | some d =>
    rw [q3] at h
    refine f L H2 d1 d2 d x y Q ((Z1.ev E2 cc).le (.inl l1) k1) (Z2.le (.inl l2) k2) q3 R2.dom fun v H' E3 Z3 => ?_
    refine h v H' (R2.pure E3) ((E1.mono fun a z _ => kAO (fun w => ?_) z).trans ((E2.mono fun a z _ => kAO (fun w => ?_) z).trans (E3.mono fun _ z _ => z.elim))) (fun w => ?_) Z3
    ·exact (gG6.mp w).1
    ·exact (gG6.mp w).2
    ·rw [P2 (gG6.mp w).2, P1 (gG6.mp w).1]
theorem kCj {op : Operator} {r : R2} {F : D → D → Option D} (hr : OpR X (binaryOp op) r) (f : RF W y1 y2 zo r F) (ha : DE W X Wx O a m1 z1 p1) (hb : DE W X Wx O b m2 z2 p2)
  (l1 : y1 ≤ z1 := by decide) (k1 : z1 ≤ 2 := by decide) (l2 : y2 ≤ z2 := by decide) (k2 : z2 ≤ 2 := by decide) (cc : p2 = true ∨ z1 = 2 := by first | exact .inl rfl | exact .inr rfl) :
  DE W X Wx O (.BinOp a op b pos) (dOp2 F m1 m2) zo (p1 && p2) := by
 obtain ⟨k, ta, pa, sa⟩ := ha
 obtain ⟨_, tb, pb, sb⟩ := hb
 exact ⟨k, _, pe_op hr pa pb, fun G L env σ H Q R h => kKv f sa sb l1 k1 l2 k2 cc R h⟩
theorem kGv {op : CmpOp} {r : R2} {F : D → D → Option D} (hr : OpR X (compareOp op) r) (f : RF W y1 y2 zo r F) (ha : DE W X Wx O a m1 z1 p1) (hb : DE W X Wx O b m2 z2 p2)
  (l1 : y1 ≤ z1 := by decide) (k1 : z1 ≤ 2 := by decide) (l2 : y2 ≤ z2 := by decide) (k2 : z2 ≤ 2 := by decide) (cc : p2 = true ∨ z1 = 2 := by first | exact .inl rfl | exact .inr rfl) (hm : behindInMarks op b = false := by rfl) :
  DE W X Wx O (.Compare a [op] [b] pos) (dOp2 F m1 m2) zo (p1 && p2) := by
 obtain ⟨k, ta, pa, sa⟩ := ha
 obtain ⟨_, tb, pb, sb⟩ := hb
 exact ⟨k, _, pe_cmpR hr pa pb hm, fun G L env σ H Q R h => kKv f sa sb l1 k1 l2 k2 cc R h⟩
theorem kBb {r : R2} {F : D → D → Option D} (hr : IxR X r) (f : RF W y1 y2 zo r F) (ha : DE W X Wx O a m1 z1 p1) (hb : DE W X Wx O b m2 z2 p2)
  (l1 : y1 ≤ z1 := by decide) (k1 : z1 ≤ 2 := by decide) (l2 : y2 ≤ z2 := by decide) (k2 : z2 ≤ 2 := by decide) (cc : p2 = true ∨ z1 = 2 := by first | exact .inl rfl | exact .inr rfl) (hs : PlainIx b := by exact fun _ _ => rfl) :
  DE W X Wx O (.Subscript a b pos) (dOp2 F m1 m2) zo (p1 && p2) := by
 obtain ⟨k, ta, pa, sa⟩ := ha
 obtain ⟨_, tb, pb, sb⟩ := hb
 exact ⟨k, _, pe_ix hr pa pb hs, fun G L env σ H Q R h => kKv f sa sb l1 k1 l2 k2 cc R h⟩
def kAp (m : M D) : M Bool := fun env => (m env).bind fun d e => match d with
 | .bool b => .ok b e
 | _ => .bad
theorem kAJ {op : CmpOp} {r : R2} {F : D → D → Option D} (hr : OpR X (compareOp op) r) (f : RF W y1 y2 zo r F) (ha : DE W X Wx O a m1 z1 p1) (hb : DE W X Wx O b m2 z2 p2)
  (l1 : y1 ≤ z1 := by decide) (k1 : z1 ≤ 2 := by decide) (l2 : y2 ≤ z2 := by decide) (k2 : z2 ≤ 2 := by decide) (cc : p2 = true ∨ z1 = 2 := by first | exact .inl rfl | exact .inr rfl) (hm : behindInMarks op b = false := by rfl) :
  DT W X Wx O (.Compare a [op] [b] pos) (kAp (dOp2 F m1 m2)) (p1 && p2) := by
 obtain ⟨k, ta, pa, sa⟩ := ha
 obtain ⟨_, tb, pb, sb⟩ := hb
 refine ⟨k, _, pt_cmpR hr pa pb hm, fun G L env σ H Q R h => ?_⟩
 refine kKv (zo := zo) f sa sb l1 k1 l2 k2 cc R ?_
 unfold kAp at h
 cases q1 : dOp2 F m1 m2 env with
 | bad => rw [q1] at h; exact h.elim
 | exc c a e => rw [q1] at h; exact h
 | ok d1 e1 =>
  rw [q1] at h
  intro v H' R' E P Z
  match d1, Z, h with
  | .bool b, Z, h =>
   have e := Z.any
   unfold Rp at e
   exact ⟨b, e, h H' R' E P⟩
def kIE : D → Option Bool
 | .non => some false
 | .bool b => some b
 | .int i => some (i != 0)
 | .str x => if x.length ≤ sizeLine then some (x.length != 0) else none
 | .tup xs => some (!xs.isEmpty)
 | .lst xs => some (!xs.isEmpty)
 | .ro xs => some (!xs.isEmpty)
 | _ => none
def dTru (m : M D) : M Bool := fun env => (m env).bind fun d e => match kIE d with
 | some b => .ok b e
 | none => .bad
theorem kNf {α β : Type} {xs : List α} {ys : List β} (h : xs.length = ys.length) : xs.isEmpty = ys.isEmpty := by
 cases xs <;> cases ys <;> simp at h <;> rfl
theorem kME {Z : Addr → Prop} {H : Hp} {d : D} {v : V} {k : Bool} (h : Rp W Z H d v) (t : kIE d = some k) : TruV W.K v H k := by
 cases d with
 | non => unfold Rp at h; subst h; cases t; rfl
 | bool b => unfold Rp at h; subst h; cases t; rfl
 | int i => unfold Rp at h; subst h; cases t; rfl
 | str x =>
  unfold Rp at h
  subst h
  have t : (if x.length ≤ sizeLine then some (x.length != 0) else none) = some k := t
  by_cases hz : x.length ≤ sizeLine
  ·rw [if_pos hz] at t
   refine ⟨hz, ?_⟩
   rw [← gF3 t]
   refine Bool.eq_iff_iff.mpr ?_
   rw [bne_iff_ne, bne_iff_ne]
   omega
  ·rw [if_neg hz] at t
   cases t
 | tup ds =>
  unfold Rp at h
  obtain ⟨a, vs, rfl, h2, h3⟩ := h
  cases t
  exact .inr (.inl ⟨vs, SqT.of h2.1, by rw [kNf h3.length]⟩)
 | lst ds =>
  unfold Rp at h
  obtain ⟨a, vs, rfl, _, h2, h3⟩ := h
  cases t
  exact .inl ⟨vs, SqL.of h2.1, by rw [kNf h3.length]⟩
 | ro ds =>
  unfold Rp at h
  obtain ⟨a, vs, rfl, h2, h3⟩ := h
  cases t
  exact .inl ⟨vs, h2.1.sq, by rw [kNf h3.length]⟩
 | dic _ _ => cases t
 | obj _ _ => cases t
theorem kEA (h : DE W X Wx O a m1 z1 p1) (he : ∀ whole, isTrue a X.env whole = (do let v ← whole; standAt a.pos; holding [v] (truthy v)) := by intro _; rfl) : DT W X Wx O a (dTru m1) p1 := by
 obtain ⟨k, ta, pa, sa⟩ := h
 refine ⟨k, _, pt_truth pa he, fun G L env σ H Q R h => sa G L env σ H _ R ?_⟩
 unfold dTru at h
 cases q1 : m1 env with
 | bad => rw [q1] at h; exact h.elim
 | exc c a e => rw [q1] at h; exact h
 | ok d1 e1 =>
  rw [q1] at h
  intro v H' R' E P Z
  have h : kLm W G O L p1 Wx env σ H Q (match kIE d1 with | some b => .ok b e1 | none => .bad) := h
  cases q2 : kIE d1 with
  | none => rw [q2] at h; exact h.elim
  | some b =>
   rw [q2] at h
   have t := kME (Z.any) q2
   rw [← k] at t
   exact ⟨b, t, h H' R' E P⟩
def dNot (m : M Bool) : M Bool := fun env => (m env).bind fun b e => .ok (!b) e
theorem kEB {m : M Bool} (h : DT W X Wx O a m p1) : DT W X Wx O (.UnaryOp .Not a pos) (dNot m) p1 := by
 obtain ⟨k, ta, pa, sa⟩ := h
 refine ⟨k, _, pt_not pa, fun G L env σ H Q R h => sa G L env σ H _ R ?_⟩
 unfold dNot at h
 cases q1 : m env with
 | bad => rw [q1] at h; exact h.elim
 | exc c a e => rw [q1] at h; exact h
 | ok d1 e1 =>
  rw [q1] at h
  exact fun H' R' E P => h H' R' E P
def dAnd (m n : M Bool) : M Bool := fun env => (m env).bind fun b e => if b = true then n e else .ok false e
def dOr (m n : M Bool) : M Bool := fun env => (m env).bind fun b e => if b = true then .ok true e else n e
theorem kTJ {m : M Bool} (h : DT W X Wx O a m p1) : DW W X Wx O (.BoolOp .And [a] pos) m p1 := by
 obtain ⟨k, ta, pa, sa⟩ := h
 exact ⟨k, _, pw_and1 pa, sa⟩
theorem kHQ {m : M Bool} (h : DT W X Wx O a m p1) : DW W X Wx O (.BoolOp .Or [a] pos) m p1 := by
 obtain ⟨k, ta, pa, sa⟩ := h
 exact ⟨k, _, pw_or1 pa, sa⟩
theorem dt_w {m : M Bool} (h : DW W X Wx O a m p1) : DT W X Wx O a m p1 := by
 obtain ⟨k, ta, pa, sa⟩ := h
 exact ⟨k, _, pa.pt, sa⟩
theorem kJZ {G : Gh} {L : Lab} {env e1 : EnvD} {σ : L2.St} {H H1 : Hp} {Q : Bool → Hp → Prop} {r : Out Bool} (E1 : Ev W (Zp p1 L) H H1) (P1 : p1 = true → e1 = env) (h : kLm W G O L (p1 && p2) Wx env σ H Q r) : kLm W G O L p2 Wx e1 σ H1 Q r := by
 cases r with
 | bad => exact h
 | exc c a e => exact h
 | ok b e2 =>
  exact fun H' R' E P => h H' R' ((E1.mono fun a z _ => kAO (fun w => (gG6.mp w).1) z).trans (E.mono fun a z _ => kAO (fun w => (gG6.mp w).2) z)) fun w => by
   rw [P (gG6.mp w).2, P1 (gG6.mp w).1]
theorem kIe {G : Gh} {L : Lab} {z : Nat} {env e1 : EnvD} {σ : L2.St} {H H1 : Hp} {Q : VK} {r : Out D} (E1 : Ev W (Zp p1 L) H H1) (P1 : p1 = true → e1 = env) (h : kBp W G O L (p1 && p2) z Wx env σ H Q r) : kBp W G O L p2 z Wx e1 σ H1 Q r := by
 cases r with
 | bad => exact h
 | exc c a e => exact h
 | ok b e2 =>
  exact fun v H' R' E P Z => h v H' R' ((E1.mono fun a z _ => kAO (fun w => (gG6.mp w).1) z).trans (E.mono fun a z _ => kAO (fun w => (gG6.mp w).2) z)) (fun w => by
   rw [P (gG6.mp w).2, P1 (gG6.mp w).1]) Z
theorem kVd {m n : M Bool} {rest : List Expr} (ha : DT W X Wx O a m p1) (hb : DW W X Wx O (.BoolOp .And (b :: rest) pos) n p2) : DW W X Wx O (.BoolOp .And (a :: b :: rest) pos) (dAnd m n) (p1 && p2) := by
 obtain ⟨k, ta, pa, sa⟩ := ha
 obtain ⟨_, tb, pb, sb⟩ := hb
 refine ⟨k, _, pw_and pa pb, fun G L env σ H Q R h => sa G L env σ H _ R ?_⟩
 unfold dAnd at h
 cases q1 : m env with
 | bad => rw [q1] at h; exact h.elim
 | exc c a e => rw [q1] at h; exact h
 | ok b1 e1 =>
  rw [q1] at h
  have h : kLm W G O L (p1 && p2) Wx env σ H Q (if b1 = true then n e1 else .ok false e1) := h
  intro H' R' E P
  cases b1 with
  | true =>
   rw [if_pos rfl] at h ⊢
   exact sb G L e1 σ H' Q R' (kJZ E P h)
  | false =>
   rw [if_neg (by decide)] at h ⊢
   exact h H' R' (E.mono fun a z _ => kAO (fun w => (gG6.mp w).1) z) fun w => P (gG6.mp w).1
theorem kJx {m n : M Bool} {rest : List Expr} (ha : DT W X Wx O a m p1) (hb : DW W X Wx O (.BoolOp .Or (b :: rest) pos) n p2) : DW W X Wx O (.BoolOp .Or (a :: b :: rest) pos) (dOr m n) (p1 && p2) := by
 obtain ⟨k, ta, pa, sa⟩ := ha
 obtain ⟨_, tb, pb, sb⟩ := hb
 refine ⟨k, _, pw_or pa pb, fun G L env σ H Q R h => sa G L env σ H _ R ?_⟩
 unfold dOr at h
 cases q1 : m env with
 | bad => rw [q1] at h; exact h.elim
 | exc c a e => rw [q1] at h; exact h
 | ok b1 e1 =>
  rw [q1] at h
  have h : kLm W G O L (p1 && p2) Wx env σ H Q (if b1 = true then .ok true e1 else n e1) := h
  intro H' R' E P
  cases b1 with
  | false =>
   rw [if_neg (by decide)] at h ⊢
   exact sb G L e1 σ H' Q R' (kJZ E P h)
  | true =>
   rw [if_pos rfl] at h ⊢
   exact h H' R' (E.mono fun a z _ => kAO (fun w => (gG6.mp w).1) z) fun w => P (gG6.mp w).1
def dIf (t : M Bool) (m n : M D) : M D := fun env => (t env).bind fun b e => if b = true then m e else n e
theorem kQu {t : M Bool} {p0 : Bool} {z p} (hc : DT W X Wx O c t p0) (ha : DE W X Wx O a m1 z p) (hb : DE W X Wx O b m2 z p) : DE W X Wx O (.IfExp c a b pos) (dIf t m1 m2) z (p0 && p) := by
 obtain ⟨k, tc, pc, sc⟩ := hc
 obtain ⟨_, ta, pa, sa⟩ := ha
 obtain ⟨_, tb, pb, sb⟩ := hb
 refine ⟨k, _, pe_ifExp pc pa pb, fun G L env σ H Q R h => sc G L env σ H _ R ?_⟩
 unfold dIf at h
 cases q1 : t env with
 | bad => rw [q1] at h; exact h.elim
 | exc c a e => rw [q1] at h; exact h
 | ok b1 e1 =>
  rw [q1] at h
  have h : kBp W G O L (p0 && p) z Wx env σ H Q (if b1 = true then m1 e1 else m2 e1) := h
  intro H' R' E P
  cases b1 with
  | true =>
   rw [if_pos rfl] at h ⊢
   exact sa G L e1 σ H' Q R' (kIe E P h)
  | false =>
   rw [if_neg (by decide)] at h ⊢
   exact sb G L e1 σ H' Q R' (kIe E P h)
def kRT (t : M Bool) : M D := fun env => (t env).bind fun b e => .ok (.bool b) e
theorem kTR (ha : DE W X Wx O a m1 z1 p1) : DE W X Wx O (.UnaryOp .Not a pos) (kRT (dNot (dTru m1))) 2 p1 := by
 obtain ⟨k, ta, pa, sa⟩ := ha
 refine ⟨k, _, pe_notT pa, fun G L env σ H Q R h => sa G L env σ H _ R ?_⟩
 unfold kRT dNot dTru at h
 cases q1 : m1 env with
 | bad => rw [q1] at h; exact h.elim
 | exc c a e => rw [q1] at h; exact h
 | ok d1 e1 =>
  rw [q1] at h
  intro v H' R' E P Z
  have h : kBp W G O L p1 2 Wx env σ H Q ((((match kIE d1 with | some b => Out.ok b e1 | none => .bad).bind fun b e => .ok (!b) e)).bind fun b e => .ok (.bool b) e) := h
  cases q2 : kIE d1 with
  | none => rw [q2] at h; exact h.elim
  | some b =>
   rw [q2] at h
   have t := kME (Z.any) q2
   rw [← k] at t
   exact ⟨b, t, h _ H' R' E P (by show Rp W (Zo L) H' (.bool _) _; unfold Rp; rfl)⟩
def kGL (m n : M D) : M D := fun env => (m env).bind fun d e => match kIE d with
 | some true => n e
 | some false => .ok d e
 | none => .bad
theorem kOr {op : BoolOp} {z p} (h : DE W X Wx O a m1 z p) : DE W X Wx O (.BoolOp op [a] pos) m1 z p := by
 obtain ⟨k, ta, pa, sa⟩ := h
 exact ⟨k, _, pe_one pa, sa⟩
theorem kHn {rest : List Expr} {z : Nat} (ha : DE W X Wx O a m1 z p1) (hb : DE W X Wx O (.BoolOp .And (b :: rest) pos) m2 z p2) : DE W X Wx O (.BoolOp .And (a :: b :: rest) pos) (kGL m1 m2) z (p1 && p2) := by
 obtain ⟨k, ta, pa, sa⟩ := ha
 obtain ⟨_, tb, pb, sb⟩ := hb
 refine ⟨k, _, pe_andT pa pb, fun G L env σ H Q R h => sa G L env σ H _ R ?_⟩
 unfold kGL at h
 cases q1 : m1 env with
 | bad => rw [q1] at h; exact h.elim
 | exc c a e => rw [q1] at h; exact h
 | ok d1 e1 =>
  rw [q1] at h
  intro v H' R' E P Z
  have h : kBp W G O L (p1 && p2) z Wx env σ H Q (match kIE d1 with | some true => m2 e1 | some false => .ok d1 e1 | none => .bad) := h
  cases q2 : kIE d1 with
  | none => rw [q2] at h; exact h.elim
  | some b =>
   rw [q2] at h
   have t := kME (Z.any) q2
   rw [← k] at t
   refine ⟨b, t, ?_⟩
   cases b with
   | true =>
    rw [if_pos rfl]
    exact sb G L e1 σ H' Q R' (kIe E P h)
   | false =>
    rw [if_neg (by decide)]
    exact h v H' R' (E.mono fun a z _ => kAO (fun w => (gG6.mp w).1) z) (fun w => P (gG6.mp w).1) Z
end
theorem FnG.imp {P : Program} {w : World} {K : PySem.W.Frag} {mg : Str → Option Value} {base : Heap} {k : Nat} {f : Addr} {fd : FuncData} {ps : List Str} {sp sp' : Sp} (F : FnG P w K mg base k f fd ps sp) (h : ∀ vs H Q E, sp' vs H Q E → sp vs H Q E) : FnG P w K mg base k f fd ps sp' :=
 ⟨fun vs H Q E q => F.size vs H Q E (h _ _ _ _ q), fun A hr hg outer s H e0 args us hb vs hv Q E q => F.go A hr hg outer s H e0 args us hb vs hv Q E (h _ _ _ _ q)⟩
theorem kAg {A : Around} {env : Env} (h : A.guards = some []) : (A.deeper env).guards = some [] := by
 first | exact h | (unfold Around.deeper; exact h) | (show A.guards = some []; exact h) | simpa [Around.deeper] using h
def CdOf (K : PySem.W.Frag) (f : Addr) (cdv : Value) : Prop := ∃ (oc : Value) (od : Option Addr) (fd : FuncData) (osl : Array (Option Value)), K.lookup f = some ⟨oc, od, .func fd, osl⟩ ∧ fd.code = cdv
section
variable {P : Program} {w : World} {K : PySem.W.Frag} {mg : Str → Option Value} {base : Heap}
theorem kVc {x qual : Str} {params : Arguments} {body : List Stmt} {scope : Scope} {dvs : List V} {kws : List (Str × V)} {f : Addr} {fd : FuncData} {N ps : List Str} {k : Nat} {sp : Sp} (F : FunD K x qual params body scope dvs kws f fd) (S : FnScope N ps scope)
  (size : ∀ vs H Q E, sp vs H Q E → vs.length = ps.length)
  (run : ∀ (cdv : Value), CdOf K f cdv → ∀ (A : Around), A.guards = some [] → ∀ (outer : List Env) (s : Shared) (H : Hp) (vs : List V) (Q : VK) (E : XK), Room k (A.deeper (envOfC qual scope s.heap.objs.size f cdv)) → sp vs H Q E →
   ∃ t, PSs (cxOf (CX P w) P w K mg base N qual scope f cdv A outer s H E) body t ∧ t { nx := fun _ H' => Q .non H', rt := Q } (start N vs) H) : FnG P w K mg base (k + 1) f fd ps sp := by
 obtain ⟨oc, od, dV, kV, doc, pm, an, cdv, ct, osl, rfl, lk, hcd, _, _⟩ := F.ex
 refine ⟨size, fun A hr hg outer s H e0 args us hb vs rv Q E hsp => ?_⟩
 have inK : K.In s.heap := e0.mod.kin.keeps (fun b o z => (e0.bs b o z).1)
 have noL : s.heap.NoLimit := e0.mod.nolimit.keeps (fun b o z => (e0.bs b o z).1)
 have hk : ∀ y ∈ ps.zip us, scope.names.lookup y.1 = some .local ∨ scope.names.lookup y.1 = some .cell ∧ ((cellsFrom (s.heap.objs.size + 1) scope.names []).lookup y.1).isSome = true := by
  rintro ⟨n, v⟩ hy
  rcases S.par n (List.of_mem_zip hy).1 with q | q
  ·exact Or.inl q
  ·exact Or.inr ⟨q, PySem.W.cellsFrom_some _ _ _ (Or.inl q)⟩
 refine codeAny_call_function hr.depth (inK _ _ lk) rfl S.co S.gen rfl (PySem.W.codeRec_of inK hcd) (hb _ _ _ _ (wpAny_newFunctionEnv_cells S.kind hk fun env he s1 x => ?_))
 subst he
 refine ⟨noL.keeps x.toInCall.keep, codeAny_func ?_⟩
 obtain ⟨t, ht, hq⟩ := run cdv ⟨_, _, _, _, lk, rfl⟩ A hg outer s H vs Q E (hr.deeper _) hsp
 have J := inv_start (CX := CX P w) (E := E) S hr.hd e0 (size _ _ _ _ hsp) rv x
 refine wpAny_mono (ht.run [] s1 (start N vs) H _ J hq) (fun fl s' hs => ?_) (fun _ _ hs => hs)
 cases fl with
 | brk => exact hs.elim fun _ q => q.elim fun _ q => q.2.elim
 | cont => exact hs.elim fun _ q => q.elim fun _ q => q.2.elim
 | next =>
  obtain ⟨σ', H', I', q⟩ := hs
  exact ⟨.non, H', I'.os, I'.bare, I'.base, I'.hok, rfl, q⟩
 | ret u =>
  obtain ⟨v, σ', H', I', rv', q⟩ := hs
  exact ⟨v, H', I'.os, I'.bare, I'.base, I'.hok, rv', q⟩
end
section
variable {X : Cx} {k : Nat} {f : Addr} {fd : FuncData} {ps : List Str} {sp : Sp} {dvs : List V} {ds : List Value} {Wx : WX} {x : Str} {p pos : Pos} {e : Expr} {es : List Expr} {t : TA}
theorem goG {pins : List (Addr × Obj)} {σ : L2.St} {H : Hp} {s : Shared} {Q : VK} {us : List Value} {vs : List V} (F : FnG X.prog X.w X.K X.mg X.base k f fd ps sp) (hr : Room k X.A) (hg : X.A.guards = some []) (hb : Binds X.K fd ps ds) (hd : Vals dvs ds) (tk : Takes X Wx)
  (I : Inv X pins σ H s) (r : Vals vs us) (h : sp (vs ++ dvs) H Q (WE Wx σ)) : wpAny (model X.prog X.w) X.A (call (.ref f) us) (EP X pins σ Q) X.xe s := by
 have r2 := r.append hd
 have hl : (us ++ ds).length = ps.length := r2.length ▸ F.size _ _ _ _ h
 refine wpAny_call (codeAny_mono (F.go X.A hr hg X.stack s H I.env0 ⟨us, []⟩ (us ++ ds) (hb s us I.kIn hl) _ r2 Q _ h) fun r s' hq => ?_)
 cases r with
 | error z => exact passAt tk σ pins H s z s' I hq
 | ok fl =>
  cases fl with
  | ret u => exact I.after hq
  | next => exact hq.elim
  | brk => exact hq.elim
  | cont => exact hq.elim
def kNx (sp : Sp) (dvs : List V) (Wx : WX) (t : TA) : TE := fun σ H Q => t σ H fun vs H1 => sp (vs ++ dvs) H1 Q (WE Wx σ)
theorem kNR (F : FnG X.prog X.w X.K X.mg X.base k f fd ps sp) (hr : Room k X.A) (hg : X.A.guards = some []) (gl : Gl X x) (hm : X.mg x = some (.ref f)) (hk : PySem.W.keepIn X.K (.ref f) = true) (hb : Binds X.K fd ps ds) (hd : Vals dvs ds) (tk : Takes X Wx)
  (ha : PA X (e :: es) t) (hdb : (x == ("__debug__" : Str)) = false := by decide) (he : starEach (e :: es) X.env = (false, eval e X.env) :: starEach es X.env := by rfl) (hpl : (backTo pos (starEach es X.env)).any (·.1) = false := by rfl) :
  PE X (.Call (.Name x p) (e :: es) [] pos) (kNx sp dvs Wx t) := PE.mk fun pins s σ H Q I h =>
 wpAny_Call_Name_kw (ld_glob I gl hm (PySem.W.callWith_K (h₀ := X.base) I.ok.mod.kin hk (thn (ha.run pos pins s σ H _ I h) fun us s1 q => by
  obtain ⟨vs, H1, I1, r, q⟩ := q
  exact ⟨I1.kIn, goG F hr hg hb hd tk I1 r q⟩) he hpl) hdb)
end
section
variable {W : Wd} {X : Cx} {Wx : WX} {F : Fc} {O O1 O' : List Nat} {st : Stmt} {rest : List Stmt} {m n : MS} {G : Gh} {L L1 : Lab} {H H1 : Hp} {Dn : Ends}
def kBw : MS := fun env => .nx env
def dSeq (m n : MS) : MS := fun env => (m env).seq n
theorem kBo (k : X.K = W.K := by rfl) : DSs W X Wx F O [] kBw O := ⟨k, _, pss_nil, fun G L env σ H Dn g R h => h σ H L R fun _ => Fw.refl⟩
theorem kAk (h : DS W X Wx F O st m O') : DSs W X Wx F O [st] m O' := by
 obtain ⟨k, t, p, s⟩ := h
 exact ⟨k, t, pss_one p, s⟩
theorem kSX {t u : TS} (s1 : SndS W F Wx O O1 t m) (s2 : SndS W F Wx O1 O' u n) : SndS W F Wx O O' (tSeq t u) (dSeq m n) := by
 intro G L env σ H Dn g R h
 refine s1 G L env σ H _ g R ?_
 have h : kDq W G F Wx O' L H Dn ((m env).seq n) := h
 cases q : m env with
 | nx e =>
  rw [q] at h
  exact fun σ' H' L' R' f => s2 G L' e σ' H' Dn g R' (h.fw f)
 | rt d e => rw [q] at h; exact h
 | bk e => rw [q] at h; exact h
 | ct e => rw [q] at h; exact h
 | exc c a e => rw [q] at h; exact h
 | bad => rw [q] at h; exact h
theorem kAf (h1 : DS W X Wx F O st m O1) (h2 : DSs W X Wx F O1 rest n O') : DSs W X Wx F O (st :: rest) (dSeq m n) O' := by
 obtain ⟨k, t, p1, s1⟩ := h1
 obtain ⟨_, u, p2, s2⟩ := h2
 exact ⟨k, _, pss_cons p1 p2, kSX s1 s2⟩
theorem kCK {z : Nat} {p : Bool} {env e : EnvD} {σ : L2.St} {c : Str} {a : Option D} (g : G.n ≠ 0 → F.ox.getD 0 0 = G.n) (cx : kDe O F.ox = true) (h : ∀ cv dd σ' H' L', Rel W G F.ox L' e σ' H' → ExR W L' c a cv dd H' → Wx cv dd σ' H') :
  ∀ cv dd H', Rel W G O L e σ H' → ExR W L c a cv dd H' → Wx cv dd σ H' := fun cv dd H' R x => by
 refine h cv dd σ H' _ (R.thin cx fun hn => (g hn).trans (R.first hn).2.symm) ⟨x.1, fun d q => ?_, x.2.2⟩
 obtain ⟨y, v, q1, q2, q3⟩ := x.2.1 d q
 exact ⟨y, v, q1, q2, Rp.shun (fun a z _ => kCN z) d v q3⟩
def dSet (i : Nat) (m : M D) : MS := fun env => match m env with
 | .ok d e => .nx (e.set i (some d))
 | .exc c a e => .exc c a e
 | .bad => .bad
variable {e : Expr} {me : M D} {p : Bool} {i : Nat} {x : Str} {pos pos' : Pos}
theorem kBX (he : DE W X Wx O e me 2 p) (ps : ∀ te, PE X e te → PS X (.Assign [.Name x pos'] e pos) (tAsg te (gName i))) (hi : i ≠ 0 ∨ O.getD 0 0 = 0 := by decide) (cx : kDe O F.ox = true := by decide) :
  DS W X Wx F O (.Assign [.Name x pos'] e pos) (dSet i me) (O.set i 0) := by
 obtain ⟨k, te, pe, se⟩ := he
 refine ⟨k, _, ps te pe, fun G L env σ H Dn g R h => se G L env σ H _ R ?_⟩
 unfold dSet at h
 cases q : me env with
 | bad => rw [q] at h; exact h.elim
 | exc c a e =>
  rw [q] at h
  exact kCK (z := 0) (p := true) (env := env) (fun hn => (g hn).2.1) cx h
 | ok d e1 =>
  rw [q] at h
  exact fun v H' R' E P Z => h _ H' L (R'.set (kFN Z) (hi.imp id fun z => Decidable.by_contra fun hn => hn ((R.first hn).2.symm.trans z))) fun _ => Fw.of E
def kDU (m : M D) : MS := fun env => match m env with
 | .ok _ e => .nx e
 | .exc c a e => .exc c a e
 | .bad => .bad
theorem kEm {z : Nat} (he : DE W X Wx O e me z p) (hs : swapsWith e none pos.line X.env = pure false := by rfl) (cx : kDe O F.ox = true := by decide) : DS W X Wx F O (.Expr e pos) (kDU me) O := by
 obtain ⟨k, te, pe, se⟩ := he
 refine ⟨k, _, ps_expr pe hs, fun G L env σ H Dn g R h => se G L env σ H _ R ?_⟩
 unfold kDU at h
 cases q : me env with
 | bad => rw [q] at h; exact h.elim
 | exc c a e =>
  rw [q] at h
  exact kCK (z := 0) (p := true) (env := env) (fun hn => (g hn).2.1) cx h
 | ok d e1 =>
  rw [q] at h
  exact fun v H' R' E P Z => h σ H' L R' fun _ => Fw.of E
def dRet (m : M D) : MS := fun env => match m env with
 | .ok d e => .rt d e
 | .exc c a e => .exc c a e
 | .bad => .bad
theorem kAB (he : DE W X Wx O e me 2 p) (f0 : F.fr = 0 := by rfl) (cx : kDe O F.ox = true := by decide) (cr : kDe O F.ort = true := by decide) : DS W X Wx F O (.Return (some e) pos) (dRet me) O' := by
 obtain ⟨k, te, pe, se⟩ := he
 refine ⟨k, _, ps_ret pe, fun G L env σ H Dn g R h => se G L env σ H _ R ?_⟩
 unfold dRet at h
 cases q : me env with
 | bad => rw [q] at h; exact h.elim
 | exc c a e =>
  rw [q] at h
  exact kCK (z := 0) (p := true) (env := env) (fun hn => (g hn).2.1) cx h
 | ok d e1 =>
  rw [q] at h
  intro v H' R' E P Z
  refine h v σ H' _ (R'.thin cr fun hn => ((g hn).1).trans (R.first hn).2.symm) ?_
  rw [f0]
  exact Rp.shun (fun a z _ => kCN z) d v (kFN Z)
def dIte (t : M Bool) (m n : MS) : MS := fun env => match t env with
 | .ok b e => if b = true then m e else n e
 | .exc c a e => .exc c a e
 | .bad => .bad
theorem kDn {c : Expr} {a b : List Stmt} {t : M Bool} {p0 : Bool} (hc : DT W X Wx O c t p0) (ha : DSs W X Wx F O a m O') (hb : DSs W X Wx F O b n O') (cx : kDe O F.ox = true := by decide) : DS W X Wx F O (.If c a b pos) (dIte t m n) O' := by
 obtain ⟨k, tc, pc, sc⟩ := hc
 obtain ⟨_, ta, pa, sa⟩ := ha
 obtain ⟨_, tb, pb, sb⟩ := hb
 refine ⟨k, _, ps_if pc pa pb, fun G L env σ H Dn g R h => sc G L env σ H _ R ?_⟩
 unfold dIte at h
 cases q : t env with
 | bad => rw [q] at h; exact h.elim
 | exc c a e =>
  rw [q] at h
  exact kCK (z := 0) (p := true) (env := env) (fun hn => (g hn).2.1) cx h
 | ok b1 e1 =>
  rw [q] at h
  have h : kDq W G F Wx O' L H Dn (if b1 = true then m e1 else n e1) := h
  intro H' R' E P
  cases b1 with
  | true =>
   rw [if_pos rfl] at h ⊢
   exact sa G L e1 σ H' Dn g R' (h.fw fun _ => Fw.of E)
  | false =>
   rw [if_neg (by decide)] at h ⊢
   exact sb G L e1 σ H' Dn g R' (h.fw fun _ => Fw.of E)
end
inductive FOut where
 | ok (d : D) (io : D) | exc (c : Str) (a : Option D) (io : D) | bad
abbrev FM := List D → FOut
def ioOf (n0 : Nat) (e : EnvD) : Option D := match n0, e with
 | 0, _ => some .non
 | _ + 1, some d :: _ => some d
 | _ + 1, _ => none
def runF (n n0 : Nat) (m : MS) : FM := fun ds => match m (ds.map some ++ List.replicate (n - ds.length) none) with
 | .nx e => (match ioOf n0 e with | some d => .ok .non d | none => .bad)
 | .rt d e => (match ioOf n0 e with | some d' => .ok d d' | none => .bad)
 | .exc c a e => (match ioOf n0 e with | some d' => .exc c a d' | none => .bad)
 | _ => .bad
def kSf (W : Wd) (G : Gh) (fr : Nat) (Q : VK) (E : XK) : FOut → Prop
 | .ok d io => ∀ v H' L', (∀ a l, G.L a = some l → L' a = some l) → (∀ a l, L' a = some l → G.L a = none → G.H a = none) → (G.n ≠ 0 ∧ G.n ≤ 2 → ∀ a q, L' a = some (0 :: q) → G.L a = some (0 :: q)) → (∀ a, L' a ≠ none → H' a ≠ none) → Ev W G.io G.H H' → (G.n ≠ 0 → Ow W L' H' G.n [0] io G.v) → Ow W L' H' fr [tmp] d v → Q v H'
 | .exc c a io => ∀ cv dd H' L', (∀ a l, G.L a = some l → L' a = some l) → (∀ a l, L' a = some l → G.L a = none → G.H a = none) → (G.n ≠ 0 ∧ G.n ≤ 2 → ∀ a q, L' a = some (0 :: q) → G.L a = some (0 :: q)) → (∀ a, L' a ≠ none → H' a ≠ none) → Ev W G.io G.H H' → (G.n ≠ 0 → Ow W L' H' G.n [0] io G.v) → ExR W L' c a cv dd H' → E cv dd H'
 | .bad => False
structure ArgsOk (W : Wd) (G : Gh) (ds : List D) (vs : List V) : Prop where
 len : ds.length = vs.length
 at_ : ∀ (i : Nat) (d : D) (v : V), ds[i]? = some d → vs[i]? = some v → Ow W G.L G.H (if i = 0 then G.n else 0) [i] d v
 dom : ∀ a, G.L a ≠ none → G.H a ≠ none
 first : G.n ≠ 0 → vs[0]? = some G.v
def spD (W : Wd) (n0 fr ar : Nat) (M : FM) : Sp := fun vs H Q E => vs.length = ar ∧ LamX.Tabs W.T H ∧ ∃ (G : Gh) (ds : List D), G.H = H ∧ G.n = n0 ∧ ArgsOk W G ds vs ∧ kSf W G fr Q E (M ds)
def kEV (n n0 : Nat) : List Nat := match n with
 | 0 => []
 | n + 1 => n0 :: List.replicate n 0
theorem kJW {n n0 : Nat} (i : Nat) : (kEV n n0).getD i 0 = if i = 0 ∧ n ≠ 0 then n0 else 0 := by
 cases n with
 | zero => simp [kEV]
 | succ n =>
  cases i with
  | zero => simp [kEV]
  | succ i =>
   simp only [kEV, List.getD_cons_succ]
   rw [gH7, List.getElem?_replicate]
   split <;> simp
theorem kAD {W : Wd} {P : Program} {w : World} {mg : Str → Option Value} {base : Heap} {x qual : Str} {params : Arguments} {body : List Stmt} {scope : Scope} {dvs : List V} {kws : List (Str × V)} {f : Addr} {fd : FuncData} {N ps : List Str} {k n0 fr : Nat} {m : MS} {O' : List Nat}
  (F : FunD W.K x qual params body scope dvs kws f fd) (S : FnScope N ps scope) (hf0 : fr = 0 ∨ fr ≠ 0)
  (hb : ∀ (cdv : Value), CdOf W.K f cdv → ∀ (A : Around), A.guards = some [] → ∀ (outer : List Env) (s : Shared) (H : Hp) (E : XK), Room k (A.deeper (envOfC qual scope s.heap.objs.size f cdv)) →
   DSs W (cxOf (CX P w) P w W.K mg base N qual scope f cdv A outer s H E) (fun cls d _ H => E cls d H) ⟨kEV 1 n0, kEV 1 n0, kEV 1 n0, fr, false⟩ (kEV N.length n0) body m O')
  (hN : N.length ≠ 0) (hO : O'.getD 0 0 = n0) (hend : fr = 0 ∨ ∀ env e, m env ≠ .nx e) : FnG P w W.K mg base (k + 1) f fd ps (spD W n0 fr ps.length (runF N.length n0 m)) := by
 refine kVc F S (fun vs H Q E h => h.1) (fun cdv hcd A hg outer s H vs Q E hr h => ?_)
 obtain ⟨hl, htab, G, ds, rfl, rfl, ha, hq⟩ := h
 obtain ⟨hk, t, pt, st⟩ := hb cdv hcd A hg outer s G.H E hr
 refine ⟨t, pt, st G G.L (ds.map some ++ List.replicate (N.length - ds.length) none) (start N vs) G.H _ (fun hn => ⟨?_, ?_, ?_⟩) ?_ ?_⟩
 ·simp [kEV]
 ·simp [kEV]
 ·simp [kEV]
 ·refine ⟨?_, fun i d h => ?_, ha.dom, ⟨Ev.refl, htab⟩, fun _ _ h => h, fun a l h q => ?_, fun hn => ?_, fun _ _ _ h => h⟩
  ·unfold L2.start
   simp [ha.len]
  ·have hi : i < ds.length := by
    by_cases hi : i < ds.length
    ·exact hi
    ·rw [List.getElem?_append_right (by simpa using hi), List.getElem?_replicate] at h
     split at h <;> cases h
   rw [gH8 (by simpa using hi), gI0] at h
   have hd : ds[i]? = some d := by
    cases q : ds[i]? with
    | none => rw [q] at h; cases h
    | some d' =>
     rw [q] at h
     exact congrArg some (gF3 (gF3 h))
   have hv : i < vs.length := by rw [← ha.len]; exact hi
   refine ⟨vs[i], ?_, ?_⟩
   ·unfold L2.start
    rw [gH8 (by simpa using hv), gI0, gF6 hv]
    rfl
   ·have q := ha.at_ i d _ hd (gF6 hv)
    rw [kJW]
    simpa [hN] using q
  ·rw [h] at q; cases q
  ·refine ⟨?_, ?_⟩
   ·have q := ha.first hn
    unfold L2.start
    have hv : 0 < vs.length := (gF8.mp q).1
    rw [gH8 (by simpa using hv), gI0, q]
    rfl
   ·rw [kJW]
    simp [hN]
 ·have fin : ∀ {O2 : List Nat} {L' : Lab} {e : EnvD} {σ' : L2.St} {H' : Hp} {io : D}, Rel W G O2 L' e σ' H' → ioOf G.n e = some io → O2.getD 0 0 = G.n → (G.n ≠ 0 → Ow W L' H' G.n [0] io G.v) := by
   intro O2 L' e σ' H' io R q qo hn
   have e0 : e[0]? = some (some io) := by
    obtain ⟨n', hG⟩ : ∃ n', G.n = n' + 1 := ⟨G.n - 1, by omega⟩
    rw [hG] at q
    match e, q with
    | some d :: e', q =>
     have q' : some d = some io := q
     rw [gE0, q']
    | none :: e', q => cases q
    | [], q => cases q
   obtain ⟨v, h1, h2⟩ := R.slot 0 io e0
   rw [(R.first hn).1] at h1
   have : G.v = v := gF3 (gF3 h1)
   rw [this]
   rw [qo] at h2
   exact h2
  unfold runF at hq
  cases qm : m (ds.map some ++ List.replicate (N.length - ds.length) none) with
  | bk e => rw [qm] at hq; exact hq.elim
  | ct e => rw [qm] at hq; exact hq.elim
  | bad => rw [qm] at hq; exact hq.elim
  | nx e =>
   rw [qm] at hq
   have hq : kSf W G fr Q E (match ioOf G.n e with | some d => .ok .non d | none => .bad) := hq
   cases qi : ioOf G.n e with
   | none => rw [qi] at hq; exact hq.elim
   | some io =>
    rw [qi] at hq
    intro σ' H' L' R f
    refine hq .non H' L' R.ext (fun a l h q => (R.loc a l h q).1) R.zero R.dom R.ent.ev (fin R qi hO) ?_
    rcases hend with hend | hend
    ·rw [hend]
     show Rp W _ H' .non .non
     unfold Rp
     rfl
    ·exact (hend _ _ qm).elim
  | rt d e =>
   rw [qm] at hq
   have hq : kSf W G fr Q E (match ioOf G.n e with | some d' => .ok d d' | none => .bad) := hq
   cases qi : ioOf G.n e with
   | none => rw [qi] at hq; exact hq.elim
   | some io =>
    rw [qi] at hq
    intro v σ' H' L' R o
    exact hq v H' L' R.ext (fun a l h q => (R.loc a l h q).1) R.zero R.dom R.ent.ev (fin R qi (by simp [kEV])) o
  | exc c a e =>
   rw [qm] at hq
   have hq : kSf W G fr Q E (match ioOf G.n e with | some d' => .exc c a d' | none => .bad) := hq
   cases qi : ioOf G.n e with
   | none => rw [qi] at hq; exact hq.elim
   | some io =>
    rw [qi] at hq
    intro cv dd σ' H' L' R x
    exact hq cv dd H' L' R.ext (fun a l h q => (R.loc a l h q).1) R.zero R.dom R.ent.ev (fin R qi (by simp [kEV])) x
section
variable {W : Wd} {G : Gh} {O : List Nat} {L L' : Lab} {env : EnvD} {σ : L2.St} {H H' : Hp}
def kQW (L : Lab) (L' : Lab) : Prop := (∀ a l, L a = some l → L' a = some l) ∧ ∀ a l, L' a = some l → L a = none → ∃ q, l = tmp :: q
end
def Nw (L L' : Lab) (H : Hp) : Prop := ∀ a, L' a ≠ none → L a ≠ none ∨ H a = none
theorem Nw.back {W : Wd} {Z : Addr → Prop} {L L' : Lab} {H H' : Hp} (h : Nw L L' H') (e : Ev W Z H H') : Nw L L' H := fun a z => (h a z).imp id fun w => e.dom a w
theorem kGg {L L' : Lab} {a : Addr} {i : Nat} {q : List Nat} (h : nl L L' a = some (i :: q)) : L a = none ∧ L' a = some (i :: q) := by
 unfold nl at h
 cases r : L a with
 | none => rw [r] at h; exact ⟨rfl, h⟩
 | some l => rw [r] at h; cases h
theorem OwN.ow {W : Wd} {L L' : Lab} {H : Hp} {n : Nat} {d : D} {v : V} (h : OwN W L L' H n d v) (u : ∀ a l, L a = some l → L' a = some l) : Ow W L' H n [tmp] d v :=
 Ow.map (fun d v => Rp.shun (fun a z _ => (kFu u).mpr z) d v) n [tmp] [tmp] d v (fun a r e1 e2 => ⟨(kGg e1).2, Stay.refl⟩) h
def kDB (W : Wd) (G : Gh) (O : List Nat) (L : Lab) (p : Bool) (n : Nat) (Wx : WX) (env : EnvD) (σ : L2.St) (H : Hp) (Q : VK) : Out D → Prop
 | .ok d env' => ∀ v H' L', kQW L L' → Nw L L' H → Rel W G O L' env' σ H' → Rel W G O L env' σ H' → Ev W (Zp p L) H H' → (p = true → env' = env) → OwN W L L' H' n d v → Rp W (Zo L) H' d v → Q v H'
 | .exc c a env' => ∀ cv dd H', Rel W G O L env' σ H' → ExR W L c a cv dd H' → Wx cv dd σ H'
 | .bad => False
structure DO (W : Wd) (X : Cx) (Wx : WX) (O : List Nat) (e : Expr) (m : M D) (n : Nat) (p : Bool) : Prop where
 k : X.K = W.K
 run : ∃ t, PE X e t ∧ ∀ (G : Gh) (L : Lab) (env : EnvD) (σ : L2.St) (H : Hp) (Q : VK), Rel W G O L env σ H → kDB W G O L p n Wx env σ H Q (m env) → t σ H Q
section
variable {W : Wd} {X : Cx} {Wx : WX} {O : List Nat} {e : Expr} {es : List Expr} {m : M D} {n : Nat} {p p1 p2 : Bool} {z z1 z2 : Nat} {G : Gh} {L : Lab} {env : EnvD} {σ : L2.St} {H : Hp}
theorem DO.de (h : DO W X Wx O e m n p) : DE W X Wx O e m 2 p := by
 obtain ⟨k, t, pe, s⟩ := h
 refine ⟨k, t, pe, fun G L env σ H Q R hq => s G L env σ H Q R ?_⟩
 cases q : m env with
 | ok d env' =>
  rw [q] at hq
  exact fun v H' L' u w R' R2 E P o r => hq v H' R2 E P r
 | exc c a env' => rw [q] at hq; exact hq
 | bad => rw [q] at hq; exact hq.elim
theorem DE.do0 (h : DE W X Wx O e m 2 p) : DO W X Wx O e m 0 p := by
 obtain ⟨k, t, pe, s⟩ := h
 refine ⟨k, t, pe, fun G L env σ H Q R hq => s G L env σ H Q R ?_⟩
 cases q : m env with
 | ok d env' =>
  rw [q] at hq
  exact fun v H' R' E P r => hq v H' L ⟨fun _ _ h => h, fun a l h w => by rw [h] at w; cases w⟩ (fun _ h => .inl h) R' R' E P (OwN.zero r fun _ _ z => z) r
 | exc c a env' => rw [q] at hq; exact hq
 | bad => rw [q] at hq; exact hq.elim
theorem kNW (R : Rel W G O L env σ H) {pa : Addr} (np : H pa = none) {ds : List D} {vs : List V} (r : RpL W (Zo L) H ds vs) (sz : vs.length ≤ sizeLine) :
  kQW L (lay L pa [tmp]) ∧ Nw L (lay L pa [tmp]) H ∧ Rel W G O (lay L pa [tmp]) env σ (upd H pa (.lst vs)) ∧ Rel W G O L env σ (upd H pa (.lst vs)) ∧ OwN W L (lay L pa [tmp]) (upd H pa (.lst vs)) 1 (.lst ds) (.ref pa) ∧ Rp W (Zo L) (upd H pa (.lst vs)) (.lst ds) (.ref pa) := by
 have nL := R.free np
 have R1 : Rel W G O (lay L pa [tmp]) env σ (upd H pa (.lst vs)) := R.lay (o := .lst vs) np (i := tmp) (q := [])
 have R2 : Rel W G O L env σ (upd H pa (.lst vs)) := R.new np
 have f : Fw W L H (lay L pa [tmp]) (upd H pa (.lst vs)) := ⟨Ev.new np, fun a h => by
  by_cases e : a = pa
  ·rw [e]; exact .inr np
  ·rw [lay_ne e] at h; exact .inl h⟩
 have r1 := RpL.fw f r
 refine ⟨⟨fun a l h => ?_, fun a l h g => ?_⟩, f.lab, R1, R2, ?_, ?_⟩
 ·rw [lay_ne (fun e => by rw [e, nL] at h; cases h)]; exact h
 ·by_cases e : a = pa
  ·rw [e, lay_same] at h
   exact ⟨[], (gF3 h).symm⟩
  ·rw [lay_ne e, g] at h
   cases h
 ·have u : ∀ a l, L a = some l → lay L pa [tmp] a = some l := fun a l h => by
   rw [lay_ne (fun e => by rw [e, nL] at h; cases h)]; exact h
  refine ⟨pa, vs, rfl, by rw [kGf nL]; exact lay_same, upd_same, ⟨r.length, sz⟩, fun j d v h1 h2 => ?_⟩
  obtain ⟨v', e1, e2⟩ := r1.getD h1
  rw [h2] at e1
  rw [gF3 e1]
  exact Rp.shun (fun a z _ => (kFu u).mp z) d v' e2
 ·unfold Rp
  exact ⟨pa, vs, rfl, fun z => z nL, ⟨upd_same, sz⟩, RpL.ev (Ev.new np) ds vs r⟩
theorem AllZ.two {ds : List D} {vs : List V} (h : AllZ W L H 2 ds vs) : RpL W (Zo L) H ds vs := RpL.of h.1 fun i d v h1 h2 => h.2 i d v h1 h2
def kCA (W : Wd) (G : Gh) (O : List Nat) (L : Lab) (p : Bool) (z : Nat) (Wx : WX) (env : EnvD) (σ : L2.St) (H : Hp) (Q : List V → Hp → Prop) : Out (List D) → Prop
 | .ok ds env' => ∀ vs H', Rel W G O L env' σ H' → Ev W (Zp p L) H H' → (p = true → env' = env) → AllZ W L H' z ds vs → Q vs H'
 | .exc c a env' => ∀ cv dd H', Rel W G O L env' σ H' → ExR W L c a cv dd H' → Wx cv dd σ H'
 | .bad => False
structure DAr (W : Wd) (X : Cx) (Wx : WX) (O : List Nat) (es : List Expr) (m : M (List D)) (z : Nat) (p : Bool) : Prop where
 k : X.K = W.K
 len : ∀ env ds e, m env = .ok ds e → ds.length = es.length
 run : ∃ t, PA X es t ∧ ∀ (G : Gh) (L : Lab) (env : EnvD) (σ : L2.St) (H : Hp) (Q : List V → Hp → Prop), Rel W G O L env σ H → kCA W G O L p z Wx env σ H Q (m env) → t σ H Q
def dNil : M (List D) := fun env => .ok [] env
def kAa (m : M D) (ms : M (List D)) : M (List D) := fun env => (m env).bind fun d e => (ms e).bind fun ds e2 => .ok (d :: ds) e2
theorem kAd (k : X.K = W.K := by rfl) : DAr W X Wx O [] dNil z true := ⟨k, fun env ds e h => by cases h; rfl, _, pa_nil, fun G L env σ H Q R h => h [] H R Ev.refl (fun _ => rfl) ⟨rfl, fun i d v h1 _ => by simp at h1⟩⟩
theorem kAb {ms : M (List D)} (ha : DE W X Wx O e m z1 p1) (hr : DAr W X Wx O es ms z p2) (l : z ≤ z1 := by decide) (k1 : z1 ≤ 2 := by decide) (cc : p2 = true ∨ z1 = 2 := by first | exact .inl rfl | exact .inr rfl)
  (hs : starEach (e :: es) X.env = (false, eval e X.env) :: starEach es X.env := by rfl) : DAr W X Wx O (e :: es) (kAa m ms) z (p1 && p2) := by
 obtain ⟨k, t, pe, s⟩ := ha
 obtain ⟨_, ln, u, pr, sr⟩ := hr
 refine ⟨k, fun env ds e h => ?_, _, pa_cons pe pr hs, fun G L env σ H Q R h => s G L env σ H _ R ?_⟩
 ·unfold kAa at h
  cases q1 : m env with
  | bad => rw [q1] at h; cases h
  | exc c a e => rw [q1] at h; cases h
  | ok d1 e1 =>
   rw [q1] at h
   have h : ((ms e1).bind fun ds e2 => Out.ok (d1 :: ds) e2) = .ok ds e := h
   cases q2 : ms e1 with
   | bad => rw [q2] at h; cases h
   | exc c a e => rw [q2] at h; cases h
   | ok ds' e2 =>
    rw [q2] at h
    cases h
    rw [gG0, gG0, ln _ _ _ q2]
 unfold kAa at h
 cases q1 : m env with
 | bad => rw [q1] at h; exact h.elim
 | exc c a e => rw [q1] at h; exact h
 | ok d1 e1 =>
  rw [q1] at h
  intro x H1 R1 E1 P1 Z1
  refine sr G L e1 σ H1 _ R1 ?_
  have h : kCA W G O L (p1 && p2) z Wx env σ H Q ((ms e1).bind fun ds e2 => .ok (d1 :: ds) e2) := h
  cases q2 : ms e1 with
  | bad => rw [q2] at h; exact h.elim
  | exc c a e => rw [q2] at h; exact h
  | ok ds e2 =>
   rw [q2] at h
   intro vs H2 R2 E2 P2 A
   have Z := (Z1.ev E2 cc).le (.inl l) k1
   refine h (x :: vs) H2 R2 ((E1.mono fun a z _ => kAO (fun w => (gG6.mp w).1) z).trans (E2.mono fun a z _ => kAO (fun w => (gG6.mp w).2) z)) (fun w => ?_) ⟨?_, fun i d v h1 h2 => ?_⟩
   ·rw [P2 (gG6.mp w).2, P1 (gG6.mp w).1]
   ·rw [gG0, gG0, A.1]
   ·cases i with
    | zero =>
     rw [gE0] at h1 h2
     rw [← gF3 h1, ← gF3 h2]
     exact Z
    | succ i => exact A.2 i d v (by simpa using h1) (by simpa using h2)
def CF (W : Wd) (z zo : Nat) (r : List V → Hp → VK → Prop) (F : List D → Option D) : Prop := ∀ (L : Lab) (H : Hp) (ds : List D) (vs : List V) (d : D) (Q : VK), AllZ W L H z ds vs → F ds = some d → (∀ a, L a ≠ none → H a ≠ none) →
 (∀ v H', Ev W No H H' → RpZ W L H' zo d v → Q v H') → r vs H Q
def dCB (F : List D → Option D) (ms : M (List D)) : M D := fun env => (ms env).bind fun ds e => lift (F ds) e
theorem kSo {r : List V → Hp → VK → Prop} {F : List D → Option D} {zo : Nat} {ms : M (List D)} {t : TA} {Q : VK} (f : CF W z zo r F)
  (s : ∀ (G : Gh) (L : Lab) (env : EnvD) (σ : L2.St) (H : Hp) (Q : List V → Hp → Prop), Rel W G O L env σ H → kCA W G O L p z Wx env σ H Q (ms env) → t σ H Q)
  (R : Rel W G O L env σ H) (h : kBp W G O L p zo Wx env σ H Q (dCB F ms env)) : tCB r t σ H Q := by
 refine s G L env σ H _ R ?_
 unfold dCB at h
 cases q1 : ms env with
 | bad => rw [q1] at h; exact h.elim
 | exc c a e => rw [q1] at h; exact h
 | ok ds e1 =>
  rw [q1] at h
  intro vs H1 R1 E1 P1 A
  have h : kBp W G O L p zo Wx env σ H Q (lift (F ds) e1) := h
  cases q2 : F ds with
  | none => rw [q2] at h; exact h.elim
  | some d =>
   rw [q2] at h
   exact f L H1 ds vs d Q A q2 R1.dom fun v H' E Z => h v H' (R1.pure E) (E1.trans (E.mono fun _ z _ => z.elim)) P1 Z
theorem kAE {id : String} {x : Str} {r : List V → Hp → VK → Prop} {F : List D → Option D} {zo : Nat} {ms : M (List D)} {p0 pos : Pos} (hc : CallR X (.builtin id) r) (f : CF W z zo r F) (hg : Gl X x) (hm : X.mg x = none) (hv : bootBuiltins x = some (.builtin id))
  (ha : DAr W X Wx O (e :: es) ms z p) (hn : x ≠ "__name__" := by decide) (hdb : (x == ("__debug__" : Str)) = false := by decide)
  (he : starEach (e :: es) X.env = (false, eval e X.env) :: starEach es X.env := by rfl) (hpl : (backTo pos (starEach es X.env)).any (·.1) = false := by rfl) :
  DE W X Wx O (.Call (.Name x p0) (e :: es) [] pos) (dCB F ms) zo p := by
 obtain ⟨k, _, t, pa, s⟩ := ha
 exact ⟨k, _, L2.pe_callB hc hg hm hv pa hn hdb he hpl, fun G L env σ H Q R h => kSo f s R h⟩
theorem kDb {T : String} {x : Str} {r : List V → Hp → VK → Prop} {F : List D → Option D} {zo : Nat} {ms : M (List D)} {p0 pos : Pos} (hc : CallR X (.type T) r) (f : CF W z zo r F) (hg : Gl X x) (hm : X.mg x = none) (hv : bootBuiltins x = some (.type T))
  (ha : DAr W X Wx O (e :: es) ms z p) (hn : x ≠ "__name__" := by decide) (hdb : (x == ("__debug__" : Str)) = false := by decide)
  (he : starEach (e :: es) X.env = (false, eval e X.env) :: starEach es X.env := by rfl) (hpl : (backTo pos (starEach es X.env)).any (·.1) = false := by rfl) :
  DE W X Wx O (.Call (.Name x p0) (e :: es) [] pos) (dCB F ms) zo p := by
 obtain ⟨k, _, t, pa, s⟩ := ha
 exact ⟨k, _, L2.pe_callTy hc hg hm hv pa hn hdb he hpl, fun G L env σ H Q R h => kSo f s R h⟩
def dTup (ms : M (List D)) : M D := fun env => (ms env).bind fun ds e => .ok (.tup ds) e
def dLst (ms : M (List D)) : M D := fun env => (ms env).bind fun ds e => .ok (.lst ds) e
theorem kEo {ms : M (List D)} {x1 : Nat} {pos : Pos} (h : DAr W X Wx O es ms 2 p) (hl : es.length ≤ 1000 := by decide) : DE W X Wx O (.Tuple es x1 pos) (dTup ms) 2 p := by
 obtain ⟨k, ln, t, pa, s⟩ := h
 refine ⟨k, _, pe_tup pa, fun G L env σ H Q R h => s G L env σ H _ R ?_⟩
 unfold dTup at h
 cases q1 : ms env with
 | bad => rw [q1] at h; exact h.elim
 | exc c a e => rw [q1] at h; exact h
 | ok ds e1 =>
  rw [q1] at h
  intro vs H1 R1 E1 P1 A
  have sz : vs.length ≤ sizeLine := Nat.le_of_lt (small1000 (by rw [← A.1, ln _ _ _ q1]; exact hl))
  refine ⟨sz, fun pa np => ?_⟩
  refine h _ _ (R1.new np) (E1.trans (Ev.new np)) P1 ?_
  show Rp W (Zo L) _ (.tup ds) _
  unfold Rp
  exact ⟨pa, vs, rfl, ⟨upd_same, sz⟩, RpL.ev (Ev.new np) ds vs A.two⟩
theorem kBt {ms : M (List D)} {pos : Pos} (h : DAr W X Wx O es ms 2 p) (hl : es.length ≤ 1000 := by decide) : DO W X Wx O (.List es pos) (dLst ms) 1 p := by
 obtain ⟨k, ln, t, pa, s⟩ := h
 refine ⟨k, _, pe_lst pa, fun G L env σ H Q R h => s G L env σ H _ R ?_⟩
 unfold dLst at h
 cases q1 : ms env with
 | bad => rw [q1] at h; exact h.elim
 | exc c a e => rw [q1] at h; exact h
 | ok ds e1 =>
  rw [q1] at h
  intro vs H1 R1 E1 P1 A
  have sz : vs.length ≤ sizeLine := Nat.le_of_lt (small1000 (by rw [← A.1, ln _ _ _ q1]; exact hl))
  refine ⟨sz, fun pa np => ?_⟩
  obtain ⟨u, w, r1, r2, o, r⟩ := kNW R1 np A.two sz
  exact h _ _ _ u (w.back E1) r1 r2 (E1.trans (Ev.new np)) P1 o r
def kJP (L : Lab) (i : Nat) : Lab := fun a => match L a with
 | some (j :: q) => if j = tmp then some (i :: q) else some (j :: q)
 | x => x
theorem kIM {L : Lab} {i : Nat} {a : Addr} : kJP L i a ≠ none ↔ L a ≠ none := by
 unfold kJP
 split
 ·rename_i j q e
  rw [e]
  constructor
  ·intro _ w; cases w
  ·intro _ w; split at w <;> cases w
 ·exact Iff.rfl
theorem kPp {L : Lab} {i : Nat} {a : Addr} {q : List Nat} (h : L a = some (tmp :: q)) : kJP L i a = some (i :: q) := by
 unfold kJP
 rw [h]
 simp
theorem kNK {L : Lab} {i : Nat} {a : Addr} {l : List Nat} (h : L a = some l) (ne : ∀ q, l ≠ tmp :: q) : kJP L i a = some l := by
 unfold kJP
 split
 ·rename_i j q e
  rw [h] at e
  cases e
  rw [if_neg]
  intro w
  exact ne q (by rw [w])
 ·exact h
theorem kJa {L : Lab} {i : Nat} {a : Addr} {l : List Nat} (h : kJP L i a = some l) : L a = some l ∨ ∃ q, L a = some (tmp :: q) ∧ l = i :: q := by
 unfold kJP at h
 split at h
 ·rename_i j q e
  split at h
  ·rename_i c
   right
   exact ⟨q, by rw [e, c], (gF3 h).symm⟩
  ·left
   rw [e]; exact h
 ·exact .inl h
theorem Rel.own (R : Rel W G O L env σ H) {i : Nat} {d : D} {v : V} (h : Ow W L H n [tmp] d v) (hi : i ≠ 0 ∨ G.n = 0) (hl : O.length ≤ tmp) (il : i < O.length) : Rel W G (O.set i n) (kJP L i) (env.set i (some d)) (σ.set i (some v)) H := by
 have sh : ∀ d v, Rp W (Zo L) H d v → Rp W (Zo (kJP L i)) H d v := fun d v => Rp.shun (fun a z _ => kIM.mp z) d v
 refine ⟨by rw [gH6, gH6, R.len], fun j d' e => ?_, fun a z => R.dom a (kIM.mp z), R.ent, fun a l e => kNK (R.ext a l e) fun q w => ?_, fun a l e g => ?_, fun hn => ?_, fun hn a q e => ?_⟩
 ·by_cases q : i = j
  ·subst q
   have hlt : i < env.length := by
    have := (gF8.mp e).1
    simpa using this
   rw [gI3 hlt] at e
   have e' : d = d' := gF3 (gF3 e)
   subst e'
   refine ⟨v, gI3 (by rw [← R.len]; exact hlt), ?_⟩
   rw [kDr, if_pos ⟨rfl, il⟩]
   refine Ow.map sh n [tmp] [i] d v (fun a r e1 e2 => ⟨kPp e1, Stay.refl⟩) h
  ·rw [gH4 q] at e
   obtain ⟨v', h1, h2⟩ := R.slot j d' e
   refine ⟨v', by rw [gH4 q]; exact h1, ?_⟩
   rw [kDr, if_neg (fun z => q z.1)]
   by_cases hj : j < O.length
   ·refine Ow.map sh _ [j] [j] d' v' (fun a r e1 e2 => ⟨kNK e1 fun q' w => ?_, Stay.refl⟩) h2
    have w' : j :: r = tmp :: q' := w
    injection w' with w1 _
    omega
   ·have o : O.getD j 0 = 0 := by
     rw [gH7, gI1.mpr (by omega)]
     rfl
    rw [o] at h2 ⊢
    exact sh d' v' h2
 ·rw [w] at e
  rcases G.hd a _ e with r | ⟨r, r2⟩
  ·cases r
  ·injection r2 with r3 _
   exact absurd r3 (by decide)
 ·rcases kJa e with e | ⟨q, e, w⟩
  ·exact R.loc a l e g
  ·exact ⟨(R.loc a _ e g).1, i, q, w⟩
 ·have h0 : i ≠ 0 := hi.resolve_right hn
  obtain ⟨a, b⟩ := R.first hn
  refine ⟨by rw [gH4 h0]; exact a, ?_⟩
  rw [kDr, if_neg (fun z => h0 z.1)]
  exact b
 ·rcases kJa e with e | ⟨q', e, w⟩
  ·exact R.zero hn a q e
  ·injection w with w _
   exact (hi.resolve_right hn.1 w.symm).elim
theorem kQn {F : Fc} {i : Nat} {x : Str} {pos pos' : Pos} (he : DO W X Wx O e m n p) (ps : ∀ te, PE X e te → PS X (.Assign [.Name x pos'] e pos) (tAsg te (gName i))) (hi : i ≠ 0 ∨ O.getD 0 0 = 0 := by decide) (hl : O.length ≤ tmp := by decide) (il : i < O.length := by decide) (cx : kDe O F.ox = true := by decide) :
  DS W X Wx F O (.Assign [.Name x pos'] e pos) (dSet i m) (O.set i n) := by
 obtain ⟨k, te, pe, se⟩ := he
 refine ⟨k, _, ps te pe, fun G L env σ H Dn g R h => se G L env σ H _ R ?_⟩
 unfold dSet at h
 cases q : m env with
 | bad => rw [q] at h; exact h.elim
 | exc c a e =>
  rw [q] at h
  exact kCK (z := 0) (p := true) (env := env) (fun hn => (g hn).2.1) cx h
 | ok d e1 =>
  rw [q] at h
  intro v H' L' u w R1 R2 E P o r
  exact h _ H' _ (R1.own (o.ow u.1) (hi.imp id fun z => Decidable.by_contra fun hn => hn ((R.first hn).2.symm.trans z)) hl il) fun _ => ⟨E.mono fun _ z _ => z.sub, fun a z => w a (kIM.mp z)⟩
theorem kLd {F : Fc} {pos : Pos} {O' : List Nat} (he : DO W X Wx O e m n p) (f0 : F.fr = n := by rfl) (hl : O.length ≤ tmp := by decide) (cx : kDe O F.ox = true := by decide) (cr : kDe O F.ort = true := by decide) : DS W X Wx F O (.Return (some e) pos) (dRet m) O' := by
 obtain ⟨k, te, pe, se⟩ := he
 refine ⟨k, _, ps_ret pe, fun G L env σ H Dn g R h => se G L env σ H _ R ?_⟩
 unfold dRet at h
 cases q : m env with
 | bad => rw [q] at h; exact h.elim
 | exc c a e =>
  rw [q] at h
  exact kCK (z := 0) (p := true) (env := env) (fun hn => (g hn).2.1) cx h
 | ok d e1 =>
  rw [q] at h
  intro v H' L' u w R1 R2 E P o r
  refine h v σ H' _ (R1.thin cr fun hn => ((g hn).1).trans (R.first hn).2.symm) ?_
  rw [f0]
  refine Ow.map (fun d v => Rp.shun (fun a z _ => kCN z) d v) _ [tmp] [tmp] d v (fun a r e1 e2 => ⟨kGC e1 fun j q w => ?_, Stay.refl⟩) (o.ow u.1)
  have w' : tmp :: r = j :: q := w
  injection w' with w1 _
  have gd : ∀ (l : List Nat), l.length ≤ tmp → l.getD j 0 = 0 := fun l hl => by
   rw [gH7, gI1.mpr (by omega)]
   rfl
  rcases kKo cr j with c | c
  ·exact c
  ·rw [c, gd O hl]
end
def subL (L : Lab) (i : Nat) : Lab := fun a => match L a with
 | some (j :: q) => if j = i then some (0 :: q) else some []
 | some [] => some []
 | none => none
theorem kCl {L : Lab} {i : Nat} {a : Addr} : subL L i a = none ↔ L a = none := by
 unfold subL
 cases L a with
 | none => simp
 | some l =>
  cases l with
  | nil => simp
  | cons j q => by_cases c : j = i <;> simp [c]
theorem kPc {L : Lab} {i : Nat} {a : Addr} {l : List Nat} (h : subL L i a = some l) : l = [] ∨ ∃ q, l = 0 :: q := by
 unfold subL at h
 split at h
 ·split at h
  ·exact .inr ⟨_, (gF3 h).symm⟩
  ·exact .inl (gF3 h).symm
 ·exact .inl (gF3 h).symm
 ·cases h
theorem kKq {L : Lab} {i : Nat} {a : Addr} {q : List Nat} : subL L i a = some (0 :: q) ↔ L a = some (i :: q) := by
 unfold subL
 cases L a with
 | none => simp
 | some l =>
  cases l with
  | nil => simp
  | cons j r => by_cases c : j = i <;> simp [c]
def own0 (L : Lab) : Lab := fun a => (L a).map fun _ => []
theorem kDx {L : Lab} {a : Addr} : own0 L a = none ↔ L a = none := by
 unfold own0
 cases L a <;> simp
theorem kKP {L : Lab} {a : Addr} {l : List Nat} (h : own0 L a = some l) : l = [] := by
 unfold own0 at h
 cases w : L a with
 | none => rw [w] at h; cases h
 | some l' => rw [w] at h; exact (gF3 h).symm
def kGM (L L' : Lab) : Lab := fun a => match L a with
 | some l => some l
 | none => match L' a with
  | some (j :: q) => if j = tmp then some (tmp :: q) else none
  | _ => none
theorem kFe {L L' : Lab} {a : Addr} {l : List Nat} (h : L a = some l) : kGM L L' a = some l := by
 unfold kGM
 rw [h]
theorem kMx {L L' : Lab} {a : Addr} {q : List Nat} (h : L a = none) (h' : L' a = some (tmp :: q)) : kGM L L' a = some (tmp :: q) := by
 unfold kGM
 rw [h]
 show (match L' a with | some (j :: q) => if j = tmp then some (tmp :: q) else none | _ => none) = some (tmp :: q)
 rw [h']
 simp
theorem kCP {L L' : Lab} {a : Addr} {l : List Nat} (h : kGM L L' a = some l) : L a = some l ∨ (L a = none ∧ ∃ q, l = tmp :: q ∧ L' a = some (tmp :: q)) := by
 unfold kGM at h
 split at h
 ·rename_i e
  left
  rw [e]; exact h
 ·rename_i e
  right
  refine ⟨e, ?_⟩
  split at h
  ·rename_i j q e'
   split at h
   ·rename_i c
    exact ⟨q, (gF3 h).symm, by rw [e', c]⟩
   ·cases h
  ·cases h
section
variable {W : Wd} {G : Gh} {O : List Nat} {L L' : Lab} {env env' : EnvD} {σ : L2.St} {H H' : Hp} {i n0 : Nat}
theorem kOu {S : Lab} (hS : ∀ a, S a = none ↔ L a = none) {a : Addr} (ext : ∀ a l, S a = some l → L' a = some l) (z : Zo (kGM L L') a) : Zo L' a := by
 cases w : kGM L L' a with
 | none => exact (z w).elim
 | some l =>
  rcases kCP w with w | ⟨w, q, _, w2⟩
  ·intro w2
   cases w3 : S a with
   | none => rw [(hS a).mp w3] at w; cases w
   | some l' => rw [ext a l' w3] at w2; cases w2
  ·intro w3; rw [w2] at w3; cases w3
theorem kJV {S : Lab} (hS : ∀ a, S a = none ↔ L a = none) {a : Addr} (ext : ∀ a l, S a = some l → L' a = some l) (z : Zo L a) : Zo L' a := by
 intro w2
 cases w3 : S a with
 | none => exact z ((hS a).mp w3)
 | some l' => rw [ext a l' w3] at w2; cases w2
theorem Rel.grow (R : Rel W G O L env σ H) (e : Ev W No H H') {L2 : Lab} (sub : ∀ a l, L a = some l → L2 a = some l) (nw : ∀ a l, L2 a = some l → L a = none → H a = none ∧ H' a ≠ none ∧ ∃ q, l = tmp :: q) : Rel W G O L2 env σ H' := by
 have zs : ∀ a, Zo L2 a → H a ≠ none → Zo L a := fun a z hn w => by
  cases r : L2 a with
  | none => exact z r
  | some l => exact hn (nw a l r w).1
 refine ⟨R.len, fun j d h => ?_, fun a z => ?_, R.ent.trans (e.mono fun _ z _ => z.elim), fun a l h => sub a l (R.ext a l h), fun a l h g => ?_, R.first, fun hn a q h => ?_⟩
 ·obtain ⟨v, h1, h2⟩ := R.slot j d h
  exact ⟨v, h1, Ow.map (fun d v h => Rp.ev (e.mono fun _ z _ => z.elim) d v (Rp.shun zs d v h)) _ _ _ d v (fun a r e1 _ => ⟨sub a _ e1, e.ob fun z => z⟩) h2⟩
 ·cases r : L2 a with
  | none => exact (z r).elim
  | some l =>
   by_cases w : L a = none
   ·exact (nw a l r w).2.1
   ·exact fun y => R.dom a w (e.dom a y)
 ·cases w : L a with
  | none =>
   obtain ⟨h1, _, q, h3⟩ := nw a l h w
   exact ⟨R.ent.ev.dom a h1, tmp, q, h3⟩
  | some l' =>
   have := sub a l' w
   rw [h] at this
   rw [gF3 this]
   exact R.loc a l' w g
 ·cases w : L a with
  | none =>
   obtain ⟨_, _, r, h3⟩ := nw a _ h w
   injection h3 with h3 _
   exact absurd h3 (by decide)
  | some l' =>
   have := sub a l' w
   rw [h] at this
   rw [← gF3 this] at w
   exact R.zero hn a q w
def gh0 (H : Hp) (L : Lab) : Gh := { H := H, L := own0 L, n := 0, v := .non, no := fun _ a q h => (nomatch kKP h), hd := fun a l h => .inl (kKP h) }
def gh1 (H : Hp) (L : Lab) (i n : Nat) (v : V) (h : n ≠ 0) : Gh := { H := H, L := subL L i, n := n, v := v, no := fun z => (h z).elim, hd := fun a l h => kPc h }
theorem kSD {H : Hp} {L : Lab} {a : Addr} : ¬ (gh0 H L).io a := fun ⟨q, h⟩ => nomatch kKP h
theorem kSC {H : Hp} {L : Lab} {i n : Nat} {v : V} {h : n ≠ 0} {a : Addr} : (gh1 H L i n v h).io a ↔ ∃ q, L a = some (i :: q) :=
 ⟨fun ⟨q, z⟩ => ⟨q, kKq.mp z⟩, fun ⟨q, z⟩ => ⟨q, kKq.mpr z⟩⟩
theorem ExR.back {L L' : Lab} {c : Str} {a : Option D} {cv : Value} {dd : Option Addr} (z : ∀ a, Zo L a → Zo L' a) (h : ExR W L' c a cv dd H) : ExR W L c a cv dd H :=
 ⟨h.1, fun d e => by
  obtain ⟨x, v, h1, h2, h3⟩ := h.2.1 d e
  exact ⟨x, v, h1, h2, Rp.shun (fun a y _ => z a y) d v h3⟩, h.2.2⟩
end
def ofF (e : EnvD) : FOut → Out D
 | .ok d _ => .ok d e
 | .exc c a _ => .exc c a e
 | .bad => .bad
def kAh (M : FM) (dd : List D) (ms : DL.M (List D)) : DL.M D := fun env => (ms env).bind fun ds e => ofF e (M (ds ++ dd))
section
variable {W : Wd} {X : Cx} {Wx : WX} {O : List Nat} {e : Expr} {es : List Expr} {ms : M (List D)} {p : Bool} {x : Str} {p0 pos : Pos} {k fr ar n0 : Nat} {f : Addr} {fd : FuncData} {ps : List Str} {FF : FM} {dvs : List V} {vds : List Value} {dd : List D}
theorem kKw {t : TA} (hfr : True) (dflt : ∀ (Z : Addr → Prop) (H : Hp), RpL W Z H dd dvs) (hn : (ps.length = ar))
  (s : ∀ (G : Gh) (L : Lab) (env : EnvD) (σ : L2.St) (H : Hp) (Q : List V → Hp → Prop), Rel W G O L env σ H → kCA W G O L p 2 Wx env σ H Q (ms env) → t σ H Q) (ln : ∀ env ds e, ms env = .ok ds e → (ds ++ dd).length = ar)
  {G : Gh} {L : Lab} {env : EnvD} {σ : L2.St} {H : Hp} {Q : VK} (R : Rel W G O L env σ H) (h : kDB W G O L p fr Wx env σ H Q (kAh FF dd ms env)) : kNx (spD W 0 fr ar FF) dvs Wx t σ H Q := by
 refine s G L env σ H _ R ?_
 unfold kAh at h
 cases q1 : ms env with
 | bad => rw [q1] at h; exact h.elim
 | exc c a e => rw [q1] at h; exact h
 | ok ds e1 =>
  rw [q1] at h
  intro vs H1 R1 E1 P1 A
  have rA : RpL W (Zo L) H1 (ds ++ dd) (vs ++ dvs) := A.two.append (dflt _ _)
  have h : kDB W G O L p fr Wx env σ H Q (ofF e1 (FF (ds ++ dd))) := h
  refine ⟨by rw [← rA.length]; exact ln _ _ _ q1, R1.ent.tabs, gh0 H1 L, ds ++ dd, rfl, rfl, ⟨rA.length, fun i d v h1 h2 => ?_, fun a z => R1.dom a fun w => z (kDx.mpr w), fun hn => (hn rfl).elim⟩, ?_⟩
  ·obtain ⟨v', w1, w2⟩ := rA.getD h1
   rw [h2] at w1
   rw [gF3 w1]
   have : (if i = 0 then (gh0 H1 L).n else 0) = 0 := by
    split <;> rfl
   rw [this]
   exact Rp.shun (fun a z _ w => z (kDx.mpr w)) d v' w2
  ·cases q2 : FF (ds ++ dd) with
   | bad => rw [q2] at h; exact h.elim
   | exc c a io =>
    rw [q2] at h
    intro cv dx H' L' ext new _ dom ev _ x
    have ev' : Ev W No H1 H' := ev.mono fun a z _ => kSD z
    exact h cv dx H' (R1.pure ev') (ExR.back (fun a z => kJV (fun _ => kDx) ext z) x)
   | ok d io =>
    rw [q2] at h
    intro v H' L' ext new _ dom ev _ o
    have ev' : Ev W No H1 H' := ev.mono fun a z _ => kSD z
    have hz : ∀ a, Zo (kGM L L') a → Zo L' a := fun a z => kOu (fun _ => kDx) ext z
    have R2 : Rel W G O (kGM L L') e1 σ H' := R1.grow ev' (fun a l z => kFe z) fun a l z w => by
     rcases kCP z with z | ⟨_, q, z1, z2⟩
     ·rw [w] at z; cases z
     ·exact ⟨new a _ z2 (kDx.mpr w), dom a (by rw [z2]; exact fun w => nomatch w), q, z1⟩
    have nonew : ∀ a q, L' a = some (tmp :: q) → L a = none := fun a q z => by
     cases w : L a with
     | none => rfl
     | some l =>
      cases w2 : own0 L a with
      | none => rw [kDx.mp w2] at w; cases w
      | some l' =>
       have := ext a l' w2
       rw [z, kKP w2] at this
       cases this
    refine h v H' (kGM L L') ⟨fun a l z => kFe z, fun a l z w => ?_⟩ (fun a z => ?_) R2 (R1.pure ev') (E1.trans (ev'.mono fun _ z _ => z.elim)) P1
     (Ow.map (fun d v => Rp.shun (fun a z _ => hz a ((kFu fun _ _ z => kFe z).mp z)) d v) _ [tmp] [tmp] d v (fun a q z1 z2 => ⟨by rw [kGf (nonew a q z1)]; exact kMx (nonew a q z1) z1, Stay.refl⟩) o) ?_
    ·rcases kCP z with z | ⟨_, q, z1, z2⟩
     ·rw [w] at z; cases z
     ·exact ⟨q, z1⟩
    ·by_cases w : L a = none
     ·right
      cases y : kGM L L' a with
      | none => exact (z y).elim
      | some l =>
       rcases kCP y with y | ⟨_, q, z1, z2⟩
       ·rw [w] at y; cases y
       ·exact E1.dom a (new a _ z2 (kDx.mpr w))
     ·exact .inl w
    ·refine Ow.thaw (L := L') (L' := L) (fun a z => kJV (fun _ => kDx) ext z) _ [tmp] d v (fun a q z => nonew a q z) o
theorem kTP (F : FnG X.prog X.w X.K X.mg X.base k f fd ps (spD W 0 fr ar FF)) (hr : Room k X.A) (hg : X.A.guards = some []) (gl : Gl X x) (hm : X.mg x = some (.ref f)) (hk : PySem.W.keepIn X.K (.ref f) = true) (hb : Binds X.K fd ps vds) (hd : Vals dvs vds) (tk : Takes X Wx)
  (dflt : ∀ (Z : Addr → Prop) (H : Hp), RpL W Z H dd dvs) (ha : DAr W X Wx O (e :: es) ms 2 p) (hn : ps.length = ar) (ha2 : (e :: es).length + dd.length = ar)
  (hdb : (x == ("__debug__" : Str)) = false := by decide) (he : starEach (e :: es) X.env = (false, eval e X.env) :: starEach es X.env := by rfl) (hpl : (backTo pos (starEach es X.env)).any (·.1) = false := by rfl) :
  DO W X Wx O (.Call (.Name x p0) (e :: es) [] pos) (kAh FF dd ms) fr p := by
 obtain ⟨k', ln, t, pa, s⟩ := ha
 exact ⟨k', _, kNR F hr hg gl hm hk hb hd tk pa hdb he hpl, fun G L env σ H Q R h => kKw trivial dflt hn s (fun env ds e z => by rw [gG2, ln _ _ _ z]; exact ha2) R h⟩
def ghN (H : Hp) : Gh := { H := H, L := fun _ => none, n := 0, v := .non, no := fun _ a q h => (nomatch h), hd := fun a l h => (nomatch h) }
theorem kPq {G : Gh} {L L' L2 : Lab} {env : EnvD} {σ : _root_.L2.St} {H H' : Hp} {i : Nat} {v : V} {io : D} (R : Rel W G O L env σ H) (h0 : n0 ≠ 0) (hv : σ[i]? = some (some v)) (ho : O.getD i 0 = n0)
  (ext : ∀ a l, subL L i a = some l → L' a = some l) (zero : ∀ a q, L' a = some (0 :: q) → subL L i a = some (0 :: q)) (ev : Ev W (fun a => ∃ q, L a = some (i :: q)) H H') (own : Ow W L' H' n0 [0] io v)
  (sub : ∀ a l, L a = some l → L2 a = some l) (nw : ∀ a l, L2 a = some l → L a = none → H a = none ∧ H' a ≠ none ∧ ∃ q, l = tmp :: q) (z2 : ∀ a, Zo L2 a → Zo L' a) : Rel W G O L2 (env.set i (some io)) σ H' := by
 have zs : ∀ a, Zo L2 a → H a ≠ none → Zo L a := fun a z hn w => by
  cases r : L2 a with
  | none => exact z r
  | some l => exact hn (nw a l r w).1
 have ev2 : Ev W (Zo L2) H H' := ev.mono fun a ⟨q, z⟩ _ w => by
  rw [sub a _ z] at w; cases w
 refine ⟨by rw [gH6, R.len], fun j d h => ?_, fun a z => ?_, R.entry ev fun a ⟨q, z⟩ => ⟨i, q, z⟩, fun a l h => sub a l (R.ext a l h), fun a l h g => ?_, R.first, fun hn a q h => ?_⟩
 ·by_cases q : i = j
  ·subst q
   have hl : i < env.length := by
    have := (gF8.mp h).1
    simpa using this
   rw [gI3 hl] at h
   have e' : io = d := gF3 (gF3 h)
   subst e'
   refine ⟨v, hv, ?_⟩
   rw [ho]
   exact Ow.map (fun d v => Rp.shun (fun a z _ => z2 a z) d v) _ [0] [i] io v (fun a q e1 e2 => ⟨sub a _ (kKq.mp (zero a q e1)), Stay.refl⟩) own
  ·rw [gH4 q] at h
   obtain ⟨v', h1, h2⟩ := R.slot j d h
   refine ⟨v', h1, Ow.map (fun d v h => Rp.ev ev2 d v (Rp.shun zs d v h)) _ _ _ d v' (fun a r e1 _ => ⟨sub a _ e1, ev.ob fun ⟨q', z⟩ => ?_⟩) h2⟩
   have e1' : L a = some (j :: r) := e1
   rw [e1'] at z
   injection z with z
   injection z with z _
   exact q z.symm
 ·cases r : L2 a with
  | none => exact (z r).elim
  | some l =>
   by_cases w : L a = none
   ·exact (nw a l r w).2.1
   ·exact fun y => R.dom a w (ev.dom a y)
 ·cases w : L a with
  | none =>
   obtain ⟨h1, _, q, h3⟩ := nw a l h w
   exact ⟨R.ent.ev.dom a h1, tmp, q, h3⟩
  | some l' =>
   have := sub a l' w
   rw [h] at this
   rw [gF3 this]
   exact R.loc a l' w g
 ·cases w : L a with
  | none =>
   obtain ⟨_, _, r, h3⟩ := nw a _ h w
   injection h3 with h3 _
   exact absurd h3 (by decide)
  | some l' =>
   have := sub a l' w
   rw [h] at this
   rw [← gF3 this] at w
   exact R.zero hn a q w
def ofFI (e : EnvD) (i : Nat) : FOut → Out D
 | .ok d io => .ok d (e.set i (some io))
 | .exc c a io => .exc c a (e.set i (some io))
 | .bad => .bad
def kAn (M : FM) (i : Nat) (dd : List D) (ms : DL.M (List D)) : DL.M D := fun env => match env[i]? with
 | some (some _) => (ms env).bind fun ds e => (match e[i]? with
  | some (some d0) => ofFI e i (M (d0 :: (ds ++ dd)))
  | _ => .bad)
 | _ => .bad
theorem kRQ {i : Nat} {y : Str} {py : Pos} (F : FnG X.prog X.w X.K X.mg X.base k f fd ps (spD W n0 fr ar FF)) (hr : Room k X.A) (hg : X.A.guards = some []) (gl : Gl X x) (hm : X.mg x = some (.ref f)) (hk : PySem.W.keepIn X.K (.ref f) = true) (hb : Binds X.K fd ps vds) (hd : Vals dvs vds) (tk : Takes X Wx)
  (dflt : ∀ (Z : Addr → Prop) (H : Hp), RpL W Z H dd dvs) (pv : PE X (.Name y py) (tVar i)) (ha : DAr W X Wx O es ms 2 p) (ho : O.getD i 0 = n0) (h0 : n0 ≠ 0) (h02 : n0 ≤ 2) (ha2 : es.length + dd.length + 1 = ar) (hl : i < tmp := by decide)
  (hs : starEach (.Name y py :: es) X.env = (false, eval (.Name y py) X.env) :: starEach es X.env := by rfl)
  (hdb : (x == ("__debug__" : Str)) = false := by decide) (hpl : (backTo pos (starEach es X.env)).any (·.1) = false := by rfl) :
  DO W X Wx O (.Call (.Name x p0) (.Name y py :: es) [] pos) (kAn FF i dd ms) fr false := by
 obtain ⟨k', ln, t, pa, s⟩ := ha
 refine ⟨k', _, kNR F hr hg gl hm hk hb hd tk (pa_cons pv pa hs) hdb hs hpl, fun G L env σ H Q R h => ?_⟩
 unfold kAn at h
 split at h
 ·rename_i dz ez
  obtain ⟨v, hv, _⟩ := R.slot i dz ez
  refine ⟨v, hv, s G L env σ H _ R ?_⟩
  cases q1 : ms env with
  | bad => rw [q1] at h; exact h.elim
  | exc c a e => rw [q1] at h; exact h
  | ok ds e1 =>
   rw [q1] at h
   intro vs H1 R1 E1 P1 A
   have rA : RpL W (Zo L) H1 (ds ++ dd) (vs ++ dvs) := A.two.append (dflt _ _)
   have h : kDB W G O L false fr Wx env σ H Q (match e1[i]? with | some (some d0) => ofFI e1 i (FF (d0 :: (ds ++ dd))) | _ => .bad) := h
   split at h
   ·rename_i d0 e0
    obtain ⟨v2, hv2, hO⟩ := R1.slot i d0 e0
    rw [hv] at hv2
    have ev2 : v = v2 := gF3 (gF3 hv2)
    subst ev2
    rw [ho] at hO
    refine ⟨?_, R1.ent.tabs, gh1 H1 L i n0 v h0, d0 :: (ds ++ dd), rfl, rfl, ⟨?_, fun j d u h1 h2 => ?_, fun a z => R1.dom a fun w => z (kCl.mpr w), fun _ => rfl⟩, ?_⟩
    ·show (v :: vs ++ dvs).length = ar
     rw [List.cons_append, gG0, ← rA.length, gG2, ln _ _ _ q1]
     exact ha2
    ·show (d0 :: (ds ++ dd)).length = (v :: (vs ++ dvs)).length
     rw [gG0, gG0, rA.length]
    ·cases j with
     | zero =>
      have h1 : some d0 = some d := h1
      have h2 : some v = some u := h2
      rw [← gF3 h1, ← gF3 h2, if_pos rfl]
      exact Ow.map (fun d v => Rp.shun (fun a z _ w => z (kCl.mpr w)) d v) _ [i] [0] d0 v (fun a q e1 e2 => ⟨kKq.mpr e1, Stay.refl⟩) hO
     | succ j =>
      have h1 : (ds ++ dd)[j]? = some d := h1
      have h2 : (vs ++ dvs)[j]? = some u := h2
      obtain ⟨v', w1, w2⟩ := rA.getD h1
      rw [h2] at w1
      rw [gF3 w1, if_neg (Nat.succ_ne_zero j)]
      exact Rp.shun (fun a z _ w => z (kCl.mpr w)) d v' w2
    ·cases q2 : FF (d0 :: (ds ++ dd)) with
     | bad => rw [q2] at h; exact h.elim
     | exc c a io =>
      rw [q2] at h
      intro cv dx H' L' ext new zero dom ev own x
      have ev' : Ev W (fun a => ∃ q, L a = some (i :: q)) H1 H' := ev.mono fun a z _ => kSC.mp z
      exact h cv dx H' (kPq R1 h0 hv ho ext (zero ⟨h0, h02⟩) ev' (own h0) (fun a l z => z) (fun a l z w => by rw [w] at z; cases z) fun a z => kJV (fun _ => kCl) ext z) (ExR.back (fun a z => kJV (fun _ => kCl) ext z) x)
     | ok d io =>
      rw [q2] at h
      intro u H' L' ext new zero dom ev own o
      have ev' : Ev W (fun a => ∃ q, L a = some (i :: q)) H1 H' := ev.mono fun a z _ => kSC.mp z
      have hz : ∀ a, Zo (kGM L L') a → Zo L' a := fun a z => kOu (fun _ => kCl) ext z
      have nonew : ∀ a q, L' a = some (tmp :: q) → L a = none := fun a q z => by
       cases w : L a with
       | none => rfl
       | some l =>
        cases w2 : subL L i a with
        | none => rw [kCl.mp w2] at w; cases w
        | some l' =>
         have := ext a l' w2
         rw [z] at this
         have := gF3 this
         rcases kPc w2 with w3 | ⟨q', w3⟩
         ·rw [w3] at this; cases this
         ·rw [w3] at this
          injection this with this _
          exact absurd this (by decide)
      have R2 : Rel W G O (kGM L L') (e1.set i (some io)) σ H' := kPq R1 h0 hv ho ext (zero ⟨h0, h02⟩) ev' (own h0) (fun a l z => kFe z) (fun a l z w => by
       rcases kCP z with z | ⟨_, q, z1, z2⟩
       ·rw [w] at z; cases z
       ·exact ⟨new a _ z2 (kCl.mpr w), dom a (by rw [z2]; exact fun w => nomatch w), q, z1⟩) hz
      have R3 : Rel W G O L (e1.set i (some io)) σ H' := kPq R1 h0 hv ho ext (zero ⟨h0, h02⟩) ev' (own h0) (fun a l z => z) (fun a l z w => by rw [w] at z; cases z) fun a z => kJV (fun _ => kCl) ext z
      refine h u H' (kGM L L') ⟨fun a l z => kFe z, fun a l z w => ?_⟩ (fun a z => ?_) R2 R3 ((E1.mono fun a z _ => kAO (p := p) (p' := false) (fun w => nomatch w) z).trans (ev'.mono fun a ⟨q, z⟩ _ => ⟨i, q, z, hl⟩)) (fun z => nomatch z)
       (Ow.map (fun d v => Rp.shun (fun a z _ => hz a ((kFu fun _ _ z => kFe z).mp z)) d v) _ [tmp] [tmp] d u (fun a q z1 z2 => ⟨by rw [kGf (nonew a q z1)]; exact kMx (nonew a q z1) z1, Stay.refl⟩) o) ?_
      ·rcases kCP z with z | ⟨_, q, z1, z2⟩
       ·rw [w] at z; cases z
       ·exact ⟨q, z1⟩
      ·by_cases w : L a = none
       ·right
        cases y : kGM L L' a with
        | none => exact (z y).elim
        | some l =>
         rcases kCP y with y | ⟨_, q, z1, z2⟩
         ·rw [w] at y; cases y
         ·exact E1.dom a (new a _ z2 (kCl.mpr w))
       ·exact .inl w
      ·exact Ow.thaw (L := L') (L' := L) (fun a z => kJV (fun _ => kCl) ext z) _ [tmp] d u (fun a q z => nonew a q z) o
   ·exact h.elim
 ·exact h.elim
end
def kEr (W : Wd) (J : It) (L : Lab) (H0 : Hp) (ds : List D) : Prop := ds.length ≤ sizeLine ∧ ∀ (Z : Addr → Prop), (∀ a, Z a → H0 a ≠ none → Zo L a) → ∀ (i : Nat) (H : Hp), Ev W Z H0 H →
 (i < ds.length → J.go i H ∧ ∀ x H', J.yld i H x H' → Ev W No H H' ∧ ∃ d, ds[i]? = some d ∧ Rp W Z H' d x) ∧ (ds.length ≤ i → J.stop i H)
def kNq (W : Wd) (G : Gh) (O : List Nat) (L : Lab) (p : Bool) (Wx : WX) (env : EnvD) (σ : L2.St) (H : Hp) (R : It → Hp → Prop) : Out (List D) → Prop
 | .ok ds env' => ∀ J H', Rel W G O L env' σ H' → Ev W (Zp p L) H H' → (p = true → env' = env) → kEr W J L H' ds → R J H'
 | .exc c a env' => ∀ cv dd H', Rel W G O L env' σ H' → ExR W L c a cv dd H' → Wx cv dd σ H'
 | .bad => False
structure DI (W : Wd) (X : Cx) (Wx : WX) (O : List Nat) (tg iter : Expr) (m : M (List D)) (p : Bool) : Prop where
 k : X.K = W.K
 run : ∃ wi, PI X tg iter wi ∧ ∀ (G : Gh) (L : Lab) (env : EnvD) (σ : L2.St) (H : Hp) (R : It → Hp → Prop), Rel W G O L env σ H → kNq W G O L p Wx env σ H R (m env) → wi σ H R
theorem PI.or {X : Cx} {tg iter : Expr} {w1 w2 : TI} (h1 : PI X tg iter w1) (h2 : PI X tg iter w2) : PI X tg iter (fun σ H R => w1 σ H R ∨ w2 σ H R) := ⟨fun pins s σ H R I q => by
 rcases q with q | q
 ·exact h1.run pins s σ H R I q
 ·exact h2.run pins s σ H R I q⟩
section
variable {W : Wd} {X : Cx} {Wx : WX} {O : List Nat} {tg e : Expr} {m : M D} {p : Bool} {G : Gh} {L : Lab} {H : Hp}
theorem kFa {vs : List V} {ds : List D} (r : RpL W (Zo L) H ds vs) {Z : Addr → Prop} (hz : ∀ a, Z a → H a ≠ none → Zo L a) {H' : Hp} (ev : Ev W Z H H') {i : Nat} (hi : i < ds.length) : ∃ x d, vs[i]? = some x ∧ ds[i]? = some d ∧ Rp W Z H' d x := by
 obtain ⟨v, h1, h2⟩ := r.getD (gF6 hi)
 exact ⟨v, _, h1, gF6 hi, Rp.ev ev _ _ (Rp.shun hz _ _ h2)⟩
theorem kQa {K : PySem.W.Frag} {a : Addr} {vs : List V} {ds : List D} (na : ¬ Zo L a) (h : H a = some (.lst vs)) (sz : vs.length ≤ sizeLine) (r : RpL W (Zo L) H ds vs) : kEr W (Itl K a) L H ds := by
 refine ⟨by rw [r.length]; exact sz, fun Z hz i H' ev => ?_⟩
 have h' : SqL K H' a vs := SqL.of (ev.lst a vs h fun z => na (hz a z (by rw [h]; exact fun w => nomatch w)))
 refine ⟨fun hi => ?_, fun hi => ⟨vs, h', by rw [← r.length]; exact hi⟩⟩
 obtain ⟨x, d, h1, h2, h3⟩ := kFa r hz ev hi
 refine ⟨⟨vs, x, h', h1⟩, fun y H2 hy => ?_⟩
 obtain ⟨rfl, hy⟩ := hy
 have := hy vs h'
 rw [h1] at this
 rw [← gF3 this]
 exact ⟨Ev.refl, d, h2, h3⟩
theorem kRF {a : Addr} {vs : List V} {ds : List D} (h : RoL W.K H a vs) (sz : vs.length ≤ sizeLine) (r : RpL W (Zo L) H ds vs) : kEr W (Itl W.K a) L H ds := by
 refine ⟨by rw [r.length]; exact sz, fun Z hz i H' ev => ?_⟩
 have h' : SqL W.K H' a vs := (ev.rol h).sq
 refine ⟨fun hi => ?_, fun hi => ⟨vs, h', by rw [← r.length]; exact hi⟩⟩
 obtain ⟨x, d, h1, h2, h3⟩ := kFa r hz ev hi
 refine ⟨⟨vs, x, h', h1⟩, fun y H2 hy => ?_⟩
 obtain ⟨rfl, hy⟩ := hy
 have := hy vs h'
 rw [h1] at this
 rw [← gF3 this]
 exact ⟨Ev.refl, d, h2, h3⟩
theorem kMd {a : Addr} {vs : List V} {ds : List D} (h : SqT W.K H a vs) (sz : vs.length ≤ sizeLine) (r : RpL W (Zo L) H ds vs) : kEr W (Itt W.K a) L H ds := by
 refine ⟨by rw [r.length]; exact sz, fun Z hz i H' ev => ?_⟩
 have h' : SqT W.K H' a vs := ev.sqt h
 refine ⟨fun hi => ?_, fun hi => ⟨vs, h', by rw [← r.length]; exact hi⟩⟩
 obtain ⟨x, d, h1, h2, h3⟩ := kFa r hz ev hi
 refine ⟨⟨vs, x, h', h1⟩, fun y H2 hy => ?_⟩
 obtain ⟨rfl, hy⟩ := hy
 have := hy vs h'
 rw [h1] at this
 rw [← gF3 this]
 exact ⟨Ev.refl, d, h2, h3⟩
def signs (x : Str) : List D := x.cps.toList.map fun c => .str ⟨#[c]⟩
theorem kPX {x : Str} (sz : x.length ≤ sizeLine) : kEr W (Its x) L H (signs x) := by
 have ln : (signs x).length = x.cps.size := by simp [signs]
 refine ⟨by rw [ln]; exact sz, fun Z hz i H' ev => ⟨fun hi => ⟨by rw [ln] at hi; exact hi, fun y H2 hy => ?_⟩, fun hi => by rw [ln] at hi; exact hi⟩⟩
 obtain ⟨rfl, c, h1, rfl⟩ := hy
 refine ⟨Ev.refl, .str ⟨#[c]⟩, ?_, by unfold Rp; rfl⟩
 unfold signs
 rw [gI0, ← Array.getElem?_toList] at *
 rw [h1]
 rfl
def items : D → Option (List D)
 | .lst ds => some ds
 | .ro ds => some ds
 | .tup ds => some ds
 | .str x => if x.length ≤ sizeLine then some (signs x) else none
 | .obj 4 [] => some []
 | _ => none
theorem kPZ {k : Nat} {ds : List D} (c : ¬ (k = 4 ∧ ds = [])) : items (.obj k ds) = none := by
 unfold items
 split
 all_goals first | rfl | skip
 all_goals first | (rename_i e; cases e; done) | (rename_i e; cases e; exact (c ⟨rfl, rfl⟩).elim) | (exact (c ⟨rfl, rfl⟩).elim)
def kAr (m : M D) : M (List D) := fun env => (m env).bind fun d e => match items d with
 | some ds => .ok ds e
 | none => .bad
theorem kBu (h : DE W X Wx O e m 2 p) : DI W X Wx O tg e (kAr m) p := by
 obtain ⟨k, t, pe, s⟩ := h
 refine ⟨k, _, PI.or (pi_list pe) (PI.or (pi_tup pe) (pi_str pe)), fun G L env σ H R Rl h => ?_⟩
 unfold kAr at h
 cases q1 : m env with
 | bad => rw [q1] at h; exact h.elim
 | exc c a e =>
  rw [q1] at h
  refine .inl (s G L env σ H _ Rl ?_)
  rw [q1]
  exact h
 | ok d1 e1 =>
  rw [q1] at h
  have h : kNq W G O L p Wx env σ H R (match items d1 with | some ds => .ok ds e1 | none => .bad) := h
  match d1, h, q1 with
  | .lst ds, h, q1 =>
   refine .inl (s G L env σ H _ Rl ?_)
   rw [q1]
   intro v H' R' E P Z
   have Z := kFN Z
   unfold Rp at Z
   obtain ⟨a, vs, rfl, na, ⟨h2, sz⟩, h3⟩ := Z
   exact ⟨a, rfl, ⟨vs, SqL.of h2⟩, h _ H' R' E P (kQa na h2 sz h3)⟩
  | .ro ds, h, q1 =>
   refine .inl (s G L env σ H _ Rl ?_)
   rw [q1]
   intro v H' R' E P Z
   have Z := kFN Z
   unfold Rp at Z
   obtain ⟨a, vs, rfl, ⟨h2, sz⟩, h3⟩ := Z
   rw [← k] at h2
   refine ⟨a, rfl, ⟨vs, h2.sq⟩, h _ H' R' E P ?_⟩
   rw [k] at h2 ⊢
   exact kRF h2 sz h3
  | .tup ds, h, q1 =>
   refine .inr (.inl (s G L env σ H _ Rl ?_))
   rw [q1]
   intro v H' R' E P Z
   have Z := kFN Z
   unfold Rp at Z
   obtain ⟨a, vs, rfl, ⟨h2, sz⟩, h3⟩ := Z
   refine ⟨a, rfl, ⟨vs, SqT.of h2⟩, h _ H' R' E P ?_⟩
   rw [k]
   exact kMd (SqT.of h2) sz h3
  | .str x, h, q1 =>
   refine .inr (.inr (s G L env σ H _ Rl ?_))
   rw [q1]
   intro v H' R' E P Z
   have Z := kFN Z
   unfold Rp at Z
   subst Z
   have h : kNq W G O L p Wx env σ H R (match (if x.length ≤ sizeLine then some (signs x) else none) with | some ds => .ok ds e1 | none => .bad) := h
   by_cases sz : x.length ≤ sizeLine
   ·rw [if_pos sz] at h
    exact ⟨x, rfl, h _ H' R' E P (kPX sz)⟩
   ·rw [if_neg sz] at h
    exact h.elim
  | .non, h, _ => exact h.elim
  | .bool _, h, _ => exact h.elim
  | .int _, h, _ => exact h.elim
  | .dic _ _, h, _ => exact h.elim
  | .obj kk ds, h, q1 =>
   by_cases c : kk = 4 ∧ ds = []
   ·obtain ⟨rfl, rfl⟩ := c
    refine .inr (.inl (s G L env σ H _ Rl ?_))
    rw [q1]
    intro v H' R' E P Z
    have Z := kFN Z
    unfold Rp at Z
    obtain ⟨a, vs, rfl, _, h2, h3⟩ := Z
    obtain ⟨_, rfl, h4⟩ := W.kt h2
    refine ⟨a, rfl, ⟨[], by rw [k]; exact h4.sq _⟩, h _ H' R' E P ?_⟩
    rw [k]
    exact kMd (h4.sq _) (Nat.zero_le _) h3
   ·rw [kPZ c] at h
    exact h.elim
def kGa (lo : Int) (n : Nat) : List D := (List.range n).map fun i => .int (lo + (i : Nat))
theorem kPY {lo : Int} {n : Nat} (hn : n ≤ sizeLine) : kEr W (Itr lo n) L H (kGa lo n) := by
 have ln : (kGa lo n).length = n := by simp [kGa]
 refine ⟨by rw [ln]; exact hn, fun Z hz i H' ev => ⟨fun hi => ⟨by rw [ln] at hi; exact hi, fun y H2 hy => ?_⟩, fun hi => by rw [ln] at hi; exact hi⟩⟩
 obtain ⟨rfl, rfl⟩ := hy
 refine ⟨Ev.refl, .int (lo + (i : Nat)), ?_, by unfold Rp; rfl⟩
 rw [ln] at hi
 unfold kGa
 rw [gI0, List.getElem?_range hi]
 rfl
def kDc (ms : M (List D)) : M (List D) := fun env => (ms env).bind fun ds e => match ds with
 | [.int j] => if j.toNat ≤ sizeLine ∧ -(2 ^ 62) ≤ j then .ok (kGa 0 j.toNat) e else .bad
 | [.int i, .int j] => if (j - i).toNat ≤ sizeLine ∧ (-(2 ^ 61) ≤ i ∧ i < 2 ^ 61) ∧ -(2 ^ 61) ≤ j then .ok (kGa i (j - i).toNat) e else .bad
 | _ => .bad
theorem kMI : (sizeLine : Nat) < 2 ^ 60 := by rw [sizeLine_eq]; decide
theorem all1 {z : Nat} {ds : List D} {vs : List V} {d : D} (h : AllZ W L H z [d] vs) : ∃ v, vs = [v] ∧ Rp W No H d v := by
 obtain ⟨hl, ha⟩ := h
 match vs, hl, ha with
 | [v], _, ha => exact ⟨v, rfl, (ha 0 d v rfl rfl).any⟩
theorem kGt {a : Expr} {ms : M (List D)} {z : Nat} {p0 pos : Pos} (hg : Gl X "range") (hm : X.mg "range" = none) (ha : DAr W X Wx O [a] ms z p) (hs : starEach [a] X.env = [(false, eval a X.env)] := by rfl) :
  DI W X Wx O tg (.Call (.Name "range" p0) [a] [] pos) (kDc ms) p := by
 obtain ⟨k, ln, t, pa, s⟩ := ha
 refine ⟨k, _, pi_range1 hg hm pa hs, fun G L env σ H R Rl h => s G L env σ H _ Rl ?_⟩
 unfold kDc at h
 cases q1 : ms env with
 | bad => rw [q1] at h; exact h.elim
 | exc c a e => rw [q1] at h; exact h
 | ok ds e1 =>
  rw [q1] at h
  have hl := ln _ _ _ q1
  intro vs H' R' E P A
  match ds, hl, A, h with
  | [d], _, A, h =>
   obtain ⟨v, rfl, r⟩ := all1 (ds := []) A
   match d, r, h with
   | .int j, r, h =>
    unfold Rp at r
    subst r
    have h : kNq W G O L p Wx env σ H R (if j.toNat ≤ sizeLine ∧ -(2 ^ 62) ≤ j then .ok (kGa 0 j.toNat) e1 else .bad) := h
    by_cases c : j.toNat ≤ sizeLine ∧ -(2 ^ 62) ≤ j
    ·rw [if_pos c] at h
     have := kMI
     exact ⟨j, rfl, c.2, by omega, h _ H' R' E P (kPY c.1)⟩
    ·rw [if_neg c] at h
     exact h.elim
   | .non, _, h => exact h.elim
   | .bool _, _, h => exact h.elim
   | .str _, _, h => exact h.elim
   | .tup _, _, h => exact h.elim
   | .lst _, _, h => exact h.elim
   | .ro _, _, h => exact h.elim
   | .dic _ _, _, h => exact h.elim
   | .obj _ _, _, h => exact h.elim
end
theorem Rel.congr {W : Wd} {G : Gh} {O O' : List Nat} {L : Lab} {env : EnvD} {σ : L2.St} {H : Hp} (R : Rel W G O L env σ H) (h : ∀ i, O'.getD i 0 = O.getD i 0) : Rel W G O' L env σ H :=
 ⟨R.len, fun i d e => by rw [h]; exact R.slot i d e, R.dom, R.ent, R.ext, R.loc, fun hn => by rw [h]; exact R.first hn, R.zero⟩
theorem kNt {i : Nat} {v : Option V} : ∀ {vs : List Nat} {σ : L2.St}, i ∈ vs → wipe (σ.set i v) vs = wipe σ vs
 | [], _, h => (gI2 h).elim
 | j :: vs, σ, h => by
  unfold wipe
  by_cases e : i ∈ vs
  ·rw [kNt e]
  ·have ej : i = j := (gG5.mp h).resolve_right e
   subst ej
   have : ∀ (vs : List Nat), i ∉ vs → wipe (σ.set i v) vs = (wipe σ vs).set i v := by
    intro vs
    induction vs with
    | nil => intro _; rfl
    | cons k r ih =>
     intro hn
     have hk : k ≠ i := fun z => hn (by simp [z])
     have hr : i ∉ r := fun z => hn (by simp [z])
     show (wipe (σ.set i v) r).set k none = ((wipe σ r).set k none).set i v
     rw [ih hr, List.set_comm _ _ (Ne.symm hk)]
   rw [this vs e, List.set_set]
structure DGs (W : Wd) (X : Cx) (O : List Nat) (tgs : List Expr) (gd : List D → EnvD → Option EnvD) (is : List Nat) : Prop where
 run : ∃ g, PGs X tgs g ∧ ∀ (G : Gh) (L : Lab) (env : EnvD) (σ : L2.St) (H : Hp) (xs : List V) (ds : List D) (Q : L2.St → Hp → Prop), Rel W G O L env σ H → RpL W (Zo L) H ds xs →
  (∃ env', gd ds env = some env' ∧ ∀ σ', Rel W G O L env' σ' H → (∀ vs, (∀ i ∈ is, i ∈ vs) → wipe σ' vs = wipe σ vs) → Q σ' H) → g xs σ H Q
def gN (i : Nat) : D → EnvD → Option EnvD := fun d env => some (env.set i (some d))
section
variable {W : Wd} {X : Cx} {O : List Nat} {tg : Expr} {tgs : List Expr} {x : Str} {pos : Pos} {i : Nat}
theorem kAt (pg : PG X (.Name x pos) (gName i)) (o : O.getD i 0 = 0 := by rfl) (hi : i ≠ 0 ∨ O.getD 0 0 = 0 := by decide) : DG W X O (.Name x pos) (gN i) [i] := by
 refine ⟨_, pg, fun G L env σ H x d Q R r h => ?_⟩
 obtain ⟨env', he, h⟩ := h
 cases he
 have R2 := R.set r (hi.imp id fun z => Decidable.by_contra fun hn => hn ((R.first hn).2.symm.trans z))
 refine h _ (R2.congr fun j => ?_) fun vs hv => kNt (hv i (by simp))
 rw [kDr]
 split
 ·rename_i c
  rw [← c.1]
  exact o
 ·rfl
def kFC : List D → EnvD → Option EnvD := fun ds env => match ds with
 | [] => some env
 | _ => none
def kBe (g : D → EnvD → Option EnvD) (gs : List D → EnvD → Option EnvD) : List D → EnvD → Option EnvD := fun ds env => match ds with
 | d :: r => (g d env).bind (gs r)
 | [] => none
theorem kJA : DGs W X O [] kFC [] := ⟨_, pgs_nil, fun G L env σ H xs ds Q R r h => by
 obtain ⟨env', he, h⟩ := h
 match ds, he, r with
 | [], he, r =>
  unfold RpL at r
  cases he
  exact ⟨r, h σ R fun _ _ => rfl⟩⟩
theorem kDs {e : Expr} {es : List Expr} {g : D → EnvD → Option EnvD} {gs : List D → EnvD → Option EnvD} {is js : List Nat} (h1 : DG W X O e g is) (h2 : DGs W X O es gs js) (pc : ∀ {t u}, PG X e t → PGs X es u → PGs X (e :: es) (gCons t u)) : DGs W X O (e :: es) (kBe g gs) (is ++ js) := by
 obtain ⟨t, pt, st⟩ := h1
 obtain ⟨u, pu, su⟩ := h2
 refine ⟨_, pc pt pu, fun G L env σ H xs ds Q R r h => ?_⟩
 obtain ⟨env', he, h⟩ := h
 match ds, he, r with
 | [], he, r => cases he
 | d :: ds, he, r =>
  unfold RpL at r
  obtain ⟨v, us, rfl, r1, r2⟩ := r
  have he : (g d env).bind (gs ds) = some env' := he
  cases q : g d env with
  | none => rw [q] at he; cases he
  | some e1 =>
   rw [q] at he
   refine ⟨v, us, rfl, st G L env σ H v d _ R r1 ⟨e1, q, fun σ' R' w => ?_⟩⟩
   refine su G L e1 σ' H us ds _ R' r2 ⟨env', he, fun σ2 R2 w2 => h σ2 R2 fun vs hv => ?_⟩
   rw [w2 vs (fun i hi => hv i (List.mem_append_right _ hi)), w vs (fun i hi => hv i (List.mem_append_left _ hi))]
def gT (n : Nat) (gs : List D → EnvD → Option EnvD) : D → EnvD → Option EnvD := fun d env => match d with
 | .tup ds => if ds.length = n then gs ds env else none
 | _ => none
theorem kMm {es : List Expr} {k n : Nat} {gs : List D → EnvD → Option EnvD} {is : List Nat} (hc : X.calm = true) (hk : X.K = W.K) (h : DGs W X O es gs is) (hn : (assignEach es X.env).length = n := by rfl) (hst : (assignEach es X.env).findIdx? (·.1) = none := by rfl) :
  DG W X O (.Tuple es k pos) (gT n gs) is := by
 obtain ⟨u, pu, su⟩ := h
 refine ⟨_, pg_tup hc pu hn hst, fun G L env σ H x d Q R r h => ?_⟩
 obtain ⟨env', he, h⟩ := h
 match d, he, r with
 | .tup ds, he, r =>
  unfold Rp at r
  obtain ⟨a, vs, rfl, ⟨h2, _⟩, h3⟩ := r
  have he : (if ds.length = n then gs ds env else none) = some env' := he
  by_cases c : ds.length = n
  ·rw [if_pos c] at he
   exact ⟨a, vs, rfl, SqT.of h2, by rw [← h3.length]; exact c, su G L env σ H vs ds Q R h3 ⟨env', he, h⟩⟩
  ·rw [if_neg c] at he
   cases he
 | .non, he, _ => cases he
 | .bool _, he, _ => cases he
 | .int _, he, _ => cases he
 | .str _, he, _ => cases he
 | .lst _, he, _ => cases he
 | .ro _, he, _ => cases he
 | .dic _ _, he, _ => cases he
 | .obj _ _, he, _ => cases he
end
def kDO (gd : D → EnvD → Option EnvD) (body : MS) : List D → MS
 | [], env => .nx env
 | d :: ds, env => match gd d env with
  | none => .bad
  | some e => match body e with
   | .nx e2 => kDO gd body ds e2
   | .ct e2 => kDO gd body ds e2
   | .bk e2 => .nx e2
   | r => r
def dFor (src : M (List D)) (gd : D → EnvD → Option EnvD) (body : MS) : MS := fun env => match src env with
 | .ok ds e => kDO gd body ds e
 | .exc c a e => .exc c a e
 | .bad => .bad
theorem kNr {W : Wd} {J : It} {L L' : Lab} {H0 H : Hp} {ds : List D} (I : kEr W J L H0 ds) (f : Fw W L H0 L' H) {i : Nat} :
  (i < ds.length → J.go i H ∧ ∀ x H', J.yld i H x H' → Ev W No H H' ∧ ∃ d, ds[i]? = some d ∧ Rp W (Zo L') H' d x) ∧ (ds.length ≤ i → J.stop i H) := by
 obtain ⟨h1, h2⟩ := I.2 (fun a => Zo L a ∨ Zo L' a) (fun a z hn => z.elim id fun z => (f.lab a z).resolve_right hn) i H (f.ev.mono fun a z _ => Or.inl z)
 refine ⟨fun hi => ?_, h2⟩
 obtain ⟨g, y⟩ := h1 hi
 refine ⟨g, fun x H' hy => ?_⟩
 obtain ⟨ev, d, e1, e2⟩ := y x H' hy
 exact ⟨ev, d, e1, Rp.shun (fun a z _ => Or.inr z) d x e2⟩
theorem kJz {W : Wd} {X : Cx} {Wx : WX} {F : Fc} {O : List Nat} {tg iter : Expr} {body : List Stmt} {src : M (List D)} {p : Bool} {gd : D → EnvD → Option EnvD} {is : List Nat} {mb : MS} {pos : Pos} (hp : PassesOwn (model X.prog X.w) X.A X.env X.xe) (hc : X.calm = true)
  (hi : DI W X Wx O tg iter src p) (hg : DG W X O tg gd is) (hb : DSs W X Wx ⟨O, F.ort, F.ox, F.fr, true⟩ O body mb O) (hs : ∀ x, foldedSetIterable iter X.env x = pure x := by intro _; rfl) (cx : kDe O F.ox = true := by decide) :
  DS W X Wx F O (.For tg iter body [] pos) (dFor src gd mb) O := by
 obtain ⟨k, wi, pi, si⟩ := hi
 obtain ⟨gt, pg, sg⟩ := hg
 obtain ⟨_, tb, pb, sb⟩ := hb
 refine ⟨k, _, ps_for hp hc pi pg pb hs, fun G L env σ H Dn g R h => si G L env σ H _ R ?_⟩
 unfold dFor at h
 cases q1 : src env with
 | bad => rw [q1] at h; exact h.elim
 | exc c a e =>
  rw [q1] at h
  exact kCK (z := 0) (p := true) (env := env) (fun hn => (g hn).2.1) cx h
 | ok ds e1 =>
  rw [q1] at h
  intro J H1 R1 E1 P1 I
  have h : kDq W G F Wx O L H Dn (kDO gd mb ds e1) := h
  have h := h.fw fun _ => Fw.of E1
  refine ⟨fun i m σ' H' => i + m = ds.length ∧ ∃ env' L', Rel W G O L' env' σ' H' ∧ Fw W L H1 L' H' ∧ kDq W G F Wx O L' H' Dn (kDO gd mb (ds.drop i) env'), ⟨ds.length, by simp, e1, L, R1, Fw.refl, h⟩, ?_⟩
  rintro i m σ' H' ⟨hm, env', L', R', f, hp'⟩
  obtain ⟨hgo, hstop⟩ := kNr I f (i := i)
  by_cases hi : i < ds.length
  ·obtain ⟨g1, g2⟩ := hgo hi
   have dr : ds.drop i = ds[i] :: ds.drop (i + 1) := List.drop_eq_getElem_cons hi
   rw [dr] at hp'
   refine .inr ⟨g1, fun σ2 H2 => ∃ env2 L2, Rel W G O L2 env2 σ2 H2 ∧ Fw W L H1 L2 H2 ∧ kDq W G F Wx O L2 H2 Dn (kDO gd mb (ds.drop (i + 1)) env2), fun σ2 H2 ⟨env2, L2, r2, f2, p2⟩ => ⟨m - 1, by omega, by omega, env2, L2, r2, f2, p2⟩, fun x H2 hy => ?_⟩
   obtain ⟨ev, d, hd, rd⟩ := g2 x H2 hy
   have hd' : ds[i] = d := by
    rw [gF6 hi] at hd
    exact gF3 hd
   rw [hd'] at hp'
   have R2 := R'.pure ev
   have hp' : kDq W G F Wx O L' H' Dn (match gd d env' with | none => .bad | some e => match mb e with | .nx e2 => kDO gd mb (ds.drop (i + 1)) e2 | .ct e2 => kDO gd mb (ds.drop (i + 1)) e2 | .bk e2 => .nx e2 | r => r) := hp'
   cases qg : gd d env' with
   | none => rw [qg] at hp'; exact hp'.elim
   | some e2 =>
    rw [qg] at hp'
    refine sg G L' env' σ' H2 x d _ R2 rd ⟨e2, qg, fun σ3 R3 _ => ?_⟩
    refine sb G L' e2 σ3 H2 _ (fun hn => ⟨(g hn).1, (g hn).2.1, (R1.first hn).2⟩) R3 ?_
    have f2 : Fw W L H1 L' H2 := f.trans (Fw.of (p := true) ev)
    have hp' : kDq W G F Wx O L' H' Dn (match mb e2 with | .nx e2 => kDO gd mb (ds.drop (i + 1)) e2 | .ct e2 => kDO gd mb (ds.drop (i + 1)) e2 | .bk e2 => .nx e2 | r => r) := hp'
    have hp2 := hp'.fw fun _ => Fw.of (p := true) ev
    cases qb : mb e2 with
    | nx e3 =>
     rw [qb] at hp2
     exact fun σ4 H4 L4 R4 f4 => ⟨e3, L4, R4, f2.trans (f4 rfl), hp2.fw fun _ => f4 rfl⟩
    | ct e3 =>
     rw [qb] at hp2
     exact fun σ4 H4 L4 R4 f4 => ⟨e3, L4, R4, f2.trans (f4 rfl), hp2.fw fun _ => f4 rfl⟩
    | bk e3 =>
     rw [qb] at hp2
     exact fun σ4 H4 L4 R4 f4 => hp2 σ4 H4 L4 R4 fun _ => f4 rfl
    | rt d e3 => rw [qb] at hp2; exact hp2
    | exc c a e3 => rw [qb] at hp2; exact hp2
    | bad => rw [qb] at hp2; exact hp2.elim
  ·have : ds.drop i = [] := List.drop_eq_nil_of_le (by omega)
   rw [this] at hp'
   exact .inl ⟨hstop (by omega), hp' σ' H' L' R' fun _ => Fw.refl⟩
def kAN (env : EnvD) : List Nat → EnvD
 | [] => env
 | v :: vs => (kAN env vs).set v none
theorem kIS (env : EnvD) : ∀ vs, (kAN env vs).length = env.length
 | [] => rfl
 | v :: vs => by
  unfold kAN
  rw [gH6, kIS env vs]
theorem kHW {env : EnvD} {i : Nat} {d : D} : ∀ {vs : List Nat}, (kAN env vs)[i]? = some (some d) → env[i]? = some (some d) ∧ i ∉ vs
 | [], h => ⟨h, by simp⟩
 | v :: vs, h => by
  unfold kAN at h
  by_cases hi : v = i
  ·subst hi
   rw [List.getElem?_set] at h
   split at h
   ·split at h <;> cases h
   ·rename_i ne
    exact (ne rfl).elim
  ·rw [gH4 hi] at h
   obtain ⟨h1, h2⟩ := kHW h
   exact ⟨h1, fun z => (gG5.mp z).elim (fun z => hi z.symm) h2⟩
theorem kDW {σ : L2.St} {i : Nat} : ∀ {vs : List Nat}, i ∉ vs → (wipe σ vs)[i]? = σ[i]?
 | [], _ => rfl
 | v :: vs, h => by
  unfold wipe
  have h1 : v ≠ i := fun z => h (by simp [z])
  rw [gH4 h1, kDW fun z => h (by simp [z])]
theorem kLp {σ : L2.St} {j : Nat} : ∀ {us : List Nat}, j ∈ us → (wipe σ us)[j]? = some none ∨ (wipe σ us)[j]? = none
 | [], z => by cases z
 | k :: us, z => by
  unfold wipe
  by_cases e : k = j
  ·subst e
   by_cases hl : k < (wipe σ us).length
   ·left; rw [gI3 hl]
   ·right; exact List.getElem?_eq_none (by simpa using hl)
  ·rw [gH4 e]
   exact kLp ((gG5.mp z).resolve_left fun z => e z.symm)
theorem kOV {τ : L2.St} : ∀ {us : List Nat}, (∀ j ∈ us, τ[j]? = some none ∨ τ[j]? = none) → wipe τ us = τ
 | [], _ => rfl
 | j :: us, hτ => by
  unfold wipe
  rw [kOV fun k hk => hτ k (gF2 _ hk)]
  rcases hτ j gF1 with z | z
  ·refine List.ext_getElem? fun k => ?_
   rw [List.getElem?_set]
   split
   ·rename_i e
    subst e
    rw [z]
    split
    ·rfl
    ·rename_i hk
     rw [List.getElem?_eq_none (by omega)] at z
     cases z
   ·rfl
  ·exact List.set_eq_of_length_le (by have := gI1.mp z; omega)
theorem kLo {σ : L2.St} {vs : List Nat} : wipe (wipe σ vs) vs = wipe σ vs := kOV fun _ hj => kLp hj
section
variable {W : Wd} {G : Gh} {O : List Nat} {L : Lab} {env : EnvD} {σ σ' : L2.St} {H : Hp} {vs : List Nat}
theorem Rel.wipe (R : Rel W G O L env σ H) (h0 : G.n ≠ 0 → 0 ∉ vs) : Rel W G O L (kAN env vs) (wipe σ vs) H := by
 refine ⟨by rw [kIS, wipe_length, R.len], fun i d h => ?_, R.dom, R.ent, R.ext, R.loc, fun hn => ?_, R.zero⟩
 ·obtain ⟨h1, h2⟩ := kHW h
  obtain ⟨v, q1, q2⟩ := R.slot i d h1
  exact ⟨v, by rw [kDW h2]; exact q1, q2⟩
 ·obtain ⟨a, b⟩ := R.first hn
  exact ⟨by rw [kDW (h0 hn)]; exact a, b⟩
theorem Rel.unwipe (R : Rel W G O L env σ' H) (w : L2.wipe σ' vs = L2.wipe σ vs) (h0 : G.n ≠ 0 → 0 ∉ vs) (len : σ.length = σ'.length) : Rel W G O L (kAN env vs) σ H := by
 refine ⟨by rw [kIS, R.len, len], fun i d h => ?_, R.dom, R.ent, R.ext, R.loc, fun hn => ?_, R.zero⟩
 ·obtain ⟨h1, h2⟩ := kHW h
  obtain ⟨v, q1, q2⟩ := R.slot i d h1
  refine ⟨v, ?_, q2⟩
  rw [← kDW (σ := σ) h2, ← w, kDW h2]
  exact q1
 ·obtain ⟨a, b⟩ := R.first hn
  refine ⟨?_, b⟩
  rw [← kDW (σ := σ) (h0 hn), ← w, kDW (h0 hn)]
  exact a
theorem Ev.trans2 {Z Z' : Addr → Prop} {H H1 H2 : Hp} (a : Ev W Z H H1) (b : Ev W Z' H1 H2) (h : ∀ c, Z' c → H c ≠ none → Z c) : Ev W Z H H2 :=
 ⟨fun c xs q z => b.lst c xs (a.lst c xs q z) fun w => z (h c w (by rw [q]; exact fun w => nomatch w)), fun c xs q => b.tup c xs (a.tup c xs q), fun c o u q => b.frz c o u (a.frz c o u q),
  fun c xs q z => b.dk c xs (a.dk c xs q z) fun w => z (h c w (by rw [q]; exact fun w => nomatch w)), fun c xs q z => b.dt c xs (a.dt c xs q z) fun w => z (h c w (by rw [q]; exact fun w => nomatch w)), fun c k es ds q z => b.obj c k es ds (a.obj c k es ds q z) (W.gd q z fun y w => h c w y), fun c q => a.dom c (b.dom c q), fun c w q => b.tab c w (a.tab c w q), fun c w q => b.cod c w (a.cod c w q)⟩
theorem Rel.relay {p : Addr} {i j : Nat} (hL : L p = none) (R : Rel W G O (DL.lay L p [i]) env σ H) (hi : O.length ≤ i) (hj : j ≠ 0) : Rel W G O (DL.lay L p [j]) env σ H := by
 have zz : ∀ a, Zo (DL.lay L p [j]) a ↔ Zo (DL.lay L p [i]) a := fun a => by
  unfold Zo
  by_cases e : a = p
  ·rw [e, DL.lay_same, DL.lay_same]
   exact ⟨fun _ w => (nomatch w), fun _ w => (nomatch w)⟩
  ·rw [DL.lay_ne e, DL.lay_ne e]
 have np : G.L p = none := by
  cases q : G.L p with
  | none => rfl
  | some l =>
   have := R.ext p l q
   rw [DL.lay_same] at this
   rcases G.hd p l q with w | ⟨r, w⟩
   ·rw [w] at this; cases this
   ·rw [w] at this
    have := (List.cons.inj (gF3 this)).1
    subst this
    by_cases hn : G.n = 0
    ·rw [w] at q
     exact (G.no hn p r q).elim
    ·have o := (R.first hn).2
     rw [gH7, gI1.mpr (by omega)] at o
     exact (hn o.symm).elim
 refine ⟨R.len, fun k d h => ?_, fun a z => R.dom a ((zz a).mp z), R.ent, fun a l h => ?_, fun a l h g => ?_, R.first, fun hn a q h => ?_⟩
 ·obtain ⟨v, h1, h2⟩ := R.slot k d h
  refine ⟨v, h1, ?_⟩
  by_cases hk : k < O.length
  ·refine Ow.map (fun d v => Rp.shun (fun a z _ => (zz a).mp z) d v) _ [k] [k] d v (fun a r e1 e2 => ⟨?_, Stay.refl⟩) h2
   have ne : a ≠ p := fun e => by
    rw [e, DL.lay_same] at e1
    have e1' : some [i] = some (k :: r) := e1
    have := (List.cons.inj (gF3 e1')).1
    omega
   rw [DL.lay_ne ne] at e1 ⊢
   exact e1
  ·have o : O.getD k 0 = 0 := by
    rw [gH7, gI1.mpr (by omega)]
    rfl
   rw [o] at h2 ⊢
   exact Rp.shun (fun a z _ => (zz a).mp z) d v h2
 ·have ne : a ≠ p := fun e => by rw [e, np] at h; cases h
  have := R.ext a l h
  rw [DL.lay_ne ne] at this ⊢
  exact this
 ·by_cases e : a = p
  ·rw [e, DL.lay_same] at h
   rw [e]
   exact ⟨(R.loc p [i] DL.lay_same np).1, j, [], (gF3 h).symm⟩
  ·rw [DL.lay_ne e] at h
   exact R.loc a l (by rw [DL.lay_ne e]; exact h) g
 ·by_cases e : a = p
  ·rw [e, DL.lay_same] at h
   exact (hj (List.cons.inj (gF3 h)).1).elim
  ·rw [DL.lay_ne e] at h
   exact R.zero hn a q (by rw [DL.lay_ne e]; exact h)
end
theorem Rel.hide {W : Wd} {G : Gh} {O : List Nat} {L : Lab} {env : EnvD} {σ : L2.St} {H : Hp} {p : Addr} {xs ys : List V} (R : Rel W G O (DL.lay L p [tmp + 1]) env σ H) (h : H p = some (.lst xs)) (hl : O.length ≤ tmp) : Rel W G O (DL.lay L p [tmp + 1]) env σ (upd H p (.lst ys)) := by
 have evD : Ev W (fun a => a = p) H (upd H p (.lst ys)) := Ev.put h rfl
 have evZ : Ev W (Zo (DL.lay L p [tmp + 1])) H (upd H p (.lst ys)) := evD.mono fun a z _ w => by rw [z, DL.lay_same] at w; cases w
 refine ⟨R.len, fun i d e => ?_, fun a z => ?_, R.entry evD fun a z => ⟨tmp + 1, [], by rw [z]; exact DL.lay_same⟩, R.ext, R.loc, R.first, R.zero⟩
 ·obtain ⟨v, h1, h2⟩ := R.slot i d e
  refine ⟨v, h1, ?_⟩
  by_cases hi : i < O.length
  ·refine Ow.map (fun d v => Rp.ev evZ d v) _ _ _ d v (fun a q e1 _ => ⟨e1, evD.ob fun z => ?_⟩) h2
   rw [z, DL.lay_same] at e1
   have e1' : some [tmp + 1] = some (i :: q) := e1
   have := (List.cons.inj (gF3 e1')).1
   omega
  ·have o : O.getD i 0 = 0 := by
    rw [gH7, gI1.mpr (by omega)]
    rfl
   rw [o] at h2 ⊢
   exact Rp.ev evZ d v h2
 ·exact fun w => R.dom a z (evD.dom a w)
def lcGo (b : Bool) (gd : D → EnvD → Option EnvD) (mt : M Bool) (me : M D) (vs : List Nat) : List D → EnvD → Option (List D × EnvD)
 | [], env => some ([], env)
 | d :: ds, env => match gd d (kAN env vs) with
  | none => none
  | some e1 => match mt e1 with
   | .ok true e2 => (match me e2 with
    | .ok y e3 => (match lcGo b gd mt me vs ds (if b = true then env else kAN e3 vs) with
     | some r => some (y :: r.1, r.2)
     | none => none)
    | _ => none)
   | .ok false e2 => lcGo b gd mt me vs ds (if b = true then env else kAN e2 vs)
   | _ => none
def dLc (b : Bool) (src : M (List D)) (gd : D → EnvD → Option EnvD) (mt : M Bool) (me : M D) (vs : List Nat) : M D := fun env => match src env with
 | .ok ds e => (match lcGo b gd mt me vs ds e with
  | some r => .ok (.lst r.1) r.2
  | none => .bad)
 | .exc c a e => .exc c a e
 | .bad => .bad
abbrev Wx0 : WX := fun _ _ _ _ => False
def Walks (W : Wd) (b : Bool) (IO : It → Lab → Hp → List D → Prop) : Prop := ∀ J L H1 ds, IO J L H1 ds → ds.length ≤ sizeLine ∧ ∀ (L' : Lab) (H' : Hp), Fw W L H1 L' H' → Ev W (Zp b L) H1 H' → ∀ i : Nat,
 (i < ds.length → J.go i H' ∧ ∀ x H2, J.yld i H' x H2 → Ev W No H' H2 ∧ ∃ d, ds[i]? = some d ∧ Rp W (Zo L') H2 d x) ∧ (ds.length ≤ i → J.stop i H')
def kSH (W : Wd) (IO : It → Lab → Hp → List D → Prop) (G : Gh) (O : List Nat) (L : Lab) (p : Bool) (Wx : WX) (env : EnvD) (σ : L2.St) (H : Hp) (R : It → Hp → Prop) : Out (List D) → Prop
 | .ok ds env' => ∀ J H', Rel W G O L env' σ H' → Ev W (Zp p L) H H' → (p = true → env' = env) → IO J L H' ds → R J H'
 | .exc c a env' => ∀ cv dd H', Rel W G O L env' σ H' → ExR W L c a cv dd H' → Wx cv dd σ H'
 | .bad => False
theorem kQR {W : Wd} {b : Bool} : Walks W b (kEr W) := fun J L H1 ds I => ⟨I.1, fun L' H' f _ i => kNr I f (i := i)⟩
theorem kUG {W : Wd} {G : Gh} {O : List Nat} {L : Lab} {p : Bool} {Wx : WX} {env : EnvD} {σ : L2.St} {H : Hp} {R : It → Hp → Prop} {o : Out (List D)} (h : kSH W (kEr W) G O L p Wx env σ H R o) : kNq W G O L p Wx env σ H R o := by
 cases o <;> exact h
theorem kSZ {IO : It → Lab → Hp → List D → Prop} {W : Wd} {Wx : WX} {O : List Nat} {wi : TI} {src : M (List D)} {p b : Bool} {gd : D → EnvD → Option EnvD} {is vs : List Nat} {mt : M Bool} {me : M D}
  (si : ∀ (G : Gh) (L : Lab) (env : EnvD) (σ : L2.St) (H : Hp) (R : It → Hp → Prop), Rel W G O L env σ H → kSH W IO G O L p Wx env σ H R (src env) → wi σ H R) (hio : Walks W b IO) (hv : ∀ i ∈ is, i ∈ vs) (hl : O.length ≤ tmp) (h0 : O.getD 0 0 = 0 ∨ 0 ∉ vs)
  {G : Gh} {L : Lab} {env : EnvD} {σ : L2.St} {H : Hp} {Q : VK} (R : Rel W G O L env σ H) (h : kDB W G O L (p && b) 1 Wx env σ H Q (dLc b src gd mt me vs env)) :
  tLc wi (tG W O gd is) (tT W Wx0 O mt b) (tE W Wx0 O me 2 b) vs σ H Q := by
 have hn0 : G.n ≠ 0 → 0 ∉ vs := fun hn => h0.resolve_left fun z => hn ((R.first hn).2.symm.trans z)
 refine si G L env σ H _ R ?_
 unfold dLc at h
 cases q1 : src env with
 | bad => rw [q1] at h; exact h.elim
 | exc c a e => rw [q1] at h; exact h
 | ok ds e1 =>
  rw [q1] at h
  intro J H1 R1 E1 P1 I Dn nD
  have h : kDB W G O L (p && b) 1 Wx env σ H Q (match lcGo b gd mt me vs ds e1 with | some r => .ok (.lst r.1) r.2 | none => .bad) := h
  cases q0 : lcGo b gd mt me vs ds e1 with
  | none => rw [q0] at h; exact h.elim
  | some r0 =>
  rw [q0] at h
  have nL := R1.free nD
  have hzp : ∀ a, Zp b (lay L Dn [tmp + 1]) a → H1 a ≠ none → Zp b L a := fun a z hn => by
   cases b with
   | true => exact z.elim
   | false =>
    obtain ⟨i, q, z, hi⟩ := z
    by_cases e : a = Dn
    ·rw [e] at hn
     exact (hn nD).elim
    ·rw [lay_ne e] at z
     exact ⟨i, q, z, hi⟩
  have notD : ¬ Zp b (lay L Dn [tmp + 1]) Dn := fun z => by
   cases b with
   | true => exact z
   | false =>
    obtain ⟨i, q, z, hi⟩ := z
    rw [lay_same] at z
    have := (List.cons.inj (gF3 z)).1
    omega
  have fw : ∀ H', Ev W (Zp b L) H1 H' → Fw W L H1 (lay L Dn [tmp + 1]) H' := fun H' ev => ⟨ev.mono fun _ z _ => z.sub, fun a z => by
   by_cases e : a = Dn
   ·right; rw [e]; exact nD
   ·rw [lay_ne e] at z
    exact .inl z⟩
  refine ⟨fun i m H' => i + m = ds.length ∧ ∃ env' acc ys r, Rel W G O (lay L Dn [tmp + 1]) env' σ H' ∧ Ev W (Zp b L) H1 H' ∧ H' Dn = some (.lst acc) ∧ RpL W (Zo (lay L Dn [tmp + 1])) H' ys acc ∧ ys.length ≤ i ∧ (b = true → env' = e1) ∧
   lcGo b gd mt me vs (ds.drop i) env' = some r ∧ r0 = (ys ++ r.1, r.2), ⟨ds.length, by simp, e1, [], [], r0, R1.lay (o := .lst []) nD (i := tmp + 1) (q := []), Ev.new nD, upd_same, by unfold RpL; rfl, Nat.le_refl _, fun _ => rfl, q0, rfl⟩, ?_⟩
  rintro i m H' ⟨hm, env', acc, ys, r, R', ev, hD, ra, hy, hb, hr, h0'⟩
  obtain ⟨hgo, hstop⟩ := (hio J L H1 ds I).2 _ H' (fw H' ev) ev i
  by_cases hi : i < ds.length
  ·obtain ⟨g1, g2⟩ := hgo hi
   have dr : ds.drop i = ds[i] :: ds.drop (i + 1) := List.drop_eq_getElem_cons hi
   rw [dr] at hr
   refine .inr ⟨g1, fun H2 => ∃ env2 acc2 ys2 r2, Rel W G O (lay L Dn [tmp + 1]) env2 σ H2 ∧ Ev W (Zp b L) H1 H2 ∧ H2 Dn = some (.lst acc2) ∧ RpL W (Zo (lay L Dn [tmp + 1])) H2 ys2 acc2 ∧ ys2.length ≤ i + 1 ∧ (b = true → env2 = e1) ∧
    lcGo b gd mt me vs (ds.drop (i + 1)) env2 = some r2 ∧ r0 = (ys2 ++ r2.1, r2.2), fun H2 z => ⟨m - 1, by omega, by omega, z⟩, fun x H2 hx => ?_⟩
   obtain ⟨evx, d, hd, rd⟩ := g2 x H2 hx
   have hd' : ds[i] = d := by
    rw [gF6 hi] at hd
    exact gF3 hd
   rw [hd'] at hr
   have R2 := (R'.pure evx).wipe (vs := vs) hn0
   have hr : (match gd d (kAN env' vs) with
    | none => none
    | some e1 => match mt e1 with
     | .ok true e2 => (match me e2 with
      | .ok y e3 => (match lcGo b gd mt me vs (ds.drop (i + 1)) (if b = true then env' else kAN e3 vs) with
       | some r => some (y :: r.1, r.2)
       | none => none)
      | _ => none)
     | .ok false e2 => lcGo b gd mt me vs (ds.drop (i + 1)) (if b = true then env' else kAN e2 vs)
     | _ => none) = some r := hr
   cases qg : gd d (kAN env' vs) with
   | none => rw [qg] at hr; cases hr
   | some ea =>
   rw [qg] at hr
   refine ⟨G, lay L Dn [tmp + 1], kAN env' vs, d, R2, rd, ea, qg, fun σ2 R3 w => ⟨(w vs hv).trans kLo, G, lay L Dn [tmp + 1], ea, R3, ?_⟩⟩
   have w2 : wipe σ2 vs = wipe σ vs := (w vs hv).trans kLo
   have hr : (match mt ea with
     | .ok true e2 => (match me e2 with
      | .ok y e3 => (match lcGo b gd mt me vs (ds.drop (i + 1)) (if b = true then env' else kAN e3 vs) with
       | some r => some (y :: r.1, r.2)
       | none => none)
      | _ => none)
     | .ok false e2 => lcGo b gd mt me vs (ds.drop (i + 1)) (if b = true then env' else kAN e2 vs)
     | _ => none) = some r := hr
   have hD2 : H2 Dn = some (.lst acc) := evx.lst Dn acc hD fun z => z
   have hra2 := RpL.ev (Z := Zo (lay L Dn [tmp + 1])) (evx.mono fun _ z _ => z.elim) ys acc ra
   have ev2 : Ev W (Zp b L) H1 H2 := ev.trans (evx.mono fun _ z _ => z.elim)
   cases qt : mt ea with
   | bad => rw [qt] at hr; cases hr
   | exc c a e => rw [qt] at hr; cases hr
   | ok tb e2 =>
   rw [qt] at hr
   intro H3 R4 ev3 P3
   have hD3 : H3 Dn = some (.lst acc) := ev3.lst Dn acc hD2 notD
   have hra3 := RpL.ev (Z := Zo (lay L Dn [tmp + 1])) (ev3.mono fun _ z _ => z.sub) ys acc hra2
   have ev23 : Ev W (Zp b L) H1 H3 := ev2.trans2 ev3 hzp
   have back : ∀ (H5 : Hp) (e5 : EnvD), Rel W G O (lay L Dn [tmp + 1]) e5 σ2 H5 → (b = true → Ev W No H2 H5) → Rel W G O (lay L Dn [tmp + 1]) (if b = true then env' else kAN e5 vs) σ H5 := fun H5 e5 R5 e => by
    by_cases hbt : b = true
    ·rw [if_pos hbt]
     exact (R'.pure evx).pure (e hbt)
    ·rw [if_neg hbt]
     have l2 : σ.length = σ2.length := by
      have := congrArg List.length w2
      rw [wipe_length, wipe_length] at this
      exact this.symm
     exact R5.unwipe w2 hn0 l2
   cases tb with
   | false =>
    rw [if_neg (by decide)]
    have hr : lcGo b gd mt me vs (ds.drop (i + 1)) (if b = true then env' else kAN e2 vs) = some r := hr
    exact ⟨_, acc, ys, r, back H3 e2 R4 (fun z => by rw [z] at ev3; exact ev3), ev23, hD3, hra3, by omega, fun z => by rw [if_pos z]; exact hb z, hr, h0'⟩
   | true =>
    rw [if_pos rfl]
    have hr : (match me e2 with
      | .ok y e3 => (match lcGo b gd mt me vs (ds.drop (i + 1)) (if b = true then env' else kAN e3 vs) with
       | some r => some (y :: r.1, r.2)
       | none => none)
      | _ => none) = some r := hr
    refine ⟨G, lay L Dn [tmp + 1], e2, R4, ?_⟩
    cases qe : me e2 with
    | bad => rw [qe] at hr; cases hr
    | exc c a e => rw [qe] at hr; cases hr
    | ok y e3 =>
    rw [qe] at hr
    have hr : (match lcGo b gd mt me vs (ds.drop (i + 1)) (if b = true then env' else kAN e3 vs) with
       | some r => some (y :: r.1, r.2)
       | none => none) = some r := hr
    intro v H4 R5 ev4 P4 Z4
    have Z4 := kFN Z4
    have hD4 : H4 Dn = some (.lst acc) := ev4.lst Dn acc hD3 notD
    have hra4 := RpL.ev (Z := Zo (lay L Dn [tmp + 1])) (ev4.mono fun _ z _ => z.sub) ys acc hra3
    have ev24 : Ev W (Zp b L) H1 H4 := ev23.trans2 ev4 hzp
    cases ql : lcGo b gd mt me vs (ds.drop (i + 1)) (if b = true then env' else kAN e3 vs) with
    | none => rw [ql] at hr; cases hr
    | some r2 =>
    rw [ql] at hr
    have hr : some (y :: r2.1, r2.2) = some r := hr
    have la : acc.length = ys.length := hra4.length.symm
    have evD : Ev W (fun a => a = Dn) H4 (upd H4 Dn (.lst (acc ++ [v]))) := Ev.put hD4 rfl
    have evZ : Ev W (Zo (lay L Dn [tmp + 1])) H4 (upd H4 Dn (.lst (acc ++ [v]))) := evD.mono fun a z _ w => by rw [z, lay_same] at w; cases w
    have R6 := back H4 e3 R5 (fun z => by rw [z] at ev3 ev4; exact ev3.trans ev4)
    refine ⟨acc, hD4, by have := (hio J L H1 ds I).1; omega, _, acc ++ [v], ys ++ [y], r2, R6.hide hD4 hl, ev24.trans2 evD (fun a z hn => by rw [z] at hn; exact (hn nD).elim), upd_same, ?_, by simp; omega, fun z => by rw [if_pos z]; exact hb z, ql, ?_⟩
    ·refine RpL.append (RpL.ev evZ ys acc hra4) ?_
     unfold RpL
     exact ⟨v, [], rfl, Rp.ev evZ y v Z4, by unfold RpL; rfl⟩
    ·rw [h0', ← gF3 hr]
     simp
  ·have de : ds.drop i = [] := List.drop_eq_nil_of_le (by omega)
   rw [de] at hr
   cases hr
   refine .inl ⟨hstop (by omega), ?_⟩
   rw [h0', gE2] at h
   have szA : acc.length ≤ sizeLine := by have := (hio J L H1 ds I).1; have := ra.length; omega
   have Rt : Rel W G O (lay L Dn [tmp]) env' σ H' := R'.relay nL (by omega) (by decide)
   have Rn : Rel W G O L env' σ H' := R'.unlabel (fun a l z => by
    rw [lay_ne (fun e => by rw [e, nL] at z; cases z)]
    exact z) (fun a j q hj z => by
    by_cases e : a = Dn
    ·rw [e, lay_same] at z
     have := (List.cons.inj (gF3 z)).1
     omega
    ·rw [lay_ne e] at z
     exact z) R1.ext
   have zt : ∀ a, Zo (lay L Dn [tmp]) a → Zo (lay L Dn [tmp + 1]) a := fun a z => by
    by_cases e : a = Dn
    ·rw [e]
     unfold Zo
     rw [lay_same]
     exact fun w => nomatch w
    ·unfold Zo at z ⊢
     rw [lay_ne e] at z ⊢
     exact z
   have zL : ∀ a, Zo L a → Zo (lay L Dn [tmp + 1]) a := fun a z => by
    have e : a ≠ Dn := fun e => z (by rw [e]; exact nL)
    unfold Zo
    rw [lay_ne e]
    exact z
   refine h _ H' (lay L Dn [tmp]) ⟨fun a l z => ?_, fun a l z w => ?_⟩ (fun a z => ?_) Rt Rn ?_ (fun z => ?_) ?_ ?_
   ·rw [lay_ne (fun e => by rw [e, nL] at z; cases z)]
    exact z
   ·by_cases e : a = Dn
    ·rw [e, lay_same] at z
     exact ⟨[], (gF3 z).symm⟩
    ·rw [lay_ne e, w] at z
     cases z
   ·by_cases e : a = Dn
    ·right
     rw [e]
     exact E1.dom Dn nD
    ·rw [lay_ne e] at z
     exact .inl z
   ·exact (E1.mono fun a z _ => kAO (fun w => (gG6.mp w).1) z).trans (ev.mono fun a z _ => kAO (fun w => (gG6.mp w).2) z)
   ·rw [hb (gG6.mp z).2]
    exact P1 (gG6.mp z).1
   ·refine ⟨Dn, acc, rfl, by rw [kGf nL]; exact lay_same, hD, ⟨ra.length, szA⟩, fun j d v h1 h2 => ?_⟩
    obtain ⟨v', e1, e2⟩ := ra.getD h1
    rw [h2] at e1
    rw [gF3 e1]
    exact Rp.shun (fun a z _ => zt a ((kFu fun a l z => by rw [lay_ne (fun e => by rw [e, nL] at z; cases z)]; exact z).mp z)) d v' e2
   ·unfold Rp
    exact ⟨Dn, acc, rfl, fun z => z nL, ⟨hD, szA⟩, RpL.shun (fun a z _ => zL a z) ys acc ra⟩
theorem kNA {W : Wd} {Wx : WX} {O : List Nat} {wi : TI} {src : M (List D)} {p b : Bool} {gd : D → EnvD → Option EnvD} {is vs : List Nat} {mt : M Bool} {me : M D}
  (si : ∀ (G : Gh) (L : Lab) (env : EnvD) (σ : L2.St) (H : Hp) (R : It → Hp → Prop), Rel W G O L env σ H → kNq W G O L p Wx env σ H R (src env) → wi σ H R) (hv : ∀ i ∈ is, i ∈ vs) (hl : O.length ≤ tmp) (h0 : O.getD 0 0 = 0 ∨ 0 ∉ vs)
  {G : Gh} {L : Lab} {env : EnvD} {σ : L2.St} {H : Hp} {Q : VK} (R : Rel W G O L env σ H) (h : kDB W G O L (p && b) 1 Wx env σ H Q (dLc b src gd mt me vs env)) :
  tLc wi (tG W O gd is) (tT W Wx0 O mt b) (tE W Wx0 O me 2 b) vs σ H Q :=
 kSZ (IO := kEr W) (fun G L env σ H R r h => si G L env σ H R r (kUG h)) kQR hv hl h0 R h
section
variable {W : Wd} {X : Cx} {Wx : WX} {F : Fc} {O : List Nat} {elt tg iter c : Expr} {scope : Scope} {own : List (Str × Nat)} {src : M (List D)} {p b : Bool} {gd : D → EnvD → Option EnvD} {is : List Nat} {mt : M Bool} {me : M D} {pos : Pos}
def mYes : M Bool := fun env => .ok true env
theorem kEC (hc : X.calm = true) (hN : X.N.Nodup) (hi : DI W X Wx O tg iter src p) (ok : BlkOk X.N X.env.scope scope own)
  (hg : ∀ (s : Shared) (H : Hp) (C : Addr) (cl : List (Str × Addr)) (fp : List Addr), DG W (X.blk s H scope (compEnvC scope cl C X.env) fp) O tg gd is)
  (he : ∀ (s : Shared) (H : Hp) (C : Addr) (cl : List (Str × Addr)) (fp : List Addr), DE W (X.blk s H scope (compEnvC scope cl C X.env) fp) Wx0 O elt me 2 b) (hv : ∀ i ∈ is, i ∈ own.map (·.2)) (hl : O.length ≤ tmp := by decide) (h0 : O.getD 0 0 = 0 ∨ 0 ∉ own.map (·.2) := by decide)
  (hs : ∀ x, foldedSetIterable iter X.env x = pure x := by intro _; rfl) : DO W X Wx O (.ListComp elt [⟨tg, iter, [], 0⟩] scope pos) (dLc b src gd mYes me (own.map (·.2))) 1 (p && b) := by
 obtain ⟨k, wi, pi, si⟩ := hi
 refine ⟨k, _, pe_lc (tt := tT W Wx0 O mYes b) hc hN pi ok (fun s H C cl fp => (hg s H C cl fp).plain_) (fun s H C cl fp => ?_) (fun s H C cl fp => (he s H C cl fp).plain_) hs, fun G L env σ H Q R h => kNA si hv hl h0 R h⟩
 refine ⟨fun pins st σ H' Q I ⟨G, L, env, R, q⟩ => pts_nil.run pins st σ H' Q I ?_⟩
 exact q H' R Ev.refl fun _ => rfl
theorem kFc (hc : X.calm = true) (hN : X.N.Nodup) (hi : DI W X Wx O tg iter src p) (ok : BlkOk X.N X.env.scope scope own)
  (hg : ∀ (s : Shared) (H : Hp) (C : Addr) (cl : List (Str × Addr)) (fp : List Addr), DG W (X.blk s H scope (compEnvC scope cl C X.env) fp) O tg gd is)
  (ht : ∀ (s : Shared) (H : Hp) (C : Addr) (cl : List (Str × Addr)) (fp : List Addr), DT W (X.blk s H scope (compEnvC scope cl C X.env) fp) Wx0 O c mt b)
  (he : ∀ (s : Shared) (H : Hp) (C : Addr) (cl : List (Str × Addr)) (fp : List Addr), DE W (X.blk s H scope (compEnvC scope cl C X.env) fp) Wx0 O elt me 2 b) (hv : ∀ i ∈ is, i ∈ own.map (·.2)) (hl : O.length ≤ tmp := by decide) (h0 : O.getD 0 0 = 0 ∨ 0 ∉ own.map (·.2) := by decide)
  (hs : ∀ x, foldedSetIterable iter X.env x = pure x := by intro _; rfl) : DO W X Wx O (.ListComp elt [⟨tg, iter, [c], 0⟩] scope pos) (dLc b src gd mt me (own.map (·.2))) 1 (p && b) := by
 obtain ⟨k, wi, pi, si⟩ := hi
 exact ⟨k, _, pe_lc hc hN pi ok (fun s H C cl fp => (hg s H C cl fp).plain_) (fun s H C cl fp => pts_one (ht s H C cl fp).plain_) (fun s H C cl fp => (he s H C cl fp).plain_) hs, fun G L env σ H Q R h => kNA si hv hl h0 R h⟩
end
def NewV (W : Wd) (L : Lab) (H : Hp) (d : D) (v : V) (H' : Hp) : Prop :=
 (∃ (pa : Addr) (vs : List V) (ds : List D), d = .lst ds ∧ v = .ref pa ∧ H pa = none ∧ H' = upd H pa (.lst vs) ∧ RpL W (Zo L) H ds vs ∧ vs.length ≤ sizeLine) ∨ (d.hot = false ∧ Ev W No H H' ∧ Rp W (Zo L) H' d v)
def RFO (W : Wd) (y1 y2 : Nat) (r : R2) (F : D → D → Option D) : Prop := ∀ (L : Lab) (H : Hp) (a b d : D) (x y : V) (Q : VK), RpZ W L H y1 a x → RpZ W L H y2 b y → F a b = some d → (∀ a, L a ≠ none → H a ≠ none) → (∀ v H', NewV W L H d v H' → Q v H') → r x y H Q
def CFO (W : Wd) (z : Nat) (r : List V → Hp → VK → Prop) (F : List D → Option D) : Prop := ∀ (L : Lab) (H : Hp) (ds : List D) (vs : List V) (d : D) (Q : VK), AllZ W L H z ds vs → F ds = some d → (∀ a, L a ≠ none → H a ≠ none) → (∀ v H', NewV W L H d v H' → Q v H') → r vs H Q
section
variable {W : Wd} {X : Cx} {Wx : WX} {G : Gh} {O : List Nat} {L : Lab} {env : EnvD} {σ : L2.St} {H H' : Hp} {a b e : Expr} {es : List Expr} {m1 m2 : M D} {z z1 z2 y1 y2 zo : Nat} {p p1 p2 : Bool} {pos : Pos}
theorem kGh {H0 : Hp} {d : D} {v : V} (R : Rel W G O L env σ H) (nv : NewV W L H d v H') (e : Ev W No H0 H ∨ True) : ∃ L', kQW L L' ∧ Nw L L' H ∧ Rel W G O L' env σ H' ∧ Rel W G O L env σ H' ∧ Ev W No H H' ∧ OwN W L L' H' 1 d v ∧ Rp W (Zo L) H' d v := by
 rcases nv with ⟨pa, vs, ds, rfl, rfl, np, rfl, r, sz⟩ | ⟨nl, ev, r⟩
 ·obtain ⟨u, w, r1, r2, o, rr⟩ := kNW R np r sz
  exact ⟨_, u, w, r1, r2, Ev.new np, o, rr⟩
 ·refine ⟨L, ⟨fun _ _ h => h, fun a l h w => by rw [h] at w; cases w⟩, fun _ h => .inl h, R.pure ev, R.pure ev, ev, ?_, r⟩
  have r' := Rp.shun (Z := Zo L) (Z' := Zo (DL.nl L L)) (fun a z _ => (kFu fun _ _ z => z).mp z) d v r
  cases d with
  | lst ds => exact (nomatch nl)
  | obj k ds => exact (nomatch nl)
  | dic ks ds => exact (nomatch nl)
  | _ => exact r'
theorem kRe {r : R2} {F : D → D → Option D} (f : RFO W y1 y2 r F) {ta tb : TE} {Q : VK}
  (sa : ∀ (G : Gh) (L : Lab) (env : EnvD) (σ : L2.St) (H : Hp) (Q : VK), Rel W G O L env σ H → kBp W G O L p1 z1 Wx env σ H Q (m1 env) → ta σ H Q)
  (sb : ∀ (G : Gh) (L : Lab) (env : EnvD) (σ : L2.St) (H : Hp) (Q : VK), Rel W G O L env σ H → kBp W G O L p2 z2 Wx env σ H Q (m2 env) → tb σ H Q)
  (l1 : y1 ≤ z1) (k1 : z1 ≤ 2) (l2 : y2 ≤ z2) (k2 : z2 ≤ 2) (cc : p2 = true ∨ z1 = 2)
  (R : Rel W G O L env σ H) (h : kDB W G O L (p1 && p2) 1 Wx env σ H Q (dOp2 F m1 m2 env)) : tOp r ta tb σ H Q := by
 unfold dOp2 at h
 refine sa G L env σ H _ R ?_
 cases q1 : m1 env with
 | bad => rw [q1] at h; exact h.elim
 | exc c a e => rw [q1] at h; exact h
 | ok d1 e1 =>
  rw [q1] at h
  intro x H1 R1 E1 P1 Z1
  refine sb G L e1 σ H1 _ R1 ?_
  have h : kDB W G O L (p1 && p2) 1 Wx env σ H Q ((m2 e1).bind fun b e2 => lift (F d1 b) e2) := h
  cases q2 : m2 e1 with
  | bad => rw [q2] at h; exact h.elim
  | exc c a e => rw [q2] at h; exact h
  | ok d2 e2 =>
   rw [q2] at h
   intro y H2 R2 E2 P2 Z2
   have h : kDB W G O L (p1 && p2) 1 Wx env σ H Q (lift (F d1 d2) e2) := h
   cases q3 : F d1 d2 with
   | none => rw [q3] at h; exact h.elim
   | some d =>
    rw [q3] at h
    refine f L H2 d1 d2 d x y Q ((Z1.ev E2 cc).le (.inl l1) k1) (Z2.le (.inl l2) k2) q3 R2.dom fun v H' nv => ?_
    obtain ⟨L', u, w, ra, rb, ev, o, rr⟩ := kGh R2 nv (H0 := H) (.inr trivial)
    have E12 : Ev W (Zp (p1 && p2) L) H H2 := (E1.mono fun a z _ => kAO (fun w => (gG6.mp w).1) z).trans (E2.mono fun a z _ => kAO (fun w => (gG6.mp w).2) z)
    exact h v H' L' u (w.back E12) ra rb (E12.trans (ev.mono fun _ z _ => z.elim)) (fun w => by rw [P2 (gG6.mp w).2, P1 (gG6.mp w).1]) o rr
theorem kBs {op : Operator} {r : R2} {F : D → D → Option D} (hr : OpR X (binaryOp op) r) (f : RFO W y1 y2 r F) (ha : DE W X Wx O a m1 z1 p1) (hb : DE W X Wx O b m2 z2 p2)
  (l1 : y1 ≤ z1 := by decide) (k1 : z1 ≤ 2 := by decide) (l2 : y2 ≤ z2 := by decide) (k2 : z2 ≤ 2 := by decide) (cc : p2 = true ∨ z1 = 2 := by first | exact .inl rfl | exact .inr rfl) :
  DO W X Wx O (.BinOp a op b pos) (dOp2 F m1 m2) 1 (p1 && p2) := by
 obtain ⟨k, ta, pa, sa⟩ := ha
 obtain ⟨_, tb, pb, sb⟩ := hb
 exact ⟨k, _, pe_op hr pa pb, fun G L env σ H Q R h => kRe f sa sb l1 k1 l2 k2 cc R h⟩
theorem kTb {r : List V → Hp → VK → Prop} {F : List D → Option D} {ms : M (List D)} {t : TA} {Q : VK} (f : CFO W z r F)
  (s : ∀ (G : Gh) (L : Lab) (env : EnvD) (σ : L2.St) (H : Hp) (Q : List V → Hp → Prop), Rel W G O L env σ H → kCA W G O L p z Wx env σ H Q (ms env) → t σ H Q)
  (R : Rel W G O L env σ H) (h : kDB W G O L p 1 Wx env σ H Q (dCB F ms env)) : tCB r t σ H Q := by
 refine s G L env σ H _ R ?_
 unfold dCB at h
 cases q1 : ms env with
 | bad => rw [q1] at h; exact h.elim
 | exc c a e => rw [q1] at h; exact h
 | ok ds e1 =>
  rw [q1] at h
  intro vs H1 R1 E1 P1 A
  have h : kDB W G O L p 1 Wx env σ H Q (lift (F ds) e1) := h
  cases q2 : F ds with
  | none => rw [q2] at h; exact h.elim
  | some d =>
   rw [q2] at h
   refine f L H1 ds vs d Q A q2 R1.dom fun v H' nv => ?_
   obtain ⟨L', u, w, ra, rb, ev, o, rr⟩ := kGh R1 nv (H0 := H) (.inr trivial)
   exact h v H' L' u (w.back E1) ra rb (E1.trans (ev.mono fun _ z _ => z.elim)) P1 o rr
theorem kLe {id : String} {x : Str} {r : List V → Hp → VK → Prop} {F : List D → Option D} {ms : M (List D)} {p0 pos : Pos} (hc : CallR X (.builtin id) r) (f : CFO W z r F) (hg : Gl X x) (hm : X.mg x = none) (hv : bootBuiltins x = some (.builtin id))
  (ha : DAr W X Wx O (e :: es) ms z p) (hn : x ≠ "__name__" := by decide) (hdb : (x == ("__debug__" : Str)) = false := by decide)
  (he : starEach (e :: es) X.env = (false, eval e X.env) :: starEach es X.env := by rfl) (hpl : (backTo pos (starEach es X.env)).any (·.1) = false := by rfl) :
  DO W X Wx O (.Call (.Name x p0) (e :: es) [] pos) (dCB F ms) 1 p := by
 obtain ⟨k, _, t, pa, s⟩ := ha
 exact ⟨k, _, L2.pe_callB hc hg hm hv pa hn hdb he hpl, fun G L env σ H Q R h => kTb f s R h⟩
end
section
variable {W : Wd} {L : Lab} {H : Hp} {z : Nat} {v : V}
theorem kDh {i : Int} (h : RpZ W L H z (.int i) v) : v = .int i := by
 have h := h.any
 unfold Rp at h
 exact h
theorem kHc {i : Bool} (h : RpZ W L H z (.bool i) v) : v = .bl i := by
 have h := h.any
 unfold Rp at h
 exact h
theorem kFY {i : Str} (h : RpZ W L H z (.str i) v) : v = .str i := by
 have h := h.any
 unfold Rp at h
 exact h
theorem kUy (h : RpZ W L H z .non v) : v = .non := by
 have h := h.any
 unfold Rp at h
 exact h
theorem kIy {ds : List D} (h : RpZ W L H 1 (.lst ds) v) : ∃ a vs, v = .ref a ∧ H a = some (.lst vs) ∧ vs.length ≤ sizeLine ∧ RpL W (Zo L) H ds vs := by
 obtain ⟨a, vs, h1, h2, h3⟩ := h
 exact ⟨a, vs, h1, h2.1, h2.2, h3⟩
theorem kIx {ds : List D} (h : RpZ W L H 1 (.tup ds) v) : ∃ a vs, v = .ref a ∧ SqT W.K H a vs ∧ vs.length ≤ sizeLine ∧ RpL W (Zo L) H ds vs := by
 have h : Rp W (Zo L) H (.tup ds) v := h
 unfold Rp at h
 obtain ⟨a, vs, h1, h2, h3⟩ := h
 exact ⟨a, vs, h1, SqT.of h2.1, h2.2, h3⟩
theorem kOB {ds : List D} (h : RpZ W L H 1 (.ro ds) v) : ∃ a vs, v = .ref a ∧ SqL W.K H a vs ∧ vs.length ≤ sizeLine ∧ RpL W (Zo L) H ds vs := by
 have h : Rp W (Zo L) H (.ro ds) v := h
 unfold Rp at h
 obtain ⟨a, vs, h1, h2, h3⟩ := h
 exact ⟨a, vs, h1, h2.1.sq, h2.2, h3⟩
theorem kLG {i : Int} {Z : Addr → Prop} : Rp W Z H (.int i) (.int i) := by unfold Rp; rfl
theorem kTc {i : Bool} {Z : Addr → Prop} : Rp W Z H (.bool i) (.bl i) := by unfold Rp; rfl
theorem kPm {i : Str} {Z : Addr → Prop} : Rp W Z H (.str i) (.str i) := by unfold Rp; rfl
theorem kDK {i : Int} : RpZ W L H 2 (.int i) (.int i) := kLG (W := W) (H := H) (Z := Zo L)
theorem kBm {i : Bool} : RpZ W L H 2 (.bool i) (.bl i) := kTc (W := W) (H := H) (Z := Zo L)
theorem kMU {i : Str} : RpZ W L H 2 (.str i) (.str i) := kPm (W := W) (H := H) (Z := Zo L)
end
def dEq (a b : D) : Option D := (deq a b).map .bool
def dNe (a b : D) : Option D := (deq a b).map fun c => .bool (!c)
theorem kOq {a b : D} {c : Bool} (h : deq a b = some c) : a.fine = true ∧ b.fine = true ∧ c = PyData.eqv a.py b.py := by
 unfold deq at h
 split at h
 ·rename_i q
  exact ⟨q.1, q.2, (gF3 h).symm⟩
 ·cases h
section
variable {W : Wd} {X : Cx}
theorem kEX (k : X.K = W.K) : RF W 0 0 2 (rEqD X.K) dEq := by
 intro L H a b d x y Q ha hb h dom q
 unfold dEq at h
 cases e : deq a b with
 | none => rw [e] at h; cases h
 | some c =>
  rw [e] at h
  cases h
  obtain ⟨f1, f2, rfl⟩ := kOq e
  have f1' : a.plain = true ∧ SeqAt.shaped a.py = true := by simpa [D.fine] using f1
  have f2' : b.plain = true ∧ SeqAt.shaped b.py = true := by simpa [D.fine] using f2
  refine ⟨a.py, b.py, ?_, ?_, f1'.2, f2'.2, q _ H Ev.refl kBm⟩
  ·rw [k]; exact Rp.dp a x f1'.1 ha.any
  ·rw [k]; exact Rp.dp b y f2'.1 hb.any
theorem kHd (k : X.K = W.K) : RF W 0 0 2 (rNeD X.K) dNe := by
 intro L H a b d x y Q ha hb h dom q
 unfold dNe at h
 cases e : deq a b with
 | none => rw [e] at h; cases h
 | some c =>
  rw [e] at h
  cases h
  obtain ⟨f1, f2, rfl⟩ := kOq e
  have f1' : a.plain = true ∧ SeqAt.shaped a.py = true := by simpa [D.fine] using f1
  have f2' : b.plain = true ∧ SeqAt.shaped b.py = true := by simpa [D.fine] using f2
  refine ⟨a.py, b.py, ?_, ?_, f1'.2, f2'.2, q _ H Ev.refl kBm⟩
  ·rw [k]; exact Rp.dp a x f1'.1 ha.any
  ·rw [k]; exact Rp.dp b y f2'.1 hb.any
def dLt (a b : D) : Option D := match a, b with
 | .int i, .int j => some (.bool (decide (i < j)))
 | .str i, .str j => some (.bool (decide (i.cps.toList < j.cps.toList)))
 | _, _ => none
def dLe (a b : D) : Option D := match a, b with
 | .int i, .int j => some (.bool (decide (i ≤ j)))
 | .str i, .str j => some (.bool (!decide (j.cps.toList < i.cps.toList)))
 | _, _ => none
def dGt (a b : D) : Option D := match a, b with
 | .int i, .int j => some (.bool (decide (j < i)))
 | .str i, .str j => some (.bool (decide (j.cps.toList < i.cps.toList)))
 | _, _ => none
def dGe (a b : D) : Option D := match a, b with
 | .int i, .int j => some (.bool (decide (j ≤ i)))
 | .str i, .str j => some (.bool (!decide (i.cps.toList < j.cps.toList)))
 | _, _ => none
theorem kHy {f : Int → Int → V} {g : Int → Int → D} {F : D → D → Option D} {r : R2} (hF : ∀ a b d, F a b = some d → (∃ i j, a = .int i ∧ b = .int j ∧ d = g i j) ∨ ∃ i j, a = .str i ∧ b = .str j ∧ ∃ c, d = .bool c ∧ ∀ (H : Hp) (Q : VK), Q (.bl c) H → r (.str i) (.str j) H Q)
  (hg : ∀ i j, cst (g i j) = some (f i j)) : RF W 0 0 2 (fun x y H Q => rI0 f x y H Q ∨ r x y H Q) F := by
 intro L H a b d x y Q ha hb h dom q
 rcases hF a b d h with ⟨i, j, rfl, rfl, rfl⟩ | ⟨i, j, rfl, rfl, c, rfl, hr⟩
 ·rw [kDh ha, kDh hb]
  exact .inl ⟨i, j, rfl, rfl, q _ H Ev.refl (kSF (hg i j) _ _)⟩
 ·rw [kFY ha, kFY hb]
  exact .inr (hr H Q (q _ H Ev.refl kBm))
theorem kOD : RF W 0 0 2 (fun x y H Q => rI0 (fun i j => .bl (decide (i < j))) x y H Q ∨ ∃ i j, x = .str i ∧ y = .str j ∧ Q (.bl (decide (i.cps.toList < j.cps.toList))) H) dLt :=
 kHy (g := fun i j => .bool (decide (i < j))) (r := fun x y H Q => ∃ i j, x = V.str i ∧ y = V.str j ∧ Q (.bl (decide (i.cps.toList < j.cps.toList))) H) (fun a b d h => by
  unfold dLt at h
  split at h <;> first | (cases h; exact .inl ⟨_, _, rfl, rfl, rfl⟩) | (cases h; exact .inr ⟨_, _, rfl, rfl, _, rfl, fun H Q q => ⟨_, _, rfl, rfl, q⟩⟩) | cases h) fun _ _ => rfl
theorem kUC : RF W 0 0 2 (fun x y H Q => rI0 (fun i j => .bl (decide (i ≤ j))) x y H Q ∨ ∃ i j, x = .str i ∧ y = .str j ∧ Q (.bl (!decide (j.cps.toList < i.cps.toList))) H) dLe :=
 kHy (g := fun i j => .bool (decide (i ≤ j))) (r := fun x y H Q => ∃ i j, x = V.str i ∧ y = V.str j ∧ Q (.bl (!decide (j.cps.toList < i.cps.toList))) H) (fun a b d h => by
  unfold dLe at h
  split at h <;> first | (cases h; exact .inl ⟨_, _, rfl, rfl, rfl⟩) | (cases h; exact .inr ⟨_, _, rfl, rfl, _, rfl, fun H Q q => ⟨_, _, rfl, rfl, q⟩⟩) | cases h) fun _ _ => rfl
theorem kVE : RF W 0 0 2 (fun x y H Q => rI0 (fun i j => .bl (decide (j < i))) x y H Q ∨ ∃ i j, x = .str i ∧ y = .str j ∧ Q (.bl (decide (j.cps.toList < i.cps.toList))) H) dGt :=
 kHy (g := fun i j => .bool (decide (j < i))) (r := fun x y H Q => ∃ i j, x = V.str i ∧ y = V.str j ∧ Q (.bl (decide (j.cps.toList < i.cps.toList))) H) (fun a b d h => by
  unfold dGt at h
  split at h <;> first | (cases h; exact .inl ⟨_, _, rfl, rfl, rfl⟩) | (cases h; exact .inr ⟨_, _, rfl, rfl, _, rfl, fun H Q q => ⟨_, _, rfl, rfl, q⟩⟩) | cases h) fun _ _ => rfl
theorem kVF : RF W 0 0 2 (fun x y H Q => rI0 (fun i j => .bl (decide (j ≤ i))) x y H Q ∨ ∃ i j, x = .str i ∧ y = .str j ∧ Q (.bl (!decide (i.cps.toList < j.cps.toList))) H) dGe :=
 kHy (g := fun i j => .bool (decide (j ≤ i))) (r := fun x y H Q => ∃ i j, x = V.str i ∧ y = V.str j ∧ Q (.bl (!decide (i.cps.toList < j.cps.toList))) H) (fun a b d h => by
  unfold dGe at h
  split at h <;> first | (cases h; exact .inl ⟨_, _, rfl, rfl, rfl⟩) | (cases h; exact .inr ⟨_, _, rfl, rfl, _, rfl, fun H Q q => ⟨_, _, rfl, rfl, q⟩⟩) | cases h) fun _ _ => rfl
def kON (a b : D) : Option D := match a, b with
 | .non, .non => some (.bool false)
 | _, .non => some (.bool true)
 | _, _ => none
theorem kSv {L : Lab} {H : Hp} {z : Nat} {a : D} {x : V} (h : RpZ W L H z a x) : x = .non ↔ a = .non := by
 have h := h.any
 constructor
 ·intro e
  subst e
  cases a with
  | non => rfl
  | _ => (unfold Rp at h; first | (obtain ⟨_, _, h, _⟩ := h; cases h) | (obtain ⟨_, h, _⟩ := h; cases h) | cases h)
 ·intro e
  subst e
  unfold Rp at h
  exact h
theorem kTe : RF W 0 0 2 (fun x y H Q => y = .non ∧ Q (.bl (!decide (x = .non))) H) kON := by
 intro L H a b d x y Q ha hb h dom q
 cases b with
 | non =>
  refine ⟨kUy hb, ?_⟩
  by_cases e : a = .non
  ·subst e
   cases h
   rw [gH1 ((kSv ha).mpr rfl)]
   exact q _ H Ev.refl kBm
  ·have hd : d = .bool true := by
    cases a <;> first | exact (e rfl).elim | exact (gF3 h).symm
   rw [hd] at q
   rw [gH2 fun z => e ((kSv ha).mp z)]
   exact q _ H Ev.refl kBm
 | _ => cases a <;> cases h
def dIsB (a b : D) : Option D := match a, b with
 | .bool i, .bool j => some (.bool (decide (i = j)))
 | _, _ => none
def kQw (a b : D) : Option D := match a, b with
 | .bool i, .bool j => some (.bool (!decide (i = j)))
 | _, _ => none
theorem kSp : RF W 0 0 2 (fun x y H Q => ∃ a b, x = .bl a ∧ y = .bl b ∧ Q (.bl (decide (a = b))) H) dIsB := by
 intro L H a b d x y Q ha hb h dom q
 unfold dIsB at h
 split at h
 ·cases h
  exact ⟨_, _, kHc ha, kHc hb, q _ H Ev.refl kBm⟩
 ·cases h
theorem kTf : RF W 0 0 2 (fun x y H Q => ∃ a b, x = .bl a ∧ y = .bl b ∧ Q (.bl (!decide (a = b))) H) kQw := by
 intro L H a b d x y Q ha hb h dom q
 unfold kQw at h
 split at h
 ·cases h
  exact ⟨_, _, kHc ha, kHc hb, q _ H Ev.refl kBm⟩
 ·cases h
def i2 (f : Int → Int → Option Int) (a b : D) : Option D := match a, b with
 | .int i, .int j => (f i j).map .int
 | _, _ => none
theorem kRm {C : Int → Int → Prop} {g : Int → Int → Int} {f : Int → Int → Option Int} (h : ∀ i j k, f i j = some k → C i j ∧ k = g i j) : RF W 0 0 2 (rI C fun i j => .int (g i j)) (i2 f) := by
 intro L H a b d x y Q ha hb hd dom q
 unfold i2 at hd
 split at hd
 ·rename_i i j
  cases e : f i j with
  | none => rw [e] at hd; cases hd
  | some k =>
   rw [e] at hd
   cases hd
   obtain ⟨c, rfl⟩ := h i j k e
   exact ⟨i, j, kDh ha, kDh hb, c, q _ H Ev.refl kDK⟩
 ·cases hd
theorem kVD {g : Int → Int → Int} : RF W 0 0 2 (rI0 fun i j => .int (g i j)) (i2 fun i j => some (g i j)) := by
 intro L H a b d x y Q ha hb hd dom q
 unfold i2 at hd
 split at hd
 ·rename_i i j
  cases hd
  exact ⟨i, j, kDh ha, kDh hb, q _ H Ev.refl kDK⟩
 ·cases hd
def dAdd (a b : D) : Option D := match a, b with
 | .int i, .int j => some (.int (i + j))
 | .str i, .str j => if i.length + j.length ≤ sizeLine then some (.str (i ++ j)) else none
 | .lst xs, .lst ys => if xs.length + ys.length ≤ sizeLine then some (.lst (xs ++ ys)) else none
 | .tup xs, .tup ys => if xs.length + ys.length ≤ sizeLine then some (.tup (xs ++ ys)) else none
 | _, _ => none
def kUF (K : PySem.W.Frag) : R2 := fun x y H Q => rI0 (fun i j => .int (i + j)) x y H Q ∨ (∃ i j, x = .str i ∧ y = .str j ∧ i.length + j.length ≤ sizeLine ∧ Q (.str (i ++ j)) H) ∨ rCat x y H Q ∨ rCatA K x y H Q
theorem kAL : OpR X (binaryOp .Add) (kUF X.K) := OpR.or op_add (OpR.or op_add_str (OpR.or op_cat op_catA))
theorem kAK (k : X.K = W.K) : RFO W 1 1 (kUF X.K) dAdd := by
 intro L H a b d x y Q ha hb h dom q
 unfold dAdd at h
 split at h
 ·cases h
  exact .inl ⟨_, _, kDh ha, kDh hb, q _ H (.inr ⟨rfl, Ev.refl, kLG⟩)⟩
 ·split at h
  ·rename_i hz
   cases h
   exact .inr (.inl ⟨_, _, kFY ha, kFY hb, hz, q _ H (.inr ⟨rfl, Ev.refl, kPm⟩)⟩)
  ·cases h
 ·split at h
  ·rename_i xs ys hz
   cases h
   obtain ⟨l, vs, e1, h1, s1, r1⟩ := kIy ha
   obtain ⟨m, us, e2, h2, s2, r2⟩ := kIy hb
   have hz' : vs.length + us.length ≤ sizeLine := by rw [← r1.length, ← r2.length]; exact hz
   exact .inr (.inr (.inl ⟨l, m, vs, us, e1, e2, h1, h2, hz', fun pa np => q _ _ (.inl ⟨pa, _, _, rfl, rfl, np, rfl, r1.append r2, by rw [gG2]; exact hz'⟩)⟩))
  ·cases h
 ·split at h
  ·rename_i xs ys hz
   cases h
   have ha' : Rp W (Zo L) H (.tup xs) x := ha
   have hb' : Rp W (Zo L) H (.tup ys) y := hb
   obtain ⟨l, vs, e1, h1, s1, r1⟩ := kIx ha
   obtain ⟨m, us, e2, h2, s2, r2⟩ := kIx hb
   have hz' : vs.length + us.length ≤ sizeLine := by rw [← r1.length, ← r2.length]; exact hz
   refine .inr (.inr (.inr ⟨l, m, vs, us, e1, e2, by rw [k]; exact h1, by rw [k]; exact h2, hz', fun e => ?_, fun _ e => ?_, fun _ _ pa np => ?_⟩))
   ·subst e
    have : xs = [] := List.eq_nil_of_length_eq_zero (by rw [r1.length]; rfl)
    subst this
    exact q _ H (.inr ⟨rfl, Ev.refl, by rw [e2] at hb'; exact hb'⟩)
   ·subst e
    have : ys = [] := List.eq_nil_of_length_eq_zero (by rw [r2.length]; rfl)
    subst this
    exact q _ H (.inr ⟨rfl, Ev.refl, by rw [gE2, ← e1]; exact ha'⟩)
   ·refine q _ _ (.inr ⟨rfl, Ev.new np, ?_⟩)
    unfold Rp
    exact ⟨pa, _, rfl, ⟨upd_same, by rw [gG2]; exact hz'⟩, RpL.ev (Ev.new np) _ _ (r1.append r2)⟩
  ·cases h
 ·cases h
def dIx (a b : D) : Option D := match a, b with
 | .lst ds, .int i => atI ds i
 | .ro ds, .int i => atI ds i
 | .tup ds, .int i => atI ds i
 | .str z, .int i => if z.length ≤ sizeLine then (atI z.cps.toList i).map fun c => .str ⟨#[c]⟩ else none
 | _, _ => none
theorem kQF {Z : Addr → Prop} {H : Hp} {ds : List D} {vs : List V} {i : Int} {d : D} (r : RpL W Z H ds vs) (h : atI ds i = some d) : ∃ v, atI vs i = some v ∧ Rp W Z H d v := by
 unfold atI at h ⊢
 rw [← r.length]
 cases e : ixN ds.length i with
 | none => rw [e] at h; cases h
 | some j =>
  rw [e] at h
  exact r.getD h
theorem kBa : IxR X (fun x y H Q => rIxL X.K x y H Q ∨ rIxT X.K x y H Q ∨ rIxS x y H Q) := ix_seq
theorem kAZ (k : X.K = W.K) : RF W 1 0 2 (fun x y H Q => rIxL X.K x y H Q ∨ rIxT X.K x y H Q ∨ rIxS x y H Q) dIx := by
 intro L H a b d x y Q ha hb h dom q
 unfold dIx at h
 split at h
 ·obtain ⟨l, vs, e1, h1, s1, r1⟩ := kIy ha
  obtain ⟨v, h2, h3⟩ := kQF r1 h
  exact .inl ⟨l, vs, _, v, e1, kDh hb, SqL.of h1, h2, q v H Ev.refl h3⟩
 ·obtain ⟨l, vs, e1, h1, s1, r1⟩ := kOB ha
  obtain ⟨v, h2, h3⟩ := kQF r1 h
  exact .inl ⟨l, vs, _, v, e1, kDh hb, by rw [k]; exact h1, h2, q v H Ev.refl h3⟩
 ·obtain ⟨l, vs, e1, h1, s1, r1⟩ := kIx ha
  obtain ⟨v, h2, h3⟩ := kQF r1 h
  exact .inr (.inl ⟨l, vs, _, v, e1, kDh hb, by rw [k]; exact h1, h2, q v H Ev.refl h3⟩)
 ·split at h
  ·rename_i hz
   cases e : atI _ _ with
   | none => rw [e] at h; cases h
   | some c =>
    rw [e] at h
    cases h
    exact .inr (.inr ⟨_, _, c, kFY ha, kDh hb, hz, e, q _ H Ev.refl kMU⟩)
  ·cases h
 ·cases h
def kUx : D → Option (List D)
 | .lst ds => some ds
 | .ro ds => some ds
 | .tup ds => some ds
 | _ => none
def dIn (a b : D) : Option D := match b with
 | .str z => (match a with
  | .str i => some (.bool (!(Builtin.Str.occurrences z i 0 z.length 1).isEmpty))
  | _ => none)
 | b => match kUx b with
  | some ds => if a.fine = true ∧ b.fine = true then some (.bool (ds.any fun y => PyData.eqv y.py a.py)) else none
  | none => none
def kDR (a b : D) : Option D := match dIn a b with
 | some (.bool c) => some (.bool (!c))
 | _ => none
def rInT (K : PySem.W.Frag) (neg : Bool) : R2 := fun x y H Q => ∃ d ds, Dp K H x d ∧ Dp K H y (.tuple ds) ∧ SeqAt.shaped d = true ∧ SeqAt.shaped (.tuple ds) = true ∧ Q (.bl (if neg then !ds.any fun z => PyData.eqv z d else ds.any fun z => PyData.eqv z d)) H
theorem kGE {ds : List PyData} (h : SeqAt.shaped (.tuple ds) = true) : PyData.canLayAll0 ds = true ∧ PyData.depthAll ds ≤ 64 := by
 have h1 := SeqAt.canLay_of_shaped h
 have h2 := SeqAt.depth_of_shaped h
 refine ⟨by simpa [PyData.canLay0] using h1, ?_⟩
 have : PyData.depth (.tuple ds) = PyData.depthAll ds + 1 := by simp [PyData.depth]
 omega
theorem kUJ (hu : X.A.units + 65 < cLine) : OpR X (compareOp .In) (rInT X.K false) := fun pins s σ H x y v u Q I rx ry h => by
 obtain ⟨d, ds, hd, he, sd, se, q⟩ := h
 obtain ⟨as, r1⟩ := Dp.reads I d x v hd rx
 obtain ⟨bs, r2⟩ := Dp.reads I (.tuple ds) y u he ry
 exact SeqAt.in_tuple_reads r2 r1 (kGE se).1 (SeqAt.canLay_of_shaped sd) (by have := (kGE se).2; omega) ⟨.bl _, H, I, rfl, q⟩
theorem kPz (hu : X.A.units + 65 < cLine) : OpR X (compareOp .NotIn) (rInT X.K true) := fun pins s σ H x y v u Q I rx ry h => by
 obtain ⟨d, ds, hd, he, sd, se, q⟩ := h
 obtain ⟨as, r1⟩ := Dp.reads I d x v hd rx
 obtain ⟨bs, r2⟩ := Dp.reads I (.tuple ds) y u he ry
 exact SeqAt.notIn_tuple_reads r2 r1 (kGE se).1 (SeqAt.canLay_of_shaped sd) (by have := (kGE se).2; omega) ⟨.bl _, H, I, rfl, q⟩
def kSu (K : PySem.W.Frag) : R2 := fun x y H Q => (∃ i j, x = .str i ∧ y = .str j ∧ Q (.bl (!(Builtin.Str.occurrences j i 0 j.length 1).isEmpty)) H) ∨ rInD K x y H Q ∨ rInT K false x y H Q
def kLI (K : PySem.W.Frag) : R2 := fun x y H Q => (∃ i j, x = .str i ∧ y = .str j ∧ Q (.bl (!(!(Builtin.Str.occurrences j i 0 j.length 1).isEmpty))) H) ∨ rNotInD K x y H Q ∨ rInT K true x y H Q
theorem kIN (hu : X.A.units + 65 < cLine) : OpR X (compareOp .In) (kSu X.K) := OpR.or op_in_str (OpR.or (op_inD hu) (kUJ hu))
theorem kFt (hu : X.A.units + 65 < cLine) : OpR X (compareOp .NotIn) (kLI X.K) := OpR.or op_notin_str (OpR.or (op_notInD hu) (kPz hu))
theorem kSG (a : PyData) : ∀ ds : List D, (pyL ds).any (fun z => PyData.eqv z a) = ds.any fun y => PyData.eqv y.py a
 | [] => by simp [pyL]
 | d :: ds => by simp [pyL, kSG a ds]
theorem kMt {a b d : D} (h : dIn a b = some d) : (∃ i z, a = .str i ∧ b = .str z ∧ d = .bool (!(Builtin.Str.occurrences z i 0 z.length 1).isEmpty)) ∨
  ∃ ds, (a.plain = true ∧ SeqAt.shaped a.py = true) ∧ (b.plain = true ∧ SeqAt.shaped b.py = true) ∧ d = .bool ((pyL ds).any fun z => PyData.eqv z a.py) ∧ (b.py = .list (pyL ds) ∨ b.py = .tuple (pyL ds)) := by
 unfold dIn at h
 split at h
 ·split at h
  ·cases h
   exact .inl ⟨_, _, rfl, rfl, rfl⟩
  ·cases h
 ·rename_i hb
  right
  cases e : kUx b with
  | none => rw [e] at h; cases h
  | some ds =>
   rw [e] at h
   have h : (if a.fine = true ∧ b.fine = true then some (D.bool (ds.any fun y => PyData.eqv y.py a.py)) else none) = some d := h
   split at h
   ·rename_i f
    refine ⟨ds, by simpa [D.fine] using f.1, by simpa [D.fine] using f.2, ?_, ?_⟩
    ·rw [kSG]
     exact (gF3 h).symm
    ·cases b with
     | lst xs => cases e; exact .inl (by simp [D.py])
     | ro xs => cases e; exact .inl (by simp [D.py])
     | tup xs => cases e; exact .inr (by simp [D.py])
     | _ => cases e
   ·cases h
theorem kRl (k : X.K = W.K) : RF W 0 0 2 (kSu X.K) dIn := by
 intro L H a b d x y Q ha hb h dom q
 rcases kMt h with ⟨i, z, rfl, rfl, rfl⟩ | ⟨ds, f1, f2, rfl, e⟩
 ·exact .inl ⟨i, z, kFY ha, kFY hb, q _ H Ev.refl kBm⟩
 ·have h1 := Rp.dp a x f1.1 ha.any
  have h2 := Rp.dp b y f2.1 hb.any
  have s2 := f2.2
  rw [← k] at h1 h2
  rcases e with e | e
  ·rw [e] at h2 s2
   exact .inr (.inl ⟨_, _, h1, h2, f1.2, s2, q _ H Ev.refl kBm⟩)
  ·rw [e] at h2 s2
   exact .inr (.inr ⟨_, _, h1, h2, f1.2, s2, q _ H Ev.refl kBm⟩)
theorem kIL (k : X.K = W.K) : RF W 0 0 2 (kLI X.K) kDR := by
 intro L H a b d x y Q ha hb h dom q
 unfold kDR at h
 split at h
 ·rename_i c hc
  cases h
  rcases kMt hc with ⟨i, z, rfl, rfl, e⟩ | ⟨ds, f1, f2, e0, e⟩
  ·cases e
   exact .inl ⟨i, z, kFY ha, kFY hb, q _ H Ev.refl kBm⟩
  ·cases e0
   have h1 := Rp.dp a x f1.1 ha.any
   have h2 := Rp.dp b y f2.1 hb.any
   have s2 := f2.2
   rw [← k] at h1 h2
   rcases e with e | e
   ·rw [e] at h2 s2
    exact .inr (.inl ⟨_, _, h1, h2, f1.2, s2, q _ H Ev.refl kBm⟩)
   ·rw [e] at h2 s2
    exact .inr (.inr ⟨_, _, h1, h2, f1.2, s2, q _ H Ev.refl kBm⟩)
 ·cases h
end
end DL
namespace DL
open PySem PySem.Spec PyProof.Rows L2 HT
section
variable {prog : Program} {w : World} {A : Around} {E : Value → Shared → Prop} {s : Shared}
theorem kNa (n : Nat) : Builtin.Slice.slicePlaces ((n : Int) - 1) (-1) (-1) = n := by
 unfold Builtin.Slice.slicePlaces
 simp
 omega
theorem kNp (n : Nat) : Builtin.Slice.sliceAdjust none none (-1) (n : Int) = ((n : Int) - 1, -1) := by
 unfold Builtin.Slice.sliceAdjust
 simp
theorem kPv (xs : Array Value) : ((List.range xs.size).filterMap fun (m : Nat) => xs[((xs.size : Int) - 1 + (m : Int) * (-1)).toNat]?).toArray = xs.toList.reverse.toArray := by
 have e : (fun (m : Nat) => xs[((xs.size : Int) - 1 + (m : Int) * (-1)).toNat]?) = (fun k => xs[k]?) ∘ fun m => xs.size - 1 - m := by
  funext m
  have : ((xs.size : Int) - 1 + (m : Int) * (-1)).toNat = xs.size - 1 - m := by omega
  rw [this]
  rfl
 rw [e, ← List.filterMap_map, PySem.W.krv_range, List.filterMap_reverse, PySem.W.krv_all]
theorem kMy {sl : Addr} {vk : Value} {n : Nat} {Q : Int × Int × Nat → Shared → Prop} (hs : s.heap.IsSliceOf sl .none .none vk) (pk : IsPart vk (some (-1))) (h : Q ((n : Int) - 1, -1, n) s) : wpAny (model prog w) A (Builtin.Slice.sliceApplied (.ref sl) (pure (n : Int))) Q E s := by
 obtain ⟨os, hos, hcs, hds⟩ := hs
 unfold Builtin.Slice.sliceApplied Builtin.Slice.sliceFields
 refine wpAny_bind (wpAny_bind (wpAny_field hos hds (x := .none) rfl (wpAny_bind (wpAny_field hos hds (x := .none) rfl (wpAny_bind (wpAny_field hos hds (x := vk) rfl (wpAny_pure ?_)))))))
 refine wpAny_bind (slicePart_ pk ?_)
 show wpAny _ _ (if (((-1 : Int)) == 0) = true then _ else _) _ _ s
 rw [if_neg (by decide)]
 refine wpAny_bind (slicePart_none (wpAny_bind (slicePart_none (wpAny_bind (wpAny_pure ?_)))))
 show wpAny _ _ (match Builtin.Slice.sliceAdjust none none (-1) (n : Int) with | (a, b) => pure (a, (-1 : Int), Builtin.Slice.slicePlaces a b (-1))) _ _ s
 rw [kNp n]
 show wpAny _ _ (pure ((n : Int) - 1, (-1 : Int), Builtin.Slice.slicePlaces ((n : Int) - 1) (-1) (-1))) _ _ s
 rw [kNa]
 exact wpAny_pure h
theorem kHP {t sl : Addr} {its : Array Value} {vk : Value} {Q : Value → Shared → Prop} (ht : IsTup s.heap t its) (hs : s.heap.IsSliceOf sl .none .none vk) (pk : IsPart vk (some (-1)))
  (h : Q (.ref s.heap.objs.size) { s with heap := s.heap.push { cls := .type "tuple", data := .seq its.toList.reverse.toArray } }) (hz : its.size ≤ sizeLine) : wpAny (model prog w) A (getItem (.ref t) (.ref sl)) Q E s := by
 have fits : sizeOk (.seq its.toList.reverse.toArray) := by
  show its.toList.reverse.toArray.size ≤ sizeLine
  simpa using hz
 have isS : s.TypeIs (.ref sl) "slice" := by
  obtain ⟨os, h1, h2, _⟩ := hs
  exact ⟨os, h1, h2⟩
 unfold getItem
 try with_reducible refine wpAny_holding ?_
 first | refine wpAny_bind (wpAny_pure ?_) | skip
 refine wpAny_bind (wpAny_sequenceKey ht.typeIs (by decide) (wpAny_bind ?_))
 refine wpAny_callSpecial?_slot (name := Str.ofString "__getitem__") ht.typeIs PyProof.Rows.slot_tuple_getitem (wpAny_call_entry PyProof.Rows.slot_tuple_getitem ht.typeIs entry_tuple_getitem ?_ (args_tuple_getitem _ _))
 show wpAny _ _ (Builtin.Tuple.tupleItemsOf (.ref t) >>= _) _ _ s
 refine wpAny_bind (tupleItemsOf_ ht (wpAny_bind (wpAny_typeOf isS ?_)))
 rw [if_pos (by decide)]
 refine wpAny_bind (kMy hs pk ?_)
 show wpAny _ _ (if ((((its.size : Int) - 1) == 0 && ((-1 : Int)) == 1 && its.size == its.size)) = true then _ else _) _ _ s
 rw [if_neg (by simp), kPv]
 first
  | exact wpAny_bind (m := Builtin.Tuple.tupleExact _) (wpAny_newObj_type (wpAny_pure ⟨_, rfl, wpAny_pure h⟩) fits)
  | exact wpAny_bind (m := Builtin.Tuple.tupleExact _) (wpAny_newObj_type (wpAny_bind (wpAny_pure (wpAny_pure ⟨_, rfl, wpAny_pure h⟩))) fits)
  | exact wpAny_bind (wpAny_bind (m := Builtin.Tuple.tupleExact _) (wpAny_newObj_type (wpAny_pure (wpAny_pure ⟨_, rfl, wpAny_pure h⟩)) fits))
  | exact wpAny_bind (wpAny_bind (m := Builtin.Tuple.tupleExact _) (wpAny_newObj_type (wpAny_pure ⟨_, rfl, wpAny_pure h⟩) fits))
end
section
variable {W : Wd} {X : Cx} {Wx : WX} {O : List Nat} {e : Expr} {m : M D} {z : Nat} {p : Bool} {pos p1 p2 p3 : Pos} {k : Nat}
def kVC (K : PySem.W.Frag) (te : TE) : TE := fun σ H Q => te σ H fun x H1 => ∃ a xs, x = .ref a ∧ SqT K H1 a xs ∧ ∀ l, H1 l = none → Q (.ref l) (upd H1 l (.tup xs.reverse))
def dRev (d : D) : Option D := match d with
 | .lst ds => some (.lst ds.reverse)
 | .ro ds => some (.lst ds.reverse)
 | .tup ds => some (.tup ds.reverse)
 | _ => none
def dUn (F : D → Option D) (m : M D) : M D := fun env => (m env).bind fun d e => lift (F d) e
theorem PE.or {t u : TE} (h1 : PE X e t) (h2 : PE X e u) : PE X e (fun σ H Q => t σ H Q ∨ u σ H Q) := ⟨fun pins s σ H Q I q => by
 rcases q with q | q
 ·exact h1.run pins s σ H Q I q
 ·exact h2.run pins s σ H Q I q⟩
end
end DL
namespace DL
open PySem PySem.Spec PyProof.Rows L2
section
variable {W : Wd} {X : Cx} {L : Lab} {H : Hp} {z : Nat} {d : D} {vs : List V}
theorem kFH (h : AllZ W L H z [d] vs) : ∃ v, vs = [v] ∧ RpZ W L H z d v := by
 obtain ⟨hl, ha⟩ := h
 match vs, hl, ha with
 | [v], _, ha => exact ⟨v, rfl, ha 0 d v rfl rfl⟩
def dLen : List D → Option D
 | [.lst ds] => some (.int ds.length)
 | [.ro ds] => some (.int ds.length)
 | [.tup ds] => some (.int ds.length)
 | [.str x] => if x.length ≤ sizeLine then some (.int x.length) else none
 | [.obj 4 []] => some (.int 0)
 | _ => none
theorem kMv (k : X.K = W.K) : CF W 0 2 (fun xs H Q => ∃ x n, xs = [x] ∧ LenV X.K x H n ∧ Q (.int n) H) dLen := by
 intro L H ds vs d Q A h dom q
 unfold dLen at h
 split at h
 ·obtain ⟨v, rfl, r⟩ := kFH A
  have r : Rp W No H (.lst _) v := r
  unfold Rp at r
  obtain ⟨a, us, rfl, _, ⟨h1, _⟩, h2⟩ := r
  cases h
  exact ⟨_, _, rfl, .inl ⟨us, SqL.of h1, h2.length⟩, q _ H Ev.refl kDK⟩
 ·obtain ⟨v, rfl, r⟩ := kFH A
  have r : Rp W No H (.ro _) v := r
  unfold Rp at r
  obtain ⟨a, us, rfl, ⟨h1, _⟩, h2⟩ := r
  cases h
  exact ⟨_, _, rfl, .inl ⟨us, by rw [k]; exact h1.sq, h2.length⟩, q _ H Ev.refl kDK⟩
 ·obtain ⟨v, rfl, r⟩ := kFH A
  have r : Rp W No H (.tup _) v := r
  unfold Rp at r
  obtain ⟨a, us, rfl, ⟨h1, _⟩, h2⟩ := r
  cases h
  exact ⟨_, _, rfl, .inr ⟨us, SqT.of h1, h2.length⟩, q _ H Ev.refl kDK⟩
 ·split at h
  ·rename_i hz
   cases h
   obtain ⟨v, rfl, r⟩ := kFH A
   rw [kFY r]
   exact ⟨_, _, rfl, ⟨hz, rfl⟩, q _ H Ev.refl kDK⟩
  ·cases h
 ·obtain ⟨v, rfl, r⟩ := kFH A
  have r : Rp W No H (.obj 4 []) v := r
  unfold Rp at r
  obtain ⟨a, us, rfl, _, h1, h2⟩ := r
  obtain ⟨_, _, h4⟩ := W.kt h1
  cases h
  exact ⟨_, _, rfl, .inr ⟨[], by rw [k]; exact h4.sq _, rfl⟩, q _ H Ev.refl kDK⟩
 ·cases h
def kEp : List D → Option D
 | [.lst ds] => some (.tup ds)
 | [.ro ds] => some (.tup ds)
 | [.tup ds] => some (.tup ds)
 | _ => none
theorem kIR (k : X.K = W.K) : CF W 1 2 (fun xs H Q => ∃ p ys, xs = [.ref p] ∧ ((SqL X.K H p ys ∧ ∀ l, H l = none → Q (.ref l) (upd H l (.tup ys))) ∨ (SqT X.K H p ys ∧ Q (.ref p) H))) kEp := by
 intro L H ds vs d Q A h dom q
 have fin : ∀ (ds : List D) (us : List V), RpL W (Zo L) H ds us → us.length ≤ sizeLine → ∀ l, H l = none → RpZ W L (upd H l (.tup us)) 2 (.tup ds) (.ref l) := fun ds us r sz l nl => by
  show Rp W (Zo L) _ (.tup ds) _
  unfold Rp
  exact ⟨l, us, rfl, ⟨upd_same, sz⟩, RpL.ev (Ev.new nl) _ _ r⟩
 unfold kEp at h
 split at h
 ·cases h
  obtain ⟨v, rfl, r⟩ := kFH A
  obtain ⟨a, us, rfl, h1, sz, r⟩ := kIy r
  exact ⟨a, us, rfl, .inl ⟨SqL.of h1, fun l nl => q _ _ (Ev.new nl) (fin _ us r sz l nl)⟩⟩
 ·cases h
  obtain ⟨v, rfl, r⟩ := kFH A
  obtain ⟨a, us, rfl, h1, sz, r⟩ := kOB r
  exact ⟨a, us, rfl, .inl ⟨by rw [k]; exact h1, fun l nl => q _ _ (Ev.new nl) (fin _ us r sz l nl)⟩⟩
 ·cases h
  obtain ⟨v, rfl, r⟩ := kFH A
  have r' : Rp W (Zo L) H (.tup _) v := r
  obtain ⟨a, us, rfl, h1, sz, r⟩ := kIx r
  exact ⟨a, us, rfl, .inr ⟨by rw [k]; exact h1, q _ H Ev.refl r'⟩⟩
 ·cases h
def kDp : List D → Option (List Bool)
 | [] => some []
 | .bool b :: r => (kDp r).map (b :: ·)
 | _ :: _ => none
def kDA : List D → Option (List Int)
 | [] => some []
 | .int b :: r => (kDA r).map (b :: ·)
 | _ :: _ => none
theorem kJF {Z : Addr → Prop} : ∀ {ds : List D} {us : List V} {bs : List Bool}, RpL W Z H ds us → kDp ds = some bs → us = bs.map V.bl
 | [], us, bs, r, h => by
  unfold RpL at r
  cases h
  exact r
 | d :: ds, us, bs, r, h => by
  unfold RpL at r
  obtain ⟨v, ws, rfl, r1, r2⟩ := r
  cases d with
  | bool b =>
   have h : (kDp ds).map (b :: ·) = some bs := h
   cases e : kDp ds with
   | none => rw [e] at h; cases h
   | some bs' =>
    rw [e] at h
    cases h
    unfold Rp at r1
    rw [r1, kJF r2 e]
    rfl
  | _ => cases h
theorem kKX {Z : Addr → Prop} : ∀ {ds : List D} {us : List V} {bs : List Int}, RpL W Z H ds us → kDA ds = some bs → us = bs.map V.int
 | [], us, bs, r, h => by
  unfold RpL at r
  cases h
  exact r
 | d :: ds, us, bs, r, h => by
  unfold RpL at r
  obtain ⟨v, ws, rfl, r1, r2⟩ := r
  cases d with
  | int b =>
   have h : (kDA ds).map (b :: ·) = some bs := h
   cases e : kDA ds with
   | none => rw [e] at h; cases h
   | some bs' =>
    rw [e] at h
    cases h
    unfold Rp at r1
    rw [r1, kKX r2 e]
    rfl
  | _ => cases h
theorem kKU {d : D} {ds : List D} {v : V} (e : d = .lst ds ∨ d = .ro ds) (k : X.K = W.K) (r : RpZ W L H z d v) : ∃ a us, v = .ref a ∧ SqL X.K H a us ∧ RpL W No H ds us := by
 have r := r.any
 rcases e with rfl | rfl
 ·unfold Rp at r
  obtain ⟨a, us, rfl, _, ⟨h1, _⟩, h2⟩ := r
  exact ⟨a, us, rfl, SqL.of h1, h2⟩
 ·unfold Rp at r
  obtain ⟨a, us, rfl, ⟨h1, _⟩, h2⟩ := r
  exact ⟨a, us, rfl, by rw [k]; exact h1.sq, h2⟩
def dAll : List D → Option D
 | [.lst ds] => (kDp ds).map fun bs => .bool (bs.all id)
 | _ => none
def dAny : List D → Option D
 | [.lst ds] => (kDp ds).map fun bs => .bool (bs.any id)
 | _ => none
def dSum : List D → Option D
 | [.lst ds] => (kDA ds).map fun bs => .int bs.sum
 | _ => none
theorem kVl (k : X.K = W.K) : CF W 0 2 (rAll X.K) dAll := by
 intro L H ds vs d Q A h dom q
 unfold dAll at h
 split at h
 ·cases e : kDp _ with
  | none => rw [e] at h; cases h
  | some bs =>
   rw [e] at h
   cases h
   obtain ⟨v, rfl, r⟩ := kFH A
   obtain ⟨a, us, rfl, h1, h2⟩ := kKU (.inl rfl) k r
   rw [kJF h2 e] at h1
   exact ⟨a, bs, rfl, h1, q _ H Ev.refl kBm⟩
 ·cases h
theorem kVk (k : X.K = W.K) : CF W 0 2 (rAny X.K) dAny := by
 intro L H ds vs d Q A h dom q
 unfold dAny at h
 split at h
 ·cases e : kDp _ with
  | none => rw [e] at h; cases h
  | some bs =>
   rw [e] at h
   cases h
   obtain ⟨v, rfl, r⟩ := kFH A
   obtain ⟨a, us, rfl, h1, h2⟩ := kKU (.inl rfl) k r
   rw [kJF h2 e] at h1
   exact ⟨a, bs, rfl, h1, q _ H Ev.refl kBm⟩
 ·cases h
theorem kHU (k : X.K = W.K) : CF W 0 2 (rSum X.K) dSum := by
 intro L H ds vs d Q A h dom q
 unfold dSum at h
 split at h
 ·cases e : kDA _ with
  | none => rw [e] at h; cases h
  | some bs =>
   rw [e] at h
   cases h
   obtain ⟨v, rfl, r⟩ := kFH A
   obtain ⟨a, us, rfl, h1, h2⟩ := kKU (.inl rfl) k r
   rw [kKX h2 e] at h1
   exact ⟨a, bs, rfl, h1, q _ H Ev.refl kDK⟩
 ·cases h
def dAbs : List D → Option D
 | [.int i] => some (.int (if i < 0 then -i else i))
 | _ => none
theorem kVm : CF W 0 2 (fun xs H Q => ∃ i, xs = [.int i] ∧ Q (.int (if i < 0 then -i else i)) H) dAbs := by
 intro L H ds vs d Q A h dom q
 unfold dAbs at h
 split at h
 ·cases h
  obtain ⟨v, rfl, r⟩ := kFH A
  rw [kDh r]
  exact ⟨_, rfl, q _ H Ev.refl kDK⟩
 ·cases h
def dInt : List D → Option D
 | [.int i] => some (.int i)
 | [.bool b] => some (.int (if b then 1 else 0))
 | _ => none
theorem kMw : CF W 0 2 (fun xs H Q => (∃ i, xs = [.int i] ∧ Q (.int i) H) ∨ ∃ k, xs = [.bl k] ∧ Q (.int (if k then 1 else 0)) H) dInt := by
 intro L H ds vs d Q A h dom q
 unfold dInt at h
 split at h
 ·cases h
  obtain ⟨v, rfl, r⟩ := kFH A
  rw [kDh r]
  exact .inl ⟨_, rfl, q _ H Ev.refl kDK⟩
 ·cases h
  obtain ⟨v, rfl, r⟩ := kFH A
  rw [kHc r]
  exact .inr ⟨_, rfl, q _ H Ev.refl kDK⟩
 ·cases h
end
def cutD {α : Type} (xs : List α) (lo hi : Option Int) : List α := (xs.drop (HT.sIx xs.length 0 lo)).take (HT.sIx xs.length xs.length hi - HT.sIx xs.length 0 lo)
def dCut (d : D) (lo hi : Option Int) : Option D := match d with
 | .lst ds => some (.lst (cutD ds lo hi))
 | .ro ds => some (.lst (cutD ds lo hi))
 | .tup ds => some (.tup (cutD ds lo hi))
 | .str x => if x.length ≤ sizeLine then some (.str (cutS x lo hi)) else none
 | _ => none
def kGw (m : Option (M D)) : M (Option Int) := fun env => match m with
 | none => .ok none env
 | some m => (m env).bind fun d e => match d with
  | .int i => .ok (some i) e
  | _ => .bad
def D.cuts : D → Bool
 | .lst _ => true
 | .ro _ => true
 | .tup _ => true
 | .str _ => true
 | _ => false
def kFM (m : M D) (lo hi : Option (M D)) : M D := fun env => (m env).bind fun d e => bif d.cuts then (kGw lo e).bind fun l e2 => (kGw hi e2).bind fun u e3 => lift (dCut d l u) e3 else .bad
section
variable {W : Wd} {X : Cx} {Wx : WX} {O : List Nat} {e : Expr} {m : M D} {z : Nat} {p : Bool} {pos p2 : Pos} {lo hi : Option Expr} {ml mh : Option (M D)}
structure DP (W : Wd) (X : Cx) (Wx : WX) (O : List Nat) (e : Option Expr) (m : Option (M D)) (p : Bool) : Prop where
 run : ∃ t, PO X e t ∧ ∀ (G : Gh) (L : Lab) (env : EnvD) (σ : L2.St) (H : Hp) (Q : Option Int → Hp → Prop), Rel W G O L env σ H → (match kGw m env with
  | .ok o env' => ∀ H', Rel W G O L env' σ H' → Ev W (Zp p L) H H' → (p = true → env' = env) → Q o H'
  | .exc c a env' => ∀ cv dd H', Rel W G O L env' σ H' → ExR W L c a cv dd H' → Wx cv dd σ H'
  | .bad => False) → t σ H Q
theorem kTN : DP W X Wx O none none true := ⟨_, po_none, fun G L env σ H Q R h => h H R Ev.refl fun _ => rfl⟩
theorem kNi {e : Expr} (h : DE W X Wx O e m z p) : DP W X Wx O (some e) (some m) p := by
 obtain ⟨k, t, pe, s⟩ := h
 refine ⟨_, po_some pe, fun G L env σ H Q R h => s G L env σ H _ R ?_⟩
 cases q : m env with
 | bad => unfold kGw at h; simp only [q] at h; exact h.elim
 | exc c a e => unfold kGw at h; simp only [q] at h; exact h
 | ok d e1 =>
  intro v H' R' E P Z
  unfold kGw at h
  simp only [q] at h
  match d, Z, h with
  | .int i, Z, h => exact ⟨i, kDh Z, h H' R' E P⟩
  | .non, _, h => exact h.elim
  | .bool _, _, h => exact h.elim
  | .str _, _, h => exact h.elim
  | .tup _, _, h => exact h.elim
  | .lst _, _, h => exact h.elim
  | .ro _, _, h => exact h.elim
  | .dic _ _, _, h => exact h.elim
  | .obj _ _, _, h => exact h.elim
theorem kNn {Z : Addr → Prop} {H : Hp} {ds : List D} {vs : List V} {l u : Option Int} (r : RpL W Z H ds vs) : RpL W Z H (cutD ds l u) (cutV vs l u) := by
 unfold cutD cutV
 rw [r.length]
 exact (r.drop _).take _
theorem kOp (h : DE W X Wx O e m z p) {pl ph : Bool} (hl : DP W X Wx O lo ml pl) (hh : DP W X Wx O hi mh ph) (cc : (pl && ph) = true ∨ z = 2 := by first | exact .inl rfl | exact .inr rfl) (l1 : 1 ≤ z := by decide) (k2 : z ≤ 2 := by decide) : DO W X Wx O (.Subscript e (.Slice lo hi none p2) pos) (kFM m ml mh) 1 (p && (pl && ph)) := by
 obtain ⟨hk, t, pe, s⟩ := h
 obtain ⟨tl, pol, sl⟩ := hl
 obtain ⟨th, poh, sh⟩ := hh
 refine ⟨hk, _, PE.or (pe_slice sl_list pe pol poh) (PE.or (pe_slice sl_tupA pe pol poh) (pe_slice sl_str pe pol poh)), fun G L env σ H Q R h => ?_⟩
 have kHB : ∀ (d : D) (e1 : EnvD) (r : V → Option Int → Option Int → Hp → VK → Prop), m env = .ok d e1 → d.cuts = true →
   (∀ (v : V) (H3 : Hp) (l u : Option Int) (d' : D) (e1 : EnvD), Rel W G O L e1 σ H3 → Ev W (Zp (p && (pl && ph)) L) H H3 → ((p && (pl && ph)) = true → e1 = env) → RpZ W L H3 1 d v → dCut d l u = some d' → kDB W G O L (p && (pl && ph)) 1 Wx env σ H Q (.ok d' e1) → r v l u H3 Q) → tSl r t tl th σ H Q := by
  intro d e1 r q1 dc hr
  have h1 : kDB W G O L (p && (pl && ph)) 1 Wx env σ H Q ((kGw ml e1).bind fun l e2 => (kGw mh e2).bind fun u e3 => lift (dCut d l u) e3) := by
   have h1 := h
   unfold kFM at h1
   rw [q1] at h1
   have h1 : kDB W G O L (p && (pl && ph)) 1 Wx env σ H Q (bif d.cuts then (kGw ml e1).bind fun l e2 => (kGw mh e2).bind fun u e3 => lift (dCut d l u) e3 else .bad) := h1
   rw [dc] at h1
   exact h1
  refine s G L env σ H _ R ?_
  rw [q1]
  intro v H1 R1 E1 P1 Z1
  refine sl G L e1 σ H1 _ R1 ?_
  cases ql : kGw ml e1 with
  | bad => rw [ql] at h1; exact h1.elim
  | exc c a e => rw [ql] at h1; exact h1
  | ok l e2 =>
   rw [ql] at h1
   intro H2 R2 E2 P2
   have h2 : kDB W G O L (p && (pl && ph)) 1 Wx env σ H Q ((kGw mh e2).bind fun u e3 => lift (dCut d l u) e3) := h1
   refine sh G L e2 σ H2 _ R2 ?_
   cases qh : kGw mh e2 with
   | bad => rw [qh] at h2; exact h2.elim
   | exc c a e => rw [qh] at h2; exact h2
   | ok u e3 =>
    rw [qh] at h2
    intro H3 R3 E3 P3
    have h3 : kDB W G O L (p && (pl && ph)) 1 Wx env σ H Q (lift (dCut d l u) e3) := h2
    cases qc : dCut d l u with
    | none => rw [qc] at h3; exact h3.elim
    | some d' =>
     rw [qc] at h3
     have E23 : Ev W (Zp (pl && ph) L) H1 H3 := (E2.mono fun a z _ => kAO (fun w => (gG6.mp w).1) z).trans (E3.mono fun a z _ => kAO (fun w => (gG6.mp w).2) z)
     exact hr v H3 l u d' e3 R3 ((E1.mono fun a z _ => kAO (fun w => (gG6.mp w).1) z).trans (E23.mono fun a z _ => kAO (fun w => (gG6.mp w).2) z))
      (fun w => by rw [P3 (gG6.mp (gG6.mp w).2).2, P2 (gG6.mp (gG6.mp w).2).1, P1 (gG6.mp w).1]) ((Z1.ev E23 cc).le (.inl l1) k2) qc h3
 have fin : ∀ (d' : D) (v : V) (e1 : EnvD) (H1 H' : Hp), kDB W G O L (p && (pl && ph)) 1 Wx env σ H Q (.ok d' e1) → Rel W G O L e1 σ H1 → Ev W (Zp (p && (pl && ph)) L) H H1 → ((p && (pl && ph)) = true → e1 = env) → NewV W L H1 d' v H' → Q v H' := fun d' v e1 H1 H' h R1 E1 P1 nv => by
  obtain ⟨L', u, w, ra, rb, ev, o, rr⟩ := kGh R1 nv (H0 := H) (.inr trivial)
  exact h v H' L' u (w.back E1) ra rb (E1.trans (ev.mono fun _ z _ => z.elim)) P1 o rr
 cases q1 : m env with
 | bad =>
  unfold kFM at h
  rw [q1] at h
  exact h.elim
 | exc c a e =>
  refine .inl (s G L env σ H _ R ?_)
  unfold kFM at h
  rw [q1] at h ⊢
  exact h
 | ok d e1 =>
  cases d with
  | lst ds =>
   refine .inl (kHB _ e1 _ q1 rfl fun v H3 l u d' e1 R3 E3 P3 Z3 qc h => ?_)
   cases qc
   obtain ⟨a, vs, rfl, h1, sz, r⟩ := kIy Z3
   exact ⟨a, vs, rfl, SqL.of h1, fun pa np => fin _ _ e1 H3 _ h R3 E3 P3 (.inl ⟨pa, _, _, rfl, rfl, np, rfl, kNn r, Nat.le_trans (cutV_length _ _ _) sz⟩)⟩
  | ro ds =>
   refine .inl (kHB _ e1 _ q1 rfl fun v H3 l u d' e1 R3 E3 P3 Z3 qc h => ?_)
   cases qc
   obtain ⟨a, vs, rfl, h1, sz, r⟩ := kOB Z3
   exact ⟨a, vs, rfl, by rw [hk]; exact h1, fun pa np => fin _ _ e1 H3 _ h R3 E3 P3 (.inl ⟨pa, _, _, rfl, rfl, np, rfl, kNn r, Nat.le_trans (cutV_length _ _ _) sz⟩)⟩
  | tup ds =>
   refine .inr (.inl (kHB _ e1 _ q1 rfl fun v H3 l u d' e1 R3 E3 P3 Z3 qc h => ?_))
   cases qc
   have Z3' : Rp W (Zo L) H3 (.tup ds) v := Z3
   obtain ⟨a, vs, rfl, h1, sz, r⟩ := kIx Z3
   refine ⟨a, vs, rfl, by rw [hk]; exact h1, fun w => fin _ _ e1 H3 _ h R3 E3 P3 (.inr ⟨rfl, Ev.refl, ?_⟩), fun w pa np => fin _ _ e1 H3 _ h R3 E3 P3 (.inr ⟨rfl, Ev.new np, ?_⟩)⟩
   ·have : cutD ds l u = ds := by
     unfold cutD
     rw [r.length, w.1, w.2, List.drop_zero, Nat.sub_zero, ← r.length, List.take_length]
    rw [this]
    exact Z3'
   ·unfold Rp
    exact ⟨pa, _, rfl, ⟨upd_same, Nat.le_trans (cutV_length _ _ _) sz⟩, RpL.ev (Ev.new np) _ _ (kNn r)⟩
  | str x =>
   refine .inr (.inr (kHB _ e1 _ q1 rfl fun v H3 l u d' e1 R3 E3 P3 Z3 qc h => ?_))
   have qc : (if x.length ≤ sizeLine then some (D.str (cutS x l u)) else none) = some d' := qc
   split at qc
   ·rename_i hz
    cases qc
    exact ⟨x, kFY Z3, hz, fin _ _ e1 H3 _ h R3 E3 P3 (.inr ⟨rfl, Ev.refl, kPm⟩)⟩
   ·cases qc
  | _ =>
   exfalso
   unfold kFM at h
   rw [q1] at h
   exact h
end
section
variable {W : Wd} {G : Gh} {O : List Nat} {L : Lab} {env : EnvD} {σ : L2.St} {H : Hp} {n i : Nat}
theorem Rel.mutn (R : Rel W G O L env σ H) {ds ds' : List D} {a : Addr} {vs vs' : List V} (h : env[i]? = some (some (.lst ds))) (o : O.getD i 0 = n + 1) (hv : σ[i]? = some (some (.ref a))) (ha : L a = some [i]) (hh : H a = some (.lst vs))
  (r : ∀ (j : Nat) (d : D) (v : V), ds'[j]? = some d → vs'[j]? = some v → Ow W L H n ([i] ++ [j]) d v) (ln : ds'.length = vs'.length) (sz : vs'.length ≤ sizeLine) : Rel W G O L (env.set i (some (.lst ds'))) σ (upd H a (.lst vs')) := by
 have evA : Ev W (fun b => b = a) H (upd H a (.lst vs')) := Ev.put hh rfl
 have evL : Ev W (Zo L) H (upd H a (.lst vs')) := evA.mono fun b z _ w => by rw [z, ha] at w; cases w
 refine ⟨by rw [gH6, R.len], fun j d e => ?_, fun b z w => R.dom b z (evA.dom b w), R.entry evA fun b z => ⟨i, [], by rw [z]; exact ha⟩, R.ext, R.loc, R.first, R.zero⟩
 by_cases q : i = j
 ·subst q
  have hl : i < env.length := by
   have := (gF8.mp e).1
   simpa using this
  rw [gI3 hl] at e
  have e' : D.lst ds' = d := gF3 (gF3 e)
  subst e'
  refine ⟨.ref a, hv, ?_⟩
  rw [o]
  refine ⟨a, vs', rfl, ha, upd_same, ⟨ln, sz⟩, fun j d v h1 h2 => ?_⟩
  refine Ow.map (fun d v => Rp.ev evL d v) _ _ _ d v (fun b q e1 _ => ⟨e1, evA.ob fun z => ?_⟩) (r j d v h1 h2)
  rw [z, ha] at e1
  have := gF3 e1
  simp at this
 ·rw [gH4 q] at e
  obtain ⟨v', h1, h2⟩ := R.slot j d e
  refine ⟨v', h1, Ow.map (fun d v => Rp.ev evL d v) _ _ _ d v' (fun b q' e1 _ => ⟨e1, evA.ob fun z => ?_⟩) h2⟩
  rw [z, ha] at e1
  have := gF3 e1
  simp at this
  exact q this.1
theorem Ow.flat0 {p q : List Nat} {d : D} {v : V} (h : Rp W (Zo L) H d v) (f : n = 0 ∨ d.hot = false) : Ow W L H n p d v := by
 cases n with
 | zero => exact h
 | succ n =>
  have f := f.resolve_left (by omega)
  cases d with
  | lst ds => cases f
  | obj k ds => cases f
  | dic ks ds => cases f
  | _ => exact h
end
section
variable {W : Wd} {X : Cx} {Wx : WX} {F : Fc} {O O' : List Nat} {e : Expr} {me : M D} {p : Bool} {i n : Nat} {x : Str} {px apos cpos spos : Pos}
theorem kTG {W : Wd} {G : Gh} {L : Lab} {env e1 : EnvD} {σ : L2.St} {H H1 : Hp} (R : Rel W G O L env σ H) (R1 : Rel W G O L e1 σ H1) (o : O.getD i 0 = n + 1) {ds ds1 : List D} (h : env[i]? = some (some (.lst ds))) (h1 : e1[i]? = some (some (.lst ds1))) :
  ∃ a vs vs1, σ[i]? = some (some (.ref a)) ∧ L a = some [i] ∧ H a = some (.lst vs) ∧ H1 a = some (.lst vs1) ∧ ds1.length = vs1.length ∧ vs1.length ≤ sizeLine ∧ ∀ (j : Nat) (d : D) (v : V), ds1[j]? = some d → vs1[j]? = some v → Ow W L H1 n ([i] ++ [j]) d v := by
 obtain ⟨a, vs, s1, l1, h1', _⟩ := R.top h o
 obtain ⟨b, vs1, s2, l2, h2, h3, h4, h5⟩ := R1.top h1 o
 rw [s1] at s2
 cases s2
 exact ⟨a, vs, vs1, s1, l1, h1', h2, h3, h4, h5⟩
theorem kTj {W : Wd} {L : Lab} {H : Hp} {ds : List D} {vs : List V} {d : D} {v : V} (ln : ds.length = vs.length) (h : ∀ (j : Nat) (d : D) (v : V), ds[j]? = some d → vs[j]? = some v → Ow W L H n ([i] ++ [j]) d v) (r : Rp W (Zo L) H d v) (f : n = 0 ∨ d.hot = false) :
  ∀ (j : Nat) (d' : D) (v' : V), (ds ++ [d])[j]? = some d' → (vs ++ [v])[j]? = some v' → Ow W L H n ([i] ++ [j]) d' v' := fun j d' v' h1 h2 => by
 by_cases hj : j < ds.length
 ·rw [gH8 hj] at h1
  rw [gH8 (by omega)] at h2
  exact h j d' v' h1 h2
 ·rw [List.getElem?_append_right (by omega)] at h1
  rw [List.getElem?_append_right (by omega)] at h2
  have e0 : j - ds.length = 0 := by
   have := (gF8.mp h1).1
   simp at this
   omega
  rw [e0] at h1
  rw [show j - vs.length = 0 by omega] at h2
  cases h1
  cases h2
  exact Ow.flat0 (q := []) r f
end
def relabN (f : List Nat → List Nat) (L L1 : Lab) : Lab := fun a => match L a with
 | some l => some l
 | none => (L1 a).map f
section
variable {W : Wd} {G : Gh} {O : List Nat} {L L1 : Lab} {env : EnvD} {σ : L2.St} {H H' : Hp} {f : List Nat → List Nat}
theorem kEY {a : Addr} {l : List Nat} (h : L a = some l) : relabN f L L1 a = some l := by
 unfold relabN
 rw [h]
theorem kId {a : Addr} {l : List Nat} (h : L a = none) (h1 : L1 a = some l) : relabN f L L1 a = some (f l) := by
 unfold relabN
 simp only [h, h1, Option.map_some]
theorem kCw {a : Addr} {l : List Nat} (h : relabN f L L1 a = some l) : L a = some l ∨ (L a = none ∧ ∃ l1, L1 a = some l1 ∧ l = f l1) := by
 unfold relabN at h
 cases q : L a with
 | some l0 => rw [q] at h; exact .inl h
 | none =>
  rw [q] at h
  cases q1 : L1 a with
  | none => rw [q1] at h; cases h
  | some l1 => rw [q1] at h; exact .inr ⟨rfl, l1, rfl, (gF3 h).symm⟩
theorem kFZ (ext : ∀ a l, L a = some l → L1 a = some l) {a : Addr} : relabN f L L1 a ≠ none ↔ L1 a ≠ none := by
 cases q : L a with
 | some l =>
  rw [kEY q, ext a l q]
 | none =>
  cases q1 : L1 a with
  | none =>
   have : relabN f L L1 a = none := by simp only [relabN, q, q1, Option.map_none]
   rw [this]
  | some l1 =>
   rw [kId q q1]
   constructor <;> (intro _ w; cases w)
def kQP (O : List Nat) (L L1 : Lab) : Prop := ∀ a l, L1 a = some l → L a = none → ∃ i q, l = i :: q ∧ O.length ≤ i
theorem Rel.relabN (R : Rel W G O L1 env σ H) (ext : ∀ a l, L a = some l → L1 a = some l) (b : kQP O L L1) (b' : ∀ a l, L1 a = some l → L a = none → ∃ i q, f l = i :: q ∧ O.length ≤ i ∧ i ≠ 0) (x : ∀ a l, G.L a = some l → L a = some l) : Rel W G O (DL.relabN f L L1) env σ H := by
 have sh : ∀ d v, Rp W (Zo L1) H d v → Rp W (Zo (DL.relabN f L L1)) H d v := fun d v => Rp.shun (fun a z _ => (kFZ ext).mp z) d v
 refine ⟨R.len, fun j d e => ?_, fun a z => R.dom a ((kFZ ext).mp z), R.ent, fun a l e => kEY (x a l e), fun a l e g => ?_, R.first, fun hn a q e => ?_⟩
 ·obtain ⟨v, h1, h2⟩ := R.slot j d e
  refine ⟨v, h1, ?_⟩
  by_cases hj : j < O.length
  ·refine Ow.map sh _ [j] [j] d v (fun a r e1 e2 => ⟨?_, Stay.refl⟩) h2
   cases q : L a with
   | some l =>
    have := ext a l q
    rw [e1] at this
    rw [kEY q, ← this]
   | none =>
    obtain ⟨i, q', w, hi⟩ := b a _ e1 q
    injection w with w1 _
    omega
  ·have o : O.getD j 0 = 0 := by
    rw [gH7, gI1.mpr (by omega)]
    rfl
   rw [o] at h2 ⊢
   exact sh d v h2
 ·rcases kCw e with e | ⟨hL, l1, e1, w⟩
  ·exact R.loc a l (ext a l e) g
  ·obtain ⟨i, q, w1, _⟩ := b' a l1 e1 hL
   exact ⟨(R.loc a l1 e1 g).1, i, q, by rw [w, w1]⟩
 ·rcases kCw e with e | ⟨e0, l1, e1, w⟩
  ·exact R.zero hn a q (ext a _ e)
  ·obtain ⟨i, q', w1, _, w3⟩ := b' a l1 e1 e0
   rw [w1] at w
   injection w with w _
   exact (w3 w.symm).elim
end
def relabT (t i : Nat) (L : Lab) : Lab := fun a => match L a with
 | some (j :: q) => if j = t then some (i :: q) else some (j :: q)
 | x => x
section
variable {W : Wd} {G : Gh} {O : List Nat} {L L1 : Lab} {env : EnvD} {σ : L2.St} {H H' : Hp} {n t : Nat}
theorem kBK {i : Nat} {a : Addr} : relabT t i L a ≠ none ↔ L a ≠ none := by
 unfold relabT
 split
 ·rename_i j q e
  rw [e]
  constructor
  ·intro _ w; cases w
  ·intro _ w; split at w <;> cases w
 ·exact Iff.rfl
theorem kKM {i : Nat} {a : Addr} {q : List Nat} (h : L a = some (t :: q)) : relabT t i L a = some (i :: q) := by
 unfold relabT
 rw [h]
 simp
theorem kEf {i : Nat} {a : Addr} {l : List Nat} (h : L a = some l) (ne : ∀ q, l ≠ t :: q) : relabT t i L a = some l := by
 unfold relabT
 split
 ·rename_i j q e
  rw [h] at e
  cases e
  rw [if_neg]
  intro w
  exact ne q (by rw [w])
 ·exact h
theorem kBW {i : Nat} {a : Addr} {l : List Nat} (h : relabT t i L a = some l) : L a = some l ∨ ∃ q, L a = some (t :: q) ∧ l = i :: q := by
 unfold relabT at h
 split at h
 ·rename_i j q e
  split at h
  ·rename_i c
   right
   exact ⟨q, by rw [e, c], (gF3 h).symm⟩
  ·left
   rw [e]; exact h
 ·exact .inl h
theorem Rel.ownT (R : Rel W G O L env σ H) {i : Nat} {d : D} {v : V} (h : Ow W L H n [t] d v) (ht : t ≠ 0) (hi : i ≠ 0 ∨ G.n = 0) (hl : O.length ≤ t) (il : i < O.length) : Rel W G (O.set i n) (relabT t i L) (env.set i (some d)) (σ.set i (some v)) H := by
 have sh : ∀ d v, Rp W (Zo L) H d v → Rp W (Zo (relabT t i L)) H d v := fun d v => Rp.shun (fun a z _ => kBK.mp z) d v
 refine ⟨by rw [gH6, gH6, R.len], fun j d' e => ?_, fun a z => R.dom a (kBK.mp z), R.ent, fun a l e => kEf (R.ext a l e) fun q w => ?_, fun a l e g => ?_, fun hn => ?_, fun hn a q e => ?_⟩
 ·by_cases q : i = j
  ·subst q
   have hlt : i < env.length := by
    have := (gF8.mp e).1
    simpa using this
   rw [gI3 hlt] at e
   have e' : d = d' := gF3 (gF3 e)
   subst e'
   refine ⟨v, gI3 (by rw [← R.len]; exact hlt), ?_⟩
   rw [kDr, if_pos ⟨rfl, il⟩]
   refine Ow.map sh n [t] [i] d v (fun a r e1 e2 => ⟨kKM e1, Stay.refl⟩) h
  ·rw [gH4 q] at e
   obtain ⟨v', h1, h2⟩ := R.slot j d' e
   refine ⟨v', by rw [gH4 q]; exact h1, ?_⟩
   rw [kDr, if_neg (fun z => q z.1)]
   by_cases hj : j < O.length
   ·refine Ow.map sh _ [j] [j] d' v' (fun a r e1 e2 => ⟨kEf e1 fun q' w => ?_, Stay.refl⟩) h2
    have w' : j :: r = t :: q' := w
    injection w' with w1 _
    omega
   ·have o : O.getD j 0 = 0 := by
     rw [gH7, gI1.mpr (by omega)]
     rfl
    rw [o] at h2 ⊢
    exact sh d' v' h2
 ·rw [w] at e
  rcases G.hd a _ e with r | ⟨r, r2⟩
  ·cases r
  ·injection r2 with r3 _
   exact ht r3
 ·rcases kBW e with e | ⟨q, e, w⟩
  ·exact R.loc a l e g
  ·exact ⟨(R.loc a _ e g).1, i, q, w⟩
 ·have h0 : i ≠ 0 := hi.resolve_right hn
  obtain ⟨a, b⟩ := R.first hn
  refine ⟨by rw [gH4 h0]; exact a, ?_⟩
  rw [kDr, if_neg (fun z => h0 z.1)]
  exact b
 ·rcases kBW e with e | ⟨q', e, w⟩
  ·exact R.zero hn a q e
  ·injection w with w _
   exact (hi.resolve_right hn.1 w.symm).elim
theorem Ow.relabT {i t' : Nat} {d : D} {v : V} (h : Ow W L H n [t'] d v) (ne : t' ≠ t) : Ow W (DL.relabT t i L) H n [t'] d v :=
 Ow.map (fun d v => Rp.shun (fun a z _ => kBK.mp z) d v) n [t'] [t'] d v (fun a r e1 _ => ⟨kEf e1 fun q w => by
  have w' : t' :: r = t :: q := w
  injection w' with w1 _
  exact ne w1, Stay.refl⟩) h
end
def tk (k : Nat) : Nat := tmp + 2 + k
structure News (W : Wd) (L : Lab) (H : Hp) (k0 : Nat) (ns : List Nat) (ds : List D) (L' : Lab) (H' : Hp) (vs : List V) : Prop where
 ext : ∀ a l, L a = some l → L' a = some l
 new : ∀ a l, L' a = some l → L a = none → ∃ j q, l = tk (k0 + j) :: q
 nw : Nw L L' H
 len : ds.length = vs.length
 at_ : ∀ (j : Nat) (d : D) (v : V), ds[j]? = some d → vs[j]? = some v → Ow W (nl L L') H' (ns.getD j 0) [tk (k0 + j)] d v
def kOv (W : Wd) (G : Gh) (O : List Nat) (L : Lab) (p : Bool) (k0 : Nat) (ns : List Nat) (Wx : WX) (env : EnvD) (σ : L2.St) (H : Hp) (Q : List V → Hp → Prop) : Out (List D) → Prop
 | .ok ds env' => ∀ vs H' L', News W L H k0 ns ds L' H' vs → Rel W G O L' env' σ H' → Rel W G O L env' σ H' → Ev W (Zp p L) H H' → (p = true → env' = env) → Q vs H'
 | .exc c a env' => ∀ cv dd H', Rel W G O L env' σ H' → ExR W L c a cv dd H' → Wx cv dd σ H'
 | .bad => False
structure DOs (W : Wd) (X : Cx) (Wx : WX) (O : List Nat) (es : List Expr) (m : M (List D)) (k0 : Nat) (ns : List Nat) (p : Bool) : Prop where
 k : X.K = W.K
 len : ∀ env ds e, m env = .ok ds e → ds.length = es.length
 run : ∃ t, PA X es t ∧ ∀ (G : Gh) (L : Lab) (env : EnvD) (σ : L2.St) (H : Hp) (Q : List V → Hp → Prop), Rel W G O L env σ H → kOv W G O L p k0 ns Wx env σ H Q (m env) → t σ H Q
section
variable {W : Wd} {X : Cx} {Wx : WX} {O : List Nat} {e : Expr} {es : List Expr} {m : M D} {n k0 : Nat} {ns : List Nat} {p1 p2 p : Bool} {ms : M (List D)}
theorem kFD (k : X.K = W.K := by rfl) : DOs W X Wx O [] dNil k0 [] true := ⟨k, fun env ds e h => by cases h; rfl, _, pa_nil, fun G L env σ H Q R h => h [] H L ⟨fun _ _ z => z, fun a l z w => (by rw [w] at z; cases z), fun a z => .inl z, rfl, fun j d v h1 _ => by simp at h1⟩ R R Ev.refl fun _ => rfl⟩
theorem kBh (ha : DO W X Wx O e m n p1) (hr : DOs W X Wx O es ms (k0 + 1) ns p2) (hl : O.length ≤ tmp := by decide)
  (hs : starEach (e :: es) X.env = (false, eval e X.env) :: starEach es X.env := by rfl) : DOs W X Wx O (e :: es) (kAa m ms) k0 (n :: ns) (p1 && p2) := by
 obtain ⟨k, t, pe, s⟩ := ha
 obtain ⟨_, ln, u, pr, sr⟩ := hr
 refine ⟨k, fun env ds e h => ?_, _, pa_cons pe pr hs, fun G L env σ H Q R h => s G L env σ H _ R ?_⟩
 ·unfold kAa at h
  cases q1 : m env with
  | bad => rw [q1] at h; cases h
  | exc c a e => rw [q1] at h; cases h
  | ok d1 e1 =>
   rw [q1] at h
   have h : ((ms e1).bind fun ds e2 => Out.ok (d1 :: ds) e2) = .ok ds e := h
   cases q2 : ms e1 with
   | bad => rw [q2] at h; cases h
   | exc c a e => rw [q2] at h; cases h
   | ok ds' e2 =>
    rw [q2] at h
    cases h
    rw [gG0, gG0, ln _ _ _ q2]
 unfold kAa at h
 cases q1 : m env with
 | bad => rw [q1] at h; exact h.elim
 | exc c a e => rw [q1] at h; exact h
 | ok d1 e1 =>
  rw [q1] at h
  intro x H1 L1 u1 w1 R1 R1' E1 P1 o1 r1
  have h : kOv W G O L (p1 && p2) k0 (n :: ns) Wx env σ H Q ((ms e1).bind fun ds e2 => .ok (d1 :: ds) e2) := h
  let f : List Nat → List Nat := fun l => tk k0 :: l.tail
  let L2 := relabN f L L1
  have fin : ∀ a l, L1 a = some l → L a = none → ∃ q, l = tmp :: q := fun a l z w => u1.2 a l z w
  have by1 : kQP O L L1 := fun a l z w => by
   obtain ⟨q, e⟩ := fin a l z w
   exact ⟨tmp, q, e, hl⟩
  have R2 : Rel W G O L2 e1 σ H1 := R1.relabN u1.1 by1 (fun a l z w => ⟨tk k0, l.tail, rfl, by unfold tk; omega, by unfold tk; omega⟩) R.ext
  have zo2 : ∀ a, Zo L2 a ↔ Zo L1 a := fun a => kFZ u1.1
  have ext2 : ∀ a l, L a = some l → L2 a = some l := fun a l z => kEY z
  have o2 : Ow W (nl L L2) H1 n [tk k0] d1 x := Ow.map (fun d v => Rp.shun (fun a z _ => (kFu u1.1).mpr ((zo2 a).mp ((kFu ext2).mp z))) d v) n [tmp] [tk k0] d1 x (fun a r e1 _ => ⟨by
   obtain ⟨q1, q2⟩ := kGg e1
   rw [kGf q1]
   exact kId q1 q2, Stay.refl⟩) o1
  refine sr G L2 e1 σ H1 _ R2 ?_
  cases q2 : ms e1 with
  | bad => rw [q2] at h; exact h.elim
  | exc c a e =>
   rw [q2] at h
   intro cv dd H' R' x
   have rl : ∀ a l, G.L a = some l → L a = some l := R.ext
   refine h cv dd H' (R'.unlabel (fun a l z => ext2 a l z) (fun a i q hi z => ?_) R.ext) ⟨x.1, fun d e => ?_, x.2.2⟩
   ·rcases kCw z with z | ⟨_, l1, _, w⟩
    ·exact z
    ·injection w with w _
     have : tk k0 = tmp + 2 + k0 := rfl
     omega
   ·obtain ⟨y, v, a1, a2, a3⟩ := x.2.1 d e
    refine ⟨y, v, a1, a2, Rp.shun (fun a z _ w => ?_) d v a3⟩
    cases r : L a with
    | none => exact z r
    | some l => rw [ext2 a l r] at w; cases w
  | ok ds e2 =>
   rw [q2] at h
   have h : kOv W G O L (p1 && p2) k0 (n :: ns) Wx env σ H Q (.ok (d1 :: ds) e2) := h
   intro vs H2 L3 N R3 R3' E2 P2
   have zL : ∀ a, Zo L2 a → Zo L3 a := fun a z w => by
    cases r : L2 a with
    | none => exact z r
    | some l => rw [N.ext a l r] at w; cases w
   have E12 : Ev W (Zp (p1 && p2) L) H H2 := (E1.mono fun a z _ => kAO (fun w => (gG6.mp w).1) z).trans2 E2 fun a z hn => by
    cases p2 with
    | true => exact z.elim
    | false =>
     rw [Bool.and_false]
     obtain ⟨i, q, z, hi⟩ := z
     rcases kCw z with z | ⟨_, l1, _, w⟩
     ·exact ⟨i, q, z, hi⟩
     ·injection w with w _
      have : tk k0 = tmp + 2 + k0 := rfl
      omega
   refine h (x :: vs) H2 L3 ⟨fun a l z => N.ext a l (ext2 a l z), fun a l z w => ?_, fun a z => ?_, ?_, fun j d v a1 a2 => ?_⟩ R3 ?_ E12 fun w => ?_
   ·cases r : L2 a with
    | none =>
     obtain ⟨j, q, e⟩ := N.new a l z r
     exact ⟨j + 1, q, by rw [e]; congr 1; unfold tk; omega⟩
    | some l2 =>
     rw [N.ext a l2 r] at z
     rcases kCw r with r | ⟨_, l1, _, r2⟩
     ·rw [w] at r; cases r
     ·exact ⟨0, l1.tail, by rw [← gF3 z, r2] <;> rfl⟩
   ·rcases N.nw a z with z | z
    ·rcases w1 a ((zo2 a).mp z) with z | z
     ·exact .inl z
     ·exact .inr z
    ·exact .inr (E1.dom a z)
   ·rw [gG0, gG0, N.len]
   ·cases j with
    | zero =>
     rw [gE0] at a1 a2
     rw [← gF3 a1, ← gF3 a2]
     show Ow W (nl L L3) H2 n [tk k0] d1 x
     have evZ : Ev W (fun a => Zo L2 a ∨ Zo L3 a) H1 H2 := E2.mono fun a z _ => .inl z.sub
     have x3 : ∀ a l, L a = some l → L3 a = some l := fun a l z => N.ext a l (ext2 a l z)
     refine Ow.map (fun d v r => ?_) n [tk k0] [tk k0] d1 x (fun a r e1 _ => ?_) o2
     ·refine Rp.shun (fun a z _ => Or.inr ((kFu x3).mp z)) d v (Rp.ev evZ d v (Rp.shun (fun a z hn => ?_) d v r))
      rcases z with z | z
      ·exact (kFu ext2).mpr z
      ·exact (kFu ext2).mpr ((N.nw a z).resolve_right hn)
     ·obtain ⟨e0, e1⟩ := kGg (L := L) (L' := L2) e1
      refine ⟨by rw [kGf e0]; exact N.ext a _ e1, E2.ob fun z => ?_⟩
      cases p2 with
      | true => exact z
      | false =>
       obtain ⟨i, q, z, hi⟩ := z
       rw [e1] at z
       have := (List.cons.inj (gF3 z)).1
       have : tk k0 = tmp + 2 + k0 := rfl
       omega
    | succ j =>
     have := N.at_ j d v (by simpa using a1) (by simpa using a2)
     rw [show k0 + (j + 1) = k0 + 1 + j by omega]
     have x3 : ∀ a l, L a = some l → L3 a = some l := fun a l z => N.ext a l (ext2 a l z)
     exact Ow.map (fun d v => Rp.shun (fun a z _ => (kFu N.ext).mpr ((kFu x3).mp z)) d v) _ [tk (k0 + 1 + j)] [tk (k0 + 1 + j)] d v (fun a r e1 _ => ⟨by
      obtain ⟨q1, q2⟩ := kGg e1
      have q0 : L a = none := by
       cases r : L a with
       | none => rfl
       | some l => rw [ext2 a l r] at q1; cases q1
      rw [kGf q0]
      exact q2, Stay.refl⟩) this
   ·refine R3'.unlabel (fun a l z => ext2 a l z) (fun a i q hi z => ?_) R.ext
    rcases kCw z with z | ⟨_, l1, _, w⟩
    ·exact z
    ·injection w with w _
     have : tk k0 = tmp + 2 + k0 := rfl
     omega
   ·rw [P2 (gG6.mp w).2, P1 (gG6.mp w).1]
end
def stE : EnvD → List Nat → List D → EnvD
 | e, i :: is, d :: ds => stE (e.set i (some d)) is ds
 | e, _, _ => e
def stV : L2.St → List Nat → List V → L2.St
 | e, i :: is, d :: ds => stV (e.set i (some d)) is ds
 | e, _, _ => e
def stO : List Nat → List Nat → List Nat → List Nat
 | e, i :: is, d :: ds => stO (e.set i d) is ds
 | e, _, _ => e
theorem kJb {W : Wd} {G : Gh} {H : Hp} : ∀ (is ns : List Nat) (ds : List D) (vs : List V) (k : Nat) (O : List Nat) (L : Lab) (env : EnvD) (σ : L2.St), Rel W G O L env σ H →
  (∀ (j : Nat) (d : D) (v : V), ds[j]? = some d → vs[j]? = some v → Ow W L H (ns.getD j 0) [tk (k + j)] d v) → ds.length = vs.length → ds.length = is.length → ns.length = is.length → (∀ i ∈ is, (i ≠ 0 ∨ G.n = 0) ∧ i < O.length) → O.length ≤ tmp →
  ∃ L', Rel W G (stO O is ns) L' (stE env is ds) (stV σ is vs) H ∧ ∀ a, L' a ≠ none ↔ L a ≠ none
 | [], ns, ds, vs, k, O, L, env, σ, R, h, l1, l2, l3, hi, hl => by
  have : ns = [] := List.eq_nil_of_length_eq_zero l3
  subst this
  have : ds = [] := List.eq_nil_of_length_eq_zero l2
  subst this
  have : vs = [] := List.eq_nil_of_length_eq_zero l1.symm
  subst this
  exact ⟨L, R, fun _ => Iff.rfl⟩
 | i :: is, n :: ns, d :: ds, v :: vs, k, O, L, env, σ, R, h, l1, l2, l3, hi, hl => by
  obtain ⟨h1, h2⟩ := hi i gF1
  have o := h 0 d v rfl rfl
  have R1 := R.ownT (t := tk k) (i := i) (n := n) o (by unfold tk; omega) h1 (by unfold tk; omega) h2
  obtain ⟨L', R2, z⟩ := kJb is ns ds vs (k + 1) _ _ _ _ R1 (fun j d v a1 a2 => by
   have := h (j + 1) d v (by simpa using a1) (by simpa using a2)
   rw [show k + 1 + j = k + (j + 1) by omega]
   exact this.relabT (by unfold tk; omega)) (by simpa using l1) (by simpa using l2) (by simpa using l3) (fun i' hi' => by
   rw [gH6]
   exact hi i' (gF2 _ hi')) (by rw [gH6]; exact hl)
  exact ⟨L', R2, fun a => (z a).trans kBK⟩
def dPar (is : List Nat) (ms : M (List D)) : MS := fun env => match ms env with
 | .ok ds e => .nx (stE e is ds)
 | .exc c a e => .exc c a e
 | .bad => .bad
def okIs (O is : List Nat) : Bool := is.all fun i => (decide (i ≠ 0) || O.getD 0 0 == 0) && decide (i < O.length)
section
variable {W : Wd} {X : Cx} {Wx : WX} {F : Fc} {O O' : List Nat} {e : Expr} {es : List Expr} {me : M D} {ms : M (List D)} {p : Bool} {is ns : List Nat} {st : Stmt}
theorem kPh {t : TA} {K : Ends → L2.St → List V → Hp → Prop} (s : ∀ (G : Gh) (L : Lab) (env : EnvD) (σ : L2.St) (H : Hp) (Q : List V → Hp → Prop), Rel W G O L env σ H → kOv W G O L p 0 ns Wx env σ H Q (ms env) → t σ H Q)
  (hu : ∀ (Dn : Ends) (σ : L2.St) (H : Hp) (vs : List V), vs.length = is.length → Dn.nx (stV σ is vs) H → K Dn σ vs H) (ln : ∀ env ds e, ms env = .ok ds e → ds.length = is.length)
  (hn : ns.length = is.length) (ok : okIs O is = true) (hl : O.length ≤ tmp) (cx : kDe O F.ox = true) : SndS W F Wx O (stO O is ns) (fun Dn σ H => t σ H (K Dn σ)) (dPar is ms) := fun G L env σ H Dn g R h => by
 refine s G L env σ H _ R ?_
 unfold dPar at h
 cases q : ms env with
 | bad => rw [q] at h; exact h.elim
 | exc c a e =>
  rw [q] at h
  exact kCK (z := 0) (p := true) (env := env) (fun hn => (g hn).2.1) cx h
 | ok ds e1 =>
  rw [q] at h
  intro vs H' L' N R1 R1' E P
  have ld := ln _ _ _ q
  obtain ⟨L2, R2, z⟩ := kJb is ns ds vs 0 O L' e1 σ R1 (fun j d v a1 a2 => Ow.map (fun d v => Rp.shun (fun a z _ => (kFu N.ext).mpr z) d v) _ _ _ d v (fun a r e1 e2 => ⟨(kGg e1).2, Stay.refl⟩) (N.at_ j d v a1 a2)) N.len ld hn (fun i hi => by
   have := gH5.mp ok i hi
   have := gG6.mp this
   refine ⟨?_, gF5 this.2⟩
   rcases Bool.or_eq_true_iff.mp this.1 with w | w
   ·exact .inl (gF5 w)
   ·right
    exact Decidable.by_contra fun hn => hn ((R.first hn).2.symm.trans (by simpa using w))) hl
  exact hu Dn σ H' vs (N.len.symm.trans ld) (h _ H' L2 R2 fun _ => ⟨E.mono fun _ z _ => z.sub, fun a w => N.nw a ((z a).mp w)⟩)
theorem kJy {a b : Expr} {x y : Str} {i j : Nat} {px py pt pos : Pos} {kt k2 : Nat} {pt2 : Pos} (ha : DOs W X Wx O [a, b] ms 0 ns p) (ps : ∀ t, PA X [a, b] t → PS X (.Assign [.Tuple [.Name x px, .Name y py] kt pt] (.Tuple [a, b] k2 pt2) pos) (tPar i j t))
  (hn : ns.length = 2 := by rfl) (ok : okIs O [i, j] = true := by decide) (hl : O.length ≤ tmp := by decide) (cx : kDe O F.ox = true := by decide) :
  DS W X Wx F O (.Assign [.Tuple [.Name x px, .Name y py] kt pt] (.Tuple [a, b] k2 pt2) pos) (dPar [i, j] ms) (stO O [i, j] ns) := by
 obtain ⟨k, ln, t, pa, s⟩ := ha
 refine ⟨k, _, ps t pa, kPh s (fun Dn σ H vs lv h => ?_) ln hn ok hl cx⟩
 match vs, lv, h with
 | [v, w], _, h => exact ⟨v, w, rfl, h⟩
theorem kQm {a b c : Expr} {x y z : Str} {i j l : Nat} {px py pz pt pos : Pos} {kt k2 : Nat} {pt2 : Pos} (ha : DOs W X Wx O [a, b, c] ms 0 ns p) (ps : ∀ t, PA X [a, b, c] t → PS X (.Assign [.Tuple [.Name x px, .Name y py, .Name z pz] kt pt] (.Tuple [a, b, c] k2 pt2) pos) (tPar3 i j l t))
  (hn : ns.length = 3 := by rfl) (ok : okIs O [i, j, l] = true := by decide) (hl : O.length ≤ tmp := by decide) (cx : kDe O F.ox = true := by decide) :
  DS W X Wx F O (.Assign [.Tuple [.Name x px, .Name y py, .Name z pz] kt pt] (.Tuple [a, b, c] k2 pt2) pos) (dPar [i, j, l] ms) (stO O [i, j, l] ns) := by
 obtain ⟨k, ln, t, pa, s⟩ := ha
 refine ⟨k, _, ps t pa, kPh s (fun Dn σ H vs lv h => ?_) ln hn ok hl cx⟩
 match vs, lv, h with
 | [u, v, w], _, h => exact ⟨u, v, w, rfl, h⟩
def MF (W : Wd) (r : V → List V → Hp → VK → Prop) (FM : List D → List D → Option (D × List D)) : Prop := ∀ (L : Lab) (H : Hp) (a : Addr) (vs us : List V) (ds args : List D) (d : D) (ds' : List D) (Q : VK), H a = some (.lst vs) → vs.length ≤ sizeLine → RpL W (Zo L) H ds vs → RpL W (Zo L) H args us →
 FM ds args = some (d, ds') → (∀ v vs', RpL W (Zo L) H ds' vs' → Rp W (Zo L) H d v → vs'.length ≤ sizeLine → Q v (upd H a (.lst vs'))) → r (.ref a) us H Q
def kEs (i : Nat) (FM : List D → List D → Option (D × List D)) (ms : M (List D)) : M D := fun env => match env[i]? with
 | some (some (.lst _)) => (ms env).bind fun args e => (match e[i]? with
  | some (some (.lst ds)) => (match FM ds args with
   | some r => .ok r.1 (e.set i (some (.lst r.2)))
   | none => .bad)
  | _ => .bad)
 | _ => .bad
theorem kRg {r : V → List V → Hp → VK → Prop} {FM : List D → List D → Option (D × List D)} {i : Nat} {t : TA} (f : MF W r FM) (s : ∀ (G : Gh) (L : Lab) (env : EnvD) (σ : L2.St) (H : Hp) (Q : List V → Hp → Prop), Rel W G O L env σ H → kCA W G O L p 2 Wx env σ H Q (ms env) → t σ H Q)
  (o : O.getD i 0 = 1) (hi : i < tmp) {K : PySem.W.Frag} {G : Gh} {L : Lab} {env : EnvD} {σ : L2.St} {H : Hp} {Q : VK} (R : Rel W G O L env σ H) (h : kBp W G O L false 2 Wx env σ H Q (kEs i FM ms env)) :
  tBM K "list" r (tVar i) t σ H Q := by
 unfold kEs at h
 split at h
 ·rename_i ds0 e0
  obtain ⟨a0, vs0, s0, l0, h0, _⟩ := R.top e0 o
  refine ⟨.ref a0, s0, .inl ⟨rfl, vs0, SqL.of h0⟩, s G L env σ H _ R ?_⟩
  cases q : ms env with
  | bad => rw [q] at h; exact h.elim
  | exc c a e => rw [q] at h; exact h
  | ok args e1 =>
   rw [q] at h
   intro us H1 R1 E1 P1 A
   have h : kBp W G O L false 2 Wx env σ H Q (match e1[i]? with
    | some (some (.lst ds)) => (match FM ds args with
     | some r => .ok r.1 (e1.set i (some (.lst r.2)))
     | none => .bad)
    | _ => .bad) := h
   split at h
   ·rename_i ds ed
    obtain ⟨a, vs, vs1, s1, l1, h1, h2, h3, h4, h5⟩ := kTG R R1 o e0 ed
    rw [s0] at s1
    cases s1
    cases qf : FM ds args with
    | none => rw [qf] at h; exact h.elim
    | some rr =>
     rw [qf] at h
     refine f L H1 a0 vs1 us ds args rr.1 rr.2 Q h2 h4 (RpL.of h3 fun j d v a1 a2 => h5 j d v a1 a2) A.two qf fun v vs' rl rv sz => ?_
     have evA : Ev W (fun b => b = a0) H1 (upd H1 a0 (.lst vs')) := Ev.put h2 rfl
     have evL : Ev W (Zo L) H1 (upd H1 a0 (.lst vs')) := evA.mono fun b z _ w => by rw [z, l1] at w; cases w
     refine h v _ (R1.mutn ed o s0 l1 h2 (fun j d v a1 a2 => ?_) rl.length sz) ((E1.mono fun a z _ => kAO (p := p) (p' := false) (fun w => nomatch w) z).trans (evA.mono fun b z _ => ⟨i, [], by rw [z]; exact l1, hi⟩)) (fun z => nomatch z) (Rp.ev evL _ v rv)
     obtain ⟨v', w1, w2⟩ := rl.getD a1
     rw [a2] at w1
     rw [gF3 w1]
     exact w2
   ·exact h.elim
 ·exact h.elim
theorem kFE {r : V → List V → Hp → VK → Prop} {FM : List D → List D → Option (D × List D)} {i : Nat} {x nm : Str} {id : String} {px apos cpos : Pos} (slot : Slot "list" nm id) (hty : typeOf (.builtin id) = pure (.type "method_descriptor")) (hm : MtR X id r) (f : MF W r FM) (pv : PE X (.Name x px) (tVar i)) (ha : DAr W X Wx O (e :: es) ms 2 p)
  (o : O.getD i 0 = 1 := by rfl) (hi : i < tmp := by decide)
  (hbase : attributeBase (.Name x px) nm X.env (eval (.Name x px) X.env) = eval (.Name x px) X.env := by rfl)
  (hfew : ((backTo cpos (starEach (e :: es) X.env)).all (fun x => !x.1) && (backToKw cpos (keywordEach [] X.env)).all (fun x => x.1.isSome)
   && decide ((e :: es).length + ([] : List Keyword).length + (if ([] : List Keyword).isEmpty then 0 else 1) < 30)) = true := by rfl)
  (hline : (apos.endLine == cpos.line) = true := by rfl) (hs : starEach (e :: es) X.env = (false, eval e X.env) :: starEach es X.env := by rfl) (hplain : (backTo cpos (starEach es X.env)).any (·.1) = false := by rfl) :
  DE W X Wx O (.Call (.Attribute (.Name x px) nm apos) (e :: es) [] cpos) (kEs i FM ms) 2 false := by
 obtain ⟨k, _, t, pa, s⟩ := ha
 exact ⟨k, _, pe_bm PySem.F.plainAttrs_list slot hty hm pv pa hbase hfew hline hs hplain, fun G L env σ H Q R h => kRg f s o hi R h⟩
def kCz : List D → List D → Option (D × List D) := fun ds args => match args with
 | [d] => if ds.length < sizeLine then some (.non, ds ++ [d]) else none
 | _ => none
theorem rpl1 {H : Hp} {Z : Addr → Prop} {d : D} {us : List V} (h : RpL W Z H [d] us) : ∃ v, us = [v] ∧ Rp W Z H d v := by
 unfold RpL at h
 obtain ⟨v, vs, rfl, r, h⟩ := h
 unfold RpL at h
 subst h
 exact ⟨v, rfl, r⟩
theorem rpl0 {H : Hp} {Z : Addr → Prop} {us : List V} (h : RpL W Z H [] us) : us = [] := by
 unfold RpL at h
 exact h
theorem kEZ : MF W rAppend kCz := fun L H a vs us ds args d ds' Q h sz rd ra hf hq => by
 match args, ra, hf with
 | [x], ra, hf =>
  obtain ⟨v, rfl, rx⟩ := rpl1 ra
  have hf : (if ds.length < sizeLine then some (D.non, ds ++ [x]) else none) = some (d, ds') := hf
  split at hf
  ·rename_i c
   cases hf
   have := rd.length
   refine ⟨a, vs, v, rfl, rfl, h, by omega, hq .non _ (rd.append ?_) (by unfold Rp; rfl) (by simp; omega)⟩
   unfold RpL
   exact ⟨v, [], rfl, rx, by unfold RpL; rfl⟩
  ·cases hf
 | [], _, hf => cases hf
 | _ :: _ :: _, _, hf => cases hf
def mPop : List D → List D → Option (D × List D) := fun ds args => match args, ds[ds.length - 1]? with
 | [], some d => some (d, ds.dropLast)
 | _, _ => none
theorem kSw : MF W rPop mPop := fun L H a vs us ds args d ds' Q h sz rd ra hf hq => by
 match args, ra, hf with
 | [], ra, hf =>
  have := rpl0 ra
  subst this
  unfold mPop at hf
  cases q : ds[ds.length - 1]? with
  | none => rw [q] at hf; cases hf
  | some x =>
   rw [q] at hf
   cases hf
   obtain ⟨v, hv, rv⟩ := rd.getD q
   rw [rd.length] at hv
   refine ⟨a, vs, v, rfl, rfl, h, hv, hq v _ ?_ rv (by simp; omega)⟩
   rw [List.dropLast_eq_take, List.dropLast_eq_take, rd.length]
   exact rd.take _
 | _ :: _, _, hf => cases hf
theorem RpL.erase {Z : Addr → Prop} {H : Hp} {ds : List D} {vs : List V} (h : RpL W Z H ds vs) (i : Nat) : RpL W Z H (ds.eraseIdx i) (vs.eraseIdx i) := by
 rw [List.eraseIdx_eq_take_drop_succ, List.eraseIdx_eq_take_drop_succ]
 exact (h.take _).append (h.drop _)
def kEF (t : M Bool) (b : MS) : Nat → MS
 | 0, _ => .bad
 | n + 1, env => match t env with
  | .ok true e => (match b e with
   | .nx e2 => kEF t b n e2
   | .ct e2 => kEF t b n e2
   | .bk e2 => .nx e2
   | r => r)
  | .ok false e => .nx e
  | .exc c a e => .exc c a e
  | .bad => .bad
theorem kRO {c : Expr} {body : List Stmt} {mt : M Bool} {mb : MS} {pos : Pos} (n : Nat) (hp : PassesOwn (model X.prog X.w) X.A X.env X.xe) (hc : DT W X Wx O c mt p) (hb : DSs W X Wx ⟨O, F.ort, F.ox, F.fr, F.fw⟩ O body mb O) (cx : kDe O F.ox = true := by decide) :
  DS W X Wx F O (.While c body [] pos) (kEF mt mb n) O := by
 obtain ⟨k, tc, pc, sc⟩ := hc
 obtain ⟨_, tb, pb, sb⟩ := hb
 refine ⟨k, _, ps_while hp pc pb, fun G L env σ H Dn g R h => ?_⟩
 refine ⟨fun m σ' H' => ∃ env' L', Rel W G O L' env' σ' H' ∧ (F.fw = true → Fw W L H L' H') ∧ kDq W G F Wx O L' H' Dn (kEF mt mb m env'), ⟨n, env, L, R, fun _ => Fw.refl, h⟩, ?_⟩
 rintro m σ1 H1 ⟨e1, L1, R1, f1, h1⟩
 cases m with
 | zero => exact h1.elim
 | succ m =>
  refine sc G L1 e1 σ1 H1 _ R1 ?_
  have h1 : kDq W G F Wx O L1 H1 Dn (match mt e1 with
   | .ok true e => (match mb e with
    | .nx e2 => kEF mt mb m e2
    | .ct e2 => kEF mt mb m e2
    | .bk e2 => .nx e2
    | r => r)
   | .ok false e => .nx e
   | .exc c a e => .exc c a e
   | .bad => .bad) := h1
  cases q : mt e1 with
  | bad => rw [q] at h1; exact h1.elim
  | exc c a e =>
   rw [q] at h1
   exact kCK (z := 0) (p := true) (env := e1) (fun hn => (g hn).2.1) cx h1
  | ok b e2 =>
   rw [q] at h1
   intro H2 R2 E2 P2
   cases b with
   | false =>
    rw [if_neg (by decide)]
    exact h1 σ1 H2 L1 R2 fun _ => Fw.of E2
   | true =>
    rw [if_pos rfl]
    have h2 : kDq W G F Wx O L1 H1 Dn (match mb e2 with
     | .nx e2 => kEF mt mb m e2
     | .ct e2 => kEF mt mb m e2
     | .bk e2 => .nx e2
     | r => r) := h1
    have h2 := h2.fw fun _ => Fw.of E2
    refine ⟨fun σ3 H3 => ∃ e3 L3, Rel W G O L3 e3 σ3 H3 ∧ (F.fw = true → Fw W L H L3 H3) ∧ kDq W G F Wx O L3 H3 Dn (kEF mt mb m e3), fun σ3 H3 z => ⟨m, by omega, z⟩, ?_⟩
    refine sb G L1 e2 σ1 H2 _ (fun hn => ⟨(g hn).1, (g hn).2.1, (R1.first hn).2⟩) R2 ?_
    have f2 : F.fw = true → Fw W L H L1 H2 := fun w => (f1 w).trans (Fw.of E2)
    cases qb : mb e2 with
    | nx e3 =>
     rw [qb] at h2
     exact fun σ4 H4 L4 R4 f4 => ⟨e3, L4, R4, fun w => (f2 w).trans (f4 w), h2.fw f4⟩
    | ct e3 =>
     rw [qb] at h2
     exact fun σ4 H4 L4 R4 f4 => ⟨e3, L4, R4, fun w => (f2 w).trans (f4 w), h2.fw f4⟩
    | bk e3 =>
     rw [qb] at h2
     exact fun σ4 H4 L4 R4 f4 => h2 σ4 H4 L4 R4 f4
    | rt d e3 => rw [qb] at h2; exact h2
    | exc c a e3 => rw [qb] at h2; exact h2
    | bad => rw [qb] at h2; exact h2.elim
end
section
variable {W : Wd} {X : Cx} {Wx : WX} {O : List Nat} {a b c e : Expr} {m m1 m2 m3 : M D} {z z1 z2 z3 : Nat} {p p1 p2 p3 : Bool} {pos : Pos}
def iSub : D → D → Option D := i2 fun i j => some (i - j)
def iMul : D → D → Option D := i2 fun i j => if (-(2 ^ 64) < i ∧ i < 2 ^ 64) ∨ (-(2 ^ 64) < j ∧ j < 2 ^ 64) then some (i * j) else none
def iDiv : D → D → Option D := i2 fun i j => if 0 < j ∧ j < 1073741824 then some (i / j) else none
def iMod : D → D → Option D := i2 fun i j => if 0 < j then some (i % j) else none
def iPow : D → D → Option D := i2 fun i j => if 0 ≤ j ∧ j ≤ 1000000 ∧ i.natAbs < 2 ^ 64 then some (i ^ j.toNat) else none
theorem kFI : RF W 0 0 2 (rI0 fun i j => .int (i - j)) iSub := kVD
theorem kIQ {P : Prop} [Decidable P] {α : Type} {x k : α} (h : (if P then some x else none) = some k) : P ∧ k = x := by
 by_cases c : P
 ·rw [if_pos c] at h
  exact ⟨c, (gF3 h).symm⟩
 ·rw [if_neg c] at h
  cases h
theorem kNJ : RF W 0 0 2 (rI CMul fun i j => .int (i * j)) iMul := kRm fun i j _ h => kIQ (P := (-(2 ^ 64) < i ∧ i < 2 ^ 64) ∨ (-(2 ^ 64) < j ∧ j < 2 ^ 64)) h
theorem kSq : RF W 0 0 2 (rI CDiv fun i j => .int (i / j)) iDiv := kRm fun i j _ h => kIQ (P := 0 < j ∧ j < 1073741824) h
theorem kLH : RF W 0 0 2 (rI (fun _ j => 0 < j) fun i j => .int (i % j)) iMod := kRm fun _ _ _ h => kIQ h
theorem kUB : RF W 0 0 2 (rI CPow fun i j => .int (i ^ j.toNat)) iPow := kRm fun i j _ h => kIQ (P := 0 ≤ j ∧ j ≤ 1000000 ∧ i.natAbs < 2 ^ 64) h
def kKk (F F' : D → D → Option D) (m1 m2 m3 : M D) : M D := fun env => (m1 env).bind fun a e1 => (m2 e1).bind fun b e2 => match F a b with
 | some (.bool true) => (m3 e2).bind fun c e3 => lift (F' b c) e3
 | some (.bool false) => .ok (.bool false) e2
 | _ => .bad
theorem kPj {r r' : R2} {F F' : D → D → Option D} (f : RF W 0 0 2 r F) (f' : RF W 0 0 2 r' F') {ta tb tc : TE} {G : Gh} {L : Lab} {env : EnvD} {σ : L2.St} {H : Hp} {Q : VK}
  (sa : ∀ (G : Gh) (L : Lab) (env : EnvD) (σ : L2.St) (H : Hp) (Q : VK), Rel W G O L env σ H → kBp W G O L true z1 Wx env σ H Q (m1 env) → ta σ H Q)
  (sb : ∀ (G : Gh) (L : Lab) (env : EnvD) (σ : L2.St) (H : Hp) (Q : VK), Rel W G O L env σ H → kBp W G O L true z2 Wx env σ H Q (m2 env) → tb σ H Q)
  (sc : ∀ (G : Gh) (L : Lab) (env : EnvD) (σ : L2.St) (H : Hp) (Q : VK), Rel W G O L env σ H → kBp W G O L true z3 Wx env σ H Q (m3 env) → tc σ H Q)
  (k1 : z1 ≤ 2) (k2 : z2 ≤ 2) (k3 : z3 ≤ 2) (R : Rel W G O L env σ H) (h : kBp W G O L true 2 Wx env σ H Q (kKk F F' m1 m2 m3 env)) : tChain r r' ta tb tc σ H Q := by
 unfold kKk at h
 refine sa G L env σ H _ R ?_
 cases q1 : m1 env with
 | bad => rw [q1] at h; exact h.elim
 | exc c a e => rw [q1] at h; exact h
 | ok d1 e1 =>
  rw [q1] at h
  intro x H1 R1 E1 P1 Z1
  refine sb G L e1 σ H1 _ R1 ?_
  have h : kBp W G O L true 2 Wx env σ H Q ((m2 e1).bind fun b e2 => match F d1 b with
   | some (.bool true) => (m3 e2).bind fun c e3 => lift (F' b c) e3
   | some (.bool false) => .ok (.bool false) e2
   | _ => .bad) := h
  cases q2 : m2 e1 with
  | bad => rw [q2] at h; exact h.elim
  | exc c a e => rw [q2] at h; exact h
  | ok d2 e2 =>
   rw [q2] at h
   intro y H2 R2 E2 P2 Z2
   have h : kBp W G O L true 2 Wx env σ H Q (match F d1 d2 with
    | some (.bool true) => (m3 e2).bind fun c e3 => lift (F' d2 c) e3
    | some (.bool false) => .ok (.bool false) e2
    | _ => .bad) := h
   have go : ∀ k, F d1 d2 = some (.bool k) → kBp W G O L true 2 Wx env σ H Q (if k = true then (m3 e2).bind fun c e3 => lift (F' d2 c) e3 else .ok (.bool false) e2) →
     r x y H2 (fun z H3 => ∃ k, z = .bl k ∧ (if k = true then tc σ H3 fun w' H4 => r' y w' H4 Q else Q (.bl false) H3)) := fun k qf h => by
    refine f L H2 d1 d2 _ x y _ ((Z1.ev E2 (.inl rfl)).le (.inr rfl) k1) (Z2.le (.inr rfl) k2) qf R2.dom fun v H3 E3 Z3 => ?_
    have ev := kHc Z3
    subst ev
    refine ⟨k, rfl, ?_⟩
    cases k with
    | false =>
     rw [if_neg (by decide)] at h ⊢
     exact h _ H3 (R2.pure E3) ((E1.trans E2).trans E3) (fun _ => by rw [P2 rfl, P1 rfl]) kBm
    | true =>
     rw [if_pos rfl] at h ⊢
     refine sc G L e2 σ H3 _ (R2.pure E3) ?_
     cases q3 : m3 e2 with
     | bad => rw [q3] at h; exact h.elim
     | exc c a e => rw [q3] at h; exact h
     | ok d3 e3 =>
      rw [q3] at h
      intro w H4 R4 E4 P4 Z4
      have h : kBp W G O L true 2 Wx env σ H Q (lift (F' d2 d3) e3) := h
      cases q4 : F' d2 d3 with
      | none => rw [q4] at h; exact h.elim
      | some d =>
       rw [q4] at h
       refine f' L H4 d2 d3 d y w Q ((Z2.ev (p := true) (E3.trans E4) (.inl rfl)).le (.inr rfl) k2) (Z4.le (.inr rfl) k3) q4 R4.dom fun v H5 E5 Z5 => ?_
       exact h v H5 (R4.pure E5) ((((E1.trans E2).trans E3).trans E4).trans E5) (fun _ => by rw [P4 rfl, P2 rfl, P1 rfl]) Z5
   cases qf : F d1 d2 with
   | none => rw [qf] at h; exact h.elim
   | some df =>
    rw [qf] at h
    cases df with
    | bool k => cases k <;> exact go _ qf h
    | _ => exact h.elim
theorem kRN {op op' : CmpOp} {r r' : R2} {F F' : D → D → Option D} (ho : OpR X (compareOp op) r) (f : RF W 0 0 2 r F) (ho' : OpR X (compareOp op') r') (f' : RF W 0 0 2 r' F') (ha : DE W X Wx O a m1 z1 true) (hb : DE W X Wx O b m2 z2 true) (hc : DE W X Wx O c m3 z3 true)
  (k1 : z1 ≤ 2 := by decide) (k2 : z2 ≤ 2 := by decide) (k3 : z3 ≤ 2 := by decide) (hm : lastMarks [op, op'] [b, c] = false := by with_unfolding_all rfl) : DT W X Wx O (.Compare a [op, op'] [b, c] pos) (kAp (kKk F F' m1 m2 m3)) true := by
 obtain ⟨k, ta, pa, sa⟩ := ha
 obtain ⟨_, tb, pb, sb⟩ := hb
 obtain ⟨_, tc, pc, sc⟩ := hc
 refine ⟨k, _, pt_chain ho ho' pa pb pc hm, fun G L env σ H Q R h => ?_⟩
 refine kPj (Q := fun v H1 => ∃ b, v = .bl b ∧ Q b H1) f f' sa sb sc k1 k2 k3 R ?_
 unfold kAp at h
 cases q : kKk F F' m1 m2 m3 env with
 | bad => rw [q] at h; exact h.elim
 | exc c a e => rw [q] at h; exact h
 | ok d e1 =>
  rw [q] at h
  intro v H1 R1 E1 P1 Z1
  cases d with
  | bool b =>
   have h : kLm W G O L true Wx env σ H Q (.ok b e1) := h
   exact ⟨b, kHc Z1, h H1 R1 E1 P1⟩
  | _ => exact h.elim
def dTy : D → Option String
 | .non => some "NoneType"
 | .bool _ => some "bool"
 | .int _ => some "int"
 | .str _ => some "str"
 | .tup _ => some "tuple"
 | .lst _ => some "list"
 | .ro _ => some "list"
 | .dic _ _ => some "dict"
 | .obj 4 [] => some "tuple"
 | .obj _ _ => none
theorem kUz {Z : Addr → Prop} {H : Hp} {d : D} {v : V} {t : String} (h : Rp W Z H d v) (e : dTy d = some t) : TyX W.K H v (.type t) := by
 cases d with
 | non => cases e; unfold Rp at h; rw [h]; exact .base .non
 | bool b => cases e; unfold Rp at h; rw [h]; exact .base (.bl b)
 | int i => cases e; unfold Rp at h; rw [h]; exact .base (.int i)
 | str x => cases e; unfold Rp at h; rw [h]; exact .base (.str x)
 | tup ds =>
  cases e
  unfold Rp at h
  obtain ⟨a, vs, rfl, ⟨h, _⟩, _⟩ := h
  exact .base (.tup h)
 | lst ds =>
  cases e
  unfold Rp at h
  obtain ⟨a, vs, rfl, _, ⟨h, _⟩, _⟩ := h
  exact .base (.lst h)
 | ro ds =>
  cases e
  unfold Rp at h
  obtain ⟨a, vs, rfl, ⟨h, _⟩, _⟩ := h
  rcases h with ⟨o, h⟩ | ⟨o, its, n, h, hc, _⟩
  ·exact .base (.frz h)
  ·exact .kList h hc
 | dic ks ds =>
  cases e
  unfold Rp at h
  obtain ⟨a, vs, rfl, _, h, _⟩ := h
  rcases h with ⟨kvs, h, _⟩ | ⟨kvs, h, _⟩
  ·exact .base (.dK h)
  ·exact .base (.dT h)
 | obj kk ds =>
  by_cases c : kk = 4 ∧ ds = []
  ·obtain ⟨rfl, rfl⟩ := c
   cases e
   unfold Rp at h
   obtain ⟨a, vs, rfl, _, h, _⟩ := h
   obtain ⟨_, _, o, its, n, h1, h2, _⟩ := W.kt h
   exact .kTuple h1 h2
  ·unfold dTy at e
   split at e
   all_goals first | (rename_i w; cases w; done) | skip
   all_goals first | (cases e; done) | skip
   all_goals (rename_i w; cases w; exact (c ⟨rfl, rfl⟩).elim)
def isK (t c : String) : Bool := t == c || (t == "bool" && c == "int")
theorem kJu {K : PySem.W.Frag} {d : D} {t c : String} (e : dTy d = some t) (hc : c = "str" ∨ c = "int" ∨ c = "tuple" ∨ c = "list" ∨ c = "bool" ∨ c = "dict") : PySem.W.kitOne K (.type t) (.type c) = some (isK t c) := by
 have ht : t = "NoneType" ∨ t = "bool" ∨ t = "int" ∨ t = "str" ∨ t = "tuple" ∨ t = "list" ∨ t = "dict" := by
  unfold dTy at e
  split at e <;> cases e <;> simp
 rcases ht with rfl | rfl | rfl | rfl | rfl | rfl | rfl <;> rcases hc with rfl | rfl | rfl | rfl | rfl | rfl <;> kernel_rfl
def dIsT (c : String) (d : D) : Option D := (dTy d).map fun t => .bool (isK t c)
theorem kQt {x : Str} {c : String} {p0 p1 : Pos} (h : DE W X Wx O e m z p) (k2 : z ≤ 2 := by decide) (hg : Gl X "isinstance" := by rfl) (hm : X.mg "isinstance" = none) (hg2 : Gl X x := by rfl) (hm2 : X.mg x = none) (hb : bootBuiltins x = some (.type c) := by decide +kernel)
  (hc : c = "str" ∨ c = "int" ∨ c = "tuple" ∨ c = "list" ∨ c = "bool" ∨ c = "dict" := by decide) (hn : x ≠ "__name__" := by decide) (hd : (x == ("__debug__" : Str)) = false := by decide)
  (he : starEach (e :: [.Name x p1]) X.env = (false, eval e X.env) :: starEach [.Name x p1] X.env := by rfl) (hs2 : starEach (.Name x p1 :: []) X.env = (false, eval (.Name x p1) X.env) :: starEach [] X.env := by rfl) (hpl : (backTo pos (starEach [.Name x p1] X.env)).any (·.1) = false := by rfl) :
  DE W X Wx O (.Call (.Name "isinstance" p0) [e, .Name x p1] [] pos) (dUn (dIsT c) m) 2 p := by
 obtain ⟨k, t, pe, s⟩ := h
 refine ⟨k, _, L2.pe_callB call_isi hg hm (by decide +kernel) (pa_cons pe (pa_cons (pe_bltn hg2 hm2 hb (v := V.ty c) rfl hn hd) pa_nil hs2) he) (by decide) (by decide) he hpl, fun G L env σ H Q R h => s G L env σ H _ R ?_⟩
 unfold dUn at h
 cases q1 : m env with
 | bad => rw [q1] at h; exact h.elim
 | exc c a e => rw [q1] at h; exact h
 | ok d e1 =>
  rw [q1] at h
  intro v H1 R1 E1 P1 Z1
  have h : kBp W G O L p 2 Wx env σ H Q (lift (dIsT c d) e1) := h
  unfold dIsT at h
  cases qt : dTy d with
  | none => rw [qt] at h; exact h.elim
  | some ty =>
   rw [qt] at h
   have hq : Q (.bl (isK ty c)) H1 := h _ H1 R1 E1 P1 kBm
   refine ⟨v, .ty c, .type ty, .type c, isK ty c, rfl, .ty c, ?_, kJu qt hc, hq⟩
   rw [k]
   exact kUz Z1.any qt
end
theorem takes0 {X : Cx} : Takes X Wx0 := fun u s' h => by
 obtain ⟨a, B, sI, pins, σ, H, cls, d, e, I, nb, up, sky, na, os, ag, w⟩ := h
 exact w.elim
theorem u64 {k : Nat} {A : Around} (hr : Room k A) : A.units + 64 < cLine := by
 have := hr.un
 omega
theorem u65 {k : Nat} {A : Around} (hr : Room k A) : A.units + 65 < cLine := by
 have := hr.un
 omega
theorem u70 {k : Nat} {A : Around} (hr : Room k A) : A.units + 70 < cLine := by
 have := hr.un
 omega
section
variable {W : Wd} {X : Cx} {Wx : WX} {F : Fc} {O : List Nat} {elt tg iter c : Expr} {scope : Scope} {own : List (Str × Nat)} {src : M (List D)} {p b : Bool} {gd : D → EnvD → Option EnvD} {is : List Nat} {mt : M Bool} {me : M D} {pos spos py : Pos} {i : Nat} {y : Str}
theorem DT.weak {e : Expr} {m : M Bool} {p p' : Bool} (h : DT W X Wx O e m p) (hp : p' = true → p = true := by decide) : DT W X Wx O e m p' := by
 obtain ⟨k, t, pe, s⟩ := h
 refine ⟨k, t, pe, fun G L env σ H Q R hq => s G L env σ H Q R ?_⟩
 cases q : m env with
 | ok d env' =>
  rw [q] at hq
  exact fun H' R' E P => hq H' R' (E.mono fun a z _ => kAO hp z) fun w => P (hp w)
 | exc c a env' => rw [q] at hq; exact hq
 | bad => rw [q] at hq; exact hq.elim
theorem kNz {te : TE} {m : M D} {n : Nat} (se : ∀ (G : Gh) (L : Lab) (env : EnvD) (σ : L2.St) (H : Hp) (Q : VK), Rel W G O L env σ H → kDB W G O L p n Wx env σ H Q (m env) → te σ H Q)
  (hi : i ≠ 0 ∨ O.getD 0 0 = 0) (hl : O.length ≤ tmp) (il : i < O.length) (cx : kDe O F.ox = true) : SndS W F Wx O (O.set i n) (tAsg te (gName i)) (dSet i m) := fun G L env σ H Dn g R h => se G L env σ H _ R (by
 unfold dSet at h
 cases q : m env with
 | bad => rw [q] at h; exact h.elim
 | exc c a e =>
  rw [q] at h
  exact kCK (z := 0) (p := true) (env := env) (fun hn => (g hn).2.1) cx h
 | ok d e1 =>
  rw [q] at h
  intro v H' L' u w R1 R2 E P o r
  exact h _ H' _ (R1.own (o.ow u.1) (hi.imp id fun z => Decidable.by_contra fun hn => hn ((R.first hn).2.symm.trans z)) hl il) fun _ => ⟨E.mono fun _ z _ => z.sub, fun a z => w a (kIM.mp z)⟩)
theorem kOo (hc : X.calm = true) (hN : X.N.Nodup) (hy : X.N[i]? = some y) (hyl : X.env.scope.names.lookup y = some .local) (hsw : swapsWith (.ListComp elt [⟨tg, iter, [], 0⟩] scope pos) (some (.Name y py)) spos.line X.env = pure true)
  (hi : DI W X Wx O tg iter src p) (ok : BlkOk X.N X.env.scope scope own)
  (hg : ∀ (s : Shared) (H : Hp) (C : Addr) (cl : List (Str × Addr)) (fp : List Addr), DG W (X.blk s H scope (compEnvC scope cl C X.env) fp) O tg gd is)
  (he : ∀ (s : Shared) (H : Hp) (C : Addr) (cl : List (Str × Addr)) (fp : List Addr), DE W (X.blk s H scope (compEnvC scope cl C X.env) fp) Wx0 O elt me 2 b) (hv : ∀ i ∈ is, i ∈ own.map (·.2)) (hl : O.length ≤ tmp := by decide) (h0 : O.getD 0 0 = 0 ∨ 0 ∉ own.map (·.2) := by decide)
  (hi0 : i ≠ 0 ∨ O.getD 0 0 = 0 := by decide) (il : i < O.length := by decide) (cx : kDe O F.ox = true := by decide)
  (hs : ∀ x, foldedSetIterable iter X.env x = pure x := by intro _; rfl) : DS W X Wx F O (.Assign [.Name y py] (.ListComp elt [⟨tg, iter, [], 0⟩] scope pos) spos) (dSet i (dLc b src gd mYes me (own.map (·.2)))) (O.set i 1) := by
 obtain ⟨k, wi, pi, si⟩ := hi
 refine ⟨k, _, ps_setLc (tt := tT W Wx0 O mYes b) hc hN hy hyl hsw pi ok (fun s H C cl fp => (hg s H C cl fp).plain_) (fun s H C cl fp => ?_) (fun s H C cl fp => (he s H C cl fp).plain_) hs, kNz (p := p && b) (n := 1) (fun G L env σ H Q R h => kNA si hv hl h0 R h) hi0 hl il cx⟩
 refine ⟨fun pins st σ H' Q I ⟨G, L, env, R, q⟩ => pts_nil.run pins st σ H' Q I ?_⟩
 exact q H' R Ev.refl fun _ => rfl
theorem kVe (hc : X.calm = true) (hN : X.N.Nodup) (hy : X.N[i]? = some y) (hyl : X.env.scope.names.lookup y = some .local) (hsw : swapsWith (.ListComp elt [⟨tg, iter, [c], 0⟩] scope pos) (some (.Name y py)) spos.line X.env = pure true)
  (hi : DI W X Wx O tg iter src p) (ok : BlkOk X.N X.env.scope scope own)
  (hg : ∀ (s : Shared) (H : Hp) (C : Addr) (cl : List (Str × Addr)) (fp : List Addr), DG W (X.blk s H scope (compEnvC scope cl C X.env) fp) O tg gd is)
  (ht : ∀ (s : Shared) (H : Hp) (C : Addr) (cl : List (Str × Addr)) (fp : List Addr), DT W (X.blk s H scope (compEnvC scope cl C X.env) fp) Wx0 O c mt b)
  (he : ∀ (s : Shared) (H : Hp) (C : Addr) (cl : List (Str × Addr)) (fp : List Addr), DE W (X.blk s H scope (compEnvC scope cl C X.env) fp) Wx0 O elt me 2 b) (hv : ∀ i ∈ is, i ∈ own.map (·.2)) (hl : O.length ≤ tmp := by decide) (h0 : O.getD 0 0 = 0 ∨ 0 ∉ own.map (·.2) := by decide)
  (hi0 : i ≠ 0 ∨ O.getD 0 0 = 0 := by decide) (il : i < O.length := by decide) (cx : kDe O F.ox = true := by decide)
  (hs : ∀ x, foldedSetIterable iter X.env x = pure x := by intro _; rfl) : DS W X Wx F O (.Assign [.Name y py] (.ListComp elt [⟨tg, iter, [c], 0⟩] scope pos) spos) (dSet i (dLc b src gd mt me (own.map (·.2)))) (O.set i 1) := by
 obtain ⟨k, wi, pi, si⟩ := hi
 exact ⟨k, _, ps_setLc hc hN hy hyl hsw pi ok (fun s H C cl fp => (hg s H C cl fp).plain_) (fun s H C cl fp => pts_one (ht s H C cl fp).plain_) (fun s H C cl fp => (he s H C cl fp).plain_) hs, kNz (p := p && b) (n := 1) (fun G L env σ H Q R h => kNA si hv hl h0 R h) hi0 hl il cx⟩
end
section
variable {W : Wd} {X : Cx} {Wx : WX} {O : List Nat} {e : Expr} {es : List Expr} {ms : M (List D)} {p : Bool} {k j fr ar n0 : Nat} {f : Addr} {fd : FuncData} {ps : List Str} {FF : FM} {x : Str} {p0 pos : Pos}
theorem kER {Z : Addr → Prop} {H : Hp} : RpL W Z H [] [] := by unfold RpL; rfl
theorem kBx (F : FnG X.prog X.w X.K X.mg X.base j f fd ps (spD W 0 fr ar FF)) (hr : Room k X.A) (hj : j ≤ k) (hg : X.A.guards = some []) (gl : Gl X x) (hm : X.mg x = some (.ref f)) (hk : PySem.W.keepIn X.K (.ref f) = true) (hb : Binds X.K fd ps []) (tk : Takes X Wx)
  (ha : DAr W X Wx O (e :: es) ms 2 p) (hn : ps.length = ar := by rfl) (ha2 : (e :: es).length = ar := by rfl)
  (hdb : (x == ("__debug__" : Str)) = false := by decide) (he : starEach (e :: es) X.env = (false, eval e X.env) :: starEach es X.env := by rfl) (hpl : (backTo pos (starEach es X.env)).any (·.1) = false := by rfl) :
  DO W X Wx O (.Call (.Name x p0) (e :: es) [] pos) (kAh FF [] ms) fr p :=
 kTP (F.mono hj) hr hg gl hm hk hb .nil tk (fun _ _ => kER) ha hn (by simpa using ha2) hdb he hpl
theorem kBv {i : Nat} {y : Str} {py : Pos} (F : FnG X.prog X.w X.K X.mg X.base j f fd ps (spD W n0 fr ar FF)) (hr : Room k X.A) (hj : j ≤ k) (hg : X.A.guards = some []) (gl : Gl X x) (hm : X.mg x = some (.ref f)) (hk : PySem.W.keepIn X.K (.ref f) = true) (hb : Binds X.K fd ps []) (tk : Takes X Wx)
  (pv : PE X (.Name y py) (tVar i)) (ha : DAr W X Wx O es ms 2 p) (ho : O.getD i 0 = n0 := by rfl) (h0 : n0 ≠ 0 := by decide) (h02 : n0 ≤ 2 := by decide) (ha2 : es.length + 1 = ar := by rfl) (hl : i < tmp := by decide)
  (hs : starEach (.Name y py :: es) X.env = (false, eval (.Name y py) X.env) :: starEach es X.env := by rfl)
  (hdb : (x == ("__debug__" : Str)) = false := by decide) (hpl : (backTo pos (starEach es X.env)).any (·.1) = false := by rfl) :
  DO W X Wx O (.Call (.Name x p0) (.Name y py :: es) [] pos) (kAn FF i [] ms) fr false :=
 kRQ (F.mono hj) hr hg gl hm hk hb .nil tk (fun _ _ => kER) pv ha ho h0 h02 (by simpa using ha2) hl hs hdb hpl
end
def NoNx (m : MS) : Prop := ∀ env e, m env ≠ .nx e
theorem kNU {m : M D} : NoNx (dRet m) := fun env e h => by
 unfold dRet at h
 split at h <;> cases h
theorem kHG {m n : MS} (h : NoNx n) : NoNx (dSeq m n) := fun env e z => by
 have z : (m env).seq n = .nx e := z
 cases q : m env with
 | nx e1 => rw [q] at z; exact h e1 e z
 | rt d e1 => rw [q] at z; cases z
 | bk e1 => rw [q] at z; cases z
 | ct e1 => rw [q] at z; cases z
 | exc c a e1 => rw [q] at z; cases z
 | bad => rw [q] at z; cases z
theorem kUI {X : Cx} {x : Str} {v : V} {pos : Pos} (hg : Gl X x) (h : ∃ u, X.mg x = some u ∧ RelV v u) (hd : (x == ("__debug__" : Str)) = false := by decide) : PE X (.Name x pos) (tC v) := by
 obtain ⟨u, hm, r⟩ := h
 exact pe_glob hg hm r hd
def kQd : List Nat → TGs
 | [] => gNil
 | i :: is => gCons (gName i) (kQd is)
theorem kMg : ∀ (is : List Nat) (vs : List V) (σ : L2.St) (H : Hp) (Q : L2.St → Hp → Prop), vs.length = is.length → Q (stV σ is vs) H → kQd is vs σ H Q
 | [], [], σ, H, Q, _, h => ⟨rfl, h⟩
 | [], _ :: _, σ, H, Q, l, _ => by cases l
 | _ :: _, [], σ, H, Q, l, _ => by cases l
 | i :: is, v :: vs, σ, H, Q, l, h => ⟨v, vs, rfl, kMg is vs (σ.set i (some v)) H Q (by simpa using l) h⟩
theorem kTL {W : Wd} {X : Cx} {Wx : WX} {F : Fc} {O : List Nat} {es tgs : List Expr} {ms : M (List D)} {p : Bool} {is ns : List Nat} {kt k2 : Nat} {pt pt2 pos : Pos} (ha : DOs W X Wx O es ms 0 ns p) (pg : PGs X tgs (kQd is)) (hc : X.calm = true := by rfl)
  (hl2 : es.length = is.length := by rfl) (hn : ns.length = is.length := by rfl) (ok : okIs O is = true := by decide) (hl : O.length ≤ tmp := by decide) (cx : kDe O F.ox = true := by decide) (h1000 : es.length ≤ 1000 := by decide)
  (hna : (assignEach tgs X.env).length = is.length := by rfl) (hst : (assignEach tgs X.env).findIdx? (·.1) = none := by rfl)
  (hs : swapsWithSole [.Tuple tgs kt pt] (.Tuple es k2 pt2) pos.line X.env = pure false := by rfl) (hw : swappedStores [.Tuple tgs kt pt] (.Tuple es k2 pt2) X.env = pure none := by rfl) (h1 : (assignEach [.Tuple tgs kt pt] X.env).map (·.2) = [assign (.Tuple tgs kt pt) X.env] := by rfl) :
  DS W X Wx F O (.Assign [.Tuple tgs kt pt] (.Tuple es k2 pt2) pos) (dPar is ms) (stO O is ns) := by
 obtain ⟨k, ln, t, pa, s⟩ := ha
 refine ⟨k, _, ps_asg (pe_tup pa) (pg_tup hc pg hna hst) hs hw h1, fun G L env σ H Dn g R h => s G L env σ H _ R ?_⟩
 unfold dPar at h
 cases q : ms env with
 | bad => rw [q] at h; exact h.elim
 | exc c a e =>
  rw [q] at h
  exact kCK (z := 0) (p := true) (env := env) (fun hn => (g hn).2.1) cx h
 | ok ds e1 =>
  rw [q] at h
  intro vs H' L' N R1 R1' E P
  have ld := (ln _ _ _ q).trans hl2
  have lv : vs.length = is.length := N.len.symm.trans ld
  have sz : vs.length ≤ sizeLine := Nat.le_of_lt (small1000 (by rw [lv, ← hl2]; exact h1000))
  obtain ⟨L2, R2, z⟩ := kJb is ns ds vs 0 O L' e1 σ R1 (fun j d v a1 a2 => Ow.map (fun d v => Rp.shun (fun a z _ => (kFu N.ext).mpr z) d v) _ _ _ d v (fun a r e1 e2 => ⟨(kGg e1).2, Stay.refl⟩) (N.at_ j d v a1 a2)) N.len ld hn (fun i hi => by
   have := gH5.mp ok i hi
   have := gG6.mp this
   refine ⟨?_, gF5 this.2⟩
   rcases Bool.or_eq_true_iff.mp this.1 with w | w
   ·exact .inl (gF5 w)
   ·right
    exact Decidable.by_contra fun hn => hn ((R.first hn).2.symm.trans (by simpa using w))) hl
  refine ⟨sz, fun b nb => ⟨b, vs, rfl, SqT.of upd_same, lv, kMg is vs σ _ _ lv ?_⟩⟩
  exact h _ _ L2 (R2.new nb) fun _ => ⟨(E.mono fun _ z _ => z.sub).trans (Ev.new nb), fun a w => N.nw a ((z a).mp w)⟩
end DL
namespace DL
open PySem PySem.Spec PySem.Calls PyProof.Rows PySem.W PySem.SeqAt
section
variable {prog : Program} {w : World} {A : Around} {E : Value → Shared → Prop} {s : Shared}
theorem kMD {l b : Addr} {xs ys : Array Value} {e r : Nat → Bool} {Q : Value → Shared → Prop} (hl : s.heap.IsTuple l xs) (hb : s.heap.IsTuple b ys)
  (he : ∀ j (h1 : j < xs.size) (h2 : j < ys.size), EqAt A.in1 s xs[j] ys[j] (e j)) (hr : ∀ j (h1 : j < xs.size) (h2 : j < ys.size), e j = false → RcLt A.in1 s xs[j] ys[j] (r j))
  (h : Q (.bool (firstLt e r (decide (xs.size < ys.size)) (List.range (min xs.size ys.size)))) s) : wpAny (model prog w) A (call (.builtin "tuple.__lt__") [.ref l, .ref b]) Q E s := by
 obtain ⟨⟨c1, d1, t1, s1⟩, o1, q1, n1, r1⟩ := hl
 obtain ⟨⟨c2, d2, t2, s2⟩, o2, q2, n2, r2⟩ := hb
 simp only at q1 r1 q2 r2
 subst q1 r1 q2 r2
 exact call_meets F.slot_tuple_lt ⟨_, o1, rfl⟩ F.entry_tuple_lt (F.args_tuple_lt_2 _ _) (tuple_ltAt l b xs ys n1 n2 d1 d2 s1 s2 e r) ⟨o1, o2, he, hr, h⟩
theorem kOw {xs ys : List PyData} {a b : Value} {as bs : List Addr} {Q : Bool → Shared → Prop} (ra : Reads s.heap a (.tuple xs) as) (rb : Reads s.heap b (.tuple ys) bs) (hal : alikeAll xs ys = true)
  (hu : A.units + min (PyData.depth (.tuple xs)) (PyData.depth (.tuple ys)) < cLine) (hq : Q (dataLt (.tuple xs) (.tuple ys)) s) : wpAny (model prog w) A (oneLt' true a b) Q E s := by
 cases ra with
 | @tuple l o us n _ as₁ g1 g2 g3 g4 =>
  cases rb with
  | @tuple l' o' us' n' _ bs₁ k1 k2 k3 k4 =>
   have e1 : us.size = xs.length := by simpa using ReadsAll.length _ _ _ g4
   have e2 : us'.size = ys.length := by simpa using ReadsAll.length _ _ _ k4
   rw [dataLt_tuple, ← firstLt_toks xs ys hal, ← e1, ← e2] at hq
   rw [oneLt'_eq]
   simp only [if_true]
   refine wpAny_bind (wpAny_cRoomFor (room_here hu) (wpAny_bind (wpAny_callSpecialIfBound?_slot (T := "tuple") ⟨_, g1, g2⟩ F.slot_tuple_lt ?_)))
   refine kMD (e := pairEq xs ys) (r := fun j => dataLt (xs.getD j .none) (ys.getD j .none)) ⟨_, g1, g2, _, g3⟩ ⟨_, k1, k2, _, k3⟩ (fun j j1 j2 => ?_) (fun j j1 j2 hj => ?_) (wpAny_truthy_bool hq)
   ·have t := eqAt_alikeAll xs ys A.in1 s us.toList us'.toList _ _ g4 k4 hal (room_in hu) j (by simpa using j1) (by simpa using j2)
    simpa using t
   ·have t := rcLt_alikeAll xs ys A.in1 s us.toList us'.toList _ _ g4 k4 hal (room_in hu) j (by simpa using j1) (by simpa using j2) hj
    simpa using t
def kQc : PyData → Bool
 | .tuple _ => true
 | _ => false
def kGW : PyData → Bool
 | .tuple (_ :: _) => true
 | _ => false
theorem kKi {Q : List (Option Value) → Shared → Prop} : ∀ {vs : List Value} {ds : List PyData}, EachIs (fun v d => ∃ as, Reads s.heap v d as) vs ds → (∀ d ∈ ds, kQc d = true) →
  (∀ fs : List (Option Value), fs.map Option.isSome = ds.map kGW → Q fs s) → wpAny (model prog w) A (vs.mapM firstOfTuple') Q E s
 | _, _, .nil, _, h => by
  rw [List.mapM_nil]
  exact wpAny_pure (h [] rfl)
 | _, _, .cons (a := v) (b := d) ⟨as, r⟩ t, ht, h => by
  rw [List.mapM_cons]
  have hd := ht d gF1
  cases d with
  | tuple xs =>
   cases r with
   | @tuple l o us n _ _ g1 g2 g3 g4 =>
    have e1 : us.toList.length = xs.length := ReadsAll.length _ _ _ g4
    refine wpAny_bind ?_
    rw [kas_first_eq]
    refine wpAny_bind (wpAny_typeOf (T := "tuple") ⟨_, g1, g2⟩ ?_)
    rw [if_neg (by decide)]
    refine wpAny_bind (listItems_at g1 g3 (wpAny_pure (wpAny_bind ?_)))
    refine kKi t (fun d hd => ht d (gF2 _ hd)) fun fs hf => wpAny_pure (h _ ?_)
    rw [gG1, gG1, hf]
    congr 1
    cases xs with
    | nil =>
     have : us.size = 0 := by simpa using e1
     simp [kGW, this]
    | cons x r =>
     have : 0 < us.size := by
      have : us.size = r.length + 1 := by simpa using e1
      omega
     simp [kGW, this]
  | _ => cases hd
theorem kLu {Q : List Value → Shared → Prop} : ∀ {vs : List Value} {ds : List PyData}, EachIs (fun v d => ∃ as, Reads s.heap v d as) vs ds → (∀ d ∈ ds, kQc d = true) →
  Q (vs.map fun _ => Value.type "tuple") s → wpAny (model prog w) A (vs.mapM typeOf) Q E s
 | _, _, .nil, _, h => by
  rw [List.mapM_nil]
  exact wpAny_pure h
 | _, _, .cons (a := v) (b := d) ⟨as, r⟩ t, ht, h => by
  rw [List.mapM_cons]
  have hd := ht d gF1
  cases d with
  | tuple xs =>
   cases r with
   | @tuple l o us n _ _ g1 g2 g3 g4 => exact wpAny_bind (wpAny_typeOf (T := "tuple") ⟨_, g1, g2⟩ (wpAny_bind (kLu t (fun d hd => ht d (gF2 _ hd)) (wpAny_pure h))))
  | _ => cases hd
def kLk (ds : List PyData) : Prop := AllAlike ds ∧ ((∀ d ∈ ds, kQc d = true) ∨ ∀ d ∈ ds, d ≠ .none ∧ ∀ xs, d ≠ .tuple xs)
theorem kKV (x y : Value) : keyLt' general' x y = oneLt' false x y := rfl
theorem kUY {d : PyData} (h : kGW d = true) : ∃ x r, d = .tuple (x :: r) := by
 unfold kGW at h
 split at h
 ·exact ⟨_, _, rfl⟩
 ·cases h
theorem kKs {vs : List Value} {ds : List PyData} (e : EachIs (fun v d => ∃ as, Reads s.heap v d as) vs ds) (hd : kLk ds) (hu : ∀ d, d ∈ ds → A.units + d.depth < cLine) : SortsAt prog w A s (dataKind s.heap ds) vs := by
 obtain ⟨hal, hk⟩ := hd
 rcases hk with ht | hn
 ·by_cases h1 : ∀ d ∈ ds, kGW d = true
  ·exact SortsAt.data e hal (.inl fun d hd => kUY (h1 d hd)) hu
  ·
   have room : ∀ {d d' : PyData}, d ∈ ds → A.units + min d.depth d'.depth < cLine := fun {d d'} hd => Nat.lt_of_le_of_lt (Nat.add_le_add_left (Nat.min_le_left _ _) _) (hu d hd)
   have lts : ∀ kd : SortKind, (kd = oneType' ∨ kd = general') → H.LtAt prog w A s (dataKind s.heap ds) kd := by
    intro kd hkd E x y a b Q ha hb hq
    obtain ⟨d, as, hd, ra, rfl⟩ := dataKind_inv ha
    obtain ⟨d', as', hd', rb, rfl⟩ := dataKind_inv hb
    have hdd := hal d hd d' hd'
    have td := ht d hd
    have td' := ht d' hd'
    cases d with
    | tuple xs =>
     cases d' with
     | tuple ys =>
      have hq' : Q (dataLt (.tuple xs) (.tuple ys)) s := hq
      rcases hkd with hkd | hkd
      ·rw [hkd, keyLt'_oneType]
       exact kOw ra rb (by simpa [alike] using hdd) (room hd) hq'
      ·rw [hkd, kKV]
       exact oneLt_alike (fun z => nomatch z) ra rb hdd (fun z => nomatch z) (room hd) hq'
     | _ => cases td'
    | _ => cases td
   have keys : ∀ v, v ∈ vs → ∃ a, (dataKind s.heap ds).keyOf v = some a := fun v hv => by
    obtain ⟨d, hd, as, r⟩ := e.left v hv
    exact ⟨_, dataKind_some hal hd r⟩
   have all0 : (ds.map kGW).all id = false := by
    rw [Bool.eq_false_iff]
    intro z
    refine h1 fun d hd => ?_
    exact gH5.mp z _ (gF7.mpr ⟨d, hd, rfl⟩)
   have kind : ∀ (E : Value → Shared → Prop) {Q : SortKind → Shared → Prop}, Q (if (ds.map kGW).headD false = true then general' else oneType') s → wpAny (model prog w) A (keyKind' vs.toArray) Q E s := by
    intro E Q hq
    have hvs : vs ≠ [] := by
     rintro rfl
     cases e
     exact h1 fun d hd => by cases hd
    rw [keyKind'_eq, List.mapM_toArray, map_eq_pure_bind]
    refine wpAny_bind (wpAny_bind (kKi e ht fun fs hf => wpAny_pure ?_))
    have ha : (fs.toArray.all fun x => x.isSome) = false := by
     rw [← all0, ← hf, List.all_map]
     simp only [List.all_toArray]
     rfl
    rw [ha, if_neg (by decide)]
    have h0 : (fs.toArray[0]?.bind id).isSome = (ds.map kGW).headD false := by
     rw [← hf]
     cases fs with
     | nil => rfl
     | cons f fr => cases f <;> rfl
    rw [h0]
    cases hh : (ds.map kGW).headD false with
    | true =>
     rw [hh, if_pos rfl] at hq
     rw [if_pos rfl]
     exact wpAny_pure hq
    | false =>
     rw [hh, if_neg (by decide)] at hq
     rw [if_neg (by decide)]
     rw [oneTypeOnly'_eq, List.mapM_toArray, map_eq_pure_bind]
     refine wpAny_bind (wpAny_bind (wpAny_bind (kLu e ht (wpAny_pure ?_))))
     cases vs with
     | nil => exact (hvs rfl).elim
     | cons v vr =>
      have hall : ((List.map (fun _ => Value.type "tuple") (v :: vr)).toArray.all fun x => x == Value.type "tuple") = true := by
       simp only [List.all_toArray, List.all_map, gH5]
       intro _ _
       exact beq_self_eq_true _
      have hz : (List.map (fun _ => Value.type "tuple") (v :: vr)).toArray[0]? = some (Value.type "tuple") := by simp
      rw [hz]
      simp only [hall, if_true]
      exact wpAny_pure (wpAny_pure hq)
   refine ⟨keys, _, lts _ ?_, fun _ E Q hq => kind E hq⟩
   split
   ·exact .inr rfl
   ·exact .inl rfl
 ·exact SortsAt.data e hal (.inr hn) hu
theorem kMH {β : Type} {vs : List Value} {bs : List β} {enc : β → PyData} {R : Value → β → Prop} {l : Addr} {Q : Value → Shared → Prop} (hl : s.heap.IsList l vs.toArray) (e : EachIs R vs bs) (er : EachIs (fun v b => ∃ as, Reads s.heap v (enc b) as) vs bs) (hd : kLk (bs.map enc)) (hL : bs.length ≤ sizeLine)
  (hu : ∀ b, b ∈ bs → A.units + 2 + (enc b).depth < cLine) (h : ∀ out, out.length = bs.length → EachIs R out (bs.mergeSort (dataLe false enc)) → Q (.ref (s.heap.objs.size + 1)) { s with heap := sortedAll s.heap vs (List.toArray out) }) :
  wpAny (model prog w) A (call (.builtin "sorted") [.ref l]) Q E s := by
 have er' : EachIs (fun v b => ∃ as, Reads (sortingHeap (copyHeap s.heap vs) (s.heap.objs.size + 1) vs) v (enc b) as) vs bs := er.mono fun _ _ z => by
  obtain ⟨as, r⟩ := z
  exact ⟨as, PyProof.Rows.Reads.keeps (fun _ _ => sorting_copy_old) r⟩
 refine sorted_vals hl (kKs (s := { s with heap := sortingHeap (copyHeap s.heap vs) (s.heap.objs.size + 1) vs }) (ds := bs.map enc) (each_map (R := fun v d => ∃ as, Reads (sortingHeap (copyHeap s.heap vs) (s.heap.objs.size + 1) vs) v d as) enc er') hd (bound_map hu)) (by rw [e.length]; exact hL) (h _ ?_ (sortVals_data false e er' hd.1))
 rw [sortVals_length false rfl]
 exact e.length
end
end DL
namespace DL
open PySem PySem.Spec PyProof.Rows L2 PySem.W
def pyP (p : D × V) : PyData := p.1.py
def kNL (K : PySem.W.Frag) : List V → Hp → VK → Prop := fun xs H Q => ∃ (a : Addr) (ps : List (D × V)), xs = [.ref a] ∧ SqL K H a (ps.map (·.2)) ∧ (∀ p ∈ ps, Dp K H p.2 p.1.py) ∧ kLk (ps.map pyP) ∧ (∀ p ∈ ps, p.1.py.depth ≤ 64) ∧
 ∀ l, H l = none → Q (.ref l) (upd H l (.lst ((ps.mergeSort (dataLe false pyP)).map (·.2))))
theorem kJw {H : Hp} {X : Cx} {pins : List (Addr × Obj)} {σ : L2.St} {s : Shared} (I : Inv X pins σ H s) : ∀ {ps : List (D × V)} {us : List Value}, Vals (ps.map (·.2)) us → (∀ p ∈ ps, Dp X.K H p.2 p.1.py) →
  EachIs (fun v (p : D × V) => RelV p.2 v) us ps ∧ EachIs (fun v (p : D × V) => ∃ as, Reads s.heap v (pyP p) as) us ps
 | [], _, h, _ => by
  cases h
  exact ⟨.nil, .nil⟩
 | p :: ps, _, h, hd => by
  cases h with
  | cons r t =>
   obtain ⟨h1, h2⟩ := kJw I t fun q hq => hd q (gF2 _ hq)
   exact ⟨.cons r h1, .cons (Dp.reads I _ _ _ (hd p gF1) r) h2⟩
theorem kHp : ∀ {ps : List (D × V)} {us : List Value}, EachIs (fun v (p : D × V) => RelV p.2 v) us ps → Vals (ps.map (·.2)) us
 | _, _, .nil => .nil
 | _, _, .cons r t => .cons r (kHp t)
theorem kRX {X : Cx} (hu : X.A.units + 70 < cLine) : CallR X (.builtin "sorted") (kNL X.K) := by
 intro pins s σ H xs us Q I r h
 obtain ⟨a, ps, rfl, hs, hd, ho, hz, q⟩ := h
 obtain ⟨its, rv, hl, sz⟩ := I.list hs
 rw [Vals.ref1 r]
 obtain ⟨e1, e2⟩ := kJw I rv hd
 refine kMH (R := fun v (p : D × V) => RelV p.2 v) (enc := pyP) hl.isList e1 e2 ho (by rw [gF0] at sz; exact sz) (fun p hp => by have : (pyP p).depth ≤ 64 := hz p hp; omega) fun out lo eo => ?_
 obtain ⟨ep, he'⟩ := PyProof.Rows.sortedAll_at s.heap its out.toArray
 have hv : Vals ((ps.mergeSort (dataLe false pyP)).map (·.2)) out := kHp eo
 have hlen : ((ps.mergeSort (dataLe false pyP)).map (·.2)).length ≤ sizeLine := by
  rw [gF0, List.length_mergeSort]
  rw [gF0] at sz
  exact sz
 exact ⟨.ref _, upd H (s.heap.objs.size + 1) (.lst ((ps.mergeSort (dataLe false pyP)).map (·.2))), I.laid (t' := s.toks) (fun _ _ => PyProof.Rows.sortedAll_old) (Nat.le_succ _) ⟨hlen, out, ep, hv, he'⟩, rfl, q _ (I.hok.fresh (Nat.le_succ _))⟩
def kMz (ds : List D) : Bool := ds.all fun a => ds.all fun b => alike a.py b.py
def kQY (ds : List D) : Bool := ds.all fun a => kQc a.py
def kUD (ds : List D) : Bool := ds.all fun a => match a.py with | .none => false | .tuple _ => false | _ => true
def kBM (ds : List D) : Bool := kEx ds && (kMz ds && ((kQY ds || kUD ds) && ds.all fun a => decide (a.py.depth ≤ 64)))
def kDk (ds : List D) : List D := ds.mergeSort (dataLe false D.py)
def kNl : List D → Option D := fun args => match args with
 | [.lst ds] => if kBM ds = true then some (.lst (kDk ds)) else none
 | [.ro ds] => if kBM ds = true then some (.lst (kDk ds)) else none
 | _ => none
theorem kKa : ∀ {ds : List D}, kEx ds = true → ∀ d ∈ ds, d.plain = true
 | [], _, d, h => by cases h
 | x :: ds, h, d, hd => by
  unfold kEx at h
  rcases gG5.mp hd with e | hd
  ·rw [e]
   exact (gG6.mp h).1
  ·exact kKa (gG6.mp h).2 d hd
theorem kKu {ds : List D} (h : kBM ds = true) : (∀ d ∈ ds, d.plain = true) ∧ kLk (ds.map D.py) ∧ ∀ d ∈ ds, d.py.depth ≤ 64 := by
 unfold kBM at h
 obtain ⟨h1, h2⟩ := gG6.mp h
 obtain ⟨h3, h4⟩ := gG6.mp h2
 obtain ⟨h5, h6⟩ := gG6.mp h4
 refine ⟨fun d hd => kKa h1 d hd, ⟨fun x hx y hy => ?_, ?_⟩, fun d hd => gF5 (gH5.mp h6 d hd)⟩
 ·obtain ⟨a, ha, rfl⟩ := gF7.mp hx
  obtain ⟨b, hb, rfl⟩ := gF7.mp hy
  exact gH5.mp (gH5.mp h3 a ha) b hb
 ·rcases Bool.or_eq_true_iff.mp h5 with h5 | h5
  ·left
   intro x hx
   obtain ⟨a, ha, rfl⟩ := gF7.mp hx
   exact gH5.mp h5 a ha
  ·right
   intro x hx
   obtain ⟨a, ha, rfl⟩ := gF7.mp hx
   have := gH5.mp h5 a ha
   refine ⟨fun e => ?_, fun xs e => ?_⟩ <;> (simp only [e] at this; cases this)
theorem kFO {ds : List D} {vs : List V} (h : ds.length = vs.length) : (ds.zip vs).map (·.1) = ds := by
 rw [List.map_fst_zip (by omega)]
theorem kMB {ds : List D} {vs : List V} (h : ds.length = vs.length) : (ds.zip vs).map (·.2) = vs := by
 rw [List.map_snd_zip (by omega)]
theorem kMV {W : Wd} {Z : Addr → Prop} {H : Hp} {ds : List D} {vs : List V} (r : RpL W Z H ds vs) : ∀ p ∈ ds.zip vs, Rp W Z H p.1 p.2 := by
 intro p hp
 obtain ⟨i, hi, e⟩ := List.getElem_of_mem hp
 have e1 : ds[i]? = some p.1 := by
  have : (ds.zip vs)[i]? = some p := by rw [gF6 hi, e]
  rw [List.getElem?_zip_eq_some] at this
  exact this.1
 have e2 : vs[i]? = some p.2 := by
  have : (ds.zip vs)[i]? = some p := by rw [gF6 hi, e]
  rw [List.getElem?_zip_eq_some] at this
  exact this.2
 obtain ⟨v, h1, h2⟩ := r.getD e1
 rw [e2] at h1
 rw [gF3 h1]
 exact h2
theorem kHq {W : Wd} {Z : Addr → Prop} {H : Hp} : ∀ {ps : List (D × V)}, (∀ p ∈ ps, Rp W Z H p.1 p.2) → RpL W Z H (ps.map (·.1)) (ps.map (·.2))
 | [], _ => by unfold RpL; rfl
 | p :: ps, h => by
  show RpL W Z H (p.1 :: ps.map (·.1)) (p.2 :: ps.map (·.2))
  unfold RpL
  exact ⟨p.2, _, rfl, h p gF1, kHq fun q hq => h q (gF2 _ hq)⟩
theorem kOQ {W : Wd} {X : Cx} (k : X.K = W.K) : CFO W 1 (kNL X.K) kNl := by
 have main : ∀ (L : Lab) (H : Hp) (ds : List D) (d : D) (a : Addr) (us : List V) (Q : VK), SqL X.K H a us → us.length ≤ sizeLine → RpL W (Zo L) H ds us → (if kBM ds = true then some (D.lst (kDk ds)) else none) = some d →
   (∀ v H', NewV W L H d v H' → Q v H') → kNL X.K [.ref a] H Q := by
  intro L H ds d a us Q hs sz r hd hq
  by_cases ok : kBM ds = true
  ·rw [if_pos ok] at hd
   cases hd
   obtain ⟨o1, o2, o3⟩ := kKu ok
   have ln := r.length
   have rz := kMV r
   have mem1 : ∀ p ∈ ds.zip us, p.1 ∈ ds := fun p hp => (List.of_mem_zip hp).1
   refine ⟨a, ds.zip us, rfl, by rw [kMB ln]; exact hs, fun p hp => ?_, ?_, fun p hp => o3 _ (mem1 p hp), fun l nl => hq _ _ (.inl ⟨l, _, _, rfl, rfl, nl, rfl, ?_, ?_⟩)⟩
   ·rw [k]
    exact Rp.dp p.1 p.2 (o1 _ (mem1 p hp)) (rz p hp)
   ·have : (ds.zip us).map pyP = ds.map D.py := by
     rw [← kFO ln, gH3, kFO ln]
     rfl
    rw [this]
    exact o2
   ·have e : kDk ds = ((ds.zip us).mergeSort (dataLe false pyP)).map (·.1) := by
     have t := List.map_mergeSort (r := dataLe false pyP) (s := dataLe false D.py) (f := Prod.fst) (l := ds.zip us) (fun _ _ _ _ => rfl)
     unfold kDk
     rw [← kFO ln, ← t, kFO ln]
    rw [e]
    exact kHq fun p hp => rz p (List.mem_mergeSort.mp hp)
   ·rw [gF0, List.length_mergeSort, List.length_zip]
    omega
  ·rw [if_neg ok] at hd
   cases hd
 intro L H ds vs d Q A hf dom hq
 match ds, A, hf with
 | [.lst xs], A, hf =>
  obtain ⟨v, rfl, rv⟩ := kFH A
  obtain ⟨a, us, rfl, h1, sz, r⟩ := kIy rv
  exact main L H xs d a us Q (SqL.of h1) sz r hf hq
 | [.ro xs], A, hf =>
  obtain ⟨v, rfl, rv⟩ := kFH A
  obtain ⟨a, us, rfl, h1, sz, r⟩ := kOB rv
  exact main L H xs d a us Q (by rw [k]; exact h1) sz r hf hq
def kSt (K : PySem.W.Frag) : List V → Hp → VK → Prop := fun xs H Q => ∃ (v : V) (d : PyData), xs = [v] ∧ Dp K H v d ∧ d.showable = true ∧ d.hasDict = false ∧ d.depth ≤ 64 ∧ d.shown.length ≤ sizeLine ∧ Q (.str d.shown) H
theorem kEH {X : Cx} (hg : X.A.guards = some []) (hu : X.A.units + 70 < cLine) : CallR X (.builtin "repr") (kSt X.K) := by
 intro pins s σ H xs us Q I r h
 obtain ⟨v, d, rfl, hd, hs, nd, dz, sz, q⟩ := h
 obtain ⟨u, rfl, ru⟩ := r.one
 obtain ⟨as, rd⟩ := Dp.reads I d v u hd ru
 have obj : ∀ a, u = .ref a → wpAny (model X.prog X.w) X.A (call (.builtin "repr") [u]) (EP X pins σ Q) X.xe s := fun a e => by
  subst e
  refine repr_of_reads' rd hs (PyData.noDict_hsm nd) hg (by omega) (fun _ _ e => e) (fun h' t tk hk => ?_) sz
  exact ⟨.str d.shown, H, I.kept (t' := tk) hk, ⟨_, rfl⟩, q⟩
 cases rd with
 | none => exact P.repr_of_none ⟨.str (PyData.shown .none), H, I.tok _, ⟨_, rfl⟩, q⟩
 | bool b => exact P.repr_of_bool ⟨.str (PyData.shown (.bool b)), H, I.tok _, ⟨_, rfl⟩, q⟩
 | int i t => exact P.repr_of_int (by simpa [PyData.showable] using hs) ⟨.str (PyData.shown (.int i)), H, I.tok _, ⟨_, rfl⟩, q⟩
 | str x t => exact P.repr_of_str ⟨.str (PyData.shown (.str x)), H, I.tok _, ⟨_, rfl⟩, q⟩ sz
 | list _ _ _ _ => exact obj _ rfl
 | tuple _ _ _ _ => exact obj _ rfl
 | dict _ _ _ _ _ => exact obj _ rfl
def kFF : List D → Option D := fun args => match args with
 | [d] => if kHz d = true then some (.str d.py.shown) else none
 | _ => none
theorem kGz {W : Wd} {X : Cx} (k : X.K = W.K) : CF W 0 2 (kSt X.K) kFF := by
 intro L H ds vs d Q A hf dom hq
 match ds, A, hf with
 | [x], A, hf =>
  obtain ⟨v, rfl, rv⟩ := kFH A
  have hf : (if kHz x = true then some (D.str x.py.shown) else none) = some d := hf
  by_cases ok : kHz x = true
  ·rw [if_pos ok] at hf
   cases hf
   unfold kHz at ok
   obtain ⟨h1, ok⟩ := gG6.mp ok
   obtain ⟨h2, ok⟩ := gG6.mp ok
   obtain ⟨h3, ok⟩ := gG6.mp ok
   obtain ⟨h4, h5⟩ := gG6.mp ok
   refine ⟨v, x.py, rfl, ?_, h2, by simpa using h3, gF5 h4, gF5 h5, hq _ H Ev.refl kMU⟩
   rw [k]
   exact Rp.dp x v h1 rv.any
  ·rw [if_neg ok] at hf
   cases hf
end DL
namespace DL
open PySem PySem.Spec PySem.Calls PyProof.Rows L2
abbrev set0 (w : World) : Obj := { cls := .type "set", dict := none, data := .set #[] 0 (.fresh 0 0 (!w.params.followText "set-order")) }
structure Kit (P : Program) (w : World) where
 K : Type
 is : Heap → K → Value → Prop
 keep : ∀ {h h' : Heap} {k : K} {v : Value}, (∀ b o, h.get? b = some o → h'.get? b = some o) → is h k v → is h' k v
 apart : ∀ {h h' : Heap} {k : K} {v : Value} {a : Addr} {o : Obj} {es : Array (Int × Value)} {ep : Nat} {t : SetTable}, is h k v → h.get? a = some o → o.data = .set es ep t → Heap.SameBut a h h' → is h' k v
 hold : Heap → Addr → List (K × Value) → Prop
 held : ∀ {h h' : Heap} {a : Addr} {L : List (K × Value)}, hold h a L → (∀ o, h.get? a = some o → h'.get? a = some o) → hold h' a L
 most : Nat
 fresh : ∀ {h : Heap} {a : Addr}, h.get? a = some (set0 w) → hold h a []
 seen : ∀ {h : Heap} {a : Addr} {L : List (K × Value)}, hold h a L → ∃ o es ep t, h.get? a = some o ∧ o.cls = .type "set" ∧ o.data = .set es ep t ∧ es.toList.map (·.2) = L.map (·.2) ∧ t.fits es.size = true ∧ es.size < scanBound ∧ Ris t.place.toList ∧
  (w.params.followText "set-order" = true ∨ t.led = true)
 nodup : ∀ {h : Heap} {a : Addr} {L : List (K × Value)}, hold h a L → (L.map (·.1)).Nodup
 add : ∀ {A : Around} {E : Value → Shared → Prop} {s : Shared} {a : Addr} {L : List (K × Value)} {k : K} {v : Value} {Q : Bool → Shared → Prop}, A.units + 8 < cLine → hold s.heap a L → (∀ p ∈ L, is s.heap p.1 p.2) → is s.heap k v → L.length < most →
  (∀ b h' L' tk, s.toks ≤ tk → Heap.SameBut a s.heap h' → hold h' a L' → (k ∈ L.map (·.1) → L' = L) → (k ∉ L.map (·.1) → L'.Perm ((k, v) :: L)) → Q b { s with heap := h', toks := tk }) → wpAny (model P w) A (setAdd a v) Q E s
structure Taken {K : Type} (ks : List (K × Value)) (i : Nat) (L : List (K × Value)) : Prop where
 sub : ∀ p ∈ L, p ∈ ks.take i
 all : ∀ p ∈ ks.take i, p.1 ∈ L.map (·.1)
 few : L.length ≤ i
theorem kUq {K : Type} (ks : List (K × Value)) : Taken ks 0 [] := ⟨fun _ h => (by cases h), fun _ h => (by simp at h), Nat.le_refl 0⟩
theorem Taken.step {K : Type} {ks L L' : List (K × Value)} {i : Nat} {x : K × Value} (g : Taken ks i L) (h : ks[i]? = some x) (c : (x.1 ∈ L.map (·.1) ∧ L' = L) ∨ L'.Perm (x :: L)) : Taken ks (i + 1) L' := by
 have tk : ks.take (i + 1) = ks.take i ++ [x] := by rw [List.take_succ, h]; rfl
 rcases c with ⟨hm, rfl⟩ | pm
 ·refine ⟨fun p hp => ?_, fun p hp => ?_, Nat.le_succ_of_le g.few⟩
  ·rw [tk]
   exact List.mem_append_left _ (g.sub p hp)
  ·rw [tk] at hp
   rcases gG8.mp hp with hp | hp
   ·exact g.all p hp
   ·rw [gG4.mp hp]
    exact hm
 ·refine ⟨fun p hp => ?_, fun p hp => ?_, ?_⟩
  ·rw [tk]
   rcases gG5.mp (pm.mem_iff.mp hp) with e | hp
   ·rw [e]
    exact List.mem_append_right _ (gG4.mpr rfl)
   ·exact List.mem_append_left _ (g.sub p hp)
  ·rw [(pm.map (·.1)).mem_iff, gG1]
   rw [tk] at hp
   rcases gG8.mp hp with hp | hp
   ·exact gF2 _ (g.all p hp)
   ·rw [gG4.mp hp]
    exact gF1
  ·rw [pm.length_eq, gG0]
   exact Nat.succ_le_succ g.few
section
variable {P : Program} {w : World} {A : Around} {E : Value → Shared → Prop} {s : Shared}
theorem kOW (T : Kit P w) {I : Addr} {fp wr : List Addr} {G : Array GenState → Array GenState → Prop} {n : Nat} {Pv : Nat → Value → Prop} {St : Nat → Shared → Prop} {R : Result → Shared → Prop}
  (Wk : WalksS P w A.in1 I fp wr G n Pv St) (S : Addr) (nS : S ∉ fp) (ks : List (T.K × Value)) (hn : n = ks.length) (hm : ks.length ≤ T.most) (hval : ∀ i v, Pv i v → ∃ p, ks[i]? = some p ∧ v = p.2)
  (h0 : Heap) (hk : ∀ p ∈ ks, T.is h0 p.1 p.2) (hS0 : h0.get? S = none) (hw0 : ∀ b ∈ wr, h0.get? b = none) (hu : A.units + 20 < cLine) :
  ∀ (m i : Nat) (s : Shared), i + m = n → St i s → (∀ b o, h0.get? b = some o → s.heap.get? b = some o) → (∃ L, T.hold s.heap S L ∧ Taken ks i L) →
   (∀ s' L, Moved (S :: wr) G s s' → T.hold s'.heap S L → Taken ks n L → (∀ b o, h0.get? b = some o → s'.heap.get? b = some o) → R (.ok (.ret .none)) s') →
   codeAny (model P w) A (.builtin "set.update.loop" ⟨[.ref S, .ref I], []⟩) R s := by
 have nW : S ∉ wr := fun z => nS (Wk.sub _ z)
 have wS : ∀ b ∈ wr, b ∈ S :: wr := fun b z => gF2 _ z
 have going : ∀ {s s' : Shared}, Moved wr G s s' → (∀ b o, h0.get? b = some o → s.heap.get? b = some o) → ∀ b o, h0.get? b = some o → s'.heap.get? b = some o := fun mv kp b o z =>
  mv.heap b o (fun y => by rw [hw0 b y] at z; cases z) (kp b o z)
 intro m
 induction m with
 | zero =>
  intro i s hi hst kp ⟨L, hS, g⟩ hR
  obtain rfl : i = n := by omega
  refine codeAny_builtin F.entry_set_update_loop ?_
  rw [Around.under_plainId F.plain_set_update_loop _]
  show wpAny _ A.in1 (pyNext (.ref I) >>= _) _ _ s
  refine wpAny_bind (Wk.done s _ _ hst fun s' mv => ?_)
  show wpAny _ A.in1 (ret Value.none) _ _ s'
  exact wpAny_pure (hR s' L (mv.mono wS) (T.held hS fun o z => mv.heap S o nW z) g (going mv kp))
 | succ m ih =>
  intro i s hi hst kp ⟨L, hS, g⟩ hR
  have hlt : i < n := by omega
  refine codeAny_builtin F.entry_set_update_loop ?_
  rw [Around.under_plainId F.plain_set_update_loop _]
  show wpAny _ A.in1 (pyNext (.ref I) >>= _) _ _ s
  refine wpAny_bind (Wk.item i s _ _ hlt hst fun v s' hP hst' mv => ?_)
  obtain ⟨p, hp, rfl⟩ := hval i v hP
  have kp' := going mv kp
  have hS' : T.hold s'.heap S L := T.held hS fun o z => mv.heap S o nW z
  have inks : ∀ q ∈ L, q ∈ ks := fun q hq => List.mem_of_mem_take (g.sub q hq)
  show wpAny _ A.in1 (holding [p.2] (setAdd S p.2) >>= _) _ _ s'
  refine wpAny_bind (wpAny_holding ?_)
  have u1 : A.in1.units + 8 < cLine := by show A.units + 1 + 8 < cLine; omega
  refine T.add u1 hS' (fun q hq => T.keep kp' (hk q (inks q hq))) (T.keep kp' (hk p (gH9 hp))) (by have := g.few; omega) fun b h' L' tk ht sb hS2 c1 c2 => ?_
  have g' : Taken ks (i + 1) L' := by
   rcases Classical.em (p.1 ∈ L.map (·.1)) with c | c
   ·exact g.step hp (.inl ⟨c, c1 c⟩)
   ·exact g.step hp (.inr (c2 c))
  have kp2 : ∀ b o, h0.get? b = some o → h'.get? b = some o := fun b o z => (sb.2 b (fun y => by rw [y, hS0] at z; cases z)).trans (kp' b o z)
  refine wpAny_pure ⟨plainId_quiet F.plain_set_update_loop _, ih (i + 1) _ (by omega) (Wk.frame _ s' _ _ hst' ht fun b hb o z => ?_) kp2 ⟨L', hS2, g'⟩ fun s'' L2 mv2 hS3 g2 kp3 => ?_⟩
  ·rw [sb.2 b (fun y : b = S => nS (by rw [← y]; exact hb))]
   exact z
  ·refine hR s'' L2 (Moved.trans Wk.gtrans ((mv.mono wS).then_heap ht fun b o hb z => ?_) mv2) hS3 g2 kp3
   rw [sb.2 b (fun y : b = S => hb (by rw [y]; exact gF1))]
   exact z
def kTX (T : Kit P w) (s : Shared) (ks : List (T.K × Value)) (Q : Value → Shared → Prop) : Prop := ∀ (h' : Heap) (tk : Nat) (L : List (T.K × Value)), T.hold h' s.heap.objs.size L → Taken ks ks.length L → (∀ b o, s.heap.get? b = some o → h'.get? b = some o) → Q (.ref s.heap.objs.size) { s with heap := h', toks := tk }
theorem kRi {l : Addr} {Q : Value → Shared → Prop}
  (hin : ∀ (E' : Value → Shared → Prop), wpAny (model P w) A.in1.in1 (Builtin.«set.__init__» ⟨[.ref s.heap.objs.size, .ref l], []⟩) (fun f s₂ => match f with
    | .done f => (wants (fun r s₂ => r = .none ∧ Q (.ref s.heap.objs.size) s₂) E') (.ok f) s₂
    | .again c => c.quiet = true ∧ codeAny (model P w) A.in1 c (wants (fun r s₂ => r = .none ∧ Q (.ref s.heap.objs.size) s₂) E') s₂)
   (fun e s₂ => (wants (fun r s₂ => r = .none ∧ Q (.ref s.heap.objs.size) s₂) E') (.error e) s₂) { s with heap := s.heap.push (set0 w) }) :
  wpAny (model P w) A (call (.type "set") [.ref l]) Q E s := by
 obtain ⟨c, tl, hmro⟩ := F.called_set.mro
 have q1 := F.called_set.made
 have q2 := F.called_set.sub
 refine wpAny_call (codeAny_of_tree ?_)
 show wpAny _ _ (callAny (.type "set") _) _ _ _
 refine wpAny_pure ⟨Code.quiet_builtin _ (by decide +kernel), codeAny_builtin F.entry_type_call ?_⟩
 rw [Around.under_plain (weight_type_call_type "set" [.ref l] []) rfl]
 have q3 := F.called_set.notType
 have q4 := F.called_set.canCreate
 have q5 := F.typeCall_set_1 (.ref l)
 repeat (any_goals (first | assumption | wp_step))
 refine codeAny_mono (code_set_led1 (.ref l) (E := E) (Q₁ := fun v s₁ => v = .ref s.heap.objs.size ∧ s₁ = { s with heap := s.heap.push (set0 w) }) ⟨rfl, rfl⟩) fun r s₁ hr => ?_
 match r, hr with
 | .error e, hr => exact hr
 | .ok .next, hr => exact hr.elim
 | .ok .brk, hr => exact hr.elim
 | .ok .cont, hr => exact hr.elim
 | .ok (.ret obj), hr =>
  obtain ⟨rfl, rfl⟩ := hr
  have g1 : (s.heap.push (set0 w)).get? s.heap.objs.size = some (set0 w) := Heap.get?_push_size _ rfl
  have g2 : Shared.TypeIs { s with heap := s.heap.push (set0 w) } (.ref s.heap.objs.size) "set" := ⟨_, g1, rfl⟩
  have g3 := F.called_set.init.lookup
  have g4 := F.called_set.init.bind (.ref s.heap.objs.size)
  repeat (any_goals (first | assumption | wp_step))
  refine codeAny_mono (codeAny_call_builtin (R := wants (fun r s₂ => r = .none ∧ Q (.ref s.heap.objs.size) s₂) E) F.called_set.init.plain F.entry_set_init (check_set_init_1 g2 ?_)) fun r₂ s₂ hr₂ => ?_
  ·exact hin E
  ·match r₂, hr₂ with
   | .error e, hr₂ => exact hr₂
   | .ok .next, hr₂ => exact hr₂.elim
   | .ok .brk, hr₂ => exact hr₂.elim
   | .ok .cont, hr₂ => exact hr₂.elim
   | .ok (.ret u), hr₂ =>
    obtain ⟨rfl, hq⟩ := hr₂
    repeat (any_goals (first | assumption | wp_step))
theorem kRj (T : Kit P w) {l : Addr} {items : Array Value} (ks : List (T.K × Value)) {Q : Value → Shared → Prop} (hh : A.handled = none) (hl : s.heap.IsList l items ∨ s.heap.IsTuple l items) (hit : items.toList = ks.map (·.2))
  (hk : ∀ p ∈ ks, T.is s.heap p.1 p.2) (hm : ks.length ≤ T.most) (hu : A.units + 24 < cLine) (h : kTX T s ks Q) : wpAny (model P w) A (call (.type "set") [.ref l]) Q E s := by
 have hsz : items.size = ks.length := by
  have q := congrArg List.length hit
  rw [Array.length_toList, gF0] at q
  exact q
 have hval : ∀ (i : Nat) (v : Value), items[i]? = some v → ∃ p, ks[i]? = some p ∧ v = p.2 := fun i v hv => by
  have q : items.toList[i]? = some v := by rw [Array.getElem?_toList]; exact hv
  rw [hit, gI0] at q
  cases r : ks[i]? with
  | none => rw [r] at q; cases q
  | some p =>
   rw [r] at q
   exact ⟨p, rfl, (gF3 q).symm⟩
 have gone : ∀ b, s.heap.objs.size ≤ b → s.heap.get? b = none := fun b hb => by
  cases q : s.heap.get? b with
  | none => rfl
  | some o => exact absurd (Nat.lt_of_lt_of_le (Heap.lt_size q) hb) (Nat.lt_irrefl _)
 have h3 : A.in1.in1.in1.handled = none := by simp [hh]
 have g1 : (s.heap.push (set0 w)).get? s.heap.objs.size = some (set0 w) := Heap.get?_push_size _ rfl
 have turns : ∀ (E' : Value → Shared → Prop) (itc : String) {St : Nat → Shared → Prop} {Pv : Nat → Value → Prop} {G : Array GenState → Array GenState → Prop},
   (∀ i v, Pv i v → items[i]? = some v) → (∀ g g', G g g' → g' = g) → l < s.heap.objs.size →
   WalksS P w A.in1.in1.in1 (s.heap.objs.size + 1) [s.heap.objs.size + 1, l] [s.heap.objs.size + 1] G items.size Pv St →
   St 0 { s with heap := (s.heap.push (set0 w)).push { cls := .type itc, data := .fields #[.ref l, .int 0 0] } } →
   codeAny (model P w) A.in1.in1 (.builtin "set.update.loop" ⟨[.ref s.heap.objs.size, .ref (s.heap.objs.size + 1)], []⟩)
    (fun r s' => r = .ok (.ret .none) ∧ ∃ h' tk L, s' = { s with heap := h', toks := tk } ∧ T.hold h' s.heap.objs.size L ∧ Taken ks ks.length L ∧ (∀ b o, s.heap.get? b = some o → h'.get? b = some o))
    { s with heap := (s.heap.push (set0 w)).push { cls := .type itc, data := .fields #[.ref l, .int 0 0] } } := by
  intro E' itc St Pv G hP hG hlS Wk hst
  refine kOW T Wk s.heap.objs.size (by simp only [gG5, gI2, or_false, not_or]; exact ⟨Nat.ne_of_lt (Nat.lt_succ_self _), Nat.ne_of_gt hlS⟩) ks hsz hm (fun i v hv => hval i v (hP i v hv)) s.heap hk (gone _ (Nat.le_refl _))
   (fun b hb => gone b (by rw [gG4.mp hb]; exact Nat.le_succ _)) (by show A.units + 1 + 1 + 20 < cLine; omega) items.size 0 _ (by omega) hst (fun b o e => Heap.get?_push_of_some _ (Heap.get?_push_of_some _ e)) ⟨[], ?_, kUq ks⟩ ?_
  ·exact T.fresh (Heap.get?_push_of_some _ g1)
  ·intro s' L mv hS g kp
   obtain ⟨h', g2, d', tk', os'⟩ := s'
   have eg : g2 = s.gens := hG _ _ mv.gens
   have ed : d' = s.drawn := mv.drawn
   have eo : os' = s.os := mv.os
   subst eg ed eo
   rw [hsz] at g
   exact ⟨rfl, h', tk', L, rfl, hS, g, kp⟩
 refine kRi fun E' => ?_
 have fin : ∀ (E' : Value → Shared → Prop) (r : Result) (s' : Shared), (r = .ok (.ret .none) ∧ ∃ h' tk L, s' = { s with heap := h', toks := tk } ∧ T.hold h' s.heap.objs.size L ∧ Taken ks ks.length L ∧ (∀ b o, s.heap.get? b = some o → h'.get? b = some o)) →
   ∃ h' tk, r = .ok (.ret .none) ∧ s' = { s with heap := h', toks := tk } ∧ Q (.ref s.heap.objs.size) s' := by
  intro E' r s' z
  obtain ⟨rfl, h', tk, L, rfl, a1, a2, a3⟩ := z
  exact ⟨h', tk, rfl, rfl, h h' tk L a1 a2 a3⟩
 rcases hl with hl | hl
 ·obtain ⟨⟨oc, od, ot, os⟩, o1, o2, n, o3⟩ := hl
  simp only at o2 o3
  subst o2 o3
  have o4 : (s.heap.push (set0 w)).get? l = some { cls := .type "list", dict := od, data := .seq items n, slots := os } := Heap.get?_push_of_some _ o1
  have f1 := F.sub_list_set
  have f2 := F.sub_list_frozenset
  have f3 : (Value.type "list" == Value.type "dict") = false := by decide
  have lt : l < s.heap.objs.size := Heap.lt_size o1
  have isL : (s.heap.push (set0 w)).IsList l items := ⟨_, o4, rfl, n, rfl⟩
  have zz : (s.heap.push (set0 w)).objs.size = s.heap.objs.size + 1 := Heap.size_push ..
  unfold Builtin.«set.__init__» noKeywords Builtin.Frozenset.updateFrom
  generalize hPI : pyIter = PI
  wp_walk
  subst hPI
  refine wpAny_pyIter_list isL ?_
  refine wpAny_bind (wpAny_runValue ?_)
  rw [zz]
  refine codeAny_mono (turns E' "list_iterator" (fun _ _ z => z) (fun _ _ z => z) lt ((Walks.list h3 (s.heap.objs.size + 1) l (Nat.ne_of_lt (Nat.lt_succ_of_lt lt)) items).toS) ⟨⟨_, by rw [← zz]; exact Heap.get?_push_size _ rfl, rfl, rfl⟩, isL.push _⟩) fun r s' z => ?_
  obtain ⟨h', tk, rfl, rfl, q⟩ := fin E' r s' z
  show wpAny _ _ _ _ _ _
  refine wpAny_pure ?_
  show wpAny _ _ (ret Value.none) _ _ _
  exact wpAny_pure ⟨rfl, q⟩
 ·obtain ⟨⟨oc, od, ot, os⟩, o1, o2, n, o3⟩ := hl
  simp only at o2 o3
  subst o2 o3
  have o4 : (s.heap.push (set0 w)).get? l = some { cls := .type "tuple", dict := od, data := .seq items n, slots := os } := Heap.get?_push_of_some _ o1
  have f1 := F.sub_tuple_set
  have f2 := F.sub_tuple_frozenset
  have f3 : (Value.type "tuple" == Value.type "dict") = false := by decide
  have lt : l < s.heap.objs.size := Heap.lt_size o1
  have isT : (s.heap.push (set0 w)).IsTuple l items := ⟨_, o4, rfl, n, rfl⟩
  have zz : (s.heap.push (set0 w)).objs.size = s.heap.objs.size + 1 := Heap.size_push ..
  unfold Builtin.«set.__init__» noKeywords Builtin.Frozenset.updateFrom
  generalize hPI : pyIter = PI
  wp_walk
  subst hPI
  refine wpAny_pyIter_tuple isT ?_
  refine wpAny_bind (wpAny_runValue ?_)
  rw [zz]
  refine codeAny_mono (turns E' "tuple_iterator" (fun _ _ z => z) (fun _ _ z => z) lt ((Walks.tuple h3 (s.heap.objs.size + 1) l (Nat.ne_of_lt (Nat.lt_succ_of_lt lt)) items).toS) ⟨⟨_, by rw [← zz]; exact Heap.get?_push_size _ rfl, rfl, rfl⟩, isT.push _⟩) fun r s' z => ?_
  obtain ⟨h', tk, rfl, rfl, q⟩ := fin E' r s' z
  show wpAny _ _ _ _ _ _
  refine wpAny_pure ?_
  show wpAny _ _ (ret Value.none) _ _ _
  exact wpAny_pure ⟨rfl, q⟩
end
theorem kNQ {α β : Type} {f : α → β} : ∀ {xs ys : List β}, xs.Perm ys → ∀ L : List α, ys = L.map f → ∃ L' : List α, xs = L'.map f ∧ L'.Perm L := by
 intro xs ys h
 induction h with
 | nil => exact fun L e => ⟨L, e, .refl _⟩
 | @cons x l1 l2 p ih =>
  intro L e
  cases L with
  | nil => cases e
  | cons y L =>
   rw [gG1] at e
   injection e with e1 e2
   obtain ⟨L', a, b⟩ := ih L e2
   exact ⟨y :: L', by rw [gG1, e1, a], b.cons y⟩
 | swap x y l =>
  intro L e
  match L, e with
  | [], e => cases e
  | [a], e => simp at e
  | a :: b :: L, e =>
   rw [gG1, gG1] at e
   injection e with e1 e2
   injection e2 with e2 e3
   exact ⟨b :: a :: L, by rw [gG1, gG1, e1, e2, e3], .swap a b L⟩
 | trans _ _ ih1 ih2 =>
  intro L e
  obtain ⟨L1, a1, b1⟩ := ih2 L e
  obtain ⟨L2, a2, b2⟩ := ih1 L1 a1
  exact ⟨L2, a2, b2.trans b1⟩
section
variable {P : Program} {w : World}
def rowV (P : Program) (w : World) (p : Key × Value) : Int × Value := ((mixKind P w).hash p.1, p.2)
def kQO (P : Program) (w : World) (h : Heap) (a : Addr) (L : List (Key × Value)) : Prop :=
 ∃ o es ep t, h.get? a = some o ∧ o.ExactSet ∧ o.data = .set es ep t ∧ es.toList = L.map (rowV P w) ∧ (∀ p ∈ L, (mixKind P w).is p.1 p.2 = true ∧ p.2.scannable = true) ∧ (L.map (·.1)).Nodup ∧
  es.size < scanBound ∧ t.fits es.size = true ∧ Ris t.place.toList ∧ (w.params.followText "set-order" = true ∨ t.led = true)
theorem kRE {k : Key} {v : Value} (h : (mixKind P w).is k v = true) : v.scannable = true := by
 rcases keyIs_shape (show keyIs k v = true from h) with ⟨i, t, rfl, rfl⟩ | ⟨x, t, rfl, rfl⟩ <;> rfl
theorem kOC {L : List (Key × Value)} (g : ∀ p ∈ L, (mixKind P w).is p.1 p.2 = true ∧ p.2.scannable = true) : ElemsOf (mixKind P w) (L.map (rowV P w)) := fun e he => by
 obtain ⟨p, hp, rfl⟩ := gF7.mp he
 exact ⟨⟨p.1, (g p hp).1, rfl⟩, (g p hp).2⟩
theorem kNI {L : List (Key × Value)} (g : ∀ p ∈ L, (mixKind P w).is p.1 p.2 = true ∧ p.2.scannable = true) (k : Key) : k ∈ L.map (·.1) ↔ ∃ e ∈ L.map (rowV P w), (mixKind P w).is k e.2 = true := by
 constructor
 ·intro h
  obtain ⟨p, hp, rfl⟩ := gF7.mp h
  exact ⟨_, gF7.mpr ⟨p, hp, rfl⟩, (g p hp).1⟩
 ·rintro ⟨e, he, q⟩
  obtain ⟨p, hp, rfl⟩ := gF7.mp he
  exact gF7.mpr ⟨p, hp, (mixKind P w).inj _ _ _ (g p hp).1 q⟩
theorem kMA {A : Around} {E : Value → Shared → Prop} {s : Shared} {a : Addr} {g : Bool → Sem Unit} (hg : ∀ (b : Bool) (s₁ : Shared) (Q' : Unit → Shared → Prop), Q' () s₁ → wpAny (model P w) A (g b) Q' E s₁)
  {o : Obj} {es es1 : Array (Int × Value)} {ep : Nat} {t t2 : SetTable} {L1 : List (Key × Value)} (ho : s.heap.get? a = some o) (hex : o.ExactSet) (hd : o.data = .set es ep t) (e1 : es1.toList = L1.map (rowV P w))
  (g1 : ∀ p ∈ L1, (mixKind P w).is p.1 p.2 = true ∧ p.2.scannable = true) (nd1 : (L1.map (·.1)).Nodup) (hb1 : es1.size < scanBound) (hf2 : t2.fits es1.size = true) (hr : Ris t2.place.toList) (hl : w.params.followText "set-order" = true ∨ t2.led = true) {wasDummy : Bool} {R : Option Bool → Shared → Prop}
  (hR : ∀ h' L', Heap.SameBut a s.heap h' → kQO P w h' a L' → L'.Perm L1 → R (some true) { s with heap := h' }) :
  wpAny (model P w) A (do
    storeSet a es1 t2
    if (!wasDummy && t2.tooFull) = true then do
      g (relayAll t2 es1 (SetTable.grown es1.size)).2.2
      storeSet a (relayAll t2 es1 (SetTable.grown es1.size)).1 (relayAll t2 es1 (SetTable.grown es1.size)).2.1
      pure (some true)
     else pure (some true)) R E s := by
 refine wpAny_bind (wpAny_storeSet_of ho hd ?_ (fits_of_scanBound hb1))
 have ho1 := store_at (es' := es1) (t' := t2) ho hd
 have sb1 := Heap.SameBut.update s.heap a (Obj.putSet es1 t2)
 by_cases hfull : (!wasDummy && t2.tooFull) = true
 ·rw [if_pos hfull]
  have p1 := relayAll_perm t2 es1 (SetTable.grown es1.size)
  have p2 := relayAll_fits t2 es1 (SetTable.grown es1.size)
  have p3 := relayAll_ris t2 es1 (SetTable.grown es1.size)
  have p4 := relayAll_led t2 es1 (SetTable.grown es1.size)
  generalize relayAll t2 es1 (SetTable.grown es1.size) = Z at p1 p2 p3 p4 ⊢
  obtain ⟨es2, t3, gave⟩ := Z
  dsimp only at p1 p2 p3 p4 ⊢
  obtain ⟨L2, q1, q2⟩ := kNQ p1 L1 e1
  have sz : es2.size = es1.size := by rw [← Array.length_toList, p1.length_eq, Array.length_toList]
  have hb2 : es2.size < scanBound := by rw [sz]; exact hb1
  refine wpAny_bind (hg _ _ _ (wpAny_bind (wpAny_storeSet_of ho1 rfl ?_ (fits_of_scanBound hb2))))
  have ho2 := store_at (es' := es2) (t' := t3) ho1 rfl
  exact wpAny_pure (hR _ L2 (sb1.trans (Heap.SameBut.update _ a _)) ⟨_, es2, _, t3, ho2, hex, rfl, q1, fun p hp => g1 p (q2.mem_iff.mp hp), (q2.map (·.1)).nodup_iff.mpr nd1, hb2, by rw [sz] at p2 ⊢; exact p2, p3, hl.imp id fun z => by rw [p4]; exact z⟩ q2)
 ·rw [if_neg hfull]
  exact wpAny_pure (hR _ L1 sb1 ⟨_, es1, _, t2, ho1, hex, rfl, e1, g1, nd1, hb1, hf2, hr, hl⟩ (.refl _))
theorem addV {A : Around} {E : Value → Shared → Prop} {s : Shared} {a : Addr} {L : List (Key × Value)} {k : Key} {v : Value} {Q : Bool → Shared → Prop} (R : kQO P w s.heap a L) (hk : (mixKind P w).is k v = true) (room : L.length + 1 < scanBound)
  (hQ : ∀ b h' L', Heap.SameBut a s.heap h' → kQO P w h' a L' → (k ∈ L.map (·.1) → L' = L) → (k ∉ L.map (·.1) → L'.Perm ((k, v) :: L)) → Q b { s with heap := h' }) :
  wpAny (model P w) A (setAddHashed a v ((mixKind P w).hash k)) Q E s := by
 obtain ⟨o, es, ep, t, ho, hex, hd, he, g, nd, hb, hf, hr, hl⟩ := R
 have sc := kRE hk
 have el : ElemsOf (mixKind P w) es.toList := by rw [he]; exact kOC g
 have szL : es.size = L.length := by rw [← Array.length_toList, he, gF0]
 unfold setAddHashed setAddHashedIn
 refine wpAny_holding (wpAny_bind (wpAny_setState_of ho hd hf ?_))
 dsimp only
 rw [byScan_of sc hb el]
 simp only [↓reduceIte]
 unfold setAddByScan
 refine wpAny_bind (wpAny_bind (wpAny_rule (wpAny_bind (wpAny_setScan_of hk ho hd hf el ?_))))
 cases hfi : List.findIdx? (fun e => (mixKind P w).is k e.2) es.toList with
 | some j =>
  dsimp only
  obtain ⟨hj, pj, _⟩ := List.findIdx?_eq_some_iff_getElem.mp hfi
  have hin : k ∈ L.map (·.1) := (kNI g k).mpr ⟨es.toList[j], by rw [← he]; exact List.getElem_mem hj, pj⟩
  exact wpAny_pure (wpAny_pure (hQ false s.heap L (Heap.SameBut.refl a s.heap) ⟨o, es, ep, t, ho, hex, hd, he, g, nd, hb, hf, hr, hl⟩ (fun _ => rfl) fun z => absurd hin z))
 | none =>
  dsimp only
  have hout : k ∉ L.map (·.1) := fun z => by
   obtain ⟨e, me, q⟩ := (kNI g k).mp z
   rw [← he] at me
   have c := List.findIdx?_eq_none_iff.mp hfi e me
   rw [q] at c
   cases c
  have gw : ∀ (b : Bool) {s₁ : Shared} {Q' : Unit → Shared → Prop}, Q' () s₁ → wpAny (model P w) A (match b with | true => rule "set.scan.the-table-gave-way" | false => pure ()) Q' E s₁ :=
   fun b s₁ Q' q => by cases b <;> first | exact wpAny_pure q | exact wpAny_rule q
  have p1 := layNew_perm t es ((mixKind P w).hash k) v
  have p2 := layNew_fits t es ((mixKind P w).hash k) v
  have p3 := layNew_ris t es ((mixKind P w).hash k) v hr
  have p4 := layNew_led t es ((mixKind P w).hash k) v
  generalize layNew t es ((mixKind P w).hash k) v = Z at p1 p2 p3 p4 ⊢
  obtain ⟨es1, t1, wasDummy, gave⟩ := Z
  dsimp only at p1 p2 p3 p4 ⊢
  rw [Array.toList_push] at p1
  have pc : es1.toList.Perm (((mixKind P w).hash k, v) :: es.toList) := p1.trans (List.perm_append_singleton _ _)
  obtain ⟨L1, q1, q2⟩ := kNQ pc ((k, v) :: L) (by rw [gG1, ← he]; rfl)
  have g1 : ∀ p ∈ L1, (mixKind P w).is p.1 p.2 = true ∧ p.2.scannable = true := fun p hp => by
   rcases gG5.mp (q2.mem_iff.mp hp) with z | z
   ·rw [z]; exact ⟨hk, sc⟩
   ·exact g p z
  have nd1 : (L1.map (·.1)).Nodup := (q2.map (·.1)).nodup_iff.mpr (List.nodup_cons.mpr ⟨hout, nd⟩)
  have sz1 : es1.size = L.length + 1 := by rw [← Array.length_toList, pc.length_eq, gG0, Array.length_toList, szL]
  have hb1 : es1.size < scanBound := by rw [sz1]; exact room
  have hl1 : w.params.followText "set-order" = true ∨ t1.led = true := hl.imp id fun z => by rw [p4]; exact z
  have fin : ∀ h' L', Heap.SameBut a s.heap h' → kQO P w h' a L' → L'.Perm L1 → Q true { s with heap := h' } := fun h' L' sb r pm => hQ true h' L' sb r (fun z => absurd z hout) fun _ => pm.trans q2
  refine wpAny_bind (gw _ ?_)
  split
  ·refine wpAny_bind ?_
   rw [hashByValue_scannable 8 sc]
   refine wpAny_pure ?_
   refine kMA ?_ ho hex hd q1 g1 nd1 hb1 ?_ ?_ ?_ ?_
   ·intro b s₁ Q' q; cases b <;> first | exact wpAny_pure q | exact wpAny_rule q
   ·first | (split <;> first | exact p2 | exact SetTable.fits_plain_off p2) | exact p2
   ·first | (split <;> exact p3) | exact p3
   ·first | (split <;> exact hl1) | exact hl1
   ·intro h' L' sb r pm; dsimp only; exact wpAny_pure (fin h' L' sb r pm)
  ·refine wpAny_bind (wpAny_pure ?_)
   simp only [↓reduceIte]
   refine kMA ?_ ho hex hd q1 g1 nd1 hb1 p2 p3 hl1 ?_
   ·intro b s₁ Q' q; cases b <;> first | exact wpAny_pure q | exact wpAny_rule q
   ·intro h' L' sb r pm; dsimp only; exact wpAny_pure (fin h' L' sb r pm)
theorem led0 : w.params.followText "set-order" = true ∨ (SetTable.fresh 0 0 (!w.params.followText "set-order")).led = true := by
 show _ ∨ (!w.params.followText "set-order") = true
 cases w.params.followText "set-order"
 ·exact .inr rfl
 ·exact .inl rfl
def kitV (P : Program) (w : World) : Kit P w where
 K := Key
 is := fun _ k v => (mixKind P w).is k v = true
 keep := fun _ h => h
 apart := fun h _ _ _ => h
 hold := kQO P w
 held := fun h k => by
  obtain ⟨o, es, ep, t, ho, r⟩ := h
  exact ⟨o, es, ep, t, k o ho, r⟩
 most := scanBound - 1
 fresh := fun {h a} e => ⟨_, #[], 0, _, e, ⟨rfl, rfl, rfl⟩, rfl, rfl, fun p hp => (by cases hp), List.nodup_nil, (by decide), rfl, List.Pairwise.nil, led0⟩
 seen := fun h => by
  obtain ⟨o, es, ep, t, ho, hex, hd, he, g, nd, hb, hf, hr, hl⟩ := h
  exact ⟨o, es, ep, t, ho, hex.1, hd, by rw [he, gH3]; rfl, hf, hb, hr, hl⟩
 nodup := fun h => by
  obtain ⟨o, es, ep, t, ho, hex, hd, he, g, nd, r⟩ := h
  exact nd
 add := fun {A E s a L k v Q} hu R hL hk hm hQ => by
  unfold setAdd
  refine wpAny_holding (wpAny_bind ((mixKind P w).pyHash hk ?_))
  exact addV (s := { s with toks := s.toks + 1 }) R hk (by omega) fun b h' L' sb r c1 c2 => hQ b h' L' _ (Nat.le_succ _) sb r c1 c2
end
section
variable {P : Program} {w : World} {A : Around} {E : Value → Shared → Prop} {s : Shared}
abbrev kJI (P : Program) (w : World) (h : Heap) (k : Lot) (b : Addr) : Prop := IsTupleKey (mixKind P w) h k b
theorem kMh {k : Lot} {vs : List Value} (h : ItemsAre (mixKind P w) k vs) : ∀ v ∈ vs, (∀ n, ofAClassStatement n v = pure false) ∧ ∃ b, ∀ n, hashByValue n v = pure b := by
 induction h with
 | nil => intro v hv; cases hv
 | @cons k0 u ks us h1 _ ih =>
  intro v hv
  rcases gG5.mp hv with rfl | hv
  ·rcases keyIs_shape (show keyIs k0 v = true from h1) with ⟨i, t, rfl, rfl⟩ | ⟨x, t, rfl, rfl⟩
   ·exact ⟨fun n => by cases n <;> rfl, _, fun n => hashByValue_scannable n rfl⟩
   ·exact ⟨fun n => by cases n <;> rfl, _, fun n => hashByValue_scannable n rfl⟩
  ·exact ih v hv
theorem kLU {k : Lot} {b : Addr} {Q : Bool → Shared → Prop} (hk : kJI P w s.heap k b) (h : Q false s) : wpAny (model P w) A (ofAClassStatement 8 (.ref b)) Q E s := by
 have ty := hk.typeIs
 obtain ⟨o, its, n, ho, _, hd, hi⟩ := hk
 have quiet := kMh hi
 unfold ofAClassStatement
 refine wpAny_bind (wpAny_typeOf ty ?_)
 dsimp only
 simp only [show (("tuple" : String) == "tuple") = true from by decide, if_true, Bool.not_true, gE3, if_false]
 try refine wpAny_bind (wpAny_pure ?_)
 try simp only [Bool.not_true, gE3, if_false]
 show wpAny _ _ (seqItems? (.ref b) >>= _) _ _ s
 refine wpAny_bind (wpAny_seqItems ho hd ?_)
 dsimp only
 refine wpAny_bind ?_
 show wpAny _ _ (forIn its _ _) _ _ s
 rw [← Array.forIn_toList]
 refine wpAny_forIn_list _ (fun todo r s' => r.1 = none ∧ (s' = s ∧ ∀ v ∈ todo, v ∈ its.toList)) _ ?turn ?over _ _ ⟨rfl, rfl, fun _ z => z⟩
 case turn =>
  rintro v todo r s' ⟨_, rfl, sub⟩
  rw [(quiet v (sub v gF1)).1]
  refine wpAny_bind (wpAny_pure ?_)
  simp only [gE3, if_false]
  exact wpAny_pure ⟨rfl, rfl, fun u hu => sub u (gF2 _ hu)⟩
 case over =>
  rintro ⟨r1, _⟩ s' ⟨e, rfl, _⟩
  simp only at e
  subst e
  exact wpAny_pure h
theorem kPK {k : Lot} {b : Addr} {Q : Bool → Shared → Prop} (hk : kJI P w s.heap k b) (h : ∀ c, Q c s) : wpAny (model P w) A (hashByValue 8 (.ref b)) Q E s := by
 have ty := hk.typeIs
 obtain ⟨o, its, n, ho, _, hd, hi⟩ := hk
 have quiet := kMh hi
 unfold hashByValue
 refine wpAny_bind (wpAny_specialOf ty F.slot_tuple_hash.lookup ?_)
 show wpAny _ _ (seqItems? (.ref b) >>= _) _ _ s
 refine wpAny_bind (wpAny_seqItems ho hd ?_)
 refine wpAny_bind ?_
 show wpAny _ _ (forIn its _ _) _ _ s
 rw [← Array.forIn_toList]
 refine wpAny_forIn_list _ (fun todo r s' => r.1 = none ∧ (s' = s ∧ ∀ v ∈ todo, v ∈ its.toList)) _ ?turn ?over _ _ ⟨rfl, rfl, fun _ z => z⟩
 case turn =>
  rintro v todo r s' ⟨_, rfl, sub⟩
  obtain ⟨c, hc⟩ := (quiet v (sub v gF1)).2
  rw [hc]
  refine wpAny_bind (wpAny_pure ?_)
  cases c with
  | true =>
   simp only [Bool.not_true, gE3, if_false]
   exact wpAny_pure ⟨rfl, rfl, fun u hu => sub u (gF2 _ hu)⟩
  | false =>
   simp only [Bool.not_false, if_true]
   exact wpAny_pure (wpAny_pure (h false))
 case over =>
  rintro ⟨r1, _⟩ s' ⟨e, rfl, _⟩
  simp only at e
  subst e
  exact wpAny_pure (h true)
theorem kNc {k : Lot} {b : Addr} {Q : Bool → Shared → Prop} (hk : kJI P w s.heap k b) {ys : List Value} (hy : ∀ y ∈ ys, ∃ k' c, y = Value.ref c ∧ kJI P w s.heap k' c) (h : Q false s) :
  wpAny (model P w) A (searchCouldBeSeen (.ref b) ys) Q E s := by
 unfold searchCouldBeSeen
 refine wpAny_bind ?_
 refine wpAny_forIn_list _ (fun todo r s' => r.1 = none ∧ (s' = s ∧ ∀ y ∈ todo, y ∈ ys)) _ ?turn ?over _ _ ⟨rfl, rfl, fun _ z => z⟩
 case turn =>
  rintro v todo r s' ⟨_, rfl, sub⟩
  obtain ⟨k', c, rfl, hc⟩ := hy v (sub v gF1)
  have sub' : ∀ y ∈ todo, y ∈ ys := fun u hu => sub u (gF2 _ hu)
  dsimp only
  by_cases same : (b == c || (carriedByValue (.ref b) && carriedByValue (.ref c))) = true
  ·exact wp_if_pos same (wpAny_pure ⟨rfl, rfl, sub'⟩)
  ·refine wp_if_neg same (wpAny_bind (wpAny_eqIsQuiet_tuple hk ?_))
   simp only [Bool.not_true, gE3, if_false]
   refine wpAny_bind (wpAny_eqIsQuiet_tuple hc ?_)
   simp only [Bool.not_true, gE3, if_false]
   refine wpAny_bind (kLU hk ?_)
   simp only [gE3, if_false]
   refine wpAny_bind (kLU hc ?_)
   simp only [gE3, if_false]
   exact wpAny_pure ⟨rfl, rfl, sub'⟩
 case over =>
  rintro ⟨r1, _⟩ s' ⟨e, rfl, _⟩
  simp only at e
  subst e
  exact wpAny_pure h
variable {a : Addr} {L : List (Lot × Value)} {es : Array (Int × Value)} {ep : Nat} {t : SetTable}
theorem HoldT.fits {h : Heap} (R : HoldT P w h a L es ep t) : t.fits es.size = true := by
 have h1 := R.tab.sz
 have h2 := R.size
 have h3 := R.room
 rw [gF0] at h1
 unfold SetTable.fits SetTable.fill
 rw [R.tab.dm, Bool.and_eq_true, beq_iff_eq, decide_eq_true_eq]
 show t.place.size = es.size ∧ t.place.size + 0 ≤ t.mask
 omega
abbrev kHX (t : SetTable) (h : Int) (c : Nat) : Nat := way t.mask h c
abbrev kHe (t : SetTable) (h : Int) (c : Nat) : SetTable.Probe := nth t.mask (runAt t.mask (SetTable.bits h % (t.mask + 1)) (SetTable.bits h)) c
theorem kJe (m : Nat) : ∀ (n : Nat) (p : SetTable.Probe), p.dummy = none → (nth m p n).dummy = none
 | 0, _, h => h
 | n + 1, p, h => kJe m n (adv m p) (by unfold adv; split <;> exact h)
theorem seek (R : HoldT P w s.heap a L es ep t) (hL : ∀ p ∈ L, ∃ b, p.2 = .ref b ∧ kJI P w s.heap p.1 b) {x : Addr} {k : Lot} (hx : kJI P w s.heap k x) (hu : A.units < cLine) {N : Nat} (nf : N < 10 * SetTable.turns t.mask)
  (nE : kHX t (lotH P w k) N ∉ t.place.toList) (nB : ∀ c, c < N → kHX t (lotH P w k) c ∈ t.place.toList) {Q : SetFound → Shared → Prop} (yes : k ∈ L.map (·.1) → Q (.there none) s) (no : k ∉ L.map (·.1) → Q (.free (kHX t (lotH P w k) N) false) s) :
  ∀ (f c : Nat) (from_ : Option SetTable.Probe), from_.getD (t.probeStart (lotH P w k)) = kHe t (lotH P w k) c → c ≤ N → N - c < f →
   (∀ (i : Nat) p, L[i]? = some p → p.1 = k → ∃ d, c ≤ d ∧ d < N ∧ t.place.toList[i]? = some (kHX t (lotH P w k) d)) → wpAny (model P w) A (setSearchFrom a (.ref x) (lotH P w k) true f from_) Q E s
 | 0, c, _, _, _, hf, _ => absurd hf (Nat.not_lt_zero _)
 | f + 1, c, from_, hst, hc, hf, ahead => by
  obtain ⟨o, o1, o2, o3⟩ := R.obj
  have odd : ¬ t.gaveWay = true := by
   unfold SetTable.gaveWay
   rw [mask_odd R.tab.mok]
   decide
  rw [setSearchFrom_succ]
  refine wpAny_bind (wpAny_setState_of o1 o3 R.fits ?_)
  dsimp only
  refine wp_if_neg odd ?_
  try refine wpAny_bind (wpAny_pure ?_)
  have sum : ∀ q, nth t.mask (kHe t (lotH P w k) c) q = kHe t (lotH P w k) (c + q) := fun q => (nth_add t.mask c _ q).symm
  have sumJ : ∀ q, (nth t.mask (kHe t (lotH P w k) c) q).j = kHX t (lotH P w k) (c + q) := fun q => congrArg SetTable.Probe.j (sum q)
  have told := go_spec t R.tab.ris R.tab.dm (fun i => (es[i]?.map (·.1)).getD 0) (lotH P w k) (10 * SetTable.turns t.mask) (N - c) _ (kJe t.mask c _ rfl) (by omega) (fun q hq => by rw [sumJ]; exact nB (c + q) (by omega))
   (by rw [sumJ, show c + (N - c) = N by omega]; exact nE)
  have hOf : ∀ (i : Nat) p, L[i]? = some p → (fun i => (es[i]?.map (·.1)).getD 0) i = lotH P w p.1 := fun i p hp => by
   show (es[i]?.map (·.1)).getD 0 = _
   rw [R.row hp]
   rfl
  rcases told with ⟨q, i, hq, hi, _, first, found⟩ | ⟨first, found⟩
  ·have met : t.probe (fun i => (es[i]?.map (·.1)).getD 0) (lotH P w k) (from_.getD (t.probeStart (lotH P w k))) = some (.candidate (kHX t (lotH P w k) (c + q)) i (kHe t (lotH P w k) (c + (q + 1)))) := by
    rw [hst, ← sumJ, ← sum]
    exact found
   rw [met]
   dsimp only
   rw [sumJ] at hi
   have iL : i < L.length := by
    have z1 : i < t.place.toList.length := (gF8.mp hi).1
    have z2 := R.tab.sz
    rw [gF0] at z2
    rw [Array.length_toList] at z1
    omega
   have hp : L[i]? = some L[i] := gF6 iL
   generalize L[i] = p at hp
   have pm : p ∈ L := gH9 hp
   obtain ⟨b, eb, hb⟩ := hL p pm
   have rest : wpAny (model P w) A (searchRest a (.ref x) (lotH P w k) true f es t (kHX t (lotH P w k) (c + q)) i (kHe t (lotH P w k) (c + (q + 1)))) Q E s := by
    unfold searchRest
    rw [R.row hp, eb]
    dsimp only
    refine wpAny_bind (wpAny_holding (wpAny_eqBool_tuple hu hb hx (wpAny_bind (wpAny_setState_of o1 o3 R.fits ?_))))
    dsimp only
    by_cases same : p.1 = k
    ·exact wp_if_pos (by simp [same]) (wpAny_pure (yes (gF7.mpr ⟨p, pm, same⟩)))
    ·refine wp_if_neg (by simp [same]) ?_
     try refine wpAny_bind (wpAny_pure ?_)
     rw [sameMem]
     dsimp only
     have live : t.slot (kHX t (lotH P w k) (c + q)) = .live i := slot_live R.tab.ris hi
     simp only [if_true, live, R.row hp, eb]
     refine wpAny_bind (wpAny_isSame_ref_self (wpAny_bind (wpAny_pure ?_)))
     simp only [if_true]
     refine wp_if_neg (by simp [same]) ?_
     refine seek R hL hx hu nf nE nB yes no f (c + (q + 1)) _ rfl (by omega) (by omega) fun i0 p0 h0 e0 => ?_
     obtain ⟨d, d1, d2, d3⟩ := ahead i0 p0 h0 e0
     refine ⟨d, ?_, d2, d3⟩
     rcases Nat.lt_trichotomy d (c + q) with z | z | z
     ·refine (first (d - c) i0 (by omega) (by rw [sumJ, show c + (d - c) = d by omega]; exact d3) ?_).elim
      exact (hOf i0 p0 h0).trans (congrArg (lotH P w) e0)
     ·rw [z] at d3
      have live0 := slot_live R.tab.ris d3
      rw [live] at live0
      injection live0 with ei
      rw [← ei, hp] at h0
      exact (same ((congrArg Prod.fst (gF3 h0)).trans e0)).elim
     ·omega
   by_cases lq : t.led = true
   ·refine wp_if_neg (by simp [lq]) ?_
    try refine wpAny_bind (wpAny_pure ?_)
    exact rest
   ·refine wp_if_pos (by simp [lq]) (wpAny_bind (kNc hx (fun y hy => ?_) ?_))
    ·obtain ⟨e, he, rfl⟩ := gF7.mp hy
     have he1 : e ∈ es ∧ e.1 = lotH P w k := by simpa using he
     have he2 : e ∈ es.toList := by simpa using he1.1
     rw [R.rows] at he2
     obtain ⟨p2, m2, rfl⟩ := gF7.mp he2
     obtain ⟨b2, eb2, hb2⟩ := hL p2 m2
     exact ⟨p2.1, b2, eb2, hb2⟩
    ·refine wp_if_neg (by decide) ?_
     try refine wpAny_bind (wpAny_pure ?_)
     exact rest
  ·have met : t.probe (fun i => (es[i]?.map (·.1)).getD 0) (lotH P w k) (from_.getD (t.probeStart (lotH P w k))) = some (.empty (kHX t (lotH P w k) N) none) := by
    have e2 : kHX t (lotH P w k) N = (nth t.mask (kHe t (lotH P w k) c) (N - c)).j := by rw [sumJ, show c + (N - c) = N by omega]
    rw [hst, e2]
    exact found
   rw [met]
   dsimp only
   refine wpAny_pure (no fun hm => ?_)
   obtain ⟨p0, m0, e0⟩ := gF7.mp hm
   obtain ⟨i0, l0, g0⟩ := List.getElem_of_mem m0
   have h0 : L[i0]? = some p0 := by rw [gF6 l0, g0]
   obtain ⟨d, d1, d2, d3⟩ := ahead i0 p0 h0 e0
   exact first (d - c) i0 (by omega) (by rw [sumJ, show c + (d - c) = d by omega]; exact d3) ((hOf i0 p0 h0).trans (congrArg (lotH P w) e0))
theorem kRk (R : HoldT P w s.heap a L es ep t) (hL : ∀ p ∈ L, ∃ b, p.2 = .ref b ∧ kJI P w s.heap p.1 b) {x : Addr} {k : Lot} (hx : kJI P w s.heap k x) (hu : A.units < cLine) {Q : SetFound → Shared → Prop} (yes : k ∈ L.map (·.1) → Q (.there none) s)
  (no : ∀ N, k ∉ L.map (·.1) → kHX t (lotH P w k) N ∉ t.place.toList → (∀ c, c < N → kHX t (lotH P w k) c ∈ t.place.toList) → Q (.free (kHX t (lotH P w k) N) false) s) : wpAny (model P w) A (setSearch a (.ref x) (lotH P w k) true) Q E s := by
 have rm := R.room
 obtain ⟨N, nf, nE, nB⟩ := R.tab.first (by rw [gF0]; omega) (lotH P w k)
 have big : N < 100000 := by
  have : 10 * SetTable.turns t.mask ≤ 1420 := by
   unfold SetTable.turns
   rcases R.tab.mok with e | e | e <;> omega
  omega
 unfold setSearch
 refine seek R hL hx hu nf nE nB yes (fun z => no N z nE nB) 100000 0 none rfl (Nat.zero_le _) (by omega) fun i p hp hk => ?_
 have hi : (L.map fun p => lotH P w p.1)[i]? = some (lotH P w k) := by rw [gI0, hp, ← hk]; rfl
 have il : i < t.place.toList.length := by
  have z1 : i < L.length := (gF8.mp hp).1
  have z2 := R.tab.sz
  rw [gF0] at z2
  rw [Array.length_toList]
  omega
 obtain ⟨d, hd, e⟩ := R.tab.before nE hi (gF6 il)
 exact ⟨d, Nat.zero_le _, hd, by rw [gF6 il]; exact congrArg some e.symm⟩
theorem kOE {α : Type} (L : List α) : (List.range L.length).filterMap (fun i => L[i]?) = L := by
 have key : ∀ n, n ≤ L.length → (List.range n).filterMap (fun i => L[i]?) = L.take n := by
  intro n
  induction n with
  | zero => intro _; rfl
  | succ n ih =>
   intro hn
   have hlt : n < L.length := hn
   rw [List.range_succ, List.filterMap_append, ih (Nat.le_of_lt hlt), List.take_succ, gF6 hlt]
   congr 1
   simp [gF6 hlt]
 rw [key L.length (Nat.le_refl _), List.take_length]
theorem kOF {L : List (Lot × Value)} {es : Array (Int × Value)} {order : Array Nat} (hr : es.toList = L.map (rowT P w)) (hp : order.toList.Perm (List.range L.length)) :
  ∃ L2 : List (Lot × Value), (order.filterMap (es[·]?)).toList = L2.map (rowT P w) ∧ L2.Perm L ∧ (L2.map fun p => lotH P w p.1) = order.toList.map fun i => (es.map (·.1)).getD i 0 := by
 have ent : ∀ i (h : i < L.length), es[i]? = some (rowT P w L[i]) := fun i h => by
  rw [← Array.getElem?_toList, hr, gI0, gF6 h]
  rfl
 have key : ∀ l : List Nat, (∀ i ∈ l, i < L.length) → l.filterMap (fun i => es[i]?) = (l.filterMap fun i => L[i]?).map (rowT P w) ∧ ((l.filterMap fun i => L[i]?).map fun p => lotH P w p.1) = l.map fun i => (es.map (·.1)).getD i 0 := by
  intro l
  induction l with
  | nil => intro _; exact ⟨rfl, rfl⟩
  | cons i l ih =>
   intro hl
   have hi := hl i gF1
   obtain ⟨e1, e2⟩ := ih fun j hj => hl j (gF2 _ hj)
   rw [List.filterMap_cons_some (ent i hi), List.filterMap_cons_some (gF6 hi), gG1, gG1, gG1, e1, e2]
   refine ⟨rfl, ?_⟩
   congr 1
   have e5 : (es.map (·.1))[i]? = some (rowT P w L[i]).1 := by rw [Array.getElem?_map, ent i hi]; rfl
   rw [Array.getD_eq_getD_getElem?, e5]
   rfl
 obtain ⟨e1, e2⟩ := key order.toList fun i hi => List.mem_range.mp (hp.mem_iff.mp hi)
 refine ⟨order.toList.filterMap fun i => L[i]?, by first | (rw [Array.toList_filterMap]; exact e1) | simpa using e1, ?_, e2⟩
 have := hp.filterMap fun i => L[i]?
 rw [kOE] at this
 exact this
theorem kUE {o : Obj} (ho : s.heap.get? a = some o) (hex : o.ExactSet) (hd : o.data = .set es ep t) (rows : es.toList = L.map (rowT P w)) (refs : ∀ p ∈ L, ∃ b, p.2 = .ref b) (psz : t.place.size = es.size) (hdm : t.dummies = #[]) (hfl : es.size ≤ t.mask)
  (nd : (L.map (·.1)).Nodup) (ld : w.params.followText "set-order" = true ∨ t.led = true) (few : L.length < 77) {wanted M : Nat} (hw : SetTable.sizeAbove wanted - 1 = M) (hM : MaskOk M) (hw2 : SetTable.sizeAbove wanted ≤ 128) (hn : L.length * 5 < M * 3) {Q : Unit → Shared → Prop}
  (hQ : ∀ h' L' es' ep' t', Heap.SameBut a s.heap h' → HoldT P w h' a L' es' ep' t' → L'.Perm L → Q () { s with heap := h' }) : wpAny (model P w) A (setRelay a wanted) Q E s := by
 have szL : es.size = L.length := by rw [← Array.length_toList, rows, gF0]
 have fits : t.fits es.size = true := by
  unfold SetTable.fits SetTable.fill
  rw [hdm, Bool.and_eq_true, beq_iff_eq, decide_eq_true_eq]
  show t.place.size = es.size ∧ t.place.size + 0 ≤ t.mask
  omega
 obtain ⟨t', order, e, hp, T, em, el, ep', ed⟩ := relaid_ok t (hs := es.map (·.1)) (wanted := wanted) hw hM (by rw [Array.size_map, szL]; omega)
 rw [Array.size_map, szL] at hp
 obtain ⟨L2, r1, r2, r3⟩ := kOF rows hp
 rw [← r3] at T
 have sz2 : (order.filterMap (es[·]?)).size = es.size := by rw [← Array.length_toList, r1, gF0, r2.length_eq, szL]
 rw [setRelay_eq]
 refine wpAny_bind (wpAny_setState_of ho hd fits ?_)
 dsimp only
 refine wp_if_neg (by rw [sizeLine_eq]; omega) ?_
 try refine wpAny_bind (wpAny_pure ?_)
 rw [e]
 dsimp only
 refine wpAny_bind (wp_if_neg (by rw [sz2]; simp) ?_)
 try refine wpAny_bind (wpAny_pure ?_)
 refine wpAny_pure ?_
 dsimp only
 refine wpAny_storeSet_of ho hd ?_ (by rw [sz2, szL, sizeLine_eq]; omega)
 refine hQ _ L2 (order.filterMap (es[·]?)) (ep + 1) t' (Heap.SameBut.update ..) ⟨⟨_, store_at ho hd, ⟨hex.1, hex.2.1, hex.2.2⟩, rfl⟩, r1, fun p hp => refs p (r2.mem_iff.mp hp), T, (r2.map (·.1)).nodup_iff.mpr nd, by rw [el]; exact ld, ?_, by rw [r2.length_eq]; exact few⟩ r2
 rw [r2.length_eq, em]
 exact hn
theorem addT (R : HoldT P w s.heap a L es ep t) (hL : ∀ p ∈ L, ∃ b, p.2 = .ref b ∧ kJI P w s.heap p.1 b) {x : Addr} {k : Lot} (hx : kJI P w s.heap k x) (hu : A.units < cLine) (few : L.length + 1 < 77) {Q : Bool → Shared → Prop}
  (hQ : ∀ b h' L' es' ep' t', Heap.SameBut a s.heap h' → HoldT P w h' a L' es' ep' t' → (k ∈ L.map (·.1) → L' = L) → (k ∉ L.map (·.1) → L'.Perm ((k, .ref x) :: L)) → Q b { s with heap := h' }) : wpAny (model P w) A (setAddHashed a (.ref x) (lotH P w k)) Q E s := by
 obtain ⟨o, o1, o2, o3⟩ := R.obj
 have szL := R.size
 have rm := R.room
 unfold setAddHashed
 refine wpAny_holding ?_
 rw [show (100000 : Nat) = 99999 + 1 from rfl, setAddHashedIn_succ]
 refine wpAny_bind (wpAny_setState_of o1 o3 R.fits ?_)
 dsimp only
 refine wp_if_neg (by simp [byScan, Value.scannable]) ?_
 try refine wpAny_bind (wpAny_pure ?_)
 refine wpAny_bind (kRk R hL hx hu (fun hm => ?_) fun N hm nE nB => ?_)
 ·dsimp only
  exact wpAny_pure (hQ false s.heap L es ep t (Heap.SameBut.refl a s.heap) R (fun _ => rfl) fun z => absurd hm z)
 ·dsimp only
  refine wpAny_bind (wpAny_setState_of o1 o3 R.fits ?_)
  dsimp only
  obtain ⟨q1, q2, q3, q4, q5, q6, q7, q8, q9⟩ := R.tab.put nE nB
  generalize hz : t.put (way t.mask (lotH P w k) N) = z at q1 q3 q4 q5 q6 q7 q8 q9
  obtain ⟨t0, pos⟩ := z
  dsimp only at q1 q3 q4 q5 q6 q7 q8 q9 ⊢
  subst q1
  have main : ∀ t1 : SetTable, TabOk t1 ((L.map fun p => lotH P w p.1).take (SetTable.below t.place (way t.mask (lotH P w k) N)) ++ lotH P w k :: (L.map fun p => lotH P w p.1).drop (SetTable.below t.place (way t.mask (lotH P w k) N))) → t1.mask = t.mask → t1.led = t.led → t1.fill = (L.map fun p => lotH P w p.1).length + 1 →
    wpAny (model P w) A (do
     storeSet a (SetTable.insertAt es (SetTable.below t.place (way t.mask (lotH P w k) N)) (lotH P w k, Value.ref x)) t1
     if (!false && t1.tooFull) = true then do
      setRelay a (SetTable.grown (es.size + 1))
      pure true
     else pure true) Q E s := by
   clear q3 q4 q5 q6 q7 q8 q9 hz
   intro t1 q3 q4 q5 q9
   have rows1 : (SetTable.insertAt es (SetTable.below t.place (way t.mask (lotH P w k) N)) (lotH P w k, Value.ref x)).toList = (L.take (SetTable.below t.place (way t.mask (lotH P w k) N)) ++ (k, Value.ref x) :: L.drop (SetTable.below t.place (way t.mask (lotH P w k) N))).map (rowT P w) := by
    rw [SetTable.toList_insertAt, R.rows, gG7, gG1, List.map_take, List.map_drop]
    rfl
   generalize SetTable.below t.place (way t.mask (lotH P w k) N) = pos at q2 q3 rows1 ⊢
   have pm : (L.take pos ++ (k, Value.ref x) :: L.drop pos).Perm ((k, Value.ref x) :: L) := by
    have h : (L.take pos ++ (k, Value.ref x) :: L.drop pos).Perm ((k, Value.ref x) :: (L.take pos ++ L.drop pos)) := List.perm_middle
    rw [List.take_append_drop] at h
    exact h
   have tab1 : TabOk t1 ((L.take pos ++ (k, Value.ref x) :: L.drop pos).map fun p => lotH P w p.1) := by
    rw [gG7, gG1, List.map_take, List.map_drop]
    exact q3
   generalize SetTable.insertAt es pos (lotH P w k, Value.ref x) = es1 at rows1 ⊢
   generalize L.take pos ++ (k, Value.ref x) :: L.drop pos = L1 at pm tab1 rows1
   have len1 : L1.length = L.length + 1 := pm.length_eq
   have nd1 : (L1.map (·.1)).Nodup := (pm.map (·.1)).nodup_iff.mpr (List.nodup_cons.mpr ⟨hm, R.nd⟩)
   have sz1 : es1.size = L.length + 1 := by rw [← Array.length_toList, rows1, gF0, len1]
   have refs1 : ∀ p ∈ L1, ∃ b, p.2 = Value.ref b := fun p hp => by
    rcases gG5.mp (pm.mem_iff.mp hp) with e | hp
    ·rw [e]; exact ⟨x, rfl⟩
    ·exact R.refs p hp
   have ld1 : w.params.followText "set-order" = true ∨ t1.led = true := by rw [q5]; exact R.led
   refine wpAny_bind (wpAny_storeSet_of o1 o3 ?_ (by rw [sz1, sizeLine_eq]; omega))
   have sb : Heap.SameBut a s.heap (s.heap.update a (Obj.putSet es1 t1)) := Heap.SameBut.update ..
   have ho1 := store_at (es' := es1) (t' := t1) o1 o3
   generalize s.heap.update a (Obj.putSet es1 t1) = h1 at sb ho1 ⊢
   have fill1 : t1.fill = L.length + 1 := by rw [q9, gF0]
   by_cases full : t1.tooFull = true
   ·have hfull : (L.length + 1) * 5 ≥ t1.mask * 3 := by
     have h := full
     unfold SetTable.tooFull at h
     rw [decide_eq_true_eq, fill1] at h
     exact h
    first
     | (refine wpAny_bind ?_; refine wp_if_pos (by simp [full]) ?_)
     | (refine wp_if_pos (by simp [full]) ?_; refine wpAny_bind ?_)
    rw [szL]
    have psz1 : t1.place.size = es1.size := by
     have h := tab1.sz
     rw [gF0, len1] at h
     rw [h, sz1]
    have which : (t.mask = 7 ∧ L.length = 4) ∨ (t.mask = 31 ∧ L.length = 18) := by
     rcases R.tab.mok with e | e | e
     ·exact .inl ⟨e, by rw [q4, e] at hfull; rw [e] at rm; omega⟩
     ·exact .inr ⟨e, by rw [q4, e] at hfull; rw [e] at rm; omega⟩
     ·rw [q4, e] at hfull
      omega
    have go : ∀ M, SetTable.sizeAbove (SetTable.grown (L.length + 1)) - 1 = M → MaskOk M → SetTable.sizeAbove (SetTable.grown (L.length + 1)) ≤ 128 → (L.length + 1) * 5 < M * 3 →
      wpAny (model P w) A (setRelay a (SetTable.grown (L.length + 1))) (fun _ s' => wpAny (model P w) A (pure true) Q E s') E { s with heap := h1 } := fun M m1 m2 m3 m4 =>
     kUE (s := { s with heap := h1 }) ho1 ⟨o2.1, o2.2.1, o2.2.2⟩ rfl rows1 refs1 psz1 tab1.dm (by rw [sz1, q4]; rcases which with ⟨e, e2⟩ | ⟨e, e2⟩ <;> omega) nd1 ld1 (by rw [len1]; exact few) m1 m2 m3 (by rw [len1]; exact m4)
      fun h2 L2 es2 ep2 t2 sb2 R2 pm2 => wpAny_pure (hQ true h2 L2 es2 ep2 t2 (sb.trans sb2) R2 (fun z => absurd z hm) fun _ => pm2.trans pm)
    rcases which with ⟨_, e2⟩ | ⟨_, e2⟩
    ·exact go 31 (by rw [e2, size_20]) (.inr (.inl rfl)) (by rw [e2, size_20]; decide) (by omega)
    ·exact go 127 (by rw [e2, size_76]) (.inr (.inr rfl)) (by rw [e2, size_76]; decide) (by omega)
   ·first
     | refine wp_if_neg (by simp [full]) ?_
     | (refine wpAny_bind ?_; refine wp_if_neg (by simp [full]) ?_; refine wpAny_pure ?_)
    refine wpAny_pure (hQ true h1 L1 es1 (ep + 1) t1 sb ⟨⟨_, ho1, ⟨o2.1, o2.2.1, o2.2.2⟩, rfl⟩, rows1, refs1, tab1, nd1, ld1, ?_, by rw [len1]; exact few⟩ (fun z => absurd z hm) fun _ => pm)
    have h := full
    unfold SetTable.tooFull at h
    rw [decide_eq_true_eq, fill1] at h
    rw [len1]
    omega
  have t0' : ∀ c : Bool, TabOk (if c = true then t0 else { t0 with plain := false }) ((L.map fun p => lotH P w p.1).take (SetTable.below t.place (way t.mask (lotH P w k) N)) ++ lotH P w k :: (L.map fun p => lotH P w p.1).drop (SetTable.below t.place (way t.mask (lotH P w k) N))) ∧
    (if c = true then t0 else { t0 with plain := false }).mask = t.mask ∧ (if c = true then t0 else { t0 with plain := false }).led = t.led ∧ (if c = true then t0 else { t0 with plain := false }).fill = (L.map fun p => lotH P w p.1).length + 1 := fun c => by
   cases c with
   | true => exact ⟨q3, q4, q5, q9⟩
   | false => exact ⟨⟨q3.ris, q3.dm, q3.sz, q3.mok, q3.bd, q3.reach⟩, q4, q5, q9⟩
  by_cases pl : t0.plain = true
  ·refine wp_if_pos pl (wpAny_bind (kPK hx fun c => ?_))
   obtain ⟨a1, a2, a3, a4⟩ := t0' c
   exact main _ a1 a2 a3 a4
  ·refine wp_if_neg pl (wpAny_bind (wpAny_pure ?_))
   obtain ⟨a1, a2, a3, a4⟩ := t0' true
   exact main _ a1 a2 a3 a4
end
def kitT (P : Program) (w : World) : Kit P w where
 K := Lot
 is := fun h k v => ∃ b, v = .ref b ∧ kJI P w h k b
 keep := fun hk h => by
  obtain ⟨b, e, o, its, n, ho, r⟩ := h
  exact ⟨b, e, o, its, n, hk b o ho, r⟩
 apart := fun h ho hd hs => by
  obtain ⟨b, e, o', its, n, ho', hc, hd', hi⟩ := h
  refine ⟨b, e, o', its, n, (hs.2 b fun z => ?_).trans ho', hc, hd', hi⟩
  rw [z, ho] at ho'
  rw [← gF3 ho', hd] at hd'
  cases hd'
 hold := fun h a L => ∃ es ep t, HoldT P w h a L es ep t
 held := fun h k => by
  obtain ⟨es, ep, t, R⟩ := h
  obtain ⟨o, ho, r⟩ := R.obj
  exact ⟨es, ep, t, ⟨o, k o ho, r⟩, R.rows, R.refs, R.tab, R.nd, R.led, R.room, R.few⟩
 most := 75
 fresh := fun {h a} e => ⟨#[], 0, _, ⟨_, e, ⟨rfl, rfl, rfl⟩, rfl⟩, rfl, fun p hp => (by cases hp), ⟨List.Pairwise.nil, rfl, rfl, .inl rfl, fun x hx => (by cases hx), fun i h j hi => (by simp at hi)⟩, List.nodup_nil, led0, (by show 0 * 5 < 7 * 3; decide), (by decide)⟩
 seen := fun h => by
  obtain ⟨es, ep, t, R⟩ := h
  obtain ⟨o, o1, o2, o3⟩ := R.obj
  have := R.size
  have := R.few
  exact ⟨o, es, ep, t, o1, o2.1, o3, by rw [R.rows, gH3]; rfl, R.fits, by unfold scanBound; omega, R.tab.ris, R.led⟩
 nodup := fun h => by
  obtain ⟨es, ep, t, R⟩ := h
  exact R.nd
 add := fun {A E s a L k v Q} hu R hL hk hm hQ => by
  obtain ⟨es, ep, t, R⟩ := R
  obtain ⟨x, rfl, hx⟩ := hk
  unfold setAdd
  refine wpAny_holding (wpAny_bind (wpAny_pyHash_tuple (by omega) hx ?_))
  exact addT (s := { s with toks := s.toks + (k.length + 1) }) R hL hx (by omega) (by omega) fun b h' L' es' ep' t' sb R' c1 c2 => hQ b h' L' _ (Nat.le_add_right _ _) sb ⟨es', ep', t', R'⟩ c1 c2
end DL
namespace DL
open PySem PySem.Spec PySem.Calls PyProof.Rows L2 PySem.W
theorem kIa {α : Type} {le : α → α → Bool} : ∀ {xs ys : List α}, xs.Perm ys → (∀ a b, a ∈ xs → b ∈ xs → le a b = true → le b a = true → a = b) → xs.Pairwise (fun a b => le a b = true) → ys.Pairwise (fun a b => le a b = true) → xs = ys
 | [], ys, p, _, _, _ => (p.nil_eq)
 | x :: xs, [], p, _, _, _ => by
  have := p.length_eq
  simp at this
 | x :: xs, y :: ys, p, anti, s1, s2 => by
  have hx : x ∈ y :: ys := p.mem_iff.mp gF1
  have hy : y ∈ x :: xs := p.mem_iff.mpr gF1
  have e : x = y := by
   rcases gG5.mp hx with e | hx
   ·exact e
   ·rcases gG5.mp hy with e | hy
    ·exact e.symm
    ·exact anti x y gF1 (gF2 _ hy) ((List.pairwise_cons.mp s1).1 y hy) ((List.pairwise_cons.mp s2).1 x hx)
  subst e
  rw [kIa (List.perm_cons x |>.mp p) (fun a b ha hb => anti a b (gF2 _ ha) (gF2 _ hb)) (List.pairwise_cons.mp s1).2 (List.pairwise_cons.mp s2).2]
theorem kED {β : Type} (k : β → PyData) (a b c : β) (h1 : dataLe false k a b = true) (h2 : dataLe false k b c = true) : dataLe false k a c = true := by
 have h1 : (!dataLt (k b) (k a)) = true := h1
 have h2 : (!dataLt (k c) (k b)) = true := h2
 show (!dataLt (k c) (k a)) = true
 cases q : dataLt (k c) (k a) with
 | false => rfl
 | true =>
  rcases (listOrd itemOrd).negTrans (keyToks (k c)) (keyToks (k b)) (keyToks (k a)) q with z | z
  ·have z : dataLt (k c) (k b) = true := z
   rw [z] at h2
   cases h2
  ·have z : dataLt (k b) (k a) = true := z
   rw [z] at h1
   cases h1
theorem kEE {β : Type} (k : β → PyData) (a b : β) : (dataLe false k a b || dataLe false k b a) = true := by
 show (!dataLt (k b) (k a) || !dataLt (k a) (k b)) = true
 cases q : dataLt (k b) (k a) with
 | false => rfl
 | true =>
  cases q2 : dataLt (k a) (k b) with
  | false => rfl
  | true =>
   have := (listOrd itemOrd).trans _ _ _ (show (listOrd itemOrd).blt (keyToks (k b)) (keyToks (k a)) = true from q) (show (listOrd itemOrd).blt (keyToks (k a)) (keyToks (k b)) = true from q2)
   rw [(listOrd itemOrd).irrefl] at this
   cases this
theorem kNk {β : Type} (k : β → PyData) (a b : β) (h1 : dataLe false k a b = true) (h2 : dataLe false k b a = true) : keyToks (k a) = keyToks (k b) := by
 have h1 : (!dataLt (k b) (k a)) = true := h1
 have h2 : (!dataLt (k a) (k b)) = true := h2
 exact (listOrd itemOrd).total _ _ (show dataLt (k a) (k b) = false by simpa using h2) (show dataLt (k b) (k a) = false by simpa using h1)
theorem kPd {β : Type} {k : β → PyData} {xs ys : List β} (p : xs.Perm ys) (inj : ∀ a b, a ∈ xs → b ∈ xs → keyToks (k a) = keyToks (k b) → a = b) : xs.mergeSort (dataLe false k) = ys.mergeSort (dataLe false k) := by
 refine kIa (le := dataLe false k) ((List.mergeSort_perm xs _).trans (p.trans (List.mergeSort_perm ys _).symm)) (fun a b ha hb h1 h2 => inj a b (List.mem_mergeSort.mp ha) (List.mem_mergeSort.mp hb) (kNk k a b h1 h2)) ?_ ?_
 ·exact List.pairwise_mergeSort (fun a b c => kED k a b c) (fun a b => kEE k a b) xs
 ·exact List.pairwise_mergeSort (fun a b c => kED k a b c) (fun a b => kEE k a b) ys
theorem kOe {a b : D} {k : Key} (ha : keyO a = some k) (hb : keyO b = some k) : a = b := by
 cases a <;> cases ha <;> cases b <;> cases hb <;> rfl
theorem kDm {d : D} {ds : List D} {ks : List Key} (h : kHl (d :: ds) = some ks) : ∃ k r, ks = k :: r ∧ keyO d = some k ∧ kHl ds = some r := by
 unfold kHl at h
 cases q1 : keyO d with
 | none => rw [q1] at h; cases h
 | some k =>
  cases q2 : kHl ds with
  | none => rw [q1, q2] at h; cases h
  | some r =>
   rw [q1, q2] at h
   exact ⟨k, r, (gF3 h).symm, rfl, rfl⟩
theorem kMb : ∀ {a b : List D} {k : List Key}, kHl a = some k → kHl b = some k → a = b
 | [], [], _, _, _ => rfl
 | [], _ :: _, _, ha, hb => by
  cases ha
  obtain ⟨_, _, e, _⟩ := kDm hb
  cases e
 | _ :: _, [], _, ha, hb => by
  cases hb
  obtain ⟨_, _, e, _⟩ := kDm ha
  cases e
 | a :: as, b :: bs, _, ha, hb => by
  obtain ⟨k, r, rfl, h1, h2⟩ := kDm ha
  obtain ⟨k', r', e, h3, h4⟩ := kDm hb
  injection e with e1 e2
  subst e1 e2
  rw [kOe h1 h3, kMb h2 h4]
theorem kRB {a b : D} {k : Lot} (ha : lotD a = some k) (hb : lotD b = some k) : a = b := by
 cases a <;> first | (cases ha; done) | skip
 cases b <;> first | (cases hb; done) | skip
 rw [kMb ha hb]
theorem kOd {a b : D} {k k' : Key} (ha : keyO a = some k) (hb : keyO b = some k') (l m : List (Int ⊕ List Nat)) (h : keyToks a.py ++ l = keyToks b.py ++ m) : a = b ∧ l = m := by
 cases a <;> cases ha <;> cases b <;> cases hb
 all_goals simp only [D.py, keyToks, List.singleton_append, List.cons.injEq, Sum.inl.injEq, Sum.inr.injEq, reduceCtorEq, false_and] at h
 ·exact ⟨by rw [h.1], h.2⟩
 ·rename_i x y
  refine ⟨?_, h.2⟩
  have e : x = y := by
   cases x with
   | mk cx =>
    cases y with
    | mk cy =>
     have := h.1
     congr 1
     exact Array.toList_inj.mp this
  rw [e]
theorem kMa : ∀ {a b : List D} {k k' : List Key}, kHl a = some k → kHl b = some k' → keyToksAll (pyL a) = keyToksAll (pyL b) → a = b
 | [], [], _, _, _, _, _ => rfl
 | [], b :: bs, _, _, _, _, h => by
  simp [pyL, keyToksAll] at h
 | a :: as, [], _, _, _, _, h => by
  simp [pyL, keyToksAll] at h
 | a :: as, b :: bs, _, _, ha, hb, h => by
  obtain ⟨k, r, rfl, h1, h2⟩ := kDm ha
  obtain ⟨k', r', rfl, h3, h4⟩ := kDm hb
  simp only [pyL, keyToksAll, List.cons.injEq, true_and] at h
  obtain ⟨e1, e2⟩ := kOd h1 h3 _ _ h
  rw [e1, kMa h2 h4 e2]
theorem kQk {α β : Type} {R : α → β → Prop} {xs xs' : List α} (p : xs'.Perm xs) : ∀ {ys : List β}, EachIs R xs ys → ∃ ys' : List β, ys'.Perm ys ∧ EachIs R xs' ys' := by
 induction p with
 | nil => intro ys e; exact ⟨ys, .refl _, e⟩
 | cons x _ ih =>
  intro ys e
  cases e with
  | cons r t =>
   obtain ⟨ys', a, b⟩ := ih t
   exact ⟨_ :: ys', a.cons _, .cons r b⟩
 | swap x y l =>
  intro ys e
  cases e with
  | cons r t =>
   cases t with
   | cons r2 t => exact ⟨_, .swap _ _ _, .cons r2 (.cons r t)⟩
 | trans _ _ ih1 ih2 =>
  intro ys e
  obtain ⟨y1, a1, b1⟩ := ih2 e
  obtain ⟨y2, a2, b2⟩ := ih1 b1
  exact ⟨y2, a2.trans a1, b2⟩
section
variable {P : Program} {w : World}
def kLl (T : Kit P w) (rd : D → Option T.K) (a : Addr) (ps : List (D × V)) : HO := .ext fun h => ∃ L, T.hold h a L ∧ EachIs (fun (q : T.K × Value) (p : D × V) => RelV p.2 q.2 ∧ rd p.1 = some q.1) L ps
theorem kPl (T : Kit P w) {rd : D → Option T.K} {H : Hp} {h : Heap} {a : Addr} {ps : List (D × V)} {L : List (T.K × Value)} (x : T.hold h a L) (e : EachIs (fun (q : T.K × Value) (p : D × V) => RelV p.2 q.2 ∧ rd p.1 = some q.1) L ps) : ObjOk P w H h a (kLl T rd a ps) := by
 obtain ⟨o, es, ep, t, ho, _⟩ := T.seen x
 refine ⟨⟨L, x, e⟩, ⟨o, ho⟩, fun h1 h2 z k => ?_⟩
 obtain ⟨L', x', e'⟩ := z
 exact ⟨L', T.held x' k, e'⟩
def kQN (X : Cx) (T : Kit X.prog X.w) (rd : D → Option T.K) (H : Hp) (p : D × V) : Prop := ∃ k, rd p.1 = some k ∧ ∀ (pins : List (Addr × Obj)) (σ : L2.St) (s : Shared) (u : Value), Inv X pins σ H s → RelV p.2 u → T.is s.heap k u
def kTh (X : Cx) (T : Kit X.prog X.w) (rd : D → Option T.K) : List V → Hp → VK → Prop := fun xs H Q => ∃ (l : Addr) (ps : List (D × V)), xs = [.ref l] ∧ (SqL X.K H l (ps.map (·.2)) ∨ SqT X.K H l (ps.map (·.2))) ∧ (∀ p ∈ ps, kQN X T rd H p) ∧ ps.length ≤ T.most ∧
 ∀ a ps', H a = none → (∀ p ∈ ps', p ∈ ps) → (ps'.map fun p => rd p.1).Nodup → (∀ p ∈ ps, ∃ q ∈ ps', rd q.1 = rd p.1) → Q (.ref a) (upd H a (kLl T rd a ps'))
theorem kMk {X : Cx} {T : Kit X.prog X.w} {rd : D → Option T.K} {H : Hp} {pins : List (Addr × Obj)} {σ : L2.St} {s : Shared} (I : Inv X pins σ H s) : ∀ {ps : List (D × V)} {us : List Value}, Vals (ps.map (·.2)) us → (∀ p ∈ ps, kQN X T rd H p) →
  ∃ ks : List (T.K × Value), us = ks.map (·.2) ∧ (∀ q ∈ ks, T.is s.heap q.1 q.2) ∧ EachIs (fun (q : T.K × Value) (p : D × V) => RelV p.2 q.2 ∧ rd p.1 = some q.1) ks ps
 | [], _, h, _ => by
  cases h
  exact ⟨[], rfl, fun q hq => (by cases hq), .nil⟩
 | p :: ps, _, h, hk => by
  cases h with
  | @cons _ u _ us r t =>
   obtain ⟨ks, e1, e2, e3⟩ := kMk I t fun q hq => hk q (gF2 _ hq)
   obtain ⟨k, h1, h2⟩ := hk p gF1
   refine ⟨(k, u) :: ks, by rw [gG1, e1], fun q hq => ?_, .cons ⟨r, h1⟩ e3⟩
   rcases gG5.mp hq with rfl | hq
   ·exact h2 pins σ s u I r
   ·exact e2 q hq
theorem kOn {α β : Type} {R : α → β → Prop} {xs : List α} {ys : List β} (e : EachIs R xs ys) : ∀ {zs : List α}, (∀ z ∈ zs, z ∈ xs) → ∃ ws : List β, (∀ w ∈ ws, w ∈ ys) ∧ EachIs R zs ws
 | [], _ => ⟨[], fun _ h => (by cases h), .nil⟩
 | z :: zs, h => by
  obtain ⟨ws, a, b⟩ := kOn e fun y hy => h y (gF2 _ hy)
  have find : ∀ {xs : List α} {ys : List β}, EachIs R xs ys → z ∈ xs → ∃ w ∈ ys, R z w := by
   intro xs ys e
   induction e with
   | nil => intro h; cases h
   | cons r t ih =>
    intro h
    rcases gG5.mp h with rfl | h
    ·exact ⟨_, gF1, r⟩
    ·obtain ⟨w, hw, r⟩ := ih h
     exact ⟨w, gF2 _ hw, r⟩
  obtain ⟨w, hw, r⟩ := find e (h z gF1)
  refine ⟨w :: ws, fun y hy => ?_, .cons r b⟩
  rcases gG5.mp hy with rfl | hy
  ·exact hw
  ·exact a y hy
theorem kLb {K : Type} {rd : D → Option K} : ∀ {L : List (K × Value)} {ps : List (D × V)}, EachIs (fun (q : K × Value) (p : D × V) => RelV p.2 q.2 ∧ rd p.1 = some q.1) L ps → (ps.map fun p => rd p.1) = L.map fun q => some q.1
 | _, _, .nil => rfl
 | _, _, .cons r t => by rw [gG1, gG1, kLb t, r.2]
theorem kJY {α : Type} : ∀ {l : List α}, l.Nodup → (l.map some).Nodup
 | [], _ => List.nodup_nil
 | x :: l, h => by
  obtain ⟨h1, h2⟩ := List.nodup_cons.mp h
  refine List.nodup_cons.mpr ⟨fun z => ?_, kJY h2⟩
  obtain ⟨y, hy, e⟩ := gF7.mp z
  rw [gF3 e] at hy
  exact h1 hy
theorem kTT {X : Cx} (T : Kit X.prog X.w) {rd : D → Option T.K} (hc : X.calm = true) (hu : X.A.units + 24 < cLine) : CallR X (.type "set") (kTh X T rd) := by
 intro pins s σ H xs us Q I r h
 obtain ⟨l, ps, rfl, hs, hk, hm, q⟩ := h
 rw [Vals.ref1 r]
 have go : ∀ its : List Value, Vals (ps.map (·.2)) its → (s.heap.IsList l its.toArray ∨ s.heap.IsTuple l its.toArray) → wpAny (model X.prog X.w) X.A (call (.type "set") [.ref l]) (EP X pins σ Q) X.xe s := by
  intro its rv hl
  obtain ⟨ks, e1, e2, e3⟩ := kMk I rv hk
  have lk : ks.length = ps.length := e3.length
  refine kRj T ks (I.ok.hd hc) hl (by simpa using e1) e2 (by rw [lk]; exact hm) hu fun h' tk L hL g kp => ?_
  rw [lk] at g
  have sub : ∀ q ∈ L, q ∈ ks := fun q hq => List.mem_of_mem_take (g.sub q hq)
  obtain ⟨ps', a1, a2⟩ := kOn e3 sub
  have hn : H s.heap.objs.size = none := I.hok.fresh (Nat.le_refl _)
  refine ⟨.ref s.heap.objs.size, upd H s.heap.objs.size (kLl T rd s.heap.objs.size ps'), I.laid (t' := tk) kp (Nat.le_refl _) (kPl T hL a2), rfl, q _ ps' hn a1 ?_ fun p hp => ?_⟩
  ·rw [kLb a2]
   have := T.nodup hL
   have e : (L.map fun q => some q.1) = (L.map (·.1)).map some := by rw [gH3]; rfl
   rw [e]
   exact kJY this
  ·have hp' : rd p.1 ∈ ps.map fun p => rd p.1 := gF7.mpr ⟨p, hp, rfl⟩
   rw [kLb e3] at hp'
   obtain ⟨k, hk', ek⟩ := gF7.mp hp'
   have : k.1 ∈ L.map (·.1) := g.all k (by rw [← lk, List.take_length]; exact hk')
   obtain ⟨k2, hk2, ek2⟩ := gF7.mp this
   have : some k2.1 ∈ L.map fun q => some q.1 := gF7.mpr ⟨k2, hk2, rfl⟩
   rw [← kLb a2] at this
   obtain ⟨q, hq, eq⟩ := gF7.mp this
   exact ⟨q, hq, by rw [eq, ek2, ek]⟩
 rcases hs with hs | hs
 ·obtain ⟨its, rv, pl, _⟩ := I.list hs
  exact go its rv (.inl pl.isList)
 ·obtain ⟨its, rv, pl, _⟩ := I.tuple hs
  exact go its rv (.inr pl)
def kKN (X : Cx) (T : Kit X.prog X.w) (rd : D → Option T.K) : List V → Hp → VK → Prop := fun xs H Q => ∃ (a : Addr) (ps : List (D × V)), xs = [.ref a] ∧ H a = some (kLl T rd a ps) ∧ (∀ p ∈ ps, Dp X.K H p.2 p.1.py) ∧ kLk (ps.map pyP) ∧ (∀ p ∈ ps, p.1.py.depth ≤ 64) ∧
 ∀ (l : Addr) (ps' : List (D × V)), ps'.Perm ps → H l = none → Q (.ref l) (upd H l (.lst ((ps'.mergeSort (dataLe false pyP)).map (·.2))))
theorem kJX {ds es : List PyData} (p : es.Perm ds) (h : kLk ds) : kLk es := by
 refine ⟨fun d hd d' hd' => h.1 d (p.mem_iff.mp hd) d' (p.mem_iff.mp hd'), h.2.imp (fun z d hd => z d (p.mem_iff.mp hd)) fun z d hd => z d (p.mem_iff.mp hd)⟩
theorem kOO {X : Cx} (T : Kit X.prog X.w) {rd : D → Option T.K} (hc : X.calm = true) (hu : X.A.units + 70 < cLine) : CallR X (.builtin "sorted") (kKN X T rd) := by
 intro pins s σ H xs us Q I r h
 obtain ⟨a, ps, rfl, ha, hd, ho, hz, q⟩ := h
 rw [Vals.ref1 r]
 obtain ⟨⟨L, hL, e⟩, _⟩ := (show ObjOk X.prog X.w H s.heap a (.ext fun h => ∃ L, T.hold h a L ∧ EachIs (fun (q : T.K × Value) (p : D × V) => RelV p.2 q.2 ∧ rd p.1 = some q.1) L ps) from I.hok a _ ha)
 obtain ⟨o, es, ep, t, o1, o2, o3, rows, fits, sb, ris, led⟩ := T.seen hL
 have e1 : EachIs (fun (u : Value) (p : D × V) => RelV p.2 u ∧ ∃ as, Reads s.heap u (pyP p) as) (L.map (·.2)) ps := by
  have key : ∀ {L : List (T.K × Value)} {ps : List (D × V)}, EachIs (fun (q : T.K × Value) (p : D × V) => RelV p.2 q.2 ∧ rd p.1 = some q.1) L ps → (∀ p ∈ ps, Dp X.K H p.2 p.1.py) → EachIs (fun (u : Value) (p : D × V) => RelV p.2 u ∧ ∃ as, Reads s.heap u (pyP p) as) (L.map (·.2)) ps := by
   intro L ps e
   induction e with
   | nil => intro _; exact .nil
   | cons r t ih =>
    intro hd
    exact .cons ⟨r.1, Dp.reads I _ _ _ (hd _ gF1) r.1⟩ (ih fun p hp => hd p (gF2 _ hp))
  exact key e hd
 refine Calls.call_function_entry kind_sorted plain_sorted entry_sorted (args_sorted1 _) ?_
 unfold Builtin.«sorted»
 refine wpAny_bind (m := checkCount "sorted" 1 1 _) (wpAny_pure ?_)
 refine wpAny_bind (collect_set (A := X.A.in1) (I.ok.hd hc) ⟨o, o1, o2, o3⟩ fits sb ris led fun s1 vs k1 hz1 g1 os1 pm => ?_)
 rw [rows] at pm
 obtain ⟨ps', pp, e2⟩ := kQk pm e1
 have lvs : vs.length = ps'.length := e2.length
 have lps : ps'.length = es.size := by
  rw [← lvs, pm.length_eq, ← rows, gF0, Array.length_toList]
 have szv : vs.length ≤ sizeLine := by
  rw [lvs, lps, sizeLine_eq]
  unfold scanBound at sb
  omega
 refine wpAny_bind (wpAny_newList ?_ szv)
 have hoL : (s1.heap.push (seqObj "list" vs.toArray 0)).get? s1.heap.objs.size = some (seqObj "list" vs.toArray 0) := Heap.get?_push_size _ rfl
 have keepS : ∀ b o, s.heap.get? b = some o → (sortingHeap (s1.heap.push (seqObj "list" vs.toArray 0)) s1.heap.objs.size vs).get? b = some o := fun b o z =>
  sortingHeap_old (Nat.ne_of_lt (Heap.lt_size (k1 b o z))) (Heap.get?_push_of_some _ (k1 b o z))
 have er : EachIs (fun (u : Value) (p : D × V) => ∃ as, Reads (sortingHeap (s1.heap.push (seqObj "list" vs.toArray 0)) s1.heap.objs.size vs) u (pyP p) as) vs ps' := e2.mono fun _ _ z => by
  obtain ⟨_, as, rr⟩ := z
  exact ⟨as, PyProof.Rows.Reads.keeps keepS rr⟩
 have ev : EachIs (fun (u : Value) (p : D × V) => RelV p.2 u) vs ps' := e2.mono fun _ _ z => z.1
 have ho' : kLk (ps'.map pyP) := kJX (pp.map pyP) ho
 have hz' : ∀ p ∈ ps', p.1.py.depth ≤ 64 := fun p hp => hz p (pp.mem_iff.mp hp)
 refine wpAny_bind (wpAny_holding (wpAny_call_entry slot_list_sort ⟨_, hoL, rfl⟩ entry_list_sort (list_sort_vals (s := { s1 with heap := s1.heap.push (seqObj "list" vs.toArray 0) }) (κ := dataKind (sortingHeap (s1.heap.push (seqObj "list" vs.toArray 0)) s1.heap.objs.size vs) (ps'.map pyP)) hoL
  (kKs (s := { s1 with heap := sortingHeap (s1.heap.push (seqObj "list" vs.toArray 0)) s1.heap.objs.size vs }) (ds := ps'.map pyP) (each_map (R := fun v d => ∃ as, Reads (sortingHeap (s1.heap.push (seqObj "list" vs.toArray 0)) s1.heap.objs.size vs) v d as) pyP er) ho'
   (bound_map fun p hp => by have : (pyP p).depth ≤ 64 := hz' p hp; show X.A.units + 1 + 1 + (pyP p).depth < cLine; omega)) szv ⟨.none, rfl, ?_⟩) (args_list_sort _)))
 have eo := sortVals_data (h' := sortingHeap (s1.heap.push (seqObj "list" vs.toArray 0)) s1.heap.objs.size vs) (enc := pyP) false ev er ho'.1
 generalize hout : sortVals (dataKind (sortingHeap (s1.heap.push (seqObj "list" vs.toArray 0)) s1.heap.objs.size vs) (ps'.map pyP)) false vs vs = out at eo
 obtain ⟨c, hc'⟩ := sortedHeap_at (vs := vs) (out := out.toArray) hoL
 have kp : ∀ b o, s.heap.get? b = some o → (sortedHeap (s1.heap.push (seqObj "list" vs.toArray 0)) s1.heap.objs.size vs out.toArray).get? b = some o := fun b o z => by
  have z1 := k1 b o z
  have lt := Heap.lt_size z1
  rw [sortedHeap_old (Nat.ne_of_lt lt) (by rw [size_push']; exact Nat.lt_succ_of_lt lt)]
  exact Heap.get?_push_of_some _ z1
 have hv : Vals ((ps'.mergeSort (dataLe false pyP)).map (·.2)) out := kHp eo
 have hlen : ((ps'.mergeSort (dataLe false pyP)).map (·.2)).length ≤ sizeLine := by rw [gF0, List.length_mergeSort, ← lvs]; exact szv
 have hn : H s1.heap.objs.size = none := I.hok.fresh hz1
 have J : Inv X pins σ (upd H s1.heap.objs.size (.lst ((ps'.mergeSort (dataLe false pyP)).map (·.2)))) { s with heap := sortedHeap (s1.heap.push (seqObj "list" vs.toArray 0)) s1.heap.objs.size vs out.toArray, gens := s1.gens, drawn := s1.drawn, toks := s1.toks } :=
  I.call (ch := []) (Un.laid kp hz1 hn) (I.hok.laid kp hz1 ⟨hlen, out, c, hv, hc'⟩) (by rw [g1]; exact I.bare) (fun _ z => nomatch z)
 obtain ⟨sh, sg, sd, stk, so⟩ := s1
 have eos : so = s.os := os1
 subst eos
 exact wpAny_pure ⟨_, rfl, ⟨.ref _, _, J, rfl, q _ ps' pp hn⟩⟩
end
end DL
namespace DL
open PySem PySem.Spec PyProof.Rows L2 PySem.W
def kCO {K : Type} [DecidableEq K] (rd : D → Option K) : List D → List D
 | [] => []
 | d :: ds => d :: (kCO rd ds).filter fun x => decide (rd x ≠ rd d)
theorem kHS {K : Type} [DecidableEq K] {rd : D → Option K} : ∀ {ds : List D} {x : D}, x ∈ kCO rd ds → x ∈ ds
 | [], _, h => h
 | d :: ds, x, h => by
  unfold kCO at h
  rcases gG5.mp h with rfl | h
  ·exact gF1
  ·exact gF2 _ (kHS (gH0.mp h).1)
theorem kJB {K : Type} [DecidableEq K] {rd : D → Option K} : ∀ (ds : List D), ((kCO rd ds).map rd).Nodup
 | [] => List.nodup_nil
 | d :: ds => by
  unfold kCO
  rw [gG1]
  refine List.nodup_cons.mpr ⟨fun h => ?_, ?_⟩
  ·obtain ⟨x, hx, e⟩ := gF7.mp h
   have := (gH0.mp hx).2
   exact (gF5 this) e
  ·exact List.Nodup.sublist (gG9.map rd) (kJB ds)
theorem kMo {K : Type} [DecidableEq K] {rd : D → Option K} : ∀ {ds : List D} {d : D}, d ∈ ds → ∃ x ∈ kCO rd ds, rd x = rd d
 | [], _, h => by cases h
 | y :: ds, d, h => by
  unfold kCO
  by_cases e : rd d = rd y
  ·exact ⟨y, gF1, e.symm⟩
  ·rcases gG5.mp h with rfl | h
   ·exact (e rfl).elim
   ·obtain ⟨x, hx, ex⟩ := kMo (rd := rd) h
    exact ⟨x, gF2 _ (gH0.mpr ⟨hx, gH1 (by rw [ex]; exact e)⟩), ex⟩
def kQb : D → Option (List D)
 | .lst ds => some ds
 | .ro ds => some ds
 | .tup ds => some ds
 | _ => none
def kFf (ds : List D) : Option D := if (ds.all fun d => (keyO d).isSome) = true ∧ ds.length ≤ 1000 ∧ kBM (kCO keyO ds) = true then some (.lst (kDk (kCO keyO ds))) else none
def kGD (ds : List D) : Option D := if (ds.all fun d => (lotD d).isSome) = true ∧ ds.length ≤ 75 ∧ kBM (kCO lotD ds) = true then some (.lst (kDk (kCO lotD ds))) else none
def kEG (d : D) : Option D := match kQb d with
 | some ds => (match kFf ds with
  | some r => some r
  | none => kGD ds)
 | none => none
section
variable {W : Wd} {X : Cx} {Wx : WX} {O : List Nat} {e : Expr} {m : M D} {z : Nat} {p : Bool} {p0 p1 pos pos1 : Pos}
theorem kHr {K : Type} [DecidableEq K] {T : Kit X.prog X.w} {rd : D → Option T.K} {rk : D → Option K} (k : X.K = W.K) (inj : ∀ a b x, rd a = some x → rd b = some x → a = b) (same : ∀ a b, rk a = rk b ↔ rd a = rd b)
  (tok : ∀ a b x y, rd a = some x → rd b = some y → keyToks a.py = keyToks b.py → a = b) (hkey : ∀ (H : Hp) (p : D × V) (x : T.K), rd p.1 = some x → Rp W No H p.1 p.2 → kQN X T rd H p)
  {G : Gh} {L : Lab} {env : EnvD} {σ : L2.St} {H : Hp} {Q : VK} {ds : List D} {vs : List V} {a : Addr} (R : Rel W G O L env σ H) (hs : SqL X.K H a vs ∨ SqT X.K H a vs) (sz : vs.length ≤ sizeLine) (r : RpL W (Zo L) H ds vs)
  (hall : ∀ d ∈ ds, (rd d).isSome = true) (hmost : ds.length ≤ T.most) (ok : kBM (kCO rk ds) = true)
  (hq : ∀ v H' L', kQW L L' → Nw L L' H → Rel W G O L' env σ H' → Rel W G O L env σ H' → Ev W No H H' → OwN W L L' H' 1 (.lst (kDk (kCO rk ds))) v → Rp W (Zo L) H' (.lst (kDk (kCO rk ds))) v → Q v H') :
  kTh X T rd [.ref a] H fun v H2 => kKN X T rd [v] H2 Q := by
 have ln := r.length
 have rz := kMV r
 have mem1 : ∀ p ∈ ds.zip vs, p.1 ∈ ds := fun p hp => (List.of_mem_zip hp).1
 obtain ⟨o1, o2, o3⟩ := kKu ok
 refine ⟨a, ds.zip vs, rfl, by rw [kMB ln]; exact hs, fun p hp => ?_, by rw [List.length_zip]; omega, fun b ps' nb sub nd cov => ?_⟩
 ·obtain ⟨x, hx⟩ := Option.isSome_iff_exists.mp (hall _ (mem1 p hp))
  exact hkey H p x hx (Rp.shun (fun _ z _ => z.elim) _ _ (rz p hp))
 ·have R2 : Rel W G O L env σ (upd H b (kLl T rd b ps')) := R.new nb
  have ev : Ev W No H (upd H b (kLl T rd b ps')) := Ev.new nb
  have rz' : ∀ p ∈ ps', Rp W (Zo L) (upd H b (kLl T rd b ps')) p.1 p.2 := fun p hp => Rp.ev (ev.mono fun _ z _ => z.elim) _ _ (rz p (sub p hp))
  have ind : ∀ p ∈ ps', p.1 ∈ ds := fun p hp => mem1 p (sub p hp)
  have nd1 : (ps'.map (·.1)).Nodup := by
   have e : (ps'.map fun p => rd p.1) = (ps'.map (·.1)).map rd := by rw [gH3]; rfl
   rw [e] at nd
   exact List.Pairwise.of_map rd (fun _ _ h e => h (congrArg rd e)) nd
  have nd2 : (kCO rk ds).Nodup := List.Pairwise.of_map rk (fun _ _ h e => h (congrArg rk e)) (kJB ds)
  have same_mem : ∀ d, d ∈ ps'.map (·.1) ↔ d ∈ kCO rk ds := fun d => by
   constructor
   ·intro h
    obtain ⟨p, hp, rfl⟩ := gF7.mp h
    obtain ⟨x, hx, ex⟩ := kMo (rd := rk) (ind p hp)
    obtain ⟨y, hy⟩ := Option.isSome_iff_exists.mp (hall _ (ind p hp))
    have e2 := (same _ _).mp ex
    rw [← inj _ _ y (e2.trans hy) hy]
    exact hx
   ·intro h
    have hd := kHS h
    obtain ⟨i, hi, ei⟩ := List.getElem_of_mem hd
    have hz : (d, vs[i]'(by omega)) ∈ ds.zip vs := by
     have hl : i < (ds.zip vs).length := by rw [List.length_zip]; omega
     have : (ds.zip vs)[i] = (d, vs[i]'(by omega)) := by rw [List.getElem_zip, ei]
     rw [← this]
     exact List.getElem_mem hl
    obtain ⟨q, hq, eq⟩ := cov _ hz
    obtain ⟨y, hy⟩ := Option.isSome_iff_exists.mp (hall _ hd)
    have : q.1 = d := inj _ _ y (eq.trans hy) hy
    exact gF7.mpr ⟨q, hq, this⟩
  have pm : (ps'.map (·.1)).Perm (kCO rk ds) := (List.perm_ext_iff_of_nodup nd1 nd2).mpr same_mem
  have pl : ∀ p ∈ ps', p.1 ∈ kCO rk ds := fun p hp => (same_mem p.1).mp (gF7.mpr ⟨p, hp, rfl⟩)
  refine ⟨b, ps', rfl, upd_same, fun p hp => ?_, ?_, fun p hp => o3 _ (pl p hp), fun l ps'' pp nl => ?_⟩
  ·rw [k]
   exact Rp.dp p.1 p.2 (o1 _ (pl p hp)) (rz' p hp)
  ·have e : ps'.map pyP = (ps'.map (·.1)).map D.py := by rw [gH3]; rfl
   rw [e]
   exact kJX (pm.map D.py) o2
  ·have e : kDk (kCO rk ds) = ((ps''.mergeSort (dataLe false pyP)).map (·.1)) := by
    rw [List.map_mergeSort (r := dataLe false pyP) (s := dataLe false D.py) (f := Prod.fst) (l := ps'') (fun _ _ _ _ => rfl)]
    refine (kPd ((pp.map (·.1)).trans pm) fun x y hx hy ht => ?_).symm
    have hx' := kHS ((((pp.map (·.1)).trans pm)).mem_iff.mp hx)
    have hy' := kHS ((((pp.map (·.1)).trans pm)).mem_iff.mp hy)
    obtain ⟨kx, ex⟩ := Option.isSome_iff_exists.mp (hall _ hx')
    obtain ⟨ky, ey⟩ := Option.isSome_iff_exists.mp (hall _ hy')
    exact tok x y kx ky ex ey ht
   have szl : ((ps''.mergeSort (dataLe false pyP)).map (·.2)).length ≤ sizeLine := by
    rw [gF0, List.length_mergeSort, pp.length_eq]
    have h1 := pm.length_eq
    rw [gF0] at h1
    have h2 : (kCO rk ds).length ≤ ds.length := by
     clear h1
     clear hq ok o1 o2 o3 nd2 same_mem pm pl
     have : ∀ ds : List D, (kCO rk ds).length ≤ ds.length := by
      intro ds
      induction ds with
      | nil => exact Nat.le_refl _
      | cons d ds ih =>
       unfold kCO
       rw [gG0, gG0]
       exact Nat.succ_le_succ (Nat.le_trans (List.length_filter_le _ _) ih)
     exact this ds
    omega
   have nv : NewV W L (upd H b (kLl T rd b ps')) (.lst (kDk (kCO rk ds))) (.ref l) (upd (upd H b (kLl T rd b ps')) l (.lst ((ps''.mergeSort (dataLe false pyP)).map (·.2)))) :=
    .inl ⟨l, _, _, rfl, rfl, nl, rfl, by rw [e]; exact kHq fun p hp => rz' p (pp.mem_iff.mp (List.mem_mergeSort.mp hp)), szl⟩
   obtain ⟨L', u, w, ra, rb, ev2, o, rr⟩ := kGh R2 nv (H0 := H) (.inr trivial)
   exact hq _ _ L' u (w.back ev) ra rb (ev.trans ev2) o rr
theorem kPH {P : Program} {w : World} (i : Int) (t : Tok) : (mixKind P w).is (.inl i) (.int i t) = true := by
 show Value.isInt i (.int i t) = true
 simp [Value.isInt]
theorem kPG {P : Program} {w : World} (x : Str) (t : Tok) : (mixKind P w).is (.inr x) (.str x t) = true := by
 show Value.isStrOf x (.str x t) = true
 simp [Value.isStrOf]
theorem kTz {H : Hp} {p : D × V} {x : Key} (h : keyO p.1 = some x) (r : Rp W No H p.1 p.2) : kQN X (kitV X.prog X.w) keyO H p := by
 refine ⟨x, h, fun pins σ s u I ru => ?_⟩
 obtain ⟨d, v⟩ := p
 cases d <;> cases h <;> (unfold Rp at r; subst r; obtain ⟨t, rfl⟩ := ru; first | exact kPH _ t | exact kPG _ t)
theorem kKg {H : Hp} {P : Program} {w : World} : ∀ {ds : List D} {vs : List V} {us : List Value} {ks : List Key}, kHl ds = some ks → RpL W No H ds vs → Vals vs us → ItemsAre (mixKind P w) ks us
 | [], vs, us, ks, h, r, rv => by
  cases h
  rw [rpl0 r] at rv
  cases rv
  exact .nil
 | d :: ds, vs, us, ks, h, r, rv => by
  obtain ⟨k, kr, rfl, h1, h2⟩ := kDm h
  unfold RpL at r
  obtain ⟨v, vr, rfl, r1, r2⟩ := r
  cases rv with
  | cons a b =>
   refine .cons ?_ (kKg h2 r2 b)
   cases d <;> cases h1 <;> (unfold Rp at r1; subst r1; obtain ⟨t, rfl⟩ := a; first | exact kPH _ t | exact kPG _ t)
theorem kTA {H : Hp} {p : D × V} {x : Lot} (k : X.K = W.K) (h : lotD p.1 = some x) (r : Rp W No H p.1 p.2) : kQN X (kitT X.prog X.w) lotD H p := by
 refine ⟨x, h, fun pins σ s u I ru => ?_⟩
 obtain ⟨d, v⟩ := p
 cases d <;> first | (cases h; done) | skip
 rename_i ds
 unfold Rp at r
 obtain ⟨a, vs, rfl, ⟨hs, _⟩, rl⟩ := r
 have hs := SqT.of (K := X.K) hs
 obtain ⟨its, rv, ⟨o, ho, hc, n, hd⟩, _⟩ := I.tuple hs
 cases ru
 exact ⟨a, rfl, o, its.toArray, n, ho, hc, hd, by simpa using kKg h rl rv⟩
theorem kOL (h : DE W X Wx O e m z p) (hu : X.A.units + 70 < cLine) (hc : X.calm = true := by rfl) (hg : Gl X "sorted" := by rfl) (hm : X.mg "sorted" = none) (hg2 : Gl X "set" := by rfl) (hm2 : X.mg "set" = none) (l1 : 1 ≤ z := by decide) (k2 : z ≤ 2 := by decide)
  (hs1 : starEach [e] X.env = (false, eval e X.env) :: starEach [] X.env := by rfl)
  (hs2 : starEach [.Call (.Name "set" p1) [e] [] pos1] X.env = (false, eval (.Call (.Name "set" p1) [e] [] pos1) X.env) :: starEach [] X.env := by rfl) (hp1 : (backTo pos1 (starEach [] X.env)).any (·.1) = false := by rfl) (hp2 : (backTo pos (starEach [] X.env)).any (·.1) = false := by rfl) :
  DO W X Wx O (.Call (.Name "sorted" p0) [.Call (.Name "set" p1) [e] [] pos1] [] pos) (dUn kEG m) 1 p := by
 obtain ⟨k, t, pe, s⟩ := h
 have mk : ∀ (T : Kit X.prog X.w) (rd : D → Option T.K), PE X (.Call (.Name "sorted" p0) [.Call (.Name "set" p1) [e] [] pos1] [] pos) (tCB (kKN X T rd) (tCons (tCB (kTh X T rd) (tCons t tNil)) tNil)) := fun T rd =>
  L2.pe_callB (kOO T hc hu) hg hm (by decide +kernel) (pa_cons (L2.pe_callTy (kTT T hc (by omega)) hg2 hm2 (by decide +kernel) (pa_cons pe pa_nil hs1) (by decide) (by decide) hs1 hp1) pa_nil hs2) (by decide) (by decide) hs2 hp2
 refine ⟨k, _, PE.or (mk (kitV X.prog X.w) keyO) (mk (kitT X.prog X.w) lotD), fun G L env σ H Q R h => ?_⟩
 unfold dUn at h
 cases q1 : m env with
 | bad => rw [q1] at h; exact h.elim
 | exc c a e =>
  rw [q1] at h
  refine .inl (s G L env σ H _ R ?_)
  rw [q1]
  exact h
 | ok d e1 =>
  rw [q1] at h
  have h : kDB W G O L p 1 Wx env σ H Q (lift (kEG d) e1) := h
  unfold kEG at h
  cases qi : kQb d with
  | none => rw [qi] at h; exact h.elim
  | some ds =>
   rw [qi] at h
   have h : kDB W G O L p 1 Wx env σ H Q (lift (match kFf ds with | some r => some r | none => kGD ds) e1) := h
   have seen : ∀ {v : V} {H1 : Hp}, RpZ W L H1 1 d v → ∃ a vs, v = .ref a ∧ (SqL X.K H1 a vs ∨ SqT X.K H1 a vs) ∧ vs.length ≤ sizeLine ∧ RpL W (Zo L) H1 ds vs := fun {v H1} Z => by
    cases d with
    | lst xs =>
     cases qi
     obtain ⟨a, vs, rfl, h1, sz, r⟩ := kIy Z
     exact ⟨a, vs, rfl, .inl (SqL.of h1), sz, r⟩
    | ro xs =>
     cases qi
     obtain ⟨a, vs, rfl, h1, sz, r⟩ := kOB Z
     exact ⟨a, vs, rfl, .inl (by rw [k]; exact h1), sz, r⟩
    | tup xs =>
     cases qi
     obtain ⟨a, vs, rfl, h1, sz, r⟩ := kIx Z
     exact ⟨a, vs, rfl, .inr (by rw [k]; exact h1), sz, r⟩
    | _ => cases qi
   by_cases cv : (ds.all fun d => (keyO d).isSome) = true ∧ ds.length ≤ 1000 ∧ kBM (kCO keyO ds) = true
   ·have ev : kFf ds = some (.lst (kDk (kCO keyO ds))) := if_pos cv
    rw [ev] at h
    have h : kDB W G O L p 1 Wx env σ H Q (.ok (.lst (kDk (kCO keyO ds))) e1) := h
    refine .inl (s G L env σ H _ R ?_)
    rw [q1]
    intro v H1 R1 E1 P1 Z1
    obtain ⟨a, vs, rfl, hs, sz, r⟩ := seen (Z1.le (.inl l1) k2)
    refine kHr (T := kitV X.prog X.w) (rd := keyO) (rk := keyO) k (fun a b x ha hb => kOe ha hb) (fun a b => Iff.rfl) (fun a b x y ha hb ht => (kOd ha hb [] [] (by rw [ht])).1) (fun H p x hx rx => kTz hx rx) R1 hs sz r
     (fun d hd => gH5.mp cv.1 d hd) (by show ds.length ≤ scanBound - 1; unfold scanBound; omega) cv.2.2 fun v H' L' u w ra rb ev o rr => ?_
    exact h v H' L' u (w.back E1) ra rb (E1.trans (ev.mono fun _ z _ => z.elim)) P1 o rr
   ·have ev : kFf ds = none := if_neg cv
    rw [ev] at h
    have h : kDB W G O L p 1 Wx env σ H Q (lift (kGD ds) e1) := h
    by_cases ct : (ds.all fun d => (lotD d).isSome) = true ∧ ds.length ≤ 75 ∧ kBM (kCO lotD ds) = true
    ·have et : kGD ds = some (.lst (kDk (kCO lotD ds))) := if_pos ct
     rw [et] at h
     have h : kDB W G O L p 1 Wx env σ H Q (.ok (.lst (kDk (kCO lotD ds))) e1) := h
     refine .inr (s G L env σ H _ R ?_)
     rw [q1]
     intro v H1 R1 E1 P1 Z1
     obtain ⟨a, vs, rfl, hs, sz, r⟩ := seen (Z1.le (.inl l1) k2)
     refine kHr (T := kitT X.prog X.w) (rd := lotD) (rk := lotD) k (fun a b x ha hb => kRB ha hb) (fun a b => Iff.rfl) (fun a b x y ha hb ht => ?_) (fun H p x hx rx => kTA k hx rx) R1 hs sz r
      (fun d hd => gH5.mp ct.1 d hd) ct.2.1 ct.2.2 fun v H' L' u w ra rb ev o rr => ?_
     ·cases a <;> first | (cases ha; done) | skip
      cases b <;> first | (cases hb; done) | skip
      rw [kMa ha hb (by simpa [D.py, keyToks] using ht)]
     ·exact h v H' L' u (w.back E1) ra rb (E1.trans (ev.mono fun _ z _ => z.elim)) P1 o rr
    ·have et : kGD ds = none := if_neg ct
     rw [et] at h
     exact h.elim
end
end DL
namespace DL
open PySem PySem.Spec PyProof.Rows L2
def pick {α : Type} (pm : List Nat) (l : List α) : List α := pm.filterMap fun i => l[i]?
section
variable {α β : Type}
theorem kGb {i : Nat} {pm : List Nat} {l : List α} {a : α} (h : l[i]? = some a) : pick (i :: pm) l = a :: pick pm l := by
 unfold pick
 rw [List.filterMap_cons, h]
theorem kKO {pm : List Nat} {l : List α} (h : ∀ i ∈ pm, i < l.length) : (pick pm l).length = pm.length := by
 induction pm with
 | nil => rfl
 | cons i pm ih =>
  have : i < l.length := h i (gF1 ..)
  rw [kGb (gF6 this), gG0, gG0, ih fun j m => h j (gF2 _ m)]
theorem kNP {pm : List Nat} {l : List α} (h : ∀ i ∈ pm, i < l.length) (j : Nat) : (pick pm l)[j]? = (pm[j]?).bind fun i => l[i]? := by
 induction pm generalizing j with
 | nil => simp [pick]
 | cons i pm ih =>
  have : i < l.length := h i (gF1 ..)
  rw [kGb (gF6 this)]
  cases j with
  | zero => simp [gF6 this]
  | succ j => simpa using ih (fun j m => h j (gF2 _ m)) j
end
theorem kPt {pm : List Nat} {vs : List V} {us : List Value} (r : Vals vs us) (h : ∀ i ∈ pm, i < vs.length) : Vals (pick pm vs) (pick pm us) := by
 induction pm with
 | nil => exact .nil
 | cons i pm ih =>
  have e1 : i < vs.length := h i (gF1 ..)
  have e2 : i < us.length := r.length ▸ e1
  rw [kGb (gF6 e1), kGb (gF6 e2)]
  refine .cons ?_ (ih fun j m => h j (gF2 _ m))
  clear h ih
  induction r generalizing i with
  | nil => exact absurd e1 (Nat.not_lt_zero _)
  | cons r1 r2 ih =>
   cases i with
   | zero => exact r1
   | succ i => exact ih i (Nat.lt_of_succ_lt_succ e1) (Nat.lt_of_succ_lt_succ e2)
structure KB (K : PySem.W.Frag) (fd : FuncData) (ps ks : List Str) (n : Nat) (pm : List Nat) (ds : List Value) : Prop where
 to : ∀ (s : Shared) (us ws : List Value), K.In s.heap → us.length = n → ws.length = ks.length → BindsTo s fd ⟨us, ks.zip ws⟩ (ps.zip (pick pm (us ++ ws ++ ds)))
def KBx (K : PySem.W.Frag) (fd : FuncData) (ps ks : List Str) (n : Nat) (pm : List Nat) (dvs : List V) : Prop := ∃ its, Vals dvs its ∧ KB K fd ps ks n pm its
section
variable {K : PySem.W.Frag} {x qual : Str} {params : Arguments} {body : List Stmt} {scope : Scope} {dvs : List V} {kws : List (Str × V)} {f : Addr} {fd : FuncData} {ps ks : List Str} {n : Nat} {pm : List Nat}
theorem kbK (F : FunD K x qual params body scope [] kws f fd) (ms : List (Str × V)) (hk : kws ≠ []) (hms : ∀ q ∈ ms, q ∈ kws)
  (h : ∀ (D : Addr) (doc pV : Value) (an : Option Addr) (cdv ct : Value) (us ws mv : List Value), us.length = n → ws.length = ks.length → mv.length = ms.length →
   KwChain D ((ms.map (·.1)).zip mv) (bindArgs (PySem.W.fnOf x qual params body scope .none (.ref D) doc pV an cdv ct) ⟨us, ks.zip ws⟩) (ps.zip (pick pm (us ++ ws ++ mv)))) : KBx K fd ps ks n pm (ms.map (·.2)) := by
 obtain ⟨oc, od, dV, kV, doc, pV, an, cdv, ct, osl, rfl, lk, hcd, hD, hK⟩ := F.ex
 rcases hD with ⟨_, rfl⟩ | ⟨e, _⟩
 ·rcases hK with e | ⟨D, rfl, hq⟩
  ·exact absurd e hk
  ·obtain ⟨mv, hl, rk, hks⟩ := kwd_vals (ms := ms) fun q hm => hq q (hms q hm)
   exact ⟨mv, rk, ⟨fun s us ws X l1 l2 => BindsTo.of_looks fun M => KwChain.looks X hks (h D doc pV an cdv ct us ws mv l1 l2 hl)⟩⟩
 ·exact absurd rfl e
end
structure DKs (W : Wd) (X : Cx) (Wx : WX) (O : List Nat) (kws : List Keyword) (m : M (List D)) (z : Nat) (p : Bool) : Prop where
 k : X.K = W.K
 len : ∀ env ds e, m env = .ok ds e → ds.length = kws.length
 run : ∃ t, PK X kws t ∧ ∀ (G : Gh) (L : Lab) (env : EnvD) (σ : L2.St) (H : Hp) (Q : List V → Hp → Prop), Rel W G O L env σ H → kCA W G O L p z Wx env σ H Q (m env) → t σ H Q
structure DKw (W : Wd) (X : Cx) (Wx : WX) (O : List Nat) (es : List Expr) (kws : List Keyword) (m : M (List D)) (z : Nat) (p : Bool) : Prop where
 k : X.K = W.K
 len : ∀ env ds e, m env = .ok ds e → ds.length = es.length + kws.length
 run : ∃ t1 t2, PA X es t1 ∧ PK X kws t2 ∧ ∀ (G : Gh) (L : Lab) (env : EnvD) (σ : L2.St) (H : Hp) (Q : List V → List V → Hp → Prop), Rel W G O L env σ H →
  kCA W G O L p z Wx env σ H (fun l H => ∀ vs zs, l = vs ++ zs → vs.length = es.length → Q vs zs H) (m env) → t1 σ H fun vs H1 => t2 σ H1 fun zs H2 => Q vs zs H2
section
variable {W : Wd} {X : Cx} {Wx : WX} {O : List Nat} {e : Expr} {es : List Expr} {kws : List Keyword} {m : M D} {ms : M (List D)} {p p1 p2 : Bool} {z z1 : Nat} {nm : Option Str} {kpos : Pos}
theorem kMr {a : Nat} (ln : ∀ env ds e, ms env = .ok ds e → ds.length = a) : ∀ env ds e, kAa m ms env = .ok ds e → ds.length = a + 1 := fun env ds e h => by
 unfold kAa at h
 cases q1 : m env with
 | bad => rw [q1] at h; cases h
 | exc c a e => rw [q1] at h; cases h
 | ok d1 e1 =>
  rw [q1] at h
  have h : ((ms e1).bind fun ds e2 => Out.ok (d1 :: ds) e2) = .ok ds e := h
  cases q2 : ms e1 with
  | bad => rw [q2] at h; cases h
  | exc c a e => rw [q2] at h; cases h
  | ok ds' e2 =>
   rw [q2] at h
   cases h
   rw [gG0, ln _ _ _ q2]
theorem kNB {B B' : Type} {t : TE} {u : L2.St → Hp → (B → Hp → Prop) → Prop} (ok : B → List V → Prop) (ok' : B' → List V → Prop) (f : V → B → B') (hf : ∀ x l b, ok b l → ok' (f x b) (x :: l))
  (s : ∀ (G : Gh) (L : Lab) (env : EnvD) (σ : L2.St) (H : Hp) (Q : VK), Rel W G O L env σ H → kBp W G O L p1 z1 Wx env σ H Q (m env) → t σ H Q)
  (sr : ∀ (G : Gh) (L : Lab) (env : EnvD) (σ : L2.St) (H : Hp) (Q : B → Hp → Prop), Rel W G O L env σ H → kCA W G O L p2 z Wx env σ H (fun l H => ∀ b, ok b l → Q b H) (ms env) → u σ H Q)
  (l : z ≤ z1) (k1 : z1 ≤ 2) (cc : p2 = true ∨ z1 = 2) {G : Gh} {L : Lab} {env : EnvD} {σ : L2.St} {H : Hp} {Q : B' → Hp → Prop} (R : Rel W G O L env σ H)
  (h : kCA W G O L (p1 && p2) z Wx env σ H (fun l H => ∀ b, ok' b l → Q b H) (kAa m ms env)) : t σ H fun x H1 => u σ H1 fun b H2 => Q (f x b) H2 := by
 refine s G L env σ H _ R ?_
 unfold kAa at h
 cases q1 : m env with
 | bad => rw [q1] at h; exact h.elim
 | exc c a e => rw [q1] at h; exact h
 | ok d1 e1 =>
  rw [q1] at h
  intro x H1 R1 E1 P1 Z1
  refine sr G L e1 σ H1 _ R1 ?_
  have h : kCA W G O L (p1 && p2) z Wx env σ H (fun l H => ∀ b, ok' b l → Q b H) ((ms e1).bind fun ds e2 => .ok (d1 :: ds) e2) := h
  cases q2 : ms e1 with
  | bad => rw [q2] at h; exact h.elim
  | exc c a e => rw [q2] at h; exact h
  | ok ds e2 =>
   rw [q2] at h
   intro vs H2 R2 E2 P2 A b hb
   have Z := (Z1.ev E2 cc).le (.inl l) k1
   refine h (x :: vs) H2 R2 ((E1.mono fun a z _ => kAO (fun w => (gG6.mp w).1) z).trans (E2.mono fun a z _ => kAO (fun w => (gG6.mp w).2) z)) (fun w => ?_) ⟨?_, fun i d v h1 h2 => ?_⟩ _ (hf x vs b hb)
   ·rw [P2 (gG6.mp w).2, P1 (gG6.mp w).1]
   ·rw [gG0, gG0, A.1]
   ·cases i with
    | zero =>
     rw [gE0] at h1 h2
     rw [← gF3 h1, ← gF3 h2]
     exact Z
    | succ i => exact A.2 i d v (by simpa using h1) (by simpa using h2)
theorem kCA.imp {G : Gh} {L : Lab} {env : EnvD} {σ : L2.St} {H : Hp} {Q Q' : List V → Hp → Prop} {o : Out (List D)} (f : ∀ l H, Q l H → Q' l H) (h : kCA W G O L p z Wx env σ H Q o) : kCA W G O L p z Wx env σ H Q' o := by
 cases o with
 | bad => exact h
 | exc c a e => exact h
 | ok ds e => exact fun vs H' R E P A => f _ _ (h vs H' R E P A)
theorem kLZ (k : X.K = W.K := by rfl) : DKs W X Wx O [] dNil z true := ⟨k, fun env ds e h => by cases h; rfl, _, pk_nil, fun G L env σ H Q R h => h [] H R Ev.refl (fun _ => rfl) ⟨rfl, fun i d v h1 _ => by simp at h1⟩⟩
theorem kIk (ha : DE W X Wx O e m z1 p1) (hr : DKs W X Wx O kws ms z p2) (l : z ≤ z1 := by decide) (k1 : z1 ≤ 2 := by decide) (cc : p2 = true ∨ z1 = 2 := by first | exact .inl rfl | exact .inr rfl) :
  DKs W X Wx O (⟨nm, e, kpos⟩ :: kws) (kAa m ms) z (p1 && p2) := by
 obtain ⟨k, t, pe, s⟩ := ha
 obtain ⟨_, ln, u, pr, sr⟩ := hr
 refine ⟨k, fun env ds e h => kMr ln env ds e h, _, pk_cons pe pr, fun G L env σ H Q R h => ?_⟩
 exact kNB (u := u) (fun b l => b = l) (fun b l => b = l) List.cons (fun x l b h => by rw [h]) s (fun G L env σ H Q R h => sr G L env σ H Q R (h.imp fun l H z => z l rfl)) l k1 cc R (h.imp fun l H z b e => by rw [e]; exact z)
theorem kQq (h : DKs W X Wx O kws ms z p) : DKw W X Wx O [] kws ms z p := by
 obtain ⟨k, ln, t, pk, s⟩ := h
 exact ⟨k, fun env ds e h => by rw [ln _ _ _ h]; simp, _, t, pa_nil, pk, fun G L env σ H Q R h => s G L env σ H _ R (h.imp fun l H z => z [] l rfl rfl)⟩
theorem kGX (ha : DE W X Wx O e m z1 p1) (hr : DKw W X Wx O es kws ms z p2) (l : z ≤ z1 := by decide) (k1 : z1 ≤ 2 := by decide) (cc : p2 = true ∨ z1 = 2 := by first | exact .inl rfl | exact .inr rfl)
  (hs : starEach (e :: es) X.env = (false, eval e X.env) :: starEach es X.env := by rfl) : DKw W X Wx O (e :: es) kws (kAa m ms) z (p1 && p2) := by
 obtain ⟨k, t, pe, s⟩ := ha
 obtain ⟨_, ln, u1, u2, pr1, pr2, sr⟩ := hr
 refine ⟨k, fun env ds e h => ?_, _, u2, pa_cons pe pr1 hs, pr2, fun G L env σ H Q R h => ?_⟩
 ·rw [kMr ln env ds e h, gG0]
  omega
 ·exact kNB (u := fun σ H (Q : List V × List V → Hp → Prop) => u1 σ H fun vs H1 => u2 σ H1 fun zs H2 => Q (vs, zs) H2) (fun b l => l = b.1 ++ b.2 ∧ b.1.length = es.length) (fun b l => l = b.1 ++ b.2 ∧ b.1.length = (e :: es).length) (fun x b => (x :: b.1, b.2))
   (fun x l b h => ⟨by rw [h.1]; rfl, by rw [gG0, gG0, h.2]⟩) s (fun G L env σ H Q R h => sr G L env σ H _ R (h.imp fun l H z vs zs e1 e2 => z (vs, zs) ⟨e1, e2⟩)) l k1 cc (Q := fun b H => Q b.1 b.2 H) R (h.imp fun l H z b e => z b.1 b.2 e.1 e.2)
end
def tKw (n m : Nat) (pm : List Nat) (dvs : List V) (t1 t2 : TA) : TA := fun σ H Q => t1 σ H fun vs H1 => t2 σ H1 fun zs H2 => vs.length = n ∧ zs.length = m ∧ Q (pick pm (vs ++ zs ++ dvs)) H2
def kFd (pm : List Nat) (dd : List D) (ms : M (List D)) : M (List D) := fun env => (ms env).bind fun ds e => .ok (pick pm (ds ++ dd)) e
section
variable {W : Wd} {X : Cx} {Wx : WX} {O : List Nat} {e : Expr} {es : List Expr} {kws : List Keyword} {m : M D} {ms : M (List D)} {p p1 p2 : Bool} {z z1 : Nat} {L : Lab} {H : Hp}
theorem AllZ.app {ds dd : List D} {vs dvs : List V} (h : AllZ W L H z ds vs) (hz : z ≠ 1) (dflt : ∀ (Z : Addr → Prop) (H : Hp), RpL W Z H dd dvs) : AllZ W L H z (ds ++ dd) (vs ++ dvs) := by
 have ld := (dflt No H).length
 refine ⟨by rw [gG2, gG2, h.1, ld], fun i d v h1 h2 => ?_⟩
 by_cases q : i < ds.length
 ·rw [gH8 q] at h1
  rw [gH8 (h.1 ▸ q)] at h2
  exact h.2 i d v h1 h2
 ·have q := Nat.le_of_not_lt q
  rw [List.getElem?_append_right q] at h1
  rw [List.getElem?_append_right (h.1 ▸ q), ← h.1] at h2
  obtain ⟨v', w1, w2⟩ := (dflt No H).getD h1
  obtain ⟨v2, y1, y2⟩ := (dflt (Zo L) H).getD h1
  rw [h2] at w1 y1
  rw [← gF3 w1] at w2
  rw [← gF3 y1] at y2
  match z, hz with
  | 0, _ => exact w2
  | z + 2, _ => exact y2
theorem AllZ.pick {ds : List D} {vs : List V} {pm : List Nat} (h : AllZ W L H z ds vs) (hp : ∀ i ∈ pm, i < ds.length) : AllZ W L H z (DL.pick pm ds) (DL.pick pm vs) := by
 have hp' : ∀ i ∈ pm, i < vs.length := fun i m => h.1 ▸ hp i m
 refine ⟨by rw [kKO hp, kKO hp'], fun j d v h1 h2 => ?_⟩
 rw [kNP hp] at h1
 rw [kNP hp'] at h2
 cases q : pm[j]? with
 | none => rw [q] at h1; cases h1
 | some i =>
  rw [q] at h1 h2
  exact h.2 i d v h1 h2
theorem kRd {n k : Nat} {pm : List Nat} {dd : List D} {dvs : List V} {t1 t2 : TA}
  (s : ∀ (G : Gh) (L : Lab) (env : EnvD) (σ : L2.St) (H : Hp) (Q : List V → List V → Hp → Prop), Rel W G O L env σ H → kCA W G O L p z Wx env σ H (fun l H => ∀ vs zs, l = vs ++ zs → vs.length = n → Q vs zs H) (ms env) → t1 σ H fun vs H1 => t2 σ H1 fun zs H2 => Q vs zs H2)
  (ln : ∀ env ds e, ms env = .ok ds e → ds.length = n + k) (hz : z ≠ 1) (dflt : ∀ (Z : Addr → Prop) (H : Hp), RpL W Z H dd dvs) (hpm : ∀ i ∈ pm, i < n + k + dd.length)
  (G : Gh) (L : Lab) (env : EnvD) (σ : L2.St) (H : Hp) (Q : List V → Hp → Prop) (R : Rel W G O L env σ H) (h : kCA W G O L p z Wx env σ H Q (kFd pm dd ms env)) : tKw n k pm dvs t1 t2 σ H Q := by
 refine s G L env σ H (fun vs zs H => vs.length = n ∧ zs.length = k ∧ Q (DL.pick pm (vs ++ zs ++ dvs)) H) R ?_
 unfold kFd at h
 cases q1 : ms env with
 | bad => rw [q1] at h; exact h.elim
 | exc c a e => rw [q1] at h; exact h
 | ok ds e1 =>
  rw [q1] at h
  intro l H1 R1 E1 P1 A vs zs el l1
  have h : kCA W G O L p z Wx env σ H Q (.ok (DL.pick pm (ds ++ dd)) e1) := h
  have len := ln _ _ _ q1
  have l2 : zs.length = k := by
   have := A.1
   rw [el, gG2, len, l1] at this
   omega
  refine ⟨l1, l2, h _ H1 R1 E1 P1 ?_⟩
  rw [← el]
  exact (A.app hz dflt).pick fun i m => by
   rw [gG2, len]
   exact hpm i m
theorem kQo {a : Nat} {pm : List Nat} {dd : List D} (ln : ∀ env ds e, ms env = .ok ds e → ds.length = a) (hpm : ∀ i ∈ pm, i < a + dd.length) : ∀ env ds e, kFd pm dd ms env = .ok ds e → ds.length = pm.length := fun env ds e h => by
 unfold kFd at h
 cases q1 : ms env with
 | bad => rw [q1] at h; cases h
 | exc c a e => rw [q1] at h; cases h
 | ok d1 e1 =>
  rw [q1] at h
  cases h
  exact kKO fun i m => by
   rw [gG2, ln _ _ _ q1]
   exact hpm i m
end
section
variable {W : Wd} {X : Cx} {Wx : WX} {O : List Nat} {e : Expr} {es : List Expr} {kws : List Keyword} {ms : M (List D)} {p : Bool} {x : Str} {p0 pos : Pos} {k j fr ar n0 z : Nat} {f : Addr} {fd : FuncData} {ps ks : List Str} {FF : FM} {dvs : List V} {vds : List Value} {dd : List D} {pm : List Nat}
theorem kGu {Z : Addr → Prop} {H : Hp} {d : D} {v : V} {ds : List D} {vs : List V} (h : Rp W Z H d v) (r : RpL W Z H ds vs) : RpL W Z H (d :: ds) (v :: vs) := by
 unfold RpL
 exact ⟨v, vs, rfl, h, r⟩
theorem kUP {a b : Nat} {pm : List Nat} (h : (pm.all fun i => decide (i < a)) = true) (e : a ≤ b) : ∀ i ∈ pm, i < b := fun i m => Nat.lt_of_lt_of_le (gF5 (gH5.mp h i m)) e
end
def xdA (K : PySem.W.Frag) (a : Addr) (k : Nat) (ds : List D) (vs : List V) (H : Hp) : Prop := (k = 0 ∧ ∃ v, vs = [v] ∧ H a = some (.xd [("at", v)])) ∨ (k = 3 ∧ ∃ x : Str, ds = [.str x] ∧ vs = [.str x] ∧ a = He.ga K x) ∨ (k = 4 ∧ ds = [] ∧ vs = [] ∧ KT0 K a)
theorem kII {K : PySem.W.Frag} {a : Addr} {k : Nat} {ds : List D} {vs : List V} {H H' : Hp} (h : xdA K a k ds vs H) (e : ∀ fs, H a = some (.xd fs) → H' a = some (.xd fs)) : xdA K a k ds vs H' := by
 rcases h with ⟨h1, v, h2, h3⟩ | h
 ·exact .inl ⟨h1, v, h2, e _ h3⟩
 ·exact .inr h
theorem kSi {K : PySem.W.Frag} {a : Addr} {k : Nat} {ds : List D} {vs : List V} {H : Hp} (h : xdA K a k ds vs H) : k = 0 ∨ k = 3 ∨ k = 4 := h.imp (·.1) fun h => h.imp (·.1) (·.1)
theorem kUd {K : PySem.W.Frag} {a : Addr} {ds : List D} {vs : List V} {H : Hp} (h : xdA K a 4 ds vs H) : ds = [] ∧ vs = [] ∧ KT0 K a := by
 rcases h with ⟨e, _⟩ | ⟨e, _⟩ | ⟨_, h⟩
 ·exact absurd e (by decide)
 ·exact absurd e (by decide)
 ·exact h
theorem kUT {W : Wd} {F : FM} {H : Hp} {a : Addr} {ns : List Int} (hS : RoL W.K H a (ns.map V.int)) (hl : ns.length ≤ sizeLine) (ht : LamX.Tabs W.T H) (h : ∃ io, F [.ro (ns.map D.int)] = .ok (.bool true) io) : spD W 0 0 1 F [.ref a] H (fun v _ => v = .bl true) fun _ _ _ => False := by
 obtain ⟨io, h⟩ := h
 refine ⟨rfl, ht, ghN H, [.ro (ns.map D.int)], rfl, rfl, ⟨rfl, fun i d v h1 h2 => ?_, fun a z => (z rfl).elim, fun hn => (hn rfl).elim⟩, ?_⟩
 ·cases i with
  | succ i => simp at h1
  | zero =>
   cases h1
   cases h2
   show Rp W _ H (.ro (ns.map D.int)) (.ref a)
   unfold Rp
   refine ⟨a, _, rfl, ⟨hS, by rw [gF0]; exact hl⟩, ?_⟩
   clear h hl hS
   induction ns with
   | nil => exact kER
   | cons n ns ih => exact kGu kLG ih
 ·rw [h]
  intro v H' L' _ _ _ _ _ _ o
  have o : Rp W (Zo L') H' (.bool true) v := o
  unfold Rp at o
  exact o
section
variable {W : Wd} {X : Cx} {Wx : WX} {O : List Nat} {e : Expr} {m : M D} {z : Nat} {p : Bool} {pos : Pos}
def kJE (c1 c2 : String) (d : D) : Option D := (dTy d).map fun t => .bool (isK t c1 || isK t c2)
theorem kTy {K : PySem.W.Frag} {d : D} {t c1 c2 : String} (e : dTy d = some t) (h1 : c1 = "str" ∨ c1 = "int" ∨ c1 = "tuple" ∨ c1 = "list" ∨ c1 = "bool" ∨ c1 = "dict") (h2 : c2 = "str" ∨ c2 = "int" ∨ c2 = "tuple" ∨ c2 = "list" ∨ c2 = "bool" ∨ c2 = "dict") :
  PySem.W.kitAny K (.type t) [.type c1, .type c2] = some (isK t c1 || isK t c2) := by
 refine kitAny_cons (kJu e h1) (fun hb => kitAny_cons (kJu e h2) (fun hb2 => ?_) (fun hb2 => ?_)) fun hb => ?_
 ·rw [hb, hb2, kitAny_nil]
  rfl
 ·rw [hb, hb2]
  rfl
 ·rw [hb]
  rfl
theorem kTS {x1 x2 : Str} {c1 c2 : String} {p0 p1 p2 p3 : Pos} {n : Nat} (h : DE W X Wx O e m z p) (k2 : z ≤ 2 := by decide) (hg : Gl X "isinstance" := by rfl) (hm : X.mg "isinstance" = none) (hg1 : Gl X x1 := by rfl) (hm1 : X.mg x1 = none) (hb1 : bootBuiltins x1 = some (.type c1) := by decide +kernel)
  (hg2 : Gl X x2 := by rfl) (hm2 : X.mg x2 = none) (hb2 : bootBuiltins x2 = some (.type c2) := by decide +kernel)
  (hc1 : c1 = "str" ∨ c1 = "int" ∨ c1 = "tuple" ∨ c1 = "list" ∨ c1 = "bool" ∨ c1 = "dict" := by decide) (hn1 : x1 ≠ "__name__" := by decide) (hd1 : (x1 == ("__debug__" : Str)) = false := by decide)
  (hc2 : c2 = "str" ∨ c2 = "int" ∨ c2 = "tuple" ∨ c2 = "list" ∨ c2 = "bool" ∨ c2 = "dict" := by decide) (hn2 : x2 ≠ "__name__" := by decide) (hd2 : (x2 == ("__debug__" : Str)) = false := by decide)
  (he : starEach (e :: [.Tuple [.Name x1 p1, .Name x2 p2] n p3]) X.env = (false, eval e X.env) :: starEach [.Tuple [.Name x1 p1, .Name x2 p2] n p3] X.env := by rfl)
  (hst : starEach (.Tuple [.Name x1 p1, .Name x2 p2] n p3 :: []) X.env = (false, eval (.Tuple [.Name x1 p1, .Name x2 p2] n p3) X.env) :: starEach [] X.env := by rfl)
  (hs1 : starEach (.Name x1 p1 :: [.Name x2 p2]) X.env = (false, eval (.Name x1 p1) X.env) :: starEach [.Name x2 p2] X.env := by rfl)
  (hs2 : starEach (.Name x2 p2 :: []) X.env = (false, eval (.Name x2 p2) X.env) :: starEach [] X.env := by rfl) (hpl : (backTo pos (starEach [.Tuple [.Name x1 p1, .Name x2 p2] n p3] X.env)).any (·.1) = false := by rfl) :
  DE W X Wx O (.Call (.Name "isinstance" p0) [e, .Tuple [.Name x1 p1, .Name x2 p2] n p3] [] pos) (dUn (kJE c1 c2) m) 2 p := by
 obtain ⟨k, t, pe, s⟩ := h
 refine ⟨k, _, L2.pe_callB call_isiT hg hm (by decide +kernel) (pa_cons pe (pa_cons (pe_tup (pa_cons (pe_bltn hg1 hm1 hb1 (v := V.ty c1) rfl hn1 hd1) (pa_cons (pe_bltn hg2 hm2 hb2 (v := V.ty c2) rfl hn2 hd2) pa_nil hs2) hs1)) pa_nil hst) he) (by decide) (by decide) he hpl, fun G L env σ H Q R h => s G L env σ H _ R ?_⟩
 unfold dUn at h
 cases q1 : m env with
 | bad => rw [q1] at h; exact h.elim
 | exc c a e => rw [q1] at h; exact h
 | ok d e1 =>
  rw [q1] at h
  intro v H1 R1 E1 P1 Z1
  have h : kBp W G O L p 2 Wx env σ H Q (lift (kJE c1 c2 d) e1) := h
  unfold kJE at h
  cases qt : dTy d with
  | none => rw [qt] at h; exact h.elim
  | some ty =>
   rw [qt] at h
   refine ⟨(by decide : 2 ≤ sizeLine), fun q nq => ?_⟩
   have ev : Ev W No H1 (upd H1 q (.tup [V.ty c1, V.ty c2])) := Ev.new nq
   have hq : Q (.bl (isK ty c1 || isK ty c2)) (upd H1 q (.tup [V.ty c1, V.ty c2])) := h _ _ (R1.pure ev) (E1.trans (ev.mono fun _ z _ => z.elim)) P1 kBm
   refine ⟨v, q, _, .type ty, [.type c1, .type c2], isK ty c1 || isK ty c2, rfl, upd_same, .cons (.ty c1) (.cons (.ty c2) .nil), ?_, kTy qt hc1 hc2, hq⟩
   rw [k]
   exact kUz (Rp.ev ev _ _ Z1.any) qt
end
end DL
namespace DL
open PySem PySem.Spec PyProof.Rows L2
def far : Nat := 5000000
section
variable {W : Wd} {G : Gh} {O : List Nat} {L : Lab} {env e2 : EnvD} {σ : L2.St} {H H2 : Hp} {n i : Nat}
theorem Rel.away (R : Rel W G O L env σ H) (hi : i ≠ 0 ∨ G.n = 0) (il : i < O.length) (hl : O.length ≤ tmp) : Rel W G O (relabT i far L) (env.set i none) σ H := by
 have sh : ∀ d v, Rp W (Zo L) H d v → Rp W (Zo (relabT i far L)) H d v := fun d v => Rp.shun (fun a z _ => kBK.mp z) d v
 refine ⟨by rw [gH6, R.len], fun j d e => ?_, fun a z => R.dom a (kBK.mp z), R.ent, fun a l e => kEf (R.ext a l e) fun q w => ?_, fun a l e g => ?_, R.first, fun hn a q e => ?_⟩
 ·by_cases q : i = j
  ·subst q
   rw [List.getElem?_set] at e
   split at e
   ·split at e <;> cases e
   ·rename_i w
    exact (w rfl).elim
  ·rw [gH4 q] at e
   obtain ⟨v, h1, h2⟩ := R.slot j d e
   exact ⟨v, h1, Ow.map sh _ [j] [j] d v (fun a r e1 _ => ⟨kEf e1 fun q' w => by
    have w : j :: r = i :: q' := w
    injection w with w1 _
    exact q w1.symm, Stay.refl⟩) h2⟩
 ·rw [w] at e
  rcases G.hd a _ e with r | ⟨r, r2⟩
  ·cases r
  ·injection r2 with r3 _
   rcases hi with hi | hi
   ·exact hi r3
   ·exact G.no hi a q (by rw [e, r3])
 ·rcases kBW e with e | ⟨q, e, w⟩
  ·exact R.loc a l e g
  ·exact ⟨(R.loc a _ e g).1, far, q, w⟩
 ·rcases kBW e with e | ⟨q', e, w⟩
  ·exact R.zero hn a q e
  ·injection w with w _
   cases w
theorem Rel.home (R : Rel W G O L env σ H) (R2 : Rel W G O (relabT i far L) e2 σ H2) (hl : O.length ≤ tmp) : Rel W G O L (e2.set i none) σ H2 := by
 have sh : ∀ d v, Rp W (Zo (relabT i far L)) H2 d v → Rp W (Zo L) H2 d v := fun d v => Rp.shun (fun a z _ => kBK.mpr z) d v
 refine ⟨by rw [gH6, R2.len], fun j d e => ?_, fun a z => R2.dom a (kBK.mpr z), R2.ent, R.ext, R.loc, R2.first, R.zero⟩
 by_cases q : i = j
 ·subst q
  rw [List.getElem?_set] at e
  split at e
  ·split at e <;> cases e
  ·rename_i w
   exact (w rfl).elim
 ·rw [gH4 q] at e
  obtain ⟨v, h1, h2⟩ := R2.slot j d e
  refine ⟨v, h1, ?_⟩
  by_cases hj : j < O.length
  ·refine Ow.map sh _ [j] [j] d v (fun a r e1 e2 => ⟨?_, Stay.refl⟩) h2
   rcases kBW e1 with e1 | ⟨q', e1, w⟩
   ·exact e1
   ·have w : j :: r = far :: q' := w
    injection w with w _
    unfold far at w
    unfold tmp at hl
    omega
  ·have o : O.getD j 0 = 0 := by
    rw [gH7, gI1.mpr (by omega)]
    rfl
   rw [o] at h2 ⊢
   exact sh d v h2
theorem Rel.fill (R : Rel W G O L env σ H) {d : D} {v : V} (hv : σ[i]? = some (some v)) (h : Ow W L H (O.getD i 0) [i] d v) : Rel W G O L (env.set i (some d)) σ H := by
 refine ⟨by rw [gH6, R.len], fun j d' e => ?_, R.dom, R.ent, R.ext, R.loc, R.first, R.zero⟩
 by_cases q : i = j
 ·subst q
  have hlt : i < env.length := by
   have := (gF8.mp e).1
   simpa using this
  rw [gI3 hlt] at e
  have e' : d = d' := gF3 (gF3 e)
  subst e'
  exact ⟨v, hv, h⟩
 ·rw [gH4 q] at e
  exact R.slot j d' e
theorem Rel.mutn2 (R : Rel W G O L env σ H) {ds es' : List D} {a b : Addr} {vs ws ws' : List V} {j : Nat} (h : env[i]? = some (some (.lst ds))) (o : O.getD i 0 = 2) (hv : σ[i]? = some (some (.ref a))) (ha : L a = some [i]) (hh : H a = some (.lst vs)) (hln : ds.length = vs.length) (hsz : vs.length ≤ sizeLine)
  (r : ∀ (j : Nat) (d : D) (v : V), ds[j]? = some d → vs[j]? = some v → Ow W L H 1 ([i] ++ [j]) d v) (hj : vs[j]? = some (.ref b)) (hb : L b = some [i, j]) (hhb : H b = some (.lst ws)) (rl : RpL W (Zo L) H es' ws') (sz : ws'.length ≤ sizeLine) :
  Rel W G O L (env.set i (some (.lst (ds.set j (.lst es'))))) σ (upd H b (.lst ws')) := by
 have evB : Ev W (fun c => c = b) H (upd H b (.lst ws')) := Ev.put hhb rfl
 have evL : Ev W (Zo L) H (upd H b (.lst ws')) := evB.mono fun c z _ w => by rw [z, hb] at w; cases w
 have nab : a ≠ b := fun z => by
  rw [z, hb] at ha
  cases ha
 refine ⟨by rw [gH6, R.len], fun k d e => ?_, fun c z w => R.dom c z (evB.dom c w), R.entry evB fun c z => ⟨i, [j], by rw [z]; exact hb⟩, R.ext, R.loc, R.first, R.zero⟩
 by_cases q : i = k
 ·subst q
  have hlt : i < env.length := (gF8.mp h).1
  rw [gI3 hlt] at e
  have e' : D.lst (ds.set j (.lst es')) = d := gF3 (gF3 e)
  subst e'
  refine ⟨.ref a, hv, ?_⟩
  rw [o]
  refine ⟨a, vs, rfl, ha, by rw [upd_ne nab]; exact hh, ⟨by rw [gH6]; exact hln, hsz⟩, fun k d v h1 h2 => ?_⟩
  by_cases hk : j = k
  ·subst hk
   have hjl : j < ds.length := by
    have := (gF8.mp h1).1
    simpa using this
   rw [gI3 hjl] at h1
   cases h1
   rw [hj] at h2
   cases h2
   refine ⟨b, ws', rfl, hb, upd_same, ⟨rl.length, sz⟩, fun m d' v' q1 q2 => ?_⟩
   obtain ⟨v'', w1, w2⟩ := rl.getD q1
   rw [q2] at w1
   rw [gF3 w1]
   exact Rp.ev evL _ _ w2
  ·rw [gH4 hk] at h1
   refine Ow.map (fun d v => Rp.ev evL d v) _ _ _ d v (fun c p e1 _ => ⟨e1, evB.ob fun z => ?_⟩) (r k d v h1 h2)
   rw [z, hb] at e1
   have := gF3 e1
   simp at this
   exact hk this.1
 ·rw [gH4 q] at e
  obtain ⟨v', h1, h2⟩ := R.slot k d e
  refine ⟨v', h1, Ow.map (fun d v => Rp.ev evL d v) _ _ _ d v' (fun c p e1 _ => ⟨e1, evB.ob fun z => ?_⟩) h2⟩
  rw [z, hb] at e1
  have := gF3 e1
  simp at this
  exact q this.1
end
def in2 (i : Nat) (FM : List D → List D → Option (D × List D)) (ms : M (List D)) (ds es : List D) (j : Nat) (e1 : EnvD) : Out D := match ms (e1.set i none) with
 | .ok args e2 => (match FM es args with
  | some r => .ok r.1 (e2.set i (some (.lst (ds.set j (.lst r.2)))))
  | none => .bad)
 | _ => .bad
def at2 (kd : D) (od : Option (Option D)) : Option (List D × Nat × List D) := match kd, od with
 | .int k, some (some (.lst ds)) => (match ixN ds.length k with
  | some j => (match ds[j]? with
   | some (.lst es) => some (ds, j, es)
   | _ => none)
  | none => none)
 | _, _ => none
theorem kSd {kd : D} {od : Option (Option D)} {ds es : List D} {j : Nat} (h : at2 kd od = some (ds, j, es)) : ∃ k, kd = .int k ∧ od = some (some (.lst ds)) ∧ ixN ds.length k = some j ∧ ds[j]? = some (.lst es) := by
 unfold at2 at h
 split at h
 ·rename_i k ds'
  split at h
  ·rename_i j' hj
   split at h
   ·rename_i es' he
    cases h
    exact ⟨k, rfl, rfl, hj, he⟩
   ·cases h
  ·cases h
 ·cases h
def kGx (i : Nat) (mk : M D) (FM : List D → List D → Option (D × List D)) (ms : M (List D)) : M D := fun env => match env[i]? with
 | some (some (.lst _)) => (mk env).bind fun kd e1 => (match at2 kd e1[i]? with
  | some (ds, j, es) => in2 i FM ms ds es j e1
  | none => .bad)
 | _ => .bad
section
variable {W : Wd} {X : Cx} {Wx : WX} {O : List Nat} {e kx : Expr} {es : List Expr} {ms : M (List D)} {mk : M D} {p pk : Bool} {zk : Nat}
theorem kLD {r : V → List V → Hp → VK → Prop} {FM : List D → List D → Option (D × List D)} {i : Nat} {t : TA} {tk : TE} (f : MF W r FM) (k0 : X.K = W.K) (sk : ∀ (G : Gh) (L : Lab) (env : EnvD) (σ : L2.St) (H : Hp) (Q : VK), Rel W G O L env σ H → kBp W G O L pk zk Wx env σ H Q (mk env) → tk σ H Q)
  (s : ∀ (G : Gh) (L : Lab) (env : EnvD) (σ : L2.St) (H : Hp) (Q : List V → Hp → Prop), Rel W G O L env σ H → kCA W G O L p 2 Wx0 env σ H Q (ms env) → t σ H Q)
  (o : O.getD i 0 = 2) (hi0 : i ≠ 0 ∨ p = true) (il : i < O.length) (hl : O.length ≤ tmp) {G : Gh} {L : Lab} {env : EnvD} {σ : L2.St} {H : Hp} {Q : VK} (R : Rel W G O L env σ H) (h : kBp W G O L false 2 Wx env σ H Q (kGx i mk FM ms env)) :
  tBM X.K "list" r (tOp (rIxL X.K) (tVar i) tk) t σ H Q := by
 unfold kGx at h
 split at h
 ·rename_i ds0 e0
  obtain ⟨a0, vs0, s0, l0, h0, _⟩ := R.top e0 o
  refine ⟨.ref a0, s0, sk G L env σ H _ R ?_⟩
  cases q : mk env with
  | bad => rw [q] at h; exact h.elim
  | exc c a e => rw [q] at h; exact h
  | ok kd e1 =>
   rw [q] at h
   intro y H1 R1 E1 P1 Z1
   have hh : ∀ r, at2 kd e1[i]? = r → kBp W G O L false 2 Wx env σ H Q (match r with
    | some (ds, j, es) => in2 i FM ms ds es j e1
    | none => .bad) := fun r e => by
    rw [← e]
    exact h
   cases qa : at2 kd e1[i]? with
   | none => exact (hh _ qa).elim
   | some tr =>
      obtain ⟨ds, j, es1⟩ := tr
      have hin : kBp W G O L false 2 Wx env σ H Q (in2 i FM ms ds es1 j e1) := hh _ qa
      clear hh h
      obtain ⟨k, rfl, ed, qx, qj⟩ := kSd qa
      obtain ⟨a, vs, s1, l1, h1, h2, h3, h4⟩ := R1.top ed o
      rw [s0] at s1
      cases s1
      have hjv : j < vs.length := by
       rw [← h2]
       exact (gF8.mp qj).1
      have oj := h4 j _ _ qj (gF6 hjv)
      unfold Ow at oj
      obtain ⟨b, ws, hbv, hb, hhb, hlz, hit⟩ := oj
      have hjb : vs[j]? = some (.ref b) := by rw [gF6 hjv, hbv]
      have hy : y = .int k := kDh Z1
      have hat : atI vs k = some (.ref b) := by
       unfold atI
       rw [← h2, qx]
       exact hjb
      refine ⟨a0, vs, k, .ref b, rfl, hy, SqL.of h1, hat, .inl ⟨rfl, ws, SqL.of hhb⟩, ?_⟩
      have hin' : ∀ r, ms (e1.set i none) = r → kBp W G O L false 2 Wx env σ H Q (match r with
       | .ok args e2 => (match FM es1 args with
        | some r => .ok r.1 (e2.set i (some (.lst (ds.set j (.lst r.2)))))
        | none => .bad)
       | _ => .bad) := fun r e => by
       rw [← e]
       exact hin
      have fin : ∀ (args : List D) (e2 : EnvD) (us : List V) (H2 : Hp), ms (e1.set i none) = .ok args e2 → Rel W G O L (e2.set i none) σ H2 → (∀ c q, L c = some (i :: q) → Stay W H1 H2 c) → Ev W (Zo L) H1 H2 → Ev W (Zp false L) H1 H2 → RpL W (Zo L) H2 args us → e2.length = e1.length → r (.ref b) us H2 Q := by
       intro args e2 us H2 qm Rh evO ev12 evP A2 len2
       have h := hin' _ qm
       have h : kBp W G O L false 2 Wx env σ H Q (match FM es1 args with
        | some r => .ok r.1 (e2.set i (some (.lst (ds.set j (.lst r.2)))))
        | none => .bad) := h
       cases qf : FM es1 args with
       | none => rw [qf] at h; exact h.elim
       | some rr =>
        rw [qf] at h
        have h1' : H2 a0 = some (.lst vs) := (evO a0 [] l1).lst vs h1
        have hb' : H2 b = some (.lst ws) := (evO b [j] hb).lst ws hhb
        have inner : ∀ (m : Nat) (d : D) (v : V), ds[m]? = some d → vs[m]? = some v → Ow W L H2 1 ([i] ++ [m]) d v := fun m d v q1 q2 =>
         Ow.map (fun d v => Rp.ev ev12 d v) _ _ _ d v (fun c q e1 _ => ⟨e1, evO c ([m] ++ q) (by rw [e1]; rfl)⟩) (h4 m d v q1 q2)
        have own : Ow W L H2 (O.getD i 0) [i] (.lst ds) (.ref a0) := by
         rw [o]
         exact ⟨a0, vs, rfl, l1, h1', ⟨h2, h3⟩, inner⟩
        have Rf := Rh.fill s0 own
        have hlt : i < e2.length := by
         have := (gF8.mp ed).1
         rw [len2]
         exact this
        have hset : ((e2.set i none).set i (some (.lst ds)))[i]? = some (some (.lst ds)) := gI3 (by rw [gH6]; exact hlt)
        have items : RpL W (Zo L) H2 es1 ws := RpL.of hlz.1 fun m d v q1 q2 => Rp.ev ev12 d v (hit m d v q1 q2)
        refine f L H2 b ws us es1 args rr.1 rr.2 Q hb' hlz.2 items A2 qf fun v ws' rl rv sz => ?_
        have R3 := Rf.mutn2 hset o s0 l1 h1' h2 h3 inner hjb hb hb' rl sz
        rw [List.set_set, List.set_set] at R3
        have evB : Ev W (fun c => c = b) H2 (upd H2 b (.lst ws')) := Ev.put hb' rfl
        have evL : Ev W (Zo L) H2 (upd H2 b (.lst ws')) := evB.mono fun c z _ w => by rw [z, hb] at w; cases w
        refine h v _ R3 ?_ (fun z => nomatch z) (Rp.ev evL _ v rv)
        exact ((E1.mono fun c z _ => kAO (p := pk) (p' := false) (fun w => nomatch w) z).trans evP).trans (evB.mono fun c z _ => ⟨i, [j], by rw [z]; exact hb, by omega⟩)
      by_cases hp : p = true
      ·subst hp
       refine s G L _ σ H1 _ (R1.drop i) ?_
       cases qm : ms (e1.set i none) with
       | bad => exact (hin' _ qm).elim
       | exc c a e => exact (hin' _ qm).elim
       | ok args e2 =>
        intro us H2 R2 E2 P2 A
        have E2 : Ev W No H1 H2 := E2
        refine fin args e2 us H2 qm (R2.drop i) (fun c q hc => E2.ob fun z => z) (E2.mono fun _ z _ => z.elim) (E2.mono fun _ z _ => z.elim) A.two ?_
        rw [R2.len, ← R1.len]
      ·refine s G _ _ σ H1 _ (R1.away (i := i) (.inl (hi0.resolve_right hp)) il hl) ?_
       cases qm : ms (e1.set i none) with
       | bad => exact (hin' _ qm).elim
       | exc c a e => exact (hin' _ qm).elim
       | ok args e2 =>
        intro us H2 R2 E2 P2 A
        have hp : p = false := by simpa using hp
        subst hp
        have nz : ∀ c q, L c = some (i :: q) → ¬ Zp false (relabT i far L) c := fun c q hc z => by
         obtain ⟨m, q', hm, hlt⟩ := z
         rw [kKM hc] at hm
         have := (List.cons.inj (gF3 hm)).1
         unfold far at this
         unfold tmp at hlt
         omega
        refine fin args e2 us H2 qm (Rel.home R1 R2 hl) (fun c q hc => E2.ob (nz c q hc)) (E2.mono fun c z _ => kBK.mp z.sub) (E2.mono fun c z _ => ?_) (RpL.shun (fun c z _ => kBK.mpr z) _ _ (show RpL W (Zo (relabT i far L)) H2 args us from A.two)) ?_
        ·obtain ⟨m, q', hm, hlt⟩ := z
         rcases kBW hm with hm | ⟨q2, hm, w⟩
         ·exact ⟨m, q', hm, hlt⟩
         ·exact ⟨i, q2, hm, by omega⟩
        ·rw [R2.len, ← R1.len]
 ·exact h.elim
end
def kLN : List Nat → List D → Bool
 | n :: ns, d :: ds => (n == 1 || (n == 0 && !d.hot)) && kLN ns ds
 | [], [] => true
 | _, _ => false
theorem kNT : ∀ {ns : List Nat} {ds : List D}, kLN ns ds = true → ∀ {j : Nat} {d : D}, ds[j]? = some d → ns.getD j 0 = 1 ∨ (ns.getD j 0 = 0 ∧ d.hot = false)
 | [], [], _, j, d, h => by simp at h
 | [], _ :: _, h, _, _, _ => by cases h
 | _ :: _, [], h, _, _, _ => by cases h
 | n :: ns, d :: ds, h, j, d', hj => by
  unfold kLN at h
  obtain ⟨h1, h2⟩ := gG6.mp h
  cases j with
  | zero =>
   have e : d = d' := by simpa using hj
   subst e
   rcases Bool.or_eq_true_iff.mp h1 with h1 | h1
   ·exact .inl (by simpa using h1)
   ·obtain ⟨h3, h4⟩ := gG6.mp h1
    exact .inr ⟨by simpa using h3, by simpa using h4⟩
  | succ j => exact kNT h2 (by simpa using hj)
def kQx (ns : List Nat) (ms : M (List D)) : M D := fun env => (ms env).bind fun ds e => if kLN ns ds = true then .ok (.lst ds) e else .bad
section
variable {W : Wd} {X : Cx} {Wx : WX} {O : List Nat} {es : List Expr} {ms : M (List D)} {ns : List Nat} {p : Bool}
def rel2 (l : List Nat) : List Nat := match l with
 | t :: q => tmp :: (t - (tmp + 2)) :: q
 | [] => [tmp]
theorem kTO {pos : Pos} (h : DOs W X Wx O es ms 0 ns p) (hl : es.length ≤ 1000 := by decide) (ho : O.length ≤ tmp := by decide) : DO W X Wx O (.List es pos) (kQx ns ms) 2 p := by
 obtain ⟨k, ln, t, pa, s⟩ := h
 refine ⟨k, _, pe_lst pa, fun G L env σ H Q R h => s G L env σ H _ R ?_⟩
 unfold kQx at h
 cases q1 : ms env with
 | bad => rw [q1] at h; exact h.elim
 | exc c a e => rw [q1] at h; exact h
 | ok ds e1 =>
  rw [q1] at h
  have h : kDB W G O L p 2 Wx env σ H Q (if kLN ns ds = true then .ok (.lst ds) e1 else .bad) := h
  by_cases ok : kLN ns ds = true
  ·rw [if_pos ok] at h
   intro vs H1 L1 N R1 R1' E1 P1
   have sz : vs.length ≤ sizeLine := Nat.le_of_lt (small1000 (by rw [← N.len, ln _ _ _ q1]; exact hl))
   refine ⟨sz, fun b nb => ?_⟩
   have nL : L b = none := R1'.free nb
   have nL1 : L1 b = none := R1.free nb
   let L2 := relabN rel2 L L1
   have by1 : kQP O L L1 := fun a l z w => by
    obtain ⟨j, q, e⟩ := N.new a l z w
    exact ⟨_, q, e, by unfold tk; omega⟩
   have R2 : Rel W G O L2 e1 σ H1 := R1.relabN N.ext by1 (fun a l z w => by
    obtain ⟨j, q, e⟩ := N.new a l z w
    rw [e]
    exact ⟨tmp, _, rfl, ho, by decide⟩) R.ext
   have nL2 : L2 b = none := R2.free nb
   have R3 : Rel W G O (lay L2 b [tmp]) e1 σ (upd H1 b (.lst vs)) := R2.lay (o := .lst vs) nb (i := tmp) (q := [])
   have R3' : Rel W G O L e1 σ (upd H1 b (.lst vs)) := R1'.new nb
   have ev : Ev W No H1 (upd H1 b (.lst vs)) := Ev.new nb
   have ext2 : ∀ a l, L a = some l → L2 a = some l := fun a l z => kEY z
   have ext3 : ∀ a l, L a = some l → lay L2 b [tmp] a = some l := fun a l z => by
    rw [lay_ne (fun e => by rw [e, nL] at z; cases z)]
    exact ext2 a l z
   have lab : ∀ (a : Addr) (j : Nat) (q : List Nat), nl L L1 a = some (tk (0 + j) :: q) → nl L (lay L2 b [tmp]) a = some (tmp :: j :: q) ∧ a ≠ b := fun a j q e => by
    obtain ⟨x1, x2⟩ := kGg e
    have ne : a ≠ b := fun z => by rw [z, nL1] at x2; cases x2
    refine ⟨?_, ne⟩
    rw [kGf x1, lay_ne ne]
    have := kId (f := rel2) x1 x2
    rw [show L2 a = _ from this]
    show some (tmp :: (tk (0 + j) - (tmp + 2)) :: q) = _
    have : tk (0 + j) - (tmp + 2) = j := by unfold tk; omega
    rw [this]
   have free : RpL W (Zo L) (upd H1 b (.lst vs)) ds vs := RpL.of N.len fun j d v a1 a2 => by
    have o := N.at_ j d v a1 a2
    have r : Rp W (Zo L) H1 d v := Ow.thaw (L := nl L L1) (L' := L) (fun a z w => by
     cases q : L a with
     | none => exact z q
     | some l => unfold nl at w; rw [q] at w; cases w) _ _ d v (fun a q e => (kGg e).1) o
    exact Rp.ev (ev.mono fun _ z _ => z.elim) d v r
   have sh : ∀ d v, Rp W (Zo (nl L L1)) H1 d v → Rp W (Zo (nl L (lay L2 b [tmp]))) (upd H1 b (.lst vs)) d v := fun d v r => by
    refine Rp.ev (ev.mono fun _ z _ => z.elim) d v (Rp.shun (fun a z hn w => ?_) d v r)
    by_cases e : a = b
    ·rw [e] at hn
     exact hn nb
    ·have z1 := (kFu ext3).mp z
     unfold Zo at z1
     rw [lay_ne e] at z1
     have z2 := (kFZ N.ext).mp z1
     exact (kFu N.ext).mpr z2 w
   refine h (.ref b) _ (lay L2 b [tmp]) ⟨ext3, fun a l z w => ?_⟩ (fun a z => ?_) R3 R3' (E1.trans (ev.mono fun _ z _ => z.elim)) P1 ?_ ?_
   ·by_cases e : a = b
    ·rw [e, lay_same] at z
     exact ⟨[], (gF3 z).symm⟩
    ·rw [lay_ne e] at z
     rcases kCw z with z | ⟨_, l1, z1, z2⟩
     ·rw [w] at z; cases z
     ·obtain ⟨j, q, e'⟩ := N.new a l1 z1 w
      rw [e'] at z2
      exact ⟨_, z2⟩
   ·by_cases e : a = b
    ·rw [e]
     exact .inr (E1.dom b nb)
    ·rw [lay_ne e] at z
     exact N.nw a ((kFZ N.ext).mp z)
   ·refine ⟨b, vs, rfl, by rw [kGf nL]; exact lay_same, upd_same, ⟨N.len, sz⟩, fun j d v a1 a2 => ?_⟩
    have o := N.at_ j d v a1 a2
    rcases kNT ok a1 with e | ⟨e, nd⟩
    ·rw [e] at o
     refine Ow.map sh 1 [tk (0 + j)] [tmp, j] d v (fun a q x1 _ => ?_) o
     obtain ⟨y1, y2⟩ := lab a j q x1
     exact ⟨y1, (Ev.new (Z := fun _ => False) nb).ob (fun z => z)⟩
    ·rw [e] at o
     exact Ow.flat0 (q := []) (sh d v o) (.inr nd)
   ·unfold Rp
    exact ⟨b, vs, rfl, fun z => z nL, ⟨upd_same, sz⟩, free⟩
  ·rw [if_neg ok] at h
   exact h.elim
end
def dIxO (i : Nat) (mk : M D) : M D := fun env => match env[i]? with
 | some (some (.lst ds)) => (mk env).bind fun kd e => lift (dIx (.lst ds) kd) e
 | _ => .bad
section
variable {W : Wd} {X : Cx} {Wx : WX} {F : Fc} {O : List Nat} {e kx : Expr} {es : List Expr} {ms : M (List D)} {mk m2 : M D} {p pk : Bool} {zk i : Nat} {x nm : Str} {px pos apos cpos spos : Pos} {id : String}
theorem kMq (pv : PE X (.Name x px) (tVar i)) (hk : DE W X Wx O kx mk zk true) (o : O.getD i 0 = 2 := by rfl) (hs : PlainIx kx := by exact fun _ _ => rfl) : DE W X Wx O (.Subscript (.Name x px) kx pos) (dIxO i mk) 1 true := by
 obtain ⟨k, tk, pk, sk⟩ := hk
 refine ⟨k, _, pe_ix ix_list pv pk hs, fun G L env σ H Q R h => ?_⟩
 unfold dIxO at h
 split at h
 ·rename_i ds e0
  obtain ⟨a, vs, s0, l0, h0, h2, h3, h4⟩ := R.top e0 o
  refine ⟨.ref a, s0, sk G L env σ H _ R ?_⟩
  cases q : mk env with
  | bad => rw [q] at h; exact h.elim
  | exc c a e => rw [q] at h; exact h
  | ok kd e1 =>
   rw [q] at h
   intro y H1 R1 E1 P1 Z1
   have E1 : Ev W No H H1 := E1
   have h : kBp W G O L true 1 Wx env σ H Q (lift (dIx (.lst ds) kd) e1) := h
   cases kd with
   | int kk =>
    cases qa : atI ds kk with
    | none =>
     rw [show dIx (.lst ds) (.int kk) = atI ds kk from rfl, qa] at h
     exact h.elim
    | some d =>
     rw [show dIx (.lst ds) (.int kk) = atI ds kk from rfl, qa] at h
     unfold atI at qa
     cases qx : ixN ds.length kk with
     | none => rw [qx] at qa; cases qa
     | some j =>
      rw [qx] at qa
      have qa : ds[j]? = some d := qa
      have hjv : j < vs.length := by
       rw [← h2]
       exact (gF8.mp qa).1
      have hat : atI vs kk = some vs[j] := by
       unfold atI
       rw [← h2, qx]
       exact gF6 hjv
      have oj := h4 j d _ qa (gF6 hjv)
      have ev : Ev W (Zo L) H H1 := E1.mono fun _ z _ => z.elim
      refine ⟨a, vs, kk, vs[j], rfl, kDh Z1, SqL.of (E1.lst a vs h0 fun z => z), hat, h _ H1 R1 E1 P1 ?_⟩
      cases d with
      | lst es =>
       unfold Ow at oj
       obtain ⟨b, ws, x1, x2, x3, x4, x5⟩ := oj
       exact ⟨b, ws, x1, ⟨E1.lst b ws x3 fun z => z, x4.2⟩, RpL.of x4.1 fun m d v q1 q2 => Rp.ev ev d v (x5 m d v q1 q2)⟩
      | non => exact RpZ.of2 (Rp.ev ev _ _ oj)
      | bool _ => exact RpZ.of2 (Rp.ev ev _ _ oj)
      | int _ => exact RpZ.of2 (Rp.ev ev _ _ oj)
      | str _ => exact RpZ.of2 (Rp.ev ev _ _ oj)
      | tup _ => exact RpZ.of2 (Rp.ev ev _ _ oj)
      | ro _ => exact RpZ.of2 (Rp.ev ev _ _ oj)
      | dic ks es =>
       unfold Ow at oj
       obtain ⟨b, ws, x1, x2, x3, x4, x5⟩ := oj
       exact ⟨b, ws, x1, E1.dic x3 fun z => z, RpL.of x4 fun m d v q1 q2 => Rp.ev ev d v (x5 m d v q1 q2)⟩
      | obj kq es =>
       unfold Ow at oj
       obtain ⟨b, ws, x1, x2, x3, x4, x5⟩ := oj
       exact ⟨b, ws, x1, E1.obj b kq es ws x3.1 (.inl fun z => z), RpL.of x4 fun m d v q1 q2 => Rp.ev ev d v (x5 m d v q1 q2)⟩
   | non => exact h.elim
   | bool _ => exact h.elim
   | str _ => exact h.elim
   | tup _ => exact h.elim
   | lst _ => exact h.elim
   | ro _ => exact h.elim
   | dic _ _ => exact h.elim
   | obj _ _ => exact h.elim
 ·exact h.elim
theorem kRS {r : V → List V → Hp → VK → Prop} {FM : List D → List D → Option (D × List D)} (slot : Slot "list" nm id) (hty : typeOf (.builtin id) = pure (.type "method_descriptor")) (hm : MtR X id r) (f : MF W r FM) (pv : PE X (.Name x px) (tVar i)) (hk : DE W X Wx O kx mk zk pk) (ha : DAr W X Wx0 O (e :: es) ms 2 p)
  (o : O.getD i 0 = 2 := by rfl) (hi0 : i ≠ 0 ∨ p = true := by first | exact .inr rfl | exact .inl (by decide)) (il : i < O.length := by decide) (hl : O.length ≤ tmp := by decide) (hs2 : PlainIx kx := by exact fun _ _ => rfl)
  (hbase : attributeBase (.Subscript (.Name x px) kx pos) nm X.env (eval (.Subscript (.Name x px) kx pos) X.env) = eval (.Subscript (.Name x px) kx pos) X.env := by rfl)
  (hfew : ((backTo cpos (starEach (e :: es) X.env)).all (fun x => !x.1) && (backToKw cpos (keywordEach [] X.env)).all (fun x => x.1.isSome)
   && decide ((e :: es).length + ([] : List Keyword).length + (if ([] : List Keyword).isEmpty then 0 else 1) < 30)) = true := by rfl)
  (hline : (apos.endLine == cpos.line) = true := by rfl) (hs : starEach (e :: es) X.env = (false, eval e X.env) :: starEach es X.env := by rfl) (hplain : (backTo cpos (starEach es X.env)).any (·.1) = false := by rfl) :
  DE W X Wx O (.Call (.Attribute (.Subscript (.Name x px) kx pos) nm apos) (e :: es) [] cpos) (kGx i mk FM ms) 2 false := by
 obtain ⟨k, _, t, pa, s⟩ := ha
 obtain ⟨_, tk, pk, sk⟩ := hk
 exact ⟨k, _, pe_bm PySem.F.plainAttrs_list slot hty hm (pe_ix ix_list pv pk hs2) pa hbase hfew hline hs hplain, fun G L env σ H Q R h => kLD f k sk s o hi0 il hl R h⟩
theorem kMp {r : V → List V → Hp → VK → Prop} {FM : List D → List D → Option (D × List D)} (slot : Slot "list" nm id) (hty : typeOf (.builtin id) = pure (.type "method_descriptor")) (hm : MtR X id r) (f : MF W r FM) (pv : PE X (.Name x px) (tVar i)) (hk : DE W X Wx O kx mk zk pk)
  (o : O.getD i 0 = 2 := by rfl) (il : i < O.length := by decide) (hl : O.length ≤ tmp := by decide) (hs2 : PlainIx kx := by exact fun _ _ => rfl)
  (hbase : attributeBase (.Subscript (.Name x px) kx pos) nm X.env (eval (.Subscript (.Name x px) kx pos) X.env) = eval (.Subscript (.Name x px) kx pos) X.env := by rfl)
  (hline : (apos.endLine == cpos.line) = true := by rfl) :
  DE W X Wx O (.Call (.Attribute (.Subscript (.Name x px) kx pos) nm apos) [] [] cpos) (kGx i mk FM dNil) 2 false := by
 obtain ⟨k, tk, pk, sk⟩ := hk
 refine ⟨k, _, pe_bm0 PySem.F.plainAttrs_list slot hty hm (pe_ix ix_list pv pk hs2) hbase hline, fun G L env σ H Q R h => ?_⟩
 have h2 := kLD (t := fun σ H Q => Q [] H) (p := true) (ms := dNil) f k sk (fun G L env σ H Q R h => h [] H R Ev.refl (fun _ => rfl) ⟨rfl, fun i d v a1 _ => by simp at a1⟩) o (.inr rfl) il hl R h
 exact h2
def kLh (i : Nat) (m2 m1 : M D) : MS := fun env => match env[i]? with
 | some (some (.lst _)) => (match m2 env with
  | .ok d e1 => (match m1 e1 with
   | .ok (.int k) e2 => (match e2[i]? with
    | some (some (.lst ds)) => (match ixN ds.length k with
     | some j => if d.hot = true then .bad else .nx (e2.set i (some (.lst (ds.set j d))))
     | none => .bad)
    | _ => .bad)
   | .exc c a e => .exc c a e
   | _ => .bad)
  | .exc c a e => .exc c a e
  | .bad => .bad)
 | _ => .bad
theorem kQl {z1 : Nat} {p1 : Bool} {e1 e2 : Expr} {m1 : M D} (h2 : DE W X Wx O e2 m2 2 p) (pv : PE X (.Name x px) (tVar i)) (h1 : DE W X Wx O e1 m1 z1 p1)
  (o : O.getD i 0 = 2 := by rfl) (hi : i < tmp := by decide) (cx : kDe O F.ox = true := by decide)
  (ha : ∀ v, assign (.Subscript (.Name x px) e1 pos) X.env v = (do
   let ov ← holding [v] (eval (.Name x px) X.env)
   let iv ← holding [v, ov] (eval e1 X.env)
   standAt pos
   holding [v, ov, iv] (setItem ov iv v)
   release [v, ov, iv] []) := by intro _; rfl)
  (hs : swapsWithSole [.Subscript (.Name x px) e1 pos] e2 spos.line X.env = pure false := by rfl) (hw : swappedStores [.Subscript (.Name x px) e1 pos] e2 X.env = pure none := by rfl)
  (hh : (assignEach [.Subscript (.Name x px) e1 pos] X.env).map (·.2) = [assign (.Subscript (.Name x px) e1 pos) X.env] := by rfl) :
  DS W X Wx F O (.Assign [.Subscript (.Name x px) e1 pos] e2 spos) (kLh i m2 m1) O := by
 obtain ⟨k, t2, p2, s2⟩ := h2
 obtain ⟨_, t1, p1', s1⟩ := h1
 refine ⟨k, _, ps_asg p2 (pg_sub pv p1' set_list ha) hs hw hh, fun G L env σ H Dn g R h => s2 G L env σ H _ R ?_⟩
 unfold kLh at h
 split at h
 ·rename_i ds0 ez
  cases q : m2 env with
  | bad => rw [q] at h; exact h.elim
  | exc c a e =>
   rw [q] at h
   exact kCK (z := 0) (p := true) (env := env) (fun hn => (g hn).2.1) cx h
  | ok d ea =>
   rw [q] at h
   have h : kDq W G F Wx O L H Dn (match m1 ea with
    | .ok (.int k) e2 => (match e2[i]? with
     | some (some (.lst ds)) => (match ixN ds.length k with
      | some j => if d.hot = true then .bad else .nx (e2.set i (some (.lst (ds.set j d))))
      | none => .bad)
     | _ => .bad)
    | .exc c a e => .exc c a e
    | _ => .bad) := h
   intro v H1 R1 E1 P1 Z1
   obtain ⟨a0, vs0, s0, l0, h0, _⟩ := R.top ez o
   refine ⟨.ref a0, s0, s1 G L ea σ H1 _ R1 ?_⟩
   cases q1 : m1 ea with
   | bad => rw [q1] at h; exact h.elim
   | exc c a e =>
    rw [q1] at h
    exact kCK (z := 0) (p := true) (env := env) (fun hn => (g hn).2.1) cx h
   | ok di eb =>
    rw [q1] at h
    cases di with
    | int k =>
     have h : kDq W G F Wx O L H Dn (match eb[i]? with
      | some (some (.lst ds)) => (match ixN ds.length k with
       | some j => if d.hot = true then .bad else .nx (eb.set i (some (.lst (ds.set j d))))
       | none => .bad)
      | _ => .bad) := h
     intro iv H2 R2 E2 P2 Z2
     have iv' := kDh Z2
     subst iv'
     split at h
     ·rename_i ds ed
      obtain ⟨a, vs1, sA, l1, h2, h3, h4, h5⟩ := R2.top ed o
      rw [s0] at sA
      cases sA
      cases qj : ixN ds.length k with
      | none => rw [qj] at h; exact h.elim
      | some j =>
       rw [qj] at h
       have h : kDq W G F Wx O L H Dn (if d.hot = true then .bad else .nx (eb.set i (some (.lst (ds.set j d))))) := h
       by_cases nd : d.hot = true
       ·rw [if_pos nd] at h
        exact h.elim
       ·rw [if_neg nd] at h
        have rv : Rp W (Zo L) H2 d v := Rp.ev (E2.mono fun _ z _ => z.sub) d v (kFN Z1)
        refine ⟨a0, vs1, k, j, rfl, rfl, h2, by rw [← h3]; exact qj, ?_⟩
        have evA : Ev W (fun b => b = a0) H2 (upd H2 a0 (.lst (vs1.set j v))) := Ev.put h2 rfl
        refine h _ _ L (R2.mutn ed o s0 l1 h2 (fun m d' v' a1 a2 => ?_) (by rw [gH6, gH6]; exact h3) (by rw [gH6]; exact h4)) fun _ => ⟨((E1.mono fun a z _ => z.sub).trans (E2.mono fun a z _ => z.sub)).trans (evA.mono fun b z _ w => by rw [z, l1] at w; cases w), fun _ z => .inl z⟩
        by_cases e : j = m
        ·subst e
         have hj : j < ds.length := by
          have := (gF8.mp a1).1
          simpa using this
         rw [gI3 hj] at a1
         rw [gI3 (by rw [← h3]; exact hj)] at a2
         cases a1
         cases a2
         exact Ow.flat0 (q := []) rv (.inr (by simpa using nd))
        ·rw [gH4 e] at a1 a2
         exact h5 m d' v' a1 a2
     ·exact h.elim
    | non => exact h.elim
    | bool _ => exact h.elim
    | str _ => exact h.elim
    | tup _ => exact h.elim
    | lst _ => exact h.elim
    | ro _ => exact h.elim
    | dic _ _ => exact h.elim
    | obj _ _ => exact h.elim
 ·exact h.elim
end
end DL
namespace DL
open PySem PySem.Spec PyProof.Rows L2 PySem.W
def kSr (K : PySem.W.Frag) : List V → Hp → VK → Prop := fun xs H Q => ∃ (a : Addr) (ps : List (D × V)), xs = [.ref a] ∧ SqT K H a (ps.map (·.2)) ∧ (∀ p ∈ ps, Dp K H p.2 p.1.py) ∧ kLk (ps.map pyP) ∧ (∀ p ∈ ps, p.1.py.depth ≤ 64) ∧
 ∀ l, H l = none → Q (.ref l) (upd H l (.lst ((ps.mergeSort (dataLe false pyP)).map (·.2))))
theorem kRW {X : Cx} (hu : X.A.units + 70 < cLine) : CallR X (.builtin "sorted") (kSr X.K) := by
 intro pins s σ H xs us Q I r h
 obtain ⟨a, ps, rfl, hs, hd, ho, hz, q⟩ := h
 obtain ⟨its, rv, ⟨o, o1, o2, n, o3⟩, sz⟩ := I.tuple hs
 rw [Vals.ref1 r]
 obtain ⟨e1, e2⟩ := kJw I rv hd
 rw [gF0] at sz
 have lvs : its.length = ps.length := e1.length
 have szv : its.length ≤ sizeLine := by omega
 refine Calls.call_function_entry kind_sorted plain_sorted entry_sorted (args_sorted1 _) ?_
 unfold Builtin.«sorted»
 refine wpAny_bind (m := checkCount "sorted" 1 1 _) (wpAny_pure ?_)
 refine wpAny_bind (wpAny_collect_seq a (.inr rfl) o1 o2 o3 (fun h1 k1 => ?_) (by rw [List.size_toArray]; exact szv))
 refine wpAny_bind (wpAny_newList ?_ szv)
 have hoL : (h1.push (seqObj "list" its.toArray 0)).get? h1.objs.size = some (seqObj "list" its.toArray 0) := Heap.get?_push_size _ rfl
 have keepS : ∀ b o, s.heap.get? b = some o → (sortingHeap (h1.push (seqObj "list" its.toArray 0)) h1.objs.size its).get? b = some o := fun b o z =>
  sortingHeap_old (Nat.ne_of_lt (Heap.lt_size (k1 b o z))) (Heap.get?_push_of_some _ (k1 b o z))
 have er : EachIs (fun (u : Value) (p : D × V) => ∃ as, Reads (sortingHeap (h1.push (seqObj "list" its.toArray 0)) h1.objs.size its) u (pyP p) as) its ps := e2.mono fun _ _ z => by
  obtain ⟨as, rr⟩ := z
  exact ⟨as, PyProof.Rows.Reads.keeps keepS rr⟩
 refine wpAny_bind (wpAny_holding (wpAny_call_entry slot_list_sort ⟨_, hoL, rfl⟩ entry_list_sort (list_sort_vals (s := { s with heap := h1.push (seqObj "list" its.toArray 0) }) (κ := dataKind (sortingHeap (h1.push (seqObj "list" its.toArray 0)) h1.objs.size its) (ps.map pyP)) hoL
  (kKs (s := { s with heap := sortingHeap (h1.push (seqObj "list" its.toArray 0)) h1.objs.size its }) (ds := ps.map pyP) (each_map (R := fun v d => ∃ as, Reads (sortingHeap (h1.push (seqObj "list" its.toArray 0)) h1.objs.size its) v d as) pyP er) ho
   (bound_map fun p hp => by have : (pyP p).depth ≤ 64 := hz p hp; show X.A.units + 1 + 1 + (pyP p).depth < cLine; omega)) szv ⟨.none, rfl, ?_⟩) (args_list_sort _)))
 have eo := sortVals_data (h' := sortingHeap (h1.push (seqObj "list" its.toArray 0)) h1.objs.size its) (enc := pyP) false e1 er ho.1
 generalize hout : sortVals (dataKind (sortingHeap (h1.push (seqObj "list" its.toArray 0)) h1.objs.size its) (ps.map pyP)) false its its = out at eo
 obtain ⟨c, hc'⟩ := sortedHeap_at (vs := its) (out := out.toArray) hoL
 have kp : ∀ b o, s.heap.get? b = some o → (sortedHeap (h1.push (seqObj "list" its.toArray 0)) h1.objs.size its out.toArray).get? b = some o := fun b o z => by
  have z1 := k1 b o z
  have lt := Heap.lt_size z1
  rw [sortedHeap_old (Nat.ne_of_lt lt) (by rw [size_push']; exact Nat.lt_succ_of_lt lt)]
  exact Heap.get?_push_of_some _ z1
 have hv : Vals ((ps.mergeSort (dataLe false pyP)).map (·.2)) out := kHp eo
 have hlen : ((ps.mergeSort (dataLe false pyP)).map (·.2)).length ≤ sizeLine := by rw [gF0, List.length_mergeSort]; omega
 have hg0 : s.heap.get? h1.objs.size = none := by
  cases q : s.heap.get? h1.objs.size with
  | none => rfl
  | some o => exact absurd (Heap.lt_size (k1 _ o q)) (Nat.lt_irrefl _)
 have hn : H h1.objs.size = none := I.hok.gone hg0
 have J : Inv X pins σ (upd H h1.objs.size (.lst ((ps.mergeSort (dataLe false pyP)).map (·.2)))) { s with heap := sortedHeap (h1.push (seqObj "list" its.toArray 0)) h1.objs.size its out.toArray } :=
  I.call (ch := []) (Un.laidN kp hg0 hn) (HOk.laidN I.hok kp hn ⟨hlen, out, c, hv, hc'⟩) I.bare (fun _ z => nomatch z)
 exact wpAny_pure ⟨_, rfl, ⟨.ref _, _, J, rfl, q _ hn⟩⟩
def kDt : List D → Option D := fun args => match args with
 | [.tup ds] => if kBM ds = true then some (.lst (kDk ds)) else none
 | xs => kNl xs
def kSs (K : PySem.W.Frag) : List V → Hp → VK → Prop := fun xs H Q => kNL K xs H Q ∨ kSr K xs H Q
theorem kLi {X : Cx} (hu : X.A.units + 70 < cLine) : CallR X (.builtin "sorted") (kSs X.K) := by
 intro pins s σ H xs us Q I r h
 rcases h with h | h
 ·exact kRX hu pins s σ H xs us Q I r h
 ·exact kRW hu pins s σ H xs us Q I r h
theorem kHo {W : Wd} {X : Cx} (k : X.K = W.K) : CFO W 1 (kSs X.K) kDt := by
 intro L H ds vs d Q A hf dom hq
 by_cases ht : ∃ xs, ds = [.tup xs]
 ·obtain ⟨xs, rfl⟩ := ht
  obtain ⟨v, rfl, rv⟩ := kFH A
  obtain ⟨a, us, rfl, h1, sz, r⟩ := kIx rv
  have hf : (if kBM xs = true then some (D.lst (kDk xs)) else none) = some d := hf
  by_cases ok : kBM xs = true
  ·rw [if_pos ok] at hf
   cases hf
   obtain ⟨o1, o2, o3⟩ := kKu ok
   have ln := r.length
   have rz := kMV r
   have mem1 : ∀ p ∈ xs.zip us, p.1 ∈ xs := fun p hp => (List.of_mem_zip hp).1
   refine .inr ⟨a, xs.zip us, rfl, by rw [kMB ln, k]; exact h1, fun p hp => ?_, ?_, fun p hp => o3 _ (mem1 p hp), fun l nl => hq _ _ (.inl ⟨l, _, _, rfl, rfl, nl, rfl, ?_, ?_⟩)⟩
   ·rw [k]
    exact Rp.dp p.1 p.2 (o1 _ (mem1 p hp)) (rz p hp)
   ·have : (xs.zip us).map pyP = xs.map D.py := by
     rw [← kFO ln, gH3, kFO ln]
     rfl
    rw [this]
    exact o2
   ·have e : kDk xs = ((xs.zip us).mergeSort (dataLe false pyP)).map (·.1) := by
     have t := List.map_mergeSort (r := dataLe false pyP) (s := dataLe false D.py) (f := Prod.fst) (l := xs.zip us) (fun _ _ _ _ => rfl)
     unfold kDk
     rw [← kFO ln, ← t, kFO ln]
    rw [e]
    exact kHq fun p hp => rz p (List.mem_mergeSort.mp hp)
   ·rw [gF0, List.length_mergeSort, List.length_zip]
    omega
  ·rw [if_neg ok] at hf
   cases hf
 ·have hf : kNl ds = some d := by
   unfold kDt at hf
   split at hf
   ·exact (ht ⟨_, rfl⟩).elim
   ·exact hf
  exact .inl (kOQ k L H ds vs d Q A hf dom hq)
end DL
namespace DL
open PySem PySem.Spec PySem.W PySem.Calls PyProof.Rows L2
structure IniC (K : Frag) (C fI cc cd : Addr) (fd : FuncData) (ar : Arg) (file : Str) : Prop where
 oex : OexC K C
 fn : ∃ oc od osl, K.lookup fI = some ⟨oc, od, .func fd, osl⟩
 par : (fd.params.posonlyargs ++ fd.params.args).head? = some ar
 code : ∃ ccl cdd vs ccs tf, K.lookup cd = some ⟨ccl, cdd, .fields vs, ccs⟩ ∧ vs[2]? = some (.str file tf)
 cell : ∃ cl cld csl, K.lookup cc = some ⟨cl, cld, .cell (some (.ref C)), csl⟩
 sup : ks_superIn K C C "__init__" = some (some (.builtin "ValueError.__init__"))
 subC : mroIn K C (.ref C) = some true
 subV : subIn K (.ref C) (.type "ValueError") = some true
 any : nsIn K cStatics "thirdparty.any" = some none
 supg : nsIn K mainGlobals "super" = some none
section
variable {X : Cx} {pins : List (Addr × Obj)} {σ : L2.St} {H : Hp} {s : Shared} {a C fI cc cd : Addr} {fd : FuncData} {ar : Arg} {file txt : Str} {body : List Stmt} {p0 p1 p2 p3 p4 : Pos} {jj : Nat} {i : Nat} {pl : Sem Bool}
theorem kTs {u : Addr} {us : List Value} {p : Pos} {Q : Value → Shared → Prop} (T : OexC X.K C) (I : Inv X ((u, kxs_mw "ValueError.__init__" a) :: pins) σ H s) (e : H a = some (exo a C none)) (hl : us.length ≤ sizeLine) (h : ∀ s', Inv X ((u, kxs_mw "ValueError.__init__" a) :: pins) σ H s' → Q .none s') {E : Value → Shared → Prop} {A : Around} :
  wpAny (model X.prog X.w) A (call (.ref u) us) Q E s := by
 obtain ⟨nm, q, N, bs, bm, sn, sub, ab, col, dd, k0, k1, k2, k3, k5, hC, hbm⟩ := T.cls
 obtain ⟨t1, ho⟩ := exo_at I.hok e
 have hu := ClX.pin_at I
 obtain ⟨hp, g, d, t, os⟩ := s
 refine wpAny_call (codeAny_of_tree ?_)
 show wpAny _ A.in1 (callAny (.ref u) ⟨us, []⟩) _ _ _
 simp only [callAny]
 refine wpAny_bind (wpAny_load hu ?_)
 simp only [kxs_mw, show (Value.type "method-wrapper" == Value.type "method" || Value.type "method-wrapper" == Value.type "builtin_function_or_method" || Value.type "method-wrapper" == Value.type "method-wrapper") = true by decide, if_true]
 refine KFB.if_so (by decide) ?_
 refine wpAny_bind (check_bound_init F.excBase_ValueError.toExcCallFacts (I.kIn _ _ hC) ho rfl ?_)
 refine wpAny_bind (wpAny_pure (wpAny_pure ?_))
 refine ⟨plainId_quiet F.excBase_ValueError.init.plain _, codeAny_builtin F.excBase_ValueError.initEntry ?_⟩
 refine exc_init_tree (cls := .ref C) (t0 := t1) (dv := none) (c2 := .none) (c3 := .none) (b4 := .bool false) ho hl fun h' k hx ht => ?_
 have J := I.write (t' := t) (x := a) (e := a) (o := exo a C none) (by rw [e]; exact True.intro) (.inl rfl) k ⟨_, hx⟩ (exo_ok hx)
 have eu : upd H a (exo a C none) = H := by
  funext b
  by_cases hb : b = a
  ·rw [hb, upd_same, e]
  ·rw [upd_ne hb]
 rw [eu] at J
 exact h _ J
theorem kQZ {ce : Expr} {es : List Expr} {ta : TA} (T : IniC X.K C fI cc cd fd ar file) (I : Inv X pins σ H s) (e : H a = some (exo a C none)) (hks : X.env.kindOf "super" = some .globalImplicit) (hkc : X.env.kindOf "__class__" = some .free) (hka : X.env.kindOf ar.arg = some .local)
  (hfu : X.env.func = some fI) (hco : X.env.code = .ref cd) (hcl : X.env.cells.lookup ("__class__" : Str) = some cc) (hself : X.N[i]? = some ar.arg) (hσ : σ[i]? = some (some (.ref a)))
  (hfile : ((X.prog.main.file : Str) == file) = true) (htop : (X.prog.main.scope.names.lookup ("super" : Str)).isSome = false) (hpa : PA X (ce :: es) ta) (hta : ta σ H fun vs H1 => H1 = H ∧ vs.length ≤ 1000)
  (he : eval (.Call (.Attribute (.Call (.Name "super" p0) [] [] p1) "__init__" p2) (ce :: es) [] p4) X.env = (do
   let ov ← attributeBase (.Call (.Name "super" p0) [] [] p1) "__init__" X.env (eval (.Call (.Name "super" p0) [] [] p1) X.env)
   standAt p2.atName
   let (f, first) ← holding [ov] (getMethod ov "__init__" pl)
   callWith p4 f first (backTo p4 (starEach (ce :: es) X.env)) []) := by rfl)
  (hst : starEach (ce :: es) X.env = (false, eval ce X.env) :: starEach es X.env := by rfl) (hpl : (backTo p4 (starEach es X.env)).any (·.1) = false := by rfl) :
  PySem.wpAt (model X.prog X.w) X.A (.func body X.env) (eval (.Call (.Attribute (.Call (.Name "super" p0) [] [] p1) "__init__" p2) (ce :: es) [] p4) X.env) (fun _ s' => Inv X pins σ H s') X.xe s := by
 refine ks_wpAt_MethodCall ?_ he
 obtain ⟨oc, od, osl, hfn⟩ := T.fn
 obtain ⟨ccl, cdd, vs, ccs, tf, hcd, hvs⟩ := T.code
 obtain ⟨cl, cld, csl, hcell⟩ := T.cell
 obtain ⟨nm, q, N, bs, bm, sn, sub, ab, col, dd, k0, k1, k2, k3, k5, hC, hbm⟩ := T.oex.cls
 obtain ⟨m, hn, hlook⟩ := I.loc
 obtain ⟨uself, rself, hl0⟩ := hlook i ar.arg _ hself hσ (.inl hka)
 obtain rfl : uself = Value.ref a := rself
 have hl : m ar.arg = some (.ref a) := by
  rcases hl0 with ⟨_, z⟩ | ⟨z, _⟩
  ·exact z
  ·rcases z with z | z
   ·rw [hka] at z; cases z
   ·rw [hka] at z; cases z
 have KX := I.kIn
 obtain ⟨t1, ho⟩ := exo_at I.hok e
 obtain ⟨mb, hb1, hb2⟩ := I.mod.blt
 obtain ⟨hh, g, d, t, os⟩ := s
 have hD1 := KX _ _ hC
 have hD2 : ∃ cdD, (excClassObj nm q C N bs bm true sn sub ab col dd k0 k1 k2 k3 k5 "ValueError.__new__").data = .cls cdD := ⟨_, rfl⟩
 obtain ⟨cdD, hD2⟩ := hD2
 have hcls : clsIn X.K C = some cdD := by
  unfold clsIn
  rw [hC]
  show some _ = some cdD
  have hD3 : some (excClassObj nm q C N bs bm true sn sub ab col dd k0 k1 k2 k3 k5 "ValueError.__new__").data = some (.cls cdD) := congrArg some hD2
  injection hD3 with hD4
  injection hD4 with hD5
  rw [← hD5]
 refine ks_wpAt_super_base hks hkc rfl hfu (KX _ _ hfn) rfl T.par hco (KX _ _ hcd) rfl hvs hfile htop ?_
 refine ks_loadName_global I.ok.kind hks (loadGlobal_builtin (by rw [I.ok.glob]; exact I.mod.glob.keeps I.bk) (mg_none_of I.mod.kin I.mod.glob T.supg) (by rw [I.ok.blt]; exact hb1.keeps I.bk) ((hb2 _ (by decide)).trans Boot.«super») ⟨rfl, ?_⟩)
 refine wpAny_loadName_free I.ok.kind hkc hcl ⟨_, KX _ _ hcell, rfl⟩ ?_
 refine wpAny_loadName_local I.ok.kind hka hn hl ?_
 refine ks_wpAny_isType_cls hD1 hD2 ⟨rfl, ?_⟩
 refine ks_wpAny_call_super hD1 hD2 ho rfl (fun c z => nomatch z) (looks_mroIn KX T.subC) (fun h' eS k => ?_)
 have IS := ClX.pin_new (t' := t) I k (Nat.le_refl _) eS (fun v z => nomatch z)
 have hI : PySem.W.InstAt h' a { cls := .ref C, dict := none, data := .fields #[.ref t1, .none, .none, .none, .bool false, .none] } C none := ⟨k _ _ ho, rfl, rfl, True.intro⟩
 have KX' := IS.kIn
 have hsup := T.sup
 unfold ks_superIn at hsup
 rw [hcls] at hsup
 refine kxs_getMethod kxs_ValueError eS (looks_opaque KX' T.any) (l₀ := cdD.mro) (fun A Q E s k q => wpAny_bind ((looks_clsIn KX' hcls) A _ E s k (wpAny_pure q))) rfl KX' hsup (hI.type.andThen (looks_subIn KX' T.subV)) (ks_ne KX' hI hcls) (by decide) ?_
 have IM := ClX.pin_new (t' := t + 1) (o := kxs_mw "ValueError.__init__" a) (h' := h'.push (kxs_mw "ValueError.__init__" a)) (ClX.unpin IS) (fun _ _ z => Heap.get?_push_of_some _ z) (Nat.le_refl _) (Heap.get?_push_size h' rfl) (fun v z => nomatch z)
 rw [hst]
 refine kxs_callWith (i := "ValueError.__init__") (x := a) (by show (false || (backTo p4 (starEach es X.env)).any (·.1)) = false; rw [hpl]; rfl) (evalArgs_plain ?_)
 have run := hpa.run p4 _ _ σ H _ IM hta
 rw [hst] at run
 refine thn run fun us s1 ⟨vs, H1, I1, r1, eH, hz⟩ => ?_
 subst eH
 refine ⟨ClX.pin_at I1, ?_⟩
 refine kTs (p := p4) T.oex I1 e (by show us.length ≤ sizeLine; rw [← Paired.length r1, sizeLine_eq]; omega) fun s' J => ClX.unpin J
end
theorem lk1 {β : Type} (n : Str) (c : β) : List.lookup n [(n, c)] = some c := by simp [List.lookup]
def cxI (P : Program) (w : World) (K : Frag) (mg : Str → Option Value) (base : Heap) (N : List Str) (qual : Str) (scope : Scope) (f cc cd : Addr) (A : Around) (outer : List Env) (s : Shared) (H : Hp) (E : XK) : Cx :=
 NdefX.ncx (L2.CX P w) P w K mg base N ⟨"__init__", qual, ⟨[], [], none, [], [], none, []⟩, [], scope, [("__class__", cc)], cd⟩ f A outer s H E
def spI (C : Addr) : Sp := fun vs H Q _ => ∃ (a : Addr) (v : V), vs = [.ref a, v] ∧ H a = some (exo a C none) ∧ ∀ dx, H dx = none → dx ≠ a → Q .non (upd (upd H dx (exd dx [("at", v)])) a (exo a C (some dx)))
section
variable {P : Program} {w : World} {K : Frag} {mg : Str → Option Value} {base : Heap} {C fI cc cd : Addr} {ar : Arg} {file txt : Str} {p0 p1 p2 p3 p4 p5 q0 q1 q2 q3 : Pos} {jj k : Nat} {N ps : List Str} {qual : Str} {params : Arguments} {scope : Scope} {dV kV doc pm ct : Value} {an : Option Addr} {rest : List Stmt} {sp : Sp}
theorem kRw {env : Env} {o : Expr} {name : Str} {apos pos : Pos} {x : Sem Value} (hp : (apos.endLine == pos.line) = true) :
  (do
   let ov ← attributeBase o name env (eval o env)
   standAt apos.atName
   methodCall o name apos pos env ov 1 [(false, x)] []) = (do
   let ov ← attributeBase o name env (eval o env)
   standAt apos.atName
   let (f, first) ← holding [ov] (getMethod ov name (do return (← importBound o env).getD true))
   callWith pos f first [(false, x)] []) := by
 have q : ∀ ov, methodCall o name apos pos env ov 1 [(false, x)] [] = (do
   let (f, first) ← holding [ov] (getMethod ov name (do return (← importBound o env).getD true))
   callWith pos f first [(false, x)] []) := by
  intro ov
  unfold methodCall methodCallPos
  rw [hp, Bool.or_true, if_pos rfl]
  rfl
 rw [show methodCall o name apos pos env = fun ov n a k => methodCall o name apos pos env ov n a k from rfl]
 simp only [q]
theorem kRG (T : IniC K C fI cc cd (fnX "__init__" qual params (.Expr (.Call (.Attribute (.Call (.Name "super" p0) [] [] p1) "__init__" p2) [.Constant (.str txt) jj p3] [] p4) p5 :: rest) scope [("__class__", cc)] dV kV doc pm an (.ref cd) ct) ar file)
  (S : NdefX.NScope N ps ["__class__"] scope) (h0 : ps[0]? = some ar.arg) (hks : scope.names.lookup ("super" : Str) = some .globalImplicit) (hcd : codeIn K (.ref cd) qual = true) (hpp : (p2.endLine == p4.line) = true)
  (hfile : ((P.main.file : Str) == file) = true) (htop : (P.main.scope.names.lookup ("super" : Str)).isSome = false) (size : ∀ vs H Q E, sp vs H Q E → vs.length = ps.length)
  (self : ∀ vs H Q E, sp vs H Q E → ∃ a, vs[0]? = some (.ref a) ∧ H a = some (exo a C none))
  (run : ∀ (A : Around) (outer : List Env) (s : Shared) (H : Hp) (vs : List V) (Q : VK) (E : XK), sp vs H Q E → ∃ t, PSs (cxI P w K mg base N qual scope fI cc cd A outer s H E) rest t ∧ t { nx := fun _ H' => Q .non H', rt := Q } (NdefX.startF N vs [none]) H) :
  FnOk P w K mg base (L2.CX P w) (k + 1) fI (fnX "__init__" qual params (.Expr (.Call (.Attribute (.Call (.Name "super" p0) [] [] p1) "__init__" p2) [.Constant (.str txt) jj p3] [] p4) p5 :: rest) scope [("__class__", cc)] dV kV doc pm an (.ref cd) ct) ps sp := by
 refine ⟨size, fun A outer s H args us vs Q E hr e0 hb r hsp => ?_⟩
 obtain ⟨oc, od, osl, hfn⟩ := T.fn
 obtain ⟨cl, cld, csl, hcell⟩ := T.cell
 have inK : K.In s.heap := e0.mod.kin.keeps (fun b o z => (e0.bs b o z).1)
 have lim : s.heap.NoLimit := e0.mod.nolimit.keeps fun b o e => (e0.bs b o e).1
 have hl := size _ _ _ _ hsp
 obtain ⟨t, ht, hq⟩ := run A outer s H vs Q E hsp
 obtain ⟨a, hva, hea⟩ := self _ _ _ _ hsp
 have CA : NdefX.CellsAt [("__class__", cc)] ["__class__"] [none] s.heap H := by
  have key : ∀ y c, List.lookup y [(("__class__" : Str), cc)] = some c → y = "__class__" ∧ c = cc := fun y c e => by
   have m := PySem.mem_of_lookup e
   simp only [gG4, Prod.mk.injEq] at m
   exact m
  refine ⟨rfl, fun y c e => ?_, fun x y c e1 e2 => ?_, fun i y e => ?_⟩
  ·obtain ⟨_, rfl⟩ := key y c e
   exact ⟨(e0.bs _ _ (e0.mod.kin _ _ hcell)).2, _, ⟨_, inK _ _ hcell, rfl⟩⟩
  ·rw [(key x c e1).1, (key y c e2).1]
  ·have m := gH9 e
   rw [gG4] at m
   subst m
   refine ⟨cc, lk1 _ _, fun v z => ?_⟩
   cases i with
   | zero => cases z
   | succ i => simp at z
 refine ks_codeAny_call_defAt (binds := ps.zip us) hr.depth (inK _ _ hfn) rfl lim (codeRec_of inK hcd) rfl hb S.nocell (fun ⟨n, _⟩ hy => S.par n (List.of_mem_zip hy).1) (fun h₁ hns kp => ?_) S.co S.gen S.kind
 have I : Inv (cxI P w K mg base N qual scope fI cc cd A outer s H E) [] (NdefX.startF N vs [none]) H { s with heap := h₁, toks := s.toks + (ps.zip us).length } := NdefX.inv_startN S hr.hd e0 hl r CA hns kp
 have hN : N[0]? = some ar.arg := by
  have q := congrArg (fun l => l[0]?) S.pre
  have hp : 0 < ps.length := (gF8.mp h0).1
  simp only [List.getElem?_take] at q
  rw [if_pos (by omega), gH8 hp, h0] at q
  exact q
 have hσ : (NdefX.startF N vs [none])[0]? = some (some (.ref a)) := by
  unfold NdefX.startF
  have hv : 0 < vs.length := (gF8.mp hva).1
  rw [gH8 (by simpa using hv), gI0, hva]
  rfl
 have hint : interactive (callEnv (fnX "__init__" qual params (.Expr (.Call (.Attribute (.Call (.Name "super" p0) [] [] p1) "__init__" p2) [.Constant (.str txt) jj p3] [] p4) p5 :: rest) scope [("__class__", cc)] dV kV doc pm an (.ref cd) ct) s.heap.objs.size fI) = false := by
  show ((scope.kind == .module) && _) = false
  rw [S.kind]
  rfl
 have hka : scope.names.lookup ar.arg = some .local := S.par _ (gH9 h0)
 have hkc : scope.names.lookup ("__class__" : Str) = some .free := S.frk _ (by simp)
 have fin : ∀ {σ' : L2.St} {H' : Hp} {v : V} {u : Value} {s' : Shared}, Inv (cxI P w K mg base N qual scope fI cc cd A outer s H E) [] σ' H' s' → L2.RelV v u → Q v H' → CE outer P w H s Q u s' :=
  fun {σ' H' v u s'} J rv q => ⟨v, H', J.os, J.bare, J.base, J.hok, rv, q⟩
 refine ks_wpAt_execs_cons (ks_wpAt_Expr_any ?_ (hi := hint))
 have SI := kQZ (X := cxI P w K mg base N qual scope fI cc cd A outer s H E) (i := 0) (p0 := p0) (p1 := p1) (p2 := p2) (p4 := p4) (body := .Expr (.Call (.Attribute (.Call (.Name "super" p0) [] [] p1) "__init__" p2) [.Constant (.str txt) jj p3] [] p4) p5 :: rest) T I hea hks hkc hka rfl rfl (lk1 _ _) hN hσ hfile htop (pa_cons (pe_str (x := txt) (j := jj) (pos := p3)) pa_nil) ⟨rfl, by show 1 ≤ 1000; omega⟩ (kRw hpp)
 refine ks_wpAt_mono SI (fun _ s' J => ?_) fun _ _ z => z
 refine wpAt_of_wpAny (wpAny_mono (ht.run [] s' _ H _ J hq) (fun fl s' hs => ?_) fun _ _ hs => hs)
 cases fl with
 | ret u =>
  obtain ⟨v, σ', H', J, rv, q⟩ := hs
  exact fin J rv q
 | next =>
  obtain ⟨σ', H', J, q⟩ := hs
  exact fin (v := V.non) (u := Value.none) J rfl q
 | brk =>
  obtain ⟨_, _, _, q⟩ := hs
  exact False.elim q
 | cont =>
  obtain ⟨_, _, _, q⟩ := hs
  exact False.elim q
end
section
variable {P : Program} {w : World} {K : Frag} {mg : Str → Option Value} {base : Heap} {C fI cc cd : Addr} {ar : Arg} {file txt : Str} {p0 p1 p2 p3 p4 p5 q0 q1 q2 q3 : Pos} {jj k : Nat} {qual : Str} {params : Arguments} {scope : Scope} {dV kV doc pm ct : Value} {an : Option Addr}
theorem kUZ (T : IniC K C fI cc cd (fnX "__init__" qual params [.Expr (.Call (.Attribute (.Call (.Name "super" p0) [] [] p1) "__init__" p2) [.Constant (.str txt) jj p3] [] p4) p5, .Assign [.Attribute (.Name "self" q0) "at" q1] (.Name "at" q2) q3] scope [("__class__", cc)] dV kV doc pm an (.ref cd) ct) ar file)
  (S : NdefX.NScope ["self", "at", "__class__"] ["self", "at"] ["__class__"] scope) (h0 : ar.arg = "self") (hks : scope.names.lookup ("super" : Str) = some .globalImplicit) (hcd : codeIn K (.ref cd) qual = true) (hpp : (p2.endLine == p4.line) = true)
  (hfile : ((P.main.file : Str) == file) = true) (htop : (P.main.scope.names.lookup ("super" : Str)).isSome = false) (hno : findIn K (.ref C) "at" = some none) :
  FnOk P w K mg base (L2.CX P w) (k + 1) fI (fnX "__init__" qual params [.Expr (.Call (.Attribute (.Call (.Name "super" p0) [] [] p1) "__init__" p2) [.Constant (.str txt) jj p3] [] p4) p5, .Assign [.Attribute (.Name "self" q0) "at" q1] (.Name "at" q2) q3] scope [("__class__", cc)] dV kV doc pm an (.ref cd) ct) ["self", "at"] (spI C) := by
 refine kRG T S (by rw [h0]; rfl) hks hcd hpp hfile htop (fun vs H Q E h => ?_) (fun vs H Q E h => ?_) fun A outer s H vs Q E h => ?_
 ·obtain ⟨a, v, rfl, _⟩ := h
  rfl
 ·obtain ⟨a, v, rfl, e, _⟩ := h
  exact ⟨a, rfl, e⟩
 ·obtain ⟨a, v, rfl, e, q⟩ := h
  refine ⟨_, pss_one (ps_ost (pe_var (i := 0) rfl (.inl (S.par _ (by decide)))) (pe_var (i := 1) rfl (.inl (S.par _ (by decide))))), ?_⟩
  exact ⟨v, rfl, .ref a, rfl, a, C, rfl, T.oex, hno, .inl ⟨e, fun dx n ne => q dx n ne⟩⟩
end
theorem kTk {K : Frag} {C : Addr} (h : oexB K C = true) : OexC K C := by
 unfold oexB at h
 obtain ⟨h1, h⟩ := He.ba h
 obtain ⟨h2, h⟩ := He.ba h
 obtain ⟨h3, h⟩ := He.ba h
 obtain ⟨h4, h5⟩ := He.ba h
 refine ⟨?_, He.eqO_ok h2, gF5 h3, gF5 h4, h5⟩
 split at h1
 ·rename_i t dd nm bs C' bm ns q hd sn sub ab col del sl ho
  split at h1
  ·rename_i k0 k1 k2 k3 n k5 hs
   obtain ⟨a1, h⟩ := He.ba h1
   obtain ⟨a2, h⟩ := He.ba h
   obtain ⟨a3, h⟩ := He.ba h
   obtain ⟨a4, h⟩ := He.ba h
   obtain ⟨a5, a6⟩ := He.ba h
   have e1 := gF5 a1
   have e2 := gF5 a2
   have e5 := gF5 a5
   have e4 : del = false := by simpa using a4
   subst e1 e2 e4 e5 a3
   have hsl : sl = #[k0, k1, k2, k3, some (.builtin "ValueError.__new__"), k5] := by
    obtain ⟨l⟩ := sl
    simp only at hs
    rw [hs]
   subst hsl
   exact ⟨_, _, _, _, _, _, _, _, _, _, _, _, _, _, _, ho, a6⟩
  ·cases h1
 ·cases h1
theorem kOx {b r : List Stmt} (h : kMF b = some r) : ∃ (p0 p1 p2 p3 p4 p5 : Pos) (txt : Str) (jj : Nat), b = .Expr (.Call (.Attribute (.Call (.Name "super" p0) [] [] p1) "__init__" p2) [.Constant (.str txt) jj p3] [] p4) p5 :: r ∧ (p2.endLine == p4.line) = true := by
 unfold kMF at h
 split at h
 ·split at h
  ·rename_i c
   obtain ⟨c1, c⟩ := He.ba c
   obtain ⟨c2, c3⟩ := He.ba c
   cases h
   have e1 := eq_of_beq c1
   have e2 := eq_of_beq c2
   subst e1 e2
   exact ⟨_, _, _, _, _, _, _, _, rfl, c3⟩
  ·cases h
 ·cases h
theorem kQG {b : List Stmt} (h : kQH b = true) : ∃ (q0 q1 q2 q3 : Pos), b = [.Assign [.Attribute (.Name "self" q0) "at" q1] (.Name "at" q2) q3] := by
 unfold kQH at h
 split at h
 ·obtain ⟨c1, c⟩ := He.ba h
  obtain ⟨c2, c3⟩ := He.ba c
  have e1 := eq_of_beq c1
  have e2 := eq_of_beq c2
  have e3 := eq_of_beq c3
  subst e1 e2 e3
  exact ⟨_, _, _, _, rfl⟩
 ·cases h
theorem kTi {p : Arguments} (h : par2 p = true) : ∃ a1 p1 a2 p2, p = ⟨[], [⟨"self", a1, p1⟩, ⟨"at", a2, p2⟩], none, [], [], none, []⟩ := by
 unfold par2 at h
 split at h
 ·obtain ⟨c1, c2⟩ := He.ba h
  have e1 := eq_of_beq c1
  have e2 := eq_of_beq c2
  subst e1 e2
  exact ⟨_, _, _, _, rfl⟩
 ·cases h
theorem kSb {K : Frag} {cc C : Addr} (h : kSc K cc C = true) : ∃ cl cld csl, K.lookup cc = some ⟨cl, cld, .cell (some (.ref C)), csl⟩ := by
 unfold kSc at h
 split at h
 ·rename_i ho
  have e := gF5 h
  subst e
  exact ⟨_, _, _, ho⟩
 ·cases h
theorem kRJ {file : Str} {K : Frag} {cd : Addr} (h : kRK file K cd = true) : ∃ ccl cdd vs ccs tf, K.lookup cd = some ⟨ccl, cdd, .fields vs, ccs⟩ ∧ vs[2]? = some (.str file tf) := by
 unfold kRK at h
 split at h
 ·rename_i ho
  split at h
  ·rename_i hv
   have e := eq_of_beq h
   subst e
   exact ⟨_, _, _, _, _, ho, hv⟩
  ·cases h
 ·cases h
structure IsX (K : Frag) (C : Addr) : Prop where
 ha : findIn K (.ref C) "__class__" = some (some (.builtin "object.__class__"))
 hn : specialIn K (.builtin "object.__class__") "__get__" = some (some (.builtin "getset_descriptor.__get__"))
 ht : takesIn K (.builtin "object.__class__") = some true
 hm : mroIn K C (.type "object") = some true
 hs : mroIn K C (.ref C) = some true
 ve : subIn K (.ref C) (.type "ValueError") = some true
 xf : XfC K C
theorem kTB {K : Frag} {C : Addr} (h : isxB K C = true) : IsX K C := by
 obtain ⟨h1, h⟩ := He.ba h
 obtain ⟨h2, h⟩ := He.ba h
 obtain ⟨h3, h⟩ := He.ba h
 obtain ⟨h4, h⟩ := He.ba h
 obtain ⟨h5, h⟩ := He.ba h
 obtain ⟨h6, h7⟩ := He.ba h
 exact ⟨He.eqO_ok h1, He.eqO_ok h2, gF5 h3, gF5 h4, gF5 h5, gF5 h6, xfB_ok h7⟩
structure ExcAt (P : Program) (K : Frag) (C : Addr) : Prop where
 oex : OexC K C
 ini : findIn K (.ref C) "__init__" = some (some (.ref (iA K C)))
 fun_ : typeIn K (.ref (iA K C)) = some (.type "function")
 xf : XfC K C
 noat : findIn K (.ref C) "at" = some none
 isx : IsX K C
 ok : ∀ (w : World) (mg : Str → Option Value) (base : Heap), ∃ fd, FnOk P w K mg base (L2.CX P w) 1 (iA K C) fd ["self", "at"] (spI C) ∧ Binds K fd ["self", "at"] []
section
variable {P : Program} {K : Frag} {C : Addr} {file : Str}
theorem kTU {fd : FuncData} {ar : Arg} {cc cd : Addr} (h : clsB K C = true) (fn : ∃ oc od osl, K.lookup (iA K C) = some ⟨oc, od, .func fd, osl⟩) (par : (fd.params.posonlyargs ++ fd.params.args).head? = some ar) (cell : kSc K cc C = true) (code : kRK file K cd = true) :
  IniC K C (iA K C) cc cd fd ar file ∧ findIn K (.ref C) "__init__" = some (some (.ref (iA K C))) ∧ typeIn K (.ref (iA K C)) = some (.type "function") := by
 unfold clsB at h
 obtain ⟨h, _⟩ := He.ba h
 unfold kVi at h
 obtain ⟨h1, h⟩ := He.ba h
 obtain ⟨h2, h⟩ := He.ba h
 obtain ⟨h3, h⟩ := He.ba h
 obtain ⟨h4, h⟩ := He.ba h
 obtain ⟨h5, h⟩ := He.ba h
 obtain ⟨h6, h⟩ := He.ba h
 obtain ⟨h7, h8⟩ := He.ba h
 exact ⟨⟨kTk h1, fn, par, kRJ code, kSb cell, He.eqO_ok h2, gF5 h3, gF5 h4, He.eqO_ok h5, He.eqO_ok h6⟩, He.eqO_ok h7, gF5 h8⟩
theorem kRH (h : iniB file true K C = true) (hfile : ((P.main.file : Str) == file) = true) (htop : (P.main.scope.names.lookup ("super" : Str)).isSome = false) : ExcAt P K C := by
 unfold iniB at h
 obtain ⟨hc, h⟩ := He.ba h
 split at h
 ·rename_i oc od name qual params b scope globals n cc kV doc pm an cd ct builtins osl ho
  split at h
  ·rename_i r hs
   obtain ⟨a1, h⟩ := He.ba h
   obtain ⟨a2, h⟩ := He.ba h
   obtain ⟨a3, h⟩ := He.ba h
   obtain ⟨a4, h⟩ := He.ba h
   obtain ⟨a5, h⟩ := He.ba h
   obtain ⟨a6, h⟩ := He.ba h
   obtain ⟨a7, h⟩ := He.ba h
   obtain ⟨a8, h⟩ := He.ba h
   obtain ⟨b1, h⟩ := He.ba h
   obtain ⟨b2, h⟩ := He.ba h
   obtain ⟨b3, h⟩ := He.ba h
   obtain ⟨b4, b5⟩ := He.ba h
   have e1 := eq_of_beq a1
   have e2 := eq_of_beq a2
   have e3 := gF5 a3
   have e4 := gF5 a4
   have e5 := gF5 a5
   obtain ⟨p0, p1, p2, p3, p4, p5, txt, jj, hb, hpp⟩ := kOx hs
   obtain ⟨q0, q1, q2, q3, hr⟩ := kQG b2
   obtain ⟨n1, r1, n2, r2, hp⟩ := kTi b1
   subst e1 e2 e3 e4 hb hr hp
   obtain ⟨T, t1, t2⟩ := kTU (ar := ⟨"self", n1, r1⟩) hc ⟨_, _, _, ho⟩ rfl a7 a8
   refine ⟨T.oex, t1, t2, xfB_ok b5, He.eqO_ok b4, kTB (He.ba hc).2, fun w mg base => ⟨_, kUZ T (NdefX.nscope_by b3) rfl e5 a6 hpp hfile htop (He.eqO_ok b4), Binds.all fun us hl => ?_⟩⟩
   match us, hl with
   | [_, _], _ => rfl
  ·cases h
 ·cases h
end
end DL
namespace DL
open PySem PySem.Spec PyProof.Rows L2
theorem kLK {P : Program} {w : World} {X : Cx} : Passes (L2.CX P w) X (fun _ _ _ => False) := fun pins σ H s e s' I c => by
 obtain ⟨_, _, _, _, _, _, _, _, _, _, _, _, z⟩ := c
 exact z.elim
section
variable {X : Cx} {x : Str} {C : Addr} {e : Expr} {te : TE} {p pos : Pos}
theorem kUH (T : ExcAt X.prog X.K C) (hr : Room 2 X.A) (hg : Gl X x) (hm : X.mg x = some (.ref C)) (pe : PE X e te) (hdb : (x == ("__debug__" : Str)) = false := by decide)
  (he : starEach [e] X.env = (false, eval e X.env) :: starEach [] X.env := by rfl) (hpl : (backTo pos (starEach [] X.env)).any (·.1) = false := by rfl) :
  PMk X (.Call (.Name x p) [e] [] pos) (tMkO C (spI C) [] (tCons te tNil)) := by
 obtain ⟨fd, F1, hb⟩ := T.ok X.w X.mg X.base
 exact pmk_oex (ds := []) (dvs := []) T.oex T.ini T.fun_ F1 hr hb .nil kLK hg hm (pa_cons pe pa_nil he) hdb he hpl
theorem kTt {v : V} {H1 : Hp} {Q : XK} (q : ∀ dx, H1 dx = none → Q (.ref C) (some dx) (upd H1 dx (.xd [("at", v)]))) :
  ([v] : List V).length ≤ 1000 ∧ ∀ a, H1 a = none → spI C (.ref a :: ([v] ++ [])) (upd H1 a (exo a C none)) (fun u H2 => u = .non ∧ ∃ (d : Addr) (fs : List (Str × V)), H2 a = some (exo a C (some d)) ∧ H2 d = some (exd d fs) ∧ H1 d = none ∧ Q (.ref C) (some d) (upd (del H2 a) d (.xd fs))) (fun _ _ _ => False) := by
 refine ⟨by show 1 ≤ 1000; omega, fun a ha => ⟨a, v, rfl, upd_same, fun dx hn ne => ?_⟩⟩
 have hd : H1 dx = none := by rwa [upd_ne ne] at hn
 refine ⟨rfl, dx, [("at", v)], upd_same, ?_, hd, ?_⟩
 ·rw [upd_ne ne, upd_same]
 ·have e : upd (del (upd (upd (upd H1 a (exo a C none)) dx (exd dx [("at", v)])) a (exo a C (some dx))) a) dx (.xd [("at", v)]) = upd H1 dx (.xd [("at", v)]) := by
   funext b
   by_cases hb : b = dx
   ·rw [hb, upd_same, upd_same]
   ·rw [upd_ne hb, upd_ne hb]
    by_cases ha' : b = a
    ·rw [ha', del_same, ha]
    ·rw [del_ne ha', upd_ne ha', upd_ne hb, upd_ne ha']
  rw [e]
  exact q dx hd
end
def kMs (c : Str) (m : M D) : MS := fun env => match m env with
 | .ok d e => .exc c (some d) e
 | .exc c' a e => .exc c' a e
 | .bad => .bad
section
variable {W : Wd} {X : Cx} {Wx : WX} {F : Fc} {O O' : List Nat} {e : Expr} {me : M D} {p : Bool} {x : Str} {p1 pos pos' : Pos}
theorem kRP (T : ExcAt X.prog X.K (He.ga W.K x)) (hr : Room 2 X.A) (hg : Gl X x) (hm : X.mg x = some (.ref (He.ga W.K x))) (calm : X.calm = true) (tk : Takes X Wx) (he : DE W X Wx O e me 2 p) (hdb : (x == ("__debug__" : Str)) = false := by decide)
  (hst : starEach [e] X.env = (false, eval e X.env) :: starEach [] X.env := by rfl) (hpl : (backTo pos (starEach [] X.env)).any (·.1) = false := by rfl) (cx : kDe O F.ox = true := by decide) :
  DS W X Wx F O (.Raise (some (.Call (.Name x p1) [e] [] pos)) none pos') (kMs x me) O' := by
 obtain ⟨k, te, pe, se⟩ := he
 refine ⟨k, _, ps_raise calm tk (kUH T hr hg hm pe hdb hst hpl), fun G L env σ H Dn g R h => se G L env σ H _ R ?_⟩
 unfold kMs at h
 cases q : me env with
 | bad => rw [q] at h; exact h.elim
 | exc c a e =>
  rw [q] at h
  exact kCK (z := 0) (p := true) (env := env) (fun hn => (g hn).2.1) cx h
 | ok d e1 =>
  rw [q] at h
  intro v H' R' E P Z
  show ([v] : List V).length ≤ 1000 ∧ ∀ a, H' a = none → spI (He.ga W.K x) (.ref a :: ([v] ++ [])) (upd H' a (exo a (He.ga W.K x) none)) (fun u H2 => u = .non ∧ ∃ (d : Addr) (fs : List (Str × V)), H2 a = some (exo a (He.ga W.K x) (some d)) ∧ H2 d = some (exd d fs) ∧ H' d = none ∧ (fun cls d H' => Wx cls d σ H') (.ref (He.ga W.K x)) (some d) (upd (del H2 a) d (.xd fs))) (fun _ _ _ => False)
  refine kTt (Q := fun cls d H' => Wx cls d σ H') fun dx hn => ?_
  refine h _ _ σ _ _ ((R'.new hn).thin cx fun hn => ((g hn).2.1).trans (R.first hn).2.symm) ⟨rfl, fun d' e => ⟨dx, v, rfl, upd_same, ?_⟩, fun e => nomatch e⟩
  rw [← gF3 e]
  exact Rp.shun (fun a z _ => kCN z) d v (Rp.ev (Ev.new hn) d v (kFN Z))
end
structure XdOk (W : Wd) : Prop where
 xd : ∀ (b : Addr) (ds : List D) (v : V) (H : Hp), W.oa b 0 ds [v] H ↔ H b = some (.xd [("at", v)])
 no : ∀ (b : Addr) (ds : List D) (vs : List V) (H : Hp), ¬ W.oa b 1 ds vs H
 fv : ∀ (b : Addr) (ds : List D) (vs : List V) (H : Hp), W.oa b 3 ds vs H ↔ ∃ x : Str, ds = [.str x] ∧ vs = [.str x] ∧ b = He.ga W.K x
 kt : ∀ (b : Addr) (H : Hp), KT0 W.K b → W.oa b 4 [] [] H
theorem kTn {file : Str} {ini : List (Str × Bool)} {K : PySem.W.Frag} (h : obsI file ini K = true) (i : Nat) {x : Str} {b : Bool} (e : ini[i]? = some (x, b)) : iniB file b K (He.ga K x) = true := by
 have q := gH5.mp h (x, b) (gH9 e)
 exact q
mutual
def Im (H : Hp) : D → V → Prop
 | .non, v => v = .non
 | .bool b, v => v = .bl b
 | .int i, v => v = .int i
 | .str x, v => v = .str x
 | .tup ds, v => ∃ a vs, v = .ref a ∧ (H a = some (.tup vs) ∧ vs.length ≤ sizeLine) ∧ ImL H ds vs
 | .lst _, _ => False
 | .dic _ _, _ => False
 | .obj _ _, _ => False
 | .ro _, _ => False
def ImL (H : Hp) : List D → List V → Prop
 | [], vs => vs = []
 | d :: ds, vs => ∃ v us, vs = v :: us ∧ Im H d v ∧ ImL H ds us
end
mutual
theorem Im.keep {H H' : Hp} (t : ∀ a xs, H a = some (.tup xs) → H' a = some (.tup xs)) : ∀ (d : D) (v : V), Im H d v → Im H' d v
 | .non, _, h => h
 | .bool _, _, h => h
 | .int _, _, h => h
 | .str _, _, h => h
 | .tup ds, _, h => by
  unfold Im at h ⊢
  obtain ⟨a, vs, h1, h2, h3⟩ := h
  exact ⟨a, vs, h1, ⟨t _ _ h2.1, h2.2⟩, ImL.keep t ds vs h3⟩
 | .lst _, _, h => h
 | .dic _ _, _, h => h
 | .obj _ _, _, h => h
 | .ro _, _, h => h
theorem ImL.keep {H H' : Hp} (t : ∀ a xs, H a = some (.tup xs) → H' a = some (.tup xs)) : ∀ (ds : List D) (vs : List V), ImL H ds vs → ImL H' ds vs
 | [], _, h => by
  unfold ImL at h ⊢
  exact h
 | d :: ds, _, h => by
  unfold ImL at h ⊢
  obtain ⟨v, us, h1, h2, h3⟩ := h
  exact ⟨v, us, h1, Im.keep t d v h2, ImL.keep t ds us h3⟩
end
mutual
def D.imm : D → Bool
 | .non => true
 | .bool _ => true
 | .int _ => true
 | .str _ => true
 | .tup ds => immL ds
 | .lst _ => false
 | .dic _ _ => false
 | .obj _ _ => false
 | .ro _ => false
def immL : List D → Bool
 | [] => true
 | d :: ds => d.imm && immL ds
end
structure ClsT where
 nm : Str
 fs : List Str
 nv : Nat
 hid : Nat → List D → List V → Hp → Prop
 st : ∀ {j : Nat} {ds : List D} {hs : List V} {H H' : Hp}, (∀ a o u, H a = some (.frz o u) → H' a = some (.frz o u)) → (∀ a xs, H a = some (.tup xs) → H' a = some (.tup xs)) → hid j ds hs H → hid j ds hs H'
abbrev CT := List ClsT
def clsV (nm : Str) (fs : List Str) : ClsT := ⟨nm, fs, fs.length, fun _ _ _ _ => False, fun _ _ h => h⟩
def oaF (c : ClsT) (k : Nat) (ds : List D) (vs hs : List V) (H : Hp) : Prop :=
 (k % 64 < 48 ∧ vs.length = k % 64 ∧ vs.length ≤ c.fs.length ∧ hs = [] ∧ (c.nv = c.fs.length ∨ vs.length < c.fs.length)) ∨ (48 ≤ k % 64 ∧ vs.length = c.nv ∧ c.nv < c.fs.length ∧ c.nv + hs.length = c.fs.length ∧ ImL H ds vs ∧ c.hid (k % 64) ds hs H)
def oaC (K : PySem.W.Frag) (T : CT) (a : Addr) (k : Nat) (ds : List D) (vs : List V) (H : Hp) : Prop :=
 64 ≤ k ∧ ∃ (c : ClsT) (dx : Addr) (hs : List V), T[k / 64 - 1]? = some c ∧ (c.fs.Nodup ∧ c.fs.length < 48) ∧ H a = some (.ins (He.ga K c.nm) dx (c.fs.zip (vs ++ hs))) ∧ oaF c k ds vs hs H
theorem kSh {f : Str} {v : V} : ∀ {fns : List Str} {vs : List V} {i : Nat}, fns.Nodup → fns[i]? = some f → vs[i]? = some v → (fns.zip vs).lookup f = some v
 | [], _, _, _, h, _ => by simp at h
 | _ :: _, [], _, _, _, h => by simp at h
 | g :: fns, u :: vs, 0, _, h1, h2 => by
  simp at h1 h2
  subst h1 h2
  simp [List.lookup]
 | g :: fns, u :: vs, i + 1, nd, h1, h2 => by
  have h1 : fns[i]? = some f := by simpa using h1
  have h2 : vs[i]? = some v := by simpa using h2
  have ne : f ≠ g := fun e => (List.nodup_cons.mp nd).1 (by rw [← e]; exact gH9 h1)
  rw [List.zip_cons_cons]
  unfold List.lookup
  rw [show (f == g) = false by simpa using ne]
  exact kSh (List.nodup_cons.mp nd).2 h1 h2
theorem kSg {m : Str} : ∀ {fns : List Str} {vs : List V}, m ∉ fns → (fns.zip vs).lookup m = none
 | [], _, _ => rfl
 | _ :: _, [], _ => rfl
 | g :: fns, u :: vs, h => by
  have ne : m ≠ g := fun e => h (by rw [e]; exact gF1)
  rw [List.zip_cons_cons]
  unfold List.lookup
  rw [show (m == g) = false by simpa using ne]
  exact kSg fun q => h (gF2 _ q)
theorem kOT {f : Str} {v : V} : ∀ {fns : List Str} {vs : List V}, fns.Nodup → fns[vs.length]? = some f → putF f v (fns.zip vs) = fns.zip (vs ++ [v])
 | [], _, _, h => by simp at h
 | g :: fns, [], _, h => by
  have h : g = f := by simpa using h
  subst h
  cases fns <;> rfl
 | g :: fns, u :: vs, nd, h => by
  have h : fns[vs.length]? = some f := by simpa using h
  have ne : g ≠ f := fun e => (List.nodup_cons.mp nd).1 (by rw [e]; exact gH9 h)
  show (if g = f then _ else (g, u) :: putF f v (fns.zip vs)) = _
  rw [if_neg ne, kOT (List.nodup_cons.mp nd).2 h]
  rfl
theorem kOS {f : Str} {v : V} : ∀ {fns : List Str} {vs : List V} {i : Nat}, fns.Nodup → i < vs.length → fns[i]? = some f → putF f v (fns.zip vs) = fns.zip (vs.set i v)
 | [], _, _, _, _, h => by simp at h
 | _ :: _, [], _, _, h, _ => by simp at h
 | g :: fns, u :: vs, 0, _, _, h => by
  have h : g = f := by simpa using h
  show (if g = f then (g, v) :: fns.zip vs else _) = _
  rw [if_pos h]
  rfl
 | g :: fns, u :: vs, i + 1, nd, hl, h => by
  have h : fns[i]? = some f := by simpa using h
  have ne : g ≠ f := fun e => (List.nodup_cons.mp nd).1 (by rw [e]; exact gH9 h)
  show (if g = f then _ else (g, u) :: putF f v (fns.zip vs)) = _
  rw [if_neg ne, kOS (List.nodup_cons.mp nd).2 (by simpa using hl) h]
  rfl
theorem oaF.keep {c : ClsT} {k : Nat} {ds : List D} {vs hs : List V} {H H' : Hp} (f : ∀ a o u, H a = some (.frz o u) → H' a = some (.frz o u)) (t : ∀ a xs, H a = some (.tup xs) → H' a = some (.tup xs)) (h : oaF c k ds vs hs H) : oaF c k ds vs hs H' := by
 rcases h with h | ⟨h1, h2, h3, h4, h5, h6⟩
 ·exact .inl h
 ·exact .inr ⟨h1, h2, h3, h4, ImL.keep t ds vs h5, c.st f t h6⟩
theorem kIO {K : PySem.W.Frag} {T : CT} {a : Addr} {k : Nat} {ds : List D} {vs : List V} {H H' : Hp} (h : oaC K T a k ds vs H) (e : ∀ C dx fs, H a = some (.ins C dx fs) → H' a = some (.ins C dx fs)) (f : ∀ a o u, H a = some (.frz o u) → H' a = some (.frz o u)) (t : ∀ a xs, H a = some (.tup xs) → H' a = some (.tup xs)) : oaC K T a k ds vs H' := by
 obtain ⟨h1, c, dx, hs, h2, h3, h4, h5⟩ := h
 exact ⟨h1, c, dx, hs, h2, h3, e _ _ _ h4, h5.keep f t⟩
def W1 (K : PySem.W.Frag) (T : CT) (B : List (Addr × Str) := []) : Wd := ⟨K, B, fun a k ds vs H => xdA K a k ds vs H ∨ oaC K T a k ds vs H, fun {a k ds vs H p o} n h => by
  have ne : ∀ {b : Addr} {u : HO}, H b = some u → b ≠ p := fun {b u} q z => by rw [z, n] at q; cases q
  rcases h with h | h
  ·exact .inl (kII h fun fs q => by rw [upd_ne (ne q)]; exact q)
  ·exact .inr (kIO h (fun C dx fs q => by rw [upd_ne (ne q)]; exact q) (fun b o u q => by rw [upd_ne (ne q)]; exact q) fun b xs q => by rw [upd_ne (ne q)]; exact q), fun {a k ds vs H p o o'} n m h => by
  have ne : ∀ {b : Addr} {u : HO}, H b = some u → ¬ Mt u → b ≠ p := fun {b u} q d z => by rw [z, n] at q; rw [← gF3 q] at d; exact d m
  rcases h with h | h
  ·exact .inl (kII h fun fs q => by rw [upd_ne (ne q fun w => w)]; exact q)
  ·exact .inr (kIO h (fun C dx fs q => by rw [upd_ne (ne q fun w => w)]; exact q) (fun b o u q => by rw [upd_ne (ne q fun w => w)]; exact q) fun b xs q => by rw [upd_ne (ne q fun w => w)]; exact q), fun {a k ds vs H} h hk => by
  rcases h with h | ⟨_, _, _, _, _, _, h5, _⟩
  ·have := kSi h
   omega
  ·rw [h5]
   exact (fun w => (nomatch w)), fun {a k ds vs H p ps ps'} n h => by
  have ne : ∀ {b : Addr} {u : HO}, H b = some u → (∀ qs, u ≠ .tbl qs) → b ≠ p := fun {b u} q d z => by rw [z, n] at q; exact d _ (gF3 q).symm
  rcases h with h | h
  ·exact .inl (kII h fun fs q => by rw [upd_ne (ne q fun _ w => nomatch w)]; exact q)
  ·exact .inr (kIO h (fun C dx fs q => by rw [upd_ne (ne q fun _ w => nomatch w)]; exact q) (fun b o u q => by rw [upd_ne (ne q fun _ w => nomatch w)]; exact q) fun b xs q => by rw [upd_ne (ne q fun _ w => nomatch w)]; exact q), fun {a ds vs H} h => by
  rcases h with h | ⟨h, _⟩
  ·exact kUd h
  ·omega⟩
def TOk (T : CT) : Prop := ∀ (i j : Nat) (c c' : ClsT), T[i]? = some c → T[j]? = some c' → c.nv < c.fs.length → c.fs <+: c'.fs → i = j
def tokB (l : List (List Str × Nat)) : Bool := (List.range l.length).all fun i => (List.range l.length).all fun j => match l[i]?, l[j]? with
 | some (f, n), some (f', _) => i == j || !(decide (n < f.length)) || !(f.isPrefixOf f')
 | _, _ => true
theorem TOk.by_ {T : CT} (h : tokB (T.map fun c => (c.fs, c.nv)) = true) : TOk T := by
 intro i j c c' h1 h2 h3 h4
 have li : i < T.length := (gF8.mp h1).1
 have lj : j < T.length := (gF8.mp h2).1
 have q := gH5.mp h i (List.mem_range.mpr (by simpa using li))
 have q := gH5.mp q j (List.mem_range.mpr (by simpa using lj))
 simp only [gI0, h1, h2, Option.map_some] at q
 simp only [Bool.or_eq_true, beq_iff_eq, Bool.not_eq_true', decide_eq_false_iff_not] at q
 rcases q with (q | q) | q
 ·exact q
 ·exact (q h3).elim
 ·rw [List.isPrefixOf_iff_prefix.mpr h4] at q
  cases q
structure ObOk (W : Wd) (T : CT) : Prop where
 xd : XdOk W
 ob : ∀ {a : Addr} {k : Nat} {ds : List D} {vs : List V} {H : Hp}, W.oa a k ds vs H → 64 ≤ k → oaC W.K T a k ds vs H
 of_ : ∀ {a : Addr} {k : Nat} {ds : List D} {vs : List V} {H : Hp}, oaC W.K T a k ds vs H → W.oa a k ds vs H
 wr : ∀ {a b C dx : Addr} {fs fs' : List (Str × V)} {k : Nat} {ds : List D} {vs : List V} {H : Hp}, H a = some (.ins C dx fs) → (b ≠ a ∨ k < 64) → W.oa b k ds vs H → W.oa b k ds vs (upd H a (.ins C dx fs'))
 tok : TOk T
 fz : ∀ {a q : Addr} {o : Obj} {u : HO} {k : Nat} {ds : List D} {vs : List V} {H : Hp}, H q = some u → Mt u → W.oa a k ds vs H → W.oa a k ds vs (upd H q (.frz o u))
theorem kVJ (K : PySem.W.Frag) (T : CT) (tok : tokB (T.map fun c => (c.fs, c.nv)) = true) (B : List (Addr × Str) := []) : ObOk (W1 K T B) T := by
 refine ⟨⟨fun b ds v H => ⟨fun h => ?_, fun h => .inl (.inl ⟨rfl, v, rfl, h⟩)⟩, fun b ds vs H h => ?_, fun b ds vs H => ⟨fun h => ?_, fun h => .inl (.inr (.inl ⟨rfl, h⟩))⟩, fun b H h => .inl (.inr (.inr ⟨rfl, rfl, rfl, h⟩))⟩, fun h hk => ?_, fun h => .inr h, fun {a b C dx fs fs' k ds vs H} ha hb h => ?_, TOk.by_ tok, fun {a q o u k ds vs H} hq m h => (W1 K T B).put hq m h⟩
 ·rcases h with (⟨_, v', e, h⟩ | ⟨h, _⟩ | ⟨h, _⟩) | ⟨h, _⟩
  ·cases e
   exact h
  ·omega
  ·omega
  ·omega
 ·rcases h with (⟨e, _⟩ | ⟨e, _⟩ | ⟨e, _⟩) | ⟨h, _⟩ <;> omega
 ·rcases h with (⟨e, _⟩ | ⟨_, e⟩ | ⟨e, _⟩) | ⟨h, _⟩
  ·omega
  ·exact e
  ·omega
  ·omega
 ·rcases h with h | h
  ·have := kSi h
   omega
  ·exact h
 ·have ne : ∀ {b : Addr} {u : HO}, H b = some u → (∀ C dx fs, u ≠ .ins C dx fs) → b ≠ a := fun {b u} q d z => by rw [z, ha] at q; exact d _ _ _ (gF3 q).symm
  rcases h with h | h
  ·exact .inl (kII h fun fs q => by rw [upd_ne (ne q fun _ _ _ w => nomatch w)]; exact q)
  ·have hk : 64 ≤ k := h.1
   exact .inr (kIO h (fun C dx fs q => by rw [upd_ne (hb.resolve_right (by omega))]; exact q) (fun b o u q => by rw [upd_ne (ne q fun _ _ _ w => nomatch w)]; exact q) fun b xs q => by rw [upd_ne (ne q fun _ _ _ w => nomatch w)]; exact q)
def kDd (l : List (Nat × Nat)) : D → Option D
 | .obj k ds => (match l.lookup (k / 64) with
  | some i => ds[i]?
  | none => none)
 | _ => none
def dFld (l : List (Nat × Nat)) (m : M D) : M D := fun env => match m env with
 | .ok d e => (match kDd l d with
  | some r => .ok r e
  | none => .bad)
 | .exc c a e => .exc c a e
 | .bad => .bad
def z2 : Nat → Nat
 | 0 => 0
 | _ => 2
theorem kFv {β : Type} {n : Nat} {b : β} : ∀ {l : List (Nat × β)}, l.lookup n = some b → (n, b) ∈ l
 | [], h => by cases h
 | (m, c) :: l, h => by
  unfold List.lookup at h
  split at h
  ·rename_i q
   cases h
   rw [eq_of_beq q]
   exact gF1
  ·exact gF2 _ (kFv h)
def kJU (K : PySem.W.Frag) (T : CT) (f : Str) (l : List (Nat × Nat)) : Prop := ∀ p ∈ l, 1 ≤ p.1 ∧ ∃ c : ClsT, T[p.1 - 1]? = some c ∧ c.fs[p.2]? = some f ∧ Cls K (He.ga K c.nm) ∧ NoAttr K (He.ga K c.nm) f
section
variable {W : Wd} {T : CT} {X : Cx} {Wx : WX} {O : List Nat} {e o : Expr} {es : List Expr} {me : M D} {ms : M (List D)} {z : Nat} {p : Bool} {f m : Str} {pos apos : Pos} {l : List (Nat × Nat)}
theorem kIZ {L : Lab} {H : Hp} {k : Nat} {ds : List D} {x : V} (h : RpZ W L H z (.obj k ds) x) : ∃ (a : Addr) (vs : List V), x = .ref a ∧ W.oa a k ds vs H ∧ ∀ (i : Nat) (d : D), ds[i]? = some d → ∃ v, vs[i]? = some v ∧ RpZ W L H (z2 z) d v := by
 match z, h with
 | 0, h =>
  have h : Rp W No H (.obj k ds) x := h
  unfold Rp at h
  obtain ⟨a, vs, h1, _, h2, h3⟩ := h
  exact ⟨a, vs, h1, h2, fun i d q => h3.getD q⟩
 | 1, h =>
  obtain ⟨a, vs, h1, h2, h3⟩ := h
  exact ⟨a, vs, h1, h2, fun i d q => h3.getD q⟩
 | _ + 2, h =>
  have h : Rp W (Zo L) H (.obj k ds) x := h
  unfold Rp at h
  obtain ⟨a, vs, h1, _, h2, h3⟩ := h
  exact ⟨a, vs, h1, h2, fun i d q => h3.getD q⟩
theorem kCk (hW : ObOk W T) (hl : kJU W.K T f l) (he : DE W X Wx O e me z p) (hb : attributeBase e f X.env (eval e X.env) = eval e X.env := by rfl) : DE W X Wx O (.Attribute e f pos) (dFld l me) (z2 z) p := by
 obtain ⟨k, t, pe, s⟩ := he
 refine ⟨k, _, pe_fld pe hb, fun G L env σ H Q R h => s G L env σ H _ R ?_⟩
 unfold dFld at h
 cases q : me env with
 | bad => rw [q] at h; exact h.elim
 | exc c a e => rw [q] at h; exact h
 | ok d e1 =>
  rw [q] at h
  have h : kBp W G O L p (z2 z) Wx env σ H Q (match kDd l d with | some r => .ok r e1 | none => .bad) := h
  intro x H1 R1 E1 P1 Z1
  cases qd : kDd l d with
  | none => rw [qd] at h; exact h.elim
  | some r =>
   rw [qd] at h
   have hr : kBp W G O L p (z2 z) Wx env σ H Q (.ok r e1) := h
   clear h
   unfold kDd at qd
   split at qd
   ·rename_i kk ds
    split at qd
    ·rename_i i ql
     obtain ⟨a, vs, rfl, h2, h3⟩ := kIZ Z1
     obtain ⟨t0, c, t1, t2, t3, t4⟩ := hl (kk / 64, i) (kFv ql)
     obtain ⟨v, v1, v2⟩ := h3 i r qd
     have hk : 64 ≤ kk := by
      have t0 : 1 ≤ kk / 64 := t0
      omega
     obtain ⟨_, c', dx, hs, c1, c2, c3, _⟩ := hW.ob h2 hk
     have e : c = c' := gF3 (t1.symm.trans c1)
     subst e
     rw [← k] at c3 t3 t4
     exact ⟨a, _, dx, _, v, rfl, c3, t3, t4, kSh c2.1 t2 (by rw [gH8 (gF8.mp v1).1]; exact v1), hr v H1 R1 E1 P1 v2⟩
    ·cases qd
   ·cases qd
end
def kPk (K : PySem.W.Frag) (m : Str) (f : Addr) (x : V) (H : Hp) : Prop := ∃ a C dx fs, x = .ref a ∧ H a = some (.ins C dx fs) ∧ Cls K C ∧ Meth K C m f ∧ fs.lookup m = none
section
variable {X : Cx} {k : Nat} {f : Addr} {fd : FuncData} {ps : List Str} {sp : Sp} {dvs : List V} {ds : List Value} {Wx : WX} {m : Str} {apos pos : Pos} {o e : Expr} {es : List Expr} {to : TE} {ta : TA}
theorem kLR {pl : Sem Bool} {args : List Expr} {pins : List (Addr × Obj)} {s : Shared} {σ : L2.St} {H : Hp} {Q : Value → Shared → Prop} {Q2 : V → Hp → Prop} (he : PE X o to) (I : Inv X pins σ H s)
  (h : to σ H fun x H1 => kPk X.K m f x H1 ∧ Q2 x H1)
  (go : ∀ a H1 s1, Inv X pins σ H1 s1 → Q2 (.ref a) H1 → wpAny (model X.prog X.w) X.A (callWith pos (.ref f) [.ref a] (backTo pos (starEach args X.env)) (backToKw pos (keywordEach [] X.env))) Q X.xe s1)
  (ht : eval (.Call (.Attribute o m apos) args [] pos) X.env = (do
   let ov ← eval o X.env
   standAt apos.atName
   let (f, first) ← holding [ov] (getMethod ov m pl)
   callWith pos f first (backTo pos (starEach args X.env)) (backToKw pos (keywordEach [] X.env)))) :
  wpAny (model X.prog X.w) X.A (eval (.Call (.Attribute o m apos) args [] pos) X.env) Q X.xe s := by
 refine PySem.W.methodCall_KW (pl := pl) (thn (he.run pins s σ H _ I h) fun u s1 ⟨x, H1, I1, rx, ⟨a, C, dx, fs, ex, ea, c, k, l⟩, q⟩ => ?_) ht
 subst ex
 obtain rfl : u = Value.ref a := rx
 exact getmeth_ok I1 ea c k l (go a H1 s1 I1 q)
theorem kRr {pl : Sem Bool} (hf : PySem.W.keepIn X.K (.ref f) = true) (F : FnG X.prog X.w X.K X.mg X.base k f fd ps sp) (hr : Room k X.A) (hg : X.A.guards = some []) (hb : Binds X.K fd ps ds) (hd : Vals dvs ds) (tk : Takes X Wx)
  (ho : PE X o to) (ha : PA X (e :: es) ta) (he : starEach (e :: es) X.env = (false, eval e X.env) :: starEach es X.env := by rfl) (hpl : (backTo pos (starEach es X.env)).any (·.1) = false := by rfl)
  (ht : eval (.Call (.Attribute o m apos) (e :: es) [] pos) X.env = (do
   let ov ← eval o X.env
   standAt apos.atName
   let (f, first) ← holding [ov] (getMethod ov m pl)
   callWith pos f first (backTo pos (starEach (e :: es) X.env)) (backToKw pos (keywordEach [] X.env))) := by rfl) :
  PE X (.Call (.Attribute o m apos) (e :: es) [] pos) (kNx sp dvs Wx fun σ H Q => to σ H fun x H1 => kPk X.K m f x H1 ∧ ta σ H1 fun xs H2 => Q (x :: xs) H2) := PE.mk fun pins s σ H Q I h =>
 kLR ho I h (fun a H1 s1 I1 q => PySem.W.callWith_K (first := [.ref a]) (h₀ := X.base) I1.ok.mod.kin hf (thn (ha.run pos pins s1 σ H1 _ I1 q) fun us s2 ⟨vs, H2, I2, r, q2⟩ => ⟨I2.kIn, goG (us := .ref a :: us) (vs := .ref a :: vs) F hr hg hb hd tk I2 (.cons (a := V.ref a) rfl r) q2⟩) he hpl) ht
theorem kPw {pl : Sem Bool} (hf : PySem.W.keepIn X.K (.ref f) = true) (F : FnG X.prog X.w X.K X.mg X.base k f fd ps sp) (hr : Room k X.A) (hg : X.A.guards = some []) (hb : Binds X.K fd ps ds) (hd : Vals dvs ds) (tk : Takes X Wx)
  (ho : PE X o to)
  (ht : eval (.Call (.Attribute o m apos) [] [] pos) X.env = (do
   let ov ← eval o X.env
   standAt apos.atName
   let (f, first) ← holding [ov] (getMethod ov m pl)
   callWith pos f first (backTo pos (starEach [] X.env)) (backToKw pos (keywordEach [] X.env))) := by rfl) :
  PE X (.Call (.Attribute o m apos) [] [] pos) (kNx sp dvs Wx fun σ H Q => to σ H fun x H1 => kPk X.K m f x H1 ∧ tNil σ H1 fun xs H2 => Q (x :: xs) H2) := PE.mk fun pins s σ H Q I h =>
 kLR ho I h (fun a H1 s1 I1 q => PySem.W.callWith_K0 (first := [.ref a]) I1.kIn hf (goG (us := [.ref a]) (vs := [.ref a]) F hr hg hb hd tk I1 (.cons (a := V.ref a) rfl .nil) q)) ht
end
def dChk (l : List Nat) (m : M D) : M D := fun env => match m env with
 | .ok (.obj k ds) e => if l.contains (k / 64) = true then .ok (.obj k ds) e else .bad
 | .ok _ _ => .bad
 | .exc c a e => .exc c a e
 | .bad => .bad
def kHV (K : PySem.W.Frag) (T : CT) (m : Str) (f : Addr) (n : Nat) : Prop := 1 ≤ n ∧ ∃ c : ClsT, T[n - 1]? = some c ∧ m ∉ c.fs ∧ Cls K (He.ga K c.nm) ∧ Meth K (He.ga K c.nm) m f
section
variable {W : Wd} {T : CT} {X : Cx} {Wx : WX} {O : List Nat} {o : Expr} {es : List Expr} {me : M D} {ms : M (List D)} {z z1 : Nat} {p1 p2 : Bool} {m : Str} {f : Addr} {n : Nat} {to : TE} {ta : TA}
theorem kKx (hW : ObOk W T) (hK : X.K = W.K) (hm : kHV W.K T m f n) {L : Lab} {H : Hp} {k : Nat} {ds : List D} {x : V} (hk : [n].contains (k / 64) = true) (h : RpZ W L H z (.obj k ds) x) : kPk X.K m f x H := by
 obtain ⟨a, vs, rfl, h2, _⟩ := kIZ h
 obtain ⟨m1, c, t1, t2, t3, t4⟩ := hm
 have e : k / 64 = n := by simpa using hk
 obtain ⟨_, c', dx, hs, c1, _, c3, _⟩ := hW.ob h2 (by omega)
 rw [e, t1] at c1
 cases c1
 rw [hK]
 exact ⟨a, _, dx, _, rfl, c3, t3, t4, kSg t2⟩
theorem kPi (hW : ObOk W T) (hK : X.K = W.K) (hm : kHV W.K T m f n)
  (s : ∀ (G : Gh) (L : Lab) (env : EnvD) (σ : L2.St) (H : Hp) (Q : VK), Rel W G O L env σ H → kBp W G O L p1 z1 Wx env σ H Q (me env) → to σ H Q)
  (sr : ∀ (G : Gh) (L : Lab) (env : EnvD) (σ : L2.St) (H : Hp) (Q : List V → Hp → Prop), Rel W G O L env σ H → kCA W G O L p2 z Wx env σ H Q (ms env) → ta σ H Q)
  (l : z ≤ z1) (k1 : z1 ≤ 2) (cc : p2 = true ∨ z1 = 2) (G : Gh) (L : Lab) (env : EnvD) (σ : L2.St) (H : Hp) (Q : List V → Hp → Prop) (R : Rel W G O L env σ H) (h : kCA W G O L (p1 && p2) z Wx env σ H Q (kAa (dChk [n] me) ms env)) :
  to σ H fun x H1 => kPk X.K m f x H1 ∧ ta σ H1 fun xs H2 => Q (x :: xs) H2 := by
 refine s G L env σ H _ R ?_
 unfold kAa dChk at h
 cases q1 : me env with
 | bad => rw [q1] at h; exact h.elim
 | exc c a e => rw [q1] at h; exact h
 | ok d1 e1 =>
  rw [q1] at h
  intro x H1 R1 E1 P1 Z1
  cases d1 with
  | obj kk dd =>
   have h : kCA W G O L (p1 && p2) z Wx env σ H Q ((if [n].contains (kk / 64) = true then Out.ok (D.obj kk dd) e1 else .bad).bind fun d e => (ms e).bind fun ds e2 => .ok (d :: ds) e2) := h
   by_cases hk : [n].contains (kk / 64) = true
   ·rw [if_pos hk] at h
    refine ⟨kKx hW hK hm hk Z1, sr G L e1 σ H1 _ R1 ?_⟩
    have h : kCA W G O L (p1 && p2) z Wx env σ H Q ((ms e1).bind fun ds e2 => .ok (D.obj kk dd :: ds) e2) := h
    cases q2 : ms e1 with
    | bad => rw [q2] at h; exact h.elim
    | exc c a e => rw [q2] at h; exact h
    | ok ds e2 =>
     rw [q2] at h
     intro vs H2 R2 E2 P2 A
     have Z := (Z1.ev E2 cc).le (.inl l) k1
     refine h (x :: vs) H2 R2 ((E1.mono fun a z _ => kAO (fun w => (gG6.mp w).1) z).trans (E2.mono fun a z _ => kAO (fun w => (gG6.mp w).2) z)) (fun w => ?_) ⟨?_, fun i d v h1 h2 => ?_⟩
     ·rw [P2 (gG6.mp w).2, P1 (gG6.mp w).1]
     ·rw [gG0, gG0, A.1]
     ·cases i with
      | zero =>
       rw [gE0] at h1 h2
       rw [← gF3 h1, ← gF3 h2]
       exact Z
      | succ i => exact A.2 i d v (by simpa using h1) (by simpa using h2)
   ·rw [if_neg hk] at h
    exact h.elim
  | non => exact h.elim
  | bool b => exact h.elim
  | int i => exact h.elim
  | str x => exact h.elim
  | tup xs => exact h.elim
  | lst xs => exact h.elim
  | dic _ es => exact h.elim
  | ro xs => exact h.elim
theorem kPO (ln : ∀ env ds e, ms env = .ok ds e → ds.length = es.length) (env : EnvD) (ds : List D) (e : EnvD) (h : kAa (dChk [n] me) ms env = .ok ds e) : ds.length = es.length + 1 := by
 unfold kAa at h
 cases q1 : dChk [n] me env with
 | bad => rw [q1] at h; cases h
 | exc c a e => rw [q1] at h; cases h
 | ok d1 e1 =>
  rw [q1] at h
  have h : ((ms e1).bind fun ds e2 => Out.ok (d1 :: ds) e2) = .ok ds e := h
  cases q2 : ms e1 with
  | bad => rw [q2] at h; cases h
  | exc c a e => rw [q2] at h; cases h
  | ok ds' e2 =>
   rw [q2] at h
   cases h
   rw [gG0, ln _ _ _ q2]
end
section
variable {W : Wd} {T : CT} {X : Cx} {Wx : WX} {O : List Nat} {o e : Expr} {es : List Expr} {me : M D} {ms : M (List D)} {p1 p2 : Bool} {m : Str} {f : Addr} {fd : FuncData} {n j k fr ar : Nat} {ps : List Str} {FF : FM} {apos pos : Pos}
theorem kCi {pl : Sem Bool} (hW : ObOk W T) (hm : kHV W.K T m f n) (hf : PySem.W.keepIn X.K (.ref f) = true) (F : FnG X.prog X.w X.K X.mg X.base j f fd ps (spD W 0 fr ar FF)) (hr : Room k X.A) (hj : j ≤ k) (hg : X.A.guards = some []) (hb : Binds X.K fd ps []) (tk : Takes X Wx)
  (ho : DE W X Wx O o me 2 p1) (ha : DAr W X Wx O (e :: es) ms 2 p2) (hn : ps.length = ar := by rfl) (ha2 : (e :: es).length + 1 = ar := by rfl)
  (he : starEach (e :: es) X.env = (false, eval e X.env) :: starEach es X.env := by rfl) (hpl : (backTo pos (starEach es X.env)).any (·.1) = false := by rfl)
  (ht : eval (.Call (.Attribute o m apos) (e :: es) [] pos) X.env = (do
   let ov ← eval o X.env
   standAt apos.atName
   let (f, first) ← holding [ov] (getMethod ov m pl)
   callWith pos f first (backTo pos (starEach (e :: es) X.env)) (backToKw pos (keywordEach [] X.env))) := by rfl) :
  DO W X Wx O (.Call (.Attribute o m apos) (e :: es) [] pos) (kAh FF [] (kAa (dChk [n] me) ms)) fr (p1 && p2) := by
 obtain ⟨k', to, po, so⟩ := ho
 obtain ⟨_, ln, ta, pa, sa⟩ := ha
 refine ⟨k', _, kRr hf (F.mono hj) hr hg hb .nil tk po pa he hpl ht, fun G L env σ H Q R h => kKw trivial (fun _ _ => kER) hn (kPi hW k' hm so sa (by decide) (by decide) (.inr rfl)) (fun env ds e z => ?_) R h⟩
 rw [gE2, kPO ln _ _ _ z]
 exact ha2
theorem kGI {pl : Sem Bool} (hW : ObOk W T) (hm : kHV W.K T m f n) (hf : PySem.W.keepIn X.K (.ref f) = true) (F : FnG X.prog X.w X.K X.mg X.base j f fd ps (spD W 0 fr ar FF)) (hr : Room k X.A) (hj : j ≤ k) (hg : X.A.guards = some []) (hb : Binds X.K fd ps []) (tk : Takes X Wx)
  (ho : DE W X Wx O o me 2 p1) (hn : ps.length = ar := by rfl) (ha2 : 1 = ar := by rfl)
  (ht : eval (.Call (.Attribute o m apos) [] [] pos) X.env = (do
   let ov ← eval o X.env
   standAt apos.atName
   let (f, first) ← holding [ov] (getMethod ov m pl)
   callWith pos f first (backTo pos (starEach [] X.env)) (backToKw pos (keywordEach [] X.env))) := by rfl) :
  DO W X Wx O (.Call (.Attribute o m apos) [] [] pos) (kAh FF [] (kAa (dChk [n] me) dNil)) fr (p1 && true) := by
 obtain ⟨k', to, po, so⟩ := ho
 obtain ⟨_, ln, ta, pa, sa⟩ := (kAd (W := W) (X := X) (Wx := Wx) (O := O) (z := 2) k')
 refine ⟨k', _, kPw hf (F.mono hj) hr hg hb .nil tk po ht, fun G L env σ H Q R h => kKw trivial (fun _ _ => kER) hn (kPi (ms := dNil) (p2 := true) (ta := tNil) hW k' hm so (fun G L env σ H Q R h => h [] H R Ev.refl (fun _ => rfl) ⟨rfl, fun i d v h1 _ => by simp at h1⟩) (by decide) (by decide) (.inr rfl)) (fun env ds e z => ?_) R h⟩
 rw [gE2, kPO (es := []) (fun env ds e h => by cases h; rfl) _ _ _ z]
 exact ha2
end
theorem Ev.ins {W : Wd} {T : CT} (hW : ObOk W T) {H : Hp} {a C dx : Addr} {fs fs' : List (Str × V)} (h : H a = some (.ins C dx fs)) : Ev W (fun b => b = a) H (upd H a (.ins C dx fs')) := by
 have ne : ∀ {b : Addr} {u : HO}, H b = some u → (∀ C dx fs, u ≠ .ins C dx fs) → b ≠ a := fun q d z => by rw [z, h] at q; exact d _ _ _ (gF3 q).symm
 refine ⟨fun b xs q _ => ?_, fun b xs q => ?_, fun b o u q => ?_, fun b kvs q _ => ?_, fun b kvs q _ => ?_, fun b k ds vs q z => hW.wr h z q, fun b q => ?_, fun b q t => kNw t (fun ps e => by rw [h] at e; cases e) (fun φ e => by rw [h] at e; cases e), fun b q t => kQA t (fun φ e => by rw [h] at e; cases e)⟩
 ·rw [upd_ne (ne q fun _ _ _ w => nomatch w)]; exact q
 ·rw [upd_ne (ne q fun _ _ _ w => nomatch w)]; exact q
 ·rw [upd_ne (ne q fun _ _ _ w => nomatch w)]; exact q
 ·rw [upd_ne (ne q fun _ _ _ w => nomatch w)]; exact q
 ·rw [upd_ne (ne q fun _ _ _ w => nomatch w)]; exact q
 ·by_cases e : b = a
  ·rw [e, upd_same] at q; cases q
  ·rw [upd_ne e] at q; exact q
section
variable {W : Wd} {T : CT} {G : Gh} {O : List Nat} {L : Lab} {env : EnvD} {σ : L2.St} {H : Hp} {i n : Nat}
theorem Rel.mutO (hW : ObOk W T) (R : Rel W G O L env σ H) {k k' : Nat} {ds ds' : List D} {a C dx : Addr} {vs' : List V} {fs fs' : List (Str × V)} (h : env[i]? = some (some (.obj k ds))) (o : O.getD i 0 = n + 1) (hv : σ[i]? = some (some (.ref a))) (ha : L a = some [i]) (hh : H a = some (.ins C dx fs))
  (hoa : W.oa a k' ds' vs' (upd H a (.ins C dx fs')) ∧ 64 ≤ k') (r : ∀ (j : Nat) (d : D) (v : V), ds'[j]? = some d → vs'[j]? = some v → Ow W L H n ([i] ++ [j]) d v) (ln : ds'.length = vs'.length) : Rel W G O L (env.set i (some (.obj k' ds'))) σ (upd H a (.ins C dx fs')) := by
 have evA : Ev W (fun b => b = a) H (upd H a (.ins C dx fs')) := Ev.ins hW hh
 have evL : Ev W (Zo L) H (upd H a (.ins C dx fs')) := evA.mono fun b z _ w => by rw [z, ha] at w; cases w
 refine ⟨by rw [gH6, R.len], fun j d e => ?_, fun b z w => R.dom b z (evA.dom b w), R.entry evA fun b z => ⟨i, [], by rw [z]; exact ha⟩, R.ext, R.loc, R.first, R.zero⟩
 by_cases q : i = j
 ·subst q
  have hl : i < env.length := by
   have := (gF8.mp e).1
   simpa using this
  rw [gI3 hl] at e
  have e' : D.obj k' ds' = d := gF3 (gF3 e)
  subst e'
  refine ⟨.ref a, hv, ?_⟩
  rw [o]
  refine ⟨a, vs', rfl, ha, hoa, ln, fun j d v h1 h2 => ?_⟩
  refine Ow.map (fun d v => Rp.ev evL d v) _ _ _ d v (fun b q e1 _ => ⟨e1, evA.ob fun z => ?_⟩) (r j d v h1 h2)
  rw [z, ha] at e1
  have := gF3 e1
  simp at this
 ·rw [gH4 q] at e
  obtain ⟨v', h1, h2⟩ := R.slot j d e
  refine ⟨v', h1, Ow.map (fun d v => Rp.ev evL d v) _ _ _ d v' (fun b q' e1 _ => ⟨e1, evA.ob fun z => ?_⟩) h2⟩
  rw [z, ha] at e1
  have := gF3 e1
  simp at this
  exact q this.1
theorem Rel.topO (R : Rel W G O L env σ H) {k : Nat} {ds : List D} (h : env[i]? = some (some (.obj k ds))) (o : O.getD i 0 = n + 1) : ∃ a vs, σ[i]? = some (some (.ref a)) ∧ L a = some [i] ∧ W.oa a k ds vs H ∧ 64 ≤ k ∧ ds.length = vs.length ∧
  ∀ (j : Nat) (d : D) (v : V), ds[j]? = some d → vs[j]? = some v → Ow W L H n ([i] ++ [j]) d v := by
 obtain ⟨v, h1, h2⟩ := R.slot i _ h
 rw [o] at h2
 unfold Ow at h2
 obtain ⟨a, vs, rfl, q1, q2, q3, q4⟩ := h2
 exact ⟨a, vs, h1, q1, q2.1, q2.2, q3, q4⟩
end
def kQM (T : CT) (l : List (Nat × Nat)) : Prop := ∀ p ∈ l, ∀ c : ClsT, T[p.1 - 1]? = some c → c.nv = c.fs.length ∨ p.2 + 1 < c.fs.length
def kHs (l : List (Nat × Nat)) (k : Nat) (ds : List D) (d : D) : Option D := match l.lookup (k / 64) with
 | some j => if k % 64 < 48 then (if j < ds.length then some (.obj k (ds.set j d)) else if j = ds.length then some (.obj (k + 1) (ds ++ [d])) else none) else none
 | none => none
def kJD (l : List (Nat × Nat)) (i : Nat) (m : M D) : MS := fun env => match env[i]? with
 | some (some (.obj _ _)) => (match m env with
  | .ok d e => (match e[i]? with
   | some (some (.obj k ds)) => (match kHs l k ds d with
    | some r => .nx (e.set i (some r))
    | none => .bad)
   | _ => .bad)
  | .exc c a e => .exc c a e
  | .bad => .bad)
 | _ => .bad
section
variable {W : Wd} {T : CT} {X : Cx} {Wx : WX} {F : Fc} {O O' : List Nat} {e : Expr} {me : M D} {p : Bool} {i : Nat} {x f : Str} {px pos pos' : Pos} {l : List (Nat × Nat)}
theorem kLc (hW : ObOk W T) (hl : kJU W.K T f l) (hso : kQM T l) (pv : PE X (.Name x px) (tVar i)) (he : DE W X Wx O e me 2 p) (o : O.getD i 0 = 1 := by rfl)
  (hs : swapsWith e (some (.Attribute (.Name x px) f pos')) pos.line X.env = pure false := by rfl) (cx : kDe O F.ox = true := by decide) :
  DS W X Wx F O (.Assign [.Attribute (.Name x px) f pos'] e pos) (kJD l i me) O := by
 obtain ⟨k, te, pe, se⟩ := he
 refine ⟨k, _, ps_fld pv pe hs, fun G L env σ H Dn g R h => se G L env σ H _ R ?_⟩
 unfold kJD at h
 split at h
 ·rename_i k0 ds0 ez
  cases q : me env with
  | bad => rw [q] at h; exact h.elim
  | exc c a e =>
   rw [q] at h
   exact kCK (z := 0) (p := true) (env := env) (fun hn => (g hn).2.1) cx h
  | ok d ea =>
   rw [q] at h
   have h : kDq W G F Wx O L H Dn (match ea[i]? with
    | some (some (.obj k ds)) => (match kHs l k ds d with
     | some r => .nx (ea.set i (some r))
     | none => .bad)
    | _ => .bad) := h
   intro v H1 R1 E1 P1 Z1
   split at h
   ·rename_i kk ds ez1
    obtain ⟨a, vs, hv, ha, hoa, hk, hln, hit⟩ := R1.topO ez1 o
    have Z1 : Rp W (Zo L) H1 d v := kFN Z1
    refine ⟨.ref a, hv, ?_⟩
    cases qs : kHs l kk ds d with
    | none => rw [qs] at h; exact h.elim
    | some r =>
     rw [qs] at h
     have hx : ∀ H' L', Rel W G O L' (ea.set i (some r)) σ H' → Fw W L H L' H' → Dn.nx σ H' := fun H' L' R' f => h σ H' L' R' fun _ => f
     clear h
     unfold kHs at qs
     split at qs
     ·rename_i j ql
      obtain ⟨t0, c, t1, t2, t3, t4⟩ := hl (kk / 64, j) (kFv ql)
      have so := hso (kk / 64, j) (kFv ql) c t1
      split at qs
      ·rename_i k48
       obtain ⟨hm, c', dx, hs, c1, c2, c3, c4⟩ := hW.ob hoa hk
       have e : c = c' := gF3 (t1.symm.trans c1)
       subst e
       obtain ⟨_, c5, c6, rfl, c7⟩ := c4.resolve_right (fun w => by omega)
       have nd := c2.1
       rw [gE2] at c3
       have fz : (c.fs.zip vs).length < 1000 := by
        rw [List.length_zip]
        omega
       rw [← k] at t3 t4
       refine ⟨a, _, dx, _, rfl, by rw [k]; exact c3, t3, t4, fz, ?_⟩
       have evA : ∀ fs', Ev W (fun b => b = a) H1 (upd H1 a (.ins (He.ga X.K c.nm) dx fs')) := fun fs' => Ev.ins hW (by rw [k]; exact c3)
       have fw : ∀ fs', Fw W L H L (upd H1 a (.ins (He.ga X.K c.nm) dx fs')) := fun fs' => ⟨(E1.mono fun b z _ => z.sub).trans ((evA fs').mono fun b z _ w => by rw [z, ha] at w; cases w), fun _ z => .inl z⟩
       split at qs
       ·rename_i hj
        cases qs
        have hjv : j < vs.length := by rw [← hln]; exact hj
        rw [kOS nd hjv t2]
        refine hx _ L (R1.mutO hW (n := 0) (k' := kk) (ds' := ds.set j d) (vs' := vs.set j v) (fs' := c.fs.zip (vs.set j v)) ez1 o hv ha (by rw [k]; exact c3) ⟨hW.of_ ⟨hk, c, dx, [], c1, c2, by rw [k, upd_same, gE2], .inl ⟨k48, by rw [gH6]; exact c5, by rw [gH6]; exact c6, rfl, by rw [gH6]; exact c7⟩⟩, hk⟩ (fun m d' v' a1 a2 => ?_) (by rw [gH6, gH6]; exact hln)) (fw _)
        by_cases em : j = m
        ·subst em
         rw [gI3 hj] at a1
         rw [gI3 hjv] at a2
         cases a1
         cases a2
         exact Z1
        ·rw [gH4 em] at a1 a2
         exact hit m d' v' a1 a2
       ·split at qs
        ·rename_i hj
         cases qs
         have hjv : j = vs.length := by rw [← hln]; exact hj
         have hf : c.fs[vs.length]? = some f := by rw [← hjv]; exact t2
         have hlt : vs.length < c.fs.length := (gF8.mp hf).1
         have hk1 : (kk + 1) / 64 = kk / 64 ∧ (kk + 1) % 64 = kk % 64 + 1 := by omega
         have hlt2 := c2.2
         rw [kOT nd hf]
         refine hx _ L (R1.mutO hW (n := 0) (k' := kk + 1) (ds' := ds ++ [d]) (vs' := vs ++ [v]) (fs' := c.fs.zip (vs ++ [v])) ez1 o hv ha (by rw [k]; exact c3) ⟨hW.of_ ⟨by omega, c, dx, [], by rw [hk1.1]; exact c1, c2, by rw [k, upd_same, gE2], .inl ⟨by rw [hk1.2]; omega, by rw [gG2, hk1.2, c5]; rfl, by rw [gG2]; exact hlt, rfl, ?_⟩⟩, by omega⟩ (kTj hln hit Z1 (.inl rfl)) (by rw [gG2, gG2, hln]; rfl)) (fw _)
         rcases so with so | so
         ·exact .inl so
         ·exact .inr (by rw [gG2, ← hjv]; exact so)
        ·cases qs
      ·cases qs
     ·cases qs
   ·exact h.elim
 ·exact h.elim
end
def kJg (e : EnvD) : FOut → Out D
 | .ok .non (.obj k ds) => .ok (.obj k ds) e
 | .ok _ _ => .bad
 | .exc c a _ => .exc c a e
 | .bad => .bad
def dNew (n : Nat) (FF : FM) (dd : List D) (ms : M (List D)) : M D := fun env => (ms env).bind fun ds e => kJg e (FF (.obj (64 * n) [] :: (ds ++ dd)))
def ghN1 (H : Hp) (L : Lab) (x : Addr) : Gh := ⟨H, fun a => if a = x then some [0] else match L a with | none => none | some _ => some [], 1, .ref x, (fun h => absurd h (by decide)), fun a l h => by
 by_cases e : a = x
 ·rw [if_pos e] at h
  exact .inr ⟨[], (gF3 h).symm⟩
 ·rw [if_neg e] at h
  cases q : L a with
  | none => rw [q] at h; cases h
  | some l' =>
   rw [q] at h
   exact .inl (gF3 h).symm⟩
theorem kNg {H : Hp} {L : Lab} {x a : Addr} : Zo (ghN1 H L x).L a ↔ a = x ∨ Zo L a := by
 show (if a = x then some [0] else match L a with | none => none | some _ => some []) ≠ none ↔ _
 by_cases e : a = x
 ·rw [if_pos e]
  exact ⟨fun _ => .inl e, fun _ w => (nomatch w)⟩
 ·rw [if_neg e]
  unfold Zo
  cases q : L a with
  | none => exact ⟨fun w => (w rfl).elim, fun w => w.elim (fun z => (e z).elim) fun z => (z rfl).elim⟩
  | some l => exact ⟨fun _ => .inr (fun w => (nomatch w)), fun _ w => (nomatch w)⟩
theorem kNh {H : Hp} {L : Lab} {x a : Addr} {q : List Nat} (h : (ghN1 H L x).L a = some (0 :: q)) : a = x := by
 have h : (if a = x then some [0] else match L a with | none => none | some _ => some []) = some (0 :: q) := h
 by_cases e : a = x
 ·exact e
 ·rw [if_neg e] at h
  cases r : L a with
  | none => rw [r] at h; cases h
  | some l => rw [r] at h; cases h
section
variable {W : Wd} {T : CT} {X : Cx} {Wx : WX} {O : List Nat} {e : Expr} {es : List Expr} {ms : M (List D)} {z : Nat} {p : Bool} {f : Addr} {fd : FuncData} {n j k ar : Nat} {ps : List Str} {FF : FM} {x : Str} {p0 pos : Pos} {c : ClsT} {dd : List D} {dvs : List V} {vds : List Value}
theorem kSY (hW : ObOk W T) (hT : T[n - 1]? = some c) (hn1 : 1 ≤ n) (hnd : c.fs.Nodup ∧ c.fs.length < 48) (hc : c.nv = c.fs.length ∨ 0 < c.fs.length) {G : Gh} {L : Lab} {env e1 : EnvD} {σ : L2.St} {H H1 : Hp} {Q : VK} {dsA : List D} {vsA : List V} (R1 : Rel W G O L e1 σ H1) (E1 : Ev W (Zp p L) H H1) (P1 : p = true → e1 = env) (rA : RpL W (Zo L) H1 dsA vsA) (la : dsA.length + 1 = ar)
  (h : kBp W G O L p 2 Wx env σ H Q (kJg e1 (FF (.obj (64 * n) [] :: dsA)))) (x dx : Addr) (hx : H1 x = none) (hdx : H1 dx = none) (ne : dx ≠ x) :
  spD W 1 0 ar FF (.ref x :: vsA) (upd (upd H1 dx (.own x)) x (.ins (He.ga W.K c.nm) dx [])) (fun v H2 => v = .non ∧ Q (.ref x) H2) (WE Wx σ) := by
 have n2 : (upd H1 dx (.own x)) x = none := by rw [upd_ne (Ne.symm ne)]; exact hx
 have ev : ∀ {Z : Addr → Prop}, Ev W Z H1 (upd (upd H1 dx (.own x)) x (.ins (He.ga W.K c.nm) dx [])) := fun {Z} => (Ev.new hdx).trans (Ev.new n2)
 have nL : L x = none := R1.free hx
 refine ⟨?_, fun p hp => (ev (Z := No)).tab p hp (R1.ent.tabs p hp), ghN1 _ L x, .obj (64 * n) [] :: dsA, rfl, rfl, ⟨?_, fun i d u h1 h2 => ?_, fun a z => ?_, fun _ => rfl⟩, ?_⟩
 ·rw [gG0, ← rA.length]
  exact la
 ·rw [gG0, gG0, rA.length]
 ·cases i with
  | zero =>
   cases h1
   cases h2
   rw [if_pos rfl]
   have hk : 64 * n / 64 = n ∧ 64 * n % 64 = 0 := by omega
   refine ⟨x, [], rfl, if_pos rfl, ⟨hW.of_ ⟨by omega, c, dx, [], by rw [hk.1]; exact hT, hnd, ?_, .inl ⟨by rw [hk.2]; decide, by rw [hk.2]; rfl, Nat.zero_le _, rfl, hc⟩⟩, by omega⟩, rfl, fun j d' v' a1 _ => by simp at a1⟩
   rw [gE2, List.zip_nil_right]
   exact upd_same
  | succ i =>
   have h1 : dsA[i]? = some d := h1
   have h2 : vsA[i]? = some u := h2
   obtain ⟨v', w1, w2⟩ := rA.getD h1
   rw [h2] at w1
   rw [gF3 w1, if_neg (Nat.succ_ne_zero i)]
   exact Rp.ev ev d v' (Rp.shun (fun a z hn => (kNg.mp z).resolve_left fun e => hn (by rw [e]; exact hx)) d v' w2)
 ·rcases kNg.mp z with e | z
  ·show (upd (upd H1 dx (.own x)) x (.ins (He.ga W.K c.nm) dx [])) a ≠ none
   rw [e, upd_same]
   exact fun w => nomatch w
  ·exact fun w => R1.dom a z (ev.dom (Z := No) a w)
 ·have zo : ∀ {L' : Lab}, (∀ a l, (ghN1 (upd (upd H1 dx (.own x)) x (.ins (He.ga W.K c.nm) dx [])) L x).L a = some l → L' a = some l) → ∀ a, Zo L a → Zo L' a := fun {L'} ext a z => by
   have q := kNg (H := upd (upd H1 dx (.own x)) x (.ins (He.ga W.K c.nm) dx [])) (L := L) (x := x) (a := a) |>.mpr (.inr z)
   unfold Zo at q
   cases r : (ghN1 (upd (upd H1 dx (.own x)) x (.ins (He.ga W.K c.nm) dx [])) L x).L a with
   | none => exact (q r).elim
   | some l =>
    have := ext a l r
    intro w
    rw [this] at w
    cases w
  cases q2 : FF (.obj (64 * n) [] :: dsA) with
  | bad => rw [q2] at h; exact h.elim
  | exc cx a io =>
   rw [q2] at h
   intro cv ddx H' L' ext new zero dom ev' own xr
   have e2 : Ev W No H1 H' := (ev (Z := No)).trans2 ev' fun b ⟨q, z⟩ hn => hn (by rw [kNh z]; exact hx)
   exact h cv ddx H' (R1.pure e2) (ExR.back (zo ext) xr)
  | ok d io =>
   rw [q2] at h
   intro u H' L' ext new zero dom ev' own o
   have e2 : Ev W No H1 H' := (ev (Z := No)).trans2 ev' fun b ⟨q, z⟩ hn => hn (by rw [kNh z]; exact hx)
   cases d with
   | non =>
    cases io with
    | obj kk dsn =>
     have o : Rp W (Zo L') H' .non u := o
     unfold Rp at o
     refine ⟨o, h (.ref x) H' (R1.pure e2) (E1.trans (e2.mono fun _ z _ => z.elim)) P1 ?_⟩
     exact Ow.thaw (L := L') (L' := L) (fun a z => zo ext a z) 1 [0] _ _ (fun a q z => by
      have y := zero ⟨Nat.succ_ne_zero 0, Nat.le_succ 1⟩ a q z
      rw [kNh y]
      exact nL) (own (Nat.succ_ne_zero 0))
    | non => exact h.elim
    | bool b => exact h.elim
    | int i => exact h.elim
    | str x => exact h.elim
    | tup xs => exact h.elim
    | lst xs => exact h.elim
    | dic _ es => exact h.elim
    | ro xs => exact h.elim
   | bool b => exact h.elim
   | int i => exact h.elim
   | str x => exact h.elim
   | tup xs => exact h.elim
   | lst xs => exact h.elim
   | dic _ es => exact h.elim
   | obj k ds => exact h.elim
   | ro xs => exact h.elim
end
end DL
namespace DL
open PySem PySem.Spec PyProof.Rows L2
def PsR (W : Wd) (L : Lab) (H : Hp) : List (Str × D) → List (V × V) → Prop
 | [], ps => ps = []
 | (k, d) :: r, ps => ∃ v qs, ps = (.str k, v) :: qs ∧ RpZ W L H 2 d v ∧ PsR W L H r qs
section
variable {W : Wd} {X : Cx} {Wx : WX} {O : List Nat} {L : Lab} {H H' : Hp} {pos pos' p0 : Pos}
theorem PsR.ev : ∀ {ds : List (Str × D)} {ps : List (V × V)}, PsR W L H ds ps → Ev W No H H' → PsR W L H' ds ps
 | [], _, h, _ => h
 | (k, d) :: r, _, h, e => by
  obtain ⟨v, qs, e1, h1, h2⟩ := h
  exact ⟨v, qs, e1, RpZ.ev (p := true) h1 e (.inr rfl), PsR.ev h2 e⟩
end
theorem kTm {tps : List ((PySem.W.Frag → Addr) × List Str)} {K : PySem.W.Frag} (h : obsT tps K = true) (i : Nat) {x : PySem.W.Frag → Addr} {ws : List Str} (e : tps[i]? = some (x, ws)) (hm : ws ≠ kIm := by decide) : tupS K (x K) ws = true := by
 have z : kPC K (x, ws) = true := gH5.mp h (x, ws) (gH9 e)
 unfold kPC at z
 rw [if_neg hm] at z
 exact z
theorem kRs {tps : List ((PySem.W.Frag → Addr) × List Str)} {K : PySem.W.Frag} (h : obsT tps K = true) (i : Nat) {x : PySem.W.Frag → Addr} (e : tps[i]? = some (x, kIm)) : insB K (x K) = true := by
 have z : kPC K (x, kIm) = true := gH5.mp h (x, kIm) (gH9 e)
 unfold kPC at z
 rw [if_pos rfl] at z
 exact z
end DL
namespace DL
open PySem PySem.Spec PyProof.Rows L2 HT
section
variable {W : Wd} {X : Cx} {Wx : WX} {O : List Nat} {e : Expr} {m : M D} {z : Nat} {p : Bool} {pos p0 p1 p2 p3 : Pos} {k k0 : Nat}
theorem kRq {te : TE} (he : PE X e te) : PE X (.Subscript e (.Slice none none (some (.BinOp (.Constant (.int 0) k0 p0) .Sub (.Constant (.int 1) k p1) p2)) p3) pos) (tRevL X.K te) := PE.mk fun pins s σ H Q I h => by
 refine Subscript_ (thn (he.run pins s σ H _ I h) fun v s1 w => ?_)
 obtain ⟨x, H1, I1, r1, a, xs, rfl, hx, q⟩ := w
 cases r1
 have part : PO X (some (.BinOp (.Constant (.int 0) k0 p0) .Sub (.Constant (.int 1) k p1) p2)) (tPart (tSub (tC (.int 0)) (tC (.int 1)))) := po_some (pe_sub pe_int pe_int)
 refine wpAny_Slice (thn (po_none.run pins s1 σ H1 (fun o H2 => o = none ∧ H2 = H1) I1 ⟨rfl, rfl⟩) fun lo s2 y2 => ?_)
 obtain ⟨_, _, I2, pl, rfl, rfl⟩ := y2
 refine thn (po_none.run pins s2 σ _ (fun o H2 => o = none ∧ H2 = _) I2 ⟨rfl, rfl⟩) fun hi s3 y3 => ?_
 obtain ⟨_, _, I3, pu, rfl, rfl⟩ := y3
 refine thn (part.run pins s3 σ _ (fun o H2 => o = some (-1) ∧ H2 = _) I3 ⟨0, 1, rfl, rfl, -1, rfl, rfl, rfl⟩) fun st s4 y4 => ?_
 obtain ⟨_, _, I4, ps, rfl, rfl⟩ := y4
 have I5 := I4.kept (h' := s4.heap.push { cls := .type "slice", data := .fields #[lo, hi, st] }) (t' := s4.toks) fun b ob w => Heap.get?_push_of_some _ w
 obtain ⟨its, r, ht, hz⟩ := I5.list hx
 have hl := r.length
 show wpAny (model X.prog X.w) X.A (subscriptTail e (.Slice none none (some (.BinOp (.Constant (.int 0) k0 p0) .Sub (.Constant (.int 1) k p1) p2)) p3) (.ref a) (.ref s4.heap.objs.size)) (EP X pins σ Q) X.xe _
 have isS := Heap.IsSliceOf.new s4.heap lo hi st
 refine tail_any (ops := [.ref a, .ref s4.heap.objs.size]) (ht.isList).typeIs (PySem.slot_list_getitem.lookup) (wpAny_getItem_list_slice (ht.isList) isS pl pu ps (by decide) ?_ (by rw [List.size_toArray]; omega)) (by with_unfolding_all rfl)
 rw [PySem.W.krv_pick]
 refine ⟨.ref _, _, I5.laid (t' := s4.toks) (o := .lst xs.reverse) (fun b ob w => Heap.get?_push_of_some _ w) (Nat.le_refl _) ?_, rfl, q _ (I5.hok.fresh (Nat.le_refl _))⟩
 refine ⟨?_, its.reverse, 0, ?_, Heap.get?_push_size _ rfl⟩
 ·rw [List.length_reverse]
  exact hz
 ·exact r.reverse
theorem kRp {te : TE} (he : PE X e te) : PE X (.Subscript e (.Slice none none (some (.BinOp (.Constant (.int 0) k0 p0) .Sub (.Constant (.int 1) k p1) p2)) p3) pos) (kVC X.K te) := PE.mk fun pins s σ H Q I h => by
 refine Subscript_ (thn (he.run pins s σ H _ I h) fun v s1 w => ?_)
 obtain ⟨x, H1, I1, r1, a, xs, rfl, hx, q⟩ := w
 cases r1
 have part : PO X (some (.BinOp (.Constant (.int 0) k0 p0) .Sub (.Constant (.int 1) k p1) p2)) (tPart (tSub (tC (.int 0)) (tC (.int 1)))) := po_some (pe_sub pe_int pe_int)
 refine wpAny_Slice (thn (po_none.run pins s1 σ H1 (fun o H2 => o = none ∧ H2 = H1) I1 ⟨rfl, rfl⟩) fun lo s2 y2 => ?_)
 obtain ⟨_, _, I2, pl, rfl, rfl⟩ := y2
 refine thn (po_none.run pins s2 σ _ (fun o H2 => o = none ∧ H2 = _) I2 ⟨rfl, rfl⟩) fun hi s3 y3 => ?_
 obtain ⟨_, _, I3, pu, rfl, rfl⟩ := y3
 refine thn (part.run pins s3 σ _ (fun o H2 => o = some (-1) ∧ H2 = _) I3 ⟨0, 1, rfl, rfl, -1, rfl, rfl, rfl⟩) fun st s4 y4 => ?_
 obtain ⟨_, _, I4, ps, rfl, rfl⟩ := y4
 cases pl
 cases pu
 have I5 := I4.kept (h' := s4.heap.push { cls := .type "slice", data := .fields #[.none, .none, st] }) (t' := s4.toks) fun b ob w => Heap.get?_push_of_some _ w
 obtain ⟨its, r, ht, hz⟩ := I5.tuple hx
 have hl := r.length
 show wpAny (model X.prog X.w) X.A (subscriptTail e (.Slice none none (some (.BinOp (.Constant (.int 0) k0 p0) .Sub (.Constant (.int 1) k p1) p2)) p3) (.ref a) (.ref s4.heap.objs.size)) (EP X pins σ Q) X.xe _
 refine tail_any (ops := [.ref a, .ref s4.heap.objs.size]) ht.typeIs (PyProof.Rows.slot_tuple_getitem.lookup) (kHP ht (Heap.IsSliceOf.new _ .none .none st) ps ?_ (by rw [List.size_toArray]; omega)) (by with_unfolding_all rfl)
 have e5 : its.toArray.toList.reverse.toArray = its.reverse.toArray := by simp
 rw [e5]
 refine ⟨.ref _, _, I5.laid (t' := s4.toks) (o := .tup xs.reverse) (fun b ob w => Heap.get?_push_of_some _ w) (Nat.le_refl _) ⟨by simpa using hz, its.reverse, ?_, ⟨_, Heap.get?_push_size _ rfl, rfl, _, rfl⟩⟩, rfl, q _ (I5.hok.fresh (Nat.le_refl _))⟩
 have rev : ∀ {ys : List V} {us : List Value}, Vals ys us → Vals ys.reverse us.reverse := by
  intro ys us w
  induction w with
  | nil => exact .nil
  | cons w1 _ ih =>
   rw [List.reverse_cons, List.reverse_cons]
   exact ih.append (.cons w1 .nil)
 exact rev r
theorem kQp (h : DE W X Wx O e m z p) (l1 : 1 ≤ z := by decide) (k2 : z ≤ 2 := by decide) : DO W X Wx O (.Subscript e (.Slice none none (some (.BinOp (.Constant (.int 0) k0 p0) .Sub (.Constant (.int 1) k p1) p2)) p3) pos) (dUn dRev m) 1 p := by
 obtain ⟨hk, t, pe, s⟩ := h
 refine ⟨hk, _, PE.or (kRq pe) (kRp pe), fun G L env σ H Q R h => ?_⟩
 unfold dUn at h
 cases q1 : m env with
 | bad => rw [q1] at h; exact h.elim
 | exc c a e =>
  rw [q1] at h
  refine .inl (s G L env σ H _ R ?_)
  rw [q1]
  exact h
 | ok d e1 =>
  rw [q1] at h
  have fin : ∀ (d' : D) (v : V) (H1 H' : Hp), kDB W G O L p 1 Wx env σ H Q (.ok d' e1) → Rel W G O L e1 σ H1 → Ev W (Zp p L) H H1 → (p = true → e1 = env) → NewV W L H1 d' v H' → Q v H' := fun d' v H1 H' h R1 E1 P1 nv => by
   obtain ⟨L', u, w, ra, rb, ev, o, rr⟩ := kGh R1 nv (H0 := H) (.inr trivial)
   exact h v H' L' u (w.back E1) ra rb (E1.trans (ev.mono fun _ z _ => z.elim)) P1 o rr
  match d, h, q1 with
  | .lst ds, h, q1 =>
   refine .inl (s G L env σ H _ R ?_)
   rw [q1]
   intro v H1 R1 E1 P1 Z1
   obtain ⟨a, vs, rfl, h1, sz, r⟩ := kIy (Z1.le (.inl l1) k2)
   exact ⟨a, vs, rfl, SqL.of h1, fun pa np => fin _ _ H1 _ h R1 E1 P1 (.inl ⟨pa, _, _, rfl, rfl, np, rfl, r.reverse, by simpa using sz⟩)⟩
  | .ro ds, h, q1 =>
   refine .inl (s G L env σ H _ R ?_)
   rw [q1]
   intro v H1 R1 E1 P1 Z1
   obtain ⟨a, vs, rfl, h1, sz, r⟩ := kOB (Z1.le (.inl l1) k2)
   exact ⟨a, vs, rfl, by rw [hk]; exact h1, fun pa np => fin _ _ H1 _ h R1 E1 P1 (.inl ⟨pa, _, _, rfl, rfl, np, rfl, r.reverse, by simpa using sz⟩)⟩
  | .tup ds, h, q1 =>
   refine .inr (s G L env σ H _ R ?_)
   rw [q1]
   intro v H1 R1 E1 P1 Z1
   obtain ⟨a, vs, rfl, h1, sz, r⟩ := kIx (Z1.le (.inl l1) k2)
   refine ⟨a, vs, rfl, by rw [hk]; exact h1, fun pa np => fin _ _ H1 _ h R1 E1 P1 (.inr ⟨rfl, Ev.new np, ?_⟩)⟩
   unfold Rp
   exact ⟨pa, _, rfl, ⟨upd_same, by simpa using sz⟩, RpL.ev (Ev.new np) _ _ r.reverse⟩
  | .non, h, _ => exact h.elim
  | .bool _, h, _ => exact h.elim
  | .int _, h, _ => exact h.elim
  | .str _, h, _ => exact h.elim
  | .dic _ _, h, _ => exact h.elim
  | .obj _ _, h, _ => exact h.elim
end
end DL
namespace DL
open PySem PySem.Spec PyProof.Rows L2
def tI (W : Wd) (Wx : WX) (O : List Nat) (m : M (List D)) (p : Bool) : TI := fun σ H R => ∃ (G : Gh) (L : Lab) (env : EnvD), Rel W G O L env σ H ∧ kNq W G O L p Wx env σ H R (m env)
theorem DI.plain_ {W : Wd} {X : Cx} {Wx : WX} {O : List Nat} {tg iter : Expr} {m : M (List D)} {p : Bool} (h : DI W X Wx O tg iter m p) : PI X tg iter (tI W Wx O m p) := by
 obtain ⟨_, t, pi, s⟩ := h
 exact ⟨fun pins st σ H R I ⟨G, L, env, Rl, q⟩ => pi.run pins st σ H R I (s G L env σ H R Rl q)⟩
def aAdd : D → D → Option D
 | .int a, .int b => some (.int (a + b))
 | .str x, .str y => if x.length + y.length ≤ sizeLine then some (.str (x ++ y)) else none
 | _, _ => none
def dAug (i : Nat) (F : D → D → Option D) (m : M D) : MS := fun env => match env[i]? with
 | some (some d0) => (match m env with
  | .ok d e => (match F d0 d with
   | some r => .nx (e.set i (some r))
   | none => .bad)
  | .exc c a e => .exc c a e
  | .bad => .bad)
 | _ => .bad
def AF (ti : TIp) (F : D → D → Option D) : Prop := ∀ (a b r : D) (H : Hp) (Q : VK), F a b = some r → (∃ x : V, (∀ (W : Wd) (Z : Addr → Prop) (H : Hp) (v : V), Rp W Z H a v → v = x) ∧ ∃ y : V, (∀ (W : Wd) (Z : Addr → Prop) (H : Hp) (v : V), Rp W Z H b v → v = y) ∧
 ∃ z : V, (∀ (W : Wd) (Z : Addr → Prop) (H : Hp), Rp W Z H r z) ∧ (Q z H → ti x y H Q))
def kUp : TIp := fun x y H Q => ipI (fun i j => i + j) x y H Q ∨ ∃ i j, x = .str i ∧ y = .str j ∧ i.length + j.length ≤ sizeLine ∧ Q (.str (i ++ j)) H
section
variable {W : Wd} {X : Cx} {Wx : WX} {F : Fc} {O : List Nat} {e : Expr} {me : M D} {p : Bool} {x : Str} {i : Nat} {pos pos' : Pos}
theorem kTD : PIp X .Add kUp := fun pins s σ H x y v u Q I r1 r2 h => by
 rcases h with h | h
 ·exact ip_add pins s σ H x y v u Q I r1 r2 h
 ·exact iop_add_str pins s σ H x y v u Q I r1 r2 h
theorem kVq : AF kUp aAdd := fun a b r H Q h => by
 unfold aAdd at h
 split at h
 ·rename_i i j
  cases h
  refine ⟨.int i, fun W Z H v r => by unfold Rp at r; exact r, .int j, fun W Z H v r => by unfold Rp at r; exact r, .int (i + j), fun W Z H => by unfold Rp; rfl, fun q => .inl ⟨i, j, rfl, rfl, q⟩⟩
 ·rename_i i j
  split at h
  ·rename_i sz
   cases h
   refine ⟨.str i, fun W Z H v r => by unfold Rp at r; exact r, .str j, fun W Z H v r => by unfold Rp at r; exact r, .str (i ++ j), fun W Z H => by unfold Rp; rfl, fun q => .inr ⟨i, j, rfl, rfl, sz, q⟩⟩
  ·cases h
 ·cases h
theorem kVf {ti : TIp} {Fd : D → D → Option D} {op : Operator} (he : DE W X Wx O e me 2 p) (af : AF ti Fd) (ps : ∀ te, PE X e te → PS X (.AugAssign (.Name x pos') op e pos) (tAug i te ti)) (o : O.getD i 0 = 0 := by rfl) (hi : i ≠ 0 ∨ O.getD 0 0 = 0 := by decide) (cx : kDe O F.ox = true := by decide) :
  DS W X Wx F O (.AugAssign (.Name x pos') op e pos) (dAug i Fd me) O := by
 obtain ⟨k, te, pe, se⟩ := he
 refine ⟨k, _, ps te pe, fun G L env σ H Dn g R h => ?_⟩
 unfold dAug at h
 cases q0 : env[i]? with
 | none => simp only [q0] at h; exact h.elim
 | some o0 =>
  cases o0 with
  | none => simp only [q0] at h; exact h.elim
  | some d0 =>
   simp only [q0] at h
   obtain ⟨v0, s0, r0⟩ := R.frozen q0 o
   refine ⟨v0, s0, se G L env σ H _ R ?_⟩
   cases q : me env with
   | bad => simp only [q] at h; exact h.elim
   | exc c a e =>
    simp only [q] at h
    exact kCK (z := 0) (p := true) (env := env) (fun hn => (g hn).2.1) cx h
   | ok d e1 =>
    simp only [q] at h
    intro v H' R' E P Z
    cases q2 : Fd d0 d with
    | none => simp only [q2] at h; exact h.elim
    | some r =>
     simp only [q2] at h
     obtain ⟨x1, hx, y1, hy, z1, hz, fin⟩ := af d0 d r H' (fun z H2 => Dn.nx (σ.set i (some z)) H2) q2
     have e0 := hx _ _ _ _ r0
     have e1' := hy _ _ _ _ Z.any
     subst e0 e1'
     refine fin ?_
     have Z2 : RpZ W L H' 2 r z1 := RpZ.two (hz W (Zo L) H')
     have R2 := R'.set (i := i) (kFN Z2) (hi.imp id fun z => Decidable.by_contra fun hn => hn ((R.first hn).2.symm.trans z))
     have oo : O.set i 0 = O := by
      refine List.ext_getElem (by simp) fun j h1 h2 => ?_
      rw [List.getElem_set]
      split
      ·rename_i w
       subst w
       rw [gH7, gF6 h2] at o
       exact o.symm
      ·rfl
     rw [oo] at R2
     exact h _ H' L R2 fun _ => Fw.of E
end
end DL
namespace DL
open PySem PySem.Spec PyProof.Rows L2
section
variable {W : Wd} {G : Gh} {O : List Nat} {L : Lab} {env e2 : EnvD} {σ : L2.St} {H H2 : Hp} {n i : Nat}
theorem Rel.give (R : Rel W G O L env σ H) (hi : i ≠ 0 ∨ G.n = 0) : Rel W G O (relabT i tmp L) (env.set i none) σ H := by
 have sh : ∀ d v, Rp W (Zo L) H d v → Rp W (Zo (relabT i tmp L)) H d v := fun d v => Rp.shun (fun a z _ => kBK.mp z) d v
 refine ⟨by rw [gH6, R.len], fun j d e => ?_, fun a z => R.dom a (kBK.mp z), R.ent, fun a l e => kEf (R.ext a l e) fun q w => ?_, fun a l e g => ?_, R.first, fun hn a q e => ?_⟩
 ·by_cases q : i = j
  ·subst q
   rw [List.getElem?_set] at e
   split at e
   ·split at e <;> cases e
   ·rename_i w
    exact (w rfl).elim
  ·rw [gH4 q] at e
   obtain ⟨v, h1, h2⟩ := R.slot j d e
   exact ⟨v, h1, Ow.map sh _ [j] [j] d v (fun a r e1 _ => ⟨kEf e1 fun q' w => by
    have w : j :: r = i :: q' := w
    injection w with w1 _
    exact q w1.symm, Stay.refl⟩) h2⟩
 ·rw [w] at e
  rcases G.hd a _ e with r | ⟨r, r2⟩
  ·cases r
  ·injection r2 with r3 _
   rcases hi with hi | hi
   ·exact hi r3
   ·exact G.no hi a q (by rw [e, r3])
 ·rcases kBW e with e | ⟨q, e, w⟩
  ·exact R.loc a l e g
  ·exact ⟨(R.loc a _ e g).1, tmp, q, w⟩
 ·rcases kBW e with e | ⟨q', e, w⟩
  ·exact R.zero hn a q e
  ·injection w with w _
   exact absurd w (by decide)
end
def kOM (i : Nat) : MS := fun env => match env[i]? with
 | some (some d) => .rt d (env.set i none)
 | _ => .bad
theorem kTp {i : Nat} : NoNx (kOM i) := fun env e h => by
 unfold kOM at h
 split at h <;> cases h
section
variable {W : Wd} {X : Cx} {Wx : WX} {F : Fc} {O O' : List Nat} {i n : Nat} {x : Str} {p pos : Pos}
theorem kTK (pv : PE X (.Name x p) (tVar i)) (f0 : F.fr = n := by rfl) (o : O.getD i 0 = n := by rfl) (hi : i ≠ 0 ∨ O.getD 0 0 = 0 := by decide) (hl : O.length ≤ tmp := by decide) (cr : kDe O F.ort = true := by decide) (k : X.K = W.K := by rfl) : DS W X Wx F O (.Return (some (.Name x p)) pos) (kOM i) O' := by
 refine ⟨k, _, ps_ret pv, fun G L env σ H Dn g R h => ?_⟩
 unfold kOM at h
 split at h
 ·rename_i d e
  obtain ⟨v, h1, h2⟩ := R.slot i d e
  have hg : i ≠ 0 ∨ G.n = 0 := hi.imp id fun z => Decidable.by_contra fun hn => hn ((R.first hn).2.symm.trans z)
  refine ⟨v, h1, h v σ H _ ((R.give hg).thin cr fun hn => ((g hn).1).trans (R.first hn).2.symm) ?_⟩
  rw [f0]
  rw [o] at h2
  have gd : ∀ (l : List Nat), l.length ≤ tmp → l.getD tmp 0 = 0 := fun l hl => by
   rw [gH7, gI1.mpr (by omega)]
   rfl
  refine Ow.map (fun d v r => Rp.shun (fun a z _ => kBK.mp (kCN z)) d v r) n [i] [tmp] d v (fun a r e1 e2 => ⟨kGC (kKM e1) fun j q w => ?_, Stay.refl⟩) h2
  have w' : tmp :: r = j :: q := w
  injection w' with w1 _
  rw [← w1, gd O hl]
  rcases kKo cr tmp with c | c
  ·rw [c, gd O hl]
  ·exact c
 ·exact h.elim
end
end DL
namespace DL
open PySem PySem.Spec PyProof.Rows L2 PySem.W
def kLz : List D → Option (List Str)
 | [] => some []
 | .str x :: ds => (match kLz ds with
  | some xs => some (x :: xs)
  | none => none)
 | _ :: _ => none
theorem kNy {W : Wd} {Z : Addr → Prop} {H : Hp} : ∀ {ds : List D} {vs : List V} {xs : List Str}, kLz ds = some xs → RpL W Z H ds vs → vs = xs.map V.str
 | [], vs, xs, h, r => by
  cases h
  unfold RpL at r
  rw [r]
  rfl
 | d :: ds, vs, xs, h, r => by
  unfold RpL at r
  obtain ⟨v, us, rfl, r1, r2⟩ := r
  cases d <;> first | (cases h; done) | skip
  rename_i x
  unfold kLz at h
  cases q : kLz ds with
  | none => rw [q] at h; cases h
  | some ys =>
   rw [q] at h
   cases h
   unfold Rp at r1
   rw [r1, kNy q r2]
   rfl
def kJT (a : Str) : D → Option D
 | .lst ds => (match kLz ds with
  | some xs => if (xs.map (·.length)).sum + xs.length * a.length ≤ 16777216 then some (.str (Txt.join a xs)) else none
  | none => none)
 | _ => none
section
variable {W : Wd} {X : Cx} {Wx : WX} {O : List Nat} {o e : Expr} {s : Str} {m : M D} {p : Bool} {z : Nat} {apos pos : Pos}
theorem kQs (ho : PE X o (fun _ H Q => Q (.str s) H)) (he : DE W X Wx O e m 2 p) (hs : starEach [e] X.env = [(false, eval e X.env)] := by rfl) (hbase : attributeBase o "join" X.env (eval o X.env) = eval o X.env := by rfl) (hline : (apos.endLine == pos.line) = true := by rfl) :
  DE W X Wx O (.Call (.Attribute o "join" apos) [e] [] pos) (dUn (kJT s) m) 2 p := by
 obtain ⟨k, te, pe, se⟩ := he
 refine ⟨k, _, pe_join ho pe hs hbase hline, fun G L env σ H Q R h => ⟨⟨s, rfl⟩, se G L env σ H _ R ?_⟩⟩
 unfold dUn at h
 cases q1 : m env with
 | bad => rw [q1] at h; exact h.elim
 | exc c a e => rw [q1] at h; exact h
 | ok d e1 =>
  rw [q1] at h
  intro v H' R' E P Z
  replace h : kBp W G O L p 2 Wx env σ H Q (lift (kJT s d) e1) := h
  obtain ⟨ds, rfl⟩ : ∃ ds, d = .lst ds := by
   cases d <;> first | exact ⟨_, rfl⟩ | exact h.elim
  unfold kJT at h
  cases q2 : kLz ds with
  | none => simp only [q2] at h; exact False.elim h
  | some xs =>
   simp only [q2] at h
   by_cases c : (xs.map (·.length)).sum + xs.length * s.length ≤ 16777216
   ·rw [if_pos c] at h
    have r := Z.any
    unfold Rp at r
    obtain ⟨a, vs, rfl, _, ⟨h1, h2⟩, h3⟩ := r
    rw [kNy q2 h3] at h1
    exact ⟨s, a, xs, rfl, rfl, .inl (.inl (.inl h1)), c, h _ H' R' E P kMU⟩
   ·rw [if_neg c] at h
    exact False.elim h
end
end DL
namespace DL
open PySem PySem.Spec PySem.Calls PyProof.Rows L2 NdefX
open PySem.W (kla_obj kla_fn)
section
variable {W : Wd} {X : Cx} {pins : List (Addr × Obj)} {σ : L2.St} {H : Hp} {s : Shared}
theorem Ev.tbl {P c : Addr} {q : Str} {ps : Array Value} {pos : Pos} (hP : H P = some (.tbl ps)) (nC : H c = none) (ht : TriplesOk ps.toList) (hu : ∀ p ∈ W.T, p.1 = P → p.2 = q)
  (ha : ∀ (pos : Pos) (cv : Value), codeAmong pos ps.toList = some cv → ∃ c, cv = .ref c ∧ H c = some (LamX.CodeO c q)) :
  Ev W No H (upd (upd H P (.tbl (ps ++ #[rawInt pos.line, rawInt pos.col, .ref c]))) c (LamX.CodeO c q)) := by
 have nPc : P ≠ c := fun z => by rw [z, nC] at hP; cases hP
 have go : ∀ (b : Addr) (u : HO), H b = some u → (∀ qs, u ≠ .tbl qs) → upd (upd H P (.tbl (ps ++ #[rawInt pos.line, rawInt pos.col, .ref c]))) c (LamX.CodeO c q) b = some u := fun b u e n => by
  rw [upd_ne (fun z => by rw [z, nC] at e; cases e), upd_ne (fun z => by rw [z, hP] at e; exact n ps (gF3 e).symm)]
  exact e
 have eL : (ps ++ #[rawInt pos.line, rawInt pos.col, .ref c]).toList = ps.toList ++ [rawInt pos.line, rawInt pos.col, .ref c] := by simp
 refine ⟨fun a xs h _ => go a _ h (fun _ w => nomatch w), fun a xs h => go a _ h (fun _ w => nomatch w), fun a o u h => go a _ h (fun _ w => nomatch w), fun a xs h _ => go a _ h (fun _ w => nomatch w), fun a xs h _ => go a _ h (fun _ w => nomatch w),
  fun a k ds vs h _ => W.new (by rw [upd_ne (Ne.symm nPc)]; exact nC) (W.tbw hP h), fun a h => ?_, fun p hp h => ?_, fun a r h => go a _ h LamX.codeO_ne⟩
 ·by_cases e : a = c
  ·rw [e]; exact nC
  ·rw [upd_ne e] at h
   by_cases e2 : a = P
   ·rw [e2, upd_same] at h; cases h
   ·rw [upd_ne e2] at h; exact h
 ·obtain ⟨qs, h1, h2, h3⟩ := h
  by_cases e : p.1 = P
  ·rw [hu p hp e, e]
   refine ⟨_, by rw [upd_ne nPc, upd_same], by rw [eL]; exact PySem.TriplesOk_snoc _ _ _ _ ht, fun pos' cv hc => ?_⟩
   rw [eL] at hc
   rcases LamX.among_app _ ht hc with z | z
   ·obtain ⟨c0, e1, e2⟩ := ha pos' cv z
    exact ⟨c0, e1, go _ _ e2 LamX.codeO_ne⟩
   ·exact ⟨c, z, upd_same⟩
  ·refine ⟨qs, ?_, h2, fun pos' cv hc => ?_⟩
   ·rw [upd_ne (fun z => by rw [z, nC] at h1; cases h1), upd_ne e]
    exact h1
   ·obtain ⟨c0, e1, e2⟩ := h3 pos' cv hc
    exact ⟨c0, e1, go _ _ e2 LamX.codeO_ne⟩
end
section
variable {X : Cx} {pins : List (Addr × Obj)} {σ : L2.St} {H : Hp} {s : Shared} {h' : Heap}
structure Fre (X : Cx) (pins : List (Addr × Obj)) (a : Addr) : Prop where
 sz : X.s_0.heap.objs.size ≤ a
 loc : a ≠ X.env.locals
 fs : a ∉ X.fs
 cel : ∀ x c, X.env.cells.lookup x = some c → c ≠ a
 pin : ∀ p ∈ X.pn ++ pins, p.1 ≠ a
theorem Inv.two {t' : Nat} {a b : Addr} (I : Inv X pins σ H s) (fa : Fre X pins a) (fb : Fre X pins b) (na : H a = none) (nb : H b = none) (k : ∀ c o, c ≠ a → c ≠ b → s.heap.get? c = some o → h'.get? c = some o) : Inv X pins σ H { s with heap := h', toks := t' } := by
 have ne : ∀ c u, H c = some u → c ≠ a ∧ c ≠ b := fun c u e => ⟨(fun z => by rw [z, na] at e; cases e), (fun z => by rw [z, nb] at e; cases e)⟩
 have out : ∀ c, c ∉ [a, b] → c ≠ a ∧ c ≠ b := fun c z => ⟨fun w => z (by rw [w]; exact gF1), fun w => z (by rw [w]; exact gF2 _ gF1)⟩
 refine I.step (g' := s.gens) (d' := s.drawn) (ch := [a, b]) (fun c hc => ?_) (fun c o _ _ hc e _ => k c o (out c hc).1 (out c hc).2 e) (fun c o _ _ hc e _ => ⟨o.slots, k c o (out c hc).1 (out c hc).2 e⟩) (fun _ _ _ _ n => n)
  (fun c o hc e => ⟨o, k c o (out c hc).1 (out c hc).2 e⟩) (fun _ _ e => e) (fun _ _ _ e => e) (fun c ps e => ⟨#[], by rw [e]; simp⟩) (fun m hm => ?_) (fun c u e => ?_) I.bare
 ·rcases gG5.mp hc with rfl | hc
  ·exact ⟨.inr fa.sz, fa.loc, fa.cel, fa.pin⟩
  ·rcases gG5.mp hc with rfl | hc
   ·exact ⟨.inr fb.sz, fb.loc, fb.cel, fb.pin⟩
   ·cases hc
 ·obtain ⟨o, es, ep, ho, r⟩ := hm
  exact ⟨o, es, ep, k _ o (Ne.symm fa.loc) (Ne.symm fb.loc) ho, r⟩
 ·refine (I.hok c u e).stay (fun d v hd q => ?_) (fun _ q => q) fun _ _ q => q
  have : d ≠ a ∧ d ≠ b := by
   rcases hd with z | z
   ·rw [z]; exact ne c u e
   ·exact ne d _ z
  exact k d v this.1 this.2 q
end
end DL
namespace DL
open PySem PySem.Spec PyProof.Rows L2
theorem kVK {P : Program} {w : World} {K : PySem.W.Frag} {mg mb : Str → Option Value} {k : Nat} {fa a : Addr} {cs : List (Addr × Addr)} {fd : FuncData} {x : Str} {sp : Sp} {s : Shared} {vs : List Value} {ns : List Int}
  (KX : K.In s.heap) (g : s.heap.Ns mainGlobals mg) (b : s.heap.Ns builtinsNs mb) (bb : ∀ x : Str, x ≠ "__name__" → mb x = bootBuiltins x) (nl : s.heap.NoLimit) (hg : s.gens = #[])
  (hT : ∀ p ∈ cs, s.heap.get? p.2 = some kPD) (nT : ∀ p ∈ cs, K.lookup p.2 = none) (hC : ∀ p ∈ cs, PySem.W.CodeHd s.heap p.1 p.2)
  (hbm : ∃ (m : Addr) (ob : Obj), mg "__builtins__" = some (.ref m) ∧ m ≠ builtinsNs ∧ s.heap.get? m = some ob ∧ ob.cls = .type "module" ∧ ob.dict = some builtinsNs ∧ ob.data = .plain)
  (ha : s.heap.get? a = some { cls := .type "list", data := .seq vs.toArray }) (hi : IntsAre vs ns) (hl : ns.length ≤ sizeLine) (hr : Room k callerA)
  (F : ∀ base : Heap, K.In base → base.Ns mainGlobals mg → (∀ p ∈ cs, LamX.TabB base mg p.1 p.2) → FnG P w K mg base k fa fd [x] sp) (hb : ∀ (s : Shared) (u : Value), BindsTo s fd ⟨[u], []⟩ [(x, u)])
  (hsp : ∀ H : Hp, (∀ p ∈ cs, H p.2 = some (.tbl #[])) → RoL K H a (ns.map V.int) → sp [.ref a] H (fun v _ => v = .bl true) fun _ _ _ => False) :
  codeAny (model P w) callerA (.call (.ref fa) ⟨[.ref a], []⟩) (fun r s' => r = .ok (.ret (.bool true)) ∧ OldK s.heap s'.heap ∧ s'.os = s.os ∧ AllBare s'.gens) s := by
 have hv := vals_ints hi
 generalize hTs : cs.map (·.2) = T
 have isT : ∀ c ∈ T, s.heap.get? c = some kPD := fun c hc => by
  rw [← hTs] at hc
  obtain ⟨p, hp, e⟩ := gF7.mp hc
  rw [← e]
  exact hT p hp
 have inT : ∀ p ∈ cs, p.2 ∈ T := fun p hp => by rw [← hTs]; exact gF7.mpr ⟨p, hp, rfl⟩
 have kT : ∀ c ∈ T, K.lookup c = none := fun c hc => by
  rw [← hTs] at hc
  obtain ⟨p, hp, e⟩ := gF7.mp hc
  rw [← e]
  exact nT p hp
 have aT : a ∉ T := fun z => by
  have q := isT a z
  rw [ha] at q
  have sf : Data.seq vs.toArray _ = Data.fields #[] := congrArg Obj.data (gF3 q)
  exact nomatch sf
 have main : ∀ H : Hp, (∀ c ∈ T, H c = some (.tbl #[])) → (∀ c, H c ≠ none → c ∈ T ∨ (c = a ∧ ∃ o xs, H c = some (.frz o (.lst xs)))) → RoL K H a (ns.map V.int) → HOk P w H s.heap → (H a ≠ none → K.lookup a = none) →
   codeAny (model P w) callerA (.call (.ref fa) ⟨[.ref a], []⟩) (fun r s' => r = .ok (.ret (.bool true)) ∧ OldK s.heap s'.heap ∧ s'.os = s.os ∧ AllBare s'.gens) s := by
  intro H hH only hS ok noK
  have free : ∀ {c : Addr} {o : Obj}, s.heap.get? c = some o → (∀ us n, o.data ≠ .seq us n) → o.data ≠ .fields #[] → H c = none := fun {c o} e h1 h2 => by
   cases q : H c with
   | none => rfl
   | some u =>
    rcases only c (by rw [q]; exact fun z => nomatch z) with z | ⟨z, _⟩
    ·rw [isT c z] at e
     rw [← gF3 e] at h2
     exact (h2 rfl).elim
    ·rw [z, ha] at e
     rw [← gF3 e] at h1
     exact (h1 _ _ rfl).elim
  have hid : ∀ {c : Addr} {o : Obj} {es : Array DictEntry} {ep : Nat}, s.heap.get? c = some o → o.data = .dict es ep → (hidT s.heap H).get? c = some o := fun {c o es ep} q d => hidT_get q (free q (fun _ _ z => by rw [d] at z; exact nomatch z) (fun z => by rw [d] at z; exact nomatch z))
  have ns' : ∀ {c : Addr} {m : Str → Option Value}, s.heap.Ns c m → (hidT s.heap H).Ns c m := by
   rintro c m ⟨o, es, ep, q, d, r⟩
   exact ⟨o, es, ep, hid q d, d, r⟩
  have KB : K.In (hidT s.heap H) := fun c o q => by
   cases r : H c with
   | none => exact hidT_get (KX c o q) r
   | some u =>
    rcases only c (by rw [r]; exact fun z => nomatch z) with z | ⟨z, _⟩
    ·rw [kT c z] at q
     exact nomatch q
    ·rw [z] at q r
     rw [noK (by rw [r]; exact fun z => nomatch z)] at q
     exact nomatch q
  obtain ⟨mc, l1, l2⟩ := nl
  have M0 : Mod K mg (hidT s.heap H) := { kin := KB, glob := ns' g, blt := ⟨mb, ns' b, bb⟩, nolimit := ⟨mc, ns' l1, l2⟩ }
  have TB : ∀ p ∈ cs, LamX.TabB (hidT s.heap H) mg p.1 p.2 := fun p hp => by
   obtain ⟨og, esg, epg, eg, dg, _⟩ := id g
   have gT : mainGlobals ≠ p.2 := fun z => by
    rw [z, hT p hp] at eg
    rw [← gF3 eg] at dg
    exact nomatch dg
   refine ⟨?_, ?_, gT⟩
   ·obtain ⟨o, us, r⟩ := hC p hp
    obtain ⟨file, tf, flags, tg, inF, text, tt, e1, r1, r2, r3, rest⟩ := r
    refine ⟨o, us, file, tf, flags, tg, inF, text, tt, hidT_get e1 (free e1 (fun _ _ z => by rw [r2] at z; exact nomatch z) (fun z => ?_)), r1, r2, r3, rest⟩
    rw [r2] at z
    have z2 : us = #[] := Data.fields.inj z
    rw [z2] at r3
    simp at r3
   ·obtain ⟨m, ob, b1, b2, b3, b4, b5, b6⟩ := hbm
    have n1 : m ≠ mainGlobals := fun z => by
     rw [z, eg] at b3
     rw [← gF3 b3, dg] at b6
     exact nomatch b6
    have n2 : m ≠ p.2 := fun z => by
     rw [z, hT p hp] at b3
     rw [← gF3 b3] at b6
     exact nomatch b6
    exact ⟨m, ob, b1, b2, n1, n2, hidT_get b3 (free b3 (fun _ _ z => by rw [b6] at z; exact nomatch z) (fun z => by rw [b6] at z; exact nomatch z)), b4, b5, b6⟩
  have e0 : Env0 P w K mg (hidT s.heap H) callerA [] s H := { frames := rfl, mod := M0, bs := fun c o q => of_hidT q, bsz := Nat.le_of_eq (hidT_size _ _), funs := trivial, frf := fun c z => (gI2 z).elim, hok := ok, bare := .of_eq hg }
  refine codeAny_mono ((F _ KB (ns' g) TB).go callerA hr rfl [] s H e0 ⟨[.ref a], []⟩ [.ref a] (hb s (.ref a)) [.ref a] (.cons rfl .nil) _ _ (hsp H (fun p hp => hH _ (inT p hp)) hS)) fun r s' z => ?_
  match r, z with
  | .error e, z =>
   obtain ⟨_, _, _, _, _, _, _, _, _, _, _, _, z⟩ := z
   exact z.elim
  | .ok .next, z => exact z.elim
  | .ok .brk, z => exact z.elim
  | .ok .cont, z => exact z.elim
  | .ok (.ret u), z =>
   obtain ⟨v, H', os, bare, un, ok', rv, q⟩ := z
   subst q
   have rv : u = Value.bool true := rv
   subst rv
   have key : ∀ c o, c ∉ T → s.heap.get? c = some o → s'.heap.get? c = some o := fun c o nc e => by
    cases q : H c with
    | none => exact un.keep c o e q (by intro z; cases z) (by simp)
    | some u =>
     rcases only c (by rw [q]; exact fun z => nomatch z) with z | ⟨_, ob, xs, z⟩
     ·exact (nc z).elim
     ·obtain ⟨f1, _⟩ := ok c _ z
      obtain ⟨f2, _⟩ := ok' c _ (un.frzs c ob _ z)
      rw [e] at f1
      rw [gF3 f1]
      exact f2
   have grown : ∀ c ∈ T, ∃ more : Array Value, s'.heap.get? c = some { cls := .none, data := .fields more } := fun c hc => by
    obtain ⟨more, z⟩ := un.tbls c #[] (hH c hc)
    exact ⟨_, ok' c _ z⟩
   refine ⟨rfl, ⟨fun c o e => ?_, fun c o e => ?_⟩, os, bare⟩
   ·by_cases hc : c ∈ T
    ·obtain ⟨more, hm⟩ := grown c hc
     rw [← hTs] at hc
     obtain ⟨p, hp, ep⟩ := gF7.mp hc
     rw [← ep] at e hm ⊢
     rw [hT p hp] at e
     rw [← gF3 e]
     exact .inr (.inl ⟨((hC p hp).tab (hT p hp)).isCodeTable, rfl, #[], more, rfl, by rw [Array.empty_append]; exact hm⟩)
    ·exact .inl (key c o hc e)
   ·by_cases hc : c ∈ T
    ·obtain ⟨more, hm⟩ := grown c hc
     exact ⟨_, hm⟩
    ·exact ⟨o, key c o hc e⟩
 have ne : ∀ c ∈ T, c ≠ a := fun c hc z => aT (by rw [← z]; exact hc)
 cases hk : K.lookup a with
 | some o =>
  have q := KX a o hk
  rw [ha] at q
  rw [← gF3 q] at hk
  have at_ : ∀ c, (fun c => if c ∈ T then some (HO.tbl #[]) else none : Hp) c ≠ none → c ∈ T := fun c z => by
   by_cases hc : c ∈ T
   ·exact hc
   ·exact (z (if_neg hc)).elim
  refine main (fun c => if c ∈ T then some (.tbl #[]) else none) (fun c hc => if_pos hc) (fun c z => .inl (at_ c z)) (Or.inr ⟨_, vs.toArray, _, hk, rfl, rfl, rfl, ?_, by simpa using hv⟩) (fun c u z => ?_) fun z => (aT (at_ a z)).elim
  ·rw [List.size_toArray, hi.length]
   exact hl
  ·have hc : c ∈ T := at_ c (by rw [z]; exact fun z => nomatch z)
   have z2 := (if_pos hc).symm.trans z
   rw [← gF3 z2]
   exact isT c hc
 | none =>
  refine main (fun c => if c = a then some (.frz { cls := .type "list", data := .seq vs.toArray } (.lst (ns.map V.int))) else if c ∈ T then some (.tbl #[]) else none) (fun c hc => (if_neg (ne c hc)).trans (if_pos hc)) (fun c z => ?_) (Or.inl ⟨_, if_pos rfl⟩) (fun c u z => ?_) fun _ => hk
  ·by_cases q : c = a
   ·exact .inr ⟨q, _, _, if_pos q⟩
   ·by_cases hc : c ∈ T
    ·exact .inl hc
    ·exact (z ((if_neg q).trans (if_neg hc))).elim
  ·by_cases q : c = a
   ·have z2 := (if_pos q).symm.trans z
    rw [← gF3 z2, q]
    refine ⟨ha, ?_, vs, 0, hv, ha⟩
    rw [gF0]
    exact hl
   ·have z1 := (if_neg q).symm.trans z
    by_cases hc : c ∈ T
    ·have z2 := (if_pos hc).symm.trans z1
     rw [← gF3 z2]
     exact isT c hc
    ·have z2 := (if_neg hc).symm.trans z1
     exact nomatch z2
theorem kUe {l : PySem.W.OpenLaw} {n k : Nat} {q : Program} {loose : List Str} {XP : (Str → Option Value) → Heap → Prop} {YP : World → Heap → Prop} {d : DefRec} {x : Str}
  (hn : l.most = some n) (hn2 : n ≤ sizeLine) (hdf : d.params.defaults = []) (hr : Room k callerA)
  (F : ∀ (w : World) (mg : Str → Option Value) (fa : Addr) (h : Heap), YP w h → h.Ns mainGlobals mg → mg d.name = some (.ref fa) →
   ∃ (K : PySem.W.Frag) (fd : FuncData) (sp : Sp) (cs : List (Addr × Addr)), K.In h ∧ (∀ p ∈ cs, h.get? p.2 = some kPD ∧ K.lookup p.2 = none ∧ PySem.W.CodeHd h p.1 p.2) ∧ (∀ (s : Shared) (u : Value), BindsTo s fd ⟨[u], []⟩ [(x, u)]) ∧
    (∀ (H : Hp) (a : Addr) (ns : List Int), ns.length ≤ n → (∀ p ∈ cs, H p.2 = some (.tbl #[])) → RoL K H a (ns.map V.int) → sp [.ref a] H (fun v _ => v = .bl true) fun _ _ _ => False) ∧
    ∀ base : Heap, K.In base → base.Ns mainGlobals mg → (∀ p ∈ cs, LamX.TabB base mg p.1 p.2) → FnG l.prog w K mg base k fa fd [x] sp) :
  PySem.W.WalkO q loose XP YP l.row.toRowW d [] (fun f vs => PySem.call f vs) :=
 Att.attach_call hn hdf fun w s₀ s₁ mg mb fa o pm cd doc a vs ns G Y ho hd hcd hmg hobj hints hlen hg => by
  obtain ⟨K, fd, sp, cs, KX, hcs, hb, hsp, hF⟩ := F w mg fa _ Y G.T.g hmg
  exact kVK KX G.T.g G.T.b G.T.builtins G.T.nolimit hg (fun p hp => (hcs p hp).1) (fun p hp => (hcs p hp).2.1) (fun p hp => (hcs p hp).2.2) G.T.bmain hobj hints (Nat.le_trans hlen hn2) hr hF hb fun H hO hS => hsp H a ns hlen hO hS
def tblT (tf : List TF) (K : PySem.W.Frag) : List (Addr × Str) := tf.map fun p => ((He.cT K p.1).2, p.2)
def cdT (tf : List TF) (K : PySem.W.Frag) : List (Addr × Addr) := tf.map fun p => He.cT K p.1
theorem kVB {H : Hp} {tf : List TF} {K : PySem.W.Frag} (h : ∀ p ∈ cdT tf K, H p.2 = some (.tbl #[])) : LamX.Tabs (tblT tf K) H := fun p hp => by
 obtain ⟨z, hz, rfl⟩ := gF7.mp hp
 exact LamX.TabS.nil (h _ (gF7.mpr ⟨z, hz, rfl⟩))
theorem kRI {tf : List TF} {h : Heap} {K : PySem.W.Frag} (X : K.In h) (t : TabS tf h K) : ∀ p ∈ cdT tf K, h.get? p.2 = some kPD ∧ K.lookup p.2 = none ∧ PySem.W.CodeHd h p.1 p.2 := fun p hp => by
 obtain ⟨z, hz, rfl⟩ := gF7.mp hp
 obtain ⟨h1, h2, h3⟩ := t.all z hz
 exact ⟨h3, h2, PySem.W.codeHd_of_K X h1⟩
theorem kUU {K : PySem.W.Frag} {a : Addr} (c : tupS K a [] = true) : KT0 K a := by
 unfold tupS at c
 cases q : K.lookup a with
 | none => rw [q] at c; cases c
 | some o =>
  simp only [q] at c
  split at c
  ·rename_i its n hd
   obtain ⟨c1, _⟩ := gG6.mp c
   obtain ⟨c1, c2⟩ := gG6.mp c1
   have e0 : its.toList = [] := List.length_eq_zero_iff.mp (gF5 c2)
   refine ⟨o, its, n, q, gF5 c1, hd, ?_, by rw [e0]; exact .nil⟩
   rw [← Array.length_toList, e0]
   exact Nat.zero_le _
  ·cases c
theorem kUA {W : Wd} (x : XdOk W) {a : Addr} (h : KT0 W.K a) {Z : Addr → Prop} {H : Hp} : Rp W Z H (.obj 4 []) (.ref a) := by
 unfold Rp
 exact ⟨a, [], rfl, .inr (by decide), x.kt a H h, by unfold RpL; rfl⟩
theorem kRt {n : Nat} {fa : List He.Fa} {fn : List He.DefD} {tf : List TF} {file : Str} {ini : List (Str × Bool)} {tps : List ((PySem.W.Frag → Addr) × List Str)} {g : Addr → Option Obj} {s : Shared} (h : ∀ a, g a = s.heap.get? a) : kTo n fa fn tf file ini tps g = (kSB n fa fn tf file ini tps).obs s := by
 have e : g = s.heap.get? := funext h
 rw [e] <;> rfl
theorem kPu {α : Type} {pm : List Nat} {x : α} {l : List α} : pick (0 :: pm.map (· + 1)) (x :: l) = x :: pick pm l := by
 rw [kGb (a := x) rfl]
 congr 1
 unfold pick
 rw [List.filterMap_map]
 rfl
section
variable {X : Cx} {k n : Nat} {f C : Addr} {fd : FuncData} {ps ks : List Str} {pm : List Nat} {sp : Sp} {dvs : List V} {ds : List Value} {Wx : WX} {x : Str} {p pos : Pos} {e : Expr} {es : List Expr} {kws : List Keyword} {t t2 : TA}
theorem kUO {pins : List (Addr × Obj)} {σ : L2.St} {H : Hp} {s : Shared} {Q : VK} {us ws : List Value} {vs zs : List V} (M : Mk X.K C f) (F : FnG X.prog X.w X.K X.mg X.base k f fd ps sp) (hr : Room (k + 1) X.A) (hg : X.A.guards = some [])
  (hb : KB X.K fd ps ks (n + 1) (0 :: pm.map (· + 1)) ds) (hd : Vals dvs ds) (tk : Takes X Wx) (hpm : ∀ i ∈ pm, i < n + ks.length + dvs.length) (I : Inv X pins σ H s) (r : Vals vs us) (rz : Vals zs ws) (l1 : vs.length = n) (l2 : zs.length = ks.length)
  (h : ∀ x dx, H x = none → H dx = none → dx ≠ x → sp (.ref x :: pick pm (vs ++ zs ++ dvs)) (upd (upd H dx (.own x)) x (.ins C dx [])) (fun v H2 => v = .non ∧ Q (.ref x) H2) (WE Wx σ)) :
  wpAny (model X.prog X.w) X.A (call (.ref C) us (ks.zip ws)) (EP X pins σ Q) X.xe s := by
 have hq := h (s.heap.objs.size + 1) s.heap.objs.size (I.hok.fresh (Nat.le_succ _)) (I.hok.fresh (Nat.le_refl _)) (Nat.ne_of_lt (Nat.lt_succ_self _))
 have J := Inv.made (C := C) I
 have rp : Vals (pick pm (vs ++ zs ++ dvs)) (pick pm (us ++ ws ++ ds)) := kPt ((r.append rz).append hd) fun i m => by
  rw [gG2, gG2, l1, l2]
  exact hpm i m
 have rv0 : Vals (V.ref (s.heap.objs.size + 1) :: pick pm (vs ++ zs ++ dvs)) (Value.ref (s.heap.objs.size + 1) :: pick pm (us ++ ws ++ ds)) := .cons rfl rp
 have lu : (Value.ref (s.heap.objs.size + 1) :: us).length = n + 1 := by
  rw [gG0, ← r.length, l1]
 have bt := hb.to _ (Value.ref (s.heap.objs.size + 1) :: us) ws J.kIn lu (rz.length.symm.trans l2)
 rw [show Value.ref (s.heap.objs.size + 1) :: us ++ ws ++ ds = Value.ref (s.heap.objs.size + 1) :: (us ++ ws ++ ds) by simp, kPu] at bt
 refine wpAny_call (make_map (f := f) I.kIn M.makes M.init (beq_iff_eq.mp M.fn) (codeAny_mono (F.go (X.A.under (.builtin "type.__call__" ⟨.ref C :: us, ks.zip ws⟩)) (hr.make C us (ks.zip ws)) (by
  first | exact hg | (unfold Around.under; exact hg) | simpa [Around.under] using hg) X.stack _ _ (J.env0.make C us (ks.zip ws)) ⟨Value.ref (s.heap.objs.size + 1) :: us, ks.zip ws⟩ (Value.ref (s.heap.objs.size + 1) :: pick pm (us ++ ws ++ ds)) bt _ rv0 _ _ hq) fun r s' hq' => ?_))
 cases r with
 | error z => exact passAt tk σ pins _ _ z s' J hq'
 | ok fl =>
  cases fl with
  | ret u =>
   obtain ⟨v, H', J3, rv, ev, q3⟩ := J.after hq'
   subst ev
   exact ⟨rv, ⟨V.ref (s.heap.objs.size + 1), H', J3, rfl, q3⟩⟩
  | next => exact hq'.elim
  | brk => exact hq'.elim
  | cont => exact hq'.elim
def tMkW (C : Addr) (sp : Sp) (Wx : WX) (σ : L2.St) (Q : VK) : List V → Hp → Prop := fun l H2 => ∀ x dx, H2 x = none → H2 dx = none → dx ≠ x → sp (.ref x :: l) (upd (upd H2 dx (.own x)) x (.ins C dx [])) (fun v H3 => v = .non ∧ Q (.ref x) H3) (WE Wx σ)
def kSW (C : Addr) (n m : Nat) (pm : List Nat) (dvs : List V) (sp : Sp) (Wx : WX) (t1 t2 : TA) : TE := fun σ H Q => tKw n m pm dvs t1 t2 σ H (tMkW C sp Wx σ Q)
theorem kPx (M : Mk X.K C f) (F : FnG X.prog X.w X.K X.mg X.base k f fd ps sp) (hr : Room (k + 1) X.A) (hg : X.A.guards = some []) (gl : Gl X x) (hm : X.mg x = some (.ref C)) (hb : KB X.K fd ps ks (n + 1) (0 :: pm.map (· + 1)) ds) (hd : Vals dvs ds) (tk : Takes X Wx)
  (hpm : ∀ i ∈ pm, i < n + ks.length + dvs.length) (ha : PA X (e :: es) t) (hkw : PK X kws t2) (hall : (backToKw pos (keywordEach kws X.env)).all (·.1.isSome) = true := by rfl) (hks : (backToKw pos (keywordEach kws X.env)).filterMap (·.1) = ks := by rfl)
  (hdb : (x == ("__debug__" : Str)) = false := by decide) (he : starEach (e :: es) X.env = (false, eval e X.env) :: starEach es X.env := by rfl)
  (hpl : ((backTo pos (starEach (e :: es) X.env)).any (·.1) || (backToKw pos (keywordEach kws X.env)).any (·.1.isNone)) = false := by rfl) :
  PE X (.Call (.Name x p) (e :: es) kws pos) (kSW C n ks.length pm dvs sp Wx t t2) := PE.mk fun pins s σ H Q I h => by
 refine wpAny_Call_Name_kw (ld_glob I gl hm ?_ hdb)
 refine PySem.W.callWith_KW (h₀ := X.base) I.ok.mod.kin M.kp hall (thn (ha.run pos pins s σ H _ I h) fun us s1 ⟨vs, H1, I1, r, q⟩ => ?_) hpl he
 refine thn (hkw.run pos pins s1 σ H1 _ I1 q) fun ws s2 ⟨zs, H2, I2, rz, l1, l2, q2⟩ => ⟨I2.kIn, ?_⟩
 rw [hks]
 exact kUO M F hr hg hb hd tk hpm I2 r rz l1 l2 q2
end
section
variable {W : Wd} {T : CT} {X : Cx} {Wx : WX} {O : List Nat} {e : Expr} {es : List Expr} {kws : List Keyword} {ms : M (List D)} {p : Bool} {f : Addr} {fd : FuncData} {n j k ar : Nat} {ps ks : List Str} {FF : FM} {x : Str} {p0 pos : Pos} {c : ClsT} {dd : List D} {dvs : List V} {vds : List Value} {pm : List Nat}
theorem kRf (hW : ObOk W T) (hT : T[n - 1]? = some c) (hn1 : 1 ≤ n) (hnd : c.fs.Nodup ∧ c.fs.length < 48) (hc : c.nv = c.fs.length ∨ 0 < c.fs.length) (ln : ∀ env ds e, kFd pm dd ms env = .ok ds e → ds.length + 1 = ar) {G : Gh} {L : Lab} {env : EnvD} {σ : L2.St} {H : Hp} {Q : VK}
  (h : kBp W G O L p 2 Wx env σ H Q (dNew n FF [] (kFd pm dd ms) env)) : kCA W G O L p 2 Wx env σ H (tMkW (He.ga W.K c.nm) (spD W 1 0 ar FF) Wx σ Q) (kFd pm dd ms env) := by
 unfold dNew at h
 cases q1 : kFd pm dd ms env with
 | bad => rw [q1] at h; exact h.elim
 | exc cx a e => rw [q1] at h; exact h
 | ok ds e1 =>
  rw [q1] at h
  have h : kBp W G O L p 2 Wx env σ H Q (kJg e1 (FF (.obj (64 * n) [] :: (ds ++ [])))) := h
  rw [gE2] at h
  exact fun l H1 R1 E1 P1 A x dx hx hdx ne => kSY hW hT hn1 hnd hc R1 E1 P1 A.two (ln _ _ _ q1) h x dx hx hdx ne
theorem kJC (hW : ObOk W T) (hT : T[n - 1]? = some c) (hn1 : 1 ≤ n) (hnd : c.fs.Nodup ∧ c.fs.length < 48) (hc : c.nv = c.fs.length ∨ 0 < c.fs.length) (M : Mk X.K (He.ga W.K c.nm) f) (F : FnG X.prog X.w X.K X.mg X.base j f fd ps (spD W 1 0 ar FF)) (hr : Room k X.A) (hj : j + 1 ≤ k) (hg : X.A.guards = some []) (gl : Gl X x) (hm : X.mg x = some (.ref (He.ga W.K c.nm)))
  (hb : KBx X.K fd ps ks (es.length + 1 + 1) (0 :: pm.map (· + 1)) dvs) (tk : Takes X Wx) (dflt : ∀ (Z : Addr → Prop) (H : Hp), RpL W Z H dd dvs) (ha : DKw W X Wx O (e :: es) kws ms 2 p) (hp : (pm.all fun i => decide (i < (e :: es).length + ks.length + dd.length)) = true := by rfl) (hl : dd.length = dvs.length := by rfl) (hkl : kws.length = ks.length := by rfl) (ha2 : pm.length + 1 = ar := by rfl)
  (hall : (backToKw pos (keywordEach kws X.env)).all (·.1.isSome) = true := by rfl) (hks : (backToKw pos (keywordEach kws X.env)).filterMap (·.1) = ks := by rfl)
  (hdb : (x == ("__debug__" : Str)) = false := by decide) (he : starEach (e :: es) X.env = (false, eval e X.env) :: starEach es X.env := by rfl)
  (hpl : ((backTo pos (starEach (e :: es) X.env)).any (·.1) || (backToKw pos (keywordEach kws X.env)).any (·.1.isNone)) = false := by rfl) :
  DE W X Wx O (.Call (.Name x p0) (e :: es) kws pos) (dNew n FF [] (kFd pm dd ms)) 2 p := by
 obtain ⟨k', ln, t1, t2, pa, pk, s⟩ := ha
 obtain ⟨vds, hd, hb⟩ := hb
 have hpm := kUP hp (Nat.le_refl _)
 have ll : ∀ env ds e', ms env = .ok ds e' → ds.length = es.length + 1 + ks.length := fun env ds e' z => by rw [ln _ _ _ z, hkl]; rfl
 exact ⟨k', _, kPx M F (hr.mono hj) hg gl hm hb hd tk (by rw [← hl]; exact hpm) pa pk hall hks hdb he hpl, fun G L env σ H Q R h => kRd (n := es.length + 1) (k := ks.length) s ll (by decide) dflt hpm G L env σ H _ R (kRf hW hT hn1 hnd hc (fun env ds e' z => by rw [kQo ll hpm _ _ _ z]; exact ha2) h)⟩
end
def gA (K : PySem.W.Frag) (C : Addr) (m : Str) : Addr := match PySem.W.recIn K (He.ma K C m) "property" with
 | some (.ref g :: _) => g
 | _ => 0
def gW (K : PySem.W.Frag) (cls m : Str) : He.FnW := match K.lookup (gA K (He.ga K cls) m) with
 | some ⟨_, _, .func fd, _⟩ => some (fd.name, fd.qualname, fd.params, fd.body, fd.scope, fd.globals, fd.closure, fd.builtins)
 | _ => none
structure PrD where
 cls : Str
 nm : Str
 d : He.DefD
def kVG (K : PySem.W.Frag) (C : Addr) (m : Str) : Bool := match PySem.W.findIn K (.ref C) m with
 | some (some (.ref p)) => He.eqO (PySem.W.specialIn K (.ref p) "__get__") (some (some (.builtin "property.__get__"))) && (decide (PySem.W.takesIn K (.ref p) = some true) && (match PySem.W.recIn K p "property" with
  | some (.ref _ :: _) => true
  | _ => false))
 | _ => false
def PrD.ok (K : PySem.W.Frag) (p : PrD) : Bool := PySem.W.keepIn K (.ref (gA K (He.ga K p.cls) p.nm)) && (kVG K (He.ga K p.cls) p.nm && (match K.lookup (gA K (He.ga K p.cls) p.nm) with
 | some ⟨_, _, .func fd, _⟩ => PySem.W.codeIn K fd.code p.d.qual && (He.dflB K fd.defaults (p.d.dvs K) && He.kwdB K fd.kwdefaults (p.d.kws K))
 | _ => false))
def PrS (ps : List PrD) (K : PySem.W.Frag) : Prop := ∀ p ∈ ps, p.ok K = true ∧ gW K p.cls p.nm = p.d.val
theorem PrS.at_ {ps : List PrD} {K : PySem.W.Frag} (h : PrS ps K) (i : Nat) {p : PrD} (e : ps[i]? = some p) : p.ok K = true ∧ gW K p.cls p.nm = p.d.val := h p (gH9 e)
end DL
namespace DL
open PySem PySem.Spec PyProof.Rows L2
def keyOf : D → Option Key
 | .int i => some (.inl i)
 | .str x => some (.inr x)
 | _ => none
theorem kOH (k : Key) : keyOf (keyD k) = some k := by cases k <;> rfl
def getK : List D → List D → Key → Option D
 | k :: ks, d :: ds, q => if keyOf k = some q then some d else getK ks ds q
 | _, _, _ => none
theorem kOj {P : D → V → Prop} {q : Key} {d : D} : ∀ {kvs : List (Key × V)} {ds : List D}, (∀ (j : Nat) (d : D) (v : V), ds[j]? = some d → (kvs.map (·.2))[j]? = some v → P d v) → ds.length = kvs.length →
  getK (kvs.map fun p => keyD p.1) ds q = some d → ∃ v, valV kvs q = some v ∧ P d v
 | [], _, _, _, h => by cases h
 | p :: r, [], _, l, h => by cases h
 | p :: r, x :: ds, hp, l, h => by
  rw [gG1] at h
  unfold getK at h
  rw [kOH] at h
  by_cases e : p.1 = q
  ·rw [if_pos (congrArg some e)] at h
   cases h
   exact ⟨p.2, valV_pos e, hp 0 _ p.2 rfl rfl⟩
  ·rw [if_neg (fun z => e (gF3 z))] at h
   rw [valV_neg e]
   exact kOj (fun j d v a b => hp (j + 1) d v (by simpa using a) (by simpa using b)) (by simpa using l) h
theorem kGA.get {H : Hp} {P : D → V → Prop} {a : Addr} {ks ds : List D} {vs : List V} {q : Key} {d : D} (h : kGA H a ks vs) (hp : ∀ (j : Nat) (d : D) (v : V), ds[j]? = some d → vs[j]? = some v → P d v) (l : ds.length = vs.length) (g : getK ks ds q = some d) : ∃ v, DGet H a (kV q) (some v) ∧ P d v := by
 rcases h with ⟨kvs, h, e1, e2⟩ | ⟨kvs, h, e1, e2⟩
 ·subst e1 e2
  obtain ⟨v, w1, w2⟩ := kOj hp (by simpa using l) g
  exact ⟨v, by rw [← w1]; exact DGet.k h, w2⟩
 ·subst e1 e2
  exfalso
  clear hp l h
  revert ds
  induction kvs with
  | nil => intro ds g; cases g
  | cons p r ih =>
   intro ds g
   cases ds with
   | nil => cases g
   | cons x ds =>
    rw [gG1] at g
    unfold getK at g
    rw [if_neg (by intro z; cases z)] at g
    exact ih g
def kNm : List D → Option D
 | [.lst ds] => (kDA ds).bind fun bs => (bs.find? fun m => bs.all fun y => decide (y ≤ m)).map .int
 | _ => none
section
variable {X : Cx} {W : Wd}
theorem kQD (k : X.K = W.K) : CF W 0 2 (rMax X.K) kNm := by
 intro L H ds vs d Q A h dom q
 unfold kNm at h
 split at h
 ·rename_i xs
  cases e : kDA xs with
  | none => rw [e] at h; cases h
  | some bs =>
   rw [e] at h
   have h : (bs.find? fun m => bs.all fun y => decide (y ≤ m)).map D.int = some d := h
   obtain ⟨m, hm, rfl⟩ := Option.map_eq_some_iff.mp h
   have m1 := List.mem_of_find?_eq_some hm
   have m2 := List.find?_some hm
   have m3 : ∀ y ∈ bs, y ≤ m := fun y hy => by simpa using gH5.mp m2 y hy
   obtain ⟨v, rfl, r⟩ := kFH A
   obtain ⟨a, us, rfl, h1, h2⟩ := kKU (.inl rfl) k r
   rw [kKX h2 e] at h1
   refine ⟨a, bs, rfl, h1, List.length_pos_of_mem m1, fun m' hm' hle => ?_⟩
   have em : m' = m := Int.le_antisymm (m3 m' hm') (hle m m1)
   rw [em]
   exact q _ H Ev.refl kDK
 ·cases h
end
theorem kTF {K : PySem.W.Frag} {C : Addr} (c : Cls K C) (h : insB K C = true) : C8.InsC K C := by
 obtain ⟨h1, h⟩ := gG6.mp h
 obtain ⟨h2, h⟩ := gG6.mp h
 obtain ⟨h3, h⟩ := gG6.mp h
 obtain ⟨h4, h5⟩ := gG6.mp h
 exact ⟨c, gF5 h1, gF5 h2, gF5 h3, gF5 h4, gF5 h5⟩
def dIsO (n : Nat) (d : D) : Option D := match d with
 | .obj k _ => if 64 ≤ k ∧ k / 64 = n then some (.bool true) else none
 | _ => none
section
variable {W : Wd} {T : CT} {X : Cx} {Wx : WX} {O : List Nat} {e : Expr} {m : M D} {z : Nat} {p : Bool} {pos p0 p2 : Pos} {nm : Str} {c : ClsT} {n : Nat}
theorem kVg (hW : ObOk W T) (hT : T[n - 1]? = some c) (hi : C8.InsC W.K (He.ga W.K c.nm)) (h : DE W X Wx O e m z p) (hme : X.mg nm = some (.ref (He.ga W.K nm))) (hm0 : X.mg "isinstance" = none) (hnm : c.nm = nm := by rfl)
  (hg : Gl X "isinstance" := by rfl) (hg2 : Gl X nm := by rfl) (hdb : (nm == ("__debug__" : Str)) = false := by decide)
  (hs : starEach [e, .Name nm p2] X.env = (false, eval e X.env) :: starEach [.Name nm p2] X.env := by rfl) (hs2 : starEach [.Name nm p2] X.env = (false, eval (.Name nm p2) X.env) :: starEach [] X.env := by rfl) (hpl : (backTo pos (starEach [.Name nm p2] X.env)).any (·.1) = false := by rfl) :
  DE W X Wx O (.Call (.Name "isinstance" p0) [e, .Name nm p2] [] pos) (dUn (dIsO n) m) 2 p := by
 subst hnm
 obtain ⟨k, t, pe, s⟩ := h
 have hi2 : C8.InsC X.K (He.ga W.K c.nm) := by rw [k]; exact hi
 refine ⟨k, _, L2.pe_callB (C8.call_isC hi2) hg hm0 (by decide +kernel) (pa_cons pe (pa_cons (pe_glob (v := V.ref (He.ga W.K c.nm)) hg2 hme rfl hdb) pa_nil hs2) hs) (by decide) (by decide) hs hpl, fun G L env σ H Q R h => s G L env σ H _ R ?_⟩
 unfold dUn at h
 cases q1 : m env with
 | bad => rw [q1] at h; exact h.elim
 | exc c a e => rw [q1] at h; exact h
 | ok d e1 =>
  rw [q1] at h
  intro v H1 R1 E1 P1 Z1
  have h : kBp W G O L p 2 Wx env σ H Q (lift (dIsO n d) e1) := h
  have go : ∀ (kk : Nat) (dds : List D), d = .obj kk dds → t = t → (∃ a dx fs, [v, V.ref (He.ga W.K c.nm)] = [V.ref a, V.ref (He.ga W.K c.nm)] ∧ H1 a = some (.ins (He.ga W.K c.nm) dx fs) ∧ Q (.bl true) H1) := fun kk dds ed _ => by
   subst ed
   unfold dIsO at h
   dsimp only at h
   by_cases hk : 64 ≤ kk ∧ kk / 64 = n
   ·rw [if_pos hk] at h
    obtain ⟨a, vs, rfl, h2, h3⟩ := kIZ Z1
    obtain ⟨_, c', dx, hs', c1, c2, c3, _⟩ := hW.ob h2 hk.1
    rw [hk.2] at c1
    have e : c = c' := gF3 (hT.symm.trans c1)
    subst e
    exact ⟨a, dx, _, rfl, c3, h _ _ R1 E1 P1 kBm⟩
   ·rw [if_neg hk] at h
    exact h.elim
  cases d with
  | obj kk dds => exact go kk dds rfl rfl
  | _ => exact h.elim
end
def eqOf (n : Nat) (FF : FM) (a b : D) : Option D := match a, b with
 | .obj k ds, .obj k2 es => if k / 64 = n ∧ k2 / 64 = n then (match FF [.obj k ds, .obj k2 es] with
  | .ok (.bool r) _ => some (.bool r)
  | _ => none) else none
 | _, _ => none
def rEqO (W : Wd) (K : PySem.W.Frag) (f : Addr) (fr : Nat) (FF : FM) : R2 := fun x y H Q => ∃ (a b C dx dy : Addr) (fs gs : List (Str × V)), x = .ref a ∧ y = .ref b ∧ H a = some (.ins C dx fs) ∧ H b = some (.ins C dy gs) ∧ Meth K C "__eq__" f ∧ spD W 0 fr 2 FF [x, y] H Q (fun _ _ _ => False)
section
variable {W : Wd} {T : CT} {X : Cx} {Wx : WX} {O : List Nat} {a b : Expr} {m1 m2 : M D} {p1 p2 : Bool} {f : Addr} {fd : FuncData} {n j k fr : Nat} {ps : List Str} {FF : FM} {pos : Pos}
theorem kUK (F : FnG X.prog X.w X.K X.mg X.base j f fd ps (spD W 0 fr 2 FF)) (hr : Room j X.A) (hg : X.A.guards = some []) (hb : Binds X.K fd ps []) : OpR X (compareOp .Eq) (rEqO W X.K f fr FF) := by
 intro pins s σ H x y v u Q I rx ry h
 obtain ⟨a, b, C, dx, dy, fs, gs, rfl, rfl, ha, hb', hm, q⟩ := h
 cases rx
 cases ry
 obtain ⟨mA, J, _⟩ := ins_get I.hok ha
 obtain ⟨mB, J', _⟩ := ins_get I.hok hb'
 obtain ⟨od, J, _⟩ := J.look
 obtain ⟨od', J', _⟩ := J'.look
 obtain ⟨m, hF⟩ := I.fr
 show wpAny (model X.prog X.w) X.A (richCompare .Eq (.ref a) (.ref b)) (EP X pins σ Q) X.xe s
 refine PySem.W.cmp_K (op := .Eq) (tb := .ref C) hr.units0 hF I.ok.mod.kin J J'.type (by simp [PySem.W.notFirst]) hm.at_ hm.fn ?_
 have r2 : Vals [V.ref a, V.ref b] [Value.ref a, Value.ref b] := .cons rfl (.cons rfl .nil)
 have hl := F.size _ _ _ _ q
 refine wpAny_call (codeAny_mono (F.go X.A hr hg X.stack s H I.env0 ⟨[.ref a, .ref b], []⟩ [.ref a, .ref b] (by
  have := hb s [.ref a, .ref b] I.kIn (by simpa using hl)
  simpa using this) _ r2 Q _ q) fun r s' hq => ?_)
 cases r with
 | error e =>
  obtain ⟨_, _, _, _, _, _, _, _, _, _, _, _, z⟩ := hq
  exact z.elim
 | ok fl =>
  cases fl with
  | ret w =>
   obtain ⟨z, H', I', rz, qz⟩ := I.after hq
   exact SlX.cmpback rz ⟨z, H', I', rz, qz⟩
  | next => exact False.elim hq
  | brk => exact False.elim hq
  | cont => exact False.elim hq
theorem kTa (hW : ObOk W T) (kX : X.K = W.K) (hm : kHV W.K T "__eq__" f n) {ta tb : TE} {G : Gh} {L : Lab} {env : EnvD} {σ : L2.St} {H : Hp} {Q : VK}
  (sa : ∀ (G : Gh) (L : Lab) (env : EnvD) (σ : L2.St) (H : Hp) (Q : VK), Rel W G O L env σ H → kBp W G O L p1 2 Wx env σ H Q (m1 env) → ta σ H Q)
  (sb : ∀ (G : Gh) (L : Lab) (env : EnvD) (σ : L2.St) (H : Hp) (Q : VK), Rel W G O L env σ H → kBp W G O L p2 2 Wx env σ H Q (m2 env) → tb σ H Q)
  (R : Rel W G O L env σ H) (h : kBp W G O L (p1 && p2) 2 Wx env σ H Q (dOp2 (eqOf n FF) m1 m2 env)) : tOp (rEqO W X.K f fr FF) ta tb σ H Q := by
 unfold dOp2 at h
 refine sa G L env σ H _ R ?_
 cases q1 : m1 env with
 | bad => rw [q1] at h; exact h.elim
 | exc c a e => rw [q1] at h; exact h
 | ok d1 e1 =>
  rw [q1] at h
  intro x H1 R1 E1 P1 Z1
  refine sb G L e1 σ H1 _ R1 ?_
  have h : kBp W G O L (p1 && p2) 2 Wx env σ H Q ((m2 e1).bind fun b e2 => lift (eqOf n FF d1 b) e2) := h
  cases q2 : m2 e1 with
  | bad => rw [q2] at h; exact h.elim
  | exc c a e => rw [q2] at h; exact h
  | ok d2 e2 =>
   rw [q2] at h
   intro y H2 R2 E2 P2 Z2
   have h : kBp W G O L (p1 && p2) 2 Wx env σ H Q (lift (eqOf n FF d1 d2) e2) := h
   cases q3 : eqOf n FF d1 d2 with
   | none => rw [q3] at h; exact h.elim
   | some d =>
    rw [q3] at h
    have Z1' := Z1.ev E2 (.inr rfl)
    unfold eqOf at q3
    split at q3
    ·rename_i k1 es1 k2 es2 _
     split at q3
     ·rename_i hk
      split at q3
      ·rename_i r io hF
       cases q3
       have S1 := kKx hW kX hm (by simpa using hk.1) Z1'
       have S2 := kKx hW kX hm (by simpa using hk.2) Z2
       obtain ⟨m1', c, t1, t2, t3, t4⟩ := hm
       obtain ⟨ax, vx, rfl, wx, _⟩ := kIZ Z1'
       obtain ⟨ay, vy, rfl, wy, _⟩ := kIZ Z2
       obtain ⟨_, c', dx, hs', c1, _, c3, _⟩ := hW.ob wx (by omega)
       obtain ⟨_, c'', dy, hs'', c1', _, c3', _⟩ := hW.ob wy (by omega)
       rw [hk.1, t1] at c1
       rw [hk.2, t1] at c1'
       cases c1
       cases c1'
       refine ⟨ax, ay, _, dx, dy, _, _, rfl, rfl, c3, c3', by rw [kX]; exact t4, rfl, R2.ent.tabs, ghN H2, [.obj k1 es1, .obj k2 es2], rfl, rfl, ⟨rfl, fun i d v h1 h2 => ?_, fun a z => (z rfl).elim, fun hn => (hn rfl).elim⟩, ?_⟩
       ·have e0 : (if i = 0 then (ghN H2).n else 0) = 0 := by
         split <;> rfl
        rw [e0]
        have A : RpL W No H2 [.obj k1 es1, .obj k2 es2] [.ref ax, .ref ay] := by
         unfold RpL
         exact ⟨_, _, rfl, Z1'.any, by unfold RpL; exact ⟨_, _, rfl, Z2.any, by unfold RpL; rfl⟩⟩
        obtain ⟨v', w1, w2⟩ := A.getD h1
        rw [h2] at w1
        rw [gF3 w1]
        exact Rp.shun (fun a z _ => z rfl) d v' w2
       ·rw [hF]
        intro v H' L' ext new _ dom ev _ o
        have ev' : Ev W No H2 H' := ev.mono fun a z _ => z.elim fun _ w => nomatch w
        refine h v H' (R2.pure ev') ((E1.mono fun a z _ => kAO (fun w => ?_) z).trans ((E2.mono fun a z _ => kAO (fun w => ?_) z).trans (ev'.mono fun _ z _ => z.elim))) (fun w => ?_) (show Rp W (Zo L) H' (.bool r) v from Rp.flat (.bool r) v rfl (Ow.any _ _ _ v o))
        ·exact (gG6.mp w).1
        ·exact (gG6.mp w).2
        ·rw [P2 (gG6.mp w).2, P1 (gG6.mp w).1]
      ·cases q3
     ·cases q3
    ·cases q3
theorem kQv (hW : ObOk W T) (hm : kHV W.K T "__eq__" f n) (F : FnG X.prog X.w X.K X.mg X.base j f fd ps (spD W 0 fr 2 FF)) (hr : Room k X.A) (hj : j ≤ k) (hg : X.A.guards = some []) (hb : Binds X.K fd ps [])
  (hea : DE W X Wx O a m1 2 p1) (heb : DE W X Wx O b m2 2 p2) (hx : behindInMarks .Eq b = false := by rfl) :
  DE W X Wx O (.Compare a [.Eq] [b] pos) (dOp2 (eqOf n FF) m1 m2) 2 (p1 && p2) := by
 obtain ⟨kX, ta, pa, sa⟩ := hea
 obtain ⟨_, tb, pb, sb⟩ := heb
 exact ⟨kX, _, pe_cmpR (kUK F (hr.mono hj) hg hb) pa pb hx, fun G L env σ H Q R h => kTa hW kX hm sa sb R h⟩
end
open RT (pi_revA pe_tupRev ItvT)
def zipD (xs ys : List D) : List D := List.zipWith (fun a b => D.tup [a, b]) xs ys
def dZip (m : M (List D)) : M (List D) := fun env => (m env).bind fun ds e => match ds with
 | [.lst xs, .lst ys] => .ok (zipD xs ys) e
 | [.tup xs, .tup ys] => .ok (zipD xs ys) e
 | _ => .bad
section
variable {W : Wd} {X : Cx} {Wx : WX} {O : List Nat} {p : Bool} {L : Lab} {H : Hp}
theorem kSI {xs ys : List D} {i : Nat} {a b : D} (h1 : xs[i]? = some a) (h2 : ys[i]? = some b) : (zipD xs ys)[i]? = some (.tup [a, b]) := by
 unfold zipD
 rw [List.getElem?_zipWith, h1, h2]
theorem kNs {xs ys : List D} : (zipD xs ys).length = min xs.length ys.length := by
 unfold zipD
 exact List.length_zipWith
theorem kKf {J : It} {xs ys : List D} {vs us : List V} (sz : vs.length ≤ sizeLine) (r : RpL W (Zo L) H xs vs) (r2 : RpL W (Zo L) H ys us)
  (go : ∀ (Z : Addr → Prop), (∀ a, Z a → H a ≠ none → Zo L a) → ∀ H', Ev W Z H H' → (∀ (i : Nat) x y, vs[i]? = some x → us[i]? = some y → J.go i H' ∧ ∀ v H2, J.yld i H' v H2 → ∃ T, v = .ref T ∧ H' T = none ∧ H2 = upd H' T (.tup [x, y])) ∧ ∀ i, (vs.length ≤ i ∨ us.length ≤ i) → J.stop i H') : kEr W J L H (zipD xs ys) := by
 have l1 := r.length
 have l2 := r2.length
 refine ⟨by rw [kNs]; omega, fun Z hz i H' ev => ?_⟩
 obtain ⟨g1, g2⟩ := go Z hz H' ev
 rw [kNs]
 refine ⟨fun hi => ?_, fun hi => g2 i (by omega)⟩
 obtain ⟨x, d, h1, h2, h3⟩ := kFa r hz ev (i := i) (by omega)
 obtain ⟨y, d2, k1, k2, k3⟩ := kFa r2 hz ev (i := i) (by omega)
 obtain ⟨a1, a2⟩ := g1 i x y h1 k1
 refine ⟨a1, fun v H2 hy => ?_⟩
 obtain ⟨T, rfl, nT, rfl⟩ := a2 v H2 hy
 refine ⟨Ev.new nT, .tup [d, d2], kSI h2 k2, ?_⟩
 unfold Rp
 refine ⟨T, _, rfl, ⟨upd_same, by rw [sizeLine_eq]; show 2 ≤ 16777216; decide⟩, ?_⟩
 unfold RpL
 refine ⟨_, _, rfl, Rp.ev (Ev.new nT) d x h3, ?_⟩
 unfold RpL
 refine ⟨_, _, rfl, Rp.ev (Ev.new nT) d2 y k3, by unfold RpL; rfl⟩
theorem kSE {a a2 : Expr} {ms : M (List D)} {elts : List Expr} {kk : Nat} {p0 pos tpos : Pos} (hg : Gl X "zip") (hm : X.mg "zip" = none) (ha : DAr W X Wx O [a, a2] ms 2 p) (hs : starEach [a, a2] X.env = (false, eval a X.env) :: starEach [a2] X.env := by rfl) (hpl : (backTo pos (starEach [a2] X.env)).any (·.1) = false := by rfl) :
  DI W X Wx O (.Tuple elts kk tpos) (.Call (.Name "zip" p0) [a, a2] [] pos) (dZip ms) p := by
 obtain ⟨k, ln, t, pa, s⟩ := ha
 refine ⟨k, _, RZ.pi_zipA hg hm pa hs hpl, fun G L env σ H R Rl h => s G L env σ H _ Rl ?_⟩
 unfold dZip at h
 cases q1 : ms env with
 | bad => rw [q1] at h; exact h.elim
 | exc c a e => rw [q1] at h; exact h
 | ok ds e1 =>
  rw [q1] at h
  have hl := ln _ _ _ q1
  intro vs H' R' E P A
  have A2 := A.two
  match ds, hl, h, A2 with
  | [.lst xs, .lst ys], _, h, A2 =>
   unfold RpL at A2
   obtain ⟨v, vs1, rfl, B1, A3⟩ := A2
   unfold RpL at A3
   obtain ⟨u, vs2, rfl, B2, A4⟩ := A3
   unfold RpL at A4
   subst A4
   unfold Rp at B1 B2
   obtain ⟨b1, us1, rfl, n1, ⟨h1, z1⟩, r1⟩ := B1
   obtain ⟨b2, us2, rfl, n2, ⟨h2, z2⟩, r2⟩ := B2
   refine ⟨b1, b2, us1, us2, rfl, .inl ⟨SqL.of h1, SqL.of h2, h _ H' R' E P (kKf z1 r1 r2 fun Z hz H2 ev => ?_)⟩⟩
   have q1 : SqL X.K H2 b1 us1 := SqL.of (ev.lst b1 us1 h1 fun z => n1 (hz b1 z (by rw [h1]; exact fun w => nomatch w)))
   have q2 : SqL X.K H2 b2 us2 := SqL.of (ev.lst b2 us2 h2 fun z => n2 (hz b2 z (by rw [h2]; exact fun w => nomatch w)))
   refine ⟨fun i x y e1 e2 => ⟨⟨us1, us2, x, y, q1, q2, e1, e2⟩, fun v H3 hy => ?_⟩, fun i hi => ⟨us1, us2, q1, q2, hi⟩⟩
   obtain ⟨T, x', y', rfl, nT, rfl, e3, e4⟩ := hy
   have e3 := e3 us1 q1
   have e4 := e4 us2 q2
   rw [e1] at e3
   rw [e2] at e4
   cases e3
   cases e4
   exact ⟨T, rfl, nT, rfl⟩
  | [.tup xs, .tup ys], _, h, A2 =>
   unfold RpL at A2
   obtain ⟨v, vs1, rfl, B1, A3⟩ := A2
   unfold RpL at A3
   obtain ⟨u, vs2, rfl, B2, A4⟩ := A3
   unfold RpL at A4
   subst A4
   unfold Rp at B1 B2
   obtain ⟨b1, us1, rfl, ⟨h1, z1⟩, r1⟩ := B1
   obtain ⟨b2, us2, rfl, ⟨h2, z2⟩, r2⟩ := B2
   refine ⟨b1, b2, us1, us2, rfl, .inr ⟨SqT.of h1, SqT.of h2, h _ H' R' E P (kKf z1 r1 r2 fun Z hz H2 ev => ?_)⟩⟩
   have q1 : SqT X.K H2 b1 us1 := SqT.of (ev.tup b1 us1 h1)
   have q2 : SqT X.K H2 b2 us2 := SqT.of (ev.tup b2 us2 h2)
   refine ⟨fun i x y e1 e2 => ⟨⟨us1, us2, x, y, q1, q2, e1, e2⟩, fun v H3 hy => ?_⟩, fun i hi => ⟨us1, us2, q1, q2, hi⟩⟩
   obtain ⟨T, x', y', rfl, nT, rfl, e3, e4⟩ := hy
   have e3 := e3 us1 q1
   have e4 := e4 us2 q2
   rw [e1] at e3
   rw [e2] at e4
   cases e3
   cases e4
   exact ⟨T, rfl, nT, rfl⟩
  | [.lst _, .tup _], _, h, _ => exact h.elim
  | [.lst _, .non], _, h, _ => exact h.elim
  | [.lst _, .bool _], _, h, _ => exact h.elim
  | [.lst _, .int _], _, h, _ => exact h.elim
  | [.lst _, .str _], _, h, _ => exact h.elim
  | [.lst _, .dic _ _], _, h, _ => exact h.elim
  | [.lst _, .obj _ _], _, h, _ => exact h.elim
  | [.lst _, .ro _], _, h, _ => exact h.elim
  | [.tup _, .lst _], _, h, _ => exact h.elim
  | [.tup _, .non], _, h, _ => exact h.elim
  | [.tup _, .bool _], _, h, _ => exact h.elim
  | [.tup _, .int _], _, h, _ => exact h.elim
  | [.tup _, .str _], _, h, _ => exact h.elim
  | [.tup _, .dic _ _], _, h, _ => exact h.elim
  | [.tup _, .obj _ _], _, h, _ => exact h.elim
  | [.tup _, .ro _], _, h, _ => exact h.elim
  | [.non, _], _, h, _ => exact h.elim
  | [.bool _, _], _, h, _ => exact h.elim
  | [.int _, _], _, h, _ => exact h.elim
  | [.str _, _], _, h, _ => exact h.elim
  | [.dic _ _, _], _, h, _ => exact h.elim
  | [.obj _ _, _], _, h, _ => exact h.elim
  | [.ro _, _], _, h, _ => exact h.elim
end
@[simp] theorem kWu {m : M (List D)} {env : EnvD} : dZip m env = (m env).bind fun ds e => match ds with
 | [.lst xs, .lst ys] => .ok (zipD xs ys) e
 | [.tup xs, .tup ys] => .ok (zipD xs ys) e
 | _ => .bad := rfl
end DL
namespace DL
open PySem PySem.Spec PySem.W PyProof.Rows L2
section
variable {W : Wd}
def kEl : List D → List D → Option (D × List D) := fun ds args => match args with
 | [.int i, d] => if ds.length < sizeLine ∧ 0 ≤ i ∧ i < 2 ^ 63 then some (.non, ds.take i.toNat ++ [d] ++ ds.drop i.toNat) else none
 | _ => none
theorem kHH : MF W (fun x vs H Q => ∃ (l : Addr) (xs : List V) (i : Int) (y : V), x = .ref l ∧ vs = [.int i, y] ∧ H l = some (.lst xs) ∧ xs.length < sizeLine ∧ 0 ≤ i ∧ i < 2 ^ 63 ∧
  Q .non (upd H l (.lst (xs.take i.toNat ++ [y] ++ xs.drop i.toNat)))) kEl := fun L H a vs us ds args d ds' Q h sz rd ra hf hq => by
 match args, ra, hf with
 | [.int i, x], ra, hf =>
  unfold RpL at ra
  obtain ⟨v, vs2, rfl, rx, ra2⟩ := ra
  obtain ⟨y, rfl, ry⟩ := rpl1 ra2
  unfold Rp at rx
  subst rx
  have hf : (if ds.length < sizeLine ∧ 0 ≤ i ∧ i < 2 ^ 63 then some (D.non, ds.take i.toNat ++ [x] ++ ds.drop i.toNat) else none) = some (d, ds') := hf
  split at hf
  ·rename_i c
   cases hf
   have e := rd.length
   refine ⟨a, vs, i, y, rfl, rfl, h, by omega, c.2.1, c.2.2, hq .non _ (((rd.take _).append ?_).append (rd.drop _)) (by unfold Rp; rfl) ?_⟩
   ·unfold RpL
    exact ⟨y, [], rfl, ry, by unfold RpL; rfl⟩
   ·rw [gG2, gG2, List.length_take, List.length_drop, gG3]
    omega
  ·cases hf
 | [], _, hf => cases hf
 | [x], _, hf => cases x <;> cases hf
 | x :: _ :: _ :: _, _, hf => cases x <;> cases hf
 | [.non, _], _, hf => cases hf
 | [.bool _, _], _, hf => cases hf
 | [.str _, _], _, hf => cases hf
 | [.tup _, _], _, hf => cases hf
 | [.lst _, _], _, hf => cases hf
 | [.ro _, _], _, hf => cases hf
 | [.dic _ _, _], _, hf => cases hf
 | [.obj _ _, _], _, hf => cases hf
end
end DL
namespace DL
open PySem PySem.Spec PyProof.Rows L2
section
variable {α β : Type}
@[simp] theorem kAl {a : α} {e : EnvD} {f : α → EnvD → Out β} : (Out.ok a e).bind f = f a e := rfl
@[simp] theorem kWl {c : Str} {a : Option D} {e : EnvD} {f : α → EnvD → Out β} : (Out.exc c a e : Out α).bind f = .exc c a e := rfl
@[simp] theorem kPy {e : EnvD} {f : MS} : (OutS.nx e).seq f = f e := rfl
@[simp] theorem kWH {d : D} {e : EnvD} {f : MS} : (OutS.rt d e).seq f = .rt d e := rfl
@[simp] theorem kWJ {e : EnvD} {f : MS} : (OutS.bk e).seq f = .bk e := rfl
@[simp] theorem kWI {e : EnvD} {f : MS} : (OutS.ct e).seq f = .ct e := rfl
@[simp] theorem kWk {c : Str} {a : Option D} {e : EnvD} {f : MS} : (OutS.exc c a e).seq f = .exc c a e := rfl
end
section
variable {env e : EnvD} {d : D} {m m1 m2 m3 : M D} {ms : M (List D)} {t t1 t2 : M Bool} {s s1 s2 : MS} {i k n n0 : Nat} {F : D → D → Option D} {FU : D → Option D} {FL : List D → Option D} {FF : FM} {dd : List D}
@[simp] theorem u_c : dC d env = .ok d env := rfl
@[simp] theorem kAj : lift (some d) env = .ok d env := rfl
@[simp] theorem kAo : dVar i env = (match env[i]? with | some (some d) => .ok d env | _ => .bad) := rfl
@[simp] theorem kAv : dOp2 F m1 m2 env = (m1 env).bind fun a e1 => (m2 e1).bind fun b e2 => lift (F a b) e2 := rfl
@[simp] theorem u_un : dUn FU m env = (m env).bind fun d e => lift (FU d) e := rfl
@[simp] theorem kAq : dNil env = .ok [] env := rfl
@[simp] theorem kAi : kAa m ms env = (m env).bind fun d e => (ms e).bind fun ds e2 => .ok (d :: ds) e2 := rfl
@[simp] theorem u_cb : dCB FL ms env = (ms env).bind fun ds e => lift (FL ds) e := rfl
@[simp] theorem kIT : dTup ms env = (ms env).bind fun ds e => .ok (.tup ds) e := rfl
@[simp] theorem kET : dLst ms env = (ms env).bind fun ds e => .ok (.lst ds) e := rfl
@[simp] theorem kAG : kAp m env = (m env).bind fun d e => match d with | .bool b => .ok b e | _ => .bad := rfl
@[simp] theorem kLq : dTru m env = (m env).bind fun d e => match kIE d with | some b => .ok b e | none => .bad := rfl
@[simp] theorem kLr : dNot t env = (t env).bind fun b e => .ok (!b) e := rfl
@[simp] theorem kWh : kRT t env = (t env).bind fun b e => .ok (.bool b) e := rfl
@[simp] theorem kVz : dAnd t1 t2 env = (t1 env).bind fun b e => if b = true then t2 e else .ok false e := rfl
@[simp] theorem u_or : dOr t1 t2 env = (t1 env).bind fun b e => if b = true then .ok true e else t2 e := rfl
@[simp] theorem kPa : kGL m1 m2 env = (m1 env).bind fun d e => match kIE d with | some true => m2 e | some false => .ok d e | none => .bad := rfl
@[simp] theorem u_if : dIf t m1 m2 env = (t env).bind fun b e => if b = true then m1 e else m2 e := rfl
@[simp] theorem kBi : kAr m env = (m env).bind fun d e => match items d with | some ds => .ok ds e | none => .bad := rfl
@[simp] theorem kWv : mYes env = .ok true env := rfl
@[simp] theorem kMC : dSeq s1 s2 env = (s1 env).seq s2 := rfl
@[simp] theorem kCB : dIte t s1 s2 env = (match t env with | .ok b e => if b = true then s1 e else s2 e | .exc c a e => .exc c a e | .bad => .bad) := rfl
@[simp] theorem kDj : dSet i m env = (match m env with | .ok d e => .nx (e.set i (some d)) | .exc c a e => .exc c a e | .bad => .bad) := rfl
@[simp] theorem kDC : dRet m env = (match m env with | .ok d e => .rt d e | .exc c a e => .exc c a e | .bad => .bad) := rfl
@[simp] theorem kCL : kBw env = .nx env := rfl
@[simp] theorem kIs : kDU m env = (match m env with | .ok _ e => .nx e | .exc c a e => .exc c a e | .bad => .bad) := rfl
@[simp] theorem kJK {is : List Nat} : dPar is ms env = (match ms env with | .ok ds e => .nx (stE e is ds) | .exc c a e => .exc c a e | .bad => .bad) := rfl
@[simp] theorem kGN {ds : List D} : stE e [] ds = e := by cases ds <;> rfl
@[simp] theorem kJJ {is : List Nat} {ds : List D} : stE e (i :: is) (d :: ds) = stE (e.set i (some d)) is ds := rfl
@[simp] theorem kAw : kAh FF dd ms env = (ms env).bind fun ds e => ofF e (FF (ds ++ dd)) := rfl
@[simp] theorem kBE : kAn FF i dd ms env = (match env[i]? with
 | some (some _) => (ms env).bind fun ds e => (match e[i]? with
  | some (some d0) => ofFI e i (FF (d0 :: (ds ++ dd)))
  | _ => .bad)
 | _ => .bad) := rfl
@[simp] theorem kBk {io : D} : ofF env (.ok d io) = .ok d env := rfl
@[simp] theorem kCM {io : D} : ofFI env i (.ok d io) = .ok d (env.set i (some io)) := rfl
@[simp] theorem kNv {pm : List Nat} : kFd pm dd ms env = (ms env).bind fun ds e => .ok (pick pm (ds ++ dd)) e := rfl
@[simp] theorem kVy {F' : D → D → Option D} : kKk F F' m1 m2 m3 env = (m1 env).bind fun a e1 => (m2 e1).bind fun b e2 => match F a b with
 | some (.bool true) => (m3 e2).bind fun c e3 => lift (F' b c) e3
 | some (.bool false) => .ok (.bool false) e2
 | _ => .bad := rfl
@[simp] theorem kST : kDc ms env = (ms env).bind fun ds e => match ds with
 | [.int j] => if j.toNat ≤ sizeLine ∧ -(2 ^ 62) ≤ j then .ok (kGa 0 j.toNat) e else .bad
 | [.int i, .int j] => if (j - i).toNat ≤ sizeLine ∧ (-(2 ^ 61) ≤ i ∧ i < 2 ^ 61) ∧ -(2 ^ 61) ≤ j then .ok (kGa i (j - i).toNat) e else .bad
 | _ => .bad := rfl
@[simp] theorem kIr {FM : List D → List D → Option (D × List D)} : kEs i FM ms env = (match env[i]? with
 | some (some (.lst _)) => (ms env).bind fun args e => (match e[i]? with
  | some (some (.lst ds)) => (match FM ds args with
   | some r => .ok r.1 (e.set i (some (.lst r.2)))
   | none => .bad)
  | _ => .bad)
 | _ => .bad) := rfl
@[simp] theorem kLt {src : M (List D)} {gd : D → EnvD → Option EnvD} : dFor src gd s env = (match src env with
 | .ok ds e => kDO gd s ds e
 | .exc c a e => .exc c a e
 | .bad => .bad) := rfl
@[simp] theorem u_lc {b : Bool} {src : M (List D)} {gd : D → EnvD → Option EnvD} {vs : List Nat} : dLc b src gd t m vs env = (match src env with
 | .ok ds e => (match lcGo b gd t m vs ds e with
  | some r => .ok (.lst r.1) r.2
  | none => .bad)
 | .exc c a e => .exc c a e
 | .bad => .bad) := rfl
@[simp] theorem u_gN : gN i d env = some (env.set i (some d)) := rfl
theorem kBy {ds : List D} (h : s (ds.map some ++ List.replicate (n - ds.length) none) = .rt d e) (n0 : Nat) : runF n n0 s ds = (match ioOf n0 e with | some d' => .ok d d' | none => .bad) := by
 unfold runF
 rw [h] <;> rfl
variable {a b : Int} {xs ys : List D}
@[simp] theorem kSn : dAdd (.int a) (.int b) = some (.int (a + b)) := rfl
@[simp] theorem kVW : iSub (.int a) (.int b) = some (.int (a - b)) := rfl
@[simp] theorem kUj : iMul (.int a) (.int b) = (if (-(2 ^ 64) < a ∧ a < 2 ^ 64) ∨ (-(2 ^ 64) < b ∧ b < 2 ^ 64) then some (a * b) else none).map .int := rfl
@[simp] theorem kWg : iDiv (.int a) (.int b) = (if 0 < b ∧ b < 1073741824 then some (a / b) else none).map .int := rfl
@[simp] theorem kWa : iMod (.int a) (.int b) = (if 0 < b then some (a % b) else none).map .int := rfl
@[simp] theorem kVY : iPow (.int a) (.int b) = (if 0 ≤ b ∧ b ≤ 1000000 ∧ a.natAbs < 2 ^ 64 then some (a ^ b.toNat) else none).map .int := rfl
@[simp] theorem kWw : dLt (.int a) (.int b) = some (.bool (decide (a < b))) := rfl
@[simp] theorem kWx : dLe (.int a) (.int b) = some (.bool (decide (a ≤ b))) := rfl
@[simp] theorem kWD : dGt (.int a) (.int b) = some (.bool (decide (b < a))) := rfl
@[simp] theorem kWE : dGe (.int a) (.int b) = some (.bool (decide (b ≤ a))) := rfl
@[simp] theorem kUl : dIx (.lst xs) (.int a) = atI xs a := rfl
@[simp] theorem kWz : dIx (.ro xs) (.int a) = atI xs a := rfl
@[simp] theorem kWy : dIx (.tup xs) (.int a) = atI xs a := rfl
@[simp] theorem kWe : dLen [.lst xs] = some (.int xs.length) := rfl
@[simp] theorem kWd : dLen [.ro xs] = some (.int xs.length) := rfl
@[simp] theorem kWc : dLen [.tup xs] = some (.int xs.length) := rfl
@[simp] theorem kVV : kEp [.lst xs] = some (.tup xs) := rfl
@[simp] theorem kVU : kEp [.ro xs] = some (.tup xs) := rfl
@[simp] theorem kVT : kEp [.tup xs] = some (.tup xs) := rfl
@[simp] theorem kLs : items (.lst xs) = some xs := rfl
@[simp] theorem kWA : items (.ro xs) = some xs := rfl
@[simp] theorem kUm : items (.tup xs) = some xs := rfl
@[simp] theorem kUn : dInt [.int a] = some (.int a) := rfl
@[simp] theorem kWf {c : Bool} : dInt [.bool c] = some (.int (if c then 1 else 0)) := rfl
@[simp] theorem kWj : dAbs [.int a] = some (.int (if a < 0 then -a else a)) := rfl
@[simp] theorem kUo : dAdd (.lst xs) (.lst ys) = if xs.length + ys.length ≤ sizeLine then some (.lst (xs ++ ys)) else none := rfl
@[simp] theorem kWi : dAdd (.tup xs) (.tup ys) = if xs.length + ys.length ≤ sizeLine then some (.tup (xs ++ ys)) else none := rfl
@[simp] theorem kWC : ioOf 0 e = some .non := by
 unfold ioOf
 rfl
@[simp] theorem kWB : ioOf (n + 1) (some d :: e) = some d := rfl
end
section
variable {gd : D → EnvD → Option EnvD} {t : M Bool} {m : M D} {vs : List Nat} {body : MS}
theorem kPQ {I : EnvD → Prop} : ∀ {ds : List D} {env : EnvD}, I env → (∀ d ∈ ds, ∀ env, I env → ∃ e1 c e2, gd d (kAN env vs) = some e1 ∧ t e1 = .ok c e2 ∧ (c = false → I (kAN e2 vs)) ∧ (c = true → ∃ e3, m e2 = .ok d e3 ∧ I (kAN e3 vs))) →
  ∃ r env', lcGo false gd t m vs ds env = some (r, env') ∧ r.Sublist ds ∧ I env'
 | [], env, i, _ => ⟨[], env, rfl, .slnil, i⟩
 | d :: ds, env, i, h => by
  obtain ⟨e1, c, e2, h1, h2, h3, h4⟩ := h d gF1 env i
  have hr := fun x hx => h x (gF2 _ hx)
  cases c with
  | false =>
   obtain ⟨r, env', q1, q2, q3⟩ := kPQ (h3 rfl) hr
   refine ⟨r, env', ?_, q2.cons _, q3⟩
   unfold lcGo
   simp [h1, h2, q1]
  | true =>
   obtain ⟨e3, y, h5⟩ := h4 rfl
   obtain ⟨r, env', q1, q2, q3⟩ := kPQ h5 hr
   refine ⟨d :: r, env', ?_, q2.cons₂ _, q3⟩
   unfold lcGo
   simp [h1, h2, y, q1]
theorem kPR {I : EnvD → Prop} {P : D → Prop} : ∀ {ds : List D} {env : EnvD}, I env → (∀ d ∈ ds, ∀ env, I env → ∃ e1 y e3, gd d (kAN env vs) = some e1 ∧ m e1 = .ok y e3 ∧ P y ∧ I (kAN e3 vs)) →
  ∃ r env', lcGo false gd mYes m vs ds env = some (r, env') ∧ r.length = ds.length ∧ (∀ y ∈ r, P y) ∧ I env'
 | [], env, i, _ => ⟨[], env, rfl, rfl, (fun _ h => nomatch h), i⟩
 | d :: ds, env, i, h => by
  obtain ⟨e1, y, e3, h1, h2, h3, h4⟩ := h d gF1 env i
  obtain ⟨r, env', q1, q2, q3, q4⟩ := kPR h4 fun x hx => h x (gF2 _ hx)
  refine ⟨y :: r, env', ?_, by simp [q2], fun z hz => ?_, q4⟩
  ·unfold lcGo
   simp [h1, h2, q1, mYes]
  ·rcases gG5.mp hz with rfl | hz
   ·exact h3
   ·exact q3 z hz
theorem kKY {I : Nat → EnvD → Prop} {J : EnvD → Prop} : ∀ {ds : List D} {k : Nat} {env : EnvD}, I k env → (∀ (i : Nat) (d : D) env, ds[i]? = some d → I (k + i) env → ∃ e, gd d env = some e ∧ ((∃ e2, (body e = .nx e2 ∨ body e = .ct e2) ∧ I (k + i + 1) e2) ∨ ∃ e2, body e = .bk e2 ∧ J e2)) →
  ∃ env', kDO gd body ds env = .nx env' ∧ (I (k + ds.length) env' ∨ J env')
 | [], k, env, i, _ => ⟨env, rfl, .inl i⟩
 | d :: ds, k, env, i, h => by
  obtain ⟨e, h1, h2⟩ := h 0 d env rfl i
  rcases h2 with ⟨e2, h3, h4⟩ | ⟨e2, h3, h4⟩
  ·obtain ⟨env', q1, q2⟩ := kKY (I := I) (J := J) (ds := ds) (k := k + 1) (env := e2) h4 fun i d env hd hi => by
    have := h (i + 1) d env (by simpa using hd) (by rw [← Nat.add_assoc, Nat.add_right_comm]; exact hi)
    rw [show k + (i + 1) = k + 1 + i by omega] at this
    exact this
   refine ⟨env', ?_, ?_⟩
   ·unfold kDO
    rcases h3 with h3 | h3 <;> simp [h1, h3, q1]
   ·rw [gG0, show k + (ds.length + 1) = k + 1 + ds.length by omega]
    exact q2
  ·refine ⟨e2, ?_, .inr h4⟩
   unfold kDO
   simp [h1, h3]
end
end DL
namespace PL
open PySem PySem.Spec PyProof.Rows L2 DL
open PySem.PyData (strOk)
theorem kEh {a b : Str} (ha : strOk a = true) (hb : strOk b = true) : strOk (a ++ b) = true := by
 show (a.cps ++ b.cps).all _ = true
 rw [Array.all_append]
 exact gG6.mpr ⟨ha, hb⟩
theorem kQC (c : Char) : c.toNat < 0x110000 := by
 have : c.val.toNat < 0xd800 ∨ (0xdfff < c.val.toNat ∧ c.val.toNat < 0x110000) := c.valid
 show c.val.toNat < 0x110000
 omega
theorem kCX (s : String) : strOk (Str.ofString s) = true := by
 rw [Str.ofString_eq_toList]
 unfold strOk
 rw [← Array.all_toList]
 refine gH5.mpr fun c hc => gH1 ?_
 obtain ⟨x, _, rfl⟩ := gF7.mp hc
 exact kQC x
theorem kMY {q c : Nat} (h : c < 0x110000) : ∀ x ∈ Builtin.Str.reprChar q c, x < 0x110000 := by
 have hex : ∀ w, ∀ x ∈ (let d := (Nat.toDigits 16 c).map Char.toNat; List.replicate (w - d.length) 48 ++ d), x < 0x110000 := by
  intro w x hx
  rcases gG8.mp hx with q | q
  ·rw [(List.mem_replicate.mp q).2]
   decide
  ·obtain ⟨y, _, rfl⟩ := gF7.mp q
   exact kQC y
 have pre : ∀ (a b : Nat) (w : Nat), a < 0x110000 → b < 0x110000 → ∀ x ∈ [a, b] ++ (let d := (Nat.toDigits 16 c).map Char.toNat; List.replicate (w - d.length) 48 ++ d), x < 0x110000 := by
  intro a b w ha hb x hx
  rcases gG8.mp hx with q | q
  ·rcases gG5.mp q with rfl | q
   ·exact ha
   ·rw [gG4.mp q]
    exact hb
  ·exact hex w x q
 have two : ∀ a b : Nat, a < 0x110000 → b < 0x110000 → ∀ x ∈ [a, b], x < 0x110000 := by
  intro a b ha hb x hx
  rcases gG5.mp hx with rfl | q
  ·exact ha
  ·rw [gG4.mp q]
   exact hb
 unfold Builtin.Str.reprChar
 simp only
 split
 ·exact two _ _ (by decide) h
 split
 ·exact two _ _ (by decide) (by decide)
 split
 ·exact two _ _ (by decide) (by decide)
 split
 ·exact two _ _ (by decide) (by decide)
 split
 ·intro x hx
  rw [gG4.mp hx]
  exact h
 split
 ·exact pre _ _ 2 (by decide) (by decide)
 split
 ·exact pre _ _ 4 (by decide) (by decide)
 ·exact pre _ _ 8 (by decide) (by decide)
theorem kQe {q : Nat} : ∀ (l : List Nat) (acc : Array Nat), (∀ x ∈ acc.toList, x < 0x110000) → (∀ c ∈ l, c < 0x110000) → ∀ x ∈ (l.foldl (fun out c => out ++ (Builtin.Str.reprChar q c).toArray) acc).toList, x < 0x110000
 | [], acc, h, _ => h
 | c :: l, acc, h, hl => by
  rw [List.foldl_cons]
  refine kQe l _ (fun x hx => ?_) fun x hx => hl x (gF2 _ hx)
  rw [Array.toList_append] at hx
  rcases gG8.mp hx with r | r
  ·exact h x r
  ·exact kMY (hl c gF1) x r
theorem kNM (x : Str) : reprQuote x < 0x110000 := by
 unfold reprQuote
 split <;> decide
theorem kMW {x : Str} (h : strOk x = true) : strOk (reprText x) = true := by
 have hc : ∀ c ∈ x.cps.toList, c < 0x110000 := fun c hc => by
  unfold strOk at h
  rw [← Array.all_toList] at h
  exact gF5 (gH5.mp h c hc)
 unfold reprText strOk
 rw [← Array.all_toList]
 refine gH5.mpr fun c q => gH1 ?_
 simp only at q
 rw [Array.toList_push, ← Array.foldl_toList] at q
 rcases gG8.mp q with r | r
 ·exact kQe x.cps.toList _ (fun y hy => by
   have : y = reprQuote x := by simpa using hy
   rw [this]
   exact kNM x) hc c r
 ·rw [gG4.mp r]
  exact kNM x
theorem kIV : ∀ (ts : List Str) (k : Nat) (acc : Str), (∀ t ∈ ts, strOk t = true) → strOk acc = true → strOk (textFrom k acc ts) = true
 | [], k, acc, _, h => by
  unfold textFrom
  exact h
 | t :: ts, k, acc, ht, h => by
  unfold textFrom
  exact kIV ts _ _ (fun x hx => ht x (gF2 _ hx)) (kEh (kEh h (kCX _)) (ht t gF1))
theorem kPW : ∀ (ts : List Str), (∀ t ∈ ts, strOk t = true) → strOk (Str.join ", " ts) = true
 | [], _ => by
  show strOk Str.empty = true
  unfold strOk Str.empty
  simp
 | [x], h => h x gF1
 | x :: y :: r, h => kEh (kEh (h x gF1) (kCX _)) (kPW (y :: r) fun t ht => h t (gF2 _ ht))
mutual
theorem kNC : ∀ (d : PyData), d.canLay0 = true → strOk d.shown = true
 | .none, _ => by
  unfold PyData.shown
  exact kCX _
 | .bool b, _ => by
  unfold PyData.shown
  split <;> exact kCX _
 | .int i, _ => by
  unfold PyData.shown
  exact kCX _
 | .str x, h => by
  unfold PyData.shown
  exact kMW (by simpa [PyData.canLay0] using h)
 | .list xs, h => by
  unfold PyData.shown listText
  exact kEh (kIV _ _ _ (kGZ xs (by simpa [PyData.canLay0] using h)) (kCX _)) (kCX _)
 | .tuple xs, h => by
  unfold PyData.shown tupleText
  exact kEh (kEh (kCX _) (kPW _ (kGZ xs (by simpa [PyData.canLay0] using h)))) (kCX _)
 | .dict _, h => by simp [PyData.canLay0] at h
theorem kGZ : ∀ (ds : List PyData), PyData.canLayAll0 ds = true → ∀ t ∈ PyData.shownAll ds, strOk t = true
 | [], _, t, ht => by
  unfold PyData.shownAll at ht
  cases ht
 | d :: ds, h, t, ht => by
  have h' : d.canLay0 = true ∧ PyData.canLayAll0 ds = true := by simpa [PyData.canLayAll0] using h
  unfold PyData.shownAll at ht
  rcases gG5.mp ht with rfl | q
  ·exact kNC d h'.1
  ·exact kGZ ds h'.2 t q
end
theorem kKZ {d : D} (h1 : d.plain = true) (h2 : d.py.canLay0 = true) (h4 : d.py.depth ≤ 64) : d.fine = true := by
 unfold D.fine SeqAt.shaped
 rw [h1, h2, gH1 h4]
 rfl
end PL
namespace PL
open PySem PySem.Spec PySem.W PyProof.Rows L2 DL
theorem lt_irrefl (d : PyData) : dataLt d d = false := (listOrd itemOrd).irrefl _
theorem kNX {a b c : PyData} (h1 : dataLt a b = true) (h2 : dataLt b c = true) : dataLt a c = true :=
 (listOrd itemOrd).trans _ _ _ (show (listOrd itemOrd).blt (keyToks a) (keyToks b) = true from h1) (show (listOrd itemOrd).blt (keyToks b) (keyToks c) = true from h2)
theorem kRz {a b : PyData} (h : dataLt a b = true) : dataLt b a = false := by
 cases q : dataLt b a with
 | false => rfl
 | true =>
  have := kNX h q
  rw [lt_irrefl] at this
  cases this
def Asc (ds : List D) : Prop := ds.Pairwise fun a b => dataLt a.py b.py = true
theorem kQI : ∀ {ds : List D}, Asc ds → ∀ {a b : D}, a ∈ ds → b ∈ ds → a = b ∨ dataLt a.py b.py = true ∨ dataLt b.py a.py = true
 | [], _, _, _, h, _ => nomatch h
 | d :: ds, s, a, b, ha, hb => by
  obtain ⟨s1, s2⟩ := List.pairwise_cons.mp s
  rcases gG5.mp ha with e | ha
  ·rcases gG5.mp hb with e' | hb
   ·exact .inl (e.trans e'.symm)
   ·rw [e]
    exact .inr (.inl (s1 b hb))
  ·rcases gG5.mp hb with e | hb
   ·rw [e]
    exact .inr (.inr (s1 a ha))
   ·exact kQI s2 ha hb
theorem kLC {xs ys : List D} (p : xs.Perm ys) (s : Asc ys) : kDk xs = ys := by
 have pe : (kDk xs).Perm ys := (List.mergeSort_perm xs _).trans p
 refine kIa (le := dataLe false D.py) pe (fun a b ha hb h1 h2 => ?_) (List.pairwise_mergeSort (fun a b c => kED D.py a b c) (fun a b => kEE D.py a b) xs) (s.imp fun {a b} h => ?_)
 ·have h1 : (!dataLt b.py a.py) = true := h1
  have h2 : (!dataLt a.py b.py) = true := h2
  rcases kQI s (pe.mem_iff.mp ha) (pe.mem_iff.mp hb) with e | e | e
  ·exact e
  ·rw [e] at h2; cases h2
  ·rw [e] at h1; cases h1
 ·show (!dataLt b.py a.py) = true
  rw [kRz h]
  rfl
theorem perm_of {α : Type} : ∀ {xs ys : List α}, xs.Nodup → ys.Nodup → (∀ x, x ∈ xs ↔ x ∈ ys) → xs.Perm ys
 | [], ys, _, _, h => by
  cases ys with
  | nil => exact .nil
  | cons y r => exact absurd ((h y).mpr gF1) (by simp)
 | x :: xs, ys, h1, h2, h => by
  obtain ⟨s, t, rfl⟩ := List.append_of_mem ((h x).mp gF1)
  obtain ⟨n1, n2⟩ := List.nodup_cons.mp h1
  obtain ⟨m1, m2⟩ := List.nodup_cons.mp ((List.perm_middle (a := x) (l₁ := s) (l₂ := t)).nodup_iff.mp h2)
  refine (List.Perm.cons x (perm_of n2 m2 fun z => ?_)).trans List.perm_middle.symm
  constructor
  ·intro hz
   have := (h z).mp (gF2 _ hz)
   rcases gG8.mp this with q | q
   ·exact gG8.mpr (.inl q)
   ·rcases gG5.mp q with rfl | q
    ·exact (n1 hz).elim
    ·exact gG8.mpr (.inr q)
  ·intro hz
   have : z ∈ s ++ x :: t := by
    rcases gG8.mp hz with q | q
    ·exact gG8.mpr (.inl q)
    ·exact gG8.mpr (.inr (gF2 _ q))
   rcases gG5.mp ((h z).mpr this) with rfl | q
   ·exact (m1 hz).elim
   ·exact q
def Lt (x y : Str) : Prop := x.cps.toList < y.cps.toList
instance (x y : Str) : Decidable (Lt x y) := inferInstanceAs (Decidable (x.cps.toList < y.cps.toList))
theorem kHK (x y : Str) : dataLt (D.str x).py (D.str y).py = decide (Lt x y) := dataLt_str x y
def Nam (x : Str) : Prop := (1 ≤ x.cps.size ∧ x.cps.size ≤ 5) ∧ ∀ c ∈ x.cps.toList, 97 ≤ c ∧ c ≤ 122
def Up (l : List Str) : Prop := l.Pairwise Lt
theorem Lt.irrefl {x : Str} : ¬ Lt x x := fun h => by
 have := lt_irrefl (D.str x).py
 rw [kHK, gH1 h] at this
 cases this
theorem Lt.trans {x y z : Str} (h1 : Lt x y) (h2 : Lt y z) : Lt x z := by
 have := kNX (a := (D.str x).py) (b := (D.str y).py) (c := (D.str z).py) (by rw [kHK]; exact gH1 h1) (by rw [kHK]; exact gH1 h2)
 rw [kHK] at this
 exact gF5 this
theorem Up.nodup {l : List Str} (h : Up l) : l.Nodup := h.imp fun {a b} q e => by
 rw [e] at q
 exact Lt.irrefl q
abbrev S (x : Str) : D := .str x
def T (l : List Str) : D := .tup (l.map D.str)
theorem kVS {l : List Str} : Asc (l.map S) ↔ Up l := by
 unfold Asc Up
 rw [List.pairwise_map]
 constructor
 ·exact fun h => h.imp fun {a b} q => by rw [kHK] at q; exact gF5 q
 ·exact fun h => h.imp fun {a b} q => by rw [kHK]; exact gH1 q
theorem kEg {l : List D} (h : ∀ d ∈ l, d.plain = true) : kEx l = true := by
 induction l with
 | nil => rfl
 | cons d l ih =>
  unfold kEx
  rw [h d gF1, ih fun x hx => h x (gF2 _ hx)]
  rfl
theorem kIo {l : List D} (h : ∀ d ∈ l, d.py.canLay0 = true) : PyData.canLayAll0 (pyL l) = true := by
 induction l with
 | nil => rfl
 | cons d l ih =>
  unfold pyL PyData.canLayAll0
  rw [h d gF1, ih fun x hx => h x (gF2 _ hx)]
  rfl
theorem kRh {l : List D} (h : ∀ d ∈ l, d.py.showable = true) : PyData.showableAll (pyL l) = true := by
 induction l with
 | nil => rfl
 | cons d l ih =>
  unfold pyL PyData.showableAll
  rw [h d gF1, ih fun x hx => h x (gF2 _ hx)]
  rfl
theorem kHR {n : Nat} {l : List D} (h : ∀ d ∈ l, d.py.depth ≤ n) : PyData.depthAll (pyL l) ≤ n := by
 induction l with
 | nil => exact Nat.zero_le _
 | cons d l ih =>
  unfold pyL PyData.depthAll
  exact Nat.max_le.mpr ⟨h d gF1, ih fun x hx => h x (gF2 _ hx)⟩
theorem kRZ {n : Nat} {l : List D} (h : ∀ d ∈ l, cost d.py ≤ n) : kGy (pyL l) ≤ l.length * (n + 2) := by
 induction l with
 | nil => exact Nat.zero_le _
 | cons d l ih =>
  unfold pyL kGy
  have := h d gF1
  have := ih fun x hx => h x (gF2 _ hx)
  rw [gG0, Nat.add_mul]
  omega
theorem Nice.mono {n m c k : Nat} {d : D} (h : Nice n c d) (h1 : n ≤ m) (h2 : c ≤ k) : Nice m k d := ⟨h.plain, h.lay, h.show', Nat.le_trans h.depth h1, Nat.le_trans h.cost h2⟩
theorem Nice.fine {n c : Nat} {d : D} (h : Nice n c d) (hn : n ≤ 64 := by decide) : d.fine = true := kKZ h.plain h.lay (Nat.le_trans h.depth hn)
theorem kEz {n : Nat} {x : Str} (h : Nam x) : Nice n 52 (.str x) := by
 refine ⟨rfl, ?_, rfl, Nat.zero_le _, ?_⟩
 ·show PyData.strOk x = true
  unfold PyData.strOk
  rw [← Array.all_toList]
  exact gH5.mpr fun c hc => gH1 (by have := (h.2 c hc).2; omega)
 ·show 10 * x.cps.size + 2 ≤ 52
  have := h.1.2
  omega
theorem kNV {n c : Nat} {l : List D} (h : ∀ d ∈ l, Nice n c d) : Nice (n + 1) (l.length * (c + 2) + 3) (.tup l) := by
 refine ⟨kEg fun d hd => (h d hd).plain, ?_, ?_, ?_, ?_⟩
 ·show PyData.canLay0 (.tuple (pyL l)) = true
  unfold PyData.canLay0
  exact kIo fun d hd => (h d hd).lay
 ·show PyData.showable (.tuple (pyL l)) = true
  unfold PyData.showable
  exact kRh fun d hd => (h d hd).show'
 ·show PyData.depth (.tuple (pyL l)) ≤ _
  unfold PyData.depth
  have := kHR fun d hd => (h d hd).depth
  omega
 ·show PL.cost (.tuple (pyL l)) ≤ _
  unfold PL.cost
  have := kRZ fun d hd => (h d hd).cost
  omega
def kIq (l : List Str) : Prop := (∀ x ∈ l, Nam x) ∧ l.length ≤ 10
theorem kPE {l : List Str} (h : kIq l) : Nice 1 600 (T l) := by
 refine (kNV (n := 0) (c := 52) (l := l.map D.str) fun d hd => ?_).mono (Nat.le_refl _) ?_
 ·obtain ⟨x, hx, rfl⟩ := gF7.mp hd
  exact kEz (h.1 x hx)
 ·rw [gF0]
  have := h.2
  omega
theorem kHm (x y : Str) : PyData.eqv (D.str x).py (D.str y).py = decide (x = y) := by
 show PyData.eqv (.str x) (.str y) = _
 unfold PyData.eqv
 rfl
theorem kOl : ∀ (a b : List Str), PyData.eqvAll (pyL (a.map D.str)) (pyL (b.map D.str)) = decide (a = b)
 | [], [] => by simp [pyL, PyData.eqvAll]
 | [], _ :: _ => by simp [pyL, PyData.eqvAll]
 | _ :: _, [] => by simp [pyL, PyData.eqvAll]
 | x :: a, y :: b => by
  simp only [gG1, pyL, PyData.eqvAll]
  rw [kOl a b, kHm]
  by_cases h1 : x = y <;> by_cases h2 : a = b <;> simp [h1, h2]
theorem kVO (a b : List Str) : PyData.eqv (T a).py (T b).py = decide (a = b) := by
 show PyData.eqv (.tuple (pyL (a.map D.str))) (.tuple (pyL (b.map D.str))) = _
 unfold PyData.eqv
 exact kOl a b
theorem kLg {x y : Str} (hx : Nam x) (hy : Nam y) : deq (.str x) (.str y) = some (decide (x = y)) := by
 unfold deq
 rw [(kEz (n := 0) hx).fine, (kEz (n := 0) hy).fine, kHm]
 simp
theorem kVP {a b : List Str} (ha : kIq a) (hb : kIq b) : deq (T a) (T b) = some (decide (a = b)) := by
 unfold deq
 rw [(kPE ha).fine, (kPE hb).fine, kVO]
 simp
theorem kTW (l : List Str) (x : Str) : ((l.map D.str).any fun y => PyData.eqv y.py (D.str x).py) = decide (x ∈ l) := by
 rw [List.any_map, Bool.eq_iff_iff]
 simp only [List.any_eq_true, Function.comp_apply, decide_eq_true_eq]
 constructor
 ·rintro ⟨y, hy, e⟩
  rw [kHm] at e
  rw [← gF5 e]
  exact hy
 ·intro h
  refine ⟨x, h, ?_⟩
  rw [kHm]
  simp
theorem in_T {x : Str} {l : List Str} (hx : Nam x) (hl : kIq l) : dIn (.str x) (T l) = some (.bool (decide (x ∈ l))) := by
 show (if (D.str x).fine = true ∧ (T l).fine = true then some (D.bool ((l.map D.str).any fun y => PyData.eqv y.py (D.str x).py)) else none) = _
 rw [if_pos ⟨(kEz (n := 0) hx).fine, (kPE hl).fine⟩, kTW]
theorem kTq {x : Str} {l : List Str} (hx : Nam x) (hl : kIq l) : kDR (.str x) (T l) = some (.bool (!decide (x ∈ l))) := by
 unfold kDR
 rw [in_T hx hl]
def Row (ls : List (List Str)) : Prop := (∀ l ∈ ls, kIq l) ∧ ls.length ≤ 1024
theorem kKl : ∀ (a b : List Str), alikeAll (pyL (a.map D.str)) (pyL (b.map D.str)) = true
 | [], _ => by simp [pyL, alikeAll]
 | _ :: _, [] => by simp [pyL, alikeAll]
 | x :: a, y :: b => by
  simp only [gG1, pyL, alikeAll]
  rw [kKl a b]
  rfl
theorem kKt {l : List Str} : kBM (l.map D.str) = true := by
 unfold kBM
 rw [kEg (by simp [D.plain])]
 simp [kMz, kUD, D.py, alike, PyData.depth]
theorem kRa {ls : List (List Str)} : kBM (ls.map T) = true := by
 unfold kBM
 rw [kEg]
 ·have h1 : kMz (ls.map T) = true := by
   unfold kMz
   refine gH5.mpr fun a ha => gH5.mpr fun b hb => ?_
   obtain ⟨x, _, rfl⟩ := gF7.mp ha
   obtain ⟨y, _, rfl⟩ := gF7.mp hb
   show alike (.tuple (pyL (x.map D.str))) (.tuple (pyL (y.map D.str))) = true
   unfold alike
   exact kKl x y
  have h2 : kQY (ls.map T) = true := by
   unfold kQY
   refine gH5.mpr fun a ha => ?_
   obtain ⟨x, _, rfl⟩ := gF7.mp ha
   rfl
  rw [h1, h2]
  simp only [Bool.true_and, Bool.true_or, gH5]
  intro a ha
  obtain ⟨x, _, rfl⟩ := gF7.mp ha
  refine gH1 ?_
  show PyData.depth (.tuple (pyL (x.map D.str))) ≤ 64
  unfold PyData.depth
  have := kHR (n := 0) (l := x.map D.str) fun d hd => by
   obtain ⟨y, _, rfl⟩ := gF7.mp hd
   exact Nat.le_refl _
  omega
 ·intro d hd
  obtain ⟨x, _, rfl⟩ := gF7.mp hd
  show kEx (x.map D.str) = true
  exact kEg fun d hd => by
   obtain ⟨y, _, rfl⟩ := gF7.mp hd
   rfl
def kHB : List Str → List (List Str)
 | [] => [[]]
 | n :: ns => [] :: ((kHB ns).map (n :: ·) ++ (kHB ns).tail)
theorem kNS (ns : List Str) : ∃ r, kHB ns = [] :: r := by cases ns <;> exact ⟨_, rfl⟩
theorem kGk : ∀ {ns l : List Str}, l ∈ kHB ns ↔ l.Sublist ns
 | [], l => by simp [kHB]
 | n :: ns, l => by
  rw [kHB, gG5, gG8, gF7, List.sublist_cons_iff]
  obtain ⟨r, e⟩ := kNS ns
  constructor
  ·rintro (rfl | ⟨a, ha, rfl⟩ | h)
   ·exact .inl (List.nil_sublist _)
   ·exact .inr ⟨a, rfl, kGk.mp ha⟩
   ·exact .inl (kGk.mp (List.mem_of_mem_tail h))
  ·rintro (h | ⟨r', rfl, h⟩)
   ·have := kGk.mpr h
    rw [e] at this ⊢
    rcases gG5.mp this with q | q
    ·exact .inl q
    ·exact .inr (.inr q)
   ·exact .inr (.inl ⟨r', kGk.mpr h, rfl⟩)
theorem kLY : ∀ (ns : List Str), (kHB ns).length = 2 ^ ns.length
 | [] => rfl
 | n :: ns => by
  have ih := kLY ns
  obtain ⟨r, e⟩ := kNS ns
  rw [kHB, gG0, gG2, gF0, List.length_tail, ih, gG0, Nat.pow_succ]
  have : 0 < 2 ^ ns.length := Nat.pow_pos (by omega)
  omega
theorem kMn {α K : Type} [DecidableEq K] {rd : D → Option K} {f : α → D} (inj : ∀ a b, rd (f a) = rd (f b) → a = b) : ∀ (l : List α), ∃ m : List α, kCO rd (l.map f) = m.map f ∧ m.Nodup ∧ (∀ x, x ∈ m ↔ x ∈ l) ∧ m.length ≤ l.length
 | [] => ⟨[], rfl, .nil, fun _ => .rfl, Nat.le_refl _⟩
 | a :: l => by
  obtain ⟨m, h1, h2, h3, h4⟩ := kMn inj l
  refine ⟨a :: m.filter fun x => decide (rd (f x) ≠ rd (f a)), ?_, List.nodup_cons.mpr ⟨fun h => ?_, h2.sublist gG9⟩, fun x => ?_, ?_⟩
  ·rw [gG1, kCO, h1, gG1, List.filter_map]
   rfl
  ·have := (gH0.mp h).2
   simp at this
  ·rw [gG5, gG5, gH0, h3]
   constructor
   ·rintro (h | h)
    ·exact .inl h
    ·exact .inr h.1
   ·rintro (h | h)
    ·exact .inl h
    ·by_cases e : x = a
     ·exact .inl e
     ·exact .inr ⟨h, gH1 fun z => e (inj _ _ z)⟩
  ·rw [gG0, gG0]
   have := List.length_filter_le (fun x => decide (rd (f x) ≠ rd (f a))) m
   omega
theorem kKW (x : Str) : keyO (.str x) = some (.inr x) := rfl
theorem kUt {l t : List Str} (p : l.Perm t) (ht : Up t) : kDk (l.map D.str) = t.map D.str := kLC (p.map _) (kVS.mpr ht)
theorem kOz {l t : List Str} (hl : l.length ≤ 1000) (ht : Up t) (h : ∀ x, x ∈ l ↔ x ∈ t) : kFf (l.map D.str) = some (.lst (t.map D.str)) := by
 obtain ⟨m, h1, h2, h3, h4⟩ := kMn (rd := keyO) (f := D.str) (fun a b e => by
  rw [kKW, kKW] at e
  exact Sum.inr.inj (gF3 e)) l
 have ok : ((l.map D.str).all fun d => (keyO d).isSome) = true := gH5.mpr fun d hd => by
  obtain ⟨x, _, rfl⟩ := gF7.mp hd
  rfl
 unfold kFf
 rw [h1, if_pos ⟨ok, by rw [gF0]; exact hl, kKt⟩, kUt (perm_of h2 ht.nodup fun x => (h3 x).trans (h x)) ht]
theorem kPT : ∀ l : List Str, ∃ k, kHl (l.map D.str) = some k
 | [] => ⟨[], rfl⟩
 | x :: l => by
  obtain ⟨k, e⟩ := kPT l
  exact ⟨.inr x :: k, by simp [kHl, e, kKW]⟩
theorem kUQ (l : List Str) : ∃ k, lotD (T l) = some k := kPT l
theorem kPe {l t : List Str} (hl : l.length ≤ 1000) (ht : Up t) (h : ∀ x, x ∈ l ↔ x ∈ t) : kEG (.lst (l.map D.str)) = some (.lst (t.map D.str)) ∧ kEG (.tup (l.map D.str)) = some (.lst (t.map D.str)) := by
 have main : (match kFf (l.map D.str) with | some r => some r | none => kGD (l.map D.str)) = some (.lst (t.map D.str)) := by
  rw [kOz hl ht h]
 exact ⟨main, main⟩
theorem Up.sub {a ns : List Str} (h : Up ns) (s : a.Sublist ns) : Up a := List.Pairwise.sublist s h
@[simp] theorem kVL {l : List Str} : items (T l) = some (l.map D.str) := rfl
@[simp] theorem kVA {l : List Str} : kEp [T l] = some (T l) := rfl
@[simp] theorem kWN {l : List Str} : dLen [T l] = some (.int l.length) := by
 show some (D.int (l.map D.str).length) = _
 rw [gF0]
@[simp] theorem kWF {l : List Str} : D.tup (l.map D.str) = T l := rfl
@[simp] theorem kWG {l : List Str} : dRev (T l) = some (T l.reverse) := by
 show some (D.tup (l.map D.str).reverse) = _
 rw [← List.map_reverse]
 rfl
@[simp] theorem kDX {b : Bool} : kIE (.bool b) = some b := rfl
@[simp] theorem kWo {e : EnvD} : lift none e = .bad := rfl
section
variable {env : EnvD} {m : M D} {lo hi : Option (M D)} {ds : List D}
@[simp] theorem kOX : kFM m lo hi env = (m env).bind fun d e => bif d.cuts then (kGw lo e).bind fun l e2 => (kGw hi e2).bind fun u e3 => lift (dCut d l u) e3 else .bad := rfl
@[simp] theorem kOZ : kGw none env = .ok none env := rfl
@[simp] theorem kOY : kGw (some m) env = (m env).bind fun d e => match d with | .int i => .ok (some i) e | _ => .bad := rfl
@[simp] theorem kWs : (D.lst ds).cuts = true := rfl
@[simp] theorem kVh : (D.ro ds).cuts = true := rfl
@[simp] theorem kWq : (D.tup ds).cuts = true := rfl
@[simp] theorem kVQ {l : List Str} : (T l).cuts = true := rfl
@[simp] theorem kWr {x : Str} : (D.str x).cuts = true := rfl
theorem kRV {α : Type} (xs : List α) {k : Int} (h : 0 ≤ k) : DL.cutD xs (some k) none = xs.drop k.toNat := by
 obtain ⟨n, rfl⟩ := Int.eq_ofNat_of_zero_le h
 unfold DL.cutD
 rw [HT.sIx_none, HT.sIx_nat, Int.toNat_natCast]
 by_cases q : n ≤ xs.length
 ·rw [Nat.min_eq_left q]
  exact List.take_of_length_le (by rw [List.length_drop]; omega)
 ·rw [Nat.min_eq_right (by omega), List.drop_of_length_le (Nat.le_refl _), List.drop_of_length_le (by omega)]
  simp
@[simp] theorem cutL {a b : Option Int} : dCut (.lst ds) a b = some (.lst (DL.cutD ds a b)) := rfl
@[simp] theorem kWR {l : List Str} {a b : Option Int} : dCut (T l) a b = some (T (DL.cutD l a b)) := by
 show some (D.tup (DL.cutD (l.map D.str) a b)) = _
 unfold DL.cutD
 rw [gF0, ← List.map_drop, ← List.map_take]
 rfl
end
section
variable {gd : D → EnvD → Option EnvD} {t : M Bool} {m : M D} {vs : List Nat} {env : EnvD}
theorem kOb {α : Type} (f : α → D) (p : α → Bool) (g : α → D) : ∀ {l : List α}, (∀ x ∈ l, ∃ e1 e2 e3, gd (f x) (kAN env vs) = some e1 ∧ t e1 = .ok (p x) e2 ∧ (p x = true → m e2 = .ok (g x) e3)) → lcGo true gd t m vs (l.map f) env = some ((l.filter p).map g, env)
 | [], _ => rfl
 | d :: l, h => by
  obtain ⟨e1, e2, e3, h1, h2, h3⟩ := h d gF1
  have ih := kOb f p g (l := l) fun x hx => h x (gF2 _ hx)
  rw [gG1]
  unfold lcGo
  rw [h1]
  simp only [h2]
  cases q : p d with
  | false => simp [q, ih]
  | true => simp [q, h3 q, ih]
theorem kPS {α : Type} (f : α → D) (g : α → D) {l : List α} (h : ∀ x ∈ l, ∃ e1 e3, gd (f x) (kAN env vs) = some e1 ∧ m e1 = .ok (g x) e3) : lcGo true gd mYes m vs (l.map f) env = some (l.map g, env) := by
 have := kOb (gd := gd) (t := mYes) (m := m) (vs := vs) (env := env) f (fun _ => true) g (l := l) fun x hx => by
  obtain ⟨e1, e3, h1, h2⟩ := h x hx
  exact ⟨e1, e1, e3, h1, rfl, fun _ => h2⟩
 rw [List.filter_eq_self.mpr (fun _ _ => rfl)] at this
 exact this
theorem kBd {α : Type} (f : α → D) (g : α → D) {l : List α} (h : ∀ x ∈ l, ∃ e1, gd (f x) (kAN env vs) = some e1 ∧ m e1 = .ok (g x) e1) : lcGo true gd mYes m vs (l.map f) env = some (l.map g, env) :=
 kPS f g fun x hx => by
  obtain ⟨e1, h1, h2⟩ := h x hx
  exact ⟨e1, e1, h1, h2⟩
theorem kDa {α : Type} (f : α → D) (p : α → Bool) (g : α → D) {l : List α} (h : ∀ x ∈ l, ∃ e1, gd (f x) (kAN env vs) = some e1 ∧ t e1 = .ok (p x) e1 ∧ (p x = true → m e1 = .ok (g x) e1)) : lcGo true gd t m vs (l.map f) env = some ((l.filter p).map g, env) :=
 kOb f p g fun x hx => by
  obtain ⟨e1, h1, h2, h3⟩ := h x hx
  exact ⟨e1, e1, e1, h1, h2, h3⟩
theorem kRD {i j : Nat} {a b : List Str} (ha : kIq a) (hb : kIq b) (hj : env[j]? = some (some (T b))) (hij : i ≠ j) (hi : i < env.length) :
  lcGo true (gN i) (kAp (dOp2 kDR (dVar i) (dVar j))) (dVar i) [i] (a.map D.str) env = some ((a.filter fun x => !decide (x ∈ b)).map D.str, env) :=
 kOb D.str (fun x => !decide (x ∈ b)) D.str fun x hx => ⟨_, _, _, rfl, by
  simp [kAN, List.getElem?_set, hij, hi, hj, kTq (ha.1 x hx) hb]
  rfl, fun _ => by simp [kAN, List.getElem?_set, hi]; rfl⟩
end
theorem kJG {α : Type} (f : α → Bool) : ∀ l : List α, kDp (l.map fun x => D.bool (f x)) = some (l.map f)
 | [] => rfl
 | x :: l => by
  simp only [gG1, kDp, kJG f l]
  rfl
theorem kRU {α : Type} (f : α → Bool) (l : List α) : dAll [.lst (l.map fun x => D.bool (f x))] = some (.bool (l.all f)) := by
 show (kDp _).map _ = _
 rw [kJG]
 simp [List.all_map]
theorem kKj {n c : Nat} {d : D} (h : Nice n c d) : (D.str d.py.shown).fine = true := kKZ rfl (by
 show PyData.canLay0 (.str d.py.shown) = true
 unfold PyData.canLay0
 exact kNC d.py h.lay) (Nat.zero_le _)
theorem kRu {n c : Nat} {d : D} (h : Nice n c d) : dNe (.str d.py.shown) (.str d.py.shown) = some (.bool false) := by
 unfold dNe deq
 rw [kKj h, kHm]
 simp
theorem kRM {n c : Nat} {d : D} (h : Nice n c d) : dEq (.str d.py.shown) (.str d.py.shown) = some (.bool true) := by
 unfold dEq deq
 rw [kKj h, kHm]
 simp
theorem kEn (a b : Int) : dEq (.int a) (.int b) = some (.bool (decide (a = b))) := by
 unfold dEq deq
 have e : PyData.eqv (D.int a).py (D.int b).py = decide (a = b) := by
  show PyData.eqv (.int a) (.int b) = _
  unfold PyData.eqv
  rw [Bool.eq_iff_iff]
  simp
 rw [e]
 rfl
theorem kLf (a b : Int) : dNe (.int a) (.int b) = some (.bool (!decide (a = b))) := by
 have h := kEn a b
 unfold dEq at h
 unfold dNe
 cases q : deq (.int a) (.int b) with
 | none => rw [q] at h; cases h
 | some c =>
  rw [q] at h
  have : c = decide (a = b) := by simpa using h
  rw [this]
  rfl
section
variable {env e : EnvD} {d : D} {m mk m1 m2 : M D} {ms : M (List D)} {i n : Nat} {ds xs : List D} {ns : List Nat} {FM : List D → List D → Option (D × List D)} {c1 c2 : String} {gs : List D → EnvD → Option EnvD} {g : D → EnvD → Option EnvD}
@[simp] theorem kWb : kQx ns ms env = (ms env).bind fun ds e => if kLN ns ds = true then .ok (.lst ds) e else .bad := rfl
@[simp] theorem kUk : dIxO i mk env = (match env[i]? with
 | some (some (.lst ds)) => (mk env).bind fun kd e => lift (dIx (.lst ds) kd) e
 | _ => .bad) := rfl
@[simp] theorem kVw : kGx i mk FM ms env = (match env[i]? with
 | some (some (.lst _)) => (mk env).bind fun kd e1 => (match at2 kd e1[i]? with
  | some (ds, j, es) => in2 i FM ms ds es j e1
  | none => .bad)
 | _ => .bad) := rfl
@[simp] theorem u_gT : gT n gs (.tup ds) env = if ds.length = n then gs ds env else none := rfl
@[simp] theorem kVs : kBe g gs (d :: ds) env = (g d env).bind (gs ds) := rfl
@[simp] theorem kVx : kFC [] env = some env := rfl
@[simp] theorem kLA : kDt [.lst ds] = if kBM ds = true then some (.lst (kDk ds)) else none := rfl
@[simp] theorem kUs : kDt [.tup ds] = if kBM ds = true then some (.lst (kDk ds)) else none := rfl
@[simp] theorem kWp {t : String} (h : dTy d = some t) : kJE c1 c2 d = some (.bool (isK t c1 || isK t c2)) := by
 unfold kJE
 rw [h]
 rfl
end
@[simp] theorem kUv {l : List Str} : kBM (l.map D.str) = true := kKt
@[simp] theorem kUu {l : List (List Str)} : kBM (l.map T) = true := kRa
section
variable {env e : EnvD} {d : D} {m mk m1 m2 : M D} {ms : M (List D)} {i n k : Nat} {ds : List D} {l : List (Nat × Nat)} {FF : FM} {c : Str} {mb : MS} {hds : List HdD} {b : Bool}
@[simp] theorem kIU : dFld l m env = (match m env with
 | .ok d e => (match kDd l d with
  | some r => .ok r e
  | none => .bad)
 | .exc c a e => .exc c a e
 | .bad => .bad) := rfl
@[simp] theorem kVX : kJD l i m env = (match env[i]? with
 | some (some (.obj _ _)) => (match m env with
  | .ok d e => (match e[i]? with
   | some (some (.obj k ds)) => (match kHs l k ds d with
    | some r => .nx (e.set i (some r))
    | none => .bad)
   | _ => .bad)
  | .exc c a e => .exc c a e
  | .bad => .bad)
 | _ => .bad) := rfl
@[simp] theorem kQX {dd : List D} : dNew n FF dd ms env = (ms env).bind fun ds e => kJg e (FF (.obj (64 * n) [] :: (ds ++ dd))) := rfl
@[simp] theorem kVv {k : Nat} {ds : List D} : kJg e (.ok .non (.obj k ds)) = .ok (.obj k ds) e := rfl
@[simp] theorem kVr {a : Option D} {x : D} : kJg e (.exc c a x) = .exc c a e := rfl
@[simp] theorem kVZ {a : Option D} {x : D} : ofF e (.exc c a x) = .exc c a e := rfl
@[simp] theorem kVu : kMs c m env = (match m env with
 | .ok d e => .exc c (some d) e
 | .exc c' a e => .exc c' a e
 | .bad => .bad) := rfl
end
@[simp] theorem kMe : ∀ l : List Str, immL (l.map D.str) = true
 | [] => rfl
 | x :: l => by
  show ((D.str x).imm && immL (l.map D.str)) = true
  rw [kMe l]
  rfl
@[simp] theorem kWO {l : List Str} : (T l).imm = true := kMe l
theorem kOh {α : Type} {f : α → D} (h : ∀ x, (f x).imm = true) : ∀ l : List α, immL (l.map f) = true
 | [] => rfl
 | x :: l => by
  show ((f x).imm && immL (l.map f)) = true
  rw [h x, kOh h l]
  rfl
@[simp] theorem kUc {α : Type} {f : α → D} (h : ∀ x, (f x).imm = true) (l : List α) : (D.tup (l.map f)).imm = true := kOh h l
@[simp] theorem kTw {l : List Str} : (lotD (T l)).isSome = true := by
 obtain ⟨k, e⟩ := kUQ l
 rw [e]
 rfl
def low (c : Nat) : Bool := decide (97 ≤ c ∧ c ≤ 122)
theorem kTl : ∀ c : Nat, c < 128 → (Builtin.Str.occurrences "abcdefghijklmnopqrstuvwxyz" ⟨#[c]⟩ 0 (Str.ofString "abcdefghijklmnopqrstuvwxyz").length 1).isEmpty = !low c := by decide +kernel
def isn (x : Str) : Bool := decide (1 ≤ x.cps.size ∧ x.cps.size ≤ 5) && x.cps.toList.all low
theorem kTC {x : Str} (h : Nam x) : isn x = true := by
 unfold isn
 rw [gH1 h.1, Bool.true_and]
 exact gH5.mpr fun c hc => gH1 (h.2 c hc)
theorem kVa {c : Nat} (h : c < 128) : dIn (.str ⟨#[c]⟩) (.str "abcdefghijklmnopqrstuvwxyz") = some (.bool (low c)) := by
 show some (D.bool (!(Builtin.Str.occurrences "abcdefghijklmnopqrstuvwxyz" ⟨#[c]⟩ 0 (Str.ofString "abcdefghijklmnopqrstuvwxyz").length 1).isEmpty)) = _
 rw [kTl c h, Bool.not_not]
@[simp] theorem kVM {x : Str} : items (.str x) = if x.length ≤ sizeLine then some (DL.signs x) else none := rfl
theorem kTx {x : Str} (h : x.length ≤ sizeLine) : dLen [.str x] = some (.int x.cps.size) := by
 show (if x.length ≤ sizeLine then some (D.int x.length) else none) = _
 rw [if_pos h]
 rfl
theorem kTd (n : Nat) : kGa 0 n = (List.range n).map fun i : Nat => D.int (i : Nat) := by
 unfold kGa
 exact List.map_congr_left fun i _ => by rw [Int.zero_add]
end PL
namespace Law
open PySem PySem.Spec PyProof.Rows L2 DL
local macro_rules | `(tactic| trivial) => `(tactic| first | exact .inl rfl | exact takes_of rfl rfl rfl rfl | exact blkOk_by (by kernel_rfl) | exact ⟨rfl, rfl, rfl, by decide +kernel, rfl, by decide +kernel, by decide +kernel⟩ | exact .inr rfl)
def fuel : Nat := 100000
def kBn : List (Nat × Nat) := [(1, 0)]
def kCb : List (Nat × Nat) := [(1, 1)]
def kFB : List (Nat × Nat) := [(1, 2)]
def kCa : List (Nat × Nat) := [(1, 3)]
def kGr : List (Nat × Nat) := [(1, 0)]
def kHM : List (Nat × Nat) := [(1, 1)]
def kLT : List (Nat × Nat) := [(1, 2)]
def kHL : List (Nat × Nat) := [(1, 3)]
def kFz : MS := (dSeq (dSet 2 (dLc true (kAr (kFM (dVar 0) (some (dVar 1)) (some (dC (.int 63))))) (gN 4) mYes (dCB dAbs (kAa (dVar 4) dNil)) [4]))
 (dSeq (dSet 3 (dOp2 dAdd (dC (.int 538001)) (dOp2 iMul (dC (.int 61)) (dVar 1))))
 (dSeq (dFor (kAr (dVar 2)) (gN 4) (dSet 3 (dOp2 iMod (dCB dInt (kAa (dOp2 dAdd (dOp2 dAdd (dOp2 iMul (dVar 3) (dC (.int 48271))) (dOp2 iMod (dCB dInt (kAa (dVar 4) dNil)) (dC (.int 2147483549)))) (dC (.int 31))) dNil)) (dC (.int 2147483647)))))
 (dRet (kQx [1, 0] (kAa (dUn dRev (dLc true (kAr (dVar 2)) (gN 4) (kAp (dOp2 dGe (dVar 4) (dOp2 iPow (dC (.int 10)) (dC (.int 18))))) (dVar 4) [4])) (kAa (dVar 3) dNil)))))))
def FAu : FM := runF 5 0 kFz
def kFx : MS := (dSeq (kEF (dAnd (kAp (dOp2 dNe (dIxO 0 (dC (.int 0))) (dLst dNil))) (kAp (dOp2 dEq (dOp2 dIx (dIxO 0 (dC (.int 0))) (dOp2 iSub (dC (.int 0)) (dC (.int 1)))) (dC (.int 0))))) (kDU (kGx 0 (dC (.int 0)) mPop dNil)) fuel)
 (dSeq (dIte (kAp (dOp2 dNe (dIxO 0 (dC (.int 0))) (dLst dNil))) (dSeq (dSet 2 (kGx 0 (dC (.int 0)) mPop dNil))
 (dSeq (kDU (kGx 0 (dC (.int 0)) kCz (kAa (dOp2 iDiv (dVar 2) (dVar 1)) dNil)))
 (dRet (dOp2 iMod (dCB dInt (kAa (dVar 2) dNil)) (dVar 1))))) kBw)
 (dSeq (kLh 0 (dOp2 iMod (dCB dInt (kAa (dOp2 dAdd (dOp2 iMul (dIxO 0 (dC (.int 1))) (dC (.int 48271))) (dC (.int 97))) dNil)) (dC (.int 2147483647))) (dC (.int 1)))
 (dRet (dOp2 iMod (dCB dInt (kAa (dOp2 iDiv (dIxO 0 (dC (.int 1))) (dC (.int 64))) dNil)) (dVar 1))))))
def FA1 : FM := runF 3 2 kFx
def kGm : MS := (dSeq (dSet 1 (dLst dNil))
 (dSeq (dFor (kDc (kAa (dOp2 dAdd (dC (.int 1)) (kAn FA1 0 [] (kAa (dC (.int 6)) dNil))) dNil)) (gN 2) (dSeq (dSet 3 (dLc false (kDc (kAa (dOp2 dAdd (dC (.int 1)) (kAn FA1 0 [] (kAa (dC (.int 5)) dNil))) dNil)) (gN 4) mYes (dOp2 dIx (dC (.str "abcdefghijklmnopqrstuvwxyz")) (kAn FA1 0 [] (kAa (dC (.int 26)) dNil))) [4]))
 (dIte (kAp (dOp2 kDR (dUn (kJT "") (dVar 3)) (dVar 1))) (kDU (kEs 1 kCz (kAa (dUn (kJT "") (dVar 3)) dNil))) kBw)))
 (kOM 1)))
def FAr : FM := runF 5 2 kGm
def kHI : MS := (dRet (dIf (kAp (dOp2 dGt (kAn FA1 0 [] (kAa (dC (.int 3)) dNil)) (dC (.int 0)))) (kAn FA1 0 [] (kAa (dC (.int 4)) dNil)) (kAn FA1 0 [] (kAa (dC (.int 250001)) dNil))))
def FA4 : FM := runF 1 2 kHI
def kGo : MS := (dSeq (dPar [2, 3, 4] (kAa (dLst dNil) (kAa (dLst dNil) (kAa (dLst dNil) dNil))))
 (dSeq (dFor (kAr (dVar 1)) (gN 5) (dSeq (dPar [6, 7, 8] (kAa (kAn FA1 0 [] (kAa (dC (.int 6)) dNil)) (kAa (kAn FA4 0 [] dNil) (kAa (kAn FA4 0 [] dNil) dNil))))
 (dSeq (dIte (kAp (dOp2 dEq (dVar 6) (dC (.int 0)))) (kDU (kEs 2 kCz (kAa (dLst (kAa (dVar 5) (kAa (dVar 7) dNil))) dNil))) (dIte (kAp (dOp2 dEq (dVar 6) (dC (.int 1)))) (kDU (kEs 3 kEl (kAa (dC (.int 0)) (kAa (dLst (kAa (dVar 5) (kAa (dVar 7) dNil))) dNil)))) (dIte (kAp (dOp2 dLt (dVar 6) (dC (.int 4)))) (dSeq (kDU (kEs 2 kCz (kAa (dLst (kAa (dVar 5) (kAa (dIf (kAp (dOp2 dEq (dVar 6) (dC (.int 2)))) (dOp2 dAdd (dVar 7) (dVar 8)) (dOp2 iSub (dC (.int 0)) (dVar 7))) dNil))) dNil)))
 (kDU (kEs 3 kEl (kAa (dC (.int 0)) (kAa (dLst (kAa (dVar 5) (kAa (dIf (kAp (dOp2 dEq (dVar 6) (dC (.int 2)))) (dOp2 iSub (dC (.int 0)) (dVar 7)) (dOp2 dAdd (dVar 7) (dVar 8))) dNil))) dNil))))) (dIte (kAp (dOp2 dEq (dVar 6) (dC (.int 4)))) (dSeq (kDU (kEs 2 kCz (kAa (dLst (kAa (dVar 5) (kAa (dVar 7) dNil))) dNil)))
 (kDU (kEs 3 kEl (kAa (dC (.int 0)) (kAa (dLst (kAa (dVar 5) (kAa (dVar 8) dNil))) dNil))))) kBw))))
 (dIte (kAp (dOp2 dEq (kAn FA1 0 [] (kAa (dC (.int 2)) dNil)) (dC (.int 0)))) (kDU (kEs 4 kEl (kAa (kAn FA1 0 [] (kAa (dOp2 dAdd (dCB dLen (kAa (dVar 4) dNil)) (dC (.int 1))) dNil)) (kAa (dLst (kAa (dVar 5) (kAa (kAn FA4 0 [] dNil) dNil))) dNil)))) kBw))))
 (dRet (dLst (kAa (dVar 2) (kAa (dVar 3) (kAa (dVar 4) dNil)))))))
def FAk : FM := runF 9 2 kGo
def kFw : MS := (dRet (dUn (kJE "list" "tuple") (dVar 0)))
def FAg : FM := runF 1 0 kFw
def kJk : MS := (dSeq (dIte (dOr (dNot (dTru (dUn (dIsT "str") (dVar 0)))) (dNot (kAp (kKk dLe dLe (dC (.int 1)) (dCB dLen (kAa (dVar 0) dNil)) (dC (.int 5)))))) (dRet (dC (.bool false))) kBw)
 (dRet (dCB dAll (kAa (dLc true (kAr (dVar 0)) (gN 1) mYes (dOp2 dIn (dVar 1) (dC (.str "abcdefghijklmnopqrstuvwxyz"))) [1]) dNil))))
def FAv : FM := runF 2 0 kJk
def kIC : MS := (dRet (kGL (dUn (dIsT "int") (dVar 0)) (kRT (dNot (dTru (dUn (dIsT "bool") (dVar 0)))))))
def FAi : FM := runF 1 0 kIC
def kHh : MS := (dSeq (dIte (dNot (dTru (kAh FAg [] (kAa (dVar 0) dNil)))) (dRet (dC (.bool false))) kBw)
 (dSeq (dSet 1 (dLst dNil))
 (dSeq (dFor (kAr (dVar 0)) (gN 2) (dSeq (dIte (dOr (dNot (dTru (kAh FAg [] (kAa (dVar 2) dNil)))) (dOr (kAp (dOp2 dNe (dCB dLen (kAa (dVar 2) dNil)) (dC (.int 2)))) (dOr (dNot (dTru (kAh FAv [] (kAa (dOp2 dIx (dVar 2) (dC (.int 0))) dNil)))) (dNot (dTru (kAh FAi [] (kAa (dOp2 dIx (dVar 2) (dC (.int 1))) dNil))))))) (dRet (dC (.bool false))) kBw)
 (dSeq (dIte (kAp (dOp2 dIn (dOp2 dIx (dVar 2) (dC (.int 0))) (dVar 1))) (dRet (dC (.bool false))) kBw)
 (kDU (kEs 1 kCz (kAa (dOp2 dIx (dVar 2) (dC (.int 0))) dNil))))))
 (dRet (dC (.bool true))))))
def FAh : FM := runF 3 0 kHh
def kGl : MS := (dRet (dCB kEp (kAa (dCB kDt (kAa (dLc true (kAr (dVar 0)) (gN 1) (kAp (dOp2 dNe (dOp2 dIx (dVar 1) (dC (.int 1))) (dC (.int 0)))) (dTup (kAa (dOp2 dIx (dVar 1) (dC (.int 0))) (kAa (dOp2 dIx (dVar 1) (dC (.int 1))) dNil))) [1]) dNil)) dNil)))
def FA8 : FM := runF 2 0 kGl
def kHg : MS := (dSeq (dFor (kAr (dVar 0)) (gT 2 (kBe (gN 2) (kBe (gN 3) kFC))) (dIte (kAp (dOp2 dEq (dVar 2) (dVar 1))) (dRet (dVar 3)) kBw))
 (dRet (dC (.int 0))))
def FAb : FM := runF 4 0 kHg
def kES : MS := (dSeq (dIte (dNot (dTru (kAh FAh [] (kAa (dVar 0) dNil)))) (dRet (dC (.int 0))) kBw)
 (dSeq (dIte (dNot (dTru (kAh FAh [] (kAa (dVar 1) dNil)))) (dRet (dC (.int 1))) kBw)
 (dSeq (dPar [4, 5] (kAa (kAh FA8 [] (kAa (dVar 0) dNil)) (kAa (kAh FA8 [] (kAa (dVar 1) dNil)) dNil)))
 (dSeq (dFor (kAr (dOp2 dAdd (dVar 4) (dVar 5))) (gT 2 (kBe (gN 6) (kBe (gN 7) kFC))) (dIte (kAp (dOp2 dLt (dOp2 dAdd (kAh FAb [] (kAa (dVar 4) (kAa (dVar 6) dNil))) (kAh FAb [] (kAa (dVar 5) (kAa (dVar 6) dNil)))) (dC (.int 0)))) (dRet (dC (.int 2))) kBw))
 (dSeq (dIte (dOr (dNot (dTru (kAh FAi [] (kAa (dVar 2) dNil)))) (kAp (dOp2 dLt (dVar 2) (dC (.int 0))))) (dRet (dC (.int 3))) kBw)
 (dSeq (dIte (dOr (dNot (dTru (kAh FAh [] (kAa (dVar 3) dNil)))) (dTru (dCB dAny (kAa (dLc true (kAr (dVar 3)) (gN 8) mYes (dOp2 dLt (dOp2 dIx (dVar 8) (dC (.int 1))) (dC (.int 0))) [8]) dNil)))) (dRet (dC (.int 4))) kBw)
 (dRet (dC .non))))))))
def FAm : FM := runF 9 0 kES
def kDl : MS := (dSeq (dSet 5 (kAh FAm [] (kAa (dVar 1) (kAa (dVar 2) (kAa (dVar 3) (kAa (dVar 4) dNil))))))
 (dSeq (dIte (kAp (dOp2 kON (dVar 5) (dC .non))) (kMs "InvalidPrices" (dVar 5)) kBw)
 (dSeq (kJD kGr 0 (kAh FA8 [] (kAa (dVar 1) dNil)))
 (dSeq (kJD kHM 0 (kAh FA8 [] (kAa (dVar 2) dNil)))
 (dSeq (kJD kLT 0 (dVar 3))
 (kJD kHL 0 (kAh FA8 [] (kAa (dVar 4) dNil))))))))
def FAa : FM := runF 6 1 kDl
def kDQ : MS := (dRet (kAh FAb [] (kAa (dFld kBn (dVar 0)) (kAa (dVar 1) dNil))))
def FA5 : FM := runF 2 0 kDQ
def kEk : MS := (dRet (kAh FAb [] (kAa (dFld kCb (dVar 0)) (kAa (dVar 1) dNil))))
def FA6 : FM := runF 2 0 kEk
def kCJ : MS := (dSeq (dSet 1 (dUn kEG (dLc true (kAr (dOp2 dAdd (dFld kBn (dVar 0)) (dFld kCb (dVar 0)))) (gT 2 (kBe (gN 3) (kBe (gN 4) kFC))) mYes (dVar 3) [3, 4])))
 (dSeq (dSet 2 (dLc true (kAr (dVar 1)) (gN 3) mYes (dTup (kAa (dVar 3) (kAa (dOp2 dAdd (kAh FA5 [] (kAa (dChk [1] (dVar 0)) (kAa (dVar 3) dNil))) (kAh FA6 [] (kAa (dChk [1] (dVar 0)) (kAa (dVar 3) dNil)))) dNil))) [3]))
 (dRet (dNew 1 FAa [] (kFd [0, 1, 2, 3] [] (kAa (dVar 2) (kAa (dTup dNil) (kAa (dFld kFB (dVar 0)) (kAa (dFld kCa (dVar 0)) dNil)))))))))
def FA2 : FM := runF 5 0 kCJ
def kJq : MS := (dRet (dCB kEp (kAa (dCB kDt (kAa (dLc true (kAr (dVar 0)) (gN 1) (kAp (dOp2 dNe (dOp2 dIx (dVar 1) (dC (.int 1))) (dC (.int 0)))) (dTup (kAa (dOp2 dIx (dVar 1) (dC (.int 0))) (kAa (dOp2 dIx (dVar 1) (dC (.int 1))) dNil))) [1]) dNil)) dNil)))
def FAe : FM := runF 2 0 kJq
def kHJ : MS := (dRet (dCB dSum (kAa (dLc true (kAr (dVar 0)) (gN 2) (kAp (dOp2 dEq (dOp2 dIx (dVar 2) (dC (.int 0))) (dVar 1))) (dOp2 dIx (dVar 2) (dC (.int 1))) [2]) dNil)))
def FA0 : FM := runF 3 0 kHJ
def kJl : MS := (dRet (kAh FAe [] (kAa (dLc true (kAr (dVar 0)) (gN 2) mYes (dTup (kAa (dVar 2) (kAa (dOp2 dAdd (kAh FA0 [] (kAa (dOp2 dIx (dVar 1) (dC (.int 0))) (kAa (dVar 2) dNil))) (kAh FA0 [] (kAa (dOp2 dIx (dVar 1) (dC (.int 1))) (kAa (dVar 2) dNil)))) dNil))) [2]) dNil)))
def FAp : FM := runF 3 0 kJl
def kGp : MS := (dSeq (dSet 3 (dTup (kAa (kAh FAe [] (kAa (dOp2 dIx (dVar 1) (dC (.int 0))) dNil)) (kAa (kAh FAe [] (kAa (dOp2 dIx (dVar 1) (dC (.int 1))) dNil)) (kAa (kAh FAe [] (kAa (dOp2 dIx (dVar 1) (dC (.int 2))) dNil)) (kAa (dVar 2) dNil))))))
 (dRet (dOp2 dEq (dCB kFF (kAa (dTup (kAa (dFld kBn (dVar 0)) (kAa (dFld kCb (dVar 0)) (kAa (dFld kCa (dVar 0)) (kAa (dFld kFB (dVar 0)) dNil))))) dNil)) (dCB kFF (kAa (dVar 3) dNil)))))
def FAc : FM := runF 4 0 kGp
def kKd : MS := (dRet (dCB kEp (kAa (dCB kDt (kAa (dLc false (kAr (dVar 1)) (gN 2) (kAp (dOp2 dEq (kAn FA1 0 [] (kAa (dC (.int 2)) dNil)) (dC (.int 0)))) (dVar 2) [2]) dNil)) dNil)))
def FAl : FM := runF 3 2 kKd
def kJm : MS := (dRet (dOp2 dAdd (dOp2 dAdd (dLst (kAa (dVar 2) dNil)) (dLc false (kDc (kAa (kAn FA1 0 [] (kAa (dC (.int 6)) dNil)) dNil)) (gN 4) mYes (kAn FAl 0 [] (kAa (dVar 1) dNil)) [4])) (dLst (kAa (dVar 3) dNil))))
def FAo : FM := runF 5 2 kJm
def kHj : MS := (dSeq (dIte (kAp (dOp2 dEq (dVar 2) (dVar 3))) (dRet (dC (.int 0))) kBw)
 (dSeq (dSet 4 (dLc true (kAr (dVar 3)) (gN 6) (kAp (dOp2 kDR (dVar 6) (dVar 2))) (dVar 6) [6]))
 (dSeq (dSet 5 (dOp2 dAdd (dVar 1) (dCB dSum (kAa (dLc true (kAr (dVar 4)) (gN 6) mYes (kAh FA0 [] (kAa (dOp2 dIx (dVar 0) (dC (.int 0))) (kAa (dVar 6) dNil))) [6]) dNil))))
 (dSeq (dSet 5 (dOp2 dAdd (dVar 5) (dCB dSum (kAa (dLc true (kAr (dVar 2)) (gN 6) (kAp (dOp2 kDR (dVar 6) (dVar 3))) (kAh FA0 [] (kAa (dOp2 dIx (dVar 0) (dC (.int 1))) (kAa (dVar 6) dNil))) [6]) dNil))))
 (dRet (dOp2 dAdd (dVar 5) (dCB kNm (kAa (dOp2 dAdd (dLst (kAa (dC (.int 0)) dNil)) (dLc true (kAr (dVar 4)) (gN 6) mYes (kAh FA0 [] (kAa (dOp2 dIx (dVar 0) (dC (.int 2))) (kAa (dVar 6) dNil))) [6])) dNil))))))))
def FAt : FM := runF 7 0 kHj
def kID : MS := (dRet (dCB dSum (kAa (dLc true (kDc (kAa (dOp2 iSub (dCB dLen (kAa (dVar 2) dNil)) (dC (.int 1))) dNil)) (gN 3) mYes (kAh FAt [] (kAa (dVar 0) (kAa (dVar 1) (kAa (dOp2 dIx (dVar 2) (dVar 3)) (kAa (dOp2 dIx (dVar 2) (dOp2 dAdd (dVar 3) (dC (.int 1)))) dNil))))) [3]) dNil)))
def FAs : FM := runF 4 0 kID
def kPJ : MS := (dRet (dCB kEp (kAa (dLc true (kAr (dVar 0)) (gN 2) (kAp (dOp2 kDR (dVar 2) (dVar 1))) (dVar 2) [2]) dNil)))
def FAw : FM := runF 3 0 kPJ
def kFK : MS := (dRet (kAh FAb [] (kAa (dFld kCa (dVar 0)) (kAa (dVar 1) dNil))))
def FAd : FM := runF 2 0 kFK
def kCZ : MS := (dSeq (dIte (kAp (dOp2 dEq (dVar 1) (dVar 2))) (dRet (dC (.int 0))) kBw)
 (dSeq (dSet 3 (kAh FAw [] (kAa (dVar 2) (kAa (dVar 1) dNil))))
 (dSeq (dSet 4 (dOp2 dAdd (dFld kFB (dVar 0)) (dCB dSum (kAa (dLc true (kAr (dVar 3)) (gN 5) mYes (kAh FA5 [] (kAa (dChk [1] (dVar 0)) (kAa (dVar 5) dNil))) [5]) dNil))))
 (dSeq (dAug 4 aAdd (dCB dSum (kAa (dLc true (kAr (kAh FAw [] (kAa (dVar 1) (kAa (dVar 2) dNil)))) (gN 5) mYes (kAh FA6 [] (kAa (dChk [1] (dVar 0)) (kAa (dVar 5) dNil))) [5]) dNil)))
 (dRet (dOp2 dAdd (dVar 4) (dCB kNm (kAa (dOp2 dAdd (dLst (kAa (dC (.int 0)) dNil)) (dLc true (kAr (dVar 3)) (gN 5) mYes (kAh FAd [] (kAa (dChk [1] (dVar 0)) (kAa (dVar 5) dNil))) [5])) dNil))))))))
def FA7 : FM := runF 6 0 kCZ
def kFL : MS := (dRet (dCB dSum (kAa (dLc true (dZip (kAa (dVar 1) (kAa (kFM (dVar 1) (some (dC (.int 1))) none) dNil))) (gT 2 (kBe (gN 2) (kBe (gN 3) kFC))) mYes (kAh FA7 [] (kAa (dChk [1] (dVar 0)) (kAa (dVar 2) (kAa (dVar 3) dNil)))) [2, 3]) dNil)))
def FA3 : FM := runF 4 0 kFL
def kHi : MS := (dRet (dOp2 dIx (dVar 1) (kAn FA1 0 [] (kAa (dCB dLen (kAa (dVar 1) dNil)) dNil))))
def FAn : FM := runF 2 2 kHi
def kDN : MS := (dSeq (dSet 3 (dOp2 dAdd (dLc true (kAr (dFld kBn (dVar 0))) (gN 5) (kAp (dOp2 dNe (dOp2 dIx (dVar 5) (dC (.int 0))) (dVar 1))) (dVar 5) [5]) (dLst (kAa (dTup (kAa (dVar 1) (kAa (dOp2 dAdd (kAh FA5 [] (kAa (dChk [1] (dVar 0)) (kAa (dVar 1) dNil))) (dVar 2)) dNil))) dNil))))
 (dSeq (dSet 4 (dOp2 dAdd (dLc true (kAr (dFld kCb (dVar 0))) (gN 5) (kAp (dOp2 dNe (dOp2 dIx (dVar 5) (dC (.int 0))) (dVar 1))) (dVar 5) [5]) (dLst (kAa (dTup (kAa (dVar 1) (kAa (dOp2 iSub (kAh FA6 [] (kAa (dChk [1] (dVar 0)) (kAa (dVar 1) dNil))) (dVar 2)) dNil))) dNil))))
 (dRet (dNew 1 FAa [] (kFd [0, 1, 2, 3] [] (kAa (dVar 3) (kAa (dVar 4) (kAa (dFld kFB (dVar 0)) (kAa (dFld kCa (dVar 0)) dNil)))))))))
def FAf : FM := runF 6 0 kDN
def kGn : MS := (dSeq (dSet 3 (dOp2 dAdd (dLc true (kAr (dOp2 dIx (dVar 0) (dC (.int 0)))) (gN 5) (kAp (dOp2 dNe (dOp2 dIx (dVar 5) (dC (.int 0))) (dVar 1))) (dVar 5) [5]) (dLst (kAa (dTup (kAa (dVar 1) (kAa (dOp2 dAdd (kAh FA0 [] (kAa (dOp2 dIx (dVar 0) (dC (.int 0))) (kAa (dVar 1) dNil))) (dVar 2)) dNil))) dNil))))
 (dSeq (dSet 4 (dOp2 dAdd (dLc true (kAr (dOp2 dIx (dVar 0) (dC (.int 1)))) (gN 5) (kAp (dOp2 dNe (dOp2 dIx (dVar 5) (dC (.int 0))) (dVar 1))) (dVar 5) [5]) (dLst (kAa (dTup (kAa (dVar 1) (kAa (dOp2 iSub (kAh FA0 [] (kAa (dOp2 dIx (dVar 0) (dC (.int 1))) (kAa (dVar 1) dNil))) (dVar 2)) dNil))) dNil))))
 (dRet (dLst (kAa (dVar 3) (kAa (dVar 4) (kAa (dOp2 dIx (dVar 0) (dC (.int 2))) dNil)))))))
def FAj : FM := runF 6 0 kGn
def kGq : MS := (dRet (kGL (dUn (dIsO 1) (dVar 1)) (kGL (dOp2 dEq (dFld kBn (dVar 0)) (dFld kBn (dVar 1))) (kGL (dOp2 dEq (dFld kCb (dVar 0)) (dFld kCb (dVar 1))) (kGL (dOp2 dEq (dFld kFB (dVar 0)) (dFld kFB (dVar 1))) (dOp2 dEq (dFld kCa (dVar 0)) (dFld kCa (dVar 1))))))))
def FA9 : FM := runF 2 0 kGq
def kFy : MS := (dSeq (dIte (kAp (dOp2 dEq (dOp2 dIx (dVar 3) (dC (.int 0))) (dOp2 dIx (dVar 3) (dC (.int 1))))) (dSeq (dSet 5 (dLc true (kAr (dVar 4)) (gN 8) mYes (dOp2 iSub (kAh FA3 [] (kAa (dChk [1] (dVar 0)) (kAa (dVar 8) dNil))) (kAh FA3 [] (kAa (dChk [1] (dVar 1)) (kAa (dVar 8) dNil)))) [8]))
 (dRet (kGL (dOp2 dEq (dOp2 dIx (dVar 5) (dC (.int 0))) (dOp2 dIx (dVar 5) (dC (.int 1)))) (dOp2 dIsB (dOp2 (eqOf 1 FA9) (kAh FA2 [] (kAa (dChk [1] (dVar 0)) dNil)) (kAh FA2 [] (kAa (dChk [1] (dVar 1)) dNil))) (dC (.bool true)))))) kBw)
 (dSeq (dSet 6 (dOp2 dIx (dLc true (kAr (dVar 2)) (gN 6) (kAp (dOp2 dNe (kAh FA0 [] (kAa (dOp2 dIx (dVar 3) (dC (.int 0))) (kAa (dVar 6) dNil))) (kAh FA0 [] (kAa (dOp2 dIx (dVar 3) (dC (.int 1))) (kAa (dVar 6) dNil))))) (dVar 6) [6]) (dC (.int 0))))
 (dSeq (dSet 7 (dLst (kAa (dTup dNil) (kAa (dTup (kAa (dVar 6) dNil)) (kAa (dTup dNil) dNil)))))
 (dRet (kGL (dOp2 dNe (kAh FA3 [] (kAa (dChk [1] (dVar 0)) (kAa (dVar 7) dNil))) (kAh FA3 [] (kAa (dChk [1] (dVar 1)) (kAa (dVar 7) dNil)))) (dOp2 dIsB (dOp2 (eqOf 1 FA9) (kAh FA2 [] (kAa (dChk [1] (dVar 0)) dNil)) (kAh FA2 [] (kAa (dChk [1] (dVar 1)) dNil))) (dC (.bool false))))))))
def FAq : FM := runF 9 0 kFy
def kTv : MS := (dSeq (dSet 1 (kAh FAu [] (kAa (dVar 0) (kAa (dC (.int 1)) dNil))))
 (dSeq (dSet 2 (kAn FAr 1 [] dNil))
 (dSeq (dPar [3, 4] (kAa (kAn FAk 1 [] (kAa (dVar 2) dNil)) (kAa (kAn FA4 1 [] dNil) dNil)))
 (dSeq (dSet 5 (dNew 1 FAa [] (kFd [0, 1, 2, 3] [] (kAa (dOp2 dIx (dVar 3) (dC (.int 0))) (kAa (dOp2 dIx (dVar 3) (dC (.int 1))) (kAa (dVar 4) (kAa (dOp2 dIx (dVar 3) (dC (.int 2))) dNil)))))))
 (dSeq (dSet 6 (kAh FA2 [] (kAa (dChk [1] (dVar 5)) dNil)))
 (dSeq (dSet 7 (dLst (kAa (kAh FAp [] (kAa (dVar 2) (kAa (dVar 3) dNil))) (kAa (dTup dNil) (kAa (dOp2 dIx (dVar 3) (dC (.int 2))) dNil)))))
 (dSeq (dIte (dOr (dNot (dTru (kAh FAc [] (kAa (dVar 6) (kAa (dVar 7) (kAa (dVar 4) dNil)))))) (dNot (dTru (kAh FAc [] (kAa (dVar 5) (kAa (dVar 3) (kAa (dVar 4) dNil))))))) (dRet (dC (.bool false))) kBw)
 (dSeq (dPar [8, 9] (kAa (kAn FAl 1 [] (kAa (dVar 2) dNil)) (kAa (kAn FAl 1 [] (kAa (dVar 2) dNil)) dNil)))
 (dSeq (dPar [10, 11] (kAa (kAn FAo 1 [] (kAa (dVar 2) (kAa (dVar 8) (kAa (dVar 9) dNil)))) (kAa (kAn FAo 1 [] (kAa (dVar 2) (kAa (dVar 8) (kAa (dVar 9) dNil)))) dNil)))
 (dSeq (dSet 12 (dOp2 iSub (dCB dSum (kAa (dLc true (kAr (dVar 8)) (gN 14) mYes (kAh FA0 [] (kAa (dOp2 dIx (dVar 3) (dC (.int 1))) (kAa (dVar 14) dNil))) [14]) dNil)) (dCB dSum (kAa (dLc true (kAr (dVar 9)) (gN 14) mYes (kAh FA0 [] (kAa (dOp2 dIx (dVar 3) (dC (.int 1))) (kAa (dVar 14) dNil))) [14]) dNil))))
 (dSeq (dSet 13 (kAh FAs [] (kAa (dVar 3) (kAa (dVar 4) (kAa (dVar 10) dNil)))))
 (dSeq (dIte (dOr (kAp (dOp2 dNe (dCB kFF (kAa (kAh FA3 [] (kAa (dChk [1] (dVar 5)) (kAa (dVar 10) dNil))) dNil)) (dCB kFF (kAa (dVar 13) dNil)))) (kAp (dOp2 dNe (dCB kFF (kAa (kAh FA3 [] (kAa (dChk [1] (dVar 6)) (kAa (dVar 10) dNil))) dNil)) (dCB kFF (kAa (dOp2 iSub (dVar 13) (dVar 12)) dNil))))) (dRet (dC (.bool false))) kBw)
 (dSeq (dIte (dOr (kAp (dOp2 dLt (kAh FA3 [] (kAa (dChk [1] (dVar 5)) (kAa (dOp2 dAdd (dVar 10) (dUn dRev (dVar 11))) dNil))) (dC (.int 0)))) (kAp (dOp2 dNe (dLc true (dZip (kAa (dVar 10) (kAa (dVar 11) dNil))) (gT 2 (kBe (gN 21) (kBe (gN 22) kFC))) (kAp (dOp2 dLt (kAh FA7 [] (kAa (dChk [1] (dVar 6)) (kAa (dVar 21) (kAa (dVar 22) dNil)))) (dC (.int 0)))) (dC (.int 1)) [21, 22]) (dLst dNil)))) (dRet (dC (.bool false))) kBw)
 (dSeq (dPar [14, 15] (kAa (kAn FAn 1 [] (kAa (dVar 2) dNil)) (kAa (dOp2 iSub (kAn FA4 1 [] dNil) (kAn FA4 1 [] dNil)) dNil)))
 (dSeq (dPar [16, 17] (kAa (kAh FAf [] (kAa (dChk [1] (dVar 5)) (kAa (dVar 14) (kAa (dVar 15) dNil)))) (kAa (dOp2 iMul (dVar 15) (dOp2 iSub (dIf (kAp (dOp2 dIn (dVar 14) (dVar 9))) (dC (.int 1)) (dC (.int 0))) (dIf (kAp (dOp2 dIn (dVar 14) (dVar 8))) (dC (.int 1)) (dC (.int 0))))) dNil)))
 (dSeq (dIte (dOr (dNot (dTru (kAh FAc [] (kAa (dVar 16) (kAa (kAh FAj [] (kAa (dVar 3) (kAa (dVar 14) (kAa (dVar 15) dNil)))) (kAa (dVar 4) dNil)))))) (dNot (dTru (kAh FAc [] (kAa (dVar 5) (kAa (dVar 3) (kAa (dVar 4) dNil))))))) (dRet (dC (.bool false))) kBw)
 (dSeq (dIte (dOr (kAp (dOp2 dNe (dCB kFF (kAa (kAh FA3 [] (kAa (dChk [1] (dVar 16)) (kAa (dVar 10) dNil))) dNil)) (dCB kFF (kAa (dOp2 dAdd (dVar 13) (dVar 17)) dNil)))) (kAp (dOp2 kQw (dOp2 (eqOf 1 FA9) (kAh FA2 [] (kAa (dChk [1] (dVar 16)) dNil)) (dVar 6)) (dC (.bool true))))) (dRet (dC (.bool false))) kBw)
 (dSeq (dSet 18 (dLst (kAa (dOp2 dIx (dVar 3) (dC (.int 0))) (kAa (dOp2 dIx (dVar 3) (dC (.int 1))) (kAa (dLst dNil) dNil)))))
 (dSeq (dIte (kAp (dOp2 dEq (kAn FA1 1 [] (kAa (dC (.int 2)) dNil)) (dC (.int 0)))) (dSet 18 (kAn FAk 1 [] (kAa (dVar 2) dNil))) kBw)
 (dSeq (dFor (kDc (kAa (kAn FA1 1 [] (kAa (dC (.int 3)) dNil)) dNil)) (gN 19) (dSet 18 (kAh FAj [] (kAa (dVar 18) (kAa (kAn FAn 1 [] (kAa (dVar 2) dNil)) (kAa (dOp2 iSub (kAn FA4 1 [] dNil) (kAn FA4 1 [] dNil)) dNil))))))
 (dSeq (dSet 20 (dLst (kAa (dNew 1 FAa [] (kFd [0, 1, 2, 3] [.int 0, .obj 4 []] (kAa (dOp2 dIx (dVar 3) (dC (.int 0))) (kAa (dOp2 dIx (dVar 3) (dC (.int 1))) dNil)))) (kAa (dNew 1 FAa [] (kFd [0, 1, 2, 3] [.int 0, .obj 4 []] (kAa (dOp2 dIx (dVar 18) (dC (.int 0))) (kAa (dOp2 dIx (dVar 18) (dC (.int 1))) dNil)))) dNil))))
 (dRet (kAh FAq [] (kAa (dOp2 dIx (dVar 20) (dC (.int 0))) (kAa (dOp2 dIx (dVar 20) (dC (.int 1))) (kAa (dVar 2) (kAa (dLst (kAa (dOp2 dIx (dVar 7) (dC (.int 0))) (kAa (kAh FAp [] (kAa (dVar 2) (kAa (dVar 18) dNil))) dNil))) (kAa (dLst (kAa (dVar 10) (kAa (dVar 11) dNil))) dNil))))))))))))))))))))))))))))
def F_law : FM := runF 23 0 kTv
def Tb : CT := [clsV "Prices" ["starts", "stops", "fee", "waits"]]
theorem kGi : (["starts", "stops", "fee", "waits"] : List Str).Nodup ∧ (["starts", "stops", "fee", "waits"] : List Str).length < 48 := ⟨by decide +kernel, by decide⟩
theorem kGd : 4 = 4 ∨ 0 < 4 := by decide
theorem kPg : kQM Tb kGr := gF4.mpr ⟨fun c h => by cases h; first | exact .inl rfl | exact .inr (by show 0 + 1 < _; decide), List.forall_mem_nil _⟩
theorem kRc : kQM Tb kHM := gF4.mpr ⟨fun c h => by cases h; first | exact .inl rfl | exact .inr (by show 1 + 1 < _; decide), List.forall_mem_nil _⟩
theorem kUw : kQM Tb kLT := gF4.mpr ⟨fun c h => by cases h; first | exact .inl rfl | exact .inr (by show 2 + 1 < _; decide), List.forall_mem_nil _⟩
theorem kRb : kQM Tb kHL := gF4.mpr ⟨fun c h => by cases h; first | exact .inl rfl | exact .inr (by show 3 + 1 < _; decide), List.forall_mem_nil _⟩
structure Fct (P : Program) (K : PySem.W.Frag) (mg : Str → Option Value) where
 aAu : Addr
 dAu : FuncData
 FAu : FunD K "_law_deal" "_law_deal" (defArgs kCu) (defBody kCu) (defScope kCu) [] [] aAu dAu
 gAu : mg "_law_deal" = some (.ref aAu)
 bAu : Binds K dAu ["_law_script", "_law_base"] []
 aA1 : Addr
 dA1 : FuncData
 FA1 : FunD K "_law_draw" "_law_draw" (defArgs kCs) (defBody kCs) (defScope kCs) [] [] aA1 dA1
 gA1 : mg "_law_draw" = some (.ref aA1)
 bA1 : Binds K dA1 ["_law_deal_here", "_law_bound"] []
 aAr : Addr
 dAr : FuncData
 FAr : FunD K "_law_names" "_law_names" (defArgs kBR) (defBody kBR) (defScope kBR) [] [] aAr dAr
 gAr : mg "_law_names" = some (.ref aAr)
 bAr : Binds K dAr ["_law_deal_here"] []
 aA4 : Addr
 dA4 : FuncData
 FA4 : FunD K "_law_number" "_law_number" (defArgs kBA) (defBody kBA) (defScope kBA) [] [] aA4 dA4
 gA4 : mg "_law_number" = some (.ref aA4)
 bA4 : Binds K dA4 ["_law_deal_here"] []
 aAk : Addr
 dAk : FuncData
 FAk : FunD K "_law_lists" "_law_lists" (defArgs kBT) (defBody kBT) (defScope kBT) [] [] aAk dAk
 gAk : mg "_law_lists" = some (.ref aAk)
 bAk : Binds K dAk ["_law_deal_here", "_law_names_here"] []
 aAg : Addr
 dAg : FuncData
 FAg : FunD K "is_sequence" "is_sequence" (defArgs kBz) (defBody kBz) (defScope kBz) [] [] aAg dAg
 gAg : mg "is_sequence" = some (.ref aAg)
 bAg : Binds K dAg ["value"] []
 aAv : Addr
 dAv : FuncData
 FAv : FunD K "is_name" "is_name" (defArgs kDu) (defBody kDu) (defScope kDu) [] [] aAv dAv
 gAv : mg "is_name" = some (.ref aAv)
 bAv : Binds K dAv ["value"] []
 aAi : Addr
 dAi : FuncData
 FAi : FunD K "is_integer" "is_integer" (defArgs kBQ) (defBody kBQ) (defScope kBQ) [] [] aAi dAi
 gAi : mg "is_integer" = some (.ref aAi)
 bAi : Binds K dAi ["value"] []
 aAh : Addr
 dAh : FuncData
 FAh : FunD K "is_listed" "is_listed" (defArgs kCn) (defBody kCn) (defScope kCn) [] [] aAh dAh
 gAh : mg "is_listed" = some (.ref aAh)
 bAh : Binds K dAh ["value"] []
 aA8 : Addr
 dA8 : FuncData
 FA8 : FunD K "kept_pairs" "kept_pairs" (defArgs kBP) (defBody kBP) (defScope kBP) [] [] aA8 dA8
 gA8 : mg "kept_pairs" = some (.ref aA8)
 bA8 : Binds K dA8 ["value"] []
 aAb : Addr
 dAb : FuncData
 FAb : FunD K "number_of" "number_of" (defArgs kCm) (defBody kCm) (defScope kCm) [] [] aAb dAb
 gAb : mg "number_of" = some (.ref aAb)
 bAb : Binds K dAb ["pairs", "name"] []
 aAm : Addr
 dAm : FuncData
 FAm : FunD K "wrong_prices" "wrong_prices" (defArgs kBq) (defBody kBq) (defScope kBq) [] [] aAm dAm
 gAm : mg "wrong_prices" = some (.ref aAm)
 bAm : Binds K dAm ["starts", "stops", "fee", "waits"] []
 aAa : Addr
 dAa : FuncData
 FAa : FunD K "__init__" "Prices.__init__" (defArgs kAP) (defBody kAP) (defScope kAP) [] [("fee", .int 0), ("waits", .ref (kwA ("Prices", some "__init__") "waits" K))] aAa dAa
 mk_Prices : Mk K (He.ga K "Prices") aAa
 q_Prices___init___0 : KBx K dAa ["self", "starts", "stops", "fee", "waits"] ["fee", "waits"] 3 [0, 1, 2, 3, 4] []
 q_Prices___init___1 : KBx K dAa ["self", "starts", "stops", "fee", "waits"] [] 3 [0, 1, 2, 3, 4] [.int 0, .ref (kwA ("Prices", some "__init__") "waits" K)]
 aA5 : Addr
 dA5 : FuncData
 FA5 : FunD K "start_price" "Prices.start_price" (defArgs kAx) (defBody kAx) (defScope kAx) [] [] aA5 dA5
 meA5 : Meth K (He.ga K "Prices") "start_price" aA5
 bA5 : Binds K dA5 ["self", "name"] []
 aA6 : Addr
 dA6 : FuncData
 FA6 : FunD K "stop_price" "Prices.stop_price" (defArgs kAA) (defBody kAA) (defScope kAA) [] [] aA6 dA6
 meA6 : Meth K (He.ga K "Prices") "stop_price" aA6
 bA6 : Binds K dA6 ["self", "name"] []
 aA2 : Addr
 dA2 : FuncData
 FA2 : FunD K "round_trips" "Prices.round_trips" (defArgs kAy) (defBody kAy) (defScope kAy) [] [] aA2 dA2
 meA2 : Meth K (He.ga K "Prices") "round_trips" aA2
 bA2 : Binds K dA2 ["self"] []
 aAe : Addr
 dAe : FuncData
 FAe : FunD K "_law_kept" "_law_kept" (defArgs kCr) (defBody kCr) (defScope kCr) [] [] aAe dAe
 gAe : mg "_law_kept" = some (.ref aAe)
 bAe : Binds K dAe ["_law_pairs"] []
 aA0 : Addr
 dA0 : FuncData
 FA0 : FunD K "_law_listed" "_law_listed" (defArgs kBB) (defBody kBB) (defScope kBB) [] [] aA0 dA0
 gA0 : mg "_law_listed" = some (.ref aA0)
 bA0 : Binds K dA0 ["_law_pairs", "_law_name"] []
 aAp : Addr
 dAp : FuncData
 FAp : FunD K "_law_sums" "_law_sums" (defArgs kCo) (defBody kCo) (defScope kCo) [] [] aAp dAp
 gAp : mg "_law_sums" = some (.ref aAp)
 bAp : Binds K dAp ["_law_names_here", "_law_lists_here"] []
 aAc : Addr
 dAc : FuncData
 FAc : FunD K "_law_keeps" "_law_keeps" (defArgs kBU) (defBody kBU) (defScope kBU) [] [] aAc dAc
 gAc : mg "_law_keeps" = some (.ref aAc)
 bAc : Binds K dAc ["_law_made", "_law_lists_here", "_law_fee"] []
 aAl : Addr
 dAl : FuncData
 FAl : FunD K "_law_lot" "_law_lot" (defArgs kCQ) (defBody kCQ) (defScope kCQ) [] [] aAl dAl
 gAl : mg "_law_lot" = some (.ref aAl)
 bAl : Binds K dAl ["_law_deal_here", "_law_names_here"] []
 aAo : Addr
 dAo : FuncData
 FAo : FunD K "_law_plan" "_law_plan" (defArgs kCp) (defBody kCp) (defScope kCp) [] [] aAo dAo
 gAo : mg "_law_plan" = some (.ref aAo)
 bAo : Binds K dAo ["_law_deal_here", "_law_names_here", "_law_first", "_law_last"] []
 aAt : Addr
 dAt : FuncData
 FAt : FunD K "_law_cost" "_law_cost" (defArgs kCv) (defBody kCv) (defScope kCv) [] [] aAt dAt
 gAt : mg "_law_cost" = some (.ref aAt)
 bAt : Binds K dAt ["_law_lists_here", "_law_fee", "_law_one", "_law_other"] []
 aAs : Addr
 dAs : FuncData
 FAs : FunD K "_law_costs" "_law_costs" (defArgs kBV) (defBody kBV) (defScope kBV) [] [] aAs dAs
 gAs : mg "_law_costs" = some (.ref aAs)
 bAs : Binds K dAs ["_law_lists_here", "_law_fee", "_law_plan_here"] []
 aAw : Addr
 dAw : FuncData
 FAw : FunD K "less" "less" (defArgs kIv) (defBody kIv) (defScope kIv) [] [] aAw dAw
 gAw : mg "less" = some (.ref aAw)
 bAw : Binds K dAw ["one", "other"] []
 aAd : Addr
 dAd : FuncData
 FAd : FunD K "wait_of" "Prices.wait_of" (defArgs kAW) (defBody kAW) (defScope kAW) [] [] aAd dAd
 meAd : Meth K (He.ga K "Prices") "wait_of" aAd
 bAd : Binds K dAd ["self", "name"] []
 aA7 : Addr
 dA7 : FuncData
 FA7 : FunD K "of_change" "Prices.of_change" (defArgs kAH) (defBody kAH) (defScope kAH) [] [] aA7 dA7
 meA7 : Meth K (He.ga K "Prices") "of_change" aA7
 bA7 : Binds K dA7 ["self", "one", "other"] []
 aA3 : Addr
 dA3 : FuncData
 FA3 : FunD K "of_plan" "Prices.of_plan" (defArgs kAY) (defBody kAY) (defScope kAY) [] [] aA3 dA3
 meA3 : Meth K (He.ga K "Prices") "of_plan" aA3
 bA3 : Binds K dA3 ["self", "plan"] []
 aAn : Addr
 dAn : FuncData
 FAn : FunD K "_law_pick" "_law_pick" (defArgs kCq) (defBody kCq) (defScope kCq) [] [] aAn dAn
 gAn : mg "_law_pick" = some (.ref aAn)
 bAn : Binds K dAn ["_law_deal_here", "_law_some"] []
 aAf : Addr
 dAf : FuncData
 FAf : FunD K "shifted" "Prices.shifted" (defArgs kAX) (defBody kAX) (defScope kAX) [] [] aAf dAf
 meAf : Meth K (He.ga K "Prices") "shifted" aAf
 bAf : Binds K dAf ["self", "name", "by"] []
 aAj : Addr
 dAj : FuncData
 FAj : FunD K "_law_moved" "_law_moved" (defArgs kBS) (defBody kBS) (defScope kBS) [] [] aAj dAj
 gAj : mg "_law_moved" = some (.ref aAj)
 bAj : Binds K dAj ["_law_lists_here", "_law_name", "_law_by"] []
 aA9 : Addr
 dA9 : FuncData
 FA9 : FunD K "__eq__" "Prices.__eq__" (defArgs kBg) (defBody kBg) (defScope kBg) [] [] aA9 dA9
 meA9 : Meth K (He.ga K "Prices") "__eq__" aA9
 bA9 : Binds K dA9 ["self", "other"] []
 aAq : Addr
 dAq : FuncData
 FAq : FunD K "_law_differ" "_law_differ" (defArgs kBC) (defBody kBC) (defScope kBC) [] [] aAq dAq
 gAq : mg "_law_differ" = some (.ref aAq)
 bAq : Binds K dAq ["_law_one", "_law_other", "_law_names_here", "_law_sums_here", "_law_plans"] []
 a_law : Addr
 d_law : FuncData
 F_law : FunD K "law" "law" (defArgs kLF) (defBody kLF) (defScope kLF) [] [] a_law d_law
 g_law : mg "law" = some (.ref a_law)
 b_law : Binds K d_law ["_law_script"] []
 n_LETTERS : ∃ u, mg "LETTERS" = some u ∧ RelV (.str "abcdefghijklmnopqrstuvwxyz") u
 n_LONGEST : ∃ u, mg "LONGEST" = some u ∧ RelV (.int 5) u
 x_abs : mg "abs" = none
 x_all : mg "all" = none
 x_any : mg "any" = none
 x_bool : mg "bool" = none
 x_int : mg "int" = none
 x_isinstance : mg "isinstance" = none
 x_len : mg "len" = none
 x_list : mg "list" = none
 x_max : mg "max" = none
 x_range : mg "range" = none
 x_repr : mg "repr" = none
 x_set : mg "set" = none
 x_sorted : mg "sorted" = none
 x_str : mg "str" = none
 x_sum : mg "sum" = none
 x_tuple : mg "tuple" = none
 x_zip : mg "zip" = none
 kt_Prices___init___waits : KT0 K (kwA ("Prices", some "__init__") "waits" K)
 ic_Prices : C8.InsC K (He.ga K "Prices")
 ge_InvalidPrices : mg "InvalidPrices" = some (.ref (He.ga K "InvalidPrices"))
 e_InvalidPrices : ExcAt P K (He.ga K "InvalidPrices")
 cl_Prices : Cls K (He.ga K "Prices")
 gc_Prices : mg "Prices" = some (.ref (He.ga K "Prices"))
 na_Prices_starts : NoAttr K (He.ga K "Prices") "starts"
 na_Prices_stops : NoAttr K (He.ga K "Prices") "stops"
 na_Prices_fee : NoAttr K (He.ga K "Prices") "fee"
 na_Prices_waits : NoAttr K (He.ga K "Prices") "waits"
section
variable {P : Program} {w : World} {W : Wd} {mg : Str → Option Value} {base : Heap}
structure Tbs (base : Heap) (c : Fct P W.K mg) : Prop where
theorem kFb (c : Fct P W.K mg) : kJU W.K Tb "starts" kBn := gF4.mpr ⟨⟨by decide, _, rfl, rfl, c.cl_Prices, c.na_Prices_starts⟩, List.forall_mem_nil _⟩
theorem kGH (c : Fct P W.K mg) : kJU W.K Tb "stops" kCb := gF4.mpr ⟨⟨by decide, _, rfl, rfl, c.cl_Prices, c.na_Prices_stops⟩, List.forall_mem_nil _⟩
theorem kKh (c : Fct P W.K mg) : kJU W.K Tb "fee" kFB := gF4.mpr ⟨⟨by decide, _, rfl, rfl, c.cl_Prices, c.na_Prices_fee⟩, List.forall_mem_nil _⟩
theorem kGG (c : Fct P W.K mg) : kJU W.K Tb "waits" kCa := gF4.mpr ⟨⟨by decide, _, rfl, rfl, c.cl_Prices, c.na_Prices_waits⟩, List.forall_mem_nil _⟩
theorem kOJ (c : Fct P W.K mg) : kJU W.K Tb "starts" kGr := gF4.mpr ⟨⟨by decide, _, rfl, rfl, c.cl_Prices, c.na_Prices_starts⟩, List.forall_mem_nil _⟩
theorem kQh (c : Fct P W.K mg) : kJU W.K Tb "stops" kHM := gF4.mpr ⟨⟨by decide, _, rfl, rfl, c.cl_Prices, c.na_Prices_stops⟩, List.forall_mem_nil _⟩
theorem kTH (c : Fct P W.K mg) : kJU W.K Tb "fee" kLT := gF4.mpr ⟨⟨by decide, _, rfl, rfl, c.cl_Prices, c.na_Prices_fee⟩, List.forall_mem_nil _⟩
theorem kQg (c : Fct P W.K mg) : kJU W.K Tb "waits" kHL := gF4.mpr ⟨⟨by decide, _, rfl, rfl, c.cl_Prices, c.na_Prices_waits⟩, List.forall_mem_nil _⟩
theorem kCy (c : Fct P W.K mg) : kHV W.K Tb "start_price" c.aA5 1 := ⟨by decide, _, rfl, by decide +kernel, c.cl_Prices, c.meA5⟩
theorem kCI (c : Fct P W.K mg) : kHV W.K Tb "stop_price" c.aA6 1 := ⟨by decide, _, rfl, by decide +kernel, c.cl_Prices, c.meA6⟩
theorem kAS (c : Fct P W.K mg) : kHV W.K Tb "round_trips" c.aA2 1 := ⟨by decide, _, rfl, by decide +kernel, c.cl_Prices, c.meA2⟩
theorem kIh (c : Fct P W.K mg) : kHV W.K Tb "wait_of" c.aAd 1 := ⟨by decide, _, rfl, by decide +kernel, c.cl_Prices, c.meAd⟩
theorem kEj (c : Fct P W.K mg) : kHV W.K Tb "of_change" c.aA7 1 := ⟨by decide, _, rfl, by decide +kernel, c.cl_Prices, c.meA7⟩
theorem kAT (c : Fct P W.K mg) : kHV W.K Tb "of_plan" c.aA3 1 := ⟨by decide, _, rfl, by decide +kernel, c.cl_Prices, c.meA3⟩
theorem kIi (c : Fct P W.K mg) : kHV W.K Tb "shifted" c.aAf 1 := ⟨by decide, _, rfl, by decide +kernel, c.cl_Prices, c.meAf⟩
theorem kDM (c : Fct P W.K mg) : kHV W.K Tb "__eq__" c.aA9 1 := ⟨by decide, _, rfl, by decide +kernel, c.cl_Prices, c.meA9⟩
theorem kBO : FnScope ["_law_script", "_law_base", "_law_cells", "_law_blend", "_law_cell"] ["_law_script", "_law_base"] (defScope kCu) := by trivial
theorem kLL (c : Fct P W.K mg) (ho : ObOk W Tb) (tb : Tbs base c) : FnG P w W.K mg base 1 c.aAu c.dAu ["_law_script", "_law_base"] (spD W 0 2 2 FAu) := by
 have xo := ho.xd
 refine kAD (N := ["_law_script", "_law_base", "_law_cells", "_law_blend", "_law_cell"]) (m := kFz) (O' := [0, 0, 0, 0, 0]) c.FAu kBO (by decide) (fun cdv hcd A hg0 outer s H E hr => ?_) (by decide) rfl (.inr (fun env e => (kHG (kHG (kHG kNU))) env e))
 have hgu := kAg (env := envOfC "_law_deal" (defScope kCu) s.heap.objs.size c.aAu cdv) hg0
 exact (kAf (kOo rfl kBO.nd rfl rfl (sw_true rfl rfl rfl rfl) (own := [("_law_cell", 4)]) (b := true) (kBu (DO.de (kOp (kAc rfl (L2.pv 0)) (kNi (kAc rfl (L2.pv 1))) (kNi (kAe pe_int))))) (by trivial) (fun s H C cl fp => (kAt (pg_name (i := 4) kBO.nd rfl (by trivial)))) (fun s H C cl fp => (DE.weak (z' := 2) (p' := true) (kAE call_abs (kVm) rfl c.x_abs boot_abs (kAb (kAc rfl (L2.pv 4)) (kAd (z := 0)))) (by decide))) (by decide))
 (DSs.thin (O1 := [0, 0, 0, 0, 0]) (kAf (kBX (DO.de (kBs kAL (kAK rfl) (kAe pe_int) (kCj op_mul kNJ (kAe pe_int) (kAc rfl (L2.pv 1))))) (fun _ pe => ps_set kBO.nd rfl (by trivial) pe))
 (kAf (kJz (passes_of rfl) rfl (kBu (kAc rfl (L2.pv 2))) (kAt (pg_name (i := 4) kBO.nd rfl (by trivial))) (kAk (kBX (kCj op_mod kLH (kDb call_int1 (kMw) rfl c.x_int boot_int (kAb (DO.de (kBs kAL (kAK rfl) (DO.de (kBs kAL (kAK rfl) (kCj op_mul kNJ (kAc rfl (L2.pv 3)) (kAe pe_int)) (kCj op_mod kLH (kDb call_int1 (kMw) rfl c.x_int boot_int (kAb (kAc rfl (L2.pv 4)) (kAd (z := 0)))) (kAe pe_int)))) (kAe pe_int))) (kAd (z := 0)))) (kAe pe_int)) (fun _ pe => ps_set kBO.nd rfl (by trivial) pe))))
 (kAk (kLd (kTO (kBh (kQp (DO.de (kFc rfl kBO.nd (own := [("_law_cell", 4)]) (b := true) (kBu (kAc rfl (L2.pv 2))) (by trivial) (fun s H C cl fp => (kAt (pg_name (i := 4) kBO.nd rfl (by trivial)))) (fun s H C cl fp => (DT.weak (p' := true) (kAJ (DL.OpR.or op_ge op_ge_str) kVF (kAc rfl (L2.pv 4)) (kCj op_pow kUB (kAe pe_int) (kAe pe_int))))) (fun s H C cl fp => (DE.weak (z' := 2) (p' := true) (kAc rfl (L2.pv 4)) (by decide))) (by decide)))) (kBh (DE.do0 (kAc rfl (L2.pv 3))) kFD)))))))))
theorem kIu : FnScope ["_law_deal_here", "_law_bound", "_law_rest"] ["_law_deal_here", "_law_bound"] (defScope kCs) := by trivial
theorem kAI (c : Fct P W.K mg) (ho : ObOk W Tb) (tb : Tbs base c) : FnG P w W.K mg base 1 c.aA1 c.dA1 ["_law_deal_here", "_law_bound"] (spD W 2 0 2 FA1) := by
 have xo := ho.xd
 refine kAD (N := ["_law_deal_here", "_law_bound", "_law_rest"]) (m := kFx) (O' := [2, 0, 0]) c.FA1 kIu (by decide) (fun cdv hcd A hg0 outer s H E hr => ?_) (by decide) rfl (.inl rfl)
 have hgu := kAg (env := envOfC "_law_draw" (defScope kCs) s.heap.objs.size c.aA1 cdv) hg0
 exact (kAf (kRO fuel (passes_of rfl) (dt_w (kVd (kAJ (op_neD (u64 hr)) (kHd rfl) (kMq (L2.pv 0) (kAe pe_int)) (DO.de (kBt (kAd (z := 2))))) (kTJ (kAJ (op_eqD (u64 hr)) (kEX rfl) (kBb kBa (kAZ rfl) (kMq (L2.pv 0) (kAe pe_int)) (kCj op_sub kFI (kAe pe_int) (kAe pe_int))) (kAe pe_int))))) (kAk (kEm (kMp PySem.F.slot_list_pop PySem.F.type_list_pop mt_pop kSw (L2.pv 0) (kAe pe_int)))))
 (kAf (kDn (kAJ (op_neD (u64 hr)) (kHd rfl) (kMq (L2.pv 0) (kAe pe_int)) (DO.de (kBt (kAd (z := 2))))) (kAf (kBX (kMp PySem.F.slot_list_pop PySem.F.type_list_pop mt_pop kSw (L2.pv 0) (kAe pe_int)) (fun _ pe => ps_set kIu.nd rfl (by trivial) pe))
 (kAf (kEm (kRS PySem.F.slot_list_append PySem.F.type_list_append mt_append kEZ (L2.pv 0) (kAe pe_int) (kAb (kCj op_fdiv kSq (kAc rfl (L2.pv 2)) (kAc rfl (L2.pv 1))) (kAd (z := 2)))))
 (kAk (kAB (kCj op_mod kLH (kDb call_int1 (kMw) rfl c.x_int boot_int (kAb (kAc rfl (L2.pv 2)) (kAd (z := 0)))) (kAc rfl (L2.pv 1))))))) kBo)
 (kAf (kQl (kCj op_mod kLH (kDb call_int1 (kMw) rfl c.x_int boot_int (kAb (DO.de (kBs kAL (kAK rfl) (kCj op_mul kNJ (kMq (L2.pv 0) (kAe pe_int)) (kAe pe_int)) (kAe pe_int))) (kAd (z := 0)))) (kAe pe_int)) (L2.pv 0) (kAe pe_int))
 (kAk (kAB (kCj op_mod kLH (kDb call_int1 (kMw) rfl c.x_int boot_int (kAb (kCj op_fdiv kSq (kMq (L2.pv 0) (kAe pe_int)) (kAe pe_int)) (kAd (z := 0)))) (kAc rfl (L2.pv 1))))))))
theorem kCR : FnScope ["_law_deal_here", "_law_found", "_law_turn", "_law_letters", "_law_at"] ["_law_deal_here"] (defScope kBR) := by trivial
theorem kKQ (c : Fct P W.K mg) (ho : ObOk W Tb) (tb : Tbs base c) : FnG P w W.K mg base 2 c.aAr c.dAr ["_law_deal_here"] (spD W 2 1 1 FAr) := by
 have xo := ho.xd
 refine kAD (N := ["_law_deal_here", "_law_found", "_law_turn", "_law_letters", "_law_at"]) (m := kGm) (O' := [2, 0, 0, 0, 0]) c.FAr kCR (by decide) (fun cdv hcd A hg0 outer s H E hr => ?_) (by decide) rfl (.inr (fun env e => (kHG (kHG kTp)) env e))
 have hgu := kAg (env := envOfC "_law_names" (defScope kBR) s.heap.objs.size c.aAr cdv) hg0
 exact (kAf (kQn (kBt (kAd (z := 2))) (fun _ pe => ps_set kCR.nd rfl (by trivial) pe))
 (kAf (kJz (passes_of rfl) rfl (kGt rfl c.x_range (kAb (DO.de (kBs kAL (kAK rfl) (kAe pe_int) (DO.de (kBv (kAI c ho tb) hr (by decide) hgu rfl c.gA1 c.FA1.kp c.bA1 (by trivial) (L2.pv 0) (kAb (kAe pe_int) (kAd (z := 2))))))) (kAd (z := 0)))) (kAt (pg_name (i := 2) kCR.nd rfl (by trivial))) (kAf (kOo rfl kCR.nd rfl rfl (sw_true rfl rfl rfl rfl) (own := [("_law_at", 4)]) (b := false) (kGt rfl c.x_range (kAb (DO.de (kBs kAL (kAK rfl) (kAe pe_int) (DO.de (kBv (kAI c ho tb) hr (by decide) hgu rfl c.gA1 c.FA1.kp c.bA1 (by trivial) (L2.pv 0) (kAb (kAe pe_int) (kAd (z := 2))))))) (kAd (z := 0)))) (by trivial) (fun s H C cl fp => (kAt (pg_name (i := 4) kCR.nd rfl (by trivial)))) (fun s H C cl fp => (DE.weak (z' := 2) (p' := false) (kBb kBa (kAZ rfl) (kAe pe_str) (DO.de (kBv (kAI c ho tb) hr (by decide) hgu rfl c.gA1 c.FA1.kp c.bA1 DL.takes0 (L2.pv 0) (kAb (kAe pe_int) (kAd (z := 2)))))) (by decide))) (by decide))
 (DSs.thin (O1 := [2, 1, 0, 0, 0]) (kAk (kDn (kAJ (kFt (u65 hr)) (kIL rfl) (kQs pe_str (kAc rfl (L2.pv 3))) (kNj (by decide) (L2.pv 1))) (kAk (kEm (kFE PySem.F.slot_list_append PySem.F.type_list_append mt_append kEZ (L2.pv 1) (kAb (kQs pe_str (kAc rfl (L2.pv 3))) (kAd (z := 2)))))) kBo)))))
 (kAk (kTK (L2.pv 1)))))
theorem kJM : FnScope ["_law_deal_here"] ["_law_deal_here"] (defScope kBA) := by trivial
theorem kBr (c : Fct P W.K mg) (ho : ObOk W Tb) (tb : Tbs base c) : FnG P w W.K mg base 2 c.aA4 c.dA4 ["_law_deal_here"] (spD W 2 0 1 FA4) := by
 have xo := ho.xd
 refine kAD (N := ["_law_deal_here"]) (m := kHI) (O' := [2]) c.FA4 kJM (by decide) (fun cdv hcd A hg0 outer s H E hr => ?_) (by decide) rfl (.inl rfl)
 have hgu := kAg (env := envOfC "_law_number" (defScope kBA) s.heap.objs.size c.aA4 cdv) hg0
 exact (kAk (kAB (kQu (kAJ (DL.OpR.or op_gt op_gt_str) kVE (DO.de (kBv (kAI c ho tb) hr (by decide) hgu rfl c.gA1 c.FA1.kp c.bA1 (by trivial) (L2.pv 0) (kAb (kAe pe_int) (kAd (z := 2))))) (kAe pe_int)) (DE.weak (z' := 2) (p' := false) (DO.de (kBv (kAI c ho tb) hr (by decide) hgu rfl c.gA1 c.FA1.kp c.bA1 (by trivial) (L2.pv 0) (kAb (kAe pe_int) (kAd (z := 2))))) (by decide)) (DE.weak (z' := 2) (p' := false) (DO.de (kBv (kAI c ho tb) hr (by decide) hgu rfl c.gA1 c.FA1.kp c.bA1 (by trivial) (L2.pv 0) (kAb (kAe pe_int) (kAd (z := 2))))) (by decide)))))
theorem kDS : FnScope ["_law_deal_here", "_law_names_here", "_law_starts", "_law_stops", "_law_waits", "_law_name", "_law_form", "_law_least", "_law_more"] ["_law_deal_here", "_law_names_here"] (defScope kBT) := by trivial
theorem kHF (c : Fct P W.K mg) (ho : ObOk W Tb) (tb : Tbs base c) : FnG P w W.K mg base 3 c.aAk c.dAk ["_law_deal_here", "_law_names_here"] (spD W 2 1 2 FAk) := by
 have xo := ho.xd
 refine kAD (N := ["_law_deal_here", "_law_names_here", "_law_starts", "_law_stops", "_law_waits", "_law_name", "_law_form", "_law_least", "_law_more"]) (m := kGo) (O' := [2, 0, 0, 0, 0, 0, 0, 0, 0]) c.FAk kDS (by decide) (fun cdv hcd A hg0 outer s H E hr => ?_) (by decide) rfl (.inr (fun env e => (kHG (kHG kNU)) env e))
 have hgu := kAg (env := envOfC "_law_lists" (defScope kBT) s.heap.objs.size c.aAk cdv) hg0
 exact (kAf (kQm (kBh (kBt (kAd (z := 2))) (kBh (kBt (kAd (z := 2))) (kBh (kBt (kAd (z := 2))) kFD))) (fun _ pa => ps_par3 rfl kDS.nd rfl rfl rfl (by decide) (by decide) (by decide) rfl rfl rfl pa rfl))
 (kAf (kJz (passes_of rfl) rfl (kBu (kAc rfl (L2.pv 1))) (kAt (pg_name (i := 5) kDS.nd rfl (by trivial))) (kAf (kQm (kBh (kBv (kAI c ho tb) hr (by decide) hgu rfl c.gA1 c.FA1.kp c.bA1 (by trivial) (L2.pv 0) (kAb (kAe pe_int) (kAd (z := 2)))) (kBh (kBv (kBr c ho tb) hr (by decide) hgu rfl c.gA4 c.FA4.kp c.bA4 (by trivial) (L2.pv 0) (kAd (z := 2))) (kBh (kBv (kBr c ho tb) hr (by decide) hgu rfl c.gA4 c.FA4.kp c.bA4 (by trivial) (L2.pv 0) (kAd (z := 2))) kFD))) (fun _ pa => ps_par3 rfl kDS.nd rfl rfl rfl (by decide) (by decide) (by decide) rfl rfl rfl pa rfl))
 (kAf (kDn (kAJ (op_eqD (u64 hr)) (kEX rfl) (kAc rfl (L2.pv 6)) (kAe pe_int)) (kAk (kEm (kFE PySem.F.slot_list_append PySem.F.type_list_append mt_append kEZ (L2.pv 2) (kAb (DO.de (kBt (kAb (kAc rfl (L2.pv 5)) (kAb (kAc rfl (L2.pv 7)) (kAd (z := 2)))))) (kAd (z := 2)))))) (kAk (kDn (kAJ (op_eqD (u64 hr)) (kEX rfl) (kAc rfl (L2.pv 6)) (kAe pe_int)) (kAk (kEm (kFE PySem.F.slot_list_insert PySem.F.type_list_insert mt_insert kHH (L2.pv 3) (kAb (kAe pe_int) (kAb (DO.de (kBt (kAb (kAc rfl (L2.pv 5)) (kAb (kAc rfl (L2.pv 7)) (kAd (z := 2)))))) (kAd (z := 2))))))) (kAk (kDn (kAJ (DL.OpR.or op_lt op_lt_str) kOD (kAc rfl (L2.pv 6)) (kAe pe_int)) (kAf (kEm (kFE PySem.F.slot_list_append PySem.F.type_list_append mt_append kEZ (L2.pv 2) (kAb (DO.de (kBt (kAb (kAc rfl (L2.pv 5)) (kAb (kQu (kAJ (op_eqD (u64 hr)) (kEX rfl) (kAc rfl (L2.pv 6)) (kAe pe_int)) (DO.de (kBs kAL (kAK rfl) (kAc rfl (L2.pv 7)) (kAc rfl (L2.pv 8)))) (kCj op_sub kFI (kAe pe_int) (kAc rfl (L2.pv 7)))) (kAd (z := 2)))))) (kAd (z := 2)))))
 (kAk (kEm (kFE PySem.F.slot_list_insert PySem.F.type_list_insert mt_insert kHH (L2.pv 3) (kAb (kAe pe_int) (kAb (DO.de (kBt (kAb (kAc rfl (L2.pv 5)) (kAb (kQu (kAJ (op_eqD (u64 hr)) (kEX rfl) (kAc rfl (L2.pv 6)) (kAe pe_int)) (kCj op_sub kFI (kAe pe_int) (kAc rfl (L2.pv 7))) (DO.de (kBs kAL (kAK rfl) (kAc rfl (L2.pv 7)) (kAc rfl (L2.pv 8))))) (kAd (z := 2)))))) (kAd (z := 2)))))))) (kAk (kDn (kAJ (op_eqD (u64 hr)) (kEX rfl) (kAc rfl (L2.pv 6)) (kAe pe_int)) (kAf (kEm (kFE PySem.F.slot_list_append PySem.F.type_list_append mt_append kEZ (L2.pv 2) (kAb (DO.de (kBt (kAb (kAc rfl (L2.pv 5)) (kAb (kAc rfl (L2.pv 7)) (kAd (z := 2)))))) (kAd (z := 2)))))
 (kAk (kEm (kFE PySem.F.slot_list_insert PySem.F.type_list_insert mt_insert kHH (L2.pv 3) (kAb (kAe pe_int) (kAb (DO.de (kBt (kAb (kAc rfl (L2.pv 5)) (kAb (kAc rfl (L2.pv 8)) (kAd (z := 2)))))) (kAd (z := 2)))))))) kBo)))))))
 (kAk (kDn (kAJ (op_eqD (u64 hr)) (kEX rfl) (DO.de (kBv (kAI c ho tb) hr (by decide) hgu rfl c.gA1 c.FA1.kp c.bA1 (by trivial) (L2.pv 0) (kAb (kAe pe_int) (kAd (z := 2))))) (kAe pe_int)) (kAk (kEm (kFE PySem.F.slot_list_insert PySem.F.type_list_insert mt_insert kHH (L2.pv 4) (kAb (DO.de (kBv (kAI c ho tb) hr (by decide) hgu rfl c.gA1 c.FA1.kp c.bA1 (by trivial) (L2.pv 0) (kAb (DO.de (kBs kAL (kAK rfl) (kAE call_len (kMv rfl) rfl c.x_len boot_len (kAb (kNj (by decide) (L2.pv 4)) (kAd (z := 0)))) (kAe pe_int))) (kAd (z := 2))))) (kAb (DO.de (kBt (kAb (kAc rfl (L2.pv 5)) (kAb (DO.de (kBv (kBr c ho tb) hr (by decide) hgu rfl c.gA4 c.FA4.kp c.bA4 (by trivial) (L2.pv 0) (kAd (z := 2)))) (kAd (z := 2)))))) (kAd (z := 2))))))) kBo)))))
 (DSs.thin (O1 := [2, 0, 0, 0, 0, 0, 0, 0, 0]) (kAk (kLd (kBt (kAb (kAc rfl (L2.pv 2)) (kAb (kAc rfl (L2.pv 3)) (kAb (kAc rfl (L2.pv 4)) (kAd (z := 2)))))))))))
theorem kJL : FnScope ["value"] ["value"] (defScope kBz) := by trivial
theorem kGT (c : Fct P W.K mg) (ho : ObOk W Tb) (tb : Tbs base c) : FnG P w W.K mg base 1 c.aAg c.dAg ["value"] (spD W 0 0 1 FAg) := by
 have xo := ho.xd
 refine kAD (N := ["value"]) (m := kFw) (O' := [0]) c.FAg kJL (by decide) (fun cdv hcd A hg0 outer s H E hr => ?_) (by decide) rfl (.inl rfl)
 have hgu := kAg (env := envOfC "is_sequence" (defScope kBz) s.heap.objs.size c.aAg cdv) hg0
 exact (kAk (kAB (kTS (kAc rfl (L2.pv 0)) (hm := c.x_isinstance) (hm1 := c.x_list) (hm2 := c.x_tuple))))
theorem kIb : FnScope ["value", "letter"] ["value"] (defScope kDu) := by trivial
theorem kOG (c : Fct P W.K mg) (ho : ObOk W Tb) (tb : Tbs base c) : FnG P w W.K mg base 1 c.aAv c.dAv ["value"] (spD W 0 0 1 FAv) := by
 have xo := ho.xd
 refine kAD (N := ["value", "letter"]) (m := kJk) (O' := [0, 0]) c.FAv kIb (by decide) (fun cdv hcd A hg0 outer s H E hr => ?_) (by decide) rfl (.inl rfl)
 have hgu := kAg (env := envOfC "is_name" (defScope kDu) s.heap.objs.size c.aAv cdv) hg0
 exact (kAf (kDn (dt_w (kJx (kEB (kEA (kQt (kAc rfl (L2.pv 0)) (hm := c.x_isinstance) (hm2 := c.x_str)))) (kHQ (kEB (kRN (DL.OpR.or op_le op_le_str) kUC (DL.OpR.or op_le op_le_str) kUC (kAe pe_int) (kAE call_len (kMv rfl) rfl c.x_len boot_len (kAb (kAc rfl (L2.pv 0)) (kAd (z := 0)))) (kAe (kUI rfl c.n_LONGEST))))))) (kAk (kAB (kAe pe_bl))) kBo)
 (kAk (kAB (kAE (cr_all rfl) (kVl rfl) rfl c.x_all boot_all (kAb (DO.de (kEC rfl kIb.nd (own := [("letter", 1)]) (b := true) (kBu (kAc rfl (L2.pv 0))) (by trivial) (fun s H C cl fp => (kAt (pg_name (i := 1) kIb.nd rfl (by trivial)))) (fun s H C cl fp => (DE.weak (z' := 2) (p' := true) (kGv (kIN (u65 hr)) (kRl rfl) (kAc rfl (L2.pv 1)) (kAe (kUI rfl c.n_LETTERS))) (by decide))) (by decide))) (kAd (z := 0)))))))
theorem kKz : FnScope ["value"] ["value"] (defScope kBQ) := by trivial
theorem kHD (c : Fct P W.K mg) (ho : ObOk W Tb) (tb : Tbs base c) : FnG P w W.K mg base 1 c.aAi c.dAi ["value"] (spD W 0 0 1 FAi) := by
 have xo := ho.xd
 refine kAD (N := ["value"]) (m := kIC) (O' := [0]) c.FAi kKz (by decide) (fun cdv hcd A hg0 outer s H E hr => ?_) (by decide) rfl (.inl rfl)
 have hgu := kAg (env := envOfC "is_integer" (defScope kBQ) s.heap.objs.size c.aAi cdv) hg0
 exact (kAk (kAB (kHn (kQt (kAc rfl (L2.pv 0)) (hm := c.x_isinstance) (hm2 := c.x_int)) (kOr (kTR (kQt (kAc rfl (L2.pv 0)) (hm := c.x_isinstance) (hm2 := c.x_bool)))))))
theorem kFQ : FnScope ["value", "names", "pair"] ["value"] (defScope kCn) := by trivial
theorem kGc (c : Fct P W.K mg) (ho : ObOk W Tb) (tb : Tbs base c) : FnG P w W.K mg base 2 c.aAh c.dAh ["value"] (spD W 0 0 1 FAh) := by
 have xo := ho.xd
 refine kAD (N := ["value", "names", "pair"]) (m := kHh) (O' := [0, 0, 0]) c.FAh kFQ (by decide) (fun cdv hcd A hg0 outer s H E hr => ?_) (by decide) rfl (.inl rfl)
 have hgu := kAg (env := envOfC "is_listed" (defScope kCn) s.heap.objs.size c.aAh cdv) hg0
 exact (kAf (kDn (kEB (kEA (DO.de (kBx (kGT c ho tb) hr (by decide) hgu rfl c.gAg c.FAg.kp c.bAg (by trivial) (kAb (kAc rfl (L2.pv 0)) (kAd (z := 2))))))) (kAk (kAB (kAe pe_bl))) kBo)
 (kAf (kQn (kBt (kAd (z := 2))) (fun _ pe => ps_set kFQ.nd rfl (by trivial) pe))
 (kAf (kJz (passes_of rfl) rfl (kBu (kAc rfl (L2.pv 0))) (kAt (pg_name (i := 2) kFQ.nd rfl (by trivial))) (kAf (kDn (dt_w (kJx (kEB (kEA (DO.de (kBx (kGT c ho tb) hr (by decide) hgu rfl c.gAg c.FAg.kp c.bAg (by trivial) (kAb (kAc rfl (L2.pv 2)) (kAd (z := 2))))))) (kJx (kAJ (op_neD (u64 hr)) (kHd rfl) (kAE call_len (kMv rfl) rfl c.x_len boot_len (kAb (kAc rfl (L2.pv 2)) (kAd (z := 0)))) (kAe pe_int)) (kJx (kEB (kEA (DO.de (kBx (kOG c ho tb) hr (by decide) hgu rfl c.gAv c.FAv.kp c.bAv (by trivial) (kAb (kBb kBa (kAZ rfl) (kAc rfl (L2.pv 2)) (kAe pe_int)) (kAd (z := 2))))))) (kHQ (kEB (kEA (DO.de (kBx (kHD c ho tb) hr (by decide) hgu rfl c.gAi c.FAi.kp c.bAi (by trivial) (kAb (kBb kBa (kAZ rfl) (kAc rfl (L2.pv 2)) (kAe pe_int)) (kAd (z := 2)))))))))))) (DSs.thin (O1 := [0, 0, 0]) (kAk (kAB (kAe pe_bl)))) kBo)
 (kAf (kDn (kAJ (kIN (u65 hr)) (kRl rfl) (kBb kBa (kAZ rfl) (kAc rfl (L2.pv 2)) (kAe pe_int)) (kNj (by decide) (L2.pv 1))) (DSs.thin (O1 := [0, 0, 0]) (kAk (kAB (kAe pe_bl)))) kBo)
 (kAk (kEm (kFE PySem.F.slot_list_append PySem.F.type_list_append mt_append kEZ (L2.pv 1) (kAb (kBb kBa (kAZ rfl) (kAc rfl (L2.pv 2)) (kAe pe_int)) (kAd (z := 2)))))))))
 (DSs.thin (O1 := [0, 0, 0]) (kAk (kAB (kAe pe_bl)))))))
theorem kFg : FnScope ["value", "pair"] ["value"] (defScope kBP) := by trivial
theorem kCY (c : Fct P W.K mg) (ho : ObOk W Tb) (tb : Tbs base c) : FnG P w W.K mg base 1 c.aA8 c.dA8 ["value"] (spD W 0 0 1 FA8) := by
 have xo := ho.xd
 refine kAD (N := ["value", "pair"]) (m := kGl) (O' := [0, 0]) c.FA8 kFg (by decide) (fun cdv hcd A hg0 outer s H E hr => ?_) (by decide) rfl (.inl rfl)
 have hgu := kAg (env := envOfC "kept_pairs" (defScope kBP) s.heap.objs.size c.aA8 cdv) hg0
 exact (kAk (kAB (kDb call_tuple_of (kIR rfl) rfl c.x_tuple boot_tuple (kAb (DO.de (kLe (kLi (u70 hr)) (kHo rfl) rfl c.x_sorted (by decide +kernel) (kAb (DO.de (kFc rfl kFg.nd (own := [("pair", 1)]) (b := true) (kBu (kAc rfl (L2.pv 0))) (by trivial) (fun s H C cl fp => (kAt (pg_name (i := 1) kFg.nd rfl (by trivial)))) (fun s H C cl fp => (DT.weak (p' := true) (kAJ (op_neD (u64 hr)) (kHd rfl) (kBb kBa (kAZ rfl) (kAc rfl (L2.pv 1)) (kAe pe_int)) (kAe pe_int)))) (fun s H C cl fp => (DE.weak (z' := 2) (p' := true) (kEo (kAb (kBb kBa (kAZ rfl) (kAc rfl (L2.pv 1)) (kAe pe_int)) (kAb (kBb kBa (kAZ rfl) (kAc rfl (L2.pv 1)) (kAe pe_int)) (kAd (z := 2))))) (by decide))) (by decide))) (kAd (z := 1))))) (kAd (z := 1))))))
theorem kFP : FnScope ["pairs", "name", "listed", "number"] ["pairs", "name"] (defScope kCm) := by trivial
theorem kDy (c : Fct P W.K mg) (ho : ObOk W Tb) (tb : Tbs base c) : FnG P w W.K mg base 1 c.aAb c.dAb ["pairs", "name"] (spD W 0 0 2 FAb) := by
 have xo := ho.xd
 refine kAD (N := ["pairs", "name", "listed", "number"]) (m := kHg) (O' := [0, 0, 0, 0]) c.FAb kFP (by decide) (fun cdv hcd A hg0 outer s H E hr => ?_) (by decide) rfl (.inl rfl)
 have hgu := kAg (env := envOfC "number_of" (defScope kCm) s.heap.objs.size c.aAb cdv) hg0
 exact (kAf (kJz (passes_of rfl) rfl (kBu (kAc rfl (L2.pv 0))) (kMm (n := 2) rfl rfl (kDs (kAt (pg_name (i := 2) kFP.nd rfl (by trivial))) (kDs (kAt (pg_name (i := 3) kFP.nd rfl (by trivial))) kJA pgs_cons) pgs_cons)) (kAk (kDn (kAJ (op_eqD (u64 hr)) (kEX rfl) (kAc rfl (L2.pv 2)) (kAc rfl (L2.pv 1))) (kAk (kAB (kAc rfl (L2.pv 3)))) kBo)))
 (kAk (kAB (kAe pe_int))))
theorem kBG : FnScope ["starts", "stops", "fee", "waits", "first", "second", "name", "number", "pair"] ["starts", "stops", "fee", "waits"] (defScope kBq) := by trivial
theorem kJf (c : Fct P W.K mg) (ho : ObOk W Tb) (tb : Tbs base c) : FnG P w W.K mg base 3 c.aAm c.dAm ["starts", "stops", "fee", "waits"] (spD W 0 0 4 FAm) := by
 have xo := ho.xd
 refine kAD (N := ["starts", "stops", "fee", "waits", "first", "second", "name", "number", "pair"]) (m := kES) (O' := [0, 0, 0, 0, 0, 0, 0, 0, 0]) c.FAm kBG (by decide) (fun cdv hcd A hg0 outer s H E hr => ?_) (by decide) rfl (.inl rfl)
 have hgu := kAg (env := envOfC "wrong_prices" (defScope kBq) s.heap.objs.size c.aAm cdv) hg0
 exact (kAf (kDn (kEB (kEA (DO.de (kBx (kGc c ho tb) hr (by decide) hgu rfl c.gAh c.FAh.kp c.bAh (by trivial) (kAb (kAc rfl (L2.pv 0)) (kAd (z := 2))))))) (kAk (kAB (kAe pe_int))) kBo)
 (kAf (kDn (kEB (kEA (DO.de (kBx (kGc c ho tb) hr (by decide) hgu rfl c.gAh c.FAh.kp c.bAh (by trivial) (kAb (kAc rfl (L2.pv 1)) (kAd (z := 2))))))) (kAk (kAB (kAe pe_int))) kBo)
 (kAf (kJy (kBh (kBx (kCY c ho tb) hr (by decide) hgu rfl c.gA8 c.FA8.kp c.bA8 (by trivial) (kAb (kAc rfl (L2.pv 0)) (kAd (z := 2)))) (kBh (kBx (kCY c ho tb) hr (by decide) hgu rfl c.gA8 c.FA8.kp c.bA8 (by trivial) (kAb (kAc rfl (L2.pv 1)) (kAd (z := 2)))) kFD)) (fun _ pa => ps_par rfl kBG.nd rfl rfl (by decide) rfl rfl pa rfl))
 (kAf (kJz (passes_of rfl) rfl (kBu (DO.de (kBs kAL (kAK rfl) (kAc rfl (L2.pv 4)) (kAc rfl (L2.pv 5))))) (kMm (n := 2) rfl rfl (kDs (kAt (pg_name (i := 6) kBG.nd rfl (by trivial))) (kDs (kAt (pg_name (i := 7) kBG.nd rfl (by trivial))) kJA pgs_cons) pgs_cons)) (kAk (kDn (kAJ (DL.OpR.or op_lt op_lt_str) kOD (DO.de (kBs kAL (kAK rfl) (DO.de (kBx (kDy c ho tb) hr (by decide) hgu rfl c.gAb c.FAb.kp c.bAb (by trivial) (kAb (kAc rfl (L2.pv 4)) (kAb (kAc rfl (L2.pv 6)) (kAd (z := 2)))))) (DO.de (kBx (kDy c ho tb) hr (by decide) hgu rfl c.gAb c.FAb.kp c.bAb (by trivial) (kAb (kAc rfl (L2.pv 5)) (kAb (kAc rfl (L2.pv 6)) (kAd (z := 2)))))))) (kAe pe_int)) (kAk (kAB (kAe pe_int))) kBo)))
 (kAf (kDn (dt_w (kJx (kEB (kEA (DO.de (kBx (kHD c ho tb) hr (by decide) hgu rfl c.gAi c.FAi.kp c.bAi (by trivial) (kAb (kAc rfl (L2.pv 2)) (kAd (z := 2))))))) (kHQ (kAJ (DL.OpR.or op_lt op_lt_str) kOD (kAc rfl (L2.pv 2)) (kAe pe_int))))) (kAk (kAB (kAe pe_int))) kBo)
 (kAf (kDn (dt_w (kJx (kEB (kEA (DO.de (kBx (kGc c ho tb) hr (by decide) hgu rfl c.gAh c.FAh.kp c.bAh (by trivial) (kAb (kAc rfl (L2.pv 3)) (kAd (z := 2))))))) (kHQ (kEA (kAE (cr_any rfl) (kVk rfl) rfl c.x_any boot_any (kAb (DO.de (kEC rfl kBG.nd (own := [("pair", 8)]) (b := true) (kBu (kAc rfl (L2.pv 3))) (by trivial) (fun s H C cl fp => (kAt (pg_name (i := 8) kBG.nd rfl (by trivial)))) (fun s H C cl fp => (DE.weak (z' := 2) (p' := true) (kGv (DL.OpR.or op_lt op_lt_str) kOD (kBb kBa (kAZ rfl) (kAc rfl (L2.pv 8)) (kAe pe_int)) (kAe pe_int)) (by decide))) (by decide))) (kAd (z := 0)))))))) (kAk (kAB (kAe pe_int))) kBo)
 (kAk (kAB (kAe pe_non)))))))))
theorem kEt : FnScope ["self", "starts", "stops", "fee", "waits", "at"] ["self", "starts", "stops", "fee", "waits"] (defScope kAP) := by trivial
theorem kBD (c : Fct P W.K mg) (ho : ObOk W Tb) (tb : Tbs base c) : FnG P w W.K mg base 4 c.aAa c.dAa ["self", "starts", "stops", "fee", "waits"] (spD W 1 0 5 FAa) := by
 have xo := ho.xd
 refine kAD (N := ["self", "starts", "stops", "fee", "waits", "at"]) (m := kDl) (O' := [1, 0, 0, 0, 0, 0]) c.FAa kEt (by decide) (fun cdv hcd A hg0 outer s H E hr => ?_) (by decide) rfl (.inl rfl)
 have hgu := kAg (env := envOfC "Prices.__init__" (defScope kAP) s.heap.objs.size c.aAa cdv) hg0
 exact (kAf (kBX (DO.de (kBx (kJf c ho tb) hr (by decide) hgu rfl c.gAm c.FAm.kp c.bAm (by trivial) (kAb (kAc rfl (L2.pv 1)) (kAb (kAc rfl (L2.pv 2)) (kAb (kAc rfl (L2.pv 3)) (kAb (kAc rfl (L2.pv 4)) (kAd (z := 2)))))))) (fun _ pe => ps_set kEt.nd rfl (by trivial) pe))
 (kAf (kDn (kAJ op_notN kTe (kAc rfl (L2.pv 5)) (kAe pe_non)) (kAk (kRP c.e_InvalidPrices (hr.mono (by decide)) rfl c.ge_InvalidPrices rfl (by trivial) (kAc rfl (L2.pv 5)))) kBo)
 (kAf (kLc ho (kOJ c) kPg (L2.pv 0) (DO.de (kBx (kCY c ho tb) hr (by decide) hgu rfl c.gA8 c.FA8.kp c.bA8 (by trivial) (kAb (kAc rfl (L2.pv 1)) (kAd (z := 2))))))
 (kAf (kLc ho (kQh c) kRc (L2.pv 0) (DO.de (kBx (kCY c ho tb) hr (by decide) hgu rfl c.gA8 c.FA8.kp c.bA8 (by trivial) (kAb (kAc rfl (L2.pv 2)) (kAd (z := 2))))))
 (kAf (kLc ho (kTH c) kUw (L2.pv 0) (kAc rfl (L2.pv 3)))
 (kAk (kLc ho (kQg c) kRb (L2.pv 0) (DO.de (kBx (kCY c ho tb) hr (by decide) hgu rfl c.gA8 c.FA8.kp c.bA8 (by trivial) (kAb (kAc rfl (L2.pv 4)) (kAd (z := 2))))))))))))
theorem kFU : FnScope ["self", "name"] ["self", "name"] (defScope kAx) := by trivial
theorem kCx (c : Fct P W.K mg) (ho : ObOk W Tb) (tb : Tbs base c) : FnG P w W.K mg base 2 c.aA5 c.dA5 ["self", "name"] (spD W 0 0 2 FA5) := by
 have xo := ho.xd
 refine kAD (N := ["self", "name"]) (m := kDQ) (O' := [0, 0]) c.FA5 kFU (by decide) (fun cdv hcd A hg0 outer s H E hr => ?_) (by decide) rfl (.inl rfl)
 have hgu := kAg (env := envOfC "Prices.start_price" (defScope kAx) s.heap.objs.size c.aA5 cdv) hg0
 exact (kAk (kAB (DO.de (kBx (kDy c ho tb) hr (by decide) hgu rfl c.gAb c.FAb.kp c.bAb (by trivial) (kAb (kCk ho (kFb c) (kAc rfl (L2.pv 0))) (kAb (kAc rfl (L2.pv 1)) (kAd (z := 2))))))))
theorem kGJ : FnScope ["self", "name"] ["self", "name"] (defScope kAA) := by trivial
theorem kCH (c : Fct P W.K mg) (ho : ObOk W Tb) (tb : Tbs base c) : FnG P w W.K mg base 2 c.aA6 c.dA6 ["self", "name"] (spD W 0 0 2 FA6) := by
 have xo := ho.xd
 refine kAD (N := ["self", "name"]) (m := kEk) (O' := [0, 0]) c.FA6 kGJ (by decide) (fun cdv hcd A hg0 outer s H E hr => ?_) (by decide) rfl (.inl rfl)
 have hgu := kAg (env := envOfC "Prices.stop_price" (defScope kAA) s.heap.objs.size c.aA6 cdv) hg0
 exact (kAk (kAB (DO.de (kBx (kDy c ho tb) hr (by decide) hgu rfl c.gAb c.FAb.kp c.bAb (by trivial) (kAb (kCk ho (kGH c) (kAc rfl (L2.pv 0))) (kAb (kAc rfl (L2.pv 1)) (kAd (z := 2))))))))
theorem kAz : FnScope ["self", "names", "starts", "name", "number"] ["self"] (defScope kAy) := by trivial
theorem kAQ (c : Fct P W.K mg) (ho : ObOk W Tb) (tb : Tbs base c) : FnG P w W.K mg base 6 c.aA2 c.dA2 ["self"] (spD W 0 0 1 FA2) := by
 have xo := ho.xd
 refine kAD (N := ["self", "names", "starts", "name", "number"]) (m := kCJ) (O' := [0, 0, 0, 0, 0]) c.FA2 kAz (by decide) (fun cdv hcd A hg0 outer s H E hr => ?_) (by decide) rfl (.inl rfl)
 have hgu := kAg (env := envOfC "Prices.round_trips" (defScope kAy) s.heap.objs.size c.aA2 cdv) hg0
 exact (kAf (kBX (DO.de (kOL (DO.de (kEC rfl kAz.nd (own := [("name", 3), ("number", 4)]) (b := true) (kBu (DO.de (kBs kAL (kAK rfl) (kCk ho (kFb c) (kAc rfl (L2.pv 0))) (kCk ho (kGH c) (kAc rfl (L2.pv 0)))))) (by trivial) (fun s H C cl fp => (kMm (n := 2) rfl rfl (kDs (kAt (pg_name (i := 3) kAz.nd rfl (by trivial))) (kDs (kAt (pg_name (i := 4) kAz.nd rfl (by trivial))) kJA pgs_cons) pgs_cons))) (fun s H C cl fp => (DE.weak (z' := 2) (p' := true) (kAc rfl (L2.pv 3)) (by decide))) (by decide))) (u70 hr) (hm := c.x_sorted) (hm2 := c.x_set))) (fun _ pe => ps_set kAz.nd rfl (by trivial) pe))
 (kAf (kOo rfl kAz.nd rfl rfl (sw_true rfl rfl rfl rfl) (own := [("name", 3)]) (b := true) (kBu (kAc rfl (L2.pv 1))) (by trivial) (fun s H C cl fp => (kAt (pg_name (i := 3) kAz.nd rfl (by trivial)))) (fun s H C cl fp => (DE.weak (z' := 2) (p' := true) (kEo (kAb (kAc rfl (L2.pv 3)) (kAb (DO.de (kBs kAL (kAK rfl) (DO.de (kCi ho (kCy c) c.FA5.kp (kCx c ho tb) hr (by decide) hgu c.bA5 DL.takes0 (kAc rfl (L2.pv 0)) (kAb (kAc rfl (L2.pv 3)) (kAd (z := 2))))) (DO.de (kCi ho (kCI c) c.FA6.kp (kCH c ho tb) hr (by decide) hgu c.bA6 DL.takes0 (kAc rfl (L2.pv 0)) (kAb (kAc rfl (L2.pv 3)) (kAd (z := 2))))))) (kAd (z := 2))))) (by decide))) (by decide))
 (DSs.thin (O1 := [0, 0, 0, 0, 0]) (kAk (kAB (kJC (T := Tb) (n := 1) (pm := [0, 1, 2, 3]) (dd := []) ho rfl (by decide) kGi kGd c.mk_Prices (kBD c ho tb) hr (by decide) hgu rfl c.gc_Prices c.q_Prices___init___0 (by trivial) (fun _ _ => kER) (kGX (kAc rfl (L2.pv 2)) (kGX (kEo (kAd (z := 2))) (kQq (kIk (kCk ho (kKh c) (kAc rfl (L2.pv 0))) (kIk (kCk ho (kGG c) (kAc rfl (L2.pv 0))) kLZ)))))))))))
theorem kFT : FnScope ["_law_pairs", "_law_pair"] ["_law_pairs"] (defScope kCr) := by trivial
theorem kEy (c : Fct P W.K mg) (ho : ObOk W Tb) (tb : Tbs base c) : FnG P w W.K mg base 1 c.aAe c.dAe ["_law_pairs"] (spD W 0 0 1 FAe) := by
 have xo := ho.xd
 refine kAD (N := ["_law_pairs", "_law_pair"]) (m := kJq) (O' := [0, 0]) c.FAe kFT (by decide) (fun cdv hcd A hg0 outer s H E hr => ?_) (by decide) rfl (.inl rfl)
 have hgu := kAg (env := envOfC "_law_kept" (defScope kCr) s.heap.objs.size c.aAe cdv) hg0
 exact (kAk (kAB (kDb call_tuple_of (kIR rfl) rfl c.x_tuple boot_tuple (kAb (DO.de (kLe (kLi (u70 hr)) (kHo rfl) rfl c.x_sorted (by decide +kernel) (kAb (DO.de (kFc rfl kFT.nd (own := [("_law_pair", 1)]) (b := true) (kBu (kAc rfl (L2.pv 0))) (by trivial) (fun s H C cl fp => (kAt (pg_name (i := 1) kFT.nd rfl (by trivial)))) (fun s H C cl fp => (DT.weak (p' := true) (kAJ (op_neD (u64 hr)) (kHd rfl) (kBb kBa (kAZ rfl) (kAc rfl (L2.pv 1)) (kAe pe_int)) (kAe pe_int)))) (fun s H C cl fp => (DE.weak (z' := 2) (p' := true) (kEo (kAb (kBb kBa (kAZ rfl) (kAc rfl (L2.pv 1)) (kAe pe_int)) (kAb (kBb kBa (kAZ rfl) (kAc rfl (L2.pv 1)) (kAe pe_int)) (kAd (z := 2))))) (by decide))) (by decide))) (kAd (z := 1))))) (kAd (z := 1))))))
theorem kEJ : FnScope ["_law_pairs", "_law_name", "_law_pair"] ["_law_pairs", "_law_name"] (defScope kBB) := by trivial
theorem kAM (c : Fct P W.K mg) (ho : ObOk W Tb) (tb : Tbs base c) : FnG P w W.K mg base 1 c.aA0 c.dA0 ["_law_pairs", "_law_name"] (spD W 0 0 2 FA0) := by
 have xo := ho.xd
 refine kAD (N := ["_law_pairs", "_law_name", "_law_pair"]) (m := kHJ) (O' := [0, 0, 0]) c.FA0 kEJ (by decide) (fun cdv hcd A hg0 outer s H E hr => ?_) (by decide) rfl (.inl rfl)
 have hgu := kAg (env := envOfC "_law_listed" (defScope kBB) s.heap.objs.size c.aA0 cdv) hg0
 exact (kAk (kAB (kAE (cr_sum rfl) (kHU rfl) rfl c.x_sum boot_sum (kAb (DO.de (kFc rfl kEJ.nd (own := [("_law_pair", 2)]) (b := true) (kBu (kAc rfl (L2.pv 0))) (by trivial) (fun s H C cl fp => (kAt (pg_name (i := 2) kEJ.nd rfl (by trivial)))) (fun s H C cl fp => (DT.weak (p' := true) (kAJ (op_eqD (u64 hr)) (kEX rfl) (kBb kBa (kAZ rfl) (kAc rfl (L2.pv 2)) (kAe pe_int)) (kAc rfl (L2.pv 1))))) (fun s H C cl fp => (DE.weak (z' := 2) (p' := true) (kBb kBa (kAZ rfl) (kAc rfl (L2.pv 2)) (kAe pe_int)) (by decide))) (by decide))) (kAd (z := 0))))))
theorem kFR : FnScope ["_law_names_here", "_law_lists_here", "_law_name"] ["_law_names_here", "_law_lists_here"] (defScope kCo) := by trivial
theorem kIz (c : Fct P W.K mg) (ho : ObOk W Tb) (tb : Tbs base c) : FnG P w W.K mg base 2 c.aAp c.dAp ["_law_names_here", "_law_lists_here"] (spD W 0 0 2 FAp) := by
 have xo := ho.xd
 refine kAD (N := ["_law_names_here", "_law_lists_here", "_law_name"]) (m := kJl) (O' := [0, 0, 0]) c.FAp kFR (by decide) (fun cdv hcd A hg0 outer s H E hr => ?_) (by decide) rfl (.inl rfl)
 have hgu := kAg (env := envOfC "_law_sums" (defScope kCo) s.heap.objs.size c.aAp cdv) hg0
 exact (kAk (kAB (DO.de (kBx (kEy c ho tb) hr (by decide) hgu rfl c.gAe c.FAe.kp c.bAe (by trivial) (kAb (DO.de (kEC rfl kFR.nd (own := [("_law_name", 2)]) (b := true) (kBu (kAc rfl (L2.pv 0))) (by trivial) (fun s H C cl fp => (kAt (pg_name (i := 2) kFR.nd rfl (by trivial)))) (fun s H C cl fp => (DE.weak (z' := 2) (p' := true) (kEo (kAb (kAc rfl (L2.pv 2)) (kAb (DO.de (kBs kAL (kAK rfl) (DO.de (kBx (kAM c ho tb) hr (by decide) hgu rfl c.gA0 c.FA0.kp c.bA0 DL.takes0 (kAb (kBb kBa (kAZ rfl) (kAc rfl (L2.pv 1)) (kAe pe_int)) (kAb (kAc rfl (L2.pv 2)) (kAd (z := 2)))))) (DO.de (kBx (kAM c ho tb) hr (by decide) hgu rfl c.gA0 c.FA0.kp c.bA0 DL.takes0 (kAb (kBb kBa (kAZ rfl) (kAc rfl (L2.pv 1)) (kAe pe_int)) (kAb (kAc rfl (L2.pv 2)) (kAd (z := 2)))))))) (kAd (z := 2))))) (by decide))) (by decide))) (kAd (z := 2)))))))
theorem kHt : FnScope ["_law_made", "_law_lists_here", "_law_fee", "_law_due"] ["_law_made", "_law_lists_here", "_law_fee"] (defScope kBU) := by trivial
theorem kDT (c : Fct P W.K mg) (ho : ObOk W Tb) (tb : Tbs base c) : FnG P w W.K mg base 2 c.aAc c.dAc ["_law_made", "_law_lists_here", "_law_fee"] (spD W 0 0 3 FAc) := by
 have xo := ho.xd
 refine kAD (N := ["_law_made", "_law_lists_here", "_law_fee", "_law_due"]) (m := kGp) (O' := [0, 0, 0, 0]) c.FAc kHt (by decide) (fun cdv hcd A hg0 outer s H E hr => ?_) (by decide) rfl (.inl rfl)
 have hgu := kAg (env := envOfC "_law_keeps" (defScope kBU) s.heap.objs.size c.aAc cdv) hg0
 exact (kAf (kBX (kEo (kAb (DO.de (kBx (kEy c ho tb) hr (by decide) hgu rfl c.gAe c.FAe.kp c.bAe (by trivial) (kAb (kBb kBa (kAZ rfl) (kAc rfl (L2.pv 1)) (kAe pe_int)) (kAd (z := 2))))) (kAb (DO.de (kBx (kEy c ho tb) hr (by decide) hgu rfl c.gAe c.FAe.kp c.bAe (by trivial) (kAb (kBb kBa (kAZ rfl) (kAc rfl (L2.pv 1)) (kAe pe_int)) (kAd (z := 2))))) (kAb (DO.de (kBx (kEy c ho tb) hr (by decide) hgu rfl c.gAe c.FAe.kp c.bAe (by trivial) (kAb (kBb kBa (kAZ rfl) (kAc rfl (L2.pv 1)) (kAe pe_int)) (kAd (z := 2))))) (kAb (kAc rfl (L2.pv 2)) (kAd (z := 2))))))) (fun _ pe => ps_set kHt.nd rfl (by trivial) pe))
 (kAk (kAB (kGv (op_eqD (u64 hr)) (kEX rfl) (kAE (kEH hgu (u70 hr)) (kGz rfl) rfl c.x_repr (by decide +kernel) (kAb (kEo (kAb (kCk ho (kFb c) (kAc rfl (L2.pv 0))) (kAb (kCk ho (kGH c) (kAc rfl (L2.pv 0))) (kAb (kCk ho (kGG c) (kAc rfl (L2.pv 0))) (kAb (kCk ho (kKh c) (kAc rfl (L2.pv 0))) (kAd (z := 2))))))) (kAd (z := 0)))) (kAE (kEH hgu (u70 hr)) (kGz rfl) rfl c.x_repr (by decide +kernel) (kAb (kAc rfl (L2.pv 3)) (kAd (z := 0))))))))
theorem kHb : FnScope ["_law_deal_here", "_law_names_here", "_law_name"] ["_law_deal_here", "_law_names_here"] (defScope kCQ) := by trivial
theorem kHf (c : Fct P W.K mg) (ho : ObOk W Tb) (tb : Tbs base c) : FnG P w W.K mg base 2 c.aAl c.dAl ["_law_deal_here", "_law_names_here"] (spD W 2 0 2 FAl) := by
 have xo := ho.xd
 refine kAD (N := ["_law_deal_here", "_law_names_here", "_law_name"]) (m := kKd) (O' := [2, 0, 0]) c.FAl kHb (by decide) (fun cdv hcd A hg0 outer s H E hr => ?_) (by decide) rfl (.inl rfl)
 have hgu := kAg (env := envOfC "_law_lot" (defScope kCQ) s.heap.objs.size c.aAl cdv) hg0
 exact (kAk (kAB (kDb call_tuple_of (kIR rfl) rfl c.x_tuple boot_tuple (kAb (DO.de (kLe (kLi (u70 hr)) (kHo rfl) rfl c.x_sorted (by decide +kernel) (kAb (DO.de (kFc rfl kHb.nd (own := [("_law_name", 2)]) (b := false) (kBu (kAc rfl (L2.pv 1))) (by trivial) (fun s H C cl fp => (kAt (pg_name (i := 2) kHb.nd rfl (by trivial)))) (fun s H C cl fp => (DT.weak (p' := false) (kAJ (op_eqD (u64 hr)) (kEX rfl) (DO.de (kBv (kAI c ho tb) hr (by decide) hgu rfl c.gA1 c.FA1.kp c.bA1 DL.takes0 (L2.pv 0) (kAb (kAe pe_int) (kAd (z := 2))))) (kAe pe_int)))) (fun s H C cl fp => (DE.weak (z' := 2) (p' := false) (kAc rfl (L2.pv 2)) (by decide))) (by decide))) (kAd (z := 1))))) (kAd (z := 1))))))
theorem kFS : FnScope ["_law_deal_here", "_law_names_here", "_law_first", "_law_last", "_law_at"] ["_law_deal_here", "_law_names_here", "_law_first", "_law_last"] (defScope kCp) := by trivial
theorem kIA (c : Fct P W.K mg) (ho : ObOk W Tb) (tb : Tbs base c) : FnG P w W.K mg base 3 c.aAo c.dAo ["_law_deal_here", "_law_names_here", "_law_first", "_law_last"] (spD W 2 1 4 FAo) := by
 have xo := ho.xd
 refine kAD (N := ["_law_deal_here", "_law_names_here", "_law_first", "_law_last", "_law_at"]) (m := kJm) (O' := [2, 0, 0, 0, 0]) c.FAo kFS (by decide) (fun cdv hcd A hg0 outer s H E hr => ?_) (by decide) rfl (.inr (fun env e => kNU env e))
 have hgu := kAg (env := envOfC "_law_plan" (defScope kCp) s.heap.objs.size c.aAo cdv) hg0
 exact (kAk (kLd (kBs kAL (kAK rfl) (by exact (DO.de (kBs kAL (kAK rfl) (by exact (DO.de (kBt (kAb (kAc rfl (L2.pv 2)) (kAd (z := 2)))))) (by exact (DO.de (kEC rfl kFS.nd (own := [("_law_at", 4)]) (b := false) (kGt rfl c.x_range (kAb (DO.de (kBv (kAI c ho tb) hr (by decide) hgu rfl c.gA1 c.FA1.kp c.bA1 (by trivial) (L2.pv 0) (kAb (kAe pe_int) (kAd (z := 2))))) (kAd (z := 0)))) (by trivial) (fun s H C cl fp => (kAt (pg_name (i := 4) kFS.nd rfl (by trivial)))) (fun s H C cl fp => (DE.weak (z' := 2) (p' := false) (DO.de (kBv (kHf c ho tb) hr (by decide) hgu rfl c.gAl c.FAl.kp c.bAl DL.takes0 (L2.pv 0) (kAb (kAc rfl (L2.pv 1)) (kAd (z := 2))))) (by decide))) (by decide))))))) (by exact (DO.de (kBt (kAb (kAc rfl (L2.pv 3)) (kAd (z := 2)))))))))
theorem kBf : FnScope ["_law_lists_here", "_law_fee", "_law_one", "_law_other", "_law_started", "_law_cost_here", "_law_name"] ["_law_lists_here", "_law_fee", "_law_one", "_law_other"] (defScope kCv) := by trivial
theorem kLM (c : Fct P W.K mg) (ho : ObOk W Tb) (tb : Tbs base c) : FnG P w W.K mg base 2 c.aAt c.dAt ["_law_lists_here", "_law_fee", "_law_one", "_law_other"] (spD W 0 0 4 FAt) := by
 have xo := ho.xd
 refine kAD (N := ["_law_lists_here", "_law_fee", "_law_one", "_law_other", "_law_started", "_law_cost_here", "_law_name"]) (m := kHj) (O' := [0, 0, 0, 0, 0, 0, 0]) c.FAt kBf (by decide) (fun cdv hcd A hg0 outer s H E hr => ?_) (by decide) rfl (.inl rfl)
 have hgu := kAg (env := envOfC "_law_cost" (defScope kCv) s.heap.objs.size c.aAt cdv) hg0
 exact (kAf (kDn (kAJ (op_eqD (u64 hr)) (kEX rfl) (kAc rfl (L2.pv 2)) (kAc rfl (L2.pv 3))) (kAk (kAB (kAe pe_int))) kBo)
 (kAf (kVe rfl kBf.nd rfl rfl (sw_true rfl rfl rfl rfl) (own := [("_law_name", 6)]) (b := true) (kBu (kAc rfl (L2.pv 3))) (by trivial) (fun s H C cl fp => (kAt (pg_name (i := 6) kBf.nd rfl (by trivial)))) (fun s H C cl fp => (DT.weak (p' := true) (kAJ (kFt (u65 hr)) (kIL rfl) (kAc rfl (L2.pv 6)) (kAc rfl (L2.pv 2))))) (fun s H C cl fp => (DE.weak (z' := 2) (p' := true) (kAc rfl (L2.pv 6)) (by decide))) (by decide))
 (DSs.thin (O1 := [0, 0, 0, 0, 0, 0, 0]) (kAf (kBX (DO.de (kBs kAL (kAK rfl) (by exact (kAc rfl (L2.pv 1))) (by exact (kAE (cr_sum rfl) (kHU rfl) rfl c.x_sum boot_sum (kAb (DO.de (kEC rfl kBf.nd (own := [("_law_name", 6)]) (b := true) (kBu (kAc rfl (L2.pv 4))) (by trivial) (fun s H C cl fp => (kAt (pg_name (i := 6) kBf.nd rfl (by trivial)))) (fun s H C cl fp => (DE.weak (z' := 2) (p' := true) (DO.de (kBx (kAM c ho tb) hr (by decide) hgu rfl c.gA0 c.FA0.kp c.bA0 DL.takes0 (kAb (kBb kBa (kAZ rfl) (kAc rfl (L2.pv 0)) (kAe pe_int)) (kAb (kAc rfl (L2.pv 6)) (kAd (z := 2)))))) (by decide))) (by decide))) (kAd (z := 0))))))) (fun _ pe => ps_set kBf.nd rfl (by trivial) pe))
 (kAf (kBX (DO.de (kBs kAL (kAK rfl) (by exact (kAc rfl (L2.pv 5))) (by exact (kAE (cr_sum rfl) (kHU rfl) rfl c.x_sum boot_sum (kAb (DO.de (kFc rfl kBf.nd (own := [("_law_name", 6)]) (b := true) (kBu (kAc rfl (L2.pv 2))) (by trivial) (fun s H C cl fp => (kAt (pg_name (i := 6) kBf.nd rfl (by trivial)))) (fun s H C cl fp => (DT.weak (p' := true) (kAJ (kFt (u65 hr)) (kIL rfl) (kAc rfl (L2.pv 6)) (kAc rfl (L2.pv 3))))) (fun s H C cl fp => (DE.weak (z' := 2) (p' := true) (DO.de (kBx (kAM c ho tb) hr (by decide) hgu rfl c.gA0 c.FA0.kp c.bA0 DL.takes0 (kAb (kBb kBa (kAZ rfl) (kAc rfl (L2.pv 0)) (kAe pe_int)) (kAb (kAc rfl (L2.pv 6)) (kAd (z := 2)))))) (by decide))) (by decide))) (kAd (z := 0))))))) (fun _ pe => ps_set kBf.nd rfl (by trivial) pe))
 (kAk (kAB (DO.de (kBs kAL (kAK rfl) (by exact (kAc rfl (L2.pv 5))) (by exact (kAE (cr_max rfl) (kQD rfl) rfl c.x_max boot_max (kAb (DO.de (kBs kAL (kAK rfl) (by exact (DO.de (kBt (kAb (kAe pe_int) (kAd (z := 2)))))) (by exact (DO.de (kEC rfl kBf.nd (own := [("_law_name", 6)]) (b := true) (kBu (kAc rfl (L2.pv 4))) (by trivial) (fun s H C cl fp => (kAt (pg_name (i := 6) kBf.nd rfl (by trivial)))) (fun s H C cl fp => (DE.weak (z' := 2) (p' := true) (DO.de (kBx (kAM c ho tb) hr (by decide) hgu rfl c.gA0 c.FA0.kp c.bA0 DL.takes0 (kAb (kBb kBa (kAZ rfl) (kAc rfl (L2.pv 0)) (kAe pe_int)) (kAb (kAc rfl (L2.pv 6)) (kAd (z := 2)))))) (by decide))) (by decide)))))) (kAd (z := 0))))))))))))))
theorem kFh : FnScope ["_law_lists_here", "_law_fee", "_law_plan_here", "_law_at"] ["_law_lists_here", "_law_fee", "_law_plan_here"] (defScope kBV) := by trivial
theorem kKR (c : Fct P W.K mg) (ho : ObOk W Tb) (tb : Tbs base c) : FnG P w W.K mg base 3 c.aAs c.dAs ["_law_lists_here", "_law_fee", "_law_plan_here"] (spD W 0 0 3 FAs) := by
 have xo := ho.xd
 refine kAD (N := ["_law_lists_here", "_law_fee", "_law_plan_here", "_law_at"]) (m := kID) (O' := [0, 0, 0, 0]) c.FAs kFh (by decide) (fun cdv hcd A hg0 outer s H E hr => ?_) (by decide) rfl (.inl rfl)
 have hgu := kAg (env := envOfC "_law_costs" (defScope kBV) s.heap.objs.size c.aAs cdv) hg0
 exact (kAk (kAB (kAE (cr_sum rfl) (kHU rfl) rfl c.x_sum boot_sum (kAb (DO.de (kEC rfl kFh.nd (own := [("_law_at", 3)]) (b := true) (kGt rfl c.x_range (kAb (kCj op_sub kFI (kAE call_len (kMv rfl) rfl c.x_len boot_len (kAb (kAc rfl (L2.pv 2)) (kAd (z := 0)))) (kAe pe_int)) (kAd (z := 0)))) (by trivial) (fun s H C cl fp => (kAt (pg_name (i := 3) kFh.nd rfl (by trivial)))) (fun s H C cl fp => (DE.weak (z' := 2) (p' := true) (DO.de (kBx (kLM c ho tb) hr (by decide) hgu rfl c.gAt c.FAt.kp c.bAt DL.takes0 (kAb (kAc rfl (L2.pv 0)) (kAb (kAc rfl (L2.pv 1)) (kAb (kBb kBa (kAZ rfl) (kAc rfl (L2.pv 2)) (kAc rfl (L2.pv 3))) (kAb (kBb kBa (kAZ rfl) (kAc rfl (L2.pv 2)) (DO.de (kBs kAL (kAK rfl) (kAc rfl (L2.pv 3)) (kAe pe_int)))) (kAd (z := 2)))))))) (by decide))) (by decide))) (kAd (z := 0))))))
theorem kMJ : FnScope ["one", "other", "name"] ["one", "other"] (defScope kIv) := by trivial
theorem kPB (c : Fct P W.K mg) (ho : ObOk W Tb) (tb : Tbs base c) : FnG P w W.K mg base 1 c.aAw c.dAw ["one", "other"] (spD W 0 0 2 FAw) := by
 have xo := ho.xd
 refine kAD (N := ["one", "other", "name"]) (m := kPJ) (O' := [0, 0, 0]) c.FAw kMJ (by decide) (fun cdv hcd A hg0 outer s H E hr => ?_) (by decide) rfl (.inl rfl)
 have hgu := kAg (env := envOfC "less" (defScope kIv) s.heap.objs.size c.aAw cdv) hg0
 exact (kAk (kAB (kDb call_tuple_of (kIR rfl) rfl c.x_tuple boot_tuple (kAb (DO.de (kFc rfl kMJ.nd (own := [("name", 2)]) (b := true) (kBu (kAc rfl (L2.pv 0))) (by trivial) (fun s H C cl fp => (kAt (pg_name (i := 2) kMJ.nd rfl (by trivial)))) (fun s H C cl fp => (DT.weak (p' := true) (kAJ (kFt (u65 hr)) (kIL rfl) (kAc rfl (L2.pv 2)) (kAc rfl (L2.pv 1))))) (fun s H C cl fp => (DE.weak (z' := 2) (p' := true) (kAc rfl (L2.pv 2)) (by decide))) (by decide))) (kAd (z := 1))))))
theorem kIc : FnScope ["self", "name"] ["self", "name"] (defScope kAW) := by trivial
theorem kIf (c : Fct P W.K mg) (ho : ObOk W Tb) (tb : Tbs base c) : FnG P w W.K mg base 2 c.aAd c.dAd ["self", "name"] (spD W 0 0 2 FAd) := by
 have xo := ho.xd
 refine kAD (N := ["self", "name"]) (m := kFK) (O' := [0, 0]) c.FAd kIc (by decide) (fun cdv hcd A hg0 outer s H E hr => ?_) (by decide) rfl (.inl rfl)
 have hgu := kAg (env := envOfC "Prices.wait_of" (defScope kAW) s.heap.objs.size c.aAd cdv) hg0
 exact (kAk (kAB (DO.de (kBx (kDy c ho tb) hr (by decide) hgu rfl c.gAb c.FAb.kp c.bAb (by trivial) (kAb (kCk ho (kGG c) (kAc rfl (L2.pv 0))) (kAb (kAc rfl (L2.pv 1)) (kAd (z := 2))))))))
theorem kAu : FnScope ["self", "one", "other", "started", "cost", "name"] ["self", "one", "other"] (defScope kAH) := by trivial
theorem kEi (c : Fct P W.K mg) (ho : ObOk W Tb) (tb : Tbs base c) : FnG P w W.K mg base 3 c.aA7 c.dA7 ["self", "one", "other"] (spD W 0 0 3 FA7) := by
 have xo := ho.xd
 refine kAD (N := ["self", "one", "other", "started", "cost", "name"]) (m := kCZ) (O' := [0, 0, 0, 0, 0, 0]) c.FA7 kAu (by decide) (fun cdv hcd A hg0 outer s H E hr => ?_) (by decide) rfl (.inl rfl)
 have hgu := kAg (env := envOfC "Prices.of_change" (defScope kAH) s.heap.objs.size c.aA7 cdv) hg0
 exact (kAf (kDn (kAJ (op_eqD (u64 hr)) (kEX rfl) (kAc rfl (L2.pv 1)) (kAc rfl (L2.pv 2))) (kAk (kAB (kAe pe_int))) kBo)
 (kAf (kBX (DO.de (kBx (kPB c ho tb) hr (by decide) hgu rfl c.gAw c.FAw.kp c.bAw (by trivial) (kAb (kAc rfl (L2.pv 2)) (kAb (kAc rfl (L2.pv 1)) (kAd (z := 2)))))) (fun _ pe => ps_set kAu.nd rfl (by trivial) pe))
 (kAf (kBX (DO.de (kBs kAL (kAK rfl) (by exact (kCk ho (kKh c) (kAc rfl (L2.pv 0)))) (by exact (kAE (cr_sum rfl) (kHU rfl) rfl c.x_sum boot_sum (kAb (DO.de (kEC rfl kAu.nd (own := [("name", 5)]) (b := true) (kBu (kAc rfl (L2.pv 3))) (by trivial) (fun s H C cl fp => (kAt (pg_name (i := 5) kAu.nd rfl (by trivial)))) (fun s H C cl fp => (DE.weak (z' := 2) (p' := true) (DO.de (kCi ho (kCy c) c.FA5.kp (kCx c ho tb) hr (by decide) hgu c.bA5 DL.takes0 (kAc rfl (L2.pv 0)) (kAb (kAc rfl (L2.pv 5)) (kAd (z := 2))))) (by decide))) (by decide))) (kAd (z := 0))))))) (fun _ pe => ps_set kAu.nd rfl (by trivial) pe))
 (kAf (kVf (kAE (cr_sum rfl) (kHU rfl) rfl c.x_sum boot_sum (kAb (DO.de (kEC rfl kAu.nd (own := [("name", 5)]) (b := true) (kBu (DO.de (kBx (kPB c ho tb) hr (by decide) hgu rfl c.gAw c.FAw.kp c.bAw (by trivial) (kAb (kAc rfl (L2.pv 1)) (kAb (kAc rfl (L2.pv 2)) (kAd (z := 2))))))) (by trivial) (fun s H C cl fp => (kAt (pg_name (i := 5) kAu.nd rfl (by trivial)))) (fun s H C cl fp => (DE.weak (z' := 2) (p' := true) (DO.de (kCi ho (kCI c) c.FA6.kp (kCH c ho tb) hr (by decide) hgu c.bA6 DL.takes0 (kAc rfl (L2.pv 0)) (kAb (kAc rfl (L2.pv 5)) (kAd (z := 2))))) (by decide))) (by decide))) (kAd (z := 0)))) kVq (fun _ pe => ps_aug kAu.nd rfl (by trivial) pe kTD))
 (kAk (kAB (DO.de (kBs kAL (kAK rfl) (by exact (kAc rfl (L2.pv 4))) (by exact (kAE (cr_max rfl) (kQD rfl) rfl c.x_max boot_max (kAb (DO.de (kBs kAL (kAK rfl) (by exact (DO.de (kBt (kAb (kAe pe_int) (kAd (z := 2)))))) (by exact (DO.de (kEC rfl kAu.nd (own := [("name", 5)]) (b := true) (kBu (kAc rfl (L2.pv 3))) (by trivial) (fun s H C cl fp => (kAt (pg_name (i := 5) kAu.nd rfl (by trivial)))) (fun s H C cl fp => (DE.weak (z' := 2) (p' := true) (DO.de (kCi ho (kIh c) c.FAd.kp (kIf c ho tb) hr (by decide) hgu c.bAd DL.takes0 (kAc rfl (L2.pv 0)) (kAb (kAc rfl (L2.pv 5)) (kAd (z := 2))))) (by decide))) (by decide)))))) (kAd (z := 0)))))))))))))
theorem kCC : FnScope ["self", "plan", "one", "other"] ["self", "plan"] (defScope kAY) := by trivial
theorem kAR (c : Fct P W.K mg) (ho : ObOk W Tb) (tb : Tbs base c) : FnG P w W.K mg base 4 c.aA3 c.dA3 ["self", "plan"] (spD W 0 0 2 FA3) := by
 have xo := ho.xd
 refine kAD (N := ["self", "plan", "one", "other"]) (m := kFL) (O' := [0, 0, 0, 0]) c.FA3 kCC (by decide) (fun cdv hcd A hg0 outer s H E hr => ?_) (by decide) rfl (.inl rfl)
 have hgu := kAg (env := envOfC "Prices.of_plan" (defScope kAY) s.heap.objs.size c.aA3 cdv) hg0
 exact (kAk (kAB (kAE (cr_sum rfl) (kHU rfl) rfl c.x_sum boot_sum (kAb (DO.de (kEC rfl kCC.nd (own := [("one", 2), ("other", 3)]) (b := true) (kSE rfl c.x_zip (kAb (kAc rfl (L2.pv 1)) (kAb (DO.de (kOp (kAc rfl (L2.pv 1)) (kNi (kAe pe_int)) kTN)) (kAd (z := 2))))) (by trivial) (fun s H C cl fp => (kMm (n := 2) rfl rfl (kDs (kAt (pg_name (i := 2) kCC.nd rfl (by trivial))) (kDs (kAt (pg_name (i := 3) kCC.nd rfl (by trivial))) kJA pgs_cons) pgs_cons))) (fun s H C cl fp => (DE.weak (z' := 2) (p' := true) (DO.de (kCi ho (kEj c) c.FA7.kp (kEi c ho tb) hr (by decide) hgu c.bA7 DL.takes0 (kAc rfl (L2.pv 0)) (kAb (kAc rfl (L2.pv 2)) (kAb (kAc rfl (L2.pv 3)) (kAd (z := 2)))))) (by decide))) (by decide))) (kAd (z := 0))))))
theorem kLE : FnScope ["_law_deal_here", "_law_some"] ["_law_deal_here", "_law_some"] (defScope kCq) := by trivial
theorem kIB (c : Fct P W.K mg) (ho : ObOk W Tb) (tb : Tbs base c) : FnG P w W.K mg base 2 c.aAn c.dAn ["_law_deal_here", "_law_some"] (spD W 2 0 2 FAn) := by
 have xo := ho.xd
 refine kAD (N := ["_law_deal_here", "_law_some"]) (m := kHi) (O' := [2, 0]) c.FAn kLE (by decide) (fun cdv hcd A hg0 outer s H E hr => ?_) (by decide) rfl (.inl rfl)
 have hgu := kAg (env := envOfC "_law_pick" (defScope kCq) s.heap.objs.size c.aAn cdv) hg0
 exact (kAk (kAB (kBb kBa (kAZ rfl) (kAc rfl (L2.pv 1)) (DO.de (kBv (kAI c ho tb) hr (by decide) hgu rfl c.gA1 c.FA1.kp c.bA1 (by trivial) (L2.pv 0) (kAb (kAE call_len (kMv rfl) rfl c.x_len boot_len (kAb (kAc rfl (L2.pv 1)) (kAd (z := 0)))) (kAd (z := 2))))))))
theorem kBc : FnScope ["self", "name", "by", "starts", "stops", "pair"] ["self", "name", "by"] (defScope kAX) := by trivial
theorem kIg (c : Fct P W.K mg) (ho : ObOk W Tb) (tb : Tbs base c) : FnG P w W.K mg base 6 c.aAf c.dAf ["self", "name", "by"] (spD W 0 0 3 FAf) := by
 have xo := ho.xd
 refine kAD (N := ["self", "name", "by", "starts", "stops", "pair"]) (m := kDN) (O' := [0, 0, 0, 0, 0, 0]) c.FAf kBc (by decide) (fun cdv hcd A hg0 outer s H E hr => ?_) (by decide) rfl (.inl rfl)
 have hgu := kAg (env := envOfC "Prices.shifted" (defScope kAX) s.heap.objs.size c.aAf cdv) hg0
 exact (kAf (kBX (DO.de (kBs kAL (kAK rfl) (by exact (DO.de (kFc rfl kBc.nd (own := [("pair", 5)]) (b := true) (kBu (kCk ho (kFb c) (kAc rfl (L2.pv 0)))) (by trivial) (fun s H C cl fp => (kAt (pg_name (i := 5) kBc.nd rfl (by trivial)))) (fun s H C cl fp => (DT.weak (p' := true) (kAJ (op_neD (u64 hr)) (kHd rfl) (kBb kBa (kAZ rfl) (kAc rfl (L2.pv 5)) (kAe pe_int)) (kAc rfl (L2.pv 1))))) (fun s H C cl fp => (DE.weak (z' := 2) (p' := true) (kAc rfl (L2.pv 5)) (by decide))) (by decide)))) (by exact (DO.de (kBt (kAb (kEo (kAb (kAc rfl (L2.pv 1)) (kAb (DO.de (kBs kAL (kAK rfl) (DO.de (kCi ho (kCy c) c.FA5.kp (kCx c ho tb) hr (by decide) hgu c.bA5 (by trivial) (kAc rfl (L2.pv 0)) (kAb (kAc rfl (L2.pv 1)) (kAd (z := 2))))) (kAc rfl (L2.pv 2)))) (kAd (z := 2))))) (kAd (z := 2)))))))) (fun _ pe => ps_set kBc.nd rfl (by trivial) pe))
 (kAf (kBX (DO.de (kBs kAL (kAK rfl) (by exact (DO.de (kFc rfl kBc.nd (own := [("pair", 5)]) (b := true) (kBu (kCk ho (kGH c) (kAc rfl (L2.pv 0)))) (by trivial) (fun s H C cl fp => (kAt (pg_name (i := 5) kBc.nd rfl (by trivial)))) (fun s H C cl fp => (DT.weak (p' := true) (kAJ (op_neD (u64 hr)) (kHd rfl) (kBb kBa (kAZ rfl) (kAc rfl (L2.pv 5)) (kAe pe_int)) (kAc rfl (L2.pv 1))))) (fun s H C cl fp => (DE.weak (z' := 2) (p' := true) (kAc rfl (L2.pv 5)) (by decide))) (by decide)))) (by exact (DO.de (kBt (kAb (kEo (kAb (kAc rfl (L2.pv 1)) (kAb (kCj op_sub kFI (DO.de (kCi ho (kCI c) c.FA6.kp (kCH c ho tb) hr (by decide) hgu c.bA6 (by trivial) (kAc rfl (L2.pv 0)) (kAb (kAc rfl (L2.pv 1)) (kAd (z := 2))))) (kAc rfl (L2.pv 2))) (kAd (z := 2))))) (kAd (z := 2)))))))) (fun _ pe => ps_set kBc.nd rfl (by trivial) pe))
 (kAk (kAB (kJC (T := Tb) (n := 1) (pm := [0, 1, 2, 3]) (dd := []) ho rfl (by decide) kGi kGd c.mk_Prices (kBD c ho tb) hr (by decide) hgu rfl c.gc_Prices c.q_Prices___init___0 (by trivial) (fun _ _ => kER) (kGX (kAc rfl (L2.pv 3)) (kGX (kAc rfl (L2.pv 4)) (kQq (kIk (kCk ho (kKh c) (kAc rfl (L2.pv 0))) (kIk (kCk ho (kGG c) (kAc rfl (L2.pv 0))) kLZ))))))))))
theorem kBY : FnScope ["_law_lists_here", "_law_name", "_law_by", "_law_starts", "_law_stops", "_law_pair"] ["_law_lists_here", "_law_name", "_law_by"] (defScope kBS) := by trivial
theorem kHE (c : Fct P W.K mg) (ho : ObOk W Tb) (tb : Tbs base c) : FnG P w W.K mg base 2 c.aAj c.dAj ["_law_lists_here", "_law_name", "_law_by"] (spD W 0 1 3 FAj) := by
 have xo := ho.xd
 refine kAD (N := ["_law_lists_here", "_law_name", "_law_by", "_law_starts", "_law_stops", "_law_pair"]) (m := kGn) (O' := [0, 0, 0, 0, 0, 0]) c.FAj kBY (by decide) (fun cdv hcd A hg0 outer s H E hr => ?_) (by decide) rfl (.inr (fun env e => (kHG (kHG kNU)) env e))
 have hgu := kAg (env := envOfC "_law_moved" (defScope kBS) s.heap.objs.size c.aAj cdv) hg0
 exact (kAf (kBX (DO.de (kBs kAL (kAK rfl) (by exact (DO.de (kFc rfl kBY.nd (own := [("_law_pair", 5)]) (b := true) (kBu (kBb kBa (kAZ rfl) (kAc rfl (L2.pv 0)) (kAe pe_int))) (by trivial) (fun s H C cl fp => (kAt (pg_name (i := 5) kBY.nd rfl (by trivial)))) (fun s H C cl fp => (DT.weak (p' := true) (kAJ (op_neD (u64 hr)) (kHd rfl) (kBb kBa (kAZ rfl) (kAc rfl (L2.pv 5)) (kAe pe_int)) (kAc rfl (L2.pv 1))))) (fun s H C cl fp => (DE.weak (z' := 2) (p' := true) (kAc rfl (L2.pv 5)) (by decide))) (by decide)))) (by exact (DO.de (kBt (kAb (kEo (kAb (kAc rfl (L2.pv 1)) (kAb (DO.de (kBs kAL (kAK rfl) (DO.de (kBx (kAM c ho tb) hr (by decide) hgu rfl c.gA0 c.FA0.kp c.bA0 (by trivial) (kAb (kBb kBa (kAZ rfl) (kAc rfl (L2.pv 0)) (kAe pe_int)) (kAb (kAc rfl (L2.pv 1)) (kAd (z := 2)))))) (kAc rfl (L2.pv 2)))) (kAd (z := 2))))) (kAd (z := 2)))))))) (fun _ pe => ps_set kBY.nd rfl (by trivial) pe))
 (kAf (kBX (DO.de (kBs kAL (kAK rfl) (by exact (DO.de (kFc rfl kBY.nd (own := [("_law_pair", 5)]) (b := true) (kBu (kBb kBa (kAZ rfl) (kAc rfl (L2.pv 0)) (kAe pe_int))) (by trivial) (fun s H C cl fp => (kAt (pg_name (i := 5) kBY.nd rfl (by trivial)))) (fun s H C cl fp => (DT.weak (p' := true) (kAJ (op_neD (u64 hr)) (kHd rfl) (kBb kBa (kAZ rfl) (kAc rfl (L2.pv 5)) (kAe pe_int)) (kAc rfl (L2.pv 1))))) (fun s H C cl fp => (DE.weak (z' := 2) (p' := true) (kAc rfl (L2.pv 5)) (by decide))) (by decide)))) (by exact (DO.de (kBt (kAb (kEo (kAb (kAc rfl (L2.pv 1)) (kAb (kCj op_sub kFI (DO.de (kBx (kAM c ho tb) hr (by decide) hgu rfl c.gA0 c.FA0.kp c.bA0 (by trivial) (kAb (kBb kBa (kAZ rfl) (kAc rfl (L2.pv 0)) (kAe pe_int)) (kAb (kAc rfl (L2.pv 1)) (kAd (z := 2)))))) (kAc rfl (L2.pv 2))) (kAd (z := 2))))) (kAd (z := 2)))))))) (fun _ pe => ps_set kBY.nd rfl (by trivial) pe))
 (kAk (kLd (kBt (kAb (kAc rfl (L2.pv 3)) (kAb (kAc rfl (L2.pv 4)) (kAb (kBb kBa (kAZ rfl) (kAc rfl (L2.pv 0)) (kAe pe_int)) (kAd (z := 2))))))))))
theorem kIG : FnScope ["self", "other"] ["self", "other"] (defScope kBg) := by trivial
theorem kDL (c : Fct P W.K mg) (ho : ObOk W Tb) (tb : Tbs base c) : FnG P w W.K mg base 1 c.aA9 c.dA9 ["self", "other"] (spD W 0 0 2 FA9) := by
 have xo := ho.xd
 refine kAD (N := ["self", "other"]) (m := kGq) (O' := [0, 0]) c.FA9 kIG (by decide) (fun cdv hcd A hg0 outer s H E hr => ?_) (by decide) rfl (.inl rfl)
 have hgu := kAg (env := envOfC "Prices.__eq__" (defScope kBg) s.heap.objs.size c.aA9 cdv) hg0
 exact (kAk (kAB (kHn (kVg ho (n := 1) rfl c.ic_Prices (kAc rfl (L2.pv 1)) c.gc_Prices c.x_isinstance) (kHn (kGv (op_eqD (u64 hr)) (kEX rfl) (kCk ho (kFb c) (kAc rfl (L2.pv 0))) (kCk ho (kFb c) (kAc rfl (L2.pv 1)))) (kHn (kGv (op_eqD (u64 hr)) (kEX rfl) (kCk ho (kGH c) (kAc rfl (L2.pv 0))) (kCk ho (kGH c) (kAc rfl (L2.pv 1)))) (kHn (kGv (op_eqD (u64 hr)) (kEX rfl) (kCk ho (kKh c) (kAc rfl (L2.pv 0))) (kCk ho (kKh c) (kAc rfl (L2.pv 1)))) (kOr (kGv (op_eqD (u64 hr)) (kEX rfl) (kCk ho (kGG c) (kAc rfl (L2.pv 0))) (kCk ho (kGG c) (kAc rfl (L2.pv 1)))))))))))
theorem kBF : FnScope ["_law_one", "_law_other", "_law_names_here", "_law_sums_here", "_law_plans", "_law_gaps", "_law_name", "_law_way", "_law_plan_here"] ["_law_one", "_law_other", "_law_names_here", "_law_sums_here", "_law_plans"] (defScope kBC) := by trivial
theorem kJQ (c : Fct P W.K mg) (ho : ObOk W Tb) (tb : Tbs base c) : FnG P w W.K mg base 7 c.aAq c.dAq ["_law_one", "_law_other", "_law_names_here", "_law_sums_here", "_law_plans"] (spD W 0 0 5 FAq) := by
 have xo := ho.xd
 refine kAD (N := ["_law_one", "_law_other", "_law_names_here", "_law_sums_here", "_law_plans", "_law_gaps", "_law_name", "_law_way", "_law_plan_here"]) (m := kFy) (O' := [0, 0, 0, 0, 0, 0, 0, 0, 0]) c.FAq kBF (by decide) (fun cdv hcd A hg0 outer s H E hr => ?_) (by decide) rfl (.inl rfl)
 have hgu := kAg (env := envOfC "_law_differ" (defScope kBC) s.heap.objs.size c.aAq cdv) hg0
 exact (kAf (kDn (kAJ (op_eqD (u64 hr)) (kEX rfl) (kBb kBa (kAZ rfl) (kAc rfl (L2.pv 3)) (kAe pe_int)) (kBb kBa (kAZ rfl) (kAc rfl (L2.pv 3)) (kAe pe_int))) (kAf (kOo rfl kBF.nd rfl rfl (sw_true rfl rfl rfl rfl) (own := [("_law_plan_here", 8)]) (b := true) (kBu (kAc rfl (L2.pv 4))) (by trivial) (fun s H C cl fp => (kAt (pg_name (i := 8) kBF.nd rfl (by trivial)))) (fun s H C cl fp => (DE.weak (z' := 2) (p' := true) (kCj op_sub kFI (DO.de (kCi ho (kAT c) c.FA3.kp (kAR c ho tb) hr (by decide) hgu c.bA3 DL.takes0 (kAc rfl (L2.pv 0)) (kAb (kAc rfl (L2.pv 8)) (kAd (z := 2))))) (DO.de (kCi ho (kAT c) c.FA3.kp (kAR c ho tb) hr (by decide) hgu c.bA3 DL.takes0 (kAc rfl (L2.pv 1)) (kAb (kAc rfl (L2.pv 8)) (kAd (z := 2)))))) (by decide))) (by decide))
 (DSs.thin (O1 := [0, 0, 0, 0, 0, 0, 0, 0, 0]) (kAk (kAB (kHn (kGv (op_eqD (u64 hr)) (kEX rfl) (kBb kBa (kAZ rfl) (kAc rfl (L2.pv 5)) (kAe pe_int)) (kBb kBa (kAZ rfl) (kAc rfl (L2.pv 5)) (kAe pe_int))) (kOr (kGv op_isBl kSp (kQv ho (kDM c) (kDL c ho tb) hr (by decide) hgu c.bA9 (DO.de (kGI ho (kAS c) c.FA2.kp (kAQ c ho tb) hr (by decide) hgu c.bA2 (by trivial) (kAc rfl (L2.pv 0)))) (DO.de (kGI ho (kAS c) c.FA2.kp (kAQ c ho tb) hr (by decide) hgu c.bA2 (by trivial) (kAc rfl (L2.pv 1))))) (kAe pe_bl)))))))) kBo)
 (kAf (kBX (kBb kBa (kAZ rfl) (DO.de (kFc rfl kBF.nd (own := [("_law_name", 6)]) (b := true) (kBu (kAc rfl (L2.pv 2))) (by trivial) (fun s H C cl fp => (kAt (pg_name (i := 6) kBF.nd rfl (by trivial)))) (fun s H C cl fp => (DT.weak (p' := true) (kAJ (op_neD (u64 hr)) (kHd rfl) (DO.de (kBx (kAM c ho tb) hr (by decide) hgu rfl c.gA0 c.FA0.kp c.bA0 DL.takes0 (kAb (kBb kBa (kAZ rfl) (kAc rfl (L2.pv 3)) (kAe pe_int)) (kAb (kAc rfl (L2.pv 6)) (kAd (z := 2)))))) (DO.de (kBx (kAM c ho tb) hr (by decide) hgu rfl c.gA0 c.FA0.kp c.bA0 DL.takes0 (kAb (kBb kBa (kAZ rfl) (kAc rfl (L2.pv 3)) (kAe pe_int)) (kAb (kAc rfl (L2.pv 6)) (kAd (z := 2))))))))) (fun s H C cl fp => (DE.weak (z' := 2) (p' := true) (kAc rfl (L2.pv 6)) (by decide))) (by decide))) (kAe pe_int)) (fun _ pe => ps_set kBF.nd rfl (by trivial) pe))
 (kAf (kBX (DO.de (kBt (kAb (kEo (kAd (z := 2))) (kAb (kEo (kAb (kAc rfl (L2.pv 6)) (kAd (z := 2)))) (kAb (kEo (kAd (z := 2))) (kAd (z := 2))))))) (fun _ pe => ps_set kBF.nd rfl (by trivial) pe))
 (kAk (kAB (kHn (kGv (op_neD (u64 hr)) (kHd rfl) (DO.de (kCi ho (kAT c) c.FA3.kp (kAR c ho tb) hr (by decide) hgu c.bA3 (by trivial) (kAc rfl (L2.pv 0)) (kAb (kAc rfl (L2.pv 7)) (kAd (z := 2))))) (DO.de (kCi ho (kAT c) c.FA3.kp (kAR c ho tb) hr (by decide) hgu c.bA3 (by trivial) (kAc rfl (L2.pv 1)) (kAb (kAc rfl (L2.pv 7)) (kAd (z := 2)))))) (kOr (kGv op_isBl kSp (kQv ho (kDM c) (kDL c ho tb) hr (by decide) hgu c.bA9 (DO.de (kGI ho (kAS c) c.FA2.kp (kAQ c ho tb) hr (by decide) hgu c.bA2 (by trivial) (kAc rfl (L2.pv 0)))) (DO.de (kGI ho (kAS c) c.FA2.kp (kAQ c ho tb) hr (by decide) hgu c.bA2 (by trivial) (kAc rfl (L2.pv 1))))) (kAe pe_bl)))))))))
theorem kBN : FnScope ["_law_script", "_law_deal_here", "_law_names_here", "_law_lists_here", "_law_fee", "_law_made", "_law_trips", "_law_sums_here", "_law_first", "_law_last", "_law_plan_here", "_law_other", "_law_ends", "_law_due", "_law_name", "_law_by", "_law_shifted", "_law_gain", "_law_again", "_law_turn", "_law_pair", "_law_one", "_law_two"] ["_law_script"] (defScope kLF) := by trivial
theorem kUL (c : Fct P W.K mg) (ho : ObOk W Tb) (tb : Tbs base c) : FnG P w W.K mg base 8 c.a_law c.d_law ["_law_script"] (spD W 0 0 1 F_law) := by
 have xo := ho.xd
 refine kAD (N := ["_law_script", "_law_deal_here", "_law_names_here", "_law_lists_here", "_law_fee", "_law_made", "_law_trips", "_law_sums_here", "_law_first", "_law_last", "_law_plan_here", "_law_other", "_law_ends", "_law_due", "_law_name", "_law_by", "_law_shifted", "_law_gain", "_law_again", "_law_turn", "_law_pair", "_law_one", "_law_two"]) (m := kTv) (O' := [0, 0, 0, 0, 0, 0, 0, 0, 0, 0, 0, 0, 0, 0, 0, 0, 0, 0, 0, 0, 0, 0, 0]) c.F_law kBN (by decide) (fun cdv hcd A hg0 outer s H E hr => ?_) (by decide) rfl (.inl rfl)
 have hgu := kAg (env := envOfC "law" (defScope kLF) s.heap.objs.size c.a_law cdv) hg0
 exact (kAf (kQn (kBx (kLL c ho tb) hr (by decide) hgu rfl c.gAu c.FAu.kp c.bAu (by trivial) (kAb (kAc rfl (L2.pv 0)) (kAb (kAe pe_int) (kAd (z := 2))))) (fun _ pe => ps_set kBN.nd rfl (by trivial) pe))
 (kAf (kBX (DO.de (kBv (kKQ c ho tb) hr (by decide) hgu rfl c.gAr c.FAr.kp c.bAr (by trivial) (L2.pv 1) (kAd (z := 2)))) (fun _ pe => ps_set kBN.nd rfl (by trivial) pe))
 (kAf (kTL (is := [3, 4]) (kBh (kBv (kHF c ho tb) hr (by decide) hgu rfl c.gAk c.FAk.kp c.bAk (by trivial) (L2.pv 1) (kAb (kAc rfl (L2.pv 2)) (kAd (z := 2)))) (kBh (kBv (kBr c ho tb) hr (by decide) hgu rfl c.gA4 c.FA4.kp c.bA4 (by trivial) (L2.pv 1) (kAd (z := 2))) kFD)) (pgs_cons (pg_name (i := 3) kBN.nd rfl (by trivial)) (pgs_cons (pg_name (i := 4) kBN.nd rfl (by trivial)) pgs_nil)))
 (DSs.thin (O1 := [0, 2, 0, 0, 0, 0, 0, 0, 0, 0, 0, 0, 0, 0, 0, 0, 0, 0, 0, 0, 0, 0, 0]) (kAf (kBX (kJC (T := Tb) (n := 1) (pm := [0, 1, 2, 3]) (dd := []) ho rfl (by decide) kGi kGd c.mk_Prices (kBD c ho tb) hr (by decide) hgu rfl c.gc_Prices c.q_Prices___init___0 (by trivial) (fun _ _ => kER) (kGX (kBb kBa (kAZ rfl) (kAc rfl (L2.pv 3)) (kAe pe_int)) (kGX (kBb kBa (kAZ rfl) (kAc rfl (L2.pv 3)) (kAe pe_int)) (kQq (kIk (kAc rfl (L2.pv 4)) (kIk (kBb kBa (kAZ rfl) (kAc rfl (L2.pv 3)) (kAe pe_int)) kLZ)))))) (fun _ pe => ps_set kBN.nd rfl (by trivial) pe))
 (kAf (kBX (DO.de (kGI ho (kAS c) c.FA2.kp (kAQ c ho tb) hr (by decide) hgu c.bA2 (by trivial) (kAc rfl (L2.pv 5)))) (fun _ pe => ps_set kBN.nd rfl (by trivial) pe))
 (kAf (kBX (DO.de (kBt (kAb (DO.de (kBx (kIz c ho tb) hr (by decide) hgu rfl c.gAp c.FAp.kp c.bAp (by trivial) (kAb (kAc rfl (L2.pv 2)) (kAb (kAc rfl (L2.pv 3)) (kAd (z := 2)))))) (kAb (kEo (kAd (z := 2))) (kAb (kBb kBa (kAZ rfl) (kAc rfl (L2.pv 3)) (kAe pe_int)) (kAd (z := 2))))))) (fun _ pe => ps_set kBN.nd rfl (by trivial) pe))
 (kAf (kDn (dt_w (kJx (kEB (kEA (DO.de (kBx (kDT c ho tb) hr (by decide) hgu rfl c.gAc c.FAc.kp c.bAc (by trivial) (kAb (kAc rfl (L2.pv 6)) (kAb (kAc rfl (L2.pv 7)) (kAb (kAc rfl (L2.pv 4)) (kAd (z := 2))))))))) (kHQ (kEB (kEA (DO.de (kBx (kDT c ho tb) hr (by decide) hgu rfl c.gAc c.FAc.kp c.bAc (by trivial) (kAb (kAc rfl (L2.pv 5)) (kAb (kAc rfl (L2.pv 3)) (kAb (kAc rfl (L2.pv 4)) (kAd (z := 2)))))))))))) (DSs.thin (O1 := [0, 0, 0, 0, 0, 0, 0, 0, 0, 0, 0, 0, 0, 0, 0, 0, 0, 0, 0, 0, 0, 0, 0]) (kAk (kAB (kAe pe_bl)))) kBo)
 (kAf (kJy (kBh (kBv (kHf c ho tb) hr (by decide) hgu rfl c.gAl c.FAl.kp c.bAl (by trivial) (L2.pv 1) (kAb (kAc rfl (L2.pv 2)) (kAd (z := 2)))) (kBh (kBv (kHf c ho tb) hr (by decide) hgu rfl c.gAl c.FAl.kp c.bAl (by trivial) (L2.pv 1) (kAb (kAc rfl (L2.pv 2)) (kAd (z := 2)))) kFD)) (fun _ pa => ps_par rfl kBN.nd rfl rfl (by decide) rfl rfl pa rfl))
 (kAf (kJy (kBh (kBv (kIA c ho tb) hr (by decide) hgu rfl c.gAo c.FAo.kp c.bAo (by trivial) (L2.pv 1) (kAb (kAc rfl (L2.pv 2)) (kAb (kAc rfl (L2.pv 8)) (kAb (kAc rfl (L2.pv 9)) (kAd (z := 2)))))) (kBh (kBv (kIA c ho tb) hr (by decide) hgu rfl c.gAo c.FAo.kp c.bAo (by trivial) (L2.pv 1) (kAb (kAc rfl (L2.pv 2)) (kAb (kAc rfl (L2.pv 8)) (kAb (kAc rfl (L2.pv 9)) (kAd (z := 2)))))) kFD)) (fun _ pa => ps_par rfl kBN.nd rfl rfl (by decide) rfl rfl pa rfl))
 (DSs.thin (O1 := [0, 2, 0, 0, 0, 0, 0, 0, 0, 0, 0, 0, 0, 0, 0, 0, 0, 0, 0, 0, 0, 0, 0]) (kAf (kBX (kCj op_sub kFI (kAE (cr_sum rfl) (kHU rfl) rfl c.x_sum boot_sum (kAb (DO.de (kEC rfl kBN.nd (own := [("_law_name", 14)]) (b := true) (kBu (kAc rfl (L2.pv 8))) (by trivial) (fun s H C cl fp => (kAt (pg_name (i := 14) kBN.nd rfl (by trivial)))) (fun s H C cl fp => (DE.weak (z' := 2) (p' := true) (DO.de (kBx (kAM c ho tb) hr (by decide) hgu rfl c.gA0 c.FA0.kp c.bA0 DL.takes0 (kAb (kBb kBa (kAZ rfl) (kAc rfl (L2.pv 3)) (kAe pe_int)) (kAb (kAc rfl (L2.pv 14)) (kAd (z := 2)))))) (by decide))) (by decide))) (kAd (z := 0)))) (kAE (cr_sum rfl) (kHU rfl) rfl c.x_sum boot_sum (kAb (DO.de (kEC rfl kBN.nd (own := [("_law_name", 14)]) (b := true) (kBu (kAc rfl (L2.pv 9))) (by trivial) (fun s H C cl fp => (kAt (pg_name (i := 14) kBN.nd rfl (by trivial)))) (fun s H C cl fp => (DE.weak (z' := 2) (p' := true) (DO.de (kBx (kAM c ho tb) hr (by decide) hgu rfl c.gA0 c.FA0.kp c.bA0 DL.takes0 (kAb (kBb kBa (kAZ rfl) (kAc rfl (L2.pv 3)) (kAe pe_int)) (kAb (kAc rfl (L2.pv 14)) (kAd (z := 2)))))) (by decide))) (by decide))) (kAd (z := 0))))) (fun _ pe => ps_set kBN.nd rfl (by trivial) pe))
 (kAf (kBX (DO.de (kBx (kKR c ho tb) hr (by decide) hgu rfl c.gAs c.FAs.kp c.bAs (by trivial) (kAb (kAc rfl (L2.pv 3)) (kAb (kAc rfl (L2.pv 4)) (kAb (kAc rfl (L2.pv 10)) (kAd (z := 2))))))) (fun _ pe => ps_set kBN.nd rfl (by trivial) pe))
 (kAf (kDn (dt_w (kJx (kAJ (op_neD (u64 hr)) (kHd rfl) (kAE (kEH hgu (u70 hr)) (kGz rfl) rfl c.x_repr (by decide +kernel) (kAb (DO.de (kCi ho (kAT c) c.FA3.kp (kAR c ho tb) hr (by decide) hgu c.bA3 (by trivial) (kAc rfl (L2.pv 5)) (kAb (kAc rfl (L2.pv 10)) (kAd (z := 2))))) (kAd (z := 0)))) (kAE (kEH hgu (u70 hr)) (kGz rfl) rfl c.x_repr (by decide +kernel) (kAb (kAc rfl (L2.pv 13)) (kAd (z := 0))))) (kHQ (kAJ (op_neD (u64 hr)) (kHd rfl) (kAE (kEH hgu (u70 hr)) (kGz rfl) rfl c.x_repr (by decide +kernel) (kAb (DO.de (kCi ho (kAT c) c.FA3.kp (kAR c ho tb) hr (by decide) hgu c.bA3 (by trivial) (kAc rfl (L2.pv 6)) (kAb (kAc rfl (L2.pv 10)) (kAd (z := 2))))) (kAd (z := 0)))) (kAE (kEH hgu (u70 hr)) (kGz rfl) rfl c.x_repr (by decide +kernel) (kAb (kCj op_sub kFI (kAc rfl (L2.pv 13)) (kAc rfl (L2.pv 12))) (kAd (z := 0)))))))) (DSs.thin (O1 := [0, 0, 0, 0, 0, 0, 0, 0, 0, 0, 0, 0, 0, 0, 0, 0, 0, 0, 0, 0, 0, 0, 0]) (kAk (kAB (kAe pe_bl)))) kBo)
 (kAf (kDn (dt_w (kJx (kAJ (DL.OpR.or op_lt op_lt_str) kOD (DO.de (kCi ho (kAT c) c.FA3.kp (kAR c ho tb) hr (by decide) hgu c.bA3 (by trivial) (kAc rfl (L2.pv 5)) (kAb (DO.de (kBs kAL (kAK rfl) (kAc rfl (L2.pv 10)) (DO.de (kQp (kAc rfl (L2.pv 11)))))) (kAd (z := 2))))) (kAe pe_int)) (kHQ (kAJ (op_neD (u64 hr)) (kHd rfl) (DO.de (kFc rfl kBN.nd (own := [("_law_one", 21), ("_law_two", 22)]) (b := true) (kSE rfl c.x_zip (kAb (kAc rfl (L2.pv 10)) (kAb (kAc rfl (L2.pv 11)) (kAd (z := 2))))) (by trivial) (fun s H C cl fp => (kMm (n := 2) rfl rfl (kDs (kAt (pg_name (i := 21) kBN.nd rfl (by trivial))) (kDs (kAt (pg_name (i := 22) kBN.nd rfl (by trivial))) kJA pgs_cons) pgs_cons))) (fun s H C cl fp => (DT.weak (p' := true) (kAJ (DL.OpR.or op_lt op_lt_str) kOD (DO.de (kCi ho (kEj c) c.FA7.kp (kEi c ho tb) hr (by decide) hgu c.bA7 DL.takes0 (kAc rfl (L2.pv 6)) (kAb (kAc rfl (L2.pv 21)) (kAb (kAc rfl (L2.pv 22)) (kAd (z := 2)))))) (kAe pe_int)))) (fun s H C cl fp => (DE.weak (z' := 2) (p' := true) (kAe pe_int) (by decide))) (by decide))) (DO.de (kBt (kAd (z := 2)))))))) (DSs.thin (O1 := [0, 0, 0, 0, 0, 0, 0, 0, 0, 0, 0, 0, 0, 0, 0, 0, 0, 0, 0, 0, 0, 0, 0]) (kAk (kAB (kAe pe_bl)))) kBo)
 (kAf (kJy (kBh (kBv (kIB c ho tb) hr (by decide) hgu rfl c.gAn c.FAn.kp c.bAn (by trivial) (L2.pv 1) (kAb (kAc rfl (L2.pv 2)) (kAd (z := 2)))) (kBh (DE.do0 (kCj op_sub kFI (DO.de (kBv (kBr c ho tb) hr (by decide) hgu rfl c.gA4 c.FA4.kp c.bA4 (by trivial) (L2.pv 1) (kAd (z := 2)))) (DO.de (kBv (kBr c ho tb) hr (by decide) hgu rfl c.gA4 c.FA4.kp c.bA4 (by trivial) (L2.pv 1) (kAd (z := 2)))))) kFD)) (fun _ pa => ps_par rfl kBN.nd rfl rfl (by decide) rfl rfl pa rfl))
 (kAf (kJy (kBh (kCi ho (kIi c) c.FAf.kp (kIg c ho tb) hr (by decide) hgu c.bAf (by trivial) (kAc rfl (L2.pv 5)) (kAb (kAc rfl (L2.pv 14)) (kAb (kAc rfl (L2.pv 15)) (kAd (z := 2))))) (kBh (DE.do0 (kCj op_mul kNJ (kAc rfl (L2.pv 15)) (kCj op_sub kFI (kQu (kAJ (kIN (u65 hr)) (kRl rfl) (kAc rfl (L2.pv 14)) (kAc rfl (L2.pv 9))) (kAe pe_int) (kAe pe_int)) (kQu (kAJ (kIN (u65 hr)) (kRl rfl) (kAc rfl (L2.pv 14)) (kAc rfl (L2.pv 8))) (kAe pe_int) (kAe pe_int))))) kFD)) (fun _ pa => ps_par rfl kBN.nd rfl rfl (by decide) rfl rfl pa rfl))
 (kAf (kDn (dt_w (kJx (kEB (kEA (DO.de (kBx (kDT c ho tb) hr (by decide) hgu rfl c.gAc c.FAc.kp c.bAc (by trivial) (kAb (kAc rfl (L2.pv 16)) (kAb (DO.de (kBx (kHE c ho tb) hr (by decide) hgu rfl c.gAj c.FAj.kp c.bAj (by trivial) (kAb (kAc rfl (L2.pv 3)) (kAb (kAc rfl (L2.pv 14)) (kAb (kAc rfl (L2.pv 15)) (kAd (z := 2))))))) (kAb (kAc rfl (L2.pv 4)) (kAd (z := 2))))))))) (kHQ (kEB (kEA (DO.de (kBx (kDT c ho tb) hr (by decide) hgu rfl c.gAc c.FAc.kp c.bAc (by trivial) (kAb (kAc rfl (L2.pv 5)) (kAb (kAc rfl (L2.pv 3)) (kAb (kAc rfl (L2.pv 4)) (kAd (z := 2)))))))))))) (DSs.thin (O1 := [0, 0, 0, 0, 0, 0, 0, 0, 0, 0, 0, 0, 0, 0, 0, 0, 0, 0, 0, 0, 0, 0, 0]) (kAk (kAB (kAe pe_bl)))) kBo)
 (kAf (kDn (dt_w (kJx (kAJ (op_neD (u64 hr)) (kHd rfl) (kAE (kEH hgu (u70 hr)) (kGz rfl) rfl c.x_repr (by decide +kernel) (kAb (DO.de (kCi ho (kAT c) c.FA3.kp (kAR c ho tb) hr (by decide) hgu c.bA3 (by trivial) (kAc rfl (L2.pv 16)) (kAb (kAc rfl (L2.pv 10)) (kAd (z := 2))))) (kAd (z := 0)))) (kAE (kEH hgu (u70 hr)) (kGz rfl) rfl c.x_repr (by decide +kernel) (kAb (DO.de (kBs kAL (kAK rfl) (kAc rfl (L2.pv 13)) (kAc rfl (L2.pv 17)))) (kAd (z := 0))))) (kHQ (kAJ op_notBl kTf (kQv ho (kDM c) (kDL c ho tb) hr (by decide) hgu c.bA9 (DO.de (kGI ho (kAS c) c.FA2.kp (kAQ c ho tb) hr (by decide) hgu c.bA2 (by trivial) (kAc rfl (L2.pv 16)))) (kAc rfl (L2.pv 6))) (kAe pe_bl))))) (DSs.thin (O1 := [0, 0, 0, 0, 0, 0, 0, 0, 0, 0, 0, 0, 0, 0, 0, 0, 0, 0, 0, 0, 0, 0, 0]) (kAk (kAB (kAe pe_bl)))) kBo)
 (kAf (kBX (DO.de (kBt (kAb (kBb kBa (kAZ rfl) (kAc rfl (L2.pv 3)) (kAe pe_int)) (kAb (kBb kBa (kAZ rfl) (kAc rfl (L2.pv 3)) (kAe pe_int)) (kAb (DO.de (kBt (kAd (z := 2)))) (kAd (z := 2))))))) (fun _ pe => ps_set kBN.nd rfl (by trivial) pe))
 (kAf (kDn (kAJ (op_eqD (u64 hr)) (kEX rfl) (DO.de (kBv (kAI c ho tb) hr (by decide) hgu rfl c.gA1 c.FA1.kp c.bA1 (by trivial) (L2.pv 1) (kAb (kAe pe_int) (kAd (z := 2))))) (kAe pe_int)) (kAk (kBX (DO.de (kBv (kHF c ho tb) hr (by decide) hgu rfl c.gAk c.FAk.kp c.bAk (by trivial) (L2.pv 1) (kAb (kAc rfl (L2.pv 2)) (kAd (z := 2))))) (fun _ pe => ps_set kBN.nd rfl (by trivial) pe))) kBo)
 (kAf (kJz (passes_of rfl) rfl (kGt rfl c.x_range (kAb (DO.de (kBv (kAI c ho tb) hr (by decide) hgu rfl c.gA1 c.FA1.kp c.bA1 (by trivial) (L2.pv 1) (kAb (kAe pe_int) (kAd (z := 2))))) (kAd (z := 0)))) (kAt (pg_name (i := 19) kBN.nd rfl (by trivial))) (kAk (kBX (DO.de (kBx (kHE c ho tb) hr (by decide) hgu rfl c.gAj c.FAj.kp c.bAj (by trivial) (kAb (kAc rfl (L2.pv 18)) (kAb (DO.de (kBv (kIB c ho tb) hr (by decide) hgu rfl c.gAn c.FAn.kp c.bAn (by trivial) (L2.pv 1) (kAb (kAc rfl (L2.pv 2)) (kAd (z := 2))))) (kAb (kCj op_sub kFI (DO.de (kBv (kBr c ho tb) hr (by decide) hgu rfl c.gA4 c.FA4.kp c.bA4 (by trivial) (L2.pv 1) (kAd (z := 2)))) (DO.de (kBv (kBr c ho tb) hr (by decide) hgu rfl c.gA4 c.FA4.kp c.bA4 (by trivial) (L2.pv 1) (kAd (z := 2))))) (kAd (z := 2))))))) (fun _ pe => ps_set kBN.nd rfl (by trivial) pe))))
 (DSs.thin (O1 := [0, 0, 0, 0, 0, 0, 0, 0, 0, 0, 0, 0, 0, 0, 0, 0, 0, 0, 0, 0, 0, 0, 0]) (kAf (kBX (DO.de (kBt (kAb (kJC (T := Tb) (n := 1) (pm := [0, 1, 2, 3]) (dd := [.int 0, .obj 4 []]) ho rfl (by decide) kGi kGd c.mk_Prices (kBD c ho tb) hr (by decide) hgu rfl c.gc_Prices c.q_Prices___init___1 (by trivial) (fun _ _ => (kGu kLG (kGu (kUA xo c.kt_Prices___init___waits) kER))) (kGX (kBb kBa (kAZ rfl) (kAc rfl (L2.pv 3)) (kAe pe_int)) (kGX (kBb kBa (kAZ rfl) (kAc rfl (L2.pv 3)) (kAe pe_int)) (kQq kLZ)))) (kAb (kJC (T := Tb) (n := 1) (pm := [0, 1, 2, 3]) (dd := [.int 0, .obj 4 []]) ho rfl (by decide) kGi kGd c.mk_Prices (kBD c ho tb) hr (by decide) hgu rfl c.gc_Prices c.q_Prices___init___1 (by trivial) (fun _ _ => (kGu kLG (kGu (kUA xo c.kt_Prices___init___waits) kER))) (kGX (kBb kBa (kAZ rfl) (kAc rfl (L2.pv 18)) (kAe pe_int)) (kGX (kBb kBa (kAZ rfl) (kAc rfl (L2.pv 18)) (kAe pe_int)) (kQq kLZ)))) (kAd (z := 2)))))) (fun _ pe => ps_set kBN.nd rfl (by trivial) pe))
 (kAk (kAB (DO.de (kBx (kJQ c ho tb) hr (by decide) hgu rfl c.gAq c.FAq.kp c.bAq (by trivial) (kAb (kBb kBa (kAZ rfl) (kAc rfl (L2.pv 20)) (kAe pe_int)) (kAb (kBb kBa (kAZ rfl) (kAc rfl (L2.pv 20)) (kAe pe_int)) (kAb (kAc rfl (L2.pv 2)) (kAb (DO.de (kBt (kAb (kBb kBa (kAZ rfl) (kAc rfl (L2.pv 7)) (kAe pe_int)) (kAb (DO.de (kBx (kIz c ho tb) hr (by decide) hgu rfl c.gAp c.FAp.kp c.bAp (by trivial) (kAb (kAc rfl (L2.pv 2)) (kAb (kAc rfl (L2.pv 18)) (kAd (z := 2)))))) (kAd (z := 2)))))) (kAb (DO.de (kBt (kAb (kAc rfl (L2.pv 10)) (kAb (kAc rfl (L2.pv 11)) (kAd (z := 2)))))) (kAd (z := 2)))))))))))))))))))))))))))))))))))
end
theorem kVI (s : PySem.W.SharedT) : ob s = hk.obs s.abs := kRt (HandSHeadRun.getT_eq s)
theorem fct {K : PySem.W.Frag} {h : Heap} {mg : Str → Option Value} (X : K.In h) (G : h.Ns mainGlobals mg) (c : He.SaysD fa fn K) (ci : obsI kTI ini K = true) (cj : obsT tps K = true) : ∃ c : Fct P0 K mg, c.a_law = He.ga K "law" := by
 obtain ⟨d0, F0⟩ := c.def_ 0 rfl
 obtain ⟨d1, F1⟩ := c.def_ 1 rfl
 obtain ⟨d2, F2⟩ := c.def_ 2 rfl
 obtain ⟨d3, F3⟩ := c.def_ 3 rfl
 obtain ⟨d4, F4⟩ := c.def_ 4 rfl
 obtain ⟨d5, F5⟩ := c.def_ 5 rfl
 obtain ⟨d6, F6⟩ := c.def_ 6 rfl
 obtain ⟨d7, F7⟩ := c.def_ 7 rfl
 obtain ⟨d8, F8⟩ := c.def_ 8 rfl
 obtain ⟨d9, F9⟩ := c.def_ 9 rfl
 obtain ⟨d10, F10⟩ := c.def_ 10 rfl
 obtain ⟨d11, F11⟩ := c.def_ 11 rfl
 obtain ⟨d12, F12⟩ := c.def_ 12 rfl
 obtain ⟨d13, F13⟩ := c.def_ 13 rfl
 obtain ⟨d14, F14⟩ := c.def_ 14 rfl
 obtain ⟨d15, F15⟩ := c.def_ 15 rfl
 obtain ⟨d16, F16⟩ := c.def_ 16 rfl
 obtain ⟨d17, F17⟩ := c.def_ 17 rfl
 obtain ⟨d18, F18⟩ := c.def_ 18 rfl
 obtain ⟨d19, F19⟩ := c.def_ 19 rfl
 obtain ⟨d20, F20⟩ := c.def_ 20 rfl
 obtain ⟨d21, F21⟩ := c.def_ 21 rfl
 obtain ⟨d22, F22⟩ := c.def_ 22 rfl
 obtain ⟨d23, F23⟩ := c.def_ 23 rfl
 obtain ⟨d24, F24⟩ := c.def_ 24 rfl
 obtain ⟨d25, F25⟩ := c.def_ 25 rfl
 obtain ⟨d26, F26⟩ := c.def_ 26 rfl
 obtain ⟨d27, F27⟩ := c.def_ 27 rfl
 obtain ⟨d28, F28⟩ := c.def_ 28 rfl
 obtain ⟨d29, F29⟩ := c.def_ 29 rfl
 obtain ⟨d30, F30⟩ := c.def_ 30 rfl
 obtain ⟨d31, F31⟩ := c.def_ 31 rfl
 obtain ⟨d32, F32⟩ := c.def_ 32 rfl
 obtain ⟨d33, F33⟩ := c.def_ 33 rfl
 exact ⟨{
  aAu := _,
  dAu := d0,
  FAu := F0,
  gAu := He.glo_ok X G (c.fact 0 rfl),
  bAu := FunD.bindsN (ps := ["_law_script", "_law_base"]) F0 fun _ _ _ _ _ _ us hl => match us, hl with | [_, _], _ => rfl,
  aA1 := _,
  dA1 := d1,
  FA1 := F1,
  gA1 := He.glo_ok X G (c.fact 1 rfl),
  bA1 := FunD.bindsN (ps := ["_law_deal_here", "_law_bound"]) F1 fun _ _ _ _ _ _ us hl => match us, hl with | [_, _], _ => rfl,
  aAr := _,
  dAr := d2,
  FAr := F2,
  gAr := He.glo_ok X G (c.fact 2 rfl),
  bAr := FunD.bindsN (ps := ["_law_deal_here"]) F2 fun _ _ _ _ _ _ us hl => match us, hl with | [_], _ => rfl,
  aA4 := _,
  dA4 := d3,
  FA4 := F3,
  gA4 := He.glo_ok X G (c.fact 3 rfl),
  bA4 := FunD.bindsN (ps := ["_law_deal_here"]) F3 fun _ _ _ _ _ _ us hl => match us, hl with | [_], _ => rfl,
  aAk := _,
  dAk := d4,
  FAk := F4,
  gAk := He.glo_ok X G (c.fact 4 rfl),
  bAk := FunD.bindsN (ps := ["_law_deal_here", "_law_names_here"]) F4 fun _ _ _ _ _ _ us hl => match us, hl with | [_, _], _ => rfl,
  aAg := _,
  dAg := d5,
  FAg := F5,
  gAg := He.glo_ok X G (c.fact 5 rfl),
  bAg := FunD.bindsN (ps := ["value"]) F5 fun _ _ _ _ _ _ us hl => match us, hl with | [_], _ => rfl,
  aAv := _,
  dAv := d6,
  FAv := F6,
  gAv := He.glo_ok X G (c.fact 6 rfl),
  bAv := FunD.bindsN (ps := ["value"]) F6 fun _ _ _ _ _ _ us hl => match us, hl with | [_], _ => rfl,
  aAi := _,
  dAi := d7,
  FAi := F7,
  gAi := He.glo_ok X G (c.fact 7 rfl),
  bAi := FunD.bindsN (ps := ["value"]) F7 fun _ _ _ _ _ _ us hl => match us, hl with | [_], _ => rfl,
  aAh := _,
  dAh := d8,
  FAh := F8,
  gAh := He.glo_ok X G (c.fact 8 rfl),
  bAh := FunD.bindsN (ps := ["value"]) F8 fun _ _ _ _ _ _ us hl => match us, hl with | [_], _ => rfl,
  aA8 := _,
  dA8 := d9,
  FA8 := F9,
  gA8 := He.glo_ok X G (c.fact 9 rfl),
  bA8 := FunD.bindsN (ps := ["value"]) F9 fun _ _ _ _ _ _ us hl => match us, hl with | [_], _ => rfl,
  aAb := _,
  dAb := d10,
  FAb := F10,
  gAb := He.glo_ok X G (c.fact 10 rfl),
  bAb := FunD.bindsN (ps := ["pairs", "name"]) F10 fun _ _ _ _ _ _ us hl => match us, hl with | [_, _], _ => rfl,
  aAm := _,
  dAm := d11,
  FAm := F11,
  gAm := He.glo_ok X G (c.fact 11 rfl),
  bAm := FunD.bindsN (ps := ["starts", "stops", "fee", "waits"]) F11 fun _ _ _ _ _ _ us hl => match us, hl with | [_, _, _, _], _ => rfl,
  aAa := _,
  dAa := d12,
  FAa := F12,
  mk_Prices := He.mkr_ok (c.fact 12 rfl),
  q_Prices___init___0 := kbK F12 [] (fun e => nomatch (show (_ :: _ : List (Str × V)) = [] from e)) (List.forall_mem_nil _) fun _ _ _ _ _ _ us ws mv h1 h2 h3 => match us, ws, mv, h1, h2, h3 with | [_, _, _], [_, _], [], _, _, _ => rfl,
  q_Prices___init___1 := kbK F12 [("fee", .int 0), ("waits", .ref (kwA ("Prices", some "__init__") "waits" K))] (fun e => nomatch (show (_ :: _ : List (Str × V)) = [] from e)) (gF4.mpr ⟨gF1, gF4.mpr ⟨(gF2 _ gF1), List.forall_mem_nil _⟩⟩) fun _ _ _ _ _ _ us ws mv h1 h2 h3 => match us, ws, mv, h1, h2, h3 with | [_, _, _], [], [_, _], _, _, _ => ⟨_, _, _, _, _, _, rfl, rfl, ⟨_, _, _, _, _, _, rfl, rfl, rfl⟩⟩,
  aA5 := _,
  dA5 := d13,
  FA5 := F13,
  meA5 := He.meth_ok (c.fact 13 rfl),
  bA5 := FunD.bindsN (ps := ["self", "name"]) F13 fun _ _ _ _ _ _ us hl => match us, hl with | [_, _], _ => rfl,
  aA6 := _,
  dA6 := d14,
  FA6 := F14,
  meA6 := He.meth_ok (c.fact 14 rfl),
  bA6 := FunD.bindsN (ps := ["self", "name"]) F14 fun _ _ _ _ _ _ us hl => match us, hl with | [_, _], _ => rfl,
  aA2 := _,
  dA2 := d15,
  FA2 := F15,
  meA2 := He.meth_ok (c.fact 15 rfl),
  bA2 := FunD.bindsN (ps := ["self"]) F15 fun _ _ _ _ _ _ us hl => match us, hl with | [_], _ => rfl,
  aAe := _,
  dAe := d16,
  FAe := F16,
  gAe := He.glo_ok X G (c.fact 16 rfl),
  bAe := FunD.bindsN (ps := ["_law_pairs"]) F16 fun _ _ _ _ _ _ us hl => match us, hl with | [_], _ => rfl,
  aA0 := _,
  dA0 := d17,
  FA0 := F17,
  gA0 := He.glo_ok X G (c.fact 17 rfl),
  bA0 := FunD.bindsN (ps := ["_law_pairs", "_law_name"]) F17 fun _ _ _ _ _ _ us hl => match us, hl with | [_, _], _ => rfl,
  aAp := _,
  dAp := d18,
  FAp := F18,
  gAp := He.glo_ok X G (c.fact 18 rfl),
  bAp := FunD.bindsN (ps := ["_law_names_here", "_law_lists_here"]) F18 fun _ _ _ _ _ _ us hl => match us, hl with | [_, _], _ => rfl,
  aAc := _,
  dAc := d19,
  FAc := F19,
  gAc := He.glo_ok X G (c.fact 19 rfl),
  bAc := FunD.bindsN (ps := ["_law_made", "_law_lists_here", "_law_fee"]) F19 fun _ _ _ _ _ _ us hl => match us, hl with | [_, _, _], _ => rfl,
  aAl := _,
  dAl := d20,
  FAl := F20,
  gAl := He.glo_ok X G (c.fact 20 rfl),
  bAl := FunD.bindsN (ps := ["_law_deal_here", "_law_names_here"]) F20 fun _ _ _ _ _ _ us hl => match us, hl with | [_, _], _ => rfl,
  aAo := _,
  dAo := d21,
  FAo := F21,
  gAo := He.glo_ok X G (c.fact 21 rfl),
  bAo := FunD.bindsN (ps := ["_law_deal_here", "_law_names_here", "_law_first", "_law_last"]) F21 fun _ _ _ _ _ _ us hl => match us, hl with | [_, _, _, _], _ => rfl,
  aAt := _,
  dAt := d22,
  FAt := F22,
  gAt := He.glo_ok X G (c.fact 22 rfl),
  bAt := FunD.bindsN (ps := ["_law_lists_here", "_law_fee", "_law_one", "_law_other"]) F22 fun _ _ _ _ _ _ us hl => match us, hl with | [_, _, _, _], _ => rfl,
  aAs := _,
  dAs := d23,
  FAs := F23,
  gAs := He.glo_ok X G (c.fact 23 rfl),
  bAs := FunD.bindsN (ps := ["_law_lists_here", "_law_fee", "_law_plan_here"]) F23 fun _ _ _ _ _ _ us hl => match us, hl with | [_, _, _], _ => rfl,
  aAw := _,
  dAw := d24,
  FAw := F24,
  gAw := He.glo_ok X G (c.fact 24 rfl),
  bAw := FunD.bindsN (ps := ["one", "other"]) F24 fun _ _ _ _ _ _ us hl => match us, hl with | [_, _], _ => rfl,
  aAd := _,
  dAd := d25,
  FAd := F25,
  meAd := He.meth_ok (c.fact 25 rfl),
  bAd := FunD.bindsN (ps := ["self", "name"]) F25 fun _ _ _ _ _ _ us hl => match us, hl with | [_, _], _ => rfl,
  aA7 := _,
  dA7 := d26,
  FA7 := F26,
  meA7 := He.meth_ok (c.fact 26 rfl),
  bA7 := FunD.bindsN (ps := ["self", "one", "other"]) F26 fun _ _ _ _ _ _ us hl => match us, hl with | [_, _, _], _ => rfl,
  aA3 := _,
  dA3 := d27,
  FA3 := F27,
  meA3 := He.meth_ok (c.fact 27 rfl),
  bA3 := FunD.bindsN (ps := ["self", "plan"]) F27 fun _ _ _ _ _ _ us hl => match us, hl with | [_, _], _ => rfl,
  aAn := _,
  dAn := d28,
  FAn := F28,
  gAn := He.glo_ok X G (c.fact 28 rfl),
  bAn := FunD.bindsN (ps := ["_law_deal_here", "_law_some"]) F28 fun _ _ _ _ _ _ us hl => match us, hl with | [_, _], _ => rfl,
  aAf := _,
  dAf := d29,
  FAf := F29,
  meAf := He.meth_ok (c.fact 29 rfl),
  bAf := FunD.bindsN (ps := ["self", "name", "by"]) F29 fun _ _ _ _ _ _ us hl => match us, hl with | [_, _, _], _ => rfl,
  aAj := _,
  dAj := d30,
  FAj := F30,
  gAj := He.glo_ok X G (c.fact 30 rfl),
  bAj := FunD.bindsN (ps := ["_law_lists_here", "_law_name", "_law_by"]) F30 fun _ _ _ _ _ _ us hl => match us, hl with | [_, _, _], _ => rfl,
  aA9 := _,
  dA9 := d31,
  FA9 := F31,
  meA9 := He.meth_ok (c.fact 31 rfl),
  bA9 := FunD.bindsN (ps := ["self", "other"]) F31 fun _ _ _ _ _ _ us hl => match us, hl with | [_, _], _ => rfl,
  aAq := _,
  dAq := d32,
  FAq := F32,
  gAq := He.glo_ok X G (c.fact 32 rfl),
  bAq := FunD.bindsN (ps := ["_law_one", "_law_other", "_law_names_here", "_law_sums_here", "_law_plans"]) F32 fun _ _ _ _ _ _ us hl => match us, hl with | [_, _, _, _, _], _ => rfl,
  a_law := _,
  d_law := d33,
  F_law := F33,
  g_law := He.glo_ok X G (c.fact 33 rfl),
  b_law := FunD.bindsN (ps := ["_law_script"]) F33 fun _ _ _ _ _ _ us hl => match us, hl with | [_], _ => rfl,
  n_LETTERS := (He.str_ok X G (c.fact 34 rfl)).elim fun t e => ⟨_, e, _, rfl⟩,
  n_LONGEST := (He.int_ok X G (c.fact 35 rfl)).elim fun t e => ⟨_, e, _, rfl⟩,
  x_abs := He.free_ok X G (c.fact 36 rfl),
  x_all := He.free_ok X G (c.fact 37 rfl),
  x_any := He.free_ok X G (c.fact 38 rfl),
  x_bool := He.free_ok X G (c.fact 39 rfl),
  x_int := He.free_ok X G (c.fact 40 rfl),
  x_isinstance := He.free_ok X G (c.fact 41 rfl),
  x_len := He.free_ok X G (c.fact 42 rfl),
  x_list := He.free_ok X G (c.fact 43 rfl),
  x_max := He.free_ok X G (c.fact 44 rfl),
  x_range := He.free_ok X G (c.fact 45 rfl),
  x_repr := He.free_ok X G (c.fact 46 rfl),
  x_set := He.free_ok X G (c.fact 47 rfl),
  x_sorted := He.free_ok X G (c.fact 48 rfl),
  x_str := He.free_ok X G (c.fact 49 rfl),
  x_sum := He.free_ok X G (c.fact 50 rfl),
  x_tuple := He.free_ok X G (c.fact 51 rfl),
  x_zip := He.free_ok X G (c.fact 52 rfl),
  kt_Prices___init___waits := kUU (kTm cj 0 rfl),
  ic_Prices := kTF (He.cls_ok (c.fact 54 rfl)) (kRs cj 1 rfl),
  ge_InvalidPrices := He.glo_ok X G (c.fact 53 rfl),
  e_InvalidPrices := kRH (kTn ci 0 rfl) (beq_self_eq_true _) htop,
  cl_Prices := He.cls_ok (c.fact 54 rfl),
  gc_Prices := He.glo_ok X G (c.fact 55 rfl),
  na_Prices_starts := He.noat_ok (c.fact 56 rfl),
  na_Prices_stops := He.noat_ok (c.fact 57 rfl),
  na_Prices_fee := He.noat_ok (c.fact 58 rfl),
  na_Prices_waits := He.noat_ok (c.fact 59 rfl) }, rfl⟩
theorem holds_of (pl : ∀ ns : List Int, ns.length ≤ 63 → ∃ io, F_law [.ro (ns.map D.int)] = .ok (.bool true) io) : PySem.Challenge.rw_stopsfirst_k51_round_trips.Holds := by
 w_on; o_law
 refine HandSHeadRun.head_any (r := R) (q := PySem.W.view R.prog [33]) (H := hk) (ob := ob) (M := 6000) (loose := loose) (d := HandSHeadRun.topDef R.prog 33) (kwd := []) kVI
  (by kernel_rfl) (fun s => by kernel_rfl) run (by kernel_rfl) (by kernel_rfl) (by kernel_rfl) (by rfl) (by first | assumption | decide +kernel) (by decide +kernel) ⟨rfl, rfl, rfl, rfl, rfl, by decide +kernel⟩ ?hw ?hc
 case hw => w_witness2
 case hc =>
  refine kUe (l := PySem.Challenge.rw_stopsfirst_k51_round_trips) (n := 63) (k := 8) (x := "_law_script") rfl (by decide) (by kernel_rfl) ⟨rfl, by decide, by decide⟩ ?F
  intro w mg fa h Y G hmg0
  obtain ⟨K, KX, c, ci, cj, ct⟩ := Y
  have hmg : mg ("law" : Str) = some (.ref fa) := by
   have e : (HandSHeadRun.topDef R.prog 33).name = ("law" : Str) := by kernel_rfl
   rw [← e]
   exact hmg0
  obtain ⟨f, _⟩ := fct KX G c ci cj
  cases gF3 (hmg.symm.trans f.g_law)
  exact ⟨K, f.d_law, _, cdT tf K, KX, kRI KX ct, fun s u => FunD.bindsA (ps := ["_law_script"]) f.F_law (fun _ _ _ _ _ _ us hl => match us, hl with | [_], _ => rfl) s [u] rfl,
   fun H a ns hl ht hS => kUT (W := W1 K Tb (tblT tf K)) hS (Nat.le_trans hl (by decide)) (kVB ht) (pl ns hl), fun base _ _ tb => kUL (W := W1 K Tb (tblT tf K)) f (kVJ K Tb (by kernel_rfl) (tblT tf K)) ⟨⟩⟩
end Law
namespace Law
open PySem PySem.Spec PySem.W PyProof.Rows L2 DL PL
def kFk : MS := dIte (dNot (dTru (kAh FAg [] (kAa (dVar 0) dNil)))) (dRet (dC (.bool false))) kBw
def kHu : MS := dSet 1 (dLst dNil)
def kCe : MS := dIte (dOr (dNot (dTru (kAh FAg [] (kAa (dVar 2) dNil)))) (dOr (kAp (dOp2 dNe (dCB dLen (kAa (dVar 2) dNil)) (dC (.int 2)))) (dOr (dNot (dTru (kAh FAv [] (kAa (dOp2 dIx (dVar 2) (dC (.int 0))) dNil)))) (dNot (dTru (kAh FAi [] (kAa (dOp2 dIx (dVar 2) (dC (.int 1))) dNil))))))) (dRet (dC (.bool false))) kBw
def kCd : MS := dIte (kAp (dOp2 dIn (dOp2 dIx (dVar 2) (dC (.int 0))) (dVar 1))) (dRet (dC (.bool false))) kBw
def kCc : MS := kDU (kEs 1 kCz (kAa (dOp2 dIx (dVar 2) (dC (.int 0))) dNil))
def kFj : MS := dFor (kAr (dVar 0)) (gN 2) (dSeq kCe (dSeq kCd kCc))
def kKL : MS := dRet (dC (.bool true))
theorem kJR : kHh = (dSeq kFk (dSeq kHu (dSeq kFj kKL))) := rfl
def kEK : MS := dRet (dCB kEp (kAa (dCB kDt (kAa (dLc true (kAr (dVar 0)) (gN 1) (kAp (dOp2 dNe (dOp2 dIx (dVar 1) (dC (.int 1))) (dC (.int 0)))) (dTup (kAa (dOp2 dIx (dVar 1) (dC (.int 0))) (kAa (dOp2 dIx (dVar 1) (dC (.int 1))) dNil))) [1]) dNil)) dNil))
theorem kJj : kGl = kEK := rfl
def kBj : MS := dIte (kAp (dOp2 dEq (dVar 2) (dVar 1))) (dRet (dVar 3)) kBw
def kCS : MS := dFor (kAr (dVar 0)) (gT 2 (kBe (gN 2) (kBe (gN 3) kFC))) kBj
def kKA : MS := dRet (dC (.int 0))
theorem kGU : kHg = (dSeq kCS kKA) := rfl
def kDI : MS := dIte (dNot (dTru (kAh FAh [] (kAa (dVar 0) dNil)))) (dRet (dC (.int 0))) kBw
def kDH : MS := dIte (dNot (dTru (kAh FAh [] (kAa (dVar 1) dNil)))) (dRet (dC (.int 1))) kBw
def kDG : MS := dPar [4, 5] (kAa (kAh FA8 [] (kAa (dVar 0) dNil)) (kAa (kAh FA8 [] (kAa (dVar 1) dNil)) dNil))
def kBZ : MS := dIte (kAp (dOp2 dLt (dOp2 dAdd (kAh FAb [] (kAa (dVar 4) (kAa (dVar 6) dNil))) (kAh FAb [] (kAa (dVar 5) (kAa (dVar 6) dNil)))) (dC (.int 0)))) (dRet (dC (.int 2))) kBw
def kDF : MS := dFor (kAr (dOp2 dAdd (dVar 4) (dVar 5))) (gT 2 (kBe (gN 6) (kBe (gN 7) kFC))) kBZ
def kDE : MS := dIte (dOr (dNot (dTru (kAh FAi [] (kAa (dVar 2) dNil)))) (kAp (dOp2 dLt (dVar 2) (dC (.int 0))))) (dRet (dC (.int 3))) kBw
def kDD : MS := dIte (dOr (dNot (dTru (kAh FAh [] (kAa (dVar 3) dNil)))) (dTru (dCB dAny (kAa (dLc true (kAr (dVar 3)) (gN 8) mYes (dOp2 dLt (dOp2 dIx (dVar 8) (dC (.int 1))) (dC (.int 0))) [8]) dNil)))) (dRet (dC (.int 4))) kBw
def kIH : MS := dRet (dC .non)
theorem kIj : kES = (dSeq kDI (dSeq kDH (dSeq kDG (dSeq kDF (dSeq kDE (dSeq kDD kIH)))))) := rfl
def kEe : MS := dSet 5 (kAh FAm [] (kAa (dVar 1) (kAa (dVar 2) (kAa (dVar 3) (kAa (dVar 4) dNil)))))
def kEd : MS := dIte (kAp (dOp2 kON (dVar 5) (dC .non))) (kMs "InvalidPrices" (dVar 5)) kBw
def kEc : MS := kJD kGr 0 (kAh FA8 [] (kAa (dVar 1) dNil))
def kEb : MS := kJD kHM 0 (kAh FA8 [] (kAa (dVar 2) dNil))
def kEa : MS := kJD kLT 0 (dVar 3)
def kDZ : MS := kJD kHL 0 (kAh FA8 [] (kAa (dVar 4) dNil))
theorem kGK : kDl = (dSeq kEe (dSeq kEd (dSeq kEc (dSeq kEb (dSeq kEa kDZ))))) := rfl
def kEW : MS := dRet (kGL (dUn (dIsO 1) (dVar 1)) (kGL (dOp2 dEq (dFld kBn (dVar 0)) (dFld kBn (dVar 1))) (kGL (dOp2 dEq (dFld kCb (dVar 0)) (dFld kCb (dVar 1))) (kGL (dOp2 dEq (dFld kFB (dVar 0)) (dFld kFB (dVar 1))) (dOp2 dEq (dFld kCa (dVar 0)) (dFld kCa (dVar 1)))))))
def kDf : MS := dRet (kAh FAb [] (kAa (dFld kBn (dVar 0)) (kAa (dVar 1) dNil)))
def kDv : MS := dRet (kAh FAb [] (kAa (dFld kCb (dVar 0)) (kAa (dVar 1) dNil)))
def kEu : MS := dRet (kAh FAb [] (kAa (dFld kCa (dVar 0)) (kAa (dVar 1) dNil)))
def kBl : MS := dIte (kAp (dOp2 dEq (dVar 1) (dVar 2))) (dRet (dC (.int 0))) kBw
def kCG : MS := dSet 3 (kAh FAw [] (kAa (dVar 2) (kAa (dVar 1) dNil)))
def kCF : MS := dSet 4 (dOp2 dAdd (dFld kFB (dVar 0)) (dCB dSum (kAa (dLc true (kAr (dVar 3)) (gN 5) mYes (kAh FA5 [] (kAa (dChk [1] (dVar 0)) (kAa (dVar 5) dNil))) [5]) dNil)))
def kCE : MS := dAug 4 aAdd (dCB dSum (kAa (dLc true (kAr (kAh FAw [] (kAa (dVar 1) (kAa (dVar 2) dNil)))) (gN 5) mYes (kAh FA6 [] (kAa (dChk [1] (dVar 0)) (kAa (dVar 5) dNil))) [5]) dNil))
def kDP : MS := dRet (dOp2 dAdd (dVar 4) (dCB kNm (kAa (dOp2 dAdd (dLst (kAa (dC (.int 0)) dNil)) (dLc true (kAr (dVar 3)) (gN 5) mYes (kAh FAd [] (kAa (dChk [1] (dVar 0)) (kAa (dVar 5) dNil))) [5])) dNil)))
theorem kDz : kCZ = (dSeq kBl (dSeq kCG (dSeq kCF (dSeq kCE kDP)))) := rfl
def kEw : MS := dRet (dCB dSum (kAa (dLc true (dZip (kAa (dVar 1) (kAa (kFM (dVar 1) (some (dC (.int 1))) none) dNil))) (gT 2 (kBe (gN 2) (kBe (gN 3) kFC))) mYes (kAh FA7 [] (kAa (dChk [1] (dVar 0)) (kAa (dVar 2) (kAa (dVar 3) dNil)))) [2, 3]) dNil))
def kCh : MS := dSet 1 (dUn kEG (dLc true (kAr (dOp2 dAdd (dFld kBn (dVar 0)) (dFld kCb (dVar 0)))) (gT 2 (kBe (gN 3) (kBe (gN 4) kFC))) mYes (dVar 3) [3, 4]))
def kCg : MS := dSet 2 (dLc true (kAr (dVar 1)) (gN 3) mYes (dTup (kAa (dVar 3) (kAa (dOp2 dAdd (kAh FA5 [] (kAa (dChk [1] (dVar 0)) (kAa (dVar 3) dNil))) (kAh FA6 [] (kAa (dChk [1] (dVar 0)) (kAa (dVar 3) dNil)))) dNil))) [3])
def kDg : MS := dRet (dNew 1 FAa [] (kFd [0, 1, 2, 3] [] (kAa (dVar 2) (kAa (dTup dNil) (kAa (dFld kFB (dVar 0)) (kAa (dFld kCa (dVar 0)) dNil))))))
theorem kFA : kCJ = (dSeq kCh (dSeq kCg kDg)) := rfl
def kCW : MS := dSet 3 (dOp2 dAdd (dLc true (kAr (dFld kBn (dVar 0))) (gN 5) (kAp (dOp2 dNe (dOp2 dIx (dVar 5) (dC (.int 0))) (dVar 1))) (dVar 5) [5]) (dLst (kAa (dTup (kAa (dVar 1) (kAa (dOp2 dAdd (kAh FA5 [] (kAa (dChk [1] (dVar 0)) (kAa (dVar 1) dNil))) (dVar 2)) dNil))) dNil)))
def kCV : MS := dSet 4 (dOp2 dAdd (dLc true (kAr (dFld kCb (dVar 0))) (gN 5) (kAp (dOp2 dNe (dOp2 dIx (dVar 5) (dC (.int 0))) (dVar 1))) (dVar 5) [5]) (dLst (kAa (dTup (kAa (dVar 1) (kAa (dOp2 iSub (kAh FA6 [] (kAa (dChk [1] (dVar 0)) (kAa (dVar 1) dNil))) (dVar 2)) dNil))) dNil)))
def kEv : MS := dRet (dNew 1 FAa [] (kFd [0, 1, 2, 3] [] (kAa (dVar 3) (kAa (dVar 4) (kAa (dFld kFB (dVar 0)) (kAa (dFld kCa (dVar 0)) dNil))))))
theorem kHk : kDN = (dSeq kCW (dSeq kCV kEv)) := rfl
def kFo : MS := dSet 2 (dLc true (kAr (kFM (dVar 0) (some (dVar 1)) (some (dC (.int 63))))) (gN 4) mYes (dCB dAbs (kAa (dVar 4) dNil)) [4])
def kFn : MS := dSet 3 (dOp2 dAdd (dC (.int 538001)) (dOp2 iMul (dC (.int 61)) (dVar 1)))
def kDJ : MS := dSet 3 (dOp2 iMod (dCB dInt (kAa (dOp2 dAdd (dOp2 dAdd (dOp2 iMul (dVar 3) (dC (.int 48271))) (dOp2 iMod (dCB dInt (kAa (dVar 4) dNil)) (dC (.int 2147483549)))) (dC (.int 31))) dNil)) (dC (.int 2147483647)))
def kFm : MS := dFor (kAr (dVar 2)) (gN 4) kDJ
def kFl : MS := dRet (kQx [1, 0] (kAa (dUn dRev (dLc true (kAr (dVar 2)) (gN 4) (kAp (dOp2 dGe (dVar 4) (dOp2 iPow (dC (.int 10)) (dC (.int 18))))) (dVar 4) [4])) (kAa (dVar 3) dNil)))
theorem kJS : kFz = (dSeq kFo (dSeq kFn (dSeq kFm kFl))) := rfl
def kCT : MS := dRet (dIf (kAp (dOp2 dGt (kAn FA1 0 [] (kAa (dC (.int 3)) dNil)) (dC (.int 0)))) (kAn FA1 0 [] (kAa (dC (.int 4)) dNil)) (kAn FA1 0 [] (kAa (dC (.int 250001)) dNil)))
def kGO : MS := dSet 1 (dLst dNil)
def kBI : MS := dSet 3 (dLc false (kDc (kAa (dOp2 dAdd (dC (.int 1)) (kAn FA1 0 [] (kAa (dC (.int 5)) dNil))) dNil)) (gN 4) mYes (dOp2 dIx (dC (.str "abcdefghijklmnopqrstuvwxyz")) (kAn FA1 0 [] (kAa (dC (.int 26)) dNil))) [4])
def kBH : MS := dIte (kAp (dOp2 kDR (dUn (kJT "") (dVar 3)) (dVar 1))) (kDU (kEs 1 kCz (kAa (dUn (kJT "") (dVar 3)) dNil))) kBw
def kEL : MS := dFor (kDc (kAa (dOp2 dAdd (dC (.int 1)) (kAn FA1 0 [] (kAa (dC (.int 6)) dNil))) dNil)) (gN 2) (dSeq kBI kBH)
def kJN : MS := kOM 1
theorem kJn : kGm = (dSeq kGO (dSeq kEL kJN)) := rfl
def kGQ : MS := dPar [2, 3, 4] (kAa (dLst dNil) (kAa (dLst dNil) (kAa (dLst dNil) dNil)))
def kCD : MS := dPar [6, 7, 8] (kAa (kAn FA1 0 [] (kAa (dC (.int 6)) dNil)) (kAa (kAn FA4 0 [] dNil) (kAa (kAn FA4 0 [] dNil) dNil)))
def kAC : MS := dIte (kAp (dOp2 dEq (dVar 6) (dC (.int 0)))) (kDU (kEs 2 kCz (kAa (dLst (kAa (dVar 5) (kAa (dVar 7) dNil))) dNil))) (dIte (kAp (dOp2 dEq (dVar 6) (dC (.int 1)))) (kDU (kEs 3 kEl (kAa (dC (.int 0)) (kAa (dLst (kAa (dVar 5) (kAa (dVar 7) dNil))) dNil)))) (dIte (kAp (dOp2 dLt (dVar 6) (dC (.int 4)))) (dSeq (kDU (kEs 2 kCz (kAa (dLst (kAa (dVar 5) (kAa (dIf (kAp (dOp2 dEq (dVar 6) (dC (.int 2)))) (dOp2 dAdd (dVar 7) (dVar 8)) (dOp2 iSub (dC (.int 0)) (dVar 7))) dNil))) dNil)))   (kDU (kEs 3 kEl (kAa (dC (.int 0)) (kAa (dLst (kAa (dVar 5) (kAa (dIf (kAp (dOp2 dEq (dVar 6) (dC (.int 2)))) (dOp2 iSub (dC (.int 0)) (dVar 7)) (dOp2 dAdd (dVar 7) (dVar 8))) dNil))) dNil))))) (dIte (kAp (dOp2 dEq (dVar 6) (dC (.int 4)))) (dSeq (kDU (kEs 2 kCz (kAa (dLst (kAa (dVar 5) (kAa (dVar 7) dNil))) dNil)))   (kDU (kEs 3 kEl (kAa (dC (.int 0)) (kAa (dLst (kAa (dVar 5) (kAa (dVar 8) dNil))) dNil))))) kBw)))
def kBJ : MS := dIte (kAp (dOp2 dEq (kAn FA1 0 [] (kAa (dC (.int 2)) dNil)) (dC (.int 0)))) (kDU (kEs 4 kEl (kAa (kAn FA1 0 [] (kAa (dOp2 dAdd (dCB dLen (kAa (dVar 4) dNil)) (dC (.int 1))) dNil)) (kAa (dLst (kAa (dVar 5) (kAa (kAn FA4 0 [] dNil) dNil))) dNil)))) kBw
def kEO : MS := dFor (kAr (dVar 1)) (gN 5) (dSeq kCD (dSeq kAC kBJ))
def kJO : MS := dRet (dLst (kAa (dVar 2) (kAa (dVar 3) (kAa (dVar 4) dNil))))
theorem kJp : kGo = (dSeq kGQ (dSeq kEO kJO)) := rfl
def kFV : MS := dRet (dCB dSum (kAa (dLc true (kAr (dVar 0)) (gN 2) (kAp (dOp2 dEq (dOp2 dIx (dVar 2) (dC (.int 0))) (dVar 1))) (dOp2 dIx (dVar 2) (dC (.int 1))) [2]) dNil))
def kIw : MS := dRet (dCB kEp (kAa (dCB kDt (kAa (dLc false (kAr (dVar 1)) (gN 2) (kAp (dOp2 dEq (kAn FA1 0 [] (kAa (dC (.int 2)) dNil)) (dC (.int 0)))) (dVar 2) [2]) dNil)) dNil))
def kCU : MS := dIte (kAp (dOp2 dEq (dVar 2) (dVar 3))) (dRet (dC (.int 0))) kBw
def kFr : MS := dSet 4 (dLc true (kAr (dVar 3)) (gN 6) (kAp (dOp2 kDR (dVar 6) (dVar 2))) (dVar 6) [6])
def kFq : MS := dSet 5 (dOp2 dAdd (dVar 1) (dCB dSum (kAa (dLc true (kAr (dVar 4)) (gN 6) mYes (kAh FA0 [] (kAa (dOp2 dIx (dVar 0) (dC (.int 0))) (kAa (dVar 6) dNil))) [6]) dNil)))
def kFp : MS := dSet 5 (dOp2 dAdd (dVar 5) (dCB dSum (kAa (dLc true (kAr (dVar 2)) (gN 6) (kAp (dOp2 kDR (dVar 6) (dVar 3))) (kAh FA0 [] (kAa (dOp2 dIx (dVar 0) (dC (.int 1))) (kAa (dVar 6) dNil))) [6]) dNil)))
def kHx : MS := dRet (dOp2 dAdd (dVar 5) (dCB kNm (kAa (dOp2 dAdd (dLst (kAa (dC (.int 0)) dNil)) (dLc true (kAr (dVar 4)) (gN 6) mYes (kAh FA0 [] (kAa (dOp2 dIx (dVar 0) (dC (.int 2))) (kAa (dVar 6) dNil))) [6])) dNil)))
theorem kGV : kHj = (dSeq kCU (dSeq kFr (dSeq kFq (dSeq kFp kHx)))) := rfl
def kGS : MS := dRet (dCB dSum (kAa (dLc true (kDc (kAa (dOp2 iSub (dCB dLen (kAa (dVar 2) dNil)) (dC (.int 1))) dNil)) (gN 3) mYes (kAh FAt [] (kAa (dVar 0) (kAa (dVar 1) (kAa (dOp2 dIx (dVar 2) (dVar 3)) (kAa (dOp2 dIx (dVar 2) (dOp2 dAdd (dVar 3) (dC (.int 1)))) dNil))))) [3]) dNil))
def kHv : MS := dRet (kAh FAe [] (kAa (dLc true (kAr (dVar 0)) (gN 2) mYes (dTup (kAa (dVar 2) (kAa (dOp2 dAdd (kAh FA0 [] (kAa (dOp2 dIx (dVar 1) (dC (.int 0))) (kAa (dVar 2) dNil))) (kAh FA0 [] (kAa (dOp2 dIx (dVar 1) (dC (.int 1))) (kAa (dVar 2) dNil)))) dNil))) [2]) dNil))
def kEN : MS := dSet 3 (dOp2 dAdd (dLc true (kAr (dOp2 dIx (dVar 0) (dC (.int 0)))) (gN 5) (kAp (dOp2 dNe (dOp2 dIx (dVar 5) (dC (.int 0))) (dVar 1))) (dVar 5) [5]) (dLst (kAa (dTup (kAa (dVar 1) (kAa (dOp2 dAdd (kAh FA0 [] (kAa (dOp2 dIx (dVar 0) (dC (.int 0))) (kAa (dVar 1) dNil))) (dVar 2)) dNil))) dNil)))
def kEM : MS := dSet 4 (dOp2 dAdd (dLc true (kAr (dOp2 dIx (dVar 0) (dC (.int 1)))) (gN 5) (kAp (dOp2 dNe (dOp2 dIx (dVar 5) (dC (.int 0))) (dVar 1))) (dVar 5) [5]) (dLst (kAa (dTup (kAa (dVar 1) (kAa (dOp2 iSub (kAh FA0 [] (kAa (dOp2 dIx (dVar 0) (dC (.int 1))) (kAa (dVar 1) dNil))) (dVar 2)) dNil))) dNil)))
def kGP : MS := dRet (dLst (kAa (dVar 3) (kAa (dVar 4) (kAa (dOp2 dIx (dVar 0) (dC (.int 2))) dNil))))
theorem kJo : kGn = (dSeq kEN (dSeq kEM kGP)) := rfl
def kEP : MS := dSet 3 (dTup (kAa (kAh FAe [] (kAa (dOp2 dIx (dVar 1) (dC (.int 0))) dNil)) (kAa (kAh FAe [] (kAa (dOp2 dIx (dVar 1) (dC (.int 1))) dNil)) (kAa (kAh FAe [] (kAa (dOp2 dIx (dVar 1) (dC (.int 2))) dNil)) (kAa (dVar 2) dNil)))))
def kGR : MS := dRet (dOp2 dEq (dCB kFF (kAa (dTup (kAa (dFld kBn (dVar 0)) (kAa (dFld kCb (dVar 0)) (kAa (dFld kCa (dVar 0)) (kAa (dFld kFB (dVar 0)) dNil))))) dNil)) (dCB kFF (kAa (dVar 3) dNil)))
theorem kJr : kGp = (dSeq kEP kGR) := rfl
def kHw : MS := dRet (dOp2 dAdd (dOp2 dAdd (dLst (kAa (dVar 2) dNil)) (dLc false (kDc (kAa (kAn FA1 0 [] (kAa (dC (.int 6)) dNil)) dNil)) (gN 4) mYes (kAn FAl 0 [] (kAa (dVar 1) dNil)) [4])) (dLst (kAa (dVar 3) dNil)))
def kCt : MS := dIte (kAp (dOp2 dEq (dOp2 dIx (dVar 3) (dC (.int 0))) (dOp2 dIx (dVar 3) (dC (.int 1))))) (dSeq (dSet 5 (dLc true (kAr (dVar 4)) (gN 8) mYes (dOp2 iSub (kAh FA3 [] (kAa (dChk [1] (dVar 0)) (kAa (dVar 8) dNil))) (kAh FA3 [] (kAa (dChk [1] (dVar 1)) (kAa (dVar 8) dNil)))) [8]))   (dRet (kGL (dOp2 dEq (dOp2 dIx (dVar 5) (dC (.int 0))) (dOp2 dIx (dVar 5) (dC (.int 1)))) (dOp2 dIsB (dOp2 (eqOf 1 FA9) (kAh FA2 [] (kAa (dChk [1] (dVar 0)) dNil)) (kAh FA2 [] (kAa (dChk [1] (dVar 1)) dNil))) (dC (.bool true)))))) kBw
def kDY : MS := dSet 6 (dOp2 dIx (dLc true (kAr (dVar 2)) (gN 6) (kAp (dOp2 dNe (kAh FA0 [] (kAa (dOp2 dIx (dVar 3) (dC (.int 0))) (kAa (dVar 6) dNil))) (kAh FA0 [] (kAa (dOp2 dIx (dVar 3) (dC (.int 1))) (kAa (dVar 6) dNil))))) (dVar 6) [6]) (dC (.int 0)))
def kFX : MS := dSet 7 (dLst (kAa (dTup dNil) (kAa (dTup (kAa (dVar 6) dNil)) (kAa (dTup dNil) dNil))))
def kFW : MS := dRet (kGL (dOp2 dNe (kAh FA3 [] (kAa (dChk [1] (dVar 0)) (kAa (dVar 7) dNil))) (kAh FA3 [] (kAa (dChk [1] (dVar 1)) (kAa (dVar 7) dNil)))) (dOp2 dIsB (dOp2 (eqOf 1 FA9) (kAh FA2 [] (kAa (dChk [1] (dVar 0)) dNil)) (kAh FA2 [] (kAa (dChk [1] (dVar 1)) dNil))) (dC (.bool false))))
theorem kFJ : kFy = (dSeq kCt (dSeq kDY (dSeq kFX kFW))) := rfl
def kMT : MS := dSet 1 (kAh FAu [] (kAa (dVar 0) (kAa (dC (.int 1)) dNil)))
def kMS : MS := dSet 2 (kAn FAr 1 [] dNil)
def kMR : MS := dPar [3, 4] (kAa (kAn FAk 1 [] (kAa (dVar 2) dNil)) (kAa (kAn FA4 1 [] dNil) dNil))
def kMQ : MS := dSet 5 (dNew 1 FAa [] (kFd [0, 1, 2, 3] [] (kAa (dOp2 dIx (dVar 3) (dC (.int 0))) (kAa (dOp2 dIx (dVar 3) (dC (.int 1))) (kAa (dVar 4) (kAa (dOp2 dIx (dVar 3) (dC (.int 2))) dNil))))))
def kMP : MS := dSet 6 (kAh FA2 [] (kAa (dChk [1] (dVar 5)) dNil))
def kMO : MS := dSet 7 (dLst (kAa (kAh FAp [] (kAa (dVar 2) (kAa (dVar 3) dNil))) (kAa (dTup dNil) (kAa (dOp2 dIx (dVar 3) (dC (.int 2))) dNil))))
def kMN : MS := dIte (dOr (dNot (dTru (kAh FAc [] (kAa (dVar 6) (kAa (dVar 7) (kAa (dVar 4) dNil)))))) (dNot (dTru (kAh FAc [] (kAa (dVar 5) (kAa (dVar 3) (kAa (dVar 4) dNil))))))) (dRet (dC (.bool false))) kBw
def kMM : MS := dPar [8, 9] (kAa (kAn FAl 1 [] (kAa (dVar 2) dNil)) (kAa (kAn FAl 1 [] (kAa (dVar 2) dNil)) dNil))
def kML : MS := dPar [10, 11] (kAa (kAn FAo 1 [] (kAa (dVar 2) (kAa (dVar 8) (kAa (dVar 9) dNil)))) (kAa (kAn FAo 1 [] (kAa (dVar 2) (kAa (dVar 8) (kAa (dVar 9) dNil)))) dNil))
def kMK : MS := dSet 12 (dOp2 iSub (dCB dSum (kAa (dLc true (kAr (dVar 8)) (gN 14) mYes (kAh FA0 [] (kAa (dOp2 dIx (dVar 3) (dC (.int 1))) (kAa (dVar 14) dNil))) [14]) dNil)) (dCB dSum (kAa (dLc true (kAr (dVar 9)) (gN 14) mYes (kAh FA0 [] (kAa (dOp2 dIx (dVar 3) (dC (.int 1))) (kAa (dVar 14) dNil))) [14]) dNil)))
def kKK : MS := dSet 13 (kAh FAs [] (kAa (dVar 3) (kAa (dVar 4) (kAa (dVar 10) dNil))))
def kKJ : MS := dIte (dOr (kAp (dOp2 dNe (dCB kFF (kAa (kAh FA3 [] (kAa (dChk [1] (dVar 5)) (kAa (dVar 10) dNil))) dNil)) (dCB kFF (kAa (dVar 13) dNil)))) (kAp (dOp2 dNe (dCB kFF (kAa (kAh FA3 [] (kAa (dChk [1] (dVar 6)) (kAa (dVar 10) dNil))) dNil)) (dCB kFF (kAa (dOp2 iSub (dVar 13) (dVar 12)) dNil))))) (dRet (dC (.bool false))) kBw
def kKI : MS := dIte (dOr (kAp (dOp2 dLt (kAh FA3 [] (kAa (dChk [1] (dVar 5)) (kAa (dOp2 dAdd (dVar 10) (dUn dRev (dVar 11))) dNil))) (dC (.int 0)))) (kAp (dOp2 dNe (dLc true (dZip (kAa (dVar 10) (kAa (dVar 11) dNil))) (gT 2 (kBe (gN 21) (kBe (gN 22) kFC))) (kAp (dOp2 dLt (kAh FA7 [] (kAa (dChk [1] (dVar 6)) (kAa (dVar 21) (kAa (dVar 22) dNil)))) (dC (.int 0)))) (dC (.int 1)) [21, 22]) (dLst dNil)))) (dRet (dC (.bool false))) kBw
def kKH : MS := dPar [14, 15] (kAa (kAn FAn 1 [] (kAa (dVar 2) dNil)) (kAa (dOp2 iSub (kAn FA4 1 [] dNil) (kAn FA4 1 [] dNil)) dNil))
def kKG : MS := dPar [16, 17] (kAa (kAh FAf [] (kAa (dChk [1] (dVar 5)) (kAa (dVar 14) (kAa (dVar 15) dNil)))) (kAa (dOp2 iMul (dVar 15) (dOp2 iSub (dIf (kAp (dOp2 dIn (dVar 14) (dVar 9))) (dC (.int 1)) (dC (.int 0))) (dIf (kAp (dOp2 dIn (dVar 14) (dVar 8))) (dC (.int 1)) (dC (.int 0))))) dNil))
def kKF : MS := dIte (dOr (dNot (dTru (kAh FAc [] (kAa (dVar 16) (kAa (kAh FAj [] (kAa (dVar 3) (kAa (dVar 14) (kAa (dVar 15) dNil)))) (kAa (dVar 4) dNil)))))) (dNot (dTru (kAh FAc [] (kAa (dVar 5) (kAa (dVar 3) (kAa (dVar 4) dNil))))))) (dRet (dC (.bool false))) kBw
def kKE : MS := dIte (dOr (kAp (dOp2 dNe (dCB kFF (kAa (kAh FA3 [] (kAa (dChk [1] (dVar 16)) (kAa (dVar 10) dNil))) dNil)) (dCB kFF (kAa (dOp2 dAdd (dVar 13) (dVar 17)) dNil)))) (kAp (dOp2 kQw (dOp2 (eqOf 1 FA9) (kAh FA2 [] (kAa (dChk [1] (dVar 16)) dNil)) (dVar 6)) (dC (.bool true))))) (dRet (dC (.bool false))) kBw
def kNG : MS := dSet 18 (dLst (kAa (dOp2 dIx (dVar 3) (dC (.int 0))) (kAa (dOp2 dIx (dVar 3) (dC (.int 1))) (kAa (dLst dNil) dNil))))
def kIK : MS := dIte (kAp (dOp2 dEq (kAn FA1 1 [] (kAa (dC (.int 2)) dNil)) (dC (.int 0)))) (dSet 18 (kAn FAk 1 [] (kAa (dVar 2) dNil))) kBw
def kFi : MS := dSet 18 (kAh FAj [] (kAa (dVar 18) (kAa (kAn FAn 1 [] (kAa (dVar 2) dNil)) (kAa (dOp2 iSub (kAn FA4 1 [] dNil) (kAn FA4 1 [] dNil)) dNil))))
def kKD : MS := dFor (kDc (kAa (kAn FA1 1 [] (kAa (dC (.int 3)) dNil)) dNil)) (gN 19) kFi
def kKC : MS := dSet 20 (dLst (kAa (dNew 1 FAa [] (kFd [0, 1, 2, 3] [.int 0, .obj 4 []] (kAa (dOp2 dIx (dVar 3) (dC (.int 0))) (kAa (dOp2 dIx (dVar 3) (dC (.int 1))) dNil)))) (kAa (dNew 1 FAa [] (kFd [0, 1, 2, 3] [.int 0, .obj 4 []] (kAa (dOp2 dIx (dVar 18) (dC (.int 0))) (kAa (dOp2 dIx (dVar 18) (dC (.int 1))) dNil)))) dNil)))
def kKB : MS := dRet (kAh FAq [] (kAa (dOp2 dIx (dVar 20) (dC (.int 0))) (kAa (dOp2 dIx (dVar 20) (dC (.int 1))) (kAa (dVar 2) (kAa (dLst (kAa (dOp2 dIx (dVar 7) (dC (.int 0))) (kAa (kAh FAp [] (kAa (dVar 2) (kAa (dVar 18) dNil))) dNil))) (kAa (dLst (kAa (dVar 10) (kAa (dVar 11) dNil))) dNil))))))
theorem kRx : kTv = (dSeq kMT (dSeq kMS (dSeq kMR (dSeq kMQ (dSeq kMP (dSeq kMO (dSeq kMN (dSeq kMM (dSeq kML (dSeq kMK (dSeq kKK (dSeq kKJ (dSeq kKI (dSeq kKH (dSeq kKG (dSeq kKF (dSeq kKE (dSeq kNG (dSeq kIK (dSeq kKD (dSeq kKC kKB))))))))))))))))))))) := rfl
end Law
namespace PL
open PySem PySem.Spec PySem.W PyProof.Rows L2 DL PL
theorem kLa {l : List Str} (nd : l.Nodup) : ∃ ns, kDk (l.map D.str) = ns.map D.str ∧ Up ns ∧ ns.Perm l := by
 have pe := List.mergeSort_perm l fun a b => dataLe false D.py (.str a) (.str b)
 have sp : (l.mergeSort fun a b => dataLe false D.py (.str a) (.str b)).Pairwise fun a b => dataLe false D.py (.str a) (.str b) = true := List.pairwise_mergeSort (le := fun a b => dataLe false D.py (.str a) (.str b)) (fun a b c => kED D.py (.str a) (.str b) (.str c)) (fun a b => kEE D.py (.str a) (.str b)) l
 refine ⟨_, (List.map_mergeSort (r := fun a b => dataLe false D.py (.str a) (.str b)) (s := dataLe false D.py) (f := D.str) (l := l) (fun _ _ _ _ => rfl)).symm, ?_, pe⟩
 refine (sp.and (pe.nodup_iff.mpr nd)).imp fun {a b} h => ?_
 obtain ⟨h1, h2⟩ := h
 have h1 : (!dataLt (D.str b).py (D.str a).py) = true := h1
 rw [kHK] at h1
 by_cases q : Lt a b
 ·exact q
 ·have e1 : dataLt (D.str a).py (D.str b).py = false := by rw [kHK]; exact gH2 q
  have e2 : dataLt (D.str b).py (D.str a).py = false := by rw [kHK]; simpa using h1
  have t := (listOrd itemOrd).total _ _ (show (listOrd itemOrd).blt (keyToks (D.str a).py) (keyToks (D.str b).py) = false from e1) e2
  have t : [Sum.inr a.cps.toList] = [Sum.inr b.cps.toList] := t
  exact absurd (str_of_cps (Sum.inr.inj (List.cons.inj t).1)) h2
def letter (n : Nat) : Str := ⟨#[97 + n]⟩
theorem kQL : ∀ n : Nat, n < 26 → atI (Str.ofString "abcdefghijklmnopqrstuvwxyz").cps.toList (n : Int) = some (97 + n) := by decide +kernel
theorem kSe {c : Int} (h0 : 0 ≤ c) (h1 : c < 26) : dIx (.str "abcdefghijklmnopqrstuvwxyz") (.int c) = some (.str (letter c.toNat)) := by
 obtain ⟨n, rfl⟩ := Int.eq_ofNat_of_zero_le h0
 show (if (Str.ofString "abcdefghijklmnopqrstuvwxyz").length ≤ sizeLine then (atI (Str.ofString "abcdefghijklmnopqrstuvwxyz").cps.toList (n : Int)).map fun c => D.str ⟨#[c]⟩ else none) = _
 rw [if_pos (by decide +kernel), kQL n (by omega)]
 rfl
structure Nms (ns : List Str) : Prop where
 up : Up ns
 nam : ∀ x ∈ ns, Nam x
 len : ns.length ≤ 10
theorem Nms.lot {ns a : List Str} (h : Nms ns) (s : a.Sublist ns) : kIq a := ⟨fun x hx => h.nam x (s.subset hx), Nat.le_trans s.length_le h.len⟩
theorem Nms.row {ns : List Str} (h : Nms ns) : Row (kHB ns) := ⟨fun l hl => h.lot (kGk.mp hl), by
 rw [kLY]
 exact Nat.pow_le_pow_right (n := 2) (by omega) h.len⟩
theorem Row.sub {a b : List (List Str)} (h : Row b) (s : a.Sublist b) : Row a := ⟨fun x hx => h.1 x (s.subset hx), Nat.le_trans s.length_le h.2⟩
end PL
namespace PL
open PySem PySem.Spec PySem.W PyProof.Rows L2 DL
inductive Rule where
 | imply (a b : List Str)
 | cap (ps : List (Str × Int)) (n : Int)
 | cut (ts : List (Str × Str × Int)) (n : Int)
 | feed (us ss : List (Str × Int)) (n : Int)
 | table (a : List Str) (ls : List (List Str))
def kBL (p : Str × Int) : D := .tup [.str p.1, .int p.2]
def Rule.few : Rule → Prop
 | .table a _ => a.length ≤ 5
 | _ => True
theorem kDo {x y : Str} {b : Bool} (h : deq (.str x) (.str y) = some b) : dEq (.str x) (.str y) = some (.bool b) := by
 unfold dEq
 rw [h]
 rfl
@[simp] theorem kQV : dEq (.str "imply") (.str "imply") = some (.bool true) := kDo (by decide +kernel)
@[simp] theorem kSN : dEq (.str "imply") (.str "cap") = some (.bool false) := kDo (by decide +kernel)
@[simp] theorem kSM : dEq (.str "imply") (.str "cut") = some (.bool false) := kDo (by decide +kernel)
@[simp] theorem kSk : dEq (.str "imply") (.str "feed") = some (.bool false) := kDo (by decide +kernel)
@[simp] theorem kQU : dEq (.str "imply") (.str "table") = some (.bool false) := kDo (by decide +kernel)
@[simp] theorem kSS : dEq (.str "cap") (.str "imply") = some (.bool false) := kDo (by decide +kernel)
@[simp] theorem kUi : dEq (.str "cap") (.str "cap") = some (.bool true) := kDo (by decide +kernel)
@[simp] theorem kUh : dEq (.str "cap") (.str "cut") = some (.bool false) := kDo (by decide +kernel)
@[simp] theorem kUb : dEq (.str "cap") (.str "feed") = some (.bool false) := kDo (by decide +kernel)
@[simp] theorem kSR : dEq (.str "cap") (.str "table") = some (.bool false) := kDo (by decide +kernel)
@[simp] theorem kSQ : dEq (.str "cut") (.str "imply") = some (.bool false) := kDo (by decide +kernel)
@[simp] theorem kUg : dEq (.str "cut") (.str "cap") = some (.bool false) := kDo (by decide +kernel)
@[simp] theorem kUf : dEq (.str "cut") (.str "cut") = some (.bool true) := kDo (by decide +kernel)
@[simp] theorem kUa : dEq (.str "cut") (.str "feed") = some (.bool false) := kDo (by decide +kernel)
@[simp] theorem kSP : dEq (.str "cut") (.str "table") = some (.bool false) := kDo (by decide +kernel)
@[simp] theorem kSm : dEq (.str "feed") (.str "imply") = some (.bool false) := kDo (by decide +kernel)
@[simp] theorem kTZ : dEq (.str "feed") (.str "cap") = some (.bool false) := kDo (by decide +kernel)
@[simp] theorem kTY : dEq (.str "feed") (.str "cut") = some (.bool false) := kDo (by decide +kernel)
@[simp] theorem kSO : dEq (.str "feed") (.str "feed") = some (.bool true) := kDo (by decide +kernel)
@[simp] theorem kSl : dEq (.str "feed") (.str "table") = some (.bool false) := kDo (by decide +kernel)
@[simp] theorem kQT : dEq (.str "table") (.str "imply") = some (.bool false) := kDo (by decide +kernel)
@[simp] theorem kSL : dEq (.str "table") (.str "cap") = some (.bool false) := kDo (by decide +kernel)
@[simp] theorem kSK : dEq (.str "table") (.str "cut") = some (.bool false) := kDo (by decide +kernel)
@[simp] theorem kSj : dEq (.str "table") (.str "feed") = some (.bool false) := kDo (by decide +kernel)
@[simp] theorem kQS : dEq (.str "table") (.str "table") = some (.bool true) := kDo (by decide +kernel)
theorem kDV {α : Type} (f : α → Int) : ∀ l : List α, kDA (l.map fun x => D.int (f x)) = some (l.map f)
 | [] => rfl
 | x :: l => by
  simp only [gG1, kDA, kDV f l]
  rfl
theorem kQi {l : List Str} (h : ∀ x ∈ l, Nam x) : (D.lst (l.map D.str)).fine = true := by
 refine kKZ (kEg fun d hd => ?_) ?_ ?_
 ·obtain ⟨x, _, rfl⟩ := gF7.mp hd
  rfl
 ·show PyData.canLay0 (.list (pyL _)) = true
  unfold PyData.canLay0
  refine kIo fun d hd => ?_
  obtain ⟨x, hx, rfl⟩ := gF7.mp hd
  exact (kEz (n := 0) (h x hx)).lay
 ·show PyData.depth (.list (pyL _)) ≤ 64
  unfold PyData.depth
  have := kHR (n := 0) (l := l.map D.str) fun d hd => by
   obtain ⟨x, _, rfl⟩ := gF7.mp hd
   exact Nat.le_refl _
  omega
theorem kUN {x : Str} {l : List Str} (hx : Nam x) (hl : ∀ y ∈ l, Nam y) : kDR (.str x) (.lst (l.map D.str)) = some (.bool (!decide (x ∈ l))) := by
 have : dIn (.str x) (.lst (l.map D.str)) = some (.bool (decide (x ∈ l))) := by
  show (if (D.str x).fine = true ∧ (D.lst (l.map D.str)).fine = true then some (D.bool ((l.map D.str).any fun y => PyData.eqv y.py (D.str x).py)) else none) = _
  rw [if_pos ⟨(kEz (n := 0) hx).fine, kQi hl⟩, kTW]
 unfold kDR
 rw [this]
theorem dNe_w {x y : D} {b : Bool} (h : deq x y = some b) : dNe x y = some (.bool (!b)) := by
 unfold dNe
 rw [h]
 rfl
@[simp] theorem kWL : dNe (.str "meet") (.str "meet") = some (.bool false) := dNe_w (b := true) (by decide +kernel)
@[simp] theorem kWM : dNe (.str "join") (.str "join") = some (.bool false) := dNe_w (b := true) (by decide +kernel)
@[simp] theorem kWK : dNe .non .non = some (.bool false) := dNe_w (b := true) (by decide +kernel)
@[simp] theorem kWP : dEq (.str "meet") (.str "meet") = some (.bool true) := kDo (by decide +kernel)
@[simp] theorem kWQ : dEq (.str "join") (.str "meet") = some (.bool false) := kDo (by decide +kernel)
@[simp] theorem kWm {x : Str} : kON (.str x) .non = some (.bool true) := rfl
@[simp] theorem kWn : kON .non .non = some (.bool false) := rfl
@[simp] theorem kWt {ds : List D} {a b : Option Int} : dCut (.tup ds) a b = some (.tup (DL.cutD ds a b)) := rfl
theorem kJh {n c m : Nat} {l : List D} (h : ∀ d ∈ l, Nice n c d) (hl : l.length ≤ m) : Nice (n + 1) (m * (c + 2) + 3) (.tup l) := by
 refine (kNV h).mono (Nat.le_refl _) ?_
 have := Nat.mul_le_mul_right (c + 2) hl
 omega
theorem ltP {p q : Str × Int} (h : Lt p.1 q.1) : dataLt (kBL p).py (kBL q).py = true := by
 show dataLt (.tuple (pyL [.str p.1, .int p.2])) (.tuple (pyL [.str q.1, .int q.2])) = true
 rw [dataLt_tuple]
 show PyProof.Rows.lexLt itemOrd (.inl 1 :: (.inr p.1.cps.toList :: _)) (.inl 1 :: (.inr q.1.cps.toList :: _)) = _
 rw [lex_self (O := itemOrd), lex_diff (O := itemOrd) (fun e => ?_)]
 ·exact gH1 h
 ·have e : p.1.cps.toList = q.1.cps.toList := Sum.inr.inj e
  have e : p.1 = q.1 := str_of_cps e
  rw [e] at h
  exact Lt.irrefl h
theorem kQJ {ns : List Str} {ps : List (Str × Int)} (hn : Up ns) (hp : (ps.map (·.1)).Sublist ns) : Asc (ps.map kBL) := by
 have u : Up (ps.map (·.1)) := hn.sub hp
 unfold Up at u
 rw [List.pairwise_map] at u
 unfold Asc
 rw [List.pairwise_map]
 exact u.imp fun {a b} q => ltP q
theorem kPf {α : Type} {f : α → D} {l : List α} (h1 : ∀ x, (f x).plain = true) (h2 : ∀ x y, alike (f x).py (f y).py = true) (h3 : ∀ x, kQc (f x).py = true) (h4 : ∀ x, (f x).py.depth ≤ 64) : kBM (l.map f) = true := by
 unfold kBM
 have p : kEx (l.map f) = true := kEg fun d hd => by
  obtain ⟨x, _, rfl⟩ := gF7.mp hd
  exact h1 x
 have a : kMz (l.map f) = true := gH5.mpr fun d hd => gH5.mpr fun e he => by
  obtain ⟨x, _, rfl⟩ := gF7.mp hd
  obtain ⟨y, _, rfl⟩ := gF7.mp he
  exact h2 x y
 have t : kQY (l.map f) = true := gH5.mpr fun d hd => by
  obtain ⟨x, _, rfl⟩ := gF7.mp hd
  exact h3 x
 have z : ((l.map f).all fun a => decide (a.py.depth ≤ 64)) = true := gH5.mpr fun d hd => by
  obtain ⟨x, _, rfl⟩ := gF7.mp hd
  exact gH1 (h4 x)
 rw [p, a, t, z]
 rfl
theorem kLB {ps : List (Str × Int)} : kBM (ps.map kBL) = true := kPf (fun _ => rfl) (fun _ _ => rfl) (fun _ => rfl) fun x => by
 show PyData.depth (.tuple [.str x.1, .int x.2]) ≤ 64
 simp [PyData.depth, PyData.depthAll]
end PL
namespace Law
open PySem PySem.Spec PySem.W PyProof.Rows L2 DL PL
theorem kUX {d : D} {b : Bool} (h : kJE "list" "tuple" d = some (.bool b)) : FAg [d] = .ok (.bool b) .non := by
 unfold FAg runF kFw
 simp [h]
end Law
namespace PL
open PySem PySem.Spec PySem.W PyProof.Rows L2 DL PL
theorem kVN {x : Str} {l : List Str} (hx : Nam x) (hl : ∀ y ∈ l, Nam y) : dIn (.str x) (.lst (l.map D.str)) = some (.bool (decide (x ∈ l))) := by
 show (if (D.str x).fine = true ∧ (D.lst (l.map D.str)).fine = true then some (D.bool ((l.map D.str).any fun y => PyData.eqv y.py (D.str x).py)) else none) = _
 rw [if_pos ⟨(kEz (n := 0) hx).fine, kQi hl⟩, kTW]
end PL
namespace Law
open PySem PySem.Spec PySem.W PyProof.Rows L2 DL PL
theorem kNd {x : Str} (h : ∀ c ∈ x.cps.toList, c < 128) (hs : x.cps.size ≤ 1000) : FAv [.str x] = .ok (.bool (isn x)) .non := by
 have sz : 4000 ≤ sizeLine := by decide
 have hsz : x.length ≤ sizeLine := by
  show x.cps.size ≤ _
  omega
 have t : dIsT "str" (.str x) = some (.bool true) := rfl
 have hlc := kBd (env := [some (.str x), none]) (gd := gN 1) (m := dOp2 dIn (dVar 1) (dC (.str "abcdefghijklmnopqrstuvwxyz"))) (vs := [1]) (fun c : Nat => D.str ⟨#[c]⟩) (fun c => .bool (low c)) (l := x.cps.toList) fun c hc => ⟨_, rfl, by simp [kAN, kVa (h c hc)]⟩
 have hsg : DL.signs x = x.cps.toList.map fun c : Nat => D.str ⟨#[c]⟩ := rfl
 unfold FAv runF kJk isn
 by_cases h1 : 1 ≤ x.cps.size
 ·by_cases h2 : x.cps.size ≤ 5
  ·have h1' : (1 : Int) ≤ x.cps.size := by omega
   have h2' : (x.cps.size : Int) ≤ 5 := by omega
   simp [t, kTx hsz, h1, h2, h1', h2', hsz, hsg, hlc, kRU]
  ·have h1' : (1 : Int) ≤ x.cps.size := by omega
   have h2' : ¬ (x.cps.size : Int) ≤ 5 := by omega
   simp [t, kTx hsz, h1, h2, h1', h2']
 ·have h1' : ¬ (1 : Int) ≤ x.cps.size := by omega
  simp [t, kTx hsz, h1, h1']
theorem kNe {x : Str} (h : Nam x) : FAv [.str x] = .ok (.bool true) .non := by
 rw [kNd (fun c hc => by have := h.2 c hc; omega) (by have := h.1; omega), kTC h]
abbrev pI (k : Nat) : D := .int (k : Int)
section
variable {ns l a b s : List Str} {xs : List D} {v d : D}
def txt (l : List Nat) : Str := ⟨l.toArray⟩
theorem kMf : ∀ (r : List Str) (a : Array Nat), (r.foldl (fun acc p => acc ++ (Str.ofString "").cps ++ p.cps) a).toList = a.toList ++ (r.map fun p => p.cps.toList).flatten
 | [], a => by simp
 | x :: r, a => by
  have e : (Str.ofString "").cps = #[] := by decide +kernel
  rw [List.foldl_cons, kMf r]
  simp [e]
theorem kMc {cs : List Nat} (h : cs.length ≤ 100) : kJT "" (.lst (cs.map fun c => D.str (letter c))) = some (.str (txt (cs.map (97 + ·)))) := by
 have e1 : kLz (cs.map fun c => D.str (letter c)) = some (cs.map letter) := by
  clear h
  induction cs with
  | nil => rfl
  | cons c cs ih =>
   rw [gG1]
   unfold kLz
   rw [ih]
   rfl
 have e2 : ((cs.map letter).map (·.length)).sum = cs.length := by
  clear h e1
  induction cs with
  | nil => rfl
  | cons c cs ih =>
   rw [gG1, gG1, List.sum_cons, ih, gG0]
   show 1 + _ = _
   omega
 have e3 : (Str.ofString "").length = 0 := by decide +kernel
 unfold kJT
 dsimp only
 rw [e1]
 dsimp only
 rw [e2, gF0]
 rw [if_pos (by rw [show (("" : Str).length) = 0 from e3]; omega)]
 congr 2
 have e4 : (Txt.join "" (cs.map letter)).cps.toList = cs.map (97 + ·) := by
  show (((cs.map letter).drop 1).foldl (fun acc p => acc ++ (Str.ofString "").cps ++ p.cps) ((cs.map letter).headD Str.empty).cps).toList = _
  rw [kMf]
  cases cs with
  | nil => rfl
  | cons c cs =>
   clear h e1 e2
   show [97 + c] ++ _ = (97 + c) :: cs.map (97 + ·)
   rw [List.singleton_append]
   congr 1
   show ((cs.map letter).map fun p => p.cps.toList).flatten = _
   induction cs with
   | nil => rfl
   | cons d ds ih =>
    rw [gG1, gG1, List.flatten_cons, ih]
    rfl
 have e5 := congrArg List.toArray e4
 rw [Array.toArray_toList] at e5
 show Txt.join "" (cs.map letter) = (⟨(cs.map (97 + ·)).toArray⟩ : Str)
 rw [← e5]
theorem kKe : ∀ {r : List D}, (∀ y ∈ r, ∃ c : Nat, c < 26 ∧ y = .str (letter c)) → ∃ cs : List Nat, r = cs.map (fun c => D.str (letter c)) ∧ ∀ c ∈ cs, c < 26
 | [], _ => ⟨[], rfl, fun _ h => nomatch h⟩
 | y :: r, h => by
  obtain ⟨c, h1, h2⟩ := h y gF1
  obtain ⟨cs, h3, h4⟩ := kKe fun z hz => h z (gF2 _ hz)
  refine ⟨c :: cs, by rw [h2, h3]; rfl, fun d hd => ?_⟩
  rcases gG5.mp hd with e | hd
  ·rw [e]; exact h1
  ·exact h4 d hd
theorem kGj {a b : Int} (h0 : -1000000 < a) (h1 : a < 1000000) : iMul (.int a) (.int b) = some (.int (a * b)) := by
 have p : (2 : Int) ^ 64 = 18446744073709551616 := by decide
 have c : (-(2 ^ 64 : Int) < a ∧ a < (2 ^ 64 : Int)) ∨ (-(2 ^ 64 : Int) < b ∧ b < (2 ^ 64 : Int)) := by
  rw [p]
  exact .inl ⟨by omega, by omega⟩
 show (if (-(2 ^ 64 : Int) < a ∧ a < (2 ^ 64 : Int)) ∨ (-(2 ^ 64 : Int) < b ∧ b < (2 ^ 64 : Int)) then some (a * b) else none).map D.int = _
 rw [if_pos c]
 rfl
theorem kAs {a b : MS} {e e' : EnvD} (h : a e = .nx e') : dSeq a b e = b e' := by
 show (a e).seq b = _
 rw [h]
 rfl
theorem kTr {l : List Nat} (h1 : 1 ≤ l.length) (h2 : l.length ≤ 5) (h : ∀ c ∈ l, 97 ≤ c ∧ c ≤ 122) : Nam (txt l) := by
 refine ⟨?_, ?_⟩
 ·show 1 ≤ l.toArray.size ∧ l.toArray.size ≤ 5
  rw [List.size_toArray]
  exact ⟨h1, h2⟩
 ·exact h
theorem kPN {a b : List Str} (ha : kIq a) (hb : kIq b) : FAw [T a, T b] = .ok (T (a.filter fun x => !decide (x ∈ b))) .non := by
 unfold FAw runF kPJ
 simp [kRD ha hb]
theorem kSy {α β : Type} {gd : D → EnvD → Option EnvD} {m : M D} {vs : List Nat} {I : EnvD → Prop} (f : α → D) (g : α → β → D) (P : α → β → Prop) : ∀ {l : List α} {env : EnvD}, I env → (∀ a ∈ l, ∀ env, I env → ∃ e1 b e3, gd (f a) (kAN env vs) = some e1 ∧ m e1 = .ok (g a b) e3 ∧ P a b ∧ I (kAN e3 vs)) →
  ∃ (us : List (α × β)) (env' : EnvD), lcGo false gd mYes m vs (l.map f) env = some (us.map (fun u => g u.1 u.2), env') ∧ us.map (·.1) = l ∧ (∀ u ∈ us, P u.1 u.2) ∧ I env'
 | [], env, i, _ => ⟨[], env, rfl, rfl, (fun _ h => nomatch h), i⟩
 | d :: ds, env, i, h => by
  obtain ⟨e1, b, e3, h1, h2, h3, h4⟩ := h d gF1 env i
  obtain ⟨us, env', q1, q2, q3, q4⟩ := kSy (l := ds) f g P h4 fun x hx => h x (gF2 _ hx)
  refine ⟨(d, b) :: us, env', ?_, by rw [gG1, q2], fun z hz => ?_, q4⟩
  ·rw [gG1]
   unfold lcGo
   simp [h1, h2, q1, mYes]
  ·rcases gG5.mp hz with rfl | hz
   ·exact h3
   ·exact q3 z hz
theorem kLQ {k : Int} {n : Nat} (h0 : 0 ≤ k) (h1 : k < (n : Int)) : ∃ j : Nat, k = (j : Int) ∧ j < n := by
 obtain ⟨j, rfl⟩ := Int.eq_ofNat_of_zero_le h0
 exact ⟨j, rfl, by omega⟩
theorem kHA {ms : M (List D)} {e e' : EnvD} {n : Nat} (h : ms e = .ok [pI n] e') (hn : n ≤ 100000) : (kDc ms) e = .ok ((List.range n).map pI) e' := by
 have sz : 100000 ≤ sizeLine := by decide
 have c : ((n : Int)).toNat ≤ sizeLine ∧ -(2 ^ 62) ≤ (n : Int) := ⟨by omega, by omega⟩
 simp only [kST, h, kAl]
 rw [if_pos c, Int.toNat_natCast, kTd]
theorem kQE {xs : List D} {i : Nat} {d : D} (h : xs[i]? = some d) : atI xs (i : Int) = some d := by
 have hi := (gF8.mp h).1
 unfold atI ixN
 rw [if_pos (by omega), if_pos (by omega)]
 exact h
def Sq (v : D) (xs : List D) : Prop := v = .lst xs ∨ v = .tup xs
theorem Sq.two (h : Sq v xs) : kJE "list" "tuple" v = some (.bool true) := by rcases h with rfl | rfl <;> rfl
theorem Sq.len (h : Sq v xs) : dLen [v] = some (.int (xs.length : Int)) := by rcases h with rfl | rfl <;> rfl
theorem Sq.tup (h : Sq v xs) : kEp [v] = some (.tup xs) := by rcases h with rfl | rfl <;> rfl
theorem kOk {gd : D → EnvD → Option EnvD} {body : MS} {I : EnvD → Prop} : ∀ {ds : List D} {env : EnvD}, I env → (∀ d ∈ ds, ∀ env, I env → ∃ e e2, gd d env = some e ∧ body e = .nx e2 ∧ I e2) → ∃ env', kDO gd body ds env = .nx env' ∧ I env'
 | [], env, i, _ => ⟨env, rfl, i⟩
 | d :: ds, env, i, h => by
  obtain ⟨e, e2, h1, h2, h3⟩ := h d gF1 env i
  obtain ⟨env', h4, h5⟩ := kOk (ds := ds) h3 fun x hx => h x (gF2 _ hx)
  refine ⟨env', ?_, h5⟩
  unfold kDO
  simp only [h1, h2, h4]
theorem kNH {a b : MS} {e : EnvD} {d : D} {e' : EnvD} (h : a e = .rt d e') : dSeq a b e = .rt d e' := by
 show (a e).seq b = _
 rw [h]
 rfl
theorem kNo {α β : Type} [DecidableEq β] (key : α → β) : ∀ {L : List β} {qs : List α}, L.Nodup → (qs.map key).Nodup → (∀ q ∈ qs, key q ∈ L) → ∃ ts : List α, qs.Perm ts ∧ (ts.map key).Sublist L
 | [], qs, _, _, sub => by
  cases qs with
  | nil => exact ⟨[], .refl _, .slnil⟩
  | cons q r => exact absurd (sub q gF1) (by simp)
 | b :: L, qs, hL, nd, sub => by
  obtain ⟨n1, n2⟩ := List.nodup_cons.mp hL
  by_cases h : ∃ q ∈ qs, key q = b
  ·obtain ⟨q, hq, e⟩ := h
   obtain ⟨s, t, rfl⟩ := List.append_of_mem hq
   have pm : (s ++ q :: t).Perm (q :: (s ++ t)) := List.perm_middle
   have nd2 : (key q :: (s ++ t).map key).Nodup := (pm.map key).nodup_iff.mp nd
   obtain ⟨m1, m2⟩ := List.nodup_cons.mp nd2
   obtain ⟨ts, p, sl⟩ := kNo key (qs := s ++ t) n2 m2 fun x hx => by
    rcases gG5.mp (sub x (pm.mem_iff.mpr (gF2 _ hx))) with w | w
    ·exact (m1 (by rw [e, ← w]; exact gF7.mpr ⟨x, hx, rfl⟩)).elim
    ·exact w
   refine ⟨q :: ts, pm.trans (p.cons q), ?_⟩
   rw [gG1, e]
   exact sl.cons_cons b
  ·obtain ⟨ts, p, sl⟩ := kNo key (qs := qs) n2 nd fun x hx => by
    rcases gG5.mp (sub x hx) with w | w
    ·exact (h ⟨x, hx, w⟩).elim
    ·exact w
   exact ⟨ts, p, sl.cons b⟩
theorem kOR {β : Type} [DecidableEq β] {L qs : List β} (hL : L.Nodup) (nd : qs.Nodup) (sub : ∀ q ∈ qs, q ∈ L) : ∃ ts : List β, qs.Perm ts ∧ ts.Sublist L := by
 obtain ⟨ts, p, s⟩ := kNo id hL (by rw [List.map_id]; exact nd) sub
 rw [List.map_id] at s
 exact ⟨ts, p, s⟩
theorem kTM (hn : Nms ns) (nd : l.Nodup) (sub : ∀ x ∈ l, x ∈ ns) : ∃ a, l.Perm a ∧ a.Sublist ns ∧ kDk (l.map D.str) = a.map D.str := by
 obtain ⟨a, p, s⟩ := kOR hn.up.nodup nd sub
 exact ⟨a, p, s, kUt p (hn.up.sub s)⟩
theorem kJH {a b : List D} (h : a.length + b.length ≤ 1000) : dAdd (.lst a) (.lst b) = some (.lst (a ++ b)) := by
 have sz : 1000 ≤ sizeLine := by decide
 rw [kUo, if_pos (by omega)]
theorem kKS {α : Type} [DecidableEq α] : ∀ {a b : List α}, a.Nodup → (∀ x ∈ a, x ∈ b) → a.length ≤ b.length
 | [], _, _, _ => Nat.zero_le _
 | x :: a, b, nd, h => by
  obtain ⟨n1, n2⟩ := List.nodup_cons.mp nd
  have hx := h x gF1
  have ih := kKS (a := a) (b := b.erase x) n2 fun y hy => (List.mem_erase_of_ne (fun e => n1 (by rw [e] at hy; exact hy))).mpr (h y (gF2 _ hy))
  have := List.length_erase_of_mem hx
  have pos := List.length_pos_of_mem hx
  rw [gG0]
  omega
end
section
variable {f g w f2 g2 : Str → Int} {fee by' : Int} {a b s : List Str} {x : Str} {r p q : List (List Str)} {l m : List Str}
abbrev lesS (a b : List Str) : List Str := a.filter fun n => !decide (n ∈ b)
def kAm (f : Str → Int) (s : List Str) : Int := (s.map f).sum
theorem kEU : kAm f [] = 0 := rfl
theorem kAV : kAm f (x :: s) = f x + kAm f s := rfl
theorem kOy (h : l.Perm m) : kAm f l = kAm f m := by
 induction h with
 | nil => rfl
 | cons x _ ih => rw [kAV, kAV, ih]
 | swap x y l => simp only [kAV]; omega
 | trans _ _ h1 h2 => exact h1.trans h2
theorem kGY (p : Str → Bool) : ∀ (s : List Str), kAm f s = kAm f (s.filter p) + kAm f (s.filter fun n => !p n)
 | [] => rfl
 | x :: s => by
  have ih := kGY p s
  rw [List.filter_cons, List.filter_cons, kAV, ih]
  cases p x
  ·simp only [Bool.not_false, if_true, gE3, if_false, kAV]; omega
  ·simp only [Bool.not_true, if_true, gE3, if_false, kAV]; omega
theorem kPb (ha : a.Nodup) (hb : b.Nodup) : kAm g (lesS a b) - kAm g (lesS b a) = kAm g a - kAm g b := by
 have h1 := kGY (f := g) (fun n => decide (n ∈ b)) a
 have h2 := kGY (f := g) (fun n => decide (n ∈ a)) b
 have pm : (a.filter fun n => decide (n ∈ b)).Perm (b.filter fun n => decide (n ∈ a)) := PL.perm_of (ha.sublist gG9) (hb.sublist gG9) fun y => by
  rw [gH0, gH0, decide_eq_true_eq, decide_eq_true_eq]
  exact And.comm
 have h3 := kOy (f := g) pm
 show kAm g (a.filter fun n => !decide (n ∈ b)) - kAm g (b.filter fun n => !decide (n ∈ a)) = _
 omega
theorem kLy : ∀ s : List Str, kAm (fun n => f n + g n) s = kAm f s + kAm g s
 | [] => rfl
 | x :: s => by rw [kAV, kAV, kAV, kLy s]; omega
theorem kHZ : ∀ s : List Str, kAm (fun _ => 0) s = 0
 | [] => rfl
 | x :: s => by rw [kAV, kHZ s]; omega
theorem kLx : ∀ s : List Str, (∀ n ∈ s, 0 ≤ f n) → 0 ≤ kAm f s
 | [], _ => Int.le_refl _
 | x :: s, h => by
  have h1 := h x gF1
  have h2 := kLx s fun n hn => h n (gF2 _ hn)
  rw [kAV]
  omega
def maxZ (ws : List Int) : Int := ((0 :: ws).find? fun m => (0 :: ws).all fun y => decide (y ≤ m)).getD 0
theorem kSx : ∀ (l : List Int), l ≠ [] → ∃ m ∈ l, ∀ y ∈ l, y ≤ m
 | [], h => absurd rfl h
 | [x], _ => ⟨x, gF1, fun y hy => by rw [gG4.mp hy]; omega⟩
 | x :: y :: r, _ => by
  obtain ⟨m, hm, h⟩ := kSx (y :: r) (List.cons_ne_nil _ _)
  by_cases c : m ≤ x
  ·refine ⟨x, gF1, fun z hz => ?_⟩
   rcases gG5.mp hz with rfl | hz
   ·omega
   ·have := h z hz
    omega
  ·refine ⟨m, gF2 _ hm, fun z hz => ?_⟩
   rcases gG5.mp hz with rfl | hz
   ·omega
   ·exact h z hz
theorem kKT (ws : List Int) : ((0 :: ws).find? fun m => (0 :: ws).all fun y => decide (y ≤ m)) = some (maxZ ws) ∧ 0 ≤ maxZ ws := by
 obtain ⟨m, hm, h⟩ := kSx (0 :: ws) (List.cons_ne_nil _ _)
 unfold maxZ
 cases e : (0 :: ws).find? fun m => (0 :: ws).all fun y => decide (y ≤ m) with
 | none =>
  have := List.find?_eq_none.mp e m hm
  exact absurd (gH5.mpr fun y hy => gH1 (h y hy)) (by simpa using this)
 | some k =>
  refine ⟨rfl, ?_⟩
  have hk := List.find?_some e
  have := gF5 (gH5.mp hk 0 gF1)
  exact this
def chgP (f g w : Str → Int) (fee : Int) (a b : List Str) : Int := if a = b then 0 else fee + kAm f (lesS b a) + kAm g (lesS a b) + maxZ ((lesS b a).map w)
def kAU (f g w : Str → Int) (fee : Int) : List Str → List (List Str) → Int
 | _, [] => 0
 | a, b :: r => chgP f g w fee a b + kAU f g w fee b r
def kJt : List Str → List (List Str) → List Str
 | a, [] => a
 | _, b :: r => kJt b r
theorem kSa (ha : a.Nodup) (hb : b.Nodup) : chgP f g w fee a b = chgP (fun n => f n + g n) (fun _ => 0) w fee a b + kAm g a - kAm g b := by
 unfold chgP
 by_cases e : a = b
 ·rw [if_pos e, if_pos e, e]
  omega
 ·rw [if_neg e, if_neg e]
  have h := kPb (g := g) ha hb
  have h2 := kLy (f := f) (g := g) (lesS b a)
  have h3 := kHZ (lesS a b)
  omega
theorem kEq : ∀ (r : List (List Str)) (a : List Str), a.Nodup → (∀ b ∈ r, b.Nodup) → kAU f g w fee a r = kAU (fun n => f n + g n) (fun _ => 0) w fee a r + kAm g a - kAm g (kJt a r)
 | [], a, _, _ => by
  show (0 : Int) = 0 + kAm g a - kAm g a
  omega
 | b :: r, a, ha, hr => by
  have hb := hr b gF1
  have h1 := kSa (f := f) (g := g) (w := w) (fee := fee) ha hb
  have h2 := kEq r b hb fun c hc => hr c (gF2 _ hc)
  show chgP f g w fee a b + kAU f g w fee b r = chgP _ _ w fee a b + kAU _ _ w fee b r + kAm g a - kAm g (kJt b r)
  omega
theorem kQB (hf : ∀ n, 0 ≤ f n) (hfee : 0 ≤ fee) : 0 ≤ chgP f (fun _ => 0) w fee a b := by
 unfold chgP
 by_cases e : a = b
 ·rw [if_pos e]; omega
 ·rw [if_neg e]
  have h1 := kLx (f := f) (lesS b a) fun n _ => hf n
  have h2 := kHZ (lesS a b)
  have h3 := (kKT ((lesS b a).map w)).2
  omega
theorem kOs (hf : ∀ n, 0 ≤ f n) (hfee : 0 ≤ fee) : ∀ (r : List (List Str)) (a : List Str), 0 ≤ kAU f (fun _ => 0) w fee a r
 | [], a => Int.le_refl _
 | b :: r, a => by
  have h1 := kQB (f := f) (w := w) (fee := fee) (a := a) (b := b) hf hfee
  have h2 := kOs hf hfee r b
  show 0 ≤ chgP f (fun _ => 0) w fee a b + kAU f (fun _ => 0) w fee b r
  omega
theorem kGs : ∀ (r : List (List Str)) (a b : List Str), kJt a (r ++ [b]) = b
 | [], a, b => rfl
 | c :: r, a, b => kGs r c b
theorem kPn (hfg : ∀ n, 0 ≤ f n + g n) (hfee : 0 ≤ fee) (ha : a.Nodup) (hr : ∀ b ∈ r, b.Nodup) : 0 ≤ kAU f g w fee a (r ++ [a]) := by
 have h1 := kEq (f := f) (g := g) (w := w) (fee := fee) (r ++ [a]) a ha fun b hb => by
  rcases gG8.mp hb with hb | hb
  ·exact hr b hb
  ·rw [gG4.mp hb]; exact ha
 have h2 := kOs (w := w) (fee := fee) hfg hfee (r ++ [a]) a
 rw [kGs] at h1
 omega
def shf (f : Str → Int) (x : Str) (d : Int) : Str → Int := fun n => if n = x then f n + d else f n
theorem kKy {d : Int} : (fun n => shf f x d n + shf g x (-d) n) = fun n => f n + g n := funext fun n => by
 unfold shf
 by_cases e : n = x
 ·rw [if_pos e, if_pos e]; omega
 ·rw [if_neg e, if_neg e]
theorem kIX {d : Int} : ∀ s : List Str, s.Nodup → kAm (shf f x d) s = kAm f s + (if x ∈ s then d else 0)
 | [], _ => by
  rw [if_neg gI2]
  rfl
 | y :: s, h => by
  obtain ⟨h1, h2⟩ := List.nodup_cons.mp h
  have ih := kIX s h2 (d := d)
  rw [kAV, kAV, ih]
  unfold shf
  by_cases e : y = x
  ·subst e
   rw [if_pos rfl, if_neg h1, if_pos gF1]
   omega
  ·rw [if_neg e]
   by_cases c : x ∈ s
   ·rw [if_pos c, if_pos (gF2 _ c)]
    omega
   ·rw [if_neg c, if_neg (fun z => (gG5.mp z).elim (fun q => e q.symm) c)]
    omega
theorem kOc : ∀ (r : List (List Str)) (a : List Str), a.Nodup → (∀ b ∈ r, b.Nodup) → (kJt a r).Nodup
 | [], a, ha, _ => ha
 | b :: r, a, ha, hr => kOc r b (hr b gF1) fun c hc => hr c (gF2 _ hc)
theorem kOP {d : Int} (ha : a.Nodup) (hr : ∀ b ∈ r, b.Nodup) : kAU (shf f x d) (shf g x (-d)) w fee a r = kAU f g w fee a r + d * ((if x ∈ kJt a r then 1 else 0) - (if x ∈ a then 1 else 0)) := by
 have h1 := kEq (f := shf f x d) (g := shf g x (-d)) (w := w) (fee := fee) r a ha hr
 have h2 := kEq (f := f) (g := g) (w := w) (fee := fee) r a ha hr
 rw [kKy] at h1
 have h3 := kIX (f := g) (x := x) (d := -d) a ha
 have h4 := kIX (f := g) (x := x) (d := -d) (kJt a r) (kOc r a ha hr)
 by_cases c1 : x ∈ a
 ·by_cases c2 : x ∈ kJt a r
  ·rw [if_pos c1] at h3 ⊢
   rw [if_pos c2] at h4 ⊢
   rw [show d * ((1 : Int) - 1) = 0 by omega]
   omega
  ·rw [if_pos c1] at h3 ⊢
   rw [if_neg c2] at h4 ⊢
   rw [show d * ((0 : Int) - 1) = -d by omega]
   omega
 ·by_cases c2 : x ∈ kJt a r
  ·rw [if_neg c1] at h3 ⊢
   rw [if_pos c2] at h4 ⊢
   rw [show d * ((1 : Int) - 0) = d by omega]
   omega
  ·rw [if_neg c1] at h3 ⊢
   rw [if_neg c2] at h4 ⊢
   rw [show d * ((0 : Int) - 0) = 0 by omega]
   omega
theorem kRY (ha : a.Nodup) (hr : ∀ b ∈ r, b.Nodup) (e : (fun n => f n + g n) = fun n => f2 n + g2 n) : kAU f g w fee a r - kAU f2 g2 w fee a r = (kAm g a - kAm g (kJt a r)) - (kAm g2 a - kAm g2 (kJt a r)) := by
 have h1 := kEq (f := f) (g := g) (w := w) (fee := fee) r a ha hr
 have h2 := kEq (f := f2) (g := g2) (w := w) (fee := fee) r a ha hr
 rw [e] at h1
 omega
theorem kOt : kAU f g (fun _ => 0) 0 [] [[x], []] = f x + g x := by
 have m1 : maxZ [0] = 0 := rfl
 have m0 : maxZ [] = 0 := rfl
 have c1 : chgP f g (fun _ => 0) 0 [] [x] = f x := by
  unfold chgP
  rw [if_neg (List.cons_ne_nil _ _).symm]
  have e1 : lesS [x] [] = [x] := rfl
  have e2 : lesS [] [x] = [] := rfl
  rw [e1, e2, kAV, kEU, kEU]
  show 0 + (f x + 0) + 0 + maxZ [0] = _
  rw [m1]
  omega
 have c2 : chgP f g (fun _ => 0) 0 [x] [] = g x := by
  unfold chgP
  rw [if_neg (List.cons_ne_nil _ _)]
  have e1 : lesS [x] [] = [x] := rfl
  have e2 : lesS [] [x] = [] := rfl
  rw [e1, e2, kAV, kEU, kEU]
  show 0 + 0 + (g x + 0) + maxZ [] = _
  rw [m0]
  omega
 show chgP f g _ 0 [] [x] + (chgP f g _ 0 [x] [] + 0) = _
 rw [c1, c2]
 omega
end
section
variable {ns : List Str} {f g : Str → Int} {v : D} {x : Str}
abbrev Itm := Bool × Str × Int
def itD (i : Itm) : D := if i.1 = true then .lst [.str i.2.1, .int i.2.2] else .tup [.str i.2.1, .int i.2.2]
structure Prs (ns : List Str) (f : Str → Int) (q : List Itm) : Prop where
 nd : (q.map (·.2.1)).Nodup
 val : ∀ i ∈ q, i.2.1 ∈ ns ∧ f i.2.1 = i.2.2
 zero : ∀ n, n ∉ q.map (·.2.1) → f n = 0
variable {q : List Itm}
theorem Prs.out (h : Prs ns f q) : ∀ n, n ∉ ns → f n = 0 := fun n hn => h.zero n fun m => by
 obtain ⟨i, hi, rfl⟩ := gF7.mp m
 exact hn (h.val i hi).1
def Con (v : D) (q : List Itm) : Prop := Sq v (q.map itD) ∨ (v = .obj 4 [] ∧ q = [])
theorem Con.items (h : Con v q) : items v = some (q.map itD) := by
 rcases h with (rfl | rfl) | ⟨rfl, rfl⟩ <;> rfl
theorem Con.two (h : Con v q) : kJE "list" "tuple" v = some (.bool true) := by
 rcases h with (rfl | rfl) | ⟨rfl, rfl⟩ <;> rfl
theorem kUV {i : Itm} : kJE "list" "tuple" (itD i) = some (.bool true) := by
 obtain ⟨b, n, k⟩ := i
 cases b <;> rfl
theorem kUW {i : Itm} : dLen [itD i] = some (.int 2) := by
 obtain ⟨b, n, k⟩ := i
 cases b <;> rfl
theorem it_0 {i : Itm} : dIx (itD i) (.int 0) = some (.str i.2.1) := by
 obtain ⟨b, n, k⟩ := i
 cases b <;> rfl
theorem it_1 {i : Itm} : dIx (itD i) (.int 1) = some (.int i.2.2) := by
 obtain ⟨b, n, k⟩ := i
 cases b <;> rfl
theorem kSz {k : Int} : FAi [.int k] = .ok (.bool true) .non := rfl
theorem kNF (h : kJE "list" "tuple" v = some (.bool true)) : FAg [v] = .ok (.bool true) .non := kUX h
theorem li_b {i : Itm} {acc : List Str} {o2 : Option D} (hx : Nam i.2.1) (ha : ∀ y ∈ acc, Nam y) (hni : i.2.1 ∉ acc) (hl : acc.length ≤ 100) :
  (dSeq kCe (dSeq kCd kCc)) [some v, some (.lst (acc.map D.str)), some (itD i)] = .nx [some v, some (.lst ((acc ++ [i.2.1]).map D.str)), some (itD i)] := by
 have sq := kNF (kUV (i := i))
 have ln := kUW (i := i)
 have n2 : dNe (.int 2) (.int 2) = some (.bool false) := by rw [kLf]; rfl
 have x0 := it_0 (i := i)
 have x1 := it_1 (i := i)
 have nm := kNe hx
 have ii := kSz (k := i.2.2)
 have ni := kVN hx ha
 rw [gH2 hni] at ni
 have ap : kCz (acc.map D.str) [.str i.2.1] = some (.non, (acc ++ [i.2.1]).map D.str) := by
  have z : 1000 ≤ sizeLine := by decide
  show (if (acc.map D.str).length < sizeLine then _ else _) = _
  rw [if_pos (by rw [gF0]; omega), gG7]
  rfl
 have b0 : kCe [some v, some (.lst (acc.map D.str)), some (itD i)] = .nx [some v, some (.lst (acc.map D.str)), some (itD i)] := by
  unfold kCe
  generalize itD i = dd at *
  simp only [kCB, u_or, kLr, kLq, kAG, kAv, u_cb, kAw, kAi, kAq, u_c, kAo, gE0, gE1, kAl, gE2, sq, kBk, kDX, Bool.not_true, gE3, if_false, ln, kAj, n2, x0, nm, x1, ii, kCL]
 have b1 : kCd [some v, some (.lst (acc.map D.str)), some (itD i)] = .nx [some v, some (.lst (acc.map D.str)), some (itD i)] := by
  unfold kCd
  generalize itD i = dd at *
  simp only [kCB, kAG, kAv, u_c, kAo, gE0, gE1, kAl, x0, kAj, ni, gE3, if_false, kCL]
 have b2 : kCc [some v, some (.lst (acc.map D.str)), some (itD i)] = .nx [some v, some (.lst ((acc ++ [i.2.1]).map D.str)), some (itD i)] := by
  unfold kCc
  generalize itD i = dd at *
  simp only [kIs, kIr, kAv, u_c, kAi, kAq, kAo, gE0, gE1, kAl, x0, kAj, ap, List.set]
 exact (kAs b0).trans ((kAs b1).trans b2)
theorem kUS : ∀ (q : List Itm) (acc : List Str) (o2 : Option D), (∀ i ∈ q, Nam i.2.1) → (∀ y ∈ acc, Nam y) → (acc ++ q.map (·.2.1)).Nodup → (acc ++ q.map (·.2.1)).length ≤ 100 →
  ∃ p2, kDO (gN 2) (dSeq kCe (dSeq kCd kCc)) (q.map itD) [some v, some (.lst (acc.map D.str)), o2] = .nx [some v, some (.lst ((acc ++ q.map (·.2.1)).map D.str)), p2]
 | [], acc, o2, _, _, _, _ => ⟨o2, by rw [List.map_nil, List.map_nil, gE2]; rfl⟩
 | i :: q, acc, o2, hq, ha, nd, hl => by
  have hx := hq i gF1
  have hni : i.2.1 ∉ acc := fun m => by
   rw [gG1] at nd
   have := (List.nodup_append.mp nd).2.2
   exact this _ m _ gF1 rfl
  have eA : acc ++ (i :: q).map (·.2.1) = (acc ++ [i.2.1]) ++ q.map (·.2.1) := by rw [gG1, List.append_assoc]; rfl
  rw [eA] at nd hl ⊢
  have b := li_b (v := v) (o2 := o2) hx ha hni (by
   rw [gG2, gG2] at hl
   omega)
  obtain ⟨p2, e⟩ := kUS q (acc ++ [i.2.1]) (some (itD i)) (fun j hj => hq j (gF2 _ hj)) (fun y hy => by
   rcases gG8.mp hy with hy | hy
   ·exact ha y hy
   ·rw [gG4.mp hy]; exact hx) nd hl
  refine ⟨p2, ?_⟩
  rw [gG1]
  unfold kDO
  have g : gN 2 (itD i) [some v, some (.lst (acc.map D.str)), o2] = some [some v, some (.lst (acc.map D.str)), some (itD i)] := rfl
  simp only [g, b]
  exact e
theorem kJs (hn : Nms ns) (h : Prs ns f q) (c : Con v q) (hl : q.length ≤ 100) : FAh [v] = .ok (.bool true) .non := by
 obtain ⟨p2, e⟩ := kUS (v := v) q [] none (fun i hi => hn.nam _ (h.val i hi).1) nofun h.nd (by rw [List.nil_append, gF0]; exact hl)
 have sq := kNF c.two
 have ci := c.items
 have st0 : kFk [some v, none, none] = .nx [some v, none, none] := by
  unfold kFk
  simp only [kCB, kLr, kLq, kAw, kAi, kAq, kAo, gE0, kAl, gE2, sq, kBk, kDX, Bool.not_true, gE3, if_false, kCL]
 have st1 : kHu [some v, none, none] = .nx [some v, some (.lst []), none] := rfl
 have st2 : kFj [some v, some (.lst []), none] = .nx [some v, some (.lst ((([] : List Str) ++ q.map (·.2.1)).map D.str)), p2] := by
  unfold kFj
  simp only [kLt, kBi, kAo, gE0, kAl, ci]
  exact e
 refine kBy (n := 3) (ds := [v]) (e := [some v, some (.lst ((([] : List Str) ++ q.map (·.2.1)).map D.str)), p2]) ?_ 0
 rw [kJR]
 exact (kAs st0).trans ((kAs st1).trans ((kAs st2).trans rfl))
def kAF (ns : List Str) (f : Str → Int) : List (Str × Int) := (ns.filter fun n => !decide (f n = 0)).map fun n => (n, f n)
abbrev kD (ns : List Str) (f : Str → Int) : D := .tup ((kAF ns f).map kBL)
theorem kHO : (kAF ns f).map (·.1) = ns.filter fun n => !decide (f n = 0) := by
 unfold kAF
 rw [gH3]
 exact List.map_id _
theorem kPV (hu : Up ns) (h : Prs ns f q) : ((q.filter fun i => !decide (i.2.2 = 0)).map (·.2)).Perm (kAF ns f) := by
 refine PL.perm_of ?_ ?_ fun p => ?_
 ·have nd := h.nd.sublist (List.Sublist.map (·.2.1) (gG9 (p := fun i : Itm => !decide (i.2.2 = 0))))
  have e : (q.filter fun i => !decide (i.2.2 = 0)).map (·.2.1) = ((q.filter fun i => !decide (i.2.2 = 0)).map (·.2)).map (·.1) := by rw [gH3]; rfl
  rw [e] at nd
  exact List.Pairwise.of_map (·.1) (fun a b (hab : a.1 ≠ b.1) z => hab (by rw [z])) nd
 ·have nd : (ns.filter fun n => !decide (f n = 0)).Nodup := hu.nodup.sublist gG9
  rw [← kHO (f := f)] at nd
  exact List.Pairwise.of_map (·.1) (fun a b (hab : a.1 ≠ b.1) z => hab (by rw [z])) nd
 ·unfold kAF
  rw [gF7, gF7]
  constructor
  ·rintro ⟨i, hi, rfl⟩
   obtain ⟨h1, h2⟩ := gH0.mp hi
   obtain ⟨h3, h4⟩ := h.val i h1
   refine ⟨i.2.1, gH0.mpr ⟨h3, by rw [h4]; exact h2⟩, by rw [h4]⟩
  ·rintro ⟨n, hn, rfl⟩
   obtain ⟨h1, h2⟩ := gH0.mp hn
   have fn : f n ≠ 0 := by simpa using h2
   have m : n ∈ q.map (·.2.1) := Decidable.by_contra fun c => fn (h.zero n c)
   obtain ⟨i, hi, rfl⟩ := gF7.mp m
   have hv := (h.val i hi).2
   exact ⟨i, gH0.mpr ⟨hi, by rw [← hv]; exact h2⟩, by rw [hv]⟩
theorem kPU (hu : Up ns) (h : Prs ns f q) : kEp [.lst (kDk ((q.filter fun i => !decide (i.2.2 = 0)).map fun i => kBL i.2))] = some (kD ns f) ∧ kBM ((q.filter fun i => !decide (i.2.2 = 0)).map fun i => kBL i.2) = true := by
 have e : (q.filter fun i => !decide (i.2.2 = 0)).map (fun i => kBL i.2) = ((q.filter fun i => !decide (i.2.2 = 0)).map (·.2)).map kBL := by rw [gH3]; rfl
 rw [e, kLC ((kPV hu h).map kBL) (kQJ hu (by rw [kHO]; exact gG9))]
 exact ⟨rfl, kLB⟩
theorem kIl (hu : Up ns) (h : Prs ns f q) (c : Con v q) : FA8 [v] = .ok (kD ns f) .non := by
 have ci := c.items
 obtain ⟨so, sk⟩ := kPU hu h
 have lc := kDa (env := [some v, none]) (gd := gN 1) (t := kAp (dOp2 dNe (dOp2 dIx (dVar 1) (dC (.int 1))) (dC (.int 0)))) (m := dTup (kAa (dOp2 dIx (dVar 1) (dC (.int 0))) (kAa (dOp2 dIx (dVar 1) (dC (.int 1))) dNil))) (vs := [1]) itD (fun i => !decide (i.2.2 = 0)) (fun i => kBL i.2) (l := q) fun i _ => ⟨_, rfl, by
  have x1 := it_1 (i := i)
  have n0 := kLf i.2.2 0
  generalize itD i = dd at *
  simp only [kAN, gN, List.set, List.foldl, kAG, kAv, u_c, kAo, gE0, gE1, kAl, x1, kAj, n0], fun _ => by
  have x0 := it_0 (i := i)
  have x1 := it_1 (i := i)
  unfold kBL
  generalize itD i = dd at *
  simp only [kAN, gN, List.set, List.foldl, kIT, kAv, u_c, kAi, kAq, kAo, gE0, gE1, kAl, x0, x1, kAj]⟩
 refine kBy (n := 2) (ds := [v]) (e := [some v, none]) ?_ 0
 rw [kJj]
 show kEK [some v, none] = _
 unfold kEK
 generalize kD ns f = KK at *
 simp only [kDC, u_cb, u_lc, kBi, kAi, kAq, kAo, gE0, kAl, ci, lc, kLA, if_pos sk, kAj, so]
theorem kIP (hu : Up ns) (h : Prs ns f q) (c : Con v q) : FAe [v] = .ok (kD ns f) .non := kIl hu h c
def look : List (Str × Int) → Str → Int
 | [], _ => 0
 | p :: ps, x => if p.1 = x then p.2 else look ps x
theorem kLV : ∀ {ns : List Str}, look (kAF ns f) x = if x ∈ ns then f x else 0
 | [] => rfl
 | n :: ns => by
  have ih := kLV (ns := ns)
  unfold kAF
  rw [List.filter_cons]
  by_cases e : f n = 0
  ·rw [gH1 e, if_neg (by decide)]
   show look (kAF ns f) x = _
   rw [ih]
   by_cases c : x = n
   ·subst c
    rw [if_pos gF1, e]
    by_cases m : x ∈ ns
    ·rw [if_pos m]
    ·rw [if_neg m]
   ·by_cases m : x ∈ ns
    ·rw [if_pos m, if_pos (gF2 _ m)]
    ·rw [if_neg m, if_neg (fun z => (gG5.mp z).elim c m)]
  ·rw [gH2 e, if_pos (by decide)]
   show (if n = x then f n else look (kAF ns f) x) = _
   by_cases c : n = x
   ·subst c
    rw [if_pos rfl, if_pos gF1]
   ·rw [if_neg c, ih]
    by_cases m : x ∈ ns
    ·rw [if_pos m, if_pos (gF2 _ m)]
    ·rw [if_neg m, if_neg (fun z => (gG5.mp z).elim (fun q => c q.symm) m)]
theorem kNZ (hz : ∀ n, n ∉ ns → f n = 0) : look (kAF ns f) x = f x := by
 rw [kLV]
 by_cases m : x ∈ ns
 ·rw [if_pos m]
 ·rw [if_neg m, hz x m]
theorem kUM {V : D} (hx : Nam x) : ∀ (ps : List (Str × Int)) (o2 o3 : Option D), (∀ p ∈ ps, Nam p.1) →
  (∃ e, kDO (gT 2 (kBe (gN 2) (kBe (gN 3) kFC))) kBj (ps.map kBL) [some V, some (.str x), o2, o3] = .rt (.int (look ps x)) e) ∨ (look ps x = 0 ∧ ∃ p2 p3, kDO (gT 2 (kBe (gN 2) (kBe (gN 3) kFC))) kBj (ps.map kBL) [some V, some (.str x), o2, o3] = .nx [some V, some (.str x), p2, p3])
 | [], o2, o3, _ => .inr ⟨rfl, o2, o3, rfl⟩
 | p :: ps, o2, o3, hp => by
  have g : gT 2 (kBe (gN 2) (kBe (gN 3) kFC)) (kBL p) [some V, some (.str x), o2, o3] = some [some V, some (.str x), some (.str p.1), some (.int p.2)] := rfl
  have dq : dEq (.str p.1) (.str x) = some (.bool (decide (p.1 = x))) := by
   show (deq _ _).map D.bool = _
   rw [kLg (hp p gF1) hx]
   rfl
  rw [gG1]
  by_cases c : p.1 = x
  ·rw [gH1 c] at dq
   have b : kBj [some V, some (.str x), some (.str p.1), some (.int p.2)] = .rt (.int p.2) [some V, some (.str x), some (.str p.1), some (.int p.2)] := by
    unfold kBj
    simp only [kCB, kAG, kAv, kAo, gE0, gE1, kAl, dq, kAj, if_true, kDC]
   have lk : look (p :: ps) x = p.2 := if_pos c
   rw [lk]
   refine .inl ⟨[some V, some (.str x), some (.str p.1), some (.int p.2)], ?_⟩
   unfold kDO
   simp only [g, b]
  ·rw [gH2 c] at dq
   have b : kBj [some V, some (.str x), some (.str p.1), some (.int p.2)] = .nx [some V, some (.str x), some (.str p.1), some (.int p.2)] := by
    unfold kBj
    simp only [kCB, kAG, kAv, kAo, gE0, gE1, kAl, dq, kAj, gE3, if_false, kCL]
   have lk : look (p :: ps) x = look ps x := if_neg c
   rw [lk]
   rcases kUM (V := V) hx ps (some (.str p.1)) (some (.int p.2)) fun r hr => hp r (gF2 _ hr) with ⟨e, h⟩ | ⟨z, p2, p3, h⟩
   ·refine .inl ⟨e, ?_⟩
    unfold kDO
    simp only [g, b]
    exact h
   ·refine .inr ⟨z, p2, p3, ?_⟩
    unfold kDO
    simp only [g, b]
    exact h
theorem kGe (hn : Nms ns) (hz : ∀ n, n ∉ ns → f n = 0) (hx : Nam x) : FAb [kD ns f, .str x] = .ok (.int (f x)) .non := by
 have nam : ∀ p ∈ kAF ns f, Nam p.1 := fun p hp => by
  unfold kAF at hp
  obtain ⟨n, hn', rfl⟩ := gF7.mp hp
  exact hn.nam n (gH0.mp hn').1
 have it : (kAr (dVar 0)) [some (kD ns f), some (.str x), none, none] = .ok ((kAF ns f).map kBL) [some (kD ns f), some (.str x), none, none] := rfl
 rcases kUM (V := kD ns f) hx (kAF ns f) none none nam with ⟨e, h⟩ | ⟨z, p2, p3, h⟩
 ·rw [kNZ hz] at h
  refine kBy (n := 4) (ds := [kD ns f, .str x]) (e := e) ?_ 0
  rw [kGU]
  refine kNH ?_
  show kCS [some (kD ns f), some (.str x), none, none] = _
  unfold kCS
  rw [kLt, it]
  exact h
 ·rw [kNZ hz] at z
  rw [z]
  refine kBy (n := 4) (ds := [kD ns f, .str x]) (e := [some (kD ns f), some (.str x), p2, p3]) ?_ 0
  rw [kGU]
  have st0 : kCS [some (kD ns f), some (.str x), none, none] = .nx [some (kD ns f), some (.str x), p2, p3] := by
   unfold kCS
   rw [kLt, it]
   exact h
  exact (kAs st0).trans rfl
end
section
variable {ns : List Str} {f g w : Str → Int} {fee : Int} {va vb vc v : D} {qa qb qc q : List Itm} {x : Str}
structure Oks (ns : List Str) (f g w : Str → Int) (fee : Int) : Prop where
 hn : Nms ns
 fz : ∀ n, n ∉ ns → f n = 0
 gz : ∀ n, n ∉ ns → g n = 0
 wz : ∀ n, n ∉ ns → w n = 0
 pos : ∀ n, 0 ≤ f n + g n
 fee0 : 0 ≤ fee
 w0 : ∀ n, 0 ≤ w n
theorem Prs.le (hn : Nms ns) (h : Prs ns f q) : q.length ≤ 100 := by
 have h1 : (q.map (·.2.1)).length ≤ ns.length := kKS h.nd fun n hn' => by
  obtain ⟨i, hi, rfl⟩ := gF7.mp hn'
  exact (h.val i hi).1
 rw [gF0] at h1
 have := hn.len
 omega
theorem kGF : (kAF ns f).length ≤ ns.length := by
 unfold kAF
 rw [gF0]
 exact List.length_filter_le _ _
abbrev eW (va vb vf vc : D) (o4 o5 o6 o7 o8 : Option D) : EnvD := [some va, some vb, some vf, some vc, o4, o5, o6, o7, o8]
theorem wr_b {p : Str × Int} (k : Oks ns f g w fee) (hp : Nam p.1) {vf : D} {o6 o7 : Option D} : kBZ (eW va vb vf vc (some (kD ns f)) (some (kD ns g)) (some (.str p.1)) (some (.int p.2)) none) = .nx (eW va vb vf vc (some (kD ns f)) (some (kD ns g)) (some (.str p.1)) (some (.int p.2)) none) := by
 have n1 := kGe k.hn k.fz hp
 have n2 := kGe k.hn k.gz hp
 have ad : dAdd (.int (f p.1)) (.int (g p.1)) = some (.int (f p.1 + g p.1)) := rfl
 have lt : dLt (.int (f p.1 + g p.1)) (.int 0) = some (.bool false) := by
  show some (D.bool (decide (f p.1 + g p.1 < 0))) = _
  have := k.pos p.1
  rw [gH2 (by omega)]
 unfold kBZ
 unfold kD at n1 n2 ⊢
 generalize D.tup ((kAF ns f).map kBL) = KF at *
 generalize D.tup ((kAF ns g).map kBL) = KG at *
 simp only [kCB, kAG, kAv, kAw, u_c, kAi, kAq, kAo, gE0, gE1, kAl, gE2, n1, n2, kBk, ad, kAj, lt, gE3, if_false, kCL]
theorem kQK {α : Type} (l : List α) : dAny [.lst (l.map fun _ => D.bool false)] = some (.bool false) := by
 induction l with
 | nil => rfl
 | cons a l ih =>
  unfold dAny at ih ⊢
  simp only [gG1, kDp] at ih ⊢
  cases e : kDp (l.map fun _ => D.bool false) with
  | none => rw [e] at ih; cases ih
  | some bs =>
   rw [e] at ih
   simpa using ih
theorem kQQ (k : Oks ns f g w fee) (ha : Prs ns f qa) (ca : Con va qa) (hb : Prs ns g qb) (cb : Con vb qb) (hc : Prs ns w qc) (cc : Con vc qc) : FAm [va, vb, .int fee, vc] = .ok .non .non := by
 have hn := k.hn
 have l1 := kJs hn ha ca (ha.le hn)
 have l2 := kJs hn hb cb (hb.le hn)
 have l3 := kJs hn hc cc (hc.le hn)
 have k1 := kIl hn.up ha ca
 have k2 := kIl hn.up hb cb
 have ii := kSz (k := fee)
 have st0 : kDI (eW va vb (.int fee) vc none none none none none) = .nx (eW va vb (.int fee) vc none none none none none) := by
  unfold kDI
  simp only [kCB, kLr, kLq, kAw, kAi, kAq, kAo, gE0, gE1, kAl, gE2, l1, kBk, kDX, Bool.not_true, gE3, if_false, kCL]
 have st1 : kDH (eW va vb (.int fee) vc none none none none none) = .nx (eW va vb (.int fee) vc none none none none none) := by
  unfold kDH
  simp only [kCB, kLr, kLq, kAw, kAi, kAq, kAo, gE0, gE1, kAl, gE2, l2, kBk, kDX, Bool.not_true, gE3, if_false, kCL]
 have st2 : kDG (eW va vb (.int fee) vc none none none none none) = .nx (eW va vb (.int fee) vc (some (kD ns f)) (some (kD ns g)) none none none) := by
  unfold kDG
  simp only [kJK, kAw, kAi, kAq, kAo, gE0, gE1, kAl, gE2, k1, k2, kBk, List.set, kJJ, kGN]
 have ad : dAdd (kD ns f) (kD ns g) = some (.tup ((kAF ns f ++ kAF ns g).map kBL)) := by
  have z : 1000 ≤ sizeLine := by decide
  have h1 := kGF (ns := ns) (f := f)
  have h2 := kGF (ns := ns) (f := g)
  have h3 := hn.len
  show (if ((kAF ns f).map kBL).length + ((kAF ns g).map kBL).length ≤ sizeLine then _ else _) = _
  rw [if_pos (by rw [gF0, gF0]; omega), gG7]
 have nam : ∀ p ∈ kAF ns f ++ kAF ns g, Nam p.1 := fun p hp => by
  rcases gG8.mp hp with hp | hp <;>
  ·unfold kAF at hp
   obtain ⟨n, hn', rfl⟩ := gF7.mp hp
   exact hn.nam n (gH0.mp hn').1
 obtain ⟨env', e3, o6, o7, rfl⟩ := kOk (gd := gT 2 (kBe (gN 6) (kBe (gN 7) kFC))) (body := kBZ) (I := fun e => ∃ o6 o7, e = eW va vb (.int fee) vc (some (kD ns f)) (some (kD ns g)) o6 o7 none) (ds := (kAF ns f ++ kAF ns g).map kBL) (env := eW va vb (.int fee) vc (some (kD ns f)) (some (kD ns g)) none none none) ⟨none, none, rfl⟩ fun d hd env hI => by
  obtain ⟨o6, o7, rfl⟩ := hI
  obtain ⟨p, hp, rfl⟩ := gF7.mp hd
  exact ⟨eW va vb (.int fee) vc (some (kD ns f)) (some (kD ns g)) (some (.str p.1)) (some (.int p.2)) none, _, rfl, wr_b (o6 := o6) (o7 := o7) k (nam p hp), _, _, rfl⟩
 have st3 : kDF (eW va vb (.int fee) vc (some (kD ns f)) (some (kD ns g)) none none none) = .nx (eW va vb (.int fee) vc (some (kD ns f)) (some (kD ns g)) o6 o7 none) := by
  have it : (kAr (dOp2 dAdd (dVar 4) (dVar 5))) (eW va vb (.int fee) vc (some (kD ns f)) (some (kD ns g)) none none none) = .ok ((kAF ns f ++ kAF ns g).map kBL) (eW va vb (.int fee) vc (some (kD ns f)) (some (kD ns g)) none none none) := by
   simp only [kBi, kAv, kAo, gE0, gE1, kAl, ad, kAj, kUm]
  unfold kDF
  rw [kLt, it]
  exact e3
 have st4 : kDE (eW va vb (.int fee) vc (some (kD ns f)) (some (kD ns g)) o6 o7 none) = .nx (eW va vb (.int fee) vc (some (kD ns f)) (some (kD ns g)) o6 o7 none) := by
  have lt : dLt (.int fee) (.int 0) = some (.bool false) := by
   show some (D.bool (decide (fee < 0))) = _
   have := k.fee0
   rw [gH2 (by omega)]
  unfold kDE
  simp only [kCB, u_or, kLr, kLq, kAG, kAv, u_c, kAw, kAi, kAq, kAo, gE0, gE1, kAl, gE2, ii, kBk, kDX, Bool.not_true, gE3, if_false, lt, kAj, kCL]
 have st5 : kDD (eW va vb (.int fee) vc (some (kD ns f)) (some (kD ns g)) o6 o7 none) = .nx (eW va vb (.int fee) vc (some (kD ns f)) (some (kD ns g)) o6 o7 none) := by
  have ci := cc.items
  have lc := kBd (env := eW va vb (.int fee) vc (some (kD ns f)) (some (kD ns g)) o6 o7 none) (gd := gN 8) (m := dOp2 dLt (dOp2 dIx (dVar 8) (dC (.int 1))) (dC (.int 0))) (vs := [8]) itD (fun _ => .bool false) (l := qc) fun i hi => ⟨_, rfl, by
   have x1 := it_1 (i := i)
   have lt : dLt (.int i.2.2) (.int 0) = some (.bool false) := by
    show some (D.bool (decide (i.2.2 < 0))) = _
    have h1 := k.w0 i.2.1
    rw [(hc.val i hi).2] at h1
    rw [gH2 (by omega)]
   generalize itD i = dd at *
   simp only [kAN, gN, List.set, List.foldl, kAv, u_c, kAo, gE0, gE1, kAl, x1, kAj, lt]⟩
  have an := kQK qc
  unfold kDD
  generalize qc.map (fun _ => D.bool false) = AF at *
  simp only [kCB, u_or, kLr, kLq, kAw, u_cb, u_lc, kBi, kAi, kAq, kAo, gE0, gE1, kAl, gE2, l3, kBk, kDX, Bool.not_true, gE3, if_false, ci, lc, an, kAj, kCL]
 refine kBy (n := 9) (ds := [va, vb, .int fee, vc]) (e := eW va vb (.int fee) vc (some (kD ns f)) (some (kD ns g)) o6 o7 none) ?_ 0
 rw [kIj]
 exact (kAs st0).trans ((kAs st1).trans ((kAs st2).trans ((kAs st3).trans ((kAs st4).trans ((kAs st5).trans rfl)))))
abbrev pD (ns : List Str) (f g w : Str → Int) (fee : Int) : D := .obj 68 [kD ns f, kD ns g, .int fee, kD ns w]
theorem kJv (k : Oks ns f g w fee) (ha : Prs ns f qa) (ca : Con va qa) (hb : Prs ns g qb) (cb : Con vb qb) (hc : Prs ns w qc) (cc : Con vc qc) : FAa [.obj 64 [], va, vb, .int fee, vc] = .ok .non (pD ns f g w fee) := by
 have hn := k.hn
 have wr := kQQ k ha ca hb cb hc cc
 have k1 := kIl hn.up ha ca
 have k2 := kIl hn.up hb cb
 have k3 := kIl hn.up hc cc
 have s0 : kON .non .non = some (.bool false) := rfl
 have g1 : ∀ x : D, kHs kGr 64 [] x = some (.obj 65 [x]) := fun _ => rfl
 have g2 : ∀ a x : D, kHs kHM 65 [a] x = some (.obj 66 [a, x]) := fun _ _ => rfl
 have g3 : ∀ a b x : D, kHs kLT 66 [a, b] x = some (.obj 67 [a, b, x]) := fun _ _ _ => rfl
 have g4 : ∀ a b c x : D, kHs kHL 67 [a, b, c] x = some (.obj 68 [a, b, c, x]) := fun _ _ _ _ => rfl
 unfold FAa runF
 rw [kGK]
 unfold kEe kEd kEc kEb kEa kDZ
 unfold pD kD at *
 generalize D.tup ((kAF ns f).map kBL) = KF at *
 generalize D.tup ((kAF ns g).map kBL) = KG at *
 generalize D.tup ((kAF ns w).map kBL) = KW at *
 simp [wr, k1, k2, k3, s0, g1, g2, g3, g4]
theorem kKr (k : Oks ns f g w fee) (hx : Nam x) : FA5 [pD ns f g w fee, .str x] = .ok (.int (f x)) .non := by
 have n1 := kGe k.hn k.fz hx
 have fl : kDd kBn (pD ns f g w fee) = some (kD ns f) := rfl
 refine kBy (n := 2) (ds := [pD ns f g w fee, .str x]) (e := [some (pD ns f g w fee), some (.str x)]) ?_ 0
 show kDf [some (pD ns f g w fee), some (.str x)] = _
 unfold kDf
 simp only [kDC, kAw, kIU, kAi, kAq, kAo, gE0, gE1, kAl, gE2, fl, kAj, n1, kBk]
theorem kMG (k : Oks ns f g w fee) (hx : Nam x) : FA6 [pD ns f g w fee, .str x] = .ok (.int (g x)) .non := by
 have n1 := kGe k.hn k.gz hx
 have fl : kDd kCb (pD ns f g w fee) = some (kD ns g) := rfl
 refine kBy (n := 2) (ds := [pD ns f g w fee, .str x]) (e := [some (pD ns f g w fee), some (.str x)]) ?_ 0
 show kDv [some (pD ns f g w fee), some (.str x)] = _
 unfold kDv
 simp only [kDC, kAw, kIU, kAi, kAq, kAo, gE0, gE1, kAl, gE2, fl, kAj, n1, kBk]
theorem kSJ (k : Oks ns f g w fee) (hx : Nam x) : FAd [pD ns f g w fee, .str x] = .ok (.int (w x)) .non := by
 have n1 := kGe k.hn k.wz hx
 have fl : kDd kCa (pD ns f g w fee) = some (kD ns w) := rfl
 refine kBy (n := 2) (ds := [pD ns f g w fee, .str x]) (e := [some (pD ns f g w fee), some (.str x)]) ?_ 0
 show kEu [some (pD ns f g w fee), some (.str x)] = _
 unfold kEu
 simp only [kDC, kAw, kIU, kAi, kAq, kAo, gE0, gE1, kAl, gE2, fl, kAj, n1, kBk]
end
section
variable {ns a b : List Str} {f g w : Str → Int} {fee : Int} {va vb vc v d1 d2 d3 : D} {qa qb qc q : List Itm} {x : Str} {r : List (List Str)}
theorem kQj (ha : kIq a) (hb : kIq b) : dEq (T a) (T b) = some (.bool (decide (a = b))) := by
 show (deq _ _).map D.bool = _
 rw [kVP ha hb]
 rfl
theorem kHY (f : Str → Int) (l : List Str) : dSum [.lst (l.map fun n => D.int (f n))] = some (.int (kAm f l)) := by
 show (kDA (l.map fun n => D.int (f n))).map (fun bs => D.int bs.sum) = _
 rw [kDV]
 rfl
theorem kPI (w : Str → Int) (l : List Str) : kNm [.lst (.int 0 :: l.map fun n => D.int (w n))] = some (.int (maxZ (l.map w))) := by
 have e : kDA (.int 0 :: l.map fun n => D.int (w n)) = some (0 :: l.map w) := by
  show (kDA (l.map fun n => D.int (w n))).map (0 :: ·) = _
  rw [kDV]
  rfl
 show (kDA (.int 0 :: l.map fun n => D.int (w n))).bind _ = _
 rw [e]
 show ((0 :: l.map w).find? fun m => (0 :: l.map w).all fun y => decide (y ≤ m)).map D.int = _
 rw [(kKT (l.map w)).1]
 rfl
abbrev eCh (P : D) (a b : D) (o3 o4 : Option D) : EnvD := [some P, some a, some b, o3, o4, none]
theorem kMu (k : Oks ns f g w fee) (ha : a.Sublist ns) (hb : b.Sublist ns) : FA7 [pD ns f g w fee, T a, T b] = .ok (.int (chgP f g w fee a b)) .non := by
 have hn := k.hn
 have q := kQj (hn.lot ha) (hn.lot hb)
 have chk : ∀ e : EnvD, dChk [1] (dVar 0) (some (pD ns f g w fee) :: e) = .ok (pD ns f g w fee) (some (pD ns f g w fee) :: e) := fun _ => rfl
 unfold chgP
 by_cases c : a = b
 ·rw [if_pos c]
  rw [gH1 c] at q
  refine kBy (n := 6) (ds := [pD ns f g w fee, T a, T b]) (e := eCh (pD ns f g w fee) (T a) (T b) none none) ?_ 0
  rw [kDz]
  refine kNH ?_
  show kBl (eCh (pD ns f g w fee) (T a) (T b) none none) = _
  unfold kBl
  simp only [kCB, kAG, kAv, u_c, kAo, gE0, gE1, kAl, q, kAj, if_true, kDC]
 ·rw [if_neg c]
  rw [gH2 c] at q
  have l1 : FAw [T b, T a] = .ok (T (lesS b a)) .non := kPN (hn.lot hb) (hn.lot ha)
  have l2 : FAw [T a, T b] = .ok (T (lesS a b)) .non := kPN (hn.lot ha) (hn.lot hb)
  have nb : ∀ n ∈ lesS b a, Nam n := fun n h => hn.nam n (hb.subset (gH0.mp h).1)
  have na : ∀ n ∈ lesS a b, Nam n := fun n h => hn.nam n (ha.subset (gH0.mp h).1)
  have fl : kDd kFB (pD ns f g w fee) = some (.int fee) := rfl
  have st0 : kBl (eCh (pD ns f g w fee) (T a) (T b) none none) = .nx (eCh (pD ns f g w fee) (T a) (T b) none none) := by
   unfold kBl
   simp only [kCB, kAG, kAv, u_c, kAo, gE0, gE1, kAl, q, kAj, gE3, if_false, kCL]
  have st1 : kCG (eCh (pD ns f g w fee) (T a) (T b) none none) = .nx (eCh (pD ns f g w fee) (T a) (T b) (some (T (lesS b a))) none) := by
   unfold kCG
   simp only [kDj, kAw, kAi, kAq, kAo, gE0, gE1, kAl, gE2, l1, kBk, List.set]
  have lc1 := kBd (env := eCh (pD ns f g w fee) (T a) (T b) (some (T (lesS b a))) none) (gd := gN 5) (m := kAh FA5 [] (kAa (dChk [1] (dVar 0)) (kAa (dVar 5) dNil))) (vs := [5]) D.str (fun n => D.int (f n)) (l := lesS b a) fun n hn' => ⟨_, rfl, by
   have p := kKr k (nb n hn')
   simp only [kAN, gN, List.set, List.foldl, kAw, kAi, kAq, chk, kAo, gE0, gE1, kAl, gE2, p, kBk]⟩
  have s1 := kHY f (lesS b a)
  have ad : dAdd (.int fee) (.int (kAm f (lesS b a))) = some (.int (fee + kAm f (lesS b a))) := rfl
  have iT1 : items (T (lesS b a)) = some ((lesS b a).map D.str) := rfl
  have st2 : kCF (eCh (pD ns f g w fee) (T a) (T b) (some (T (lesS b a))) none) = .nx (eCh (pD ns f g w fee) (T a) (T b) (some (T (lesS b a))) (some (.int (fee + kAm f (lesS b a))))) := by
   unfold kCF
   generalize pD ns f g w fee = PP at *
   generalize T (lesS b a) = TT at *
   simp only [kDj, kAv, kIU, u_cb, u_lc, kBi, kAi, kAq, kAo, gE0, gE1, kAl, fl, kAj, iT1, lc1, s1, ad, List.set]
  have lc2 := kBd (env := eCh (pD ns f g w fee) (T a) (T b) (some (T (lesS b a))) (some (.int (fee + kAm f (lesS b a))))) (gd := gN 5) (m := kAh FA6 [] (kAa (dChk [1] (dVar 0)) (kAa (dVar 5) dNil))) (vs := [5]) D.str (fun n => D.int (g n)) (l := lesS a b) fun n hn' => ⟨_, rfl, by
   have p := kMG k (na n hn')
   simp only [kAN, gN, List.set, List.foldl, kAw, kAi, kAq, chk, kAo, gE0, gE1, kAl, gE2, p, kBk]⟩
  have s2 := kHY g (lesS a b)
  have iT2 : items (T (lesS a b)) = some ((lesS a b).map D.str) := rfl
  have ag : aAdd (.int (fee + kAm f (lesS b a))) (.int (kAm g (lesS a b))) = some (.int (fee + kAm f (lesS b a) + kAm g (lesS a b))) := rfl
  have st3 : kCE (eCh (pD ns f g w fee) (T a) (T b) (some (T (lesS b a))) (some (.int (fee + kAm f (lesS b a))))) = .nx (eCh (pD ns f g w fee) (T a) (T b) (some (T (lesS b a))) (some (.int (fee + kAm f (lesS b a) + kAm g (lesS a b))))) := by
   unfold kCE dAug
   generalize pD ns f g w fee = PP at *
   generalize T (lesS a b) = TT at *
   simp only [u_cb, u_lc, kBi, kAw, kAi, kAq, kAo, gE0, gE1, kAl, gE2, l2, kBk, iT2, lc2, s2, kAj, ag, List.set]
  have lc3 := kBd (env := eCh (pD ns f g w fee) (T a) (T b) (some (T (lesS b a))) (some (.int (fee + kAm f (lesS b a) + kAm g (lesS a b))))) (gd := gN 5) (m := kAh FAd [] (kAa (dChk [1] (dVar 0)) (kAa (dVar 5) dNil))) (vs := [5]) D.str (fun n => D.int (w n)) (l := lesS b a) fun n hn' => ⟨_, rfl, by
   have p := kSJ k (nb n hn')
   simp only [kAN, gN, List.set, List.foldl, kAw, kAi, kAq, chk, kAo, gE0, gE1, kAl, gE2, p, kBk]⟩
  have lb : (lesS b a).length ≤ 10 := Nat.le_trans (List.length_filter_le _ _) (hn.lot hb).2
  have a0 : dAdd (.lst [.int 0]) (.lst ((lesS b a).map fun n => D.int (w n))) = some (.lst (.int 0 :: (lesS b a).map fun n => D.int (w n))) := kJH (by rw [gF0, gG3]; omega)
  have mx := kPI w (lesS b a)
  have ad2 : dAdd (.int (fee + kAm f (lesS b a) + kAm g (lesS a b))) (.int (maxZ ((lesS b a).map w))) = some (.int (fee + kAm f (lesS b a) + kAm g (lesS a b) + maxZ ((lesS b a).map w))) := rfl
  refine kBy (n := 6) (ds := [pD ns f g w fee, T a, T b]) (e := eCh (pD ns f g w fee) (T a) (T b) (some (T (lesS b a))) (some (.int (fee + kAm f (lesS b a) + kAm g (lesS a b))))) ?_ 0
  rw [kDz]
  refine (kAs st0).trans ((kAs st1).trans ((kAs st2).trans ((kAs st3).trans ?_)))
  unfold kDP
  generalize pD ns f g w fee = PP at *
  generalize T (lesS b a) = TT at *
  generalize D.lst (.int 0 :: (lesS b a).map fun n => D.int (w n)) = MM at *
  simp only [kDC, kAv, u_cb, kET, u_lc, kBi, u_c, kAi, kAq, kAo, gE0, gE1, kAl, iT1, lc3, a0, kAj, mx, ad2]
def kHC : List Str → List (List Str) → List (List Str × List Str)
 | _, [] => []
 | a, b :: r => (a, b) :: kHC b r
theorem kLn : ∀ (r : List (List Str)) (a : List Str), zipD ((a :: r).map T) (r.map T) = (kHC a r).map fun p => .tup [T p.1, T p.2]
 | [], a => rfl
 | b :: r, a => by
  have ih := kLn r b
  show D.tup [T a, T b] :: zipD ((b :: r).map T) (r.map T) = _
  rw [ih]
  rfl
theorem kLS : ∀ (r : List (List Str)) (a : List Str) (p : List Str × List Str), p ∈ kHC a r → (p.1 = a ∨ p.1 ∈ r) ∧ p.2 ∈ r
 | [], a, p, h => by cases h
 | b :: r, a, p, h => by
  rcases gG5.mp h with rfl | h
  ·exact ⟨.inl rfl, gF1⟩
  ·obtain ⟨h1, h2⟩ := kLS r b p h
   refine ⟨.inr ?_, gF2 _ h2⟩
   rcases h1 with e | h1
   ·rw [e]; exact gF1
   ·exact gF2 _ h1
theorem kLw : ∀ (r : List (List Str)) (a : List Str), ((kHC a r).map fun p => chgP f g w fee p.1 p.2).sum = kAU f g w fee a r
 | [], a => rfl
 | b :: r, a => by
  show chgP f g w fee a b + ((kHC b r).map _).sum = _
  rw [kLw r b]
  rfl
theorem kDw (k : Oks ns f g w fee) (ha : a.Sublist ns) (hr : ∀ b ∈ r, b.Sublist ns) : FA3 [pD ns f g w fee, .lst ((a :: r).map T)] = .ok (.int (kAU f g w fee a r)) .non := by
 have chk : ∀ e : EnvD, dChk [1] (dVar 0) (some (pD ns f g w fee) :: e) = .ok (pD ns f g w fee) (some (pD ns f g w fee) :: e) := fun _ => rfl
 have ct : dCut (.lst ((a :: r).map T)) (some 1) none = some (.lst (r.map T)) := by
  show some (D.lst (DL.cutD ((a :: r).map T) (some 1) none)) = _
  rw [kRV _ (by omega)]
  rfl
 have cR : (D.lst ((a :: r).map T)).cuts = true := rfl
 have it : (dZip (kAa (dVar 1) (kAa (kFM (dVar 1) (some (dC (.int 1))) none) dNil))) [some (pD ns f g w fee), some (.lst ((a :: r).map T)), none, none] = .ok ((kHC a r).map fun p => .tup [T p.1, T p.2]) [some (pD ns f g w fee), some (.lst ((a :: r).map T)), none, none] := by
  rw [← kLn]
  unfold dZip
  have e : (kAa (dVar 1) (kAa (kFM (dVar 1) (some (dC (.int 1))) none) dNil)) [some (pD ns f g w fee), some (.lst ((a :: r).map T)), none, none] = .ok [.lst ((a :: r).map T), .lst (r.map T)] [some (pD ns f g w fee), some (.lst ((a :: r).map T)), none, none] := by
   generalize D.lst ((a :: r).map T) = RR at *
   simp only [kAi, kAq, kOX, kOZ, kOY, u_c, kAo, gE0, gE1, kAl, cR, cond_true, ct, kAj]
  rw [e]
  rfl
 have lc := kBd (env := [some (pD ns f g w fee), some (.lst ((a :: r).map T)), none, none]) (gd := gT 2 (kBe (gN 2) (kBe (gN 3) kFC))) (m := kAh FA7 [] (kAa (dChk [1] (dVar 0)) (kAa (dVar 2) (kAa (dVar 3) dNil)))) (vs := [2, 3]) (fun p : List Str × List Str => D.tup [T p.1, T p.2]) (fun p => D.int (chgP f g w fee p.1 p.2)) (l := kHC a r) fun p hp => ⟨[some (pD ns f g w fee), some (.lst ((a :: r).map T)), some (T p.1), some (T p.2)], rfl, by
  obtain ⟨h1, h2⟩ := kLS r a p hp
  have c := kMu k (h1.elim (fun e => by rw [e]; exact ha) (hr p.1)) (hr p.2 h2)
  simp only [kAw, kAi, kAq, chk, kAo, gE0, gE1, kAl, gE2, c, kBk]⟩
 have sm : dSum [.lst ((kHC a r).map fun p => D.int (chgP f g w fee p.1 p.2))] = some (.int (kAU f g w fee a r)) := by
  show (kDA ((kHC a r).map fun p => D.int (chgP f g w fee p.1 p.2))).map (fun bs => D.int bs.sum) = _
  rw [kDV, ← kLw]
  rfl
 refine kBy (n := 4) (ds := [pD ns f g w fee, .lst ((a :: r).map T)]) (e := [some (pD ns f g w fee), some (.lst ((a :: r).map T)), none, none]) ?_ 0
 show kEw [some (pD ns f g w fee), some (.lst ((a :: r).map T)), none, none] = _
 unfold kEw
 simp only [kDC, u_cb, kAi, kAq, u_lc, it, lc, kAl, sm, kAj]
end
section
variable {ns a b : List Str} {f g w : Str → Int} {fee d : Int} {va vb vc v : D} {qa qb qc q : List Itm} {x : Str}
def kI (ns : List Str) (f : Str → Int) : List Itm := (kAF ns f).map fun p => (false, p)
theorem kI_D : (kI ns f).map itD = (kAF ns f).map kBL := by
 unfold kI
 rw [gH3]
 rfl
theorem kOg : (kI ns f).map (·.2.1) = ns.filter fun n => !decide (f n = 0) := by
 unfold kI
 rw [gH3]
 exact kHO
theorem kFs (hu : Up ns) (hz : ∀ n, n ∉ ns → f n = 0) : Prs ns f (kI ns f) where
 nd := by
  rw [kOg]
  exact hu.nodup.sublist gG9
 val := fun i hi => by
  unfold kI at hi
  obtain ⟨p, hp, rfl⟩ := gF7.mp hi
  unfold kAF at hp
  obtain ⟨n, hn, rfl⟩ := gF7.mp hp
  exact ⟨(gH0.mp hn).1, rfl⟩
 zero := fun n hn => by
  rw [kOg] at hn
  by_cases m : n ∈ ns
  ·exact Decidable.by_contra fun c => hn (gH0.mpr ⟨m, by simpa using c⟩)
  ·exact hz n m
theorem kHT : Con (kD ns f) (kI ns f) := .inl (.inr (by rw [kI_D]))
theorem kJd : Prs ns (fun _ => 0) [] where
 nd := .nil
 val := nofun
 zero := fun _ _ => rfl
theorem kQz : Con (.tup []) [] := .inl (.inr rfl)
theorem kQy : Con (.obj 4 []) [] := .inr ⟨rfl, rfl⟩
theorem Oks.trips (k : Oks ns f g w fee) : Oks ns (fun n => f n + g n) (fun _ => 0) w fee where
 hn := k.hn
 fz := fun n hn => by
  show f n + g n = 0
  rw [k.fz n hn, k.gz n hn]
  rfl
 gz := fun _ _ => rfl
 wz := k.wz
 pos := fun n => by
  have := k.pos n
  show 0 ≤ f n + g n + 0
  omega
 fee0 := k.fee0
 w0 := k.w0
def kIF (ns : List Str) (f g : Str → Int) : List Str := ns.filter fun n => !(decide (f n = 0) && decide (g n = 0))
def kKm (ns : List Str) (f g : Str → Int) : List Itm := (kIF ns f g).map fun n => (false, n, f n + g n)
theorem kRo (hu : Up ns) (fz : ∀ n, n ∉ ns → f n = 0) (gz : ∀ n, n ∉ ns → g n = 0) : Prs ns (fun n => f n + g n) (kKm ns f g) := by
 have e : (kKm ns f g).map (·.2.1) = kIF ns f g := by
  unfold kKm
  rw [gH3]
  exact List.map_id _
 refine ⟨?_, fun i hi => ?_, fun n hn => ?_⟩
 ·rw [e]
  exact hu.nodup.sublist gG9
 ·unfold kKm at hi
  obtain ⟨n, hn, rfl⟩ := gF7.mp hi
  exact ⟨(gH0.mp hn).1, rfl⟩
 ·rw [e] at hn
  show f n + g n = 0
  by_cases m : n ∈ ns
  ·have : ¬ (!(decide (f n = 0) && decide (g n = 0))) = true := fun c => hn (gH0.mpr ⟨m, c⟩)
   have : f n = 0 ∧ g n = 0 := by simpa using this
   omega
  ·rw [fz n m, gz n m]
   rfl
theorem kIJ (k : Oks ns f g w fee) : FA2 [pD ns f g w fee] = .ok (pD ns (fun n => f n + g n) (fun _ => 0) w fee) .non := by
 have hn := k.hn
 have chk : ∀ e : EnvD, dChk [1] (dVar 0) (some (pD ns f g w fee) :: e) = .ok (pD ns f g w fee) (some (pD ns f g w fee) :: e) := fun _ => rfl
 have f1 : kDd kBn (pD ns f g w fee) = some (kD ns f) := rfl
 have f2 : kDd kCb (pD ns f g w fee) = some (kD ns g) := rfl
 have f3 : kDd kFB (pD ns f g w fee) = some (.int fee) := rfl
 have f4 : kDd kCa (pD ns f g w fee) = some (kD ns w) := rfl
 have h1 := kGF (ns := ns) (f := f)
 have h2 := kGF (ns := ns) (f := g)
 have h3 := hn.len
 have ad : dAdd (kD ns f) (kD ns g) = some (.tup ((kAF ns f ++ kAF ns g).map kBL)) := by
  have z : 1000 ≤ sizeLine := by decide
  show (if ((kAF ns f).map kBL).length + ((kAF ns g).map kBL).length ≤ sizeLine then _ else _) = _
  rw [if_pos (by rw [gF0, gF0]; omega), gG7]
 have lc0 := kBd (env := [some (pD ns f g w fee), none, none, none, none]) (gd := gT 2 (kBe (gN 3) (kBe (gN 4) kFC))) (m := dVar 3) (vs := [3, 4]) kBL (fun p => D.str p.1) (l := kAF ns f ++ kAF ns g) fun p _ => ⟨[some (pD ns f g w fee), none, none, some (.str p.1), some (.int p.2)], rfl, rfl⟩
 have ss : kEG (.lst ((kAF ns f ++ kAF ns g).map fun p => D.str p.1)) = some (.lst ((kIF ns f g).map D.str)) := by
  have e : (kAF ns f ++ kAF ns g).map (fun p => D.str p.1) = ((kAF ns f ++ kAF ns g).map (·.1)).map D.str := by rw [gH3]; rfl
  rw [e]
  refine (kPe (t := kIF ns f g) (by rw [gF0, gG2]; omega) (hn.up.sub gG9) fun y => ?_).1
  rw [gG7, kHO, kHO, gG8, gH0, gH0]
  unfold kIF
  rw [gH0]
  simp only [Bool.not_eq_true', decide_eq_false_iff_not, Bool.and_eq_false_iff]
  constructor
  ·rintro (⟨m, c⟩ | ⟨m, c⟩)
   ·exact ⟨m, .inl c⟩
   ·exact ⟨m, .inr c⟩
  ·rintro ⟨m, c | c⟩
   ·exact .inl ⟨m, c⟩
   ·exact .inr ⟨m, c⟩
 have st0 : kCh [some (pD ns f g w fee), none, none, none, none] = .nx [some (pD ns f g w fee), some (.lst ((kIF ns f g).map D.str)), none, none, none] := by
  unfold kCh
  generalize pD ns f g w fee = PP at *
  simp only [kDj, u_un, u_lc, kBi, kAv, kIU, kAi, kAq, kAo, gE0, gE1, kAl, f1, f2, kAj, ad, kUm, lc0, ss, List.set]
 have lc1 := kBd (env := [some (pD ns f g w fee), some (.lst ((kIF ns f g).map D.str)), none, none, none]) (gd := gN 3) (m := dTup (kAa (dVar 3) (kAa (dOp2 dAdd (kAh FA5 [] (kAa (dChk [1] (dVar 0)) (kAa (dVar 3) dNil))) (kAh FA6 [] (kAa (dChk [1] (dVar 0)) (kAa (dVar 3) dNil)))) dNil))) (vs := [3]) D.str (fun n => itD (false, n, f n + g n)) (l := kIF ns f g) fun n hn' => ⟨_, rfl, by
  have nm := hn.nam n (gH0.mp hn').1
  have p1 := kKr k nm
  have p2 := kMG k nm
  have a1 : dAdd (.int (f n)) (.int (g n)) = some (.int (f n + g n)) := rfl
  simp only [kAN, gN, List.set, List.foldl, kIT, kAv, kAw, kAi, kAq, chk, kAo, gE0, gE1, kAl, gE2, p1, p2, kBk, a1, kAj]
  rfl⟩
 have eI : (kIF ns f g).map (fun n => itD (false, n, f n + g n)) = (kKm ns f g).map itD := by
  unfold kKm
  rw [gH3]
  rfl
 rw [eI] at lc1
 have st1 : kCg [some (pD ns f g w fee), some (.lst ((kIF ns f g).map D.str)), none, none, none] = .nx [some (pD ns f g w fee), some (.lst ((kIF ns f g).map D.str)), some (.lst ((kKm ns f g).map itD)), none, none] := by
  unfold kCg
  generalize pD ns f g w fee = PP at *
  simp only [kDj, u_lc, kBi, kAo, gE0, gE1, kAl, kLs, lc1, List.set]
 have io := kJv k.trips (kRo hn.up k.fz k.gz) (.inl (.inl rfl)) kJd kQz (kFs hn.up k.wz) kHT
 have pk : ∀ a b c d : D, pick [0, 1, 2, 3] [a, b, c, d] = [a, b, c, d] := fun _ _ _ _ => rfl
 refine kBy (n := 5) (ds := [pD ns f g w fee]) (e := [some (pD ns f g w fee), some (.lst ((kIF ns f g).map D.str)), some (.lst ((kKm ns f g).map itD)), none, none]) ?_ 0
 rw [kFA]
 refine (kAs st0).trans ((kAs st1).trans ?_)
 have k64 : 64 * 1 = 64 := rfl
 have no : ∀ e : EnvD, kJg e (FOut.ok .non (pD ns (fun n => f n + g n) (fun _ => 0) w fee)) = .ok (pD ns (fun n => f n + g n) (fun _ => 0) w fee) e := fun _ => rfl
 unfold kDg
 generalize pD ns f g w fee = PP at *
 generalize D.lst ((kKm ns f g).map itD) = TI at *
 generalize kD ns w = KW at *
 generalize pD ns (fun n => f n + g n) (fun _ => 0) w fee = P2 at *
 simp only [kDC, kQX, kNv, kIT, kIU, kAi, kAq, kAo, gE0, gE1, kAl, gE2, f3, f4, kAj, pk, k64, io, no]
def movI (q : List Itm) (x : Str) (v : Int) : List Itm := (q.filter fun i => !decide (i.2.1 = x)) ++ [(false, x, v)]
theorem Prs.mov (h : Prs ns f q) (hx : x ∈ ns) : Prs ns (shf f x d) (movI q x (f x + d)) := by
 have e : (movI q x (f x + d)).map (·.2.1) = (q.filter fun i => !decide (i.2.1 = x)).map (·.2.1) ++ [x] := by
  unfold movI
  rw [gG7]
  rfl
 refine ⟨?_, fun i hi => ?_, fun n hn => ?_⟩
 ·rw [e]
  refine List.nodup_append.mpr ⟨h.nd.sublist (List.Sublist.map _ gG9), List.nodup_cons.mpr ⟨gI2, .nil⟩, fun y hy z hz => ?_⟩
  rw [gG4.mp hz]
  obtain ⟨i, hi, rfl⟩ := gF7.mp hy
  simpa using (gH0.mp hi).2
 ·unfold movI at hi
  rcases gG8.mp hi with hi | hi
  ·obtain ⟨h1, h2⟩ := gH0.mp hi
   have h2 : i.2.1 ≠ x := by simpa using h2
   obtain ⟨h3, h4⟩ := h.val i h1
   refine ⟨h3, ?_⟩
   unfold shf
   rw [if_neg h2, h4]
  ·rw [gG4.mp hi]
   refine ⟨hx, ?_⟩
   unfold shf
   rw [if_pos rfl]
 ·rw [e] at hn
  have n1 : n ≠ x := fun z => hn (List.mem_append_right _ (by rw [z]; exact gF1))
  unfold shf
  rw [if_neg n1]
  refine h.zero n fun m => hn (List.mem_append_left _ ?_)
  obtain ⟨i, hi, rfl⟩ := gF7.mp m
  exact gF7.mpr ⟨i, gH0.mpr ⟨hi, by simpa using n1⟩, rfl⟩
theorem Oks.shift (k : Oks ns f g w fee) (hx : x ∈ ns) : Oks ns (shf f x d) (shf g x (-d)) w fee where
 hn := k.hn
 fz := fun n hn => by
  unfold shf
  rw [if_neg (fun z => hn (by rw [z]; exact hx)), k.fz n hn]
 gz := fun n hn => by
  unfold shf
  rw [if_neg (fun z => hn (by rw [z]; exact hx)), k.gz n hn]
 wz := k.wz
 pos := fun n => by
  have h := congrFun (kKy (f := f) (g := g) (x := x) (d := d)) n
  have h : shf f x d n + shf g x (-d) n = f n + g n := h
  rw [h]
  exact k.pos n
 fee0 := k.fee0
 w0 := k.w0
theorem kOA (k : Oks ns f g w fee) (hx : x ∈ ns) : FAf [pD ns f g w fee, .str x, .int d] = .ok (pD ns (shf f x d) (shf g x (-d)) w fee) .non := by
 have hn := k.hn
 have nx := hn.nam x hx
 have chk : ∀ e : EnvD, dChk [1] (dVar 0) (some (pD ns f g w fee) :: e) = .ok (pD ns f g w fee) (some (pD ns f g w fee) :: e) := fun _ => rfl
 have f1 : kDd kBn (pD ns f g w fee) = some (kD ns f) := rfl
 have f2 : kDd kCb (pD ns f g w fee) = some (kD ns g) := rfl
 have f3 : kDd kFB (pD ns f g w fee) = some (.int fee) := rfl
 have f4 : kDd kCa (pD ns f g w fee) = some (kD ns w) := rfl
 have lc : ∀ (h : Str → Int) (o3 o4 : Option D), lcGo true (gN 5) (kAp (dOp2 dNe (dOp2 dIx (dVar 5) (dC (.int 0))) (dVar 1))) (dVar 5) [5] ((kI ns h).map itD) [some (pD ns f g w fee), some (.str x), some (.int d), o3, o4, none] = some (((kI ns h).filter fun i => !decide (i.2.1 = x)).map itD, [some (pD ns f g w fee), some (.str x), some (.int d), o3, o4, none]) := fun h o3 o4 => kDa itD (fun i => !decide (i.2.1 = x)) itD fun i hi => ⟨_, rfl, by
  have x0 := it_0 (i := i)
  have ni : Nam i.2.1 := hn.nam _ (by
   unfold kI at hi
   obtain ⟨p, hp, rfl⟩ := gF7.mp hi
   unfold kAF at hp
   obtain ⟨n, hn', rfl⟩ := gF7.mp hp
   exact (gH0.mp hn').1)
  have nq : dNe (.str i.2.1) (.str x) = some (.bool (!decide (i.2.1 = x))) := PL.dNe_w (kLg ni nx)
  generalize itD i = dd at *
  simp only [kAN, gN, List.set, List.foldl, kAG, kAv, u_c, kAo, gE0, gE1, kAl, x0, kAj, nq], fun _ => rfl⟩
 have lc1 := lc f none none
 have ap : ∀ (h : Str → Int) (u : Int), dAdd (.lst (((kI ns h).filter fun i => !decide (i.2.1 = x)).map itD)) (.lst [.tup [.str x, .int u]]) = some (.lst ((movI (kI ns h) x u).map itD)) := fun h u => by
  have l1 := List.length_filter_le (fun i : Itm => !decide (i.2.1 = x)) (kI ns h)
  have l2 : (kI ns h).length ≤ ns.length := by
   unfold kI
   rw [gF0]
   exact kGF
  have l3 := hn.len
  rw [kJH (by rw [gF0, gG3]; omega)]
  unfold movI
  rw [gG7]
  rfl
 have a1 := ap f (f x + d)
 have a2 := ap g (g x + -d)
 have p1 := kKr k nx
 have p2 := kMG k nx
 have ad : dAdd (.int (f x)) (.int d) = some (.int (f x + d)) := rfl
 have sb : iSub (.int (g x)) (.int d) = some (.int (g x + -d)) := by
  show some (D.int (g x - d)) = _
  rw [Int.sub_eq_add_neg]
 have iK : ∀ h : Str → Int, items (kD ns h) = some ((kI ns h).map itD) := fun h => by rw [kI_D]; rfl
 have iKf := iK f
 have iKg := iK g
 have st0 : kCW [some (pD ns f g w fee), some (.str x), some (.int d), none, none, none] = .nx [some (pD ns f g w fee), some (.str x), some (.int d), some (.lst ((movI (kI ns f) x (f x + d)).map itD)), none, none] := by
  unfold kCW
  generalize pD ns f g w fee = PP at *
  generalize kD ns f = KF at *
  generalize D.lst ((movI (kI ns f) x (f x + d)).map itD) = M1 at *
  simp only [kDj, kAv, u_lc, kBi, kIU, kET, kIT, kAw, kAi, kAq, chk, kAo, gE0, gE1, kAl, gE2, f1, kAj, iKf, lc1, p1, kBk, ad, a1, List.set]
 have lc2 := lc g (some (.lst ((movI (kI ns f) x (f x + d)).map itD))) none
 have st1 : kCV [some (pD ns f g w fee), some (.str x), some (.int d), some (.lst ((movI (kI ns f) x (f x + d)).map itD)), none, none] = .nx [some (pD ns f g w fee), some (.str x), some (.int d), some (.lst ((movI (kI ns f) x (f x + d)).map itD)), some (.lst ((movI (kI ns g) x (g x + -d)).map itD)), none] := by
  unfold kCV
  generalize pD ns f g w fee = PP at *
  generalize kD ns g = KG at *
  generalize D.lst ((movI (kI ns f) x (f x + d)).map itD) = M1 at *
  generalize D.lst ((movI (kI ns g) x (g x + -d)).map itD) = M2 at *
  simp only [kDj, kAv, u_lc, kBi, kIU, kET, kIT, kAw, kAi, kAq, chk, kAo, gE0, gE1, kAl, gE2, f2, kAj, iKg, lc2, p2, kBk, sb, a2, List.set]
 have io := kJv (k.shift (d := d) hx) ((kFs hn.up k.fz).mov (d := d) hx) (.inl (.inl rfl)) ((kFs hn.up k.gz).mov (d := -d) hx) (.inl (.inl rfl)) (kFs hn.up k.wz) kHT
 have pk : ∀ a b c d : D, pick [0, 1, 2, 3] [a, b, c, d] = [a, b, c, d] := fun _ _ _ _ => rfl
 refine kBy (n := 6) (ds := [pD ns f g w fee, .str x, .int d]) (e := [some (pD ns f g w fee), some (.str x), some (.int d), some (.lst ((movI (kI ns f) x (f x + d)).map itD)), some (.lst ((movI (kI ns g) x (g x + -d)).map itD)), none]) ?_ 0
 rw [kHk]
 refine (kAs st0).trans ((kAs st1).trans ?_)
 have k64 : 64 * 1 = 64 := rfl
 have no : ∀ e : EnvD, kJg e (FOut.ok .non (pD ns (shf f x d) (shf g x (-d)) w fee)) = .ok (pD ns (shf f x d) (shf g x (-d)) w fee) e := fun _ => rfl
 unfold kEv
 generalize pD ns f g w fee = PP at *
 generalize D.lst ((movI (kI ns f) x (f x + d)).map itD) = M1 at *
 generalize D.lst ((movI (kI ns g) x (g x + -d)).map itD) = M2 at *
 generalize kD ns w = KW at *
 generalize pD ns (shf f x d) (shf g x (-d)) w fee = P2 at *
 simp only [kDC, kQX, kNv, kIU, kAi, kAq, kAo, gE0, gE1, kAl, gE2, f3, f4, kAj, pk, k64, io, no]
end
section
variable {ns a b l : List Str} {f g w : Str → Int} {fee d : Int} {va vb vc v : D} {qa qb qc q : List Itm} {x : Str} {r : List (List Str)}
theorem kPM : ∀ (q : List Itm), (∀ i ∈ q, f i.2.1 = i.2.2) → (x ∈ q.map (·.2.1) → look (q.map (·.2)) x = f x) ∧ (x ∉ q.map (·.2.1) → look (q.map (·.2)) x = 0)
 | [], _ => ⟨fun h => absurd h gI2, fun _ => rfl⟩
 | i :: q, h => by
  obtain ⟨h1, h2⟩ := kPM q fun j hj => h j (gF2 _ hj)
  have hi := h i gF1
  have e : look ((i :: q).map (·.2)) x = if i.2.1 = x then i.2.2 else look (q.map (·.2)) x := rfl
  rw [e]
  by_cases c : i.2.1 = x
  ·rw [if_pos c]
   refine ⟨fun _ => by rw [← c, hi], fun hn => absurd ?_ hn⟩
   rw [← c]
   exact gF1
  ·rw [if_neg c]
   refine ⟨fun hm => h1 ?_, fun hn => h2 fun m => hn (gF2 _ m)⟩
   rcases gG5.mp hm with z | z
   ·exact absurd z.symm c
   ·exact z
theorem Prs.look (h : Prs ns f q) : look (q.map (·.2)) x = f x := by
 obtain ⟨h1, h2⟩ := kPM (x := x) q fun i hi => (h.val i hi).2
 by_cases m : x ∈ q.map (·.2.1)
 ·exact h1 m
 ·rw [h2 m, h.zero x m]
theorem kPA : ∀ (q : List Itm), (q.map (·.2.1)).Nodup → ((q.filter fun i => decide (i.2.1 = x)).map (·.2.2)).sum = look (q.map (·.2)) x
 | [], _ => rfl
 | i :: q, h => by
  obtain ⟨h1, h2⟩ := List.nodup_cons.mp h
  have ih := kPA q h2
  have e : look ((i :: q).map (·.2)) x = if i.2.1 = x then i.2.2 else look (q.map (·.2)) x := rfl
  rw [e, List.filter_cons]
  by_cases c : i.2.1 = x
  ·rw [if_pos c, gH1 c, if_pos rfl]
   have nil : q.filter (fun i => decide (i.2.1 = x)) = [] := List.filter_eq_nil_iff.mpr fun j hj z => h1 (by
    show i.2.1 ∈ _
    rw [c, ← gF5 z]
    exact gF7.mpr ⟨j, hj, rfl⟩)
   rw [nil]
   show i.2.2 + 0 = _
   omega
  ·rw [if_neg c, gH2 c, if_neg (by decide)]
   exact ih
theorem kCf (hn : Nms ns) (h : Prs ns f q) (c : Con v q) (hx : Nam x) : FA0 [v, .str x] = .ok (.int (f x)) .non := by
 have ci := c.items
 have lc := kDa (env := [some v, some (.str x), none]) (gd := gN 2) (t := kAp (dOp2 dEq (dOp2 dIx (dVar 2) (dC (.int 0))) (dVar 1))) (m := dOp2 dIx (dVar 2) (dC (.int 1))) (vs := [2]) itD (fun i => decide (i.2.1 = x)) (fun i => D.int i.2.2) (l := q) fun i hi => ⟨_, rfl, by
  have x0 := it_0 (i := i)
  have dq : dEq (.str i.2.1) (.str x) = some (.bool (decide (i.2.1 = x))) := by
   show (deq _ _).map D.bool = _
   rw [kLg (hn.nam _ (h.val i hi).1) hx]
   rfl
  generalize itD i = dd at *
  simp only [kAN, gN, List.set, List.foldl, kAG, kAv, u_c, kAo, gE0, gE1, kAl, x0, kAj, dq], fun _ => by
  have x1 := it_1 (i := i)
  generalize itD i = dd at *
  simp only [kAN, gN, List.set, List.foldl, kAv, u_c, kAo, gE0, gE1, kAl, x1, kAj]⟩
 have sm : dSum [.lst ((q.filter fun i => decide (i.2.1 = x)).map fun i => D.int i.2.2)] = some (.int (f x)) := by
  show (kDA ((q.filter fun i => decide (i.2.1 = x)).map fun i => D.int i.2.2)).map (fun bs => D.int bs.sum) = _
  rw [kDV]
  show some (D.int _) = _
  rw [kPA q h.nd, h.look]
 refine kBy (n := 3) (ds := [v, .str x]) (e := [some v, some (.str x), none]) ?_ 0
 show kFV [some v, some (.str x), none] = _
 unfold kFV
 simp only [kDC, u_cb, u_lc, kBi, kAi, kAq, kAo, gE0, kAl, ci, lc, sm, kAj]
structure Lts (ns : List Str) (f g w : Str → Int) (va vb vc : D) (qa qb qc : List Itm) : Prop where
 pa : Prs ns f qa
 ca : Con va qa
 pb : Prs ns g qb
 cb : Con vb qb
 pc : Prs ns w qc
 cc : Con vc qc
abbrev eLc (L : D) (fe : D) (a b : D) (o4 o5 : Option D) : EnvD := [some L, some fe, some a, some b, o4, o5, none]
theorem ix3 {a b c : D} : dIx (.lst [a, b, c]) (.int 0) = some a ∧ dIx (.lst [a, b, c]) (.int 1) = some b ∧ dIx (.lst [a, b, c]) (.int 2) = some c := ⟨rfl, rfl, rfl⟩
theorem kRC (hn : Nms ns) (h : Lts ns f g w va vb vc qa qb qc) (ha : a.Sublist ns) (hb : b.Sublist ns) : FAt [.lst [va, vb, vc], .int fee, T a, T b] = .ok (.int (chgP f g w fee a b)) .non := by
 have q := kQj (hn.lot ha) (hn.lot hb)
 obtain ⟨i0, i1, i2⟩ := ix3 (a := va) (b := vb) (c := vc)
 unfold chgP
 by_cases c : a = b
 ·rw [if_pos c]
  rw [gH1 c] at q
  refine kBy (n := 7) (ds := [.lst [va, vb, vc], .int fee, T a, T b]) (e := eLc (.lst [va, vb, vc]) (.int fee) (T a) (T b) none none) ?_ 0
  rw [kGV]
  refine kNH ?_
  show kCU (eLc (.lst [va, vb, vc]) (.int fee) (T a) (T b) none none) = _
  unfold kCU
  simp only [kCB, kAG, kAv, u_c, kAo, gE0, gE1, kAl, q, kAj, if_true, kDC]
 ·rw [if_neg c]
  rw [gH2 c] at q
  have nb : ∀ n ∈ b, Nam n := fun n h => hn.nam n (hb.subset h)
  have na : ∀ n ∈ a, Nam n := fun n h => hn.nam n (ha.subset h)
  have iTa : items (T a) = some (a.map D.str) := rfl
  have iTb : items (T b) = some (b.map D.str) := rfl
  have st0 : kCU (eLc (.lst [va, vb, vc]) (.int fee) (T a) (T b) none none) = .nx (eLc (.lst [va, vb, vc]) (.int fee) (T a) (T b) none none) := by
   unfold kCU
   simp only [kCB, kAG, kAv, u_c, kAo, gE0, gE1, kAl, q, kAj, gE3, if_false, kCL]
  have lc1 := kDa (env := eLc (.lst [va, vb, vc]) (.int fee) (T a) (T b) none none) (gd := gN 6) (t := kAp (dOp2 kDR (dVar 6) (dVar 2))) (m := dVar 6) (vs := [6]) D.str (fun n => !decide (n ∈ a)) D.str (l := b) fun n hn' => ⟨_, rfl, by
   have ni := kTq (nb n hn') (hn.lot ha)
   generalize T a = TA at *
   simp only [kAN, gN, List.set, List.foldl, kAG, kAv, kAo, gE0, gE1, kAl, ni, kAj], fun _ => rfl⟩
  have st1 : kFr (eLc (.lst [va, vb, vc]) (.int fee) (T a) (T b) none none) = .nx (eLc (.lst [va, vb, vc]) (.int fee) (T a) (T b) (some (.lst ((lesS b a).map D.str))) none) := by
   unfold kFr
   generalize T b = TB at *
   generalize T a = TA at *
   simp only [kDj, u_lc, kBi, kAo, gE0, gE1, kAl, iTb, lc1, List.set]
  have lc2 := kBd (env := eLc (.lst [va, vb, vc]) (.int fee) (T a) (T b) (some (.lst ((lesS b a).map D.str))) none) (gd := gN 6) (m := kAh FA0 [] (kAa (dOp2 dIx (dVar 0) (dC (.int 0))) (kAa (dVar 6) dNil))) (vs := [6]) D.str (fun n => D.int (f n)) (l := lesS b a) fun n hn' => ⟨_, rfl, by
   have p := kCf hn h.pa h.ca (nb n (gH0.mp hn').1)
   generalize D.lst ((lesS b a).map D.str) = SD at *
   simp only [kAN, gN, List.set, List.foldl, kAw, kAv, u_c, kAi, kAq, kAo, gE0, gE1, kAl, gE2, i0, kAj, p, kBk]⟩
  have s1 := kHY f (lesS b a)
  have ad : dAdd (.int fee) (.int (kAm f (lesS b a))) = some (.int (fee + kAm f (lesS b a))) := rfl
  have st2 : kFq (eLc (.lst [va, vb, vc]) (.int fee) (T a) (T b) (some (.lst ((lesS b a).map D.str))) none) = .nx (eLc (.lst [va, vb, vc]) (.int fee) (T a) (T b) (some (.lst ((lesS b a).map D.str))) (some (.int (fee + kAm f (lesS b a))))) := by
   unfold kFq
   generalize D.lst [va, vb, vc] = LL at *
   simp only [kDj, kAv, u_cb, u_lc, kBi, kAi, kAq, kAo, gE0, gE1, kAl, kLs, lc2, s1, kAj, ad, List.set]
  have lc3 := kDa (env := eLc (.lst [va, vb, vc]) (.int fee) (T a) (T b) (some (.lst ((lesS b a).map D.str))) (some (.int (fee + kAm f (lesS b a))))) (gd := gN 6) (t := kAp (dOp2 kDR (dVar 6) (dVar 3))) (m := kAh FA0 [] (kAa (dOp2 dIx (dVar 0) (dC (.int 1))) (kAa (dVar 6) dNil))) (vs := [6]) D.str (fun n => !decide (n ∈ b)) (fun n => D.int (g n)) (l := a) fun n hn' => ⟨_, rfl, by
   have ni := kTq (na n hn') (hn.lot hb)
   generalize T b = TB at *
   simp only [kAN, gN, List.set, List.foldl, kAG, kAv, kAo, gE0, gE1, kAl, ni, kAj], fun _ => by
   have p := kCf hn h.pb h.cb (na n hn')
   generalize D.lst ((lesS b a).map D.str) = SD at *
   simp only [kAN, gN, List.set, List.foldl, kAw, kAv, u_c, kAi, kAq, kAo, gE0, gE1, kAl, gE2, i1, kAj, p, kBk]⟩
  have s2 := kHY g (lesS a b)
  have ad2 : dAdd (.int (fee + kAm f (lesS b a))) (.int (kAm g (lesS a b))) = some (.int (fee + kAm f (lesS b a) + kAm g (lesS a b))) := rfl
  have st3 : kFp (eLc (.lst [va, vb, vc]) (.int fee) (T a) (T b) (some (.lst ((lesS b a).map D.str))) (some (.int (fee + kAm f (lesS b a))))) = .nx (eLc (.lst [va, vb, vc]) (.int fee) (T a) (T b) (some (.lst ((lesS b a).map D.str))) (some (.int (fee + kAm f (lesS b a) + kAm g (lesS a b))))) := by
   unfold kFp
   generalize D.lst [va, vb, vc] = LL at *
   generalize T a = TA at *
   generalize T b = TB at *
   simp only [kDj, kAv, u_cb, u_lc, kBi, kAi, kAq, kAo, gE0, gE1, kAl, iTa, lc3, s2, kAj, ad2, List.set]
  have lc4 := kBd (env := eLc (.lst [va, vb, vc]) (.int fee) (T a) (T b) (some (.lst ((lesS b a).map D.str))) (some (.int (fee + kAm f (lesS b a) + kAm g (lesS a b))))) (gd := gN 6) (m := kAh FA0 [] (kAa (dOp2 dIx (dVar 0) (dC (.int 2))) (kAa (dVar 6) dNil))) (vs := [6]) D.str (fun n => D.int (w n)) (l := lesS b a) fun n hn' => ⟨_, rfl, by
   have p := kCf hn h.pc h.cc (nb n (gH0.mp hn').1)
   generalize D.lst ((lesS b a).map D.str) = SD at *
   simp only [kAN, gN, List.set, List.foldl, kAw, kAv, u_c, kAi, kAq, kAo, gE0, gE1, kAl, gE2, i2, kAj, p, kBk]⟩
  have lb : (lesS b a).length ≤ 10 := Nat.le_trans (List.length_filter_le _ _) (hn.lot hb).2
  have a0 : dAdd (.lst [.int 0]) (.lst ((lesS b a).map fun n => D.int (w n))) = some (.lst (.int 0 :: (lesS b a).map fun n => D.int (w n))) := kJH (by rw [gF0, gG3]; omega)
  have mx := kPI w (lesS b a)
  have ad3 : dAdd (.int (fee + kAm f (lesS b a) + kAm g (lesS a b))) (.int (maxZ ((lesS b a).map w))) = some (.int (fee + kAm f (lesS b a) + kAm g (lesS a b) + maxZ ((lesS b a).map w))) := rfl
  refine kBy (n := 7) (ds := [.lst [va, vb, vc], .int fee, T a, T b]) (e := eLc (.lst [va, vb, vc]) (.int fee) (T a) (T b) (some (.lst ((lesS b a).map D.str))) (some (.int (fee + kAm f (lesS b a) + kAm g (lesS a b))))) ?_ 0
  rw [kGV]
  refine (kAs st0).trans ((kAs st1).trans ((kAs st2).trans ((kAs st3).trans ?_)))
  unfold kHx
  generalize D.lst [va, vb, vc] = LL at *
  generalize D.lst (.int 0 :: (lesS b a).map fun n => D.int (w n)) = MM at *
  simp only [kDC, kAv, u_cb, kET, u_lc, kBi, u_c, kAi, kAq, kAo, gE0, gE1, kAl, kLs, lc4, a0, kAj, mx, ad3]
theorem kLv : ∀ (r : List (List Str)) (a : List Str), ((List.range r.length).map fun k => chgP f g w fee ((a :: r).getD k []) (r.getD k [])).sum = kAU f g w fee a r
 | [], a => rfl
 | b :: r, a => by
  have ih := kLv r b
  rw [gG0, List.range_succ_eq_map, gG1, gH3, List.sum_cons]
  show chgP f g w fee a b + ((List.range r.length).map fun k => chgP f g w fee ((b :: r).getD k []) (r.getD k [])).sum = _
  rw [ih]
  rfl
theorem kPP (hn : Nms ns) (h : Lts ns f g w va vb vc qa qb qc) (ha : a.Sublist ns) (hr : ∀ b ∈ r, b.Sublist ns) (lr : r.length ≤ 100) : FAs [.lst [va, vb, vc], .int fee, .lst ((a :: r).map T)] = .ok (.int (kAU f g w fee a r)) .non := by
 have ln : dLen [.lst ((a :: r).map T)] = some (.int ((r.length + 1 : Nat) : Int)) := by
  show some (D.int (((a :: r).map T).length : Int)) = _
  rw [gF0, gG0]
 have sb : iSub (.int ((r.length + 1 : Nat) : Int)) (.int 1) = some (pI r.length) := by
  show some (D.int (((r.length + 1 : Nat) : Int) - 1)) = _
  rw [show ((r.length + 1 : Nat) : Int) - 1 = (r.length : Int) by omega]
 have it : (kDc (kAa (dOp2 iSub (dCB dLen (kAa (dVar 2) dNil)) (dC (.int 1))) dNil)) [some (.lst [va, vb, vc]), some (.int fee), some (.lst ((a :: r).map T)), none] = .ok ((List.range r.length).map pI) [some (.lst [va, vb, vc]), some (.int fee), some (.lst ((a :: r).map T)), none] := kHA (by
  generalize D.lst ((a :: r).map T) = RR at *
  simp only [kAi, kAq, kAv, u_cb, u_c, kAo, gE0, gE1, kAl, ln, kAj, sb]) (by omega)
 have lc := kBd (env := [some (.lst [va, vb, vc]), some (.int fee), some (.lst ((a :: r).map T)), none]) (gd := gN 3) (m := kAh FAt [] (kAa (dVar 0) (kAa (dVar 1) (kAa (dOp2 dIx (dVar 2) (dVar 3)) (kAa (dOp2 dIx (dVar 2) (dOp2 dAdd (dVar 3) (dC (.int 1)))) dNil))))) (vs := [3]) pI (fun k => D.int (chgP f g w fee ((a :: r).getD k []) (r.getD k []))) (l := List.range r.length) fun k hk => ⟨_, rfl, by
  have hk := List.mem_range.mp hk
  have e1 : (a :: r)[k]? = some ((a :: r).getD k []) := by
   rw [gH7, gF6 (by rw [gG0]; omega)]
   rfl
  have e2 : r[k]? = some (r.getD k []) := by
   rw [gH7, gF6 hk]
   rfl
  have x1 : dIx (.lst ((a :: r).map T)) (pI k) = some (T ((a :: r).getD k [])) := kQE (xs := (a :: r).map T) (i := k) (by rw [gI0, e1]; rfl)
  have x2 : dIx (.lst ((a :: r).map T)) (pI (k + 1)) = some (T (r.getD k [])) := kQE (xs := (a :: r).map T) (i := k + 1) (by rw [gI0, gE1, e2]; rfl)
  have s2 : (r.getD k []).Sublist ns := hr _ (gH9 e2)
  have s1 : ((a :: r).getD k []).Sublist ns := by
   rcases gG5.mp (gH9 e1) with z | z
   ·rw [z]; exact ha
   ·exact hr _ z
  have c := kRC (fee := fee) hn h s1 s2
  have ad : dAdd (pI k) (.int 1) = some (pI (k + 1)) := rfl
  generalize D.lst ((a :: r).map T) = RR at *
  simp only [kAN, gN, List.set, List.foldl, kAw, kAv, u_c, kAi, kAq, kAo, gE0, gE1, kAl, gE2, x1, ad, x2, kAj, c, kBk]⟩
 have sm : dSum [.lst ((List.range r.length).map fun k => D.int (chgP f g w fee ((a :: r).getD k []) (r.getD k [])))] = some (.int (kAU f g w fee a r)) := by
  show (kDA ((List.range r.length).map fun k => D.int (chgP f g w fee ((a :: r).getD k []) (r.getD k [])))).map (fun bs => D.int bs.sum) = _
  rw [kDV, ← kLv]
  rfl
 refine kBy (n := 4) (ds := [.lst [va, vb, vc], .int fee, .lst ((a :: r).map T)]) (e := [some (.lst [va, vb, vc]), some (.int fee), some (.lst ((a :: r).map T)), none]) ?_ 0
 show kGS [some (.lst [va, vb, vc]), some (.int fee), some (.lst ((a :: r).map T)), none] = _
 unfold kGS
 simp only [kDC, u_cb, kAi, kAq, u_lc, it, lc, kAl, sm, kAj]
theorem kNY (hn : Nms ns) (pm : l.Perm ns) (h : Lts ns f g w va vb vc qa qb qc) : FAp [.lst (l.map D.str), .lst [va, vb, vc]] = .ok (kD ns fun n => f n + g n) .non := by
 obtain ⟨i0, i1, i2⟩ := ix3 (a := va) (b := vb) (c := vc)
 have lc := kBd (env := [some (.lst (l.map D.str)), some (.lst [va, vb, vc]), none]) (gd := gN 2) (m := dTup (kAa (dVar 2) (kAa (dOp2 dAdd (kAh FA0 [] (kAa (dOp2 dIx (dVar 1) (dC (.int 0))) (kAa (dVar 2) dNil))) (kAh FA0 [] (kAa (dOp2 dIx (dVar 1) (dC (.int 1))) (kAa (dVar 2) dNil)))) dNil))) (vs := [2]) D.str (fun n => itD (false, n, f n + g n)) (l := l) fun n hn' => ⟨_, rfl, by
  have nm := hn.nam n (pm.mem_iff.mp hn')
  have p1 := kCf hn h.pa h.ca nm
  have p2 := kCf hn h.pb h.cb nm
  have ad : dAdd (.int (f n)) (.int (g n)) = some (.int (f n + g n)) := rfl
  generalize D.lst [va, vb, vc] = LL at *
  simp only [kAN, gN, List.set, List.foldl, kIT, kAv, kAw, u_c, kAi, kAq, kAo, gE0, gE1, kAl, gE2, i0, i1, kAj, p1, p2, kBk, ad]
  rfl⟩
 have eI : l.map (fun n => itD (false, n, f n + g n)) = (l.map fun n => ((false, n, f n + g n) : Itm)).map itD := by
  rw [gH3]
  rfl
 rw [eI] at lc
 have e : (l.map fun n => ((false, n, f n + g n) : Itm)).map (·.2.1) = l := by
  rw [gH3]
  exact List.map_id _
 have ps : Prs ns (fun n => f n + g n) (l.map fun n => ((false, n, f n + g n) : Itm)) := ⟨by rw [e]; exact pm.nodup_iff.mpr hn.up.nodup, fun i hi => by
  obtain ⟨n, hn', rfl⟩ := gF7.mp hi
  exact ⟨pm.mem_iff.mp hn', rfl⟩, fun n hn' => by
  rw [e] at hn'
  have : n ∉ ns := fun m => hn' (pm.mem_iff.mpr m)
  show f n + g n = 0
  rw [h.pa.out n this, h.pb.out n this]
  rfl⟩
 have k := kIP hn.up ps (.inl (.inl rfl))
 refine kBy (n := 3) (ds := [.lst (l.map D.str), .lst [va, vb, vc]]) (e := [some (.lst (l.map D.str)), some (.lst [va, vb, vc]), none]) ?_ 0
 show kHv [some (.lst (l.map D.str)), some (.lst [va, vb, vc]), none] = _
 unfold kHv
 generalize D.lst [va, vb, vc] = LL at *
 simp only [kDC, kAw, u_lc, kBi, kAi, kAq, kAo, gE0, gE1, kAl, gE2, kLs, lc, k, kBk]
theorem kLW (hn : Nms ns) (h : Lts ns f g w va vb vc qa qb qc) (hx : x ∈ ns) : FAj [.lst [va, vb, vc], .str x, .int d] = .ok (.lst [.lst ((movI qa x (f x + d)).map itD), .lst ((movI qb x (g x + -d)).map itD), vc]) .non := by
 have nx := hn.nam x hx
 obtain ⟨i0, i1, i2⟩ := ix3 (a := va) (b := vb) (c := vc)
 have lc : ∀ (h : Str → Int) (q : List Itm) (o3 o4 : Option D), Prs ns h q → lcGo true (gN 5) (kAp (dOp2 dNe (dOp2 dIx (dVar 5) (dC (.int 0))) (dVar 1))) (dVar 5) [5] (q.map itD) [some (.lst [va, vb, vc]), some (.str x), some (.int d), o3, o4, none] = some ((q.filter fun i => !decide (i.2.1 = x)).map itD, [some (.lst [va, vb, vc]), some (.str x), some (.int d), o3, o4, none]) := fun h q o3 o4 hp => kDa itD (fun i => !decide (i.2.1 = x)) itD fun i hi => ⟨_, rfl, by
  have x0 := it_0 (i := i)
  have ni : Nam i.2.1 := hn.nam _ (hp.val i hi).1
  have nq : dNe (.str i.2.1) (.str x) = some (.bool (!decide (i.2.1 = x))) := PL.dNe_w (kLg ni nx)
  generalize itD i = dd at *
  simp only [kAN, gN, List.set, List.foldl, kAG, kAv, u_c, kAo, gE0, gE1, kAl, x0, kAj, nq], fun _ => rfl⟩
 have ap : ∀ (h : Str → Int) (q : List Itm) (u : Int), Prs ns h q → dAdd (.lst ((q.filter fun i => !decide (i.2.1 = x)).map itD)) (.lst [.tup [.str x, .int u]]) = some (.lst ((movI q x u).map itD)) := fun h q u hp => by
  have l1 := List.length_filter_le (fun i : Itm => !decide (i.2.1 = x)) q
  have l2 := hp.le hn
  rw [kJH (by rw [gF0, gG3]; omega)]
  unfold movI
  rw [gG7]
  rfl
 have a1 := ap f qa (f x + d) h.pa
 have a2 := ap g qb (g x + -d) h.pb
 have p1 := kCf hn h.pa h.ca nx
 have p2 := kCf hn h.pb h.cb nx
 have ad : dAdd (.int (f x)) (.int d) = some (.int (f x + d)) := rfl
 have sb : iSub (.int (g x)) (.int d) = some (.int (g x + -d)) := by
  show some (D.int (g x - d)) = _
  rw [Int.sub_eq_add_neg]
 have ia := h.ca.items
 have ib := h.cb.items
 have lc1 := lc f qa none none h.pa
 have lc2 := lc g qb (some (.lst ((movI qa x (f x + d)).map itD))) none h.pb
 have st0 : kEN [some (.lst [va, vb, vc]), some (.str x), some (.int d), none, none, none] = .nx [some (.lst [va, vb, vc]), some (.str x), some (.int d), some (.lst ((movI qa x (f x + d)).map itD)), none, none] := by
  unfold kEN
  generalize D.lst [va, vb, vc] = LL at *
  generalize D.lst ((movI qa x (f x + d)).map itD) = M1 at *
  simp only [kDj, kAv, u_lc, kBi, kET, kIT, kAw, u_c, kAi, kAq, kAo, gE0, gE1, kAl, gE2, i0, kAj, ia, lc1, p1, kBk, ad, a1, List.set]
 have st1 : kEM [some (.lst [va, vb, vc]), some (.str x), some (.int d), some (.lst ((movI qa x (f x + d)).map itD)), none, none] = .nx [some (.lst [va, vb, vc]), some (.str x), some (.int d), some (.lst ((movI qa x (f x + d)).map itD)), some (.lst ((movI qb x (g x + -d)).map itD)), none] := by
  unfold kEM
  generalize D.lst [va, vb, vc] = LL at *
  generalize D.lst ((movI qa x (f x + d)).map itD) = M1 at *
  generalize D.lst ((movI qb x (g x + -d)).map itD) = M2 at *
  simp only [kDj, kAv, u_lc, kBi, kET, kIT, kAw, u_c, kAi, kAq, kAo, gE0, gE1, kAl, gE2, i1, kAj, ib, lc2, p2, kBk, sb, a2, List.set]
 refine kBy (n := 6) (ds := [.lst [va, vb, vc], .str x, .int d]) (e := [some (.lst [va, vb, vc]), some (.str x), some (.int d), some (.lst ((movI qa x (f x + d)).map itD)), some (.lst ((movI qb x (g x + -d)).map itD)), none]) ?_ 0
 rw [kJo]
 refine (kAs st0).trans ((kAs st1).trans ?_)
 unfold kGP
 generalize D.lst [va, vb, vc] = LL at *
 simp only [kDC, kET, kAv, u_c, kAi, kAq, kAo, gE0, gE1, kAl, i2, kAj]
theorem Lts.mov (h : Lts ns f g w va vb vc qa qb qc) (hx : x ∈ ns) : Lts ns (shf f x d) (shf g x (-d)) w (.lst ((movI qa x (f x + d)).map itD)) (.lst ((movI qb x (g x + -d)).map itD)) vc (movI qa x (f x + d)) (movI qb x (g x + -d)) qc := ⟨h.pa.mov hx, .inl (.inl rfl), h.pb.mov hx, .inl (.inl rfl), h.pc, h.cc⟩
end
section
variable {ns a b l : List Str} {f g w f2 g2 h z : Str → Int} {fee d n : Int} {va vb vc v : D} {qa qb qc q : List Itm} {x : Str} {r : List (List Str)}
theorem kJi (hb : -1000000000000 ≤ n ∧ n ≤ 1000000000000) : Nice 0 52 (.int n) := by
 have h1 : n.natAbs ≤ 1000000000000 := by omega
 have h2 : n.natAbs.log2 < 50 := by
  by_cases e : n.natAbs = 0
  ·rw [e]; decide
  ·exact (Nat.log2_lt e).mpr (Nat.lt_of_le_of_lt h1 (by decide))
 refine ⟨rfl, rfl, ?_, Nat.zero_le _, ?_⟩
 ·show PyData.showable (.int n) = true
  unfold PyData.showable
  exact gH1 (by omega)
 ·show n.natAbs.log2 + 2 ≤ 52
  omega
def BdF (f : Str → Int) : Prop := ∀ n, -10000000 ≤ f n ∧ f n ≤ 10000000
theorem kLO (hn : Nms ns) (hf : BdF f) : Nice 2 1140 (kD ns f) := by
 refine (kJh (n := 1) (c := 111) (m := 10) (fun d hd => ?_) (by rw [gF0]; exact Nat.le_trans kGF hn.len)).mono (Nat.le_refl _) (by decide)
 obtain ⟨p, hp, rfl⟩ := gF7.mp hd
 unfold kAF at hp
 obtain ⟨m, hm, rfl⟩ := gF7.mp hp
 refine (kJh (n := 0) (c := 52) (m := 2) (fun d hd => ?_) (by simp)).mono (Nat.le_refl _) (by decide)
 simp only [gG5, gI2, or_false] at hd
 rcases hd with rfl | rfl
 ·exact kEz (hn.nam m (gH0.mp hm).1)
 ·have := hf m
  exact kJi (by omega)
theorem kHN (hn : Nms ns) (h : Lts ns f g w va vb vc qa qb qc) (hf : BdF f) (hg : BdF g) (hw : BdF w) (he : -10000000 ≤ fee ∧ fee ≤ 10000000) : FAc [pD ns f g w fee, .lst [va, vb, vc], .int fee] = .ok (.bool true) .non := by
 obtain ⟨i0, i1, i2⟩ := ix3 (a := va) (b := vb) (c := vc)
 have k1 := kIP hn.up h.pa h.ca
 have k2 := kIP hn.up h.pb h.cb
 have k3 := kIP hn.up h.pc h.cc
 have f1 : kDd kBn (pD ns f g w fee) = some (kD ns f) := rfl
 have f2 : kDd kCb (pD ns f g w fee) = some (kD ns g) := rfl
 have f3 : kDd kFB (pD ns f g w fee) = some (.int fee) := rfl
 have f4 : kDd kCa (pD ns f g w fee) = some (kD ns w) := rfl
 have nt : Nice 3 4600 (.tup [kD ns f, kD ns g, kD ns w, .int fee]) := (kJh (n := 2) (c := 1140) (m := 4) (fun d hd => by
  simp only [gG5, gI2, or_false] at hd
  rcases hd with rfl | rfl | rfl | rfl
  ·exact kLO hn hf
  ·exact kLO hn hg
  ·exact kLO hn hw
  ·exact (kJi (by omega)).mono (Nat.zero_le _) (by decide)) (by simp)).mono (Nat.le_refl _) (by decide)
 have rp : kFF [.tup [kD ns f, kD ns g, kD ns w, .int fee]] = some (.str (D.tup [kD ns f, kD ns g, kD ns w, .int fee]).py.shown) := by
  show (if kHz _ = true then _ else _) = _
  rw [if_pos nt.repr]
 have eq := kRM nt
 have st0 : kEP [some (pD ns f g w fee), some (.lst [va, vb, vc]), some (.int fee), none] = .nx [some (pD ns f g w fee), some (.lst [va, vb, vc]), some (.int fee), some (.tup [kD ns f, kD ns g, kD ns w, .int fee])] := by
  unfold kEP
  generalize pD ns f g w fee = PP at *
  generalize D.lst [va, vb, vc] = LL at *
  simp only [kDj, kIT, kAw, kAv, u_c, kAi, kAq, kAo, gE0, gE1, kAl, gE2, i0, i1, i2, kAj, k1, k2, k3, kBk, List.set]
 refine kBy (n := 4) (ds := [pD ns f g w fee, .lst [va, vb, vc], .int fee]) (e := [some (pD ns f g w fee), some (.lst [va, vb, vc]), some (.int fee), some (.tup [kD ns f, kD ns g, kD ns w, .int fee])]) ?_ 0
 rw [kJr]
 refine (kAs st0).trans ?_
 unfold kGR
 generalize (D.tup [kD ns f, kD ns g, kD ns w, .int fee]).py.shown = SS at *
 generalize pD ns f g w fee = PP at *
 generalize D.tup ((kAF ns f).map kBL) = KF at *
 generalize D.tup ((kAF ns g).map kBL) = KG at *
 generalize D.tup ((kAF ns w).map kBL) = KW at *
 simp only [kDC, kAv, u_cb, kIT, kIU, kAi, kAq, kAo, gE0, gE1, kAl, f1, f2, f3, f4, kAj, rp, eq]
theorem kRL (p q : Str × Int) : PyData.eqv (kBL p).py (kBL q).py = decide (p = q) := by
 show PyData.eqv (.tuple (pyL [.str p.1, .int p.2])) (.tuple (pyL [.str q.1, .int q.2])) = _
 unfold PyData.eqv
 show (PyData.eqv (D.str p.1).py (D.str q.1).py && (PyData.eqv (.int p.2) (.int q.2) && true)) = _
 rw [kHm]
 unfold PyData.eqv
 obtain ⟨a, b⟩ := p
 obtain ⟨c, e⟩ := q
 by_cases h1 : a = c <;> by_cases h2 : b = e <;> simp [h1, h2]
theorem kOm : ∀ (a b : List (Str × Int)), PyData.eqvAll (pyL (a.map kBL)) (pyL (b.map kBL)) = decide (a = b)
 | [], [] => by simp [pyL, PyData.eqvAll]
 | [], _ :: _ => by simp [pyL, PyData.eqvAll]
 | _ :: _, [] => by simp [pyL, PyData.eqvAll]
 | x :: a, y :: b => by
  simp only [gG1, pyL, PyData.eqvAll]
  rw [kOm a b, kRL]
  by_cases h1 : x = y <;> by_cases h2 : a = b <;> simp [h1, h2]
theorem kRR (hn : Nms ns) (hf : BdF f) (hg : BdF g) : dEq (kD ns f) (kD ns g) = some (.bool (decide (kAF ns f = kAF ns g))) := by
 show (deq (kD ns f) (kD ns g)).map D.bool = _
 unfold deq
 rw [if_pos ⟨(kLO hn hf).fine, (kLO hn hg).fine⟩]
 show some (D.bool (PyData.eqv (.tuple (pyL ((kAF ns f).map kBL))) (.tuple (pyL ((kAF ns g).map kBL))))) = _
 unfold PyData.eqv
 rw [kOm]
theorem kOf (fz : ∀ n, n ∉ ns → f n = 0) (gz : ∀ n, n ∉ ns → g n = 0) : kAF ns f = kAF ns g ↔ f = g := by
 refine ⟨fun e => funext fun x => ?_, fun e => by rw [e]⟩
 rw [← kNZ (x := x) fz, ← kNZ (x := x) gz, e]
theorem bd0 : BdF fun _ => 0 := fun _ => by show -10000000 ≤ (0 : Int) ∧ (0 : Int) ≤ 10000000; decide
theorem kMj (hn : Nms ns) (hf : BdF f) (hg : BdF g) (hz : BdF z) (hw : BdF w) : eqOf 1 FA9 (pD ns f z w fee) (pD ns g z w fee) = some (.bool (decide (kAF ns f = kAF ns g))) := by
 have io : dIsO 1 (pD ns g z w fee) = some (.bool true) := rfl
 have a1 : kDd kBn (pD ns f z w fee) = some (kD ns f) := rfl
 have a2 : kDd kCb (pD ns f z w fee) = some (kD ns z) := rfl
 have a3 : kDd kFB (pD ns f z w fee) = some (.int fee) := rfl
 have a4 : kDd kCa (pD ns f z w fee) = some (kD ns w) := rfl
 have b1 : kDd kBn (pD ns g z w fee) = some (kD ns g) := rfl
 have b2 : kDd kCb (pD ns g z w fee) = some (kD ns z) := rfl
 have b3 : kDd kFB (pD ns g z w fee) = some (.int fee) := rfl
 have b4 : kDd kCa (pD ns g z w fee) = some (kD ns w) := rfl
 have e1 := kRR hn hf hg
 have e2 := kRR hn hz hz
 have e4 := kRR hn hw hw
 have e3 := kEn fee fee
 rw [gH1 rfl] at e2 e3 e4
 have h : FA9 [pD ns f z w fee, pD ns g z w fee] = .ok (.bool (decide (kAF ns f = kAF ns g))) .non := by
  refine kBy (n := 2) (ds := [pD ns f z w fee, pD ns g z w fee]) (e := [some (pD ns f z w fee), some (pD ns g z w fee)]) ?_ 0
  show kEW [some (pD ns f z w fee), some (pD ns g z w fee)] = _
  unfold kEW
  generalize decide (kAF ns f = kAF ns g) = qq at *
  generalize pD ns f z w fee = P1 at *
  generalize pD ns g z w fee = P2 at *
  generalize kD ns f = KF at *
  generalize kD ns g = KG at *
  generalize kD ns z = KZ at *
  generalize kD ns w = KW at *
  cases qq <;> simp only [kDC, kPa, u_un, kAv, kIU, kAo, gE0, gE1, kAl, io, kAj, kDX, a1, a2, a3, a4, b1, b2, b3, b4, e1, e2, e3, e4]
 unfold eqOf pD
 dsimp only
 rw [if_pos ⟨by decide, by decide⟩]
 unfold pD at h
 rw [h]
theorem kKp (hf : BdF f) : ∀ s : List Str, -((s.length : Int) * 10000000) ≤ kAm f s ∧ kAm f s ≤ (s.length : Int) * 10000000
 | [] => ⟨by rw [kEU]; simp, by rw [kEU]; simp⟩
 | x :: s => by
  obtain ⟨h1, h2⟩ := kKp hf s
  obtain ⟨h3, h4⟩ := hf x
  rw [kAV, gG0]
  constructor <;> omega
theorem kTu (hw : BdF w) (s : List Str) : maxZ (s.map w) ≤ 10000000 := by
 have h := List.mem_of_find?_eq_some (kKT (s.map w)).1
 rcases gG5.mp h with e | e
 ·rw [e]; decide
 ·obtain ⟨y, _, e⟩ := gF7.mp e
  rw [← e]
  exact (hw y).2
theorem kVj (hf : BdF f) (hg : BdF g) (hw : BdF w) (he : -10000000 ≤ fee ∧ fee ≤ 10000000) (ha : a.length ≤ 10) (hb : b.length ≤ 10) : -300000000 ≤ chgP f g w fee a b ∧ chgP f g w fee a b ≤ 300000000 := by
 unfold chgP
 by_cases e : a = b
 ·rw [if_pos e]; omega
 ·rw [if_neg e]
  have h1 := kKp hf (lesS b a)
  have h2 := kKp hg (lesS a b)
  have h3 := kTu hw (lesS b a)
  have h4 := (kKT ((lesS b a).map w)).2
  have l1 : (lesS b a).length ≤ b.length := List.length_filter_le _ _
  have l2 : (lesS a b).length ≤ a.length := List.length_filter_le _ _
  omega
theorem kLj (hf : BdF f) (hg : BdF g) (hw : BdF w) (he : -10000000 ≤ fee ∧ fee ≤ 10000000) : ∀ (r : List (List Str)) (a : List Str), a.length ≤ 10 → (∀ b ∈ r, b.length ≤ 10) → -((r.length : Int) * 300000000) ≤ kAU f g w fee a r ∧ kAU f g w fee a r ≤ (r.length : Int) * 300000000
 | [], a, _, _ => ⟨by show _ ≤ (0 : Int); simp, by show (0 : Int) ≤ _; simp⟩
 | b :: r, a, ha, hr => by
  have hb := hr b gF1
  obtain ⟨h1, h2⟩ := kVj hf hg hw he ha hb
  obtain ⟨h3, h4⟩ := kLj hf hg hw he r b hb fun c hc => hr c (gF2 _ hc)
  rw [gG0]
  show _ ≤ chgP f g w fee a b + kAU f g w fee b r ∧ chgP f g w fee a b + kAU f g w fee b r ≤ _
  constructor <;> omega
theorem kNb (hb : -1000000000000 ≤ n ∧ n ≤ 1000000000000) : kFF [.int n] = some (.str (D.int n).py.shown) ∧ dNe (.str (D.int n).py.shown) (.str (D.int n).py.shown) = some (.bool false) := by
 have nt := kJi hb
 refine ⟨?_, kRu nt⟩
 show (if kHz _ = true then _ else _) = _
 rw [if_pos nt.repr]
end
end Law
namespace PL
open PySem PySem.Spec PySem.W PyProof.Rows L2 DL PL
theorem kMi {gs : List Int} : (D.lst (gs.map D.int)).fine = true := by
 refine kKZ (kEg ?_) ?_ ?_
 ·intro d hd
  obtain ⟨_, _, rfl⟩ := gF7.mp hd
  rfl
 ·show PyData.canLay0 (.list (pyL _)) = true
  unfold PyData.canLay0
  refine kIo fun d hd => ?_
  obtain ⟨_, _, rfl⟩ := gF7.mp hd
  rfl
 ·show PyData.depth (.list (pyL _)) ≤ 64
  unfold PyData.depth
  have := kHR (n := 0) (l := gs.map D.int) fun d hd => by
   obtain ⟨_, _, rfl⟩ := gF7.mp hd
   exact Nat.le_refl _
  omega
theorem kLP {gs : List Int} : dNe (.lst (gs.map D.int)) (.lst []) = some (.bool (!gs.isEmpty)) := by
 have f0 : (D.lst ([] : List D)).fine = true := kMi (gs := [])
 unfold dNe deq
 rw [if_pos ⟨kMi, f0⟩]
 cases gs <;> rfl
theorem kTV {xs : List D} {x : D} : atI (xs ++ [x]) (-1) = some x := by
 unfold atI ixN
 rw [if_neg (by decide), if_pos (by rw [gG2, gG3]; omega)]
 simp
 have : (-1 + ((xs.length : Int) + 1)).toNat = xs.length := by omega
 first
  | (rw [this]; simp)
  | simp [this]
theorem kNO {xs : List D} {x c : D} {r : EnvD} : kGx 0 (dC (.int 0)) mPop dNil (some (.lst [.lst (xs ++ [x]), c]) :: r) = .ok x (some (.lst [.lst xs, c]) :: r) := by
 simp [at2, in2, mPop, ixN, atI]
end PL
namespace Law
open PySem PySem.Spec PySem.W PyProof.Rows L2 DL PL
def Deal (d : D) : Prop := ∃ (gs : List Int) (c : Int), d = .lst [.lst (gs.map .int), .int c] ∧ gs.length ≤ 64
abbrev wT : M Bool := (dAnd (kAp (dOp2 dNe (dIxO 0 (dC (.int 0))) (dLst dNil))) (kAp (dOp2 dEq (dOp2 dIx (dIxO 0 (dC (.int 0))) (dOp2 iSub (dC (.int 0)) (dC (.int 1)))) (dC (.int 0)))))
abbrev wB : MS := kDU (kGx 0 (dC (.int 0)) mPop dNil)
theorem at0 {x y : D} : atI [x, y] 0 = some x := rfl
theorem at1 {x y : D} : atI [x, y] 1 = some y := rfl
theorem kNu {c : D} {r : EnvD} : ∀ (n : Nat) (gs : List Int), gs.length < n → ∃ gs' : List Int, gs'.length ≤ gs.length ∧ kEF wT wB n (some (.lst [.lst (gs.map .int), c]) :: r) = .nx (some (.lst [.lst (gs'.map .int), c]) :: r)
 | 0, gs, h => by omega
 | n + 1, gs, h => by
  rcases List.eq_nil_or_concat gs with e | ⟨l, g, e⟩
  ·subst e
   refine ⟨[], Nat.le_refl _, ?_⟩
   have t : wT (some (.lst [.lst (([] : List Int).map .int), c]) :: r) = .ok false (some (.lst [.lst (([] : List Int).map .int), c]) :: r) := by
    have := kLP (gs := [])
    simp at this
    simp [at0, this]
   unfold kEF
   rw [t]
  ·rw [List.concat_eq_append] at e
   subst e
   have q1 : dNe (.lst ((l ++ [g]).map D.int)) (.lst []) = some (.bool true) := by
    rw [kLP]
    simp
   have q2 : atI ((l ++ [g]).map D.int) (-1) = some (.int g) := by
    rw [gG7]
    exact kTV
   have sb : iSub (.int 0) (.int 1) = some (.int (-1)) := rfl
   have t : wT (some (.lst [.lst ((l ++ [g]).map .int), c]) :: r) = .ok (decide (g = 0)) (some (.lst [.lst ((l ++ [g]).map .int), c]) :: r) := by
    simp only [kVz, kAG, kAv, kUk, u_c, kET, kAq, kAl, kUl, at0, kAj, gE0, q1, sb, q2, kEn, if_true]
   by_cases z : g = 0
   ·obtain ⟨gs', h1, h2⟩ := kNu (c := c) (r := r) n l (by rw [gG2, gG3] at h; omega)
    refine ⟨gs', by rw [gG2]; omega, ?_⟩
    unfold kEF
    rw [t]
    rw [show decide (g = 0) = true from gH1 z]
    have p : wB (some (.lst [.lst ((l ++ [g]).map .int), c]) :: r) = .nx (some (.lst [.lst (l.map .int), c]) :: r) := by
     have := kNO (xs := l.map D.int) (x := .int g) (c := c) (r := r)
     rw [gG7]
     show (match kGx 0 (dC (.int 0)) mPop dNil (some (.lst [.lst (l.map D.int ++ [.int g]), c]) :: r) with | .ok _ e => OutS.nx e | .exc c a e => .exc c a e | .bad => .bad) = _
     rw [this]
    dsimp only
    rw [p]
    exact h2
   ·refine ⟨l ++ [g], Nat.le_refl _, ?_⟩
    unfold kEF
    rw [t, show decide (g = 0) = false from gH2 z]
theorem kEI {d : D} (hd : Deal d) {m : Int} (h0 : 0 < m) (h1 : m < 1073741824) : ∃ (k : Int) (d' : D), FA1 [d, .int m] = .ok (.int k) d' ∧ Deal d' ∧ 0 ≤ k ∧ k < m := by
 obtain ⟨gs, c, rfl, hl⟩ := hd
 obtain ⟨gs', h2, e⟩ := kNu (c := .int c) (r := [some (.int m), none]) fuel gs (by show _ < 100000; omega)
 rcases List.eq_nil_or_concat gs' with z | ⟨l, g, z⟩
 ·subst z
  have q1 := kLP (gs := [])
  simp at q1
  refine ⟨(c * 48271 + 97) % 2147483647 / 64 % m, .lst [.lst [], .int ((c * 48271 + 97) % 2147483647)], ?_, ⟨[], _, rfl, by decide⟩, Int.emod_nonneg _ (by omega), Int.emod_lt_of_pos _ h0⟩
  unfold FA1 runF kFx
  simp only [gG1, List.map_nil, gG0, List.length_nil, List.replicate, List.cons_append, List.nil_append, kMC]
  rw [e]
  simp [at0, at1, q1, kLh, ixN, D.hot, h0]
 ·rw [List.concat_eq_append] at z
  subst z
  have q1 : dNe (.lst (l.map D.int ++ [.int g])) (.lst []) = some (.bool true) := by
   have z := kLP (gs := l ++ [g])
   rw [gG7, show List.map D.int [g] = [D.int g] from rfl] at z
   rw [z]
   simp
  have sz : 100 ≤ sizeLine := by decide
  refine ⟨g % m, .lst [.lst ((l ++ [g / m]).map .int), .int c], ?_, ⟨l ++ [g / m], c, rfl, by rw [gG2, gG3] at h2 ⊢; omega⟩, Int.emod_nonneg _ (by omega), Int.emod_lt_of_pos _ h0⟩
  unfold FA1 runF kFx
  simp only [gG1, List.map_nil, gG0, List.length_nil, List.replicate, List.cons_append, List.nil_append, kMC]
  rw [e]
  rw [gG7, show List.map D.int [g] = [D.int g] from rfl]
  have p := kNO (xs := l.map D.int) (x := .int g) (c := .int c) (r := [some (.int m), none])
  simp only [kPy, kMC, kCB, kAG, kAv, kUk, u_c, kET, kAq, kAl, kUl, at0, kAj, gE0, gG1, List.map_nil, q1, if_true, kDj, u_cb, kAi, p, kUn]
  have lt : l.length < sizeLine := by rw [gG2, gG3] at h2; omega
  simp [at2, in2, kCz, ixN, h0, h1, lt]
theorem kVo {xs : List D} {k : Int} (h0 : 0 ≤ k) (h1 : k < xs.length) : ∃ x, atI xs k = some x ∧ x ∈ xs := by
 refine ⟨xs[k.toNat]'(by omega), ?_, List.getElem_mem _⟩
 unfold atI ixN
 rw [if_pos h0, if_pos h1]
 exact gF6 _
theorem kVH {d : D} (hd : Deal d) {xs : List D} (h0 : xs ≠ []) (h1 : xs.length < 1000000) : ∃ (x d' : D), FAn [d, .lst xs] = .ok x d' ∧ Deal d' ∧ x ∈ xs := by
 have hp : 0 < xs.length := List.length_pos_iff.mpr h0
 obtain ⟨k, d', e, hd', k0, k1⟩ := kEI hd (m := xs.length) (by omega) (by omega)
 obtain ⟨x, hx, hm⟩ := kVo k0 k1
 refine ⟨x, d', ?_, hd', hm⟩
 unfold FAn runF kHi
 simp [e, hx]
section
variable {ns l a b : List Str} {f g w : Str → Int} {fee d n : Int} {va vb vc v x : D} {qa qb qc q : List Itm} {r : List (List Str)} {S : List Int}
def absI (n : Int) : Int := if n < 0 then -n else n
abbrev eQ (S : List Int) (o2 o3 o4 : Option D) : EnvD := [some (.ro (S.map D.int)), some (.int 1), o2, o3, o4]
theorem kTQ (hS : S.length ≤ 63) : ∃ d, FAu [.ro (S.map D.int), .int 1] = .ok d .non ∧ Deal d := by
 have cm : DL.cutD (S.map D.int) (some 1) (some 63) = (DL.cutD S (some 1) (some 63)).map D.int := by
  unfold DL.cutD
  rw [gF0, List.map_take, List.map_drop]
 have cs0 : (DL.cutD S (some 1) (some 63)).length ≤ 63 := Nat.le_trans ((List.take_sublist _ _).trans (List.drop_sublist _ _)).length_le hS
 generalize DL.cutD S (some 1) (some 63) = C at cm cs0
 have h1 : lcGo true (gN 4) mYes (dCB dAbs (kAa (dVar 4) dNil)) [4] (C.map D.int) (eQ S none none none) = some ((C.map absI).map D.int, eQ S none none none) := by
  have := kBd (env := eQ S none none none) (gd := gN 4) (m := dCB dAbs (kAa (dVar 4) dNil)) (vs := [4]) D.int (fun n => D.int (absI n)) (l := C) fun n _ => ⟨_, rfl, by simp [kAN, absI]⟩
  rw [this, gH3]
  rfl
 generalize hc : C.map absI = cs at h1
 have cl : cs.length ≤ 63 := by rw [← hc, gF0]; exact cs0
 have st0 : kFo (eQ S none none none) = .nx (eQ S (some (.lst (cs.map D.int))) none none) := by
  have ct : dCut (.ro (S.map D.int)) (some 1) (some 63) = some (.lst (C.map D.int)) := by
   show some (D.lst (DL.cutD (S.map D.int) (some 1) (some 63))) = _
   rw [cm]
  unfold kFo
  simp only [kDj, u_lc, kBi, kOX, kAo, kOZ, kOY, u_c, kAl, kVh, cond_true, ct, kAj, kLs, gE0, gE1, h1, List.set]
 have st1 : kFn (eQ S (some (.lst (cs.map D.int))) none none) = .nx (eQ S (some (.lst (cs.map D.int))) (some (.int 538062)) none) := by
  have m := kGj (a := 61) (b := 1) (by decide) (by decide)
  unfold kFn
  simp [-kUj, m]
 obtain ⟨env', e1, e2⟩ := kKY (gd := gN 4) (body := kDJ)
  (I := fun _ e => ∃ (b : Int) (o : Option D), e = eQ S (some (.lst (cs.map D.int))) (some (.int b)) o) (J := fun _ => False) (ds := cs.map D.int) (k := 0) (env := eQ S (some (.lst (cs.map D.int))) (some (.int 538062)) none) ⟨_, _, rfl⟩ fun i d env hd hI => by
   obtain ⟨b, o, rfl⟩ := hI
   rw [gI0] at hd
   cases w : cs[i]? with
   | none => rw [w] at hd; cases hd
   | some n =>
    rw [w] at hd
    obtain rfl : D.int n = d := gF3 hd
    refine ⟨_, rfl, .inl ⟨eQ S (some (.lst (cs.map D.int))) (some (.int ((b * 48271 + n % 2147483549 + 31) % 2147483647))) (some (.int n)), .inl ?_, _, _, rfl⟩⟩
    unfold kDJ
    simp
 obtain ⟨b, o, rfl⟩ := e2.elim id False.elim
 have st2 : kFm (eQ S (some (.lst (cs.map D.int))) (some (.int 538062)) none) = .nx (eQ S (some (.lst (cs.map D.int))) (some (.int b)) o) := by
  unfold kFm
  simp only [kLt, kBi, kAo, gE0, gE1, kAl, kLs, e1]
 have h2 := kDa (gd := gN 4) (env := eQ S (some (.lst (cs.map D.int))) (some (.int b)) o) (t := kAp (dOp2 dGe (dVar 4) (dOp2 iPow (dC (.int 10)) (dC (.int 18))))) (m := dVar 4) (vs := [4]) D.int (fun n => decide (1000000000000000000 ≤ n)) D.int (l := cs) fun n _ => ⟨_, rfl, by simp [kAN], fun _ => by simp [kAN]⟩
 have st3 : kFl (eQ S (some (.lst (cs.map D.int))) (some (.int b)) o) = .rt (.lst [.lst ((cs.filter fun n => decide (1000000000000000000 ≤ n)).reverse.map D.int), .int b]) (eQ S (some (.lst (cs.map D.int))) (some (.int b)) o) := by
  unfold kFl
  simp [h2, dRev, kLN, D.hot]
 refine ⟨.lst [.lst ((cs.filter fun n => decide (1000000000000000000 ≤ n)).reverse.map D.int), .int b], ?_, _, _, rfl, ?_⟩
 ·have all : kFz (eQ S none none none) = .rt (.lst [.lst ((cs.filter fun n => decide (1000000000000000000 ≤ n)).reverse.map D.int), .int b]) (eQ S (some (.lst (cs.map D.int))) (some (.int b)) o) := by
   rw [kJS]
   exact (kAs st0).trans ((kAs st1).trans ((kAs st2).trans st3))
  exact kBy (n := 5) (ds := [.ro (S.map D.int), .int 1]) all 0
 ·rw [List.length_reverse]
  exact Nat.le_trans (List.length_filter_le _ _) (by omega)
theorem kKb (hx : Deal x) : ∃ (k : Int) (x' : D), FA4 [x] = .ok (.int k) x' ∧ Deal x' ∧ 0 ≤ k ∧ k ≤ 250000 := by
 obtain ⟨k1, x1, e1, hx1, a1, b1⟩ := kEI hx (m := 3) (by omega) (by omega)
 have gt : dGt (.int k1) (.int 0) = some (.bool (decide (0 < k1))) := rfl
 by_cases c : 0 < k1
 ·rw [gH1 c] at gt
  obtain ⟨k2, x2, e2, hx2, a2, b2⟩ := kEI hx1 (m := 4) (by omega) (by omega)
  refine ⟨k2, x2, ?_, hx2, a2, by omega⟩
  refine kBy (n := 1) (ds := [x]) (e := [some x2]) ?_ 2
  show kCT [some x] = _
  unfold kCT
  simp only [kDC, u_if, kAG, kAv, kBE, u_c, kAi, kAq, gE0, kAl, gE2, e1, kCM, List.set, gt, kAj, if_true, e2]
 ·rw [gH2 c] at gt
  obtain ⟨k2, x2, e2, hx2, a2, b2⟩ := kEI hx1 (m := 250001) (by omega) (by omega)
  refine ⟨k2, x2, ?_, hx2, a2, by omega⟩
  refine kBy (n := 1) (ds := [x]) (e := [some x2]) ?_ 2
  show kCT [some x] = _
  unfold kCT
  simp only [kDC, u_if, kAG, kAv, kBE, u_c, kAi, kAq, gE0, kAl, gE2, e1, kCM, List.set, gt, kAj, gE3, if_false, e2]
abbrev eNm (x : D) (l : List Str) (o2 o3 : Option D) : EnvD := [some x, some (.lst (l.map D.str)), o2, o3, none]
theorem kPF (hx : Deal x) (nd : l.Nodup) (nam : ∀ n ∈ l, Nam n) (ll : l.length ≤ 50) {o2 o3 : Option D} : ∃ (x' : D) (l' : List Str) (o3' : Option D), (dSeq kBI kBH) (eNm x l o2 o3) = .nx (eNm x' l' o2 o3') ∧ Deal x' ∧ l'.Nodup ∧ (∀ n ∈ l', Nam n) ∧ l'.length ≤ l.length + 1 ∧ l' ≠ [] := by
 obtain ⟨k1, x1, e1, hx1, a1, b1⟩ := kEI hx (m := 5) (by omega) (by omega)
 obtain ⟨w, rfl, w5⟩ := kLQ (n := 5) a1 b1
 obtain ⟨xs, env2, e3, lx, hxs, x3, hx3, rfl⟩ := kPR (gd := gN 4) (m := dOp2 dIx (dC (.str "abcdefghijklmnopqrstuvwxyz")) (kAn FA1 0 [] (kAa (dC (.int 26)) dNil))) (vs := [4]) (I := fun e => ∃ x, Deal x ∧ e = eNm x l o2 o3) (P := fun d => ∃ c : Nat, c < 26 ∧ d = .str (letter c)) (ds := (List.range (1 + w)).map pI) (env := eNm x1 l o2 o3) ⟨x1, hx1, rfl⟩ fun z hz env hI => by
  obtain ⟨x, hx, rfl⟩ := hI
  obtain ⟨k, x', e, hx', c0, c1⟩ := kEI hx (m := 26) (by omega) (by omega)
  have al := kSe c0 c1
  exact ⟨_, .str (letter k.toNat), (eNm x' l o2 o3).set 4 (some z), rfl, by
   simp only [kAN, gN, List.set, List.foldl, kAv, u_c, kBE, kAi, kAq, gE0, kAl, gE2, e, kCM, al, kAj], ⟨k.toNat, by omega, rfl⟩, x', hx', rfl⟩
 obtain ⟨cs, rfl, hcs⟩ := kKe hxs
 have it : (kDc (kAa (dOp2 dAdd (dC (.int 1)) (kAn FA1 0 [] (kAa (dC (.int 5)) dNil))) dNil)) (eNm x l o2 o3) = .ok ((List.range (1 + w)).map pI) (eNm x1 l o2 o3) := kHA (by
  simp only [kAi, kAq, kAv, u_c, kBE, gE0, kAl, gE2, e1, kCM, kSn, kAj, List.set]
  rw [show (1 : Int) + (w : Int) = ((1 + w : Nat) : Int) by omega]) (by omega)
 have lcs : cs.length = 1 + w := by
  rw [gF0, gF0, List.length_range] at lx
  exact lx
 have st0 : kBI (eNm x l o2 o3) = .nx (eNm x3 l o2 (some (.lst (cs.map fun c => D.str (letter c))))) := by
  unfold kBI
  rw [kDj, u_lc, it]
  simp only [e3]
  rfl
 have jn : kJT "" (.lst (cs.map fun c => D.str (letter c))) = some (.str (txt (cs.map (97 + ·)))) := kMc (by omega)
 have nt : Nam (txt (cs.map (97 + ·))) := kTr (by rw [gF0]; omega) (by rw [gF0]; omega) fun c hc => by
  obtain ⟨k, hk, rfl⟩ := gF7.mp hc
  have := hcs k hk
  omega
 generalize txt (cs.map (97 + ·)) = t at jn nt
 have ni := kUN nt nam
 by_cases c : t ∈ l
 ·rw [gH1 c] at ni
  refine ⟨x3, l, some (.lst (cs.map fun c => D.str (letter c))), (kAs st0).trans ?_, hx3, nd, nam, by omega, fun e => by rw [e] at c; cases c⟩
  unfold kBH
  generalize D.lst (cs.map fun c => D.str (letter c)) = CC at *
  simp only [kCB, kAG, kAv, u_un, kAo, gE0, gE1, kAl, jn, kAj, ni, Bool.not_true, gE3, if_false, kCL]
 ·rw [gH2 c] at ni
  have ap : kCz (l.map D.str) [.str t] = some (.non, (l ++ [t]).map D.str) := by
   have z : 1000 ≤ sizeLine := by decide
   show (if (l.map D.str).length < sizeLine then _ else _) = _
   rw [if_pos (by rw [gF0]; omega), gG7]
   rfl
  refine ⟨x3, l ++ [t], some (.lst (cs.map fun c => D.str (letter c))), (kAs st0).trans ?_, hx3, List.nodup_append.mpr ⟨nd, List.nodup_cons.mpr ⟨gI2, .nil⟩, fun y hy z hz e => by
   rw [gG4.mp hz] at e
   rw [e] at hy
   exact c hy⟩, fun n hn => by
   rcases gG8.mp hn with hn | hn
   ·exact nam n hn
   ·rw [gG4.mp hn]; exact nt, by rw [gG2, gG3]; omega, fun e => by
   have := congrArg List.length e
   rw [gG2, gG3, List.length_nil] at this
   omega⟩
  unfold kBH
  generalize D.lst (cs.map fun c => D.str (letter c)) = CC at *
  simp only [kCB, kAG, kAv, u_un, kAo, gE0, gE1, kAl, jn, kAj, ni, Bool.not_false, if_true, kIs, kIr, kAi, kAq, ap, List.set]
theorem kRv (hx : Deal x) : ∃ (l : List Str) (x' : D), FAr [x] = .ok (.lst (l.map D.str)) x' ∧ Deal x' ∧ l.Nodup ∧ (∀ n ∈ l, Nam n) ∧ l.length ≤ 6 ∧ l ≠ [] := by
 obtain ⟨k1, x1, e1, hx1, a1, b1⟩ := kEI hx (m := 6) (by omega) (by omega)
 obtain ⟨w, rfl, w6⟩ := kLQ (n := 6) a1 b1
 have it : (kDc (kAa (dOp2 dAdd (dC (.int 1)) (kAn FA1 0 [] (kAa (dC (.int 6)) dNil))) dNil)) (eNm x [] none none) = .ok ((List.range (1 + w)).map pI) (eNm x1 [] none none) := kHA (by
  simp only [kAi, kAq, kAv, u_c, kBE, gE0, kAl, gE2, e1, kCM, kSn, kAj, List.set]
  rw [show (1 : Int) + (w : Int) = ((1 + w : Nat) : Int) by omega]) (by omega)
 obtain ⟨env', e2, hI⟩ := kKY (gd := gN 2) (body := dSeq kBI kBH) (I := fun k e => ∃ (x : D) (l : List Str) (o2 o3 : Option D), e = eNm x l o2 o3 ∧ Deal x ∧ l.Nodup ∧ (∀ n ∈ l, Nam n) ∧ l.length ≤ k ∧ (1 ≤ k → l ≠ [])) (J := fun _ => False) (ds := (List.range (1 + w)).map pI) (k := 0) (env := eNm x1 [] none none) ⟨x1, [], none, none, rfl, hx1, .nil, nofun, Nat.le_refl _, fun h => by omega⟩ fun i d env hd hI => by
  obtain ⟨x, l, o2, o3, rfl, hx, nd, nam, ll, _⟩ := hI
  have hi : i < 1 + w := by
   have := (gF8.mp hd).1
   rw [gF0, List.length_range] at this
   exact this
  obtain ⟨x', l', o3', e, hx', nd', nam', ll', ne'⟩ := kPF (o2 := some d) (o3 := o3) hx nd nam (by omega)
  exact ⟨eNm x l (some d) o3, rfl, .inl ⟨eNm x' l' (some d) o3', .inl e, x', l', some d, o3', rfl, hx', nd', nam', by omega, fun _ => ne'⟩⟩
 obtain ⟨x', l, o2, o3, rfl, hx', nd, nam, ll, ne⟩ := hI.elim id False.elim
 rw [gF0, List.length_range] at ll ne
 refine ⟨l, x', ?_, hx', nd, nam, by omega, ne (by omega)⟩
 refine kBy (n := 5) (ds := [x]) (e := [some x', none, o2, o3, none]) ?_ 2
 rw [kJn]
 have st0 : kGO [some x, none, none, none, none] = .nx (eNm x [] none none) := rfl
 have st1 : kEL (eNm x [] none none) = .nx (eNm x' l o2 o3) := by
  unfold kEL
  rw [kLt, it]
  exact e2
 exact (kAs st0).trans ((kAs st1).trans rfl)
theorem kPL (hn : Nms ns) (pm : l.Perm ns) (hx : Deal x) : ∃ (a : List Str) (x' : D), FAl [x, .lst (l.map D.str)] = .ok (T a) x' ∧ Deal x' ∧ a.Sublist ns := by
 obtain ⟨r1, env1, e1, s1, x1, hx1, rfl⟩ := kPQ (gd := gN 2) (t := kAp (dOp2 dEq (kAn FA1 0 [] (kAa (dC (.int 2)) dNil)) (dC (.int 0)))) (m := dVar 2) (vs := [2]) (I := fun e => ∃ x, Deal x ∧ e = [some x, some (.lst (l.map D.str)), none]) (ds := l.map D.str) (env := [some x, some (.lst (l.map D.str)), none]) ⟨x, hx, rfl⟩ fun z hz env hI => by
  obtain ⟨x, hx, rfl⟩ := hI
  obtain ⟨k, x', e, hx', c0, c1⟩ := kEI hx (m := 2) (by omega) (by omega)
  have dq := kEn k 0
  refine ⟨_, decide (k = 0), [some x', some (.lst (l.map D.str)), some z], rfl, ?_, fun _ => ⟨x', hx', rfl⟩, fun _ => ⟨[some x', some (.lst (l.map D.str)), some z], rfl, x', hx', rfl⟩⟩
  generalize D.lst (l.map D.str) = LL at *
  simp only [kAN, gN, List.set, List.foldl, kAG, kAv, u_c, kBE, kAi, kAq, gE0, kAl, gE2, e, kCM, dq, kAj]
 obtain ⟨l', sl, rfl⟩ := List.sublist_map_iff.mp s1
 have nd' : l'.Nodup := (pm.nodup_iff.mpr hn.up.nodup).sublist sl
 obtain ⟨a, p, sa, so⟩ := kTM hn nd' fun y hy => pm.mem_iff.mp (sl.subset hy)
 refine ⟨a, x1, ?_, hx1, sa⟩
 have sk : kDt [.lst (l'.map D.str)] = some (.lst (a.map D.str)) := by rw [kLA, if_pos kKt, so]
 have tl : kEp [.lst (a.map D.str)] = some (T a) := rfl
 refine kBy (n := 3) (ds := [x, .lst (l.map D.str)]) (e := [some x1, some (.lst (l.map D.str)), none]) ?_ 2
 show kIw [some x, some (.lst (l.map D.str)), none] = _
 unfold kIw
 have it : items (.lst (l.map D.str)) = some (l.map D.str) := rfl
 generalize D.lst (l.map D.str) = LL at *
 simp only [kDC, u_cb, u_lc, kBi, kAi, kAq, kAo, gE0, gE1, kAl, it, e1, sk, kAj, tl]
theorem kPs (hn : Nms ns) (pm : l.Perm ns) (ha : a.Sublist ns) (hb : b.Sublist ns) (hx : Deal x) : ∃ (m : List (List Str)) (x' : D), FAo [x, .lst (l.map D.str), T a, T b] = .ok (.lst ((a :: (m ++ [b])).map T)) x' ∧ Deal x' ∧ m.length ≤ 5 ∧ ∀ t ∈ m, t.Sublist ns := by
 obtain ⟨k1, x1, e1, hx1, a1, b1⟩ := kEI hx (m := 6) (by omega) (by omega)
 obtain ⟨w, rfl, w6⟩ := kLQ (n := 6) a1 b1
 have it : (kDc (kAa (kAn FA1 0 [] (kAa (dC (.int 6)) dNil)) dNil)) [some x, some (.lst (l.map D.str)), some (T a), some (T b), none] = .ok ((List.range w).map pI) [some x1, some (.lst (l.map D.str)), some (T a), some (T b), none] := kHA (by
  simp only [kAi, kAq, u_c, kBE, gE0, kAl, gE2, e1, kCM, List.set]) (by omega)
 obtain ⟨us, env2, e3, s2, h2, x3, hx3, rfl⟩ := kSy (gd := gN 4) (m := kAn FAl 0 [] (kAa (dVar 1) dNil)) (vs := [4]) (I := fun e => ∃ x, Deal x ∧ e = [some x, some (.lst (l.map D.str)), some (T a), some (T b), none]) pI (fun _ p => T p) (fun _ p => p.Sublist ns) (l := List.range w) (env := [some x1, some (.lst (l.map D.str)), some (T a), some (T b), none]) ⟨x1, hx1, rfl⟩ fun z hz env hI => by
  obtain ⟨x, hx, rfl⟩ := hI
  obtain ⟨p, x', e, hx', hp⟩ := kPL hn pm hx
  refine ⟨_, p, [some x', some (.lst (l.map D.str)), some (T a), some (T b), some (pI z)], rfl, ?_, hp, x', hx', rfl⟩
  generalize D.lst (l.map D.str) = LL at *
  simp only [kAN, gN, List.set, List.foldl, kBE, kAi, kAq, kAo, gE0, gE1, kAl, gE2, e, kCM]
 have lu : us.length ≤ 5 := by
  have := congrArg List.length s2
  rw [gF0, List.length_range] at this
  omega
 have mu : (us.map fun u => T u.2) = (us.map (·.2)).map T := by rw [gH3]; rfl
 refine ⟨us.map (·.2), x3, ?_, hx3, by rw [gF0]; exact lu, fun t ht => by
  obtain ⟨u, hu, rfl⟩ := gF7.mp ht
  exact h2 u hu⟩
 rw [mu] at e3
 have ad1 : dAdd (.lst [T a]) (.lst ((us.map (·.2)).map T)) = some (.lst ((a :: us.map (·.2)).map T)) := kJH (by rw [gF0, gF0, gG3]; omega)
 have ad2 : dAdd (.lst ((a :: us.map (·.2)).map T)) (.lst [T b]) = some (.lst ((a :: (us.map (·.2) ++ [b])).map T)) := by
  rw [kJH (by rw [gF0, gG0, gF0, gG3]; omega)]
  rw [gG1, gG1, gG7]
  rfl
 refine kBy (n := 5) (ds := [x, .lst (l.map D.str), T a, T b]) (e := [some x3, some (.lst (l.map D.str)), some (T a), some (T b), none]) ?_ 2
 show kHw [some x, some (.lst (l.map D.str)), some (T a), some (T b), none] = _
 unfold kHw
 generalize D.lst (l.map D.str) = LL at *
 generalize (us.map (·.2)).map T = UU at *
 generalize D.lst ((a :: (us.map (·.2) ++ [b])).map T) = RR at *
 generalize D.lst ((a :: us.map (·.2)).map T) = R1 at *
 simp only [kDC, kAv, kET, u_lc, it, e3, kAi, kAq, kAo, gE0, gE1, kAl, ad1, kAj, ad2]
end
section
variable {ns l dn : List Str} {f g w : Str → Int} {u v c : Int} {x : D} {qa qb qc q : List Itm} {nm : Str} {k : Nat}
def insI (q : List Itm) (k : Nat) (nm : Str) (v : Int) : List Itm := q.take k ++ [(true, nm, v)] ++ q.drop k
def put (f : Str → Int) (nm : Str) (v : Int) : Str → Int := fun n => if n = nm then v else f n
theorem kTE {i : Itm} : i ∈ insI q k nm v ↔ i = (true, nm, v) ∨ i ∈ q := by
 unfold insI
 rw [gG8, gG8, gG4]
 constructor
 ·rintro ((h | h) | h)
  ·exact .inr (List.mem_of_mem_take h)
  ·exact .inl h
  ·exact .inr (List.mem_of_mem_drop h)
 ·rintro (h | h)
  ·exact .inl (.inr h)
  ·rw [← List.take_append_drop k q] at h
   rcases gG8.mp h with h | h
   ·exact .inl (.inl h)
   ·exact .inr h
theorem Prs.ins (h : Prs dn f q) (hx : nm ∉ dn) : Prs (dn ++ [nm]) (put f nm v) (insI q k nm v) := by
 have hq : nm ∉ q.map (·.2.1) := fun m => by
  obtain ⟨i, hi, e⟩ := gF7.mp m
  exact hx (by rw [← e]; exact (h.val i hi).1)
 have e : (insI q k nm v).map (·.2.1) = (q.map (·.2.1)).take k ++ [nm] ++ (q.map (·.2.1)).drop k := by
  unfold insI
  rw [gG7, gG7, List.map_take, List.map_drop]
  rfl
 have pm : ((insI q k nm v).map (·.2.1)).Perm (nm :: q.map (·.2.1)) := by
  rw [e, List.append_assoc]
  refine List.perm_middle.trans ?_
  show (nm :: ((q.map (·.2.1)).take k ++ (q.map (·.2.1)).drop k)).Perm _
  rw [List.take_append_drop]
 refine ⟨pm.nodup_iff.mpr (List.nodup_cons.mpr ⟨hq, h.nd⟩), fun i hi => ?_, fun n hn => ?_⟩
 ·unfold put
  rcases kTE.mp hi with rfl | hi
  ·exact ⟨List.mem_append_right _ gF1, if_pos rfl⟩
  ·obtain ⟨h1, h2⟩ := h.val i hi
   refine ⟨List.mem_append_left _ h1, ?_⟩
   rw [if_neg (fun z => hx (by rw [← z]; exact h1))]
   exact h2
 ·have hn : n ∉ nm :: q.map (·.2.1) := fun m => hn (pm.mem_iff.mpr m)
  unfold put
  rw [if_neg (fun z => hn (by rw [z]; exact gF1))]
  exact h.zero n fun m => hn (gF2 _ m)
theorem Prs.wk (h : Prs dn f q) : Prs (dn ++ [nm]) f q := ⟨h.nd, fun i hi => ⟨List.mem_append_left _ (h.val i hi).1, (h.val i hi).2⟩, h.zero⟩
theorem kSA (hl : q.length ≤ 100) (hk : k ≤ 1000) : kEl (q.map itD) [.int (k : Int), itD (true, nm, v)] = some (.non, (insI q k nm v).map itD) := by
 have z : 1000 ≤ sizeLine := by decide
 show (if (q.map itD).length < sizeLine ∧ 0 ≤ (k : Int) ∧ (k : Int) < 2 ^ 63 then some (D.non, (q.map itD).take (k : Int).toNat ++ [itD (true, nm, v)] ++ (q.map itD).drop (k : Int).toNat) else none) = _
 rw [if_pos ⟨by rw [gF0]; omega, by omega, by omega⟩, Int.toNat_natCast]
 unfold insI
 rw [gG7, gG7, List.map_take, List.map_drop]
 rfl
theorem kVp (hl : q.length ≤ 100) : kCz (q.map itD) [itD (true, nm, v)] = some (.non, (insI q q.length nm v).map itD) := by
 have z : 1000 ≤ sizeLine := by decide
 show (if (q.map itD).length < sizeLine then _ else _) = _
 rw [if_pos (by rw [gF0]; omega)]
 unfold insI
 rw [List.take_length, List.drop_length, gE2, gG7]
 rfl
structure LiI (dn : List Str) (f g w : Str → Int) (qa qb qc : List Itm) : Prop where
 pa : Prs dn f qa
 pb : Prs dn g qb
 pc : Prs dn w qc
 pos : ∀ n, 0 ≤ f n + g n
 w0 : ∀ n, 0 ≤ w n
 bf : ∀ n, -500000 ≤ f n ∧ f n ≤ 500000
 bg : ∀ n, -500000 ≤ g n ∧ g n ≤ 500000
 bw : ∀ n, -500000 ≤ w n ∧ w n ≤ 500000
theorem Prs.out0 (h : Prs dn f q) (hx : nm ∉ dn) : f nm = 0 := h.zero nm fun m => by
 obtain ⟨i, hi, e⟩ := gF7.mp m
 exact hx (by rw [← e]; exact (h.val i hi).1)
theorem kEQ {P : Int → Prop} (h : ∀ n, P (f n)) (hv : P v) : ∀ n, P (put f nm v n) := fun n => by
 unfold put
 by_cases e : n = nm
 ·rw [if_pos e]; exact hv
 ·rw [if_neg e]; exact h n
theorem kJc {a b : Int} (h : ∀ n, 0 ≤ f n + g n) (hv : 0 ≤ a + b) : ∀ n, 0 ≤ put f nm a n + put g nm b n := fun n => by
 unfold put
 by_cases e : n = nm
 ·rw [if_pos e, if_pos e]; exact hv
 ·rw [if_neg e, if_neg e]; exact h n
theorem kNN (h : f nm = 0) : put f nm 0 = f := funext fun n => by
 unfold put
 by_cases e : n = nm
 ·rw [if_pos e, e, h]
 ·rw [if_neg e]
abbrev eLi (x : D) (NM : D) (qa qb qc : List Itm) (o5 o6 o7 o8 : Option D) : EnvD := [some x, some NM, some (.lst (qa.map itD)), some (.lst (qb.map itD)), some (.lst (qc.map itD)), o5, o6, o7, o8]
theorem li_0 (hx : Deal x) {NM : D} {o5 o6 o7 o8 : Option D} : ∃ (x' : D) (c u v : Int), kCD (eLi x NM qa qb qc o5 o6 o7 o8) = .nx (eLi x' NM qa qb qc o5 (some (.int c)) (some (.int u)) (some (.int v))) ∧ Deal x' ∧ 0 ≤ c ∧ c < 6 ∧ 0 ≤ u ∧ u ≤ 250000 ∧ 0 ≤ v ∧ v ≤ 250000 := by
 obtain ⟨c, x1, e1, hx1, c0, c1⟩ := kEI hx (m := 6) (by omega) (by omega)
 obtain ⟨u, x2, e2, hx2, u0, u1⟩ := kKb hx1
 obtain ⟨v, x3, e3, hx3, v0, v1⟩ := kKb hx2
 refine ⟨x3, c, u, v, ?_, hx3, c0, c1, u0, u1, v0, v1⟩
 unfold kCD
 generalize D.lst (qa.map itD) = QA at *
 generalize D.lst (qb.map itD) = QB at *
 generalize D.lst (qc.map itD) = QC at *
 simp only [kJK, kBE, u_c, kAi, kAq, gE0, gE1, kAl, gE2, e1, e2, e3, kCM, List.set, kJJ, kGN]
theorem li_1 (hl : LiI dn f g w qa qb qc) (hx : nm ∉ dn) (la : qa.length ≤ 100) (lb : qb.length ≤ 100) {NM : D} (c0 : 0 ≤ c) (c1 : c < 6) (u0 : 0 ≤ u) (u1 : u ≤ 250000) (v0 : 0 ≤ v) (v1 : v ≤ 250000) :
  ∃ (f' g' : Str → Int) (qa' qb' : List Itm), kAC (eLi x NM qa qb qc (some (.str nm)) (some (.int c)) (some (.int u)) (some (.int v))) = .nx (eLi x NM qa' qb' qc (some (.str nm)) (some (.int c)) (some (.int u)) (some (.int v))) ∧ Prs (dn ++ [nm]) f' qa' ∧ Prs (dn ++ [nm]) g' qb' ∧ (∀ n, 0 ≤ f' n + g' n) ∧ (∀ n, -500000 ≤ f' n ∧ f' n ≤ 500000) ∧ (∀ n, -500000 ≤ g' n ∧ g' n ≤ 500000) := by
 have z0 := kEn c 0
 have z1 := kEn c 1
 have z2 := kEn c 2
 have z4 := kEn c 4
 have lt : dLt (.int c) (.int 4) = some (.bool (decide (c < 4))) := rfl
 have ad : dAdd (.int u) (.int v) = some (.int (u + v)) := rfl
 have sb : iSub (.int 0) (.int u) = some (.int (0 - u)) := rfl
 have eD : ∀ t : Int, D.lst [.str nm, .int t] = itD (true, nm, t) := fun _ => rfl
 have fz := hl.pa.out0 hx
 have gz := hl.pb.out0 hx
 have hg0 : put g nm 0 = g := kNN gz
 have hf0 : put f nm 0 = f := kNN fz
 have A : ∀ t : Int, kCz (qa.map itD) [itD (true, nm, t)] = some (.non, (insI qa qa.length nm t).map itD) := fun t => kVp la
 have B : ∀ t : Int, kEl (qb.map itD) [.int 0, itD (true, nm, t)] = some (.non, (insI qb 0 nm t).map itD) := fun t => kSA (k := 0) lb (by omega)
 by_cases q0 : c = 0
 ·rw [gH1 q0] at z0
  refine ⟨put f nm u, g, insI qa qa.length nm u, qb, ?_, hl.pa.ins hx, hl.pb.wk, ?_, kEQ (P := fun t => -500000 ≤ t ∧ t ≤ 500000) hl.bf (by omega), hl.bg⟩
  ·have a1 := A u
   unfold kAC
   simp only [kCB, kAG, kAv, u_c, kAo, gE0, gE1, kAl, z0, kAj, if_true, kIs, kIr, kET, kAi, kAq, eD, a1, List.set]
  ·have := kJc (f := f) (g := g) (nm := nm) (a := u) (b := 0) hl.pos (by omega)
   rwa [hg0] at this
 rw [gH2 q0] at z0
 by_cases q1 : c = 1
 ·rw [gH1 q1] at z1
  refine ⟨f, put g nm u, qa, insI qb 0 nm u, ?_, hl.pa.wk, hl.pb.ins hx, ?_, hl.bf, kEQ (P := fun t => -500000 ≤ t ∧ t ≤ 500000) hl.bg (by omega)⟩
  ·have b1 := B u
   unfold kAC
   simp only [kCB, kAG, kAv, u_c, kAo, gE0, gE1, kAl, z0, z1, kAj, if_true, gE3, if_false, kIs, kIr, kET, kAi, kAq, eD, b1, List.set]
  ·have := kJc (f := f) (g := g) (nm := nm) (a := 0) (b := u) hl.pos (by omega)
   rwa [hf0] at this
 rw [gH2 q1] at z1
 by_cases q4 : c < 4
 ·rw [gH1 q4] at lt
  by_cases q2 : c = 2
  ·rw [gH1 q2] at z2
   refine ⟨put f nm (u + v), put g nm (0 - u), insI qa qa.length nm (u + v), insI qb 0 nm (0 - u), ?_, hl.pa.ins hx, hl.pb.ins hx, kJc hl.pos (by omega), kEQ (P := fun t => -500000 ≤ t ∧ t ≤ 500000) hl.bf (by omega), kEQ (P := fun t => -500000 ≤ t ∧ t ≤ 500000) hl.bg (by omega)⟩
   have a1 := A (u + v)
   have b1 := B (0 - u)
   unfold kAC
   simp only [kCB, u_if, kMC, kPy, kAG, kAv, u_c, kAo, gE0, gE1, kAl, z0, z1, z2, lt, ad, sb, kAj, if_true, gE3, if_false, kIs, kIr, kET, kAi, kAq, eD, a1, b1, List.set]
  ·rw [gH2 q2] at z2
   refine ⟨put f nm (0 - u), put g nm (u + v), insI qa qa.length nm (0 - u), insI qb 0 nm (u + v), ?_, hl.pa.ins hx, hl.pb.ins hx, kJc hl.pos (by omega), kEQ (P := fun t => -500000 ≤ t ∧ t ≤ 500000) hl.bf (by omega), kEQ (P := fun t => -500000 ≤ t ∧ t ≤ 500000) hl.bg (by omega)⟩
   have a1 := A (0 - u)
   have b1 := B (u + v)
   unfold kAC
   simp only [kCB, u_if, kMC, kPy, kAG, kAv, u_c, kAo, gE0, gE1, kAl, z0, z1, z2, lt, ad, sb, kAj, if_true, gE3, if_false, kIs, kIr, kET, kAi, kAq, eD, a1, b1, List.set]
 rw [gH2 q4] at lt
 by_cases q5 : c = 4
 ·rw [gH1 q5] at z4
  refine ⟨put f nm u, put g nm v, insI qa qa.length nm u, insI qb 0 nm v, ?_, hl.pa.ins hx, hl.pb.ins hx, kJc hl.pos (by omega), kEQ (P := fun t => -500000 ≤ t ∧ t ≤ 500000) hl.bf (by omega), kEQ (P := fun t => -500000 ≤ t ∧ t ≤ 500000) hl.bg (by omega)⟩
  have a1 := A u
  have b1 := B v
  unfold kAC
  simp only [kCB, u_if, kMC, kPy, kAG, kAv, u_c, kAo, gE0, gE1, kAl, z0, z1, z4, lt, kAj, if_true, gE3, if_false, kIs, kIr, kET, kAi, kAq, eD, a1, b1, List.set]
 ·rw [gH2 q5] at z4
  refine ⟨f, g, qa, qb, ?_, hl.pa.wk, hl.pb.wk, hl.pos, hl.bf, hl.bg⟩
  unfold kAC
  simp only [kCB, kAG, kAv, u_c, kAo, gE0, gE1, kAl, z0, z1, z4, lt, kAj, gE3, if_false, kCL]
theorem li_2 (pc : Prs dn w qc) (w0 : ∀ n, 0 ≤ w n) (bw : ∀ n, -500000 ≤ w n ∧ w n ≤ 500000) (hx : nm ∉ dn) (lc : qc.length ≤ 100) (hd : Deal x) {NM : D} {o6 o7 o8 : Option D} :
  ∃ (x' : D) (w' : Str → Int) (qc' : List Itm), kBJ (eLi x NM qa qb qc (some (.str nm)) o6 o7 o8) = .nx (eLi x' NM qa qb qc' (some (.str nm)) o6 o7 o8) ∧ Deal x' ∧ Prs (dn ++ [nm]) w' qc' ∧ (∀ n, 0 ≤ w' n) ∧ (∀ n, -500000 ≤ w' n ∧ w' n ≤ 500000) := by
 obtain ⟨c, x1, e1, hx1, c0, c1⟩ := kEI hd (m := 2) (by omega) (by omega)
 have z0 := kEn c 0
 by_cases q0 : c = 0
 ·rw [gH1 q0] at z0
  obtain ⟨j, x2, e2, hx2, j0, j1⟩ := kEI hx1 (m := ((qc.length + 1 : Nat) : Int)) (by omega) (by omega)
  obtain ⟨k, rfl, k1⟩ := kLQ j0 j1
  obtain ⟨v, x3, e3, hx3, v0, v1⟩ := kKb hx2
  have ln : dLen [.lst (qc.map itD)] = some (pI qc.length) := by
   show some (D.int ((qc.map itD).length : Int)) = _
   rw [gF0]
  have ad : dAdd (pI qc.length) (.int 1) = some (.int ((qc.length + 1 : Nat) : Int)) := rfl
  have eD : ∀ t : Int, D.lst [.str nm, .int t] = itD (true, nm, t) := fun _ => rfl
  have b1 := kSA (q := qc) (k := k) (nm := nm) (v := v) lc (by omega)
  refine ⟨x3, put w nm v, insI qc k nm v, ?_, hx3, pc.ins hx, kEQ (P := fun t => 0 ≤ t) w0 v0, kEQ (P := fun t => -500000 ≤ t ∧ t ≤ 500000) bw (by omega)⟩
  unfold kBJ
  generalize D.lst (qa.map itD) = QA at *
  generalize D.lst (qb.map itD) = QB at *
  simp only [kCB, kAG, kAv, u_c, kBE, kAi, kAq, kAo, gE0, gE1, kAl, gE2, e1, kCM, List.set, z0, kAj, if_true, kIs, kIr, u_cb, ln, ad, e2, kET, e3, eD, b1]
 ·rw [gH2 q0] at z0
  refine ⟨x1, w, qc, ?_, hx1, pc.wk, w0, bw⟩
  unfold kBJ
  generalize D.lst (qa.map itD) = QA at *
  generalize D.lst (qb.map itD) = QB at *
  generalize D.lst (qc.map itD) = QC at *
  simp only [kCB, kAG, kAv, u_c, kBE, kAi, kAq, kAo, gE0, gE1, kAl, gE2, e1, kCM, List.set, z0, kAj, gE3, if_false, kCL]
theorem kPr (h : Prs dn f q) : q.length ≤ dn.length := by
 have h1 : (q.map (·.2.1)).length ≤ dn.length := kKS h.nd fun n hn' => by
  obtain ⟨i, hi, rfl⟩ := gF7.mp hn'
  exact (h.val i hi).1
 rwa [gF0] at h1
theorem kOa {NM : D} : ∀ (m dn : List Str) (f g w : Str → Int) (qa qb qc : List Itm) (x : D) (o5 o6 o7 o8 : Option D), LiI dn f g w qa qb qc → Deal x → (dn ++ m).Nodup → (dn ++ m).length ≤ 50 →
  ∃ (x' : D) (f' g' w' : Str → Int) (qa' qb' qc' : List Itm) (p5 p6 p7 p8 : Option D), kDO (gN 5) (dSeq kCD (dSeq kAC kBJ)) (m.map D.str) (eLi x NM qa qb qc o5 o6 o7 o8) = .nx (eLi x' NM qa' qb' qc' p5 p6 p7 p8) ∧ Deal x' ∧ LiI (dn ++ m) f' g' w' qa' qb' qc'
 | [], dn, f, g, w, qa, qb, qc, x, o5, o6, o7, o8, hl, hx, _, _ => ⟨x, f, g, w, qa, qb, qc, o5, o6, o7, o8, rfl, hx, by rw [gE2]; exact hl⟩
 | nm :: m, dn, f, g, w, qa, qb, qc, x, o5, o6, o7, o8, hl, hx, nd, ln => by
  have hni : nm ∉ dn := fun z => (List.nodup_append.mp nd).2.2 _ z _ gF1 rfl
  have eA : dn ++ nm :: m = (dn ++ [nm]) ++ m := by rw [List.append_assoc]; rfl
  have ld : dn.length ≤ 50 := by
   rw [gG2] at ln
   omega
  have la := kPr hl.pa
  have lb := kPr hl.pb
  have lc := kPr hl.pc
  obtain ⟨x1, c, u, v, e1, hx1, c0, c1, u0, u1, v0, v1⟩ := li_0 (qa := qa) (qb := qb) (qc := qc) (NM := NM) (o5 := some (.str nm)) (o6 := o6) (o7 := o7) (o8 := o8) hx
  obtain ⟨f', g', qa', qb', e2, pa', pb', ps', bf', bg'⟩ := li_1 (x := x1) (NM := NM) hl hni (by omega) (by omega) c0 c1 u0 u1 v0 v1
  obtain ⟨x3, w', qc', e3, hx3, pc', w0', bw'⟩ := li_2 (qa := qa') (qb := qb') (NM := NM) (o6 := some (.int c)) (o7 := some (.int u)) (o8 := some (.int v)) hl.pc hl.w0 hl.bw hni (by omega) hx1
  rw [eA] at nd ln
  obtain ⟨x', f2, g2, w2, qa2, qb2, qc2, p5, p6, p7, p8, e4, hx4, hl4⟩ := kOa (NM := NM) m (dn ++ [nm]) f' g' w' qa' qb' qc' x3 (some (.str nm)) (some (.int c)) (some (.int u)) (some (.int v)) ⟨pa', pb', pc', ps', w0', bf', bg', bw'⟩ hx3 nd ln
  refine ⟨x', f2, g2, w2, qa2, qb2, qc2, p5, p6, p7, p8, ?_, hx4, by rw [eA]; exact hl4⟩
  rw [gG1]
  unfold kDO
  have gg : gN 5 (.str nm) (eLi x NM qa qb qc o5 o6 o7 o8) = some (eLi x NM qa qb qc (some (.str nm)) o6 o7 o8) := rfl
  have bb := (kAs e1).trans ((kAs e2).trans e3)
  simp only [gg, bb]
  exact e4
theorem Prs.perm (pm : l.Perm ns) (h : Prs l f q) : Prs ns f q := ⟨h.nd, fun i hi => ⟨pm.mem_iff.mp (h.val i hi).1, (h.val i hi).2⟩, h.zero⟩
theorem kLX (hn : Nms ns) (pm : l.Perm ns) (hx : Deal x) : ∃ (x' : D) (f g w : Str → Int) (qa qb qc : List Itm), FAk [x, .lst (l.map D.str)] = .ok (.lst [.lst (qa.map itD), .lst (qb.map itD), .lst (qc.map itD)]) x' ∧ Deal x' ∧ LiI ns f g w qa qb qc := by
 have nd : l.Nodup := pm.nodup_iff.mpr hn.up.nodup
 have ll : l.length ≤ 10 := by rw [pm.length_eq]; exact hn.len
 have prs0 : Prs ([] : List Str) (fun _ => 0) [] := ⟨.nil, nofun, fun _ _ => rfl⟩
 have i0 : LiI ([] : List Str) (fun _ => 0) (fun _ => 0) (fun _ => 0) [] [] [] := ⟨prs0, prs0, prs0, fun _ => by show (0 : Int) ≤ 0 + 0; decide, fun _ => Int.le_refl _, fun _ => by show -500000 ≤ (0 : Int) ∧ (0 : Int) ≤ 500000; decide, fun _ => by show -500000 ≤ (0 : Int) ∧ (0 : Int) ≤ 500000; decide, fun _ => by show -500000 ≤ (0 : Int) ∧ (0 : Int) ≤ 500000; decide⟩
 obtain ⟨x', f, g, w, qa, qb, qc, p5, p6, p7, p8, e, hx', hl⟩ := kOa (NM := .lst (l.map D.str)) l [] _ _ _ [] [] [] x none none none none i0 hx (by rw [List.nil_append]; exact nd) (by rw [List.nil_append]; omega)
 rw [List.nil_append] at hl
 refine ⟨x', f, g, w, qa, qb, qc, ?_, hx', hl.pa.perm pm, hl.pb.perm pm, hl.pc.perm pm, hl.pos, hl.w0, hl.bf, hl.bg, hl.bw⟩
 refine kBy (n := 9) (ds := [x, .lst (l.map D.str)]) (e := eLi x' (.lst (l.map D.str)) qa qb qc p5 p6 p7 p8) ?_ 2
 rw [kJp]
 have st0 : kGQ [some x, some (.lst (l.map D.str)), none, none, none, none, none, none, none] = .nx (eLi x (.lst (l.map D.str)) [] [] [] none none none none) := rfl
 have st1 : kEO (eLi x (.lst (l.map D.str)) [] [] [] none none none none) = .nx (eLi x' (.lst (l.map D.str)) qa qb qc p5 p6 p7 p8) := by
  unfold kEO
  have it : (kAr (dVar 1)) (eLi x (.lst (l.map D.str)) [] [] [] none none none none) = .ok (l.map D.str) (eLi x (.lst (l.map D.str)) [] [] [] none none none none) := rfl
  rw [kLt, it]
  exact e
 exact (kAs st0).trans ((kAs st1).trans rfl)
end
section
variable {ns l a b : List Str} {f g f2 g2 w : Str → Int} {fee : Int} {x : Str} {m1 m2 : List (List Str)} {V1 V2 : D}
abbrev z0 : Str → Int := fun _ => 0
abbrev pls (a b : List Str) (m : List (List Str)) : D := .lst ((a :: (m ++ [b])).map T)
abbrev eDf (P1 P2 NM SU PL : D) (o5 o6 o7 : Option D) : EnvD := [some P1, some P2, some NM, some SU, some PL, o5, o6, o7, none]
theorem Oks.plain (k : Oks ns f g w fee) : Oks ns f g z0 0 := ⟨k.hn, k.fz, k.gz, fun _ _ => rfl, k.pos, Int.le_refl _, fun _ => Int.le_refl _⟩
theorem kIt (hn : Nms ns) (h : a.Sublist ns) : a.Nodup := hn.up.nodup.sublist h
theorem kSU (k1 : Oks ns f g z0 0) (k2 : Oks ns f2 g2 z0 0) (b1 : BdF fun n => f n + g n) (b2 : BdF fun n => f2 n + g2 n) : FA2 [pD ns f g z0 0] = .ok (pD ns (fun n => f n + g n) z0 z0 0) .non ∧ FA2 [pD ns f2 g2 z0 0] = .ok (pD ns (fun n => f2 n + g2 n) z0 z0 0) .non ∧ eqOf 1 FA9 (pD ns (fun n => f n + g n) z0 z0 0) (pD ns (fun n => f2 n + g2 n) z0 z0 0) = some (.bool (decide (kAF ns (fun n => f n + g n) = kAF ns fun n => f2 n + g2 n))) :=
 ⟨kIJ k1, kIJ k2, kMj k1.hn b1 b2 bd0 bd0⟩
theorem kQr (k1 : Oks ns f g z0 0) (k2 : Oks ns f2 g2 z0 0) (b1 : BdF fun n => f n + g n) (b2 : BdF fun n => f2 n + g2 n) (pm : l.Perm ns) (ha : a.Sublist ns) (hb : b.Sublist ns) (h1 : ∀ t ∈ m1, t.Sublist ns) (h2 : ∀ t ∈ m2, t.Sublist ns) :
  FAq [pD ns f g z0 0, pD ns f2 g2 z0 0, .lst (l.map D.str), .lst [kD ns (fun n => f n + g n), kD ns (fun n => f2 n + g2 n)], .lst [pls a b m1, pls a b m2]] = .ok (.bool true) .non := by
 have hn := k1.hn
 obtain ⟨t1, t2, te⟩ := kSU k1 k2 b1 b2
 have dk := kRR hn b1 b2
 have kz1 : ∀ n, n ∉ ns → f n + g n = 0 := k1.trips.fz
 have kz2 : ∀ n, n ∉ ns → f2 n + g2 n = 0 := k2.trips.fz
 have chk0 : ∀ e : EnvD, dChk [1] (dVar 0) (some (pD ns f g z0 0) :: e) = .ok (pD ns f g z0 0) (some (pD ns f g z0 0) :: e) := fun _ => rfl
 have chk1 : ∀ (c : Option D) (e : EnvD), dChk [1] (dVar 1) (c :: some (pD ns f2 g2 z0 0) :: e) = .ok (pD ns f2 g2 z0 0) (c :: some (pD ns f2 g2 z0 0) :: e) := fun _ _ => rfl
 have s0 : dIx (.lst [kD ns (fun n => f n + g n), kD ns (fun n => f2 n + g2 n)]) (.int 0) = some (kD ns fun n => f n + g n) := rfl
 have s1 : dIx (.lst [kD ns (fun n => f n + g n), kD ns (fun n => f2 n + g2 n)]) (.int 1) = some (kD ns fun n => f2 n + g2 n) := rfl
 have sub : ∀ {m : List (List Str)}, (∀ t ∈ m, t.Sublist ns) → ∀ t ∈ m ++ [b], t.Sublist ns := fun hm t ht => by
  rcases gG8.mp ht with ht | ht
  ·exact hm t ht
  ·rw [gG4.mp ht]; exact hb
 by_cases c : kAF ns (fun n => f n + g n) = kAF ns fun n => f2 n + g2 n
 ·have es := (kOf kz1 kz2).mp c
  rw [gH1 c] at dk te
  have lc := kBd (env := eDf (pD ns f g z0 0) (pD ns f2 g2 z0 0) (.lst (l.map D.str)) (.lst [kD ns (fun n => f n + g n), kD ns (fun n => f2 n + g2 n)]) (.lst [pls a b m1, pls a b m2]) none none none) (gd := gN 8) (m := dOp2 iSub (kAh FA3 [] (kAa (dChk [1] (dVar 0)) (kAa (dVar 8) dNil))) (kAh FA3 [] (kAa (dChk [1] (dVar 1)) (kAa (dVar 8) dNil)))) (vs := [8]) (fun m => pls a b m) (fun m => D.int (kAU f g z0 0 a (m ++ [b]) - kAU f2 g2 z0 0 a (m ++ [b]))) (l := [m1, m2]) fun m hm => ⟨_, rfl, by
   have hm' : ∀ t ∈ m, t.Sublist ns := by
    simp only [gG5, gI2, or_false] at hm
    rcases hm with rfl | rfl
    ·exact h1
    ·exact h2
   have p1 := kDw k1 ha (sub hm')
   have p2 := kDw k2 ha (sub hm')
   have sb : iSub (.int (kAU f g z0 0 a (m ++ [b]))) (.int (kAU f2 g2 z0 0 a (m ++ [b]))) = some (.int (kAU f g z0 0 a (m ++ [b]) - kAU f2 g2 z0 0 a (m ++ [b]))) := rfl
   unfold pls
   generalize D.lst ((a :: (m ++ [b])).map T) = RR at *
   simp only [kAN, gN, List.set, List.foldl, kAv, kAw, kAi, kAq, chk0, chk1, kAo, gE0, gE1, kAl, gE2, p1, p2, kBk, sb, kAj]⟩
  have gap : ∀ {m : List (List Str)}, (∀ t ∈ m, t.Sublist ns) → kAU f g z0 0 a (m ++ [b]) - kAU f2 g2 z0 0 a (m ++ [b]) = (kAm g a - kAm g b) - (kAm g2 a - kAm g2 b) := fun hm => by
   have h := kRY (w := z0) (fee := 0) (r := _ ++ [b]) (kIt hn ha) (fun t ht => kIt hn (sub hm t ht)) es
   rw [kGs] at h
   exact h
  have lc' : lcGo true (gN 8) mYes (dOp2 iSub (kAh FA3 [] (kAa (dChk [1] (dVar 0)) (kAa (dVar 8) dNil))) (kAh FA3 [] (kAa (dChk [1] (dVar 1)) (kAa (dVar 8) dNil)))) [8] [pls a b m1, pls a b m2] (eDf (pD ns f g z0 0) (pD ns f2 g2 z0 0) (.lst (l.map D.str)) (.lst [kD ns (fun n => f n + g n), kD ns (fun n => f2 n + g2 n)]) (.lst [pls a b m1, pls a b m2]) none none none) = some ([.int ((kAm g a - kAm g b) - (kAm g2 a - kAm g2 b)), .int ((kAm g a - kAm g b) - (kAm g2 a - kAm g2 b))], eDf (pD ns f g z0 0) (pD ns f2 g2 z0 0) (.lst (l.map D.str)) (.lst [kD ns (fun n => f n + g n), kD ns (fun n => f2 n + g2 n)]) (.lst [pls a b m1, pls a b m2]) none none none) := by
   refine lc.trans ?_
   show some ([D.int _, D.int _], _) = _
   rw [gap h1, gap h2]
  generalize (kAm g a - kAm g b) - (kAm g2 a - kAm g2 b) = zz at lc'
  have g0 : dIx (.lst [.int zz, .int zz]) (.int 0) = some (.int zz) := rfl
  have g1 : dIx (.lst [.int zz, .int zz]) (.int 1) = some (.int zz) := rfl
  have ez := kEn zz zz
  rw [gH1 rfl] at ez
  have ib : dIsB (.bool true) (.bool true) = some (.bool true) := rfl
  have ip : ∀ e : EnvD, True := fun _ => trivial
  refine kBy (n := 9) (ds := [pD ns f g z0 0, pD ns f2 g2 z0 0, .lst (l.map D.str), .lst [kD ns (fun n => f n + g n), kD ns (fun n => f2 n + g2 n)], .lst [pls a b m1, pls a b m2]]) (e := eDf (pD ns f g z0 0) (pD ns f2 g2 z0 0) (.lst (l.map D.str)) (.lst [kD ns (fun n => f n + g n), kD ns (fun n => f2 n + g2 n)]) (.lst [pls a b m1, pls a b m2]) (some (.lst [.int zz, .int zz])) none none) ?_ 0
  rw [kFJ]
  refine kNH ?_
  show kCt (eDf (pD ns f g z0 0) (pD ns f2 g2 z0 0) (.lst (l.map D.str)) (.lst [kD ns (fun n => f n + g n), kD ns (fun n => f2 n + g2 n)]) (.lst [pls a b m1, pls a b m2]) none none none) = _
  unfold kCt
  generalize D.lst (l.map D.str) = NN at *
  generalize D.lst [kD ns (fun n => f n + g n), kD ns (fun n => f2 n + g2 n)] = SU at *
  generalize pD ns f g z0 0 = P1 at *
  generalize pD ns f2 g2 z0 0 = P2 at *
  generalize pD ns (fun n => f n + g n) z0 z0 0 = Q1 at *
  generalize pD ns (fun n => f2 n + g2 n) z0 z0 0 = Q2 at *
  generalize pls a b m1 = L1 at *
  generalize pls a b m2 = L2 at *
  generalize kD ns (fun n => f n + g n) = K1 at *
  generalize kD ns (fun n => f2 n + g2 n) = K2 at *
  simp only [kCB, kAG, kAv, u_c, kAo, gE0, gE1, kAl, s0, s1, kAj, dk, if_true, kMC, kPy, kDj, u_lc, kBi, kLs, lc', List.set, kDC, kPa, g0, g1, ez, kDX, kAw, kAi, kAq, chk0, chk1, gE2, t1, t2, kBk, te, ib]
 ·have es : ¬ ((fun n => f n + g n) = fun n => f2 n + g2 n) := fun z => c ((kOf kz1 kz2).mpr z)
  rw [gH2 c] at dk te
  have st0 : kCt (eDf (pD ns f g z0 0) (pD ns f2 g2 z0 0) (.lst (l.map D.str)) (.lst [kD ns (fun n => f n + g n), kD ns (fun n => f2 n + g2 n)]) (.lst [pls a b m1, pls a b m2]) none none none) = .nx (eDf (pD ns f g z0 0) (pD ns f2 g2 z0 0) (.lst (l.map D.str)) (.lst [kD ns (fun n => f n + g n), kD ns (fun n => f2 n + g2 n)]) (.lst [pls a b m1, pls a b m2]) none none none) := by
   unfold kCt
   generalize D.lst [kD ns (fun n => f n + g n), kD ns (fun n => f2 n + g2 n)] = SU at *
   generalize kD ns (fun n => f n + g n) = K1 at *
   generalize kD ns (fun n => f2 n + g2 n) = K2 at *
   simp only [kCB, kAG, kAv, u_c, kAo, gE0, gE1, kAl, s0, s1, kAj, dk, gE3, if_false, kCL]
  have lc := kDa (env := eDf (pD ns f g z0 0) (pD ns f2 g2 z0 0) (.lst (l.map D.str)) (.lst [kD ns (fun n => f n + g n), kD ns (fun n => f2 n + g2 n)]) (.lst [pls a b m1, pls a b m2]) none none none) (gd := gN 6) (t := kAp (dOp2 dNe (kAh FA0 [] (kAa (dOp2 dIx (dVar 3) (dC (.int 0))) (kAa (dVar 6) dNil))) (kAh FA0 [] (kAa (dOp2 dIx (dVar 3) (dC (.int 1))) (kAa (dVar 6) dNil))))) (m := dVar 6) (vs := [6]) D.str (fun n => !decide (f n + g n = f2 n + g2 n)) D.str (l := l) fun n hn' => ⟨_, rfl, by
   have nm := hn.nam n (pm.mem_iff.mp hn')
   have p1 := kCf hn (kFs hn.up kz1) kHT nm
   have p2 := kCf hn (kFs hn.up kz2) kHT nm
   have dn := kLf (f n + g n) (f2 n + g2 n)
   generalize D.lst [kD ns (fun n => f n + g n), kD ns (fun n => f2 n + g2 n)] = SU at *
   generalize kD ns (fun n => f n + g n) = K1 at *
   generalize kD ns (fun n => f2 n + g2 n) = K2 at *
   simp only [kAN, gN, List.set, List.foldl, kAG, kAv, kAw, u_c, kAi, kAq, kAo, gE0, gE1, kAl, gE2, s0, s1, kAj, p1, p2, kBk, dn], fun _ => rfl⟩
  obtain ⟨x, L', eL⟩ : ∃ x L', l.filter (fun n => !decide (f n + g n = f2 n + g2 n)) = x :: L' := by
   cases e : l.filter (fun n => !decide (f n + g n = f2 n + g2 n)) with
   | cons x L' => exact ⟨x, L', rfl⟩
   | nil =>
    refine absurd (funext fun n => ?_) es
    by_cases m : n ∈ ns
    ·have h := List.filter_eq_nil_iff.mp e n (pm.mem_iff.mpr m)
     simpa using h
    ·rw [kz1 n m, kz2 n m]
  have hx := gH0.mp (show x ∈ l.filter (fun n => !decide (f n + g n = f2 n + g2 n)) by rw [eL]; exact gF1)
  have xs : x ∈ ns := pm.mem_iff.mp hx.1
  have xne : f x + g x ≠ f2 x + g2 x := by simpa using hx.2
  rw [eL] at lc
  have i0 : dIx (.lst ((x :: L').map D.str)) (.int 0) = some (.str x) := kQE (xs := (x :: L').map D.str) (i := 0) rfl
  have st1 : kDY (eDf (pD ns f g z0 0) (pD ns f2 g2 z0 0) (.lst (l.map D.str)) (.lst [kD ns (fun n => f n + g n), kD ns (fun n => f2 n + g2 n)]) (.lst [pls a b m1, pls a b m2]) none none none) = .nx (eDf (pD ns f g z0 0) (pD ns f2 g2 z0 0) (.lst (l.map D.str)) (.lst [kD ns (fun n => f n + g n), kD ns (fun n => f2 n + g2 n)]) (.lst [pls a b m1, pls a b m2]) none (some (.str x)) none) := by
   unfold kDY
   generalize D.lst [kD ns (fun n => f n + g n), kD ns (fun n => f2 n + g2 n)] = SU at *
   simp only [kDj, kAv, u_c, u_lc, kBi, kAo, gE0, gE1, kAl, kLs, lc, i0, kAj, List.set]
  have st2 : kFX (eDf (pD ns f g z0 0) (pD ns f2 g2 z0 0) (.lst (l.map D.str)) (.lst [kD ns (fun n => f n + g n), kD ns (fun n => f2 n + g2 n)]) (.lst [pls a b m1, pls a b m2]) none (some (.str x)) none) = .nx (eDf (pD ns f g z0 0) (pD ns f2 g2 z0 0) (.lst (l.map D.str)) (.lst [kD ns (fun n => f n + g n), kD ns (fun n => f2 n + g2 n)]) (.lst [pls a b m1, pls a b m2]) none (some (.str x)) (some (.lst (([] :: [[x], []]).map T)))) := rfl
  have wsub : ∀ t ∈ ([[x], []] : List (List Str)), t.Sublist ns := fun t ht => by
   simp only [gG5, gI2, or_false] at ht
   rcases ht with rfl | rfl
   ·exact List.singleton_sublist.mpr xs
   ·exact List.nil_sublist _
  have p1 := kDw k1 (List.nil_sublist ns) wsub
  have p2 := kDw k2 (List.nil_sublist ns) wsub
  rw [show kAU f g z0 0 [] [[x], []] = f x + g x from kOt] at p1
  rw [show kAU f2 g2 z0 0 [] [[x], []] = f2 x + g2 x from kOt] at p2
  have dn := kLf (f x + g x) (f2 x + g2 x)
  rw [gH2 xne] at dn
  have ib : dIsB (.bool false) (.bool false) = some (.bool true) := rfl
  refine kBy (n := 9) (ds := [pD ns f g z0 0, pD ns f2 g2 z0 0, .lst (l.map D.str), .lst [kD ns (fun n => f n + g n), kD ns (fun n => f2 n + g2 n)], .lst [pls a b m1, pls a b m2]]) (e := eDf (pD ns f g z0 0) (pD ns f2 g2 z0 0) (.lst (l.map D.str)) (.lst [kD ns (fun n => f n + g n), kD ns (fun n => f2 n + g2 n)]) (.lst [pls a b m1, pls a b m2]) none (some (.str x)) (some (.lst (([] :: [[x], []]).map T)))) ?_ 0
  rw [kFJ]
  refine (kAs st0).trans ((kAs st1).trans ((kAs st2).trans ?_))
  unfold kFW
  generalize pD ns f g z0 0 = P1 at *
  generalize pD ns f2 g2 z0 0 = P2 at *
  generalize pD ns (fun n => f n + g n) z0 z0 0 = Q1 at *
  generalize pD ns (fun n => f2 n + g2 n) z0 z0 0 = Q2 at *
  generalize D.lst (([] :: [[x], []]).map T) = WW at *
  simp only [kDC, kPa, kAv, kAw, u_c, kAi, kAq, chk0, chk1, kAo, gE0, gE1, kAl, gE2, p1, p2, kBk, dn, kAj, Bool.not_false, kDX, t1, t2, te, ib]
end
section
variable {ns l a b : List Str} {f g f2 g2 w : Str → Int} {fee d : Int} {nm : Str} {m1 m2 : List (List Str)} {va vb vc S0 x NM LD FE : D} {qa qb qc : List Itm} {o5 o6 o7 o8 o9 o10 o11 o12 o13 o14 o15 o16 o17 o18 o19 o20 : Option D}
abbrev eW2 (S0 x NM LD FE : D) (o5 o6 o7 o8 o9 o10 o11 o12 o13 o14 o15 o16 o17 o18 o19 o20 : Option D) : EnvD := [some S0, some x, some NM, some LD, some FE, o5, o6, o7, o8, o9, o10, o11, o12, o13, o14, o15, o16, o17, o18, o19, o20, none, none]
theorem Lts.oks (hn : Nms ns) (h : Lts ns f g w va vb vc qa qb qc) (pos : ∀ n, 0 ≤ f n + g n) (w0 : ∀ n, 0 ≤ w n) (he : 0 ≤ fee) : Oks ns f g w fee := ⟨hn, h.pa.out, h.pb.out, h.pc.out, pos, he, w0⟩
theorem w_3 (k : Oks ns f g w fee) (h : Lts ns f g w va vb vc qa qb qc) : kMQ (eW2 S0 x NM (.lst [va, vb, vc]) (.int fee) none none none none none none none none none none none none none none none none) = .nx (eW2 S0 x NM (.lst [va, vb, vc]) (.int fee) (some (pD ns f g w fee)) none none none none none none none none none none none none none none none) := by
 obtain ⟨i0, i1, i2⟩ := ix3 (a := va) (b := vb) (c := vc)
 have io := kJv k h.pa h.ca h.pb h.cb h.pc h.cc
 have pk : ∀ a b c d : D, pick [0, 1, 2, 3] [a, b, c, d] = [a, b, c, d] := fun _ _ _ _ => rfl
 have k64 : 64 * 1 = 64 := rfl
 have no : ∀ e : EnvD, kJg e (FOut.ok .non (pD ns f g w fee)) = .ok (pD ns f g w fee) e := fun _ => rfl
 unfold kMQ
 generalize pD ns f g w fee = PP at *
 generalize D.lst [va, vb, vc] = LL at *
 simp only [kDj, kQX, kNv, kAv, u_c, kAi, kAq, kAo, gE0, gE1, kAl, gE2, i0, i1, i2, kAj, pk, k64, io, no, List.set]
theorem w_4 (k : Oks ns f g w fee) : kMP (eW2 S0 x NM LD FE (some (pD ns f g w fee)) none none none none none none none none none none none none none none none) = .nx (eW2 S0 x NM LD FE (some (pD ns f g w fee)) (some (pD ns (fun n => f n + g n) z0 w fee)) none none none none none none none none none none none none none none) := by
 have t := kIJ k
 have chk : ∀ (c0 c1 c2 c3 c4 : Option D) (e : EnvD), dChk [1] (dVar 5) (c0 :: c1 :: c2 :: c3 :: c4 :: some (pD ns f g w fee) :: e) = .ok (pD ns f g w fee) (c0 :: c1 :: c2 :: c3 :: c4 :: some (pD ns f g w fee) :: e) := fun _ _ _ _ _ _ => rfl
 unfold kMP
 generalize pD ns f g w fee = PP at *
 generalize pD ns (fun n => f n + g n) (fun _ => 0) w fee = P2 at *
 simp only [kDj, kAw, kAi, kAq, chk, kAl, gE2, t, kBk, List.set]
abbrev suD (ns : List Str) (f g : Str → Int) (vc : D) : D := .lst [kD ns (fun n => f n + g n), .tup [], vc]
theorem w_5 (hn : Nms ns) (pm : l.Perm ns) (h : Lts ns f g w va vb vc qa qb qc) : kMO (eW2 S0 x (.lst (l.map D.str)) (.lst [va, vb, vc]) FE o5 o6 none none none none none none none none none none none none none none) = .nx (eW2 S0 x (.lst (l.map D.str)) (.lst [va, vb, vc]) FE o5 o6 (some (suD ns f g vc)) none none none none none none none none none none none none none) := by
 obtain ⟨i0, i1, i2⟩ := ix3 (a := va) (b := vb) (c := vc)
 have s := kNY hn pm h
 unfold kMO suD
 generalize kD ns (fun n => f n + g n) = KK at *
 generalize D.lst (l.map D.str) = NN at *
 generalize D.lst [va, vb, vc] = LL at *
 simp only [kDj, kET, kIT, kAw, kAv, u_c, kAi, kAq, kAo, gE0, gE1, kAl, gE2, s, kBk, i2, kAj, List.set]
theorem kRy (hn : Nms ns) (h : Lts ns f g w va vb vc qa qb qc) : Lts ns (fun n => f n + g n) z0 w (kD ns fun n => f n + g n) (.tup []) vc (kI ns fun n => f n + g n) [] qc := ⟨kFs hn.up fun n hn' => by rw [h.pa.out n hn', h.pb.out n hn']; rfl, kHT, kJd, kQz, h.pc, h.cc⟩
theorem kIp (hf : ∀ n, -5000000 ≤ f n ∧ f n ≤ 5000000) (hg : ∀ n, -5000000 ≤ g n ∧ g n ≤ 5000000) : BdF fun n => f n + g n := fun n => by
 have h1 := hf n
 have h2 := hg n
 show -10000000 ≤ f n + g n ∧ f n + g n ≤ 10000000
 omega
theorem kDi (hf : ∀ n, -5000000 ≤ f n ∧ f n ≤ 5000000) : BdF f := fun n => by
 have h1 := hf n
 omega
structure Sml (f g w : Str → Int) (fee : Int) : Prop where
 f : ∀ n, -5000000 ≤ f n ∧ f n ≤ 5000000
 g : ∀ n, -5000000 ≤ g n ∧ g n ≤ 5000000
 w : ∀ n, -5000000 ≤ w n ∧ w n ≤ 5000000
 fee : -10000000 ≤ fee ∧ fee ≤ 10000000
theorem w_6 (hn : Nms ns) (h : Lts ns f g w va vb vc qa qb qc) (sm : Sml f g w fee) : kMN (eW2 S0 x NM (.lst [va, vb, vc]) (.int fee) (some (pD ns f g w fee)) (some (pD ns (fun n => f n + g n) z0 w fee)) (some (suD ns f g vc)) o8 o9 o10 o11 o12 o13 o14 o15 o16 o17 o18 o19 o20) = .nx (eW2 S0 x NM (.lst [va, vb, vc]) (.int fee) (some (pD ns f g w fee)) (some (pD ns (fun n => f n + g n) z0 w fee)) (some (suD ns f g vc)) o8 o9 o10 o11 o12 o13 o14 o15 o16 o17 o18 o19 o20) := by
 have k1 := kHN hn (kRy hn h) (kIp sm.f sm.g) bd0 (kDi sm.w) sm.fee
 have k2 := kHN hn h (kDi sm.f) (kDi sm.g) (kDi sm.w) sm.fee
 unfold kMN suD
 generalize pD ns f g w fee = PP at *
 generalize pD ns (fun n => f n + g n) z0 w fee = P2 at *
 generalize D.lst [kD ns (fun n => f n + g n), .tup [], vc] = SS at *
 generalize D.lst [va, vb, vc] = LL at *
 simp only [kCB, u_or, kLr, kLq, kAw, kAi, kAq, kAo, gE0, gE1, kAl, gE2, k1, k2, kBk, kDX, Bool.not_true, gE3, if_false, kCL]
theorem w_7 (hn : Nms ns) (pm : l.Perm ns) (hx : Deal x) : ∃ (x' : D) (a b : List Str), kMM (eW2 S0 x (.lst (l.map D.str)) LD FE o5 o6 o7 none none none none none none none none none none none none none) = .nx (eW2 S0 x' (.lst (l.map D.str)) LD FE o5 o6 o7 (some (T a)) (some (T b)) none none none none none none none none none none none) ∧ Deal x' ∧ a.Sublist ns ∧ b.Sublist ns := by
 obtain ⟨a, x1, e1, hx1, ha⟩ := kPL hn pm hx
 obtain ⟨b, x2, e2, hx2, hb⟩ := kPL hn pm hx1
 refine ⟨x2, a, b, ?_, hx2, ha, hb⟩
 unfold kMM
 generalize D.lst (l.map D.str) = NN at *
 simp only [kJK, kBE, kAi, kAq, kAo, gE0, gE1, kAl, gE2, e1, e2, kCM, List.set, kJJ, kGN]
theorem w_8 (hn : Nms ns) (pm : l.Perm ns) (ha : a.Sublist ns) (hb : b.Sublist ns) (hx : Deal x) : ∃ (x' : D) (m1 m2 : List (List Str)), kML (eW2 S0 x (.lst (l.map D.str)) LD FE o5 o6 o7 (some (T a)) (some (T b)) none none none none none none none none none none none) = .nx (eW2 S0 x' (.lst (l.map D.str)) LD FE o5 o6 o7 (some (T a)) (some (T b)) (some (pls a b m1)) (some (pls a b m2)) none none none none none none none none none) ∧ Deal x' ∧ m1.length ≤ 5 ∧ m2.length ≤ 5 ∧ (∀ t ∈ m1, t.Sublist ns) ∧ ∀ t ∈ m2, t.Sublist ns := by
 obtain ⟨m1, x1, e1, hx1, l1, h1⟩ := kPs hn pm ha hb hx
 obtain ⟨m2, x2, e2, hx2, l2, h2⟩ := kPs hn pm ha hb hx1
 refine ⟨x2, m1, m2, ?_, hx2, l1, l2, h1, h2⟩
 unfold kML pls
 generalize D.lst (l.map D.str) = NN at *
 generalize D.lst ((a :: (m1 ++ [b])).map T) = R1 at *
 generalize D.lst ((a :: (m2 ++ [b])).map T) = R2 at *
 simp only [kJK, kBE, kAi, kAq, kAo, gE0, gE1, kAl, gE2, e1, e2, kCM, List.set, kJJ, kGN]
theorem w_9 (hn : Nms ns) (h : Lts ns f g w va vb vc qa qb qc) (ha : a.Sublist ns) (hb : b.Sublist ns) : kMK (eW2 S0 x NM (.lst [va, vb, vc]) FE o5 o6 o7 (some (T a)) (some (T b)) o10 o11 none none none none none none none none none) = .nx (eW2 S0 x NM (.lst [va, vb, vc]) FE o5 o6 o7 (some (T a)) (some (T b)) o10 o11 (some (.int (kAm g a - kAm g b))) none none none none none none none none) := by
 obtain ⟨i0, i1, i2⟩ := ix3 (a := va) (b := vb) (c := vc)
 have lc : ∀ s : List Str, s.Sublist ns → lcGo true (gN 14) mYes (kAh FA0 [] (kAa (dOp2 dIx (dVar 3) (dC (.int 1))) (kAa (dVar 14) dNil))) [14] (s.map D.str) (eW2 S0 x NM (.lst [va, vb, vc]) FE o5 o6 o7 (some (T a)) (some (T b)) o10 o11 none none none none none none none none none) = some (s.map (fun n => D.int (g n)), eW2 S0 x NM (.lst [va, vb, vc]) FE o5 o6 o7 (some (T a)) (some (T b)) o10 o11 none none none none none none none none none) := fun s hs => kBd D.str (fun n => D.int (g n)) fun n hn' => ⟨_, rfl, by
  have p := kCf hn h.pb h.cb (hn.nam n (hs.subset hn'))
  generalize D.lst [va, vb, vc] = LL at *
  simp only [kAN, gN, List.set, List.foldl, kAw, kAv, u_c, kAi, kAq, kAo, gE0, gE1, kAl, gE2, i1, kAj, p, kBk]⟩
 have lc1 := lc a ha
 have lc2 := lc b hb
 have s1 := kHY g a
 have s2 := kHY g b
 have sb : iSub (.int (kAm g a)) (.int (kAm g b)) = some (.int (kAm g a - kAm g b)) := rfl
 have iA : items (T a) = some (a.map D.str) := rfl
 have iB : items (T b) = some (b.map D.str) := rfl
 unfold kMK
 generalize T a = TA at *
 generalize T b = TB at *
 generalize D.lst [va, vb, vc] = LL at *
 simp only [kDj, kAv, u_cb, u_lc, kBi, kAi, kAq, kAo, gE0, gE1, kAl, iA, iB, lc1, lc2, s1, s2, kAj, sb, List.set]
theorem kIY (hb : b.Sublist ns) (h1 : ∀ t ∈ m1, t.Sublist ns) : ∀ t ∈ m1 ++ [b], t.Sublist ns := fun t ht => by
 rcases gG8.mp ht with ht | ht
 ·exact h1 t ht
 ·rw [gG4.mp ht]; exact hb
theorem w_10 (hn : Nms ns) (h : Lts ns f g w va vb vc qa qb qc) (ha : a.Sublist ns) (hb : b.Sublist ns) (h1 : ∀ t ∈ m1, t.Sublist ns) (l1 : m1.length ≤ 5) : kKK (eW2 S0 x NM (.lst [va, vb, vc]) (.int fee) o5 o6 o7 o8 o9 (some (pls a b m1)) o11 o12 none none none none none none none none) = .nx (eW2 S0 x NM (.lst [va, vb, vc]) (.int fee) o5 o6 o7 o8 o9 (some (pls a b m1)) o11 o12 (some (.int (kAU f g w fee a (m1 ++ [b])))) none none none none none none none) := by
 have c := kPP (fee := fee) hn h ha (kIY hb h1) (by rw [gG2, gG3]; omega)
 unfold kKK pls
 generalize D.lst ((a :: (m1 ++ [b])).map T) = R1 at *
 generalize D.lst [va, vb, vc] = LL at *
 simp only [kDj, kAw, kAi, kAq, kAo, gE0, gE1, kAl, gE2, c, kBk, List.set]
theorem w_11 (k : Oks ns f g w fee) (sm : Sml f g w fee) (ha : a.Sublist ns) (hb : b.Sublist ns) (h1 : ∀ t ∈ m1, t.Sublist ns) (l1 : m1.length ≤ 5) : kKJ (eW2 S0 x NM LD FE (some (pD ns f g w fee)) (some (pD ns (fun n => f n + g n) z0 w fee)) o7 o8 o9 (some (pls a b m1)) o11 (some (.int (kAm g a - kAm g b))) (some (.int (kAU f g w fee a (m1 ++ [b])))) o14 o15 o16 o17 o18 o19 o20) = .nx (eW2 S0 x NM LD FE (some (pD ns f g w fee)) (some (pD ns (fun n => f n + g n) z0 w fee)) o7 o8 o9 (some (pls a b m1)) o11 (some (.int (kAm g a - kAm g b))) (some (.int (kAU f g w fee a (m1 ++ [b])))) o14 o15 o16 o17 o18 o19 o20) := by
 have hn := k.hn
 have sub := kIY hb h1
 have p1 := kDw k ha sub
 have p2 := kDw k.trips ha sub
 have tr := kEq (f := f) (g := g) (w := w) (fee := fee) (m1 ++ [b]) a (kIt hn ha) fun t ht => kIt hn (sub t ht)
 rw [kGs] at tr
 have bd := kLj (kDi sm.f) (kDi sm.g) (kDi sm.w) sm.fee (m1 ++ [b]) a (hn.lot ha).2 fun t ht => (hn.lot (sub t ht)).2
 have bd2 := kLj (kIp sm.f sm.g) bd0 (kDi sm.w) sm.fee (m1 ++ [b]) a (hn.lot ha).2 fun t ht => (hn.lot (sub t ht)).2
 rw [gG2, gG3] at bd bd2
 have eS : kAU (fun n => f n + g n) (fun _ => 0) w fee a (m1 ++ [b]) = kAU f g w fee a (m1 ++ [b]) - (kAm g a - kAm g b) := by omega
 rw [eS] at p2 bd2
 obtain ⟨r1, n1⟩ := kNb (n := kAU f g w fee a (m1 ++ [b])) (by omega)
 obtain ⟨r2, n2⟩ := kNb (n := kAU f g w fee a (m1 ++ [b]) - (kAm g a - kAm g b)) (by omega)
 have sb : iSub (.int (kAU f g w fee a (m1 ++ [b]))) (.int (kAm g a - kAm g b)) = some (.int (kAU f g w fee a (m1 ++ [b]) - (kAm g a - kAm g b))) := rfl
 have chk5 : ∀ (c0 c1 c2 c3 c4 : Option D) (e : EnvD), dChk [1] (dVar 5) (c0 :: c1 :: c2 :: c3 :: c4 :: some (pD ns f g w fee) :: e) = .ok (pD ns f g w fee) (c0 :: c1 :: c2 :: c3 :: c4 :: some (pD ns f g w fee) :: e) := fun _ _ _ _ _ _ => rfl
 have chk6 : ∀ (c0 c1 c2 c3 c4 c5 : Option D) (e : EnvD), dChk [1] (dVar 6) (c0 :: c1 :: c2 :: c3 :: c4 :: c5 :: some (pD ns (fun n => f n + g n) z0 w fee) :: e) = .ok (pD ns (fun n => f n + g n) z0 w fee) (c0 :: c1 :: c2 :: c3 :: c4 :: c5 :: some (pD ns (fun n => f n + g n) z0 w fee) :: e) := fun _ _ _ _ _ _ _ => rfl
 have p2 : FA3 [pD ns (fun n => f n + g n) z0 w fee, .lst ((a :: (m1 ++ [b])).map T)] = .ok (.int (kAU f g w fee a (m1 ++ [b]) - (kAm g a - kAm g b))) .non := p2
 unfold kKJ pls
 generalize D.lst ((a :: (m1 ++ [b])).map T) = R1 at *
 generalize (D.int (kAU f g w fee a (m1 ++ [b]))).py.shown = SA at *
 generalize (D.int (kAU f g w fee a (m1 ++ [b]) - (kAm g a - kAm g b))).py.shown = SB at *
 generalize kAU f g w fee a (m1 ++ [b]) = C1 at *
 generalize pD ns f g w fee = PP at *
 generalize pD ns (fun n => f n + g n) z0 w fee = P2 at *
 simp only [kCB, u_or, kAG, kAv, u_cb, kAw, kAi, kAq, chk5, chk6, kAo, gE0, gE1, kAl, gE2, p1, p2, kBk, r1, r2, n1, n2, sb, kAj, gE3, if_false, kCL]
end
section
variable {ns l a b : List Str} {f g f2 g2 w w2 : Str → Int} {fee d : Int} {nm : Str} {m1 m2 : List (List Str)} {va vb vc S0 x NM LD FE AG : D} {qa qb qc : List Itm} {o5 o6 o7 o8 o9 o10 o11 o12 o13 o14 o15 o16 o17 o18 o19 o20 : Option D}
theorem kOU : ∀ (xs ys : List (List Str)), zipD (xs.map T) (ys.map T) = (xs.zip ys).map fun p => D.tup [T p.1, T p.2]
 | [], _ => rfl
 | _ :: _, [] => rfl
 | a :: xs, b :: ys => by
  have ih := kOU xs ys
  show D.tup [T a, T b] :: zipD (xs.map T) (ys.map T) = _
  rw [ih]
  rfl
theorem kTg : (a :: (m2 ++ [b])).reverse = (b :: m2.reverse) ++ [a] := by
 rw [List.reverse_cons, List.reverse_append]
 rfl
theorem w_12 (k : Oks ns f g w fee) (ha : a.Sublist ns) (hb : b.Sublist ns) (h1 : ∀ t ∈ m1, t.Sublist ns) (h2 : ∀ t ∈ m2, t.Sublist ns) (l1 : m1.length ≤ 5) (l2 : m2.length ≤ 5) : kKI (eW2 S0 x NM LD FE (some (pD ns f g w fee)) (some (pD ns (fun n => f n + g n) z0 w fee)) o7 o8 o9 (some (pls a b m1)) (some (pls a b m2)) o12 o13 o14 o15 o16 o17 o18 o19 o20) = .nx (eW2 S0 x NM LD FE (some (pD ns f g w fee)) (some (pD ns (fun n => f n + g n) z0 w fee)) o7 o8 o9 (some (pls a b m1)) (some (pls a b m2)) o12 o13 o14 o15 o16 o17 o18 o19 o20) := by
 have hn := k.hn
 have sub1 := kIY hb h1
 have sub2 := kIY hb h2
 have subR : ∀ t ∈ m1 ++ [b] ++ (b :: m2.reverse), t.Sublist ns := fun t ht => by
  rcases gG8.mp ht with ht | ht
  ·exact sub1 t ht
  ·rcases gG5.mp ht with rfl | ht
   ·exact hb
   ·exact h2 t (List.mem_reverse.mp ht)
 have subA : ∀ t ∈ m1 ++ [b] ++ (b :: m2.reverse) ++ [a], t.Sublist ns := fun t ht => by
  rcases gG8.mp ht with ht | ht
  ·exact subR t ht
  ·rw [gG4.mp ht]; exact ha
 have p1 := kDw k ha subA
 have rp := kPn (f := f) (g := g) (w := w) (fee := fee) (a := a) (r := m1 ++ [b] ++ (b :: m2.reverse)) k.pos k.fee0 (kIt hn ha) fun t ht => kIt hn (subR t ht)
 have lt : dLt (.int (kAU f g w fee a (m1 ++ [b] ++ (b :: m2.reverse) ++ [a]))) (.int 0) = some (.bool false) := by
  show some (D.bool (decide (_ < _))) = _
  rw [gH2 (by omega)]
 have rv : dRev (pls a b m2) = some (.lst (((b :: m2.reverse) ++ [a]).map T)) := by
  show some (D.lst (((a :: (m2 ++ [b])).map T).reverse)) = _
  rw [← List.map_reverse, kTg]
 have ad : dAdd (pls a b m1) (.lst (((b :: m2.reverse) ++ [a]).map T)) = some (.lst ((a :: (m1 ++ [b] ++ (b :: m2.reverse) ++ [a])).map T)) := by
  unfold pls
  rw [kJH (by rw [gF0, gF0, gG0, gG2, gG3, gG2, gG0, List.length_reverse, gG3]; omega), ← gG7]
  congr 3
  rw [List.append_assoc (m1 ++ [b]), List.cons_append]
 have chk5 : ∀ (c0 c1 c2 c3 c4 : Option D) (e : EnvD), dChk [1] (dVar 5) (c0 :: c1 :: c2 :: c3 :: c4 :: some (pD ns f g w fee) :: e) = .ok (pD ns f g w fee) (c0 :: c1 :: c2 :: c3 :: c4 :: some (pD ns f g w fee) :: e) := fun _ _ _ _ _ _ => rfl
 have chk6 : ∀ (c0 c1 c2 c3 c4 c5 : Option D) (e : EnvD), dChk [1] (dVar 6) (c0 :: c1 :: c2 :: c3 :: c4 :: c5 :: some (pD ns (fun n => f n + g n) z0 w fee) :: e) = .ok (pD ns (fun n => f n + g n) z0 w fee) (c0 :: c1 :: c2 :: c3 :: c4 :: c5 :: some (pD ns (fun n => f n + g n) z0 w fee) :: e) := fun _ _ _ _ _ _ _ => rfl
 have lc := kDa (env := eW2 S0 x NM LD FE (some (pD ns f g w fee)) (some (pD ns (fun n => f n + g n) z0 w fee)) o7 o8 o9 (some (pls a b m1)) (some (pls a b m2)) o12 o13 o14 o15 o16 o17 o18 o19 o20) (gd := gT 2 (kBe (gN 21) (kBe (gN 22) kFC))) (t := kAp (dOp2 dLt (kAh FA7 [] (kAa (dChk [1] (dVar 6)) (kAa (dVar 21) (kAa (dVar 22) dNil)))) (dC (.int 0)))) (m := dC (.int 1)) (vs := [21, 22]) (fun p : List Str × List Str => D.tup [T p.1, T p.2]) (fun _ => false) (fun _ => D.int 1) (l := (a :: (m1 ++ [b])).zip (a :: (m2 ++ [b]))) fun p hp => ⟨[some S0, some x, some NM, some LD, some FE, some (pD ns f g w fee), some (pD ns (fun n => f n + g n) z0 w fee), o7, o8, o9, some (pls a b m1), some (pls a b m2), o12, o13, o14, o15, o16, o17, o18, o19, o20, some (T p.1), some (T p.2)], rfl, by
  have hp1 : p.1.Sublist ns := by
   have := (List.of_mem_zip (show (p.1, p.2) ∈ _ from hp)).1
   rcases gG5.mp this with e | e
   ·rw [e]; exact ha
   ·exact sub1 _ e
  have hp2 : p.2.Sublist ns := by
   have := (List.of_mem_zip (show (p.1, p.2) ∈ _ from hp)).2
   rcases gG5.mp this with e | e
   ·rw [e]; exact ha
   ·exact sub2 _ e
  have c := kMu k.trips hp1 hp2
  have cp := kQB (f := fun n => f n + g n) (w := w) (fee := fee) (a := p.1) (b := p.2) k.pos k.fee0
  have lt0 : dLt (.int (chgP (fun n => f n + g n) (fun _ => 0) w fee p.1 p.2)) (.int 0) = some (.bool false) := by
   show some (D.bool (decide (_ < _))) = _
   rw [gH2 (by omega)]
  have c : FA7 [pD ns (fun n => f n + g n) z0 w fee, T p.1, T p.2] = .ok (.int (chgP (fun n => f n + g n) (fun _ => 0) w fee p.1 p.2)) .non := c
  generalize pls a b m1 = Q1 at *
  generalize pls a b m2 = Q2 at *
  generalize pD ns f g w fee = PP at *
  generalize pD ns (fun n => f n + g n) z0 w fee = P2 at *
  simp only [kAG, kAv, kAw, u_c, kAi, kAq, chk6, kAo, gE0, gE1, kAl, gE2, c, kBk, lt0, kAj], fun h => nomatch h⟩
 have fnil : ((a :: (m1 ++ [b])).zip (a :: (m2 ++ [b]))).filter (fun _ => false) = [] := List.filter_eq_nil_iff.mpr fun _ _ z => nomatch z
 rw [fnil] at lc
 have zp : (dZip (kAa (dVar 10) (kAa (dVar 11) dNil))) (eW2 S0 x NM LD FE (some (pD ns f g w fee)) (some (pD ns (fun n => f n + g n) z0 w fee)) o7 o8 o9 (some (pls a b m1)) (some (pls a b m2)) o12 o13 o14 o15 o16 o17 o18 o19 o20) = .ok (((a :: (m1 ++ [b])).zip (a :: (m2 ++ [b]))).map fun p => D.tup [T p.1, T p.2]) (eW2 S0 x NM LD FE (some (pD ns f g w fee)) (some (pD ns (fun n => f n + g n) z0 w fee)) o7 o8 o9 (some (pls a b m1)) (some (pls a b m2)) o12 o13 o14 o15 o16 o17 o18 o19 o20) := by
  rw [← kOU]
  rfl
 have nn : dNe (.lst ([] : List D)) (.lst []) = some (.bool false) := kLP (gs := [])
 have nn2 : dNe (.lst (([] : List (List Str × List Str)).map fun _ => D.int 1)) (.lst []) = some (.bool false) := nn
 have p1 : FA3 [pD ns f g w fee, .lst ((a :: (m1 ++ [b] ++ (b :: m2.reverse) ++ [a])).map T)] = _ := p1
 unfold kKI
 generalize (((a :: (m1 ++ [b])).zip (a :: (m2 ++ [b]))).map fun p => D.tup [T p.1, T p.2]) = ZZ at *
 generalize D.lst ((a :: (m1 ++ [b] ++ (b :: m2.reverse) ++ [a])).map T) = R3 at *
 generalize D.lst (((b :: m2.reverse) ++ [a]).map T) = R2 at *
 generalize pls a b m1 = Q1 at *
 generalize pls a b m2 = Q2 at *
 generalize pD ns f g w fee = PP at *
 generalize pD ns (fun n => f n + g n) z0 w fee = P2 at *
 simp only [kCB, u_or, kAG, kAv, u_un, kAw, u_c, kAi, kAq, chk5, kAo, gE0, gE1, kAl, gE2, rv, kAj, ad, p1, kBk, lt, u_lc, zp, lc, kET, nn2, gE3, if_false, kCL]
theorem kVn (hx : Deal x) : ∃ (d : Int) (x' : D), Deal x' ∧ -250000 ≤ d ∧ d ≤ 250000 ∧ ∀ (c0 : Option D) (e : EnvD), (dOp2 iSub (kAn FA4 1 [] dNil) (kAn FA4 1 [] dNil)) (c0 :: some x :: e) = .ok (.int d) (c0 :: some x' :: e) := by
 obtain ⟨k1, x1, e1, hx1, a1, b1⟩ := kKb hx
 obtain ⟨k2, x2, e2, hx2, a2, b2⟩ := kKb hx1
 have sb : iSub (.int k1) (.int k2) = some (.int (k1 - k2)) := rfl
 refine ⟨k1 - k2, x2, hx2, by omega, by omega, fun c0 e => ?_⟩
 simp only [kAv, kBE, kAq, gE0, gE1, kAl, gE2, e1, e2, kCM, List.set, sb, kAj]
theorem kLJ (pm : l.Perm ns) (ne : l ≠ []) (ll : l.length ≤ 10) (hx : Deal x) : ∃ (nm : Str) (x' : D), FAn [x, .lst (l.map D.str)] = .ok (.str nm) x' ∧ Deal x' ∧ nm ∈ ns := by
 obtain ⟨y, x1, e1, hx1, hy⟩ := kVH hx (xs := l.map D.str) (fun q => ne (List.map_eq_nil_iff.mp q)) (by rw [gF0]; omega)
 obtain ⟨nm, hm, rfl⟩ := gF7.mp hy
 exact ⟨nm, x1, e1, hx1, pm.mem_iff.mp hm⟩
theorem w_13 (pm : l.Perm ns) (ne : l ≠ []) (ll : l.length ≤ 10) (hx : Deal x) : ∃ (x' : D) (nm : Str) (d : Int), kKH (eW2 S0 x (.lst (l.map D.str)) LD FE o5 o6 o7 o8 o9 o10 o11 o12 o13 none none none none none none none) = .nx (eW2 S0 x' (.lst (l.map D.str)) LD FE o5 o6 o7 o8 o9 o10 o11 o12 o13 (some (.str nm)) (some (.int d)) none none none none none) ∧ Deal x' ∧ nm ∈ ns ∧ -250000 ≤ d ∧ d ≤ 250000 := by
 obtain ⟨nm, x1, e1, hx1, hm⟩ := kLJ pm ne ll hx
 obtain ⟨d, x2, hx2, d0, d1, e2⟩ := kVn hx1
 refine ⟨x2, nm, d, ?_, hx2, hm, d0, d1⟩
 unfold kKH
 generalize D.lst (l.map D.str) = NN at *
 simp only [kJK, kBE, kAi, kAq, kAo, gE0, gE1, kAl, gE2, e1, kCM, e2, List.set, kJJ, kGN]
def gain (a b : List Str) (nm : Str) (d : Int) : Int := d * ((if nm ∈ b then 1 else 0) - (if nm ∈ a then 1 else 0))
theorem w_14 (k : Oks ns f g w fee) (hm : nm ∈ ns) (d0 : -250000 ≤ d) (d1 : d ≤ 250000) (ha : a.Sublist ns) (hb : b.Sublist ns) : kKG (eW2 S0 x NM LD FE (some (pD ns f g w fee)) o6 o7 (some (T a)) (some (T b)) o10 o11 o12 o13 (some (.str nm)) (some (.int d)) none none none none none) = .nx (eW2 S0 x NM LD FE (some (pD ns f g w fee)) o6 o7 (some (T a)) (some (T b)) o10 o11 o12 o13 (some (.str nm)) (some (.int d)) (some (pD ns (shf f nm d) (shf g nm (-d)) w fee)) (some (.int (gain a b nm d))) none none none) := by
 have hn := k.hn
 have sh := kOA k hm (d := d)
 have nx := hn.nam nm hm
 have iA := in_T nx (hn.lot ha)
 have iB := in_T nx (hn.lot hb)
 have chk5 : ∀ (c0 c1 c2 c3 c4 : Option D) (e : EnvD), dChk [1] (dVar 5) (c0 :: c1 :: c2 :: c3 :: c4 :: some (pD ns f g w fee) :: e) = .ok (pD ns f g w fee) (c0 :: c1 :: c2 :: c3 :: c4 :: some (pD ns f g w fee) :: e) := fun _ _ _ _ _ _ => rfl
 have sb : ∀ i j : Int, iSub (.int i) (.int j) = some (.int (i - j)) := fun _ _ => rfl
 unfold gain
 unfold kKG
 generalize pD ns f g w fee = PP at *
 generalize pD ns (shf f nm d) (shf g nm (-d)) w fee = P2 at *
 generalize T a = TA at *
 generalize T b = TB at *
 by_cases c1 : nm ∈ a <;> by_cases c2 : nm ∈ b
 ·rw [gH1 c1] at iA
  rw [gH1 c2] at iB
  rw [if_pos c1, if_pos c2]
  have mu := kGj (a := d) (b := 1 - 1) (by omega) (by omega)
  simp only [kJK, kAw, kAi, kAq, chk5, kAo, gE0, gE1, kAl, gE2, sh, kBk, kAv, u_if, kAG, iA, iB, kAj, if_true, u_c, sb, mu, List.set, kJJ, kGN]
 ·rw [gH1 c1] at iA
  rw [gH2 c2] at iB
  rw [if_pos c1, if_neg c2]
  have mu := kGj (a := d) (b := 0 - 1) (by omega) (by omega)
  simp only [kJK, kAw, kAi, kAq, chk5, kAo, gE0, gE1, kAl, gE2, sh, kBk, kAv, u_if, kAG, iA, iB, kAj, if_true, gE3, if_false, u_c, sb, mu, List.set, kJJ, kGN]
 ·rw [gH2 c1] at iA
  rw [gH1 c2] at iB
  rw [if_neg c1, if_pos c2]
  have mu := kGj (a := d) (b := 1 - 0) (by omega) (by omega)
  simp only [kJK, kAw, kAi, kAq, chk5, kAo, gE0, gE1, kAl, gE2, sh, kBk, kAv, u_if, kAG, iA, iB, kAj, if_true, gE3, if_false, u_c, sb, mu, List.set, kJJ, kGN]
 ·rw [gH2 c1] at iA
  rw [gH2 c2] at iB
  rw [if_neg c1, if_neg c2]
  have mu := kGj (a := d) (b := 0 - 0) (by omega) (by omega)
  simp only [kJK, kAw, kAi, kAq, chk5, kAo, gE0, gE1, kAl, gE2, sh, kBk, kAv, u_if, kAG, iA, iB, kAj, gE3, if_false, u_c, sb, mu, List.set, kJJ, kGN]
theorem kNE {m : Int} (hf : ∀ n, -m ≤ f n ∧ f n ≤ m) (d0 : -250000 ≤ d) (d1 : d ≤ 250000) : ∀ n, -(m + 250000) ≤ shf f nm d n ∧ shf f nm d n ≤ m + 250000 := fun n => by
 have h := hf n
 unfold shf
 by_cases e : n = nm
 ·rw [if_pos e]; omega
 ·rw [if_neg e]; omega
theorem w_15 (hn : Nms ns) (h : Lts ns f g w va vb vc qa qb qc) (sm : Sml f g w fee) (sm2 : Sml (shf f nm d) (shf g nm (-d)) w fee) (hm : nm ∈ ns) : kKF (eW2 S0 x NM (.lst [va, vb, vc]) (.int fee) (some (pD ns f g w fee)) o6 o7 o8 o9 o10 o11 o12 o13 (some (.str nm)) (some (.int d)) (some (pD ns (shf f nm d) (shf g nm (-d)) w fee)) o17 o18 o19 o20) = .nx (eW2 S0 x NM (.lst [va, vb, vc]) (.int fee) (some (pD ns f g w fee)) o6 o7 o8 o9 o10 o11 o12 o13 (some (.str nm)) (some (.int d)) (some (pD ns (shf f nm d) (shf g nm (-d)) w fee)) o17 o18 o19 o20) := by
 have mo := kLW (d := d) hn h hm
 have k1 := kHN hn (h.mov (d := d) hm) (kDi sm2.f) (kDi sm2.g) (kDi sm2.w) sm2.fee
 have k2 := kHN hn h (kDi sm.f) (kDi sm.g) (kDi sm.w) sm.fee
 unfold kKF
 generalize pD ns f g w fee = PP at *
 generalize pD ns (shf f nm d) (shf g nm (-d)) w fee = P2 at *
 generalize D.lst [.lst ((movI qa nm (f nm + d)).map itD), .lst ((movI qb nm (g nm + -d)).map itD), vc] = MM at *
 generalize D.lst [va, vb, vc] = LL at *
 simp only [kCB, u_or, kLr, kLq, kAw, kAi, kAq, kAo, gE0, gE1, kAl, gE2, mo, k1, k2, kBk, kDX, Bool.not_true, gE3, if_false, kCL]
theorem w_16 (k : Oks ns f g w fee) (sm : Sml f g w fee) (sm2 : Sml (shf f nm d) (shf g nm (-d)) w fee) (hm : nm ∈ ns) (ha : a.Sublist ns) (hb : b.Sublist ns) (h1 : ∀ t ∈ m1, t.Sublist ns) (l1 : m1.length ≤ 5) : kKE (eW2 S0 x NM LD FE o5 (some (pD ns (fun n => f n + g n) z0 w fee)) o7 o8 o9 (some (pls a b m1)) o11 o12 (some (.int (kAU f g w fee a (m1 ++ [b])))) o14 o15 (some (pD ns (shf f nm d) (shf g nm (-d)) w fee)) (some (.int (gain a b nm d))) o18 o19 o20) = .nx (eW2 S0 x NM LD FE o5 (some (pD ns (fun n => f n + g n) z0 w fee)) o7 o8 o9 (some (pls a b m1)) o11 o12 (some (.int (kAU f g w fee a (m1 ++ [b])))) o14 o15 (some (pD ns (shf f nm d) (shf g nm (-d)) w fee)) (some (.int (gain a b nm d))) o18 o19 o20) := by
 have hn := k.hn
 have k2 := k.shift (d := d) hm
 have sub := kIY hb h1
 have p1 := kDw k2 ha sub
 have cs := kOP (f := f) (g := g) (w := w) (fee := fee) (x := nm) (d := d) (a := a) (r := m1 ++ [b]) (kIt hn ha) fun t ht => kIt hn (sub t ht)
 rw [kGs] at cs
 have cs : kAU (shf f nm d) (shf g nm (-d)) w fee a (m1 ++ [b]) = kAU f g w fee a (m1 ++ [b]) + gain a b nm d := cs
 have bd := kLj (kDi sm2.f) (kDi sm2.g) (kDi sm2.w) sm2.fee (m1 ++ [b]) a (hn.lot ha).2 fun t ht => (hn.lot (sub t ht)).2
 rw [gG2, gG3] at bd
 rw [cs] at p1 bd
 obtain ⟨r1, n1⟩ := kNb (n := kAU f g w fee a (m1 ++ [b]) + gain a b nm d) (by omega)
 have ad : dAdd (.int (kAU f g w fee a (m1 ++ [b]))) (.int (gain a b nm d)) = some (.int (kAU f g w fee a (m1 ++ [b]) + gain a b nm d)) := rfl
 have tr := kIJ k2
 have es : (fun n => shf f nm d n + shf g nm (-d) n) = fun n => f n + g n := kKy
 rw [es] at tr
 have tr : FA2 [pD ns (shf f nm d) (shf g nm (-d)) w fee] = .ok (pD ns (fun n => f n + g n) z0 w fee) .non := tr
 have te := kMj (fee := fee) hn (kIp sm.f sm.g) (kIp sm.f sm.g) bd0 (kDi sm.w)
 rw [gH1 rfl] at te
 have nb : kQw (.bool true) (.bool true) = some (.bool false) := rfl
 have chk16 : ∀ (c0 c1 c2 c3 c4 c5 c6 c7 c8 c9 c10 c11 c12 c13 c14 c15 : Option D) (e : EnvD), dChk [1] (dVar 16) (c0 :: c1 :: c2 :: c3 :: c4 :: c5 :: c6 :: c7 :: c8 :: c9 :: c10 :: c11 :: c12 :: c13 :: c14 :: c15 :: some (pD ns (shf f nm d) (shf g nm (-d)) w fee) :: e) = .ok (pD ns (shf f nm d) (shf g nm (-d)) w fee) (c0 :: c1 :: c2 :: c3 :: c4 :: c5 :: c6 :: c7 :: c8 :: c9 :: c10 :: c11 :: c12 :: c13 :: c14 :: c15 :: some (pD ns (shf f nm d) (shf g nm (-d)) w fee) :: e) := fun _ _ _ _ _ _ _ _ _ _ _ _ _ _ _ _ _ => rfl
 have te : eqOf 1 FA9 (pD ns (fun n => f n + g n) z0 w fee) (pD ns (fun n => f n + g n) z0 w fee) = some (.bool true) := te
 unfold kKE pls
 generalize D.lst ((a :: (m1 ++ [b])).map T) = R1 at *
 generalize (D.int (kAU f g w fee a (m1 ++ [b]) + gain a b nm d)).py.shown = SA at *
 generalize kAU f g w fee a (m1 ++ [b]) = C1 at *
 generalize gain a b nm d = GG at *
 generalize pD ns (shf f nm d) (shf g nm (-d)) w fee = PP at *
 generalize pD ns (fun n => f n + g n) z0 w fee = P2 at *
 simp only [kCB, u_or, kAG, kAv, u_cb, kAw, u_c, kAi, kAq, chk16, kAo, gE0, gE1, kAl, gE2, p1, kBk, r1, n1, ad, kAj, tr, te, nb, gE3, if_false, kCL]
theorem w_17 : kNG (eW2 S0 x NM (.lst [va, vb, vc]) FE o5 o6 o7 o8 o9 o10 o11 o12 o13 o14 o15 o16 o17 none none none) = .nx (eW2 S0 x NM (.lst [va, vb, vc]) FE o5 o6 o7 o8 o9 o10 o11 o12 o13 o14 o15 o16 o17 (some (.lst [va, vb, .lst []])) none none) := rfl
structure Ag (ns : List Str) (m : Int) (AG : D) (f2 g2 w2 : Str → Int) (va vb vc : D) (qa qb qc : List Itm) : Prop where
 eq : AG = .lst [va, vb, vc]
 ls : Lts ns f2 g2 w2 va vb vc qa qb qc
 pos : ∀ n, 0 ≤ f2 n + g2 n
 bf : ∀ n, -m ≤ f2 n ∧ f2 n ≤ m
 bg : ∀ n, -m ≤ g2 n ∧ g2 n ≤ m
def AgE (ns : List Str) (m : Int) (AG : D) : Prop := ∃ f2 g2 w2 va vb vc qa qb qc, Ag ns m AG f2 g2 w2 va vb vc qa qb qc
theorem w_18 (hn : Nms ns) (pm : l.Perm ns) (h : AgE ns 500000 AG) (hx : Deal x) : ∃ (x' AG' : D), kIK (eW2 S0 x (.lst (l.map D.str)) LD FE o5 o6 o7 o8 o9 o10 o11 o12 o13 o14 o15 o16 o17 (some AG) none none) = .nx (eW2 S0 x' (.lst (l.map D.str)) LD FE o5 o6 o7 o8 o9 o10 o11 o12 o13 o14 o15 o16 o17 (some AG') none none) ∧ Deal x' ∧ AgE ns 500000 AG' := by
 obtain ⟨c, x1, e1, hx1, c0, c1⟩ := kEI hx (m := 2) (by omega) (by omega)
 have dq := kEn c 0
 by_cases q : c = 0
 ·rw [gH1 q] at dq
  obtain ⟨x2, f, g, w, qa, qb, qc, e2, hx2, hl⟩ := kLX hn pm hx1
  refine ⟨x2, .lst [.lst (qa.map itD), .lst (qb.map itD), .lst (qc.map itD)], ?_, hx2, f, g, w, _, _, _, qa, qb, qc, rfl, ⟨hl.pa, .inl (.inl rfl), hl.pb, .inl (.inl rfl), hl.pc, .inl (.inl rfl)⟩, hl.pos, hl.bf, hl.bg⟩
  unfold kIK
  generalize D.lst (l.map D.str) = NN at *
  simp only [kCB, kAG, kAv, u_c, kBE, kAi, kAq, kAo, gE0, gE1, kAl, gE2, e1, kCM, List.set, dq, kAj, if_true, kDj, e2]
 ·rw [gH2 q] at dq
  refine ⟨x1, AG, ?_, hx1, h⟩
  unfold kIK
  generalize D.lst (l.map D.str) = NN at *
  simp only [kCB, kAG, kAv, u_c, kBE, kAi, kAq, kAo, gE0, gE1, kAl, gE2, e1, kCM, List.set, dq, kAj, gE3, if_false, kCL]
theorem kVt (hn : Nms ns) (pm : l.Perm ns) (ne : l ≠ []) {m : Int} (h : AgE ns m AG) (hx : Deal x) {o19 : Option D} : ∃ (x' AG' : D), kFi (eW2 S0 x (.lst (l.map D.str)) LD FE o5 o6 o7 o8 o9 o10 o11 o12 o13 o14 o15 o16 o17 (some AG) o19 none) = .nx (eW2 S0 x' (.lst (l.map D.str)) LD FE o5 o6 o7 o8 o9 o10 o11 o12 o13 o14 o15 o16 o17 (some AG') o19 none) ∧ Deal x' ∧ AgE ns (m + 250000) AG' := by
 obtain ⟨nm, x1, e1, hx1, hm⟩ := kLJ pm ne (by rw [pm.length_eq]; exact hn.len) hx
 obtain ⟨d, x2, hx2, d0, d1, e2⟩ := kVn hx1
 obtain ⟨f, g, w, va, vb, vc, qa, qb, qc, rfl, ls, pos, bf, bg⟩ := h
 have mo := kLW (d := d) hn ls hm
 refine ⟨x2, _, ?_, hx2, shf f nm d, shf g nm (-d), w, _, _, _, _, _, qc, rfl, ls.mov (d := d) hm, fun n => ?_, kNE bf d0 d1, kNE bg (by omega) (by omega)⟩
 ·unfold kFi
  generalize D.lst (l.map D.str) = NN at *
  generalize D.lst [.lst ((movI qa nm (f nm + d)).map itD), .lst ((movI qb nm (g nm + -d)).map itD), vc] = MM at *
  generalize D.lst [va, vb, vc] = LL at *
  simp only [kDj, kAw, kBE, kAi, kAq, kAo, gE0, gE1, kAl, gE2, e1, kCM, List.set, e2, mo, kBk]
 ·have h := congrFun (kKy (f := f) (g := g) (x := nm) (d := d)) n
  have h : shf f nm d n + shf g nm (-d) n = f n + g n := h
  rw [h]
  exact pos n
theorem w_19 (hn : Nms ns) (pm : l.Perm ns) (ne : l ≠ []) (h : AgE ns 500000 AG) (hx : Deal x) : ∃ (x' AG' : D) (p19 : Option D), kKD (eW2 S0 x (.lst (l.map D.str)) LD FE o5 o6 o7 o8 o9 o10 o11 o12 o13 o14 o15 o16 o17 (some AG) none none) = .nx (eW2 S0 x' (.lst (l.map D.str)) LD FE o5 o6 o7 o8 o9 o10 o11 o12 o13 o14 o15 o16 o17 (some AG') p19 none) ∧ Deal x' ∧ AgE ns 1000000 AG' := by
 obtain ⟨k1, x1, e1, hx1, a1, b1⟩ := kEI hx (m := 3) (by omega) (by omega)
 obtain ⟨v, rfl, v3⟩ := kLQ (n := 3) a1 b1
 have it : (kDc (kAa (kAn FA1 1 [] (kAa (dC (.int 3)) dNil)) dNil)) (eW2 S0 x (.lst (l.map D.str)) LD FE o5 o6 o7 o8 o9 o10 o11 o12 o13 o14 o15 o16 o17 (some AG) none none) = .ok ((List.range v).map pI) (eW2 S0 x1 (.lst (l.map D.str)) LD FE o5 o6 o7 o8 o9 o10 o11 o12 o13 o14 o15 o16 o17 (some AG) none none) := kHA (by
  simp only [kAi, kAq, u_c, kBE, gE0, gE1, kAl, gE2, e1, kCM, List.set]) (by omega)
 obtain ⟨env', e2, hI⟩ := kKY (gd := gN 19) (body := kFi) (I := fun k e => ∃ (x AG : D) (o19 : Option D), e = eW2 S0 x (.lst (l.map D.str)) LD FE o5 o6 o7 o8 o9 o10 o11 o12 o13 o14 o15 o16 o17 (some AG) o19 none ∧ Deal x ∧ AgE ns (500000 + 250000 * (k : Int)) AG) (J := fun _ => False) (ds := (List.range v).map pI) (k := 0) (env := eW2 S0 x1 (.lst (l.map D.str)) LD FE o5 o6 o7 o8 o9 o10 o11 o12 o13 o14 o15 o16 o17 (some AG) none none) ⟨x1, AG, none, rfl, hx1, by
  rw [show (500000 : Int) + 250000 * ((0 : Nat) : Int) = 500000 by omega]
  exact h⟩ fun i d env hd hI => by
  obtain ⟨x, AG, o19, rfl, hx, ha⟩ := hI
  obtain ⟨x', AG', e, hx', ha'⟩ := kVt (S0 := S0) (LD := LD) (FE := FE) (o5 := o5) (o6 := o6) (o7 := o7) (o8 := o8) (o9 := o9) (o10 := o10) (o11 := o11) (o12 := o12) (o13 := o13) (o14 := o14) (o15 := o15) (o16 := o16) (o17 := o17) (o19 := some d) hn pm ne ha hx
  refine ⟨eW2 S0 x (.lst (l.map D.str)) LD FE o5 o6 o7 o8 o9 o10 o11 o12 o13 o14 o15 o16 o17 (some AG) (some d) none, rfl, .inl ⟨_, .inl e, x', AG', some d, rfl, hx', ?_⟩⟩
  rw [show 500000 + 250000 * (((0 + i + 1 : Nat)) : Int) = 500000 + 250000 * ((0 + i : Nat) : Int) + 250000 by omega]
  exact ha'
 obtain ⟨x', AG', p19, rfl, hx', f2, g2, w2, va, vb, vc, qa, qb, qc, eq, ls, pos, bf, bg⟩ := hI.elim id False.elim
 rw [gF0, List.length_range] at bf bg
 refine ⟨x', AG', p19, ?_, hx', f2, g2, w2, va, vb, vc, qa, qb, qc, eq, ls, pos, fun n => by have := bf n; omega, fun n => by have := bg n; omega⟩
 unfold kKD
 rw [kLt, it]
 exact e2
theorem w_20 (k1 : Oks ns f g z0 0) (k2 : Oks ns f2 g2 z0 0) {ua ub uc : D} {pa pb pc : List Itm} (h1 : Lts ns f g w va vb vc qa qb qc) (h2 : Lts ns f2 g2 w2 ua ub uc pa pb pc) : kKC (eW2 S0 x NM (.lst [va, vb, vc]) FE o5 o6 o7 o8 o9 o10 o11 o12 o13 o14 o15 o16 o17 (some (.lst [ua, ub, uc])) o19 none) = .nx (eW2 S0 x NM (.lst [va, vb, vc]) FE o5 o6 o7 o8 o9 o10 o11 o12 o13 o14 o15 o16 o17 (some (.lst [ua, ub, uc])) o19 (some (.lst [pD ns f g z0 0, pD ns f2 g2 z0 0]))) := by
 obtain ⟨i0, i1, _⟩ := ix3 (a := va) (b := vb) (c := vc)
 obtain ⟨j0, j1, _⟩ := ix3 (a := ua) (b := ub) (c := uc)
 have io1 := kJv k1 h1.pa h1.ca h1.pb h1.cb kJd kQy
 have io2 := kJv k2 h2.pa h2.ca h2.pb h2.cb kJd kQy
 have pk : ∀ a b : D, pick [0, 1, 2, 3] ([a, b] ++ [.int 0, .obj 4 []]) = [a, b, .int 0, .obj 4 []] := fun _ _ => rfl
 have k64 : 64 * 1 = 64 := rfl
 have no1 : ∀ e : EnvD, kJg e (FOut.ok .non (pD ns f g z0 0)) = .ok (pD ns f g z0 0) e := fun _ => rfl
 have no2 : ∀ e : EnvD, kJg e (FOut.ok .non (pD ns f2 g2 z0 0)) = .ok (pD ns f2 g2 z0 0) e := fun _ => rfl
 have io1 : FAa [.obj 64 [], va, vb, .int 0, .obj 4 []] = .ok .non (pD ns f g z0 0) := io1
 have io2 : FAa [.obj 64 [], ua, ub, .int 0, .obj 4 []] = .ok .non (pD ns f2 g2 z0 0) := io2
 unfold kKC
 generalize pD ns f g z0 0 = P1 at *
 generalize pD ns f2 g2 z0 0 = P2 at *
 generalize D.lst [va, vb, vc] = LL at *
 generalize D.lst [ua, ub, uc] = L3 at *
 simp only [kDj, kET, kQX, kNv, kAv, u_c, kAi, kAq, kAo, gE0, gE1, kAl, i0, i1, j0, j1, kAj, pk, gE2, k64, io1, io2, no1, no2, List.set]
theorem w_21 (k1 : Oks ns f g z0 0) (k2 : Oks ns f2 g2 z0 0) (b1 : BdF fun n => f n + g n) (b2 : BdF fun n => f2 n + g2 n) (pm : l.Perm ns) (ha : a.Sublist ns) (hb : b.Sublist ns) (h1 : ∀ t ∈ m1, t.Sublist ns) (h2 : ∀ t ∈ m2, t.Sublist ns) {ua ub uc : D} {pa pb pc : List Itm} (hl : Lts ns f2 g2 w2 ua ub uc pa pb pc) : kKB (eW2 S0 x (.lst (l.map D.str)) LD FE o5 o6 (some (suD ns f g vc)) o8 o9 (some (pls a b m1)) (some (pls a b m2)) o12 o13 o14 o15 o16 o17 (some (.lst [ua, ub, uc])) o19 (some (.lst [pD ns f g z0 0, pD ns f2 g2 z0 0]))) = .rt (.bool true) (eW2 S0 x (.lst (l.map D.str)) LD FE o5 o6 (some (suD ns f g vc)) o8 o9 (some (pls a b m1)) (some (pls a b m2)) o12 o13 o14 o15 o16 o17 (some (.lst [ua, ub, uc])) o19 (some (.lst [pD ns f g z0 0, pD ns f2 g2 z0 0]))) := by
 have df := kQr k1 k2 b1 b2 pm ha hb h1 h2
 have su := kNY k1.hn pm hl
 have i0 : dIx (.lst [pD ns f g z0 0, pD ns f2 g2 z0 0]) (.int 0) = some (pD ns f g z0 0) := rfl
 have i1 : dIx (.lst [pD ns f g z0 0, pD ns f2 g2 z0 0]) (.int 1) = some (pD ns f2 g2 z0 0) := rfl
 have s0 : dIx (suD ns f g vc) (.int 0) = some (kD ns fun n => f n + g n) := rfl
 unfold kKB
 generalize suD ns f g vc = SU at *
 generalize pls a b m1 = Q1 at *
 generalize pls a b m2 = Q2 at *
 generalize D.lst [pD ns f g z0 0, pD ns f2 g2 z0 0] = PR at *
 generalize kD ns (fun n => f n + g n) = K1 at *
 generalize kD ns (fun n => f2 n + g2 n) = K2 at *
 generalize pD ns f g z0 0 = P1 at *
 generalize pD ns f2 g2 z0 0 = P2 at *
 generalize D.lst (l.map D.str) = NN at *
 generalize D.lst [ua, ub, uc] = L3 at *
 simp only [kDC, kAw, kET, kAv, u_c, kAi, kAq, kAo, gE0, gE1, kAl, gE2, i0, i1, s0, kAj, su, kBk, df]
theorem law_ok : ∀ S : List Int, S.length ≤ 63 → ∃ io, F_law [.ro (S.map D.int)] = .ok (.bool true) io := by
 intro S hS
 obtain ⟨x0, e0, hx0⟩ := kTQ hS
 obtain ⟨l, x1, e1, hx1, nd, nam, ll, ne⟩ := kRv hx0
 obtain ⟨ns, _, up, pe⟩ := kLa nd
 have pm : l.Perm ns := pe.symm
 have hn : Nms ns := ⟨up, fun s hs => nam s (pe.mem_iff.mp hs), by rw [pe.length_eq]; omega⟩
 obtain ⟨x2, f, g, w, qa, qb, qc, e2, hx2, hl⟩ := kLX hn pm hx1
 obtain ⟨fee, x3, e3, hx3, f0, f1⟩ := kKb hx2
 have st0 : kMT [some (.ro (S.map D.int)), none, none, none, none, none, none, none, none, none, none, none, none, none, none, none, none, none, none, none, none, none, none] = .nx [some (.ro (S.map D.int)), some x0, none, none, none, none, none, none, none, none, none, none, none, none, none, none, none, none, none, none, none, none, none] := by
  unfold kMT
  simp only [kDj, kAw, kAi, kAq, kAo, u_c, gE0, kAl, gE2, e0, kBk, List.set]
 have st1 : kMS [some (.ro (S.map D.int)), some x0, none, none, none, none, none, none, none, none, none, none, none, none, none, none, none, none, none, none, none, none, none] = .nx [some (.ro (S.map D.int)), some x1, some (.lst (l.map D.str)), none, none, none, none, none, none, none, none, none, none, none, none, none, none, none, none, none, none, none, none] := by
  unfold kMS
  simp only [kDj, kBE, kAi, kAq, gE0, gE1, kAl, gE2, e1, kCM, List.set]
 have st2 : kMR [some (.ro (S.map D.int)), some x1, some (.lst (l.map D.str)), none, none, none, none, none, none, none, none, none, none, none, none, none, none, none, none, none, none, none, none] = .nx (eW2 (.ro (S.map D.int)) x3 (.lst (l.map D.str)) (.lst [.lst (qa.map itD), .lst (qb.map itD), .lst (qc.map itD)]) (.int fee) none none none none none none none none none none none none none none none none) := by
  unfold kMR
  generalize D.lst (l.map D.str) = NN at *
  simp only [kJK, kBE, kAi, kAq, kAo, gE0, gE1, kAl, gE2, e2, e3, kCM, List.set, kJJ, kGN]
 have lt : Lts ns f g w (.lst (qa.map itD)) (.lst (qb.map itD)) (.lst (qc.map itD)) qa qb qc := ⟨hl.pa, .inl (.inl rfl), hl.pb, .inl (.inl rfl), hl.pc, .inl (.inl rfl)⟩
 have k : Oks ns f g w fee := lt.oks hn hl.pos hl.w0 f0
 have sm : Sml f g w fee := ⟨fun n => by have := hl.bf n; omega, fun n => by have := hl.bg n; omega, fun n => by have := hl.bw n; omega, by omega⟩
 obtain ⟨x4, a, b, st7, hx4, ha, hb⟩ := w_7 (S0 := .ro (S.map D.int)) (LD := .lst [.lst (qa.map itD), .lst (qb.map itD), .lst (qc.map itD)]) (FE := .int fee) (o5 := some (pD ns f g w fee)) (o6 := some (pD ns (fun n => f n + g n) z0 w fee)) (o7 := some (suD ns f g (.lst (qc.map itD)))) hn pm hx3
 obtain ⟨x5, m1, m2, st8, hx5, l1, l2, h1, h2⟩ := w_8 (S0 := .ro (S.map D.int)) (LD := .lst [.lst (qa.map itD), .lst (qb.map itD), .lst (qc.map itD)]) (FE := .int fee) (o5 := some (pD ns f g w fee)) (o6 := some (pD ns (fun n => f n + g n) z0 w fee)) (o7 := some (suD ns f g (.lst (qc.map itD)))) hn pm ha hb hx4
 obtain ⟨x6, nm, d, st13, hx6, hm, d0, d1⟩ := w_13 (S0 := .ro (S.map D.int)) (LD := .lst [.lst (qa.map itD), .lst (qb.map itD), .lst (qc.map itD)]) (FE := .int fee) (o5 := some (pD ns f g w fee)) (o6 := some (pD ns (fun n => f n + g n) z0 w fee)) (o7 := some (suD ns f g (.lst (qc.map itD)))) (o8 := some (T a)) (o9 := some (T b)) (o10 := some (pls a b m1)) (o11 := some (pls a b m2)) (o12 := some (.int (kAm g a - kAm g b))) (o13 := some (.int (kAU f g w fee a (m1 ++ [b])))) pm ne (by omega) hx5
 have sm2 : Sml (shf f nm d) (shf g nm (-d)) w fee := ⟨fun n => by have := kNE (nm := nm) hl.bf d0 d1 n; omega, fun n => by have := kNE (nm := nm) (d := -d) hl.bg (by omega) (by omega) n; omega, sm.w, sm.fee⟩
 have ag0 : AgE ns 500000 (.lst [.lst (qa.map itD), .lst (qb.map itD), .lst []]) := ⟨f, g, z0, _, _, _, qa, qb, [], rfl, ⟨hl.pa, .inl (.inl rfl), hl.pb, .inl (.inl rfl), kJd, .inl (.inl rfl)⟩, hl.pos, hl.bf, hl.bg⟩
 obtain ⟨x7, AG1, st18, hx7, ag1⟩ := w_18 (S0 := .ro (S.map D.int)) (LD := .lst [.lst (qa.map itD), .lst (qb.map itD), .lst (qc.map itD)]) (FE := .int fee) (o5 := some (pD ns f g w fee)) (o6 := some (pD ns (fun n => f n + g n) z0 w fee)) (o7 := some (suD ns f g (.lst (qc.map itD)))) (o8 := some (T a)) (o9 := some (T b)) (o10 := some (pls a b m1)) (o11 := some (pls a b m2)) (o12 := some (.int (kAm g a - kAm g b))) (o13 := some (.int (kAU f g w fee a (m1 ++ [b])))) (o14 := some (.str nm)) (o15 := some (.int d)) (o16 := some (pD ns (shf f nm d) (shf g nm (-d)) w fee)) (o17 := some (.int (gain a b nm d))) hn pm ag0 hx6
 obtain ⟨x8, AG2, p19, st19, hx8, f2, g2, w2, ua, ub, uc, pa, pb, pc, rfl, ls2, pos2, bf2, bg2⟩ := w_19 (S0 := .ro (S.map D.int)) (LD := .lst [.lst (qa.map itD), .lst (qb.map itD), .lst (qc.map itD)]) (FE := .int fee) (o5 := some (pD ns f g w fee)) (o6 := some (pD ns (fun n => f n + g n) z0 w fee)) (o7 := some (suD ns f g (.lst (qc.map itD)))) (o8 := some (T a)) (o9 := some (T b)) (o10 := some (pls a b m1)) (o11 := some (pls a b m2)) (o12 := some (.int (kAm g a - kAm g b))) (o13 := some (.int (kAU f g w fee a (m1 ++ [b])))) (o14 := some (.str nm)) (o15 := some (.int d)) (o16 := some (pD ns (shf f nm d) (shf g nm (-d)) w fee)) (o17 := some (.int (gain a b nm d))) hn pm ne ag1 hx7
 have kp1 : Oks ns f g z0 0 := k.plain
 have kp2 : Oks ns f2 g2 z0 0 := ⟨hn, ls2.pa.out, ls2.pb.out, fun _ _ => rfl, pos2, Int.le_refl _, fun _ => Int.le_refl _⟩
 have b1 : BdF fun n => f n + g n := kIp sm.f sm.g
 have b2 : BdF fun n => f2 n + g2 n := kIp (fun n => by have := bf2 n; omega) fun n => by have := bg2 n; omega
 refine ⟨_, kBy (n := 23) (ds := [.ro (S.map D.int)]) (e := eW2 (.ro (S.map D.int)) x8 (.lst (l.map D.str)) (.lst [.lst (qa.map itD), .lst (qb.map itD), .lst (qc.map itD)]) (.int fee) (some (pD ns f g w fee)) (some (pD ns (fun n => f n + g n) z0 w fee)) (some (suD ns f g (.lst (qc.map itD)))) (some (T a)) (some (T b)) (some (pls a b m1)) (some (pls a b m2)) (some (.int (kAm g a - kAm g b))) (some (.int (kAU f g w fee a (m1 ++ [b])))) (some (.str nm)) (some (.int d)) (some (pD ns (shf f nm d) (shf g nm (-d)) w fee)) (some (.int (gain a b nm d))) (some (.lst [ua, ub, uc])) p19 (some (.lst [pD ns f g z0 0, pD ns f2 g2 z0 0]))) ?_ 0⟩
 rw [kRx]
 exact (kAs st0).trans ((kAs st1).trans ((kAs st2).trans ((kAs (w_3 k lt)).trans ((kAs (w_4 k)).trans ((kAs (w_5 hn pm lt)).trans ((kAs (w_6 hn lt sm)).trans ((kAs st7).trans ((kAs st8).trans ((kAs (w_9 hn lt ha hb)).trans ((kAs (w_10 hn lt ha hb h1 l1)).trans ((kAs (w_11 k sm ha hb h1 l1)).trans ((kAs (w_12 k ha hb h1 h2 l1 l2)).trans ((kAs st13).trans ((kAs (w_14 k hm d0 d1 ha hb)).trans ((kAs (w_15 hn lt sm sm2 hm)).trans ((kAs (w_16 k sm sm2 hm ha hb h1 l1)).trans ((kAs w_17).trans ((kAs st18).trans ((kAs st19).trans ((kAs (w_20 kp1 kp2 lt ls2)).trans (w_21 kp1 kp2 b1 b2 pm ha hb h1 h2 ls2)))))))))))))))))))))
end
end Law
theorem PySem.Challenge.cw_stopsfirst_k51_round_trips_holds : PySem.Challenge.rw_stopsfirst_k51_round_trips.Holds :=
 Law.holds_of Law.law_ok
