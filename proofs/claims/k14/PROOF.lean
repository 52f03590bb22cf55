import PyProof.Rows.All
import Wide.All
import OpenK.AllK
import Wide.FinOn
import PySem.Challenge.RW_keyroom_k14_objects_by_hand
import HandS.ForMost
import HandS.ForExc
import HandS.CallSlots
import HandS.IsInst
import HandS.TupAny
import HandS.TupMul
import HandS.Style
import HandS.More
import HandS.TupLe
import HandS.Wide
import HandS.HeadHook2
import HandS.HotCalls
import PyProof.StrBlock2
import HandS.Defaults
import HandS.Ends
import HandS.HeadEnd
import HandS.Head0
import HandS.Head1
import HandS.Head2
import HandS.HeadHook1
import KE.KStateDown
import HandS.SortRule
import HandS.Zip
import HandS.TryOnly
import HandS.Text
import HandS.StrMore
import HandS.Deep
import HandS.Replace
import KE.GoesEnum
import KE.GoesMore
import HandS.Rev
import HandS.RevRange
import HandS.SortOrd
import HandS.SortInts
import HandS.DictTup
import HandS.ListItems
import HandS.DictComp
import HandS.Dict
import PyProof.Rows.SortKeyStr
import HandS.MakeKwOnly
import KE.DataMinMax
import KE.KRevSl
import HandS.Iter
set_option Elab.async false
set_option linter.all false
set_option maxRecDepth 100000
set_option maxHeartbeats 4000000
/-! FL1: a functional layer over the judgements: values as trees, a store of lists, dicts and instances; what a piece of code does is a plain function of slots and store. -/
namespace FL
open PySem PySem.Spec PyProof.Rows L2

/-- what a name may hold, without addresses: tuples are trees, whatever may change is a number of the store -/
inductive Val where
  | non
  | bl (b : Bool)
  | int (i : Int)
  | str (s : List Nat)
  | tup (xs : List Val)
  | ref (i : Nat)
  | scr (ns : List Int)
  | ty (n : String)
  /-- a def or class of the module, as a value -/
  | glo (x : Str)
  /-- an exception of the class c that was caught -/
  | exc (c : Str)
/-- what stands in the store -/
inductive Ob where
  | lst (xs : List Val)
  | dic (kvs : List (Key × Val))
  | ins (c : Str) (fs : List (Str × Val))
abbrev Sto := List Ob
abbrev Sl := List (Option Val)
abbrev LINE : Nat := 16777216
abbrev St' (l : List Nat) : Str := ⟨l.toArray⟩

/-- the row's world: its written part, where its classes stand -/
structure Wd where
  P : Program
  w : World
  K : PySem.W.Frag
  mg : Str → Option Value
  base : Heap
  /-- the exception that is handled, as its object -/
  hot : Option (Addr × Obj) := none

/-- a list that nobody can change: frozen, or of the written part -/
def SqZ (K : PySem.W.Frag) (H : Hp) (a : Addr) (xs : List V) : Prop := (∃ o, H a = some (.frz o (.lst xs))) ∨ ∀ H0, SqL K H0 a xs

mutual
inductive RV (K : PySem.W.Frag) (ι : List Addr) (H : Hp) : Val → V → Prop
  | non : RV K ι H .non .non
  | bl (b : Bool) : RV K ι H (.bl b) (.bl b)
  | int (i : Int) : RV K ι H (.int i) (.int i)
  | str (s : List Nat) : RV K ι H (.str s) (.str (St' s))
  | tup {a : Addr} {vs : List V} {xs : List Val} : SqT K H a vs → RVs K ι H xs vs → RV K ι H (.tup xs) (.ref a)
  | ref {i : Nat} {a : Addr} : ι[i]? = some a → RV K ι H (.ref i) (.ref a)
  | scr {a : Addr} {ns : List Int} : SqZ K H a (ns.map V.int) → RV K ι H (.scr ns) (.ref a)
  | ty (n : String) : RV K ι H (.ty n) (.ty n)
  | glo (x : Str) : RV K ι H (.glo x) (.ref (He.ga K x))
  | exc {c : Str} {a : Addr} {o : Obj} : H a = some (.frz o (.ext fun _ => True)) → o.cls = .ref (He.ga K c) → o.dict = none → RV K ι H (.exc c) (.ref a)
inductive RVs (K : PySem.W.Frag) (ι : List Addr) (H : Hp) : List Val → List V → Prop
  | nil : RVs K ι H [] []
  | cons {x : Val} {v : V} {xs : List Val} {vs : List V} : RV K ι H x v → RVs K ι H xs vs → RVs K ι H (x :: xs) (v :: vs)
end

/-- what only grows: the numbers, the tuples, what is frozen -/
structure Ext0 (ι : List Addr) (H : Hp) (ι' : List Addr) (H' : Hp) : Prop where
  pre : ∀ (i : Nat) (a : Addr), ι[i]? = some a → ι'[i]? = some a
  tup : ∀ a xs, H a = some (.tup xs) → H' a = some (.tup xs)
  frz : ∀ a o u, H a = some (.frz o u) → H' a = some (.frz o u)
/-- .. and what the store does not speak of stays as it is -/
structure Ext (ι : List Addr) (H : Hp) (ι' : List Addr) (H' : Hp) : Prop extends Ext0 ι H ι' H' where
  oth : ∀ a o, H a = some o → (∀ i : Nat, ι[i]? ≠ some a) → H' a = some o ∧ ∀ i : Nat, ι'[i]? ≠ some a

section
variable {K : PySem.W.Frag} {ι ι' ι2 : List Addr} {H H' H2 : Hp}
theorem Ext.refl (ι : List Addr) (H : Hp) : Ext ι H ι H := ⟨⟨fun _ _ h => h, fun _ _ h => h, fun _ _ _ h => h⟩, fun _ _ h n => ⟨h, n⟩⟩
theorem Ext.trans (a : Ext ι H ι' H') (b : Ext ι' H' ι2 H2) : Ext ι H ι2 H2 :=
  ⟨⟨fun i x h => b.pre i x (a.pre i x h), fun i x h => b.tup i x (a.tup i x h), fun i x y h => b.frz i x y (a.frz i x y h)⟩, fun i x h n => let ⟨h1, n1⟩ := a.oth i x h n; b.oth i x h1 n1⟩
theorem Ext0.trans (a : Ext0 ι H ι' H') (b : Ext0 ι' H' ι2 H2) : Ext0 ι H ι2 H2 := ⟨fun i x h => b.pre i x (a.pre i x h), fun i x h => b.tup i x (a.tup i x h), fun i x y h => b.frz i x y (a.frz i x y h)⟩
theorem Ext0.sqT (e : Ext0 ι H ι' H') {a : Addr} {xs : List V} (h : SqT K H a xs) : SqT K H' a xs := by
  rcases h with (h | ⟨o, h⟩) | h
  · exact .inl (.inl (e.tup _ _ h))
  · exact .inl (.inr ⟨o, e.frz _ _ _ h⟩)
  · exact .inr h
theorem Ext0.sqZ (e : Ext0 ι H ι' H') {a : Addr} {xs : List V} (h : SqZ K H a xs) : SqZ K H' a xs := by
  rcases h with ⟨o, h⟩ | h
  · exact .inl ⟨o, e.frz _ _ _ h⟩
  · exact .inr h
theorem SqZ.sq {a : Addr} {xs : List V} (h : SqZ K H a xs) : SqL K H a xs := by
  rcases h with ⟨o, h⟩ | h
  · exact .inl (.inr ⟨o, h⟩)
  · exact h H
mutual
theorem RV.mono0 (e : Ext0 ι H ι' H') : ∀ {x : Val} {v : V}, RV K ι H x v → RV K ι' H' x v
  | _, _, .non => .non
  | _, _, .bl b => .bl b
  | _, _, .int b => .int b
  | _, _, .str b => .str b
  | _, _, .tup s r => .tup (e.sqT s) (RVs.mono0 e r)
  | _, _, .ref h => .ref (e.pre _ _ h)
  | _, _, .scr h => .scr (e.sqZ h)
  | _, _, .ty n => .ty n
  | _, _, .glo n => .glo n
  | _, _, .exc h h1 h2 => .exc (e.frz _ _ _ h) h1 h2
theorem RVs.mono0 (e : Ext0 ι H ι' H') : ∀ {x : List Val} {v : List V}, RVs K ι H x v → RVs K ι' H' x v
  | _, _, .nil => .nil
  | _, _, .cons a b => .cons (RV.mono0 e a) (RVs.mono0 e b)
end
theorem RV.mono (e : Ext ι H ι' H') {x : Val} {v : V} (h : RV K ι H x v) : RV K ι' H' x v := h.mono0 e.toExt0
theorem RVs.mono (e : Ext ι H ι' H') {x : List Val} {v : List V} (h : RVs K ι H x v) : RVs K ι' H' x v := h.mono0 e.toExt0
theorem RVs.len : ∀ {x : List Val} {v : List V}, RVs K ι H x v → x.length = v.length
  | _, _, .nil => rfl
  | _, _, .cons a b => congrArg (· + 1) (RVs.len b)
theorem RVs.at : ∀ {xs : List Val} {vs : List V} (i : Nat) {x : Val}, RVs K ι H xs vs → xs[i]? = some x → ∃ v, vs[i]? = some v ∧ RV K ι H x v
  | _, _, i, _, .nil, h => by simp at h
  | _, _, 0, _, .cons a b, h => by
    simp at h
    subst h
    exact ⟨_, rfl, a⟩
  | _, _, i + 1, _, .cons a b, h => by
    obtain ⟨v, h1, h2⟩ := RVs.at i b (by simpa using h)
    exact ⟨v, by simpa using h1, h2⟩
theorem RVs.app : ∀ {xs ys : List Val} {vs ws : List V}, RVs K ι H xs vs → RVs K ι H ys ws → RVs K ι H (xs ++ ys) (vs ++ ws)
  | _, _, _, _, .nil, h => h
  | _, _, _, _, .cons a b, h => .cons a (RVs.app b h)
theorem RVs.take : ∀ {xs : List Val} {vs : List V} (n : Nat), RVs K ι H xs vs → RVs K ι H (xs.take n) (vs.take n)
  | _, _, 0, _ => by simp; exact .nil
  | _, _, n + 1, .nil => by simp; exact .nil
  | _, _, n + 1, .cons a b => .cons a (RVs.take n b)
theorem RVs.drop : ∀ {xs : List Val} {vs : List V} (n : Nat), RVs K ι H xs vs → RVs K ι H (xs.drop n) (vs.drop n)
  | _, _, 0, h => h
  | _, _, n + 1, .nil => by simp; exact .nil
  | _, _, n + 1, .cons a b => RVs.drop n b
theorem RVs.rev : ∀ {xs : List Val} {vs : List V}, RVs K ι H xs vs → RVs K ι H xs.reverse vs.reverse
  | _, _, .nil => .nil
  | _, _, .cons a b => by
    rw [List.reverse_cons, List.reverse_cons]
    exact RVs.app (RVs.rev b) (.cons a .nil)
theorem RVs.set {x : Val} {v : V} (r : RV K ι H x v) : ∀ {xs : List Val} {vs : List V} (n : Nat), RVs K ι H xs vs → RVs K ι H (xs.set n x) (vs.set n v)
  | _, _, _, .nil => .nil
  | _, _, 0, .cons a b => .cons r b
  | _, _, n + 1, .cons a b => .cons a (RVs.set r n b)
theorem RVs.del : ∀ {xs : List Val} {vs : List V} (n : Nat), RVs K ι H xs vs → RVs K ι H (xs.eraseIdx n) (vs.eraseIdx n)
  | _, _, _, .nil => .nil
  | _, _, 0, .cons a b => b
  | _, _, n + 1, .cons a b => .cons a (RVs.del n b)
theorem RVs.strs : ∀ (l : List (List Nat)), RVs K ι H (l.map Val.str) ((l.map St').map V.str)
  | [] => .nil
  | x :: l => .cons (.str x) (RVs.strs l)
theorem RVs.ints : ∀ (l : List Int), RVs K ι H (l.map Val.int) (l.map V.int)
  | [] => .nil
  | x :: l => .cons (.int x) (RVs.ints l)
theorem RVs.bls : ∀ (l : List Bool), RVs K ι H (l.map Val.bl) (l.map V.bl)
  | [] => .nil
  | x :: l => .cons (.bl x) (RVs.bls l)
end

/-- the store's things as they stand in the heap -/
def RO (W : Wd) (ι : List Addr) (H : Hp) : Ob → HO → Prop
  | .lst xs, .lst vs => RVs W.K ι H xs vs
  | .dic ks, .dK ms => Paired (fun (p : Key × Val) (q : Key × V) => p.1 = q.1 ∧ RV W.K ι H p.2 q.2) ks ms
  | .ins c fs, .ins C _ gs => C = He.ga W.K c ∧ Paired (fun (p : Str × Val) (q : Str × V) => p.1 = q.1 ∧ RV W.K ι H p.2 q.2) fs gs
  | _, _ => False

/-- the object that is handled stands as it is, its context is None -/
def HotP (H : Hp) (p : Addr × Obj) : Prop := H p.1 = some (.frz p.2 (.ext fun _ => True)) ∧ ∃ vs : Array Value, p.2.data = .fields vs ∧ vs[2]? = some .none
theorem HotP.ext {ι ι' : List Addr} {H H' : Hp} {p : Addr × Obj} (e : Ext0 ι H ι' H') (h : HotP H p) : HotP H' p := ⟨e.frz _ _ _ h.1, h.2⟩
structure Rel (W : Wd) (ι : List Addr) (H : Hp) (st : Sto) : Prop where
  len : ι.length = st.length
  nd : ∀ (i j : Nat) (a : Addr), ι[i]? = some a → ι[j]? = some a → i = j
  ob : ∀ (i : Nat) (a : Addr) (o : Ob), ι[i]? = some a → st[i]? = some o → ∃ ho, H a = some ho ∧ RO W ι H o ho
  hot : ∀ p, W.hot = some p → HotP H p

section
variable {W : Wd} {ι ι' ι2 : List Addr} {H H' H2 : Hp} {st : Sto}
theorem Paired.impl {α β : Type} {F G : α → β → Prop} (f : ∀ a b, F a b → G a b) : ∀ {xs : List α} {ys : List β}, Paired F xs ys → Paired G xs ys
  | _, _, .nil => .nil
  | _, _, .cons h t => .cons (f _ _ h) (Paired.impl f t)
theorem RO.mono0 (e : Ext0 ι H ι' H') {o : Ob} {ho : HO} (h : RO W ι H o ho) : RO W ι' H' o ho := by
  cases o <;> cases ho <;> first
    | exact h.elim
    | exact RVs.mono0 e h
    | exact Paired.impl (fun _ _ z => ⟨z.1, RV.mono0 e z.2⟩) h
    | exact ⟨h.1, Paired.impl (fun _ _ z => ⟨z.1, RV.mono0 e z.2⟩) h.2⟩
theorem RO.mono (e : Ext ι H ι' H') {o : Ob} {ho : HO} (h : RO W ι H o ho) : RO W ι' H' o ho := h.mono0 e.toExt0
/-- what RO speaks of may change: it is no tuple, nothing frozen -/
theorem RO.ntup {o : Ob} {xs : List V} (h : RO W ι H o (.tup xs)) : False := by cases o <;> exact h.elim
theorem RO.nfrz {o : Ob} {x : Obj} {u : HO} (h : RO W ι H o (.frz x u)) : False := by cases o <;> exact h.elim
theorem Rel.at (r : Rel W ι H st) {i : Nat} {o : Ob} (h : st[i]? = some o) : ∃ a ho, ι[i]? = some a ∧ H a = some ho ∧ RO W ι H o ho := by
  have hi : i < ι.length := by
    rw [r.len]
    exact (List.getElem?_eq_some_iff.mp h).1
  obtain ⟨ho, h1, h2⟩ := r.ob i ι[i] o (List.getElem?_eq_getElem hi) h
  exact ⟨_, ho, List.getElem?_eq_getElem hi, h1, h2⟩
/-- a new tuple -/
theorem Ext.newT {p : Addr} {vs : List V} (hp : H p = none) : Ext ι H ι (upd H p (.tup vs)) :=
  ⟨⟨fun _ _ h => h, fun a xs h => by rw [upd_ne (ne_of_none h hp)]; exact h, fun a o u h => by rw [upd_ne (ne_of_none h hp)]; exact h⟩, fun a o h n => ⟨by rw [upd_ne (ne_of_none h hp)]; exact h, n⟩⟩
theorem Ext.new {p : Addr} {ho : HO} (hp : H p = none) : Ext ι H (ι ++ [p]) (upd H p ho) :=
  ⟨⟨fun i a h => by rw [List.getElem?_append_left (List.getElem?_eq_some_iff.mp h).1]; exact h, fun a xs h => by rw [upd_ne (ne_of_none h hp)]; exact h, fun a o u h => by rw [upd_ne (ne_of_none h hp)]; exact h⟩, fun a o h n => ⟨by rw [upd_ne (ne_of_none h hp)]; exact h, fun i q => by
    by_cases hi : i < ι.length
    · rw [List.getElem?_append_left hi] at q
      exact n i q
    · rw [List.getElem?_append_right (by omega)] at q
      have q1 := List.mem_of_getElem? q
      simp at q1
      rw [q1, hp] at h
      cases h⟩⟩
theorem Rel.newT (r : Rel W ι H st) {p : Addr} {vs : List V} (hp : H p = none) : Rel W ι (upd H p (.tup vs)) st :=
  ⟨r.len, r.nd, fun i a o h1 h2 => by
    obtain ⟨ho, h3, h4⟩ := r.ob i a o h1 h2
    exact ⟨ho, by rw [upd_ne (ne_of_none h3 hp)]; exact h3, h4.mono (Ext.newT hp)⟩, fun p h => (r.hot p h).ext (ι := ι) (Ext.newT hp).toExt0⟩
theorem Rel.new (r : Rel W ι H st) {p : Addr} {o : Ob} {ho : HO} (hp : H p = none) (h : RO W ι H o ho) : Rel W (ι ++ [p]) (upd H p ho) (st ++ [o]) := by
  have e : Ext ι H (ι ++ [p]) (upd H p ho) := Ext.new hp
  have np : ∀ i, ι[i]? ≠ some p := fun i h => by
    have hi := (List.getElem?_eq_some_iff.mp h).1
    rw [r.len] at hi
    obtain ⟨_, h3, _⟩ := r.ob i p _ h (List.getElem?_eq_getElem hi)
    rw [hp] at h3
    cases h3
  have cs : ∀ (i : Nat) (a : Addr), (ι ++ [p])[i]? = some a → (ι[i]? = some a ∧ i < ι.length) ∨ (i = ι.length ∧ a = p) := fun i a h => by
    by_cases hi : i < ι.length
    · rw [List.getElem?_append_left hi] at h
      exact .inl ⟨h, hi⟩
    · rw [List.getElem?_append_right (by omega)] at h
      have h0 : i - ι.length = 0 := by
        have := (List.getElem?_eq_some_iff.mp h).1
        simp at this
        omega
      rw [h0] at h
      simp at h
      exact .inr ⟨by omega, h.symm⟩
  refine ⟨by simp [r.len], fun i j a h1 h2 => ?_, fun i a x h1 h2 => ?_, fun q h => (r.hot q h).ext e.toExt0⟩
  · rcases cs i a h1 with ⟨h3, _⟩ | ⟨h3, rfl⟩ <;> rcases cs j a h2 with ⟨h4, _⟩ | ⟨h4, h5⟩
    · exact r.nd i j a h3 h4
    · subst h5
      exact absurd h3 (np i)
    · exact absurd h4 (np j)
    · omega
  · rcases cs i a h1 with ⟨h3, hi⟩ | ⟨h3, rfl⟩
    · rw [List.getElem?_append_left (by rw [← r.len]; exact hi)] at h2
      obtain ⟨hx, h5, h6⟩ := r.ob i a x h3 h2
      exact ⟨hx, by rw [upd_ne (ne_of_none h5 hp)]; exact h5, h6.mono e⟩
    · subst h3
      rw [r.len, List.getElem?_append_right (Nat.le_refl _)] at h2
      simp at h2
      subst h2
      exact ⟨ho, upd_same, h.mono e⟩
theorem Ext.put (r : Rel W ι H st) {i : Nat} {a : Addr} {o : Ob} {ho : HO} (h1 : ι[i]? = some a) (h2 : st[i]? = some o) : Ext ι H ι (upd H a ho) := by
  obtain ⟨h0, h3, h4⟩ := r.ob i a o h1 h2
  refine ⟨⟨fun _ _ h => h, fun b xs h => ?_, fun b x u h => ?_⟩, fun b x h n => ⟨by rw [upd_ne (show b ≠ a from fun q => n i (by rw [q]; exact h1))]; exact h, n⟩⟩
  · by_cases e : b = a
    · subst e
      rw [h3] at h
      cases h
      exact h4.ntup.elim
    · rw [upd_ne e]
      exact h
  · by_cases e : b = a
    · subst e
      rw [h3] at h
      cases h
      exact h4.nfrz.elim
    · rw [upd_ne e]
      exact h
theorem Rel.put (r : Rel W ι H st) {i : Nat} {a : Addr} {o u : Ob} {hu : HO} (h1 : ι[i]? = some a) (h2 : st[i]? = some o) (h : RO W ι H u hu) : Rel W ι (upd H a hu) (st.set i u) := by
  have e : Ext ι H ι (upd H a hu) := Ext.put r h1 h2
  refine ⟨by simp [r.len], r.nd, fun j b x h3 h4 => ?_, fun q h => (r.hot q h).ext e.toExt0⟩
  by_cases hj : j = i
  · subst hj
    rw [h1] at h3
    cases h3
    rw [List.getElem?_set_self (List.getElem?_eq_some_iff.mp h2).1] at h4
    cases h4
    exact ⟨hu, upd_same, h.mono e⟩
  · rw [List.getElem?_set_ne (Ne.symm hj)] at h4
    obtain ⟨hx, h5, h6⟩ := r.ob j b x h3 h4
    have nb : b ≠ a := fun q => hj (r.nd j i a (q ▸ h3) h1)
    exact ⟨hx, by rw [upd_ne nb]; exact h5, h6.mono e⟩
end

section
variable {W : Wd} {ι : List Addr} {H : Hp} {st : Sto} {D : Addr} {vs ws : List V}
/-- a list that is being made stands outside the store -/
theorem Ext0.putO (h : H D = some (.lst vs)) : Ext0 ι H ι (upd H D (.lst ws)) := by
  refine ⟨fun _ _ h => h, fun a xs q => ?_, fun a o u q => ?_⟩
  · rw [upd_ne (ne_of q h (by intro z; cases z))]
    exact q
  · rw [upd_ne (ne_of q h (by intro z; cases z))]
    exact q
theorem Rel.putO (r : Rel W ι H st) (h : H D = some (.lst vs)) (n : ∀ i : Nat, ι[i]? ≠ some D) : Rel W ι (upd H D (.lst ws)) st :=
  ⟨r.len, r.nd, fun i a o h1 h2 => by
    obtain ⟨ho, h3, h4⟩ := r.ob i a o h1 h2
    exact ⟨ho, by rw [upd_ne (show a ≠ D from fun q => n i (by rw [← q]; exact h1))]; exact h3, h4.mono0 (Ext0.putO h)⟩, fun q z => (r.hot q z).ext (ι := ι) (Ext0.putO h)⟩
/-- anything outside the store that may change -/
theorem Ext0.putX {ho hu : HO} (h : H D = some ho) (h1 : ∀ xs, ho ≠ .tup xs) (h2 : ∀ o u, ho ≠ .frz o u) : Ext0 ι H ι (upd H D hu) := by
  refine ⟨fun _ _ h => h, fun a xs q => ?_, fun a o u q => ?_⟩
  · rw [upd_ne (ne_of q h (fun z => h1 xs z.symm))]
    exact q
  · rw [upd_ne (ne_of q h (fun z => h2 o u z.symm))]
    exact q
theorem Rel.putX {ho hu : HO} (r : Rel W ι H st) (h : H D = some ho) (h1 : ∀ xs, ho ≠ .tup xs) (h2 : ∀ o u, ho ≠ .frz o u) (n : ∀ i : Nat, ι[i]? ≠ some D) : Rel W ι (upd H D hu) st :=
  ⟨r.len, r.nd, fun i a o q1 q2 => by
    obtain ⟨ho', h3, h4⟩ := r.ob i a o q1 q2
    exact ⟨ho', by rw [upd_ne (show a ≠ D from fun q => n i (by rw [← q]; exact q1))]; exact h3, h4.mono0 (Ext0.putX h h1 h2)⟩, fun q z => (r.hot q z).ext (ι := ι) (Ext0.putX h h1 h2)⟩
/-- new outside the store -/
theorem Rel.newO {hu : HO} (r : Rel W ι H st) (h : H D = none) : Rel W ι (upd H D hu) st :=
  ⟨r.len, r.nd, fun i a o q1 q2 => by
    obtain ⟨ho, h3, h4⟩ := r.ob i a o q1 q2
    have e : Ext ι H ι (upd H D hu) := ⟨⟨fun _ _ h => h, fun b xs q => by rw [upd_ne (ne_of_none q h)]; exact q, fun b o u q => by rw [upd_ne (ne_of_none q h)]; exact q⟩, fun b o q n => ⟨by rw [upd_ne (ne_of_none q h)]; exact q, n⟩⟩
    exact ⟨ho, by rw [upd_ne (ne_of_none h3 h)]; exact h3, h4.mono e⟩, fun q z => (r.hot q z).ext (ι := ι) ⟨fun _ _ h => h, fun b xs q => by rw [upd_ne (ne_of_none q h)]; exact q, fun b o u q => by rw [upd_ne (ne_of_none q h)]; exact q⟩⟩
theorem Rel.free {D : Addr} (r : Rel W ι H st) (h : H D = none) : ∀ i : Nat, ι[i]? ≠ some D := fun i q => by
  have hi := (List.getElem?_eq_some_iff.mp q).1
  rw [r.len] at hi
  obtain ⟨_, h3, _⟩ := r.ob i D _ q (List.getElem?_eq_getElem hi)
  rw [h] at h3
  cases h3
/-- what is tracked only grows -/
theorem Rel.grow {H2 : Hp} (r : Rel W ι H st) (g : ∀ b o, H b = some o → H2 b = some o) : Ext ι H ι H2 ∧ Rel W ι H2 st := by
  have e : Ext ι H ι H2 := ⟨⟨fun _ _ h => h, fun b xs q => g _ _ q, fun b o u q => g _ _ q⟩, fun b o q n => ⟨g _ _ q, n⟩⟩
  exact ⟨e, r.len, r.nd, fun i a o q1 q2 => let ⟨ho, h3, h4⟩ := r.ob i a o q1 q2; ⟨ho, g _ _ h3, h4.mono e⟩, fun q z => (r.hot q z).ext e.toExt0⟩
theorem Ext.putO {ι1 : List Addr} {H1 : Hp} {ho : HO} (e : Ext ι1 H1 ι H) (h : H1 D = none) : Ext ι1 H1 ι (upd H D ho) :=
  ⟨⟨e.pre, fun a xs q => by rw [upd_ne (ne_of_none q h)]; exact e.tup a xs q, fun a o u q => by rw [upd_ne (ne_of_none q h)]; exact e.frz a o u q⟩,
    fun a o q n => ⟨by rw [upd_ne (ne_of_none q h)]; exact (e.oth a o q n).1, (e.oth a o q n).2⟩⟩
/-- .. and at last comes into it -/
theorem Ext0.join : Ext0 ι H (ι ++ [D]) H := ⟨fun i a h => by rw [List.getElem?_append_left (List.getElem?_eq_some_iff.mp h).1]; exact h, fun _ _ h => h, fun _ _ _ h => h⟩
theorem get_join {i : Nat} {a : Addr} (h : (ι ++ [D])[i]? = some a) : (ι[i]? = some a ∧ i < ι.length) ∨ (i = ι.length ∧ a = D) := by
  by_cases hi : i < ι.length
  · rw [List.getElem?_append_left hi] at h
    exact .inl ⟨h, hi⟩
  · rw [List.getElem?_append_right (by omega)] at h
    have h0 : i - ι.length = 0 := by
      have := (List.getElem?_eq_some_iff.mp h).1
      simp at this
      omega
    rw [h0] at h
    simp at h
    exact .inr ⟨by omega, h.symm⟩
theorem Ext.join {ι1 : List Addr} {H1 : Hp} (e : Ext ι1 H1 ι H) (h : H1 D = none) : Ext ι1 H1 (ι ++ [D]) H :=
  ⟨⟨fun i a q => (Ext0.join (H := H) (D := D)).pre i a (e.pre i a q), e.tup, e.frz⟩, fun a o q n => ⟨(e.oth a o q n).1, fun i z => by
    rcases get_join z with ⟨z1, _⟩ | ⟨_, z2⟩
    · exact (e.oth a o q n).2 i z1
    · rw [z2, h] at q
      cases q⟩⟩
theorem Rel.join {o : Ob} {ho : HO} (r : Rel W ι H st) (h : H D = some ho) (n : ∀ i : Nat, ι[i]? ≠ some D) (q : RO W ι H o ho) : Rel W (ι ++ [D]) H (st ++ [o]) := by
  refine ⟨by simp [r.len], fun i j a h1 h2 => ?_, fun i a x h1 h2 => ?_, fun q z => r.hot q z⟩
  · rcases get_join h1 with ⟨h3, _⟩ | ⟨h3, h5⟩ <;> rcases get_join h2 with ⟨h4, _⟩ | ⟨h4, h6⟩
    · exact r.nd i j a h3 h4
    · subst h6
      exact absurd h3 (n i)
    · subst h5
      exact absurd h4 (n j)
    · omega
  · rcases get_join h1 with ⟨h3, hi⟩ | ⟨h3, h5⟩
    · rw [List.getElem?_append_left (by rw [← r.len]; exact hi)] at h2
      obtain ⟨hx, h5, h6⟩ := r.ob i a x h3 h2
      exact ⟨hx, h5, h6.mono0 Ext0.join⟩
    · subst h3 h5
      rw [r.len, List.getElem?_append_right (Nat.le_refl _)] at h2
      simp at h2
      subst h2
      exact ⟨ho, h, q.mono0 Ext0.join⟩
end

/-! ### what code does -/
inductive R (α : Type) where
  | ok (a : α) (st : Sto)
  | ex (c : Str) (st : Sto)
abbrev FX (α : Type) := Sl → Sto → Option (R α)
abbrev FE := FX Val
abbrev FT := FX Bool
abbrev FA := FX (List Val)
inductive RS where
  | nx (sl : Sl) (st : Sto)
  | rt (v : Val) (st : Sto)
  | bk (sl : Sl) (st : Sto)
  | ct (sl : Sl) (st : Sto)
  | ex (c : Str) (sl : Sl) (st : Sto)
abbrev FS := Sl → Sto → Option RS
abbrev FF := List Val → Sto → Option (R Val)

/-- slots -/
structure RL (K : PySem.W.Frag) (ι : List Addr) (H : Hp) (sl : Sl) (σ : L2.St) : Prop where
  len : sl.length = σ.length
  at' : ∀ (i : Nat) (x : Val), sl[i]? = some (some x) → ∃ v, σ[i]? = some (some v) ∧ RV K ι H x v
theorem RL.mono0 {K : PySem.W.Frag} {ι ι' : List Addr} {H H' : Hp} {sl : Sl} {σ : L2.St} (e : Ext0 ι H ι' H') (h : RL K ι H sl σ) : RL K ι' H' sl σ :=
  ⟨h.len, fun i x q => let ⟨v, h1, h2⟩ := h.at' i x q; ⟨v, h1, h2.mono0 e⟩⟩
theorem RL.mono {K : PySem.W.Frag} {ι ι' : List Addr} {H H' : Hp} {sl : Sl} {σ : L2.St} (e : Ext ι H ι' H') (h : RL K ι H sl σ) : RL K ι' H' sl σ := h.mono0 e.toExt0
theorem RL.set {K : PySem.W.Frag} {ι : List Addr} {H : Hp} {sl : Sl} {σ : L2.St} (h : RL K ι H sl σ) {x : Val} {v : V} (r : RV K ι H x v) (i : Nat) : RL K ι H (sl.set i (some x)) (σ.set i (some v)) := by
  refine ⟨by simp [h.len], fun j y q => ?_⟩
  by_cases e : i = j
  · subst e
    have hi : i < sl.length := by
      have := (List.getElem?_eq_some_iff.mp q).1
      simpa using this
    rw [List.getElem?_set_self hi] at q
    cases q
    exact ⟨v, List.getElem?_set_self (by rw [← h.len]; exact hi), r⟩
  · rw [List.getElem?_set_ne e] at q
    rw [List.getElem?_set_ne e]
    exact h.at' j y q
theorem RL.unset {K : PySem.W.Frag} {ι : List Addr} {H : Hp} {sl : Sl} {σ : L2.St} (h : RL K ι H sl σ) (i : Nat) : RL K ι H (sl.set i none) (σ.set i none) := by
  refine ⟨by simp [h.len], fun j y q => ?_⟩
  by_cases e : i = j
  · subst e
    by_cases hi : i < sl.length
    · rw [List.getElem?_set_self hi] at q
      cases q
    · rw [List.getElem?_eq_none (by simp; omega)] at q
      cases q
  · rw [List.getElem?_set_ne e] at q
    rw [List.getElem?_set_ne e]
    exact h.at' j y q

/-- behind an expression -/
def Pst {α β : Type} (W : Wd) (RA : List Addr → Hp → α → β → Prop) (ι : List Addr) (H : Hp) (r : R α) (Q : β → Hp → Prop) (E : XK) : Prop := match r with
  | .ok a st' => ∀ ι' H' b, Ext ι H ι' H' → Rel W ι' H' st' → RA ι' H' a b → Q b H'
  | .ex c st' => ∀ ι' H', Ext ι H ι' H' → Rel W ι' H' st' → E (.ref (He.ga W.K c)) none H'
/-- behind a statement -/
def PsS (W : Wd) (Ew : WX) (ι : List Addr) (H : Hp) (r : RS) (D : Ends) : Prop := match r with
  | .nx sl st => ∀ ι' H' σ', Ext ι H ι' H' → Rel W ι' H' st → RL W.K ι' H' sl σ' → D.nx σ' H'
  | .rt x st => ∀ ι' H' v, Ext ι H ι' H' → Rel W ι' H' st → RV W.K ι' H' x v → D.rt v H'
  | .bk sl st => ∀ ι' H' σ', Ext ι H ι' H' → Rel W ι' H' st → RL W.K ι' H' sl σ' → D.bk σ' H'
  | .ct sl st => ∀ ι' H' σ', Ext ι H ι' H' → Rel W ι' H' st → RL W.K ι' H' sl σ' → D.ct σ' H'
  | .ex c sl st => ∀ ι' H' σ', Ext ι H ι' H' → Rel W ι' H' st → RL W.K ι' H' sl σ' → Ew (.ref (He.ga W.K c)) none σ' H'
/-- the reading of a plain function -/
def tOf {α β : Type} (W : Wd) (Ew : WX) (RA : List Addr → Hp → α → β → Prop) (m : FX α) : L2.St → Hp → (β → Hp → Prop) → Prop := fun σ H Q =>
  ∃ ι sl st r, RL W.K ι H sl σ ∧ Rel W ι H st ∧ m sl st = some r ∧ Pst W RA ι H r Q (fun c d H' => Ew c d σ H')
abbrev teOf (W : Wd) (Ew : WX) (m : FE) : TE := tOf W Ew (fun ι H => RV W.K ι H) m
abbrev ttOf (W : Wd) (Ew : WX) (m : FT) : TT := tOf W Ew (fun _ _ a b => a = b) m
abbrev taOf (W : Wd) (Ew : WX) (m : FA) : TA := tOf W Ew (fun ι H => RVs W.K ι H) m
def tsOf (W : Wd) (Ew : WX) (m : FS) : TS := fun D σ H =>
  ∃ ι sl st r, RL W.K ι H sl σ ∧ Rel W ι H st ∧ m sl st = some r ∧ PsS W Ew ι H r D

/-! ### the judgements -/
abbrev SE (W : Wd) (X : Cx) (Ew : WX) (e : Expr) (m : FE) : Prop := PE X e (teOf W Ew m)
abbrev SC (W : Wd) (X : Cx) (Ew : WX) (e : Expr) (m : FT) : Prop := PT X e (ttOf W Ew m)
abbrev SW (W : Wd) (X : Cx) (Ew : WX) (e : Expr) (m : FT) : Prop := PW X e (ttOf W Ew m)
abbrev SA (W : Wd) (X : Cx) (Ew : WX) (es : List Expr) (m : FA) : Prop := PA X es (taOf W Ew m)
abbrev SS (W : Wd) (X : Cx) (Ew : WX) (s : Stmt) (m : FS) : Prop := PS X s (tsOf W Ew m)
abbrev SSs (W : Wd) (X : Cx) (Ew : WX) (s : List Stmt) (m : FS) : Prop := PSs X s (tsOf W Ew m)

section
variable {X : Cx} {e : Expr} {es : List Expr} {s : Stmt} {ss : List Stmt}
theorem imE {t u : TE} (h : PE X e t) (i : ∀ σ H Q, u σ H Q → t σ H Q) : PE X e u := ⟨fun pins s σ H Q I hw => h.run pins s σ H Q I (i _ _ _ hw)⟩
theorem imT {t u : TT} (h : PT X e t) (i : ∀ σ H Q, u σ H Q → t σ H Q) : PT X e u := ⟨fun pins s σ H Q I hw => h.run pins s σ H Q I (i _ _ _ hw)⟩
theorem imW {t u : TT} (h : PW X e t) (i : ∀ σ H Q, u σ H Q → t σ H Q) : PW X e u := ⟨fun wh pins s σ H Q I hw => h.run wh pins s σ H Q I (i _ _ _ hw)⟩
theorem imA {t u : TA} (h : PA X es t) (i : ∀ σ H Q, u σ H Q → t σ H Q) : PA X es u := ⟨fun pos pins s σ H Q I hw => h.run pos pins s σ H Q I (i _ _ _ hw)⟩
theorem imS {t u : TS} (h : PS X s t) (i : ∀ D σ H, u D σ H → t D σ H) : PS X s u := ⟨fun pins s σ H D I hw => h.run pins s σ H D I (i _ _ _ hw)⟩
theorem imSs {t u : TS} (h : PSs X ss t) (i : ∀ D σ H, u D σ H → t D σ H) : PSs X ss u := ⟨fun pins s σ H D I hw => h.run pins s σ H D I (i _ _ _ hw)⟩
end

/-! ### one behind the other -/
def bnd {α β : Type} (m : FX α) (k : α → FX β) : FX β := fun sl st => match m sl st with
  | some (.ok a st') => k a sl st'
  | some (.ex c st') => some (.ex c st')
  | none => none
section
variable {W : Wd} {Ew : WX} {ι ι' : List Addr} {H H' : Hp} {σ : L2.St} {sl : Sl} {st : Sto}
theorem Pst.mono {α β : Type} {RA : List Addr → Hp → α → β → Prop} {r : R α} {Q : β → Hp → Prop} {E : XK} (e : Ext ι H ι' H') (h : Pst W RA ι H r Q E) : Pst W RA ι' H' r Q E := by
  cases r with
  | ok a st' => exact fun ι2 H2 b e2 r2 q => h ι2 H2 b (e.trans e2) r2 q
  | ex c st' => exact fun ι2 H2 e2 r2 => h ι2 H2 (e.trans e2) r2
theorem PsS.mono {r : RS} {D : Ends} (e : Ext ι H ι' H') (h : PsS W Ew ι H r D) : PsS W Ew ι' H' r D := by
  cases r <;> exact fun ι2 H2 b e2 r2 q => h ι2 H2 b (e.trans e2) r2 q
/-- THE STEP: a part's function has run; how the whole goes on -/
theorem run {α β γ δ : Type} {RA : List Addr → Hp → α → β → Prop} {RB : List Addr → Hp → γ → δ → Prop} {m : FX α} {k : α → FX γ} {r : R γ} {Q : β → Hp → Prop} {Q' : δ → Hp → Prop}
    (hs : RL W.K ι H sl σ) (hr : Rel W ι H st) (hm : bnd m k sl st = some r) (hq : Pst W RB ι H r Q' (fun c d H' => Ew c d σ H'))
    (hk : ∀ a st' ι' H' b, Ext ι H ι' H' → RL W.K ι' H' sl σ → Rel W ι' H' st' → RA ι' H' a b → k a sl st' = some r → Pst W RB ι' H' r Q' (fun c d H' => Ew c d σ H') → Q b H') : tOf W Ew RA m σ H Q := by
  unfold bnd at hm
  cases h : m sl st with
  | none => rw [h] at hm; cases hm
  | some x =>
    rw [h] at hm
    cases x with
    | ok a st' => exact ⟨ι, sl, st, _, hs, hr, h, fun ι' H' b e r2 ra => hk a st' ι' H' b e (hs.mono e) r2 ra hm (hq.mono e)⟩
    | ex c st' =>
      cases hm
      exact ⟨ι, sl, st, _, hs, hr, h, hq⟩
/-- the same for a statement's part -/
def bndS {α : Type} (m : FX α) (k : α → FS) : FS := fun sl st => match m sl st with
  | some (.ok a st') => k a sl st'
  | some (.ex c st') => some (.ex c sl st')
  | none => none
theorem runS {α β : Type} {RA : List Addr → Hp → α → β → Prop} {m : FX α} {k : α → FS} {r : RS} {Q : β → Hp → Prop} {D : Ends}
    (hs : RL W.K ι H sl σ) (hr : Rel W ι H st) (hm : bndS m k sl st = some r) (hq : PsS W Ew ι H r D)
    (hk : ∀ a st' ι' H' b, Ext ι H ι' H' → RL W.K ι' H' sl σ → Rel W ι' H' st' → RA ι' H' a b → k a sl st' = some r → PsS W Ew ι' H' r D → Q b H') : tOf W Ew RA m σ H Q := by
  unfold bndS at hm
  cases h : m sl st with
  | none => rw [h] at hm; cases hm
  | some x =>
    rw [h] at hm
    cases x with
    | ok a st' => exact ⟨ι, sl, st, _, hs, hr, h, fun ι' H' b e r2 ra => hk a st' ι' H' b e (hs.mono e) r2 ra hm (hq.mono e)⟩
    | ex c st' =>
      cases hm
      exact ⟨ι, sl, st, _, hs, hr, h, fun ι' H' e r2 => hq ι' H' σ e r2 (hs.mono e)⟩
end
end FL
/-! FL2: expressions. -/
namespace FL
open PySem PySem.Spec PyProof.Rows L2

/-- where a body stands: at level k, what leaves it as an exception is wished by Ew -/
structure Ctx0 (W : Wd) (k : Nat) (X : Cx) (Ew : WX) : Prop where
  eP : X.prog = W.P
  ew : X.w = W.w
  eK : X.K = W.K
  em : X.mg = W.mg
  eb : X.base = W.base
  tk : Takes X Ew
  rmu : L2H.RoomH k X.A
  nd : X.N.Nodup
  po : PassesOwn (model X.prog X.w) X.A X.env X.xe
/-- .. nothing is handled -/
structure Ctx (W : Wd) (k : Nat) (X : Cx) (Ew : WX) : Prop extends Ctx0 W k X Ew where
  rm : Room k X.A
  calm : X.calm = true
instance {W : Wd} {k : Nat} {X : Cx} {Ew : WX} : CoeOut (Ctx W k X Ew) (Ctx0 W k X Ew) := ⟨fun C => C.toCtx0⟩
theorem Ctx0.hu {W : Wd} {k : Nat} {X : Cx} {Ew : WX} (C : Ctx0 W k X Ew) : X.A.units + 64 < cLine := by
  have := C.rmu.un
  omega
theorem Ctx0.hu1 {W : Wd} {k : Nat} {X : Cx} {Ew : WX} (C : Ctx0 W k X Ew) : X.A.units + 1 < cLine := by
  have := C.rmu.un
  omega

/-! ### operations on values -/
abbrev O2 := Val → Val → Sto → Option (Val × Sto)
abbrev ON := List Val → Sto → Option (Val × Sto)
def Post (W : Wd) (ι : List Addr) (H : Hp) (v : Val) (st' : Sto) (Q : VK) : Prop := ∀ ι' H' z, Ext ι H ι' H' → Rel W ι' H' st' → RV W.K ι' H' v z → Q z H'
def ro (W : Wd) (f : O2) : R2 := fun x y H Q => ∃ ι st a b v st', RV W.K ι H a x ∧ RV W.K ι H b y ∧ Rel W ι H st ∧ f a b st = some (v, st') ∧ Post W ι H v st' Q
def rc (W : Wd) (f : ON) : List V → Hp → VK → Prop := fun xs H Q => ∃ ι st as v st', RVs W.K ι H as xs ∧ Rel W ι H st ∧ f as st = some (v, st') ∧ Post W ι H v st' Q
def rm (W : Wd) (f : Val → ON) : V → List V → Hp → VK → Prop := fun x xs H Q => ∃ ι st a as v st', RV W.K ι H a x ∧ RVs W.K ι H as xs ∧ Rel W ι H st ∧ f a as st = some (v, st') ∧ Post W ι H v st' Q
def lft (g : Sto → Option (Val × Sto)) : FE := fun _ st => match g st with
  | some (v, st') => some (.ok v st')
  | none => none

section
variable {W : Wd} {k : Nat} {X : Cx} {Ew : WX} {ι ι' : List Addr} {H H' : Hp} {st : Sto} {a b e : Expr} {es : List Expr} {ma mb me : FE} {mt mu : FT} {mas : FA} {pos : Pos}
theorem lft_some {g : Sto → Option (Val × Sto)} {sl : Sl} {r : R Val} (h : lft g sl st = some r) : ∃ v st', g st = some (v, st') ∧ r = .ok v st' := by
  unfold lft at h
  split at h
  · rename_i v st' e
    exact ⟨v, st', e, (Option.some.inj h).symm⟩
  · cases h
theorem Post.here {v : Val} {Q : VK} (h : Post W ι H v st Q) (r : Rel W ι H st) {z : V} (q : RV W.K ι H v z) : Q z H := h ι H z (Ext.refl _ _) r q
/-- a new tuple -/
theorem Post.newT {xs : List Val} {vs : List V} {Q : VK} (h : Post W ι H (.tup xs) st Q) (r : Rel W ι H st) (q : RVs W.K ι H xs vs) : ∀ p, H p = none → Q (.ref p) (upd H p (.tup vs)) := fun p hp =>
  h ι _ _ (Ext.newT hp) (r.newT hp) (.tup (SqT.of upd_same) (q.mono (Ext.newT hp)))
/-- a new thing of the store -/
theorem Post.new {o : Ob} {ho : HO} {Q : VK} (h : Post W ι H (.ref st.length) (st ++ [o]) Q) (r : Rel W ι H st) (q : RO W ι H o ho) : ∀ p, H p = none → Q (.ref p) (upd H p ho) := fun p hp =>
  h _ _ _ (Ext.new hp) (r.new hp q) (.ref (by rw [← r.len]; simp))
theorem Post.put {i : Nat} {x : Addr} {o u : Ob} {hu : HO} {v : Val} {z : V} {Q : VK} (h : Post W ι H v (st.set i u) Q) (r : Rel W ι H st) (h1 : ι[i]? = some x) (h2 : st[i]? = some o) (h3 : RO W ι H u hu) (q : RV W.K ι H v z) : Q z (upd H x hu) :=
  h _ _ _ (Ext.put r h1 h2) (r.put h1 h2 h3) (q.mono (Ext.put r h1 h2))
theorem Rel.lst {i : Nat} {x : Addr} {xs : List Val} (r : Rel W ι H st) (h : st[i]? = some (.lst xs)) (hx : ι[i]? = some x) : ∃ vs, H x = some (.lst vs) ∧ RVs W.K ι H xs vs := by
  obtain ⟨ho, h1, h2⟩ := r.ob i x _ hx h
  cases ho <;> first | exact h2.elim | exact ⟨_, h1, h2⟩
theorem Rel.dic {i : Nat} {x : Addr} {xs : List (Key × Val)} (r : Rel W ι H st) (h : st[i]? = some (.dic xs)) (hx : ι[i]? = some x) : ∃ vs, H x = some (.dK vs) ∧ Paired (fun (p : Key × Val) (q : Key × V) => p.1 = q.1 ∧ RV W.K ι H p.2 q.2) xs vs := by
  obtain ⟨ho, h1, h2⟩ := r.ob i x _ hx h
  cases ho <;> first | exact h2.elim | exact ⟨_, h1, h2⟩
/-- a rule by cases -/
theorem opBy {f : Value → Value → Sem Value} {r' : R2} (h : ∀ x y H Q, r' x y H Q → ∃ r, OpR X f r ∧ r x y H Q) : OpR X f r' := fun pins s σ H x y v u Q I rx ry hw =>
  let ⟨_, h1, h2⟩ := h x y H Q hw
  h1 pins s σ H x y v u Q I rx ry h2
theorem ixBy {r' : R2} (h : ∀ x y H Q, r' x y H Q → ∃ r, IxR X r ∧ r x y H Q) : IxR X r' := fun va sl pins s σ H x y v u Q I rx ry hw =>
  let ⟨_, h1, h2⟩ := h x y H Q hw
  h1 va sl pins s σ H x y v u Q I rx ry h2
theorem slBy {r' : V → Option Int → Option Int → Hp → VK → Prop} (h : ∀ x lo hi H Q, r' x lo hi H Q → ∃ r, SlR X r ∧ r x lo hi H Q) : SlR X r' := fun pins s σ H x v vl vu lo hi sl Q I rx is p1 p2 hw =>
  let ⟨_, h1, h2⟩ := h x lo hi H Q hw
  h1 pins s σ H x v vl vu lo hi sl Q I rx is p1 p2 h2
theorem callBy {f : Value} {r' : List V → Hp → VK → Prop} (h : ∀ xs H Q, r' xs H Q → ∃ r, CallR X f r ∧ r xs H Q) : CallR X f r' := fun pins s σ H xs us Q I rx hw =>
  let ⟨_, h1, h2⟩ := h xs H Q hw
  h1 pins s σ H xs us Q I rx h2

/-! ### names, constants -/
def fVar (i : Nat) : FE := fun sl st => match sl[i]? with
  | some (some v) => some (.ok v st)
  | _ => none
def fC (v : Val) : FE := fun _ st => some (.ok v st)
theorem se_var (i : Nat) {x : Str} (hN : X.N[i]? = some x := by rfl) (hv : Vis X.env.scope x := by first | exact Or.inl rfl | exact Or.inr (Or.inl rfl) | exact Or.inr (Or.inr rfl)) (hd : (x == ("__debug__" : Str)) = false := by decide)
    (hcd : (x == ("__classdict__" : Str)) = false := by decide) : SE W X Ew (.Name x pos) (fVar i) := by
  refine imE (pe_var hN hv hd hcd) fun σ H Q ⟨ι, sl, st, r, hs, hr, hm, hq⟩ => ?_
  unfold fVar at hm
  split at hm
  · rename_i v h
    cases hm
    obtain ⟨u, h1, h2⟩ := hs.at' i v h
    exact ⟨u, h1, hq ι H u (Ext.refl _ _) hr h2⟩
  · cases hm
theorem se_c {v : Val} {z : V} (h : PE X e (tC z)) (hv : ∀ ι H, RV W.K ι H v z) : SE W X Ew e (fC v) := imE h fun σ H Q ⟨ι, sl, st, r, hs, hr, hm, hq⟩ => by
  cases hm
  exact hq ι H z (Ext.refl _ _) hr (hv ι H)
theorem se_int {i : Int} {j : Nat} : SE W X Ew (.Constant (.int i) j pos) (fC (.int i)) := se_c pe_int fun _ _ => .int i
theorem se_bl {i : Bool} {j : Nat} : SE W X Ew (.Constant (.bool i) j pos) (fC (.bl i)) := se_c pe_bl fun _ _ => .bl i
theorem se_non {j : Nat} : SE W X Ew (.Constant .none j pos) (fC .non) := se_c pe_non fun _ _ => .non
theorem se_str (l : List Nat) {x : Str} {j : Nat} (h : x = St' l := by rfl) : SE W X Ew (.Constant (.str x) j pos) (fC (.str l)) := by
  subst h
  exact se_c pe_str fun _ _ => .str l
/-- a constant of the module: an int -/
theorem se_gint {i : Int} {x : Str} (C : Ctx0 W k X Ew) (hm : ∃ t, W.mg x = some (.int i t)) (hg : Gl X x := by rfl) (hd : (x == ("__debug__" : Str)) = false := by decide) : SE W X Ew (.Name x pos) (fC (.int i)) :=
  let ⟨t, hm⟩ := hm
  se_c (z := .int i) (pe_glob hg (by rw [C.em]; exact hm) (show RelV (.int i) (.int i t) from ⟨t, rfl⟩) hd) fun _ _ => .int i
theorem se_gstr {l : List Nat} {x : Str} (C : Ctx0 W k X Ew) (hm : ∃ t, W.mg x = some (.str (St' l) t)) (hg : Gl X x := by rfl) (hd : (x == ("__debug__" : Str)) = false := by decide) : SE W X Ew (.Name x pos) (fC (.str l)) :=
  let ⟨t, hm⟩ := hm
  se_c (z := .str (St' l)) (pe_glob hg (by rw [C.em]; exact hm) (show RelV (.str (St' l)) (.str (St' l) t) from ⟨t, rfl⟩) hd) fun _ _ => .str l
/-- a tuple of the written part -/
theorem se_gtup {xs : List Val} {vs : List V} {p : Addr} {x : Str} (C : Ctx0 W k X Ew) (hm : W.mg x = some (.ref p)) (h : ∀ H, SqT W.K H p vs) (hv : ∀ ι H, RVs W.K ι H xs vs) (hg : Gl X x := by rfl) (hd : (x == ("__debug__" : Str)) = false := by decide) : SE W X Ew (.Name x pos) (fC (.tup xs)) :=
  se_c (z := .ref p) (pe_glob hg (by rw [C.em]; exact hm) rfl hd) fun ι H => .tup (h H) (hv ι H)

/-! ### operators -/
def fOp (f : O2) (ma mb : FE) : FE := bnd ma fun x => bnd mb fun y => lft (f x y)
theorem ro_of {f : O2} {x y : Val} {vx vy : V} {sl : Sl} {r : R Val} {Q : VK} {E : XK} (rx : RV W.K ι H x vx) (ry : RV W.K ι H y vy) (hr : Rel W ι H st) (hm : lft (f x y) sl st = some r) (hq : Pst W (fun ι H => RV W.K ι H) ι H r Q E) : ro W f vx vy H Q := by
  obtain ⟨v, st', h1, rfl⟩ := lft_some hm
  exact ⟨ι, st, x, y, v, st', rx, ry, hr, h1, hq⟩
theorem se_op {op : Operator} {f : O2} (ho : OpR X (binaryOp op) (ro W f)) (ha : SE W X Ew a ma) (hb : SE W X Ew b mb) : SE W X Ew (.BinOp a op b pos) (fOp f ma mb) :=
  imE (pe_op ho ha hb) fun σ H Q ⟨ι, sl, st, r, hs, hr, hm, hq⟩ => run hs hr hm hq fun x st1 ι1 H1 vx e1 s1 r1 rx hm1 hq1 => run s1 r1 hm1 hq1 fun y st2 ι2 H2 vy e2 s2 r2 ry hm2 hq2 =>
    ro_of (rx.mono e2) ry r2 hm2 hq2
theorem se_cmp {op : CmpOp} {f : O2} (ho : OpR X (compareOp op) (ro W f)) (ha : SE W X Ew a ma) (hb : SE W X Ew b mb) (h : behindInMarks op b = false := by first | exact nomark _ | rfl) : SE W X Ew (.Compare a [op] [b] pos) (fOp f ma mb) :=
  imE (pe_cmpR ho ha hb h) fun σ H Q ⟨ι, sl, st, r, hs, hr, hm, hq⟩ => run hs hr hm hq fun x st1 ι1 H1 vx e1 s1 r1 rx hm1 hq1 => run s1 r1 hm1 hq1 fun y st2 ι2 H2 vy e2 s2 r2 ry hm2 hq2 =>
    ro_of (rx.mono e2) ry r2 hm2 hq2
/-- a value that is True or False, as a test -/
def asB : Val → FT
  | .bl b => fun _ st => some (.ok b st)
  | _ => fun _ _ => none
def fB (m : FE) : FT := bnd m asB
theorem fB_of {x : Val} {vx : V} {sl : Sl} {r : R Bool} {Q : Bool → Hp → Prop} {E : XK} (rx : RV W.K ι H x vx) (hr : Rel W ι H st) (hm : asB x sl st = some r) (hq : Pst W (fun _ _ a b => a = b) ι H r Q E) : ∃ c, vx = .bl c ∧ Q c H := by
  cases rx <;> first
    | (cases hm; done)
    | (cases hm
       exact ⟨_, rfl, hq ι H _ (Ext.refl _ _) hr rfl⟩)
theorem sc_cmp {op : CmpOp} {f : O2} (ho : OpR X (compareOp op) (ro W f)) (ha : SE W X Ew a ma) (hb : SE W X Ew b mb) (h : behindInMarks op b = false := by first | exact nomark _ | rfl) : SC W X Ew (.Compare a [op] [b] pos) (fB (fOp f ma mb)) := by
  refine imT (pt_cmpR ho ha hb h) fun σ H Q ⟨ι, sl, st, r, hs, hr, hm, hq⟩ => ?_
  have q : teOf W Ew (fOp f ma mb) σ H fun x H' => ∃ k, x = .bl k ∧ Q k H' := run hs hr hm hq fun x st1 ι1 H1 vx e1 s1 r1 rx hm1 hq1 => fB_of rx r1 hm1 hq1
  obtain ⟨ι, sl, st, r, hs, hr, hm, hq⟩ := q
  exact run hs hr hm hq fun x st1 ι1 H1 vx e1 s1 r1 rx hm1 hq1 => run s1 r1 hm1 hq1 fun y st2 ι2 H2 vy e2 s2 r2 ry hm2 hq2 => ro_of (rx.mono e2) ry r2 hm2 hq2
theorem sc_val (h : SE W X Ew e me) (he : ∀ whole, isTrue e X.env whole = (do let v ← whole; standAt e.pos; holding [v] (truthy v)) := by intro _; rfl) : SC W X Ew e (fB me) :=
  imT (pt_val h he) fun σ H Q ⟨ι, sl, st, r, hs, hr, hm, hq⟩ => run hs hr hm hq fun x st1 ι1 H1 vx e1 s1 r1 rx hm1 hq1 => fB_of rx r1 hm1 hq1

/-! ### and, or, not, if -/
def fAnd (m n : FT) : FT := bnd m fun b => if b then n else fun _ st => some (.ok false st)
def fOr (m n : FT) : FT := bnd m fun b => if b then fun _ st => some (.ok true st) else n
def fNot (m : FT) : FT := bnd m fun b => fun _ st => some (.ok (!b) st)
def fIf {α : Type} (m : FT) (n k : FX α) : FX α := bnd m fun b => if b then n else k
theorem toOf {α β : Type} {RA : List Addr → Hp → α → β → Prop} {m : FX α} {σ : L2.St} {sl : Sl} {r : R α} {Q : β → Hp → Prop} (hs : RL W.K ι H sl σ) (hr : Rel W ι H st) (hm : m sl st = some r) (hq : Pst W RA ι H r Q (fun c d H' => Ew c d σ H')) : tOf W Ew RA m σ H Q :=
  ⟨ι, sl, st, r, hs, hr, hm, hq⟩
theorem bl_of {b : Bool} {sl : Sl} {r : R Bool} {Q : Bool → Hp → Prop} {E : XK} (hr : Rel W ι H st) (hm : (fun (_ : Sl) (st : Sto) => some (R.ok b st)) sl st = some r) (hq : Pst W (fun _ _ a b => a = b) ι H r Q E) : Q b H := by
  cases hm
  exact hq ι H _ (Ext.refl _ _) hr rfl
theorem ve_of {v : Val} {z : V} {sl : Sl} {r : R Val} {Q : VK} {E : XK} (hr : Rel W ι H st) (hv : RV W.K ι H v z) (hm : (fun (_ : Sl) (st : Sto) => some (R.ok v st)) sl st = some r) (hq : Pst W (fun ι H => RV W.K ι H) ι H r Q E) : Q z H := by
  cases hm
  exact hq ι H _ (Ext.refl _ _) hr hv
theorem sw_one1 (h : SC W X Ew a mt) : SW W X Ew (.BoolOp .And [a] pos) mt := pw_and1 h
theorem sw_one2 (h : SC W X Ew a mt) : SW W X Ew (.BoolOp .Or [a] pos) mt := pw_or1 h
theorem sw_and (ha : SC W X Ew a mt) (hb : SW W X Ew (.BoolOp .And (b :: es) pos) mu) : SW W X Ew (.BoolOp .And (a :: b :: es) pos) (fAnd mt mu) :=
  imW (pw_and ha hb) fun σ H Q ⟨ι, sl, st, r, hs, hr, hm, hq⟩ => run hs hr hm hq fun x st1 ι1 H1 vx e1 s1 r1 rx hm1 hq1 => by
    subst rx
    cases x with
    | true => exact toOf s1 r1 hm1 hq1
    | false => exact bl_of (st := st1) (sl := sl) r1 hm1 hq1
theorem sw_or (ha : SC W X Ew a mt) (hb : SW W X Ew (.BoolOp .Or (b :: es) pos) mu) : SW W X Ew (.BoolOp .Or (a :: b :: es) pos) (fOr mt mu) :=
  imW (pw_or ha hb) fun σ H Q ⟨ι, sl, st, r, hs, hr, hm, hq⟩ => run hs hr hm hq fun x st1 ι1 H1 vx e1 s1 r1 rx hm1 hq1 => by
    subst rx
    cases x with
    | true => exact bl_of (st := st1) (sl := sl) r1 hm1 hq1
    | false => exact toOf s1 r1 hm1 hq1
theorem sc_w (h : SW W X Ew e mt) : SC W X Ew e mt := PW.pt h
theorem sc_not (ha : SC W X Ew a mt) : SC W X Ew (.UnaryOp .Not a pos) (fNot mt) :=
  imT (pt_not ha) fun σ H Q ⟨ι, sl, st, r, hs, hr, hm, hq⟩ => run hs hr hm hq fun x st1 ι1 H1 vx e1 s1 r1 rx hm1 hq1 => by
    subst rx
    exact bl_of (st := st1) (sl := sl) r1 hm1 hq1
/-- .. as values -/
def fV (m : FT) : FE := bnd m fun b => fun _ st => some (.ok (.bl b) st)
def fAndV (m n : FE) : FE := bnd m fun x => match x with
  | .bl true => n
  | .bl false => fun _ st => some (.ok (.bl false) st)
  | _ => fun _ _ => none
def fOrV (m n : FE) : FE := bnd m fun x => match x with
  | .bl true => fun _ st => some (.ok (.bl true) st)
  | .bl false => n
  | _ => fun _ _ => none
def fNotV (m : FE) : FE := bnd m fun x => match x with
  | .bl b => fun _ st => some (.ok (.bl (!b)) st)
  | _ => fun _ _ => none
theorem se_one {op : BoolOp} (h : SE W X Ew a ma) : SE W X Ew (.BoolOp op [a] pos) ma := pe_one h
theorem se_and (ha : SE W X Ew a ma) (hb : SE W X Ew (.BoolOp .And (b :: es) pos) mb) : SE W X Ew (.BoolOp .And (a :: b :: es) pos) (fAndV ma mb) :=
  imE (pe_and ha hb) fun σ H Q ⟨ι, sl, st, r, hs, hr, hm, hq⟩ => run hs hr hm hq fun x st1 ι1 H1 vx e1 s1 r1 rx hm1 hq1 => by
    cases rx <;> first
      | (cases hm1; done)
      | (rename_i b
         cases b with
         | true => exact ⟨true, rfl, toOf s1 r1 hm1 hq1⟩
         | false => exact ⟨false, rfl, ve_of (st := st1) (sl := sl) r1 (.bl false) hm1 hq1⟩)
theorem se_or (ha : SE W X Ew a ma) (hb : SE W X Ew (.BoolOp .Or (b :: es) pos) mb) : SE W X Ew (.BoolOp .Or (a :: b :: es) pos) (fOrV ma mb) :=
  imE (pe_or ha hb) fun σ H Q ⟨ι, sl, st, r, hs, hr, hm, hq⟩ => run hs hr hm hq fun x st1 ι1 H1 vx e1 s1 r1 rx hm1 hq1 => by
    cases rx <;> first
      | (cases hm1; done)
      | (rename_i b
         cases b with
         | true => exact ⟨true, rfl, ve_of (st := st1) (sl := sl) r1 (.bl true) hm1 hq1⟩
         | false => exact ⟨false, rfl, toOf s1 r1 hm1 hq1⟩)
theorem se_not (ha : SE W X Ew a ma) : SE W X Ew (.UnaryOp .Not a pos) (fNotV ma) :=
  imE (pe_not ha) fun σ H Q ⟨ι, sl, st, r, hs, hr, hm, hq⟩ => run hs hr hm hq fun x st1 ι1 H1 vx e1 s1 r1 rx hm1 hq1 => by
    cases rx <;> first
      | (cases hm1; done)
      | (rename_i b
         exact ⟨b, rfl, ve_of (st := st1) (sl := sl) r1 (.bl _) hm1 hq1⟩)
theorem se_if {c : Expr} (hc : SC W X Ew c mt) (ha : SE W X Ew a ma) (hb : SE W X Ew b mb) : SE W X Ew (.IfExp c a b pos) (fIf mt ma mb) :=
  imE (pe_ifExp hc ha hb) fun σ H Q ⟨ι, sl, st, r, hs, hr, hm, hq⟩ => run hs hr hm hq fun x st1 ι1 H1 vx e1 s1 r1 rx hm1 hq1 => by
    subst rx
    cases x with
    | true => exact toOf s1 r1 hm1 hq1
    | false => exact toOf s1 r1 hm1 hq1

/-! ### argument lists, displays -/
def fNil : FA := fun _ st => some (.ok [] st)
def fCons (m : FE) (n : FA) : FA := bnd m fun x => bnd n fun xs => fun _ st => some (.ok (x :: xs) st)
theorem sa_nil : SA W X Ew [] fNil := imA pa_nil fun σ H Q ⟨ι, sl, st, r, hs, hr, hm, hq⟩ => by
  cases hm
  exact hq ι H _ (Ext.refl _ _) hr .nil
theorem sa_cons (ha : SE W X Ew a ma) (hb : SA W X Ew es mas) (h1 : starEach (a :: es) X.env = (false, eval a X.env) :: starEach es X.env := by rfl) : SA W X Ew (a :: es) (fCons ma mas) :=
  imA (pa_cons ha hb h1) fun σ H Q ⟨ι, sl, st, r, hs, hr, hm, hq⟩ => run hs hr hm hq fun x st1 ι1 H1 vx e1 s1 r1 rx hm1 hq1 => run s1 r1 hm1 hq1 fun y st2 ι2 H2 vy e2 s2 r2 ry hm2 hq2 => by
    cases hm2
    exact hq2 ι2 H2 _ (Ext.refl _ _) r2 (.cons (rx.mono e2) ry)
def fTup (m : FA) : FE := bnd m fun xs => fun _ st => if xs.length ≤ LINE then some (.ok (.tup xs) st) else none
def fLst (m : FA) : FE := bnd m fun xs => fun _ st => if xs.length ≤ LINE then some (.ok (.ref st.length) (st ++ [.lst xs])) else none
theorem line_eq : LINE = sizeLine := by decide
theorem se_tup {j : Nat} (h : SA W X Ew es mas) : SE W X Ew (.Tuple es j pos) (fTup mas) :=
  imE (pe_tup h) fun σ H Q ⟨ι, sl, st, r, hs, hr, hm, hq⟩ => run hs hr hm hq fun x st1 ι1 H1 vx e1 s1 r1 rx hm1 hq1 => by
    have hm2 : (if x.length ≤ LINE then some (R.ok (.tup x) st1) else none) = some r := hm1
    by_cases hl : x.length ≤ LINE
    · rw [if_pos hl] at hm2
      cases hm2
      exact ⟨by rw [← rx.len, ← line_eq]; exact hl, Post.newT hq1 r1 rx⟩
    · rw [if_neg hl] at hm2
      cases hm2
theorem se_lst (h : SA W X Ew es mas) : SE W X Ew (.List es pos) (fLst mas) :=
  imE (pe_lst h) fun σ H Q ⟨ι, sl, st, r, hs, hr, hm, hq⟩ => run hs hr hm hq fun x st1 ι1 H1 vx e1 s1 r1 rx hm1 hq1 => by
    have hm2 : (if x.length ≤ LINE then some (R.ok (.ref st1.length) (st1 ++ [.lst x])) else none) = some r := hm1
    by_cases hl : x.length ≤ LINE
    · rw [if_pos hl] at hm2
      cases hm2
      exact ⟨by rw [← rx.len, ← line_eq]; exact hl, Post.new hq1 r1 (show RO W ι1 H1 (.lst x) (.lst vx) from rx)⟩
    · rw [if_neg hl] at hm2
      cases hm2

/-! ### subscripts, slices -/
theorem se_ix {f : O2} (ho : IxR X (ro W f)) (ha : SE W X Ew a ma) (hb : SE W X Ew b mb) (hp : PlainIx b := by exact fun _ _ => rfl) : SE W X Ew (.Subscript a b pos) (fOp f ma mb) :=
  imE (pe_ix ho ha hb hp) fun σ H Q ⟨ι, sl, st, r, hs, hr, hm, hq⟩ => run hs hr hm hq fun x st1 ι1 H1 vx e1 s1 r1 rx hm1 hq1 => run s1 r1 hm1 hq1 fun y st2 ι2 H2 vy e2 s2 r2 ry hm2 hq2 =>
    ro_of (rx.mono e2) ry r2 hm2 hq2
abbrev FO := FX (Option Int)
abbrev OSl := Val → Option Int → Option Int → Sto → Option (Val × Sto)
abbrev SO (W : Wd) (X : Cx) (Ew : WX) (e : Option Expr) (m : FO) : Prop := PO X e (tOf W Ew (fun _ _ a b => a = b) m)
def fPart (m : FE) : FO := bnd m fun x => fun _ st => match x with
  | .int i => some (.ok (some i) st)
  | _ => none
def fNoPart : FO := fun _ st => some (.ok none st)
theorem imO {o : Option Expr} {t u : TO} (h : PO X o t) (i : ∀ σ H Q, u σ H Q → t σ H Q) : PO X o u := ⟨fun pins s σ H Q I hw => h.run pins s σ H Q I (i _ _ _ hw)⟩
theorem so_none : SO W X Ew none fNoPart := imO po_none fun σ H Q ⟨ι, sl, st, r, hs, hr, hm, hq⟩ => by
  cases hm
  exact hq ι H _ (Ext.refl _ _) hr rfl
theorem so_some (h : SE W X Ew e me) : SO W X Ew (some e) (fPart me) := imO (po_some h) fun σ H Q ⟨ι, sl, st, r, hs, hr, hm, hq⟩ => run hs hr hm hq fun x st1 ι1 H1 vx e1 s1 r1 rx hm1 hq1 => by
  cases rx <;> first
    | (cases hm1; done)
    | (cases hm1
       exact ⟨_, rfl, hq1 ι1 H1 _ (Ext.refl _ _) r1 rfl⟩)
def rs (W : Wd) (f : OSl) : V → Option Int → Option Int → Hp → VK → Prop := fun x lo hi H Q => ∃ ι st a v st', RV W.K ι H a x ∧ Rel W ι H st ∧ f a lo hi st = some (v, st') ∧ Post W ι H v st' Q
def fSlice (f : OSl) (m : FE) (lo hi : FO) : FE := bnd m fun x => bnd lo fun l => bnd hi fun u => lft (f x l u)
theorem se_sl {f : OSl} {lo hi : Option Expr} {ml mh : FO} {p2 : Pos} (ho : SlR X (rs W f)) (ha : SE W X Ew a ma) (hl : SO W X Ew lo ml) (hh : SO W X Ew hi mh) : SE W X Ew (.Subscript a (.Slice lo hi none p2) pos) (fSlice f ma ml mh) :=
  imE (pe_slice ho ha hl hh) fun σ H Q ⟨ι, sl, st, r, hs, hr, hm, hq⟩ => run hs hr hm hq fun x st1 ι1 H1 vx e1 s1 r1 rx hm1 hq1 => run s1 r1 hm1 hq1 fun y st2 ι2 H2 vy e2 s2 r2 ry hm2 hq2 => run s2 r2 hm2 hq2 fun z st3 ι3 H3 vz e3 s3 r3 rz hm3 hq3 => by
    subst ry rz
    obtain ⟨v, st', h1, rfl⟩ := lft_some hm3
    exact ⟨ι3, st3, x, v, st', (rx.mono e2).mono e3, r3, h1, hq3⟩

/-! ### calls of built-ins -/
def fCall (f : ON) (m : FA) : FE := bnd m fun xs => lft (f xs)
theorem rc_of {f : ON} {xs : List Val} {vs : List V} {sl : Sl} {r : R Val} {Q : VK} {E : XK} (rx : RVs W.K ι H xs vs) (hr : Rel W ι H st) (hm : lft (f xs) sl st = some r) (hq : Pst W (fun ι H => RV W.K ι H) ι H r Q E) : rc W f vs H Q := by
  obtain ⟨v, st', h1, rfl⟩ := lft_some hm
  exact ⟨ι, st, xs, v, st', rx, hr, h1, hq⟩
theorem se_blt {id : String} {x : Str} {p : Pos} {f : ON} (C : Ctx0 W k X Ew) (ho : CallR X (.builtin id) (rc W f)) (hm : W.mg x = none) (hb : bootBuiltins x = some (.builtin id)) (ha : SA W X Ew (e :: es) mas) (hg : Gl X x := by rfl) (hn : x ≠ "__name__" := by decide) (hd : (x == ("__debug__" : Str)) = false := by decide)
    (h1 : starEach (e :: es) X.env = (false, eval e X.env) :: starEach es X.env := by rfl) (h2 : (backTo pos (starEach es X.env)).any (·.1) = false := by rfl) : SE W X Ew (.Call (.Name x p) (e :: es) [] pos) (fCall f mas) :=
  imE (pe_callB ho hg (by rw [C.em]; exact hm) hb ha hn hd h1 h2) fun σ H Q ⟨ι, sl, st, r, hs, hr, hm, hq⟩ => run hs hr hm hq fun x st1 ι1 H1 vx e1 s1 r1 rx hm1 hq1 => rc_of rx r1 hm1 hq1
theorem se_bty {id : String} {x : Str} {p : Pos} {f : ON} (C : Ctx0 W k X Ew) (ho : CallR X (.type id) (rc W f)) (hm : W.mg x = none) (hb : bootBuiltins x = some (.type id)) (ha : SA W X Ew (e :: es) mas) (hg : Gl X x := by rfl) (hn : x ≠ "__name__" := by decide) (hd : (x == ("__debug__" : Str)) = false := by decide)
    (h1 : starEach (e :: es) X.env = (false, eval e X.env) :: starEach es X.env := by rfl) (h2 : (backTo pos (starEach es X.env)).any (·.1) = false := by rfl) : SE W X Ew (.Call (.Name x p) (e :: es) [] pos) (fCall f mas) :=
  imE (pe_callTy ho hg (by rw [C.em]; exact hm) hb ha hn hd h1 h2) fun σ H Q ⟨ι, sl, st, r, hs, hr, hm, hq⟩ => run hs hr hm hq fun x st1 ι1 H1 vx e1 s1 r1 rx hm1 hq1 => rc_of rx r1 hm1 hq1
end
end FL
/-! FL3: statements, targets, loops, comprehensions, calls of defs. -/
namespace FL
open PySem PySem.Spec PyProof.Rows L2

section
variable {W : Wd} {k : Nat} {X : Cx} {Ew : WX} {ι ι' : List Addr} {H H' : Hp} {st : Sto} {a b e : Expr} {es : List Expr} {ma mb me : FE} {mt mu : FT} {mas : FA} {pos : Pos} {s : Stmt} {ss : List Stmt} {m n : FS}

/-! ### blocks -/
def fSkip : FS := fun sl st => some (.nx sl st)
def fSeq (m n : FS) : FS := fun sl st => match m sl st with
  | some (.nx sl' st') => n sl' st'
  | r => r
theorem tsOf_go {σ : L2.St} {sl : Sl} {r : RS} {D : Ends} (hs : RL W.K ι H sl σ) (hr : Rel W ι H st) (hm : m sl st = some r) (hq : PsS W Ew ι H r D) : tsOf W Ew m D σ H := ⟨ι, sl, st, r, hs, hr, hm, hq⟩
theorem nx_of {σ : L2.St} {sl : Sl} {r : RS} {D : Ends} (hs : RL W.K ι H sl σ) (hr : Rel W ι H st) (hm : some (RS.nx sl st) = some r) (hq : PsS W Ew ι H r D) : D.nx σ H := by
  cases hm
  exact hq ι H σ (Ext.refl _ _) hr hs
theorem ss_nil : SSs W X Ew [] fSkip := imSs pss_nil fun D σ H ⟨ι, sl, st, r, hs, hr, hm, hq⟩ => nx_of hs hr hm hq
theorem seq_imp : ∀ D σ H, tsOf W Ew (fSeq m n) D σ H → tSeq (tsOf W Ew m) (tsOf W Ew n) D σ H := fun D σ H ⟨ι, sl, st, r, hs, hr, hm, hq⟩ => by
  unfold fSeq at hm
  cases h : m sl st with
  | none => rw [h] at hm; cases hm
  | some x =>
    rw [h] at hm
    cases x with
    | nx sl' st' => exact ⟨ι, sl, st, _, hs, hr, h, fun ι' H' σ' e r2 s2 => ⟨ι', sl', st', r, s2, r2, hm, hq.mono e⟩⟩
    | rt v st' => cases hm; exact ⟨ι, sl, st, _, hs, hr, h, hq⟩
    | bk sl' st' => cases hm; exact ⟨ι, sl, st, _, hs, hr, h, hq⟩
    | ct sl' st' => cases hm; exact ⟨ι, sl, st, _, hs, hr, h, hq⟩
    | ex c sl' st' => cases hm; exact ⟨ι, sl, st, _, hs, hr, h, hq⟩
theorem ss_cons (h1 : SS W X Ew s m) (h2 : SSs W X Ew ss n) : SSs W X Ew (s :: ss) (fSeq m n) := imSs (pss_cons h1 h2) seq_imp
theorem ss_one (h1 : SS W X Ew s m) : SSs W X Ew [s] m := pss_one h1

/-! ### targets -/
abbrev FG := Val → Sl → Sto → Option (Sl × Sto)
abbrev FGs := List Val → Sl → Sto → Option (Sl × Sto)
def tgOf (W : Wd) (g : FG) : TG := fun v σ H Q => ∃ ι sl st x sl' st', RL W.K ι H sl σ ∧ Rel W ι H st ∧ RV W.K ι H x v ∧ g x sl st = some (sl', st') ∧ ∀ ι' H' σ', Ext ι H ι' H' → Rel W ι' H' st' → RL W.K ι' H' sl' σ' → Q σ' H'
def tgsOf (W : Wd) (g : FGs) : TGs := fun v σ H Q => ∃ ι sl st x sl' st', RL W.K ι H sl σ ∧ Rel W ι H st ∧ RVs W.K ι H x v ∧ g x sl st = some (sl', st') ∧ ∀ ι' H' σ', Ext ι H ι' H' → Rel W ι' H' st' → RL W.K ι' H' sl' σ' → Q σ' H'
abbrev SG (W : Wd) (X : Cx) (e : Expr) (g : FG) : Prop := PG X e (tgOf W g)
abbrev SGs (W : Wd) (X : Cx) (e : List Expr) (g : FGs) : Prop := PGs X e (tgsOf W g)
theorem imG {t u : TG} (h : PG X e t) (i : ∀ v σ H Q, u v σ H Q → t v σ H Q) : PG X e u := ⟨fun pins s σ H v w Q I r hw => h.run pins s σ H v w Q I r (i _ _ _ _ hw)⟩
theorem imGs {t u : TGs} (h : PGs X es t) (i : ∀ v σ H Q, u v σ H Q → t v σ H Q) : PGs X es u := ⟨fun pins s σ H v w Q I r hw => h.run pins s σ H v w Q I r (i _ _ _ _ hw)⟩
def gSet (i : Nat) : FG := fun x sl st => some (sl.set i (some x), st)
theorem sg_name (i : Nat) {x : Str} (nd : X.N.Nodup) (hN : X.N[i]? = some x := by rfl) (hl : L2.Loc X.env.scope x := by first | exact Or.inl rfl | exact Or.inr rfl) (hf : X.fn x = true ∨ X.env.scope.names.lookup x = some .local := by first | exact Or.inl rfl | exact Or.inr rfl) :
    SG W X (.Name x pos) (gSet i) := imG (pg_name nd hN hl hf) fun v σ H Q ⟨ι, sl, st, x, sl', st', hs, hr, hx, hm, hq⟩ => by
  cases hm
  exact hq ι H _ (Ext.refl _ _) hr (hs.set hx i)
def gNo : FGs := fun xs sl st => match xs with
  | [] => some (sl, st)
  | _ => none
def gAnd (g : FG) (h : FGs) : FGs := fun xs sl st => match xs with
  | [] => none
  | x :: r => match g x sl st with
    | some (sl', st') => h r sl' st'
    | none => none
theorem sgs_nil : SGs W X [] gNo := imGs pgs_nil fun v σ H Q ⟨ι, sl, st, x, sl', st', hs, hr, hx, hm, hq⟩ => by
  cases hx with
  | nil =>
    cases hm
    exact ⟨rfl, hq ι H _ (Ext.refl _ _) hr hs⟩
  | cons _ _ => cases hm
theorem sgs_cons {g : FG} {h : FGs} (hg : SG W X e g) (hh : SGs W X es h) (h1 : (assignEach (e :: es) X.env).map (·.2) = assign e X.env :: (assignEach es X.env).map (·.2) := by rfl) : SGs W X (e :: es) (gAnd g h) :=
  imGs (pgs_cons hg hh h1) fun v σ H Q ⟨ι, sl, st, x, sl', st', hs, hr, hx, hm, hq⟩ => by
    cases hx with
    | nil => cases hm
    | @cons x v xs vs rx rxs =>
      have hm2 : (match g x sl st with | some (sl', st') => h xs sl' st' | none => none) = some (sl', st') := hm
      cases hg1 : g x sl st with
      | none => rw [hg1] at hm2; cases hm2
      | some p =>
        obtain ⟨sl1, st1⟩ := p
        rw [hg1] at hm2
        refine ⟨v, vs, rfl, ι, sl, st, x, sl1, st1, hs, hr, rx, hg1, fun ι' H' σ' e1 r1 s1 => ⟨ι', sl1, st1, xs, sl', st', s1, r1, rxs.mono e1, hm2, fun ι2 H2 σ2 e2 r2 s2 => hq ι2 H2 σ2 (e1.trans e2) r2 s2⟩⟩
def gTupl (g : FGs) (n : Nat) : FG := fun x sl st => match x with
  | .tup xs => if xs.length = n then g xs sl st else none
  | _ => none
theorem sg_tup {g : FGs} {j n : Nat} (C : Ctx W k X Ew) (h : SGs W X es g) (h1 : (assignEach es X.env).length = n := by rfl) (h2 : List.findIdx? (fun x => x.1) (assignEach es X.env) = none := by rfl) : SG W X (.Tuple es j pos) (gTupl g n) :=
  imG (pg_tup C.calm h h1 h2) fun v σ H Q ⟨ι, sl, st, x, sl', st', hs, hr, hx, hm, hq⟩ => by
    cases hx with
    | @tup a vs xs sq rx =>
      have hm2 : (if xs.length = n then g xs sl st else none) = some (sl', st') := hm
      by_cases hl : xs.length = n
      · rw [if_pos hl] at hm2
        exact ⟨a, vs, rfl, by rw [C.eK]; exact sq, by rw [← rx.len]; exact hl, ι, sl, st, xs, sl', st', hs, hr, rx, hm2, hq⟩
      · rw [if_neg hl] at hm2
        cases hm2
    | _ => cases hm
/-- o[i] = v -/
abbrev O3 := Val → Val → Val → Sto → Option Sto
def rset (W : Wd) (f : O3) : TSet := fun o i v H Q => ∃ ι st x y z st', RV W.K ι H x o ∧ RV W.K ι H y i ∧ RV W.K ι H z v ∧ Rel W ι H st ∧ f x y z st = some st' ∧ ∀ ι' H', Ext ι H ι' H' → Rel W ι' H' st' → Q H'
def gIx (f : O3) (mo mi : FE) : FG := fun x sl st => match mo sl st with
  | some (.ok o st1) => match mi sl st1 with
    | some (.ok i st2) => match f o i x st2 with
      | some st3 => some (sl, st3)
      | none => none
    | _ => none
  | _ => none
theorem sg_sub {f : O3} {mo mi : FE} (C : Ctx0 W k X Ew) (ho : SE W X Ew a mo) (hi : SE W X Ew b mi) (hf : PSet X (rset W f))
    (h : ∀ v, assign (.Subscript a b pos) X.env v = (do let ov ← holding [v] (eval a X.env); let iv ← holding [v, ov] (eval b X.env); standAt pos; holding [v, ov, iv] (setItem ov iv v); release [v, ov, iv] []) := by intro _; rfl) : SG W X (.Subscript a b pos) (gIx f mo mi) :=
  imG (pg_sub ho hi hf h) fun v σ H Q ⟨ι, sl, st, x, sl', st', hs, hr, hx, hm, hq⟩ => by
    unfold gIx at hm
    cases h1 : mo sl st with
    | none => rw [h1] at hm; cases hm
    | some r1 =>
      rw [h1] at hm
      cases r1 with
      | ex c st1 => cases hm
      | ok o st1 =>
        refine ⟨ι, sl, st, _, hs, hr, h1, fun ι1 H1 vo e1 r1 ro => ?_⟩
        cases h2 : mi sl st1 with
        | none => simp [h2] at hm
        | some r2 =>
          cases r2 with
          | ex c st2 => simp [h2] at hm
          | ok i st2 =>
            simp only [h2] at hm
            refine ⟨ι1, sl, st1, _, hs.mono e1, r1, h2, fun ι2 H2 vi e2 r2 ri => ?_⟩
            cases h3 : f o i x st2 with
            | none => simp [h3] at hm
            | some st3 =>
              simp only [h3] at hm
              cases hm
              exact ⟨ι2, st2, o, i, x, _, ro.mono e2, ri, (hx.mono e1).mono e2, r2, h3, fun ι3 H3 e3 r3 => hq ι3 H3 σ ((e1.trans e2).trans e3) r3 (((hs.mono e1).mono e2).mono e3)⟩

/-! ### small statements -/
def fAsg (m : FE) (g : FG) : FS := bndS m fun x => fun sl st => match g x sl st with
  | some (sl', st') => some (.nx sl' st')
  | none => none
theorem asg_imp {g : FG} : ∀ D σ H, tsOf W Ew (fAsg ma g) D σ H → tAsg (teOf W Ew ma) (tgOf W g) D σ H := fun D σ H ⟨ι, sl, st, r, hs, hr, hm, hq⟩ => runS hs hr hm hq fun x st1 ι1 H1 vx e1 s1 r1 rx hm1 hq1 => by
  have hm2 : (match g x sl st1 with | some (sl', st') => some (RS.nx sl' st') | none => none) = some r := hm1
  cases h : g x sl st1 with
  | none => rw [h] at hm2; cases hm2
  | some p =>
    obtain ⟨sl', st'⟩ := p
    rw [h] at hm2
    cases hm2
    exact ⟨ι1, sl, st1, x, sl', st', s1, r1, rx, h, fun ι2 H2 σ2 e2 r2 s2 => hq1 ι2 H2 σ2 e2 r2 s2⟩
theorem ss_asg {g : FG} {tg : Expr} (ha : SE W X Ew a ma) (hg : SG W X tg g) (h1 : swapsWithSole [tg] a pos.line X.env = pure false := by rfl) (h2 : swappedStores [tg] a X.env = pure none := by rfl) (h3 : (assignEach [tg] X.env).map (·.2) = [assign tg X.env] := by rfl) : SS W X Ew (.Assign [tg] a pos) (fAsg ma g) :=
  imS (ps_asg ha hg h1 h2 h3) asg_imp
def fSet (i : Nat) (m : FE) : FS := fAsg m (gSet i)
theorem ss_set (i : Nat) {x : Str} {p : Pos} (nd : X.N.Nodup) (ha : SE W X Ew a ma) (hN : X.N[i]? = some x := by rfl) (hl : L2.Loc X.env.scope x := by first | exact Or.inl rfl | exact Or.inr rfl) (h1 : swapsWith a (some (.Name x p)) pos.line X.env = pure false := by rfl)
    (hf : X.fn x = true ∨ X.env.scope.names.lookup x = some .local := by first | exact Or.inl rfl | exact Or.inr rfl) : SS W X Ew (.Assign [.Name x p] a pos) (fSet i ma) :=
  imS (ps_set nd hN hl ha h1 hf) fun D σ H h => by
    obtain ⟨ι, sl, st, r, hs, hr, hm, hq⟩ := h
    exact runS (k := fun x => fun sl st => some (.nx (sl.set i (some x)) st)) hs hr hm hq fun x st1 ι1 H1 vx e1 s1 r1 rx hm1 hq1 => nx_of (s1.set rx i) r1 hm1 hq1
def fExpr (m : FE) : FS := bndS m fun _ => fun sl st => some (.nx sl st)
theorem ss_expr (ha : SE W X Ew a ma) (h1 : swapsWith a none pos.line X.env = pure false := by rfl) : SS W X Ew (.Expr a pos) (fExpr ma) :=
  imS (ps_expr ha h1) fun D σ H ⟨ι, sl, st, r, hs, hr, hm, hq⟩ => runS hs hr hm hq fun x st1 ι1 H1 vx e1 s1 r1 rx hm1 hq1 => nx_of s1 r1 hm1 hq1
def fRet (m : FE) : FS := bndS m fun x => fun _ st => some (.rt x st)
theorem ss_ret (ha : SE W X Ew a ma) : SS W X Ew (.Return (some a) pos) (fRet ma) :=
  imS (ps_ret ha) fun D σ H ⟨ι, sl, st, r, hs, hr, hm, hq⟩ => runS hs hr hm hq fun x st1 ι1 H1 vx e1 s1 r1 rx hm1 hq1 => by
    cases hm1
    exact hq1 ι1 H1 vx (Ext.refl _ _) r1 rx
def fRetN : FS := fun _ st => some (.rt .non st)
theorem ss_retN : SS W X Ew (.Return none pos) fRetN := imS ps_retN fun D σ H ⟨ι, sl, st, r, hs, hr, hm, hq⟩ => by
  cases hm
  exact hq ι H _ (Ext.refl _ _) hr .non
theorem ss_pass : SS W X Ew (.Pass pos) fSkip := imS ps_pass fun D σ H ⟨ι, sl, st, r, hs, hr, hm, hq⟩ => nx_of hs hr hm hq
def fBreak : FS := fun sl st => some (.bk sl st)
def fCont : FS := fun sl st => some (.ct sl st)
theorem ss_break : SS W X Ew (.Break pos) fBreak := imS ps_break fun D σ H ⟨ι, sl, st, r, hs, hr, hm, hq⟩ => by
  cases hm
  exact hq ι H _ (Ext.refl _ _) hr hs
theorem ss_cont : SS W X Ew (.Continue pos) fCont := imS ps_continue fun D σ H ⟨ι, sl, st, r, hs, hr, hm, hq⟩ => by
  cases hm
  exact hq ι H _ (Ext.refl _ _) hr hs
def fIfS (c : FT) (m n : FS) : FS := bndS c fun b => if b then m else n
theorem ss_if {c : Expr} {sa sb : List Stmt} (hc : SC W X Ew c mt) (ha : SSs W X Ew sa m) (hb : SSs W X Ew sb n) : SS W X Ew (.If c sa sb pos) (fIfS mt m n) :=
  imS (ps_if hc ha hb) fun D σ H ⟨ι, sl, st, r, hs, hr, hm, hq⟩ => runS hs hr hm hq fun x st1 ι1 H1 vx e1 s1 r1 rx hm1 hq1 => by
    subst rx
    cases x with
    | true => exact tsOf_go s1 r1 hm1 hq1
    | false => exact tsOf_go s1 r1 hm1 hq1
/-- x op= e -/
def rip (W : Wd) (f : O2) : TIp := fun x y H Q => ro W f x y H Q
def fAug (i : Nat) (f : O2) (m : FE) : FS := fun sl st => match sl[i]? with
  | some (some x) => bndS m (fun y => fun sl st => match f x y st with
    | some (z, st') => some (.nx (sl.set i (some z)) st')
    | none => none) sl st
  | _ => none
theorem ss_aug (i : Nat) {x : Str} {p : Pos} {op : Operator} {f : O2} (nd : X.N.Nodup) (ha : SE W X Ew a ma) (hp : PIp X op (rip W f)) (hN : X.N[i]? = some x := by rfl) (hl : L2.Loc X.env.scope x := by first | exact Or.inl rfl | exact Or.inr rfl)
    (hf : X.fn x = true ∨ X.env.scope.names.lookup x = some .local := by first | exact Or.inl rfl | exact Or.inr rfl) : SS W X Ew (.AugAssign (.Name x p) op a pos) (fAug i f ma) :=
  imS (ps_aug nd hN hl ha hp hf) fun D σ H ⟨ι, sl, st, r, hs, hr, hm, hq⟩ => by
    unfold fAug at hm
    split at hm
    · rename_i x hx
      obtain ⟨v, h1, h2⟩ := hs.at' i x hx
      refine ⟨v, h1, runS hs hr hm hq fun y st1 ι1 H1 vy e1 s1 r1 ry hm1 hq1 => ?_⟩
      have hm2 : (match f x y st1 with | some (z, st') => some (RS.nx (sl.set i (some z)) st') | none => none) = some r := hm1
      cases h : f x y st1 with
      | none => rw [h] at hm2; cases hm2
      | some q =>
        obtain ⟨z, st'⟩ := q
        rw [h] at hm2
        cases hm2
        exact ⟨ι1, st1, x, y, z, st', h2.mono e1, ry, r1, h, fun ι2 H2 w e2 r2 rw' => hq1 ι2 H2 _ e2 r2 ((s1.mono e2).set rw' i)⟩
    · cases hm

/-! ### what is walked -/
/-- what is walked and may change: one list, two -/
inductive Lv where
  | none
  | some (p : Nat)
  | two (p : Nat) (xs : List Val) (q : Nat) (ys : List Val)
structure Itb where
  items : List Val
  live : Lv
abbrev FI := FX Itb
/-- a list that is walked stands still -/
def Live (l : Lv) (xs : List Val) (st : Sto) : Prop := match l with
  | .none => True
  | .some n => st[n]? = some (.lst xs)
  | .two p xs q ys => st[p]? = some (.lst xs) ∧ st[q]? = some (.lst ys)
def ItOk (W : Wd) (ι : List Addr) (H : Hp) (b : Itb) (J : It) : Prop := ∀ ι' H' st (i : Nat), Ext0 ι H ι' H' → Rel W ι' H' st → Live b.live b.items st →
  (∀ x, b.items[i]? = some x → J.go i H' ∧ ∀ y H2, J.yld i H' y H2 → Ext ι' H' ι' H2 ∧ Rel W ι' H2 st ∧ RV W.K ι' H2 x y) ∧ (b.items.length ≤ i → J.stop i H')
abbrev tiOf (W : Wd) (Ew : WX) (m : FI) : TI := tOf W Ew (fun ι H b J => ItOk W ι H b J) m
abbrev SI (W : Wd) (X : Cx) (Ew : WX) (tg e : Expr) (m : FI) : Prop := PI X tg e (tiOf W Ew m)
theorem imI {tg : Expr} {t u : TI} (h : PI X tg e t) (i : ∀ σ H Q, u σ H Q → t σ H Q) : PI X tg e u := ⟨fun pins s σ H R I hw => h.run pins s σ H R I (i _ _ _ hw)⟩

open Classical in
noncomputable def forL (l : Lv) (all : List Val) (g : FG) (body : FS) : List Val → FS
  | [] => fun sl st => if Live l all st then some (.nx sl st) else none
  | x :: xs => fun sl st => if Live l all st then (match g x sl st with
      | none => none
      | some (sl1, st1) => match body sl1 st1 with
        | some (.nx sl2 st2) => forL l all g body xs sl2 st2
        | some (.ct sl2 st2) => forL l all g body xs sl2 st2
        | some (.bk sl2 st2) => some (.nx sl2 st2)
        | r => r) else none
noncomputable def fFor (mi : FI) (g : FG) (body : FS) : FS := bndS mi fun b => forL b.live b.items g body b.items
open Classical in
theorem ss_for {tg iter : Expr} {body : List Stmt} {mi : FI} {g : FG} (C : Ctx W k X Ew) (hi : SI W X Ew tg iter mi) (hg : SG W X tg g) (hb : SSs W X Ew body m)
    (h1 : ∀ x, foldedSetIterable iter X.env x = pure x := by intro _; rfl) : SS W X Ew (.For tg iter body [] pos) (fFor mi g m) :=
  imS (ps_for C.po C.calm hi hg hb h1) fun D σ H ⟨ι, sl, st, r, hs, hr, hm, hq⟩ => runS hs hr hm hq fun b st1 ι1 H1 J e1 s1 r1 ok hm1 hq1 => by
    refine ⟨fun i mm σ H => ∃ ι2 sl2 st2, Ext ι1 H1 ι2 H ∧ RL W.K ι2 H sl2 σ ∧ Rel W ι2 H st2 ∧ i ≤ b.items.length ∧ mm = b.items.length - i ∧ forL b.live b.items g m (b.items.drop i) sl2 st2 = some r ∧ PsS W Ew ι2 H r D,
      ⟨_, ι1, sl, st1, Ext.refl _ _, s1, r1, Nat.zero_le _, rfl, hm1, hq1⟩, ?_⟩
    rintro i mm σ2 H2 ⟨ι2, sl2, st2, e2, s2, r2, hi, rfl, hf, hq2⟩
    cases hd : b.items.drop i with
    | nil =>
      rw [hd] at hf
      have hf2 : (if Live b.live b.items st2 then some (RS.nx sl2 st2) else none) = some r := hf
      by_cases hl : Live b.live b.items st2
      · rw [if_pos hl] at hf2
        have hi2 : b.items.length ≤ i := by
          have := congrArg List.length hd
          rw [List.length_drop, List.length_nil] at this
          omega
        exact .inl ⟨(ok ι2 H2 st2 i e2.toExt0 r2 hl).2 hi2, nx_of s2 r2 hf2 hq2⟩
      · rw [if_neg hl] at hf2
        cases hf2
    | cons x xs =>
      rw [hd] at hf
      have hf2 : (if Live b.live b.items st2 then (match g x sl2 st2 with
        | none => none
        | some (sl1, st1) => match m sl1 st1 with
          | some (.nx sl2 st2) => forL b.live b.items g m xs sl2 st2
          | some (.ct sl2 st2) => forL b.live b.items g m xs sl2 st2
          | some (.bk sl2 st2) => some (.nx sl2 st2)
          | r => r) else none) = some r := hf
      by_cases hl : Live b.live b.items st2
      · rw [if_pos hl] at hf2
        have hx : b.items[i]? = some x := by
          have h0 := List.getElem?_drop (xs := b.items) (i := i) (j := 0)
          rw [hd] at h0
          simpa using h0.symm
        have hxs : b.items.drop (i + 1) = xs := by
          rw [← List.drop_drop, hd]
          rfl
        have hil : i < b.items.length := (List.getElem?_eq_some_iff.mp hx).1
        obtain ⟨hgo, hy⟩ := (ok ι2 H2 st2 i e2.toExt0 r2 hl).1 x hx
        refine .inr ⟨hgo, fun σ' H' => ∃ ι3 sl3 st3, Ext ι1 H1 ι3 H' ∧ RL W.K ι3 H' sl3 σ' ∧ Rel W ι3 H' st3 ∧ forL b.live b.items g m xs sl3 st3 = some r ∧ PsS W Ew ι3 H' r D, ?_, fun y H3 hyl => ?_⟩
        · rintro σ' H' ⟨ι3, sl3, st3, h3, h4, h5, h6, h7⟩
          exact ⟨b.items.length - (i + 1), by omega, ι3, sl3, st3, h3, h4, h5, hil, rfl, by rw [hxs]; exact h6, h7⟩
        · obtain ⟨e3, r3, ry⟩ := hy y H3 hyl
          cases h5 : g x sl2 st2 with
          | none => rw [h5] at hf2; cases hf2
          | some p =>
            obtain ⟨sl4, st4⟩ := p
            rw [h5] at hf2
            refine ⟨ι2, sl2, st2, x, sl4, st4, s2.mono e3, r3, ry, h5, fun ι4 H4 σ4 e4 r4 s4 => ?_⟩
            have hf3 : (match m sl4 st4 with
              | some (.nx sl2 st2) => forL b.live b.items g m xs sl2 st2
              | some (.ct sl2 st2) => forL b.live b.items g m xs sl2 st2
              | some (.bk sl2 st2) => some (.nx sl2 st2)
              | r => r) = some r := hf2
            have e24 : Ext ι2 H2 ι4 H4 := e3.trans e4
            cases h6 : m sl4 st4 with
            | none => rw [h6] at hf3; cases hf3
            | some r6 =>
              rw [h6] at hf3
              cases r6 with
              | nx sl5 st5 => exact ⟨ι4, sl4, st4, _, s4, r4, h6, fun ι5 H5 σ5 e5 r5 s5 => ⟨ι5, sl5, st5, (e2.trans e24).trans e5, s5, r5, hf3, hq2.mono (e24.trans e5)⟩⟩
              | ct sl5 st5 => exact ⟨ι4, sl4, st4, _, s4, r4, h6, fun ι5 H5 σ5 e5 r5 s5 => ⟨ι5, sl5, st5, (e2.trans e24).trans e5, s5, r5, hf3, hq2.mono (e24.trans e5)⟩⟩
              | bk sl5 st5 =>
                cases hf3
                exact ⟨ι4, sl4, st4, _, s4, r4, h6, fun ι5 H5 σ5 e5 r5 s5 => hq2 ι5 H5 σ5 (e24.trans e5) r5 s5⟩
              | rt v st5 =>
                cases hf3
                exact ⟨ι4, sl4, st4, _, s4, r4, h6, fun ι5 H5 σ5 e5 r5 s5 => hq2 ι5 H5 σ5 (e24.trans e5) r5 s5⟩
              | ex c sl5 st5 =>
                cases hf3
                exact ⟨ι4, sl4, st4, _, s4, r4, h6, fun ι5 H5 σ5 e5 r5 s5 => hq2 ι5 H5 σ5 (e24.trans e5) r5 s5⟩
      · rw [if_neg hl] at hf2
        cases hf2

/-! ### while -/
def whileL (c : FT) (body : FS) : Nat → FS
  | 0 => fun _ _ => none
  | n + 1 => bndS c fun b => if b then fun sl st => match body sl st with
      | some (.nx sl2 st2) => whileL c body n sl2 st2
      | some (.ct sl2 st2) => whileL c body n sl2 st2
      | some (.bk sl2 st2) => some (.nx sl2 st2)
      | r => r else fun sl st => some (.nx sl st)
open Classical in
noncomputable def fWhile (c : FT) (body : FS) : FS := fun sl st => if h : ∃ n r, whileL c body n sl st = some r then whileL c body h.choose sl st else none
theorem ss_while {c : Expr} {body : List Stmt} (C : Ctx0 W k X Ew) (hc : SC W X Ew c mt) (hb : SSs W X Ew body m) : SS W X Ew (.While c body [] pos) (fWhile mt m) :=
  imS (ps_while C.po hc hb) fun D σ H ⟨ι, sl, st, r, hs, hr, hm, hq⟩ => by
    have hn : ∃ n, whileL mt m n sl st = some r := by
      unfold fWhile at hm
      split at hm
      · exact ⟨_, hm⟩
      · cases hm
    obtain ⟨n, hn⟩ := hn
    refine ⟨fun n σ2 H2 => ∃ ι2 sl2 st2, RL W.K ι2 H2 sl2 σ2 ∧ Rel W ι2 H2 st2 ∧ whileL mt m n sl2 st2 = some r ∧ PsS W Ew ι2 H2 r D, ⟨n, ι, sl, st, hs, hr, hn, hq⟩, ?_⟩
    rintro n σ2 H2 ⟨ι2, sl2, st2, s2, r2, hm2, hq2⟩
    cases n with
    | zero => cases hm2
    | succ n =>
      refine runS s2 r2 hm2 hq2 fun x st3 ι3 H3 vx e3 s3 r3 rx hm3 hq3 => ?_
      subst rx
      cases x with
      | false => exact nx_of s3 r3 hm3 hq3
      | true =>
        refine ⟨fun σ4 H4 => ∃ ι4 sl4 st4, RL W.K ι4 H4 sl4 σ4 ∧ Rel W ι4 H4 st4 ∧ whileL mt m n sl4 st4 = some r ∧ PsS W Ew ι4 H4 r D, fun σ4 H4 h4 => ⟨n, Nat.lt_succ_self _, h4⟩, ?_⟩
        have hm4 : (match m sl2 st3 with
          | some (.nx sl2 st2) => whileL mt m n sl2 st2
          | some (.ct sl2 st2) => whileL mt m n sl2 st2
          | some (.bk sl2 st2) => some (.nx sl2 st2)
          | r => r) = some r := hm3
        cases h6 : m sl2 st3 with
        | none => rw [h6] at hm4; cases hm4
        | some r6 =>
          rw [h6] at hm4
          cases r6 with
          | nx sl5 st5 => exact ⟨ι3, sl2, st3, _, s3, r3, h6, fun ι5 H5 σ5 e5 r5 s5 => ⟨ι5, sl5, st5, s5, r5, hm4, hq3.mono e5⟩⟩
          | ct sl5 st5 => exact ⟨ι3, sl2, st3, _, s3, r3, h6, fun ι5 H5 σ5 e5 r5 s5 => ⟨ι5, sl5, st5, s5, r5, hm4, hq3.mono e5⟩⟩
          | bk sl5 st5 =>
            cases hm4
            exact ⟨ι3, sl2, st3, _, s3, r3, h6, hq3⟩
          | rt v st5 =>
            cases hm4
            exact ⟨ι3, sl2, st3, _, s3, r3, h6, hq3⟩
          | ex c sl5 st5 =>
            cases hm4
            exact ⟨ι3, sl2, st3, _, s3, r3, h6, hq3⟩
end
end FL
/-! FL4: comprehensions, calls of defs, what a def is worth, what is walked. -/
namespace FL
open PySem PySem.Spec PyProof.Rows L2

/-! ### comprehensions -/
theorem wipe_get (σ : L2.St) : ∀ (vs : List Nat) (j : Nat), (wipe σ vs)[j]? = if j ∈ vs ∧ j < σ.length then some none else σ[j]?
  | [], j => by simp [wipe]
  | v :: vs, j => by
    show ((wipe σ vs).set v none)[j]? = _
    by_cases e : v = j
    · subst e
      by_cases hl : v < σ.length
      · rw [List.getElem?_set_self (by rw [wipe_length]; exact hl), if_pos ⟨List.mem_cons_self, hl⟩]
      · rw [if_neg (fun q => hl q.2), List.getElem?_eq_none (by rw [List.length_set, wipe_length]; omega), List.getElem?_eq_none (by omega)]
    · rw [List.getElem?_set_ne e, wipe_get σ vs j]
      by_cases hj : j ∈ vs
      · simp [hj]
      · simp [hj, Ne.symm e]
theorem wipe_len (σ : L2.St) (vs : List Nat) : (wipe σ vs).length = σ.length := wipe_length σ vs
theorem wipe_set {σ : L2.St} {vs : List Nat} {i : Nat} {x : Option V} (h : i ∈ vs) : wipe (σ.set i x) vs = wipe σ vs := by
  apply List.ext_getElem?
  intro j
  rw [wipe_get, wipe_get, List.length_set]
  by_cases hj : j ∈ vs ∧ j < σ.length
  · rw [if_pos hj, if_pos hj]
  · rw [if_neg hj, if_neg hj]
    by_cases e : i = j
    · subst e
      have hn : ¬ i < σ.length := fun q => hj ⟨h, q⟩
      rw [List.getElem?_eq_none (by rw [List.length_set]; omega), List.getElem?_eq_none (by omega)]
    · rw [List.getElem?_set_ne e]
theorem wipe_wipe (σ : L2.St) (vs : List Nat) : wipe (wipe σ vs) vs = wipe σ vs := by
  apply List.ext_getElem?
  intro j
  rw [wipe_get, wipe_len]
  split
  · rename_i h
    rw [wipe_get, if_pos h]
  · rfl
def wipeL (sl : Sl) : List Nat → Sl
  | [] => sl
  | v :: vs => (wipeL sl vs).set v none
theorem RL.wipe {K : PySem.W.Frag} {ι : List Addr} {H : Hp} {sl : Sl} {σ : L2.St} (h : RL K ι H sl σ) : ∀ vs : List Nat, RL K ι H (wipeL sl vs) (L2.wipe σ vs)
  | [] => h
  | v :: vs => (RL.wipe h vs).unset v

section
variable {W : Wd} {k : Nat} {X : Cx} {Ew : WX} {ι ι' : List Addr} {H H' : Hp} {st : Sto} {a b e : Expr} {es : List Expr} {ma mb me : FE} {mt mu : FT} {mas : FA} {pos : Pos} {s : Stmt} {ss : List Stmt} {m n : FS}
/-- targets of a comprehension: all but the names vs stay -/
def tgW (W : Wd) (vs : List Nat) (g : FG) : TG := fun v σ H Q => ∃ ι sl st x sl' st', RL W.K ι H sl σ ∧ Rel W ι H st ∧ RV W.K ι H x v ∧ g x sl st = some (sl', st') ∧ ∀ ι' H' σ', Ext ι H ι' H' → Rel W ι' H' st' → RL W.K ι' H' sl' σ' → wipe σ' vs = wipe σ vs → Q σ' H'
def tgsW (W : Wd) (vs : List Nat) (g : FGs) : TGs := fun v σ H Q => ∃ ι sl st x sl' st', RL W.K ι H sl σ ∧ Rel W ι H st ∧ RVs W.K ι H x v ∧ g x sl st = some (sl', st') ∧ ∀ ι' H' σ', Ext ι H ι' H' → Rel W ι' H' st' → RL W.K ι' H' sl' σ' → wipe σ' vs = wipe σ vs → Q σ' H'
abbrev SGw (W : Wd) (X : Cx) (vs : List Nat) (e : Expr) (g : FG) : Prop := PG X e (tgW W vs g)
abbrev SGsw (W : Wd) (X : Cx) (vs : List Nat) (e : List Expr) (g : FGs) : Prop := PGs X e (tgsW W vs g)
theorem sgw_name (i : Nat) {vs : List Nat} {x : Str} (nd : X.N.Nodup) (hN : X.N[i]? = some x := by rfl) (hl : L2.Loc X.env.scope x := by first | exact Or.inl rfl | exact Or.inr rfl) (hf : X.fn x = true ∨ X.env.scope.names.lookup x = some .local := by first | exact Or.inl rfl | exact Or.inr rfl)
    (hv : i ∈ vs := by decide) : SGw W X vs (.Name x pos) (gSet i) := imG (pg_name nd hN hl hf) fun v σ H Q ⟨ι, sl, st, x, sl', st', hs, hr, hx, hm, hq⟩ => by
  cases hm
  exact hq ι H _ (Ext.refl _ _) hr (hs.set hx i) (wipe_set hv)
theorem sgsw_nil {vs : List Nat} : SGsw W X vs [] gNo := imGs pgs_nil fun v σ H Q ⟨ι, sl, st, x, sl', st', hs, hr, hx, hm, hq⟩ => by
  cases hx with
  | nil =>
    cases hm
    exact ⟨rfl, hq ι H _ (Ext.refl _ _) hr hs rfl⟩
  | cons _ _ => cases hm
theorem sgsw_cons {vs : List Nat} {g : FG} {h : FGs} (hg : SGw W X vs e g) (hh : SGsw W X vs es h) (h1 : (assignEach (e :: es) X.env).map (·.2) = assign e X.env :: (assignEach es X.env).map (·.2) := by rfl) : SGsw W X vs (e :: es) (gAnd g h) :=
  imGs (pgs_cons hg hh h1) fun v σ H Q ⟨ι, sl, st, x, sl', st', hs, hr, hx, hm, hq⟩ => by
    cases hx with
    | nil => cases hm
    | @cons x v xs us rx rxs =>
      have hm2 : (match g x sl st with | some (sl', st') => h xs sl' st' | none => none) = some (sl', st') := hm
      cases hg1 : g x sl st with
      | none => rw [hg1] at hm2; cases hm2
      | some p =>
        obtain ⟨sl1, st1⟩ := p
        rw [hg1] at hm2
        refine ⟨v, us, rfl, ι, sl, st, x, sl1, st1, hs, hr, rx, hg1, fun ι' H' σ' e1 r1 s1 w1 => ⟨ι', sl1, st1, xs, sl', st', s1, r1, rxs.mono e1, hm2, fun ι2 H2 σ2 e2 r2 s2 w2 => hq ι2 H2 σ2 (e1.trans e2) r2 s2 (w2.trans w1)⟩⟩
theorem sgw_tup {vs : List Nat} {g : FGs} {j n : Nat} (hc : X.calm = true) (hK : X.K = W.K) (h : SGsw W X vs es g) (h1 : (assignEach es X.env).length = n := by rfl) (h2 : List.findIdx? (fun x => x.1) (assignEach es X.env) = none := by rfl) : SGw W X vs (.Tuple es j pos) (gTupl g n) :=
  imG (pg_tup hc h h1 h2) fun v σ H Q ⟨ι, sl, st, x, sl', st', hs, hr, hx, hm, hq⟩ => by
    cases hx with
    | @tup a us xs sq rx =>
      have hm2 : (if xs.length = n then g xs sl st else none) = some (sl', st') := hm
      by_cases hl : xs.length = n
      · rw [if_pos hl] at hm2
        exact ⟨a, us, rfl, by rw [hK]; exact sq, by rw [← rx.len]; exact hl, ι, sl, st, xs, sl', st', hs, hr, rx, hm2, hq⟩
      · rw [if_neg hl] at hm2
        cases hm2
    | _ => cases hm

abbrev E00 : WX := fun _ _ _ _ => False
open Classical in
noncomputable def lcL (l : Lv) (all : List Val) (g : FG) (t : FT) (m : FE) (sl : Sl) : List Val → Sto → Option (List Val × Sto)
  | [], st => if Live l all st then some ([], st) else none
  | x :: xs, st => if Live l all st then (match g x sl st with
      | none => none
      | some (sl1, st1) => match t sl1 st1 with
        | some (.ok true st2) => (match m sl1 st2 with
          | some (.ok y st3) => (match lcL l all g t m sl xs st3 with
            | some (ys, st4) => some (y :: ys, st4)
            | none => none)
          | _ => none)
        | some (.ok false st2) => lcL l all g t m sl xs st2
        | _ => none) else none
noncomputable def fLc (mi : FI) (g : FG) (t : FT) (m : FE) (vs : List Nat) : FE := bnd mi fun b => fun sl st => if b.items.length ≤ LINE then (match lcL b.live b.items g t m (wipeL sl vs) b.items st with
  | some (ys, st') => some (.ok (.ref st'.length) (st' ++ [.lst ys]))
  | none => none) else none
def fYes : FT := fun _ st => some (.ok true st)
abbrev STs (W : Wd) (X : Cx) (ifs : List Expr) (m : FT) : Prop := PTs X ifs (ttOf W E00 m)
theorem imTs {ifs : List Expr} {t u : TT} (h : PTs X ifs t) (i : ∀ σ H Q, u σ H Q → t σ H Q) : PTs X ifs u := ⟨fun pins s σ H Q I hw => h.run pins s σ H Q I (i _ _ _ hw)⟩
theorem sts_nil : STs W X [] fYes := imTs pts_nil fun σ H Q ⟨ι, sl, st, r, hs, hr, hm, hq⟩ => bl_of (st := st) (sl := sl) hr hm hq
theorem sts_one (h : SC W X E00 e mt) : STs W X [e] mt := pts_one h
open Classical in
theorem lc_imp {mi : FI} {g : FG} {vs : List Nat} {σ : L2.St} {H : Hp} {Q : VK} (h : teOf W Ew (fLc mi g mt me vs) σ H Q) : tLc (tiOf W Ew mi) (tgW W vs g) (ttOf W E00 mt) (teOf W E00 me) vs σ H Q := by
  obtain ⟨ι, sl, st, r, hs, hr, hm, hq⟩ := h
  refine run hs hr hm hq fun b st1 ι1 H1 J e1 s1 r1 ok hm1 hq1 => ?_
  intro D hD
  have nD : ∀ i : Nat, ι1[i]? ≠ some D := fun i q => by
    have hi := (List.getElem?_eq_some_iff.mp q).1
    rw [r1.len] at hi
    obtain ⟨_, h3, _⟩ := r1.ob i D _ q (List.getElem?_eq_getElem hi)
    rw [hD] at h3
    cases h3
  have hm2 : (if b.items.length ≤ LINE then (match lcL b.live b.items g mt me (wipeL sl vs) b.items st1 with | some (ys, st') => some (R.ok (.ref st'.length) (st' ++ [.lst ys])) | none => none) else none) = some r := hm1
  by_cases hz : b.items.length ≤ LINE
  case neg => rw [if_neg hz] at hm2; cases hm2
  rw [if_pos hz] at hm2
  cases hl : lcL b.live b.items g mt me (wipeL sl vs) b.items st1 with
  | none => rw [hl] at hm2; cases hm2
  | some p =>
    obtain ⟨ys0, st0⟩ := p
    rw [hl] at hm2
    cases hm2
    have sw := s1.wipe vs
    refine ⟨fun i mm H => ∃ ι2 st2 acc vacc ys, Ext ι1 H1 ι2 H ∧ H D = some (.lst vacc) ∧ (∀ i : Nat, ι2[i]? ≠ some D) ∧ RVs W.K ι2 H acc vacc ∧ Rel W ι2 H st2 ∧ acc.length ≤ i ∧ i ≤ b.items.length ∧ mm = b.items.length - i ∧
      lcL b.live b.items g mt me (wipeL sl vs) (b.items.drop i) st2 = some (ys, st0) ∧ ys0 = acc ++ ys, ⟨_, ι1, st1, [], [], ys0, (Ext.refl _ _).putO hD, upd_same, nD, .nil, ?_, Nat.le_refl _, Nat.zero_le _, rfl, hl, rfl⟩, ?_⟩
    · exact ⟨r1.len, r1.nd, fun i a o h1 h2 => by
        obtain ⟨ho, h3, h4⟩ := r1.ob i a o h1 h2
        exact ⟨ho, by rw [upd_ne (ne_of_none h3 hD)]; exact h3, h4.mono ((Ext.refl _ _).putO hD)⟩, fun q z => (r1.hot q z).ext (ι := ι1) ((Ext.refl _ _).putO hD).toExt0⟩
    rintro i mm H2 ⟨ι2, st2, acc, vacc, ys, e2, hD2, nD2, ra, r2, hal, hi, rfl, hf, rfl⟩
    cases hd : b.items.drop i with
    | nil =>
      rw [hd] at hf
      have hf2 : (if Live b.live b.items st2 then some ([], st2) else none) = some (ys, st0) := hf
      by_cases hlv : Live b.live b.items st2
      case neg => rw [if_neg hlv] at hf2; cases hf2
      rw [if_pos hlv] at hf2
      obtain ⟨rfl, rfl⟩ := Prod.mk.inj (Option.some.inj hf2)
      have hi2 : b.items.length ≤ i := by
        have := congrArg List.length hd
        rw [List.length_drop, List.length_nil] at this
        omega
      refine .inl ⟨(ok ι2 H2 st2 i e2.toExt0 r2 hlv).2 hi2, ?_⟩
      rw [List.append_nil] at hq1
      exact hq1 _ _ _ (e2.join hD) (r2.join hD2 nD2 (show RO W ι2 H2 (.lst acc) (.lst vacc) from ra)) (.ref (by rw [← r2.len]; simp))
    | cons x xs =>
      rw [hd] at hf
      have hf2 : (if Live b.live b.items st2 then (match g x (wipeL sl vs) st2 with
        | none => none
        | some (sl1, st1) => match mt sl1 st1 with
          | some (.ok true st2) => (match me sl1 st2 with
            | some (.ok y st3) => (match lcL b.live b.items g mt me (wipeL sl vs) xs st3 with
              | some (ys, st4) => some (y :: ys, st4)
              | none => none)
            | _ => none)
          | some (.ok false st2) => lcL b.live b.items g mt me (wipeL sl vs) xs st2
          | _ => none) else none) = some (ys, st0) := hf
      by_cases hlv : Live b.live b.items st2
      case neg => rw [if_neg hlv] at hf2; cases hf2
      rw [if_pos hlv] at hf2
      have hx : b.items[i]? = some x := by
        have h0 := List.getElem?_drop (xs := b.items) (i := i) (j := 0)
        rw [hd] at h0
        simpa using h0.symm
      have hxs : b.items.drop (i + 1) = xs := by
        rw [← List.drop_drop, hd]
        rfl
      have hil : i < b.items.length := (List.getElem?_eq_some_iff.mp hx).1
      obtain ⟨hgo, hy⟩ := (ok ι2 H2 st2 i e2.toExt0 r2 hlv).1 x hx
      refine .inr ⟨hgo, fun H' => ∃ ι3 st3 acc3 vacc3 ys3, Ext ι1 H1 ι3 H' ∧ H' D = some (.lst vacc3) ∧ (∀ i : Nat, ι3[i]? ≠ some D) ∧ RVs W.K ι3 H' acc3 vacc3 ∧ Rel W ι3 H' st3 ∧ acc3.length ≤ i + 1 ∧
        lcL b.live b.items g mt me (wipeL sl vs) xs st3 = some (ys3, st0) ∧ acc ++ ys = acc3 ++ ys3, ?_, fun y H3 hyl => ?_⟩
      · rintro H' ⟨ι3, st3, acc3, vacc3, ys3, h1, h2, h3, h4, h5, h6, h7, h8⟩
        exact ⟨b.items.length - (i + 1), by omega, ι3, st3, acc3, vacc3, ys3, h1, h2, h3, h4, h5, h6, hil, rfl, by rw [hxs]; exact h7, h8⟩
      obtain ⟨e3, r3, ry⟩ := hy y H3 hyl
      cases h5 : g x (wipeL sl vs) st2 with
      | none => rw [h5] at hf2; cases hf2
      | some p =>
        obtain ⟨sl4, st4⟩ := p
        rw [h5] at hf2
        refine ⟨ι2, wipeL sl vs, st2, x, sl4, st4, sw.mono (e2.trans e3), r3, ry, h5, fun ι4 H4 σ4 e4 r4 s4 w4 => ⟨by rw [w4, wipe_wipe], ?_⟩⟩
        have hf3 : (match mt sl4 st4 with
          | some (.ok true st2) => (match me sl4 st2 with
            | some (.ok y st3) => (match lcL b.live b.items g mt me (wipeL sl vs) xs st3 with
              | some (ys, st4) => some (y :: ys, st4)
              | none => none)
            | _ => none)
          | some (.ok false st2) => lcL b.live b.items g mt me (wipeL sl vs) xs st2
          | _ => none) = some (ys, st0) := hf2
        have e24 : Ext ι2 H2 ι4 H4 := e3.trans e4
        obtain ⟨hD4, nD4⟩ := e24.oth D _ hD2 nD2
        cases h6 : mt sl4 st4 with
        | none => rw [h6] at hf3; cases hf3
        | some r6 =>
          rw [h6] at hf3
          cases r6 with
          | ex c st5 => cases hf3
          | ok bb st5 =>
            refine ⟨ι4, sl4, st4, _, s4, r4, h6, fun ι5 H5 bb' e5 r5 hb => ?_⟩
            subst hb
            obtain ⟨hD5, nD5⟩ := e5.oth D _ hD4 nD4
            have ra5 := ra.mono (e24.trans e5)
            cases bb with
            | false =>
              exact ⟨ι5, st5, acc, vacc, ys, (e2.trans e24).trans e5, hD5, nD5, ra5, r5, by omega, hf3, rfl⟩
            | true =>
              have hf4 : (match me sl4 st5 with
                | some (.ok y st3) => (match lcL b.live b.items g mt me (wipeL sl vs) xs st3 with
                  | some (ys, st4) => some (y :: ys, st4)
                  | none => none)
                | _ => none) = some (ys, st0) := hf3
              cases h7 : me sl4 st5 with
              | none => rw [h7] at hf4; cases hf4
              | some r7 =>
                rw [h7] at hf4
                cases r7 with
                | ex c st6 => cases hf4
                | ok z st6 =>
                  have hf5 : (match lcL b.live b.items g mt me (wipeL sl vs) xs st6 with | some (ys, st4) => some (z :: ys, st4) | none => none) = some (ys, st0) := hf4
                  cases h8 : lcL b.live b.items g mt me (wipeL sl vs) xs st6 with
                  | none => rw [h8] at hf5; cases hf5
                  | some q =>
                    obtain ⟨ys6, st7⟩ := q
                    rw [h8] at hf5
                    cases hf5
                    refine ⟨ι5, sl4, st5, _, s4.mono e5, r5, h7, fun ι6 H6 vz e6 r6 rz => ?_⟩
                    obtain ⟨hD6, nD6⟩ := e6.oth D _ hD5 nD5
                    have ra6 := ra5.mono e6
                    have hv : vacc.length < sizeLine := by
                      rw [← ra.len, ← line_eq]
                      omega
                    exact ⟨vacc, hD6, hv, ι6, st6, acc ++ [z], vacc ++ [vz], ys6, (((e2.trans e24).trans e5).trans e6).putO hD, upd_same, nD6, (ra6.app (.cons rz .nil)).mono0 (Ext0.putO hD6), r6.putO hD6 nD6, by rw [List.length_append, List.length_singleton]; omega, h8,
                      by rw [List.append_assoc]; rfl⟩
theorem Ctx.blk (C : Ctx W k X Ew) (s : Shared) (H : Hp) (sc : Scope) (ce : PySem.Env) (fp : List Addr) : Ctx W k (X.blk s H sc ce fp) E00 :=
  ⟨⟨C.eP, C.ew, C.eK, C.em, C.eb, takes0, C.rmu, C.nd, PassesOwn.never⟩, C.rm, C.calm⟩
theorem se_lc {tg iter : Expr} {ifs : List Expr} {scope : Scope} {own : List (Str × Nat)} {mi : FI} {g : FG} (C : Ctx W k X Ew) (hi : SI W X Ew tg iter mi) (ok : BlkOk X.N X.env.scope scope own)
    (hg : ∀ (s : Shared) (H : Hp) (c : Addr) (cl : List (Str × Addr)) (fp : List Addr), SGw W (X.blk s H scope (compEnvC scope cl c X.env) fp) (own.map (·.2)) tg g)
    (ht : ∀ (s : Shared) (H : Hp) (c : Addr) (cl : List (Str × Addr)) (fp : List Addr), STs W (X.blk s H scope (compEnvC scope cl c X.env) fp) ifs mt)
    (he : ∀ (s : Shared) (H : Hp) (c : Addr) (cl : List (Str × Addr)) (fp : List Addr), SE W (X.blk s H scope (compEnvC scope cl c X.env) fp) E00 e me)
    (h1 : ∀ x, foldedSetIterable iter X.env x = pure x := by intro _; rfl) : SE W X Ew (.ListComp e [⟨tg, iter, ifs, 0⟩] scope pos) (fLc mi g mt me (own.map (·.2))) :=
  imE (pe_lc C.calm C.nd hi ok hg ht he h1) fun σ H Q h => lc_imp h
theorem ss_setLc (i : Nat) {y : Str} {py : Pos} {tg iter : Expr} {ifs : List Expr} {scope : Scope} {own : List (Str × Nat)} {spos : Pos} {mi : FI} {g : FG} (C : Ctx W k X Ew)
    (hsw : swapsWith (.ListComp e [⟨tg, iter, ifs, 0⟩] scope pos) (some (.Name y py)) spos.line X.env = pure true) (hi : SI W X Ew tg iter mi) (ok : BlkOk X.N X.env.scope scope own)
    (hg : ∀ (s : Shared) (H : Hp) (c : Addr) (cl : List (Str × Addr)) (fp : List Addr), SGw W (X.blk s H scope (compEnvC scope cl c X.env) fp) (own.map (·.2)) tg g)
    (ht : ∀ (s : Shared) (H : Hp) (c : Addr) (cl : List (Str × Addr)) (fp : List Addr), STs W (X.blk s H scope (compEnvC scope cl c X.env) fp) ifs mt)
    (he : ∀ (s : Shared) (H : Hp) (c : Addr) (cl : List (Str × Addr)) (fp : List Addr), SE W (X.blk s H scope (compEnvC scope cl c X.env) fp) E00 e me)
    (hy : X.N[i]? = some y := by rfl) (hyl : X.env.scope.names.lookup y = some .local := by rfl) (h1 : ∀ x, foldedSetIterable iter X.env x = pure x := by intro _; rfl) :
    SS W X Ew (.Assign [.Name y py] (.ListComp e [⟨tg, iter, ifs, 0⟩] scope pos) spos) (fSet i (fLc mi g mt me (own.map (·.2)))) :=
  imS (ps_setLc C.calm C.nd hy hyl hsw hi ok hg ht he h1) fun D σ H ⟨ι, sl, st, r, hs, hr, hm, hq⟩ =>
    lc_imp (runS (k := fun x => fun sl st => some (.nx (sl.set i (some x)) st)) hs hr hm hq fun x st1 ι1 H1 vx e1 s1 r1 rx hm1 hq1 => nx_of (s1.set rx i) r1 hm1 hq1)

/-! ### defs -/
def spOf (W : Wd) (F : FF) : Sp := fun vs H Q E => ∃ ι st as r, RVs W.K ι H as vs ∧ Rel W ι H st ∧ F as st = some r ∧ Pst W (fun ι H => RV W.K ι H) ι H r Q E
def runF (n N : Nat) (m : FS) : FF := fun as st => if as.length = n then (match m (as.map some ++ List.replicate (N - n) none) st with
  | some (.nx _ st') => some (.ok .non st')
  | some (.rt v st') => some (.ok v st')
  | some (.ex c _ st') => some (.ex c st')
  | _ => none) else none
structure Callee (W : Wd) (x : Str) (k : Nat) (F : FF) : Prop where
  ex : ∃ (f : Addr) (fd : FuncData) (ps : List Str), W.mg x = some (.ref f) ∧ PySem.W.keepIn W.K (.ref f) = true ∧ Binds W.K fd ps [] ∧ FnOk W.P W.w W.K W.mg W.base (L2.CX W.P W.w) k f fd ps (spOf W F)
/-- the def st stands at the module's name x -/
structure Has (W : Wd) (x : Str) (st : Stmt) : Prop where
  ex : ∃ (f : Addr) (fd : FuncData), W.mg x = some (.ref f) ∧ Fun W.K x x st f fd
/-- where the body of st runs -/
abbrev bX (W : Wd) (N : List Str) (qual : Str) (st : Stmt) (f : Addr) (cdv : Value) (A : Around) (outer : List PySem.Env) (s : Shared) (H : Hp) (E : XK) : Cx :=
  cxOf (L2.CX W.P W.w) W.P W.w W.K W.mg W.base N qual (defScope st) f cdv A outer s H E
theorem start_rl {ι : List Addr} {H : Hp} {as : List Val} {vs : List V} (N : List Str) (h : RVs W.K ι H as vs) : RL W.K ι H (as.map some ++ List.replicate (N.length - as.length) none) (L2.start N vs) := by
  refine ⟨by unfold L2.start; simp [h.len], fun i x q => ?_⟩
  by_cases hi : i < as.length
  · rw [List.getElem?_append_left (by simpa using hi), List.getElem?_map] at q
    cases h1 : as[i]? with
    | none => rw [h1] at q; cases q
    | some y =>
      rw [h1] at q
      cases q
      obtain ⟨v, h2, h3⟩ := h.at i h1
      refine ⟨v, ?_, h3⟩
      unfold L2.start
      rw [List.getElem?_append_left (by rw [List.length_map, ← h.len]; exact hi), List.getElem?_map, h2]
      rfl
  · rw [List.getElem?_append_right (by simpa using hi), List.getElem?_replicate] at q
    split at q <;> cases q
theorem fn_snd {x qual : Str} {st : Stmt} {f : Addr} {fd : FuncData} {N ps : List Str} (Fu : Fun W.K x qual st f fd) (S : FnScope N ps (defScope st))
    (hbody : ∀ (cdv : Value) (A : Around) (outer : List PySem.Env) (s : Shared) (H : Hp) (E : XK), Ctx W k (bX W N qual st f cdv A outer s H E) (fun c d _ H => E c d H) → SSs W (bX W N qual st f cdv A outer s H E) (fun c d _ H => E c d H) (defBody st) m) :
    FnOk W.P W.w W.K W.mg W.base (L2.CX W.P W.w) (k + 1) f fd ps (spOf W (runF ps.length N.length m)) := by
  refine Fu.okX S (fun vs H Q E h => ?_) fun cdv A outer s H vs Q E hr hsp => ?_
  · obtain ⟨ι, st, as, r, h1, h2, h3, h4⟩ := h
    unfold runF at h3
    split at h3
    · rename_i h5
      rw [← h1.len, h5]
    · cases h3
  · refine ⟨_, hbody cdv A outer s H E ⟨⟨rfl, rfl, rfl, rfl, rfl, takes_of rfl rfl rfl rfl, L2H.roomH_of hr, S.nd, passes_of rfl⟩, hr, rfl⟩, ?_⟩
    obtain ⟨ι, st, as, r, h1, h2, h3, h4⟩ := hsp
    unfold runF at h3
    split at h3
    case isFalse => cases h3
    rename_i h5
    have sr := start_rl N h1
    rw [h5] at sr
    cases h6 : m (as.map some ++ List.replicate (N.length - ps.length) none) st with
    | none => rw [h6] at h3; cases h3
    | some r6 =>
      rw [h6] at h3
      cases r6 with
      | nx sl' st' =>
        cases h3
        exact ⟨ι, _, st, _, sr, h2, h6, fun ι' H' σ' e r _ => h4 ι' H' _ e r .non⟩
      | rt v st' =>
        cases h3
        exact ⟨ι, _, st, _, sr, h2, h6, h4⟩
      | ex c sl' st' =>
        cases h3
        exact ⟨ι, _, st, _, sr, h2, h6, fun ι' H' σ' e r _ => h4 ι' H' e r⟩
      | bk _ _ => cases h3
      | ct _ _ => cases h3
theorem callee {x : Str} {st : Stmt} {N ps : List Str} (hh : Has W x st) (S : FnScope N ps (defScope st))
    (hb : ∀ (kV doc pm : Value) (an : Option Addr) (cdv ct : Value) (us : List Value), us.length = ps.length → bindArgs (PySem.W.fnOf x x (defArgs st) (defBody st) (defScope st) .none kV doc pm an cdv ct) ⟨us, []⟩ = pure (ps.zip us))
    (hbody : ∀ (f : Addr) (cdv : Value) (A : Around) (outer : List PySem.Env) (s : Shared) (H : Hp) (E : XK), Ctx W k (bX W N x st f cdv A outer s H E) (fun c d _ H => E c d H) → SSs W (bX W N x st f cdv A outer s H E) (fun c d _ H => E c d H) (defBody st) m) :
    Callee W x (k + 1) (runF ps.length N.length m) := by
  obtain ⟨f, fd, h1, h2⟩ := hh.ex
  exact ⟨f, fd, ps, h1, h2.kp, h2.binds hb, fn_snd h2 S (hbody f)⟩
theorem callee0 {x : Str} {st : Stmt} {ps : List Str} (hh : Has W x st)
    (hb : ∀ (kV doc pm : Value) (an : Option Addr) (cdv ct : Value) (us : List Value), us.length = ps.length → bindArgs (PySem.W.fnOf x x (defArgs st) (defBody st) (defScope st) .none kV doc pm an cdv ct) ⟨us, []⟩ = pure (ps.zip us)) : Callee W x k (fun _ _ => none) := by
  obtain ⟨f, fd, h1, h2⟩ := hh.ex
  have no : ∀ vs H Q E, spOf W (fun _ _ => none) vs H Q E → False := fun vs H Q E z => by
    obtain ⟨_, _, _, _, _, _, h, _⟩ := z
    cases h
  have F : FnOk W.P W.w W.K W.mg W.base (L2.CX W.P W.w) k f fd ps (spOf W (fun _ _ => none)) := ⟨fun vs H Q E z => (no vs H Q E z).elim, fun A outer s H args us vs Q E hr he hb hv z => (no vs H Q E z).elim⟩
  exact ⟨f, fd, ps, h1, h2.kp, h2.binds hb, F⟩
def fCallF (F : FF) (m : FA) : FE := bnd m fun xs => fun _ st => F xs st
theorem se_call {x : Str} {p : Pos} {j : Nat} {F : FF} (C : Ctx W k X Ew) (G : Callee W x j F) (hj : j ≤ k) (ha : SA W X Ew (e :: es) mas) (hg : Gl X x := by rfl) (hd : (x == ("__debug__" : Str)) = false := by decide)
    (h1 : starEach (e :: es) X.env = (false, eval e X.env) :: starEach es X.env := by rfl) (h2 : (backTo pos (starEach es X.env)).any (·.1) = false := by rfl) : SE W X Ew (.Call (.Name x p) (e :: es) [] pos) (fCallF F mas) := by
  obtain ⟨f, fd, ps, g1, g2, g3, g4⟩ := G.ex
  have g5 : FnOk X.prog X.w X.K X.mg X.base (L2.CX X.prog X.w) j f fd ps (spOf W F) := by
    rw [C.eP, C.ew, C.eK, C.em, C.eb]
    exact g4
  refine imE (pe_callS g5 (C.rm.mono hj) hg (by rw [C.em]; exact g1) (by rw [C.eK]; exact g2) (by rw [C.eK]; exact g3) (fun σ => passAt C.tk σ) ha hd h1 h2) fun σ H Q ⟨ι, sl, st, r, hs, hr, hm, hq⟩ => run hs hr hm hq fun xs st1 ι1 H1 vs e1 s1 r1 rx hm1 hq1 => ?_
  exact ⟨ι1, st1, xs, r, rx, r1, hm1, hq1⟩
end
end FL
/-! FL5: operations: numbers, texts, tuples, lists. -/
namespace FL
open PySem PySem.Spec PyProof.Rows L2

theorem st_app (a b : List Nat) : St' a ++ St' b = St' (a ++ b) := by
  show Str.mk (a.toArray ++ b.toArray) = _
  simp
theorem st_len (a : List Nat) : (St' a).length = a.length := by
  show a.toArray.size = _
  simp
theorem st_inj {a b : List Nat} (h : St' a = St' b) : a = b := by
  have := congrArg Str.cps h
  simpa using this
section
variable {W : Wd} {k : Nat} {X : Cx} {Ew : WX} {ι ι' : List Addr} {H H' : Hp} {st : Sto} {a b e : Expr} {es : List Expr} {ma mb me : FE} {mt mu : FT} {mas : FA} {pos : Pos}
theorem sz_of {n : Nat} (h : n ≤ LINE) : n ≤ sizeLine := by rw [← line_eq]; exact h

/-! ### + - * // % ** -/
def fAdd : O2
  | .int i, .int j, st => some (.int (i + j), st)
  | .str x, .str y, st => if x.length + y.length ≤ LINE then some (.str (x ++ y), st) else none
  | .tup xs, .tup ys, st => if xs.length + ys.length ≤ LINE then some (.tup (xs ++ ys), st) else none
  | .ref p, .ref q, st => match st[p]?, st[q]? with
    | some (.lst xs), some (.lst ys) => if xs.length + ys.length ≤ LINE then some (.ref st.length, st ++ [.lst (xs ++ ys)]) else none
    | _, _ => none
  | _, _, _ => none
theorem op_addF (C : Ctx0 W k X Ew) : OpR X (binaryOp .Add) (ro W fAdd) := opBy fun x y H Q ⟨ι, st, a, b, v, st', rx, ry, hr, hf, hq⟩ => by
  cases rx with
  | int i =>
    cases ry with
    | int j =>
      cases hf
      exact ⟨_, op_add, i, j, rfl, rfl, hq.here hr (.int _)⟩
    | _ => cases hf
  | str i =>
    cases ry with
    | str j =>
      have hf2 : (if i.length + j.length ≤ LINE then some (Val.str (i ++ j), st) else none) = some (v, st') := hf
      by_cases hl : i.length + j.length ≤ LINE
      case neg => rw [if_neg hl] at hf2; cases hf2
      rw [if_pos hl] at hf2
      cases hf2
      exact ⟨_, op_add_str, _, _, rfl, rfl, by rw [st_len, st_len]; exact sz_of hl, by rw [st_app]; exact hq.here hr (.str _)⟩
    | _ => cases hf
  | @tup p vs xs sx rxs =>
    cases ry with
    | @tup q ws ys sy rys =>
      have hf2 : (if xs.length + ys.length ≤ LINE then some (Val.tup (xs ++ ys), st) else none) = some (v, st') := hf
      by_cases hl : xs.length + ys.length ≤ LINE
      case neg => rw [if_neg hl] at hf2; cases hf2
      rw [if_pos hl] at hf2
      cases hf2
      refine ⟨_, op_catA, p, q, vs, ws, rfl, rfl, by rw [C.eK]; exact sx, by rw [C.eK]; exact sy, by rw [← rxs.len, ← rys.len]; exact sz_of hl, fun e => ?_, fun _ e => ?_, fun _ _ => ?_⟩
      · subst e
        cases rxs
        exact hq.here hr (.tup sy rys)
      · subst e
        cases rys
        rw [List.append_nil] at hq
        exact hq.here hr (.tup sx rxs)
      · exact hq.newT hr (rxs.app rys)
    | _ => cases hf
  | @ref i p h1 =>
    cases ry with
    | @ref j q h2 =>
      have hf2 : (match st[i]?, st[j]? with
        | some (.lst xs), some (.lst ys) => if xs.length + ys.length ≤ LINE then some (Val.ref st.length, st ++ [.lst (xs ++ ys)]) else none
        | _, _ => none) = some (v, st') := hf
      split at hf2
      · rename_i xs ys g1 g2
        by_cases hl : xs.length + ys.length ≤ LINE
        case neg => rw [if_neg hl] at hf2; cases hf2
        rw [if_pos hl] at hf2
        cases hf2
        obtain ⟨vs, g3, g4⟩ := hr.lst g1 h1
        obtain ⟨ws, g5, g6⟩ := hr.lst g2 h2
        exact ⟨_, op_cat, p, q, vs, ws, rfl, rfl, g3, g5, by rw [← g4.len, ← g6.len]; exact sz_of hl, hq.new hr (show RO W ι H (.lst (xs ++ ys)) (.lst (vs ++ ws)) from g4.app g6)⟩
      · cases hf2
    | _ => cases hf
  | _ => cases hf
def fSub : O2
  | .int i, .int j, st => some (.int (i - j), st)
  | _, _, _ => none
theorem op_subF : OpR X (binaryOp .Sub) (ro W fSub) := opBy fun x y H Q ⟨ι, st, a, b, v, st', rx, ry, hr, hf, hq⟩ => by
  cases rx with
  | int i =>
    cases ry with
    | int j =>
      cases hf
      exact ⟨_, op_sub, i, j, rfl, rfl, hq.here hr (.int _)⟩
    | _ => cases hf
  | _ => cases hf
def fMod : O2
  | .int i, .int j, st => if 0 < j then some (.int (i % j), st) else none
  | _, _, _ => none
theorem op_modF : OpR X (binaryOp .Mod) (ro W fMod) := opBy fun x y H Q ⟨ι, st, a, b, v, st', rx, ry, hr, hf, hq⟩ => by
  cases rx with
  | int i =>
    cases ry with
    | int j =>
      have hf2 : (if 0 < j then some (Val.int (i % j), st) else none) = some (v, st') := hf
      by_cases hl : 0 < j
      case neg => rw [if_neg hl] at hf2; cases hf2
      rw [if_pos hl] at hf2
      cases hf2
      exact ⟨_, op_mod, i, j, rfl, rfl, hl, hq.here hr (.int _)⟩
    | _ => cases hf
  | _ => cases hf
def fDiv : O2
  | .int i, .int j, st => if 0 < j ∧ j < 1073741824 then some (.int (i / j), st) else none
  | _, _, _ => none
theorem op_divF : OpR X (binaryOp .FloorDiv) (ro W fDiv) := opBy fun x y H Q ⟨ι, st, a, b, v, st', rx, ry, hr, hf, hq⟩ => by
  cases rx with
  | int i =>
    cases ry with
    | int j =>
      have hf2 : (if 0 < j ∧ j < 1073741824 then some (Val.int (i / j), st) else none) = some (v, st') := hf
      by_cases hl : 0 < j ∧ j < 1073741824
      case neg => rw [if_neg hl] at hf2; cases hf2
      rw [if_pos hl] at hf2
      cases hf2
      exact ⟨_, op_fdiv, i, j, rfl, rfl, hl, hq.here hr (.int _)⟩
    | _ => cases hf
  | _ => cases hf
def fPow : O2
  | .int i, .int j, st => if 0 ≤ j ∧ j ≤ 1000000 ∧ i.natAbs < 2 ^ 64 then some (.int (i ^ j.toNat), st) else none
  | _, _, _ => none
theorem op_powF : OpR X (binaryOp .Pow) (ro W fPow) := opBy fun x y H Q ⟨ι, st, a, b, v, st', rx, ry, hr, hf, hq⟩ => by
  cases rx with
  | int i =>
    cases ry with
    | int j =>
      have hf2 : (if 0 ≤ j ∧ j ≤ 1000000 ∧ i.natAbs < 2 ^ 64 then some (Val.int (i ^ j.toNat), st) else none) = some (v, st') := hf
      by_cases hl : 0 ≤ j ∧ j ≤ 1000000 ∧ i.natAbs < 2 ^ 64
      case neg => rw [if_neg hl] at hf2; cases hf2
      rw [if_pos hl] at hf2
      cases hf2
      exact ⟨_, op_pow, i, j, rfl, rfl, hl, hq.here hr (.int _)⟩
    | _ => cases hf
  | _ => cases hf
/-- a text so often -/
def reps {α : Type} (n : Nat) (l : List α) : List α := (List.replicate n l).flatten
def fMul : O2
  | .int i, .int j, st => if (-(2 ^ 64) < i ∧ i < 2 ^ 64) ∨ (-(2 ^ 64) < j ∧ j < 2 ^ 64) then some (.int (i * j), st) else none
  | .str x, .int j, st => if 0 ≤ j ∧ j ≤ 1000 ∧ x.length ≤ 1000 then some (.str (reps j.toNat x), st) else none
  | .tup xs, .int j, st => if 2 ≤ j ∧ j ≤ 1000 ∧ xs.length ≤ 1000 ∧ xs ≠ [] then some (.tup (reps j.toNat xs), st) else none
  | _, _, _ => none
theorem foldl_app (x : List Nat) : ∀ (n : Nat) (acc : Array Nat), (List.replicate n x.toArray).foldl (· ++ ·) acc = acc ++ (reps n x).toArray
  | 0, acc => by simp [reps]
  | n + 1, acc => by
    rw [List.replicate_succ, List.foldl_cons, foldl_app x n]
    simp [reps, List.replicate_succ, Array.append_assoc]
theorem op_mulS : OpR X (binaryOp .Mult) fun x y H Q => ∃ (l : List Nat) (n : Int), x = .str (St' l) ∧ y = .int n ∧ (0 ≤ n ∧ n ≤ 1000 ∧ l.length ≤ 1000) ∧ Q (.str (St' (reps n.toNat l))) H := by
  intro pins s σ H x y v u Q I rx ry h
  obtain ⟨l, n, rfl, rfl, ⟨h1, h2, h3⟩, q⟩ := h
  obtain ⟨t, rfl⟩ := rx
  obtain ⟨t', rfl⟩ := ry
  have hlen : (St' l).length = l.length := st_len l
  have ok : MulOk (St' l) n := by
    refine ⟨?_, fun hn hc => ?_, fun hn hc => ?_⟩
    · rw [decide_eq_false (by omega), decide_eq_false (by omega)]
      rfl
    · rw [hlen]
      intro hg
      have h5 : (2 ^ 63 - 1) / n ≥ (2 ^ 63 - 1) / 1000 := by
        have hn0 : 0 < n := by omega
        have : (2 ^ 63 - 1 : Int) / 1000 * n ≤ 2 ^ 63 - 1 := by
          have : (2 ^ 63 - 1 : Int) / 1000 * n ≤ (2 ^ 63 - 1 : Int) / 1000 * 1000 := Int.mul_le_mul_of_nonneg_left h2 (by decide)
          have h6 : (2 ^ 63 - 1 : Int) / 1000 * 1000 ≤ 2 ^ 63 - 1 := by decide
          omega
        exact (Int.le_ediv_iff_mul_le hn0).mpr this
      have h6 : (1000 : Int) ≤ (2 ^ 63 - 1) / 1000 := by decide
      omega
    · rw [hlen]
      have h7 : n.toNat ≤ 1000 := by omega
      have h8 : l.length * n.toNat ≤ 1000 * 1000 := Nat.mul_le_mul h3 h7
      show decide (_ > _) = false
      rw [decide_eq_false]
      have : (1000 * 1000 : Nat) ≤ sizeLine := by decide
      omega
  refine SB.mul ok fun t2 k2 => ?_
  refine ⟨.str (Txt.mul (St' l) n), H, I.tok k2, ⟨t2, rfl⟩, ?_⟩
  have e : Txt.mul (St' l) n = St' (reps n.toNat l) := by
    unfold Txt.mul
    split
    · rename_i h
      have : n.toNat = 0 := by omega
      rw [this]
      rfl
    · split
      · rename_i h4 h5
        have h6 : n = 1 ∨ l.length = 0 := by
          rw [hlen] at h5
          simpa using h5
        rcases h6 with rfl | h6
        · show St' l = St' (reps 1 l)
          simp [reps]
        · have : l = [] := List.eq_nil_of_length_eq_zero h6
          subst this
          simp [reps]
      · have := foldl_app l n.toNat #[]
        simp only [this, Array.empty_append]
  rw [e]
  exact q
theorem RVs.reps {xs : List Val} {vs : List V} (h : RVs W.K ι H xs vs) : ∀ n : Nat, RVs W.K ι H (reps n xs) (List.replicate n vs).flatten
  | 0 => .nil
  | n + 1 => by
    unfold FL.reps
    rw [List.replicate_succ, List.replicate_succ, List.flatten_cons, List.flatten_cons]
    exact h.app (RVs.reps h n)
theorem op_mulF (C : Ctx0 W k X Ew) : OpR X (binaryOp .Mult) (ro W fMul) := opBy fun x y H Q ⟨ι, st, a, b, v, st', rx, ry, hr, hf, hq⟩ => by
  cases rx with
  | int i =>
    cases ry with
    | int j =>
      have hf2 : (if (-(2 ^ 64) < i ∧ i < 2 ^ 64) ∨ (-(2 ^ 64) < j ∧ j < 2 ^ 64) then some (Val.int (i * j), st) else none) = some (v, st') := hf
      by_cases hl : (-(2 ^ 64) < i ∧ i < 2 ^ 64) ∨ (-(2 ^ 64) < j ∧ j < 2 ^ 64)
      case neg => rw [if_neg hl] at hf2; cases hf2
      rw [if_pos hl] at hf2
      cases hf2
      exact ⟨_, op_mul, i, j, rfl, rfl, hl, hq.here hr (.int _)⟩
    | _ => cases hf
  | str l =>
    cases ry with
    | int j =>
      have hf2 : (if 0 ≤ j ∧ j ≤ 1000 ∧ l.length ≤ 1000 then some (Val.str (reps j.toNat l), st) else none) = some (v, st') := hf
      by_cases hl : 0 ≤ j ∧ j ≤ 1000 ∧ l.length ≤ 1000
      case neg => rw [if_neg hl] at hf2; cases hf2
      rw [if_pos hl] at hf2
      cases hf2
      exact ⟨_, op_mulS, l, j, rfl, rfl, hl, hq.here hr (.str _)⟩
    | _ => cases hf
  | @tup p vs xs sx rxs =>
    cases ry with
    | int j =>
      have hf2 : (if 2 ≤ j ∧ j ≤ 1000 ∧ xs.length ≤ 1000 ∧ xs ≠ [] then some (Val.tup (reps j.toNat xs), st) else none) = some (v, st') := hf
      by_cases hl : 2 ≤ j ∧ j ≤ 1000 ∧ xs.length ≤ 1000 ∧ xs ≠ []
      case neg => rw [if_neg hl] at hf2; cases hf2
      rw [if_pos hl] at hf2
      cases hf2
      obtain ⟨l1, l2, l3, l4⟩ := hl
      refine ⟨_, op_repT, p, j, vs, rfl, rfl, by rw [C.eK]; exact sx, fun e => l4 ?_, l1, l2, by rw [← rxs.len]; exact l3, hq.newT hr (rxs.reps _)⟩
      subst e
      cases rxs
      rfl
    | _ => cases hf
  | _ => cases hf
def fNeg (m : FE) : FE := bnd m fun x => fun _ st => match x with
  | .int i => some (.ok (.int (-i)) st)
  | _ => none
theorem se_neg (ha : SE W X Ew a ma) : SE W X Ew (.UnaryOp .USub a pos) (fNeg ma) :=
  imE (pe_un un_neg ha) fun σ H Q ⟨ι, sl, st, r, hs, hr, hm, hq⟩ => run hs hr hm hq fun x st1 ι1 H1 vx e1 s1 r1 rx hm1 hq1 => by
    cases rx with
    | int i => exact ⟨i, rfl, ve_of (st := st1) (sl := sl) r1 (.int _) hm1 hq1⟩
    | _ => cases hm1

/-! ### order -/
def ltPr : List Val → List Val → Option Bool
  | [.int i, .int j], [.int m, .int n] => some (decide (i < m ∨ i = m ∧ j < n))
  | _, _ => none
def lePr : List Val → List Val → Option Bool
  | [.int i, .int j], [.int m, .int n] => some (decide (i < m ∨ i = m ∧ j ≤ n))
  | _, _ => none
def fLt : O2
  | .int i, .int j, st => some (.bl (decide (i < j)), st)
  | .str x, .str y, st => some (.bl (decide (x < y)), st)
  | .tup xs, .tup ys, st => (ltPr xs ys).map fun b => (.bl b, st)
  | _, _, _ => none
def fLe : O2
  | .int i, .int j, st => some (.bl (decide (i ≤ j)), st)
  | .str x, .str y, st => some (.bl (!decide (y < x)), st)
  | .tup xs, .tup ys, st => (lePr xs ys).map fun b => (.bl b, st)
  | _, _, _ => none
def fGt : O2 := fun a b => fLt b a
def fGe : O2 := fun a b => fLe b a
theorem lt_inv {xs ys : List Val} {r : Val × Sto} (h : fLt (.tup xs) (.tup ys) st = some r) : ∃ i j m n, xs = [.int i, .int j] ∧ ys = [.int m, .int n] ∧ r = (.bl (decide (i < m ∨ i = m ∧ j < n)), st) := by
  unfold fLt at h
  obtain ⟨b, h1, rfl⟩ := Option.map_eq_some_iff.mp h
  unfold ltPr at h1
  split at h1
  · cases h1
    exact ⟨_, _, _, _, rfl, rfl, rfl⟩
  · cases h1
theorem le_inv {xs ys : List Val} {r : Val × Sto} (h : fLe (.tup xs) (.tup ys) st = some r) : ∃ i j m n, xs = [.int i, .int j] ∧ ys = [.int m, .int n] ∧ r = (.bl (decide (i < m ∨ i = m ∧ j ≤ n)), st) := by
  unfold fLe at h
  obtain ⟨b, h1, rfl⟩ := Option.map_eq_some_iff.mp h
  unfold lePr at h1
  split at h1
  · cases h1
    exact ⟨_, _, _, _, rfl, rfl, rfl⟩
  · cases h1
theorem RVs.pair {i j : Int} {vs : List V} (h : RVs W.K ι H [.int i, .int j] vs) : vs = [.int i, .int j] := by
  cases h with
  | cons a b =>
    cases b with
    | cons c d =>
      cases d
      cases a
      cases c
      rfl
theorem eqAt_int {A : Around} {s : Shared} (a b : Int) (t u : Tok) : SeqAt.EqAt A s (.int a t) (.int b u) (decide (a = b)) := by
  have z : (a == b) = decide (a = b) := by
    by_cases q : a = b
    · rw [decide_eq_true q]
      exact beq_iff_eq.mpr q
    · rw [decide_eq_false q]
      exact beq_eq_false_iff_ne.mpr q
  rw [← z]
  exact SeqAt.EqAt.int_int _ _ _ _
def rPr (K : PySem.W.Frag) (f : Int → Int → Int → Int → Bool) : R2 := fun x y H Q => ∃ (a b : Addr) (i j m n : Int), x = .ref a ∧ y = .ref b ∧ SqT K H a [.int i, .int j] ∧ SqT K H b [.int m, .int n] ∧ Q (.bl (f i j m n)) H
theorem op_ltP (hu : X.A.units < cLine) : OpR X (compareOp .Lt) (rPr X.K fun i j m n => decide (i < m ∨ i = m ∧ j < n)) := by
  intro pins s σ H x y v u Q I rx ry h
  obtain ⟨a, b, i, j, m, n, rfl, rfl, ha, hb, q⟩ := h
  cases rx
  cases ry
  obtain ⟨l1, q1, t1, _⟩ := I.tuple ha
  obtain ⟨l2, q2, t2, _⟩ := I.tuple hb
  obtain ⟨u1, u2, rfl, k1, k2⟩ := vals2 q1
  obtain ⟨w1, w2, rfl, k3, k4⟩ := vals2 q2
  obtain ⟨c1, rfl⟩ := k1
  obtain ⟨c2, rfl⟩ := k2
  obtain ⟨c3, rfl⟩ := k3
  obtain ⟨c4, rfl⟩ := k4
  have R := Ob.RcOp.tuples_lt (A := X.A) (s := s) (e := fun c => match c with | 0 => decide (i = m) | _ => decide (j = n)) (r := fun c => match c with | 0 => decide (i < m) | _ => decide (j < n)) t1 t2 hu
    (fun c h1 h2 => match c, h1, h2 with | 0, _, _ => eqAt_int _ _ _ _ | 1, _, _ => eqAt_int _ _ _ _)
    (fun c h1 h2 _ => match c, h1, h2 with | 0, _, _ => Ob.RcOp.lt_int _ _ _ _ | 1, _, _ => Ob.RcOp.lt_int _ _ _ _)
  have R2 := R X.prog X.w X.xe (EP X pins σ Q)
  refine R2 ⟨.bl (decide (i < m ∨ i = m ∧ j < n)), H, I, ?_, q⟩
  show Value.bool _ = Value.bool _
  refine congrArg Value.bool ?_
  show (if decide (i = m) = true then (if decide (j = n) = true then false else decide (j < n)) else decide (i < m)) = _
  by_cases e1 : i = m
  · subst e1
    rw [if_pos (decide_eq_true rfl)]
    by_cases e2 : j = n
    · subst e2
      rw [if_pos (decide_eq_true rfl)]
      exact (decide_eq_false (by omega)).symm
    · rw [if_neg (by rw [decide_eq_false e2]; decide)]
      exact decide_eq_decide.mpr (by omega)
  · rw [if_neg (by rw [decide_eq_false e1]; decide)]
    exact decide_eq_decide.mpr (by omega)
theorem op_leP (hu : X.A.units < cLine) : OpR X (compareOp .LtE) (rPr X.K fun i j m n => decide (i < m ∨ i = m ∧ j ≤ n)) := by
  intro pins s σ H x y v u Q I rx ry h
  obtain ⟨a, b, i, j, m, n, rfl, rfl, ha, hb, q⟩ := h
  cases rx
  cases ry
  obtain ⟨l1, q1, t1, _⟩ := I.tuple ha
  obtain ⟨l2, q2, t2, _⟩ := I.tuple hb
  obtain ⟨u1, u2, rfl, k1, k2⟩ := vals2 q1
  obtain ⟨w1, w2, rfl, k3, k4⟩ := vals2 q2
  obtain ⟨c1, rfl⟩ := k1
  obtain ⟨c2, rfl⟩ := k2
  obtain ⟨c3, rfl⟩ := k3
  obtain ⟨c4, rfl⟩ := k4
  have R := Ob.RcOp.tuples_le (A := X.A) (s := s) (e := fun c => match c with | 0 => decide (i = m) | _ => decide (j = n)) (r := fun c => match c with | 0 => decide (i ≤ m) | _ => decide (j ≤ n)) t1 t2 hu
    (fun c h1 h2 => match c, h1, h2 with | 0, _, _ => eqAt_int _ _ _ _ | 1, _, _ => eqAt_int _ _ _ _)
    (fun c h1 h2 _ => match c, h1, h2 with | 0, _, _ => Ob.RcOp.le_int _ _ _ _ | 1, _, _ => Ob.RcOp.le_int _ _ _ _)
  have R2 := R X.prog X.w X.xe (EP X pins σ Q)
  refine R2 ⟨.bl (decide (i < m ∨ i = m ∧ j ≤ n)), H, I, ?_, q⟩
  show Value.bool _ = Value.bool _
  refine congrArg Value.bool ?_
  show (if decide (i = m) = true then (if decide (j = n) = true then true else decide (j ≤ n)) else decide (i ≤ m)) = _
  by_cases e1 : i = m
  · subst e1
    rw [if_pos (decide_eq_true rfl)]
    by_cases e2 : j = n
    · subst e2
      rw [if_pos (decide_eq_true rfl)]
      exact (decide_eq_true (by omega)).symm
    · rw [if_neg (by rw [decide_eq_false e2]; decide)]
      exact decide_eq_decide.mpr (by omega)
  · rw [if_neg (by rw [decide_eq_false e1]; decide)]
    exact decide_eq_decide.mpr (by omega)
theorem op_gtP (hu : X.A.units < cLine) : OpR X (compareOp .Gt) (rPr X.K fun i j m n => decide (m < i ∨ m = i ∧ n < j)) := by
  intro pins s σ H x y v u Q I rx ry h
  obtain ⟨a, b, i, j, m, n, rfl, rfl, ha, hb, q⟩ := h
  cases rx
  cases ry
  obtain ⟨l1, q1, t1, _⟩ := I.tuple ha
  obtain ⟨l2, q2, t2, _⟩ := I.tuple hb
  obtain ⟨u1, u2, rfl, k1, k2⟩ := vals2 q1
  obtain ⟨w1, w2, rfl, k3, k4⟩ := vals2 q2
  obtain ⟨c1, rfl⟩ := k1
  obtain ⟨c2, rfl⟩ := k2
  obtain ⟨c3, rfl⟩ := k3
  obtain ⟨c4, rfl⟩ := k4
  have R := Ob.RcOp.tuples_gt (A := X.A) (s := s) (e := fun c => match c with | 0 => decide (i = m) | _ => decide (j = n)) (r := fun c => match c with | 0 => decide (m < i) | _ => decide (n < j)) t1 t2 hu
    (fun c h1 h2 => match c, h1, h2 with | 0, _, _ => eqAt_int _ _ _ _ | 1, _, _ => eqAt_int _ _ _ _)
    (fun c h1 h2 _ => match c, h1, h2 with | 0, _, _ => Ob.RcOp.gt_int _ _ _ _ | 1, _, _ => Ob.RcOp.gt_int _ _ _ _)
  have R2 := R X.prog X.w X.xe (EP X pins σ Q)
  refine R2 ⟨.bl (decide (m < i ∨ m = i ∧ n < j)), H, I, ?_, q⟩
  show Value.bool _ = Value.bool _
  refine congrArg Value.bool ?_
  show (if decide (i = m) = true then (if decide (j = n) = true then false else decide (n < j)) else decide (m < i)) = _
  by_cases e1 : i = m
  · subst e1
    rw [if_pos (decide_eq_true rfl)]
    by_cases e2 : j = n
    · subst e2
      rw [if_pos (decide_eq_true rfl)]
      exact (decide_eq_false (by omega)).symm
    · rw [if_neg (by rw [decide_eq_false e2]; decide)]
      exact decide_eq_decide.mpr (by omega)
  · rw [if_neg (by rw [decide_eq_false e1]; decide)]
    exact decide_eq_decide.mpr (by omega)
theorem op_geP (hu : X.A.units < cLine) : OpR X (compareOp .GtE) (rPr X.K fun i j m n => decide (m < i ∨ m = i ∧ n ≤ j)) := by
  intro pins s σ H x y v u Q I rx ry h
  obtain ⟨a, b, i, j, m, n, rfl, rfl, ha, hb, q⟩ := h
  cases rx
  cases ry
  obtain ⟨l1, q1, t1, _⟩ := I.tuple ha
  obtain ⟨l2, q2, t2, _⟩ := I.tuple hb
  obtain ⟨u1, u2, rfl, k1, k2⟩ := vals2 q1
  obtain ⟨w1, w2, rfl, k3, k4⟩ := vals2 q2
  obtain ⟨c1, rfl⟩ := k1
  obtain ⟨c2, rfl⟩ := k2
  obtain ⟨c3, rfl⟩ := k3
  obtain ⟨c4, rfl⟩ := k4
  have R := Ob.RcOp.tuples_ge (A := X.A) (s := s) (e := fun c => match c with | 0 => decide (i = m) | _ => decide (j = n)) (r := fun c => match c with | 0 => decide (m ≤ i) | _ => decide (n ≤ j)) t1 t2 hu
    (fun c h1 h2 => match c, h1, h2 with | 0, _, _ => eqAt_int _ _ _ _ | 1, _, _ => eqAt_int _ _ _ _)
    (fun c h1 h2 _ => match c, h1, h2 with | 0, _, _ => Ob.RcOp.ge_int _ _ _ _ | 1, _, _ => Ob.RcOp.ge_int _ _ _ _)
  have R2 := R X.prog X.w X.xe (EP X pins σ Q)
  refine R2 ⟨.bl (decide (m < i ∨ m = i ∧ n ≤ j)), H, I, ?_, q⟩
  show Value.bool _ = Value.bool _
  refine congrArg Value.bool ?_
  show (if decide (i = m) = true then (if decide (j = n) = true then true else decide (n ≤ j)) else decide (m ≤ i)) = _
  by_cases e1 : i = m
  · subst e1
    rw [if_pos (decide_eq_true rfl)]
    by_cases e2 : j = n
    · subst e2
      rw [if_pos (decide_eq_true rfl)]
      exact (decide_eq_true (by omega)).symm
    · rw [if_neg (by rw [decide_eq_false e2]; decide)]
      exact decide_eq_decide.mpr (by omega)
  · rw [if_neg (by rw [decide_eq_false e1]; decide)]
    exact decide_eq_decide.mpr (by omega)
theorem op_ltF (C : Ctx0 W k X Ew) : OpR X (compareOp .Lt) (ro W fLt) := opBy fun x y H Q ⟨ι, st, a, b, v, st', rx, ry, hr, hf, hq⟩ => by
  cases rx with
  | int i =>
    cases ry with
    | int j =>
      cases hf
      exact ⟨_, op_lt, i, j, rfl, rfl, hq.here hr (.bl _)⟩
    | _ => cases hf
  | str i =>
    cases ry with
    | str j =>
      cases hf
      exact ⟨_, op_lt_str, _, _, rfl, rfl, hq.here hr (.bl _)⟩
    | _ => cases hf
  | tup s1 q1 =>
    cases ry with
    | tup s2 q2 =>
      obtain ⟨a, b, c, d, rfl, rfl, e⟩ := lt_inv hf
      cases e
      rw [RVs.pair q1] at s1
      rw [RVs.pair q2] at s2
      exact ⟨_, op_ltP (Nat.lt_of_le_of_lt (Nat.le_add_right _ 1) C.hu1), _, _, a, b, c, d, rfl, rfl, by rw [C.eK]; exact s1, by rw [C.eK]; exact s2, hq.here hr (.bl _)⟩
    | _ => cases hf
  | _ => cases hf
theorem op_leF (C : Ctx0 W k X Ew) : OpR X (compareOp .LtE) (ro W fLe) := opBy fun x y H Q ⟨ι, st, a, b, v, st', rx, ry, hr, hf, hq⟩ => by
  cases rx with
  | int i =>
    cases ry with
    | int j =>
      cases hf
      exact ⟨_, op_le, i, j, rfl, rfl, hq.here hr (.bl _)⟩
    | _ => cases hf
  | str i =>
    cases ry with
    | str j =>
      cases hf
      exact ⟨_, op_le_str, _, _, rfl, rfl, hq.here hr (.bl _)⟩
    | _ => cases hf
  | tup s1 q1 =>
    cases ry with
    | tup s2 q2 =>
      obtain ⟨a, b, c, d, rfl, rfl, e⟩ := le_inv hf
      cases e
      rw [RVs.pair q1] at s1
      rw [RVs.pair q2] at s2
      exact ⟨_, op_leP (Nat.lt_of_le_of_lt (Nat.le_add_right _ 1) C.hu1), _, _, a, b, c, d, rfl, rfl, by rw [C.eK]; exact s1, by rw [C.eK]; exact s2, hq.here hr (.bl _)⟩
    | _ => cases hf
  | _ => cases hf
theorem op_gtF (C : Ctx0 W k X Ew) : OpR X (compareOp .Gt) (ro W fGt) := opBy fun x y H Q ⟨ι, st, a, b, v, st', rx, ry, hr, hf, hq⟩ => by
  cases ry with
  | int i =>
    cases rx with
    | int j =>
      cases hf
      exact ⟨_, op_gt, j, i, rfl, rfl, hq.here hr (.bl _)⟩
    | _ => cases hf
  | str i =>
    cases rx with
    | str j =>
      cases hf
      exact ⟨_, op_gt_str, _, _, rfl, rfl, hq.here hr (.bl _)⟩
    | _ => cases hf
  | tup s1 q1 =>
    cases rx with
    | tup s2 q2 =>
      obtain ⟨a, b, c, d, rfl, rfl, e⟩ := lt_inv hf
      cases e
      rw [RVs.pair q1] at s1
      rw [RVs.pair q2] at s2
      exact ⟨_, op_gtP (Nat.lt_of_le_of_lt (Nat.le_add_right _ 1) C.hu1), _, _, c, d, a, b, rfl, rfl, by rw [C.eK]; exact s2, by rw [C.eK]; exact s1, hq.here hr (.bl _)⟩
    | _ => cases hf
  | _ => cases hf
theorem op_geF (C : Ctx0 W k X Ew) : OpR X (compareOp .GtE) (ro W fGe) := opBy fun x y H Q ⟨ι, st, a, b, v, st', rx, ry, hr, hf, hq⟩ => by
  cases ry with
  | int i =>
    cases rx with
    | int j =>
      cases hf
      exact ⟨_, op_ge, j, i, rfl, rfl, hq.here hr (.bl _)⟩
    | _ => cases hf
  | str i =>
    cases rx with
    | str j =>
      cases hf
      exact ⟨_, op_ge_str, _, _, rfl, rfl, hq.here hr (.bl _)⟩
    | _ => cases hf
  | tup s1 q1 =>
    cases rx with
    | tup s2 q2 =>
      obtain ⟨a, b, c, d, rfl, rfl, e⟩ := le_inv hf
      cases e
      rw [RVs.pair q1] at s1
      rw [RVs.pair q2] at s2
      exact ⟨_, op_geP (Nat.lt_of_le_of_lt (Nat.le_add_right _ 1) C.hu1), _, _, c, d, a, b, rfl, rfl, by rw [C.eK]; exact s2, by rw [C.eK]; exact s1, hq.here hr (.bl _)⟩
    | _ => cases hf
  | _ => cases hf
/-- a < b < c -/
def fChain (f g : O2) (ma mb mc : FE) : FE := bnd ma fun x => bnd mb fun y => bnd (lft (f x y)) fun z => match z with
  | .bl true => bnd mc fun w => lft (g y w)
  | .bl false => fun _ st => some (.ok (.bl false) st)
  | _ => fun _ _ => none
theorem chain_imp {f g : O2} {mc : FE} {σ : L2.St} {Q : VK} (h : teOf W Ew (fChain f g ma mb mc) σ H Q) : tChain (ro W f) (ro W g) (teOf W Ew ma) (teOf W Ew mb) (teOf W Ew mc) σ H Q := by
  obtain ⟨ι, sl, st, r, hs, hr, hm, hq⟩ := h
  refine run hs hr hm hq fun x st1 ι1 H1 vx e1 s1 r1 rx hm1 hq1 => run s1 r1 hm1 hq1 fun y st2 ι2 H2 vy e2 s2 r2 ry hm2 hq2 => ?_
  unfold bnd at hm2
  cases h3 : lft (f x y) sl st2 with
  | none => rw [h3] at hm2; cases hm2
  | some r3 =>
    obtain ⟨z, st3, h4, rfl⟩ := lft_some h3
    rw [h3] at hm2
    refine ⟨ι2, st2, x, y, z, st3, rx.mono e2, ry, r2, h4, fun ι3 H3 vz e3 r3 rz => ?_⟩
    cases rz with
    | bl bz =>
      refine ⟨bz, rfl, ?_⟩
      cases bz with
      | true =>
        show teOf W Ew mc σ H3 _
        exact run (s2.mono e3) r3 hm2 (hq2.mono e3) fun w st4 ι4 H4 vw e4 s4 r4 rw' hm4 hq4 => ro_of (ry.mono (e3.trans e4)) rw' r4 hm4 hq4
      | false =>
        show Q (.bl false) H3
        cases hm2
        exact hq2 _ _ _ e3 r3 (.bl false)
    | _ => cases hm2
theorem se_chain {c : Expr} {op op' : CmpOp} {f g : O2} {mc : FE} (ho : OpR X (compareOp op) (ro W f)) (ho' : OpR X (compareOp op') (ro W g)) (ha : SE W X Ew a ma) (hb : SE W X Ew b mb) (hc : SE W X Ew c mc) (h : lastMarks [op, op'] [b, c] = false := by rfl) :
    SE W X Ew (.Compare a [op, op'] [b, c] pos) (fChain f g ma mb mc) := imE (pe_chain ho ho' ha hb hc h) fun σ H Q h => chain_imp h
theorem sc_chain {c : Expr} {op op' : CmpOp} {f g : O2} {mc : FE} (ho : OpR X (compareOp op) (ro W f)) (ho' : OpR X (compareOp op') (ro W g)) (ha : SE W X Ew a ma) (hb : SE W X Ew b mb) (hc : SE W X Ew c mc) (h : lastMarks [op, op'] [b, c] = false := by rfl) :
    SC W X Ew (.Compare a [op, op'] [b, c] pos) (fB (fChain f g ma mb mc)) := imT (pt_chain ho ho' ha hb hc h) fun σ H Q ⟨ι, sl, st, r, hs, hr, hm, hq⟩ =>
  chain_imp (run hs hr hm hq fun x st1 ι1 H1 vx e1 s1 r1 rx hm1 hq1 => fB_of rx r1 hm1 hq1)

/-! ### == -/
def mapO {α β : Type} (f : α → Option β) : List α → Option (List β)
  | [] => some []
  | x :: xs => match f x, mapO f xs with
    | some y, some ys => some (y :: ys)
    | _, _ => none
def toD : Nat → Sto → Val → Option PyData
  | 0, _, _ => none
  | n + 1, st, v => match v with
    | .non => some .none
    | .bl b => some (.bool b)
    | .int i => some (.int i)
    | .str s => some (.str (St' s))
    | .tup xs => (mapO (toD n st) xs).map .tuple
    | .ref i => match st[i]? with
      | some (.lst xs) => (mapO (toD n st) xs).map .list
      | _ => none
    | .scr ns => some (.list (ns.map .int))
    | _ => none
theorem dpAll {f : Val → Option PyData} (h : ∀ x v d, f x = some d → RV W.K ι H x v → Dp W.K H v d) : ∀ {xs : List Val} {vs : List V} {ds : List PyData}, mapO f xs = some ds → RVs W.K ι H xs vs → DpAll W.K H vs ds
  | _, _, _, hm, .nil => by
    cases hm
    exact .nil
  | _, _, _, hm, .cons rx rxs => by
    rename_i x v xs vs ds
    unfold mapO at hm
    split at hm
    · rename_i y ys h1 h2
      cases hm
      exact .cons (h _ _ _ h1 rx) (dpAll h h2 rxs)
    · cases hm
theorem dpInts : ∀ ns : List Int, DpAll W.K H (ns.map V.int) (ns.map PyData.int)
  | [] => .nil
  | n :: ns => .cons (.int n) (dpInts ns)
theorem toD_dp (r : Rel W ι H st) : ∀ (n : Nat) (x : Val) (v : V) (d : PyData), toD n st x = some d → RV W.K ι H x v → Dp W.K H v d
  | 0, _, _, _, h, _ => by cases h
  | n + 1, x, v, d, h, rx => by
    cases rx with
    | non => cases h; exact .non
    | bl b => cases h; exact .bl b
    | int i => cases h; exact .int i
    | str s => cases h; exact .str _
    | @tup p vs xs sx rxs =>
      have h2 : (mapO (toD n st) xs).map PyData.tuple = some d := h
      obtain ⟨ds, h3, rfl⟩ := Option.map_eq_some_iff.mp h2
      exact .tup sx (dpAll (fun x v d => toD_dp r n x v d) h3 rxs)
    | @ref i p h1 =>
      have h2 : (match st[i]? with | some (.lst xs) => (mapO (toD n st) xs).map PyData.list | _ => none) = some d := h
      split at h2
      · rename_i xs h3
        obtain ⟨ds, h4, rfl⟩ := Option.map_eq_some_iff.mp h2
        obtain ⟨vs, h5, h6⟩ := r.lst h3 h1
        exact .lst (SqL.of h5) (dpAll (fun x v d => toD_dp r n x v d) h4 h6)
      · cases h2
    | scr h1 => cases h; exact .lst h1.sq (dpInts _)
    | _ => cases h
def fEqB (a b : Val) (st : Sto) : Option Bool := match toD 9 st a, toD 9 st b with
  | some d, some e => if SeqAt.shaped d = true ∧ SeqAt.shaped e = true then some (PyData.eqv d e) else none
  | _, _ => none
def fEq : O2 := fun a b st => (fEqB a b st).map fun c => (.bl c, st)
def fNe : O2 := fun a b st => (fEqB a b st).map fun c => (.bl (!c), st)
theorem eqB_dp {x y : Val} {vx vy : V} {c : Bool} (r : Rel W ι H st) (h : fEqB x y st = some c) (rx : RV W.K ι H x vx) (ry : RV W.K ι H y vy) : ∃ d e, Dp W.K H vx d ∧ Dp W.K H vy e ∧ SeqAt.shaped d = true ∧ SeqAt.shaped e = true ∧ PyData.eqv d e = c := by
  unfold fEqB at h
  split at h
  · rename_i d e h1 h2
    split at h
    · rename_i h3
      cases h
      exact ⟨d, e, toD_dp r _ _ _ _ h1 rx, toD_dp r _ _ _ _ h2 ry, h3.1, h3.2, rfl⟩
    · cases h
  · cases h
theorem op_eqF (C : Ctx0 W k X Ew) : OpR X (compareOp .Eq) (ro W fEq) := opBy fun x y H Q ⟨ι, st, a, b, v, st', rx, ry, hr, hf, hq⟩ => by
  obtain ⟨c, h1, h2⟩ := Option.map_eq_some_iff.mp hf
  cases h2
  obtain ⟨d, e, g1, g2, g3, g4, rfl⟩ := eqB_dp hr h1 rx ry
  exact ⟨_, op_eqD C.hu, d, e, by rw [C.eK]; exact g1, by rw [C.eK]; exact g2, g3, g4, hq.here hr (.bl _)⟩
theorem op_neF (C : Ctx0 W k X Ew) : OpR X (compareOp .NotEq) (ro W fNe) := opBy fun x y H Q ⟨ι, st, a, b, v, st', rx, ry, hr, hf, hq⟩ => by
  obtain ⟨c, h1, h2⟩ := Option.map_eq_some_iff.mp hf
  cases h2
  obtain ⟨d, e, g1, g2, g3, g4, rfl⟩ := eqB_dp hr h1 rx ry
  exact ⟨_, op_neD C.hu, d, e, by rw [C.eK]; exact g1, by rw [C.eK]; exact g2, g3, g4, hq.here hr (.bl _)⟩
end
end FL
/-! FL6: subscripts, slices, built-ins, methods of lists and texts, what is walked. -/
namespace FL
open PySem PySem.Spec PyProof.Rows L2

section
variable {W : Wd} {k : Nat} {X : Cx} {Ew : WX} {ι ι' : List Addr} {H H' : Hp} {st : Sto} {a b c e : Expr} {es : List Expr} {ma mb me : FE} {mt mu : FT} {mas : FA} {pos : Pos}

/-! ### dicts: keys are ints and texts -/
def keyOf : Val → Option Key
  | .int i => some (.inl i)
  | .str s => some (.inr (St' s))
  | _ => none
def getK {α : Type} (kvs : List (Key × α)) (k : Key) : Option α := (kvs.find? fun kv => decide (kv.1 = k)).map (·.2)
def setK {α : Type} (kvs : List (Key × α)) (k : Key) (v : α) : List (Key × α) :=
  if (kvs.any fun kv => decide (kv.1 = k)) = true then kvs.map (fun kv => if kv.1 = k then (kv.1, v) else kv) else kvs ++ [(k, v)]
def delK {α : Type} (kvs : List (Key × α)) (k : Key) : List (Key × α) := kvs.filter fun kv => decide (kv.1 ≠ k)
abbrev DP (K : PySem.W.Frag) (ι : List Addr) (H : Hp) : List (Key × Val) → List (Key × V) → Prop := Paired fun p q => p.1 = q.1 ∧ RV K ι H p.2 q.2
theorem keyOf_V {x : Val} {v : V} {k : Key} (h : keyOf x = some k) (r : RV W.K ι H x v) : v = kV k := by
  cases r <;> first
    | (cases h; rfl)
    | cases h
theorem DP.get {kvs : List (Key × Val)} {ms : List (Key × V)} (r : DP W.K ι H kvs ms) (k : Key) : (getK kvs k = none ∧ valV ms k = none) ∨ ∃ x v, getK kvs k = some x ∧ valV ms k = some v ∧ RV W.K ι H x v := by
  induction r with
  | nil => exact .inl ⟨rfl, rfl⟩
  | @cons p q ps qs h t ih =>
    obtain ⟨e, rv⟩ := h
    by_cases hk : p.1 = k
    · refine .inr ⟨p.2, q.2, by simp [getK, List.find?_cons, hk], ?_, rv⟩
      rw [valV_pos (by rw [← e]; exact hk)]
    · have h1 : getK (p :: ps) k = getK ps k := by simp [getK, List.find?_cons, hk]
      rw [h1, valV_neg (by rw [← e]; exact hk)]
      exact ih
theorem DP.len {kvs : List (Key × Val)} {ms : List (Key × V)} (r : DP W.K ι H kvs ms) : kvs.length = ms.length := Paired.length r
theorem DP.app {kvs lvs : List (Key × Val)} {ms ns : List (Key × V)} (r : DP W.K ι H kvs ms) (q : DP W.K ι H lvs ns) : DP W.K ι H (kvs ++ lvs) (ms ++ ns) := by
  induction r with
  | nil => exact q
  | cons h t ih => exact .cons h ih
theorem DP.any {kvs : List (Key × Val)} {ms : List (Key × V)} (r : DP W.K ι H kvs ms) (k : Key) : (kvs.any fun kv => decide (kv.1 = k)) = (ms.any fun kv => decide (kv.1 = k)) := by
  induction r with
  | nil => rfl
  | cons h t ih => rw [List.any_cons, List.any_cons, ih, h.1]
theorem DP.repl {kvs : List (Key × Val)} {ms : List (Key × V)} (r : DP W.K ι H kvs ms) (k : Key) {x : Val} {v : V} (rx : RV W.K ι H x v) : DP W.K ι H (kvs.map fun kv => if kv.1 = k then (kv.1, x) else kv) (ms.map fun kv => if kv.1 = k then (kv.1, v) else kv) := by
  induction r with
  | nil => exact .nil
  | @cons p q ps qs h t ih =>
    rw [List.map_cons, List.map_cons]
    refine .cons ?_ ih
    rw [← h.1]
    by_cases hk : p.1 = k
    · rw [if_pos hk, if_pos hk]
      exact ⟨rfl, rx⟩
    · rw [if_neg hk, if_neg hk]
      exact h
theorem DP.put {kvs : List (Key × Val)} {ms : List (Key × V)} (r : DP W.K ι H kvs ms) (k : Key) {x : Val} {v : V} (rx : RV W.K ι H x v) : DP W.K ι H (setK kvs k x) (putK ms k v) := by
  unfold setK putK
  rw [r.any k]
  split
  · exact r.repl k rx
  · exact r.app (.cons ⟨rfl, rx⟩ .nil)
theorem DP.del {kvs : List (Key × Val)} {ms : List (Key × V)} (r : DP W.K ι H kvs ms) (k : Key) : DP W.K ι H (delK kvs k) (dropK ms k) := by
  induction r with
  | nil => exact .nil
  | @cons p q ps qs h t ih =>
    unfold delK dropK at ih ⊢
    rw [List.filter_cons, List.filter_cons, ← h.1]
    by_cases hk : p.1 = k
    · simp only [hk, ne_eq, not_true_eq_false, decide_false, Bool.false_eq_true, if_false]
      exact ih
    · simp only [hk, ne_eq, not_false_eq_true, decide_true, if_true]
      exact .cons h ih
theorem ix_dict (hu : X.A.units + 1 < cLine) : IxR X (fun x y H Q => ∃ a v, x = .ref a ∧ DGet H a y (some v) ∧ Q v H) := by
  intro value slice pins s σ H x y v u Q I rx ry ⟨a, w, e, g, q⟩ hs
  subst e
  obtain rfl : v = Value.ref a := rx
  exact tail_any (dict_typeIs I g) PySem.F.slot_dict_getitem.lookup (d_getItem hu I g ry fun w' s3 I3 rw' => ⟨w, H, I3, rw', q⟩) hs
theorem set_dict (hu : X.A.units + 1 < cLine) : PSet X (fun o i v H Q => ∃ a H', o = .ref a ∧ DPut H a i v H' ∧ Q H') := by
  intro pins s σ H o i v ov iv u Q I ro ri rv ⟨a, H', e, g, q⟩
  subst e
  obtain rfl : ov = Value.ref a := ro
  exact d_setItem hu I g ri rv fun s4 I4 => ⟨H', I4, q⟩

/-! ### xs[i] -/
def fIx : O2
  | .tup xs, .int i, st => (atI xs i).map fun v => (v, st)
  | .ref p, y, st => match st[p]? with
    | some (.lst xs) => (match y with
      | .int i => (atI xs i).map fun v => (v, st)
      | _ => none)
    | some (.dic kvs) => (keyOf y).bind fun k => (getK kvs k).map fun v => (v, st)
    | _ => none
  | .scr ns, .int i, st => (atI ns i).map fun n => (.int n, st)
  | .str s, .int i, st => if s.length ≤ LINE then (atI s i).map fun c => (.str [c], st) else none
  | _, _, _ => none
theorem RVs.atI {xs : List Val} {vs : List V} (h : RVs W.K ι H xs vs) {i : Int} {x : Val} (hx : L2.atI xs i = some x) : ∃ v, L2.atI vs i = some v ∧ RV W.K ι H x v := by
  unfold L2.atI at hx ⊢
  obtain ⟨j, h1, h2⟩ := Option.bind_eq_some_iff.mp hx
  obtain ⟨v, h3, h4⟩ := h.at j h2
  exact ⟨v, Option.bind_eq_some_iff.mpr ⟨j, by rw [← h.len]; exact h1, h3⟩, h4⟩
theorem ix_F (C : Ctx0 W k X Ew) : IxR X (ro W fIx) := ixBy fun x y H Q ⟨ι, st, a, b, v, st', rx, ry, hr, hf, hq⟩ => by
  cases rx with
  | @tup p vs xs sx rxs =>
    cases ry with
    | int i =>
      obtain ⟨z, h1, h2⟩ := Option.map_eq_some_iff.mp (show (L2.atI xs i).map (fun v => (v, st)) = some (v, st') from hf)
      cases h2
      obtain ⟨w, h3, h4⟩ := rxs.atI h1
      exact ⟨_, ix_tup, p, vs, i, w, rfl, rfl, by rw [C.eK]; exact sx, h3, hq.here hr h4⟩
    | _ => cases hf
  | @ref j p h0 =>
    have hf2 : (match st[j]? with
      | some (.lst xs) => (match b with
        | .int i => (L2.atI xs i).map fun v => (v, st)
        | _ => none)
      | some (.dic kvs) => (keyOf b).bind fun k => (getK kvs k).map fun v => (v, st)
      | _ => none) = some (v, st') := by
      cases b <;> exact hf
    split at hf2
    · rename_i xs h5
      cases ry with
      | int i =>
        obtain ⟨z, h1, h2⟩ := Option.map_eq_some_iff.mp (show (L2.atI xs i).map (fun v => (v, st)) = some (v, st') from hf2)
        cases h2
        obtain ⟨vs, h6, h7⟩ := hr.lst h5 h0
        obtain ⟨w, h3, h4⟩ := h7.atI h1
        exact ⟨_, ix_list, p, vs, i, w, rfl, rfl, SqL.of h6, h3, hq.here hr h4⟩
      | _ => cases hf2
    · rename_i kvs h5
      obtain ⟨k, h1, h2⟩ := Option.bind_eq_some_iff.mp hf2
      obtain ⟨z, h3, h4⟩ := Option.map_eq_some_iff.mp h2
      cases h4
      obtain ⟨ms, h6, h7⟩ := hr.dic h5 h0
      have e := keyOf_V h1 ry
      subst e
      rcases DP.get h7 k with ⟨h8, _⟩ | ⟨x, w, h8, h9, h10⟩
      · rw [h8] at h3
        cases h3
      · rw [h8] at h3
        cases h3
        exact ⟨_, ix_dict C.hu1, p, w, rfl, by rw [← h9]; exact DGet.k h6, hq.here hr h10⟩
    · cases hf2
  | @scr p ns h0 =>
    cases ry with
    | int i =>
      obtain ⟨z, h1, h2⟩ := Option.map_eq_some_iff.mp (show (L2.atI ns i).map (fun n => (Val.int n, st)) = some (v, st') from hf)
      cases h2
      refine ⟨_, ix_list, p, _, i, .int z, rfl, rfl, by rw [C.eK]; exact h0.sq, ?_, hq.here hr (.int z)⟩
      unfold L2.atI at h1 ⊢
      obtain ⟨j, h3, h4⟩ := Option.bind_eq_some_iff.mp h1
      refine Option.bind_eq_some_iff.mpr ⟨j, by rw [List.length_map]; exact h3, ?_⟩
      rw [List.getElem?_map, h4]
      rfl
    | _ => cases hf
  | str s =>
    cases ry with
    | int i =>
      have hf2 : (if s.length ≤ LINE then (L2.atI s i).map (fun c => (Val.str [c], st)) else none) = some (v, st') := hf
      by_cases hl : s.length ≤ LINE
      case neg => rw [if_neg hl] at hf2; cases hf2
      rw [if_pos hl] at hf2
      obtain ⟨z, h1, h2⟩ := Option.map_eq_some_iff.mp hf2
      cases h2
      exact ⟨_, ix_seq, .inr (.inr ⟨_, i, z, rfl, rfl, by rw [st_len]; exact sz_of hl, by show L2.atI s.toArray.toList i = _; simpa using h1, hq.here hr (.str [z])⟩)⟩
    | _ => cases hf
  | _ => cases hf

/-! ### xs[i:j], xs[::-1] -/
def cutG {α : Type} (xs : List α) (lo hi : Option Int) : List α := (xs.drop (HT.sIx xs.length 0 lo)).take (HT.sIx xs.length xs.length hi - HT.sIx xs.length 0 lo)
theorem RVs.cut {xs : List Val} {vs : List V} (h : RVs W.K ι H xs vs) (lo hi : Option Int) : RVs W.K ι H (cutG xs lo hi) (cutV vs lo hi) := by
  unfold cutG cutV
  rw [← h.len]
  exact (h.drop _).take _
def fSl : OSl := fun a lo hi st => match a with
  | .str s => if s.length ≤ LINE then some (.str (cutG s lo hi), st) else none
  | .tup xs => some (.tup (cutG xs lo hi), st)
  | .ref p => match st[p]? with
    | some (.lst xs) => some (.ref st.length, st ++ [.lst (cutG xs lo hi)])
    | _ => none
  | _ => none
theorem sl_F (C : Ctx0 W k X Ew) : SlR X (rs W fSl) := slBy fun x lo hi H Q ⟨ι, st, a, v, st', rx, hr, hf, hq⟩ => by
  cases rx with
  | str s =>
    have hf2 : (if s.length ≤ LINE then some (Val.str (cutG s lo hi), st) else none) = some (v, st') := hf
    by_cases hl : s.length ≤ LINE
    case neg => rw [if_neg hl] at hf2; cases hf2
    rw [if_pos hl] at hf2
    cases hf2
    refine ⟨_, sl_str, _, rfl, by rw [st_len]; exact sz_of hl, ?_⟩
    have e : cutS (St' s) lo hi = St' (cutG s lo hi) := by
      unfold cutS cutG
      rw [st_len]
    rw [e]
    exact hq.here hr (.str _)
  | @tup p vs xs sx rxs =>
    cases hf
    refine ⟨_, sl_tupA, p, vs, rfl, by rw [C.eK]; exact sx, fun ⟨g1, g2⟩ => ?_, fun _ => hq.newT hr (rxs.cut lo hi)⟩
    have e : cutG xs lo hi = xs := by
      unfold cutG
      rw [rxs.len, g1, g2, ← rxs.len]
      simp
    rw [e] at hq
    exact hq.here hr (.tup sx rxs)
  | @ref j p h0 =>
    have hf2 : (match st[j]? with | some (.lst xs) => some (Val.ref st.length, st ++ [.lst (cutG xs lo hi)]) | _ => none) = some (v, st') := hf
    split at hf2
    · rename_i xs h5
      cases hf2
      obtain ⟨vs, h6, h7⟩ := hr.lst h5 h0
      exact ⟨_, sl_list, p, vs, rfl, SqL.of h6, hq.new hr (show RO W ι H (.lst (cutG xs lo hi)) (.lst (cutV vs lo hi)) from h7.cut lo hi)⟩
    · cases hf2
  | _ => cases hf
def fRevL (m : FE) : FE := bnd m fun x => lft (fun st => match x with
  | .ref p => match st[p]? with
    | some (.lst xs) => some (.ref st.length, st ++ [.lst xs.reverse])
    | _ => none
  | _ => none)
theorem se_revL {j : Nat} {p1 p2 p3 : Pos} (ha : SE W X Ew a ma) : SE W X Ew (.Subscript a (.Slice none none (some (.UnaryOp .USub (.Constant (.int 1) j p1) p2)) p3) pos) (fRevL ma) :=
  imE (pe_revL ha) fun σ H Q ⟨ι, sl, st, r, hs, hr, hm, hq⟩ => run hs hr hm hq fun x st1 ι1 H1 vx e1 s1 r1 rx hm1 hq1 => by
    obtain ⟨v, st', h1, rfl⟩ := lft_some hm1
    cases rx with
    | @ref j p h0 =>
      have h2 : (match st1[j]? with | some (.lst xs) => some (Val.ref st1.length, st1 ++ [.lst xs.reverse]) | _ => none) = some (v, st') := h1
      split at h2
      · rename_i xs h5
        cases h2
        obtain ⟨vs, h6, h7⟩ := r1.lst h5 h0
        exact ⟨p, vs, rfl, SqL.of h6, Post.new hq1 r1 (show RO W ι1 H1 (.lst xs.reverse) (.lst vs.reverse) from h7.rev)⟩
      · cases h2
    | _ => cases h1

/-! ### built-ins -/
def fLen : ON := fun xs st => match xs with
  | [.str s] => if s.length ≤ LINE then some (.int s.length, st) else none
  | [.tup xs] => some (.int xs.length, st)
  | [.scr ns] => some (.int ns.length, st)
  | [.ref p] => match st[p]? with
    | some (.lst xs) => some (.int xs.length, st)
    | _ => none
  | _ => none
theorem call_lenF (C : Ctx0 W k X Ew) : CallR X (.builtin "len") (rc W fLen) := callBy fun xs H Q ⟨ι, st, as, v, st', rx, hr, hf, hq⟩ => by
  cases rx with
  | nil => cases hf
  | cons r0 rr =>
    cases rr with
    | cons _ _ => cases r0 <;> cases hf
    | nil =>
      cases r0 with
      | str s =>
        have hf2 : (if s.length ≤ LINE then some (Val.int s.length, st) else none) = some (v, st') := hf
        by_cases hl : s.length ≤ LINE
        case neg => rw [if_neg hl] at hf2; cases hf2
        rw [if_pos hl] at hf2
        cases hf2
        exact ⟨_, call_len, _, s.length, rfl, ⟨by rw [st_len]; exact sz_of hl, (st_len s).symm⟩, hq.here hr (.int _)⟩
      | @tup p vs xs sx rxs =>
        cases hf
        exact ⟨_, call_len, _, xs.length, rfl, .inr ⟨vs, by rw [C.eK]; exact sx, rxs.len⟩, hq.here hr (.int _)⟩
      | @scr p ns h0 =>
        cases hf
        exact ⟨_, call_len, _, ns.length, rfl, .inl ⟨_, by rw [C.eK]; exact h0.sq, by rw [List.length_map]⟩, hq.here hr (.int _)⟩
      | @ref j p h0 =>
        have hf2 : (match st[j]? with | some (.lst xs) => some (Val.int xs.length, st) | _ => none) = some (v, st') := hf
        split at hf2
        · rename_i xs h5
          cases hf2
          obtain ⟨vs, h6, h7⟩ := hr.lst h5 h0
          exact ⟨_, call_len, _, xs.length, rfl, .inl ⟨vs, SqL.of h6, h7.len⟩, hq.here hr (.int _)⟩
        · cases hf2
      | _ => cases hf
def fOrd : ON := fun xs st => match xs with
  | [.str [c]] => some (.int c, st)
  | _ => none
theorem call_ordF : CallR X (.builtin "ord") (rc W fOrd) := callBy fun xs H Q ⟨ι, st, as, v, st', rx, hr, hf, hq⟩ => by
  unfold fOrd at hf
  split at hf
  · rename_i c
    cases hf
    cases rx with
    | cons r0 rr =>
      cases rr
      cases r0
      exact ⟨_, call_ord, St' [c], rfl, rfl, hq.here hr (.int _)⟩
  · cases hf
def allB : List Val → Option Bool
  | [] => some true
  | .bl b :: xs => match allB xs with
    | some c => some (b && c)
    | none => none
  | _ => none
def anyB : List Val → Option Bool
  | [] => some false
  | .bl b :: xs => match anyB xs with
    | some c => some (b || c)
    | none => none
  | _ => none
theorem allB_bls : ∀ {xs : List Val} {c : Bool}, allB xs = some c → ∃ bs : List Bool, xs = bs.map Val.bl ∧ c = bs.all id
  | [], c, h => by
    cases h
    exact ⟨[], rfl, rfl⟩
  | x :: xs, c, h => by
    cases x with
    | bl b =>
      have h2 : (match allB xs with | some c => some (b && c) | none => none) = some c := h
      split at h2
      · rename_i d h3
        cases h2
        obtain ⟨bs, rfl, rfl⟩ := allB_bls h3
        exact ⟨b :: bs, rfl, rfl⟩
      · cases h2
    | _ => cases h
theorem anyB_bls : ∀ {xs : List Val} {c : Bool}, anyB xs = some c → ∃ bs : List Bool, xs = bs.map Val.bl ∧ c = bs.any id
  | [], c, h => by
    cases h
    exact ⟨[], rfl, rfl⟩
  | x :: xs, c, h => by
    cases x with
    | bl b =>
      have h2 : (match anyB xs with | some c => some (b || c) | none => none) = some c := h
      split at h2
      · rename_i d h3
        cases h2
        obtain ⟨bs, rfl, rfl⟩ := anyB_bls h3
        exact ⟨b :: bs, rfl, rfl⟩
      · cases h2
    | _ => cases h
theorem RVs.ofBls : ∀ (bs : List Bool) {vs : List V}, RVs W.K ι H (bs.map Val.bl) vs → vs = bs.map V.bl
  | [], _, h => by cases h; rfl
  | b :: bs, _, h => by
    cases h with
    | cons h1 h2 =>
      cases h1
      rw [RVs.ofBls bs h2]
      rfl
theorem RVs.ofStrs : ∀ (bs : List (List Nat)) {vs : List V}, RVs W.K ι H (bs.map Val.str) vs → vs = (bs.map St').map V.str
  | [], _, h => by cases h; rfl
  | b :: bs, _, h => by
    cases h with
    | cons h1 h2 =>
      cases h1
      rw [RVs.ofStrs bs h2]
      rfl
theorem RVs.ofInts : ∀ (bs : List Int) {vs : List V}, RVs W.K ι H (bs.map Val.int) vs → vs = bs.map V.int
  | [], _, h => by cases h; rfl
  | b :: bs, _, h => by
    cases h with
    | cons h1 h2 =>
      cases h1
      rw [RVs.ofInts bs h2]
      rfl
def oneR (f : Nat → Sto → Option (Val × Sto)) : ON := fun xs st => match xs with
  | [.ref p] => f p st
  | _ => none
def fAll : ON := oneR fun p st => match st[p]? with
  | some (.lst xs) => (allB xs).map fun c => (.bl c, st)
  | _ => none
def fAny : ON := oneR fun p st => match st[p]? with
  | some (.lst xs) => (anyB xs).map fun c => (.bl c, st)
  | _ => none
theorem one_ref {f : Nat → Sto → Option (Val × Sto)} {as : List Val} {xs : List V} {v : Val} {st' : Sto} (rx : RVs W.K ι H as xs) (hf : oneR f as st = some (v, st')) : ∃ i p, as = [.ref i] ∧ xs = [.ref p] ∧ ι[i]? = some p ∧ f i st = some (v, st') := by
  unfold oneR at hf
  split at hf
  · rename_i i
    cases rx with
    | cons r0 rr =>
      cases rr
      cases r0
      rename_i p h0
      exact ⟨i, p, rfl, rfl, h0, hf⟩
  · cases hf
theorem call_allF (C : Ctx W k X Ew) : CallR X (.builtin "all") (rc W fAll) := callBy fun xs H Q ⟨ι, st, as, v, st', rx, hr, hf, hq⟩ => by
  obtain ⟨i, p, rfl, rfl, h0, h1⟩ := one_ref rx hf
  split at h1
  · rename_i ys h5
    obtain ⟨c, h2, h3⟩ := Option.map_eq_some_iff.mp h1
    cases h3
    obtain ⟨bs, rfl, rfl⟩ := allB_bls h2
    obtain ⟨vs, h6, h7⟩ := hr.lst h5 h0
    rw [RVs.ofBls bs h7] at h6
    exact ⟨_, cr_all C.calm, p, bs, rfl, SqL.of h6, hq.here hr (.bl _)⟩
  · cases h1
theorem call_anyF (C : Ctx W k X Ew) : CallR X (.builtin "any") (rc W fAny) := callBy fun xs H Q ⟨ι, st, as, v, st', rx, hr, hf, hq⟩ => by
  obtain ⟨i, p, rfl, rfl, h0, h1⟩ := one_ref rx hf
  split at h1
  · rename_i ys h5
    obtain ⟨c, h2, h3⟩ := Option.map_eq_some_iff.mp h1
    cases h3
    obtain ⟨bs, rfl, rfl⟩ := anyB_bls h2
    obtain ⟨vs, h6, h7⟩ := hr.lst h5 h0
    rw [RVs.ofBls bs h7] at h6
    exact ⟨_, cr_any C.calm, p, bs, rfl, SqL.of h6, hq.here hr (.bl _)⟩
  · cases h1
/-- isinstance of a built-in class -/
def tyN (st : Sto) : Val → Option String
  | .non => some "NoneType"
  | .bl _ => some "bool"
  | .int _ => some "int"
  | .str _ => some "str"
  | .tup _ => some "tuple"
  | .scr _ => some "list"
  | .ref p => match st[p]? with
    | some (.lst _) => some "list"
    | some (.dic _) => some "dict"
    | _ => none
  | _ => none
def isSub (n t : String) : Option Bool := match t with
  | "int" => some (n == "int" || n == "bool")
  | "bool" => some (n == "bool")
  | "str" => some (n == "str")
  | "tuple" => some (n == "tuple")
  | "list" => some (n == "list")
  | _ => none
def fIsi : ON := fun xs st => match xs with
  | [x, .ty t] => match tyN st x with
    | some n => (isSub n t).map fun c => (.bl c, st)
    | none => none
  | _ => none
theorem tyN_of (r : Rel W ι H st) {x : Val} {v : V} {n : String} (h : tyN st x = some n) (rx : RV W.K ι H x v) : TyX W.K H v (.type n) ∧ n ∈ ["NoneType", "bool", "int", "str", "tuple", "list", "dict"] := by
  cases rx with
  | non => cases h; exact ⟨.base .non, by decide⟩
  | bl b => cases h; exact ⟨.base (.bl b), by decide⟩
  | int b => cases h; exact ⟨.base (.int b), by decide⟩
  | str b => cases h; exact ⟨.base (.str _), by decide⟩
  | @tup p vs xs sx rxs =>
    cases h
    refine ⟨?_, by decide⟩
    rcases sx with (s1 | ⟨o, s1⟩) | ⟨o, its, n, s1, s2, _⟩
    · exact .base (.tup s1)
    · exact .fTuple s1
    · exact .kTuple s1 s2
  | @scr p ns h0 =>
    cases h
    refine ⟨?_, by decide⟩
    rcases h0 with ⟨o, h1⟩ | h1
    · exact .base (.frz h1)
    · rcases h1 (fun _ => none) with (s1 | ⟨o, s1⟩) | ⟨o, its, n, s1, s2, _⟩
      · cases s1
      · cases s1
      · exact .kList s1 s2
  | @ref j p h0 =>
    have h2 : (match st[j]? with | some (.lst _) => some "list" | some (.dic _) => some "dict" | _ => none) = some n := h
    split at h2
    · rename_i xs h5
      cases h2
      obtain ⟨vs, h6, _⟩ := r.lst h5 h0
      exact ⟨.base (.lst h6), by decide⟩
    · rename_i xs h5
      cases h2
      obtain ⟨vs, h6, _⟩ := r.dic h5 h0
      exact ⟨.base (.dK h6), by decide⟩
    · cases h2
  | _ => cases h
theorem isSub_ok {n t : String} {c : Bool} (h : isSub n t = some c) (hn : n ∈ ["NoneType", "bool", "int", "str", "tuple", "list", "dict"]) {K : PySem.W.Frag} : PySem.W.kitOne K (.type n) (.type t) = some c := by
  have ht : t ∈ ["int", "bool", "str", "tuple", "list"] := by
    unfold isSub at h
    split at h <;> first | (cases h; done) | simp
  simp only [List.mem_cons, List.not_mem_nil, or_false] at hn ht
  rcases hn with rfl | rfl | rfl | rfl | rfl | rfl | rfl <;> rcases ht with rfl | rfl | rfl | rfl | rfl <;> (cases h; exact kit_ty (by decide +kernel))
theorem call_isiF (C : Ctx0 W k X Ew) : CallR X (.builtin "isinstance") (rc W fIsi) := callBy fun xs H Q ⟨ι, st, as, v, st', rx, hr, hf, hq⟩ => by
  unfold fIsi at hf
  split at hf
  · rename_i x t
    cases h1 : tyN st x with
    | none => rw [h1] at hf; cases hf
    | some n =>
      rw [h1] at hf
      obtain ⟨c, h2, h3⟩ := Option.map_eq_some_iff.mp hf
      cases h3
      cases rx with
      | cons r0 rr =>
        cases rr with
        | cons r1 r2 =>
          cases r2
          cases r1
          obtain ⟨g1, g2⟩ := tyN_of hr h1 r0
          exact ⟨_, call_isi, _, .ty t, .type n, .type t, c, rfl, .ty t, by rw [C.eK]; exact g1, isSub_ok h2 g2, hq.here hr (.bl _)⟩
  · cases hf
/-- a built-in class's name as a value -/
theorem se_ty {x : Str} (n : String) (C : Ctx0 W k X Ew) (hm : W.mg x = none) (hb : bootBuiltins x = some (.type n)) (hg : Gl X x := by rfl) (hn : x ≠ "__name__" := by decide) (hd : (x == ("__debug__" : Str)) = false := by decide) : SE W X Ew (.Name x pos) (fC (.ty n)) :=
  se_c (z := .ty n) (pe_bltn hg (by rw [C.em]; exact hm) hb (show RelV (.ty n) (.type n) from rfl) hn hd) fun _ _ => .ty n
def fListOf : ON := fun xs st => match xs with
  | [.tup xs] => some (.ref st.length, st ++ [.lst xs])
  | [.ref p] => match st[p]? with
    | some (.lst xs) => some (.ref st.length, st ++ [.lst xs])
    | _ => none
  | _ => none
theorem call_listF (C : Ctx0 W k X Ew) : CallR X (.type "list") (rc W fListOf) := callBy fun xs H Q ⟨ι, st, as, v, st', rx, hr, hf, hq⟩ => by
  unfold fListOf at hf
  split at hf
  · rename_i xs
    cases hf
    cases rx with
    | cons r0 rr =>
      cases rr
      cases r0 with
      | @tup p vs xs sx rxs => exact ⟨_, call_list_of, p, vs, rfl, .inr (by rw [C.eK]; exact sx), hq.new hr (show RO W ι H (.lst xs) (.lst vs) from rxs)⟩
  · rename_i i
    split at hf
    · rename_i ys h5
      cases hf
      cases rx with
      | cons r0 rr =>
        cases rr
        cases r0 with
        | @ref j p h0 =>
          obtain ⟨vs, h6, h7⟩ := hr.lst h5 h0
          exact ⟨_, call_list_of, p, vs, rfl, .inl (SqL.of h6), hq.new hr (show RO W ι H (.lst ys) (.lst vs) from h7)⟩
    · cases hf
  · cases hf
def fTupOf : ON := fun xs st => match xs with
  | [.tup xs] => some (.tup xs, st)
  | [.ref p] => match st[p]? with
    | some (.lst xs) => some (.tup xs, st)
    | _ => none
  | _ => none
theorem call_tupF (C : Ctx0 W k X Ew) : CallR X (.type "tuple") (rc W fTupOf) := callBy fun xs H Q ⟨ι, st, as, v, st', rx, hr, hf, hq⟩ => by
  unfold fTupOf at hf
  split at hf
  · rename_i xs
    cases hf
    cases rx with
    | cons r0 rr =>
      cases rr
      cases r0 with
      | @tup p vs xs sx rxs => exact ⟨_, call_tuple_of, p, vs, rfl, .inr ⟨by rw [C.eK]; exact sx, hq.here hr (.tup sx rxs)⟩⟩
  · rename_i i
    split at hf
    · rename_i ys h5
      cases hf
      cases rx with
      | cons r0 rr =>
        cases rr
        cases r0 with
        | @ref j p h0 =>
          obtain ⟨vs, h6, h7⟩ := hr.lst h5 h0
          exact ⟨_, call_tuple_of, p, vs, rfl, .inl ⟨SqL.of h6, hq.newT hr h7⟩⟩
    · cases hf
  · cases hf
def twoI (f : Int → Int → Int) : ON := fun xs st => match xs with
  | [.int i, .int j] => some (.int (f i j), st)
  | _ => none
def fMin2 : ON := twoI fun i j => if j < i then j else i
def fMax2 : ON := twoI fun i j => if j > i then j else i
theorem two_ints {f : Int → Int → Int} {as : List Val} {xs : List V} {v : Val} {st' : Sto} (rx : RVs W.K ι H as xs) (hf : twoI f as st = some (v, st')) : ∃ i j, xs = [.int i, .int j] ∧ v = .int (f i j) ∧ st' = st := by
  unfold twoI at hf
  split at hf
  · rename_i i j
    cases hf
    cases rx with
    | cons r0 rr =>
      cases rr with
      | cons r1 r2 =>
        cases r2
        cases r0
        cases r1
        exact ⟨i, j, rfl, rfl, rfl⟩
  · cases hf
theorem call_minF (C : Ctx W k X Ew) : CallR X (.builtin "min") (rc W fMin2) := callBy fun xs H Q ⟨ι, st, as, v, st', rx, hr, hf, hq⟩ => by
  obtain ⟨i, j, rfl, rfl, rfl⟩ := two_ints rx hf
  exact ⟨_, call_min2 C.calm, i, j, rfl, hq.here hr (.int _)⟩
theorem call_maxF (C : Ctx W k X Ew) : CallR X (.builtin "max") (rc W fMax2) := callBy fun xs H Q ⟨ι, st, as, v, st', rx, hr, hf, hq⟩ => by
  obtain ⟨i, j, rfl, rfl, rfl⟩ := two_ints rx hf
  exact ⟨_, call_max2 C.calm, i, j, rfl, hq.here hr (.int _)⟩

/-! ### methods of lists and texts -/
theorem mtBy {id : String} {r' : V → List V → Hp → VK → Prop} (h : ∀ x xs H Q, r' x xs H Q → ∃ r, MtR X id r ∧ r x xs H Q) : MtR X id r' := fun pins s σ H x xs v us Q I rx rxs hw =>
  let ⟨_, h1, h2⟩ := h x xs H Q hw
  h1 pins s σ H x xs v us Q I rx rxs h2
def kindOf (T : String) (st : Sto) : Val → Bool
  | .str _ => T == "str"
  | .scr _ => T == "list"
  | .ref p => match st[p]? with
    | some (.lst _) => T == "list"
    | some (.dic _) => T == "dict"
    | _ => false
  | _ => false
theorem kind_ty (r : Rel W ι H st) {T : String} {x : Val} {v : V} (h : kindOf T st x = true) (rx : RV W.K ι H x v) : tyV W.K T v H := by
  cases rx with
  | str s => exact beq_iff_eq.mp h
  | @scr p ns h0 => exact .inl ⟨beq_iff_eq.mp h, _, h0.sq⟩
  | @ref j p h0 =>
    have h2 : (match st[j]? with | some (.lst _) => T == "list" | some (.dic _) => T == "dict" | _ => false) = true := h
    split at h2
    · rename_i xs h5
      obtain ⟨vs, h6, _⟩ := r.lst h5 h0
      exact .inl ⟨beq_iff_eq.mp h2, vs, SqL.of h6⟩
    · rename_i xs h5
      obtain ⟨vs, h6, _⟩ := r.dic h5 h0
      exact .inr (.inr (.inl ⟨beq_iff_eq.mp h2, .inl ⟨vs, h6⟩⟩))
    · cases h2
  | _ => cases h
def fMt (T : String) (f : Val → ON) (mo : FE) (ma : FA) : FE := bnd mo fun x => fun sl st => if kindOf T st x = true then bnd ma (fun xs => lft (f x xs)) sl st else none
theorem se_mt {T id : String} {f : Val → ON} {name : Str} {apos : Pos} {o : Expr} {mo : FE} (C : Ctx0 W k X Ew) (h1 : PySem.PlainAttrs T) (h2 : PySem.Slot T name id) (h3 : PySem.typeOf (.builtin id) = pure (.type "method_descriptor")) (hr : MtR X id (rm W f)) (ho : SE W X Ew o mo) (ha : SA W X Ew (e :: es) mas)
    (g1 : attributeBase o name X.env (eval o X.env) = eval o X.env := by rfl)
    (g2 : ((((backTo pos (starEach (e :: es) X.env)).all fun x => !x.1) && (backToKw pos (keywordEach [] X.env)).all fun x => x.1.isSome) && decide (((e :: es).length + ([] : List Keyword).length + if ([] : List Keyword).isEmpty = true then 0 else 1) < 30)) = true := by rfl)
    (g3 : (apos.endLine == pos.line) = true := by rfl) (g4 : starEach (e :: es) X.env = (false, eval e X.env) :: starEach es X.env := by rfl) (g5 : (backTo pos (starEach es X.env)).any (fun x => x.1) = false := by rfl) :
    SE W X Ew (.Call (.Attribute o name apos) (e :: es) [] pos) (fMt T f mo mas) :=
  imE (pe_bm h1 h2 h3 hr ho ha g1 g2 g3 g4 g5) fun σ H Q ⟨ι, sl, st, r, hs, hr, hm, hq⟩ => run hs hr hm hq fun x st1 ι1 H1 vx e1 s1 r1 rx hm1 hq1 => by
    have hm2 : (if kindOf T st1 x = true then bnd mas (fun xs => lft (f x xs)) sl st1 else none) = some r := hm1
    by_cases hk : kindOf T st1 x = true
    case neg => rw [if_neg hk] at hm2; cases hm2
    rw [if_pos hk] at hm2
    refine ⟨by rw [C.eK]; exact kind_ty r1 hk rx, run s1 r1 hm2 hq1 fun xs st2 ι2 H2 vs e2 s2 r2 rxs hm3 hq3 => ?_⟩
    obtain ⟨v, st', h5, rfl⟩ := lft_some hm3
    exact ⟨ι2, st2, x, xs, v, st', rx.mono e2, rxs, r2, h5, hq3⟩
def fMt0 (T : String) (f : Val → ON) (mo : FE) : FE := bnd mo fun x => fun sl st => if kindOf T st x = true then lft (f x []) sl st else none
theorem se_mt0 {T id : String} {f : Val → ON} {name : Str} {apos : Pos} {o : Expr} {mo : FE} (C : Ctx0 W k X Ew) (h1 : PySem.PlainAttrs T) (h2 : PySem.Slot T name id) (h3 : PySem.typeOf (.builtin id) = pure (.type "method_descriptor")) (hr : MtR X id (rm W f)) (ho : SE W X Ew o mo)
    (g1 : attributeBase o name X.env (eval o X.env) = eval o X.env := by rfl) (g3 : (apos.endLine == pos.line) = true := by rfl) : SE W X Ew (.Call (.Attribute o name apos) [] [] pos) (fMt0 T f mo) :=
  imE (pe_bm0 h1 h2 h3 hr ho g1 g3) fun σ H Q ⟨ι, sl, st, r, hs, hr, hm, hq⟩ => run hs hr hm hq fun x st1 ι1 H1 vx e1 s1 r1 rx hm1 hq1 => by
    have hm2 : (if kindOf T st1 x = true then lft (f x []) sl st1 else none) = some r := hm1
    by_cases hk : kindOf T st1 x = true
    case neg => rw [if_neg hk] at hm2; cases hm2
    rw [if_pos hk] at hm2
    refine ⟨by rw [C.eK]; exact kind_ty r1 hk rx, ?_⟩
    obtain ⟨v, st', h5, rfl⟩ := lft_some hm2
    exact ⟨ι1, st1, x, [], v, st', rx, .nil, r1, h5, hq1⟩
/-- a method of a list: what becomes of its items, what it hands back -/
def onL (g : List Val → List Val → Option (Val × List Val)) : Val → ON := fun x xs st => match x with
  | .ref p => match st[p]? with
    | some (.lst ys) => (g ys xs).map fun r => (r.1, st.set p (.lst r.2))
    | _ => none
  | _ => none
theorem onL_of {g : List Val → List Val → Option (Val × List Val)} {x : Val} {xs : List Val} {vx : V} {v : Val} {st' : Sto} (hr : Rel W ι H st) (rx : RV W.K ι H x vx) (h : onL g x xs st = some (v, st')) :
    ∃ i p ys vs zs, vx = .ref p ∧ ι[i]? = some p ∧ st[i]? = some (.lst ys) ∧ H p = some (.lst vs) ∧ RVs W.K ι H ys vs ∧ g ys xs = some (v, zs) ∧ st' = st.set i (.lst zs) := by
  cases rx with
  | @ref i p h0 =>
    have h2 : (match st[i]? with | some (.lst ys) => (g ys xs).map (fun r => (r.1, st.set i (.lst r.2))) | _ => none) = some (v, st') := h
    split at h2
    · rename_i ys h5
      obtain ⟨⟨w, zs⟩, h3, h4⟩ := Option.map_eq_some_iff.mp h2
      cases h4
      obtain ⟨vs, h6, h7⟩ := hr.lst h5 h0
      exact ⟨i, p, ys, vs, zs, rfl, h0, h5, h6, h7, h3, rfl⟩
    · cases h2
  | _ => cases h
def gAppend (ys xs : List Val) : Option (Val × List Val) := match xs with
  | [x] => if ys.length < LINE then some (.non, ys ++ [x]) else none
  | _ => none
theorem mt_appendF : MtR X "list.append" (rm W (onL gAppend)) := mtBy fun x xs H Q ⟨ι, st, a, as, v, st', rx, rxs, hr, hf, hq⟩ => by
  obtain ⟨i, p, ys, vs, zs, rfl, h0, h5, h6, h7, hg, rfl⟩ := onL_of hr rx hf
  unfold gAppend at hg
  split at hg
  · rename_i y
    split at hg
    · rename_i hl
      cases hg
      cases rxs with
      | @cons _ w _ _ r0 rr =>
        cases rr
        exact ⟨_, mt_append, p, vs, w, rfl, rfl, h6, by rw [← h7.len, ← line_eq]; exact hl, hq.put hr h0 h5 (show RO W ι H (.lst (ys ++ [y])) (.lst (vs ++ [w])) from h7.app (.cons r0 .nil)) .non⟩
    · cases hg
  · cases hg
def gPopAt (ys xs : List Val) : Option (Val × List Val) := match xs with
  | [.int i] => if 0 ≤ i ∧ i < ys.length ∧ ys.length ≤ LINE then (ys[i.toNat]?).map fun y => (y, ys.eraseIdx i.toNat) else none
  | _ => none
theorem seqIx {i : Int} {n : Nat} (h0 : 0 ≤ i) (h1 : i < n) : seqIndex? i n = some i.toNat := by
  unfold seqIndex?
  have h2 : ¬ i < 0 := by omega
  simp [h2]
  omega
theorem mt_popAtF : MtR X "list.pop" (rm W (onL gPopAt)) := mtBy fun x xs H Q ⟨ι, st, a, as, v, st', rx, rxs, hr, hf, hq⟩ => by
  obtain ⟨i, p, ys, vs, zs, rfl, h0, h5, h6, h7, hg, rfl⟩ := onL_of hr rx hf
  unfold gPopAt at hg
  split at hg
  · rename_i j
    split at hg
    · rename_i hl
      obtain ⟨y, h1, h2⟩ := Option.map_eq_some_iff.mp hg
      cases h2
      obtain ⟨w, h8, h9⟩ := h7.at _ h1
      cases rxs with
      | cons r0 rr =>
        cases rr
        cases r0
        have hz : (LINE : Int) < 2 ^ 63 := by decide
        exact ⟨_, mt_popAt, p, vs, j, j.toNat, w, rfl, rfl, h6, by omega, by omega, by rw [← h7.len]; exact seqIx hl.1 hl.2.1, h8, hq.put hr h0 h5 (show RO W ι H (.lst (ys.eraseIdx j.toNat)) (.lst (vs.eraseIdx j.toNat)) from h7.del _) h9⟩
    · cases hg
  · cases hg
def gPop (ys xs : List Val) : Option (Val × List Val) := match xs with
  | [] => (ys[ys.length - 1]?).map fun y => (y, ys.dropLast)
  | _ => none
theorem RVs.dropLast : ∀ {xs : List Val} {vs : List V}, RVs W.K ι H xs vs → RVs W.K ι H xs.dropLast vs.dropLast := fun {xs vs} h => by
  rw [List.dropLast_eq_take, List.dropLast_eq_take, h.len]
  exact h.take _
theorem mt_popF : MtR X "list.pop" (rm W (onL gPop)) := mtBy fun x xs H Q ⟨ι, st, a, as, v, st', rx, rxs, hr, hf, hq⟩ => by
  obtain ⟨i, p, ys, vs, zs, rfl, h0, h5, h6, h7, hg, rfl⟩ := onL_of hr rx hf
  unfold gPop at hg
  split at hg
  · obtain ⟨y, h1, h2⟩ := Option.map_eq_some_iff.mp hg
    cases h2
    obtain ⟨w, h8, h9⟩ := h7.at _ h1
    cases rxs
    exact ⟨_, mt_pop, p, vs, w, rfl, rfl, h6, by rw [← h7.len]; exact h8, hq.put hr h0 h5 (show RO W ι H (.lst ys.dropLast) (.lst vs.dropLast) from h7.dropLast) h9⟩
  · cases hg
def gInsert (ys xs : List Val) : Option (Val × List Val) := match xs with
  | [.int i, x] => if ys.length < LINE ∧ 0 ≤ i ∧ i < 2 ^ 63 then some (.non, ys.take i.toNat ++ [x] ++ ys.drop i.toNat) else none
  | _ => none
theorem mt_insertF : MtR X "list.insert" (rm W (onL gInsert)) := mtBy fun x xs H Q ⟨ι, st, a, as, v, st', rx, rxs, hr, hf, hq⟩ => by
  obtain ⟨i, p, ys, vs, zs, rfl, h0, h5, h6, h7, hg, rfl⟩ := onL_of hr rx hf
  unfold gInsert at hg
  split at hg
  · rename_i j y
    split at hg
    · rename_i hl
      cases hg
      cases rxs with
      | cons r0 rr =>
        cases r0
        cases rr with
        | @cons _ w _ _ r1 r2 =>
          cases r2
          exact ⟨_, mt_insert, p, vs, j, w, rfl, rfl, h6, by rw [← h7.len, ← line_eq]; exact hl.1, hl.2.1, hl.2.2, hq.put hr h0 h5 (show RO W ι H (.lst (ys.take j.toNat ++ [y] ++ ys.drop j.toNat)) (.lst (vs.take j.toNat ++ [w] ++ vs.drop j.toNat)) from ((h7.take _).app (.cons r1 .nil)).app (h7.drop _)) .non⟩
    · cases hg
  · cases hg
/-- sep.join(xs) -/
def jn (sep : List Nat) : List (List Nat) → List Nat
  | [] => []
  | p :: ps => ps.foldl (fun acc q => acc ++ sep ++ q) p
def strsOf : List Val → Option (List (List Nat))
  | [] => some []
  | .str s :: xs => match strsOf xs with
    | some ss => some (s :: ss)
    | none => none
  | _ => none
theorem strsOf_map : ∀ {xs : List Val} {ss : List (List Nat)}, strsOf xs = some ss → xs = ss.map Val.str
  | [], ss, h => by cases h; rfl
  | x :: xs, ss, h => by
    cases x with
    | str s =>
      have h2 : (match strsOf xs with | some ss => some (s :: ss) | none => none) = some ss := h
      split at h2
      · rename_i d h3
        cases h2
        rw [strsOf_map h3]
        rfl
      · cases h2
    | _ => cases h
def fJoin : Val → ON := fun x xs st => match x, xs with
  | .str sep, [.ref p] => match st[p]? with
    | some (.lst ys) => (match strsOf ys with
      | some ss => if (ss.map (·.length)).sum + ss.length * sep.length ≤ LINE then some (.str (jn sep ss), st) else none
      | none => none)
    | _ => none
  | .str sep, [.tup ys] => (match strsOf ys with
      | some ss => if (ss.map (·.length)).sum + ss.length * sep.length ≤ LINE then some (.str (jn sep ss), st) else none
      | none => none)
  | _, _ => none
theorem jn_fold (sep : List Nat) : ∀ (ps : List (List Nat)) (acc : List Nat), ((ps.map St').foldl (fun acc p => acc ++ (St' sep).cps ++ p.cps) acc.toArray) = (ps.foldl (fun acc q => acc ++ sep ++ q) acc).toArray
  | [], acc => rfl
  | p :: ps, acc => by
    rw [List.map_cons, List.foldl_cons, List.foldl_cons, ← jn_fold sep ps]
    congr 1
    simp
theorem jn_join (sep : List Nat) (ps : List (List Nat)) : Txt.join (St' sep) (ps.map St') = St' (jn sep ps) := by
  cases ps with
  | nil => rfl
  | cons p ps =>
    show Str.mk _ = _
    have := jn_fold sep ps p
    exact congrArg Str.mk this
theorem mt_joinF (C : Ctx0 W k X Ew) : MtR X "str.join" (rm W fJoin) := mtBy fun x xs H Q ⟨ι, st, a, as, v, st', rx, rxs, hr, hf, hq⟩ => by
  unfold fJoin at hf
  split at hf
  · rename_i sep i
    split at hf
    · rename_i ys h5
      split at hf
      · rename_i ss h1
        split at hf
        · rename_i hl
          cases hf
          cases rx
          cases rxs with
          | cons r0 rr =>
            cases rr
            cases r0 with
            | @ref j p h0 =>
              obtain ⟨vs, h6, h7⟩ := hr.lst h5 h0
              rw [strsOf_map h1] at h7
              rw [RVs.ofStrs ss h7] at h6
              refine ⟨_, mt_join, _, p, ss.map St', rfl, rfl, .inl (SqL.of h6), ?_, by rw [jn_join]; exact hq.here hr (.str _)⟩
              rw [List.map_map, st_len, List.length_map]
              have e : (ss.map ((fun x => x.length) ∘ St')) = ss.map (·.length) := List.map_congr_left fun x _ => st_len x
              rw [e]
              exact hl
        · cases hf
      · cases hf
    · cases hf
  · rename_i sep ys
    split at hf
    · rename_i ss h1
      split at hf
      · rename_i hl
        cases hf
        cases rx
        cases rxs with
        | cons r0 rr =>
          cases rr
          cases r0 with
          | @tup p vs xs sx rxs =>
            rw [strsOf_map h1] at rxs
            rw [RVs.ofStrs ss rxs] at sx
            refine ⟨_, mt_join, _, p, ss.map St', rfl, rfl, .inr (by rw [C.eK]; exact sx), ?_, by rw [jn_join]; exact hq.here hr (.str _)⟩
            rw [List.map_map, st_len, List.length_map]
            have e : (ss.map ((fun x => x.length) ∘ St')) = ss.map (·.length) := List.map_congr_left fun x _ => st_len x
            rw [e]
            exact hl
      · cases hf
    · cases hf
  · cases hf

/-! ### xs[i] = v -/
def fSetI : O3 := fun o i v st => match o with
  | .ref p => match st[p]? with
    | some (.lst xs) => (match i with
      | .int j => (ixN xs.length j).map fun n => st.set p (.lst (xs.set n v))
      | _ => none)
    | some (.dic kvs) => (keyOf i).bind fun k => if kvs.length < LINE then some (st.set p (.dic (setK kvs k v))) else none
    | _ => none
  | _ => none
theorem set_F (C : Ctx0 W k X Ew) : PSet X (rset W fSetI) := fun pins s σ H o i v ov iv u Q I ro ri rv h => by
  obtain ⟨ι, st, x, y, z, st', rx, ry, rz, hr, hf, hq⟩ := h
  unfold fSetI at hf
  split at hf
  · rename_i n
    split at hf
    · rename_i xs h5
      refine set_list pins s σ H o i v ov iv u Q I ro ri rv ?_
      split at hf
      case h_2 => cases hf
      rename_i j
      obtain ⟨m, h1, h2⟩ := Option.map_eq_some_iff.mp hf
      cases h2
      cases rx with
      | @ref n p h0 =>
        cases ry
        obtain ⟨vs, h6, h7⟩ := hr.lst h5 h0
        exact ⟨p, vs, j, m, rfl, rfl, h6, by rw [← h7.len]; exact h1, hq ι _ (Ext.put hr h0 h5) (hr.put h0 h5 (show RO W ι H (.lst (xs.set m z)) (.lst (vs.set m v)) from RVs.set rz m h7))⟩
    · rename_i kvs h5
      obtain ⟨k, h1, h2⟩ := Option.bind_eq_some_iff.mp hf
      split at h2
      case isFalse => cases h2
      rename_i hl
      cases h2
      cases rx with
      | @ref n p h0 =>
        obtain ⟨ms, h6, h7⟩ := hr.dic h5 h0
        have e := keyOf_V h1 ry
        subst e
        refine set_dict C.hu1 pins s σ H _ _ v ov iv u Q I ro ri rv ⟨p, _, rfl, DPut.k h6 ?_, ?_⟩
        · have := DP.len h7
          rw [← this, ← line_eq]
          exact hl
        · exact hq ι _ (Ext.put hr h0 h5) (hr.put h0 h5 (show RO W ι H (.dic (setK kvs k z)) (.dK (putK ms k v)) from DP.put h7 k rz))
    · cases hf
  · cases hf

/-! ### what is walked -/
def asIt (st : Sto) : Val → Option Itb
  | .tup xs => some ⟨xs, .none⟩
  | .str s => some ⟨s.map fun c => .str [c], .none⟩
  | .scr ns => some ⟨ns.map .int, .none⟩
  | .ref p => match st[p]? with
    | some (.lst xs) => some ⟨xs, .some p⟩
    | _ => none
  | _ => none
def fIt (m : FE) : FI := bnd m fun x => fun _ st => (asIt st x).map fun b => .ok b st
end
end FL
/-! FL7: what is walked; a slice stored. -/
namespace FL
open PySem PySem.Spec PyProof.Rows L2

section
variable {W : Wd} {k : Nat} {X : Cx} {Ew : WX} {ι ι' : List Addr} {H H' : Hp} {st : Sto} {a b c e : Expr} {es : List Expr} {ma mb me : FE} {mt mu : FT} {mas : FA} {pos : Pos} {tg : Expr}

/-! ### tuples, lists, texts walked -/
/-- any of the three, by its value -/
def iAny (K : PySem.W.Frag) (t : TE) : TI := fun σ H R => t σ H fun x H1 => (∃ p, x = .ref p ∧ (∃ xs, SqL K H1 p xs) ∧ R (Itl K p) H1) ∨ (∃ p, x = .ref p ∧ (∃ xs, SqT K H1 p xs) ∧ R (Itt K p) H1) ∨ ∃ z, x = .str z ∧ R (Its z) H1
theorem pi_any {l : Expr} {t : TE} (hl : PE X l t) : PI X tg l (iAny X.K t) := by
  refine ⟨fun pins s σ H R I h => thn (hl.run pins s σ H _ I h) ?_⟩
  rintro v s1 ⟨x, H1, I1, r1, ⟨p, rfl, ⟨xs, hx⟩, q⟩ | ⟨p, rfl, ⟨xs, hx⟩, q⟩ | ⟨z, rfl, q⟩⟩
  · cases r1; obtain ⟨its, _, pl, _⟩ := I1.list hx
    exact wpAny_pyIter_list pl.isList (pi_one (tk := s1.toks) I1 _ (turn_list p _) ⟨_, Heap.get?_push_size _ rfl, rfl, rfl⟩ q)
  · cases r1; obtain ⟨its, _, pl, _⟩ := I1.tuple hx
    exact wpAny_pyIter_tuple (show s1.heap.IsTuple p its.toArray from pl) (pi_one (tk := s1.toks) I1 _ (turn_tuple p _) ⟨_, Heap.get?_push_size _ rfl, rfl, rfl⟩ q)
  · obtain ⟨t, rfl⟩ := r1
    cases hz : z.cps.all (· < 128) with
    | false => exact wpAny_pyIter_wide hz (pi_one (tk := s1.toks) I1 _ (turn_str _ z t "str_iterator" (.inr rfl)) ⟨_, Heap.get?_push_size _ rfl, rfl, rfl⟩ q)
    | true => exact wpAny_pyIter_ascii hz (pi_one (tk := s1.toks) I1 _ (turn_str _ z t "str_ascii_iterator" (.inl rfl)) ⟨_, Heap.get?_push_size _ rfl, rfl, rfl⟩ q)
theorem ok_tup {p : Addr} {vs : List V} {xs : List Val} (sx : SqT W.K H p vs) (rxs : RVs W.K ι H xs vs) : ItOk W ι H ⟨xs, .none⟩ (Itt W.K p) := fun ι' H' st i e r _ => by
  refine ⟨fun x hx => ?_, fun hi => ⟨vs, e.sqT sx, by rw [← rxs.len]; exact hi⟩⟩
  obtain ⟨v, h1, h2⟩ := rxs.at i hx
  refine ⟨⟨vs, v, e.sqT sx, h1⟩, fun y H2 ⟨hH, hy⟩ => ?_⟩
  subst hH
  have := hy vs (e.sqT sx)
  rw [h1] at this
  cases this
  exact ⟨Ext.refl _ _, r, h2.mono0 e⟩
theorem ok_str (s : List Nat) : ItOk W ι H ⟨s.map fun c => .str [c], .none⟩ (Its (St' s)) := fun ι' H' st i e r _ => by
  refine ⟨fun x hx => ?_, fun hi => by
    show s.toArray.size ≤ i
    simpa using hi⟩
  have hx2 : (s.map fun c => Val.str [c])[i]? = some x := hx
  rw [List.getElem?_map] at hx2
  obtain ⟨c, h1, rfl⟩ := Option.map_eq_some_iff.mp hx2
  have hi := (List.getElem?_eq_some_iff.mp h1).1
  refine ⟨by show i < s.toArray.size; simpa using hi, fun y H2 ⟨hH, c', h3, h4⟩ => ?_⟩
  subst hH h4
  have h5 : s.toArray[i]? = some c' := h3
  rw [List.getElem?_toArray, h1] at h5
  cases h5
  exact ⟨Ext.refl _ _, r, .str [c]⟩
theorem ok_lst {j : Nat} {p : Addr} {xs : List Val} (h0 : ι[j]? = some p) : ItOk W ι H ⟨xs, .some j⟩ (Itl W.K p) := fun ι' H' st i e r lv => by
  have lv2 : st[j]? = some (.lst xs) := lv
  obtain ⟨vs, h1, h2⟩ := r.lst lv2 (e.pre _ _ h0)
  refine ⟨fun x hx => ?_, fun hi => ⟨vs, SqL.of h1, by rw [← h2.len]; exact hi⟩⟩
  obtain ⟨v, h3, h4⟩ := h2.at i hx
  refine ⟨⟨vs, v, SqL.of h1, h3⟩, fun y H2 ⟨hH, hy⟩ => ?_⟩
  subst hH
  have := hy vs (SqL.of h1)
  rw [h3] at this
  cases this
  exact ⟨Ext.refl _ _, r, h4⟩
theorem ok_scr {p : Addr} {ns : List Int} (h0 : SqZ W.K H p (ns.map V.int)) : ItOk W ι H ⟨ns.map .int, .none⟩ (Itl W.K p) := fun ι' H' st i e r _ => by
  have h1 := e.sqZ h0
  refine ⟨fun x hx => ?_, fun hi => ⟨_, h1.sq, by rw [List.length_map]; simpa using hi⟩⟩
  have hx2 : (ns.map Val.int)[i]? = some x := hx
  rw [List.getElem?_map] at hx2
  obtain ⟨n, h2, rfl⟩ := Option.map_eq_some_iff.mp hx2
  have h3 : (ns.map V.int)[i]? = some (.int n) := by
    rw [List.getElem?_map, h2]
    rfl
  refine ⟨⟨_, _, h1.sq, h3⟩, fun y H2 ⟨hH, hy⟩ => ?_⟩
  subst hH
  have := hy _ h1.sq
  rw [h3] at this
  cases this
  exact ⟨Ext.refl _ _, r, .int n⟩
theorem si_any (C : Ctx0 W k X Ew) (ha : SE W X Ew a ma) : SI W X Ew tg a (fIt ma) :=
  imI (pi_any ha) fun σ H Q ⟨ι, sl, st, r, hs, hr, hm, hq⟩ => run hs hr hm hq fun x st1 ι1 H1 vx e1 s1 r1 rx hm1 hq1 => by
    have hm2 : (asIt st1 x).map (fun b => R.ok b st1) = some r := hm1
    obtain ⟨b, h1, rfl⟩ := Option.map_eq_some_iff.mp hm2
    rw [C.eK]
    cases rx with
    | @tup p vs xs sx rxs =>
      cases h1
      exact .inr (.inl ⟨p, rfl, ⟨vs, sx⟩, hq1 ι1 H1 _ (Ext.refl _ _) r1 (ok_tup sx rxs)⟩)
    | str s =>
      cases h1
      exact .inr (.inr ⟨_, rfl, hq1 ι1 H1 _ (Ext.refl _ _) r1 (ok_str s)⟩)
    | @scr p ns h0 =>
      cases h1
      exact .inl ⟨p, rfl, ⟨_, h0.sq⟩, hq1 ι1 H1 _ (Ext.refl _ _) r1 (ok_scr h0)⟩
    | @ref j p h0 =>
      have h2 : (match st1[j]? with | some (.lst xs) => some (Itb.mk xs (.some j)) | _ => none) = some b := h1
      split at h2
      · rename_i xs h5
        cases h2
        obtain ⟨vs, h6, _⟩ := r1.lst h5 h0
        exact .inl ⟨p, rfl, ⟨vs, SqL.of h6⟩, hq1 ι1 H1 _ (Ext.refl _ _) r1 (ok_lst h0)⟩
      · cases h2
    | _ => cases h1

/-! ### range -/
def rngL (lo : Int) (n : Nat) : List Val := (List.range n).map fun i => Val.int (lo + (i : Nat))
theorem ok_rng (lo : Int) (n : Nat) : ItOk W ι H ⟨rngL lo n, .none⟩ (Itr lo n) := fun ι' H' st i e r _ => by
  refine ⟨fun x hx => ?_, fun hi => by
    have h1 : (rngL lo n).length ≤ i := hi
    unfold rngL at h1
    rw [List.length_map, List.length_range] at h1
    exact h1⟩
  have hx2 : (rngL lo n)[i]? = some x := hx
  unfold rngL at hx2
  rw [List.getElem?_map] at hx2
  obtain ⟨j, h1, rfl⟩ := Option.map_eq_some_iff.mp hx2
  have hi := (List.getElem?_eq_some_iff.mp h1).1
  rw [List.length_range] at hi
  rw [List.getElem?_range hi] at h1
  cases h1
  refine ⟨hi, fun y H2 ⟨hH, hy⟩ => ?_⟩
  subst hH hy
  exact ⟨Ext.refl _ _, r, .int _⟩
def small62 (j : Int) : Prop := -(2 ^ 62) ≤ j ∧ j < 2 ^ 62
instance (j : Int) : Decidable (small62 j) := by unfold small62; exact inferInstance
def fRng1 (m : FA) : FI := bnd m fun xs => fun _ st => match xs with
  | [.int j] => if small62 j then some (.ok ⟨rngL 0 j.toNat, .none⟩ st) else none
  | _ => none
theorem si_rng1 {p : Pos} (C : Ctx0 W k X Ew) (hm : W.mg "range" = none) (ha : SA W X Ew [a] mas) (hg : Gl X "range" := by rfl) (hs : starEach [a] X.env = [(false, eval a X.env)] := by rfl) : SI W X Ew tg (.Call (.Name "range" p) [a] [] pos) (fRng1 mas) :=
  imI (pi_range1 hg (by rw [C.em]; exact hm) ha hs) fun σ H Q ⟨ι, sl, st, r, hs, hr, hm, hq⟩ => run hs hr hm hq fun x st1 ι1 H1 vx e1 s1 r1 rx hm1 hq1 => by
    split at hm1
    · rename_i j
      split at hm1
      · rename_i hj
        cases hm1
        cases rx with
        | cons r0 rr =>
          cases rr
          cases r0
          exact ⟨j, rfl, hj.1, hj.2, hq1 ι1 H1 _ (Ext.refl _ _) r1 (ok_rng 0 _)⟩
      · cases hm1
    · cases hm1
def fRng2 (m : FA) : FI := bnd m fun xs => fun _ st => match xs with
  | [.int i, .int j] => if small62 i ∧ small62 j then some (.ok ⟨rngL i (j - i).toNat, .none⟩ st) else none
  | _ => none
theorem si_rng2 {p : Pos} (C : Ctx0 W k X Ew) (hm : W.mg "range" = none) (ha : SA W X Ew [a, b] mas) (hg : Gl X "range" := by rfl) (hs : starEach [a, b] X.env = [(false, eval a X.env), (false, eval b X.env)] := by rfl) (hs2 : starEach [b] X.env = [(false, eval b X.env)] := by rfl) : SI W X Ew tg (.Call (.Name "range" p) [a, b] [] pos) (fRng2 mas) :=
  imI (pi_range2 hg (by rw [C.em]; exact hm) ha hs hs2) fun σ H Q ⟨ι, sl, st, r, hs, hr, hm, hq⟩ => run hs hr hm hq fun x st1 ι1 H1 vx e1 s1 r1 rx hm1 hq1 => by
    split at hm1
    · rename_i i j
      split at hm1
      · rename_i hj
        cases hm1
        cases rx with
        | cons r0 rr =>
          cases rr with
          | cons r2 rr =>
            cases rr
            cases r0
            cases r2
            exact ⟨i, j, rfl, ⟨hj.1.1, hj.1.2, hj.2.1, hj.2.2⟩, hq1 ι1 H1 _ (Ext.refl _ _) r1 (ok_rng i _)⟩
      · cases hm1
    · cases hm1

/-! ### xs[i:j] = ys, of another list -/
theorem bounds2 {i c n : Nat} (hi : i ≤ n) (hc : i ≤ c) : sliceBounds (some (i : Int)) (some (c : Int)) none n = ((i : Int), ((min c n : Nat) : Int), 1) := by
  simp only [sliceBounds, Option.getD_none]
  have h1 : ¬ ((i : Int) < 0) := by omega
  have h2 : ¬ ((c : Int) < 0) := by omega
  simp only [h1, h2, if_false, show (1 : Int) > 0 by decide, if_true]
  congr 1
  · omega
  · congr 1; omega
theorem setSlice {prog : Program} {w : World} {A : Around} {E : Value → Shared → Prop} {s : Shared} {l b sl : Addr} {items new : Array Value} {n n2 : Nat} {vl vu : Value} {i c : Nat} {Q : Unit → Shared → Prop}
    (g : s.heap.get? l = some { cls := .type "list", data := .seq items n }) (g2 : s.heap.get? b = some { cls := .type "list", data := .seq new n2 }) (nb : l ≠ b) (so : s.heap.IsSliceOf sl vl vu .none) (pl : IsPart vl (some (i : Int))) (pu : IsPart vu (some (c : Int)))
    (hi : i ≤ items.size) (hc : i ≤ c) (hsz : items.size + new.size ≤ sizeLine) (q : Q () { s with heap := s.heap.update l (Obj.mapSeq fun xs => xs.extract 0 i ++ new ++ xs.extract (min c items.size) xs.size) }) :
    wpAny (model prog w) A (setItem (.ref l) (.ref sl) (.ref b)) Q E s := by
  have Ll : s.heap.IsList l items := PySem.IsL.isList g; have Lb : s.heap.IsList b new := PySem.IsL.isList g2
  obtain ⟨os, hos, hcs, hds⟩ := id so
  have Ts : s.TypeIs (.ref sl) "slice" := ⟨os, hos, hcs⟩
  have st0 : ¬ ((rawPart none == rawInt 0) = true) := Bool.false_ne_true
  have ns : Builtin.List.listSameRef (.ref l) (.ref b) = false := by unfold Builtin.List.listSameRef; exact beq_eq_false_iff_ne.mpr nb
  have mx : (max (i : Int) ((min c items.size : Nat) : Int)).toNat = min c items.size := by omega
  have z1 : ((fun xs : Array Value => xs.extract 0 i ++ new ++ xs.extract (min c items.size) xs.size) items).size ≤ sizeLine + 1 := by simp only [Array.size_append, Array.size_extract]; omega
  unfold setItem
  try with_reducible refine wpAny_holding ?_
  first | (refine wpAny_bind (wpAny_pure ?_)) | skip
  refine wpAny_bind (wpAny_sequenceKey Ll.typeIs (by decide) (wpAny_bind (wpAny_callSpecial?_slot (name := Str.ofString "__setitem__") Ll.typeIs slot_list_setitem (wpAny_call_entry slot_list_setitem Ll.typeIs entry_list_setitem ?_ (args_list_setitem _ _ _)))))
  show wpAny _ _ (Builtin.List.listSubscript? (.ref sl) >>= _) _ _ s; refine wpAny_bind ?_
  unfold Builtin.List.listSubscript?; refine wpAny_bind (wpAny_specialOf Ts slice_no_index ?_); simp only [Option.isNone_none, if_true]; refine wpAny_pure ?_
  show wpAny _ _ (typeOf (.ref sl) >>= _) _ _ s; refine wpAny_bind (wpAny_typeOf Ts ?_)
  first | (rw [if_neg (by decide)]) | (refine PySem.W.KFB.if_not (by decide) ?_)
  rw [listSliceParts_eq]; refine wpAny_bind (wpAny_bind (wpAny_field hos hds (x := .none) rfl (wpAny_bind (wpAny_listPart .none ?_)))); rw [if_neg st0]
  refine wpAny_bind (wpAny_field hos hds (x := vl) rfl (wpAny_bind (wpAny_listPart pl (wpAny_bind (wpAny_field hos hds (x := vu) rfl (wpAny_bind (wpAny_listPart pu (wpAny_pure ?_))))))))
  first | (simp only [ns, Bool.false_eq_true, if_false]) | (refine PySem.W.KFB.if_not ns ?_) | (dsimp only; rw [if_neg (by rw [ns]; exact Bool.false_ne_true)])
  refine wpAny_bind (m := Builtin.List.listAllItems (.ref b) "must assign iterable to extended slice") ?_; unfold Builtin.List.listAllItems; refine wpAny_bind (wpAny_typeOf Lb.typeIs ?_)
  first | (refine PySem.W.KFB.if_so (by decide) ?_) | (rw [if_pos (by decide)]) | (simp only [beq_self_eq_true, Bool.true_or, if_true])
  unfold Builtin.List.listItems; refine wpAny_bind (wpAny_seqItems g2 rfl (wpAny_pure (wpAny_bind (wpAny_bind (wpAny_seqItems g rfl (wpAny_pure ?_))))))
  refine wpAny_bind (wpAny_of_eq ((sliceIndices_raw (some (i : Int)) (some (c : Int)) none items.size (by simp)).trans (congrArg (pure : Int × Int × Int → Sem (Int × Int × Int)) (bounds2 hi hc))) ?_)
  show wpAny _ _ (if ((1 : Int) == 1) = true then _ else _) _ _ s; rw [if_pos (by decide)]; refine wpAny_bind (wpAny_rule ?_)
  first | (simp only [notLongL hsz, Bool.false_eq_true, if_false]) | (refine PySem.W.KFB.if_not (notLongL hsz) ?_)
  first | (refine wpAny_bind (wpAny_pure ?_)) | skip
  show wpAny _ _ (updateSeq l (fun xs => xs.extract 0 ((i : Int)).toNat ++ new ++ xs.extract (max (i : Int) ((min c items.size : Nat) : Int)).toNat xs.size) >>= _) _ _ s
  rw [mx, Int.toNat_natCast]; refine wpAny_bind (wpAny_updateSeq (hz := Nat.le_trans (Nat.le_add_right _ _) hsz) (_hz' := z1) g rfl (wpAny_bind (wpAny_letGo ?_)))
  first | (exact wpAny_bind (wpAny_pure (wpAny_pure ⟨.none, rfl, wpAny_pure q⟩))) | (exact wpAny_pure ⟨.none, rfl, wpAny_pure q⟩)
/-- what stands where -/
def tSlc (mo : TE) (tl th : TO) : TG := fun v σ H Q => mo σ H fun x H1 => tl σ H1 fun lo H2 => th σ H2 fun hi H3 => ∃ l b xs ys i c, x = .ref l ∧ v = .ref b ∧ lo = some i ∧ hi = some c ∧ H3 l = some (.lst xs) ∧ H3 b = some (.lst ys) ∧ l ≠ b ∧ 0 ≤ i ∧ i ≤ c ∧ i ≤ xs.length ∧
  xs.length + ys.length ≤ sizeLine ∧ Q σ (upd H3 l (.lst (xs.take i.toNat ++ ys ++ xs.drop (min c.toNat xs.length))))
theorem pg_slc {o : Expr} {lo hi : Option Expr} {mo : TE} {tl th : TO} {p2 : Pos} (ho : PE X o mo) (hl : PO X lo tl) (hh : PO X hi th)
    (ha : ∀ v, assign (.Subscript o (.Slice lo hi none p2) pos) X.env v = (do let ov ← holding [v] (eval o X.env); let iv ← holding [v, ov] (eval (.Slice lo hi none p2) X.env); standAt pos; holding [v, ov, iv] (setItem ov iv v); release [iv, v, ov] []) := by intro _; rfl) : PG X (.Subscript o (.Slice lo hi none p2) pos) (tSlc mo tl th) := by
  refine ⟨fun pins s σ H v u Q I r h => ?_⟩
  rw [ha]
  refine wpAny_bind (wpAny_holding (thn (ho.run pins s σ H _ I h) fun ov s1 ⟨x, H1, I1, r1, q1⟩ => ?_))
  refine wpAny_bind (wpAny_holding (wpAny_Slice (thn (hl.run pins s1 σ H1 _ I1 q1) fun vl s2 ⟨l, H2, I2, pl, q2⟩ => thn (hh.run pins s2 σ H2 _ I2 q2) fun vu s3 ⟨z, H3, I3, pu, q3⟩ => ?_)))
  rw [evalPart_none]
  refine wpAny_pure ?_
  obtain ⟨l, b, xs, ys, i, c, rfl, rfl, rfl, rfl, hx, hy, ne, hi0, hic, hil, hz, q⟩ := q3
  cases r
  cases r1
  obtain ⟨i', rfl⟩ := Int.eq_ofNat_of_zero_le hi0
  obtain ⟨c', rfl⟩ := Int.eq_ofNat_of_zero_le (Int.le_trans hi0 hic)
  have I4 : Inv X pins σ H3 { s3 with heap := s3.heap.push { cls := .type "slice", data := .fields #[vl, vu, .none] } } := I3.kept (t' := s3.toks) fun b ob q => Heap.get?_push_of_some _ q
  obtain ⟨z1, its, n, rv, hl1, e⟩ := I4.lstM hx
  obtain ⟨z2, its2, n2, rv2, hl2, e2⟩ := I4.lstM hy
  refine wpAny_bind (wpAny_standAt (wpAny_bind (wpAny_holding (setSlice e e2 ne (Heap.IsSliceOf.new ..) pl pu (by rw [List.size_toArray]; omega) (by omega) (by rw [List.size_toArray, List.size_toArray]; omega) ?_))))
  refine wpAny_release ⟨σ, _, I4.lset (its' := its.take i' ++ its2 ++ its.drop (min c' its.length)) (t' := s3.toks) hx e ?_ (Vals.append (Vals.append (rv.take _) rv2) (rv.drop _)) ?_, ?_⟩
  · have e9 : min c' its.toArray.size = min c' its.length := by rw [List.size_toArray]
    show its.toArray.extract 0 i' ++ its2.toArray ++ its.toArray.extract (min c' its.toArray.size) its.toArray.size = _
    rw [e9]
    exact splice_eq its its2 i' (min c' its.length)
  · rw [List.length_append, List.length_append, List.length_take, List.length_drop]
    omega
  · rw [hl1] at q
    simpa using q
def gSlc (mo : FE) (lo hi : FO) : FG := fun v sl st => match mo sl st with
  | some (.ok (.ref l) st1) => match lo sl st1 with
    | some (.ok (some i) st2) => match hi sl st2 with
      | some (.ok (some c) st3) => match v with
        | .ref b => match st3[l]?, st3[b]? with
          | some (.lst xs), some (.lst ys) => if l ≠ b ∧ 0 ≤ i ∧ i ≤ c ∧ i ≤ xs.length ∧ xs.length + ys.length ≤ LINE then some (sl, st3.set l (.lst (xs.take i.toNat ++ ys ++ xs.drop (min c.toNat xs.length)))) else none
          | _, _ => none
        | _ => none
      | _ => none
    | _ => none
  | _ => none
theorem sg_slc {o : Expr} {lo hi : Option Expr} {mo : FE} {ml mh : FO} {p2 : Pos} (C : Ctx0 W k X Ew) (ho : SE W X Ew o mo) (hl : SO W X Ew lo ml) (hh : SO W X Ew hi mh)
    (ha : ∀ v, assign (.Subscript o (.Slice lo hi none p2) pos) X.env v = (do let ov ← holding [v] (eval o X.env); let iv ← holding [v, ov] (eval (.Slice lo hi none p2) X.env); standAt pos; holding [v, ov, iv] (setItem ov iv v); release [iv, v, ov] []) := by intro _; rfl) : SG W X (.Subscript o (.Slice lo hi none p2) pos) (gSlc mo ml mh) :=
  imG (pg_slc ho hl hh ha) fun v σ H Q ⟨ι, sl, st, x, sl', st', hs, hr, hx, hm, hq⟩ => by
    unfold gSlc at hm
    split at hm
    case h_2 => cases hm
    rename_i l st1 h1
    refine ⟨ι, sl, st, _, hs, hr, h1, fun ι1 H1 vo e1 r1 ro => ?_⟩
    split at hm
    case h_2 => cases hm
    rename_i i st2 h2
    refine ⟨ι1, sl, st1, _, hs.mono e1, r1, h2, fun ι2 H2 vi e2 r2 ri => ?_⟩
    subst ri
    split at hm
    case h_2 => cases hm
    rename_i c st3 h3
    refine ⟨ι2, sl, st2, _, (hs.mono e1).mono e2, r2, h3, fun ι3 H3 vc e3 r3 rc => ?_⟩
    subst rc
    split at hm
    case h_2 => cases hm
    rename_i b
    split at hm
    case h_2 => cases hm
    rename_i xs ys h4 h5
    split at hm
    case isFalse => cases hm
    rename_i h6
    obtain ⟨g1, g2, g3, g4, g5⟩ := h6
    cases hm
    cases ro with
    | @ref _ p h7 =>
      cases hx with
      | @ref _ q h8 =>
        have h7' := e3.pre _ _ (e2.pre _ _ h7)
        have h8' := e3.pre _ _ (e2.pre _ _ (e1.pre _ _ h8))
        obtain ⟨vs, h9, h10⟩ := r3.lst h4 h7'
        obtain ⟨ws, h11, h12⟩ := r3.lst h5 h8'
        refine ⟨p, q, vs, ws, i, c, rfl, rfl, rfl, rfl, h9, h11, fun z => g1 (r3.nd _ _ p h7' (z ▸ h8')), g2, g3, by rw [← h10.len]; exact g4, by rw [← h10.len, ← h12.len]; exact sz_of g5, ?_⟩
        rw [← h10.len]
        exact hq ι3 _ σ (((e1.trans e2).trans e3).trans (Ext.put r3 h7' h4)) (r3.put h7' h4 (show RO W ι3 H3 (.lst (xs.take i.toNat ++ ys ++ xs.drop (min c.toNat xs.length))) (.lst (vs.take i.toNat ++ ws ++ vs.drop (min c.toNat xs.length))) from ((h10.take _).app h12).app (h10.drop _))) ((((hs.mono e1).mono e2).mono e3).mono (Ext.put r3 h7' h4))
end
end FL
/-! FL8: a law's end: what its def is to answer; the head by facts. -/
namespace FL
open PySem PySem.Spec PyProof.Rows L2
def spLaw (K : PySem.W.Frag) : Sp := fun vs H Q _ => ∃ (a : Addr) (ns : List Int), vs = [.ref a] ∧ SqZ K H a (ns.map V.int) ∧ ns.length ≤ 63 ∧ ∀ H', Q (.bl true) H'
theorem sp_law {W : Wd} {F : FF} (hW : W.hot = none) (hF : ∀ ns : List Int, ns.length ≤ 63 → ∃ st', F [.scr ns] [] = some (.ok (.bl true) st')) {vs : List V} {H : Hp} {Q : VK} {E : XK} (h : spLaw W.K vs H Q E) : spOf W F vs H Q E := by
  obtain ⟨a, ns, rfl, hS, hl, hq⟩ := h
  obtain ⟨st', h1⟩ := hF ns hl
  refine ⟨[], [], [.scr ns], _, .cons (.scr hS) .nil, ⟨rfl, fun i j a h => by simp at h, fun i a o h => by simp at h, fun p h => by rw [hW] at h; cases h⟩, h1, ?_⟩
  intro ι' H' b _ _ hb
  cases hb
  exact hq H'
theorem sqZ_of {K : PySem.W.Frag} {H : Hp} {a : Addr} {xs : List V} (hO : Only H) (hS : SqL K H a xs) : SqZ K H a xs := by
  rcases hS with (h | ⟨o, h⟩) | h
  · rcases hO a with e | ⟨o, ys, e⟩ <;> rw [e] at h <;> cases h
  · exact .inl ⟨o, h⟩
  · exact .inr fun H0 => .inr h
theorem end_of {l : PySem.W.OpenLaw} {k : Nat} {q : Program} {loose : List Str} {XP : (Str → Option Value) → Heap → Prop} {YP : World → Heap → Prop} {d : DefRec} (hn : l.most = some 63) (hdf : d.params.defaults = []) (hr : Room k callerA)
    (F : ∀ (w : World) (mg : Str → Option Value) (fa : Addr) (h : Heap), YP w h → h.Ns mainGlobals mg → mg d.name = some (.ref fa) → ∃ (K : PySem.W.Frag) (fd : FuncData), K.In h ∧ (∀ (s : Shared) (u : Value), BindsTo s fd ⟨[u], []⟩ [("script", u)]) ∧
      ∀ base : Heap, K.In base → base.Ns mainGlobals mg → FnOk l.prog w K mg base (L2.CX l.prog w) k fa fd ["script"] (spLaw K)) : PySem.W.WalkO q loose XP YP l.row.toRowW d [] (fun f vs => PySem.call f vs) :=
  Att.attach_call hn hdf fun w s₀ s₁ mg mb fa o pm cd doc a vs ns G Y ho hd hcd hmg hobj hints hlen hg => by
    obtain ⟨K, fd, h1, h2, h3⟩ := F w mg fa _ Y G.T.g hmg
    have h4 : ns.length ≤ sizeLine := Nat.le_trans hlen (by decide)
    exact law_call h1 G.T.g G.T.b G.T.builtins G.T.nolimit hg hobj hints h4 hr h3 h2 (fun H hO hS => ⟨a, ns, rfl, sqZ_of hO hS, hlen, fun _ => rfl⟩) fun H e s' ⟨_, _, _, _, _, _, _, _, _, _, _, _, z⟩ => z
/-! ### a head's facts, and more -/
def kwdAt (f : Str × Option Str) (x : Str) (K : PySem.W.Frag) : Addr := match K.lookup (He.fAd K f) with
  | some ⟨_, _, .func fd, _⟩ => (match fd.kwdefaults with
    | .ref D => (match PySem.W.nsIn K D x with
      | some (some (.ref a)) => a
      | _ => 0)
    | _ => 0)
  | _ => 0
/-- keyword-only defaults of the def at f -/
def kwdOk (f : Str × Option Str) (kws : List (Str × He.Dv)) (K : PySem.W.Frag) : Bool := match K.lookup (He.fAd K f) with
  | some ⟨_, _, .func fd, _⟩ => He.kwdB K fd.kwdefaults (kws.map fun q => (q.1, q.2.v K))
  | _ => false
/-- an empty tuple -/
def tup0 (a : PySem.W.Frag → Addr) (K : PySem.W.Frag) : Bool := match K.lookup (a K) with
  | some ⟨.type c, _, .seq its _, _⟩ => decide (c = "tuple") && decide (its.size = 0)
  | _ => false
theorem tup0_ok {a : PySem.W.Frag → Addr} {K : PySem.W.Frag} (h : tup0 a K = true) (H : Hp) : SqT K H (a K) [] := by
  unfold tup0 at h
  cases q : K.lookup (a K) with
  | none => rw [q] at h; cases h
  | some o =>
    obtain ⟨oc, od, dt, osl⟩ := o
    rw [q] at h
    cases oc with
    | type c =>
      cases dt with
      | seq its n =>
        obtain ⟨h1, h2⟩ := He.ba (show (decide (c = "tuple") && decide (its.size = 0)) = true from h)
        have h3 : its.size = 0 := of_decide_eq_true h2
        refine .inr ⟨_, its, n, q, congrArg Value.type (of_decide_eq_true h1), rfl, by rw [h3]; exact Nat.zero_le _, ?_⟩
        have : its.toList = [] := by
          apply List.eq_nil_of_length_eq_zero
          simpa using h3
        rw [this]
        exact .nil
      | _ => cases h
    | _ => cases dt <;> cases h
def obsF (fa : List He.Fa) (fn : List He.FnD) (ex : List (PySem.W.Frag → Bool)) (K : PySem.W.Frag) : Bool × He.Al := (ex.all fun e => e K, He.obsE fa fn K)
def SaysF (fa : List He.Fa) (fn : List He.FnD) (ex : List (PySem.W.Frag → Bool)) (K : PySem.W.Frag) : Prop := obsF fa fn ex K = (true, He.valE fn)
def obsFG (n : Nat) (fa : List He.Fa) (fn : List He.FnD) (ex : List (PySem.W.Frag → Bool)) (g : Addr → Option Obj) : Bool × He.Al := obsF fa fn ex (He.frG g (He.asD g n))
def hookF (n : Nat) (fa : List He.Fa) (fn : List He.FnD) (ex : List (PySem.W.Frag → Bool)) : PySem.W.Hook where
  α := Bool × He.Al
  obs := fun s => obsFG n fa fn ex s.heap.get?
  val := fun _ => (true, He.valE fn)
  says := fun _ h => ∃ K : PySem.W.Frag, K.In h ∧ SaysF fa fn ex K
  of := fun _ _ e => ⟨_, He.frG_in, e⟩
  keeps := fun _ _ _ ⟨K, hK, c⟩ k => ⟨K, PySem.W.Frag.In.keeps hK k, c⟩
theorem obsFG_eq {n : Nat} {fa : List He.Fa} {fn : List He.FnD} {ex : List (PySem.W.Frag → Bool)} {g : Addr → Option Obj} {s : Shared} (h : ∀ a, g a = s.heap.get? a) : obsFG n fa fn ex g = (hookF n fa fn ex).obs s := by
  have e : g = s.heap.get? := funext h
  rw [e] <;> rfl
section
variable {fa : List He.Fa} {fn : List He.FnD} {ex : List (PySem.W.Frag → Bool)} {K : PySem.W.Frag}
theorem SaysF.e (c : SaysF fa fn ex K) : He.SaysE fa fn K := congrArg (fun z : Bool × He.Al => z.2) c
theorem SaysF.fact (c : SaysF fa fn ex K) (i : Nat) {f : He.Fa} (h : fa[i]? = some f := by rfl) : f.ok K = true := c.e.fact i h
theorem SaysF.more (c : SaysF fa fn ex K) (i : Nat) {f : PySem.W.Frag → Bool} (h : ex[i]? = some f := by rfl) : f K = true := by
  have c1 : (ex.all fun e => e K) = true := congrArg (fun z : Bool × He.Al => z.1) c
  exact List.all_eq_true.mp c1 f (List.mem_of_getElem? h)
theorem SaysF.def_ (c : SaysF fa fn ex K) (i : Nat) {d : He.FnD} (h : fn[i]? = some d := by rfl) :
    ∃ oc od osl kV doc pm an cdv ct, K.lookup (He.fAd K d.at_) = some ⟨oc, od, .func (PySem.W.fnOf d.name d.qual d.params d.body d.scope .none kV doc pm an cdv ct), osl⟩ ∧ PySem.W.codeIn K cdv d.qual = true := c.e.def_ i h
end
end FL
/-! FL9: sorted pairs, the greatest of a list, zip, what is never reached. -/
namespace FL
open PySem PySem.Spec PyProof.Rows L2
section
variable {W : Wd} {k : Nat} {X : Cx} {Ew : WX} {ι ι' : List Addr} {H H' : Hp} {st : Sto} {a b e : Expr} {es : List Expr} {ma mb me : FE} {mt mu : FT} {mas : FA} {pos : Pos} {tg : Expr}
/-! ### sorted(pairs) -/
def prOf : Val → Option (Int × Int)
  | .tup [.int i, .int j] => some (i, j)
  | _ => none
def ofPr (p : Int × Int) : Val := .tup [.int p.1, .int p.2]
def prLe (p q : Int × Int) : Bool := decide (p.1 < q.1 ∨ p.1 = q.1 ∧ p.2 ≤ q.2)
def srtP (l : List (Int × Int)) : List (Int × Int) := l.mergeSort prLe
theorem mapO_pr : ∀ {xs : List Val} {ps : List (Int × Int)}, mapO prOf xs = some ps → xs = ps.map ofPr
  | [], _, h => by cases h; rfl
  | x :: xs, ps, h => by
    unfold mapO at h
    cases h1 : prOf x with
    | none => rw [h1] at h; cases h
    | some p =>
      rw [h1] at h
      cases h2 : mapO prOf xs with
      | none => rw [h2] at h; cases h
      | some qs =>
        rw [h2] at h
        cases h
        rw [mapO_pr h2]
        have : x = ofPr p := by
          unfold prOf at h1
          split at h1
          · cases h1
            rfl
          · cases h1
        rw [this]
        rfl
def fSortP : ON := oneR fun p st => match st[p]? with
  | some (.lst xs) => (mapO prOf xs).map fun ps => (.ref st.length, st ++ [.lst ((srtP ps).map ofPr)])
  | _ => none
theorem RVs.permP {K : PySem.W.Frag} : ∀ {xs : List Val} {vs ws : List V}, ws.Perm vs → RVs K ι H xs vs → ∃ ys : List Val, ys.Perm xs ∧ RVs K ι H ys ws := by
  intro xs vs ws h
  induction h generalizing xs with
  | nil => intro r; exact ⟨xs, .refl _, r⟩
  | cons x _ ih =>
    intro r
    cases r with
    | cons a b =>
      obtain ⟨ys, h1, h2⟩ := ih b
      exact ⟨_ :: ys, h1.cons _, .cons a h2⟩
  | swap x y l =>
    intro r
    cases r with
    | cons a b =>
      cases b with
      | cons c d => exact ⟨_, .swap _ _ _, .cons c (.cons a d)⟩
  | trans _ _ ih1 ih2 =>
    intro r
    obtain ⟨ys, h1, h2⟩ := ih2 r
    obtain ⟨zs, h3, h4⟩ := ih1 h2
    exact ⟨zs, h3.trans h1, h4⟩
theorem RVs.pairs : ∀ {xs : List Val} {vs : List V} {R : Val → Val → Prop} {S : V → V → Prop}, RVs W.K ι H xs vs → vs.Pairwise S → (∀ x ∈ xs, ∀ y ∈ xs, ∀ u v, RV W.K ι H x u → RV W.K ι H y v → S u v → R x y) → xs.Pairwise R
  | _, _, _, _, .nil, _, _ => .nil
  | x :: xs, v :: vs, R, S, .cons a b, h, f => by
    obtain ⟨h1, h2⟩ := List.pairwise_cons.mp h
    refine List.pairwise_cons.mpr ⟨fun y hy => ?_, RVs.pairs b h2 fun x hx y hy => f x (List.mem_cons_of_mem _ hx) y (List.mem_cons_of_mem _ hy)⟩
    obtain ⟨i, hi⟩ := List.mem_iff_getElem?.mp hy
    obtain ⟨u, h3, h4⟩ := b.at i hi
    exact f x List.mem_cons_self y (List.mem_cons_of_mem _ hy) v u a h4 (h1 u (List.mem_of_getElem? h3))
theorem prLe_iff {p q : Int × Int} : prLe p q = true ↔ (p.1 < q.1 ∨ p.1 = q.1 ∧ p.2 ≤ q.2) := by
  unfold prLe
  rw [decide_eq_true_iff]
theorem srtP_perm (l : List (Int × Int)) : (srtP l).Perm l := List.mergeSort_perm _ _
theorem srtP_sorted (l : List (Int × Int)) : (srtP l).Pairwise fun p q => prLe p q = true :=
  List.pairwise_mergeSort (le := prLe) (fun a b c h1 h2 => by
    have h1 := prLe_iff.mp h1
    have h2 := prLe_iff.mp h2
    exact prLe_iff.mpr (by omega)) (fun a b => by
    cases h : prLe a b with
    | true => rfl
    | false =>
      have : ¬ (prLe a b = true) := by rw [h]; decide
      rw [prLe_iff] at this
      show prLe b a = true
      exact prLe_iff.mpr (by omega)) l
theorem srtP_uniq {l m : List (Int × Int)} (h1 : m.Perm l) (h2 : m.Pairwise fun p q => prLe p q = true) : m = srtP l :=
  List.Perm.eq_of_pairwise (le := fun p q => prLe p q = true) (fun a b _ _ x y => by
    have x := prLe_iff.mp x
    have y := prLe_iff.mp y
    exact Prod.ext (by omega) (by omega)) h2 (srtP_sorted l) (h1.trans (srtP_perm l).symm)
open Classical in
noncomputable def keyV (K : PySem.W.Frag) (H : Hp) (v : V) : Int × Int := if h : ∃ p : Int × Int, ∃ t, v = .ref t ∧ SqT K H t [.int p.1, .int p.2] then h.choose else (0, 0)
theorem keyV_eq {pins : List (Addr × Obj)} {σ : L2.St} {s : Shared} {v : V} {p : Int × Int} (I : Inv X pins σ H s) (eK : X.K = W.K) (r : RV W.K ι H (ofPr p) v) : keyV W.K H v = p ∧ ∃ t, v = .ref t ∧ SqT W.K H t [.int p.1, .int p.2] := by
  unfold ofPr at r
  cases r with
  | @tup t vs xs sx rx =>
    rw [RVs.pair rx] at sx
    have h : ∃ p : Int × Int, ∃ t', V.ref t = .ref t' ∧ SqT W.K H t' [.int p.1, .int p.2] := ⟨p, t, rfl, sx⟩
    refine ⟨?_, t, rfl, sx⟩
    unfold keyV
    rw [dif_pos h]
    obtain ⟨t', e, s'⟩ := h.choose_spec
    cases e
    generalize h.choose = q at s' ⊢
    rw [← eK] at s' sx
    have := I.tuple_inj s' sx
    simp at this
    exact Prod.ext this.1 this.2
theorem call_sortP (C : Ctx0 W k X Ew) : CallR X (.builtin "sorted") (rc W fSortP) := by
  intro pins s σ H zs us Q I rz ⟨ι, st, as, v, st', rx, hr, hf, hq⟩
  obtain ⟨n, p, rfl, rfl, h0, h1⟩ := one_ref rx hf
  split at h1
  case h_2 => cases h1
  rename_i xs h5
  obtain ⟨ps, h2, h3⟩ := Option.map_eq_some_iff.mp h1
  cases h3
  have hx := mapO_pr h2
  subst hx
  obtain ⟨vs, h6, h7⟩ := hr.lst h5 h0
  obtain ⟨its, rv, hl, hz⟩ := I.list (SqL.of h6 (K := X.K))
  obtain ⟨u, rfl, ru⟩ := vals1 rz
  obtain rfl : u = Value.ref p := ru
  have key : ∀ v ∈ vs, ∃ q, q ∈ ps ∧ keyV W.K H v = q ∧ RV W.K ι H (ofPr q) v ∧ ∃ t, v = .ref t ∧ SqT W.K H t [.int q.1, .int q.2] := fun v hv => by
    obtain ⟨i, hi⟩ := List.mem_iff_getElem?.mp hv
    have hlt : i < ps.length := by
      have := (List.getElem?_eq_some_iff.mp hi).1
      rw [← h7.len, List.length_map] at this
      exact this
    obtain ⟨w, hw, rw'⟩ := h7.at i (x := ofPr ps[i]) (by rw [List.getElem?_map, List.getElem?_eq_getElem hlt]; rfl)
    rw [hi] at hw
    cases hw
    exact ⟨ps[i], List.getElem_mem hlt, (keyV_eq I C.eK rw').1, rw', (keyV_eq I C.eK rw').2⟩
  obtain ⟨e1, e2⟩ := refs_back rv fun x m => by
    obtain ⟨_, _, _, _, t, e, _⟩ := key x m
    exact ⟨t, e⟩
  refine SrtO.sorted_pairsO (k := fun u => keyV W.K H (backV u)) hl.isList (by rw [← rv.length]; exact hz) (fun v hv => ?_) fun h' d out hs1 hs2 kp hd hn => ?_
  · obtain ⟨t, rfl⟩ := e2 v hv
    have hm : V.ref t ∈ vs := by rw [e1]; exact List.mem_map.mpr ⟨_, hv, rfl⟩
    obtain ⟨q, _, hk, _, t', e, ht⟩ := key _ hm
    cases e
    rw [← C.eK] at ht
    obtain ⟨its2, r2, ⟨o, ho, hc, n2, hd⟩, _⟩ := I.tuple ht
    obtain ⟨u1, u2, rfl, ri, rj⟩ := vals2 r2
    obtain ⟨t1, rfl⟩ := ri
    obtain ⟨t2, rfl⟩ := rj
    show ∃ _, _
    have hk2 : keyV W.K H (backV (Value.ref t)) = q := hk
    rw [hk2]
    exact ⟨t, o, t1, t2, n2, rfl, ho, hc, hd⟩
  · have h3 : ∀ u ∈ out, ∃ a, u = Value.ref a := fun u hu => e2 u (hs2.perm.mem_iff.mp hu)
    obtain ⟨n2, hn2⟩ := hn
    have hp : (out.map backV).Perm vs := by
      rw [e1]
      exact hs2.perm.map backV
    obtain ⟨ys, hy1, hy2⟩ := h7.permP hp
    -- the new list's items: pairs, in order
    have hys : ∃ qs : List (Int × Int), ys = qs.map ofPr ∧ qs.Perm ps := by
      have : ∀ (ys : List Val) (ps : List (Int × Int)), ys.Perm (ps.map ofPr) → ∃ qs : List (Int × Int), ys = qs.map ofPr ∧ qs.Perm ps := fun ys ps h => by
        have hinj : ∀ p q, ofPr p = ofPr q → p = q := fun p q e => by
          unfold ofPr at e
          simp at e
          exact Prod.ext e.1 e.2
        have h9 : ∀ y ∈ ys, ∃ q, y = ofPr q := fun y hy => by
          obtain ⟨q, _, e⟩ := List.mem_map.mp (h.mem_iff.mp hy)
          exact ⟨q, e.symm⟩
        have h8 : ∃ qs : List (Int × Int), ys = qs.map ofPr := by
          clear h
          induction ys with
          | nil => exact ⟨[], rfl⟩
          | cons y ys ih =>
            obtain ⟨q, rfl⟩ := h9 y List.mem_cons_self
            obtain ⟨qs, rfl⟩ := ih fun z hz => h9 z (List.mem_cons_of_mem _ hz)
            exact ⟨q :: qs, rfl⟩
        obtain ⟨qs, rfl⟩ := h8
        refine ⟨qs, rfl, ?_⟩
        have h7 := h.map fun v => (prOf v).getD (0, 0)
        rw [List.map_map, List.map_map] at h7
        have e : ((fun v => (prOf v).getD (0, 0)) ∘ ofPr) = id := rfl
        rw [e, List.map_id, List.map_id] at h7
        exact h7
      exact this ys ps hy1
    obtain ⟨qs, rfl, hq2⟩ := hys
    have hso : qs.Pairwise fun p q => prLe p q = true := by
      have h8 : (qs.map ofPr).Pairwise fun x y => ∀ p q, x = ofPr p → y = ofPr q → prLe p q = true := by
        refine RVs.pairs hy2 (SrtO.srtd_map (lt := ltP (keyV W.K H)) (f := backV) hs1) fun x hx y hy u v ru' rv' hs p q e1 e2 => ?_
        subst e1 e2
        have k1 := (keyV_eq I C.eK ru').1
        have k2 := (keyV_eq I C.eK rv').1
        have h9 : SrtO.lexB (keyV W.K H v) (keyV W.K H u) = false := hs
        rw [k1, k2] at h9
        have := SrtO.lexB_no.mp h9
        exact prLe_iff.mpr (by omega)
      exact (List.pairwise_map.mp h8).imp fun h => h _ _ rfl rfl
    have hfin := srtP_uniq hq2 hso
    subst hfin
    refine ⟨.ref d, upd H d (.lst (out.map backV)), I.laid (t' := s.toks) kp hd ⟨?_, out, n2, vals_back h3, hn2⟩, rfl, ?_⟩
    · rw [hp.length_eq]
      exact hz
    · have hd0 := I.hok.fresh hd
      exact hq.new hr (show RO W ι H (.lst _) (.lst _) from hy2) d hd0
/-! ### max(list) -/
def maxI : List Int → Option Int
  | [] => none
  | x :: xs => some (xs.foldl max x)
def fMaxL : ON := oneR fun p st => match st[p]? with
  | some (.lst xs) => (mapO (fun v => match v with | .int i => some i | _ => none) xs).bind fun ns => (maxI ns).map fun m => (.int m, st)
  | _ => none
theorem mapO_int : ∀ {xs : List Val} {ps : List Int}, mapO (fun v => match v with | .int i => some i | _ => none) xs = some ps → xs = ps.map .int
  | [], _, h => by cases h; rfl
  | x :: xs, ps, h => by
    unfold mapO at h
    cases x with
    | int i =>
      cases h2 : mapO (fun v => match v with | .int i => some i | _ => none) xs with
      | none => rw [h2] at h; cases h
      | some qs =>
        rw [h2] at h
        cases h
        rw [mapO_int h2]
        rfl
    | _ => cases h
theorem foldl_max : ∀ (xs : List Int) (x : Int), xs.foldl max x ∈ x :: xs ∧ ∀ y ∈ x :: xs, y ≤ xs.foldl max x
  | [], x => ⟨List.mem_cons_self, fun y hy => by rw [List.mem_singleton.mp hy]; exact Int.le_refl _⟩
  | z :: xs, x => by
    obtain ⟨h1, h2⟩ := foldl_max xs (max x z)
    refine ⟨?_, fun y hy => ?_⟩
    · rw [List.foldl_cons]
      rcases List.mem_cons.mp h1 with e | e
      · rw [e]
        by_cases h : x ≤ z
        · rw [Int.max_eq_right h]
          exact List.mem_cons_of_mem _ List.mem_cons_self
        · rw [Int.max_eq_left (by omega)]
          exact List.mem_cons_self
      · exact List.mem_cons_of_mem _ (List.mem_cons_of_mem _ e)
    · rw [List.foldl_cons]
      have h3 := h2 (max x z) List.mem_cons_self
      rcases List.mem_cons.mp hy with e | e
      · rw [e]
        omega
      · rcases List.mem_cons.mp e with e | e
        · rw [e]
          omega
        · exact h2 y (List.mem_cons_of_mem _ e)
theorem call_maxLF (C : Ctx0 W k X Ew) (hc : X.calm = true) : CallR X (.builtin "max") (rc W fMaxL) := callBy fun xs H Q ⟨ι, st, as, v, st', rx, hr, hf, hq⟩ => by
  obtain ⟨i, p, rfl, rfl, h0, h1⟩ := one_ref rx hf
  split at h1
  · rename_i ys h5
    obtain ⟨ns, h2, h3⟩ := Option.bind_eq_some_iff.mp h1
    obtain ⟨m, h4, h6⟩ := Option.map_eq_some_iff.mp h3
    cases h6
    have := mapO_int h2
    subst this
    obtain ⟨vs, h6, h7⟩ := hr.lst h5 h0
    rw [RVs.ofInts ns h7] at h6
    cases ns with
    | nil => cases h4
    | cons n ns =>
      cases h4
      refine ⟨_, cr_max hc, p, n :: ns, rfl, SqL.of h6, by simp, fun m hm hle => ?_⟩
      obtain ⟨g1, g2⟩ := foldl_max ns n
      have e : m = ns.foldl max n := Int.le_antisymm (g2 m hm) (hle _ g1)
      rw [e]
      exact hq.here hr (.int _)
  · cases h1
/-! ### zip of two lists -/
def zipV (xs ys : List Val) : List Val := (xs.zip ys).map fun p => .tup [p.1, p.2]
theorem ok_zip {i j : Nat} {p q : Addr} {xs ys : List Val} (h0 : ι[i]? = some p) (h1 : ι[j]? = some q) : ItOk W ι H ⟨zipV xs ys, .two i xs j ys⟩ (Itz W.K p q) := fun ι' H' st n e r lv => by
  obtain ⟨l1, l2⟩ : st[i]? = some (.lst xs) ∧ st[j]? = some (.lst ys) := lv
  obtain ⟨vs, a1, a2⟩ := r.lst l1 (e.pre _ _ h0)
  obtain ⟨ws, b1, b2⟩ := r.lst l2 (e.pre _ _ h1)
  have len : (zipV xs ys).length = min xs.length ys.length := by
    unfold zipV
    rw [List.length_map, List.length_zip]
  refine ⟨fun x hx => ?_, fun hi => ⟨vs, ws, SqL.of a1, SqL.of b1, by
    have hi' : (zipV xs ys).length ≤ n := hi
    rw [len, a2.len, b2.len] at hi'
    omega⟩⟩
  have hx' : (zipV xs ys)[n]? = some x := hx
  unfold zipV at hx'
  rw [List.getElem?_map] at hx'
  obtain ⟨⟨y, z⟩, hz, rfl⟩ := Option.map_eq_some_iff.mp hx'
  rw [List.getElem?_zip_eq_some] at hz
  obtain ⟨v, h3, h4⟩ := a2.at n hz.1
  obtain ⟨w, h5, h6⟩ := b2.at n hz.2
  refine ⟨⟨vs, ws, v, w, SqL.of a1, SqL.of b1, h3, h5⟩, fun u H2 hy => ?_⟩
  obtain ⟨T, v', w', rfl, nT, rfl, f1, f2⟩ := hy
  have e1 := f1 vs (SqL.of a1)
  have e2 := f2 ws (SqL.of b1)
  rw [h3] at e1
  rw [h5] at e2
  cases e1
  cases e2
  have ex : Ext ι' H' ι' (upd H' T (.tup [v, w])) := Ext.newT nT
  exact ⟨ex, r.newT nT, .tup (SqT.of upd_same) (.cons (h4.mono ex) (.cons (h6.mono ex) .nil))⟩
def fZip (m : FA) : FI := bnd m fun vs => fun _ st => match vs with
  | [.ref p, .ref q] => (match st[p]?, st[q]? with
    | some (.lst xs), some (.lst ys) => some (.ok ⟨zipV xs ys, .two p xs q ys⟩ st)
    | _, _ => none)
  | _ => none
theorem si_zip {elts : List Expr} {kk : Nat} {p tpos : Pos} (C : Ctx0 W k X Ew) (hm : W.mg "zip" = none) (ha : SA W X Ew [a, b] mas) (hg : Gl X "zip" := by rfl)
    (hs : starEach [a, b] X.env = (false, eval a X.env) :: starEach [b] X.env := by rfl) (hpl : (backTo pos (starEach [b] X.env)).any (·.1) = false := by rfl) : SI W X Ew (.Tuple elts kk tpos) (.Call (.Name "zip" p) [a, b] [] pos) (fZip mas) :=
  imI (pi_zip hg (by rw [C.em]; exact hm) ha hs hpl) fun σ H Q ⟨ι, sl, st, r, hs, hr, hm, hq⟩ => run hs hr hm hq fun x st1 ι1 H1 vx e1 s1 r1 rx hm1 hq1 => by
    split at hm1
    · rename_i i j
      split at hm1
      · rename_i xs ys h5 h6
        cases hm1
        cases rx with
        | cons r0 rr =>
          cases rr with
          | cons r2 r3 =>
            cases r3
            cases r0 with
            | @ref _ p h0 =>
              cases r2 with
              | @ref _ q h1 =>
                obtain ⟨vs, h7, _⟩ := r1.lst h5 h0
                obtain ⟨ws, h8, _⟩ := r1.lst h6 h1
                rw [C.eK]
                exact ⟨p, q, vs, ws, rfl, SqL.of h7, SqL.of h8, hq1 ι1 H1 _ (Ext.refl _ _) r1 (ok_zip h0 h1)⟩
      · cases hm1
    · cases hm1
/-! ### a, b = x, y -/
def fPar (i j : Nat) (m : FA) : FS := bndS m fun vs => fun sl st => match vs with
  | [v, w] => some (.nx ((sl.set i (some v)).set j (some w)) st)
  | _ => none
def fPar3 (i j l : Nat) (m : FA) : FS := bndS m fun vs => fun sl st => match vs with
  | [u, v, w] => some (.nx (((sl.set i (some u)).set j (some v)).set l (some w)) st)
  | _ => none
theorem ss_par (i j : Nat) {x y : Str} {px py pt pt2 : Pos} {kt k2} (C : Ctx W k X Ew) (ha : SA W X Ew [a, b] mas) (hi : X.N[i]? = some x := by rfl) (hj : X.N[j]? = some y := by rfl) (hij : i ≠ j := by decide)
    (hx : X.env.scope.names.lookup x = some .local := by rfl) (hy : X.env.scope.names.lookup y = some .local := by rfl)
    (hw : swappedStores [.Tuple [.Name x px, .Name y py] kt pt] (.Tuple [a, b] k2 pt2) X.env = pure (some [x, y]) := by rfl)
    (hs : swapsWithSole [.Tuple [.Name x px, .Name y py] kt pt] (.Tuple [a, b] k2 pt2) pos.line X.env = pure false := by rfl) : SS W X Ew (.Assign [.Tuple [.Name x px, .Name y py] kt pt] (.Tuple [a, b] k2 pt2) pos) (fPar i j mas) :=
  imS (ps_par C.calm C.nd hi hj hij hx hy ha hw hs) fun D σ H ⟨ι, sl, st, r, hs, hr, hm, hq⟩ => runS hs hr hm hq fun x st1 ι1 H1 vx e1 s1 r1 rx hm1 hq1 => by
    split at hm1
    · cases rx with
      | cons r0 rr =>
        cases rr with
        | cons r2 r3 =>
          cases r3
          exact ⟨_, _, rfl, nx_of ((s1.set r0 i).set r2 j) r1 hm1 hq1⟩
    · cases hm1
theorem ss_par3 (i j l : Nat) {x y z : Str} {c : Expr} {px py pz pt pt2 : Pos} {kt k2} (C : Ctx W k X Ew) (ha : SA W X Ew [a, b, c] mas) (hi : X.N[i]? = some x := by rfl) (hj : X.N[j]? = some y := by rfl) (hl : X.N[l]? = some z := by rfl) (hij : i ≠ j := by decide) (hil : i ≠ l := by decide) (hjl : j ≠ l := by decide)
    (hx : X.env.scope.names.lookup x = some .local := by rfl) (hy : X.env.scope.names.lookup y = some .local := by rfl) (hz : X.env.scope.names.lookup z = some .local := by rfl)
    (hw : swappedStores [.Tuple [.Name x px, .Name y py, .Name z pz] kt pt] (.Tuple [a, b, c] k2 pt2) X.env = pure (some [x, y, z]) := by rfl)
    (hs : swapsWithSole [.Tuple [.Name x px, .Name y py, .Name z pz] kt pt] (.Tuple [a, b, c] k2 pt2) pos.line X.env = pure false := by rfl) : SS W X Ew (.Assign [.Tuple [.Name x px, .Name y py, .Name z pz] kt pt] (.Tuple [a, b, c] k2 pt2) pos) (fPar3 i j l mas) :=
  imS (ps_par3 C.calm C.nd hi hj hl hij hil hjl hx hy hz ha hw hs) fun D σ H ⟨ι, sl, st, r, hs, hr, hm, hq⟩ => runS hs hr hm hq fun x st1 ι1 H1 vx e1 s1 r1 rx hm1 hq1 => by
    split at hm1
    · cases rx with
      | cons r0 rr =>
        cases rr with
        | cons r2 r3 =>
          cases r3 with
          | cons r4 r5 =>
            cases r5
            exact ⟨_, _, _, rfl, nx_of (((s1.set r0 i).set r2 j).set r4 l) r1 hm1 hq1⟩
    · cases hm1
/-! ### a, b = a list -/
def gUnL (g : FGs) (n : Nat) : FG := fun x sl st => match x with
  | .ref p => (match st[p]? with
    | some (.lst xs) => if xs.length = n then g xs sl st else none
    | _ => none)
  | _ => none
theorem sg_unl {g : FGs} {j n : Nat} (C : Ctx W k X Ew) (h : SGs W X es g) (h1 : (assignEach es X.env).length = n := by rfl) (h2 : List.findIdx? (fun x => x.1) (assignEach es X.env) = none := by rfl) : SG W X (.Tuple es j pos) (gUnL g n) :=
  imG (pg_lst C.calm h h1 h2) fun v σ H Q ⟨ι, sl, st, x, sl', st', hs, hr, hx, hm, hq⟩ => by
    cases hx with
    | @ref i a h0 =>
      have hm2 : (match st[i]? with | some (.lst xs) => if xs.length = n then g xs sl st else none | _ => none) = some (sl', st') := hm
      split at hm2
      · rename_i xs h5
        by_cases hl : xs.length = n
        · rw [if_pos hl] at hm2
          obtain ⟨vs, h6, h7⟩ := hr.lst h5 h0
          exact ⟨a, vs, rfl, SqL.of h6, by rw [← h7.len]; exact hl, ι, sl, st, xs, sl', st', hs, hr, h7, hm2, hq⟩
        · rw [if_neg hl] at hm2
          cases hm2
      · cases hm2
    | _ => cases hm
/-! ### what is never reached -/
def fNever : FS := fun _ _ => none
theorem ss_never {s : Stmt} : SS W X Ew s fNever := ⟨fun pins s σ H D I ⟨ι, sl, st, r, hs, hr, hm, hq⟩ => by cases hm⟩
end
end FL
/-! FL10: is None, in, int(..), methods of texts. -/
namespace FL
open PySem PySem.Spec PyProof.Rows L2
section
variable {W : Wd} {k : Nat} {X : Cx} {Ew : WX} {ι ι' : List Addr} {H H' : Hp} {st : Sto} {a b e : Expr} {es : List Expr} {ma mb me : FE} {mt mu : FT} {mas : FA} {pos : Pos} {tg : Expr}
/-! ### is None -/
def nonB : Val → Bool
  | .non => true
  | _ => false
def fIsN : O2 := fun a b st => match b with
  | .non => some (.bl (nonB a), st)
  | _ => none
def fNotN : O2 := fun a b st => match b with
  | .non => some (.bl (!nonB a), st)
  | _ => none
theorem nonB_rv {x : Val} {v : V} (r : RV W.K ι H x v) : decide (v = .non) = nonB x := by
  cases r <;> first | rfl | exact decide_eq_false fun z => (nomatch z)
theorem op_isF : OpR X (compareOp .Is) (ro W fIsN) := opBy fun x y H Q ⟨ι, st, a, b, v, st', rx, ry, hr, hf, hq⟩ => by
  cases ry with
  | non =>
    cases hf
    exact ⟨_, op_isN, rfl, by rw [nonB_rv rx]; exact hq.here hr (.bl _)⟩
  | _ => cases hf
theorem op_isnF : OpR X (compareOp .IsNot) (ro W fNotN) := opBy fun x y H Q ⟨ι, st, a, b, v, st', rx, ry, hr, hf, hq⟩ => by
  cases ry with
  | non =>
    cases hf
    exact ⟨_, op_notN, rfl, by rw [nonB_rv rx]; exact hq.here hr (.bl _)⟩
  | _ => cases hf
/-! ### in: a part of a text, an item of a tuple of texts, of a list, a key -/
def fInB (a b : Val) (st : Sto) : Option Bool := match b with
  | .str t => (match a with
    | .str [c] => some (decide (c ∈ t))
    | .str s => some (!(Builtin.Str.occurrences (St' t) (St' s) 0 (St' t).length 1).isEmpty)
    | _ => none)
  | .tup xs => (match a with
    | .str s => (strsOf xs).map fun ss => ss.any fun y => decide (y = s)
    | _ => none)
  | .ref p => (match st[p]? with
    | some (.dic kvs) => (keyOf a).map fun k => (getK kvs k).isSome
    | _ => (match toD 9 st a, toD 9 st (.ref p) with
      | some d, some (.list ds) => if SeqAt.shaped d = true ∧ SeqAt.shaped (.list ds) = true then some (ds.any fun z => PyData.eqv z d) else none
      | _, _ => none))
  | _ => none
def fIn : O2 := fun a b st => (fInB a b st).map fun c => (.bl c, st)
def fNotIn : O2 := fun a b st => (fInB a b st).map fun c => (.bl (!c), st)
theorem Ctx0.hu65 (C : Ctx0 W k X Ew) : X.A.units + 65 < cLine := by
  have := C.rmu.un
  omega
theorem inV_strs (s : List Nat) : ∀ ss : List (List Nat), inV (.str (St' s)) ((ss.map St').map V.str) = ss.any fun y => decide (y = s)
  | [] => rfl
  | y :: ss => by
    show (eqV (.str (St' y)) (.str (St' s)) || inV (.str (St' s)) ((ss.map St').map V.str)) = (decide (y = s) || ss.any fun y => decide (y = s))
    rw [inV_strs s ss]
    congr 1
    by_cases h : y = s
    · subst h
      simp [eqV]
    · have : St' y ≠ St' s := fun e => h (st_inj e)
      simp [eqV, h, this]
theorem flat_strs : ∀ ss : List (List Nat), ((ss.map St').map V.str).all flatV = true
  | [] => rfl
  | y :: ss => by
    rw [List.map_cons, List.map_cons, List.all_cons, flat_strs ss]
    rfl
def rInF (W : Wd) (neg : Bool) : R2 := fun x y H Q => ∃ ι st a b c, RV W.K ι H a x ∧ RV W.K ι H b y ∧ Rel W ι H st ∧ fInB a b st = some c ∧ Q (.bl (if neg then !c else c)) H
theorem inF_by (C : Ctx0 W k X Ew) {f : Value → Value → Sem Value} (neg : Bool)
    (h1 : OpR X f (fun x y H Q => ∃ (c : Nat) (z : Str), x = .str ⟨#[c]⟩ ∧ y = .str z ∧ Q (.bl (if neg then !decide (c ∈ z.cps.toList) else decide (c ∈ z.cps.toList))) H))
    (h2 : OpR X f (fun x y H Q => ∃ i j, x = .str i ∧ y = .str j ∧ Q (.bl (if neg then !(!(Builtin.Str.occurrences j i 0 j.length 1).isEmpty) else !(Builtin.Str.occurrences j i 0 j.length 1).isEmpty)) H))
    (h3 : OpR X f (rIn X.K neg))
    (h4 : OpR X f (fun x y H Q => ∃ d ds, Dp X.K H x d ∧ Dp X.K H y (.list ds) ∧ SeqAt.shaped d = true ∧ SeqAt.shaped (.list ds) = true ∧ Q (.bl (if neg then !(ds.any fun z => PyData.eqv z d) else ds.any fun z => PyData.eqv z d)) H))
    (h5 : OpR X f (fun x y H Q => ∃ p o, y = .ref p ∧ DGet H p x o ∧ Q (.bl (if neg then !o.isSome else o.isSome)) H)) : OpR X f (rInF W neg) := opBy fun x y H Q ⟨ι, st, a, b, c, rx, ry, hr, hf, hq⟩ => by
  unfold fInB at hf
  split at hf
  · cases ry
    split at hf
    · cases hf
      cases rx
      exact ⟨_, h1, _, _, rfl, rfl, by simpa using hq⟩
    · cases hf
      cases rx
      exact ⟨_, h2, _, _, rfl, rfl, hq⟩
    · cases hf
  · split at hf
    · rename_i ys s
      obtain ⟨ss, e1, e2⟩ := Option.map_eq_some_iff.mp hf
      subst e2
      have := strsOf_map e1
      subst this
      cases rx
      cases ry with
      | @tup p vs xs sx rxs =>
        rw [RVs.ofStrs ss rxs] at sx
        refine ⟨_, h3, p, _, rfl, .inr (by rw [C.eK]; exact sx), rfl, flat_strs ss, ?_⟩
        rw [inV_strs]
        exact hq
    · cases hf
  · split at hf
    · rename_i p kvs h0
      obtain ⟨k, e1, e2⟩ := Option.map_eq_some_iff.mp hf
      subst e2
      cases ry with
      | @ref j p h6 =>
        obtain ⟨ms, h7, h8⟩ := hr.dic h0 h6
        have e := keyOf_V e1 rx
        subst e
        refine ⟨_, h5, p, _, rfl, DGet.k h7, ?_⟩
        rcases DP.get h8 k with ⟨g1, g2⟩ | ⟨x, v, g1, g2, _⟩
        · rw [g1] at hq
          rw [g2]
          exact hq
        · rw [g1] at hq
          rw [g2]
          exact hq
    · split at hf
      · rename_i d ds g1 g2
        split at hf
        · rename_i g3
          cases hf
          exact ⟨_, h4, d, ds, by rw [C.eK]; exact toD_dp hr _ _ _ _ g1 rx, by rw [C.eK]; exact toD_dp hr _ _ _ _ g2 ry, g3.1, g3.2, hq⟩
        · cases hf
      · cases hf
  · cases hf
theorem op_inF (C : Ctx0 W k X Ew) : OpR X (compareOp .In) (ro W fIn) := opBy fun x y H Q ⟨ι, st, a, b, v, st', rx, ry, hr, hf, hq⟩ => by
  obtain ⟨c, h1, h2⟩ := Option.map_eq_some_iff.mp hf
  cases h2
  refine ⟨_, inF_by C false op_in_sign op_in_str op_in_seq (fun pins s σ H x y v u Q I rx ry h => op_inD C.hu65 pins s σ H x y v u Q I rx ry h) (fun pins s σ H x y v u Q I rx ry h => ?_), ι, st, a, b, c, rx, ry, hr, h1, hq.here hr (.bl _)⟩
  obtain ⟨p, o, e, g, q⟩ := h
  subst e
  obtain rfl : u = Value.ref p := ry
  exact d_in C.hu1 I g rx fun s3 I3 => ⟨.bl o.isSome, H, I3, rfl, q⟩
theorem op_notinF (C : Ctx0 W k X Ew) : OpR X (compareOp .NotIn) (ro W fNotIn) := opBy fun x y H Q ⟨ι, st, a, b, v, st', rx, ry, hr, hf, hq⟩ => by
  obtain ⟨c, h1, h2⟩ := Option.map_eq_some_iff.mp hf
  cases h2
  refine ⟨_, inF_by C true op_notIn_sign op_notIn_str op_notIn_seq (fun pins s σ H x y v u Q I rx ry h => op_notInD C.hu65 pins s σ H x y v u Q I rx ry h) (fun pins s σ H x y v u Q I rx ry h => ?_), ι, st, a, b, c, rx, ry, hr, h1, hq.here hr (.bl _)⟩
  obtain ⟨p, o, e, g, q⟩ := h
  subst e
  obtain rfl : u = Value.ref p := ry
  exact d_notIn C.hu1 I g rx fun s3 I3 => ⟨.bl (!o.isSome), H, I3, rfl, q⟩
/-! ### int(n), int(truth) -/
def fInt1 : ON := fun xs st => match xs with
  | [.int i] => some (.int i, st)
  | [.bl b] => some (.int (if b then 1 else 0), st)
  | _ => none
theorem call_intF : CallR X (.type "int") (rc W fInt1) := callBy fun xs H Q ⟨ι, st, as, v, st', rx, hr, hf, hq⟩ => by
  unfold fInt1 at hf
  split at hf
  · cases hf
    cases rx with
    | cons r0 rr =>
      cases rr
      cases r0
      exact ⟨_, call_int1, .inl ⟨_, rfl, hq.here hr (.int _)⟩⟩
  · cases hf
    cases rx with
    | cons r0 rr =>
      cases rr
      cases r0
      exact ⟨_, call_int1, .inr ⟨_, rfl, hq.here hr (.int _)⟩⟩
  · cases hf
/-! ### methods of texts -/
def fFind3 : Val → ON := fun a xs st => match a, xs with
  | .str s, [.str t, .int i] => some (.int (Txt.find3 (St' s) (St' t) i), st)
  | _, _ => none
theorem mt_find3F : MtR X "str.find" (rm W fFind3) := mtBy fun x xs H Q ⟨ι, st, a, as, v, st', rx, rxs, hr, hf, hq⟩ => by
  unfold fFind3 at hf
  split at hf
  · cases hf
    cases rx
    cases rxs with
    | cons r0 rr =>
      cases rr with
      | cons r1 r2 =>
        cases r2
        cases r0
        cases r1
        exact ⟨_, mt_find3, _, _, _, rfl, rfl, hq.here hr (.int _)⟩
  · cases hf
def fStarts3 : Val → ON := fun a xs st => match a, xs with
  | .str s, [.str t, .int i] => some (.bl (Txt.startswith3 (St' s) (St' t) i), st)
  | _, _ => none
theorem mt_starts3F : MtR X "str.startswith" (rm W fStarts3) := mtBy fun x xs H Q ⟨ι, st, a, as, v, st', rx, rxs, hr, hf, hq⟩ => by
  unfold fStarts3 at hf
  split at hf
  · cases hf
    cases rx
    cases rxs with
    | cons r0 rr =>
      cases rr with
      | cons r1 r2 =>
        cases r2
        cases r0
        cases r1
        exact ⟨_, mt_startswith3, _, _, _, rfl, rfl, hq.here hr (.bl _)⟩
  · cases hf
theorem st_back (x : Str) : St' x.cps.toList = x := by
  show Str.mk x.cps.toList.toArray = x
  rw [Array.toArray_toList]
def fLower : Val → ON := fun a xs st => match a, xs with
  | .str s, [] => if s.length ≤ 5592405 then some (.str (Txt.lower (St' s)).cps.toList, st) else none
  | _, _ => none
theorem mt_lowerF : MtR X "str.lower" (rm W fLower) := mtBy fun x xs H Q ⟨ι, st, a, as, v, st', rx, rxs, hr, hf, hq⟩ => by
  unfold fLower at hf
  split at hf
  · split at hf
    · rename_i hl
      cases hf
      cases rx
      cases rxs
      have r := RV.str (K := W.K) (ι := ι) (H := H) (Txt.lower (St' ‹List Nat›)).cps.toList
      rw [st_back] at r
      exact ⟨_, mt_lower, _, rfl, rfl, by rw [st_len]; exact hl, hq.here hr r⟩
    · cases hf
  · cases hf
def fUpper : Val → ON := fun a xs st => match a, xs with
  | .str s, [] => if s.length ≤ 5592405 then some (.str (Txt.upper (St' s)).cps.toList, st) else none
  | _, _ => none
theorem mt_upperF : MtR X "str.upper" (rm W fUpper) := mtBy fun x xs H Q ⟨ι, st, a, as, v, st', rx, rxs, hr, hf, hq⟩ => by
  unfold fUpper at hf
  split at hf
  · split at hf
    · rename_i hl
      cases hf
      cases rx
      cases rxs
      have r := RV.str (K := W.K) (ι := ι) (H := H) (Txt.upper (St' ‹List Nat›)).cps.toList
      rw [st_back] at r
      exact ⟨_, mt_upper, _, rfl, rfl, by rw [st_len]; exact hl, hq.here hr r⟩
    · cases hf
  · cases hf
def fLstripC : Val → ON := fun a xs st => match a, xs with
  | .str s, [.str t] => if s.length ≤ LINE then some (.str (Txt.lstripChars (St' s) (St' t)).cps.toList, st) else none
  | _, _ => none
theorem mt_lstripF : MtR X "str.lstrip" (rm W fLstripC) := mtBy fun x xs H Q ⟨ι, st, a, as, v, st', rx, rxs, hr, hf, hq⟩ => by
  unfold fLstripC at hf
  split at hf
  · rename_i s t
    split at hf
    · rename_i hl
      cases hf
      cases rx
      cases rxs with
      | cons r0 rr =>
        cases rr
        cases r0
        have r := RV.str (K := W.K) (ι := ι) (H := H) (Txt.lstripChars (St' s) (St' t)).cps.toList
        rw [st_back] at r
        exact ⟨_, mt_lstripChars, _, _, rfl, rfl, by rw [st_len, ← line_eq]; exact hl, hq.here hr r⟩
    · cases hf
  · cases hf
/-- t.index(s), s a part of t -/
def fIndexS : Val → ON := fun a xs st => match a, xs with
  | .str s, [.str t] => (match Builtin.Str.occurrences (St' s) (St' t) 0 (St' s).length 1 with
    | i :: _ => some (.int (i : Nat), st)
    | [] => none)
  | _, _ => none
theorem mt_indexF : MtR X "str.index" (rm W fIndexS) := mtBy fun x xs H Q ⟨ι, st, a, as, v, st', rx, rxs, hr, hf, hq⟩ => by
  unfold fIndexS at hf
  split at hf
  · split at hf
    · rename_i i rest h1
      cases hf
      cases rx
      cases rxs with
      | cons r0 rr =>
        cases rr
        cases r0
        exact ⟨_, mt_sindex, _, _, i, rest, rfl, rfl, h1, hq.here hr (.int _)⟩
    · cases hf
  · cases hf
end
end FL
/-! FL11: enumerate over a tuple, a text. -/
namespace PySem
open Sem (wp)
theorem fl_enumNew {v : Value} {o : Obj} {H : Heap → Prop} (B : Begins v o H) :
    Meets (Builtin.«enumerate.__new__» ⟨[.type "enumerate", v], []⟩) (fun _ R s => H s.heap ∧
      R (.ok (.ret (.ref (s.heap.push o).objs.size))) { s with heap := (s.heap.push o).push { cls := .type "enumerate", data := .fields #[.none, .bool false, .ref s.heap.objs.size, rawInt 0, .none, .none] } }) :=
  .of_wp fun prog w A R ⟨hp, g, d, tk, os⟩ ⟨h1, h⟩ => by
    have hsub := sub_enumerate
    have q1 : ∀ {A' : Around} {E Q : Value → Shared → Prop}, Q (.ref hp.objs.size) ⟨hp.push o, g, d, tk, os⟩ → wpAny (model prog w) A' (pyIter v) Q E ⟨hp, g, d, tk, os⟩ := fun q => B.iter prog w _ _ ⟨hp, g, d, tk, os⟩ _ h1 q
    wp_walk using q1
    refine wpAny_stack_any fun st => wpAny_pure ?_
    split
    · rename_i c _ _ _ _ _
      cases (c == Value.type "enumerate") <;> (wp_walk using q1; exact ⟨_, rfl, h⟩)
    · wp_walk using q1
      exact ⟨_, rfl, h⟩
theorem fl_enumCall {prog : Program} {w : World} {A : Around} {E : Value → Shared → Prop} {s : Shared} {v : Value} {o : Obj} {H : Heap → Prop} {Q : Value → Shared → Prop} (B : Begins v o H) (h1 : H s.heap)
    (h : ∀ h', IsEnum h' (s.heap.objs.size + 1) s.heap.objs.size 0 .none → h'.get? s.heap.objs.size = some o → (∀ b u, s.heap.get? b = some u → h'.get? b = some u) → Q (.ref (s.heap.objs.size + 1)) { s with heap := h' }) :
    wpAny (model prog w) A (call (.type "enumerate") [v]) Q E s := by
  refine callType_new F.called_enumerate (by decide) (F.typeCall_enumerate_1 _) (F.newCall_enumerate_1 _) (fun obj => F.args_object_init_2 obj _) F.entry_enumerate_new (fl_enumNew B) ⟨h1, ?_⟩
  have hz : (s.heap.push o).objs.size = s.heap.objs.size + 1 := Heap.size_push ..
  show _ ∧ _
  rw [hz]
  have he : IsEnum ((s.heap.push o).push { cls := .type "enumerate", data := .fields #[.none, .bool false, .ref s.heap.objs.size, rawInt 0, .none, .none] }) (s.heap.objs.size + 1) s.heap.objs.size 0 .none := by
    have z := Heap.get?_push_size (s.heap.push o) (o := { cls := .type "enumerate", data := .fields #[.none, .bool false, .ref s.heap.objs.size, rawInt 0, .none, .none] }) rfl
    rw [hz] at z
    exact z
  exact ⟨⟨_, he, rfl⟩, h _ he (Heap.get?_push_of_some _ (Heap.get?_push_size _ B.free)) fun b u x => Heap.get?_push_of_some _ (Heap.get?_push_of_some _ x)⟩
theorem fl_enumEnd {prog : Program} {w : World} {A : Around} {E : Value → Shared → Prop} {s : Shared} {e it a : Addr} {i : Int} {j : Nat} {items : Array Value} {old : Value} {Q : Option Value → Shared → Prop} (hh : A.in1.handled = none)
    (he : IsEnum s.heap e it i old) (hit : s.heap.IsTupleIter it a j) (hl : s.heap.IsTuple a items) (hx : items[j]? = none) (hQ : ∀ h', Heap.ExtBut it s.heap h' → Q none { s with heap := h' }) : wpAny (model prog w) A (pyNext (.ref e)) Q E s := by
  have ty : s.TypeIs (.ref e) "enumerate" := ⟨_, he, rfl⟩
  unfold pyNext
  refine wpAny_bind (wpAny_attempt (wpAny_callSpecial?_slot (name := Str.ofString "__next__") ty F.slot_enumerate_next (wpAny_call_entry F.slot_enumerate_next ty F.entry_enumerate_next ?_ (F.args_enumerate_next_1 _))))
  show wpAny _ _ (field (.ref e) 2 >>= _) _ _ _
  refine wpAny_bind (wpAny_field he rfl (x := .ref it) rfl (wpAny_bind (wpAny_nextOf_tuple_end hh hit hl hx fun h' x b1 ⟨o, b2, b3⟩ => ?_)))
  exact wpAny_bind (wpAny_isInstance (T := "StopIteration") (b := true) ⟨o, b2, b3⟩ isSubtype_stop (wpAny_pure (hQ _ b1)))
end PySem
namespace FL
open PySem PySem.Spec PyProof.Rows L2
/-- the tuple at a, each item in a new pair with its number -/
def IteT (K : PySem.W.Frag) (a : Addr) : It :=
  ⟨fun i H => ∃ (xs : List V) (x : V), SqT K H a xs ∧ xs[i]? = some x, fun i H v H' => ∃ T x, v = .ref T ∧ H T = none ∧ H' = upd H T (.tup [.int (i : Nat), x]) ∧ ∀ xs, SqT K H a xs → xs[i]? = some x, fun i H => ∃ xs : List V, SqT K H a xs ∧ xs.length ≤ i⟩
theorem turn_enumT {P : Program} {w : World} {K : PySem.W.Frag} {elts : List Expr} {kk : Nat} {tpos : Pos} (a e it : Addr) (hae : a ≠ e) (hai : a ≠ it) :
    Turn P w K (.Tuple elts kk tpos) (IteT K a) [e, it] e (fun i h => (∃ old, IsEnum h e it ((i : Nat) : Int) old) ∧ h.IsTupleIter it a i ∧ e ≠ it) where
  mem := by simp
  obj := fun i h st b hb => by
    obtain ⟨⟨old, he⟩, ⟨o, ho, hc, hd⟩, _⟩ := st
    rcases (by simpa using hb : b = e ∨ b = it) with z | z
    · rw [z]
      exact ⟨_, he, fun v q => nomatch q⟩
    · rw [z]
      exact ⟨o, ho, fun v q => by rw [hd] at q; cases q⟩
  keep := fun i h h' ⟨⟨old, he⟩, hi, hne⟩ k => ⟨⟨old, k e (by simp) _ he⟩, hi.at fun o q => k it (by simp) o q, hne⟩
  item := by
    intro X hP hw hK hc i pins s σ H E I hf st hg
    subst hP hw hK
    obtain ⟨⟨old, he⟩, hit, hne⟩ := st
    obtain ⟨xs, x, hq, hx⟩ := hg
    obtain ⟨its, rv, p, hz⟩ := I.tuple hq
    obtain ⟨u, hu, ru⟩ := rv.get hx
    have hel : e < s.heap.objs.size := Heap.lt_size he
    have hil : it < s.heap.objs.size := by
      obtain ⟨_, q, _⟩ := hit
      exact Heap.lt_size q
    have hlt : i < its.toArray.size := by simpa using (List.getElem?_eq_some_iff.mp hu).1
    refine wpAny_pyNext_enum_itemD (Draws.tuple (prog := X.prog) (w := X.w) (A := X.A.in1) (I.ok.hd hc) it a hai its.toArray) he ⟨hit, p⟩ hlt hne (by simp [hne, Ne.symm hae]) fun y h' tk hy ho hst hT hsz hk => ?_
    have ey : y = u := by
      have hy2 : its[i]? = some y := by simpa using hy
      rw [hu] at hy2
      exact (Option.some.inj hy2).symm
    subst ey
    refine ⟨_, rfl, wpAny_letOwnedTupleGo_enum (s := { s with heap := h', toks := tk + 1 }) ho fun h'' he' sb => ?_⟩
    have hT2 : h''.get? s.heap.objs.size = some { cls := .type "tuple", data := .seq #[.int i tk, y] } := (sb.2 _ (Nat.ne_of_gt hel)).trans hT
    have new : ObjOk X.prog X.w (upd H s.heap.objs.size (.tup [.int (i : Nat), x])) h'' s.heap.objs.size (.tup [.int (i : Nat), x]) := ⟨by show 2 ≤ sizeLine; decide, [.int i tk, y], .cons ⟨_, rfl⟩ (.cons ru .nil), ⟨_, hT2, rfl, _, rfl⟩⟩
    have I1 : Inv X pins σ (upd H s.heap.objs.size (.tup [.int (i : Nat), x])) { s with heap := h'', toks := tk + 1 } :=
      I.turnedNew (t' := tk + 1) (ch := [e, it]) (fun b ob hb q => (sb.2 b fun z => hb (by simp [z])).trans (hk b ob (fun z => hb (by simp [z])) (fun z => hb (by simp [z])) q)) hf (Nat.le_refl _) new
    refine ⟨.ref s.heap.objs.size, _, I1, rfl, ⟨_, x, rfl, I.hok.fresh (Nat.le_refl _), rfl, fun ys hy => by rw [I.tuple_inj hy hq]; exact hx⟩, ⟨⟨y, ?_⟩, hst.1.at fun o q => (sb.2 it (Ne.symm hne)).trans q, hne⟩, fun b hb => ?_⟩
    · have e1 : ((i + 1 : Nat) : Int) = (i : Int) + 1 := by omega
      rw [e1]
      exact he'
    · have hb' : b < s.heap.objs.size := by
        rcases (by simpa using hb : b = e ∨ b = it) with z | z <;> rw [z] <;> assumption
      rw [upd_ne (Nat.ne_of_lt hb')]
      exact (hf b hb).1
  done := by
    intro X hP hw hK hc i pins s σ H E I hf st hg
    subst hP hw hK
    obtain ⟨⟨old, he⟩, hit, hne⟩ := st
    obtain ⟨xs, hq, hx⟩ := hg
    obtain ⟨its, rv, p, hz⟩ := I.tuple hq
    obtain ⟨f0, f1, f2, f3, f4, f5⟩ := hf it (by simp)
    have hl := rv.length
    exact fl_enumEnd (I.ok.hd hc) he hit p (by simp; omega) fun h' eb => ⟨rfl, I.turned (t' := s.toks) (fun b o hb q => eb b o hb q) f0 f1 f3 f4 f5⟩
  self := fun A i s Q E ⟨⟨_, he⟩, _⟩ h => wpAny_pyIter_enum he h
theorem pi_enumT {X : Cx} {e : Expr} {ta : TA} {p pos tpos : Pos} {elts : List Expr} {kk : Nat} (hg : Gl X "enumerate") (hm : X.mg "enumerate" = none) (ha : PA X [e] ta) (hs : starEach [e] X.env = [(false, eval e X.env)] := by rfl) :
    PI X (.Tuple elts kk tpos) (.Call (.Name "enumerate" p) [e] [] pos) (fun σ H R => ta σ H fun vs H1 => ∃ a xs, vs = [.ref a] ∧ SqT X.K H1 a xs ∧ R (IteT X.K a) H1) := by
  refine ⟨fun pins s σ H R I h => ?_⟩
  refine Call_ (ld_blt I hg hm boot_enumerate (PyProof.Rows.callWith_type1 (thn (ha.run pos pins s σ H _ I h) fun us s1 ⟨vs, H1, I1, r1, q1⟩ => ?_) hs rfl))
  obtain ⟨a, xs, ex, hq, q⟩ := q1
  subst ex
  cases r1 with
  | cons r rr =>
    cases rr
    cases r
    obtain ⟨its, rv, p', hz⟩ := I1.tuple hq
    have hal : a < s1.heap.objs.size := by
      obtain ⟨o, ho, _⟩ := p'
      exact Heap.lt_size ho
    refine fl_enumCall (begins_tuple a its.toArray) p' fun h' he hit hk => wpAny_pyIter_enum he ?_
    have I2 : Inv X pins σ H1 { s1 with heap := h' } := I1.kept (t' := s1.toks) hk
    refine ⟨s1.heap.objs.size + 1, [s1.heap.objs.size + 1, s1.heap.objs.size], _, _, H1, rfl, I2, turn_enumT a (s1.heap.objs.size + 1) s1.heap.objs.size (Nat.ne_of_lt (Nat.lt_succ_of_lt hal)) (Nat.ne_of_lt hal), ⟨⟨.none, he⟩, ⟨_, hit, rfl, rfl⟩, Nat.succ_ne_self _⟩, fun b hb => ?_, q⟩
    have hle : s1.heap.objs.size ≤ b := by
      rcases (by simpa using hb : b = s1.heap.objs.size + 1 ∨ b = s1.heap.objs.size) with z | z
      · rw [z]
        exact Nat.le_add_right _ _
      · rw [z]
        exact Nat.le_refl _
    exact I1.fpOk hle (I1.hok.fresh hle)
section
variable {W : Wd} {k : Nat} {X : Cx} {Ew : WX} {ι : List Addr} {H : Hp}
def enumV (xs : List Val) : List Val := xs.zipIdx.map fun p => .tup [.int (p.2 : Nat), p.1]
theorem enumV_len (xs : List Val) : (enumV xs).length = xs.length := by simp [enumV]
theorem enumV_at {xs : List Val} {i : Nat} {x : Val} (h : (enumV xs)[i]? = some x) : ∃ y, xs[i]? = some y ∧ x = .tup [.int (i : Nat), y] := by
  unfold enumV at h
  rw [List.getElem?_map] at h
  obtain ⟨⟨y, j⟩, h1, rfl⟩ := Option.map_eq_some_iff.mp h
  rw [List.getElem?_zipIdx] at h1
  obtain ⟨z, h2, h3⟩ := Option.map_eq_some_iff.mp h1
  cases h3
  exact ⟨y, h2, by simp⟩
theorem ok_enumT {p : Addr} {vs : List V} {xs : List Val} (sx : SqT W.K H p vs) (rxs : RVs W.K ι H xs vs) : ItOk W ι H ⟨enumV xs, .none⟩ (IteT W.K p) := fun ι' H' st i e r _ => by
  have s1 := e.sqT sx
  have r1 := rxs.mono0 e
  refine ⟨fun x hx => ?_, fun hi => ⟨vs, s1, by
    have h2 : (enumV xs).length ≤ i := hi
    rw [enumV_len, rxs.len] at h2
    exact h2⟩⟩
  obtain ⟨y, hy, rfl⟩ := enumV_at (show (enumV xs)[i]? = some x from hx)
  obtain ⟨v, h3, h4⟩ := r1.at i hy
  refine ⟨⟨vs, v, s1, h3⟩, fun u H2 ⟨T, z, hu, nT, hH, hz⟩ => ?_⟩
  subst hu hH
  have h5 := hz vs s1
  rw [h3] at h5
  cases h5
  have ex : Ext ι' H' ι' (upd H' T (.tup [.int (i : Nat), v])) := Ext.newT nT
  exact ⟨ex, r.newT nT, .tup (SqT.of upd_same) (.cons (.int _) (.cons (h4.mono ex) .nil))⟩
end
end FL
/-! FL12: enumerate over texts, tuples, lists; reversed. -/
namespace FL
open PySem PySem.Spec PyProof.Rows L2
/-- the text z, each sign in a new pair with its number -/
def IteS (z : Str) : It :=
  ⟨fun i _ => i < z.cps.size, fun i H v H' => ∃ T c, v = .ref T ∧ H T = none ∧ z.cps[i]? = some c ∧ H' = upd H T (.tup [.int (i : Nat), .str ⟨#[c]⟩]), fun i _ => z.cps.size ≤ i⟩
theorem turn_enumS {P : Program} {w : World} {K : PySem.W.Frag} {elts : List Expr} {kk : Nat} {tpos : Pos} (z : Str) (t : Tok) (e it : Addr) :
    Turn P w K (.Tuple elts kk tpos) (IteS z) [e, it] e (fun i h => (∃ old, IsEnum h e it ((i : Nat) : Int) old) ∧ h.IsStrIter it (strIterType z) z t i ∧ e ≠ it) where
  mem := by simp
  obj := fun i h st b hb => by
    obtain ⟨⟨old, he⟩, ⟨o, ho, hc, hd⟩, _⟩ := st
    rcases (by simpa using hb : b = e ∨ b = it) with z | z
    · rw [z]
      exact ⟨_, he, fun v q => nomatch q⟩
    · rw [z]
      exact ⟨o, ho, fun v q => by rw [hd] at q; cases q⟩
  keep := fun i h h' ⟨⟨old, he⟩, ⟨o, ho, r⟩, hne⟩ k => ⟨⟨old, k e (by simp) _ he⟩, ⟨o, k it (by simp) o ho, r⟩, hne⟩
  item := by
    intro X hP hw hK hc i pins s σ H E I hf st hg
    subst hP hw hK
    obtain ⟨⟨old, he⟩, hit, hne⟩ := st
    have hlt : i < z.cps.size := hg
    have hel : e < s.heap.objs.size := Heap.lt_size he
    have hil : it < s.heap.objs.size := by
      obtain ⟨_, q, _⟩ := hit
      exact Heap.lt_size q
    refine wpAny_pyNext_enum_itemD (Draws.text (prog := X.prog) (w := X.w) (A := X.A.in1) (I.ok.hd hc) it z t) he hit hlt hne (by simp [hne]) fun y h' tk hy ho hst hT hsz hk => ?_
    obtain ⟨c, u, hc2, ey⟩ := hy
    subst ey
    refine ⟨_, rfl, wpAny_letOwnedTupleGo_enum (s := { s with heap := h', toks := tk + 1 }) ho fun h'' he' sb => ?_⟩
    have hT2 : h''.get? s.heap.objs.size = some { cls := .type "tuple", data := .seq #[.int i tk, .str ⟨#[c]⟩ u] } := (sb.2 _ (Nat.ne_of_gt hel)).trans hT
    have new : ObjOk X.prog X.w (upd H s.heap.objs.size (.tup [.int (i : Nat), .str ⟨#[c]⟩])) h'' s.heap.objs.size (.tup [.int (i : Nat), .str ⟨#[c]⟩]) := ⟨by show 2 ≤ sizeLine; decide, [.int i tk, .str ⟨#[c]⟩ u], .cons ⟨_, rfl⟩ (.cons ⟨_, rfl⟩ .nil), ⟨_, hT2, rfl, _, rfl⟩⟩
    have I1 : Inv X pins σ (upd H s.heap.objs.size (.tup [.int (i : Nat), .str ⟨#[c]⟩])) { s with heap := h'', toks := tk + 1 } :=
      I.turnedNew (t' := tk + 1) (ch := [e, it]) (fun b ob hb q => (sb.2 b fun z => hb (by simp [z])).trans (hk b ob (fun z => hb (by simp [z])) (fun z => hb (by simp [z])) q)) hf (Nat.le_refl _) new
    refine ⟨.ref s.heap.objs.size, _, I1, rfl, ⟨_, c, rfl, I.hok.fresh (Nat.le_refl _), hc2, rfl⟩, ⟨⟨.str ⟨#[c]⟩ u, ?_⟩, ?_, hne⟩, fun b hb => ?_⟩
    · have e1 : ((i + 1 : Nat) : Int) = (i : Int) + 1 := by omega
      rw [e1]
      exact he'
    · obtain ⟨o, ho2, r⟩ := hst
      exact ⟨o, (sb.2 it (Ne.symm hne)).trans ho2, r⟩
    · have hb' : b < s.heap.objs.size := by
        rcases (by simpa using hb : b = e ∨ b = it) with z | z <;> rw [z] <;> assumption
      rw [upd_ne (Nat.ne_of_lt hb')]
      exact (hf b hb).1
  done := by
    intro X hP hw hK hc i pins s σ H E I hf st hg
    subst hP hw hK
    obtain ⟨⟨old, he⟩, hit, hne⟩ := st
    obtain ⟨f0, f1, f2, f3, f4, f5⟩ := hf it (by simp)
    have hle : z.cps.size ≤ i := hg
    have ty : s.TypeIs (.ref e) "enumerate" := ⟨_, he, rfl⟩
    unfold pyNext
    refine wpAny_bind (wpAny_attempt (wpAny_callSpecial?_slot (name := Str.ofString "__next__") ty F.slot_enumerate_next (wpAny_call_entry F.slot_enumerate_next ty F.entry_enumerate_next ?_ (F.args_enumerate_next_1 _))))
    show wpAny _ _ (field (.ref e) 2 >>= _) _ _ _
    refine wpAny_bind (wpAny_field he rfl (x := .ref it) rfl ?_)
    have hx : z.cps[i]? = none := Array.getElem?_eq_none hle
    cases ha : z.cps.all (· < 128)
    · simp only [strIterType, ha, Bool.false_eq_true, if_false] at hit
      refine wpAny_bind (wpAny_nextOf_wide_end (I.ok.hd hc) hit hx fun h' x b1 ⟨o, b2, b3⟩ => ?_)
      exact wpAny_bind (wpAny_isInstance (T := "StopIteration") (b := true) ⟨o, b2, b3⟩ isSubtype_stop (wpAny_pure ⟨rfl, I.turned (t' := s.toks) (fun b o hb q => b1 b o hb q) f0 f1 f3 f4 f5⟩))
    · simp only [strIterType, ha, if_true] at hit
      refine wpAny_bind (wpAny_nextOf_ascii_end (I.ok.hd hc) hit hx fun h' x b1 ⟨o, b2, b3⟩ => ?_)
      exact wpAny_bind (wpAny_isInstance (T := "StopIteration") (b := true) ⟨o, b2, b3⟩ isSubtype_stop (wpAny_pure ⟨rfl, I.turned (t' := s.toks) (fun b o hb q => b1 b o hb q) f0 f1 f3 f4 f5⟩))
  self := fun A i s Q E ⟨⟨_, he⟩, _⟩ h => wpAny_pyIter_enum he h
/-- enumerate of a tuple, a list, a text -/
def iEnumA (K : PySem.W.Frag) (ta : TA) : TI := fun σ H R => ta σ H fun vs H1 => (∃ a xs, vs = [.ref a] ∧ SqT K H1 a xs ∧ R (IteT K a) H1) ∨ (∃ a xs, vs = [.ref a] ∧ SqL K H1 a xs ∧ R (Ite K a) H1) ∨ ∃ z, vs = [.str z] ∧ R (IteS z) H1
theorem pi_enumA {X : Cx} {e : Expr} {ta : TA} {p pos tpos : Pos} {elts : List Expr} {kk : Nat} (hg : Gl X "enumerate") (hm : X.mg "enumerate" = none) (ha : PA X [e] ta) (hs : starEach [e] X.env = [(false, eval e X.env)] := by rfl) :
    PI X (.Tuple elts kk tpos) (.Call (.Name "enumerate" p) [e] [] pos) (iEnumA X.K ta) := by
  refine ⟨fun pins s σ H R I h => ?_⟩
  refine Call_ (ld_blt I hg hm boot_enumerate (PyProof.Rows.callWith_type1 (thn (ha.run pos pins s σ H _ I h) fun us s1 ⟨vs, H1, I1, r1, q1⟩ => ?_) hs rfl))
  have le2 : ∀ b ∈ [s1.heap.objs.size + 1, s1.heap.objs.size], s1.heap.objs.size ≤ b := fun b hb => by
    rcases (by simpa using hb : b = s1.heap.objs.size + 1 ∨ b = s1.heap.objs.size) with z | z
    · rw [z]
      exact Nat.le_add_right _ _
    · rw [z]
      exact Nat.le_refl _
  rcases q1 with ⟨a, xs, ex, hq, q⟩ | ⟨a, xs, ex, hq, q⟩ | ⟨z, ex, q⟩ <;> subst ex
  · cases r1 with
    | cons r rr =>
      cases rr
      cases r
      obtain ⟨its, rv, p', hz⟩ := I1.tuple hq
      have hal : a < s1.heap.objs.size := by
        obtain ⟨o, ho, _⟩ := p'
        exact Heap.lt_size ho
      refine fl_enumCall (begins_tuple a its.toArray) p' fun h' he hit hk => wpAny_pyIter_enum he ?_
      have I2 : Inv X pins σ H1 { s1 with heap := h' } := I1.kept (t' := s1.toks) hk
      exact ⟨s1.heap.objs.size + 1, [s1.heap.objs.size + 1, s1.heap.objs.size], _, _, H1, rfl, I2, turn_enumT a (s1.heap.objs.size + 1) s1.heap.objs.size (Nat.ne_of_lt (Nat.lt_succ_of_lt hal)) (Nat.ne_of_lt hal), ⟨⟨.none, he⟩, ⟨_, hit, rfl, rfl⟩, Nat.succ_ne_self _⟩, fun b hb => I1.fpOk (le2 b hb) (I1.hok.fresh (le2 b hb)), q⟩
  · cases r1 with
    | cons r rr =>
      cases rr
      cases r
      obtain ⟨its, rv, p', hz⟩ := I1.list hq
      refine call_enumerate_list p'.isList fun h' he hit hsz hk => wpAny_pyIter_enum he ?_
      have I2 : Inv X pins σ H1 { s1 with heap := h' } := I1.kept (t' := s1.toks) hk
      exact ⟨s1.heap.objs.size + 1, [s1.heap.objs.size + 1, s1.heap.objs.size], _, _, H1, rfl, I2, turn_enum a (s1.heap.objs.size + 1) s1.heap.objs.size, ⟨⟨.none, he⟩, hit, Nat.succ_ne_self _⟩, fun b hb => I1.fpOk (le2 b hb) (I1.hok.fresh (le2 b hb)), q⟩
  · cases r1 with
    | cons r rr =>
      cases rr
      obtain ⟨t, rfl⟩ := r
      refine fl_enumCall (begins_text z t) trivial fun h' he hit hk => wpAny_pyIter_enum he ?_
      have I2 : Inv X pins σ H1 { s1 with heap := h' } := I1.kept (t' := s1.toks) hk
      exact ⟨s1.heap.objs.size + 1, [s1.heap.objs.size + 1, s1.heap.objs.size], _, _, H1, rfl, I2, turn_enumS z t (s1.heap.objs.size + 1) s1.heap.objs.size, ⟨⟨.none, he⟩, ⟨_, hit, rfl, rfl⟩, Nat.succ_ne_self _⟩, fun b hb => I1.fpOk (le2 b hb) (I1.hok.fresh (le2 b hb)), q⟩
section
variable {W : Wd} {k : Nat} {X : Cx} {Ew : WX} {ι ι' : List Addr} {H H' : Hp} {st : Sto} {a b e : Expr} {es : List Expr} {ma mb me : FE} {mt mu : FT} {mas : FA} {pos : Pos} {tg : Expr}
theorem ok_enumL {j : Nat} {p : Addr} {xs : List Val} (h0 : ι[j]? = some p) : ItOk W ι H ⟨enumV xs, .two j xs j xs⟩ (Ite W.K p) := fun ι' H' st i e r lv => by
  obtain ⟨l1, _⟩ : st[j]? = some (.lst xs) ∧ st[j]? = some (.lst xs) := lv
  obtain ⟨vs, a1, a2⟩ := r.lst l1 (e.pre _ _ h0)
  refine ⟨fun x hx => ?_, fun hi => ⟨vs, SqL.of a1, by
    have h2 : (enumV xs).length ≤ i := hi
    rw [enumV_len, a2.len] at h2
    exact h2⟩⟩
  obtain ⟨y, hy, rfl⟩ := enumV_at (show (enumV xs)[i]? = some x from hx)
  obtain ⟨v, h3, h4⟩ := a2.at i hy
  refine ⟨⟨vs, v, SqL.of a1, h3⟩, fun u H2 ⟨T, z, hu, nT, hH, hz⟩ => ?_⟩
  subst hu hH
  have h5 := hz vs (SqL.of a1)
  rw [h3] at h5
  cases h5
  have ex : Ext ι' H' ι' (upd H' T (.tup [.int (i : Nat), v])) := Ext.newT nT
  exact ⟨ex, r.newT nT, .tup (SqT.of upd_same) (.cons (.int _) (.cons (h4.mono ex) .nil))⟩
theorem ok_enumS (s : List Nat) : ItOk W ι H ⟨enumV (s.map fun c => .str [c]), .none⟩ (IteS (St' s)) := fun ι' H' st i e r lv => by
  refine ⟨fun x hx => ?_, fun hi => by
    have h2 : (enumV (s.map fun c => Val.str [c])).length ≤ i := hi
    rw [enumV_len, List.length_map] at h2
    show s.toArray.size ≤ i
    simpa using h2⟩
  obtain ⟨y, hy, rfl⟩ := enumV_at (show (enumV (s.map fun c => Val.str [c]))[i]? = some x from hx)
  rw [List.getElem?_map] at hy
  obtain ⟨c, h1, rfl⟩ := Option.map_eq_some_iff.mp hy
  have hi := (List.getElem?_eq_some_iff.mp h1).1
  refine ⟨by show i < s.toArray.size; simpa using hi, fun u H2 ⟨T, c', hu, nT, hz, hH⟩ => ?_⟩
  subst hu hH
  have h5 : s.toArray[i]? = some c' := hz
  rw [List.getElem?_toArray, h1] at h5
  cases h5
  have ex : Ext ι' H' ι' (upd H' T (.tup [.int (i : Nat), .str ⟨#[c]⟩])) := Ext.newT nT
  exact ⟨ex, r.newT nT, .tup (SqT.of upd_same) (.cons (.int _) (.cons (.str [c]) .nil))⟩
def asEnum (st : Sto) : Val → Option Itb
  | .tup xs => some ⟨enumV xs, .none⟩
  | .str s => some ⟨enumV (s.map fun c => .str [c]), .none⟩
  | .ref p => match st[p]? with
    | some (.lst xs) => some ⟨enumV xs, .two p xs p xs⟩
    | _ => none
  | _ => none
def fEnum (m : FA) : FI := bnd m fun vs => fun _ st => match vs with
  | [x] => (asEnum st x).map fun b => .ok b st
  | _ => none
theorem si_enum {elts : List Expr} {kk : Nat} {p tpos : Pos} (C : Ctx0 W k X Ew) (hm : W.mg "enumerate" = none) (ha : SA W X Ew [a] mas) (hg : Gl X "enumerate" := by rfl)
    (hs : starEach [a] X.env = [(false, eval a X.env)] := by rfl) : SI W X Ew (.Tuple elts kk tpos) (.Call (.Name "enumerate" p) [a] [] pos) (fEnum mas) :=
  imI (pi_enumA hg (by rw [C.em]; exact hm) ha hs) fun σ H Q ⟨ι, sl, st, r, hs, hr, hm, hq⟩ => run hs hr hm hq fun x st1 ι1 H1 vx e1 s1 r1 rx hm1 hq1 => by
    split at hm1
    · rename_i x
      obtain ⟨b, h1, rfl⟩ := Option.map_eq_some_iff.mp hm1
      cases rx with
      | cons r0 rr =>
        cases rr
        rw [C.eK]
        cases r0 with
        | @tup p vs xs sx rxs =>
          cases h1
          exact .inl ⟨p, vs, rfl, sx, hq1 ι1 H1 _ (Ext.refl _ _) r1 (ok_enumT sx rxs)⟩
        | str s =>
          cases h1
          exact .inr (.inr ⟨_, rfl, hq1 ι1 H1 _ (Ext.refl _ _) r1 (ok_enumS s)⟩)
        | @ref j p h0 =>
          have h2 : (match st1[j]? with | some (.lst xs) => some (Itb.mk (enumV xs) (.two j xs j xs)) | _ => none) = some b := h1
          split at h2
          · rename_i xs h5
            cases h2
            obtain ⟨vs, h6, _⟩ := r1.lst h5 h0
            exact .inr (.inl ⟨p, vs, rfl, SqL.of h6, hq1 ι1 H1 _ (Ext.refl _ _) r1 (ok_enumL h0)⟩)
          · cases h2
        | _ => cases h1
    · cases hm1
end
end FL
/-! FL13: comprehensions of two clauses. -/
namespace FL
open PySem PySem.Spec PyProof.Rows L2
section
variable {W : Wd} {k : Nat} {X : Cx} {Ew : WX} {ι ι' : List Addr} {H H' : Hp} {st : Sto} {a b e : Expr} {es : List Expr} {ma mb me : FE} {mt mu mt1 : FT} {mas : FA} {pos : Pos} {s : Stmt} {ss : List Stmt} {m n : FS}
open Classical in
noncomputable def lcL2 (l : Lv) (all : List Val) (g : FG) (t : FT) (mi1 : FI) (g1 : FG) (t1 : FT) (m : FE) (vs1 : List Nat) (sl : Sl) : List Val → Sto → Option (List Val × Sto)
  | [], st => if Live l all st then some ([], st) else none
  | x :: xs, st => if Live l all st then (match g x sl st with
      | none => none
      | some (sl1, st1) => match t sl1 st1 with
        | some (.ok true st2) => (match mi1 sl1 st2 with
          | some (.ok b1 st3) => (match lcL b1.live b1.items g1 t1 m (wipeL sl1 vs1) b1.items st3 with
            | some (ys, st4) => (match lcL2 l all g t mi1 g1 t1 m vs1 sl xs st4 with
              | some (zs, st5) => some (ys ++ zs, st5)
              | none => none)
            | none => none)
          | _ => none)
        | some (.ok false st2) => lcL2 l all g t mi1 g1 t1 m vs1 sl xs st2
        | _ => none) else none
noncomputable def fLc2 (mi : FI) (g : FG) (t : FT) (mi1 : FI) (g1 : FG) (t1 : FT) (m : FE) (vs vs1 : List Nat) : FE := bnd mi fun b => fun sl st => match lcL2 b.live b.items g t mi1 g1 t1 m vs1 (wipeL sl vs) b.items st with
  | some (ys, st') => if ys.length ≤ LINE then some (.ok (.ref st'.length) (st' ++ [.lst ys])) else none
  | none => none
open Classical in
theorem lc2_imp {mi mi1 : FI} {g g1 : FG} {vs vs1 : List Nat} {σ : L2.St} {H : Hp} {Q : VK} (h : teOf W Ew (fLc2 mi g mt mi1 g1 mt1 me vs vs1) σ H Q) : tLc2 (tiOf W Ew mi) (tgW W vs g) (ttOf W E00 mt) (tiOf W E00 mi1) (tgW W vs1 g1) (ttOf W E00 mt1) (teOf W E00 me) vs vs1 σ H Q := by
  obtain ⟨ι, sl, st, r, hs, hr, hm, hq⟩ := h
  refine run hs hr hm hq fun b st1 ι1 H1 J e1 s1 r1 ok hm1 hq1 => ?_
  intro D hD
  have nD : ∀ i : Nat, ι1[i]? ≠ some D := fun i q => by
    have hi := (List.getElem?_eq_some_iff.mp q).1
    rw [r1.len] at hi
    obtain ⟨_, h3, _⟩ := r1.ob i D _ q (List.getElem?_eq_getElem hi)
    rw [hD] at h3
    cases h3
  have hm2 : (match lcL2 b.live b.items g mt mi1 g1 mt1 me vs1 (wipeL sl vs) b.items st1 with | some (ys, st') => if ys.length ≤ LINE then some (R.ok (.ref st'.length) (st' ++ [.lst ys])) else none | none => none) = some r := hm1
  cases hl : lcL2 b.live b.items g mt mi1 g1 mt1 me vs1 (wipeL sl vs) b.items st1 with
  | none => rw [hl] at hm2; cases hm2
  | some p =>
    obtain ⟨ys0, st0⟩ := p
    rw [hl] at hm2
    have hm3 : (if ys0.length ≤ LINE then some (R.ok (Val.ref st0.length) (st0 ++ [.lst ys0])) else none) = some r := hm2
    by_cases hz : ys0.length ≤ LINE
    case neg => rw [if_neg hz] at hm3; cases hm3
    rw [if_pos hz] at hm3
    cases hm3
    have sw := s1.wipe vs
    refine ⟨fun i mm H => ∃ ι2 st2 acc vacc ys, Ext ι1 H1 ι2 H ∧ H D = some (.lst vacc) ∧ (∀ i : Nat, ι2[i]? ≠ some D) ∧ RVs W.K ι2 H acc vacc ∧ Rel W ι2 H st2 ∧ i ≤ b.items.length ∧ mm = b.items.length - i ∧
      lcL2 b.live b.items g mt mi1 g1 mt1 me vs1 (wipeL sl vs) (b.items.drop i) st2 = some (ys, st0) ∧ ys0 = acc ++ ys, ⟨_, ι1, st1, [], [], ys0, (Ext.refl _ _).putO hD, upd_same, nD, .nil, ?_, Nat.zero_le _, rfl, hl, rfl⟩, ?_⟩
    · exact ⟨r1.len, r1.nd, fun i a o h1 h2 => by
        obtain ⟨ho, h3, h4⟩ := r1.ob i a o h1 h2
        exact ⟨ho, by rw [upd_ne (ne_of_none h3 hD)]; exact h3, h4.mono ((Ext.refl _ _).putO hD)⟩, fun q z => (r1.hot q z).ext (ι := ι1) ((Ext.refl _ _).putO hD).toExt0⟩
    rintro i mm H2 ⟨ι2, st2, acc, vacc, ys, e2, hD2, nD2, ra, r2, hi, rfl, hf, rfl⟩
    cases hd : b.items.drop i with
    | nil =>
      rw [hd] at hf
      have hf2 : (if Live b.live b.items st2 then some ([], st2) else none) = some (ys, st0) := hf
      by_cases hlv : Live b.live b.items st2
      case neg => rw [if_neg hlv] at hf2; cases hf2
      rw [if_pos hlv] at hf2
      obtain ⟨rfl, rfl⟩ := Prod.mk.inj (Option.some.inj hf2)
      have hi2 : b.items.length ≤ i := by
        have := congrArg List.length hd
        rw [List.length_drop, List.length_nil] at this
        omega
      refine .inl ⟨(ok ι2 H2 st2 i e2.toExt0 r2 hlv).2 hi2, ?_⟩
      rw [List.append_nil] at hq1
      exact hq1 _ _ _ (e2.join hD) (r2.join hD2 nD2 (show RO W ι2 H2 (.lst acc) (.lst vacc) from ra)) (.ref (by rw [← r2.len]; simp))
    | cons x xs =>
      rw [hd] at hf
      have hf2 : (if Live b.live b.items st2 then (match g x (wipeL sl vs) st2 with
        | none => none
        | some (sl1, st1) => match mt sl1 st1 with
          | some (.ok true st2) => (match mi1 sl1 st2 with
            | some (.ok b1 st3) => (match lcL b1.live b1.items g1 mt1 me (wipeL sl1 vs1) b1.items st3 with
              | some (ys, st4) => (match lcL2 b.live b.items g mt mi1 g1 mt1 me vs1 (wipeL sl vs) xs st4 with
                | some (zs, st5) => some (ys ++ zs, st5)
                | none => none)
              | none => none)
            | _ => none)
          | some (.ok false st2) => lcL2 b.live b.items g mt mi1 g1 mt1 me vs1 (wipeL sl vs) xs st2
          | _ => none) else none) = some (ys, st0) := hf
      by_cases hlv : Live b.live b.items st2
      case neg => rw [if_neg hlv] at hf2; cases hf2
      rw [if_pos hlv] at hf2
      have hx : b.items[i]? = some x := by
        have h0 := List.getElem?_drop (xs := b.items) (i := i) (j := 0)
        rw [hd] at h0
        simpa using h0.symm
      have hxs : b.items.drop (i + 1) = xs := by
        rw [← List.drop_drop, hd]
        rfl
      have hil : i < b.items.length := (List.getElem?_eq_some_iff.mp hx).1
      obtain ⟨hgo, hy⟩ := (ok ι2 H2 st2 i e2.toExt0 r2 hlv).1 x hx
      refine .inr ⟨hgo, fun H' => ∃ ι3 st3 acc3 vacc3 ys3, Ext ι1 H1 ι3 H' ∧ H' D = some (.lst vacc3) ∧ (∀ i : Nat, ι3[i]? ≠ some D) ∧ RVs W.K ι3 H' acc3 vacc3 ∧ Rel W ι3 H' st3 ∧
        lcL2 b.live b.items g mt mi1 g1 mt1 me vs1 (wipeL sl vs) xs st3 = some (ys3, st0) ∧ acc ++ ys = acc3 ++ ys3, ?_, fun y H3 hyl => ?_⟩
      · rintro H' ⟨ι3, st3, acc3, vacc3, ys3, h1, h2, h3, h4, h5, h7, h8⟩
        exact ⟨b.items.length - (i + 1), by omega, ι3, st3, acc3, vacc3, ys3, h1, h2, h3, h4, h5, hil, rfl, by rw [hxs]; exact h7, h8⟩
      obtain ⟨e3, r3, ry⟩ := hy y H3 hyl
      cases h5 : g x (wipeL sl vs) st2 with
      | none => rw [h5] at hf2; cases hf2
      | some p =>
        obtain ⟨sl4, st4⟩ := p
        rw [h5] at hf2
        refine ⟨ι2, wipeL sl vs, st2, x, sl4, st4, sw.mono (e2.trans e3), r3, ry, h5, fun ι4 H4 σ4 e4 r4 s4 w4 => ⟨by rw [w4, wipe_wipe], ?_⟩⟩
        have hf3 : (match mt sl4 st4 with
          | some (.ok true st2) => (match mi1 sl4 st2 with
            | some (.ok b1 st3) => (match lcL b1.live b1.items g1 mt1 me (wipeL sl4 vs1) b1.items st3 with
              | some (ys, st4) => (match lcL2 b.live b.items g mt mi1 g1 mt1 me vs1 (wipeL sl vs) xs st4 with
                | some (zs, st5) => some (ys ++ zs, st5)
                | none => none)
              | none => none)
            | _ => none)
          | some (.ok false st2) => lcL2 b.live b.items g mt mi1 g1 mt1 me vs1 (wipeL sl vs) xs st2
          | _ => none) = some (ys, st0) := hf2
        have e24 : Ext ι2 H2 ι4 H4 := e3.trans e4
        obtain ⟨hD4, nD4⟩ := e24.oth D _ hD2 nD2
        cases h6 : mt sl4 st4 with
        | none => rw [h6] at hf3; cases hf3
        | some r6 =>
          rw [h6] at hf3
          cases r6 with
          | ex c st5 => cases hf3
          | ok bb st5 =>
            refine ⟨ι4, sl4, st4, _, s4, r4, h6, fun ι5 H5 bb' e5 r5 hb => ?_⟩
            subst hb
            obtain ⟨hD5, nD5⟩ := e5.oth D _ hD4 nD4
            have ra5 := ra.mono (e24.trans e5)
            cases bb with
            | false =>
              exact ⟨ι5, st5, acc, vacc, ys, (e2.trans e24).trans e5, hD5, nD5, ra5, r5, hf3, rfl⟩
            | true =>
              have hf4 : (match mi1 sl4 st5 with
                | some (.ok b1 st3) => (match lcL b1.live b1.items g1 mt1 me (wipeL sl4 vs1) b1.items st3 with
                  | some (ys, st4) => (match lcL2 b.live b.items g mt mi1 g1 mt1 me vs1 (wipeL sl vs) xs st4 with
                    | some (zs, st5) => some (ys ++ zs, st5)
                    | none => none)
                  | none => none)
                | _ => none) = some (ys, st0) := hf3
              cases h7 : mi1 sl4 st5 with
              | none => rw [h7] at hf4; cases hf4
              | some r7 =>
                rw [h7] at hf4
                cases r7 with
                | ex c st6 => cases hf4
                | ok b1 st6 =>
                  have hf5 : (match lcL b1.live b1.items g1 mt1 me (wipeL sl4 vs1) b1.items st6 with
                    | some (ys, st4) => (match lcL2 b.live b.items g mt mi1 g1 mt1 me vs1 (wipeL sl vs) xs st4 with
                      | some (zs, st5) => some (ys ++ zs, st5)
                      | none => none)
                    | none => none) = some (ys, st0) := hf4
                  cases h8 : lcL b1.live b1.items g1 mt1 me (wipeL sl4 vs1) b1.items st6 with
                  | none => rw [h8] at hf5; cases hf5
                  | some q8 =>
                    obtain ⟨ysI, st8⟩ := q8
                    rw [h8] at hf5
                    have hf6 : (match lcL2 b.live b.items g mt mi1 g1 mt1 me vs1 (wipeL sl vs) xs st8 with
                      | some (zs, st5) => some (ysI ++ zs, st5)
                      | none => none) = some (ys, st0) := hf5
                    cases h9 : lcL2 b.live b.items g mt mi1 g1 mt1 me vs1 (wipeL sl vs) xs st8 with
                    | none => rw [h9] at hf6; cases hf6
                    | some q9 =>
                      obtain ⟨zs, st9⟩ := q9
                      rw [h9] at hf6
                      cases hf6
                      refine ⟨ι5, sl4, st5, _, s4.mono e5, r5, h7, fun ι6 H6 J1 e6 r6 ok1 => ?_⟩
                      obtain ⟨hD6, nD6⟩ := e6.oth D _ hD5 nD5
                      have ra6 := ra5.mono e6
                      have e16 : Ext ι1 H1 ι6 H6 := ((e2.trans e24).trans e5).trans e6
                      refine ⟨fun j kk H => ∃ ι7 st7 acc7 vacc7 ys7, Ext0 ι6 H6 ι7 H ∧ Ext ι1 H1 ι7 H ∧ H D = some (.lst vacc7) ∧ (∀ i : Nat, ι7[i]? ≠ some D) ∧ RVs W.K ι7 H acc7 vacc7 ∧ Rel W ι7 H st7 ∧ j ≤ b1.items.length ∧ kk = b1.items.length - j ∧
                        lcL b1.live b1.items g1 mt1 me (wipeL sl4 vs1) (b1.items.drop j) st7 = some (ys7, st8) ∧ acc ++ ysI = acc7 ++ ys7, ⟨_, ι6, st6, acc, vacc, ysI, (Ext.refl _ _).toExt0, e16, hD6, nD6, ra6, r6, Nat.zero_le _, rfl, h8, rfl⟩, ?_⟩
                      rintro j kk H7 ⟨ι7, st7, acc7, vacc7, ys7, e7, e17, hD7, nD7, ra7, r7, hj, rfl, hf7, he7⟩
                      cases hd1 : b1.items.drop j with
                      | nil =>
                        rw [hd1] at hf7
                        have hf8 : (if Live b1.live b1.items st7 then some ([], st7) else none) = some (ys7, st8) := hf7
                        by_cases hlv1 : Live b1.live b1.items st7
                        case neg => rw [if_neg hlv1] at hf8; cases hf8
                        rw [if_pos hlv1] at hf8
                        obtain ⟨rfl, rfl⟩ := Prod.mk.inj (Option.some.inj hf8)
                        have hj2 : b1.items.length ≤ j := by
                          have := congrArg List.length hd1
                          rw [List.length_drop, List.length_nil] at this
                          omega
                        refine .inl ⟨(ok1 ι7 H7 st7 j e7 r7 hlv1).2 hj2, ι7, st7, acc7, vacc7, zs, e17, hD7, nD7, ra7, r7, h9, ?_⟩
                        rw [List.append_nil] at he7
                        rw [← he7, List.append_assoc]
                      | cons x1 xs1 =>
                        rw [hd1] at hf7
                        have hf8 : (if Live b1.live b1.items st7 then (match g1 x1 (wipeL sl4 vs1) st7 with
                          | none => none
                          | some (sl1, st1) => match mt1 sl1 st1 with
                            | some (.ok true st2) => (match me sl1 st2 with
                              | some (.ok y st3) => (match lcL b1.live b1.items g1 mt1 me (wipeL sl4 vs1) xs1 st3 with
                                | some (ys, st4) => some (y :: ys, st4)
                                | none => none)
                              | _ => none)
                            | some (.ok false st2) => lcL b1.live b1.items g1 mt1 me (wipeL sl4 vs1) xs1 st2
                            | _ => none) else none) = some (ys7, st8) := hf7
                        by_cases hlv1 : Live b1.live b1.items st7
                        case neg => rw [if_neg hlv1] at hf8; cases hf8
                        rw [if_pos hlv1] at hf8
                        have hx1 : b1.items[j]? = some x1 := by
                          have h0 := List.getElem?_drop (xs := b1.items) (i := j) (j := 0)
                          rw [hd1] at h0
                          simpa using h0.symm
                        have hxs1 : b1.items.drop (j + 1) = xs1 := by
                          rw [← List.drop_drop, hd1]
                          rfl
                        have hjl : j < b1.items.length := (List.getElem?_eq_some_iff.mp hx1).1
                        obtain ⟨hgo1, hy1⟩ := (ok1 ι7 H7 st7 j e7 r7 hlv1).1 x1 hx1
                        refine .inr ⟨hgo1, fun H' => ∃ ι3 st3 acc3 vacc3 ys3, Ext0 ι6 H6 ι3 H' ∧ Ext ι1 H1 ι3 H' ∧ H' D = some (.lst vacc3) ∧ (∀ i : Nat, ι3[i]? ≠ some D) ∧ RVs W.K ι3 H' acc3 vacc3 ∧ Rel W ι3 H' st3 ∧
                          lcL b1.live b1.items g1 mt1 me (wipeL sl4 vs1) xs1 st3 = some (ys3, st8) ∧ acc ++ ysI = acc3 ++ ys3, ?_, fun y1 H8 hyl1 => ?_⟩
                        · rintro H' ⟨ι3, st3, acc3, vacc3, ys3, q0, q1, q2, q3, q4, q5, q7, q8⟩
                          exact ⟨b1.items.length - (j + 1), by omega, ι3, st3, acc3, vacc3, ys3, q0, q1, q2, q3, q4, q5, hjl, rfl, by rw [hxs1]; exact q7, q8⟩
                        obtain ⟨e8, r8, ry1⟩ := hy1 y1 H8 hyl1
                        have s8 : RL W.K ι7 H8 (wipeL sl4 vs1) (L2.wipe σ4 vs1) := ((((s4.mono e5).mono0 e6.toExt0).mono0 e7).mono e8).wipe vs1
                        cases h10 : g1 x1 (wipeL sl4 vs1) st7 with
                        | none => rw [h10] at hf8; cases hf8
                        | some p10 =>
                          obtain ⟨sl10, st10⟩ := p10
                          rw [h10] at hf8
                          refine ⟨ι7, wipeL sl4 vs1, st7, x1, sl10, st10, s8, r8, ry1, h10, fun ι11 H11 σ11 e11 r11 s11 w11 => ⟨by rw [w11, wipe_wipe], ?_⟩⟩
                          have hf9 : (match mt1 sl10 st10 with
                            | some (.ok true st2) => (match me sl10 st2 with
                              | some (.ok y st3) => (match lcL b1.live b1.items g1 mt1 me (wipeL sl4 vs1) xs1 st3 with
                                | some (ys, st4) => some (y :: ys, st4)
                                | none => none)
                              | _ => none)
                            | some (.ok false st2) => lcL b1.live b1.items g1 mt1 me (wipeL sl4 vs1) xs1 st2
                            | _ => none) = some (ys7, st8) := hf8
                          have e711 : Ext ι7 H7 ι11 H11 := e8.trans e11
                          obtain ⟨hD11, nD11⟩ := e711.oth D _ hD7 nD7
                          cases h12 : mt1 sl10 st10 with
                          | none => rw [h12] at hf9; cases hf9
                          | some r12 =>
                            rw [h12] at hf9
                            cases r12 with
                            | ex c st12 => cases hf9
                            | ok bb st12 =>
                              refine ⟨ι11, sl10, st10, _, s11, r11, h12, fun ι12 H12 bb' e12 r12 hb => ?_⟩
                              subst hb
                              obtain ⟨hD12, nD12⟩ := e12.oth D _ hD11 nD11
                              have e712 := e711.trans e12
                              have ra12 := ra7.mono e712
                              cases bb with
                              | false => exact ⟨ι12, st12, acc7, vacc7, ys7, e7.trans e712.toExt0, e17.trans e712, hD12, nD12, ra12, r12, hf9, he7⟩
                              | true =>
                                have hf10 : (match me sl10 st12 with
                                  | some (.ok y st3) => (match lcL b1.live b1.items g1 mt1 me (wipeL sl4 vs1) xs1 st3 with
                                    | some (ys, st4) => some (y :: ys, st4)
                                    | none => none)
                                  | _ => none) = some (ys7, st8) := hf9
                                cases h13 : me sl10 st12 with
                                | none => rw [h13] at hf10; cases hf10
                                | some r13 =>
                                  rw [h13] at hf10
                                  cases r13 with
                                  | ex c st13 => cases hf10
                                  | ok z st13 =>
                                    have hf11 : (match lcL b1.live b1.items g1 mt1 me (wipeL sl4 vs1) xs1 st13 with | some (ys, st4) => some (z :: ys, st4) | none => none) = some (ys7, st8) := hf10
                                    cases h14 : lcL b1.live b1.items g1 mt1 me (wipeL sl4 vs1) xs1 st13 with
                                    | none => rw [h14] at hf11; cases hf11
                                    | some q =>
                                      obtain ⟨ys14, st14⟩ := q
                                      rw [h14] at hf11
                                      cases hf11
                                      refine ⟨ι12, sl10, st12, _, s11.mono e12, r12, h13, fun ι15 H15 vz e15 r15 rz => ?_⟩
                                      obtain ⟨hD15, nD15⟩ := e15.oth D _ hD12 nD12
                                      have ra15 := ra12.mono e15
                                      have hv : vacc7.length < sizeLine := by
                                        rw [← ra7.len, ← line_eq]
                                        have hz2 := hz
                                        rw [← List.append_assoc, he7] at hz2
                                        simp only [List.length_append, List.length_cons] at hz2
                                        omega
                                      exact ⟨vacc7, hD15, hv, ι15, st13, acc7 ++ [z], vacc7 ++ [vz], ys14, (e7.trans e712.toExt0).trans (e15.toExt0.trans (Ext0.putO hD15)), ((e17.trans e712).trans e15).putO hD, upd_same, nD15, (ra15.app (.cons rz .nil)).mono0 (Ext0.putO hD15), r15.putO hD15 nD15, h14,
                                        by rw [he7, List.append_assoc]; rfl⟩
theorem se_lc2 {tg iter tg1 iter1 : Expr} {ifs ifs1 : List Expr} {scope : Scope} {own : List (Str × Nat)} {vs1 : List Nat} {mi mi1 : FI} {g g1 : FG} (C : Ctx W k X Ew) (hi : SI W X Ew tg iter mi) (ok : BlkOk X.N X.env.scope scope own) (hv : ∀ i ∈ vs1, i ∈ own.map (·.2))
    (hg : ∀ (s : Shared) (H : Hp) (c : Addr) (cl : List (Str × Addr)) (fp : List Addr), SGw W (X.blk s H scope (compEnvC scope cl c X.env) fp) (own.map (·.2)) tg g)
    (ht : ∀ (s : Shared) (H : Hp) (c : Addr) (cl : List (Str × Addr)) (fp : List Addr), STs W (X.blk s H scope (compEnvC scope cl c X.env) fp) ifs mt)
    (hi1 : ∀ (s : Shared) (H : Hp) (c : Addr) (cl : List (Str × Addr)) (fp : List Addr), SI W (X.blk s H scope (compEnvC scope cl c X.env) fp) E00 tg1 iter1 mi1)
    (hg1 : ∀ (s : Shared) (H : Hp) (c : Addr) (cl : List (Str × Addr)) (fp : List Addr), SGw W (X.blk s H scope (compEnvC scope cl c X.env) fp) vs1 tg1 g1)
    (ht1 : ∀ (s : Shared) (H : Hp) (c : Addr) (cl : List (Str × Addr)) (fp : List Addr), STs W (X.blk s H scope (compEnvC scope cl c X.env) fp) ifs1 mt1)
    (he : ∀ (s : Shared) (H : Hp) (c : Addr) (cl : List (Str × Addr)) (fp : List Addr), SE W (X.blk s H scope (compEnvC scope cl c X.env) fp) E00 e me)
    (h1 : ∀ x, foldedSetIterable iter X.env x = pure x := by intro _; rfl) (h2 : ∀ env x, foldedSetIterable iter1 env x = pure x := by intro _ _; rfl) : SE W X Ew (.ListComp e [⟨tg, iter, ifs, 0⟩, ⟨tg1, iter1, ifs1, 0⟩] scope pos) (fLc2 mi g mt mi1 g1 mt1 me (own.map (·.2)) vs1) :=
  imE (pe_lc2 C.calm C.nd hi ok hv hg ht hi1 hg1 ht1 he h1 h2) fun σ H Q h => lc2_imp h
theorem ss_setLc2 (i : Nat) {y : Str} {py : Pos} {tg iter tg1 iter1 : Expr} {ifs ifs1 : List Expr} {scope : Scope} {own : List (Str × Nat)} {vs1 : List Nat} {spos : Pos} {mi mi1 : FI} {g g1 : FG} (C : Ctx W k X Ew)
    (hsw : swapsWith (.ListComp e [⟨tg, iter, ifs, 0⟩, ⟨tg1, iter1, ifs1, 0⟩] scope pos) (some (.Name y py)) spos.line X.env = pure true) (hi : SI W X Ew tg iter mi) (ok : BlkOk X.N X.env.scope scope own) (hv : ∀ i ∈ vs1, i ∈ own.map (·.2))
    (hg : ∀ (s : Shared) (H : Hp) (c : Addr) (cl : List (Str × Addr)) (fp : List Addr), SGw W (X.blk s H scope (compEnvC scope cl c X.env) fp) (own.map (·.2)) tg g)
    (ht : ∀ (s : Shared) (H : Hp) (c : Addr) (cl : List (Str × Addr)) (fp : List Addr), STs W (X.blk s H scope (compEnvC scope cl c X.env) fp) ifs mt)
    (hi1 : ∀ (s : Shared) (H : Hp) (c : Addr) (cl : List (Str × Addr)) (fp : List Addr), SI W (X.blk s H scope (compEnvC scope cl c X.env) fp) E00 tg1 iter1 mi1)
    (hg1 : ∀ (s : Shared) (H : Hp) (c : Addr) (cl : List (Str × Addr)) (fp : List Addr), SGw W (X.blk s H scope (compEnvC scope cl c X.env) fp) vs1 tg1 g1)
    (ht1 : ∀ (s : Shared) (H : Hp) (c : Addr) (cl : List (Str × Addr)) (fp : List Addr), STs W (X.blk s H scope (compEnvC scope cl c X.env) fp) ifs1 mt1)
    (he : ∀ (s : Shared) (H : Hp) (c : Addr) (cl : List (Str × Addr)) (fp : List Addr), SE W (X.blk s H scope (compEnvC scope cl c X.env) fp) E00 e me)
    (hy : X.N[i]? = some y := by rfl) (hyl : X.env.scope.names.lookup y = some .local := by rfl) (h1 : ∀ x, foldedSetIterable iter X.env x = pure x := by intro _; rfl) (h2 : ∀ env x, foldedSetIterable iter1 env x = pure x := by intro _ _; rfl) :
    SS W X Ew (.Assign [.Name y py] (.ListComp e [⟨tg, iter, ifs, 0⟩, ⟨tg1, iter1, ifs1, 0⟩] scope pos) spos) (fSet i (fLc2 mi g mt mi1 g1 mt1 me (own.map (·.2)) vs1)) :=
  imS (ps_setLc2 C.calm C.nd hy hyl hsw hi ok hv hg ht hi1 hg1 ht1 he h1 h2) fun D σ H ⟨ι, sl, st, r, hs, hr, hm, hq⟩ =>
    lc2_imp (runS (k := fun x => fun sl st => some (.nx (sl.set i (some x)) st)) hs hr hm hq fun x st1 ι1 H1 vx e1 s1 r1 rx hm1 hq1 => nx_of (s1.set rx i) r1 hm1 hq1)
/-! ### a if c else b, as a test -/
theorem pt_ifExp {c : Expr} {tA t u : TT} (hc : PT X c tA) (ha : PT X a t) (hb : PT X b u) : PT X (.IfExp c a b pos) (fun σ H Q => tA σ H fun d H1 => if d = true then t σ H1 Q else u σ H1 Q) := by
  refine ⟨fun pins s σ H Q I h => ?_⟩
  refine isTrue_IfExp (thn (hc.run pins s σ H _ I h) fun d s1 ⟨H1, I1, q1⟩ => ?_)
  cases d with
  | true => exact ha.run pins s1 σ H1 _ I1 q1
  | false => exact hb.run pins s1 σ H1 _ I1 q1
theorem sc_if {c : Expr} (hc : SC W X Ew c mt) (ha : SC W X Ew a mu) (hb : SC W X Ew b mt1) : SC W X Ew (.IfExp c a b pos) (fIf mt mu mt1) :=
  imT (pt_ifExp hc ha hb) fun σ H Q ⟨ι, sl, st, r, hs, hr, hm, hq⟩ => run hs hr hm hq fun x st1 ι1 H1 vx e1 s1 r1 rx hm1 hq1 => by
    subst rx
    cases x with
    | true => exact toOf s1 r1 hm1 hq1
    | false => exact toOf s1 r1 hm1 hq1
end
end FL
/-! FL14: sorted(d.items()) of a dict with text keys. -/
namespace FLS
open PySem PySem.Spec PyProof.Rows L2 SrtO DT
/-- v is a pair of the text y and something -/
def PrS (h : Heap) (v : Value) (y : Str) : Prop := ∃ (a : Addr) (t : Tok) (u : Value), v = .ref a ∧ IsTup h a #[.str y t, u]
def txV (h : Heap) (v : Value) : Str := txOf (seqAt0 h (refOf (some v)))
theorem PrS.tx {h : Heap} {v : Value} {y : Str} (p : PrS h v y) : txV h v = y := by
  obtain ⟨a, t, u, rfl, h1⟩ := p
  show txOf (seqAt0 h a) = y
  rw [seqAt0_of h1]
  rfl
theorem PrS.keeps {h h' : Heap} {v : Value} {y : Str} (p : PrS h v y) (k : ∀ b o, h.get? b = some o → o.cls = .type "tuple" → h'.get? b = some o) : PrS h' v y := by
  obtain ⟨a, t, u, rfl, ⟨o, ho, hc, r⟩⟩ := p
  exact ⟨a, t, u, rfl, ⟨o, k _ _ ho hc, hc, r⟩⟩
def ltS (x y : Str) : Bool := decide (x.cps.toList < y.cps.toList)
theorem swoS (f : Value → Str) : Swo fun v u => ltS (f v) (f u) := by
  refine ⟨fun x y h => ?_, fun x y z h1 h2 => ?_⟩
  · have a := of_decide_eq_true h
    exact decide_eq_false (List.lt_asymm a)
  · have a := of_decide_eq_false h1
    have b := of_decide_eq_false h2
    refine decide_eq_false ?_
    rw [List.not_lt] at *
    exact List.le_trans a b
theorem str_ext {x y : Str} (h : x.cps.toList = y.cps.toList) : x = y := by
  cases x
  cases y
  simp at h
  rw [h]
section
variable {prog : Program} {w : World} {A : Around} {E : Value → Shared → Prop} {s : Shared}
theorem firstsS {h : Heap} : ∀ {vs : List Value}, (∀ v ∈ vs, ∃ y, PrS h v y) → ∃ fs : List Value, PySem.W.KatTups h vs fs ∧ fs.length = vs.length ∧ ∀ f ∈ fs, ∃ x t, f = Value.str x t
  | [], _ => ⟨[], .nil, rfl, fun f hf => by simp at hf⟩
  | v :: vs, x => by
    obtain ⟨fs, k, hl, hi⟩ := firstsS (vs := vs) fun u hu => x u (List.mem_cons_of_mem _ hu)
    obtain ⟨y, a, t, u, rfl, ⟨o, ho, hc, n, hd⟩⟩ := x v List.mem_cons_self
    refine ⟨.str y t :: fs, .cons ho hc hd rfl k, by rw [List.length_cons, List.length_cons, hl], fun f hf => ?_⟩
    rcases List.mem_cons.mp hf with rfl | hf
    · exact ⟨y, t, rfl⟩
    · exact hi f hf
theorem cmpS {vs : List Value} {f : Value → Str} (hp : ∀ v ∈ vs, PrS s.heap v (f v)) (inj : ∀ v ∈ vs, ∀ u ∈ vs, f v = f u → v = u) : Cmp prog w A s (tuples' true) (fun p => p.1 ∈ vs) (lt2 fun v u => ltS (f v) (f u)) := by
  intro p q hm hm'
  have h1 := hp _ hm
  have h2 := hp _ hm'
  have i1 := inj _ hm _ hm'
  show wpAny (model prog w) A (keyLt' (tuples' true) p.1 q.1) (fun r s' => s' = s ∧ r = ltS (f p.1) (f q.1)) (fun _ _ => False) s
  obtain ⟨a, t, u, e, o, ho, hc, n, hd⟩ := h1
  obtain ⟨a', t', u', e', o', ho', hc', n', hd'⟩ := h2
  by_cases same : p.1 = q.1
  · have irr : ltS (f p.1) (f q.1) = false := by
      rw [same]
      exact decide_eq_false (List.lt_irrefl _)
    rw [irr, ← same, e]
    refine PySem.W.kat_lt ho hd ho hd ?_
    show PySem.W.KatLex prog w A true (decide (2 < 2)) _ [(.str (f p.1) t, .str (f p.1) t), (u, u)] 0 s
    refine PySem.W.kat_cons (SeqAt.EqAt.same _ prog w _ _ ?_)
    refine PySem.W.kat_yes (PySem.W.kat_cons (SeqAt.EqAt.same _ prog w _ _ ?_))
    exact PySem.W.kat_yes (PySem.W.kat_nil ⟨rfl, rfl⟩)
  · have ne : ¬ f p.1 = f q.1 := fun z => same (i1 z)
    generalize f p.1 = x at hd ne ⊢
    generalize f q.1 = y at hd' ne ⊢
    rw [e, e']
    refine PySem.W.kat_lt ho hd ho' hd' ?_
    show PySem.W.KatLex prog w A true (decide (2 < 2)) _ [(.str x t, .str y t'), (u, u')] 0 s
    refine PySem.W.kat_cons (wpAny_eqBool_str ?_)
    refine PySem.W.kat_go (fun e1 => absurd (of_decide_eq_true e1) ne) (fun e1 => ?_)
    exact PySem.W.kat_no (oneLt_str ⟨rfl, rfl⟩)
theorem sortableS {a : Addr} {vs : List Value} {f : Value → Str} (h0 : 0 < vs.length) (hp : ∀ v ∈ vs, PrS s.heap v (f v)) (inj : ∀ v ∈ vs, ∀ u ∈ vs, f v = f u → v = u) (ha : ∀ o, s.heap.get? a = some o → o.cls ≠ .type "tuple") :
    SortableO prog w A s a vs fun v u => ltS (f v) (f u) := by
  intro h' keep
  have hp' : ∀ v ∈ vs, PrS h' v (f v) := fun v hm => (hp v hm).keeps fun b o e c => keep b o (fun z => by subst z; exact ha o e c) e
  obtain ⟨fs, h1, h2, h3⟩ := firstsS fun v hm => ⟨_, hp' v hm⟩
  refine ⟨tuples' true, fun Q E hq => ?_, cmpS (s := { s with heap := h' }) hp' inj⟩
  refine PySem.W.kat_kind (T := .type "str") h1 (by omega) (fun f hm => ?_) (by rfl) ?_
  · obtain ⟨x, t, rfl⟩ := h3 f hm
    exact PySem.W.Looks.now
  · have e : (Value.type "str" != Value.type "tuple") = true := by first | decide +kernel | rfl | decide
    rw [e]
    exact hq
end
/-- sorted(d.items()) -/
def rSortK : V → Hp → VK → Prop := fun x H Q => ∃ (d : Addr) (ks : List (Str × V)), x = .ref d ∧ H d = some (.dK (ks.map fun e => (Sum.inr e.1, e.2))) ∧
  ∀ (H' : Hp) (p : Addr) (zs : List (Addr × Str × V)), (ks.map (·.1)).Nodup → (∀ b o, H b = some o → H' b = some o) → H p = none → (zs.map (·.2)).Perm ks → (zs.map (·.2)).Pairwise (fun e f => ltS f.1 e.1 = false) → H' p = some (.lst (zs.map fun z => V.ref z.1)) →
    (∀ z ∈ zs, H' z.1 = some (.tup [.str z.2.1, z.2.2])) → Q (.ref p) H'
section
variable {X : Cx} {e : Expr} {te : TE} {p apos cpos pos : Pos}
theorem zip_refs {α : Type} : ∀ (as : List Addr) (ks : List α), as.length = ks.length → (as.zip ks).map (fun z => Value.ref z.1) = as.map Value.ref
  | [], _, _ => rfl
  | a :: as, [], h => by simp at h
  | a :: as, k :: ks, h => by
    show Value.ref a :: (as.zip ks).map _ = Value.ref a :: as.map Value.ref
    rw [zip_refs as ks (by simpa using h)]
theorem pe_sortItems (hc : X.calm = true) (he : PE X e te) (hg : Gl X "sorted") (hm : X.mg "sorted" = none) (hv : bootBuiltins "sorted" = some (.builtin "sorted")) (hbase : attributeBase e "items" X.env (eval e X.env) = eval e X.env := by rfl) (hline : (apos.endLine == cpos.line) = true := by rfl)
    (hs : starEach [.Call (.Attribute e "items" apos) [] [] cpos] X.env = (false, eval (.Call (.Attribute e "items" apos) [] [] cpos) X.env) :: starEach [] X.env := by rfl) :
    PE X (.Call (.Name "sorted" p) [.Call (.Attribute e "items" apos) [] [] cpos] [] pos) (fun σ H Q => te σ H fun x H1 => rSortK x H1 Q) := by
  refine ⟨fun pins s σ H Q I hq => ?_⟩
  refine wpAny_Call_Name_kw (ld_blt I hg hm hv ?_ (by decide) (by decide))
  refine PyProof.Rows.callWith_builtin1 ?_ hs rfl
  rw [hs]
  show wpAny _ _ (spliced ((false, eval (.Call (.Attribute e "items" apos) [] [] cpos) X.env) :: backTo pos (starEach [] X.env))) _ _ s
  refine Calls.spliced_cons ?_
  refine wpAny_Call_method (T := "dict") (id := "dict.items") hbase rfl hline F.plainAttrs_dict F.slot_dict_items F.type_dict_items (thn (he.run pins s σ H _ I hq) fun u s1 ⟨x, H1, I1, rx, d, ks, ex, hd, q⟩ => ?_)
  subst ex
  obtain rfl : u = Value.ref d := rx
  obtain ⟨hz, hs0, vs, kv, hdo⟩ := I1.hok d _ hd
  obtain ⟨od, es, ep, hod, hxd, hdat, hko, hprs, hnd⟩ := id hdo
  have lk : (ks.map fun e => ((Sum.inr e.1 : Key), e.2)).length = vs.length := Paired.length kv
  rw [List.length_map] at lk hz
  have le : es.toList.length = vs.length := hprs.length
  have I2 : Inv X pins σ H1 { s1 with heap := s1.heap.push { cls := .type "dict_items", data := .fields #[.ref d] } } := I1.kept (t' := s1.toks) fun b ob q => Heap.get?_push_of_some _ q
  refine ⟨hdo.typeIs, hdo.mapOf.noDict, ?_⟩
  show wpAny _ _ (callWith cpos (.builtin "dict.items") [.ref d] [] []) _ X.xe s1
  refine method_meetsIn F.slot_dict_items F.entry_dict_items rfl (PySem.evalArgs_none ⟨rfl, hdo.typeIs, F.args_dict_items_1 _, _, meets_dict_items (mixKind X.prog X.w) d hs0, ⟨vs, hdo⟩, ?_⟩)
  refine Calls.spliced_nil ?_
  refine DT.sortedI (es := es) (ep := ep) (I1.ok.hd hc) ⟨_, Heap.get?_push_size _ rfl, rfl, rfl⟩ ⟨od, Heap.get?_push_of_some _ hod, hxd, hdat⟩ (by rw [← Array.length_toList, le, ← lk]; exact hz) fun h' tk as hk hlt hl hG => ?_
  dsimp only at hk hlt hG ⊢
  generalize hsz : (s1.heap.push { cls := .type "dict_items", data := .fields #[.ref d] }).objs.size = n0 at *
  have lak : as.length = ks.length := by rw [hl, ← Array.length_toList, le, lk]
  have nd : as.Nodup := List.Pairwise.imp (fun h => Nat.ne_of_lt h) hG.rise
  have ndk : (ks.map (·.1)).Nodup := by
    have h1 : ((ks.map fun e => ((Sum.inr e.1 : Key), e.2)).map (·.1)) = vs.map (·.1) := kv.keys
    rw [← h1, List.map_map] at hnd
    have h2 : ((fun x : Key × V => x.1) ∘ fun e : Str × V => ((Sum.inr e.1 : Key), e.2)) = (Sum.inr : Str → Key) ∘ fun e : Str × V => e.1 := rfl
    rw [h2, ← List.map_map] at hnd
    exact hnd.of_map _ fun a b h e => h (congrArg _ e)
  -- the pairs that were made
  have pr : ∀ (j : Nat) (b : Addr), as[j]? = some b → ∃ (e : Str × V) (t : Tok) (u : Value), ks[j]? = some e ∧ RelV e.2 u ∧ h'.get? b = some { cls := .type "tuple", data := .seq #[Value.str e.1 t, u] } := by
    intro j b hj
    obtain ⟨en, h1, h2⟩ := hG.pairs j b hj
    have hjl : j < ks.length := by rw [← lak]; exact (List.getElem?_eq_some_iff.mp hj).1
    have hkj : ks[j]? = some ks[j] := List.getElem?_eq_getElem hjl
    obtain ⟨u, h3, h4⟩ := kv_get kv (i := j) (k := Sum.inr ks[j].1) (v := ks[j].2) (by rw [List.getElem?_map, hkj]; rfl)
    obtain ⟨h5, h6⟩ := hprs.get? (i := j) (e := en) (by rw [Array.getElem?_toList]; exact h1) h3
    obtain ⟨t, h7⟩ : ∃ t, en.key = Value.str ks[j].1 t := relV_key (k := Sum.inr ks[j].1) h5
    rw [h7, h6] at h2
    exact ⟨ks[j], t, u, hkj, h4, h2⟩
  have hob : (h'.push { cls := .type "list", data := .seq (as.map Value.ref).toArray }).get? h'.objs.size = some (seqObj "list" (as.map Value.ref).toArray 0) := Heap.get?_push_size _ rfl
  have ka : ∀ b o, h'.get? b = some o → (h'.push { cls := .type "list", data := .seq (as.map Value.ref).toArray }).get? b = some o := fun b o e => Heap.get?_push_of_some _ e
  have ne0 : ∀ b o, h'.get? b = some o → b ≠ h'.objs.size := fun b o e => Nat.ne_of_lt (Heap.lt_size e)
  have kb : ∀ b o, s1.heap.get? b = some o → h'.get? b = some o := fun b o e => hk b o (Heap.get?_push_of_some _ e)
  generalize hh2 : h'.push { cls := .type "list", data := .seq (as.map Value.ref).toArray } = h2 at hob ka ⊢
  have at_ : ∀ v ∈ as.map Value.ref, ∃ (j : Nat) (b : Addr) (e : Str × V), v = .ref b ∧ as[j]? = some b ∧ ks[j]? = some e ∧ PrS h2 v e.1 := by
    intro v hv'
    obtain ⟨b, hb, rfl⟩ := List.mem_map.mp hv'
    obtain ⟨j, hj⟩ := List.mem_iff_getElem?.mp hb
    obtain ⟨e, t, u, he, _, hg⟩ := pr j b hj
    exact ⟨j, b, e, rfl, hj, he, b, t, u, rfl, _, ka _ _ hg, rfl, 0, rfl⟩
  have hp : ∀ v ∈ as.map Value.ref, PrS h2 v (txV h2 v) := fun v hv' => by
    obtain ⟨j, b, e, _, _, _, q⟩ := at_ v hv'
    rw [q.tx]
    exact q
  have inj : ∀ v ∈ as.map Value.ref, ∀ u ∈ as.map Value.ref, txV h2 v = txV h2 u → v = u := fun v hv' u hu' ee => by
    obtain ⟨j, b, e, rfl, hj, he, q⟩ := at_ v hv'
    obtain ⟨j2, b2, e2, rfl, hj2, he2, q2⟩ := at_ u hu'
    rw [q.tx, q2.tx] at ee
    have hj3 : (ks.map (·.1))[j]? = some e.1 := by rw [List.getElem?_map, he]; rfl
    have hj4 : (ks.map (·.1))[j2]? = some e2.1 := by rw [List.getElem?_map, he2]; rfl
    have : j = j2 := (List.getElem?_inj (List.getElem?_eq_some_iff.mp hj3).1 ndk).mp (by rw [hj3, hj4, ee])
    subst this
    rw [hj] at hj2
    cases hj2
    rfl
  refine wpAny_call_entry PyProof.Rows.slot_list_sort ⟨_, hob, rfl⟩ PyProof.Rows.entry_list_sort (list_sort_ord (swoS (txV h2)) hob (by rw [List.length_map, lak]; exact hz) (fun h2' => sortableS (s := { s1 with heap := h2, toks := tk }) (by omega) hp inj fun o ho => ?_) fun out hs1 hs2 => ⟨_, rfl, ?_⟩) (PyProof.Rows.args_list_sort _)
  · have ho' : h2.get? h'.objs.size = some o := ho
    rw [hob] at ho'
    cases ho'
    intro z
    have z' : Value.type "list" = Value.type "tuple" := z
    simp at z'
  · obtain ⟨zs, pz, ez⟩ := perm_lift (fun z : Addr × Str × V => Value.ref z.1) hs2.perm (as.zip ks) (zip_refs as ks lak)
    have idx : ∀ z ∈ zs, ∃ j : Nat, as[j]? = some z.1 ∧ ks[j]? = some z.2 := by
      intro z' hz'
      obtain ⟨j, hj⟩ := List.mem_iff_getElem?.mp (pz.mem_iff.mp hz')
      exact ⟨j, List.getElem?_zip_eq_some.mp hj⟩
    have hperm : (zs.map (·.2)).Perm ks := by
      have e := pz.map (·.2)
      have m2 : (as.zip ks).map (·.2) = ks := List.map_snd_zip (by rw [lak]; exact Nat.le_refl _)
      rw [m2] at e
      exact e
    have hsort : (zs.map (·.2)).Pairwise (fun e f => ltS f.1 e.1 = false) := by
      rw [← ez] at hs1
      have o3 := List.pairwise_map.mp hs1
      rw [List.pairwise_map]
      refine List.Pairwise.imp_of_mem (fun {x y} hx hy h => ?_) o3
      obtain ⟨j, j1, j2⟩ := idx x hx
      obtain ⟨i, i1, i2⟩ := idx y hy
      obtain ⟨_, b1, e1, q1, q2, q3, q4⟩ := at_ (.ref x.1) (List.mem_map.mpr ⟨_, List.mem_of_getElem? j1, rfl⟩)
      obtain ⟨_, b2, e2, r1, r2, r3, r4⟩ := at_ (.ref y.1) (List.mem_map.mpr ⟨_, List.mem_of_getElem? i1, rfl⟩)
      cases q1
      cases r1
      have c1 := (List.getElem?_inj (List.getElem?_eq_some_iff.mp q2).1 nd).mp (q2.trans j1.symm)
      have c2 := (List.getElem?_inj (List.getElem?_eq_some_iff.mp r2).1 nd).mp (r2.trans i1.symm)
      subst c1 c2
      rw [q3] at j2
      rw [r3] at i2
      have j2' := Option.some.inj j2
      have i2' := Option.some.inj i2
      have h' : ltS (txV h2 (.ref y.1)) (txV h2 (.ref x.1)) = false := h
      rw [q4.tx, r4.tx, j2', i2'] at h'
      exact h'
    have kF : ∀ b o, b ≠ h'.objs.size → h2.get? b = some o → (sortedHeap h2 h'.objs.size (as.map Value.ref) out.toArray).get? b = some o := fun b o hb e => (PyProof.Rows.sortedHeap_old hb (Heap.lt_size e)).trans e
    have kS : ∀ b o, s1.heap.get? b = some o → (sortedHeap h2 h'.objs.size (as.map Value.ref) out.toArray).get? b = some o := fun b o e => kF b o (ne0 _ _ (kb b o e)) (ka _ _ (kb b o e))
    obtain ⟨eF, heF⟩ := PyProof.Rows.sortedHeap_at (vs := as.map Value.ref) (out := out.toArray) hob
    have s1n : s1.heap.objs.size ≤ n0 := by rw [← hsz, Heap.size_push]; exact Nat.le_succ _
    have I3 : Inv X pins σ H1 { s1 with heap := sortedHeap h2 h'.objs.size (as.map Value.ref) out.toArray, toks := tk } := I1.kept (t' := tk) kS
    have hn0 : H1 h'.objs.size = none := I1.hok.fresh (by omega)
    have hout : out = zs.map fun z => Value.ref z.1 := ez.symm
    have hlen : (zs.map fun z => V.ref z.1).length ≤ sizeLine := by
      have e := hperm.length_eq
      rw [List.length_map] at e
      rw [List.length_map, e]
      exact hz
    have rv : Vals (zs.map fun z => V.ref z.1) out := by
      rw [hout]
      exact vals_maps (fun z : Addr × Str × V => V.ref z.1) (fun z => Value.ref z.1) zs fun _ _ => rfl
    have I4 : Inv X pins σ (upd H1 h'.objs.size (.lst (zs.map fun z => V.ref z.1))) { s1 with heap := sortedHeap h2 h'.objs.size (as.map Value.ref) out.toArray, toks := tk } :=
      I3.take (h' := sortedHeap h2 h'.objs.size (as.map Value.ref) out.toArray) (t' := tk) (fun b ob _ e => e) (I1.fpOk (by omega) hn0) ⟨hlen, out, eF, rv, heF⟩
    obtain ⟨H2, I5, g, qt⟩ := L2.DX.takeT (P := fun b vs => ∃ (j : Nat) (e : Str × V), as[j]? = some b ∧ ks[j]? = some e ∧ vs = [.str e.1, e.2]) I1 as _ I4 nd fun b hb => by
      obtain ⟨j, hj⟩ := List.mem_iff_getElem?.mp hb
      obtain ⟨e, t, u, he, hu, hg⟩ := pr j b hj
      have hbl : s1.heap.objs.size ≤ b := Nat.le_trans s1n (Nat.le_of_lt (hG.above b hb))
      refine ⟨hbl, ?_, [.str e.1, e.2], ⟨j, e, hj, he, rfl⟩, fun H3 => ⟨(by rw [sizeLine_eq]; show 2 ≤ 16777216; omega), [Value.str e.1 t, u], .cons ⟨t, rfl⟩ (.cons hu .nil), ⟨_, kF _ _ (ne0 _ _ hg) (ka _ _ hg), rfl, 0, rfl⟩⟩⟩
      rw [upd_ne (ne0 _ _ hg)]
      exact I1.hok.fresh hbl
    have gr : ∀ b o, H1 b = some o → H2 b = some o := fun b o e => g b o (by rw [upd_ne (ne_of_none e hn0)]; exact e)
    refine ⟨.ref h'.objs.size, H2, I5, rfl, q H2 h'.objs.size zs ndk gr hn0 hperm hsort (g _ _ upd_same) fun z' hz' => ?_⟩
    obtain ⟨i, i1, i2⟩ := idx z' hz'
    obtain ⟨vs, ⟨j, e, j1, j2, ev⟩, hH⟩ := qt z'.1 (List.mem_of_getElem? i1)
    have eij : i = j := (List.getElem?_inj (List.getElem?_eq_some_iff.mp i1).1 nd).mp (i1.trans j1.symm)
    subst eij
    have ee : e = z'.2 := Option.some.inj (j2.symm.trans i2)
    rw [ev, ee] at hH
    exact hH
end
end FLS
/-! FL15: dicts: methods, displays, comprehensions, sorted items; lists: more methods; reversed. -/
namespace FL
open PySem PySem.Spec PyProof.Rows L2
section
variable {W : Wd} {k : Nat} {X : Cx} {Ew : WX} {ι ι' : List Addr} {H H' : Hp} {st : Sto} {a b e : Expr} {es : List Expr} {ma mb me mk mv : FE} {mt mu mt1 : FT} {mas : FA} {pos : Pos} {s : Stmt} {ss : List Stmt} {m n : FS} {tg : Expr}
/-! ### d.get, d.pop -/
def fDGet : Val → ON := fun x xs st => match x with
  | .ref p => (match st[p]? with
    | some (.dic kvs) => (match xs with
      | [y] => (keyOf y).map fun k => ((getK kvs k).getD .non, st)
      | [y, d] => (keyOf y).map fun k => ((getK kvs k).getD d, st)
      | _ => none)
    | _ => none)
  | _ => none
theorem mt_dgetF (C : Ctx0 W k X Ew) : MtR X "dict.get" (rm W fDGet) := fun pins s σ H x xs v us Q I rx rxs h => by
  obtain ⟨ι, st, a, as, w, st', ra, ras, hr, hf, hq⟩ := h
  unfold fDGet at hf
  split at hf
  case h_2 => cases hf
  rename_i p
  split at hf
  case h_2 => cases hf
  rename_i kvs h0
  cases ra with
  | @ref _ q h1 =>
    obtain rfl : v = Value.ref q := rx
    obtain ⟨ms, h2, h3⟩ := hr.dic h0 h1
    split at hf
    · rename_i y
      obtain ⟨k, e1, e2⟩ := Option.map_eq_some_iff.mp hf
      cases e2
      cases ras with
      | cons r0 rr =>
        cases rr
        obtain ⟨u, rfl, ru⟩ := vals1 rxs
        have e := keyOf_V e1 r0
        subst e
        refine d_get1 C.hu1 I (DGet.k h2) ru fun w' s' I' rw' => ⟨_, H, I', rw', ?_⟩
        rcases DP.get h3 k with ⟨g1, g2⟩ | ⟨x, v, g1, g2, g3⟩
        · rw [g1] at hq
          rw [g2]
          exact hq.here hr .non
        · rw [g1] at hq
          rw [g2]
          exact hq.here hr g3
    · rename_i y d
      obtain ⟨k, e1, e2⟩ := Option.map_eq_some_iff.mp hf
      cases e2
      cases ras with
      | cons r0 rr =>
        cases rr with
        | cons r2 r3 =>
          cases r3
          obtain ⟨u, u2, rfl, ru, ru2⟩ := vals2 rxs
          have e := keyOf_V e1 r0
          subst e
          refine d_get2 C.hu1 I (DGet.k h2) ru ru2 fun w' s' I' rw' => ⟨_, H, I', rw', ?_⟩
          rcases DP.get h3 k with ⟨g1, g2⟩ | ⟨x, v, g1, g2, g3⟩
          · rw [g1] at hq
            rw [g2]
            exact hq.here hr r2
          · rw [g1] at hq
            rw [g2]
            exact hq.here hr g3
    · cases hf
def fDPop : Val → ON := fun x xs st => match x with
  | .ref p => (match st[p]? with
    | some (.dic kvs) => (match xs with
      | [y] => (keyOf y).bind fun k => (getK kvs k).map fun z => (z, st.set p (.dic (delK kvs k)))
      | [y, d] => (keyOf y).map fun k => match getK kvs k with
        | some z => (z, st.set p (.dic (delK kvs k)))
        | none => (d, st)
      | _ => none)
    | _ => none)
  | _ => none
theorem mt_dpopF : MtR X "dict.pop" (rm W fDPop) := fun pins s σ H x xs v us Q I rx rxs h => by
  obtain ⟨ι, st, a, as, w, st', ra, ras, hr, hf, hq⟩ := h
  unfold fDPop at hf
  split at hf
  case h_2 => cases hf
  rename_i p
  split at hf
  case h_2 => cases hf
  rename_i kvs h0
  cases ra with
  | @ref _ q h1 =>
    obtain rfl : v = Value.ref q := rx
    obtain ⟨ms, h2, h3⟩ := hr.dic h0 h1
    split at hf
    · rename_i y
      obtain ⟨k, e1, e2⟩ := Option.bind_eq_some_iff.mp hf
      obtain ⟨z, e3, e4⟩ := Option.map_eq_some_iff.mp e2
      cases e4
      cases ras with
      | cons r0 rr =>
        cases rr
        obtain ⟨u, rfl, ru⟩ := vals1 rxs
        have e := keyOf_V e1 r0
        subst e
        rcases DP.get h3 k with ⟨g1, g2⟩ | ⟨x, v, g1, g2, g3⟩
        · rw [g1] at e3
          cases e3
        · rw [g1] at e3
          cases e3
          refine d_pop I h2 ru g2 (.inl rfl) fun w' s' I' rw' => ⟨_, _, I', rw', ?_⟩
          exact hq.put hr h1 h0 (show RO W ι H (.dic (delK kvs k)) (.dK (dropK ms k)) from DP.del h3 k) g3
    · rename_i y d
      obtain ⟨k, e1, e2⟩ := Option.map_eq_some_iff.mp hf
      cases ras with
      | cons r0 rr =>
        cases rr with
        | cons r2 r3 =>
          cases r3
          obtain ⟨u, u2, rfl, ru, ru2⟩ := vals2 rxs
          have e := keyOf_V e1 r0
          subst e
          rcases DP.get h3 k with ⟨g1, g2⟩ | ⟨x, v, g1, g2, g3⟩
          · rw [g1] at e2
            cases e2
            exact d_popD I h2 ru g2 fun s' I' => ⟨_, H, I', ru2, hq.here hr r2⟩
          · rw [g1] at e2
            cases e2
            refine d_pop I h2 ru g2 (.inr ⟨_, rfl⟩) fun w' s' I' rw' => ⟨_, _, I', rw', ?_⟩
            exact hq.put hr h1 h0 (show RO W ι H (.dic (delK kvs k)) (.dK (dropK ms k)) from DP.del h3 k) g3
    · cases hf
/-! ### displays -/
def fDNew : FE := fun _ st => some (.ok (.ref st.length) (st ++ [.dic []]))
theorem se_dnew : SE W X Ew (.Dict [] [] pos) fDNew := imE pe_dnewK fun σ H Q ⟨ι, sl, st, r, hs, hr, hm, hq⟩ => by
  cases hm
  exact Post.new (o := .dic []) (ho := .dK []) hq hr .nil
def fPairs : List (FE × FE) → FX (List (Val × Val))
  | [] => fun _ st => some (.ok [] st)
  | (m, n) :: r => bnd m fun x => bnd n fun y => bnd (fPairs r) fun ps => fun _ st => some (.ok ((x, y) :: ps) st)
def RPs (K : PySem.W.Frag) (ι : List Addr) (H : Hp) : List (Val × Val) → List (V × V) → Prop := Paired fun p q => RV K ι H p.1 q.1 ∧ RV K ι H p.2 q.2
theorem RPs.mono {ι2 : List Addr} {H2 : Hp} (e : Ext ι H ι2 H2) {ps : List (Val × Val)} {qs : List (V × V)} (h : RPs W.K ι H ps qs) : RPs W.K ι2 H2 ps qs := Paired.impl (fun _ _ z => ⟨z.1.mono e, z.2.mono e⟩) h
theorem pairs_imp : ∀ {ms : List (FE × FE)} {σ : L2.St} {H : Hp} {Q : List (V × V) → Hp → Prop}, tOf W Ew (fun ι H => RPs W.K ι H) (fPairs ms) σ H Q → tPairs (ms.map fun p => (teOf W Ew p.1, teOf W Ew p.2)) σ H Q
  | [], σ, H, Q, ⟨ι, sl, st, r, hs, hr, hm, hq⟩ => by
    cases hm
    exact hq ι H _ (Ext.refl _ _) hr .nil
  | (m, n) :: ms, σ, H, Q, ⟨ι, sl, st, r, hs, hr, hm, hq⟩ => run hs hr hm hq fun x st1 ι1 H1 vx e1 s1 r1 rx hm1 hq1 => run s1 r1 hm1 hq1 fun y st2 ι2 H2 vy e2 s2 r2 ry hm2 hq2 =>
    pairs_imp (run s2 r2 hm2 hq2 fun ps st3 ι3 H3 vs e3 s3 r3 rps hm3 hq3 => by
      cases hm3
      exact hq3 ι3 H3 _ (Ext.refl _ _) r3 (.cons ⟨(rx.mono e2).mono e3, ry.mono e3⟩ rps))
abbrev SPs (W : Wd) (X : Cx) (Ew : WX) (pos : Pos) (keys : List (Option Expr)) (values : List Expr) (ms : List (FE × FE)) : Prop := PPs X pos keys values (ms.map fun p => (teOf W Ew p.1, teOf W Ew p.2))
theorem sps_nil : SPs W X Ew pos [] [] [] := pps_nil
theorem sps_cons {ks : List (Option Expr)} {vs : List Expr} {ms : List (FE × FE)} (ha : SE W X Ew a ma) (hb : SE W X Ew b mb) (h : SPs W X Ew pos ks vs ms) : SPs W X Ew pos (some a :: ks) (b :: vs) ((ma, mb) :: ms) := pps_cons ha hb h
def keyed (p : Val × Val) : Option (Key × Val) := (keyOf p.1).map fun k => (k, p.2)
def mergeD (kvs more : List (Key × Val)) : List (Key × Val) := more.foldl (fun acc kv => setK acc kv.1 kv.2) kvs
theorem DP.merge : ∀ {more : List (Key × Val)} {ns : List (Key × V)} {kvs : List (Key × Val)} {ms : List (Key × V)}, DP W.K ι H more ns → DP W.K ι H kvs ms → DP W.K ι H (mergeD kvs more) (mergeK ms ns)
  | _, _, _, _, .nil, h => h
  | _, _, kvs, ms, .cons (a := p) (b := q) z t, h => by
    have h2 := DP.put h p.1 z.2
    have h3 := DP.merge t h2
    show DP W.K ι H (mergeD (setK kvs p.1 p.2) _) (mergeK (putK ms q.1 q.2) _)
    rw [← z.1]
    exact h3
theorem keyed_all : ∀ {ps : List (Val × Val)} {qs : List (V × V)} {kvs : List (Key × Val)}, mapO keyed ps = some kvs → RPs W.K ι H ps qs → ∃ ms : List (Key × V), qs = ms.map (fun kv => (kV kv.1, kv.2)) ∧ DP W.K ι H kvs ms
  | [], [], _, h, .nil => by
    cases h
    exact ⟨[], rfl, .nil⟩
  | p :: ps, q :: qs, _, h, .cons z t => by
    unfold mapO at h
    split at h
    · rename_i y ys h1 h2
      cases h
      obtain ⟨k, h3, h4⟩ := Option.map_eq_some_iff.mp h1
      subst h4
      obtain ⟨ms, e, d⟩ := keyed_all h2 t
      have e2 := keyOf_V h3 z.1
      exact ⟨(k, q.2) :: ms, by rw [e, List.map_cons, ← e2], .cons ⟨rfl, z.2⟩ d⟩
    · cases h
def fDict (ms : List (FE × FE)) : FE := bnd (fPairs ms) fun ps => fun _ st => match mapO keyed ps with
  | some kvs => if kvs.length ≤ 15 then some (.ok (.ref st.length) (st ++ [.dic (mergeD [] kvs)])) else none
  | none => none
theorem se_dict {keys : List (Option Expr)} {values : List Expr} {ms : List (FE × FE)} (h : SPs W X Ew pos keys values ms) (hall : keys.all (·.isSome) = true := by rfl) (hl : keys.length = values.length := by rfl) (h0 : keys ≠ [] := by exact List.cons_ne_nil _ _) (h15 : keys.length ≤ 15 := by decide) :
    SE W X Ew (.Dict keys values pos) (fDict ms) := imE (pe_disp h hall hl h0 h15) fun σ H Q ⟨ι, sl, st, r, hs, hr, hm, hq⟩ => by
  intro p hp
  have e0 : Ext ι H ι (upd H p (.dK [])) := (Ext.refl _ _).putO hp
  refine pairs_imp ⟨ι, sl, st, ?_⟩
  unfold fDict bnd at hm
  cases h1 : fPairs ms sl st with
  | none => rw [h1] at hm; cases hm
  | some r1 =>
    rw [h1] at hm
    refine ⟨r1, hs.mono e0, hr.newO hp, rfl, ?_⟩
    cases r1 with
    | ex c st1 =>
      cases hm
      intro ι' H' e r
      exact hq ι' H' (e0.trans e) r
    | ok ps st1 =>
      intro ι2 H2 qs e2 r2 rps
      have hm2 : (match mapO keyed ps with
        | some kvs => if kvs.length ≤ 15 then some (R.ok (Val.ref st1.length) (st1 ++ [.dic (mergeD [] kvs)])) else none
        | none => none) = some r := hm
      split at hm2
      case h_2 => cases hm2
      rename_i kvs h3
      split at hm2
      case isFalse => cases hm2
      rename_i h4
      cases hm2
      obtain ⟨hD, nD⟩ := e2.oth p _ upd_same (hr.free hp)
      obtain ⟨ms, e, d⟩ := keyed_all h3 rps
      refine ⟨hD, ms, e, by rw [← d.len]; exact h4, ?_⟩
      have x0 : Ext0 ι2 H2 ι2 (upd H2 p (.dK (mergeK [] ms))) := Ext0.putX hD (fun _ z => nomatch z) fun _ _ z => nomatch z
      have r3 : Rel W ι2 (upd H2 p (.dK (mergeK [] ms))) st1 := r2.putX hD (fun _ z => nomatch z) (fun _ _ z => nomatch z) nD
      have d2 : DP W.K ι2 (upd H2 p (.dK (mergeK [] ms))) (mergeD [] kvs) (mergeK [] ms) := Paired.impl (fun _ _ z => ⟨z.1, z.2.mono0 x0⟩) (DP.merge d .nil)
      have e3 : Ext ι H ι2 (upd H2 p (.dK (mergeK [] ms))) := (e0.trans e2).putO hp
      exact hq _ _ _ (e3.join hp) (r3.join upd_same nD (show RO W ι2 _ (.dic (mergeD [] kvs)) (.dK (mergeK [] ms)) from d2)) (.ref (by rw [← r2.len]; simp))
/-! ### sorted(d.items()) -/
def keysS : List (Key × Val) → Option (List (Str × Val)) := mapO fun p => match p.1 with
  | .inr x => some (x, p.2)
  | _ => none
def srtS (l : List (Str × Val)) : List (Str × Val) := l.mergeSort fun e f => !FLS.ltS f.1 e.1
theorem srtS_perm (l : List (Str × Val)) : (srtS l).Perm l := List.mergeSort_perm _ _
theorem srtS_sorted (l : List (Str × Val)) : (srtS l).Pairwise fun e f => FLS.ltS f.1 e.1 = false := by
  have h := List.pairwise_mergeSort (le := fun e f : Str × Val => !FLS.ltS f.1 e.1) (fun a b c h1 h2 => by
    have h1 : FLS.ltS b.1 a.1 = false := by simpa using h1
    have h2 : FLS.ltS c.1 b.1 = false := by simpa using h2
    have a1 := of_decide_eq_false h1
    have a2 := of_decide_eq_false h2
    have : FLS.ltS c.1 a.1 = false := by
      refine decide_eq_false ?_
      rw [List.not_lt] at *
      exact List.le_trans a1 a2
    simpa using this) (fun a b => by
    cases h : FLS.ltS b.1 a.1 with
    | false => simp
    | true =>
      have : FLS.ltS a.1 b.1 = false := decide_eq_false (List.lt_asymm (of_decide_eq_true h))
      simp [this]) l
  exact h.imp fun z => by simpa using z
theorem srtS_uniq {l m : List (Str × Val)} (hn : (l.map (·.1)).Nodup) (h1 : m.Perm l) (h2 : m.Pairwise fun e f => FLS.ltS f.1 e.1 = false) : m = srtS l :=
  List.Perm.eq_of_pairwise (le := fun e f : Str × Val => FLS.ltS f.1 e.1 = false) (fun a b ha hb x y => by
    have x := of_decide_eq_false x
    have y := of_decide_eq_false y
    rw [List.not_lt] at x y
    have e := FLS.str_ext (List.le_antisymm x y)
    obtain ⟨i, hi⟩ := List.mem_iff_getElem?.mp (h1.mem_iff.mp ha)
    obtain ⟨j, hj⟩ := List.mem_iff_getElem?.mp ((srtS_perm l).mem_iff.mp hb)
    have hi2 : (l.map (·.1))[i]? = some a.1 := by rw [List.getElem?_map, hi]; rfl
    have hj2 : (l.map (·.1))[j]? = some b.1 := by rw [List.getElem?_map, hj]; rfl
    have := (List.getElem?_inj (List.getElem?_eq_some_iff.mp hi2).1 hn).mp (hi2.trans ((congrArg some e).trans hj2.symm))
    rw [← this, hi] at hj
    exact Option.some.inj hj) h2 (srtS_sorted l) (h1.trans (srtS_perm l).symm)
abbrev SPr (K : PySem.W.Frag) (ι : List Addr) (H : Hp) : List (Str × Val) → List (Str × V) → Prop := Paired fun p q => p.1 = q.1 ∧ RV K ι H p.2 q.2
theorem SPr.keys {ps : List (Str × Val)} {qs : List (Str × V)} (h : SPr W.K ι H ps qs) : ps.map (·.1) = qs.map (·.1) := by
  induction h with
  | nil => rfl
  | cons z _ ih => rw [List.map_cons, List.map_cons, ih, z.1]
theorem SPr.perm {qs rs : List (Str × V)} (h : rs.Perm qs) : ∀ {ps : List (Str × Val)}, SPr W.K ι H ps qs → ∃ ys : List (Str × Val), ys.Perm ps ∧ SPr W.K ι H ys rs := by
  induction h with
  | nil => intro ps r; exact ⟨ps, .refl _, r⟩
  | cons x _ ih =>
    intro ps r
    cases r with
    | cons a b =>
      obtain ⟨ys, h1, h2⟩ := ih b
      exact ⟨_ :: ys, h1.cons _, .cons a h2⟩
  | swap x y l =>
    intro ps r
    cases r with
    | cons a b =>
      cases b with
      | cons c d => exact ⟨_, .swap _ _ _, .cons c (.cons a d)⟩
  | trans _ _ ih1 ih2 =>
    intro ps r
    obtain ⟨ys, h1, h2⟩ := ih2 r
    obtain ⟨zs, h3, h4⟩ := ih1 h2
    exact ⟨zs, h3.trans h1, h4⟩
theorem keysS_V : ∀ {kvs : List (Key × Val)} {ks : List (Str × Val)} {ms : List (Key × V)}, keysS kvs = some ks → DP W.K ι H kvs ms → ∃ qs : List (Str × V), ms = qs.map (fun e => (Sum.inr e.1, e.2)) ∧ SPr W.K ι H ks qs
  | [], _, [], h, .nil => by
    cases h
    exact ⟨[], rfl, .nil⟩
  | p :: ps, _, q :: qs, h, .cons z t => by
    unfold keysS mapO at h
    split at h
    · rename_i y ys h1 h2
      cases h
      obtain ⟨qs, e, d⟩ := keysS_V (kvs := _) h2 t
      obtain ⟨k, v⟩ := p
      obtain ⟨k', v'⟩ := q
      cases k with
      | inl i => cases h1
      | inr x =>
        cases h1
        have z1 : Sum.inr x = k' := z.1
        subst z1
        exact ⟨(x, v') :: qs, by rw [e]; rfl, .cons ⟨rfl, z.2⟩ d⟩
    · cases h
def fSortIt (m : FE) : FE := bnd m fun x => lft fun st => match x with
  | .ref p => (match st[p]? with
    | some (.dic kvs) => (keysS kvs).map fun ks => (.ref st.length, st ++ [.lst ((srtS ks).map fun e => .tup [.str e.1.cps.toList, e.2])])
    | _ => none)
  | _ => none
theorem se_sortItems {p apos cpos : Pos} (C : Ctx W k X Ew) (hm : W.mg "sorted" = none) (he : SE W X Ew e me) (hg : Gl X "sorted" := by rfl) (hbase : attributeBase e "items" X.env (eval e X.env) = eval e X.env := by rfl) (hline : (apos.endLine == cpos.line) = true := by rfl)
    (hs : starEach [.Call (.Attribute e "items" apos) [] [] cpos] X.env = (false, eval (.Call (.Attribute e "items" apos) [] [] cpos) X.env) :: starEach [] X.env := by rfl) :
    SE W X Ew (.Call (.Name "sorted" p) [.Call (.Attribute e "items" apos) [] [] cpos] [] pos) (fSortIt me) :=
  imE (FLS.pe_sortItems C.calm he hg (by rw [C.em]; exact hm) (by decide +kernel) hbase hline hs) fun σ H Q ⟨ι, sl, st, r, hs, hr, hm, hq⟩ => run hs hr hm hq fun x st1 ι1 H1 vx e1 s1 r1 rx hm1 hq1 => by
    obtain ⟨v, st', h1, rfl⟩ := lft_some hm1
    cases rx with
    | @ref j q h0 =>
      have h2 : (match st1[j]? with
        | some (.dic kvs) => (keysS kvs).map fun ks => (Val.ref st1.length, st1 ++ [Ob.lst ((srtS ks).map fun e => .tup [.str e.1.cps.toList, e.2])])
        | _ => none) = some (v, st') := h1
      split at h2
      case h_2 => cases h2
      rename_i kvs h3
      obtain ⟨ks, h4, h5⟩ := Option.map_eq_some_iff.mp h2
      cases h5
      obtain ⟨ms, h6, h7⟩ := r1.dic h3 h0
      obtain ⟨qs, rfl, h8⟩ := keysS_V h4 h7
      refine ⟨q, qs, rfl, h6, fun H2 l zs nd g hl hp hso hL hz => ?_⟩
      obtain ⟨e2, r2⟩ := r1.grow g
      obtain ⟨ys, p1, p2⟩ := SPr.perm hp h8
      have hys : ys = srtS ks := by
        refine srtS_uniq (by rw [h8.keys]; exact nd) p1 ?_
        have hk : ∀ {ys : List (Str × Val)} {rs : List (Str × V)}, SPr W.K ι1 H1 ys rs → rs.Pairwise (fun e f => FLS.ltS f.1 e.1 = false) → ys.Pairwise fun e f => FLS.ltS f.1 e.1 = false := by
          intro ys rs h
          induction h with
          | nil => intro _; exact .nil
          | @cons a b as bs z t ih =>
            intro hp
            obtain ⟨q1, q2⟩ := List.pairwise_cons.mp hp
            refine List.pairwise_cons.mpr ⟨fun f hf => ?_, ih q2⟩
            have : f.1 ∈ as.map (·.1) := List.mem_map.mpr ⟨f, hf, rfl⟩
            rw [SPr.keys t] at this
            obtain ⟨f', hf', ef⟩ := List.mem_map.mp this
            have := q1 f' hf'
            rw [← ef, z.1]
            exact this
        exact hk p2 hso
      subst hys
      have rl : RVs W.K ι1 H2 ((srtS ks).map fun e => Val.tup [.str e.1.cps.toList, e.2]) (zs.map fun z => V.ref z.1) := by
        have : ∀ {ys : List (Str × Val)} {zs : List (Addr × Str × V)}, SPr W.K ι1 H1 ys (zs.map (·.2)) → (∀ z ∈ zs, H2 z.1 = some (.tup [.str z.2.1, z.2.2])) → RVs W.K ι1 H2 (ys.map fun e => Val.tup [.str e.1.cps.toList, e.2]) (zs.map fun z => V.ref z.1) := by
          intro ys
          induction ys with
          | nil =>
            intro zs h _
            cases zs with
            | nil => exact .nil
            | cons z zs => cases h
          | cons y ys ih =>
            intro zs h hz
            cases zs with
            | nil => cases h
            | cons z zs =>
              cases h with
              | cons q1 q2 =>
                refine .cons ?_ (ih q2 fun u hu => hz u (List.mem_cons_of_mem _ hu))
                refine .tup (SqT.of (hz z List.mem_cons_self)) (.cons ?_ (.cons (q1.2.mono e2) .nil))
                have e9 : y.1 = z.2.1 := q1.1
                rw [← e9]
                have := RV.str (K := W.K) (ι := ι1) (H := H2) y.1.cps.toList
                rw [st_back] at this
                exact this
        exact this p2 hz
      have nl := r1.free hl
      have e3 : Ext ι1 H1 (ι1 ++ [l]) H2 := e2.join hl
      exact hq1 _ _ _ e3 (r2.join hL nl (show RO W ι1 H2 (.lst _) (.lst _) from rl)) (.ref (by rw [← r1.len]; simp))
    | _ => cases h1
end
end FL
/-! FL16: dict comprehensions, calls with keywords, more of lists, reversed. -/
namespace FL
open PySem PySem.Spec PyProof.Rows L2
section
variable {W : Wd} {k : Nat} {X : Cx} {Ew : WX} {ι ι' : List Addr} {H H' : Hp} {st : Sto} {a b e : Expr} {es : List Expr} {ma mb me mk mv : FE} {mt mu mt1 : FT} {mas : FA} {pos : Pos} {s : Stmt} {ss : List Stmt} {m n : FS} {tg : Expr}
/-! ### dict comprehensions -/
open Classical in
noncomputable def dcL (l : Lv) (all : List Val) (g : FG) (t : FT) (mk mv : FE) (sl : Sl) : List Val → List (Key × Val) → Sto → Option (List (Key × Val) × Sto)
  | [], kvs, st => if Live l all st then some (kvs, st) else none
  | x :: xs, kvs, st => if Live l all st then (match g x sl st with
      | none => none
      | some (sl1, st1) => match t sl1 st1 with
        | some (.ok true st2) => (match mk sl1 st2 with
          | some (.ok y st3) => (match mv sl1 st3 with
            | some (.ok z st4) => (match keyOf y with
              | some k => if kvs.length < LINE then dcL l all g t mk mv sl xs (setK kvs k z) st4 else none
              | none => none)
            | _ => none)
          | _ => none)
        | some (.ok false st2) => dcL l all g t mk mv sl xs kvs st2
        | _ => none) else none
noncomputable def fDc (mi : FI) (g : FG) (t : FT) (mk mv : FE) (vs : List Nat) : FE := bnd mi fun b => fun sl st => match dcL b.live b.items g t mk mv (wipeL sl vs) b.items [] st with
  | some (kvs, st') => some (.ok (.ref st'.length) (st' ++ [.dic kvs]))
  | none => none
theorem DP.mono0 {ι2 : List Addr} {H2 : Hp} (e : Ext0 ι H ι2 H2) {kvs : List (Key × Val)} {ms : List (Key × V)} (h : DP W.K ι H kvs ms) : DP W.K ι2 H2 kvs ms := Paired.impl (fun _ _ z => ⟨z.1, z.2.mono0 e⟩) h
open Classical in
theorem dc_imp {mi : FI} {g : FG} {vs : List Nat} {σ : L2.St} {H : Hp} {Q : VK} (h : teOf W Ew (fDc mi g mt mk mv vs) σ H Q) : tDc (tiOf W Ew mi) (tgW W vs g) (ttOf W E00 mt) (teOf W E00 mk) (teOf W E00 mv) vs σ H Q := by
  obtain ⟨ι, sl, st, r, hs, hr, hm, hq⟩ := h
  refine run hs hr hm hq fun b st1 ι1 H1 J e1 s1 r1 ok hm1 hq1 => ?_
  intro D hD
  have nD := r1.free hD
  have hm2 : (match dcL b.live b.items g mt mk mv (wipeL sl vs) b.items [] st1 with | some (kvs, st') => some (R.ok (.ref st'.length) (st' ++ [.dic kvs])) | none => none) = some r := hm1
  cases hl : dcL b.live b.items g mt mk mv (wipeL sl vs) b.items [] st1 with
  | none => rw [hl] at hm2; cases hm2
  | some p =>
    obtain ⟨ys0, st0⟩ := p
    rw [hl] at hm2
    cases hm2
    have sw := s1.wipe vs
    refine ⟨fun i mm H => ∃ ι2 st2 acc vacc, Ext ι1 H1 ι2 H ∧ H D = some (.dK vacc) ∧ (∀ i : Nat, ι2[i]? ≠ some D) ∧ DP W.K ι2 H acc vacc ∧ Rel W ι2 H st2 ∧ i ≤ b.items.length ∧ mm = b.items.length - i ∧
      dcL b.live b.items g mt mk mv (wipeL sl vs) (b.items.drop i) acc st2 = some (ys0, st0), ⟨_, ι1, st1, [], [], (Ext.refl _ _).putO hD, upd_same, nD, .nil, r1.newO hD, Nat.zero_le _, rfl, hl⟩, ?_⟩
    rintro i mm H2 ⟨ι2, st2, acc, vacc, e2, hD2, nD2, ra, r2, hi, rfl, hf⟩
    cases hd : b.items.drop i with
    | nil =>
      rw [hd] at hf
      have hf2 : (if Live b.live b.items st2 then some (acc, st2) else none) = some (ys0, st0) := hf
      by_cases hlv : Live b.live b.items st2
      case neg => rw [if_neg hlv] at hf2; cases hf2
      rw [if_pos hlv] at hf2
      obtain ⟨rfl, rfl⟩ := Prod.mk.inj (Option.some.inj hf2)
      have hi2 : b.items.length ≤ i := by
        have := congrArg List.length hd
        rw [List.length_drop, List.length_nil] at this
        omega
      refine .inl ⟨(ok ι2 H2 st2 i e2.toExt0 r2 hlv).2 hi2, ?_⟩
      exact hq1 _ _ _ (e2.join hD) (r2.join hD2 nD2 (show RO W ι2 H2 (.dic acc) (.dK vacc) from ra)) (.ref (by rw [← r2.len]; simp))
    | cons x xs =>
      rw [hd] at hf
      have hf2 : (if Live b.live b.items st2 then (match g x (wipeL sl vs) st2 with
        | none => none
        | some (sl1, st1) => match mt sl1 st1 with
          | some (.ok true st2) => (match mk sl1 st2 with
            | some (.ok y st3) => (match mv sl1 st3 with
              | some (.ok z st4) => (match keyOf y with
                | some k => if acc.length < LINE then dcL b.live b.items g mt mk mv (wipeL sl vs) xs (setK acc k z) st4 else none
                | none => none)
              | _ => none)
            | _ => none)
          | some (.ok false st2) => dcL b.live b.items g mt mk mv (wipeL sl vs) xs acc st2
          | _ => none) else none) = some (ys0, st0) := hf
      by_cases hlv : Live b.live b.items st2
      case neg => rw [if_neg hlv] at hf2; cases hf2
      rw [if_pos hlv] at hf2
      have hx : b.items[i]? = some x := by
        have h0 := List.getElem?_drop (xs := b.items) (i := i) (j := 0)
        rw [hd] at h0
        simpa using h0.symm
      have hxs : b.items.drop (i + 1) = xs := by
        rw [← List.drop_drop, hd]
        rfl
      have hil : i < b.items.length := (List.getElem?_eq_some_iff.mp hx).1
      obtain ⟨hgo, hy⟩ := (ok ι2 H2 st2 i e2.toExt0 r2 hlv).1 x hx
      refine .inr ⟨hgo, fun H' => ∃ ι3 st3 acc3 vacc3, Ext ι1 H1 ι3 H' ∧ H' D = some (.dK vacc3) ∧ (∀ i : Nat, ι3[i]? ≠ some D) ∧ DP W.K ι3 H' acc3 vacc3 ∧ Rel W ι3 H' st3 ∧
        dcL b.live b.items g mt mk mv (wipeL sl vs) xs acc3 st3 = some (ys0, st0), ?_, fun y H3 hyl => ?_⟩
      · rintro H' ⟨ι3, st3, acc3, vacc3, h1, h2, h3, h4, h5, h7⟩
        exact ⟨b.items.length - (i + 1), by omega, ι3, st3, acc3, vacc3, h1, h2, h3, h4, h5, hil, rfl, by rw [hxs]; exact h7⟩
      obtain ⟨e3, r3, ry⟩ := hy y H3 hyl
      cases h5 : g x (wipeL sl vs) st2 with
      | none => rw [h5] at hf2; cases hf2
      | some p =>
        obtain ⟨sl4, st4⟩ := p
        rw [h5] at hf2
        refine ⟨ι2, wipeL sl vs, st2, x, sl4, st4, sw.mono (e2.trans e3), r3, ry, h5, fun ι4 H4 σ4 e4 r4 s4 w4 => ⟨by rw [w4, wipe_wipe], ?_⟩⟩
        have hf3 : (match mt sl4 st4 with
          | some (.ok true st2) => (match mk sl4 st2 with
            | some (.ok y st3) => (match mv sl4 st3 with
              | some (.ok z st4) => (match keyOf y with
                | some k => if acc.length < LINE then dcL b.live b.items g mt mk mv (wipeL sl vs) xs (setK acc k z) st4 else none
                | none => none)
              | _ => none)
            | _ => none)
          | some (.ok false st2) => dcL b.live b.items g mt mk mv (wipeL sl vs) xs acc st2
          | _ => none) = some (ys0, st0) := hf2
        have e24 : Ext ι2 H2 ι4 H4 := e3.trans e4
        obtain ⟨hD4, nD4⟩ := e24.oth D _ hD2 nD2
        cases h6 : mt sl4 st4 with
        | none => rw [h6] at hf3; cases hf3
        | some r6 =>
          rw [h6] at hf3
          cases r6 with
          | ex c st5 => cases hf3
          | ok bb st5 =>
            refine ⟨ι4, sl4, st4, _, s4, r4, h6, fun ι5 H5 bb' e5 r5 hb => ?_⟩
            subst hb
            obtain ⟨hD5, nD5⟩ := e5.oth D _ hD4 nD4
            have ra5 := DP.mono0 (e24.trans e5).toExt0 ra
            cases bb with
            | false => exact ⟨ι5, st5, acc, vacc, (e2.trans e24).trans e5, hD5, nD5, ra5, r5, hf3⟩
            | true =>
              have hf4 : (match mk sl4 st5 with
                | some (.ok y st3) => (match mv sl4 st3 with
                  | some (.ok z st4) => (match keyOf y with
                    | some k => if acc.length < LINE then dcL b.live b.items g mt mk mv (wipeL sl vs) xs (setK acc k z) st4 else none
                    | none => none)
                  | _ => none)
                | _ => none) = some (ys0, st0) := hf3
              cases h7 : mk sl4 st5 with
              | none => rw [h7] at hf4; cases hf4
              | some r7 =>
                rw [h7] at hf4
                cases r7 with
                | ex c st6 => cases hf4
                | ok y6 st6 =>
                  have hf5 : (match mv sl4 st6 with
                    | some (.ok z st4) => (match keyOf y6 with
                      | some k => if acc.length < LINE then dcL b.live b.items g mt mk mv (wipeL sl vs) xs (setK acc k z) st4 else none
                      | none => none)
                    | _ => none) = some (ys0, st0) := hf4
                  refine ⟨ι5, sl4, st5, _, s4.mono e5, r5, h7, fun ι6 H6 vy e6 r6 rvy => ?_⟩
                  obtain ⟨hD6, nD6⟩ := e6.oth D _ hD5 nD5
                  cases h8 : mv sl4 st6 with
                  | none => rw [h8] at hf5; cases hf5
                  | some r8 =>
                    rw [h8] at hf5
                    cases r8 with
                    | ex c st7 => cases hf5
                    | ok z7 st7 =>
                      have hf6 : (match keyOf y6 with
                        | some k => if acc.length < LINE then dcL b.live b.items g mt mk mv (wipeL sl vs) xs (setK acc k z7) st7 else none
                        | none => none) = some (ys0, st0) := hf5
                      cases hk : keyOf y6 with
                      | none => rw [hk] at hf6; cases hf6
                      | some key =>
                        rw [hk] at hf6
                        have hf7 : (if acc.length < LINE then dcL b.live b.items g mt mk mv (wipeL sl vs) xs (setK acc key z7) st7 else none) = some (ys0, st0) := hf6
                        by_cases hz : acc.length < LINE
                        case neg => rw [if_neg hz] at hf7; cases hf7
                        rw [if_pos hz] at hf7
                        refine ⟨ι6, sl4, st6, _, (s4.mono e5).mono e6, r6, h8, fun ι7 H7 vz e7 r7 rvz => ?_⟩
                        obtain ⟨hD7, nD7⟩ := e7.oth D _ hD6 nD6
                        have x0 : Ext0 ι7 H7 ι7 (upd H7 D (.dK (putK vacc key vz))) := Ext0.putX hD7 (fun _ z => nomatch z) fun _ _ z => nomatch z
                        refine ⟨vacc, key, keyOf_V hk rvy, hD7, ?_, ι7, st7, setK acc key z7, putK vacc key vz, ((((e2.trans e24).trans e5).trans e6).trans e7).putO hD, upd_same, nD7, DP.mono0 x0 (DP.put (DP.mono0 (e6.toExt0.trans e7.toExt0) ra5) key rvz), r7.putX hD7 (fun _ z => nomatch z) (fun _ _ z => nomatch z) nD7, hf7⟩
                        have := DP.len ra
                        rw [← this, ← line_eq]
                        exact hz
theorem se_dc {tg iter kx vx : Expr} {ifs : List Expr} {scope : Scope} {own : List (Str × Nat)} {mi : FI} {g : FG} (C : Ctx W k X Ew) (hi : SI W X Ew tg iter mi) (ok : BlkOk X.N X.env.scope scope own)
    (hg : ∀ (s : Shared) (H : Hp) (c : Addr) (cl : List (Str × Addr)) (fp : List Addr), SGw W (X.blk s H scope (compEnvC scope cl c X.env) fp) (own.map (·.2)) tg g)
    (ht : ∀ (s : Shared) (H : Hp) (c : Addr) (cl : List (Str × Addr)) (fp : List Addr), STs W (X.blk s H scope (compEnvC scope cl c X.env) fp) ifs mt)
    (hk : ∀ (s : Shared) (H : Hp) (c : Addr) (cl : List (Str × Addr)) (fp : List Addr), SE W (X.blk s H scope (compEnvC scope cl c X.env) fp) E00 kx mk)
    (he : ∀ (s : Shared) (H : Hp) (c : Addr) (cl : List (Str × Addr)) (fp : List Addr), SE W (X.blk s H scope (compEnvC scope cl c X.env) fp) E00 vx mv)
    (h1 : ∀ x, foldedSetIterable iter X.env x = pure x := by intro _; rfl) : SE W X Ew (.DictComp kx vx [⟨tg, iter, ifs, 0⟩] scope pos) (fDc mi g mt mk mv (own.map (·.2))) :=
  imE (pe_dc C.calm C.nd hi ok hg ht hk he h1) fun σ H Q h => dc_imp h
/-! ### calls with keywords -/
abbrev SK (W : Wd) (X : Cx) (Ew : WX) (kws : List Keyword) (m : FA) : Prop := PK X kws (taOf W Ew m)
theorem imK {kws : List Keyword} {t u : TA} (h : PK X kws t) (i : ∀ σ H Q, u σ H Q → t σ H Q) : PK X kws u := ⟨fun pos pins s σ H Q I hw => h.run pos pins s σ H Q I (i _ _ _ hw)⟩
theorem sk_nil : SK W X Ew [] fNil := imK pk_nil fun σ H Q ⟨ι, sl, st, r, hs, hr, hm, hq⟩ => by
  cases hm
  exact hq ι H _ (Ext.refl _ _) hr .nil
theorem sk_cons {kws : List Keyword} {nm : Option Str} {kpos : Pos} (ha : SE W X Ew a ma) (hb : SK W X Ew kws mas) : SK W X Ew (⟨nm, a, kpos⟩ :: kws) (fCons ma mas) :=
  imK (pk_cons ha hb) fun σ H Q ⟨ι, sl, st, r, hs, hr, hm, hq⟩ => run hs hr hm hq fun x st1 ι1 H1 vx e1 s1 r1 rx hm1 hq1 => run s1 r1 hm1 hq1 fun y st2 ι2 H2 vy e2 s2 r2 ry hm2 hq2 => by
    cases hm2
    exact hq2 ι2 H2 _ (Ext.refl _ _) r2 (.cons (rx.mono e2) ry)
/-- the def at the module's name x, called with n values and the keywords ks: gD puts them and the defaults in order -/
structure CalleeK (W : Wd) (x : Str) (k : Nat) (F : FF) (n : Nat) (ks : List Str) (gD : List Val → List Val → List Val) : Prop where
  ex : ∃ (f : Addr) (fd : FuncData) (ps : List Str) (g : List Value → List Value → List Value) (gV : List V → List V → List V), W.mg x = some (.ref f) ∧ PySem.W.keepIn W.K (.ref f) = true ∧ KBn W.K fd ps n ks g gV ∧ FnOk W.P W.w W.K W.mg W.base (L2.CX W.P W.w) k f fd ps (spOf W F) ∧
    ∀ (ι : List Addr) (H : Hp) as bs vs zs, RVs W.K ι H as vs → RVs W.K ι H bs zs → as.length = n → bs.length = ks.length → RVs W.K ι H (gD as bs) (gV vs zs)
def tCallNS (n m : Nat) (sp : Sp) (gV : List V → List V → List V) (E : L2.St → XK) (t tk : TA) : TE := fun σ H Q => t σ H fun vs H1 => tk σ H1 fun zs H2 => vs.length = n ∧ zs.length = m ∧ sp (gV vs zs) H2 Q (E σ)
theorem pe_callNS {CX : CXT} {n : Nat} {f : Addr} {fd : FuncData} {ps ks : List Str} {sp : Sp} {E : L2.St → XK} {x : Str} {p : Pos} {kws : List Keyword} {t tk : TA} {g : List Value → List Value → List Value} {gV : List V → List V → List V} (F : FnOk X.prog X.w X.K X.mg X.base CX k f fd ps sp) (hr : Room k X.A) (hg : Gl X x) (hm : X.mg x = some (.ref f)) (hk : PySem.W.keepIn X.K (.ref f) = true) (hb : KBn X.K fd ps n ks g gV) (hx : ∀ σ, PassesAt CX X σ (E σ))
    (ha : PA X (e :: es) t) (hkw : PK X kws tk) (hall : (backToKw pos (keywordEach kws X.env)).all (·.1.isSome) = true := by rfl) (hks : (backToKw pos (keywordEach kws X.env)).filterMap (·.1) = ks := by rfl)
    (hdb : (x == ("__debug__" : Str)) = false := by decide) (he : starEach (e :: es) X.env = (false, eval e X.env) :: starEach es X.env := by rfl)
    (hpl : ((backTo pos (starEach (e :: es) X.env)).any (·.1) || (backToKw pos (keywordEach kws X.env)).any (·.1.isNone)) = false := by rfl) :
    PE X (.Call (.Name x p) (e :: es) kws pos) (tCallNS n ks.length sp gV E t tk) := by
  refine ⟨fun pins s σ H Q I h => ?_⟩
  refine wpAny_Call_Name_kw (ld_glob I hg hm ?_ hdb)
  refine PySem.W.callWith_KW (h₀ := X.base) I.ok.mod.kin hk hall (thn (ha.run pos pins s σ H _ I h) fun us s1 ⟨vs, H1, I1, r, q⟩ => ?_) hpl he
  refine thn (hkw.run pos pins s1 σ H1 _ I1 q) fun ws s2 ⟨zs, H2, I2, rz, l1, l2, q2⟩ => ⟨I2.kIn, ?_⟩
  rw [hks]
  have r2 := hb.rel r rz
  refine wpAny_call (codeAny_mono (F.run X.A X.stack s2 H2 ⟨us, ks.zip ws⟩ (g us ws) (gV vs zs) Q (E σ) hr I2.env0 (hb.to s2 us ws I2.kIn (r.length.symm.trans l1) (rz.length.symm.trans l2)) r2 q2) fun r s' hq => ?_)
  cases r with
  | error e => exact hx σ pins H2 s2 e s' I2 hq
  | ok fl =>
    cases fl with
    | ret u => exact I2.after hq
    | next => exact False.elim hq
    | brk => exact False.elim hq
    | cont => exact False.elim hq
def fCallK (F : FF) (n j : Nat) (gD : List Val → List Val → List Val) (m mk : FA) : FE := bnd m fun xs => bnd mk fun zs => fun _ st => if xs.length = n ∧ zs.length = j then F (gD xs zs) st else none
theorem se_callK {x : Str} {p : Pos} {j n : Nat} {F : FF} {ks : List Str} {gD : List Val → List Val → List Val} {kws : List Keyword} {mks : FA} (C : Ctx W k X Ew) (G : CalleeK W x j F n ks gD) (hj : j ≤ k) (ha : SA W X Ew (e :: es) mas) (hkw : SK W X Ew kws mks) (hg : Gl X x := by rfl)
    (hall : (backToKw pos (keywordEach kws X.env)).all (·.1.isSome) = true := by rfl) (hks : (backToKw pos (keywordEach kws X.env)).filterMap (·.1) = ks := by rfl)
    (hdb : (x == ("__debug__" : Str)) = false := by decide) (he : starEach (e :: es) X.env = (false, eval e X.env) :: starEach es X.env := by rfl)
    (hpl : ((backTo pos (starEach (e :: es) X.env)).any (·.1) || (backToKw pos (keywordEach kws X.env)).any (·.1.isNone)) = false := by rfl) :
    SE W X Ew (.Call (.Name x p) (e :: es) kws pos) (fCallK F n ks.length gD mas mks) := by
  obtain ⟨f, fd, ps, g, gV, g1, g2, g3, g4, g6⟩ := G.ex
  have g5 : FnOk X.prog X.w X.K X.mg X.base (L2.CX X.prog X.w) j f fd ps (spOf W F) := by
    rw [C.eP, C.ew, C.eK, C.em, C.eb]
    exact g4
  refine imE (pe_callNS g5 (C.rm.mono hj) hg (by rw [C.em]; exact g1) (by rw [C.eK]; exact g2) (by rw [C.eK]; exact g3) (fun σ => passAt C.tk σ) ha hkw hall hks hdb he hpl) fun σ H Q ⟨ι, sl, st, r, hs, hr, hm, hq⟩ => run hs hr hm hq fun xs st1 ι1 H1 vs e1 s1 r1 rx hm1 hq1 => run s1 r1 hm1 hq1 fun zs st2 ι2 H2 ws e2 s2 r2 rz hm2 hq2 => ?_
  have hm3 : (if xs.length = n ∧ zs.length = ks.length then F (gD xs zs) st2 else none) = some r := hm2
  by_cases hl : xs.length = n ∧ zs.length = ks.length
  case neg => rw [if_neg hl] at hm3; cases hm3
  rw [if_pos hl] at hm3
  exact ⟨by rw [← rx.len]; exact hl.1, by rw [← rz.len]; exact hl.2, ι2, st2, _, r, g6 ι2 H2 xs zs vs ws (rx.mono e2) rz hl.1 hl.2, r2, hm3, hq2⟩
/-- by the pattern: given (true) or lacking -/
def mixK {α : Type} : List Bool → List α → List α → List α
  | true :: r, m, w :: ws => w :: mixK r m ws
  | false :: r, m :: ms, ws => m :: mixK r ms ws
  | _, _, _ => []
theorem mixK_vals : ∀ (pat : List Bool) {mz zs : List V} {mv ws : List Value}, Vals mz mv → Vals zs ws → Vals (mixK pat mz zs) (mixK pat mv ws)
  | [], _, _, _, _, _, _ => .nil
  | true :: r, _, [], _, [], _, .nil => .nil
  | true :: r, _, _ :: _, _, _ :: _, h, .cons a b => .cons a (mixK_vals r h b)
  | false :: r, [], _, [], _, .nil, _ => .nil
  | false :: r, _ :: _, _, _ :: _, _, .cons a b, h => .cons a (mixK_vals r b h)
theorem mixK_rvs {K : PySem.W.Frag} : ∀ (pat : List Bool) {ms bs : List Val} {mz zs : List V}, RVs K ι H ms mz → RVs K ι H bs zs → RVs K ι H (mixK pat ms bs) (mixK pat mz zs)
  | [], _, _, _, _, _, _ => .nil
  | true :: r, _, [], _, [], _, .nil => .nil
  | true :: r, _, _ :: _, _, _ :: _, h, .cons a b => .cons a (mixK_rvs r h b)
  | false :: r, [], _, [], _, .nil, _ => .nil
  | false :: r, _ :: _, _, _ :: _, _, .cons a b, h => .cons a (mixK_rvs r b h)
/-- a def with keyword-only parameters as it stands behind the top -/
structure HasK (W : Wd) (x : Str) (st : Stmt) (kws : List (Str × V)) : Prop where
  ex : ∃ (f : Addr) (fd : FuncData), W.mg x = some (.ref f) ∧ Fun W.K x x st f fd ∧ FunD W.K x x (defArgs st) (defBody st) (defScope st) [] kws f fd
theorem calleeK {x : Str} {st : Stmt} {N ps : List Str} {kws : List (Str × V)} (hh : HasK W x st kws) (S : FnScope N ps (defScope st)) (n : Nat) (ks : List Str) (ms : List (Str × V)) (msD : List Val) (pat : List Bool) (hd : ∀ ι H, RVs W.K ι H msD (ms.map (·.2))) (hk : kws ≠ []) (hms : ∀ q ∈ ms, q ∈ kws)
    (hb : ∀ (D : Addr) (doc pm : Value) (an : Option Addr) (cdv ct : Value) (us mv ws : List Value), us.length = n → mv.length = ms.length → ws.length = ks.length →
      KwChain D ((ms.map (·.1)).zip mv) (bindArgs (PySem.W.fnOf x x (defArgs st) (defBody st) (defScope st) .none (.ref D) doc pm an cdv ct) ⟨us, ks.zip ws⟩) (ps.zip (us ++ mixK pat mv ws)))
    (hbody : ∀ (f : Addr) (cdv : Value) (A : Around) (outer : List PySem.Env) (s : Shared) (H : Hp) (E : XK), Ctx W k (bX W N x st f cdv A outer s H E) (fun c d _ H => E c d H) → SSs W (bX W N x st f cdv A outer s H E) (fun c d _ H => E c d H) (defBody st) m) :
    CalleeK W x (k + 1) (runF ps.length N.length m) n ks (fun as bs => as ++ mixK pat msD bs) := by
  obtain ⟨f, fd, h1, h2, h3⟩ := hh.ex
  obtain ⟨mv, kb⟩ := FunD.kbinds0 h3 n ks ms (fun us mv ws => us ++ mixK pat mv ws) hk hms (fun a b c => a.append (mixK_vals pat b c)) hb
  exact ⟨f, fd, ps, _, _, h1, h2.kp, kb, fn_snd h2 S (hbody f), fun ι H as bs vs zs ra rb _ _ => ra.app (mixK_rvs pat (hd ι H) rb)⟩
/-! ### more of lists -/
def gExtend : Val → ON := fun x xs st => match x, xs with
  | .ref p, [.ref q] => (match st[p]?, st[q]? with
    | some (.lst ys), some (.lst zs) => if ys.length + zs.length ≤ LINE then some (.non, st.set p (.lst (ys ++ zs))) else none
    | _, _ => none)
  | _, _ => none
theorem mt_extendF : MtR X "list.extend" (rm W gExtend) := mtBy fun x xs H Q ⟨ι, st, a, as, v, st', rx, rxs, hr, hf, hq⟩ => by
  unfold gExtend at hf
  split at hf
  case h_2 => cases hf
  split at hf
  case h_2 => cases hf
  rename_i ys zs h1 h2
  split at hf
  case isFalse => cases hf
  rename_i hl
  cases hf
  cases rx with
  | @ref _ p h3 =>
    cases rxs with
    | cons r0 rr =>
      cases rr
      cases r0 with
      | @ref _ q h4 =>
        obtain ⟨vs, h5, h6⟩ := hr.lst h1 h3
        obtain ⟨ws, h7, h8⟩ := hr.lst h2 h4
        exact ⟨_, mt_extend, p, q, vs, ws, rfl, rfl, h5, h7, by rw [← h6.len, ← h8.len]; exact sz_of hl, hq.put hr h3 h1 (show RO W ι H (.lst (ys ++ zs)) (.lst (vs ++ ws)) from h6.app h8) .non⟩
def fLIndex : Val → ON := fun x xs st => match x, xs with
  | .ref p, [y] => (match toD 9 st y, toD 9 st (.ref p) with
    | some d, some (.list ds) => if SeqAt.shaped d = true ∧ SeqAt.shaped (.list ds) = true then (ds.findIdx? fun z => PyData.eqv z d).map fun j => (.int (j : Nat), st) else none
    | _, _ => none)
  | _, _ => none
theorem mt_lindexF (C : Ctx0 W k X Ew) : MtR X "list.index" (rm W fLIndex) := mtBy fun x xs H Q ⟨ι, st, a, as, v, st', rx, rxs, hr, hf, hq⟩ => by
  unfold fLIndex at hf
  split at hf
  case h_2 => cases hf
  rename_i n y
  split at hf
  case h_2 => cases hf
  rename_i d ds h1 h2
  split at hf
  case isFalse => cases hf
  rename_i h3
  obtain ⟨j, h4, h5⟩ := Option.map_eq_some_iff.mp hf
  cases h5
  cases rxs with
  | cons r0 rr =>
    cases rr
    have dx := toD_dp hr _ _ _ _ h2 rx
    cases rx with
    | @ref _ p h6 =>
      obtain ⟨q1, q2, q3⟩ := List.findIdx?_eq_some_iff_getElem.mp h4
      refine ⟨_, mt_indexD C.hu65, p, _, d, ds, j, ds[j], rfl, rfl, by rw [C.eK]; exact dx, by rw [C.eK]; exact toD_dp hr _ _ _ _ h1 r0, h3.2, h3.1, List.getElem?_eq_getElem q1, q2, fun m z' hm hz => ?_, hq.here hr (.int _)⟩
      have hml : m < ds.length := Nat.lt_trans hm q1
      rw [List.getElem?_eq_getElem hml] at hz
      cases hz
      have := q3 m hm
      simpa using this
/-- a list so often -/
def fMulL : O2
  | .ref p, .int j, st => match st[p]? with
    | some (.lst xs) => if -(2 ^ 62) ≤ j ∧ j < 2 ^ 62 ∧ xs.length * j.toNat ≤ LINE then some (.ref st.length, st ++ [.lst (reps j.toNat xs)]) else none
    | _ => none
  | a, b, st => fMul a b st
theorem op_mulLF (C : Ctx0 W k X Ew) : OpR X (binaryOp .Mult) (ro W fMulL) := opBy fun x y H Q ⟨ι, st, a, b, v, st', rx, ry, hr, hf, hq⟩ => by
  cases rx with
  | @ref n p h0 =>
    cases ry with
    | int j =>
      have hf2 : (match st[n]? with
        | some (.lst xs) => if -(2 ^ 62) ≤ j ∧ j < 2 ^ 62 ∧ xs.length * j.toNat ≤ LINE then some (Val.ref st.length, st ++ [Ob.lst (reps j.toNat xs)]) else none
        | _ => none) = some (v, st') := hf
      split at hf2
      case h_2 => cases hf2
      rename_i xs h5
      split at hf2
      case isFalse => cases hf2
      rename_i hl
      cases hf2
      obtain ⟨vs, h6, h7⟩ := hr.lst h5 h0
      exact ⟨_, op_rep, p, j, vs, rfl, rfl, h6, by omega, by omega, by rw [← h7.len]; exact sz_of hl.2.2, hq.new hr (show RO W ι H (.lst _) (.lst _) from h7.reps _)⟩
    | _ => cases hf
  | non => exact ⟨_, op_mulF C, ι, st, _, _, v, st', .non, ry, hr, hf, hq⟩
  | bl z => exact ⟨_, op_mulF C, ι, st, _, _, v, st', .bl z, ry, hr, hf, hq⟩
  | int i => exact ⟨_, op_mulF C, ι, st, _, _, v, st', .int i, ry, hr, hf, hq⟩
  | str i => exact ⟨_, op_mulF C, ι, st, _, _, v, st', .str i, ry, hr, hf, hq⟩
  | tup s1 s2 => exact ⟨_, op_mulF C, ι, st, _, _, v, st', .tup s1 s2, ry, hr, hf, hq⟩
  | scr i => exact ⟨_, op_mulF C, ι, st, _, _, v, st', .scr i, ry, hr, hf, hq⟩
  | ty i => exact ⟨_, op_mulF C, ι, st, _, _, v, st', .ty i, ry, hr, hf, hq⟩
  | glo i => exact ⟨_, op_mulF C, ι, st, _, _, v, st', .glo i, ry, hr, hf, hq⟩
  | exc h1 h2 h3 => exact ⟨_, op_mulF C, ι, st, _, _, v, st', .exc h1 h2 h3, ry, hr, hf, hq⟩
/-! ### reversed(list or tuple) -/
theorem rev_at {α : Type} {xs : List α} {i : Nat} {x : α} (h : xs.reverse[i]? = some x) : i < xs.length ∧ xs[xs.length - 1 - i]? = some x := by
  have hi := (List.getElem?_eq_some_iff.mp h).1
  rw [List.length_reverse] at hi
  rw [List.getElem?_reverse hi] at h
  exact ⟨hi, h⟩
theorem ok_revL {j : Nat} {p : Addr} {xs : List Val} {n : Nat} (hn : n = xs.length) (h0 : ι[j]? = some p) : ItOk W ι H ⟨xs.reverse, .two j xs j xs⟩ (Itv W.K p n) := fun ι' H' st i e r lv => by
  subst hn
  obtain ⟨l1, _⟩ : st[j]? = some (.lst xs) ∧ st[j]? = some (.lst xs) := lv
  obtain ⟨vs, a1, a2⟩ := r.lst l1 (e.pre _ _ h0)
  refine ⟨fun x hx => ?_, fun hi => by
    have h2 : xs.reverse.length ≤ i := hi
    rw [List.length_reverse] at h2
    exact h2⟩
  obtain ⟨hi, hx2⟩ := rev_at (show xs.reverse[i]? = some x from hx)
  obtain ⟨v, h3, h4⟩ := a2.at _ hx2
  refine ⟨⟨hi, vs, v, SqL.of a1, h3⟩, fun u H2 ⟨hH, hu⟩ => ?_⟩
  subst hH
  have h5 := hu vs (SqL.of a1)
  rw [h3] at h5
  cases h5
  exact ⟨Ext.refl _ _, r, h4⟩
theorem ok_revT {p : Addr} {vs : List V} {xs : List Val} {n : Nat} (hn : n = xs.length) (sx : SqT W.K H p vs) (rxs : RVs W.K ι H xs vs) : ItOk W ι H ⟨xs.reverse, .none⟩ (RT.ItvT W.K p n) := fun ι' H' st i e r _ => by
  subst hn
  have s1 := e.sqT sx
  have r1 := rxs.mono0 e
  refine ⟨fun x hx => ?_, fun hi => by
    have h2 : xs.reverse.length ≤ i := hi
    rw [List.length_reverse] at h2
    exact h2⟩
  obtain ⟨hi, hx2⟩ := rev_at (show xs.reverse[i]? = some x from hx)
  obtain ⟨v, h3, h4⟩ := r1.at _ hx2
  refine ⟨⟨hi, vs, v, s1, h3⟩, fun u H2 ⟨hH, hu⟩ => ?_⟩
  subst hH
  have h5 := hu vs s1
  rw [h3] at h5
  cases h5
  exact ⟨Ext.refl _ _, r, h4⟩
def asRev (st : Sto) : Val → Option Itb
  | .tup xs => some ⟨xs.reverse, .none⟩
  | .ref p => match st[p]? with
    | some (.lst xs) => some ⟨xs.reverse, .two p xs p xs⟩
    | _ => none
  | _ => none
def fRev (m : FE) : FI := bnd m fun x => fun _ st => (asRev st x).map fun b => .ok b st
theorem si_rev {p : Pos} (C : Ctx0 W k X Ew) (hm : W.mg "reversed" = none) (ha : SE W X Ew a ma) (hg : Gl X "reversed" := by rfl)
    (hs : starEach [a] X.env = (false, eval a X.env) :: starEach [] X.env := by rfl) : SI W X Ew tg (.Call (.Name "reversed" p) [a] [] pos) (fRev ma) :=
  imI (RT.pi_revA hg (by rw [C.em]; exact hm) ha hs) fun σ H Q ⟨ι, sl, st, r, hs, hr, hm, hq⟩ => run hs hr hm hq fun x st1 ι1 H1 vx e1 s1 r1 rx hm1 hq1 => by
    have hm2 : (asRev st1 x).map (fun b => R.ok b st1) = some r := hm1
    obtain ⟨b, h1, rfl⟩ := Option.map_eq_some_iff.mp hm2
    rw [C.eK]
    cases rx with
    | @tup p vs xs sx rxs =>
      cases h1
      exact ⟨p, vs, rfl, .inr ⟨sx, hq1 ι1 H1 _ (Ext.refl _ _) r1 (ok_revT rxs.len.symm sx rxs)⟩⟩
    | @ref j p h0 =>
      have h2 : (match st1[j]? with | some (.lst xs) => some (Itb.mk xs.reverse (.two j xs j xs)) | _ => none) = some b := h1
      split at h2
      · rename_i xs h5
        cases h2
        obtain ⟨vs, h6, h7⟩ := r1.lst h5 h0
        exact ⟨p, vs, rfl, .inl ⟨SqL.of h6, hq1 ι1 H1 _ (Ext.refl _ _) r1 (ok_revL h7.len.symm h0)⟩⟩
      · cases h2
    | _ => cases h1
/-! ### x += y, x -= y -/
def fIAdd : O2
  | .int i, .int j, st => some (.int (i + j), st)
  | .str x, .str y, st => if x.length + y.length ≤ LINE then some (.str (x ++ y), st) else none
  | _, _, _ => none
theorem ip_addF : PIp X .Add (rip W fIAdd) := fun pins s σ H x y v u Q I rx ry h => by
  obtain ⟨ι, st, a, b, w, st', ra, rb, hr, hf, hq⟩ := h
  cases ra with
  | int i =>
    cases rb with
    | int j =>
      cases hf
      exact iop_add pins s σ H _ _ v u Q I rx ry ⟨i, j, rfl, rfl, hq.here hr (.int _)⟩
    | _ => cases hf
  | str i =>
    cases rb with
    | str j =>
      have hf2 : (if i.length + j.length ≤ LINE then some (Val.str (i ++ j), st) else none) = some (w, st') := hf
      by_cases hl : i.length + j.length ≤ LINE
      case neg => rw [if_neg hl] at hf2; cases hf2
      rw [if_pos hl] at hf2
      cases hf2
      exact iop_add_str pins s σ H _ _ v u Q I rx ry ⟨_, _, rfl, rfl, by rw [st_len, st_len]; exact sz_of hl, by rw [st_app]; exact hq.here hr (.str _)⟩
    | _ => cases hf
  | _ => cases hf
theorem ip_subF : PIp X .Sub (rip W fSub) := fun pins s σ H x y v u Q I rx ry h => by
  obtain ⟨ι, st, a, b, w, st', ra, rb, hr, hf, hq⟩ := h
  cases ra with
  | int i =>
    cases rb with
    | int j =>
      cases hf
      exact iop_sub pins s σ H _ _ v u Q I rx ry ⟨i, j, rfl, rfl, hq.here hr (.int _)⟩
    | _ => cases hf
  | _ => cases hf
end
end FL
/-! FL17: slices with a step, ranges with a step, the greatest of pairs of places. -/
namespace FL
open PySem PySem.Spec PyProof.Rows L2
section
variable {W : Wd} {k : Nat} {X : Cx} {Ew : WX} {ι ι' : List Addr} {H H' : Hp} {st : Sto} {a b c e : Expr} {es : List Expr} {ma mb me : FE} {mas : FA} {pos : Pos} {tg : Expr}
/-! ### xs[i::c] -/
def pickG {α : Type} (xs : List α) (lo : Option Int) (c : Int) : List α := (sliceRange (sliceBounds lo none (some c) xs.length).1 (sliceBounds lo none (some c) xs.length).2.1 (sliceBounds lo none (some c) xs.length).2.2).filterMap (xs[·]?)
theorem RVs.pick {K : PySem.W.Frag} {xs : List Val} {vs : List V} (h : RVs K ι H xs vs) : ∀ is : List Nat, RVs K ι H (is.filterMap (xs[·]?)) (is.filterMap (vs[·]?))
  | [] => .nil
  | i :: is => by
    have ih := RVs.pick h is
    rw [List.filterMap_cons, List.filterMap_cons]
    cases hx : xs[i]? with
    | none =>
      have : vs[i]? = none := by
        rw [List.getElem?_eq_none_iff] at hx ⊢
        rw [← h.len]
        exact hx
      rw [this]
      exact ih
    | some x =>
      obtain ⟨v, h1, h2⟩ := RVs.at i h hx
      rw [h1]
      exact .cons h2 ih
theorem Vals.pick {vs : List V} {us : List Value} (h : Vals vs us) : ∀ is : List Nat, Vals (is.filterMap (vs[·]?)) (is.filterMap (us[·]?))
  | [] => .nil
  | i :: is => by
    have ih := Vals.pick h is
    rw [List.filterMap_cons, List.filterMap_cons]
    cases hx : vs[i]? with
    | none =>
      have : us[i]? = none := by
        rw [List.getElem?_eq_none_iff] at hx ⊢
        rw [← h.length]
        exact hx
      rw [this]
      exact ih
    | some x =>
      obtain ⟨u, h1, h2⟩ := Vals.get h hx
      rw [h1]
      exact .cons h2 ih
theorem pick_arr (its : List Value) (lo : Option Int) (c : Int) : slicePick its.toArray lo none (some c) = (pickG its lo c).toArray := by
  unfold slicePick pickG
  simp
def tSlC (K : PySem.W.Frag) (te : TE) (tl : TO) (c : Int) : TE := fun σ H Q => te σ H fun x H1 => tl σ H1 fun l H2 => ∃ a xs, x = .ref a ∧ SqL K H2 a xs ∧ ∀ p, H2 p = none → Q (.ref p) (upd H2 p (.lst (pickG xs l c)))
theorem pick_map {α β : Type} (f : α → β) (xs : List α) (lo : Option Int) (c : Int) : pickG (xs.map f) lo c = (pickG xs lo c).map f := by
  unfold pickG
  rw [List.length_map, List.map_filterMap]
  congr 1
  funext i
  rw [List.getElem?_map]
theorem pick_len {α : Type} (xs : List α) (lo : Option Int) (c : Int) : (pickG xs lo c).length ≤ xs.length := by
  have h := slicePick_size_le (xs.map fun _ => Value.none).toArray lo none (some c)
  rw [pick_arr, pick_map] at h
  simpa using h
theorem pe_slC {e : Expr} {te : TE} {lo : Option Expr} {tl : TO} {c : Int} {k : Nat} {p1 p3 pos : Pos} (hc : 0 < c) (he : PE X e te) (hl : PO X lo tl) : PE X (.Subscript e (.Slice lo none (some (.Constant (.int c) k p1)) p3) pos) (tSlC X.K te tl c) := by
  refine ⟨fun pins s σ H Q I h => ?_⟩
  refine Subscript_ (thn (he.run pins s σ H _ I h) fun v s1 ⟨x, H1, I1, r1, q1⟩ => ?_)
  have hst : PO X (some (.Constant (.int c) k p1)) (tPart (tC (.int c))) := po_some pe_int
  refine wpAny_Slice (thn (hl.run pins s1 σ H1 _ I1 q1) fun vl s2 ⟨l, H2, I2, pl, q2⟩ => ?_)
  obtain ⟨a, xs, ex, hx, q⟩ := q2
  subst ex
  cases r1
  refine thn (po_none.run pins s2 σ H2 (fun o H3 => o = none ∧ H3 = H2) I2 ⟨rfl, rfl⟩) fun vu s3 ⟨u, H3, I3, pu, eu, e3⟩ => ?_
  subst eu e3
  refine thn (hst.run pins s3 σ H3 (fun o H4 => o = some c ∧ H4 = H3) I3 ⟨c, rfl, rfl, rfl⟩) fun vs s4 ⟨o, H4, I4, ps, eo, e4⟩ => ?_
  subst eo e4
  have I5 : Inv X pins σ H4 { s4 with heap := s4.heap.push { cls := .type "slice", data := .fields #[vl, vu, vs] } } := I4.kept (t' := s4.toks) fun b ob q => Heap.get?_push_of_some _ q
  obtain ⟨its, r, ht, hz⟩ := I5.list hx
  have hlen := r.length
  show wpAny (model X.prog X.w) X.A (subscriptTail e (.Slice lo none (some (.Constant (.int c) k p1)) p3) (.ref a) (.ref s4.heap.objs.size)) (EP X pins σ Q) X.xe { s4 with heap := s4.heap.push { cls := .type "slice", data := .fields #[vl, vu, vs] } }
  refine tail_any (ops := [.ref a, .ref s4.heap.objs.size]) ht.isList.typeIs (PySem.slot_list_getitem.lookup) ?_ (by with_unfolding_all rfl)
  refine wpAny_getItem_list_slice ht.isList (Heap.IsSliceOf.new _ vl vu vs) pl pu ps (by intro z; cases z; exact absurd hc (by decide)) ?_ (by rw [List.size_toArray]; omega)
  rw [pick_arr]
  have hpl := pick_len xs l c
  have hp : Vals (pickG xs l c) (pickG its l c) := by
    unfold pickG
    rw [hlen]
    exact Vals.pick r _
  refine ⟨.ref _, _, I5.laid (t' := s4.toks) (o := .lst (pickG xs l c)) (fun b ob q => Heap.get?_push_of_some _ q) (Nat.le_refl _) ?_, rfl, q _ (I5.hok.fresh (Nat.le_refl _))⟩
  exact ⟨Nat.le_trans hpl hz, _, 0, hp, Heap.get?_push_size _ rfl⟩
def fSlC (m : FE) (lo : FO) (c : Int) : FE := bnd m fun x => bnd lo fun l => lft (fun st => match x with
  | .ref p => match st[p]? with
    | some (.lst xs) => some (.ref st.length, st ++ [.lst (pickG xs l c)])
    | _ => none
  | _ => none)
theorem se_slC {lo : Option Expr} {mlo : FO} {c : Int} {j : Nat} {p1 p3 : Pos} (ha : SE W X Ew a ma) (hl : SO W X Ew lo mlo) (hc : 0 < c := by decide) : SE W X Ew (.Subscript a (.Slice lo none (some (.Constant (.int c) j p1)) p3) pos) (fSlC ma mlo c) :=
  imE (pe_slC hc ha hl) fun σ H Q ⟨ι, sl, st, r, hs, hr, hm, hq⟩ => run hs hr hm hq fun x st1 ι1 H1 vx e1 s1 r1 rx hm1 hq1 => run s1 r1 hm1 hq1 fun l st2 ι2 H2 vl e2 s2 r2 rl hm2 hq2 => by
    subst rl
    obtain ⟨v, st', h1, rfl⟩ := lft_some hm2
    cases rx with
    | @ref j p h0 =>
      have h2 : (match st2[j]? with | some (.lst xs) => some (Val.ref st2.length, st2 ++ [.lst (pickG xs l c)]) | _ => none) = some (v, st') := h1
      split at h2
      · rename_i xs h5
        cases h2
        obtain ⟨vs, h6, h7⟩ := r2.lst h5 (e2.pre _ _ h0)
        refine ⟨p, vs, rfl, SqL.of h6, Post.new hq2 r2 (show RO W ι2 H2 (.lst (pickG xs l c)) (.lst (pickG vs l c)) from ?_)⟩
        unfold pickG
        rw [h7.len]
        exact RVs.pick h7 _
      · cases h2
    | _ => cases h1
/-! ### range(i, j, c) -/
def rngC (lo c : Int) (n : Nat) : List Val := (List.range n).map fun i => Val.int (lo + (i : Nat) * c)
theorem ok_rngC (lo c : Int) (n : Nat) : ItOk W ι H ⟨rngC lo c n, .none⟩ (Itc lo c n) := fun ι' H' st i e r _ => by
  refine ⟨fun x hx => ?_, fun hi => by
    have h1 : (rngC lo c n).length ≤ i := hi
    unfold rngC at h1
    rw [List.length_map, List.length_range] at h1
    exact h1⟩
  have hx2 : (rngC lo c n)[i]? = some x := hx
  unfold rngC at hx2
  rw [List.getElem?_map] at hx2
  obtain ⟨j, h1, rfl⟩ := Option.map_eq_some_iff.mp hx2
  have hi := (List.getElem?_eq_some_iff.mp h1).1
  rw [List.length_range] at hi
  rw [List.getElem?_range hi] at h1
  cases h1
  refine ⟨hi, fun y H2 ⟨hH, hy⟩ => ?_⟩
  subst hH hy
  exact ⟨Ext.refl _ _, r, .int _⟩
def okC (i j c : Int) : Bool := decide (0 < c) && decide (c < 1073741824) && Builtin.Range.small i j c
def fRng3 (m : FA) : FI := bnd m fun xs => fun _ st => match xs with
  | [.int i, .int j, .int c] => if okC i j c = true then some (.ok ⟨rngC i c (Builtin.Range.rangeSize i j c).toNat, .none⟩ st) else none
  | _ => none
theorem si_rng3 {p : Pos} (C : Ctx0 W k X Ew) (hm : W.mg "range" = none) (ha : SA W X Ew [a, b, c] mas) (hg : Gl X "range" := by rfl) (hs : starEach [a, b, c] X.env = (false, eval a X.env) :: starEach [b, c] X.env := by rfl) (hpl : (backTo pos (starEach [b, c] X.env)).any (·.1) = false := by rfl) : SI W X Ew tg (.Call (.Name "range" p) [a, b, c] [] pos) (fRng3 mas) :=
  imI (pi_range3 hg (by rw [C.em]; exact hm) ha hs hpl) fun σ H Q ⟨ι, sl, st, r, hs, hr, hm, hq⟩ => run hs hr hm hq fun x st1 ι1 H1 vx e1 s1 r1 rx hm1 hq1 => by
    split at hm1
    · rename_i i j c
      split at hm1
      · rename_i hj
        cases hm1
        simp only [okC, Bool.and_eq_true, decide_eq_true_eq] at hj
        cases rx with
        | cons r0 rr =>
          cases rr with
          | cons r2 rr =>
            cases rr with
            | cons r4 rr =>
              cases rr
              cases r0
              cases r2
              cases r4
              exact ⟨i, j, c, (Builtin.Range.rangeSize i j c).toNat, rfl, ⟨by omega, by omega, hj.2, rangeSize_toNat i j c⟩, hq1 ι1 H1 _ (Ext.refl _ _) r1 (ok_rngC i c _)⟩
      · cases hm1
    · cases hm1
/-! ### max of a list of alike data -/
theorem max_at {prog : Program} {w : World} {A : Around} {E : Value → Shared → Prop} {s : Shared} {l : Addr} {vs : Array Value} {x : PyData} {xs : List PyData} {as : List Addr} {Q : Value → Shared → Prop} (hh : A.handled = none) (hl : s.heap.IsList l vs) (hr : ReadsAll s.heap vs.toList (x :: xs) as) (ha : PySem.W.AlikeAll (x :: xs)) (hu : A.units + 1 + PyData.depthAll (x :: xs) < cLine)
    (h : ∀ (i : Nat) v h' tk, vs[i]? = some v → i < xs.length + 1 → (x :: xs).getD i .none = PySem.W.maxD x xs → (∀ b o, s.heap.get? b = some o → h'.get? b = some o) → Q v { s with heap := h', toks := tk }) :
    wpAny (model prog w) A (call (.builtin "max") [.ref l]) Q E s := by
  have hn : vs.size = xs.length + 1 := PySem.W.readsAll_len hr
  refine call_max_walkH (PySem.W.iter_listW (A := A.in1) hh hl fun s₂ e W st hfp hw hk => ?_)
  refine ⟨_, _, _, _, _, _, _, s.heap, _, rfl, W, st, hfp, by omega, hw, hk, PySem.W.cmpIn_gt (A := A.in1) hr ha (by show A.units + 1 + _ < _; exact hu), fun v s' hP m => ?_⟩
  obtain ⟨h', tk, rfl, hk'⟩ := PySem.W.moved_old e rfl m
  have e1 : vs.size - 1 = xs.length := by omega
  have e2 := PySem.W.argBest_fold (fun a b => PySem.W.dataLt b a) PyData.none x xs xs.length (Nat.le_refl _)
  rw [List.take_length] at e2
  rw [e1] at hP
  exact h _ v h' tk hP (by have := e2.1; omega) e2.2 hk'
def rMaxA (X : Cx) : List V → Hp → VK → Prop := fun vs H Q => ∃ (a : Addr) (xs : List V) (d : PyData) (ds : List PyData), vs = [V.ref a] ∧ SqL X.K H a xs ∧ DpAll X.K H xs (d :: ds) ∧ PySem.W.AlikeAll (d :: ds) ∧ X.A.units + 1 + PyData.depthAll (d :: ds) < cLine ∧ ∀ (i : Nat) (v : V), xs[i]? = some v → (d :: ds)[i]? = some (PySem.W.maxD d ds) → Q v H
theorem cr_maxA (hc : X.calm = true) : CallR X (.builtin "max") (rMaxA X) := by
  intro pins s σ H vs us Q I r h
  obtain ⟨a, xs, d, ds, rfl, hs, hd, hal, hu, q⟩ := h
  obtain ⟨its, rv, hl, _⟩ := I.list hs
  rw [Vals.ref1 r]
  obtain ⟨as, hR⟩ := Dp.readsAll I (d :: ds) xs its hd rv
  have hlen : its.length = ds.length + 1 := by
    have := PySem.W.readsAll_len (vs := its.toArray) hR
    simpa using this
  refine max_at (I.ok.hd hc) hl.isList hR hal hu fun i v h' tk hv hi he hk => ?_
  have hxl : xs.length = its.length := rv.length
  have hx : xs[i]? = some xs[i] := List.getElem?_eq_getElem (by omega)
  obtain ⟨u, h1, h2⟩ := Vals.get rv hx
  have : v = u := by
    have hv2 : its[i]? = some v := by simpa using hv
    rw [hv2] at h1
    exact Option.some.inj h1
  subst this
  refine ⟨xs[i], H, I.kept hk, h2, q i _ hx ?_⟩
  rw [← he, List.getD_eq_getElem?_getD]
  rw [List.getElem?_eq_getElem (by simpa using hi)]
  rfl
/-! pairs of places -/
abbrev PP := (Int × Int) × (Int × Int)
def ppV (q : PP) : Val := .tup [.tup [.int q.1.1, .int q.1.2], .tup [.int q.2.1, .int q.2.2]]
def ppD (q : PP) : PyData := .tuple [.tuple [.int q.1.1, .int q.1.2], .tuple [.int q.2.1, .int q.2.2]]
def ppI : Val → Option PP
  | .tup [.tup [.int a, .int b], .tup [.int c, .int d]] => some ((a, b), (c, d))
  | _ => none
theorem ppI_V {v : Val} {q : PP} (h : ppI v = some q) : v = ppV q := by
  unfold ppI at h
  split at h
  · cases h
    rfl
  · cases h
def maxPP (q : PP) (qs : List PP) : PP := qs.foldl (fun a y => if PySem.W.dataLt (ppD a) (ppD y) then y else a) q
theorem maxPP_D : ∀ (qs : List PP) (q : PP), PySem.W.maxD (ppD q) (qs.map ppD) = ppD (maxPP q qs)
  | [], q => rfl
  | y :: qs, q => by
    show PySem.W.maxD (if PySem.W.dataLt (ppD q) (ppD y) then ppD y else ppD q) (qs.map ppD) = ppD (maxPP (if PySem.W.dataLt (ppD q) (ppD y) then y else q) qs)
    split
    · exact maxPP_D qs y
    · exact maxPP_D qs q
def fMaxPP : ON := oneR fun p st => match st[p]? with
  | some (.lst xs) => (mapO ppI xs).bind fun qs => match qs with
    | [] => none
    | q :: qs => some (ppV (maxPP q qs), st)
  | _ => none
theorem mapO_pp : ∀ {xs : List Val} {qs : List PP}, mapO ppI xs = some qs → xs = qs.map ppV
  | [], _, h => by cases h; rfl
  | x :: xs, qs, h => by
    unfold mapO at h
    split at h
    · rename_i y ys h1 h2
      cases h
      rw [List.map_cons, ppI_V h1, mapO_pp h2]
    · cases h
theorem ppD_inj {a b : PP} (h : ppD a = ppD b) : a = b := by
  obtain ⟨⟨a1, a2⟩, a3, a4⟩ := a
  obtain ⟨⟨b1, b2⟩, b3, b4⟩ := b
  simp [ppD] at h
  obtain ⟨⟨rfl, rfl⟩, rfl, rfl⟩ := h
  rfl
theorem dp_pp {K : PySem.W.Frag} : ∀ {qs : List PP} {vs : List V}, RVs K ι H (qs.map ppV) vs → DpAll K H vs (qs.map ppD)
  | [], _, h => by cases h; exact .nil
  | q :: qs, _, h => by
    cases h with
    | cons r0 rr =>
      refine .cons ?_ (dp_pp rr)
      cases r0 with
      | tup s1 r1 =>
        cases r1 with
        | cons r2 r3 =>
          cases r3 with
          | cons r4 r5 =>
            cases r5
            cases r2 with
            | tup s2 t1 =>
              cases t1 with
              | cons t2 t3 =>
                cases t3 with
                | cons t4 t5 =>
                  cases t5
                  cases t2
                  cases t4
                  cases r4 with
                  | tup s3 u1 =>
                    cases u1 with
                    | cons u2 u3 =>
                      cases u3 with
                      | cons u4 u5 =>
                        cases u5
                        cases u2
                        cases u4
                        exact .tup s1 (.cons (.tup s2 (.cons (.int _) (.cons (.int _) .nil))) (.cons (.tup s3 (.cons (.int _) (.cons (.int _) .nil))) .nil))
theorem pp_alike (q : PP) (qs : List PP) : PySem.W.AlikeAll (ppD q :: qs.map ppD) := by
  rw [← List.map_cons]
  refine ⟨fun x hx y hy => ?_, fun x hx => ?_⟩
  · obtain ⟨a, _, rfl⟩ := List.mem_map.mp hx
    obtain ⟨b, _, rfl⟩ := List.mem_map.mp hy
    simp [ppD, PySem.W.alike, PySem.W.alikeAll]
  · obtain ⟨a, _, rfl⟩ := List.mem_map.mp hx
    exact fun z => nomatch z
theorem pp_depth : ∀ qs : List PP, PyData.depthAll (qs.map ppD) ≤ 2
  | [] => by simp [PyData.depthAll]
  | q :: qs => by
    have := pp_depth qs
    simp [PyData.depthAll, PyData.depth, ppD] at this ⊢
    omega
theorem call_maxPF (C : Ctx0 W k X Ew) (hc : X.calm = true) : CallR X (.builtin "max") (rc W fMaxPP) := callBy fun xs H Q ⟨ι, st, as, v, st', rx, hr, hf, hq⟩ => by
  obtain ⟨i, p, rfl, rfl, h0, h1⟩ := one_ref rx hf
  split at h1
  · rename_i ys h5
    obtain ⟨qs, h2, h3⟩ := Option.bind_eq_some_iff.mp h1
    have := mapO_pp h2
    subst this
    obtain ⟨vs, h6, h7⟩ := hr.lst h5 h0
    cases qs with
    | nil => cases h3
    | cons q qs =>
      cases h3
      have hu := C.hu65
      have hdp := pp_depth (q :: qs)
      refine ⟨_, cr_maxA hc, p, vs, ppD q, qs.map ppD, rfl, SqL.of h6, by rw [C.eK]; exact dp_pp h7, pp_alike q qs, by rw [List.map_cons] at hdp; omega, fun j u hu2 hd => ?_⟩
      rw [maxPP_D, ← List.map_cons, List.getElem?_map] at hd
      obtain ⟨q2, h8, h9⟩ := Option.map_eq_some_iff.mp hd
      have := ppD_inj h9
      subst this
      obtain ⟨u', h10, h11⟩ := RVs.at j h7 (x := ppV (maxPP q qs)) (by rw [List.getElem?_map, h8]; rfl)
      rw [hu2] at h10
      cases h10
      exact hq.here hr h11
  · cases h1
end
end FL
/-! PL1: what a plain function comes to: a small calculus of what must hold behind it (P), and where it raises (G). -/
namespace FL
open PySem PySem.Spec PyProof.Rows L2

abbrev EP' := Str → Sto → Prop
/-- nothing is raised -/
abbrev G0 : EP' := fun _ _ => False
def okP {α : Type} (P : α → Sto → Prop) (G : EP') : R α → Prop
  | .ok a st => P a st
  | .ex c st => G c st
/-- hides what comes behind from simp -/
inductive Lk {α : Type} (a : α) : Type where
  | mk
def wX {α : Type} (m : FX α) (sl : Sl) (st : Sto) (P : α → Sto → Prop) (G : EP') (_ : Lk P := .mk) (_ : Lk G := .mk) : Prop := ∃ r, m sl st = some r ∧ okP P G r
def wF (F : FF) (as : List Val) (st : Sto) (P : Val → Sto → Prop) (G : EP') (_ : Lk P := .mk) (_ : Lk G := .mk) : Prop := ∃ r, F as st = some r ∧ okP P G r
def wS (m : FS) (sl : Sl) (st : Sto) (P : RS → Prop) (_ : Lk P := .mk) : Prop := ∃ r, m sl st = some r ∧ P r
def wG (o : Option (Val × Sto)) (P : Val → Sto → Prop) (_ : Lk P := .mk) : Prop := ∃ v st', o = some (v, st') ∧ P v st'
def finP (P : Val → Sto → Prop) (G : EP') : RS → Prop
  | .nx _ st => P .non st
  | .rt v st => P v st
  | .ex c _ st => G c st
  | _ => False
def sqP (n : FS) (P : RS → Prop) : RS → Prop
  | .nx sl st => wS n sl st P
  | r => P r
theorem okP.mono {α : Type} {P Q : α → Sto → Prop} {G G' : EP'} {r : R α} (h : okP P G r) (i : ∀ v st', P v st' → Q v st') (j : ∀ c st', G c st' → G' c st') : okP Q G' r := by
  cases r with
  | ok a st => exact i _ _ h
  | ex c st => exact j _ _ h
theorem wF.mono {F : FF} {as : List Val} {st : Sto} {P Q : Val → Sto → Prop} {G : EP'} (h : wF F as st P G) (i : ∀ v st', P v st' → Q v st') : wF F as st Q G :=
  let ⟨r, h1, h2⟩ := h
  ⟨r, h1, h2.mono i fun _ _ h => h⟩
theorem wF.monoE {F : FF} {as : List Val} {st : Sto} {P Q : Val → Sto → Prop} {G G' : EP'} (h : wF F as st P G) (i : ∀ v st', P v st' → Q v st') (j : ∀ c st', G c st' → G' c st') : wF F as st Q G' :=
  let ⟨r, h1, h2⟩ := h
  ⟨r, h1, h2.mono i j⟩
theorem wF.go {F : FF} {as : List Val} {st : Sto} {P Q : Val → Sto → Prop} {G : EP'} (h : wF F as st P G0) (i : ∀ v st', P v st' → Q v st') : wF F as st Q G := h.monoE i fun _ _ z => z.elim
theorem wX.mono {α : Type} {m : FX α} {sl : Sl} {st : Sto} {P Q : α → Sto → Prop} {G : EP'} (h : wX m sl st P G) (i : ∀ v st', P v st' → Q v st') : wX m sl st Q G :=
  let ⟨r, h1, h2⟩ := h
  ⟨r, h1, h2.mono i fun _ _ h => h⟩
theorem wS.mono {m : FS} {sl : Sl} {st : Sto} {P Q : RS → Prop} (h : wS m sl st P) (i : ∀ r, P r → Q r) : wS m sl st Q :=
  let ⟨r, h1, h2⟩ := h
  ⟨r, h1, i _ h2⟩
theorem wX_congr {α : Type} {m : FX α} {sl : Sl} {st : Sto} {P Q : α → Sto → Prop} {G : EP'} (i : ∀ v st', P v st' ↔ Q v st') : wX m sl st P G ↔ wX m sl st Q G := ⟨fun h => h.mono fun v st' => (i v st').mp, fun h => h.mono fun v st' => (i v st').mpr⟩
section
variable {sl : Sl} {st : Sto} {ma mb mc me : FE} {mt mu : FT} {mas : FA} {m n : FS} {v : Val} {i : Nat} {c : Str} {F : FF}
variable {P : Val → Sto → Prop} {PB : Bool → Sto → Prop} {PA : List Val → Sto → Prop} {PO : Option Int → Sto → Prop} {PS : RS → Prop} {G : EP'}
@[simp] theorem finP_rt : finP P G (.rt v st) = P v st := rfl
@[simp] theorem finP_nx : finP P G (.nx sl st) = P .non st := rfl
@[simp] theorem finP_ex : finP P G (.ex c sl st) = G c st := rfl
@[simp] theorem sqP_nx : sqP n PS (.nx sl st) = wS n sl st PS := rfl
@[simp] theorem sqP_rt : sqP n PS (.rt v st) = PS (.rt v st) := rfl
@[simp] theorem sqP_bk : sqP n PS (.bk sl st) = PS (.bk sl st) := rfl
@[simp] theorem sqP_ct : sqP n PS (.ct sl st) = PS (.ct sl st) := rfl
@[simp] theorem sqP_ex : sqP n PS (.ex c sl st) = PS (.ex c sl st) := rfl
@[simp] theorem wG_some {p : Val × Sto} : wG (some p) P ↔ P p.1 p.2 := ⟨fun ⟨v, st', h, q⟩ => by cases h; exact q, fun h => ⟨p.1, p.2, rfl, h⟩⟩
@[simp] theorem wG_none : wG none P ↔ False := ⟨fun ⟨_, _, h, _⟩ => (nomatch h), False.elim⟩
@[simp] theorem wG_if {c : Prop} [Decidable c] {o : Option (Val × Sto)} : wG (if c then o else none) P ↔ c ∧ wG o P := by
  by_cases h : c
  · simp [h]
  · simp [h]
theorem wX_bnd {α β : Type} {a : FX α} {k : α → FX β} {Q : β → Sto → Prop} : wX (bnd a k) sl st Q G ↔ wX a sl st (fun x st' => wX (k x) sl st' Q G) G := by
  unfold wX bnd
  constructor
  · rintro ⟨r, h, q⟩
    cases h1 : a sl st with
    | none => rw [h1] at h; cases h
    | some r1 =>
      rw [h1] at h
      cases r1 with
      | ok x st1 => exact ⟨_, rfl, r, h, q⟩
      | ex c st1 => cases h; exact ⟨_, rfl, q⟩
  · rintro ⟨r1, h, q⟩
    rw [h]
    cases r1 with
    | ok x st1 => exact q
    | ex c st1 => exact ⟨_, rfl, q⟩
theorem wS_bnd {α : Type} {a : FX α} {k : α → FS} : wS (bndS a k) sl st PS ↔ wX a sl st (fun x st' => wS (k x) sl st' PS) (fun c st' => PS (.ex c sl st')) := by
  unfold wX wS bndS
  constructor
  · rintro ⟨r, h, q⟩
    cases h1 : a sl st with
    | none => rw [h1] at h; cases h
    | some r1 =>
      rw [h1] at h
      cases r1 with
      | ok x st1 => exact ⟨_, rfl, r, h, q⟩
      | ex c st1 => cases h; exact ⟨_, rfl, q⟩
  · rintro ⟨r1, h, q⟩
    rw [h]
    cases r1 with
    | ok x st1 => exact q
    | ex c st1 => exact ⟨_, rfl, q⟩
@[simp ↓] theorem wX_var : wX (fVar i) sl st P G ↔ ∃ v, sl[i]? = some (some v) ∧ P v st := by
  unfold wX fVar
  constructor
  · rintro ⟨r, h, q⟩
    split at h
    · rename_i w hw
      cases h
      exact ⟨w, hw, q⟩
    · cases h
  · rintro ⟨v, h, q⟩
    exact ⟨.ok v st, by rw [h], q⟩
theorem wX_ret {α : Type} {a : α} {Q : α → Sto → Prop} : wX (fun _ st => some (.ok a st)) sl st Q G ↔ Q a st := ⟨fun ⟨r, h, q⟩ => by cases h; exact q, fun h => ⟨_, rfl, h⟩⟩
theorem wX_no {α : Type} {Q : α → Sto → Prop} : wX (fun _ _ => none) sl st Q G ↔ False := ⟨fun ⟨r, h, q⟩ => (nomatch h), False.elim⟩
@[simp ↓] theorem wX_c : wX (fC v) sl st P G ↔ P v st := wX_ret
@[simp ↓] theorem wX_lft {g : Sto → Option (Val × Sto)} : wX (lft g) sl st P G ↔ wG (g st) P := by
  unfold wX lft wG
  constructor
  · rintro ⟨r, h, q⟩
    split at h
    · rename_i w st1 hw
      cases h
      exact ⟨w, st1, hw, q⟩
    · cases h
  · rintro ⟨v, st', h, q⟩
    exact ⟨.ok v st', by rw [h], q⟩
@[simp ↓] theorem wX_op {f : O2} : wX (fOp f ma mb) sl st P G ↔ wX ma sl st (fun x st1 => wX mb sl st1 (fun y st2 => wG (f x y st2) P) G) G := by
  unfold fOp
  rw [wX_bnd]
  refine wX_congr fun x st1 => ?_
  rw [wX_bnd]
  exact wX_congr fun y st2 => wX_lft
@[simp ↓] theorem wX_asB {x : Val} : wX (asB x) sl st PB G ↔ ∃ b, x = .bl b ∧ PB b st := by
  cases x with
  | bl b =>
    show wX (fun _ st => some (.ok b st)) sl st PB G ↔ _
    rw [wX_ret]
    exact ⟨fun h => ⟨b, rfl, h⟩, fun ⟨c, e, h⟩ => by cases e; exact h⟩
  | _ => exact ⟨fun ⟨_, h, _⟩ => (nomatch h), fun ⟨_, e, _⟩ => (nomatch e)⟩
@[simp ↓] theorem wX_B : wX (fB me) sl st PB G ↔ wX me sl st (fun x st' => ∃ b, x = .bl b ∧ PB b st') G := by
  unfold fB
  rw [wX_bnd]
  exact wX_congr fun x st1 => wX_asB
@[simp ↓] theorem wX_And : wX (fAnd mt mu) sl st PB G ↔ wX mt sl st (fun b st' => if b = true then wX mu sl st' PB G else PB false st') G := by
  simp only [fAnd, wX_bnd]
  refine wX_congr fun b st' => ?_
  cases b <;> simp [wX_ret]
@[simp ↓] theorem wX_Or : wX (fOr mt mu) sl st PB G ↔ wX mt sl st (fun b st' => if b = true then PB true st' else wX mu sl st' PB G) G := by
  simp only [fOr, wX_bnd]
  refine wX_congr fun b st' => ?_
  cases b <;> simp [wX_ret]
@[simp ↓] theorem wX_Not : wX (fNot mt) sl st PB G ↔ wX mt sl st (fun b st' => PB (!b) st') G := by
  unfold fNot
  rw [wX_bnd]
  exact wX_congr fun x st1 => wX_ret
@[simp ↓] theorem wX_If {α : Type} {a b : FX α} {Q : α → Sto → Prop} : wX (fIf mt a b) sl st Q G ↔ wX mt sl st (fun c st' => if c = true then wX a sl st' Q G else wX b sl st' Q G) G := by
  simp only [fIf, wX_bnd]
  refine wX_congr fun b st' => ?_
  cases b <;> simp
@[simp ↓] theorem wX_AndV : wX (fAndV ma mb) sl st P G ↔ wX ma sl st (fun x st' => ∃ b, x = .bl b ∧ if b = true then wX mb sl st' P G else P (.bl false) st') G := by
  simp only [fAndV, wX_bnd]
  refine wX_congr fun x st' => ?_
  cases x with
  | bl b => cases b <;> simp [wX_ret]
  | _ => simp [wX_no]
@[simp ↓] theorem wX_OrV : wX (fOrV ma mb) sl st P G ↔ wX ma sl st (fun x st' => ∃ b, x = .bl b ∧ if b = true then P (.bl true) st' else wX mb sl st' P G) G := by
  simp only [fOrV, wX_bnd]
  refine wX_congr fun x st' => ?_
  cases x with
  | bl b => cases b <;> simp [wX_ret]
  | _ => simp [wX_no]
@[simp ↓] theorem wX_NotV : wX (fNotV ma) sl st P G ↔ wX ma sl st (fun x st' => ∃ b, x = .bl b ∧ P (.bl (!b)) st') G := by
  simp only [fNotV, wX_bnd]
  refine wX_congr fun x st' => ?_
  cases x with
  | bl b => simp [wX_ret]
  | _ => simp [wX_no]
@[simp ↓] theorem wX_Neg : wX (fNeg ma) sl st P G ↔ wX ma sl st (fun x st' => ∃ i, x = .int i ∧ P (.int (-i)) st') G := by
  simp only [fNeg, wX_bnd]
  refine wX_congr fun x st' => ?_
  cases x with
  | int b => simp [wX_ret]
  | _ => simp [wX_no]
@[simp ↓] theorem wX_Chain {f g : O2} : wX (fChain f g ma mb mc) sl st P G ↔ wX ma sl st (fun x st1 => wX mb sl st1 (fun y st2 => wG (f x y st2) fun z st3 => ∃ b, z = .bl b ∧ if b = true then wX mc sl st3 (fun w st4 => wG (g y w st4) P) G else P (.bl false) st3) G) G := by
  unfold fChain
  rw [wX_bnd]
  refine wX_congr fun x st1 => ?_
  rw [wX_bnd]
  refine wX_congr fun y st2 => ?_
  rw [wX_bnd, wX_lft]
  unfold wG
  constructor
  · rintro ⟨z, st3, h1, h⟩
    refine ⟨z, st3, h1, ?_⟩
    cases z with
    | bl b =>
      refine ⟨b, rfl, ?_⟩
      cases b with
      | false => exact wX_ret.mp h
      | true => exact (wX_congr fun w st4 => wX_lft).mp (wX_bnd.mp h)
    | _ => exact (wX_no.mp h).elim
  · rintro ⟨z, st3, h1, b, rfl, h⟩
    refine ⟨_, st3, h1, ?_⟩
    cases b with
    | false => exact wX_ret.mpr h
    | true => exact wX_bnd.mpr ((wX_congr fun w st4 => wX_lft).mpr h)
@[simp ↓] theorem wX_nil : wX fNil sl st PA G ↔ PA [] st := wX_ret
@[simp ↓] theorem wX_cons : wX (fCons ma mas) sl st PA G ↔ wX ma sl st (fun x st1 => wX mas sl st1 (fun xs st2 => PA (x :: xs) st2) G) G := by
  unfold fCons
  rw [wX_bnd]
  refine wX_congr fun x st1 => ?_
  rw [wX_bnd]
  exact wX_congr fun y st2 => wX_ret
theorem wX_guard {α : Type} {c : Sto → Prop} [∀ st, Decidable (c st)] {a : FX α} {Q : α → Sto → Prop} : wX (fun sl st => if c st then a sl st else none) sl st Q G ↔ c st ∧ wX a sl st Q G := by
  unfold wX
  by_cases h : c st
  · simp [h]
  · simp [h]
theorem wX_ifR {α : Type} {c : Prop} [Decidable c] {v : Sto → α} {f : Sto → Sto} {Q : α → Sto → Prop} : wX (fun _ st => if c then some (R.ok (v st) (f st)) else none) sl st Q G ↔ c ∧ Q (v st) (f st) := by
  unfold wX
  by_cases h : c
  · simp [h, okP]
  · simp [h]
@[simp ↓] theorem wX_tup : wX (fTup mas) sl st P G ↔ wX mas sl st (fun xs st' => xs.length ≤ LINE ∧ P (.tup xs) st') G := by
  simp only [fTup, wX_bnd]
  exact wX_congr fun xs st' => wX_ifR (v := fun _ => Val.tup xs) (f := fun st => st)
@[simp ↓] theorem wX_lst : wX (fLst mas) sl st P G ↔ wX mas sl st (fun xs st' => xs.length ≤ LINE ∧ P (.ref st'.length) (st' ++ [.lst xs])) G := by
  simp only [fLst, wX_bnd]
  exact wX_congr fun xs st' => wX_ifR (v := fun st => Val.ref st.length) (f := fun st => st ++ [Ob.lst xs])
@[simp ↓] theorem wX_part : wX (fPart me) sl st PO G ↔ wX me sl st (fun x st' => ∃ i, x = .int i ∧ PO (some i) st') G := by
  simp only [fPart, wX_bnd]
  refine wX_congr fun x st' => ?_
  cases x with
  | int b => simp [wX_ret]
  | _ => simp [wX_no]
@[simp ↓] theorem wX_nopart : wX fNoPart sl st PO G ↔ PO none st := wX_ret
@[simp ↓] theorem wX_slice {f : OSl} {lo hi : FO} : wX (fSlice f me lo hi) sl st P G ↔ wX me sl st (fun x st1 => wX lo sl st1 (fun l st2 => wX hi sl st2 (fun u st3 => wG (f x l u st3) P) G) G) G := by
  unfold fSlice
  rw [wX_bnd]
  refine wX_congr fun x st1 => ?_
  rw [wX_bnd]
  refine wX_congr fun y st2 => ?_
  rw [wX_bnd]
  exact wX_congr fun y st2 => wX_lft
def revO (st : Sto) (x : Val) : Option (Val × Sto) := match x with
  | .ref p => match st[p]? with
    | some (.lst xs) => some (Val.ref st.length, st ++ [.lst xs.reverse])
    | _ => none
  | _ => none
@[simp ↓] theorem wX_revL : wX (fRevL me) sl st P G ↔ wX me sl st (fun x st' => wG (revO st' x) P) G := by
  unfold fRevL
  rw [wX_bnd]
  exact wX_congr fun x st1 => wX_lft
@[simp ↓] theorem wX_call {f : ON} : wX (fCall f mas) sl st P G ↔ wX mas sl st (fun xs st' => wG (f xs st') P) G := by
  unfold fCall
  rw [wX_bnd]
  exact wX_congr fun x st1 => wX_lft
@[simp ↓] theorem wX_callF : wX (fCallF F mas) sl st P G ↔ wX mas sl st (fun xs st' => wF F xs st' P G) G := by
  simp only [fCallF, wX_bnd]
  exact Iff.rfl
@[simp ↓] theorem wX_mt {T : String} {f : Val → ON} : wX (fMt T f me mas) sl st P G ↔ wX me sl st (fun x st1 => kindOf T st1 x = true ∧ wX mas sl st1 (fun xs st2 => wG (f x xs st2) P) G) G := by
  unfold fMt
  rw [wX_bnd]
  refine wX_congr fun x st1 => ?_
  rw [wX_guard (c := fun st => kindOf T st x = true), wX_bnd]
  exact and_congr_right fun _ => wX_congr fun xs st2 => wX_lft
@[simp ↓] theorem wX_mt0 {T : String} {f : Val → ON} : wX (fMt0 T f me) sl st P G ↔ wX me sl st (fun x st1 => kindOf T st1 x = true ∧ wG (f x [] st1) P) G := by
  unfold fMt0
  rw [wX_bnd]
  refine wX_congr fun x st1 => ?_
  rw [wX_guard (c := fun st => kindOf T st x = true), wX_lft]

/-! statements -/
@[simp ↓] theorem wS_seq : wS (fSeq m n) sl st PS ↔ wS m sl st (sqP n PS) := by
  unfold wS fSeq
  constructor
  · rintro ⟨r, h, q⟩
    cases h1 : m sl st with
    | none => rw [h1] at h; cases h
    | some r1 =>
      rw [h1] at h
      cases r1 with
      | nx sl' st' => exact ⟨_, rfl, r, h, q⟩
      | _ => cases h; exact ⟨_, rfl, q⟩
  · rintro ⟨r, h1, h2⟩
    rw [h1]
    cases r with
    | nx sl' st' => exact h2
    | _ => exact ⟨_, rfl, h2⟩
theorem wS_one {r : RS} : wS (fun _ _ => some r) sl st PS ↔ PS r := ⟨fun ⟨r, h, q⟩ => by cases h; exact q, fun h => ⟨_, rfl, h⟩⟩
@[simp ↓] theorem wS_skip : wS fSkip sl st PS ↔ PS (.nx sl st) := ⟨fun ⟨r, h, q⟩ => by cases h; exact q, fun h => ⟨_, rfl, h⟩⟩
@[simp ↓] theorem wS_brk : wS fBreak sl st PS ↔ PS (.bk sl st) := ⟨fun ⟨r, h, q⟩ => by cases h; exact q, fun h => ⟨_, rfl, h⟩⟩
@[simp ↓] theorem wS_cnt : wS fCont sl st PS ↔ PS (.ct sl st) := ⟨fun ⟨r, h, q⟩ => by cases h; exact q, fun h => ⟨_, rfl, h⟩⟩
/-- behind a target -/
def wT (g : FG) (v : Val) (sl : Sl) (st : Sto) (Q : Sl → Sto → Prop) (_ : Lk Q := .mk) : Prop := ∃ sl2 st2, g v sl st = some (sl2, st2) ∧ Q sl2 st2
def wTs (g : FGs) (v : List Val) (sl : Sl) (st : Sto) (Q : Sl → Sto → Prop) (_ : Lk Q := .mk) : Prop := ∃ sl2 st2, g v sl st = some (sl2, st2) ∧ Q sl2 st2
def wO (o : Option Sto) (Q : Sto → Prop) (_ : Lk Q := .mk) : Prop := ∃ st', o = some st' ∧ Q st'
@[simp] theorem wO_some {Q : Sto → Prop} : wO (some st) Q ↔ Q st := ⟨fun ⟨_, h, q⟩ => by cases h; exact q, fun q => ⟨_, rfl, q⟩⟩
@[simp] theorem wO_none {Q : Sto → Prop} : wO none Q ↔ False := ⟨fun ⟨_, h, _⟩ => (nomatch h), False.elim⟩
@[simp ↓] theorem wS_asg {g : FG} : wS (fAsg ma g) sl st PS ↔ wX ma sl st (fun v st' => wT g v sl st' fun sl2 st2 => PS (.nx sl2 st2)) (fun c st' => PS (.ex c sl st')) := by
  unfold fAsg
  rw [wS_bnd]
  refine wX_congr fun v st' => ?_
  unfold wS wT
  constructor
  · rintro ⟨r, h, q⟩
    cases h1 : g v sl st' with
    | none => simp [h1] at h
    | some p =>
      simp only [h1] at h
      cases h
      exact ⟨_, _, rfl, q⟩
  · rintro ⟨sl2, st2, h, q⟩
    exact ⟨.nx sl2 st2, by simp only [h], q⟩
@[simp ↓] theorem wT_set {Q : Sl → Sto → Prop} : wT (gSet i) v sl st Q ↔ Q (sl.set i (some v)) st := ⟨fun ⟨_, _, h, q⟩ => by cases h; exact q, fun q => ⟨_, _, rfl, q⟩⟩
@[simp ↓] theorem wTs_no {Q : Sl → Sto → Prop} {xs : List Val} : wTs gNo xs sl st Q ↔ xs = [] ∧ Q sl st := by
  unfold wTs gNo
  cases xs with
  | nil => exact ⟨fun ⟨_, _, h, q⟩ => by cases h; exact ⟨rfl, q⟩, fun ⟨_, q⟩ => ⟨_, _, rfl, q⟩⟩
  | cons x xs => simp
@[simp ↓] theorem wTs_and {Q : Sl → Sto → Prop} {g : FG} {h : FGs} {xs : List Val} : wTs (gAnd g h) xs sl st Q ↔ ∃ x r, xs = x :: r ∧ wT g x sl st fun sl2 st2 => wTs h r sl2 st2 Q := by
  unfold wTs wT gAnd
  cases xs with
  | nil => simp
  | cons x xs =>
    constructor
    · rintro ⟨sl2, st2, h1, q⟩
      cases h2 : g x sl st with
      | none => simp [h2] at h1
      | some p =>
        simp only [h2] at h1
        exact ⟨x, xs, rfl, _, _, h2, sl2, st2, h1, q⟩
    · rintro ⟨_, _, e, sl1, st1, h2, sl2, st2, h1, q⟩
      cases e
      exact ⟨sl2, st2, by simp only [h2]; exact h1, q⟩
@[simp ↓] theorem wT_tupl {Q : Sl → Sto → Prop} {g : FGs} {k : Nat} : wT (gTupl g k) v sl st Q ↔ ∃ xs, v = .tup xs ∧ xs.length = k ∧ wTs g xs sl st Q := by
  unfold wTs wT gTupl
  constructor
  · rintro ⟨sl2, st2, h1, q⟩
    split at h1
    · rename_i xs
      split at h1
      · rename_i hl
        exact ⟨xs, rfl, hl, _, _, h1, q⟩
      · cases h1
    · cases h1
  · rintro ⟨xs, rfl, hl, sl2, st2, h1, q⟩
    exact ⟨sl2, st2, by simp only [if_pos hl]; exact h1, q⟩
@[simp ↓] theorem wT_ix {Q : Sl → Sto → Prop} {f : O3} {mo mi : FE} : wT (gIx f mo mi) v sl st Q ↔ wX mo sl st (fun o st1 => wX mi sl st1 (fun i st2 => wO (f o i v st2) fun st3 => Q sl st3) G0) G0 := by
  unfold wT gIx wX wO
  constructor
  · rintro ⟨sl2, st2, h1, q⟩
    split at h1
    · rename_i o st1 h2
      split at h1
      · rename_i j st3 h3
        split at h1
        · rename_i st4 h4
          cases h1
          exact ⟨_, h2, _, h3, _, h4, q⟩
        · cases h1
      · cases h1
    · cases h1
  · rintro ⟨r, h2, q⟩
    cases r with
    | ex c st1 => exact q.elim
    | ok o st1 =>
      obtain ⟨r2, h3, q⟩ := q
      cases r2 with
      | ex c st1 => exact q.elim
      | ok j st3 =>
        obtain ⟨st4, h4, q⟩ := q
        exact ⟨sl, st4, by simp only [h2, h3, h4], q⟩
@[simp ↓] theorem wS_set : wS (fSet i ma) sl st PS ↔ wX ma sl st (fun v st' => PS (.nx (sl.set i (some v)) st')) (fun c st' => PS (.ex c sl st')) := by
  unfold fSet
  rw [wS_asg]
  refine wX_congr fun v st' => ?_
  exact wT_set
@[simp ↓] theorem wS_expr : wS (fExpr ma) sl st PS ↔ wX ma sl st (fun _ st' => PS (.nx sl st')) (fun c st' => PS (.ex c sl st')) := by
  unfold fExpr
  rw [wS_bnd]
  exact wX_congr fun v st' => ⟨fun ⟨r, h, q⟩ => by cases h; exact q, fun q => ⟨_, rfl, q⟩⟩
@[simp ↓] theorem wS_ret : wS (fRet ma) sl st PS ↔ wX ma sl st (fun v st' => PS (.rt v st')) (fun c st' => PS (.ex c sl st')) := by
  unfold fRet
  rw [wS_bnd]
  exact wX_congr fun v st' => ⟨fun ⟨r, h, q⟩ => by cases h; exact q, fun q => ⟨_, rfl, q⟩⟩
@[simp ↓] theorem wS_retN : wS fRetN sl st PS ↔ PS (.rt .non st) := ⟨fun ⟨r, h, q⟩ => by cases h; exact q, fun h => ⟨_, rfl, h⟩⟩
@[simp ↓] theorem wS_if : wS (fIfS mt m n) sl st PS ↔ wX mt sl st (fun c st' => if c = true then wS m sl st' PS else wS n sl st' PS) (fun c st' => PS (.ex c sl st')) := by
  unfold fIfS
  rw [wS_bnd]
  refine wX_congr fun c st' => ?_
  cases c <;> simp
theorem wF_run {k N : Nat} {as : List Val} (hl : as.length = k) : wF (runF k N m) as st P G ↔ wS m (as.map some ++ List.replicate (N - k) none) st (finP P G) := by
  unfold wF runF wS
  rw [if_pos hl]
  constructor
  · rintro ⟨r, h, q⟩
    split at h <;> rename_i h1
    · cases h; exact ⟨_, h1, q⟩
    · cases h; exact ⟨_, h1, q⟩
    · cases h; exact ⟨_, h1, q⟩
    · cases h
  · rintro ⟨r, h1, h2⟩
    rw [h1]
    cases r with
    | nx sl' st' => exact ⟨_, rfl, h2⟩
    | rt v st' => exact ⟨_, rfl, h2⟩
    | ex c _ st' => exact ⟨_, rfl, h2⟩
    | _ => exact h2.elim
@[simp ↓] theorem wF_iff {k N : Nat} {as : List Val} : wF (runF k N m) as st P G ↔ as.length = k ∧ wS m (as.map some ++ List.replicate (N - k) none) st (finP P G) := by
  by_cases hl : as.length = k
  · rw [wF_run hl]
    exact ⟨fun h => ⟨hl, h⟩, fun h => h.2⟩
  · refine ⟨fun ⟨r, h, _⟩ => ?_, fun h => absurd h.1 hl⟩
    unfold runF at h
    rw [if_neg hl] at h
    cases h
end
end FL
/-! PL2: loops and comprehensions by an invariant; what only grows; a law's well. -/
namespace FL
open PySem PySem.Spec PyProof.Rows L2

/-- behind a loop's turn -/
def lpP (I : Sl → Sto → Prop) (PS : RS → Prop) : RS → Prop
  | .nx sl st => I sl st
  | .ct sl st => I sl st
  | .bk sl st => PS (.nx sl st)
  | r => PS r
theorem ok_of {α : Type} {m : FX α} {sl : Sl} {st : Sto} {P : α → Sto → Prop} (h : wX m sl st P G0) : ∃ a st', m sl st = some (.ok a st') ∧ P a st' := by
  obtain ⟨r, h1, h2⟩ := h
  cases r with
  | ok a st' => exact ⟨a, st', h1, h2⟩
  | ex c st' => exact h2.elim
section
variable {sl sl' : Sl} {st st' : Sto} {v : Val} {PS : RS → Prop} {I : Sl → Sto → Prop} {c : Str} {G : EP'}
@[simp] theorem lpP_nx : lpP I PS (.nx sl st) = I sl st := rfl
@[simp] theorem lpP_ct : lpP I PS (.ct sl st) = I sl st := rfl
@[simp] theorem lpP_bk : lpP I PS (.bk sl st) = PS (.nx sl st) := rfl
@[simp] theorem lpP_ex : lpP I PS (.ex c sl st) = PS (.ex c sl st) := rfl
@[simp] theorem lpP_rt : lpP I PS (.rt v st) = PS (.rt v st) := rfl
open Classical in
theorem forL_run {l : Lv} {all : List Val} {g : FG} {body : FS} {I : Nat → Sl → Sto → Prop} (lv : ∀ i sl st, i ≤ all.length → I i sl st → Live l all st)
    (turn : ∀ i x sl st, all[i]? = some x → I i sl st → ∃ sl1 st1, g x sl st = some (sl1, st1) ∧ wS body sl1 st1 (lpP (I (i + 1)) PS)) (done : ∀ sl st, I all.length sl st → PS (.nx sl st)) :
    ∀ (n i : Nat) (sl : Sl) (st : Sto), n + i = all.length → I i sl st → wS (forL l all g body (all.drop i)) sl st PS
  | 0, i, sl, st, hn, hi => by
    have e : all.drop i = [] := List.drop_eq_nil_of_le (by omega)
    have e2 : i = all.length := by omega
    rw [e]
    subst e2
    exact ⟨.nx sl st, by show (if Live l all st then some (RS.nx sl st) else none) = _; rw [if_pos (lv _ _ _ (Nat.le_refl _) hi)], done _ _ hi⟩
  | n + 1, i, sl, st, hn, hi => by
    have hlt : i < all.length := by omega
    have hx : all[i]? = some all[i] := List.getElem?_eq_getElem hlt
    obtain ⟨sl1, st1, h1, r, h2, h3⟩ := turn i _ sl st hx hi
    rw [List.drop_eq_getElem_cons hlt]
    unfold wS forL
    rw [if_pos (lv _ _ _ (Nat.le_of_lt hlt) hi), h1]
    simp only [h2]
    cases r with
    | nx sl2 st2 => exact forL_run lv turn done n (i + 1) sl2 st2 (by omega) h3
    | ct sl2 st2 => exact forL_run lv turn done n (i + 1) sl2 st2 (by omega) h3
    | bk sl2 st2 => exact ⟨_, rfl, h3⟩
    | rt v st2 => exact ⟨_, rfl, h3⟩
    | ex c sl2 st2 => exact ⟨_, rfl, h3⟩
/-- what is to be shown of a for: an invariant of your own (by the turn, the slots, the store) -/
def ForOb (g : FG) (body : FS) (PS : RS → Prop) (sl : Sl) (b : Itb) (st : Sto) : Prop := ∃ I : Nat → Sl → Sto → Prop, I 0 sl st ∧ (∀ i sl st, i ≤ b.items.length → I i sl st → Live b.live b.items st) ∧
  (∀ i x sl st, b.items[i]? = some x → I i sl st → wT g x sl st fun sl1 st1 => wS body sl1 st1 (lpP (I (i + 1)) PS)) ∧ ∀ sl st, I b.items.length sl st → PS (.nx sl st)
theorem wS_for {mi : FI} {g : FG} {body : FS} (h : wX mi sl st (fun b st1 => ForOb g body PS sl b st1) (fun c st' => PS (.ex c sl st'))) : wS (fFor mi g body) sl st PS :=
  wS_bnd.mpr (h.mono fun b st1 ⟨I, h1, h2, h3, h4⟩ => by
    have := forL_run h2 h3 h4 b.items.length 0 sl st1 (by omega) h1
    simpa using this)
open Classical in
theorem lcL_run {l : Lv} {all : List Val} {g : FG} {t : FT} {m : FE} {J : Nat → List Val → Sto → Prop} (lv : ∀ i acc st, i ≤ all.length → J i acc st → Live l all st)
    (turn : ∀ i x acc st, all[i]? = some x → J i acc st → ∃ sl1 st1, g x sl st = some (sl1, st1) ∧ wX t sl1 st1 (fun b st2 => if b = true then wX m sl1 st2 (fun y st3 => J (i + 1) (acc ++ [y]) st3) G0 else J (i + 1) acc st2) G0) :
    ∀ (n i : Nat) (acc : List Val) (st : Sto), n + i = all.length → J i acc st → ∃ ys st', lcL l all g t m sl (all.drop i) st = some (ys, st') ∧ J all.length (acc ++ ys) st'
  | 0, i, acc, st, hn, hi => by
    have e : all.drop i = [] := List.drop_eq_nil_of_le (by omega)
    have e2 : i = all.length := by omega
    rw [e]
    subst e2
    exact ⟨[], st, by show (if Live l all st then some (([] : List Val), st) else none) = _; rw [if_pos (lv _ _ _ (Nat.le_refl _) hi)], by simpa using hi⟩
  | n + 1, i, acc, st, hn, hi => by
    have hlt : i < all.length := by omega
    have hx : all[i]? = some all[i] := List.getElem?_eq_getElem hlt
    obtain ⟨sl1, st1, h1, h9⟩ := turn i _ acc st hx hi
    obtain ⟨b, st2, h2, h3⟩ := ok_of h9
    rw [List.drop_eq_getElem_cons hlt]
    unfold lcL
    rw [if_pos (lv _ _ _ (Nat.le_of_lt hlt) hi), h1]
    simp only [h2]
    cases b with
    | false =>
      have h4 : J (i + 1) acc st2 := by simpa using h3
      exact lcL_run lv turn n (i + 1) acc st2 (by omega) h4
    | true =>
      have h4 : wX m sl1 st2 (fun y st3 => J (i + 1) (acc ++ [y]) st3) G0 := by simpa using h3
      obtain ⟨y, st3, h5, h6⟩ := ok_of h4
      simp only [h5]
      obtain ⟨ys, st4, h7, h8⟩ := lcL_run lv turn n (i + 1) _ st3 (by omega) h6
      exact ⟨y :: ys, st4, by rw [h7], by simpa using h8⟩
/-- what is to be shown of a comprehension: an invariant by the turn, what is made so far, the store -/
def LcOb (g : FG) (t : FT) (m : FE) (P : Val → Sto → Prop) (sl : Sl) (b : Itb) (st : Sto) : Prop := b.items.length ≤ LINE ∧ ∃ J : Nat → List Val → Sto → Prop, J 0 [] st ∧ (∀ i acc st, i ≤ b.items.length → J i acc st → Live b.live b.items st) ∧
  (∀ i x acc st, b.items[i]? = some x → J i acc st → wT g x sl st fun sl1 st1 => wX t sl1 st1 (fun c st2 => if c = true then wX m sl1 st2 (fun y st3 => J (i + 1) (acc ++ [y]) st3) G0 else J (i + 1) acc st2) G0) ∧
  ∀ acc st, J b.items.length acc st → P (.ref st.length) (st ++ [.lst acc])
theorem wX_lc {mi : FI} {g : FG} {t : FT} {m : FE} {vs : List Nat} {P : Val → Sto → Prop} (h : wX mi sl st (fun b st1 => LcOb g t m P (wipeL sl vs) b st1) G) : wX (fLc mi g t m vs) sl st P G := by
  unfold fLc
  rw [wX_bnd]
  refine h.mono fun b st1 ⟨h0, J, h1, h2, h3, h4⟩ => ?_
  obtain ⟨ys, st', h5, h6⟩ := lcL_run (sl := wipeL sl vs) h2 h3 b.items.length 0 [] st1 (by omega) h1
  refine ⟨.ok _ _, ?_, h4 _ _ (by simpa using h6)⟩
  simp only [if_pos h0]
  rw [List.drop_zero] at h5
  rw [h5]
@[simp ↓] theorem wX_yes {PB : Bool → Sto → Prop} : wX fYes sl st PB G ↔ PB true st := wX_ret
@[simp ↓] theorem wX_it {me : FE} {Q : Itb → Sto → Prop} : wX (fIt me) sl st Q G ↔ wX me sl st (fun x st' => ∃ b, asIt st' x = some b ∧ Q b st') G := by
  simp only [fIt, wX_bnd]
  refine wX_congr fun x st' => ?_
  unfold wX
  constructor
  · rintro ⟨r, h1, q⟩
    obtain ⟨b, h2, rfl⟩ := Option.map_eq_some_iff.mp h1
    exact ⟨b, h2, q⟩
  · rintro ⟨b, h1, q⟩
    exact ⟨.ok b st', by simp only [h1]; rfl, q⟩
@[simp ↓] theorem wX_rng1 {mas : FA} {Q : Itb → Sto → Prop} : wX (fRng1 mas) sl st Q G ↔ wX mas sl st (fun xs st' => ∃ j, xs = [.int j] ∧ small62 j ∧ Q ⟨rngL 0 j.toNat, .none⟩ st') G := by
  simp only [fRng1, wX_bnd]
  refine wX_congr fun x st' => ?_
  unfold wX
  constructor
  · rintro ⟨r, h1, q⟩
    split at h1
    · split at h1
      · rename_i hj
        cases h1
        exact ⟨_, rfl, hj, q⟩
      · cases h1
    · cases h1
  · rintro ⟨j, rfl, hj, q⟩
    exact ⟨.ok _ _, by simp [hj], q⟩
@[simp ↓] theorem wX_rng2 {mas : FA} {Q : Itb → Sto → Prop} : wX (fRng2 mas) sl st Q G ↔ wX mas sl st (fun xs st' => ∃ i j, xs = [.int i, .int j] ∧ (small62 i ∧ small62 j) ∧ Q ⟨rngL i (j - i).toNat, .none⟩ st') G := by
  simp only [fRng2, wX_bnd]
  refine wX_congr fun x st' => ?_
  unfold wX
  constructor
  · rintro ⟨r, h1, q⟩
    split at h1
    · split at h1
      · rename_i hj
        cases h1
        exact ⟨_, _, rfl, hj, q⟩
      · cases h1
    · cases h1
  · rintro ⟨i, j, rfl, hj, q⟩
    exact ⟨.ok _ _, by simp [hj], q⟩
end
theorem rngL_get {lo : Int} {n i : Nat} {x : Val} (h : (rngL lo n)[i]? = some x) : i < n ∧ x = .int (lo + i) := by
  unfold rngL at h
  rw [List.getElem?_map] at h
  obtain ⟨j, h1, rfl⟩ := Option.map_eq_some_iff.mp h
  have hi := (List.getElem?_eq_some_iff.mp h1).1
  rw [List.length_range] at hi
  rw [List.getElem?_range hi] at h1
  cases h1
  exact ⟨hi, rfl⟩
@[simp] theorem rngL_len {lo : Int} {n : Nat} : (rngL lo n).length = n := by unfold rngL; simp
@[simp] theorem wipeL_nil {sl : Sl} : wipeL sl [] = sl := rfl
@[simp] theorem wipeL_cons {sl : Sl} {v : Nat} {vs : List Nat} : wipeL sl (v :: vs) = (wipeL sl vs).set v none := rfl
@[simp] theorem live_none {xs : List Val} {st : Sto} : Live .none xs st := trivial

/-! ### xs[i:j] = ys -/
def slcO (o : Val) (l u : Option Int) (v : Val) (st : Sto) : Option Sto := match o, l, u, v with
  | .ref l, some i, some c, .ref b => match st[l]?, st[b]? with
    | some (Ob.lst xs), some (Ob.lst ys) => if l ≠ b ∧ 0 ≤ i ∧ i ≤ c ∧ i ≤ xs.length ∧ xs.length + ys.length ≤ LINE then some (st.set l (Ob.lst (xs.take i.toNat ++ ys ++ xs.drop (min c.toNat xs.length)))) else none
    | _, _ => none
  | _, _, _, _ => none
theorem wT_slc {mo : FE} {lo hi : FO} {v : Val} {sl : Sl} {st : Sto} {Q : Sl → Sto → Prop} (h : wX mo sl st (fun o st1 => wX lo sl st1 (fun l st2 => wX hi sl st2 (fun u st3 => wO (slcO o l u v st3) fun st4 => Q sl st4) G0) G0) G0) : wT (gSlc mo lo hi) v sl st Q := by
  obtain ⟨o, st1, h1, h⟩ := ok_of h
  obtain ⟨l, st2, h2, h⟩ := ok_of h
  obtain ⟨u, st3, h3, h⟩ := ok_of h
  obtain ⟨st4, h4, q⟩ := h
  unfold slcO at h4
  split at h4
  · rename_i l' i c b
    split at h4
    · rename_i xs ys g1 g2
      split at h4
      · rename_i g3
        cases h4
        refine ⟨sl, _, ?_, q⟩
        unfold gSlc
        simp only [h1, h2, h3, g1, g2]
        exact if_pos g3
      · cases h4
    · cases h4
  · cases h4
theorem slcO_ref {l b : Nat} {i c : Int} {st : Sto} {xs ys : List Val} (g1 : st[l]? = some (Ob.lst xs)) (g2 : st[b]? = some (Ob.lst ys)) (h1 : l ≠ b) (h2 : 0 ≤ i) (h3 : i ≤ c) (h4 : i ≤ xs.length) (h5 : xs.length + ys.length ≤ LINE) :
    slcO (.ref l) (some i) (some c) (.ref b) st = some (st.set l (Ob.lst (xs.take i.toNat ++ ys ++ xs.drop (min c.toNat xs.length)))) := by
  show (match st[l]?, st[b]? with
    | some (Ob.lst xs), some (Ob.lst ys) => if l ≠ b ∧ 0 ≤ i ∧ i ≤ c ∧ i ≤ xs.length ∧ xs.length + ys.length ≤ LINE then some (st.set l (Ob.lst (xs.take i.toNat ++ ys ++ xs.drop (min c.toNat xs.length)))) else none
    | _, _ => none) = _
  rw [g1, g2]
  exact if_pos ⟨h1, h2, h3, h4, h5⟩

/-! ### what only grows; all but the number w stays -/
def Dr (w : Nat) (st st' : Sto) : Prop := st.length ≤ st'.length ∧ ∀ i, i < st.length → i ≠ w → st'[i]? = st[i]?
def Ap (st st' : Sto) : Prop := ∃ l, st' = st ++ l
theorem Dr.refl (w : Nat) (st : Sto) : Dr w st st := ⟨Nat.le_refl _, fun _ _ _ => rfl⟩
theorem Dr.trans {w : Nat} {a b c : Sto} (h : Dr w a b) (k : Dr w b c) : Dr w a c := ⟨Nat.le_trans h.1 k.1, fun i hi hw => (k.2 i (Nat.lt_of_lt_of_le hi h.1) hw).trans (h.2 i hi hw)⟩
theorem Dr.get {w : Nat} {st st' : Sto} (h : Dr w st st') {i : Nat} {o : Ob} (hw : i ≠ w) (g : st[i]? = some o) : st'[i]? = some o := by
  rw [h.2 i (List.getElem?_eq_some_iff.mp g).1 hw]
  exact g
theorem Ap.refl (st : Sto) : Ap st st := ⟨[], by simp⟩
theorem Ap.trans {a b c : Sto} (h : Ap a b) (k : Ap b c) : Ap a c := by
  obtain ⟨l, rfl⟩ := h
  obtain ⟨m, rfl⟩ := k
  exact ⟨l ++ m, by simp⟩
theorem Ap.one (st : Sto) (o : Ob) : Ap st (st ++ [o]) := ⟨[o], rfl⟩
theorem Ap.get {st st' : Sto} (h : Ap st st') {i : Nat} {o : Ob} (g : st[i]? = some o) : st'[i]? = some o := by
  obtain ⟨l, rfl⟩ := h
  rw [List.getElem?_append_left (List.getElem?_eq_some_iff.mp g).1]
  exact g
theorem Ap.le {st st' : Sto} (h : Ap st st') : st.length ≤ st'.length := by
  obtain ⟨l, rfl⟩ := h
  simp
theorem Ap.dr {w : Nat} {st st' : Sto} (h : Ap st st') : Dr w st st' := by
  obtain ⟨l, rfl⟩ := h
  exact ⟨by simp, fun i hi _ => List.getElem?_append_left hi⟩
theorem Dr.set {w : Nat} {st : Sto} (o : Ob) : Dr w st (st.set w o) := ⟨by simp, fun i hi hw => by rw [List.getElem?_set_ne (Ne.symm hw)]⟩
theorem Dr.app {w : Nat} {st st' : Sto} (h : Dr w st st') (o : Ob) : Dr w st (st' ++ [o]) := h.trans (Ap.one _ _).dr
/-- something new may change -/
theorem Dr.new {w : Nat} {st st' : Sto} (h : Dr w st st') {i : Nat} (o : Ob) (hi : st.length ≤ i) : Dr w st (st'.set i o) := ⟨by simpa using h.1, fun j hj hw => by rw [List.getElem?_set_ne (by omega)]; exact h.2 j hj hw⟩

/-! ### the well of a law -/
def WellAt (w : Nat) (st : Sto) : Prop := ∃ c s p : Int, st[w]? = some (.lst [.int c, .int s, .int p]) ∧ 0 ≤ s ∧ s ≤ 2147483648 ∧ 0 < p ∧ p ≤ 2147483647
theorem WellAt.ap {w : Nat} {st st' : Sto} (h : WellAt w st) (a : Ap st st') : WellAt w st' := by
  obtain ⟨c, s, p, h1, h2⟩ := h
  exact ⟨c, s, p, a.get h1, h2⟩
theorem WellAt.lt {w : Nat} {st : Sto} (h : WellAt w st) : w < st.length := by
  obtain ⟨c, s, p, h1, h2⟩ := h
  exact (List.getElem?_eq_some_iff.mp h1).1
theorem WellAt.set {w i : Nat} {st : Sto} (h : WellAt w st) (o : Ob) (hi : i ≠ w) : WellAt w (st.set i o) := by
  obtain ⟨c, s, p, h1, h2⟩ := h
  exact ⟨c, s, p, by rw [List.getElem?_set_ne hi]; exact h1, h2⟩
/-- a comprehension whose parts change nothing that was there: (xs.filter q).map f -/
theorem LcOb.fm {g : FG} {t : FT} {m : FE} {P : Val → Sto → Prop} {sl : Sl} {b : Itb} {st : Sto} (q : Val → Bool) (f : Val → Val) (hl : b.items.length ≤ LINE) (hv : ∀ st', Ap st st' → Live b.live b.items st')
    (h : ∀ x ∈ b.items, ∀ st1, Ap st st1 → wT g x sl st1 fun sl1 st2 => wX t sl1 st2 (fun c st3 => c = q x ∧ Ap st1 st3 ∧ (q x = true → wX m sl1 st3 (fun y st4 => y = f x ∧ Ap st1 st4) G0)) G0)
    (done : ∀ st', Ap st st' → P (.ref st'.length) (st' ++ [.lst ((b.items.filter q).map f)])) : LcOb g t m P sl b st := by
  refine ⟨hl, fun i acc st' => acc = ((b.items.take i).filter q).map f ∧ Ap st st', ⟨by simp, Ap.refl _⟩, fun i acc st' _ h => hv st' h.2, ?_, ?_⟩
  · rintro i x acc st1 hx ⟨rfl, a1⟩
    have hm : x ∈ b.items := List.mem_of_getElem? hx
    have ht : b.items.take (i + 1) = b.items.take i ++ [x] := by
      rw [List.take_add_one, hx]
      rfl
    obtain ⟨sl1, st2, h1, h2⟩ := h x hm st1 a1
    refine ⟨sl1, st2, h1, h2.mono ?_⟩
    rintro c st3 ⟨rfl, a3, h3⟩
    cases hq : q x with
    | true =>
      simp
      refine (h3 hq).mono ?_
      rintro y st4 ⟨rfl, a4⟩
      exact ⟨by rw [ht]; simp [hq], a1.trans a4⟩
    | false =>
      simp
      exact ⟨by rw [ht]; simp [hq], a1.trans a3⟩
  · rintro acc st' ⟨rfl, a⟩
    rw [List.take_length]
    exact done st' a
end FL
/-! PL3: the operations on values that are seen. -/
namespace FL
open PySem PySem.Spec PyProof.Rows L2
@[simp] theorem LINE_def : LINE = 16777216 := rfl
section
variable {st : Sto} {i j : Int} {s t : List Nat} {xs ys : List Val} {p q : Nat} {v w : Val}
@[simp] theorem fAdd_int : fAdd (.int i) (.int j) st = some (.int (i + j), st) := rfl
@[simp] theorem fAdd_str (h : s.length + t.length ≤ LINE) : fAdd (.str s) (.str t) st = some (.str (s ++ t), st) := if_pos h
@[simp] theorem fAdd_tup (h : xs.length + ys.length ≤ LINE) : fAdd (.tup xs) (.tup ys) st = some (.tup (xs ++ ys), st) := if_pos h
theorem fAdd_ref (h1 : st[p]? = some (Ob.lst xs)) (h2 : st[q]? = some (Ob.lst ys)) (h : xs.length + ys.length ≤ LINE) : fAdd (.ref p) (.ref q) st = some (.ref st.length, st ++ [Ob.lst (xs ++ ys)]) := by
  show (match st[p]?, st[q]? with | some (Ob.lst xs), some (Ob.lst ys) => if xs.length + ys.length ≤ LINE then some (Val.ref st.length, st ++ [Ob.lst (xs ++ ys)]) else none | _, _ => none) = _
  rw [h1, h2]
  exact if_pos h
@[simp] theorem fSub_int : fSub (.int i) (.int j) st = some (.int (i - j), st) := rfl
@[simp] theorem fMod_int (h : 0 < j) : fMod (.int i) (.int j) st = some (.int (i % j), st) := if_pos h
@[simp] theorem fDiv_int (h1 : 0 < j) (h2 : j < 1073741824) : fDiv (.int i) (.int j) st = some (.int (i / j), st) := if_pos ⟨h1, h2⟩
@[simp] theorem fMul_r (h1 : -(2 ^ 64) < j) (h2 : j < 2 ^ 64) : fMul (.int i) (.int j) st = some (.int (i * j), st) := if_pos (.inr ⟨h1, h2⟩)
theorem fMul_l (h1 : -(2 ^ 64) < i) (h2 : i < 2 ^ 64) : fMul (.int i) (.int j) st = some (.int (i * j), st) := if_pos (.inl ⟨h1, h2⟩)
@[simp] theorem fMul_str (h1 : 0 ≤ j) (h2 : j ≤ 1000) (h3 : s.length ≤ 1000) : fMul (.str s) (.int j) st = some (.str (reps j.toNat s), st) := if_pos ⟨h1, h2, h3⟩
theorem fMul_tup (h1 : 2 ≤ j) (h2 : j ≤ 1000) (h3 : xs.length ≤ 1000) (h4 : xs ≠ []) : fMul (.tup xs) (.int j) st = some (.tup (reps j.toNat xs), st) := if_pos ⟨h1, h2, h3, h4⟩
@[simp] theorem fPow_10_18 : fPow (.int 10) (.int 18) st = some (.int (10 ^ 18), st) := rfl
@[simp] theorem fPow_10_11 : fPow (.int 10) (.int 11) st = some (.int (10 ^ 11), st) := rfl
@[simp] theorem fLt_int : fLt (.int i) (.int j) st = some (.bl (decide (i < j)), st) := rfl
@[simp] theorem fLe_int : fLe (.int i) (.int j) st = some (.bl (decide (i ≤ j)), st) := rfl
@[simp] theorem fGt_int : fGt (.int i) (.int j) st = some (.bl (decide (j < i)), st) := rfl
@[simp] theorem fGe_int : fGe (.int i) (.int j) st = some (.bl (decide (j ≤ i)), st) := rfl
@[simp] theorem fLt_str : fLt (.str s) (.str t) st = some (.bl (decide (s < t)), st) := rfl
@[simp] theorem fLe_str : fLe (.str s) (.str t) st = some (.bl (!decide (t < s)), st) := rfl
@[simp] theorem atI_0 {α : Type} {a : α} {l : List α} : L2.atI (a :: l) 0 = some a := by simp [L2.atI, ixN]
@[simp] theorem atI_1 {α : Type} {a b : α} {l : List α} : L2.atI (a :: b :: l) 1 = some b := by
  have : (1 : Int) < (l.length : Int) + 1 + 1 := by omega
  simp [L2.atI, ixN, this]
@[simp] theorem atI_2 {α : Type} {a b c : α} {l : List α} : L2.atI (a :: b :: c :: l) 2 = some c := by
  have : (2 : Int) < (l.length : Int) + 1 + 1 + 1 := by omega
  simp [L2.atI, ixN, this]
theorem atI_at {α : Type} {l : List α} {i : Int} (h0 : 0 ≤ i) (h1 : i < l.length) : L2.atI l i = l[i.toNat]? := by
  simp [L2.atI, ixN, h0, h1]
@[simp] theorem fIx_tup : fIx (.tup xs) (.int i) st = (L2.atI xs i).map fun v => (v, st) := rfl
@[simp] theorem fIx_ref (h : st[p]? = some (Ob.lst xs)) : fIx (.ref p) (.int i) st = (L2.atI xs i).map fun v => (v, st) := by
  unfold fIx
  simp only [h]
@[simp] theorem fIx_scr {ns : List Int} : fIx (.scr ns) (.int i) st = (L2.atI ns i).map fun n => (.int n, st) := rfl
@[simp] theorem fIx_str (h : s.length ≤ LINE) : fIx (.str s) (.int i) st = (L2.atI s i).map fun c => (.str [c], st) := if_pos h
@[simp] theorem fSl_str {lo hi : Option Int} (h : s.length ≤ LINE) : fSl (.str s) lo hi st = some (.str (cutG s lo hi), st) := if_pos h
@[simp] theorem fSl_tup {lo hi : Option Int} : fSl (.tup xs) lo hi st = some (.tup (cutG xs lo hi), st) := rfl
@[simp] theorem fSl_ref {lo hi : Option Int} (h : st[p]? = some (Ob.lst xs)) : fSl (.ref p) lo hi st = some (.ref st.length, st ++ [Ob.lst (cutG xs lo hi)]) := by
  show (match st[p]? with | some (Ob.lst xs) => some (Val.ref st.length, st ++ [Ob.lst (cutG xs lo hi)]) | _ => none) = _
  rw [h]
@[simp] theorem revO_ref (h : st[p]? = some (Ob.lst xs)) : revO st (.ref p) = some (.ref st.length, st ++ [Ob.lst xs.reverse]) := by
  show (match st[p]? with | some (Ob.lst xs) => some (Val.ref st.length, st ++ [Ob.lst xs.reverse]) | _ => none) = _
  rw [h]
@[simp] theorem fSetI_ref (h : st[p]? = some (Ob.lst xs)) : fSetI (.ref p) (.int i) v st = (ixN xs.length i).map fun n => st.set p (Ob.lst (xs.set n v)) := by
  unfold fSetI
  simp only [h]
@[simp] theorem ixN_0 {n : Nat} (h : 0 < n) : ixN n 0 = some 0 := by simp [ixN, h]
@[simp] theorem ixN_1 {n : Nat} (h : 1 < n) : ixN n 1 = some 1 := by
  have : (1 : Int) < (n : Int) := by omega
  simp [ixN, this]
@[simp] theorem ixN_2 {n : Nat} (h : 2 < n) : ixN n 2 = some 2 := by
  have : (2 : Int) < (n : Int) := by omega
  simp [ixN, this]
@[simp] theorem ixN_m1 {n : Nat} (h : 0 < n) : ixN n (-1) = some (n - 1) := by
  have h1 : -(n : Int) ≤ -1 := by omega
  have h2 : (-1 + (n : Int)).toNat = n - 1 := by omega
  simp [ixN, h1, h2]
theorem ixN_at {n : Nat} (h0 : 0 ≤ i) (h1 : i < n) : ixN n i = some i.toNat := by simp [ixN, h0, h1]
@[simp] theorem fLen_str (h : s.length ≤ LINE) : fLen [.str s] st = some (.int s.length, st) := if_pos h
@[simp] theorem fLen_tup : fLen [.tup xs] st = some (.int xs.length, st) := rfl
@[simp] theorem fLen_scr {ns : List Int} : fLen [.scr ns] st = some (.int ns.length, st) := rfl
@[simp] theorem fLen_ref (h : st[p]? = some (Ob.lst xs)) : fLen [.ref p] st = some (.int xs.length, st) := by
  show (match st[p]? with | some (Ob.lst xs) => some (Val.int xs.length, st) | _ => none) = _
  rw [h]
@[simp] theorem fOrd_one {c : Nat} : fOrd [.str [c]] st = some (.int c, st) := rfl
@[simp] theorem fAll_ref (h : st[p]? = some (Ob.lst xs)) : fAll [.ref p] st = (allB xs).map fun c => (.bl c, st) := by
  show (match st[p]? with | some (Ob.lst xs) => (allB xs).map (fun c => (Val.bl c, st)) | _ => none) = _
  rw [h]
@[simp] theorem fAny_ref (h : st[p]? = some (Ob.lst xs)) : fAny [.ref p] st = (anyB xs).map fun c => (.bl c, st) := by
  show (match st[p]? with | some (Ob.lst xs) => (anyB xs).map (fun c => (Val.bl c, st)) | _ => none) = _
  rw [h]
@[simp] theorem allB_map (bs : List Bool) : allB (bs.map Val.bl) = some (bs.all id) := by
  induction bs with
  | nil => rfl
  | cons b bs ih =>
    show (match allB (bs.map Val.bl) with | some c => some (b && c) | none => none) = _
    rw [ih]
    rfl
@[simp] theorem allB_comp {α : Type} (f : α → Bool) (l : List α) : allB (l.map (Val.bl ∘ f)) = some (l.all f) := by
  rw [← List.map_map, allB_map, List.all_map]
  rfl
@[simp] theorem allB_fun {α : Type} (f : α → Bool) (l : List α) : allB (l.map fun x => Val.bl (f x)) = some (l.all f) := allB_comp f l
@[simp] theorem anyB_map (bs : List Bool) : anyB (bs.map Val.bl) = some (bs.any id) := by
  induction bs with
  | nil => rfl
  | cons b bs ih =>
    show (match anyB (bs.map Val.bl) with | some c => some (b || c) | none => none) = _
    rw [ih]
    rfl
@[simp] theorem fListOf_tup : fListOf [.tup xs] st = some (.ref st.length, st ++ [Ob.lst xs]) := rfl
@[simp] theorem fListOf_ref (h : st[p]? = some (Ob.lst xs)) : fListOf [.ref p] st = some (.ref st.length, st ++ [Ob.lst xs]) := by
  show (match st[p]? with | some (Ob.lst xs) => some (Val.ref st.length, st ++ [Ob.lst xs]) | _ => none) = _
  rw [h]
@[simp] theorem fTupOf_tup : fTupOf [.tup xs] st = some (.tup xs, st) := rfl
@[simp] theorem fTupOf_ref (h : st[p]? = some (Ob.lst xs)) : fTupOf [.ref p] st = some (.tup xs, st) := by
  show (match st[p]? with | some (Ob.lst xs) => some (Val.tup xs, st) | _ => none) = _
  rw [h]
@[simp] theorem fJoin_ref {ss : List (List Nat)} (h : st[p]? = some (Ob.lst (ss.map Val.str))) (h2 : (ss.map List.length).sum + ss.length * s.length ≤ LINE) : fJoin (.str s) [.ref p] st = some (.str (jn s ss), st) := by
  have e : strsOf (ss.map Val.str) = some ss := by
    clear h h2
    induction ss with
    | nil => rfl
    | cons b bs ih =>
      show (match strsOf (bs.map Val.str) with | some ss => some (b :: ss) | none => none) = _
      rw [ih]
  show (match st[p]? with
    | some (Ob.lst ys) => (match strsOf ys with
      | some ss => if (ss.map List.length).sum + ss.length * s.length ≤ LINE then some (Val.str (jn s ss), st) else none
      | none => none)
    | _ => none) = _
  rw [h]
  simp only [e]
  exact if_pos h2
theorem jn_nil : ∀ (ss : List (List Nat)), jn [] ss = ss.flatten
  | [] => rfl
  | p :: ss => by
    show ss.foldl (fun acc q => acc ++ [] ++ q) p = p ++ ss.flatten
    have : ∀ (l : List (List Nat)) (a : List Nat), l.foldl (fun acc q => acc ++ [] ++ q) a = a ++ l.flatten := fun l => by
      induction l with
      | nil => intro a; simp
      | cons x l ih => intro a; rw [List.foldl_cons, ih]; simp
    exact this ss p
@[simp] theorem fMin2_int : fMin2 [.int i, .int j] st = some (.int (if j < i then j else i), st) := rfl
@[simp] theorem fMax2_int : fMax2 [.int i, .int j] st = some (.int (if j > i then j else i), st) := rfl
@[simp] theorem kind_str : kindOf "str" st (.str s) = true := rfl
theorem kind_lst (h : st[p]? = some (Ob.lst xs)) : kindOf "list" st (.ref p) = true := by
  show (match st[p]? with | some (.lst _) => "list" == "list" | some (.dic _) => "list" == "dict" | _ => false) = true
  rw [h]
  rfl
theorem onL_ref {g : List Val → List Val → Option (Val × List Val)} (h : st[p]? = some (Ob.lst xs)) : onL g (.ref p) ys st = (g xs ys).map fun (r : Val × List Val) => (r.1, st.set p (Ob.lst r.2)) := by
  show (match st[p]? with | some (Ob.lst zs) => (g zs ys).map (fun (r : Val × List Val) => (r.1, st.set p (Ob.lst r.2))) | _ => none) = _
  rw [h]
@[simp] theorem gAppend_one (h : xs.length < LINE) : gAppend xs [v] = some (.non, xs ++ [v]) := if_pos h
@[simp] theorem asIt_tup : asIt st (.tup xs) = some ⟨xs, .none⟩ := rfl
@[simp] theorem asIt_str : asIt st (.str s) = some ⟨s.map fun c => .str [c], .none⟩ := rfl
@[simp] theorem asIt_ref (h : st[p]? = some (Ob.lst xs)) : asIt st (.ref p) = some ⟨xs, .some p⟩ := by
  show (match st[p]? with | some (Ob.lst xs) => some (Itb.mk xs (.some p)) | _ => none) = _
  rw [h]
/-! dicts -/
variable {kvs : List (Key × Val)} {k : Key} {y : Val}
@[simp] theorem keyOf_str : keyOf (.str s) = some (.inr (St' s)) := rfl
@[simp] theorem keyOf_int : keyOf (.int i) = some (.inl i) := rfl
@[simp] theorem fIx_dic (h : st[p]? = some (Ob.dic kvs)) (hk : keyOf y = some k) : fIx (.ref p) y st = (getK kvs k).map fun v => (v, st) := by
  cases y <;> first
    | (cases hk; done)
    | (unfold fIx
       simp only [h, hk, Option.bind_some])
theorem fSetI_dic (h : st[p]? = some (Ob.dic kvs)) (hk : keyOf y = some k) (hl : kvs.length < LINE) : fSetI (.ref p) y v st = some (st.set p (Ob.dic (setK kvs k v))) := by
  unfold fSetI
  simp only [h, hk, Option.bind_some]
  exact if_pos hl
theorem fDGet_one (h : st[p]? = some (Ob.dic kvs)) (hk : keyOf y = some k) : fDGet (.ref p) [y] st = some ((getK kvs k).getD .non, st) := by
  unfold fDGet
  simp only [h, hk, Option.map_some]
theorem fDGet_two (h : st[p]? = some (Ob.dic kvs)) (hk : keyOf y = some k) : fDGet (.ref p) [y, v] st = some ((getK kvs k).getD v, st) := by
  unfold fDGet
  simp only [h, hk, Option.map_some]
theorem kind_dic (h : st[p]? = some (Ob.dic kvs)) : kindOf "dict" st (.ref p) = true := by
  unfold kindOf
  simp only [h]
  rfl
@[simp] theorem fIsN_non : fIsN v .non st = some (.bl (nonB v), st) := rfl
@[simp] theorem fNotN_non : fNotN v .non st = some (.bl (!nonB v), st) := rfl
@[simp] theorem nonB_non : nonB .non = true := rfl
@[simp] theorem nonB_int : nonB (.int i) = false := rfl
@[simp] theorem nonB_str : nonB (.str s) = false := rfl
@[simp] theorem nonB_tup : nonB (.tup xs) = false := rfl
@[simp] theorem nonB_ref : nonB (.ref p) = false := rfl
@[simp] theorem fIn_sign {c : Nat} : fIn (.str [c]) (.str t) st = some (.bl (decide (c ∈ t)), st) := rfl
@[simp] theorem fNotIn_sign {c : Nat} : fNotIn (.str [c]) (.str t) st = some (.bl (!decide (c ∈ t)), st) := rfl
theorem fIn_dic (h : st[p]? = some (Ob.dic kvs)) (hk : keyOf y = some k) : fIn y (.ref p) st = some (.bl (getK kvs k).isSome, st) := by
  unfold fIn fInB
  simp only [h, hk, Option.map_some]
theorem fNotIn_dic (h : st[p]? = some (Ob.dic kvs)) (hk : keyOf y = some k) : fNotIn y (.ref p) st = some (.bl (!(getK kvs k).isSome), st) := by
  unfold fNotIn fInB
  simp only [h, hk, Option.map_some]
@[simp] theorem fInt1_int : fInt1 [.int i] st = some (.int i, st) := rfl
@[simp] theorem fInt1_bl {b : Bool} : fInt1 [.bl b] st = some (.int (if b then 1 else 0), st) := rfl
@[simp] theorem fIAdd_int : fIAdd (.int i) (.int j) st = some (.int (i + j), st) := rfl
@[simp] theorem fIAdd_str (h : s.length + t.length ≤ LINE) : fIAdd (.str s) (.str t) st = some (.str (s ++ t), st) := if_pos h
@[simp] theorem fMulL_int : fMulL (.int i) (.int j) st = fMul (.int i) (.int j) st := rfl
@[simp] theorem fMulL_str : fMulL (.str s) (.int j) st = fMul (.str s) (.int j) st := rfl
@[simp] theorem fMulL_tup : fMulL (.tup xs) (.int j) st = fMul (.tup xs) (.int j) st := rfl
theorem fMulL_ref (h : st[p]? = some (Ob.lst xs)) (h1 : -(2 ^ 62) ≤ j) (h2 : j < 2 ^ 62) (h3 : xs.length * j.toNat ≤ LINE) : fMulL (.ref p) (.int j) st = some (.ref st.length, st ++ [Ob.lst (reps j.toNat xs)]) := by
  unfold fMulL
  simp only [h]
  exact if_pos ⟨h1, h2, h3⟩
@[simp] theorem asEnum_tup : asEnum st (.tup xs) = some ⟨enumV xs, .none⟩ := rfl
@[simp] theorem asEnum_str : asEnum st (.str s) = some ⟨enumV (s.map fun c => .str [c]), .none⟩ := rfl
@[simp] theorem asEnum_ref (h : st[p]? = some (Ob.lst xs)) : asEnum st (.ref p) = some ⟨enumV xs, .two p xs p xs⟩ := by
  unfold asEnum
  simp only [h]
@[simp] theorem asRev_tup : asRev st (.tup xs) = some ⟨xs.reverse, .none⟩ := rfl
@[simp] theorem asRev_ref (h : st[p]? = some (Ob.lst xs)) : asRev st (.ref p) = some ⟨xs.reverse, .two p xs p xs⟩ := by
  unfold asRev
  simp only [h]
theorem gExtend_ref (h1 : st[p]? = some (Ob.lst xs)) (h2 : st[q]? = some (Ob.lst ys)) (hl : xs.length + ys.length ≤ LINE) : gExtend (.ref p) [.ref q] st = some (.non, st.set p (Ob.lst (xs ++ ys))) := by
  unfold gExtend
  simp only [h1, h2]
  exact if_pos hl
/-! isinstance -/
def isiB (t : String) (st : Sto) (v : Val) : Option Bool := match tyN st v with
  | some n => isSub n t
  | none => none
theorem fIsi_eq {t : String} {c : Bool} (h : isiB t st v = some c) : fIsi [v, .ty t] st = some (.bl c, st) := by
  unfold isiB at h
  show (match tyN st v with | some n => (isSub n t).map (fun c => (Val.bl c, st)) | none => none) = _
  cases h1 : tyN st v with
  | none => rw [h1] at h; cases h
  | some n =>
    rw [h1] at h
    simp only [h]
    rfl
end
end FL
/-! PL4: ==; things of any kind, bounded in depth and size. -/
namespace FL
open PySem PySem.Spec PyProof.Rows L2

/-- a text of bounded size and of usual signs -/
def OkS (c : Nat) (s : List Nat) : Prop := s.length ≤ c ∧ ∀ x ∈ s, x < 128
theorem OkS.mono {c d : Nat} {s : List Nat} (h : OkS c s) (e : c ≤ d) : OkS d s := ⟨Nat.le_trans h.1 e, h.2⟩
theorem strOk_of {s : List Nat} (h : ∀ x ∈ s, x < 128) : PyData.strOk (St' s) = true := by
  unfold PyData.strOk
  rw [Array.all_eq_true]
  intro i hi
  have h1 : s.toArray[i] ∈ s := by
    rw [List.getElem_toArray]
    exact List.getElem_mem _
  have h2 := h _ h1
  exact decide_eq_true (Nat.lt_trans h2 (by decide))
/-- a thing of bounded depth and size, none of its lists among the numbers B -/
def Gd (B : Nat → Prop) (c : Nat) (st : Sto) : Nat → Val → Prop
  | 0, v => match v with
    | .non => True
    | .bl _ => True
    | .int _ => True
    | .str s => OkS c s
    | _ => False
  | n + 1, v => match v with
    | .non => True
    | .bl _ => True
    | .int _ => True
    | .str s => OkS c s
    | .tup xs => xs.length ≤ c ∧ ∀ x ∈ xs, Gd B c st n x
    | .ref i => ¬ B i ∧ ∃ xs, st[i]? = some (.lst xs) ∧ xs.length ≤ c ∧ ∀ x ∈ xs, Gd B c st n x
    | _ => False
section
variable {w c : Nat} {st st' : Sto} {B : Nat → Prop}
theorem Gd.keepB (d : ∀ i o, ¬ B i → st[i]? = some o → st'[i]? = some o) : ∀ {n : Nat} {v : Val}, Gd B c st n v → Gd B c st' n v
  | 0, v, h => by cases v <;> exact h
  | n + 1, v, h => by
    cases v with
    | tup xs => exact ⟨h.1, fun x hx => Gd.keepB d (h.2 x hx)⟩
    | ref i =>
      obtain ⟨h1, xs, h2, h3, h4⟩ := h
      exact ⟨h1, xs, d _ _ h1 h2, h3, fun x hx => Gd.keepB d (h4 x hx)⟩
    | _ => exact h
theorem Gd.keep (hB : B w) (d : Dr w st st') {n : Nat} {v : Val} (h : Gd B c st n v) : Gd B c st' n v :=
  h.keepB fun i o hi e => d.get (fun z => hi (by rw [z]; exact hB)) e
theorem Gd.keepA (d : Ap st st') {n : Nat} {v : Val} (h : Gd B c st n v) : Gd B c st' n v := h.keepB fun i o hi e => d.get e
theorem Gd.weak {B' : Nat → Prop} (d : ∀ i, i < st.length → B' i → B i) : ∀ {n : Nat} {v : Val}, Gd B c st n v → Gd B' c st n v
  | 0, v, h => by cases v <;> exact h
  | n + 1, v, h => by
    cases v with
    | tup xs => exact ⟨h.1, fun x hx => Gd.weak d (h.2 x hx)⟩
    | ref i =>
      obtain ⟨h1, xs, h2, h3, h4⟩ := h
      exact ⟨fun z => h1 (d i (List.getElem?_eq_some_iff.mp h2).1 z), xs, h2, h3, fun x hx => Gd.weak d (h4 x hx)⟩
    | _ => exact h
theorem Gd.up : ∀ {n : Nat} {v : Val}, Gd B c st n v → Gd B c st (n + 1) v
  | 0, v, h => by cases v <;> first | exact h | exact h.elim
  | n + 1, v, h => by
    cases v with
    | tup xs => exact ⟨h.1, fun x hx => Gd.up (h.2 x hx)⟩
    | ref i =>
      obtain ⟨h1, xs, h2, h3, h4⟩ := h
      exact ⟨h1, xs, h2, h3, fun x hx => Gd.up (h4 x hx)⟩
    | _ => exact h
theorem Gd.le {n m : Nat} {v : Val} (h : Gd B c st n v) (e : n ≤ m) : Gd B c st m v := by
  induction e with
  | refl => exact h
  | step _ ih => exact ih.up
theorem Gd.more {c' : Nat} (e : c ≤ c') : ∀ {n : Nat} {v : Val}, Gd B c st n v → Gd B c' st n v
  | 0, v, h => by
    cases v with
    | str s => exact OkS.mono h e
    | _ => exact h
  | n + 1, v, h => by
    cases v with
    | str s => exact OkS.mono h e
    | tup xs => exact ⟨Nat.le_trans h.1 e, fun x hx => Gd.more e (h.2 x hx)⟩
    | ref i =>
      obtain ⟨h1, xs, h2, h3, h4⟩ := h
      exact ⟨h1, xs, h2, Nat.le_trans h3 e, fun x hx => Gd.more e (h4 x hx)⟩
    | _ => exact h
theorem mapO_some {α β : Type} {f : α → Option β} {R : β → Prop} : ∀ {xs : List α}, (∀ x ∈ xs, ∃ d, f x = some d ∧ R d) → ∃ ds, mapO f xs = some ds ∧ ds.length = xs.length ∧ ∀ d ∈ ds, R d
  | [], _ => ⟨[], rfl, rfl, by simp⟩
  | x :: xs, h => by
    obtain ⟨d, h1, h2⟩ := h x List.mem_cons_self
    obtain ⟨ds, h3, h4, h5⟩ := mapO_some (xs := xs) fun y hy => h y (List.mem_cons_of_mem _ hy)
    refine ⟨d :: ds, by unfold mapO; rw [h1, h3], by simp [h4], fun e he => ?_⟩
    rcases List.mem_cons.mp he with rfl | he
    · exact h2
    · exact h5 e he
theorem canAll {ds : List PyData} (h : ∀ d ∈ ds, PyData.canLay0 d = true) : PyData.canLayAll0 ds = true := by
  induction ds with
  | nil => simp [PyData.canLayAll0]
  | cons d ds ih => simp [PyData.canLayAll0, h d List.mem_cons_self, ih fun e he => h e (List.mem_cons_of_mem _ he)]
theorem depAll {k : Nat} {ds : List PyData} (h : ∀ d ∈ ds, PyData.depth d ≤ k) : PyData.depthAll ds ≤ k := by
  induction ds with
  | nil => simp [PyData.depthAll]
  | cons d ds ih =>
    have h1 := h d List.mem_cons_self
    have h2 := ih fun e he => h e (List.mem_cons_of_mem _ he)
    simp [PyData.depthAll]
    omega
theorem Gd.toD : ∀ {n m : Nat} {v : Val}, Gd B c st n v → n < m → ∃ d, FL.toD m st v = some d ∧ PyData.canLay0 d = true ∧ PyData.depth d ≤ n
  | n, 0, v, _, e => absurd e (Nat.not_lt_zero _)
  | 0, m + 1, v, h, _ => by
    cases v with
    | non => exact ⟨_, rfl, by simp [PyData.canLay0], by simp [PyData.depth]⟩
    | bl b => exact ⟨_, rfl, by simp [PyData.canLay0], by simp [PyData.depth]⟩
    | int b => exact ⟨_, rfl, by simp [PyData.canLay0], by simp [PyData.depth]⟩
    | str s => exact ⟨_, rfl, by simp only [PyData.canLay0]; exact strOk_of h.2, by simp [PyData.depth]⟩
    | _ => exact h.elim
  | n + 1, m + 1, v, h, e => by
    cases v with
    | non => exact ⟨_, rfl, by simp [PyData.canLay0], by simp [PyData.depth]⟩
    | bl b => exact ⟨_, rfl, by simp [PyData.canLay0], by simp [PyData.depth]⟩
    | int b => exact ⟨_, rfl, by simp [PyData.canLay0], by simp [PyData.depth]⟩
    | str s => exact ⟨_, rfl, by simp only [PyData.canLay0]; exact strOk_of h.2, by simp [PyData.depth]⟩
    | tup xs =>
      obtain ⟨ds, h1, h2, h3⟩ := mapO_some (R := fun d => PyData.canLay0 d = true ∧ PyData.depth d ≤ n) fun x hx => Gd.toD (h.2 x hx) (show n < m by omega)
      refine ⟨.tuple ds, by show (mapO (FL.toD m st) xs).map PyData.tuple = _; rw [h1]; rfl, by simp only [PyData.canLay0]; exact canAll fun d hd => (h3 d hd).1, ?_⟩
      have := depAll fun d hd => (h3 d hd).2
      simp only [PyData.depth]
      omega
    | ref i =>
      obtain ⟨_, xs, hx, _, h4⟩ := h
      obtain ⟨ds, h1, h2, h3⟩ := mapO_some (R := fun d => PyData.canLay0 d = true ∧ PyData.depth d ≤ n) fun x hx => Gd.toD (h4 x hx) (show n < m by omega)
      refine ⟨.list ds, by show (match st[i]? with | some (Ob.lst xs) => (mapO (FL.toD m st) xs).map PyData.list | _ => none) = _; rw [hx]; simp only [h1]; rfl, by simp only [PyData.canLay0]; exact canAll fun d hd => (h3 d hd).1, ?_⟩
      have := depAll fun d hd => (h3 d hd).2
      simp only [PyData.depth]
      omega
    | _ => exact h.elim
theorem shaped_of {d : PyData} (h1 : PyData.canLay0 d = true) (h2 : PyData.depth d ≤ 64) : SeqAt.shaped d = true := by
  unfold SeqAt.shaped
  rw [h1, decide_eq_true h2]
  rfl
theorem fEqB_gd {n m : Nat} {a b : Val} (ha : Gd B c st n a) (hb : Gd B c st m b) (hn : n < 9) (hm : m < 9) : ∃ d e, FL.toD 9 st a = some d ∧ FL.toD 9 st b = some e ∧ fEqB a b st = some (PyData.eqv d e) := by
  obtain ⟨d, h1, h2, h3⟩ := ha.toD hn
  obtain ⟨e, h4, h5, h6⟩ := hb.toD hm
  refine ⟨d, e, h1, h4, ?_⟩
  unfold fEqB
  rw [h1, h4]
  exact if_pos ⟨shaped_of h2 (by omega), shaped_of h5 (by omega)⟩
/-- a list against the empty one -/
theorem fEq_nil {p q n : Nat} {xs : List Val} (h1 : st[p]? = some (.lst xs)) (h2 : st[q]? = some (.lst [])) (hx : ∀ x ∈ xs, Gd B c st n x) (hn : n < 8) : fEq (.ref p) (.ref q) st = some (.bl (decide (xs = [])), st) := by
  obtain ⟨ds, h3, h4, h5⟩ := mapO_some (R := fun d => PyData.canLay0 d = true ∧ PyData.depth d ≤ n) fun x hx' => (hx x hx').toD (show n < 8 by omega)
  have e1 : FL.toD 9 st (.ref p) = some (.list ds) := by
    show (match st[p]? with | some (Ob.lst xs) => (mapO (FL.toD 8 st) xs).map PyData.list | _ => none) = _
    rw [h1]
    simp only [h3]
    rfl
  have e2 : FL.toD 9 st (.ref q) = some (.list []) := by
    show (match st[q]? with | some (Ob.lst xs) => (mapO (FL.toD 8 st) xs).map PyData.list | _ => none) = _
    rw [h2]
    rfl
  have d1 := depAll fun d hd => (h5 d hd).2
  have e3 : SeqAt.shaped (.list ds) = true := shaped_of (by simp only [PyData.canLay0]; exact canAll fun d hd => (h5 d hd).1) (by simp only [PyData.depth]; omega)
  have e4 : SeqAt.shaped (.list []) = true := by decide
  unfold fEq fEqB
  rw [e1, e2]
  simp only [e3, e4, and_self, if_true, Option.map_some]
  congr 3
  cases xs with
  | nil =>
    cases ds with
    | nil => rfl
    | cons d ds => simp at h4
  | cons x xs =>
    cases ds with
    | nil => simp at h4
    | cons d ds => rfl
theorem fEq_of {a b : Val} {d e : PyData} (h1 : FL.toD 9 st a = some d) (h2 : FL.toD 9 st b = some e) (h3 : SeqAt.shaped d = true) (h4 : SeqAt.shaped e = true) : fEq a b st = some (.bl (PyData.eqv d e), st) := by
  unfold fEq fEqB
  rw [h1, h2]
  simp only [h3, h4, and_self, if_true, Option.map_some]
theorem fNe_of {a b : Val} {d e : PyData} (h1 : FL.toD 9 st a = some d) (h2 : FL.toD 9 st b = some e) (h3 : SeqAt.shaped d = true) (h4 : SeqAt.shaped e = true) : fNe a b st = some (.bl (!PyData.eqv d e), st) := by
  unfold fNe fEqB
  rw [h1, h2]
  simp only [h3, h4, and_self, if_true, Option.map_some]
@[simp] theorem fEq_int {i j : Int} : fEq (.int i) (.int j) st = some (.bl (decide (i = j)), st) := by
  rw [fEq_of rfl rfl rfl rfl]
  simp only [PyData.eqv, Bool.beq_eq_decide_eq]
@[simp] theorem fNe_int {i j : Int} : fNe (.int i) (.int j) st = some (.bl (!decide (i = j)), st) := by
  rw [fNe_of rfl rfl rfl rfl]
  simp only [PyData.eqv, Bool.beq_eq_decide_eq]
@[simp] theorem fEq_bl {i j : Bool} : fEq (.bl i) (.bl j) st = some (.bl (i == j), st) := by
  rw [fEq_of rfl rfl rfl rfl]
  simp only [PyData.eqv]
def isTup : Val → Bool
  | .tup _ => true
  | _ => false
def isInt : Val → Bool
  | .int _ => true
  | .bl _ => true
  | _ => false
def isBl : Val → Bool
  | .bl _ => true
  | _ => false
def isStr : Val → Bool
  | .str _ => true
  | _ => false
theorem tyN_gd {n : Nat} {v : Val} (h : Gd B c st n v) : ∃ t, tyN st v = some t ∧ isSub t "tuple" = some (isTup v) ∧ isSub t "int" = some (isInt v) ∧ isSub t "bool" = some (isBl v) ∧ isSub t "str" = some (isStr v) := by
  cases v with
  | ref i =>
    cases n with
    | zero => exact h.elim
    | succ n =>
      obtain ⟨_, xs, h2, _⟩ := h
      refine ⟨"list", ?_, rfl, rfl, rfl, rfl⟩
      show (match st[i]? with | some (Ob.lst _) => some "list" | some (Ob.dic _) => some "dict" | _ => none) = _
      rw [h2]
  | scr ns => cases n <;> exact h.elim
  | ty ns => cases n <;> exact h.elim
  | glo ns => cases n <;> exact h.elim
  | exc ns => cases n <;> exact h.elim
  | _ => exact ⟨_, rfl, rfl, rfl, rfl, rfl⟩
theorem isi_tup {n : Nat} {v : Val} (h : Gd B c st n v) : fIsi [v, .ty "tuple"] st = some (.bl (isTup v), st) := by
  obtain ⟨t, h1, h2, h3, h4, h5⟩ := tyN_gd h
  exact fIsi_eq (by unfold isiB; rw [h1]; exact h2)
theorem isi_int {n : Nat} {v : Val} (h : Gd B c st n v) : fIsi [v, .ty "int"] st = some (.bl (isInt v), st) := by
  obtain ⟨t, h1, h2, h3, h4, h5⟩ := tyN_gd h
  exact fIsi_eq (by unfold isiB; rw [h1]; exact h3)
theorem isi_bl {n : Nat} {v : Val} (h : Gd B c st n v) : fIsi [v, .ty "bool"] st = some (.bl (isBl v), st) := by
  obtain ⟨t, h1, h2, h3, h4, h5⟩ := tyN_gd h
  exact fIsi_eq (by unfold isiB; rw [h1]; exact h4)
theorem isi_str {n : Nat} {v : Val} (h : Gd B c st n v) : fIsi [v, .ty "str"] st = some (.bl (isStr v), st) := by
  obtain ⟨t, h1, h2, h3, h4, h5⟩ := tyN_gd h
  exact fIsi_eq (by unfold isiB; rw [h1]; exact h5)
@[simp] theorem isi_bl_bl {b : Bool} : fIsi [.bl b, .ty "bool"] st = some (.bl true, st) := rfl
end
end FL
/-! PL5: more of the calculus. -/
namespace FL
open PySem L2
section
variable {sl : Sl} {st : Sto} {v : Val} {PS : RS → Prop} {G : EP'}
theorem wX_ret' {α : Type} {v : Sto → α} {f : Sto → Sto} {Q : α → Sto → Prop} : wX (fun _ st => some (R.ok (v st) (f st))) sl st Q G ↔ Q (v st) (f st) := ⟨fun ⟨r, h, q⟩ => by cases h; exact q, fun h => ⟨_, rfl, h⟩⟩
@[simp ↓] theorem wT_unl {Q : Sl → Sto → Prop} {g : FGs} {k : Nat} : wT (gUnL g k) v sl st Q ↔ ∃ p xs, v = .ref p ∧ st[p]? = some (Ob.lst xs) ∧ xs.length = k ∧ wTs g xs sl st Q := by
  unfold wTs wT gUnL
  constructor
  · rintro ⟨sl2, st2, h1, q⟩
    split at h1
    · rename_i p
      split at h1
      · rename_i xs h5
        split at h1
        · rename_i hl
          exact ⟨p, xs, rfl, h5, hl, _, _, h1, q⟩
        · cases h1
      · cases h1
    · cases h1
  · rintro ⟨p, xs, rfl, h5, hl, sl2, st2, h1, q⟩
    exact ⟨sl2, st2, by simp only [h5, if_pos hl]; exact h1, q⟩
@[simp ↓] theorem wS_par {i j : Nat} {m : FA} : wS (fPar i j m) sl st PS ↔ wX m sl st (fun vs st1 => ∃ v w, vs = [v, w] ∧ PS (.nx ((sl.set i (some v)).set j (some w)) st1)) (fun c st' => PS (.ex c sl st')) := by
  unfold fPar
  rw [wS_bnd]
  refine wX_congr fun x st' => ?_
  unfold wS
  constructor
  · rintro ⟨r, h1, q⟩
    split at h1
    · cases h1
      exact ⟨_, _, rfl, q⟩
    · cases h1
  · rintro ⟨v, w, rfl, q⟩
    exact ⟨_, rfl, q⟩
@[simp ↓] theorem wS_par3 {i j l : Nat} {m : FA} : wS (fPar3 i j l m) sl st PS ↔ wX m sl st (fun vs st1 => ∃ u v w, vs = [u, v, w] ∧ PS (.nx (((sl.set i (some u)).set j (some v)).set l (some w)) st1)) (fun c st' => PS (.ex c sl st')) := by
  unfold fPar3
  rw [wS_bnd]
  refine wX_congr fun x st' => ?_
  unfold wS
  constructor
  · rintro ⟨r, h1, q⟩
    split at h1
    · cases h1
      exact ⟨_, _, _, rfl, q⟩
    · cases h1
  · rintro ⟨u, v, w, rfl, q⟩
    exact ⟨_, rfl, q⟩
@[simp ↓] theorem wX_enum {mas : FA} {Q : Itb → Sto → Prop} : wX (fEnum mas) sl st Q G ↔ wX mas sl st (fun vs st' => ∃ x b, vs = [x] ∧ asEnum st' x = some b ∧ Q b st') G := by
  simp only [fEnum, wX_bnd]
  refine wX_congr fun x st' => ?_
  unfold wX
  constructor
  · rintro ⟨r, h1, q⟩
    split at h1
    · obtain ⟨b, h2, rfl⟩ := Option.map_eq_some_iff.mp h1
      exact ⟨_, b, rfl, h2, q⟩
    · cases h1
  · rintro ⟨x, b, rfl, h1, q⟩
    exact ⟨.ok b st', by simp only [h1]; rfl, q⟩
@[simp ↓] theorem wX_rev {me : FE} {Q : Itb → Sto → Prop} : wX (fRev me) sl st Q G ↔ wX me sl st (fun x st' => ∃ b, asRev st' x = some b ∧ Q b st') G := by
  simp only [fRev, wX_bnd]
  refine wX_congr fun x st' => ?_
  unfold wX
  constructor
  · rintro ⟨r, h1, q⟩
    obtain ⟨b, h2, rfl⟩ := Option.map_eq_some_iff.mp h1
    exact ⟨b, h2, q⟩
  · rintro ⟨b, h1, q⟩
    exact ⟨.ok b st', by simp only [h1]; rfl, q⟩
@[simp ↓] theorem wX_sortIt {me : FE} {Q : Val → Sto → Prop} : wX (fSortIt me) sl st Q G ↔ wX me sl st (fun x st' => ∃ p kvs ks, x = .ref p ∧ st'[p]? = some (.dic kvs) ∧ keysS kvs = some ks ∧ Q (.ref st'.length) (st' ++ [.lst ((srtS ks).map fun e => .tup [.str e.1.cps.toList, e.2])])) G := by
  unfold fSortIt
  rw [wX_bnd]
  refine wX_congr fun x st' => ?_
  rw [wX_lft]
  unfold wG
  constructor
  · rintro ⟨v, s2, h1, q⟩
    split at h1
    · rename_i p
      split at h1
      · rename_i kvs h2
        obtain ⟨ks, h3, h4⟩ := Option.map_eq_some_iff.mp h1
        cases h4
        exact ⟨p, kvs, ks, rfl, h2, h3, q⟩
      · cases h1
    · cases h1
  · rintro ⟨p, kvs, ks, rfl, h2, h3, q⟩
    exact ⟨_, _, by simp only [h2, h3, Option.map_some], q⟩
@[simp ↓] theorem wX_callK {F : FF} {n j : Nat} {gD : List Val → List Val → List Val} {m mk : FA} {Q : Val → Sto → Prop} : wX (fCallK F n j gD m mk) sl st Q G ↔ wX m sl st (fun xs st1 => wX mk sl st1 (fun zs st2 => (xs.length = n ∧ zs.length = j) ∧ wF F (gD xs zs) st2 Q G) G) G := by
  unfold fCallK
  rw [wX_bnd]
  refine wX_congr fun xs st1 => ?_
  rw [wX_bnd]
  refine wX_congr fun zs st2 => ?_
  by_cases h : xs.length = n ∧ zs.length = j
  · simp only [h, and_self, if_true, true_and]
    exact Iff.rfl
  · unfold wX
    simp [h]
@[simp ↓] theorem wX_dnew {Q : Val → Sto → Prop} : wX fDNew sl st Q G ↔ Q (.ref st.length) (st ++ [.dic []]) := wX_ret' (v := fun st : Sto => Val.ref st.length) (f := fun st => st ++ [Ob.dic []])
@[simp ↓] theorem wX_pairs0 {Q : List (Val × Val) → Sto → Prop} : wX (fPairs []) sl st Q G ↔ Q [] st := wX_ret
@[simp ↓] theorem wX_pairs1 {m n : FE} {r : List (FE × FE)} {Q : List (Val × Val) → Sto → Prop} : wX (fPairs ((m, n) :: r)) sl st Q G ↔ wX m sl st (fun x st1 => wX n sl st1 (fun y st2 => wX (fPairs r) sl st2 (fun ps st3 => Q ((x, y) :: ps) st3) G) G) G := by
  show wX (bnd m fun x => bnd n fun y => bnd (fPairs r) fun ps => fun _ st => some (.ok ((x, y) :: ps) st)) sl st Q G ↔ _
  rw [wX_bnd]
  refine wX_congr fun x st1 => ?_
  rw [wX_bnd]
  refine wX_congr fun y st2 => ?_
  rw [wX_bnd]
  exact wX_congr fun ps st3 => wX_ret
@[simp ↓] theorem wX_dict {ms : List (FE × FE)} {Q : Val → Sto → Prop} : wX (fDict ms) sl st Q G ↔ wX (fPairs ms) sl st (fun ps st' => ∃ kvs, mapO keyed ps = some kvs ∧ kvs.length ≤ 15 ∧ Q (.ref st'.length) (st' ++ [.dic (mergeD [] kvs)])) G := by
  unfold fDict
  rw [wX_bnd]
  refine wX_congr fun ps st' => ?_
  unfold wX
  constructor
  · rintro ⟨r, h1, q⟩
    split at h1
    · rename_i kvs h2
      split at h1
      · rename_i h3
        cases h1
        exact ⟨kvs, h2, h3, q⟩
      · cases h1
    · cases h1
  · rintro ⟨kvs, h2, h3, q⟩
    exact ⟨.ok _ _, by simp only [h2, if_pos h3], q⟩
@[simp ↓] theorem wX_zip {mas : FA} {Q : Itb → Sto → Prop} : wX (fZip mas) sl st Q G ↔ wX mas sl st (fun vs st' => ∃ p q xs ys, vs = [.ref p, .ref q] ∧ st'[p]? = some (Ob.lst xs) ∧ st'[q]? = some (Ob.lst ys) ∧ Q ⟨zipV xs ys, .two p xs q ys⟩ st') G := by
  simp only [fZip, wX_bnd]
  refine wX_congr fun x st' => ?_
  unfold wX
  constructor
  · rintro ⟨r, h1, q⟩
    split at h1
    · dsimp only at h1
      split at h1
      · rename_i h5 h6
        cases h1
        exact ⟨_, _, _, _, rfl, h5, h6, q⟩
      · cases h1
    · cases h1
  · rintro ⟨p, q, xs, ys, rfl, h5, h6, hq⟩
    exact ⟨.ok _ st', by simp only [h5, h6], hq⟩
/-- a while: an invariant by the turns that are left at most -/
theorem whileL_run {c : FT} {body : FS} {I : Nat → Sl → Sto → Prop} (turn : ∀ n sl st, I n sl st → wX c sl st (fun b st1 => if b = true then ∃ m, n = m + 1 ∧ wS body sl st1 (lpP (I m) PS) else PS (.nx sl st1)) G0) :
    ∀ (n : Nat) (sl : Sl) (st : Sto), I n sl st → ∃ k r, whileL c body k sl st = some r ∧ PS r
  | n, sl, st, hi => by
    obtain ⟨b, st1, h1, h2⟩ := ok_of (turn n sl st hi)
    cases b with
    | false =>
      have h3 : PS (.nx sl st1) := by simpa using h2
      exact ⟨1, .nx sl st1, by show bndS c _ sl st = _; unfold bndS; rw [h1]; rfl, h3⟩
    | true =>
      have h3 : ∃ m, n = m + 1 ∧ wS body sl st1 (lpP (I m) PS) := by simpa using h2
      obtain ⟨m, rfl, r, h4, h5⟩ := h3
      have go : ∀ k, whileL c body (k + 1) sl st = match body sl st1 with
          | some (.nx sl2 st2) => whileL c body k sl2 st2
          | some (.ct sl2 st2) => whileL c body k sl2 st2
          | some (.bk sl2 st2) => some (.nx sl2 st2)
          | r => r := fun k => by
        show bndS c _ sl st = _
        unfold bndS
        rw [h1]
        rfl
      cases r with
      | nx sl2 st2 =>
        obtain ⟨k, r, h6, h7⟩ := whileL_run turn m sl2 st2 h5
        exact ⟨k + 1, r, by rw [go, h4]; exact h6, h7⟩
      | ct sl2 st2 =>
        obtain ⟨k, r, h6, h7⟩ := whileL_run turn m sl2 st2 h5
        exact ⟨k + 1, r, by rw [go, h4]; exact h6, h7⟩
      | bk sl2 st2 => exact ⟨1, _, by rw [go, h4], h5⟩
      | rt v st2 => exact ⟨1, _, by rw [go, h4], h5⟩
      | ex c' sl2 st2 => exact ⟨1, _, by rw [go, h4], h5⟩
theorem whileL_mono {c : FT} {body : FS} : ∀ (n m : Nat) (sl : Sl) (st : Sto) (r : RS), whileL c body n sl st = some r → whileL c body m sl st = some r ∨ m < n
  | 0, m, sl, st, r, h => by cases h
  | n + 1, 0, sl, st, r, h => .inr (Nat.succ_pos _)
  | n + 1, m + 1, sl, st, r, h => by
    have h0 : bndS c (fun b => if b then fun sl st => match body sl st with
      | some (.nx sl2 st2) => whileL c body n sl2 st2
      | some (.ct sl2 st2) => whileL c body n sl2 st2
      | some (.bk sl2 st2) => some (.nx sl2 st2)
      | r => r else fun sl st => some (.nx sl st)) sl st = some r := h
    show bndS c (fun b => if b then fun sl st => match body sl st with
      | some (.nx sl2 st2) => whileL c body m sl2 st2
      | some (.ct sl2 st2) => whileL c body m sl2 st2
      | some (.bk sl2 st2) => some (.nx sl2 st2)
      | r => r else fun sl st => some (.nx sl st)) sl st = some r ∨ _
    unfold bndS at h0 ⊢
    cases h1 : c sl st with
    | none => rw [h1] at h0; cases h0
    | some x =>
      rw [h1] at h0
      cases x with
      | ex e st1 => exact .inl h0
      | ok b st1 =>
        cases b with
        | false => exact .inl h0
        | true =>
          have h2 : (match body sl st1 with
            | some (.nx sl2 st2) => whileL c body n sl2 st2
            | some (.ct sl2 st2) => whileL c body n sl2 st2
            | some (.bk sl2 st2) => some (.nx sl2 st2)
            | r => r) = some r := h0
          show (match body sl st1 with
            | some (.nx sl2 st2) => whileL c body m sl2 st2
            | some (.ct sl2 st2) => whileL c body m sl2 st2
            | some (.bk sl2 st2) => some (.nx sl2 st2)
            | r => r) = some r ∨ _
          cases h3 : body sl st1 with
          | none => rw [h3] at h2; cases h2
          | some y =>
            rw [h3] at h2
            cases y with
            | nx sl2 st2 =>
              rcases whileL_mono n m sl2 st2 r h2 with z | z
              · exact .inl z
              · exact .inr (by omega)
            | ct sl2 st2 =>
              rcases whileL_mono n m sl2 st2 r h2 with z | z
              · exact .inl z
              · exact .inr (by omega)
            | bk sl2 st2 => exact .inl h2
            | rt v st2 => exact .inl h2
            | ex c' sl2 st2 => exact .inl h2
/-- what is to be shown of a while -/
theorem wS_while {c : FT} {body : FS} (I : Nat → Sl → Sto → Prop) (n : Nat) (h0 : I n sl st) (turn : ∀ n sl st, I n sl st → wX c sl st (fun b st1 => if b = true then ∃ m, n = m + 1 ∧ wS body sl st1 (lpP (I m) PS) else PS (.nx sl st1)) G0) : wS (fWhile c body) sl st PS := by
  obtain ⟨k, r, h1, h2⟩ := whileL_run turn n sl st h0
  refine ⟨r, ?_, h2⟩
  have hex : ∃ n r, whileL c body n sl st = some r := ⟨k, r, h1⟩
  unfold fWhile
  rw [dif_pos hex]
  obtain ⟨r', h3⟩ := hex.choose_spec
  rcases Nat.lt_or_ge hex.choose k with z | z
  · rcases whileL_mono _ k sl st r' h3 with y | y
    · rw [h1] at y
      cases y
      exact h3
    · omega
  · rcases whileL_mono k hex.choose sl st r h1 with y | y
    · exact y
    · omega
/-! ### alike -/
variable {B : Nat → Prop} {c n : Nat} {xs : List Val}
theorem fNe_same (g : Gd B c st n v) (hn : n < 9) : fNe v v st = some (.bl false, st) := by
  obtain ⟨d, h1, h2, h3⟩ := g.toD hn
  obtain ⟨d1, e1, h4, h5, h6⟩ := fEqB_gd g g hn hn
  rw [h1] at h4 h5
  cases h4
  cases h5
  unfold fNe
  rw [h6, PySem.SeqAt.eqv_refl d h2]
  rfl
theorem fNe_fEq {a b : Val} {k : Bool} (h : fEq a b st = some (.bl k, st)) : fNe a b st = some (.bl (!k), st) := by
  obtain ⟨e, h1, h2⟩ := Option.map_eq_some_iff.mp h
  cases h2
  unfold fNe
  rw [h1]
  rfl
theorem fNe_nil {p q : Nat} (h1 : st[p]? = some (Ob.lst xs)) (h2 : st[q]? = some (Ob.lst [])) (hx : ∀ x ∈ xs, Gd B c st n x) (hn : n < 8) : fNe (.ref p) (.ref q) st = some (.bl (!decide (xs = [])), st) := fNe_fEq (fEq_nil h1 h2 hx hn)
theorem fNe_lst {p q : Nat} (h1 : st[p]? = some (Ob.lst xs)) (h2 : st[q]? = some (Ob.lst xs)) (hx : ∀ x ∈ xs, Gd (fun _ => False) c st n x) (hl : xs.length ≤ c) (hn : n < 8) : fNe (.ref p) (.ref q) st = some (.bl false, st) := by
  have g1 : Gd (fun _ => False) c st (n + 1) (.ref p) := ⟨fun z => z, xs, h1, hl, hx⟩
  have g2 : Gd (fun _ => False) c st (n + 1) (.ref q) := ⟨fun z => z, xs, h2, hl, hx⟩
  obtain ⟨d, e1, e2, e3⟩ := g1.toD (m := 9) (by omega)
  have e4 : FL.toD 9 st (.ref q) = some d := by
    rw [← e1]
    show (match st[q]? with | some (Ob.lst xs) => (mapO (FL.toD 8 st) xs).map PyData.list | _ => none) = (match st[p]? with | some (Ob.lst xs) => (mapO (FL.toD 8 st) xs).map PyData.list | _ => none)
    rw [h1, h2]
  have sh := shaped_of e2 (by omega)
  unfold fNe fEqB
  rw [e1, e4]
  simp only [sh, and_self, if_true, Option.map_some, PySem.SeqAt.eqv_refl d e2]
  rfl
theorem pop_last {p : Nat} {x : Val} (h : st[p]? = some (Ob.lst (xs ++ [x]))) : onL gPop (.ref p) [] st = some (x, st.set p (Ob.lst xs)) := by
  rw [onL_ref h]
  unfold gPop
  simp
end
end FL
/-! TX1: texts as flat lists of signs and line feeds: rows, places, cuts. -/
namespace TX
/-- the rows of a flat text -/
def T : List Nat → List (List Nat)
  | [] => [[]]
  | c :: s => if c = 10 then [] :: T s else (c :: (T s).headD []) :: (T s).tail
def J : List (List Nat) → List Nat
  | [] => []
  | [r] => r
  | r :: q :: l => r ++ 10 :: J (q :: l)
theorem T_ne (s : List Nat) : T s ≠ [] := by
  cases s with
  | nil => simp [T]
  | cons c s => unfold T; split <;> simp
theorem T_ht (s : List Nat) : T s = (T s).headD [] :: (T s).tail := by
  cases h : T s with
  | nil => exact absurd h (T_ne s)
  | cons a l => rfl
theorem T_len (s : List Nat) : 1 ≤ (T s).length := List.length_pos_iff.mpr (T_ne s)
/-- the last row -/
def la : List (List Nat) → List Nat
  | [] => []
  | [a] => a
  | _ :: b :: l => la (b :: l)
theorem la_app : ∀ {l m : List (List Nat)}, m ≠ [] → la (l ++ m) = la m
  | [], m, _ => rfl
  | [a], m, h => by
    cases m with
    | nil => exact absurd rfl h
    | cons b m => rfl
  | a :: b :: l, m, h => by
    show la (b :: l ++ m) = _
    exact la_app h
@[simp] theorem la_snoc {l : List (List Nat)} {a : List Nat} : la (l ++ [a]) = a := la_app (by simp)
@[simp] theorem la_two {l : List (List Nat)} {a b : List Nat} : la (a :: b :: l) = la (b :: l) := rfl
@[simp] theorem la_one {a : List Nat} : la [a] = a := rfl
theorem dl_last : ∀ {l : List (List Nat)}, l ≠ [] → l.dropLast ++ [la l] = l
  | [], h => absurd rfl h
  | [a], _ => rfl
  | a :: b :: l, _ => by
    show a :: ((b :: l).dropLast ++ [la (b :: l)]) = _
    rw [dl_last (by simp)]
theorem T_last (s : List Nat) : (T s).dropLast ++ [la (T s)] = T s := dl_last (T_ne s)
theorem T_app : ∀ (x y : List Nat), T (x ++ y) = (T x).dropLast ++ (la (T x) ++ (T y).headD []) :: (T y).tail
  | [], y => by
    show T y = ([] : List (List Nat)) ++ ([] ++ (T y).headD []) :: (T y).tail
    exact T_ht y
  | c :: x, y => by
    have ih := T_app x y
    show T (c :: (x ++ y)) = _
    by_cases h : c = 10
    · simp only [T, h, if_true]
      rw [ih]
      obtain ⟨a, l, e⟩ : ∃ a l, T x = a :: l := ⟨_, _, T_ht x⟩
      rw [e]
      simp
    · simp only [T, h, if_false]
      rw [ih]
      obtain ⟨a, l, e⟩ : ∃ a l, T x = a :: l := ⟨_, _, T_ht x⟩
      rw [e]
      cases l with
      | nil => simp
      | cons b l => simp
theorem JT : ∀ s : List Nat, J (T s) = s
  | [] => rfl
  | c :: s => by
    have ih := JT s
    obtain ⟨a, l, e⟩ : ∃ a l, T s = a :: l := ⟨_, _, T_ht s⟩
    rw [e] at ih
    unfold T
    split
    · rename_i h
      rw [e, h]
      show [] ++ 10 :: J (a :: l) = _
      rw [ih]
      rfl
    · rw [e]
      show J ((c :: a) :: l) = _
      cases l with
      | nil =>
        show c :: a = _
        rw [← ih]
        rfl
      | cons b l =>
        show (c :: a) ++ 10 :: J (b :: l) = _
        rw [← ih]
        rfl
theorem T_inj {s t : List Nat} (h : T s = T t) : s = t := by rw [← JT s, h, JT t]
theorem T_row : ∀ {r : List Nat}, 10 ∉ r → T r = [r]
  | [], _ => rfl
  | c :: r, h => by
    have h1 : c ≠ 10 := fun z => h (by rw [z]; exact List.mem_cons_self)
    unfold T
    rw [if_neg h1, T_row fun z => h (List.mem_cons_of_mem _ z)]
    rfl
theorem T_lf (t : List Nat) : T (10 :: t) = [] :: T t := by simp [T]
theorem TJ : ∀ {ss : List (List Nat)}, ss ≠ [] → (∀ r ∈ ss, 10 ∉ r) → T (J ss) = ss
  | [], h, _ => absurd rfl h
  | [r], _, h => T_row (h r List.mem_cons_self)
  | r :: q :: l, _, h => by
    show T (r ++ 10 :: J (q :: l)) = _
    rw [T_app, T_row (h r List.mem_cons_self), T_lf, TJ (by simp) fun x hx => h x (List.mem_cons_of_mem _ hx)]
    simp
theorem T_no10 : ∀ (s : List Nat), ∀ r ∈ T s, 10 ∉ r
  | [], r, h => by simp [T] at h; subst h; simp
  | c :: s, r, h => by
    have ih := T_no10 s
    unfold T at h
    split at h
    · rcases List.mem_cons.mp h with e | e
      · rw [e]; simp
      · exact ih r e
    · rename_i hc
      rcases List.mem_cons.mp h with e | e
      · rw [e]
        have h2 := ih ((T s).headD []) (by rw [T_ht s]; exact List.mem_cons_self)
        intro z
        rcases List.mem_cons.mp z with z | z
        · exact hc z.symm
        · exact h2 z
      · exact ih r (List.mem_of_mem_tail e)
/-- how many line feeds -/
def nl (s : List Nat) : Nat := (T s).length - 1
/-- what stands behind the last -/
def co (s : List Nat) : Nat := (la (T s)).length
theorem len_T (s : List Nat) : (T s).length = nl s + 1 := by
  have := T_len s
  unfold nl
  omega
theorem nl_app (x y : List Nat) : nl (x ++ y) = nl x + nl y := by
  have h1 := T_len x
  have h2 := T_len y
  unfold nl
  rw [T_app]
  simp
theorem co_app0 {x y : List Nat} (h : nl y = 0) : co (x ++ y) = co x + y.length := by
  obtain ⟨a, l, e⟩ : ∃ a l, T y = a :: l := ⟨_, _, T_ht y⟩
  have hl : l = [] := by
    unfold nl at h
    rw [e] at h
    simpa using h
  subst hl
  have e2 : y = a := by
    have := JT y
    rw [e] at this
    exact this.symm
  unfold co
  rw [T_app, e, e2]
  simp
theorem co_app1 {x y : List Nat} (h : nl y ≠ 0) : co (x ++ y) = co y := by
  obtain ⟨a, l, e⟩ : ∃ a l, T y = a :: l := ⟨_, _, T_ht y⟩
  cases l with
  | nil =>
    unfold nl at h
    rw [e] at h
    simp at h
  | cons b l =>
    unfold co
    rw [T_app, e]
    simp only [List.tail_cons, la_two]
    rw [la_app (by simp)]
    rfl
/-! rows at a cut: x ++ y -/
theorem take_T (x y : List Nat) : (T (x ++ y)).take (nl x) = (T x).dropLast := by
  rw [T_app]
  have h : nl x = (T x).dropLast.length := by simp [nl]
  rw [h, List.take_left]
theorem drop_T (x y : List Nat) : (T (x ++ y)).drop (nl x) = (la (T x) ++ (T y).headD []) :: (T y).tail := by
  rw [T_app]
  have h : nl x = (T x).dropLast.length := by simp [nl]
  rw [h, List.drop_left]
theorem drop1_T (x y : List Nat) : (T (x ++ y)).drop (nl x + 1) = (T y).tail := by
  have := congrArg (List.drop 1) (drop_T x y)
  rw [List.drop_drop] at this
  simpa using this
theorem at_T (x y : List Nat) : (T (x ++ y))[nl x]? = some (la (T x) ++ (T y).headD []) := by
  have := congrArg (fun l => l[0]?) (drop_T x y)
  simp only [List.getElem?_drop] at this
  simpa using this
theorem take1_T (x y : List Nat) : (T (x ++ y)).take (nl x + 1) = (T x).dropLast ++ [la (T x) ++ (T y).headD []] := by
  rw [List.take_succ, take_T, at_T]
  rfl
theorem lt_T (x y : List Nat) : nl x < (T (x ++ y)).length := by
  rw [len_T, nl_app]
  omega
/-! order of places -/
theorem co_le {x y : List Nat} (h : nl y = 0) : co x ≤ co (x ++ y) := by
  rw [co_app0 h]
  omega
/-- lexicographic -/
def pLt (p q : Nat × Nat) : Prop := p.1 < q.1 ∨ p.1 = q.1 ∧ p.2 < q.2
def pl (s : List Nat) (n : Nat) : Nat × Nat := (nl (s.take n), co (s.take n))
theorem pl_app {x y : List Nat} : pl (x ++ y) x.length = (nl x, co x) := by
  unfold pl
  rw [List.take_left]
theorem pl_mono {s : List Nat} {n m : Nat} (h : n < m) (hm : m ≤ s.length) : pLt (pl s n) (pl s m) := by
  have e : s.take m = s.take n ++ (s.take m).drop n := by
    have := List.take_append_drop n (s.take m)
    rw [List.take_take, Nat.min_eq_left (Nat.le_of_lt h)] at this
    exact this.symm
  have hw : 0 < ((s.take m).drop n).length := by
    rw [List.length_drop, List.length_take]
    omega
  generalize (s.take m).drop n = w at e hw
  unfold pl pLt
  rw [e]
  simp only
  rw [nl_app]
  by_cases h0 : nl w = 0
  · right
    rw [co_app0 h0]
    omega
  · left
    omega
theorem pl_lt {s : List Nat} {n m : Nat} (hn : n ≤ s.length) (hm : m ≤ s.length) : pLt (pl s n) (pl s m) ↔ n < m := by
  constructor
  · intro h
    rcases Nat.lt_trichotomy n m with z | z | z
    · exact z
    · subst z
      unfold pLt at h
      omega
    · have := pl_mono z hn
      unfold pLt at h this
      omega
  · intro h
    exact pl_mono h hm
theorem pl_eq {s : List Nat} {n m : Nat} (hn : n ≤ s.length) (hm : m ≤ s.length) : pl s n = pl s m ↔ n = m := by
  constructor
  · intro h
    rcases Nat.lt_trichotomy n m with z | z | z
    · have := pl_mono z hm
      rw [h] at this
      unfold pLt at this
      omega
    · exact z
    · have := pl_mono z hn
      rw [h] at this
      unfold pLt at this
      omega
  · intro h
    rw [h]
/-- a place of the rows is one of the flat text -/
theorem pl_of {s : List Nat} {r c : Nat} {row : List Nat} (h1 : (T s)[r]? = some row) (h2 : c ≤ row.length) : ∃ n, n ≤ s.length ∧ pl s n = (r, c) := by
  have hr : r < (T s).length := (List.getElem?_eq_some_iff.mp h1).1
  have no := T_no10 s
  have hrow : row ∈ T s := List.mem_of_getElem? h1
  have cut : T s = (T s).take r ++ row :: (T s).drop (r + 1) := by
    have := List.take_append_drop r (T s)
    rw [List.drop_eq_getElem_cons hr] at this
    rw [List.getElem?_eq_getElem hr] at h1
    cases h1
    exact this.symm
  obtain ⟨x, hx⟩ : ∃ x, T x = (T s).take r ++ [row.take c] := ⟨_, TJ (by simp) fun q hq => by
    rcases List.mem_append.mp hq with h | h
    · exact no q (List.mem_of_mem_take h)
    · rw [List.mem_singleton.mp h]
      exact fun z => no row hrow (List.mem_of_mem_take z)⟩
  obtain ⟨y, hy⟩ : ∃ y, T y = row.drop c :: (T s).drop (r + 1) := ⟨_, TJ (by simp) fun q hq => by
    rcases List.mem_cons.mp hq with h | h
    · rw [h]
      exact fun z => no row hrow (List.mem_of_mem_drop z)
    · exact no q (List.mem_of_mem_drop h)⟩
  have e : x ++ y = s := T_inj (by
    rw [T_app, hx, hy]
    simp
    exact cut.symm)
  refine ⟨x.length, by rw [← e]; simp, ?_⟩
  rw [← e, pl_app]
  unfold nl co
  rw [hx]
  simp
  omega
end TX
/-! PL6: texts, dicts made by comprehension, comprehensions of two clauses. -/
namespace FL
open PySem PySem.Spec PyProof.Rows L2
section
variable {sl : Sl} {st : Sto} {v : Val} {PS : RS → Prop} {G : EP'}
theorem wX.go {α : Type} {m : FX α} {sl : Sl} {st : Sto} {P Q : α → Sto → Prop} {G : EP'} (h : wX m sl st P G0) (i : ∀ v st', P v st' → Q v st') : wX m sl st Q G :=
  let ⟨r, h1, h2⟩ := h
  ⟨r, h1, h2.mono i fun _ _ z => z.elim⟩
theorem getK_mem {α : Type} {kvs : List (Key × α)} {k : Key} {v : α} (h : getK kvs k = some v) : ∃ j, (j, v) ∈ kvs := by
  unfold getK at h
  obtain ⟨p, h1, rfl⟩ := Option.map_eq_some_iff.mp h
  exact ⟨p.1, List.mem_of_find?_eq_some h1⟩
theorem shaped_str {s : List Nat} (h : ∀ x ∈ s, x < 128) : SeqAt.shaped (.str (St' s)) = true := shaped_of (by simp only [PyData.canLay0]; exact strOk_of h) (by simp [PyData.depth])
theorem st_inj' {a b : List Nat} (h : St' a = St' b) : a = b := by
  have := congrArg (fun x : Str => x.cps.toList) h
  exact this
theorem st_beq (a b : List Nat) : (St' a == St' b) = decide (a = b) := by
  by_cases h : a = b
  · subst h
    simp
  · rw [decide_eq_false h]
    exact beq_eq_false_iff_ne.mpr fun e => h (st_inj' e)
@[simp] theorem fEq_str {a b : List Nat} (ha : ∀ x ∈ a, x < 128) (hb : ∀ x ∈ b, x < 128) : fEq (.str a) (.str b) st = some (.bl (decide (a = b)), st) := by
  rw [fEq_of rfl rfl (shaped_str ha) (shaped_str hb)]
  simp only [PyData.eqv, st_beq]
@[simp] theorem fNe_str {a b : List Nat} (ha : ∀ x ∈ a, x < 128) (hb : ∀ x ∈ b, x < 128) : fNe (.str a) (.str b) st = some (.bl (!decide (a = b)), st) := fNe_fEq (fEq_str ha hb)
@[simp] theorem fEq_pr {a b c d : Int} : fEq (.tup [.int a, .int b]) (.tup [.int c, .int d]) st = some (.bl (decide (a = c ∧ b = d)), st) := by
  rw [fEq_of rfl rfl rfl rfl]
  simp [PyData.eqv, PyData.eqvAll, Bool.beq_eq_decide_eq]
@[simp] theorem fNe_pr {a b c d : Int} : fNe (.tup [.int a, .int b]) (.tup [.int c, .int d]) st = some (.bl (!decide (a = c ∧ b = d)), st) := fNe_fEq fEq_pr
@[simp] theorem fNe_nn : fNe .non .non st = some (.bl false, st) := rfl
@[simp] theorem fNe_prn {a b : Int} : fNe (.tup [.int a, .int b]) .non st = some (.bl true, st) := rfl
@[simp] theorem fNe_npr {a b : Int} : fNe .non (.tup [.int a, .int b]) st = some (.bl true, st) := rfl
theorem pr_lt (a b c d : Int) : fLt (.tup [.int a, .int b]) (.tup [.int c, .int d]) st = some (.bl (decide (a < c ∨ a = c ∧ b < d)), st) := rfl
theorem pr_gt (a b c d : Int) : fGt (.tup [.int a, .int b]) (.tup [.int c, .int d]) st = some (.bl (decide (c < a ∨ c = a ∧ d < b)), st) := rfl
@[simp ↓] theorem wS_aug {i : Nat} {f : O2} {m : FE} : wS (fAug i f m) sl st PS ↔ ∃ x, sl[i]? = some (some x) ∧ wX m sl st (fun y st1 => wG (f x y st1) fun z st2 => PS (.nx (sl.set i (some z)) st2)) (fun c st' => PS (.ex c sl st')) := by
  have key : ∀ x, wS (bndS m (fun y => fun sl st => match f x y st with
    | some (z, st') => some (.nx (sl.set i (some z)) st')
    | none => none)) sl st PS ↔ wX m sl st (fun y st1 => wG (f x y st1) fun z st2 => PS (.nx (sl.set i (some z)) st2)) (fun c st' => PS (.ex c sl st')) := fun x => by
    rw [wS_bnd]
    refine wX_congr fun y st' => ?_
    unfold wS wG
    constructor
    · rintro ⟨r, h, q⟩
      dsimp only at h
      split at h
      · rename_i z st2 h2
        cases h
        exact ⟨z, st2, h2, q⟩
      · cases h
    · rintro ⟨z, st2, h, q⟩
      exact ⟨_, by simp only [h], q⟩
  unfold fAug
  constructor
  · rintro ⟨r, h, q⟩
    dsimp only at h
    split at h
    · rename_i x hx
      exact ⟨x, hx, (key x).mp ⟨r, h, q⟩⟩
    · cases h
  · rintro ⟨x, hx, h⟩
    obtain ⟨r, h1, q⟩ := (key x).mpr h
    exact ⟨r, by simp only [hx]; exact h1, q⟩
/-! texts -/
theorem lower_St {s : List Nat} (h : ∀ x ∈ s, x < 128) : Txt.lower (St' s) = St' (s.map PyProof.Rows.lo1) := by
  rw [PyProof.Rows.lower_ascii (x := St' s) h]
  show (⟨(s.toArray).map lo1⟩ : Str) = _
  rw [List.map_toArray]
theorem upper_St {s : List Nat} (h : ∀ x ∈ s, x < 128) : Txt.upper (St' s) = St' (s.map PyProof.Rows.up1) := by
  rw [PyProof.Rows.upper_ascii (x := St' s) h]
  show (⟨(s.toArray).map up1⟩ : Str) = _
  rw [List.map_toArray]
@[simp] theorem fLower_str {s : List Nat} (hl : s.length ≤ 5592405) (h : ∀ x ∈ s, x < 128) : fLower (.str s) [] st = some (.str (s.map PyProof.Rows.lo1), st) := by
  show (if s.length ≤ 5592405 then some (Val.str (Txt.lower (St' s)).cps.toList, st) else none) = _
  rw [if_pos hl]
  have : Txt.lower (St' s) = St' (s.map PyProof.Rows.lo1) := lower_St h
  rw [this]
@[simp] theorem fUpper_str {s : List Nat} (hl : s.length ≤ 5592405) (h : ∀ x ∈ s, x < 128) : fUpper (.str s) [] st = some (.str (s.map PyProof.Rows.up1), st) := by
  show (if s.length ≤ 5592405 then some (Val.str (Txt.upper (St' s)).cps.toList, st) else none) = _
  rw [if_pos hl]
  have : Txt.upper (St' s) = St' (s.map PyProof.Rows.up1) := upper_St h
  rw [this]
/-- the first of the places from i on where p holds -/
theorem hd_filter {p : Nat → Bool} : ∀ {n lo : Nat}, ((List.range' lo n).filter p).head? = none → ∀ v, lo ≤ v → v < lo + n → p v = false
  | 0, lo, _, v, h1, h2 => by omega
  | n + 1, lo, h, v, h1, h2 => by
    rw [List.range'_succ, List.filter_cons] at h
    cases hp : p lo with
    | true => rw [hp] at h; simp at h
    | false =>
      rw [hp] at h
      simp only [Bool.false_eq_true, if_false] at h
      by_cases e : v = lo
      · rw [e]; exact hp
      · exact hd_filter (n := n) (lo := lo + 1) h v (by omega) (by omega)
theorem hd_some {p : Nat → Bool} : ∀ {n lo k : Nat}, lo ≤ k → k < lo + n → p k = true → (∀ v, lo ≤ v → v < k → p v = false) → ((List.range' lo n).filter p).head? = some k
  | 0, lo, k, h1, h2, _, _ => by omega
  | n + 1, lo, k, h1, h2, h3, h4 => by
    rw [List.range'_succ, List.filter_cons]
    by_cases e : k = lo
    · subst e
      rw [h3]
      rfl
    · rw [h4 lo (Nat.le_refl _) (by omega)]
      simp only [Bool.false_eq_true, if_false]
      exact hd_some (by omega) (by omega) h3 fun v h5 h6 => h4 v (by omega) h6
theorem hd_none {p : Nat → Bool} : ∀ {n lo : Nat}, (∀ v, lo ≤ v → v < lo + n → p v = false) → ((List.range' lo n).filter p).head? = none
  | 0, lo, _ => rfl
  | n + 1, lo, h => by
    rw [List.range'_succ, List.filter_cons, h lo (Nat.le_refl _) (by omega)]
    simp only [Bool.false_eq_true, if_false]
    exact hd_none fun v h1 h2 => h v (by omega) (by omega)
/-- where a sign stands from i on -/
def nextAt (s : List Nat) (c i : Nat) : Option Nat := ((List.range' i (s.length - i)).filter fun v => decide (s[v]? = some c)).head?
theorem nextAt_lt {s : List Nat} {c i k : Nat} (h : nextAt s c i = some k) : i ≤ k ∧ s[k]? = some c := by
  unfold nextAt at h
  have hm := List.mem_of_mem_head? (l := (List.range' i (s.length - i)).filter fun v => decide (s[v]? = some c)) (a := k) (by rw [h]; rfl)
  obtain ⟨h1, h2⟩ := List.mem_filter.mp hm
  rw [List.mem_range'_1] at h1
  exact ⟨h1.1, of_decide_eq_true h2⟩
theorem get_iff {s : List Nat} {c v : Nat} (h : v < s.length) : (St' s).cps.getD v 0 = c ↔ s[v]? = some c := by
  show (s.toArray).getD v 0 = c ↔ _
  rw [List.getElem?_eq_getElem h]
  simp [Array.getD, h]
theorem fFind3_one {s : List Nat} {c i : Nat} : fFind3 (.str s) [.str [c], .int i] st = some (.int (match nextAt s c i with | some k => (k : Int) | none => -1), st) := by
  show some (Val.int (Txt.find3 (St' s) (St' [c]) i), st) = _
  have hlen : (St' s).length = s.length := st_len s
  have hfi : PySem.fromIndex (St' s).length (i : Int) = i := by
    unfold PySem.fromIndex
    rw [if_neg (by omega)]
    omega
  have : Txt.find3 (St' s) (St' [c]) i = (match nextAt s c i with | some k => (k : Int) | none => -1) := by
    rcases PySem.StrLaws.find3_spec (St' s) c (i : Int) with ⟨h, hn⟩ | ⟨k, h, h1, h2, h3, h4⟩
    · rw [hfi, hlen] at hn
      have e : nextAt s c i = none := hd_none fun v h1 h2 => decide_eq_false fun z => hn v h1 (by omega) ((get_iff (by omega)).mpr z)
      rw [e]
      exact h
    · rw [hfi] at h1 h4
      rw [hlen] at h2
      have e : nextAt s c i = some k := hd_some h1 (by omega) (decide_eq_true ((get_iff h2).mp h3)) fun v h5 h6 => decide_eq_false fun z => h4 v h5 h6 ((get_iff (by omega)).mpr z)
      rw [e]
      exact h
  rw [this]
/-- how many signs c a text begins with -/
def lead (c : Nat) (s : List Nat) : Nat := (s.takeWhile (· == c)).length
theorem lead_le (c : Nat) (s : List Nat) : lead c s ≤ s.length := PyProof.Rows.takeWhile_len_le _ _
theorem fLstripC_one {s : List Nat} {c : Nat} (hl : s.length ≤ LINE) : fLstripC (.str s) [.str [c]] st = some (.str (s.drop (lead c s)), st) := by
  show (if s.length ≤ LINE then some (Val.str (Txt.lstripChars (St' s) (St' [c])).cps.toList, st) else none) = _
  rw [if_pos hl]
  have e0 : stripLo (St' [c]).cps.contains true (St' s) = lead c s := by
    unfold stripLo lead
    rw [if_pos rfl]
    have : (St' [c]).cps.contains = fun x => x == c := by
      funext x
      show ([c].toArray).contains x = _
      simp [Bool.beq_eq_decide_eq]
    rw [this]
  have : (Txt.lstripChars (St' s) (St' [c])).cps.toList = s.drop (lead c s) := by
    unfold Txt.lstripChars Txt.stripBy stripSame
    rw [e0]
    by_cases h0 : lead c s = 0
    · simp [h0, stripHi]
    · have : (lead c s == 0) = false := by simp [h0]
      rw [this]
      simp only [Bool.false_and, Bool.false_eq_true, if_false]
      unfold stripped
      rw [e0, StrLaws.strSub_toList]
      simp only [stripHi, Bool.false_eq_true, if_false]
      have hl : (St' s).length = s.length := st_len s
      rw [hl]
      exact List.take_of_length_le (by simp)
  rw [this]
/-! ranges -/
def iv (k : Nat) : Val := .int k
def qv (p : Nat → Bool) : Val → Bool
  | .int i => p i.toNat
  | _ => false
theorem rngF (p : Nat → Bool) (lo n : Nat) : (rngL (lo : Int) n).filter (qv p) = ((List.range' lo n).filter p).map iv := by
  have e : rngL (lo : Int) n = (List.range' lo n).map iv := by
    unfold rngL
    rw [List.range_eq_range']
    have : List.range' lo n = (List.range' 0 n).map (lo + ·) := by rw [List.map_add_range', Nat.add_zero]
    rw [this, List.map_map]
    refine List.map_congr_left fun k _ => ?_
    show Val.int _ = Val.int _
    simp
  rw [e, List.filter_map]
  congr 1
@[simp] theorem atI_hd {α : Type} {l : List α} : L2.atI l 0 = l.head? := by cases l <;> simp [L2.atI, ixN]
theorem atI_la {α : Type} {l : List α} : L2.atI l (-1) = l.getLast? := by
  rw [List.getLast?_eq_getElem?]
  by_cases h : l = []
  · subst h
    rfl
  · have : 0 < l.length := List.length_pos_iff.mpr h
    simp [L2.atI, ixN_m1 this]
/-- a text among texts -/
theorem toD_strs (st : Sto) (n : Nat) : ∀ bs : List (List Nat), mapO (FL.toD (n + 1) st) (bs.map Val.str) = some (bs.map fun b => PyData.str (St' b))
  | [] => rfl
  | b :: bs => by
    rw [List.map_cons]
    unfold mapO
    rw [toD_strs st n bs]
    rfl
theorem fIn_strs {a : List Nat} {bs : List (List Nat)} {p : Nat} (h : st[p]? = some (Ob.lst (bs.map Val.str))) (ha : ∀ x ∈ a, x < 128) (hb : ∀ b ∈ bs, ∀ x ∈ b, x < 128) : fIn (.str a) (.ref p) st = some (.bl (decide (a ∈ bs)), st) := by
  have e1 : FL.toD 9 st (.ref p) = some (.list (bs.map fun b => PyData.str (St' b))) := by
    show (match st[p]? with | some (Ob.lst xs) => (mapO (FL.toD 8 st) xs).map PyData.list | _ => none) = _
    rw [h]
    simp only [toD_strs]
    rfl
  have e2 : SeqAt.shaped (.list (bs.map fun b => PyData.str (St' b))) = true := by
    have d1 := depAll (k := 0) (ds := bs.map fun b => PyData.str (St' b)) fun d hd => by
      obtain ⟨b, _, rfl⟩ := List.mem_map.mp hd
      simp [PyData.depth]
    refine shaped_of ?_ (by simp only [PyData.depth]; omega)
    simp only [PyData.canLay0]
    refine canAll fun d hd => ?_
    obtain ⟨b, hb', rfl⟩ := List.mem_map.mp hd
    simp only [PyData.canLay0]
    exact strOk_of (hb b hb')
  have e3 : (bs.map fun b => PyData.str (St' b)).any (fun z => PyData.eqv z (.str (St' a))) = decide (a ∈ bs) := by
    rw [List.any_map]
    clear h e1 e2 hb
    induction bs with
    | nil => rfl
    | cons b bs ih =>
      rw [List.any_cons, ih]
      show (PyData.eqv (.str (St' b)) (.str (St' a)) || decide (a ∈ bs)) = _
      simp only [PyData.eqv, st_beq]
      by_cases e : b = a
      · subst e
        simp
      · have e' : ¬ a = b := fun z => e z.symm
        simp [e, e']
  unfold fIn fInB
  simp only [h]
  have e4 : FL.toD 9 st (.str a) = some (.str (St' a)) := rfl
  rw [e1, e4]
  simp only [shaped_str ha, e2, and_self, if_true, Option.map_some, e3]
/-! a dict made by a comprehension whose parts change nothing -/
theorem setK_len {α : Type} (kvs : List (Key × α)) (k : Key) (v : α) : (setK kvs k v).length ≤ kvs.length + 1 := by
  unfold setK
  split
  · simp
  · simp
theorem dcL_run {l : Lv} {all : List Val} {g : FG} {mk mv : FE} {fk : Val → Key} {fv : Val → Val} (lv : Live l all st)
    (h : ∀ x ∈ all, wT g x sl st fun sl1 st2 => st2 = st ∧ wX mk sl1 st (fun y st3 => st3 = st ∧ keyOf y = some (fk x)) G0 ∧ wX mv sl1 st (fun z st4 => st4 = st ∧ z = fv x) G0) :
    ∀ (xs : List Val) (kvs : List (Key × Val)), (∀ x ∈ xs, x ∈ all) → kvs.length + xs.length < LINE → dcL l all g fYes mk mv sl xs kvs st = some (xs.foldl (fun kvs x => setK kvs (fk x) (fv x)) kvs, st)
  | [], kvs, _, _ => if_pos lv
  | x :: xs, kvs, hm, hl => by
    obtain ⟨sl1, st2, h1, e2, h2, h3⟩ := h x (hm x List.mem_cons_self)
    subst st2
    obtain ⟨y, st3, h4, e3, h5⟩ := ok_of h2
    subst st3
    obtain ⟨z, st4, h6, e4, e5⟩ := ok_of h3
    subst st4
    subst z
    have h0 : fYes sl1 st = some (.ok true st) := rfl
    have hlen : kvs.length < LINE := by
      simp only [List.length_cons] at hl
      omega
    unfold dcL
    rw [if_pos lv]
    simp only [h1, h0, h4, h5, h6, if_pos hlen]
    have := setK_len kvs (fk x) (fv x)
    exact dcL_run lv h xs _ (fun x hx => hm x (List.mem_cons_of_mem _ hx)) (by
      simp only [List.length_cons] at hl
      omega)
theorem wX_dc {mi : FI} {g : FG} {mk mv : FE} {vs : List Nat} {P : Val → Sto → Prop} (h : wX mi sl st (fun b st1 => ∃ (fk : Val → Key) (fv : Val → Val), Live b.live b.items st1 ∧ b.items.length < LINE ∧
    (∀ x ∈ b.items, wT g x (wipeL sl vs) st1 fun sl1 st2 => st2 = st1 ∧ wX mk sl1 st1 (fun y st3 => st3 = st1 ∧ keyOf y = some (fk x)) G0 ∧ wX mv sl1 st1 (fun z st4 => st4 = st1 ∧ z = fv x) G0) ∧
    P (.ref st1.length) (st1 ++ [.dic (b.items.foldl (fun kvs x => setK kvs (fk x) (fv x)) [])])) G) : wX (fDc mi g fYes mk mv vs) sl st P G := by
  unfold fDc
  rw [wX_bnd]
  refine h.mono fun b st1 ⟨fk, fv, h1, h2, h3, h4⟩ => ?_
  have := dcL_run h1 h3 b.items [] (fun x hx => hx) (by simpa using h2)
  exact ⟨.ok _ _, by simp only [this], h4⟩
/-! two clauses, whose parts change nothing -/
theorem lcL_pure {l : Lv} {all : List Val} {g : FG} {t : FT} {m : FE} {q : Val → Bool} {f : Val → Val} (lv : Live l all st)
    (h : ∀ x ∈ all, wT g x sl st fun sl1 st2 => st2 = st ∧ wX t sl1 st (fun c st3 => c = q x ∧ st3 = st ∧ (q x = true → wX m sl1 st (fun y st4 => y = f x ∧ st4 = st) G0)) G0) :
    ∀ xs : List Val, (∀ x ∈ xs, x ∈ all) → lcL l all g t m sl xs st = some ((xs.filter q).map f, st)
  | [], _ => if_pos lv
  | x :: xs, hm => by
    obtain ⟨sl1, st2, h1, e2, h2⟩ := h x (hm x List.mem_cons_self)
    subst st2
    obtain ⟨c, st3, h3, e3, e4, h4⟩ := ok_of h2
    subst st3
    subst c
    have ih := lcL_pure lv h xs fun x hx => hm x (List.mem_cons_of_mem _ hx)
    unfold lcL
    rw [if_pos lv]
    simp only [h1, h3]
    cases hq : q x with
    | true =>
      obtain ⟨y, st4, h5, e5, e6⟩ := ok_of (h4 hq)
      subst st4
      subst y
      simp only [h5, ih, List.filter_cons, hq, if_true, List.map_cons]
    | false => simp only [ih, List.filter_cons, hq, Bool.false_eq_true, if_false]
theorem lcL2_pure {l : Lv} {all : List Val} {g : FG} {t t1 : FT} {mi1 : FI} {g1 : FG} {m : FE} {vs1 : List Nat} {q : Val → Bool} {its : Val → List Val} {q1 : Val → Val → Bool} {f : Val → Val → Val} (lv : Live l all st)
    (h : ∀ x ∈ all, wT g x sl st fun sl1 st2 => st2 = st ∧ wX t sl1 st (fun c st3 => c = q x ∧ st3 = st ∧ (q x = true → wX mi1 sl1 st (fun b st4 => st4 = st ∧ b.items = its x ∧ Live b.live b.items st ∧
      ∀ y ∈ b.items, wT g1 y (wipeL sl1 vs1) st fun sl2 st5 => st5 = st ∧ wX t1 sl2 st (fun c st6 => c = q1 x y ∧ st6 = st ∧ (q1 x y = true → wX m sl2 st (fun z st7 => z = f x y ∧ st7 = st) G0)) G0) G0)) G0) :
    ∀ xs : List Val, (∀ x ∈ xs, x ∈ all) → lcL2 l all g t mi1 g1 t1 m vs1 sl xs st = some ((xs.filter q).flatMap fun x => ((its x).filter (q1 x)).map (f x), st)
  | [], _ => if_pos lv
  | x :: xs, hm => by
    obtain ⟨sl1, st2, h1, e2, h2⟩ := h x (hm x List.mem_cons_self)
    subst st2
    obtain ⟨c, st3, h3, e3, e4, h4⟩ := ok_of h2
    subst st3
    subst c
    have ih := lcL2_pure lv h xs fun x hx => hm x (List.mem_cons_of_mem _ hx)
    unfold lcL2
    rw [if_pos lv]
    simp only [h1, h3]
    cases hq : q x with
    | true =>
      obtain ⟨b, st4, h5, e5, h6, h7, h8⟩ := ok_of (h4 hq)
      subst st4
      have := lcL_pure h7 h8 b.items fun x hx => hx
      rw [h6] at this
      simp only [h5, this, ih, List.filter_cons, hq, if_true, List.flatMap_cons, h6]
    | false => simp only [ih, List.filter_cons, hq, Bool.false_eq_true, if_false]
theorem wX_lc2 {mi mi1 : FI} {g g1 : FG} {t t1 : FT} {m : FE} {vs vs1 : List Nat} {P : Val → Sto → Prop} (h : wX mi sl st (fun b st1 => ∃ (q : Val → Bool) (its : Val → List Val) (q1 : Val → Val → Bool) (f : Val → Val → Val), Live b.live b.items st1 ∧
    (∀ x ∈ b.items, wT g x (wipeL sl vs) st1 fun sl1 st2 => st2 = st1 ∧ wX t sl1 st1 (fun c st3 => c = q x ∧ st3 = st1 ∧ (q x = true → wX mi1 sl1 st1 (fun b st4 => st4 = st1 ∧ b.items = its x ∧ Live b.live b.items st1 ∧
      ∀ y ∈ b.items, wT g1 y (wipeL sl1 vs1) st1 fun sl2 st5 => st5 = st1 ∧ wX t1 sl2 st1 (fun c st6 => c = q1 x y ∧ st6 = st1 ∧ (q1 x y = true → wX m sl2 st1 (fun z st7 => z = f x y ∧ st7 = st1) G0)) G0) G0)) G0) ∧
    ((b.items.filter q).flatMap fun x => ((its x).filter (q1 x)).map (f x)).length ≤ LINE ∧ P (.ref st1.length) (st1 ++ [.lst ((b.items.filter q).flatMap fun x => ((its x).filter (q1 x)).map (f x))])) G) : wX (fLc2 mi g t mi1 g1 t1 m vs vs1) sl st P G := by
  unfold fLc2
  rw [wX_bnd]
  refine h.mono fun b st1 ⟨q, its, q1, f, h1, h2, h3, h4⟩ => ?_
  have := lcL2_pure h1 h2 b.items fun x hx => hx
  exact ⟨.ok _ _, by simp only [this, if_pos h3], h4⟩
end
end FL
/-! MO1: places of a text in their order, in plain terms. -/
namespace MO
abbrev Pt := Nat × Nat
def ltp (p q : Pt) : Bool := decide (p.1 < q.1 ∨ p.1 = q.1 ∧ p.2 < q.2)
theorem ltp_iff {p q : Pt} : ltp p q = true ↔ p.1 < q.1 ∨ p.1 = q.1 ∧ p.2 < q.2 := decide_eq_true_iff
theorem ltp_trans {p q r : Pt} (h : ltp p q = true) (k : ltp q r = true) : ltp p r = true := by
  rw [ltp_iff] at *
  omega
theorem ltp_irr (p : Pt) : ltp p p = false := decide_eq_false (by omega)
theorem ltp_asymm {p q : Pt} (h : ltp p q = true) : ltp q p = false := by
  rw [ltp_iff] at h
  exact decide_eq_false (by omega)
theorem ltp_tri {p q : Pt} (h : ltp p q = false) (k : ltp q p = false) : p = q := by
  have h := of_decide_eq_false h
  have k := of_decide_eq_false k
  exact Prod.ext (by omega) (by omega)
/-- what g finds in each row -/
def rowsG (g : List Nat → List Nat) : Nat → List (List Nat) → List Pt
  | _, [] => []
  | i, s :: ss => (g s).map (fun j => (i, j)) ++ rowsG g (i + 1) ss
def rowsF (g : List Nat → List Nat) (ss : List (List Nat)) : List Pt := rowsG g 0 ss
section
variable {g : List Nat → List Nat}
theorem rowsG_app : ∀ (xs ys : List (List Nat)) (i : Nat), rowsG g i (xs ++ ys) = rowsG g i xs ++ rowsG g (i + xs.length) ys
  | [], ys, i => by simp [rowsG]
  | x :: xs, ys, i => by
    show (g x).map _ ++ rowsG g (i + 1) (xs ++ ys) = ((g x).map _ ++ rowsG g (i + 1) xs) ++ _
    rw [rowsG_app xs ys (i + 1), List.append_assoc]
    congr 3
    simp only [List.length_cons]
    omega
theorem rowsF_take {ss : List (List Nat)} {i : Nat} {s : List Nat} (h : ss[i]? = some s) : rowsF g (ss.take (i + 1)) = rowsF g (ss.take i) ++ (g s).map fun j => (i, j) := by
  have hl := (List.getElem?_eq_some_iff.mp h).1
  rw [List.take_add_one, h]
  show rowsG g 0 (ss.take i ++ [s]) = _
  rw [rowsG_app]
  have : (ss.take i).length = i := by rw [List.length_take]; omega
  rw [this]
  simp [rowsG, rowsF]
theorem rowsG_mem : ∀ {ss : List (List Nat)} {i : Nat} {p : Pt}, p ∈ rowsG g i ss ↔ ∃ s, i ≤ p.1 ∧ ss[p.1 - i]? = some s ∧ p.2 ∈ g s
  | [], i, p => by simp [rowsG]
  | s :: ss, i, p => by
    show p ∈ (g s).map _ ++ rowsG g (i + 1) ss ↔ _
    rw [List.mem_append, rowsG_mem (ss := ss)]
    constructor
    · rintro (h | ⟨t, h1, h2, h3⟩)
      · obtain ⟨j, hj, rfl⟩ := List.mem_map.mp h
        exact ⟨s, Nat.le_refl _, by simp, hj⟩
      · refine ⟨t, by omega, ?_, h3⟩
        have : p.1 - i = (p.1 - (i + 1)) + 1 := by omega
        rw [this, List.getElem?_cons_succ]
        exact h2
    · rintro ⟨t, h1, h2, h3⟩
      by_cases e : p.1 = i
      · left
        rw [e, Nat.sub_self] at h2
        cases h2
        exact List.mem_map.mpr ⟨p.2, h3, by rw [← e]⟩
      · right
        refine ⟨t, by omega, ?_, h3⟩
        have : p.1 - i = (p.1 - (i + 1)) + 1 := by omega
        rw [this, List.getElem?_cons_succ] at h2
        exact h2
theorem rowsF_mem {ss : List (List Nat)} {p : Pt} : p ∈ rowsF g ss ↔ ∃ s, ss[p.1]? = some s ∧ p.2 ∈ g s := by
  unfold rowsF
  rw [rowsG_mem]
  simp
/-- in order -/
def Up (l : List Pt) : Prop := l.Pairwise fun p q => ltp p q = true
theorem rowsG_up : ∀ (ss : List (List Nat)) (i : Nat), (∀ s ∈ ss, (g s).Pairwise (· < ·)) → Up (rowsG g i ss)
  | [], i, _ => List.Pairwise.nil
  | s :: ss, i, h => by
    show List.Pairwise _ ((g s).map _ ++ rowsG g (i + 1) ss)
    rw [List.pairwise_append]
    refine ⟨?_, rowsG_up ss (i + 1) fun t ht => h t (List.mem_cons_of_mem _ ht), ?_⟩
    · rw [List.pairwise_map]
      refine List.Pairwise.imp (R := fun a b : Nat => a < b) ?_ (h s List.mem_cons_self)
      intro a b hab
      exact ltp_iff.mpr (.inr ⟨rfl, hab⟩)
    · rintro p hp q hq
      obtain ⟨j, _, rfl⟩ := List.mem_map.mp hp
      obtain ⟨t, h1, _⟩ := rowsG_mem.mp hq
      exact ltp_iff.mpr (.inl (by show i < q.1; omega))
theorem rowsF_up {ss : List (List Nat)} (h : ∀ s ∈ ss, (g s).Pairwise (· < ·)) : Up (rowsF g ss) := rowsG_up ss 0 h
theorem rowsG_len {b : Nat} : ∀ (ss : List (List Nat)) (i : Nat), (∀ s ∈ ss, (g s).length ≤ b) → (rowsG g i ss).length ≤ ss.length * b
  | [], i, _ => by simp [rowsG]
  | s :: ss, i, h => by
    show ((g s).map _ ++ rowsG g (i + 1) ss).length ≤ _
    have h1 := rowsG_len ss (i + 1) fun t ht => h t (List.mem_cons_of_mem _ ht)
    have h2 := h s List.mem_cons_self
    simp only [List.length_append, List.length_map, List.length_cons, Nat.add_mul, Nat.one_mul]
    omega
theorem rowsF_len {b : Nat} {ss : List (List Nat)} (h : ∀ s ∈ ss, (g s).length ≤ b) : (rowsF g ss).length ≤ ss.length * b := rowsG_len ss 0 h
theorem rowsG_filter (Q : Nat → Nat → Bool) : ∀ (ss : List (List Nat)) (i : Nat) {h : List Nat → List Nat}, (∀ j s, ss[j]? = some s → (g s).filter (Q (i + j)) = h s) → (rowsG g i ss).filter (fun p => Q p.1 p.2) = rowsG h i ss
  | [], i, h, _ => rfl
  | s :: ss, i, h, e => by
    show ((g s).map _ ++ rowsG g (i + 1) ss).filter _ = (h s).map _ ++ rowsG h (i + 1) ss
    rw [List.filter_append, List.filter_map, rowsG_filter Q ss (i + 1) fun j t ht => by
      have := e (j + 1) t (by simpa using ht)
      rwa [show i + (j + 1) = i + 1 + j by omega] at this]
    congr 1
    have := e 0 s rfl
    rw [Nat.add_zero] at this
    rw [← this]
    rfl
end
theorem range_up (n : Nat) (p : Nat → Bool) : ((List.range n).filter p).Pairwise (· < ·) := List.pairwise_lt_range.filter p
theorem range_up1 (n : Nat) (p : Nat → Bool) : (((List.range n).filter p).map (· + 1)).Pairwise (· < ·) := by
  rw [List.pairwise_map]
  exact (range_up n p).imp fun {a b} h => by omega
def firstA (l : List Pt) (p : Pt) : Option Pt := (l.filter fun q => ltp p q).head?
def lastA (l : List Pt) (p : Pt) : Option Pt := (l.filter fun q => ltp q p).getLast?
theorem firstA_mem {l : List Pt} {p q : Pt} (h : firstA l p = some q) : q ∈ l ∧ ltp p q = true := by
  have := List.mem_of_mem_head? (a := q) (by unfold firstA at h; rw [h]; rfl)
  exact List.mem_filter.mp this
theorem lastA_mem {l : List Pt} {p q : Pt} (h : lastA l p = some q) : q ∈ l ∧ ltp q p = true := by
  have := List.mem_of_getLast? h
  exact List.mem_filter.mp this
/-- a place splits what stands in order -/
theorem Up.split {l : List Pt} (h : Up l) {p : Pt} (hp : p ∈ l) : ∃ a b, l = a ++ p :: b ∧ (∀ q ∈ a, ltp q p = true) ∧ ∀ q ∈ b, ltp p q = true := by
  obtain ⟨a, b, rfl⟩ := List.append_of_mem hp
  unfold Up at h
  rw [List.pairwise_append] at h
  obtain ⟨h1, h2, h3⟩ := h
  rw [List.pairwise_cons] at h2
  exact ⟨a, b, rfl, fun q hq => h3 q hq p List.mem_cons_self, h2.1⟩
theorem filter_all {α : Type} {l : List α} {q : α → Bool} (h : ∀ x ∈ l, q x = true) : l.filter q = l := List.filter_eq_self.mpr h
theorem filter_no {α : Type} {l : List α} {q : α → Bool} (h : ∀ x ∈ l, q x = false) : l.filter q = [] := by
  rw [List.filter_eq_nil_iff]
  intro x hx
  rw [h x hx]
  decide
theorem split_after {a b : List Pt} {p : Pt} (ha : ∀ q ∈ a, ltp q p = true) (hb : ∀ q ∈ b, ltp p q = true) : (a ++ p :: b).filter (fun q => ltp p q) = b ∧ (a ++ p :: b).filter (fun q => ltp q p) = a := by
  constructor
  · rw [List.filter_append, filter_no fun q hq => ltp_asymm (ha q hq), List.filter_cons, ltp_irr, filter_all hb]
    rfl
  · rw [List.filter_append, filter_all ha, List.filter_cons, ltp_irr, filter_no fun q hq => ltp_asymm (hb q hq)]
    simp
/-! kinds of signs -/
def wordB (c : Nat) : Bool := decide (c = 95) || decide (48 ≤ c ∧ c ≤ 57) || decide (97 ≤ c ∧ c ≤ 122) || decide (65 ≤ c ∧ c ≤ 90)
def kindN (c : Nat) : Nat := if c = 32 then 0 else if wordB c = true then 1 else 2
def kd (s : List Nat) (i : Nat) : Nat := kindN (s[i]?.getD 32)
theorem kindN_le (c : Nat) : kindN c ≤ 2 := by
  unfold kindN
  split
  · omega
  · split <;> omega
def isB (s : List Nat) (i : Nat) : Bool := decide (0 < kd s i) && (decide (i = 0) || !decide (kd s (i - 1) = kd s i))
def isE (s : List Nat) (i : Nat) : Bool := decide (0 < kd s i) && !decide (kd s (i + 1) = kd s i)
def beginsR (s : List Nat) : List Nat := (List.range s.length).filter (isB s)
def endsR (s : List Nat) : List Nat := ((List.range s.length).filter (isE s)).map (· + 1)
def foundR (w : List Nat) (s : List Nat) : List Nat := (List.range s.length).filter fun i => decide ((s.drop i).take w.length = w)
def allR (s : List Nat) : List Nat := List.range s.length
def wayB (o : Nat) : Nat := if o = 40 then 41 else if o = 41 then 40 else if o = 91 then 93 else if o = 93 then 91 else if o = 123 then 125 else 123
def brk (x : Nat) : Bool := [40, 41, 91, 93, 123, 125].contains x
def opn (x : Nat) : Bool := [40, 91, 123].contains x
/-- the sign at a place -/
def sgn (ss : List (List Nat)) (p : Pt) : Nat := ((ss[p.1]?.getD [])[p.2]?).getD 0
/-- how deep behind this sign -/
def dlt (x m c : Nat) : Int := (if c = x then 1 else 0) - (if c = m then 1 else 0)
def scanM (f : Pt → Nat) (x m : Nat) : List Pt → Int → Option Pt
  | [], _ => none
  | p :: l, d => if d + dlt x m (f p) = 0 then some p else scanM f x m l (d + dlt x m (f p))
theorem scanM_mem {f : Pt → Nat} {x m : Nat} : ∀ {l : List Pt} {d : Int} {p : Pt}, scanM f x m l d = some p → p ∈ l
  | [], d, p, h => by cases h
  | q :: l, d, p, h => by
    unfold scanM at h
    split at h
    · cases h
      exact List.mem_cons_self
    · exact List.mem_cons_of_mem _ (scanM_mem h)
theorem scanM_filter {f : Pt → Nat} {x m : Nat} : ∀ (l : List Pt) (d : Int), d ≠ 0 → scanM f x m (l.filter fun p => decide (f p = x) || decide (f p = m)) d = scanM f x m l d
  | [], d, _ => rfl
  | p :: l, d, h => by
    rw [List.filter_cons]
    by_cases e : (decide (f p = x) || decide (f p = m)) = true
    · rw [if_pos e]
      unfold scanM
      split
      · rfl
      · rename_i h2
        exact scanM_filter l _ h2
    · rw [if_neg e]
      have e1 : ¬ f p = x := fun z => e (by simp [z])
      have e2 : ¬ f p = m := fun z => e (by simp [z])
      have : dlt x m (f p) = 0 := by simp [dlt, e1, e2]
      rw [scanM_filter l d h]
      conv => rhs; unfold scanM
      rw [this, Int.add_zero, if_neg h]
def allP (ss : List (List Nat)) : List Pt := rowsF allR ss
theorem allP_up (ss : List (List Nat)) : Up (allP ss) := rowsF_up fun s _ => List.pairwise_lt_range
/-- the partner of the bracket that stands at p -/
def partP (ss : List (List Nat)) (p : Pt) : Option Pt := if brk (sgn ss p) then
    if opn (sgn ss p) then scanM (sgn ss) (sgn ss p) (wayB (sgn ss p)) ((allP ss).filter fun q => ltp p q) 1
    else scanM (sgn ss) (sgn ss p) (wayB (sgn ss p)) ((allP ss).filter fun q => ltp q p).reverse 1
  else none
def nextP (l : List Pt) (p : Pt) : Option Pt := match firstA l p with
  | some q => some q
  | none => l.head?
def prevP (l : List Pt) (p : Pt) : Option Pt := match lastA l p with
  | some q => some q
  | none => l.getLast?
end MO
/-! MO2: motions there and back. -/
namespace MO
theorem dlt_bound (x m c : Nat) : -1 ≤ dlt x m c ∧ dlt x m c ≤ 1 := by
  unfold dlt
  split <;> split <;> omega
theorem dlt_flip (x m c : Nat) : dlt m x c = -dlt x m c := by
  unfold dlt
  omega
theorem dlt_neg {x m c : Nat} (h : dlt x m c = -1) : c = m := by
  unfold dlt at h
  by_cases h1 : c = m
  · exact h1
  · rw [if_neg h1] at h
    split at h <;> omega
def sm (f : Pt → Nat) (x m : Nat) : List Pt → Int
  | [] => 0
  | p :: l => dlt x m (f p) + sm f x m l
theorem sm_app (f : Pt → Nat) (x m : Nat) : ∀ a b : List Pt, sm f x m (a ++ b) = sm f x m a + sm f x m b
  | [], b => by simp [sm]
  | p :: a, b => by
    show dlt x m (f p) + sm f x m (a ++ b) = dlt x m (f p) + sm f x m a + sm f x m b
    rw [sm_app f x m a b]
    omega
/-- what is found splits the places; ahead of it one is deep -/
theorem scanM_split {f : Pt → Nat} {x m : Nat} {q : Pt} : ∀ {l : List Pt} {d : Int}, 1 ≤ d → scanM f x m l d = some q → ∃ a b, l = a ++ q :: b ∧ (∀ a1 a2, a = a1 ++ a2 → 1 ≤ d + sm f x m a1) ∧ d + sm f x m a = 1 ∧ f q = m
  | [], d, _, h => by cases h
  | p :: l, d, hd, h => by
    have hb := dlt_bound x m (f p)
    unfold scanM at h
    split at h
    · rename_i h0
      cases h
      refine ⟨[], l, rfl, ?_, by simp [sm]; omega, dlt_neg (x := x) (by omega)⟩
      intro a1 a2 e
      have : a1 = [] := (List.append_eq_nil_iff.mp e.symm).1
      subst this
      simp [sm]
      exact hd
    · rename_i h0
      obtain ⟨a, b, rfl, h1, h2, h3⟩ := scanM_split (by omega) h
      refine ⟨p :: a, b, rfl, ?_, by show d + (dlt x m (f p) + sm f x m a) = 1; omega, h3⟩
      intro a1 a2 e
      cases a1 with
      | nil =>
        simp [sm]
        exact hd
      | cons y a1 =>
        rw [List.cons_append, List.cons.injEq] at e
        obtain ⟨rfl, e⟩ := e
        have := h1 a1 a2 e
        show 1 ≤ d + (dlt x m (f p) + sm f x m a1)
        omega
/-- the way back -/
theorem scanM_back {f : Pt → Nat} {x m : Nat} {rest : List Pt} {d : Int} : ∀ (n : Nat) (a : List Pt), a.length = n → (∀ a1 a2, a = a1 ++ a2 → 1 ≤ d + sm f x m a1) → scanM f m x (a.reverse ++ rest) (d + sm f x m a) = scanM f m x rest d
  | 0, a, hl, h => by
    have : a = [] := List.length_eq_zero_iff.mp hl
    subst this
    simp [sm]
  | n + 1, a, hl, h => by
    have hne : a ≠ [] := fun z => by rw [z] at hl; cases hl
    obtain ⟨a', y, rfl⟩ : ∃ a' y, a = a' ++ [y] := ⟨a.dropLast, a.getLast hne, (List.dropLast_concat_getLast hne).symm⟩
    rw [List.reverse_append, List.reverse_singleton, List.singleton_append, List.cons_append]
    have e : d + sm f x m (a' ++ [y]) + dlt m x (f y) = d + sm f x m a' := by
      rw [sm_app, dlt_flip]
      show d + (sm f x m a' + (dlt x m (f y) + 0)) + _ = _
      omega
    have h1 := h a' [y] rfl
    show (if d + sm f x m (a' ++ [y]) + dlt m x (f y) = 0 then some y else scanM f m x (a'.reverse ++ rest) (d + sm f x m (a' ++ [y]) + dlt m x (f y))) = _
    rw [e, if_neg (by omega)]
    refine scanM_back n a' (by simpa using hl) fun a1 a2 e2 => h a1 (a2 ++ [y]) ?_
    rw [e2, List.append_assoc]
theorem way_back {x : Nat} (h : brk x = true) : brk (wayB x) = true ∧ opn (wayB x) = !opn x ∧ wayB (wayB x) = x ∧ wayB x ≠ x := by
  have h1 : x ∈ [40, 41, 91, 93, 123, 125] := List.contains_iff_mem.mp h
  simp only [List.mem_cons, List.not_mem_nil, or_false] at h1
  rcases h1 with rfl | rfl | rfl | rfl | rfl | rfl <;> decide
theorem scanM_home {f : Pt → Nat} {x m : Nat} {p : Pt} {rest : List Pt} (h : f p = x) (hm : m ≠ x) : scanM f m x (p :: rest) 1 = some p := by
  have : dlt m x (f p) = -1 := by
    rw [h]
    unfold dlt
    rw [if_neg hm.symm, if_pos rfl]
    rfl
  unfold scanM
  rw [this]
  rfl
/-- a bracket's partner's partner -/
theorem partP_back {ss : List (List Nat)} {p q : Pt} (hp : p ∈ allP ss) (h : partP ss p = some q) : partP ss q = some p := by
  have up := allP_up ss
  obtain ⟨pre, post, hall, h1, h2⟩ := up.split hp
  have hs := split_after h1 h2
  rw [← hall] at hs
  have h' := h
  unfold partP at h'
  split at h'
  case isFalse => cases h'
  rename_i hb
  obtain ⟨w1, w2, w3, w4⟩ := way_back hb
  split at h'
  · rename_i ho
    rw [hs.1] at h'
    obtain ⟨a, b, e1, e2, e3, e4⟩ := scanM_split (Int.le_refl 1) h'
    have hq : q ∈ allP ss := by rw [hall, e1]; simp
    have hspl : allP ss = (pre ++ p :: a) ++ q :: b := by rw [hall, e1]; simp
    have up2 := up
    rw [hspl] at up2
    unfold Up at up2
    rw [List.pairwise_append] at up2
    obtain ⟨_, u2, u3⟩ := up2
    rw [List.pairwise_cons] at u2
    have hs2 := (split_after (a := pre ++ p :: a) (b := b) (p := q) (fun y hy => u3 y hy q List.mem_cons_self) u2.1).2
    rw [← hspl] at hs2
    unfold partP
    rw [e4, w1, w2, w3, ho]
    simp only [if_true, Bool.not_true, Bool.false_eq_true, if_false]
    rw [hs2, List.reverse_append, List.reverse_cons, List.append_assoc, List.singleton_append]
    have := scanM_back (f := sgn ss) (x := sgn ss p) (m := wayB (sgn ss p)) (rest := p :: pre.reverse) (d := 1) a.length a rfl e2
    rw [e3] at this
    rw [this]
    exact scanM_home rfl w4
  · rename_i ho
    have ho : opn (sgn ss p) = false := by simpa using ho
    rw [hs.2] at h'
    obtain ⟨a, b, e1, e2, e3, e4⟩ := scanM_split (Int.le_refl 1) h'
    have e5 : pre = b.reverse ++ q :: a.reverse := by
      have := congrArg List.reverse e1
      rw [List.reverse_reverse] at this
      rw [this]
      simp
    have hspl : allP ss = b.reverse ++ q :: (a.reverse ++ p :: post) := by rw [hall, e5]; simp
    have up2 := up
    rw [hspl] at up2
    unfold Up at up2
    rw [List.pairwise_append] at up2
    obtain ⟨_, u2, u3⟩ := up2
    rw [List.pairwise_cons] at u2
    have hs2 := (split_after (a := b.reverse) (b := a.reverse ++ p :: post) (p := q) (fun y hy => u3 y hy q List.mem_cons_self) u2.1).1
    rw [← hspl] at hs2
    unfold partP
    rw [e4, w1, w2, w3, ho]
    simp only [if_true, Bool.not_false]
    rw [hs2]
    have := scanM_back (f := sgn ss) (x := sgn ss p) (m := wayB (sgn ss p)) (rest := p :: post) (d := 1) a.length a rfl e2
    rw [e3] at this
    rw [this]
    exact scanM_home rfl w4
theorem last_first {l : List Pt} (up : Up l) {p q1 q2 : Pt} (h1 : firstA l p = some q1) (h2 : firstA l q1 = some q2) : lastA l q2 = some q1 := by
  obtain ⟨a, b, rfl, ha, hb⟩ := up.split (firstA_mem h1).1
  have hs := split_after ha hb
  unfold firstA at h2
  rw [hs.1] at h2
  cases b with
  | nil => cases h2
  | cons y b =>
    cases h2
    have up2 := up
    rw [show a ++ q1 :: q2 :: b = (a ++ [q1]) ++ q2 :: b by simp] at up2 ⊢
    unfold Up at up2
    rw [List.pairwise_append] at up2
    obtain ⟨_, u2, u3⟩ := up2
    rw [List.pairwise_cons] at u2
    have hs2 := (split_after (a := a ++ [q1]) (b := b) (p := q2) (fun y hy => u3 y hy q2 List.mem_cons_self) u2.1).2
    unfold lastA
    rw [hs2]
    simp
/-! around -/
theorem split_at {l : List Pt} (up : Up l) {i : Nat} (hi : i < l.length) : l.filter (fun q => ltp l[i] q) = l.drop (i + 1) ∧ l.filter (fun q => ltp q l[i]) = l.take i := by
  have e : l = l.take i ++ l[i] :: l.drop (i + 1) := by rw [← List.drop_eq_getElem_cons hi, List.take_append_drop]
  have up2 := up
  rw [e] at up2
  unfold Up at up2
  rw [List.pairwise_append] at up2
  obtain ⟨_, u2, u3⟩ := up2
  rw [List.pairwise_cons] at u2
  have hs := split_after (a := l.take i) (b := l.drop (i + 1)) (p := l[i]) (fun y hy => u3 y hy l[i] List.mem_cons_self) u2.1
  rw [← e] at hs
  exact hs
theorem next_at {l : List Pt} (up : Up l) {i : Nat} (hi : i < l.length) : nextP l l[i] = l[(i + 1) % l.length]? := by
  unfold nextP firstA
  rw [(split_at up hi).1]
  by_cases h : i + 1 < l.length
  · rw [Nat.mod_eq_of_lt h, List.drop_eq_getElem_cons h]
    simp [h]
  · have e : i + 1 = l.length := by omega
    rw [e, Nat.mod_self, List.drop_length]
    simp [List.head?_eq_getElem?]
theorem prev_at {l : List Pt} (up : Up l) {i : Nat} (hi : i < l.length) : prevP l l[i] = l[(i + (l.length - 1)) % l.length]? := by
  unfold prevP lastA
  rw [(split_at up hi).2]
  cases i with
  | zero =>
    rw [Nat.zero_add, Nat.mod_eq_of_lt (by omega)]
    simp [List.getLast?_eq_getElem?]
  | succ i =>
    have e : (i + 1 + (l.length - 1)) % l.length = i := by
      rw [show i + 1 + (l.length - 1) = i + l.length by omega, Nat.add_mod_right, Nat.mod_eq_of_lt (by omega)]
    rw [e, List.getLast?_eq_getElem?, List.length_take]
    have : min (i + 1) l.length - 1 = i := by omega
    rw [this, List.getElem?_take]
    rw [if_pos (by omega), List.getElem?_eq_getElem (by omega)]
end MO
/-! PL7: slices and ranges with a step, whiles that count, loops that look for the first. -/
namespace FL
open PySem PySem.Spec PyProof.Rows L2
section
variable {sl : Sl} {st : Sto} {v : Val} {PS : RS → Prop} {G : EP'}
@[simp ↓] theorem wX_slC {m : FE} {lo : FO} {c : Int} {P : Val → Sto → Prop} : wX (fSlC m lo c) sl st P G ↔ wX m sl st (fun x st1 => wX lo sl st1 (fun l st2 => ∃ p xs, x = .ref p ∧ st2[p]? = some (.lst xs) ∧ P (.ref st2.length) (st2 ++ [.lst (pickG xs l c)])) G) G := by
  unfold fSlC
  rw [wX_bnd]
  refine wX_congr fun x st1 => ?_
  rw [wX_bnd]
  refine wX_congr fun l st2 => ?_
  rw [wX_lft]
  unfold wG
  constructor
  · rintro ⟨v, s2, h1, q⟩
    split at h1
    · rename_i p
      split at h1
      · rename_i xs h2
        cases h1
        exact ⟨p, xs, rfl, h2, q⟩
      · cases h1
    · cases h1
  · rintro ⟨p, xs, rfl, h2, q⟩
    exact ⟨_, _, by simp only [h2], q⟩
@[simp ↓] theorem wX_rng3 {mas : FA} {Q : Itb → Sto → Prop} : wX (fRng3 mas) sl st Q G ↔ wX mas sl st (fun xs st' => ∃ i j c, xs = [.int i, .int j, .int c] ∧ okC i j c = true ∧ Q ⟨rngC i c (Builtin.Range.rangeSize i j c).toNat, .none⟩ st') G := by
  simp only [fRng3, wX_bnd]
  refine wX_congr fun x st' => ?_
  unfold wX
  constructor
  · rintro ⟨r, h1, q⟩
    split at h1
    · split at h1
      · rename_i hj
        cases h1
        exact ⟨_, _, _, rfl, hj, q⟩
      · cases h1
    · cases h1
  · rintro ⟨i, j, c, rfl, hj, q⟩
    exact ⟨.ok _ _, by simp [hj], q⟩
theorem rngC_get {lo c : Int} {n i : Nat} {x : Val} (h : (rngC lo c n)[i]? = some x) : i < n ∧ x = .int (lo + i * c) := by
  unfold rngC at h
  rw [List.getElem?_map] at h
  obtain ⟨j, h1, rfl⟩ := Option.map_eq_some_iff.mp h
  have hi := (List.getElem?_eq_some_iff.mp h1).1
  rw [List.length_range] at hi
  rw [List.getElem?_range hi] at h1
  cases h1
  exact ⟨hi, rfl⟩
@[simp] theorem rngC_len {lo c : Int} {n : Nat} : (rngC lo c n).length = n := by unfold rngC; simp
theorem okC_two {j : Int} (h0 : -(2 ^ 40) ≤ j) (h1 : j < 2 ^ 40) : okC 0 j 2 = true := by
  have h2 : ((2 : Int) > 0) = True := by simp
  have hr : Builtin.Range.rangeSize 0 j 2 = if 0 < j then (j - 0 - 1) / 2 + 1 else 0 := by
    unfold Builtin.Range.rangeSize
    simp only [h2, if_true]
  unfold okC Builtin.Range.small
  rw [hr]
  simp only [Builtin.Range.rangeFitsLong, Bool.and_eq_true, Bool.or_eq_true, decide_eq_true_eq, beq_iff_eq, h2, if_true]
  simp only [true_and, show (2 : Int) ^ 63 = 9223372036854775808 from rfl]
  split <;> omega
/-! whiles that count down, or up, as long as p -/
def downW (p : Nat → Bool) : Nat → Nat
  | 0 => 0
  | n + 1 => if p n then downW p n else n + 1
def upW (p : Nat → Bool) : Nat → Nat → Nat
  | 0, i => i
  | f + 1, i => if p i then upW p f (i + 1) else i
theorem downW_le (p : Nat → Bool) : ∀ n, downW p n ≤ n
  | 0 => Nat.le_refl _
  | n + 1 => by
    unfold downW
    split
    · exact Nat.le_succ_of_le (downW_le p n)
    · exact Nat.le_refl _
theorem upW_le (p : Nat → Bool) : ∀ f i, i ≤ upW p f i ∧ upW p f i ≤ i + f
  | 0, i => ⟨Nat.le_refl _, Nat.le_refl _⟩
  | f + 1, i => by
    unfold upW
    have := upW_le p f (i + 1)
    split <;> omega
theorem while_dn {c : FT} {body : FS} {S : Nat → Sl} {p : Nat → Bool} {n : Nat} (hc : ∀ i st', i ≤ n → st' = st → wX c (S i) st' (fun b st2 => b = (decide (0 < i) && p (i - 1)) ∧ st2 = st') G0)
    (hb : ∀ i st', i < n → st' = st → wS body (S (i + 1)) st' (fun r => r = .nx (S i) st')) (done : PS (.nx (S (downW p n)) st)) : wS (fWhile c body) (S n) st PS := by
  refine wS_while (fun k sl st' => ∃ i, k = i ∧ i ≤ n ∧ sl = S i ∧ st' = st ∧ downW p i = downW p n) n ⟨n, rfl, Nat.le_refl _, rfl, rfl, rfl⟩ ?_
  rintro k sl st' ⟨i, rfl, hi, rfl, rfl, hd⟩
  refine (hc k st' hi rfl).mono ?_
  rintro b st2 ⟨rfl, rfl⟩
  cases k with
  | zero =>
    simp
    have : downW p n = 0 := hd.symm
    rw [this] at done
    exact done
  | succ i =>
    have e : downW p (i + 1) = if p i then downW p i else i + 1 := rfl
    by_cases hp : p i = true
    · rw [if_pos hp] at e
      simp [hp]
      refine (hb i st2 (by omega) rfl).mono ?_
      rintro r rfl
      exact ⟨i, rfl, by omega, rfl, rfl, by rw [← e, hd]⟩
    · rw [if_neg hp] at e
      simp [hp]
      rw [← hd, e] at done
      exact done
theorem while_up {c : FT} {body : FS} {S : Nat → Sl} {p : Nat → Bool} {n i0 : Nat} (hi0 : i0 ≤ n) (hc : ∀ i st', i ≤ n → st' = st → wX c (S i) st' (fun b st2 => b = (decide (i < n) && p i) ∧ st2 = st') G0)
    (hb : ∀ i st', i < n → st' = st → wS body (S i) st' (fun r => r = .nx (S (i + 1)) st')) (done : PS (.nx (S (upW p (n - i0) i0)) st)) : wS (fWhile c body) (S i0) st PS := by
  refine wS_while (fun k sl st' => ∃ i, k = n - i ∧ i ≤ n ∧ sl = S i ∧ st' = st ∧ upW p (n - i) i = upW p (n - i0) i0) (n - i0) ⟨i0, rfl, hi0, rfl, rfl, rfl⟩ ?_
  rintro k sl st' ⟨i, rfl, hi, rfl, rfl, hd⟩
  refine (hc i st' hi rfl).mono ?_
  rintro b st2 ⟨rfl, rfl⟩
  by_cases hlt : i < n
  · obtain ⟨m, hm⟩ : ∃ m, n - i = m + 1 := ⟨n - i - 1, by omega⟩
    rw [hm] at hd ⊢
    have e : upW p (m + 1) i = if p i then upW p m (i + 1) else i := rfl
    by_cases hp : p i = true
    · rw [if_pos hp] at e
      simp [hp, hlt]
      refine (hb i st2 hlt rfl).mono ?_
      rintro r rfl
      exact ⟨i + 1, by omega, by omega, rfl, rfl, by rw [show n - (i + 1) = m by omega, ← e, hd]⟩
    · rw [if_neg hp] at e
      simp [hp]
      rw [← hd, e] at done
      exact done
  · have e : i = n := by omega
    subst e
    simp
    rw [Nat.sub_self] at hd
    rw [← hd] at done
    exact done
end
end FL
/-! MO3: every second one; brackets by a pile. -/
namespace MO
open FL
def evens {α : Type} : List α → List α
  | [] => []
  | [a] => [a]
  | a :: _ :: l => a :: evens l
def odds {α : Type} : List α → List α
  | _ :: b :: l => b :: odds l
  | _ => []
def pairs2 {α : Type} : List α → List (α × α)
  | a :: b :: l => (a, b) :: pairs2 l
  | _ => []
theorem zip_pairs {α : Type} : ∀ l : List α, (evens l).zip (odds l) = pairs2 l
  | [] => rfl
  | [a] => rfl
  | a :: b :: l => by
    show (a :: evens l).zip (b :: odds l) = (a, b) :: pairs2 l
    rw [List.zip_cons_cons, zip_pairs l]
theorem evens_eq {α : Type} : ∀ l : List α, evens l = (List.range ((l.length + 1) / 2)).filterMap fun k => l[2 * k]?
  | [] => by simp [evens]
  | [a] => by simp [evens, List.range_succ]
  | a :: b :: l => by
    have e : ((a :: b :: l).length + 1) / 2 = (l.length + 1) / 2 + 1 := by simp only [List.length_cons]; omega
    rw [e, List.range_succ_eq_map, List.filterMap_cons]
    show a :: evens l = a :: _
    rw [evens_eq l, List.filterMap_map]
    rfl
theorem odds_eq {α : Type} : ∀ l : List α, odds l = (List.range (l.length / 2)).filterMap fun k => l[1 + 2 * k]?
  | [] => by simp [odds]
  | [a] => by simp [odds]
  | a :: b :: l => by
    have e : (a :: b :: l).length / 2 = l.length / 2 + 1 := by simp only [List.length_cons]; omega
    rw [e, List.range_succ_eq_map, List.filterMap_cons]
    show b :: odds l = b :: _
    rw [odds_eq l, List.filterMap_map]
    congr 2
    try rw [List.getElem?_cons_succ]
theorem pick_evens {α : Type} (l : List α) : pickG l none 2 = evens l := by
  rw [evens_eq]
  unfold pickG PySem.sliceBounds PySem.sliceRange
  simp only [Option.getD_some, show ((2 : Int) > 0) = True by simp, if_true]
  have hc : (if (0 : Int) < (l.length : Int) then ((l.length : Int) - 0 + 2 - 1) / 2 else 0).toNat = (l.length + 1) / 2 := by
    split <;> omega
  rw [hc, List.filterMap_map]
  congr 1
  funext k
  show l[((0 : Int) + 2 * (k : Int)).toNat]? = l[2 * k]?
  try (congr 1; omega)
theorem pick_odds {α : Type} (l : List α) : pickG l (some 1) 2 = odds l := by
  rw [odds_eq]
  unfold pickG PySem.sliceBounds PySem.sliceRange
  simp only [Option.getD_some, show ((2 : Int) > 0) = True by simp, if_true, show ¬ ((1 : Int) < 0) by omega, if_false]
  by_cases h0 : l.length = 0
  · have : l = [] := List.length_eq_zero_iff.mp h0
    subst this
    simp
  · have h1 : max (0 : Int) (min 1 (l.length : Int)) = 1 := by omega
    rw [h1]
    have hc : (if (1 : Int) < (l.length : Int) then ((l.length : Int) - 1 + 2 - 1) / 2 else 0).toNat = l.length / 2 := by
      split <;> omega
    rw [hc, List.filterMap_map]
    congr 1
theorem pairs2_len {α : Type} : ∀ l : List α, (pairs2 l).length = l.length / 2
  | [] => by simp [pairs2]
  | [a] => by simp [pairs2]
  | a :: b :: l => by
    show (pairs2 l).length + 1 = _
    rw [pairs2_len l]
    simp only [List.length_cons]
    omega
theorem pairs2_at {α : Type} : ∀ (l : List α) (k : Nat) (q : α × α), (pairs2 l)[k]? = some q → l[2 * k]? = some q.1 ∧ l[2 * k + 1]? = some q.2
  | [], k, q, h => by cases h
  | [a], k, q, h => by cases h
  | a :: b :: l, k, q, h => by
    cases k with
    | zero => cases h; exact ⟨rfl, rfl⟩
    | succ k =>
      have h' : (pairs2 l)[k]? = some q := h
      exact pairs2_at l k q h'
/-! brackets by a pile -/
def pileF (f : Pt → Nat) : List Pt → List Pt → List (Pt × Pt) → List Pt × List (Pt × Pt)
  | [], S, P => (S, P)
  | p :: l, S, P => if f p = 40 then pileF f l (p :: S) P else if f p = 41 then (match S with
      | [] => pileF f l [] P
      | o :: S' => pileF f l S' (P ++ [(o, p)]))
    else pileF f l S P
theorem scan_cons {f : Pt → Nat} {p : Pt} {l : List Pt} {d : Int} : scanM f 40 41 (p :: l) d = if d + dlt 40 41 (f p) = 0 then some p else scanM f 40 41 l (d + dlt 40 41 (f p)) := rfl
theorem split_cons {f : Pt → Nat} {p o c : Pt} {l : List Pt} (h : f p ≠ 40) : (∃ l1 l2, p :: l = l1 ++ o :: l2 ∧ f o = 40 ∧ scanM f 40 41 l2 1 = some c) ↔ ∃ l1 l2, l = l1 ++ o :: l2 ∧ f o = 40 ∧ scanM f 40 41 l2 1 = some c := by
  constructor
  · rintro ⟨l1, l2, e, h1, h2⟩
    cases l1 with
    | nil =>
      rw [List.nil_append, List.cons.injEq] at e
      rw [e.1] at h
      exact absurd h1 h
    | cons y l1 =>
      rw [List.cons_append, List.cons.injEq] at e
      exact ⟨l1, l2, e.2, h1, h2⟩
  · rintro ⟨l1, l2, e, h1, h2⟩
    exact ⟨p :: l1, l2, by rw [e]; rfl, h1, h2⟩
theorem pile_mem {f : Pt → Nat} {o c : Pt} : ∀ (l S : List Pt) (P : List (Pt × Pt)), (o, c) ∈ (pileF f l S P).2 ↔
    (o, c) ∈ P ∨ (∃ j : Nat, S[j]? = some o ∧ scanM f 40 41 l (j + 1) = some c) ∨ ∃ l1 l2, l = l1 ++ o :: l2 ∧ f o = 40 ∧ scanM f 40 41 l2 1 = some c
  | [], S, P => by
    simp [pileF, scanM]
  | p :: l, S, P => by
    unfold pileF
    by_cases h40 : f p = 40
    · rw [if_pos h40, pile_mem l (p :: S) P]
      have hd : dlt 40 41 (f p) = 1 := by rw [h40]; rfl
      constructor
      · rintro (h | ⟨j, h1, h2⟩ | ⟨l1, l2, e, h1, h2⟩)
        · exact .inl h
        · cases j with
          | zero =>
            cases h1
            exact .inr (.inr ⟨[], l, rfl, h40, by simpa using h2⟩)
          | succ j =>
            refine .inr (.inl ⟨j, by simpa using h1, ?_⟩)
            rw [scan_cons, hd, if_neg (by omega)]
            rw [← h2]
            congr 1
        · exact .inr (.inr ⟨p :: l1, l2, by rw [e]; rfl, h1, h2⟩)
      · rintro (h | ⟨j, h1, h2⟩ | ⟨l1, l2, e, h1, h2⟩)
        · exact .inl h
        · refine .inr (.inl ⟨j + 1, by simpa using h1, ?_⟩)
          rw [scan_cons, hd, if_neg (by omega)] at h2
          rw [← h2]
          congr 1
        · cases l1 with
          | nil =>
            rw [List.nil_append, List.cons.injEq] at e
            refine .inr (.inl ⟨0, by simp [e.1], ?_⟩)
            rw [e.2]
            simpa using h2
          | cons y l1 =>
            rw [List.cons_append, List.cons.injEq] at e
            exact .inr (.inr ⟨l1, l2, e.2, h1, h2⟩)
    · rw [if_neg h40]
      by_cases h41 : f p = 41
      · rw [if_pos h41]
        have hd : dlt 40 41 (f p) = -1 := by rw [h41]; rfl
        cases S with
        | nil =>
          show (o, c) ∈ (pileF f l [] P).2 ↔ _
          rw [pile_mem l [] P, split_cons h40]
          simp
        | cons o' S' =>
          show (o, c) ∈ (pileF f l S' (P ++ [(o', p)])).2 ↔ _
          rw [pile_mem l S' (P ++ [(o', p)]), split_cons h40]
          constructor
          · rintro (h | ⟨j, h1, h2⟩ | h)
            · rcases List.mem_append.mp h with h | h
              · exact .inl h
              · simp at h
                refine .inr (.inl ⟨0, by simp [h.1], ?_⟩)
                rw [scan_cons, hd, if_pos (by omega), h.2]
            · refine .inr (.inl ⟨j + 1, by simpa using h1, ?_⟩)
              rw [scan_cons, hd, if_neg (by omega), ← h2]
              congr 1
              omega
            · exact .inr (.inr h)
          · rintro (h | ⟨j, h1, h2⟩ | h)
            · exact .inl (List.mem_append.mpr (.inl h))
            · cases j with
              | zero =>
                rw [scan_cons, hd, if_pos (by omega)] at h2
                cases h2
                cases h1
                exact .inl (List.mem_append.mpr (.inr (by simp)))
              | succ j =>
                refine .inr (.inl ⟨j, by simpa using h1, ?_⟩)
                rw [scan_cons, hd, if_neg (by omega)] at h2
                rw [← h2]
                congr 1
                omega
            · exact .inr (.inr h)
      · rw [if_neg h41, pile_mem l S P, split_cons h40]
        have hd : dlt 40 41 (f p) = 0 := by simp [dlt, h40, h41]
        have e : ∀ j : Nat, scanM f 40 41 (p :: l) ((j : Int) + 1) = scanM f 40 41 l ((j : Int) + 1) := fun j => by
          rw [scan_cons, hd, Int.add_zero, if_neg (by omega)]
        simp only [e]
/-- the pairs of round brackets of a text -/
def prsP (ss : List (List Nat)) : List (Pt × Pt) := (pileF (sgn ss) (allP ss) [] []).2
theorem prs_mem {ss : List (List Nat)} {o c : Pt} : (o, c) ∈ prsP ss ↔ o ∈ allP ss ∧ sgn ss o = 40 ∧ partP ss o = some c := by
  unfold prsP
  rw [pile_mem]
  have key : ∀ l1 l2, allP ss = l1 ++ o :: l2 → sgn ss o = 40 → partP ss o = scanM (sgn ss) 40 41 l2 1 := by
    intro l1 l2 e h
    have up := allP_up ss
    rw [e] at up
    unfold Up at up
    rw [List.pairwise_append] at up
    obtain ⟨_, u2, u3⟩ := up
    rw [List.pairwise_cons] at u2
    have hs := (split_after (a := l1) (b := l2) (p := o) (fun y hy => u3 y hy o List.mem_cons_self) u2.1).1
    rw [← e] at hs
    unfold partP
    rw [h]
    show scanM (sgn ss) 40 41 ((allP ss).filter fun q => ltp o q) 1 = _
    rw [hs]
  constructor
  · rintro (h | ⟨j, h1, _⟩ | ⟨l1, l2, e, h1, h2⟩)
    · cases h
    · simp at h1
    · exact ⟨by rw [e]; simp, h1, by rw [key l1 l2 e h1, h2]⟩
  · rintro ⟨h1, h2, h3⟩
    obtain ⟨l1, l2, e⟩ := List.append_of_mem h1
    exact .inr (.inr ⟨l1, l2, e, h2, by rw [← key l1 l2 e h2, h3]⟩)
def leP (p q : Pt) : Bool := !ltp q p
/-- a round bracket ahead of p whose partner is not ahead of p -/
def hugs (ss : List (List Nat)) (p o : Pt) : Bool := match partP ss o with
  | some c => leP p c
  | none => false
def opensP (ss : List (List Nat)) : List Pt := (allP ss).filter fun o => decide (sgn ss o = 40)
def hugO (ss : List (List Nat)) (p : Pt) : Option Pt := (((opensP ss).filter fun o => leP o p).reverse).find? (hugs ss p)
theorem rev_find_up {l : List Pt} {h : Pt → Bool} {o : Pt} (up : Up l) (e : l.reverse.find? h = some o) : o ∈ l ∧ h o = true ∧ ∀ x ∈ l, h x = true → leP x o = true := by
  obtain ⟨h1, a, b, h2, h3⟩ := List.find?_eq_some_iff_append.mp e
  have e2 : l = b.reverse ++ o :: a.reverse := by
    have := congrArg List.reverse h2
    rw [List.reverse_reverse] at this
    rw [this]
    simp
  refine ⟨by rw [e2]; simp, h1, fun x hx hhx => ?_⟩
  rw [e2] at hx up
  unfold Up at up
  rw [List.pairwise_append] at up
  obtain ⟨_, u2, u3⟩ := up
  rcases List.mem_append.mp hx with g | g
  · have := u3 x g o List.mem_cons_self
    unfold leP
    rw [ltp_asymm this]
    rfl
  · rcases List.mem_cons.mp g with g | g
    · rw [g]
      unfold leP
      rw [ltp_irr]
      rfl
    · have := h3 x (List.mem_reverse.mp g)
      rw [hhx] at this
      cases this
theorem hug_some {ss : List (List Nat)} {p o : Pt} (e : hugO ss p = some o) : o ∈ allP ss ∧ sgn ss o = 40 ∧ leP o p = true ∧ hugs ss p o = true ∧ ∀ x ∈ allP ss, sgn ss x = 40 → leP x p = true → hugs ss p x = true → leP x o = true := by
  have up : Up ((opensP ss).filter fun o => leP o p) := ((allP_up ss).filter _).filter _
  obtain ⟨h1, h2, h3⟩ := rev_find_up up e
  obtain ⟨g1, g2⟩ := List.mem_filter.mp h1
  obtain ⟨g3, g4⟩ := List.mem_filter.mp g1
  exact ⟨g3, of_decide_eq_true g4, g2, h2, fun x hx hs hl hh => h3 x (List.mem_filter.mpr ⟨List.mem_filter.mpr ⟨hx, decide_eq_true hs⟩, hl⟩) hh⟩
theorem hug_none {ss : List (List Nat)} {p : Pt} (e : hugO ss p = none) : ∀ x ∈ allP ss, sgn ss x = 40 → leP x p = true → hugs ss p x = false := by
  intro x hx hs hl
  have := List.find?_eq_none.mp e x (List.mem_reverse.mpr (List.mem_filter.mpr ⟨List.mem_filter.mpr ⟨hx, decide_eq_true hs⟩, hl⟩))
  simpa using this
theorem leP_anti {p q : Pt} (h : leP p q = true) (k : leP q p = true) : p = q := by
  unfold leP at h k
  exact ltp_tri (by simpa using k) (by simpa using h)
end MO
namespace K14
open PySem PySem.Spec PyProof.Rows L2 FL
noncomputable def MF_kind_of : FS :=
  (fSeq (fIfS (fB (fOp fEq (fVar 0) (fC (.str [32])))) (fRet (fC (.int 0))) fSkip)
  (fRet (fIf (fOr (fB (fOp fEq (fVar 0) (fC (.str [95])))) (fOr (fB (fOp fIn (fVar 0) (fC (.str [48, 49, 50, 51, 52, 53, 54, 55, 56, 57])))) (fB (fOp fIn (fMt0 "str" (fLower) (fVar 0)) (fC (.str [97, 98, 99, 100, 101, 102, 103, 104, 105, 106, 107, 108, 109, 110, 111, 112, 113, 114, 115, 116, 117, 118, 119, 120, 121, 122])))))) (fC (.int 1)) (fC (.int 2)))))
noncomputable def F_kind_of : FF := runF 1 1 MF_kind_of
noncomputable def MF_partner : FS :=
  (fSeq (fAsg (fVar 1) (gTupl (gAnd (gSet 6) (gAnd (gSet 7) gNo)) 2))
  (fSeq (fSet 2 (fSlice fSl (fOp fIx (fVar 0) (fVar 6)) (fPart (fVar 7)) (fPart (fOp fAdd (fVar 7) (fC (.int 1))))))
  (fSeq (fIfS (fOr (fB (fOp fEq (fVar 2) (fC (.str [])))) (fB (fOp fNotIn (fVar 2) (fOp fAdd (fC (.str [40, 91, 123])) (fC (.str [41, 93, 125])))))) (fRet (fC .non)) fSkip)
  (fSeq (fSet 3 (fIf (fB (fOp fIn (fVar 2) (fC (.str [40, 91, 123])))) (fOp fIx (fC (.str [41, 93, 125])) (fMt "str" (fIndexS) (fC (.str [40, 91, 123])) (fCons (fVar 2) fNil))) (fOp fIx (fC (.str [40, 91, 123])) (fMt "str" (fIndexS) (fC (.str [41, 93, 125])) (fCons (fVar 2) fNil)))))
  (fSeq (fSet 4 (fLc2 (fRng1 (fCons (fCall fLen (fCons (fVar 0) fNil)) fNil)) (gSet 8) fYes (fRng1 (fCons (fCall fLen (fCons (fOp fIx (fVar 0) (fVar 8)) fNil)) fNil)) (gSet 9) fYes (fTup (fCons (fVar 8) (fCons (fVar 9) fNil))) [8, 9] [9]))
  (fSeq (fSet 4 (fLc (fIt (fVar 4)) (gSet 9) (fIf (fB (fOp fIn (fVar 2) (fC (.str [40, 91, 123])))) (fB (fOp fGt (fVar 9) (fVar 1))) (fB (fOp fLt (fVar 9) (fVar 1)))) (fVar 9) [9]))
  (fSeq (fSet 5 (fC (.int 1)))
  (fSeq (fFor (fIt (fIf (fB (fOp fIn (fVar 2) (fC (.str [40, 91, 123])))) (fVar 4) (fRevL (fVar 4)))) (gTupl (gAnd (gSet 8) (gAnd (gSet 9) gNo)) 2) (fSeq (fSet 10 (fOp fIx (fOp fIx (fVar 0) (fVar 8)) (fVar 9)))
  (fSeq (fAug 5 fIAdd (fOp fSub (fCall fInt1 (fCons (fOp fEq (fVar 10) (fVar 2)) fNil)) (fCall fInt1 (fCons (fOp fEq (fVar 10) (fVar 3)) fNil))))
  (fIfS (fB (fOp fEq (fVar 5) (fC (.int 0)))) (fRet (fTup (fCons (fVar 8) (fCons (fVar 9) fNil)))) fSkip))))
  (fRet (fC .non))))))))))
noncomputable def F_partner : FF := runF 2 11 MF_partner
noncomputable def MF_word_about : FS :=
  (fSeq (fPar 4 5 (fCons (fOp fIx (fVar 0) (fOp fIx (fVar 1) (fC (.int 0)))) (fCons (fOp fIx (fVar 1) (fC (.int 1))) fNil)))
  (fSeq (fIfS (fB (fOp fGe (fVar 5) (fCall fLen (fCons (fVar 4) fNil)))) (fRet (fC .non)) fSkip)
  (fSeq (fSet 3 (fCallF F_kind_of (fCons (fOp fIx (fVar 4) (fVar 5)) fNil)))
  (fSeq (fPar 6 7 (fCons (fVar 5) (fCons (fVar 5) fNil)))
  (fSeq (fWhile (fAnd (fB (fOp fGt (fVar 6) (fC (.int 0)))) (fB (fOp fEq (fCallF F_kind_of (fCons (fOp fIx (fVar 4) (fOp fSub (fVar 6) (fC (.int 1)))) fNil)) (fVar 3)))) (fAug 6 fSub (fC (.int 1))))
  (fSeq (fWhile (fAnd (fB (fOp fLt (fVar 7) (fCall fLen (fCons (fVar 4) fNil)))) (fB (fOp fEq (fCallF F_kind_of (fCons (fOp fIx (fVar 4) (fVar 7)) fNil)) (fVar 3)))) (fAug 7 fIAdd (fC (.int 1))))
  (fSeq (fWhile (fAnd (fB (fVar 2)) (fAnd (fB (fOp fLt (fVar 7) (fCall fLen (fCons (fVar 4) fNil)))) (fB (fOp fEq (fOp fIx (fVar 4) (fVar 7)) (fC (.str [32])))))) (fAug 7 fIAdd (fC (.int 1))))
  (fRet (fTup (fCons (fC (.str [115, 105, 103, 110, 115])) (fCons (fTup (fCons (fOp fIx (fVar 1) (fC (.int 0))) (fCons (fVar 6) fNil))) (fCons (fTup (fCons (fOp fIx (fVar 1) (fC (.int 0))) (fCons (fVar 7) fNil))) fNil))))))))))))
noncomputable def F_word_about : FF := runF 3 8 MF_word_about
noncomputable def MF_quoted_about : FS :=
  (fSeq (fSet 3 (fOp fIx (fVar 0) (fOp fIx (fVar 1) (fC (.int 0)))))
  (fSeq (fSet 4 (fLc (fEnum (fCons (fVar 3) fNil)) (gTupl (gAnd (gSet 7) (gAnd (gSet 8) gNo)) 2) (fB (fOp fEq (fVar 8) (fC (.str [34])))) (fVar 7) [7, 8]))
  (fSeq (fFor (fZip (fCons (fSlC (fVar 4) fNoPart 2) (fCons (fSlC (fVar 4) (fPart (fC (.int 1))) 2) fNil))) (gTupl (gAnd (gSet 5) (gAnd (gSet 6) gNo)) 2) (fIfS (fB (fChain fLe fLe (fVar 5) (fOp fIx (fVar 1) (fC (.int 1))) (fVar 6))) (fSeq (fIfS (fB (fVar 2)) (fRet (fTup (fCons (fC (.str [115, 105, 103, 110, 115])) (fCons (fTup (fCons (fOp fIx (fVar 1) (fC (.int 0))) (fCons (fVar 5) fNil))) (fCons (fTup (fCons (fOp fIx (fVar 1) (fC (.int 0))) (fCons (fOp fAdd (fVar 6) (fC (.int 1))) fNil))) fNil))))) fSkip)
  (fRet (fTup (fCons (fC (.str [115, 105, 103, 110, 115])) (fCons (fTup (fCons (fOp fIx (fVar 1) (fC (.int 0))) (fCons (fOp fAdd (fVar 5) (fC (.int 1))) fNil))) (fCons (fTup (fCons (fOp fIx (fVar 1) (fC (.int 0))) (fCons (fVar 6) fNil))) fNil)))))) fSkip))
  (fRet (fC .non)))))
noncomputable def F_quoted_about : FF := runF 3 9 MF_quoted_about
noncomputable def MF_brackets_about : FS :=
  (fSeq (fSet 3 (fLc2 (fEnum (fCons (fVar 0) fNil)) (gTupl (gAnd (gSet 6) (gAnd (gSet 7) gNo)) 2) fYes (fEnum (fCons (fVar 7) fNil)) (gTupl (gAnd (gSet 8) (gAnd (gSet 9) gNo)) 2) (fB (fOp fEq (fVar 9) (fC (.str [40])))) (fTup (fCons (fVar 6) (fCons (fVar 8) fNil))) [6, 7, 8, 9] [8, 9]))
  (fSeq (fFor (fRev (fLc (fIt (fVar 3)) (gSet 10) (fB (fOp fLe (fVar 10) (fVar 1))) (fVar 10) [10])) (gSet 4) (fSeq (fSet 5 (fCallF F_partner (fCons (fVar 0) (fCons (fVar 4) fNil))))
  (fIfS (fAnd (fB (fOp fNotN (fVar 5) (fC .non))) (fB (fOp fGe (fVar 5) (fVar 1)))) (fSeq (fIfS (fB (fVar 2)) (fRet (fTup (fCons (fC (.str [115, 105, 103, 110, 115])) (fCons (fVar 4) (fCons (fTup (fCons (fOp fIx (fVar 5) (fC (.int 0))) (fCons (fOp fAdd (fOp fIx (fVar 5) (fC (.int 1))) (fC (.int 1))) fNil))) fNil))))) fSkip)
  (fRet (fTup (fCons (fC (.str [115, 105, 103, 110, 115])) (fCons (fTup (fCons (fOp fIx (fVar 4) (fC (.int 0))) (fCons (fOp fAdd (fOp fIx (fVar 4) (fC (.int 1))) (fC (.int 1))) fNil))) (fCons (fVar 5) fNil)))))) fSkip)))
  (fRet (fC .non))))
noncomputable def F_brackets_about : FF := runF 3 11 MF_brackets_about
noncomputable def MF_rows_about : FS :=
  (fSeq (fPar 4 5 (fCons (fOp fIx (fVar 1) (fC (.int 0))) (fCons (fOp fIx (fVar 1) (fC (.int 0))) fNil)))
  (fSeq (fSet 3 (fOp fEq (fOp fIx (fVar 0) (fVar 4)) (fC (.str []))))
  (fSeq (fWhile (fAnd (fB (fOp fGt (fVar 4) (fC (.int 0)))) (fB (fOp fEq (fOp fEq (fOp fIx (fVar 0) (fOp fSub (fVar 4) (fC (.int 1)))) (fC (.str []))) (fVar 3)))) (fAug 4 fSub (fC (.int 1))))
  (fSeq (fWhile (fAnd (fB (fOp fLt (fOp fAdd (fVar 5) (fC (.int 1))) (fCall fLen (fCons (fVar 0) fNil)))) (fB (fOp fEq (fOp fEq (fOp fIx (fVar 0) (fOp fAdd (fVar 5) (fC (.int 1)))) (fC (.str []))) (fVar 3)))) (fAug 5 fIAdd (fC (.int 1))))
  (fSeq (fWhile (fAnd (fB (fVar 2)) (fAnd (fNot (fB (fVar 3))) (fAnd (fB (fOp fLt (fOp fAdd (fVar 5) (fC (.int 1))) (fCall fLen (fCons (fVar 0) fNil)))) (fB (fOp fEq (fOp fIx (fVar 0) (fOp fAdd (fVar 5) (fC (.int 1)))) (fC (.str []))))))) (fAug 5 fIAdd (fC (.int 1))))
  (fRet (fTup (fCons (fC (.str [114, 111, 119, 115])) (fCons (fTup (fCons (fVar 4) (fCons (fC (.int 0)) fNil))) (fCons (fTup (fCons (fVar 5) (fCons (fCall fLen (fCons (fOp fIx (fVar 0) (fVar 5)) fNil)) fNil))) fNil))))))))))
noncomputable def F_rows_about : FF := runF 3 6 MF_rows_about
noncomputable def MF_around : FS :=
  (fSeq (fSet 3 (fOp fEq (fOp fIx (fVar 2) (fC (.int 0))) (fC (.str [97]))))
  (fSeq (fIfS (fB (fOp fEq (fOp fIx (fVar 2) (fC (.int 1))) (fC (.str [119])))) (fRet (fCallF F_word_about (fCons (fVar 0) (fCons (fVar 1) (fCons (fVar 3) fNil))))) fSkip)
  (fSeq (fIfS (fB (fOp fEq (fOp fIx (fVar 2) (fC (.int 1))) (fC (.str [113])))) (fRet (fCallF F_quoted_about (fCons (fVar 0) (fCons (fVar 1) (fCons (fVar 3) fNil))))) fSkip)
  (fSeq (fIfS (fB (fOp fEq (fOp fIx (fVar 2) (fC (.int 1))) (fC (.str [98])))) (fRet (fCallF F_brackets_about (fCons (fVar 0) (fCons (fVar 1) (fCons (fVar 3) fNil))))) fSkip)
  (fRet (fCallF F_rows_about (fCons (fVar 0) (fCons (fVar 1) (fCons (fVar 3) fNil)))))))))
noncomputable def F_around : FF := runF 3 4 MF_around
noncomputable def T0L_well : FS :=
  (fSeq (fSet 3 (fLst (fCons (fC (.int 2147483647)) (fCons (fC (.int 2147483629)) (fCons (fC (.int 2147483587)) (fCons (fC (.int 2147483579)) (fCons (fC (.int 2147483563)) (fCons (fC (.int 2147483549)) (fCons (fC (.int 2147483543)) (fCons (fC (.int 2147483497)) fNil))))))))))
  (fSeq (fSet 4 (fOp fMod (fOp fMulL (fOp fAdd (fOp fMod (fVar 2) (fC (.int 2147483489))) (fC (.int 1))) (fOp fAdd (fC (.int 48271)) (fOp fMulL (fC (.int 2)) (fVar 1)))) (fC (.int 2147483489))))
  (fSeq (fSet 4 (fOp fAdd (fOp fAdd (fOp fMod (fOp fMulL (fVar 4) (fVar 4)) (fC (.int 2147483477))) (fVar 1)) (fC (.int 1))))
  (fSeq (fIfS (fB (fOp fGe (fVar 2) (fOp fPow (fC (.int 10)) (fC (.int 18))))) (fRet (fLst (fCons (fVar 2) (fCons (fVar 4) (fCons (fOp fIx (fVar 3) (fOp fMod (fVar 1) (fC (.int 8)))) fNil))))) fSkip)
  (fRet (fLst (fCons (fC (.int 0)) (fCons (fVar 4) (fCons (fOp fIx (fVar 3) (fOp fMod (fVar 1) (fC (.int 8)))) fNil)))))))))
noncomputable def ML_well : FS :=
  (fSeq (fSet 2 (fC (.int 0)))
  (fSeq (fIfS (fB (fOp fLt (fVar 1) (fCall fLen (fCons (fVar 0) fNil)))) (fSet 2 (fOp fIx (fVar 0) (fVar 1))) fSkip)
  T0L_well))
noncomputable def L_well : FF := runF 2 5 ML_well
noncomputable def ML_take : FS :=
  (fSeq (fIfS (fB (fOp fGt (fOp fIx (fVar 0) (fC (.int 0))) (fC (.int 0)))) (fSeq (fSet 2 (fOp fMod (fOp fIx (fVar 0) (fC (.int 0))) (fVar 1)))
  (fSeq (fAsg (fOp fDiv (fOp fIx (fVar 0) (fC (.int 0))) (fVar 1)) (gIx fSetI (fVar 0) (fC (.int 0))))
  (fRet (fVar 2)))) fSkip)
  (fSeq (fAsg (fOp fAdd (fOp fMod (fOp fMulL (fOp fIx (fVar 0) (fC (.int 1))) (fC (.int 48271))) (fOp fIx (fVar 0) (fC (.int 2)))) (fC (.int 1))) (gIx fSetI (fVar 0) (fC (.int 1))))
  (fRet (fOp fMod (fOp fDiv (fOp fMod (fOp fMulL (fOp fIx (fVar 0) (fC (.int 1))) (fOp fIx (fVar 0) (fC (.int 1)))) (fC (.int 2147483423))) (fC (.int 7))) (fVar 1)))))
noncomputable def L_take : FF := runF 2 3 ML_take
noncomputable def ML_row : FS :=
  (fSeq (fSet 1 (fLst (fCons (fC (.str [97, 98])) (fCons (fC (.str [70, 111, 111, 95, 49])) (fCons (fC (.str [32])) (fCons (fC (.str [32])) (fCons (fC (.str [32, 32])) (fCons (fC (.str [40])) (fCons (fC (.str [41])) (fCons (fC (.str [91, 120, 93])) (fCons (fC (.str [34])) (fCons (fC (.str [45, 45])) (fCons (fC (.str [122, 57])) (fCons (fC (.str [97])) (fCons (fC (.str [123])) (fCons (fC (.str [125])) (fCons (fC (.str [98, 32, 98])) (fCons (fC (.str [44])) (fCons (fC (.str [81])) fNil)))))))))))))))))))
  (fSeq (fSet 2 (fCallF L_take (fCons (fVar 0) (fCons (fOp fIx (fLst (fCons (fC (.int 3)) (fCons (fC (.int 9)) fNil))) (fCallF L_take (fCons (fVar 0) (fCons (fC (.int 2)) fNil)))) fNil))))
  (fRet (fMt "str" (fJoin) (fC (.str [])) (fCons (fLc (fRng1 (fCons (fVar 2) fNil)) (gSet 3) fYes (fOp fIx (fVar 1) (fCallF L_take (fCons (fVar 0) (fCons (fC (.int 17)) fNil)))) [3]) fNil)))))
noncomputable def L_row : FF := runF 1 4 ML_row
noncomputable def ML_text : FS :=
  (fSeq (fSet 2 (fLst fNil))
  (fSeq (fFor (fRng1 (fCons (fOp fAdd (fC (.int 1)) (fCallF L_take (fCons (fVar 0) (fCons (fVar 1) fNil)))) fNil)) (gSet 3) (fExpr (fMt "list" (onL gAppend) (fVar 2) (fCons (fIf (fB (fOp fEq (fCallF L_take (fCons (fVar 0) (fCons (fC (.int 5)) fNil))) (fC (.int 0)))) (fC (.str [])) (fCallF L_row (fCons (fVar 0) fNil))) fNil))))
  (fRet (fCall fTupOf (fCons (fVar 2) fNil)))))
noncomputable def L_text : FF := runF 2 4 ML_text
noncomputable def ML_place : FS :=
  (fSeq (fSet 2 (fCallF L_take (fCons (fVar 0) (fCons (fCall fLen (fCons (fVar 1) fNil)) fNil))))
  (fRet (fTup (fCons (fVar 2) (fCons (fCallF L_take (fCons (fVar 0) (fCons (fOp fAdd (fCall fLen (fCons (fOp fIx (fVar 1) (fVar 2)) fNil)) (fC (.int 1))) fNil))) fNil)))))
noncomputable def L_place : FF := runF 2 3 ML_place
noncomputable def ML_sort : FS :=
  (fSeq (fIfS (fB (fOp fEq (fVar 0) (fC (.str [32])))) (fRet (fC (.str [98, 108, 97, 110, 107]))) fSkip)
  (fSeq (fSet 1 (fC (.str [97, 98, 99, 100, 101, 102, 103, 104, 105, 106, 107, 108, 109, 110, 111, 112, 113, 114, 115, 116, 117, 118, 119, 120, 121, 122])))
  (fRet (fIf (fB (fOp fIn (fVar 0) (fOp fAdd (fOp fAdd (fVar 1) (fMt0 "str" (fUpper) (fVar 1))) (fC (.str [48, 49, 50, 51, 52, 53, 54, 55, 56, 57, 95]))))) (fC (.str [119, 111, 114, 100])) (fC (.str [111, 116, 104, 101, 114]))))))
noncomputable def L_sort : FF := runF 1 2 ML_sort
noncomputable def ML_word : FS :=
  (fSeq (fPar 3 4 (fCons (fOp fIx (fVar 0) (fOp fIx (fVar 1) (fC (.int 0)))) (fCons (fOp fIx (fVar 1) (fC (.int 1))) fNil)))
  (fSeq (fIfS (fB (fOp fEq (fVar 4) (fCall fLen (fCons (fVar 3) fNil)))) (fRet (fC .non)) fSkip)
  (fSeq (fPar 5 6 (fCons (fVar 4) (fCons (fOp fAdd (fVar 4) (fC (.int 1))) fNil)))
  (fSeq (fWhile (fAnd (fB (fOp fGt (fVar 5) (fC (.int 0)))) (fB (fOp fEq (fCallF L_sort (fCons (fOp fIx (fVar 3) (fOp fSub (fVar 5) (fC (.int 1)))) fNil)) (fCallF L_sort (fCons (fOp fIx (fVar 3) (fVar 4)) fNil))))) (fSet 5 (fOp fSub (fVar 5) (fC (.int 1)))))
  (fSeq (fWhile (fAnd (fB (fOp fLt (fVar 6) (fCall fLen (fCons (fVar 3) fNil)))) (fB (fOp fEq (fCallF L_sort (fCons (fOp fIx (fVar 3) (fVar 6)) fNil)) (fCallF L_sort (fCons (fOp fIx (fVar 3) (fVar 4)) fNil))))) (fSet 6 (fOp fAdd (fVar 6) (fC (.int 1)))))
  (fSeq (fWhile (fAnd (fB (fVar 2)) (fAnd (fB (fOp fLt (fVar 6) (fCall fLen (fCons (fVar 3) fNil)))) (fB (fOp fEq (fOp fIx (fVar 3) (fVar 6)) (fC (.str [32])))))) (fSet 6 (fOp fAdd (fVar 6) (fC (.int 1)))))
  (fRet (fTup (fCons (fC (.str [115, 105, 103, 110, 115])) (fCons (fTup (fCons (fOp fIx (fVar 1) (fC (.int 0))) (fCons (fVar 5) fNil))) (fCons (fTup (fCons (fOp fIx (fVar 1) (fC (.int 0))) (fCons (fVar 6) fNil))) fNil)))))))))))
noncomputable def L_word : FF := runF 3 7 ML_word
noncomputable def ML_quote : FS :=
  (fSeq (fSet 3 (fOp fIx (fVar 0) (fOp fIx (fVar 1) (fC (.int 0)))))
  (fSeq (fSet 4 (fLc (fRng1 (fCons (fCall fLen (fCons (fVar 3) fNil)) fNil)) (gSet 6) (fB (fOp fEq (fOp fIx (fVar 3) (fVar 6)) (fC (.str [34])))) (fVar 6) [6]))
  (fSeq (fFor (fRng3 (fCons (fC (.int 0)) (fCons (fOp fSub (fCall fLen (fCons (fVar 4) fNil)) (fC (.int 1))) (fCons (fC (.int 2)) fNil)))) (gSet 5) (fIfS (fAnd (fB (fOp fLe (fOp fIx (fVar 4) (fVar 5)) (fOp fIx (fVar 1) (fC (.int 1))))) (fB (fOp fLe (fOp fIx (fVar 1) (fC (.int 1))) (fOp fIx (fVar 4) (fOp fAdd (fVar 5) (fC (.int 1))))))) (fSeq (fSet 7 (fCall fInt1 (fCons (fVar 2) fNil)))
  (fRet (fTup (fCons (fC (.str [115, 105, 103, 110, 115])) (fCons (fTup (fCons (fOp fIx (fVar 1) (fC (.int 0))) (fCons (fOp fSub (fOp fAdd (fOp fIx (fVar 4) (fVar 5)) (fC (.int 1))) (fVar 7)) fNil))) (fCons (fTup (fCons (fOp fIx (fVar 1) (fC (.int 0))) (fCons (fOp fAdd (fOp fIx (fVar 4) (fOp fAdd (fVar 5) (fC (.int 1)))) (fVar 7)) fNil))) fNil)))))) fSkip))
  (fRet (fC .non)))))
noncomputable def L_quote : FF := runF 3 8 ML_quote
noncomputable def ML_round : FS :=
  (fSeq (fPar 4 5 (fCons (fLst fNil) (fCons (fLst fNil) fNil)))
  (fSeq (fFor (fEnum (fCons (fVar 0) fNil)) (gTupl (gAnd (gSet 6) (gAnd (gSet 7) gNo)) 2) (fFor (fRng1 (fCons (fCall fLen (fCons (fVar 7) fNil)) fNil)) (gSet 8) (fIfS (fB (fOp fEq (fOp fIx (fVar 7) (fVar 8)) (fC (.str [40])))) (fExpr (fMt "list" (onL gAppend) (fVar 4) (fCons (fTup (fCons (fVar 6) (fCons (fVar 8) fNil))) fNil))) (fIfS (fAnd (fB (fOp fEq (fOp fIx (fVar 7) (fVar 8)) (fC (.str [41])))) (fB (fOp fNe (fVar 4) (fLst fNil)))) (fExpr (fMt "list" (onL gAppend) (fVar 5) (fCons (fTup (fCons (fMt0 "list" (onL gPop) (fVar 4)) (fCons (fTup (fCons (fVar 6) (fCons (fVar 8) fNil))) fNil))) fNil))) fSkip))))
  (fSeq (fSet 3 (fLc (fIt (fVar 5)) (gSet 11) (fAnd (fB (fOp fLe (fOp fIx (fVar 11) (fC (.int 0))) (fVar 1))) (fB (fOp fLe (fVar 1) (fOp fIx (fVar 11) (fC (.int 1)))))) (fVar 11) [11]))
  (fSeq (fIfS (fB (fOp fEq (fVar 3) (fLst fNil))) (fRet (fC .non)) fSkip)
  (fSeq (fAsg (fCall fMaxPP (fCons (fVar 3) fNil)) (gTupl (gAnd (gSet 9) (gAnd (gSet 10) gNo)) 2))
  (fSeq (fIfS (fB (fVar 2)) (fRet (fTup (fCons (fC (.str [115, 105, 103, 110, 115])) (fCons (fVar 9) (fCons (fTup (fCons (fOp fIx (fVar 10) (fC (.int 0))) (fCons (fOp fAdd (fOp fIx (fVar 10) (fC (.int 1))) (fC (.int 1))) fNil))) fNil))))) fSkip)
  (fRet (fTup (fCons (fC (.str [115, 105, 103, 110, 115])) (fCons (fTup (fCons (fOp fIx (fVar 9) (fC (.int 0))) (fCons (fOp fAdd (fOp fIx (fVar 9) (fC (.int 1))) (fC (.int 1))) fNil))) (fCons (fVar 10) fNil)))))))))))
noncomputable def L_round : FF := runF 3 12 ML_round
noncomputable def ML_rows : FS :=
  (fSeq (fSet 3 (fLc (fIt (fVar 0)) (gSet 6) fYes (fOp fEq (fVar 6) (fC (.str []))) [6]))
  (fSeq (fPar 4 5 (fCons (fOp fIx (fVar 1) (fC (.int 0))) (fCons (fOp fIx (fVar 1) (fC (.int 0))) fNil)))
  (fSeq (fWhile (fAnd (fB (fOp fGt (fVar 4) (fC (.int 0)))) (fB (fOp fEq (fOp fIx (fVar 3) (fOp fSub (fVar 4) (fC (.int 1)))) (fOp fIx (fVar 3) (fOp fIx (fVar 1) (fC (.int 0))))))) (fSet 4 (fOp fSub (fVar 4) (fC (.int 1)))))
  (fSeq (fWhile (fAnd (fB (fOp fLt (fOp fAdd (fVar 5) (fC (.int 1))) (fCall fLen (fCons (fVar 0) fNil)))) (fB (fOp fEq (fOp fIx (fVar 3) (fOp fAdd (fVar 5) (fC (.int 1)))) (fOp fIx (fVar 3) (fOp fIx (fVar 1) (fC (.int 0))))))) (fSet 5 (fOp fAdd (fVar 5) (fC (.int 1)))))
  (fSeq (fWhile (fAnd (fB (fVar 2)) (fAnd (fB (fOp fLt (fOp fAdd (fVar 5) (fC (.int 1))) (fCall fLen (fCons (fVar 0) fNil)))) (fAnd (fB (fOp fIx (fVar 3) (fOp fAdd (fVar 5) (fC (.int 1))))) (fNot (fB (fOp fIx (fVar 3) (fOp fIx (fVar 1) (fC (.int 0))))))))) (fSet 5 (fOp fAdd (fVar 5) (fC (.int 1)))))
  (fRet (fTup (fCons (fC (.str [114, 111, 119, 115])) (fCons (fTup (fCons (fVar 4) (fCons (fC (.int 0)) fNil))) (fCons (fTup (fCons (fVar 5) (fCons (fCall fLen (fCons (fOp fIx (fVar 0) (fVar 5)) fNil)) fNil))) fNil))))))))))
noncomputable def L_rows : FF := runF 3 7 ML_rows
noncomputable def MF_law : FS :=
  (fSeq (fFor (fRng1 (fCons (fCall fMax2 (fCons (fC (.int 8)) (fCons (fCall fMin2 (fCons (fC (.int 60)) (fCons (fCall fLen (fCons (fVar 0) fNil)) fNil))) fNil))) fNil)) (gSet 1) (fSeq (fSet 2 (fCallF L_well (fCons (fVar 0) (fCons (fVar 1) fNil))))
  (fSeq (fSet 3 (fCallF L_text (fCons (fVar 2) (fCons (fC (.int 7)) fNil))))
  (fFor (fRng1 (fCons (fC (.int 5)) fNil)) (gSet 4) (fSeq (fSet 5 (fCallF L_place (fCons (fVar 2) (fCons (fVar 3) fNil))))
  (fFor (fIt (fLst (fCons (fC (.bl false)) (fCons (fC (.bl true)) fNil)))) (gSet 6) (fSeq (fSet 7 (fLst (fCons (fCallF L_word (fCons (fVar 3) (fCons (fVar 5) (fCons (fVar 6) fNil)))) (fCons (fCallF L_quote (fCons (fVar 3) (fCons (fVar 5) (fCons (fVar 6) fNil)))) (fCons (fCallF L_round (fCons (fVar 3) (fCons (fVar 5) (fCons (fVar 6) fNil)))) fNil)))))
  (fSeq (fExpr (fMt "list" (onL gAppend) (fVar 7) (fCons (fCallF L_rows (fCons (fVar 3) (fCons (fVar 5) (fCons (fVar 6) fNil)))) fNil)))
  (fSeq (fSet 8 (fOp fIx (fLst (fCons (fC (.str [105])) (fCons (fC (.str [97])) fNil))) (fCall fInt1 (fCons (fVar 6) fNil))))
  (fIfS (fB (fOp fNe (fLc (fIt (fC (.str [119, 113, 98, 112]))) (gSet 9) fYes (fCallF F_around (fCons (fVar 3) (fCons (fVar 5) (fCons (fOp fAdd (fVar 8) (fVar 9)) fNil)))) [9]) (fVar 7))) (fRet (fC (.bl false))) fSkip))))))))))
  (fRet (fC (.bl true))))
noncomputable def F_law : FF := runF 1 10 MF_law
end K14
namespace K14
open PySem PySem.Spec PyProof.Rows L2 FL
theorem take_spec {w : Nat} {st : Sto} {many : Int} (h : WellAt w st) (h1 : 0 < many) (h2 : many < 1073741824) :
    wF L_take [.ref w, .int many] st (fun v st' => ∃ r, v = .int r ∧ 0 ≤ r ∧ r < many ∧ WellAt w st' ∧ st'.length = st.length ∧ Dr w st st') G0 := by
  obtain ⟨c, s, p, hw, s0, s1, p0, p1⟩ := h
  have hlt := (List.getElem?_eq_some_iff.mp hw).1
  unfold L_take ML_take
  by_cases hc : 0 < c
  · simp [hw, hc, h1, h2]
    exact ⟨Int.emod_nonneg _ (by omega), Int.emod_lt_of_pos _ h1, ⟨_, s, p, by simp [hlt]; rfl, s0, s1, p0, p1⟩, Dr.set _⟩
  · have q1 := Int.emod_nonneg (s * 48271) (b := p) (by omega)
    have q2 := Int.emod_lt_of_pos (s * 48271) p0
    have hw2 : (st.set w (.lst [.int c, .int (s * 48271 % p + 1), .int p]))[w]? = some (.lst [.int c, .int (s * 48271 % p + 1), .int p]) := List.getElem?_set_self hlt
    have l1 : -(2 ^ 64) < s * 48271 % p + 1 := by omega
    have l2 : s * 48271 % p + 1 < 2 ^ 64 := by omega
    simp [hw, hw2, hc, h1, h2, p0, fMul_l l1 l2]
    exact ⟨Int.emod_nonneg _ (by omega), Int.emod_lt_of_pos _ h1, ⟨c, _, p, hw2, by omega, by omega, p0, p1⟩, Dr.set _⟩
def PARTS : List (List Nat) := [[97, 98], [70, 111, 111, 95, 49], [32], [32], [32, 32], [40], [41], [91, 120, 93], [34], [45, 45], [122, 57], [97], [123], [125], [98, 32, 98], [44], [81]]
def Signs (s : List Nat) : Prop := ∀ c ∈ s, 32 ≤ c ∧ c ≤ 126 ∧ c ≠ 37
theorem parts_ok : ∀ s ∈ PARTS, (∀ c ∈ s, 32 ≤ c ∧ c ≤ 126 ∧ c ≠ 37) ∧ s.length ≤ 5 := by decide
theorem sum_le {α : Type} (f : α → Nat) (k : Nat) : ∀ (l : List α), (∀ x ∈ l, f x ≤ k) → (l.map f).sum ≤ l.length * k
  | [], _ => by simp
  | x :: l, h => by
    have h1 := h x List.mem_cons_self
    have h2 := sum_le f k l fun y hy => h y (List.mem_cons_of_mem _ hy)
    simp only [List.map_cons, List.sum_cons, List.length_cons, Nat.add_mul, Nat.one_mul]
    omega
theorem row_spec {w : Nat} {st : Sto} (h : WellAt w st) :
    wF L_row [.ref w] st (fun v st' => ∃ s, v = .str s ∧ Signs s ∧ s.length ≤ 40 ∧ WellAt w st' ∧ Dr w st st') G0 := by
  have hw := h.lt
  unfold L_row ML_row
  simp
  refine (take_spec (h.ap ⟨_, rfl⟩) (by decide) (by decide)).mono ?_
  rintro v st1 ⟨r, rfl, r0, r1, hw1, hl1, d1⟩
  have hB := d1.get (i := st.length + 1) (o := .lst [.int 3, .int 9]) (by omega) (by simp)
  have hA := d1.get (i := st.length) (o := .lst (PARTS.map Val.str)) (by omega) (by simp [PARTS])
  have hN : ∃ n : Int, 0 < n ∧ n ≤ 9 ∧ fIx (.ref (st.length + 1)) (.int r) st1 = some (.int n, st1) := by
    have : r = 0 ∨ r = 1 := by omega
    rcases this with rfl | rfl
    · exact ⟨3, by decide, by decide, by simp [hB]⟩
    · exact ⟨9, by decide, by decide, by simp [hB]⟩
  obtain ⟨n, n0, n9, hn⟩ := hN
  simp [hn]
  refine (take_spec hw1 n0 (by omega)).mono ?_
  rintro v st2 ⟨m, rfl, m0, m1, hw2, hl2, d2⟩
  have hA2 := d2.get (by omega) hA
  simp
  refine wX_lc ?_
  have hm : small62 m := by unfold small62; omega
  simp [hm]
  refine ⟨by simp; omega, fun i acc st3 => WellAt w st3 ∧ Dr w st2 st3 ∧ ∃ ss : List (List Nat), acc = ss.map Val.str ∧ ss.length = i ∧ ∀ s ∈ ss, s ∈ PARTS, ⟨hw2, Dr.refl _ _, [], rfl, rfl, by simp⟩, fun _ _ _ _ _ => live_none, ?_, ?_⟩
  · rintro i x acc st3 hx ⟨hw3, d3, ss, e1, e2, e3⟩
    subst e1
    obtain ⟨hi, rfl⟩ := rngL_get hx
    simp
    refine (take_spec (many := 17) hw3 (by decide) (by decide)).mono ?_
    rintro v st4 ⟨q, rfl, q0, q1, hw4, hl4, d4⟩
    have hA4 := d4.get (by omega) (d3.get (by omega) hA2)
    have hq : q.toNat < PARTS.length := by
      show q.toNat < 17
      omega
    have hl : ((PARTS.map Val.str).length : Int) = 17 := rfl
    simp [hA4, atI_at q0 (show q < ((PARTS.map Val.str).length : Int) by omega)]
    rw [List.getElem?_eq_getElem hq]
    refine ⟨Val.str PARTS[q.toNat], st4, rfl, ?_⟩
    refine ⟨hw4, d3.trans d4, ss ++ [PARTS[q.toNat]], by simp, by simp [e2], ?_⟩
    intro s hs
    rcases List.mem_append.mp hs with h1 | h1
    · exact e3 s h1
    · rw [List.mem_singleton.mp h1]
      exact List.getElem_mem hq
  · rintro acc st3 ⟨hw3, d3, ss, e1, e2, e3⟩
    have e2 : ss.length = m.toNat := by simpa using e2
    subst e1
    have h5 := sum_le List.length 5 ss fun s hs => (parts_ok s (e3 s hs)).2
    have h6 : (ss.map List.length).sum ≤ 40 := by omega
    simp [fJoin_ref (s := []) (st := st3 ++ [Ob.lst (ss.map Val.str)]) (p := st3.length) (ss := ss) (by simp) (by simp only [LINE_def, List.length_nil]; omega)]
    rw [jn_nil]
    refine ⟨fun c hc => ?_, by rw [List.length_flatten]; exact h6, hw3.ap (Ap.one _ _), ?_⟩
    · obtain ⟨s, hs, hc⟩ := List.mem_flatten.mp hc
      exact (parts_ok s (e3 s hs)).1 c hc
    · exact ((((Ap.dr ⟨_, rfl⟩).trans d1).trans d2).trans d3).app _
theorem text_spec {w : Nat} {st : Sto} {most : Int} (h : WellAt w st) (h1 : 0 < most) (h2 : most ≤ 1000) :
    wF L_text [.ref w, .int most] st (fun v st' => ∃ ss : List (List Nat), v = .tup (ss.map .str) ∧ 1 ≤ ss.length ∧ (ss.length : Int) ≤ most ∧ (∀ s ∈ ss, Signs s ∧ s.length ≤ 40) ∧ WellAt w st' ∧ Dr w st st') G0 := by
  have hw := h.lt
  unfold L_text ML_text
  simp
  refine wS_for ?_
  simp
  refine (take_spec (h.ap (Ap.one _ _)) h1 (by omega)).mono ?_
  rintro v st1 ⟨r, rfl, r0, r1, hw1, hl1, d1⟩
  have hA := d1.get (i := st.length) (o := .lst []) (by omega) (by simp)
  have hm : small62 (1 + r) := by unfold small62; omega
  simp [hm]
  refine ⟨fun i sl st3 => (∃ t, sl = [some (.ref w), some (.int most), some (.ref st.length), t]) ∧ WellAt w st3 ∧ Dr w st st3 ∧ ∃ ss : List (List Nat), st3[st.length]? = some (.lst (ss.map Val.str)) ∧ ss.length = i ∧ ∀ s ∈ ss, Signs s ∧ s.length ≤ 40,
    ⟨⟨_, rfl⟩, hw1, (Ap.dr (Ap.one _ _)).trans d1, [], hA, rfl, by simp⟩, fun _ _ _ _ _ => live_none, ?_, ?_⟩
  · rintro i x sl st3 hx ⟨⟨t, rfl⟩, hw3, d3, ss, e1, e2, e3⟩
    obtain ⟨hi, rfl⟩ := rngL_get hx
    have fin : ∀ (s : List Nat) (st4 : Sto), Signs s → s.length ≤ 40 → WellAt w st4 → Dr w st3 st4 → st4[st.length]? = some (.lst (ss.map Val.str)) ∧ WellAt w (st4.set st.length (.lst (ss.map Val.str ++ [.str s]))) ∧ Dr w st (st4.set st.length (.lst (ss.map Val.str ++ [.str s]))) ∧
        ∃ us : List (List Nat), (st4.set st.length (.lst (ss.map Val.str ++ [.str s])))[st.length]? = some (.lst (us.map Val.str)) ∧ us.length = i + 1 ∧ ∀ s ∈ us, Signs s ∧ s.length ≤ 40 := by
      intro s st4 s1 s2 hw4 d4
      have e4 := d4.get (by omega) e1
      refine ⟨e4, hw4.set _ (by omega), (d3.trans d4).new _ (Nat.le_refl _), ss ++ [s], ?_, by simp [e2], ?_⟩
      · rw [List.getElem?_set_self (by have := (List.getElem?_eq_some_iff.mp e4).1; exact this)]
        simp
      · intro u hu
        rcases List.mem_append.mp hu with h5 | h5
        · exact e3 u h5
        · rw [List.mem_singleton.mp h5]
          exact ⟨s1, s2⟩
    have hz : ss.length < 16777216 := by omega
    simp [kind_lst e1]
    refine (take_spec (many := 5) hw3 (by decide) (by decide)).mono ?_
    rintro v st4 ⟨q, rfl, q0, q1, hw4, hl4, d4⟩
    simp
    split
    · obtain ⟨f1, f2⟩ := fin [] st4 (by intro c hc; cases hc) (by decide) hw4 d4
      simp [onL_ref f1, hz]
      exact f2
    · refine (row_spec hw4).mono ?_
      rintro v st5 ⟨s, rfl, s1, s2, hw5, d5⟩
      obtain ⟨f1, f2⟩ := fin s st5 s1 s2 hw5 (d4.trans d5)
      simp [onL_ref f1, hz]
      exact f2
  · rintro sl st3 ⟨⟨t, rfl⟩, hw3, d3, ss, e1, e2, e3⟩
    have e2 : ss.length = (1 + r).toNat := by simpa using e2
    simp [e1]
    exact ⟨ss, rfl, by omega, by omega, e3, hw3, d3⟩
theorem place_spec {w : Nat} {st : Sto} {ss : List (List Nat)} (h : WellAt w st) (h1 : 0 < ss.length) (h2 : ss.length ≤ 1000) (h3 : ∀ s ∈ ss, s.length ≤ 1000) :
    wF L_place [.ref w, .tup (ss.map .str)] st (fun v st' => ∃ (r c : Nat) (s : List Nat), v = .tup [.int r, .int c] ∧ ss[r]? = some s ∧ c ≤ s.length ∧ WellAt w st' ∧ Dr w st st') G0 := by
  unfold L_place ML_place
  simp
  refine (take_spec h (by omega) (by omega)).mono ?_
  rintro v st1 ⟨r, rfl, r0, r1, hw1, hl1, d1⟩
  obtain ⟨r, rfl⟩ := Int.eq_ofNat_of_zero_le r0
  have hr : r < ss.length := by omega
  have hs := h3 _ (List.getElem_mem hr)
  have hz : ss[r].length ≤ 16777216 := by omega
  simp [atI_at (l := ss.map Val.str) (i := (r : Int)) (by omega) (by simpa using r1), hr, hz]
  refine (take_spec hw1 (by omega) (by omega)).mono ?_
  rintro v st2 ⟨c, rfl, c0, c1, hw2, hl2, d2⟩
  obtain ⟨c, rfl⟩ := Int.eq_ofNat_of_zero_le c0
  simp
  exact ⟨r, c, ⟨rfl, rfl⟩, ss[r], by simp [hr], by omega, hw2, d1.trans d2⟩
theorem well_spec {st : Sto} {ns : List Int} {k : Nat} (hk : k < 64) (hn : ns.length ≤ 63) :
    wF L_well [.scr ns, .int k] st (fun v st' => ∃ w, v = .ref w ∧ st.length ≤ w ∧ WellAt w st' ∧ Ap st st') G0 := by
  unfold L_well ML_well
  have tail : ∀ c : Int, wS (T0L_well) [some (.scr ns), some (.int k), some (.int c), none, none] st (finP (fun v st' => ∃ w, v = .ref w ∧ st.length ≤ w ∧ WellAt w st' ∧ Ap st st') G0) := by
    intro c
    have b1 : -(2 ^ 64) < 48271 + 2 * (k : Int) := by omega
    have b2 : 48271 + 2 * (k : Int) < 2 ^ 64 := by omega
    have b5 : -(2 ^ 64) < (k : Int) := by omega
    have b6 : (k : Int) < 2 ^ 64 := by omega
    obtain ⟨s, hs⟩ : ∃ s, s = (c % 2147483489 + 1) * (48271 + 2 * (k : Int)) % 2147483489 := ⟨_, rfl⟩
    have s0 : 0 ≤ s := by rw [hs]; exact Int.emod_nonneg _ (by decide)
    have s1 : s < 2147483489 := by rw [hs]; exact Int.emod_lt_of_pos _ (by decide)
    have b3 : -(2 ^ 64) < s := by omega
    have b4 : s < 2 ^ 64 := by omega
    have q0 := Int.emod_nonneg (s * s) (b := 2147483477) (by decide)
    have q1 := Int.emod_lt_of_pos (s * s) (b := 2147483477) (by decide)
    have hp : ∃ p : Int, 0 < p ∧ p ≤ 2147483647 ∧ L2.atI [Val.int 2147483647, .int 2147483629, .int 2147483587, .int 2147483579, .int 2147483563, .int 2147483549, .int 2147483543, .int 2147483497] ((k : Int) % 8) = some (.int p) := by
      have : (k : Int) % 8 = 0 ∨ (k : Int) % 8 = 1 ∨ (k : Int) % 8 = 2 ∨ (k : Int) % 8 = 3 ∨ (k : Int) % 8 = 4 ∨ (k : Int) % 8 = 5 ∨ (k : Int) % 8 = 6 ∨ (k : Int) % 8 = 7 := by omega
      rcases this with e | e | e | e | e | e | e | e <;> rw [e] <;> exact ⟨_, by decide, by decide, rfl⟩
    obtain ⟨p, p0, p1, hp⟩ := hp
    have well : ∀ c' : Int, WellAt (st.length + 1) (st ++ [.lst [.int 2147483647, .int 2147483629, .int 2147483587, .int 2147483579, .int 2147483563, .int 2147483549, .int 2147483543, .int 2147483497], .lst [.int c', .int (s * s % 2147483477 + k + 1), .int p]]) := fun c' => ⟨c', s * s % 2147483477 + k + 1, p, by simp, by omega, by omega, p0, p1⟩
    unfold T0L_well
    simp [fMul_r b1 b2, ← hs, fMul_r b3 b4, fMul_r b5 b6, hp]
    by_cases hc : (1000000000000000000 : Int) ≤ c <;> simp [hc, hp] <;> exact ⟨well _, ⟨_, rfl⟩⟩
  simp
  by_cases h1 : k < ns.length
  · simp [h1]
    rw [atI_at (by omega) (by omega)]
    simp [h1]
    exact tail _
  · simp [h1]
    exact tail 0
open MO
section
variable {ss : List (List Nat)} {st : Sto} {r c : Nat} {s : List Nat} {ms : List (Nat × Val)} {keys : List Nat} {p : Pt} {w : List Nat}
def rowsV (ss : List (List Nat)) : Val := .tup (ss.map .str)
def pl (r c : Nat) : Val := .tup [.int r, .int c]
def TOk (ss : List (List Nat)) : Prop := 1 ≤ ss.length ∧ ss.length ≤ 1000 ∧ ∀ s ∈ ss, s.length ≤ 1000 ∧ ∀ x ∈ s, x < 128
def POk (ss : List (List Nat)) (r c : Nat) : Prop := ∃ s, ss[r]? = some s ∧ c ≤ s.length
def ROk (ss : List (List Nat)) (v : Val) : Prop := v = .non ∨ ∃ r c, v = pl r c ∧ POk ss r c
theorem TOk.row {ss : List (List Nat)} (T : TOk ss) {r : Nat} {s : List Nat} (h : ss[r]? = some s) : s.length ≤ 1000 ∧ ∀ x ∈ s, x < 128 := T.2.2 s (List.mem_of_getElem? h)
theorem row_at {ss : List (List Nat)} {r : Nat} {s : List Nat} (h : ss[r]? = some s) : L2.atI (ss.map Val.str) (r : Int) = some (.str s) := by
  have := (List.getElem?_eq_some_iff.mp h).1
  rw [atI_at (by omega) (by simpa using this)]
  simp [h]
theorem row_len {ss : List (List Nat)} {r : Nat} {s : List Nat} (T : TOk ss) (h : ss[r]? = some s) (st : Sto) : fLen [.str s] st = some (.int s.length, st) := fLen_str (by have := (T.row h).1; simp only [LINE_def]; omega)
theorem sign_at {s : List Nat} {k : Nat} (h : k < s.length) : L2.atI s (k : Int) = s[k]? := by
  rw [atI_at (by omega) (by omega), Int.toNat_natCast]
/-- the places from lo on whose sign passes -/
theorem sign_lc {lo n : Nat} {P : Val → Sto → Prop} {sl : Sl} {st : Sto} {j : Nat} {mi : FI} {mt : FT} {p : Nat → Bool} {G : EP'} (hn : n ≤ 100000)
    (hi : wX mi sl st (fun b st1 => b = ⟨rngL (lo : Int) n, .none⟩ ∧ st1 = st) G) (hj : j < sl.length)
    (ht : ∀ k, lo ≤ k → k < lo + n → ∀ st', wX mt (sl.set j (some (.int (k : Nat)))) st' (fun b st2 => b = p k ∧ st2 = st') G0)
    (done : ∀ st', Ap st st' → P (.ref st'.length) (st' ++ [.lst (((List.range' lo n).filter p).map iv)])) : wX (fLc mi (gSet j) mt (fVar j) [j]) sl st P G := by
  refine wX_lc (hi.mono ?_)
  rintro b st1 ⟨rfl, rfl⟩
  refine LcOb.fm (qv p) id (by simp; omega) (fun _ _ => live_none) ?_ ?_
  · intro x hx st2 a2
    obtain ⟨k, hk⟩ := List.getElem?_of_mem hx
    obtain ⟨hk1, rfl⟩ := rngL_get hk
    have e : (lo : Int) + k = ((lo + k : Nat) : Int) := by omega
    rw [e]
    simp only [wT_set, wipeL_cons, wipeL_nil, List.set_set]
    refine (ht (lo + k) (by omega) (by omega) st2).mono ?_
    rintro b st3 ⟨rfl, rfl⟩
    exact ⟨by show p _ = p ((lo + k : Nat) : Int).toNat; rw [Int.toNat_natCast], Ap.refl _, fun _ => wX_var.mpr ⟨_, by rw [List.set_set]; exact List.getElem?_set_self hj, rfl, Ap.refl _⟩⟩
  · intro st' a
    rw [List.map_id, show (Itb.mk (rngL (lo : Int) n) .none).items = rngL (lo : Int) n from rfl, rngF]
    exact done st' a
def rowOf (ss : List (List Nat)) (r : Nat) : List Nat := ss[r]?.getD []
theorem rowOf_eq (h : ss[r]? = some s) : rowOf ss r = s := by unfold rowOf; rw [h]; rfl
def pq (p : Pt) : Val := pl p.1 p.2
def unpq : Val → Pt
  | .tup [.int a, .int b] => (a.toNat, b.toNat)
  | _ => (0, 0)
@[simp] theorem unpq_pq (p : Pt) : unpq (pq p) = p := by
  show (((p.1 : Int)).toNat, ((p.2 : Int)).toNat) = p
  rw [Int.toNat_natCast, Int.toNat_natCast]
def optV : Option Pt → Val
  | some p => pq p
  | none => .non
theorem pq_lt (p q : Pt) : fLt (pq p) (pq q) st = some (.bl (ltp p q), st) := by
  show some (Val.bl (decide ((p.1 : Int) < (q.1 : Int) ∨ (p.1 : Int) = (q.1 : Int) ∧ (p.2 : Int) < (q.2 : Int))), st) = _
  exact congrArg (fun b => some (Val.bl b, st)) (decide_eq_decide.mpr (by omega))
theorem pq_gt (p q : Pt) : fGt (pq p) (pq q) st = some (.bl (ltp q p), st) := pq_lt q p
theorem low_in : ∀ c, c < 128 → ∃ d, [c].map PyProof.Rows.lo1 = [d] ∧ (decide (c = 95) || (decide (c ∈ [48, 49, 50, 51, 52, 53, 54, 55, 56, 57]) || decide (d ∈ [97, 98, 99, 100, 101, 102, 103, 104, 105, 106, 107, 108, 109, 110, 111, 112, 113, 114, 115, 116, 117, 118, 119, 120, 121, 122]))) = wordB c := by
  intro c hc
  refine ⟨PyProof.Rows.lo1 c, rfl, ?_⟩
  revert c
  decide
theorem kind_of_spec {c : Nat} (hc : c < 128) : wF F_kind_of [.str [c]] st (fun v st' => v = .int (kindN c) ∧ st' = st) G0 := by
  obtain ⟨d, e1, e2⟩ := low_in c hc
  unfold F_kind_of MF_kind_of
  have e3 : ∀ st, fLower (.str [c]) [] st = some (.str [d], st) := fun st => by
    rw [fLower_str (by simp) (by simpa using hc), e1]
  by_cases h0 : c = 32
  · subst h0
    simp [kindN]
  · simp [hc, h0, e3]
    unfold kindN
    rw [if_neg h0, ← e2]
    by_cases h1 : c = 95
    · simp [h1]
    · by_cases h2 : c ∈ [48, 49, 50, 51, 52, 53, 54, 55, 56, 57]
      · have h2' := h2
        simp only [List.mem_cons, List.not_mem_nil, or_false] at h2'
        simp [h1, h2']
      · have h2' := h2
        simp only [List.mem_cons, List.not_mem_nil, or_false] at h2'
        by_cases h3 : d ∈ [97, 98, 99, 100, 101, 102, 103, 104, 105, 106, 107, 108, 109, 110, 111, 112, 113, 114, 115, 116, 117, 118, 119, 120, 121, 122]
        · have h3' := h3
          simp only [List.mem_cons, List.not_mem_nil, or_false] at h3'
          simp [h1, h2', h3']
        · have h3' := h3
          simp only [List.mem_cons, List.not_mem_nil, or_false] at h3'
          simp [h1, h2', h3']
theorem kd_at {i : Nat} (h : i < s.length) : kd s i = kindN s[i] := by
  unfold kd
  rw [List.getElem?_eq_getElem h]
  rfl
theorem rng_take (p : Nat → Bool) (i : Nat) : (List.range (i + 1)).filter p = (List.range i).filter p ++ if p i then [i] else [] := by
  rw [List.range_succ, List.filter_append, List.filter_cons]
  cases p i <;> simp
theorem pq_gd {B : Nat → Prop} {l : List Pt} : ∀ x ∈ l.map pq, Gd B 2 st 1 x := fun x hx => by
  obtain ⟨p, _, rfl⟩ := List.mem_map.mp hx
  exact ⟨by simp [pq, pl], fun y hy => by
    simp only [List.mem_cons, List.not_mem_nil, or_false] at hy
    rcases hy with rfl | rfl <;> trivial⟩
theorem ne_pq {l : List Pt} {p q : Nat} (h1 : st[p]? = some (Ob.lst (l.map pq))) (h2 : st[q]? = some (Ob.lst [])) : fNe (.ref p) (.ref q) st = some (.bl (!decide (l = [])), st) := by
  rw [fNe_nil (B := fun _ => False) h1 h2 pq_gd (by decide)]
  simp
theorem eq_pq {l : List Pt} {p q : Nat} (h1 : st[p]? = some (Ob.lst (l.map pq))) (h2 : st[q]? = some (Ob.lst [])) : fEq (.ref p) (.ref q) st = some (.bl (decide (l = [])), st) := by
  rw [fEq_nil (B := fun _ => False) h1 h2 pq_gd (by decide)]
  simp
/-- places that pass -/
theorem pick_lc {P : Val → Sto → Prop} {sl : Sl} {i j p : Nat} {mt : FT} {Q : Pt → Bool} {l : List Pt} {G : EP'} (hs : sl[i]? = some (some (.ref p))) (hp : st[p]? = some (.lst (l.map pq))) (hl : l.length ≤ LINE) (hj : j < sl.length)
    (ht : ∀ q st', Ap st st' → wX mt (sl.set j (some (pq q))) st' (fun b st2 => b = Q q ∧ st2 = st') G0)
    (done : ∀ st', Ap st st' → P (.ref st'.length) (st' ++ [.lst ((l.filter Q).map pq)])) : wX (fLc (fIt (fVar i)) (gSet j) mt (fVar j) [j]) sl st P G := by
  refine wX_lc ?_
  simp only [wX_it, wX_var]
  refine ⟨_, hs, _, asIt_ref hp, ?_⟩
  refine LcOb.fm (fun v => Q (unpq v)) id (by simpa using hl) (fun st' a => a.get hp) ?_ ?_
  · intro x hx st2 a2
    obtain ⟨q, hq, rfl⟩ := List.mem_map.mp hx
    simp only [wT_set, wipeL_cons, wipeL_nil, List.set_set]
    refine (ht q st2 a2).mono ?_
    rintro b st3 ⟨rfl, rfl⟩
    exact ⟨by simp, Ap.refl _, fun _ => wX_var.mpr ⟨_, by rw [List.set_set]; exact List.getElem?_set_self hj, rfl, Ap.refl _⟩⟩
  · intro st' a
    have e : (((l.map pq).filter fun v => Q (unpq v)).map id) = (l.filter Q).map pq := by
      rw [List.map_id, List.filter_map]
      have e2 : ((fun v => Q (unpq v)) ∘ pq) = Q := funext fun q => by simp
      rw [e2]
    rw [show (Itb.mk (l.map pq) (.some p)).items = l.map pq from rfl, e]
    exact done st' a
theorem lensN (T : TOk ss) {g : List Nat → List Nat} (hg : ∀ s, (g s).length ≤ s.length) : (rowsF g ss).length ≤ 1000000 := by
  have h1 := rowsF_len (g := g) (b := 1000) (ss := ss) fun t ht => Nat.le_trans (hg t) (T.2.2 t ht).1
  have h4 : ss.length * 1000 ≤ 1000 * 1000 := Nat.mul_le_mul_right _ T.2.1
  omega
theorem lens (T : TOk ss) {g : List Nat → List Nat} (hg : ∀ s, (g s).length ≤ s.length) : (rowsF g ss).length ≤ LINE := by
  have h1 := rowsF_len (g := g) (b := 1000) (ss := ss) fun t ht => Nat.le_trans (hg t) (T.2.2 t ht).1
  have h4 : ss.length * 1000 ≤ 1000 * 1000 := Nat.mul_le_mul_right _ T.2.1
  simp only [LINE_def]
  omega
theorem len_f (w s : List Nat) : (foundR w s).length ≤ s.length := by
  unfold foundR
  have := List.length_filter_le (fun i => decide ((s.drop i).take w.length = w)) (List.range s.length)
  rwa [List.length_range] at this
theorem len_a (s : List Nat) : (allR s).length ≤ s.length := by simp [allR]
def rowI : Val → Nat
  | .tup (.int i :: _) => i.toNat
  | _ => 0
def rowS : Val → List Nat
  | .tup [_, .str s] => s
  | _ => []
def unI : Val → Nat
  | .int i => i.toNat
  | _ => 0
theorem rngL_iv (n : Nat) : rngL 0 n = (List.range n).map iv := by
  unfold rngL
  refine List.map_congr_left fun k _ => ?_
  show Val.int _ = Val.int _
  simp
theorem rng_pick (n : Nat) (Q : Nat → Bool) (f : Nat → Val) : ((rngL 0 n).filter fun y => Q (unI y)).map (fun y => f (unI y)) = ((List.range n).filter Q).map f := by
  rw [rngL_iv, List.filter_map, List.map_map]
  rfl
theorem enumV_rows (ss : List (List Nat)) : enumV (ss.map Val.str) = ss.zipIdx.map fun p => .tup [.int p.2, .str p.1] := by
  unfold enumV
  rw [List.zipIdx_map, List.map_map]
  rfl
theorem flat_rows (g : List Nat → List Nat) (ss : List (List Nat)) : ∀ (i : Nat), ((ss.zipIdx i).flatMap fun p => (g p.1).map fun j => pl p.2 j) = (rowsG g i ss).map pq := by
  induction ss with
  | nil => intro i; rfl
  | cons s ss ih =>
    intro i
    rw [List.zipIdx_cons, List.flatMap_cons, ih (i + 1)]
    show _ = ((g s).map (fun j => (i, j)) ++ rowsG g (i + 1) ss).map pq
    rw [List.map_append, List.map_map]
    rfl
theorem cutN {α : Type} {xs : List α} {a b : Nat} : cutG xs (some (a : Int)) (some (b : Int)) = (xs.take b).drop a := by
  unfold cutG
  rw [HT.sIx_nat, HT.sIx_nat]
  refine List.ext_getElem? fun i => ?_
  simp only [List.getElem?_take, List.getElem?_drop]
  by_cases h1 : a ≤ xs.length
  · rw [Nat.min_eq_left h1]
    by_cases h2 : i < min b xs.length - a
    · rw [if_pos h2, if_pos (by omega)]
    · rw [if_neg h2]
      by_cases h3 : a + i < b
      · rw [if_pos h3, List.getElem?_eq_none (by omega)]
      · rw [if_neg h3]
  · rw [if_neg (by omega)]
    by_cases h3 : a + i < b
    · rw [if_pos h3, List.getElem?_eq_none (by omega)]
    · rw [if_neg h3]
theorem one_cut {s : List Nat} {c : Nat} : (s.drop c).take 1 = match s[c]? with | some x => [x] | none => [] := by
  cases h : s[c]? with
  | none =>
    rw [List.getElem?_eq_none_iff] at h
    rw [List.drop_eq_nil_of_le h]
    rfl
  | some x =>
    obtain ⟨h1, rfl⟩ := List.getElem?_eq_some_iff.mp h
    rw [List.drop_eq_getElem_cons h1]
    rfl
theorem flat_rng (ss : List (List Nat)) : ∀ i : Nat, (List.range' i ss.length).flatMap (fun r => ((List.range ((ss[r - i]?.getD []).length)).map fun j => pl r j)) = (rowsG allR i ss).map pq := by
  induction ss with
  | nil => intro i; rfl
  | cons s ss ih =>
    intro i
    rw [List.length_cons, List.range'_succ, List.flatMap_cons]
    show _ = ((allR s).map (fun j => (i, j)) ++ rowsG allR (i + 1) ss).map pq
    rw [List.map_append, ← ih (i + 1), List.map_map]
    congr 1
    · rw [Nat.sub_self]
      rfl
    · rw [List.flatMap_def, List.flatMap_def]
      congr 1
      refine List.map_congr_left fun r hr => ?_
      rw [List.mem_range'_1] at hr
      have : r - i = (r - (i + 1)) + 1 := by omega
      rw [this, List.getElem?_cons_succ]
theorem flat_all (ss : List (List Nat)) : (((rngL 0 ss.length).filter fun _ => true).flatMap fun x => ((rngL 0 (rowOf ss (unI x)).length).filter fun _ => true).map fun y => pl (unI x) (unI y)) = (allP ss).map pq := by
  have e := flat_rng ss 0
  unfold allP rowsF
  rw [← e, filter_all (fun _ _ => rfl), rngL_iv, List.flatMap_map, List.range_eq_range']
  congr 1
  funext r
  show ((rngL 0 (rowOf ss ((r : Int)).toNat).length).filter fun _ => true).map (fun y => pl ((r : Int)).toNat (unI y)) = _
  rw [Int.toNat_natCast, filter_all (fun _ _ => rfl), rngL_iv, List.map_map]
  rfl
theorem mem_all {p : Pt} : p ∈ allP ss ↔ ∃ s, ss[p.1]? = some s ∧ p.2 < s.length := by
  unfold allP
  rw [rowsF_mem]
  simp [allR]
theorem sgn_eq {p : Pt} {s : List Nat} (h : ss[p.1]? = some s) (h2 : p.2 < s.length) : sgn ss p = s[p.2] := by
  unfold sgn
  rw [h]
  simp [h2]
theorem fIndexS_one {s : List Nat} {c k : Nat} (h : s[k]? = some c) (hn : ∀ j, j < k → s[j]? ≠ some c) (st : Sto) : fIndexS (.str s) [.str [c]] st = some (.int k, st) := by
  show (match Builtin.Str.occurrences (St' s) (St' [c]) 0 (St' s).length 1 with
    | i :: _ => some (Val.int (i : Nat), st)
    | [] => none) = _
  rcases StrLaws.occ_head_from (St' s) ⟨#[c]⟩ 0 1 (Nat.le_refl 1) with ⟨h0, h1⟩ | ⟨i, r, h0, hlo, h1, h2⟩
  · exact absurd ((StrLaws.subAt_one (St' s) c k).mpr h) (h1 k (Nat.zero_le _))
  · have e : (St' [c]) = ⟨#[c]⟩ := rfl
    rw [e, h0]
    have hi := (StrLaws.subAt_one (St' s) c i).mp h1
    rcases Nat.lt_trichotomy i k with g | g | g
    · exact absurd hi (hn i g)
    · rw [g]
    · exact absurd ((StrLaws.subAt_one (St' s) c k).mpr h) (h2 k (Nat.zero_le _) g)
theorem idx_o : ∀ x, x = 40 ∨ x = 91 ∨ x = 123 → ∃ k : Nat, (∀ st : Sto, fIndexS (.str [40, 91, 123]) [.str [x]] st = some (.int k, st)) ∧ L2.atI [41, 93, 125] (k : Int) = some (wayB x) := by
  intro x hx
  rcases hx with rfl | rfl | rfl
  · exact ⟨0, fIndexS_one rfl (by decide), rfl⟩
  · exact ⟨1, fIndexS_one rfl (by decide), rfl⟩
  · exact ⟨2, fIndexS_one rfl (by decide), rfl⟩
theorem idx_c : ∀ x, x = 41 ∨ x = 93 ∨ x = 125 → ∃ k : Nat, (∀ st : Sto, fIndexS (.str [41, 93, 125]) [.str [x]] st = some (.int k, st)) ∧ L2.atI [40, 91, 123] (k : Int) = some (wayB x) := by
  intro x hx
  rcases hx with rfl | rfl | rfl
  · exact ⟨0, fIndexS_one rfl (by decide), rfl⟩
  · exact ⟨1, fIndexS_one rfl (by decide), rfl⟩
  · exact ⟨2, fIndexS_one rfl (by decide), rfl⟩
theorem scanM_cons (f : Pt → Nat) (x m : Nat) (p : Pt) (l : List Pt) (d : Int) : scanM f x m (p :: l) d = if d + dlt x m (f p) = 0 then some p else scanM f x m l (d + dlt x m (f p)) := rfl
/-- the loop over places that counts depth -/
theorem scan_for {P : Val → Sto → Prop} {x m : Nat} {l : List Pt} {a1 a4 a6 a7 a8 a9 a10 : Option Val} {mi : FI} (T : TOk ss) (hx : x < 128) (hm : m < 128) (hl : ∀ q ∈ l, q ∈ allP ss) (hP : ∀ v st', v = optV (scanM (sgn ss) x m l 1) → Ap st st' → P v st')
    (hi : wX mi [some (rowsV ss), a1, some (.str [x]), some (.str [m]), a4, some (.int 1), a6, a7, a8, a9, a10] st (fun b st1 => ∃ p, b = ⟨l.map pq, .some p⟩ ∧ st1[p]? = some (.lst (l.map pq)) ∧ Ap st st1) G0) :
    wS (fFor mi (gTupl (gAnd (gSet 8) (gAnd (gSet 9) gNo)) 2) (fSeq (fSet 10 (fOp fIx (fOp fIx (fVar 0) (fVar 8)) (fVar 9)))
      (fSeq (fAug 5 fIAdd (fOp fSub (fCall fInt1 (fCons (fOp fEq (fVar 10) (fVar 2)) fNil)) (fCall fInt1 (fCons (fOp fEq (fVar 10) (fVar 3)) fNil))))
      (fIfS (fB (fOp fEq (fVar 5) (fC (.int 0)))) (fRet (fTup (fCons (fVar 8) (fCons (fVar 9) fNil)))) fSkip))))
      [some (rowsV ss), a1, some (.str [x]), some (.str [m]), a4, some (.int 1), a6, a7, a8, a9, a10] st (sqP (fRet (fC .non)) (finP P G0)) := by
  refine wS_for (hi.go ?_)
  rintro b st1 ⟨p, rfl, hp, ha⟩
  refine ⟨fun i sl st' => ∃ (d : Int) (b8 b9 b10 : Option Val), sl = [some (rowsV ss), a1, some (.str [x]), some (.str [m]), a4, some (.int d), a6, a7, b8, b9, b10] ∧ st' = st1 ∧ scanM (sgn ss) x m l 1 = scanM (sgn ss) x m (l.drop i) d, ⟨1, _, _, _, rfl, rfl, rfl⟩, ?_, ?_, ?_⟩
  · rintro i sl st2 _ ⟨d, b8, b9, b10, rfl, rfl, _⟩
    exact hp
  · rintro i v sl st2 hv ⟨d, b8, b9, b10, rfl, rfl, hd⟩
    rw [List.getElem?_map] at hv
    obtain ⟨q, hq, rfl⟩ := Option.map_eq_some_iff.mp hv
    obtain ⟨hil, rfl⟩ := List.getElem?_eq_some_iff.mp hq
    obtain ⟨s, hs, hc⟩ := mem_all.mp (hl _ (List.getElem_mem hil))
    have hR := T.row hs
    have hz : s.length ≤ LINE := by simp only [LINE_def]; omega
    have hg := sgn_eq hs hc
    have h128 := hR.2 _ (List.getElem_mem hc)
    rw [List.drop_eq_getElem_cons hil, scanM_cons] at hd
    unfold rowsV at *
    simp [and_assoc, pq, pl, row_at hs, hz, sign_at hc, List.getElem?_eq_getElem hc, h128, hx, hm]
    have hdl : dlt x m (sgn ss l[i]) = (if s[l[i].2] = x then 1 else 0) - (if s[l[i].2] = m then 1 else 0) := by rw [hg]; rfl
    rw [hdl] at hd
    by_cases h0 : d + ((if s[l[i].2] = x then 1 else 0) - (if s[l[i].2] = m then 1 else 0)) = 0
    · rw [if_pos h0] at hd
      simp [h0]
      refine hP _ _ ?_ ha
      rw [hd]
      rfl
    · rw [if_neg h0] at hd
      simp [h0]
      exact hd
  · rintro sl st2 ⟨d, b8, b9, b10, rfl, rfl, hd⟩
    have hd2 : scanM (sgn ss) x m l 1 = none := by
      rw [hd]
      simp [scanM]
    simp
    refine hP _ _ ?_ ha
    rw [hd2]
    rfl
theorem brk_cases {x : Nat} (h : brk x = true) : (opn x = true ∧ (x = 40 ∨ x = 91 ∨ x = 123)) ∨ (opn x = false ∧ (x = 41 ∨ x = 93 ∨ x = 125)) := by
  have h1 : x ∈ [40, 41, 91, 93, 123, 125] := List.contains_iff_mem.mp h
  simp only [List.mem_cons, List.not_mem_nil, or_false] at h1
  rcases h1 with rfl | rfl | rfl | rfl | rfl | rfl <;> decide
theorem sgn_none {p : Pt} {s : List Nat} (h : ss[p.1]? = some s) (h2 : s.length ≤ p.2) : sgn ss p = 0 := by
  unfold sgn
  rw [h, Option.getD_some, List.getElem?_eq_none h2]
  rfl
theorem partner_spec (T : TOk ss) {p : Pt} (h : POk ss p.1 p.2) : wF F_partner [rowsV ss, pq p] st (fun v st' => v = optV (partP ss p) ∧ Ap st st') G0 := by
  obtain ⟨s, hr, hc⟩ := h
  have hR := T.row hr
  have hz : s.length ≤ LINE := by simp only [LINE_def]; omega
  have e1 : (p.2 : Int) + 1 = ((p.2 + 1 : Nat) : Int) := by omega
  have hcut : cutG s (some (p.2 : Int)) (some ((p.2 : Int) + 1)) = match s[p.2]? with | some x => [x] | none => [] := by
    rw [e1, cutN, List.drop_take, Nat.add_sub_cancel_left]
    exact one_cut
  unfold F_partner MF_partner
  unfold rowsV pq pl
  cases hx : s[p.2]? with
  | none =>
    rw [hx] at hcut
    rw [List.getElem?_eq_none_iff] at hx
    have : partP ss p = none := by
      unfold partP
      rw [sgn_none hr hx]
      rfl
    simp [and_assoc, row_at hr, hz, hcut, this, optV, Ap.refl]
  | some x =>
    rw [hx] at hcut
    obtain ⟨hlt, hxe⟩ := List.getElem?_eq_some_iff.mp hx
    have h128 : x < 128 := by rw [← hxe]; exact hR.2 _ (List.getElem_mem hlt)
    have hg : sgn ss p = x := by rw [sgn_eq hr hlt, hxe]
    simp [and_assoc, row_at hr, hz, hcut, h128]
    cases hb : brk x with
    | false =>
      have : partP ss p = none := by
        unfold partP
        rw [hg, hb]
        rfl
      have hn : ¬ (x = 40 ∨ x = 91 ∨ x = 123 ∨ x = 41 ∨ x = 93 ∨ x = 125) := fun z => by
        rcases z with rfl | rfl | rfl | rfl | rfl | rfl <;> exact absurd hb (by decide)
      simp only [not_or] at hn
      simp [hn, this, optV, Ap.refl]
    | true =>
      have pl_all : ∀ {P : Val → Sto → Prop} {a2 a3 a4 a5 a6 a7 a8 a9 a10 : Option Val} {G : EP'}, P (.ref st.length) (st ++ [.lst ((allP ss).map pq)]) → wX (fLc2 (fRng1 (fCons (fCall fLen (fCons (fVar 0) fNil)) fNil)) (gSet 8) fYes (fRng1 (fCons (fCall fLen (fCons (fOp fIx (fVar 0) (fVar 8)) fNil)) fNil)) (gSet 9) fYes (fTup (fCons (fVar 8) (fCons (fVar 9) fNil))) [8, 9] [9])
          [some (.tup (ss.map .str)), some (.tup [.int p.1, .int p.2]), a2, a3, a4, a5, a6, a7, a8, a9, a10] st P G := by
        intro P a2 a3 a4 a5 a6 a7 a8 a9 a10 G hP
        have hT := T.2.1
        have hm : small62 (ss.length : Int) := by unfold small62; omega
        refine wX_lc2 ?_
        simp [hm]
        refine ⟨fun _ => true, fun x => rngL 0 (rowOf ss (unI x)).length, fun _ _ => true, fun x y => pl (unI x) (unI y), ?_, ?_, ?_⟩
        · intro x hx
          obtain ⟨i, hi⟩ := List.getElem?_of_mem hx
          obtain ⟨hi1, rfl⟩ := rngL_get hi
          have h0 : ss[i]? = some ss[i] := List.getElem?_eq_getElem hi1
          have hs1 := (T.row h0).1
          have hm : small62 ((ss[i]).length : Int) := by unfold small62; omega
          simp [row_at h0, row_len T h0, hm, rowOf_eq h0, unI]
          intro y hy
          obtain ⟨j, hj⟩ := List.getElem?_of_mem hy
          obtain ⟨hj1, rfl⟩ := rngL_get hj
          simp [unI, pl]
        · have := lens T len_a
          have e := congrArg List.length (flat_all ss)
          rw [List.length_map] at e
          have e2 : (allP ss).length = (rowsF allR ss).length := rfl
          rw [← e2, ← e] at this
          simpa using this
        · have e := flat_all ss
          simp at e ⊢
          rw [e]
          exact hP
      have hal : (allP ss).length ≤ LINE := lens T len_a
      rcases brk_cases hb with ⟨ho, hxo⟩ | ⟨ho, hxo⟩
      · have ho2 : x = 40 ∨ x = 91 ∨ x = 123 ∨ x = 41 ∨ x = 93 ∨ x = 125 := by omega
        obtain ⟨k, hk1, hk2⟩ := idx_o x hxo
        have hm128 : wayB x < 128 := by rcases hxo with rfl | rfl | rfl <;> decide
        simp [hxo, hk1, hk2]
        rw [if_neg (by omega)]
        refine pl_all ?_
        simp
        refine pick_lc (Q := fun q => ltp p q) rfl (by simp) hal (by simp) ?_ ?_
        · intro q st' a
          have hgt : fGt (pq q) (.tup [.int p.1, .int p.2]) st' = some (.bl (ltp p q), st') := pq_gt q p
          simp [hgt, hxo]
        · intro st' a
          simp
          refine scan_for (l := (allP ss).filter fun q => ltp p q) T h128 hm128 (fun q hq => (List.mem_filter.mp hq).1) ?_ ?_
          · intro v st2 hv a2
            refine ⟨?_, Ap.trans ⟨_, rfl⟩ (a.trans (Ap.trans ⟨_, rfl⟩ a2))⟩
            rw [hv]
            unfold partP
            rw [hg, hb, ho]
            rfl
          · simp [hxo]
            exact Ap.refl _
      · have hno : ¬ (x = 40 ∨ x = 91 ∨ x = 123) := by omega
        have hno' := hno
        simp only [not_or] at hno'
        obtain ⟨k, hk1, hk2⟩ := idx_c x hxo
        have hm128 : wayB x < 128 := by rcases hxo with rfl | rfl | rfl <;> decide
        simp [hno', hk1, hk2]
        rw [if_neg (by omega)]
        refine pl_all ?_
        simp
        refine pick_lc (Q := fun q => ltp q p) rfl (by simp) hal (by simp) ?_ ?_
        · intro q st' a
          have hgt : fLt (pq q) (.tup [.int p.1, .int p.2]) st' = some (.bl (ltp q p), st') := pq_lt q p
          simp [hgt, hno']
        · intro st' a
          simp
          refine scan_for (l := ((allP ss).filter fun q => ltp q p).reverse) T h128 hm128 (fun q hq => (List.mem_filter.mp (List.mem_reverse.mp hq)).1) ?_ ?_
          · intro v st2 hv a2
            refine ⟨?_, Ap.trans ⟨_, rfl⟩ (a.trans (Ap.trans ⟨_, rfl⟩ a2))⟩
            rw [hv]
            unfold partP
            rw [hg, hb, ho]
            rfl
          · simp [hno']
            exact ⟨[Ob.lst (((allP ss).filter fun q => ltp q p).map pq).reverse], by simp⟩
theorem apIff {a b : Sto} : Ap a b ↔ a.length ≤ b.length ∧ ∀ i, i < a.length → b[i]? = a[i]? := by
  constructor
  · rintro ⟨l, rfl⟩
    exact ⟨by simp, fun i hi => List.getElem?_append_left hi⟩
  · rintro ⟨h1, h2⟩
    refine ⟨b.drop a.length, List.ext_getElem? fun i => ?_⟩
    by_cases hi : i < a.length
    · rw [List.getElem?_append_left hi, h2 i hi]
    · rw [List.getElem?_append_right (by omega), List.getElem?_drop]
      congr 1
      omega
theorem apDr {a b c : Sto} {w : Nat} (h : Ap a b) (d : Dr w b c) (hw : a.length ≤ w) : Ap a c := by
  rw [apIff] at *
  exact ⟨Nat.le_trans h.1 d.1, fun i hi => (d.2 i (by omega) (by omega)).trans (h.2 i hi)⟩
def sortN : Nat → List Nat
  | 0 => [98, 108, 97, 110, 107]
  | 1 => [119, 111, 114, 100]
  | _ => [111, 116, 104, 101, 114]
theorem sortN_128 (k : Nat) : ∀ x ∈ sortN k, x < 128 := by
  match k with
  | 0 => decide
  | 1 => decide
  | k + 2 => exact (by decide : ∀ x ∈ [111, 116, 104, 101, 114], x < 128)
theorem sortN_inj {a b : Nat} (ha : a ≤ 2) (hb : b ≤ 2) : (sortN a = sortN b) ↔ a = b := by
  have h1 : a = 0 ∨ a = 1 ∨ a = 2 := by omega
  have h2 : b = 0 ∨ b = 1 ∨ b = 2 := by omega
  rcases h1 with rfl | rfl | rfl <;> rcases h2 with rfl | rfl | rfl <;> decide
theorem low_up : [97, 98, 99, 100, 101, 102, 103, 104, 105, 106, 107, 108, 109, 110, 111, 112, 113, 114, 115, 116, 117, 118, 119, 120, 121, 122].map PyProof.Rows.up1 = [65, 66, 67, 68, 69, 70, 71, 72, 73, 74, 75, 76, 77, 78, 79, 80, 81, 82, 83, 84, 85, 86, 87, 88, 89, 90] := by decide
theorem word_in : ∀ c, c < 128 → decide (c ∈ [97, 98, 99, 100, 101, 102, 103, 104, 105, 106, 107, 108, 109, 110, 111, 112, 113, 114, 115, 116, 117, 118, 119, 120, 121, 122, 65, 66, 67, 68, 69, 70, 71, 72, 73, 74, 75, 76, 77, 78, 79, 80, 81, 82, 83, 84, 85, 86, 87, 88, 89, 90, 48, 49, 50, 51, 52, 53, 54, 55, 56, 57, 95]) = wordB c := by decide
theorem sort_spec {c : Nat} (hc : c < 128) : wF L_sort [.str [c]] st (fun v st' => v = .str (sortN (kindN c)) ∧ st' = st) G0 := by
  have hw := word_in c hc
  have hu : ∀ st, fUpper (.str [97, 98, 99, 100, 101, 102, 103, 104, 105, 106, 107, 108, 109, 110, 111, 112, 113, 114, 115, 116, 117, 118, 119, 120, 121, 122]) [] st = some (.str [65, 66, 67, 68, 69, 70, 71, 72, 73, 74, 75, 76, 77, 78, 79, 80, 81, 82, 83, 84, 85, 86, 87, 88, 89, 90], st) := fun st => by
    rw [fUpper_str (by decide) (by decide), low_up]
  unfold L_sort ML_sort
  by_cases h0 : c = 32
  · subst h0
    simp [kindN, sortN]
  · have he : ∀ st, fEq (.str [c]) (.str [32]) st = some (.bl false, st) := fun st => by
      rw [fEq_str (by simpa using hc) (by simp)]
      simp [h0]
    have hin : ∀ st, fIn (.str [c]) (.str [97, 98, 99, 100, 101, 102, 103, 104, 105, 106, 107, 108, 109, 110, 111, 112, 113, 114, 115, 116, 117, 118, 119, 120, 121, 122, 65, 66, 67, 68, 69, 70, 71, 72, 73, 74, 75, 76, 77, 78, 79, 80, 81, 82, 83, 84, 85, 86, 87, 88, 89, 90, 48, 49, 50, 51, 52, 53, 54, 55, 56, 57, 95]) st = some (.bl (wordB c), st) := fun st => by
      rw [fIn_sign, hw]
    simp [he, hu, -fIn_sign, hin]
    unfold kindN
    rw [if_neg h0]
    cases wordB c <;> simp [sortN]
end
open MO
section
variable {ss : List (List Nat)} {st : Sto} {s : List Nat} {p : Pt}
/-! ### objects: what both the program and the law compute -/
def sgV (a b : Val) : Val := .tup [.str [115, 105, 103, 110, 115], a, b]
def rwV (a b : Val) : Val := .tup [.str [114, 111, 119, 115], a, b]
def blankB (s : List Nat) (i : Nat) : Bool := decide (s[i]? = some 32)
def kdP (s : List Nat) (c i : Nat) : Bool := decide (kd s i = kd s c)
def wordA (s : List Nat) (r c : Nat) (wide : Bool) : Val := if s.length ≤ c then .non else
  sgV (pl r (downW (kdP s c) c)) (pl r (if wide then upW (blankB s) (s.length - upW (kdP s c) (s.length - c) c) (upW (kdP s c) (s.length - c) c) else upW (kdP s c) (s.length - c) c))
theorem dec_nat (a b : Nat) : decide ((a : Int) = (b : Int)) = decide (a = b) := decide_eq_decide.mpr (by omega)
theorem word_spec (T : TOk ss) {r c : Nat} (hr : ss[r]? = some s) (hc : c ≤ s.length) {wide : Bool} : wF F_word_about [rowsV ss, pl r c, .bl wide] st (fun v st' => v = wordA s r c wide ∧ st' = st) G0 := by
  have hR := T.row hr
  have hz : s.length ≤ LINE := by simp only [LINE_def]; omega
  unfold F_word_about MF_word_about rowsV pl
  by_cases hlt : s.length ≤ c
  · have hlt' : (s.length : Int) ≤ c := by omega
    simp [and_assoc, row_at hr, row_len T hr, hlt, hlt', wordA]
  · have hlt' : ¬ (s.length : Int) ≤ c := by omega
    have hc2 : c < s.length := by omega
    simp [and_assoc, row_at hr, row_len T hr, hlt, hz, sign_at hc2, List.getElem?_eq_getElem hc2]
    refine (kind_of_spec (hR.2 _ (List.getElem_mem hc2))).mono ?_
    rintro v st1 ⟨rfl, rfl⟩
    rw [← kd_at hc2]
    simp [and_assoc]
    refine while_dn (S := fun i => [some (.tup (ss.map .str)), some (.tup [.int r, .int c]), some (.bl wide), some (.int (kd s c)), some (.str s), some (.int c), some (.int i), some (.int c)]) (p := kdP s c) (n := c) ?_ ?_ ?_
    · intro i st' hi hst
      by_cases h0 : 0 < i
      · have h0' : (0 : Int) < i := by omega
        have hi2 : i - 1 < s.length := by omega
        have hat : L2.atI s ((i : Int) - 1) = some s[i - 1] := by
          rw [atI_at (by omega) (by omega), ← List.getElem?_eq_getElem hi2]
          congr 1
          omega
        simp [h0, h0', hz, hat]
        refine (kind_of_spec (hR.2 _ (List.getElem_mem hi2))).mono ?_
        rintro v st2 ⟨rfl, rfl⟩
        rw [← kd_at hi2]
        simp [kdP, dec_nat, h0]
      · have h0' : ¬ (0 : Int) < i := by omega
        simp [h0, h0']
    · intro i st' hi hst
      simp
    · simp
      refine while_up (S := fun i => [some (.tup (ss.map .str)), some (.tup [.int r, .int c]), some (.bl wide), some (.int (kd s c)), some (.str s), some (.int c), some (.int (downW (kdP s c) c : Nat)), some (.int i)]) (p := kdP s c) (n := s.length) hc ?_ ?_ ?_
      · intro i st' hi hst
        by_cases h0 : i < s.length
        · simp [row_len T hr, h0, hz, sign_at h0, List.getElem?_eq_getElem h0]
          refine (kind_of_spec (hR.2 _ (List.getElem_mem h0))).mono ?_
          rintro v st2 ⟨rfl, rfl⟩
          rw [← kd_at h0]
          simp [kdP, dec_nat, h0]
        · simp [row_len T hr, h0]
      · intro i st' hi hst
        simp
      · have hu := upW_le (kdP s c) (s.length - c) c
        simp
        cases wide with
        | false =>
          refine wS_while (fun n sl st' => n = 0 ∧ sl = [some (.tup (ss.map .str)), some (.tup [.int r, .int c]), some (.bl false), some (.int (kd s c)), some (.str s), some (.int c), some (.int (downW (kdP s c) c : Nat)), some (.int (upW (kdP s c) (s.length - c) c : Nat))] ∧ st' = st1) 0 ⟨rfl, rfl, rfl⟩ ?_
          rintro n sl st' ⟨rfl, rfl, rfl⟩
          simp [wordA, hlt, sgV, pl]
        | true =>
          refine while_up (S := fun i => [some (.tup (ss.map .str)), some (.tup [.int r, .int c]), some (.bl true), some (.int (kd s c)), some (.str s), some (.int c), some (.int (downW (kdP s c) c : Nat)), some (.int i)]) (p := blankB s) (n := s.length) (by omega) ?_ ?_ ?_
          · intro i st' hi hst
            by_cases h0 : i < s.length
            · have := hR.2 _ (List.getElem_mem h0)
              simp [row_len T hr, h0, hz, sign_at h0, List.getElem?_eq_getElem h0, this, blankB]
            · simp [row_len T hr, h0]
          · intro i st' hi hst
            simp
          · simp [wordA, hlt, sgV, pl]
/-! the law's word -/
theorem eq_sort {a b : Nat} (ha : a ≤ 2) (hb : b ≤ 2) : fEq (.str (sortN a)) (.str (sortN b)) st = some (.bl (decide (a = b)), st) := by
  rw [fEq_str (sortN_128 a) (sortN_128 b)]
  congr 3
  rw [decide_eq_decide.mpr (sortN_inj ha hb)]
theorem kd_le (s : List Nat) (i : Nat) : kd s i ≤ 2 := kindN_le _
theorem lword_spec (T : TOk ss) {r c : Nat} (hr : ss[r]? = some s) (hc : c ≤ s.length) {wide : Bool} : wF L_word [rowsV ss, pl r c, .bl wide] st (fun v st' => v = wordA s r c wide ∧ st' = st) G0 := by
  have hR := T.row hr
  have hz : s.length ≤ LINE := by simp only [LINE_def]; omega
  unfold L_word ML_word rowsV pl
  by_cases hlt : s.length ≤ c
  · have hlt' : c = s.length := by omega
    subst hlt'
    simp [and_assoc, row_at hr, row_len T hr, wordA]
  · have hlt' : ¬ (c : Int) = s.length := by omega
    have hc2 : c < s.length := by omega
    have hup : upW (kdP s c) (s.length - c) c = upW (kdP s c) (s.length - (c + 1)) (c + 1) := by
      obtain ⟨m, hm⟩ : ∃ m, s.length - c = m + 1 := ⟨s.length - c - 1, by omega⟩
      rw [hm, show s.length - (c + 1) = m by omega]
      show (if kdP s c c then _ else _) = _
      rw [if_pos (by simp [kdP])]
    simp [and_assoc, row_at hr, row_len T hr, hlt']
    refine while_dn (S := fun i => [some (.tup (ss.map .str)), some (.tup [.int r, .int c]), some (.bl wide), some (.str s), some (.int c), some (.int i), some (.int ((c : Int) + 1))]) (p := kdP s c) (n := c) ?_ ?_ ?_
    · intro i st' hi hst
      by_cases h0 : 0 < i
      · have h0' : (0 : Int) < i := by omega
        have hi2 : i - 1 < s.length := by omega
        have hat : L2.atI s ((i : Int) - 1) = some s[i - 1] := by
          rw [atI_at (by omega) (by omega), ← List.getElem?_eq_getElem hi2]
          congr 1
          omega
        simp [h0, h0', hz, hat]
        refine (sort_spec (hR.2 _ (List.getElem_mem hi2))).mono ?_
        rintro v st2 ⟨rfl, rfl⟩
        simp [hz, sign_at hc2, List.getElem?_eq_getElem hc2]
        refine (sort_spec (hR.2 _ (List.getElem_mem hc2))).mono ?_
        rintro v st2 ⟨rfl, rfl⟩
        rw [← kd_at hi2, ← kd_at hc2, eq_sort (kd_le s _) (kd_le s _)]
        simp [kdP, h0]
      · have h0' : ¬ (0 : Int) < i := by omega
        simp [h0, h0']
    · intro i st' hi hst
      simp
    · simp
      have e1 : (c : Int) + 1 = ((c + 1 : Nat) : Int) := by omega
      rw [e1]
      refine while_up (S := fun i => [some (.tup (ss.map .str)), some (.tup [.int r, .int c]), some (.bl wide), some (.str s), some (.int c), some (.int (downW (kdP s c) c : Nat)), some (.int i)]) (p := kdP s c) (n := s.length) (i0 := c + 1) (by omega) ?_ ?_ ?_
      · intro i st' hi hst
        by_cases h0 : i < s.length
        · simp [row_len T hr, h0, hz, sign_at h0, List.getElem?_eq_getElem h0]
          refine (sort_spec (hR.2 _ (List.getElem_mem h0))).mono ?_
          rintro v st2 ⟨rfl, rfl⟩
          simp [hz, sign_at hc2, List.getElem?_eq_getElem hc2]
          refine (sort_spec (hR.2 _ (List.getElem_mem hc2))).mono ?_
          rintro v st2 ⟨rfl, rfl⟩
          rw [← kd_at h0, ← kd_at hc2, eq_sort (kd_le s _) (kd_le s _)]
          simp [kdP, h0]
        · simp [row_len T hr, h0]
      · intro i st' hi hst
        simp
      · rw [← hup]
        have hu := upW_le (kdP s c) (s.length - c) c
        simp
        cases wide with
        | false =>
          refine wS_while (fun n sl st' => n = 0 ∧ sl = [some (.tup (ss.map .str)), some (.tup [.int r, .int c]), some (.bl false), some (.str s), some (.int c), some (.int (downW (kdP s c) c : Nat)), some (.int (upW (kdP s c) (s.length - c) c : Nat))] ∧ st' = st) 0 ⟨rfl, rfl, rfl⟩ ?_
          rintro n sl st' ⟨rfl, rfl, rfl⟩
          simp [wordA, hlt, sgV, pl]
        | true =>
          refine while_up (S := fun i => [some (.tup (ss.map .str)), some (.tup [.int r, .int c]), some (.bl true), some (.str s), some (.int c), some (.int (downW (kdP s c) c : Nat)), some (.int i)]) (p := blankB s) (n := s.length) (by omega) ?_ ?_ ?_
          · intro i st' hi hst
            by_cases h0 : i < s.length
            · have := hR.2 _ (List.getElem_mem h0)
              simp [row_len T hr, h0, hz, sign_at h0, List.getElem?_eq_getElem h0, this, blankB]
            · simp [row_len T hr, h0]
          · intro i st' hi hst
            simp
          · simp [wordA, hlt, sgV, pl]
/-! rows -/
def emB (ss : List (List Nat)) (i : Nat) : Bool := decide (ss[i]? = some [])
def emP (ss : List (List Nat)) (r i : Nat) : Bool := emB ss i == emB ss r
def upR (ss : List (List Nat)) (r : Nat) : Nat := upW (fun i => emP ss r (i + 1)) (ss.length - 1 - r) r
def rowsA (ss : List (List Nat)) (r : Nat) (wide : Bool) : Val :=
  rwV (pl (downW (emP ss r) r) 0) (pl (if wide && !emB ss r then upW (fun i => emB ss (i + 1)) (ss.length - 1 - upR ss r) (upR ss r) else upR ss r)
    (rowOf ss (if wide && !emB ss r then upW (fun i => emB ss (i + 1)) (ss.length - 1 - upR ss r) (upR ss r) else upR ss r)).length)
theorem em_eq (T : TOk ss) {i : Nat} {t : List Nat} (h : ss[i]? = some t) (st : Sto) : fEq (.str t) (.str []) st = some (.bl (emB ss i), st) := by
  rw [fEq_str (T.row h).2 (by simp)]
  unfold emB
  rw [h]
  simp
theorem rows_spec (T : TOk ss) {r c : Nat} (hr : ss[r]? = some s) {wide : Bool} : wF F_rows_about [rowsV ss, pl r c, .bl wide] st (fun v st' => v = rowsA ss r wide ∧ st' = st) G0 := by
  have hl := (List.getElem?_eq_some_iff.mp hr).1
  have ex : ∀ i : Nat, i < ss.length → ∃ t, ss[i]? = some t := fun i h => ⟨_, List.getElem?_eq_getElem h⟩
  unfold F_rows_about MF_rows_about rowsV pl
  simp [and_assoc, row_at hr, em_eq T hr]
  refine while_dn (S := fun i => [some (.tup (ss.map .str)), some (.tup [.int r, .int c]), some (.bl wide), some (.bl (emB ss r)), some (.int i), some (.int r)]) (p := emP ss r) (n := r) ?_ ?_ ?_
  · intro i st' hi hst
    by_cases h0 : 0 < i
    · have h0' : (0 : Int) < i := by omega
      obtain ⟨t, ht⟩ := ex (i - 1) (by omega)
      have e1 : (i : Int) - 1 = ((i - 1 : Nat) : Int) := by omega
      simp [h0, h0']
      rw [e1, row_at ht]
      simp [em_eq T ht, emP, h0]
    · have h0' : ¬ (0 : Int) < i := by omega
      simp [h0, h0']
  · intro i st' hi hst
    simp
  · simp
    refine while_up (S := fun i => [some (.tup (ss.map .str)), some (.tup [.int r, .int c]), some (.bl wide), some (.bl (emB ss r)), some (.int (downW (emP ss r) r : Nat)), some (.int i)]) (p := fun i => emP ss r (i + 1)) (n := ss.length - 1) (i0 := r) (by omega) ?_ ?_ ?_
    · intro i st' hi hst
      have e1 : (i : Int) + 1 = ((i + 1 : Nat) : Int) := by omega
      by_cases h0 : i < ss.length - 1
      · have h0' : (i : Int) + 1 < ss.length := by omega
        obtain ⟨t, ht⟩ := ex (i + 1) (by omega)
        simp [h0, h0']
        rw [e1, row_at ht]
        simp [em_eq T ht, emP, h0]
      · have h0' : ¬ (i : Int) + 1 < ss.length := by omega
        simp [h0, h0']
    · intro i st' hi hst
      simp
    · have hu := upW_le (fun i => emP ss r (i + 1)) (ss.length - 1 - r) r
      have fin : ∀ (k : Nat) st', st' = st → k < ss.length → k = (if wide && !emB ss r then upW (fun i => emB ss (i + 1)) (ss.length - 1 - upR ss r) (upR ss r) else upR ss r) →
          wS (fRet (fTup (fCons (fC (.str [114, 111, 119, 115])) (fCons (fTup (fCons (fVar 4) (fCons (fC (.int 0)) fNil))) (fCons (fTup (fCons (fVar 5) (fCons (fCall fLen (fCons (fOp fIx (fVar 0) (fVar 5)) fNil)) fNil))) fNil)))))
          [some (.tup (ss.map .str)), some (.tup [.int r, .int c]), some (.bl wide), some (.bl (emB ss r)), some (.int (downW (emP ss r) r : Nat)), some (.int k)] st' (finP (fun v st' => v = rowsA ss r wide ∧ st' = st) G0) := by
        intro k st' e hk hk2
        subst e
        obtain ⟨t, ht⟩ := ex k hk
        have e2 := rowOf_eq ht
        have hv : rowsA ss r wide = rwV (pl (downW (emP ss r) r) 0) (pl k (rowOf ss k).length) := by
          unfold rowsA
          rw [← hk2]
        rw [hv]
        simp [row_at ht, row_len T ht, rwV, pl, e2]
      simp only [sqP_nx, wS_seq]
      by_cases hw : (wide && !emB ss r) = true
      · have hw1 : wide = true := by revert hw; cases wide <;> simp
        have hw2 : emB ss r = false := by revert hw; cases emB ss r <;> simp
        refine while_up (S := fun i => [some (.tup (ss.map .str)), some (.tup [.int r, .int c]), some (.bl wide), some (.bl (emB ss r)), some (.int (downW (emP ss r) r : Nat)), some (.int i)]) (p := fun i => emB ss (i + 1)) (n := ss.length - 1) (i0 := upR ss r) (by unfold upR; omega) ?_ ?_ ?_
        · intro i st' hi hst
          have e1 : (i : Int) + 1 = ((i + 1 : Nat) : Int) := by omega
          by_cases h0 : i < ss.length - 1
          · have h0' : (i : Int) + 1 < ss.length := by omega
            obtain ⟨t, ht⟩ := ex (i + 1) (by omega)
            simp [h0, h0', hw1, hw2]
            rw [e1, row_at ht]
            simp [em_eq T ht, h0]
          · have h0' : ¬ (i : Int) + 1 < ss.length := by omega
            simp [h0, h0', hw1, hw2]
        · intro i st' hi hst
          simp
        · have hu2 := upW_le (fun i => emB ss (i + 1)) (ss.length - 1 - upR ss r) (upR ss r)
          have hu3 : upR ss r ≤ ss.length - 1 := by unfold upR; omega
          rw [sqP_nx]
          exact fin _ _ rfl (by omega) (by rw [if_pos hw])
      · refine wS_while (fun n sl st' => n = 0 ∧ sl = [some (.tup (ss.map .str)), some (.tup [.int r, .int c]), some (.bl wide), some (.bl (emB ss r)), some (.int (downW (emP ss r) r : Nat)), some (.int (upR ss r : Nat))] ∧ st' = st) 0 ⟨rfl, rfl, rfl⟩ ?_
        rintro n sl st' ⟨rfl, rfl, rfl⟩
        have hu3 : upR ss r ≤ ss.length - 1 := by unfold upR; omega
        have hf := fin (upR ss r) st' rfl (by omega) (by rw [if_neg hw])
        cases hwd : wide with
        | false =>
          subst hwd
          simp only [wX_And, wX_B, wX_var]
          refine ⟨_, rfl, _, rfl, ?_⟩
          simpa using hf
        | true =>
          subst hwd
          have he : emB ss r = true := by revert hw; cases emB ss r <;> simp
          simp only [wX_And, wX_B, wX_var]
          refine ⟨_, rfl, _, rfl, ?_⟩
          simp only [if_true, wX_And, wX_Not, wX_B, wX_var]
          refine ⟨_, rfl, _, rfl, ?_⟩
          rw [he] at hf ⊢
          simpa using hf
def bares (ss : List (List Nat)) : List Val := ss.map fun t => .bl (decide (t = []))
theorem bares_at {i : Nat} (h : i < ss.length) : L2.atI (bares ss) (i : Int) = some (.bl (emB ss i)) := by
  have hl : (bares ss).length = ss.length := by simp [bares]
  rw [atI_at (by omega) (by omega), Int.toNat_natCast]
  unfold bares emB
  rw [List.getElem?_map, List.getElem?_eq_getElem h]
  simp
theorem lrows_loops (T : TOk ss) {r c q : Nat} (hr : ss[r]? = some s) {wide : Bool} (hq : st[q]? = some (.lst (bares ss))) :
    wS (fSeq (fPar 4 5 (fCons (fOp fIx (fVar 1) (fC (.int 0))) (fCons (fOp fIx (fVar 1) (fC (.int 0))) fNil)))
  (fSeq (fWhile (fAnd (fB (fOp fGt (fVar 4) (fC (.int 0)))) (fB (fOp fEq (fOp fIx (fVar 3) (fOp fSub (fVar 4) (fC (.int 1)))) (fOp fIx (fVar 3) (fOp fIx (fVar 1) (fC (.int 0))))))) (fSet 4 (fOp fSub (fVar 4) (fC (.int 1)))))
  (fSeq (fWhile (fAnd (fB (fOp fLt (fOp fAdd (fVar 5) (fC (.int 1))) (fCall fLen (fCons (fVar 0) fNil)))) (fB (fOp fEq (fOp fIx (fVar 3) (fOp fAdd (fVar 5) (fC (.int 1)))) (fOp fIx (fVar 3) (fOp fIx (fVar 1) (fC (.int 0))))))) (fSet 5 (fOp fAdd (fVar 5) (fC (.int 1)))))
  (fSeq (fWhile (fAnd (fB (fVar 2)) (fAnd (fB (fOp fLt (fOp fAdd (fVar 5) (fC (.int 1))) (fCall fLen (fCons (fVar 0) fNil)))) (fAnd (fB (fOp fIx (fVar 3) (fOp fAdd (fVar 5) (fC (.int 1))))) (fNot (fB (fOp fIx (fVar 3) (fOp fIx (fVar 1) (fC (.int 0))))))))) (fSet 5 (fOp fAdd (fVar 5) (fC (.int 1)))))
  (fRet (fTup (fCons (fC (.str [114, 111, 119, 115])) (fCons (fTup (fCons (fVar 4) (fCons (fC (.int 0)) fNil))) (fCons (fTup (fCons (fVar 5) (fCons (fCall fLen (fCons (fOp fIx (fVar 0) (fVar 5)) fNil)) fNil))) fNil)))))))))
    [some (.tup (ss.map .str)), some (.tup [.int r, .int c]), some (.bl wide), some (.ref q), none, none, none] st (finP (fun v st' => v = rowsA ss r wide ∧ st' = st) G0) := by
  have hl := (List.getElem?_eq_some_iff.mp hr).1
  have ex : ∀ i : Nat, i < ss.length → ∃ t, ss[i]? = some t := fun i h => ⟨_, List.getElem?_eq_getElem h⟩
  have hbr := bares_at (ss := ss) hl
  simp [and_assoc]
  refine while_dn (S := fun i => [some (.tup (ss.map .str)), some (.tup [.int r, .int c]), some (.bl wide), some (.ref q), some (.int i), some (.int r), none]) (p := emP ss r) (n := r) ?_ ?_ ?_
  · intro i st' hi hst
    subst hst
    by_cases h0 : 0 < i
    · have h0' : (0 : Int) < i := by omega
      have e1 : (i : Int) - 1 = ((i - 1 : Nat) : Int) := by omega
      have hb := bares_at (ss := ss) (i := i - 1) (by omega)
      rw [← e1] at hb
      simp [h0, h0', hq, hb, hbr, emP]
    · have h0' : ¬ (0 : Int) < i := by omega
      simp [h0, h0']
  · intro i st' hi hst
    simp
  · simp
    refine while_up (S := fun i => [some (.tup (ss.map .str)), some (.tup [.int r, .int c]), some (.bl wide), some (.ref q), some (.int (downW (emP ss r) r : Nat)), some (.int i), none]) (p := fun i => emP ss r (i + 1)) (n := ss.length - 1) (i0 := r) (by omega) ?_ ?_ ?_
    · intro i st' hi hst
      subst hst
      by_cases h0 : i < ss.length - 1
      · have h0' : (i : Int) + 1 < ss.length := by omega
        have e1 : (i : Int) + 1 = ((i + 1 : Nat) : Int) := by omega
        have hb := bares_at (ss := ss) (i := i + 1) (by omega)
        rw [← e1] at hb
        simp [h0, h0', hq, hb, hbr, emP]
      · have h0' : ¬ (i : Int) + 1 < ss.length := by omega
        simp [h0, h0']
    · intro i st' hi hst
      simp
    · have hu := upW_le (fun i => emP ss r (i + 1)) (ss.length - 1 - r) r
      have fin : ∀ (k : Nat) st', st' = st → k < ss.length → k = (if wide && !emB ss r then upW (fun i => emB ss (i + 1)) (ss.length - 1 - upR ss r) (upR ss r) else upR ss r) →
          wS (fRet (fTup (fCons (fC (.str [114, 111, 119, 115])) (fCons (fTup (fCons (fVar 4) (fCons (fC (.int 0)) fNil))) (fCons (fTup (fCons (fVar 5) (fCons (fCall fLen (fCons (fOp fIx (fVar 0) (fVar 5)) fNil)) fNil))) fNil)))))
          [some (.tup (ss.map .str)), some (.tup [.int r, .int c]), some (.bl wide), some (.ref q), some (.int (downW (emP ss r) r : Nat)), some (.int k), none] st' (finP (fun v st' => v = rowsA ss r wide ∧ st' = st) G0) := by
        intro k st' e hk hk2
        subst e
        obtain ⟨t, ht⟩ := ex k hk
        have e2 := rowOf_eq ht
        have hv : rowsA ss r wide = rwV (pl (downW (emP ss r) r) 0) (pl k (rowOf ss k).length) := by
          unfold rowsA
          rw [← hk2]
        rw [hv]
        simp [row_at ht, row_len T ht, rwV, pl, e2]
      simp only [sqP_nx, wS_seq]
      by_cases hw : (wide && !emB ss r) = true
      · have hw1 : wide = true := by revert hw; cases wide <;> simp
        have hw2 : emB ss r = false := by revert hw; cases emB ss r <;> simp
        refine while_up (S := fun i => [some (.tup (ss.map .str)), some (.tup [.int r, .int c]), some (.bl wide), some (.ref q), some (.int (downW (emP ss r) r : Nat)), some (.int i), none]) (p := fun i => emB ss (i + 1)) (n := ss.length - 1) (i0 := upR ss r) (by unfold upR; omega) ?_ ?_ ?_
        · intro i st' hi hst
          subst hst
          by_cases h0 : i < ss.length - 1
          · have h0' : (i : Int) + 1 < ss.length := by omega
            have e1 : (i : Int) + 1 = ((i + 1 : Nat) : Int) := by omega
            have hb := bares_at (ss := ss) (i := i + 1) (by omega)
            rw [← e1] at hb
            cases hbb : emB ss (i + 1) <;> simp [h0, h0', hq, hb, hbr, hw1, hw2, hbb]
          · have h0' : ¬ (i : Int) + 1 < ss.length := by omega
            simp [h0, h0', hw1]
        · intro i st' hi hst
          simp
        · have hu2 := upW_le (fun i => emB ss (i + 1)) (ss.length - 1 - upR ss r) (upR ss r)
          have hu3 : upR ss r ≤ ss.length - 1 := by unfold upR; omega
          rw [sqP_nx]
          exact fin _ _ rfl (by omega) (by rw [if_pos hw])
      · refine wS_while (fun n sl st' => n = 0 ∧ sl = [some (.tup (ss.map .str)), some (.tup [.int r, .int c]), some (.bl wide), some (.ref q), some (.int (downW (emP ss r) r : Nat)), some (.int (upR ss r : Nat)), none] ∧ st' = st) 0 ⟨rfl, rfl, rfl⟩ ?_
        rintro n sl st' ⟨rfl, rfl, rfl⟩
        have hu3 : upR ss r ≤ ss.length - 1 := by unfold upR; omega
        have hf := fin (upR ss r) st' rfl (by omega) (by rw [if_neg hw])
        cases hwd : wide with
        | false =>
          subst hwd
          simp only [wX_And, wX_B, wX_var]
          refine ⟨_, rfl, _, rfl, ?_⟩
          simpa using hf
        | true =>
          subst hwd
          have he : emB ss r = true := by revert hw; cases emB ss r <;> simp
          simp only [wX_And, wX_B, wX_var]
          refine ⟨_, rfl, _, rfl, ?_⟩
          by_cases h0 : upR ss r < ss.length - 1
          · have h0' : (upR ss r : Int) + 1 < ss.length := by omega
            have e1 : (upR ss r : Int) + 1 = ((upR ss r + 1 : Nat) : Int) := by omega
            have hb := bares_at (ss := ss) (i := upR ss r + 1) (by omega)
            rw [← e1] at hb
            cases hbb : emB ss (upR ss r + 1) <;> simp [h0', hq, hb, hbr, he, hbb] <;> simpa using hf
          · have h0' : ¬ (upR ss r : Int) + 1 < ss.length := by omega
            simp [h0']
            simpa using hf
def emV : Val → Val
  | .str [] => .bl true
  | _ => .bl false
theorem emV_str (t : List Nat) : emV (.str t) = .bl (decide (t = [])) := by cases t <;> rfl
theorem lrows_spec (T : TOk ss) {r c : Nat} (hr : ss[r]? = some s) {wide : Bool} : wF L_rows [rowsV ss, pl r c, .bl wide] st (fun v st' => v = rowsA ss r wide ∧ Ap st st') G0 := by
  have hT := T.2.1
  unfold L_rows ML_rows rowsV pl
  rw [wF_iff]
  refine ⟨rfl, ?_⟩
  rw [wS_seq, wS_set]
  refine wX_lc ?_
  simp only [wX_it, wX_var]
  refine ⟨_, rfl, _, asIt_tup, ?_⟩
  refine LcOb.fm (fun _ => true) emV (by simp; omega) (fun _ _ => live_none) ?_ ?_
  · intro x hx st1 a1
    obtain ⟨t, ht, rfl⟩ := List.mem_map.mp hx
    simp [Ap.refl]
    rw [fEq_str (T.2.2 t ht).2 (by simp)]
    simp [Ap.refl, emV_str]
  · intro st' a
    have e : (((ss.map Val.str).filter fun _ => true).map emV) = bares ss := by
      rw [filter_all (fun _ _ => rfl), List.map_map]
      unfold bares
      exact List.map_congr_left fun t _ => emV_str t
    rw [show (Itb.mk (ss.map Val.str) .none).items = ss.map Val.str from rfl, e]
    simp only [sqP_nx]
    refine (lrows_loops (c := c) T hr (q := st'.length) (st := st' ++ [.lst (bares ss)]) (wide := wide) (by simp)).mono ?_
    intro rr hrr
    cases rr with
    | rt v st2 =>
      obtain ⟨h1, rfl⟩ := hrr
      exact ⟨h1, a.trans (Ap.one _ _)⟩
    | nx sl st2 =>
      obtain ⟨h1, rfl⟩ := hrr
      exact ⟨h1, a.trans (Ap.one _ _)⟩
    | _ => exact hrr.elim
end
open MO
section
variable {ss : List (List Nat)} {st : Sto} {s : List Nat} {p : Pt}
/-! ### what is quoted -/
def quB (s : List Nat) (k : Nat) : Bool := decide (s[k]? = some 34)
def qus (s : List Nat) : List Nat := (List.range s.length).filter (quB s)
def hitQ (c : Nat) (q : Nat × Nat) : Bool := decide (q.1 ≤ c) && decide (c ≤ q.2)
def quoV (r : Nat) (wide : Bool) : Option (Nat × Nat) → Val
  | none => .non
  | some q => if wide then sgV (pl r q.1) (pl r (q.2 + 1)) else sgV (pl r (q.1 + 1)) (pl r q.2)
def quoA (s : List Nat) (r c : Nat) (wide : Bool) : Val := quoV r wide ((pairs2 (qus s)).find? (hitQ c))
theorem qus_len (s : List Nat) : (qus s).length ≤ s.length := by
  unfold qus
  have := List.length_filter_le (quB s) (List.range s.length)
  rwa [List.length_range] at this
theorem drop_find {α : Type} {l : List α} {h : α → Bool} {i : Nat} {x : α} (hx : l[i]? = some x) : (l.drop i).find? h = if h x then some x else (l.drop (i + 1)).find? h := by
  obtain ⟨hi, rfl⟩ := List.getElem?_eq_some_iff.mp hx
  rw [List.drop_eq_getElem_cons hi, List.find?_cons]
  cases h l[i] <;> rfl
theorem quoted_spec (T : TOk ss) {r c : Nat} (hr : ss[r]? = some s) (hc : c ≤ s.length) {wide : Bool} : wF F_quoted_about [rowsV ss, pl r c, .bl wide] st (fun v st' => v = quoA s r c wide ∧ Ap st st') G0 := by
  have hR := T.row hr
  have hz : s.length ≤ LINE := by simp only [LINE_def]; omega
  unfold F_quoted_about MF_quoted_about rowsV pl
  simp [row_at hr]
  refine wX_lc ?_
  simp
  refine ⟨by simp [enumV_len]; omega, fun i acc st' => acc = ((List.range i).filter (quB s)).map iv ∧ st' = st, ⟨by simp, rfl⟩, fun _ _ _ _ _ => live_none, ?_, ?_⟩
  · rintro i x acc st1 hx ⟨rfl, rfl⟩
    obtain ⟨y, hy, rfl⟩ := enumV_at hx
    rw [List.getElem?_map] at hy
    obtain ⟨c0, hc0, rfl⟩ := Option.map_eq_some_iff.mp hy
    have h128 := hR.2 c0 (List.mem_of_getElem? hc0)
    simp [and_assoc, h128]
    have hq : quB s i = decide (c0 = 34) := by
      unfold quB
      rw [hc0]
      simp
    rw [rng_take, hq]
    by_cases h0 : c0 = 34
    · simp [h0, iv]
    · simp [h0]
  · rintro acc st1 ⟨rfl, rfl⟩
    have e0 : ((List.range (Itb.mk (enumV (s.map fun c => Val.str [c])) .none).items.length).filter (quB s)) = qus s := by simp [qus, enumV_len]
    rw [e0]
    refine wS_for ?_
    have e1 : pickG ((qus s).map iv) none 2 = (evens (qus s)).map iv := by rw [pick_map, pick_evens]
    have e2 : pickG ((qus s).map iv) (some 1) 2 = (odds (qus s)).map iv := by rw [pick_map, pick_odds]
    have e3 : zipV ((evens (qus s)).map iv) ((odds (qus s)).map iv) = (pairs2 (qus s)).map fun q => .tup [iv q.1, iv q.2] := by
      unfold zipV
      rw [List.zip_map, zip_pairs, List.map_map]
      rfl
    have hq := qus_len s
    simp [e1, e2, e3]
    refine ⟨st1.length + 1, st1.length + 2, ⟨rfl, rfl⟩, (evens (qus s)).map iv, by simp, (odds (qus s)).map iv, by simp, ?_⟩
    rw [e3]
    refine ⟨fun i sl st' => (∃ a b d e, sl = [some (.tup (ss.map .str)), some (.tup [.int r, .int c]), some (.bl wide), some (.str s), some (.ref st1.length), a, b, d, e]) ∧ st' = st1 ++ [Ob.lst ((qus s).map iv), Ob.lst ((evens (qus s)).map iv), Ob.lst ((odds (qus s)).map iv)] ∧ ((pairs2 (qus s)).drop i).find? (hitQ c) = (pairs2 (qus s)).find? (hitQ c), ⟨⟨_, _, _, _, rfl⟩, rfl, rfl⟩, ?_, ?_, ?_⟩
    · rintro i sl st2 _ ⟨_, rfl, _⟩
      exact ⟨by simp, by simp⟩
    · rintro i x sl st2 hx ⟨⟨a, b, d, e, rfl⟩, rfl, hf⟩
      rw [List.getElem?_map] at hx
      obtain ⟨q, hq1, rfl⟩ := Option.map_eq_some_iff.mp hx
      rw [drop_find hq1] at hf
      simp [and_assoc, iv]
      by_cases h1 : q.1 ≤ c
      · by_cases h2 : c ≤ q.2
        · have hh : hitQ c q = true := by simp [hitQ, h1, h2]
          rw [if_pos hh] at hf
          have hv : quoA s r c wide = quoV r wide (some q) := by
            unfold quoA
            rw [← hf]
          cases wide <;> simp [h1, h2, hv, quoV, sgV, pl] <;> exact ⟨_, rfl⟩
        · have hh : hitQ c q = false := by simp [hitQ, h2]
          rw [if_neg (by rw [hh]; decide)] at hf
          simp [h1, h2]
          exact hf
      · have hh : hitQ c q = false := by simp [hitQ, h1]
        rw [if_neg (by rw [hh]; decide)] at hf
        simp [h1]
        exact hf
    · rintro sl st2 ⟨⟨a, b, d, e, rfl⟩, rfl, hf⟩
      have hv : quoA s r c wide = .non := by
        unfold quoA
        rw [← hf, List.drop_of_length_le (by simp)]
        rfl
      simp [hv]
      exact ⟨_, rfl⟩
theorem rsize_two (n : Nat) : (Builtin.Range.rangeSize 0 ((n : Int) - 1) 2).toNat = n / 2 := by
  unfold Builtin.Range.rangeSize
  simp only [show ((2 : Int) > 0) = True by simp, if_true]
  split <;> omega
theorem lquote_spec (T : TOk ss) {r c : Nat} (hr : ss[r]? = some s) (hc : c ≤ s.length) {wide : Bool} : wF L_quote [rowsV ss, pl r c, .bl wide] st (fun v st' => v = quoA s r c wide ∧ Ap st st') G0 := by
  have hR := T.row hr
  have hz : s.length ≤ LINE := by simp only [LINE_def]; omega
  have hm : small62 (s.length : Int) := by unfold small62; omega
  have hq := qus_len s
  unfold L_quote ML_quote rowsV pl
  simp [row_at hr]
  refine sign_lc (lo := 0) (n := s.length) (p := quB s) (by omega) (by simp [row_len T hr, hm]) (by simp) ?_ ?_
  · intro k _ hk st'
    have hk : k < s.length := by omega
    have hk2 := hR.2 _ (List.getElem_mem hk)
    simp [fIx_str hz, sign_at hk, List.getElem?_eq_getElem hk, hk2, quB]
  · intro st' a
    have e0 : (List.range' 0 s.length).filter (quB s) = qus s := by unfold qus; rw [List.range_eq_range']
    rw [e0]
    have hg : (st' ++ [Ob.lst ((qus s).map iv)])[st'.length]? = some (.lst ((qus s).map iv)) := by simp
    simp
    refine wS_for ?_
    simp [and_assoc]
    have hok : okC 0 ((qus s).length - 1) 2 = true := okC_two (by omega) (by omega)
    refine ⟨hok, ?_⟩
    rw [rsize_two]
    refine ⟨fun i sl st2 => (∃ a b d, sl = [some (.tup (ss.map .str)), some (.tup [.int r, .int c]), some (.bl wide), some (.str s), some (.ref st'.length), a, b, d]) ∧ st2 = st' ++ [Ob.lst ((qus s).map iv)] ∧ ((pairs2 (qus s)).drop i).find? (hitQ c) = (pairs2 (qus s)).find? (hitQ c), ⟨⟨_, _, _, rfl⟩, rfl, rfl⟩, fun _ _ _ _ _ => live_none, ?_, ?_⟩
    · rintro i x sl st2 hx ⟨⟨a', b, d, rfl⟩, rfl, hf⟩
      obtain ⟨hi, rfl⟩ := rngC_get hx
      have hi2 : i < (pairs2 (qus s)).length := by rw [pairs2_len]; exact hi
      obtain ⟨q, hq1⟩ : ∃ q, (pairs2 (qus s))[i]? = some q := ⟨_, List.getElem?_eq_getElem hi2⟩
      obtain ⟨g1, g2⟩ := pairs2_at _ _ _ hq1
      rw [drop_find hq1] at hf
      have e1 : (0 : Int) + (i : Int) * 2 = ((2 * i : Nat) : Int) := by omega
      have h1 : L2.atI ((qus s).map iv) ((i : Int) * 2) = some (iv q.1) := by
        rw [show (i : Int) * 2 = ((2 * i : Nat) : Int) by omega, atI_at (by omega) (by simp; have := (List.getElem?_eq_some_iff.mp g1).1; omega), Int.toNat_natCast, List.getElem?_map, g1]
        rfl
      have h2 : L2.atI ((qus s).map iv) ((i : Int) * 2 + 1) = some (iv q.2) := by
        rw [show (i : Int) * 2 + 1 = ((2 * i + 1 : Nat) : Int) by omega, atI_at (by omega) (by simp; have := (List.getElem?_eq_some_iff.mp g2).1; omega), Int.toNat_natCast, List.getElem?_map, g2]
        rfl
      simp [hg, h1, h2, iv]
      by_cases c1 : q.1 ≤ c
      · by_cases c2 : c ≤ q.2
        · have hh : hitQ c q = true := by simp [hitQ, c1, c2]
          rw [if_pos hh] at hf
          have hv : quoA s r c wide = quoV r wide (some q) := by
            unfold quoA
            rw [← hf]
          cases wide <;> simp [c1, c2, hv, quoV, sgV, pl, hg, h1, h2, iv] <;> first | exact a.trans ⟨_, rfl⟩ | exact ⟨by omega, a.trans ⟨_, rfl⟩⟩
        · have hh : hitQ c q = false := by simp [hitQ, c2]
          rw [if_neg (by rw [hh]; decide)] at hf
          simp [c1, c2, hg, h1, h2, iv]
          exact hf
      · have hh : hitQ c q = false := by simp [hitQ, c1]
        rw [if_neg (by rw [hh]; decide)] at hf
        simp [c1]
        exact hf
    · rintro sl st2 ⟨⟨a', b, d, rfl⟩, rfl, hf⟩
      have hv : quoA s r c wide = .non := by
        unfold quoA
        rw [← hf, List.drop_of_length_le (by rw [pairs2_len]; simp)]
        rfl
      simp [hv]
      exact a.trans ⟨_, rfl⟩
end
open MO
section
variable {ss : List (List Nat)} {st : Sto} {s : List Nat} {p : Pt}
/-! ### round brackets -/
def brkV (ss : List (List Nat)) (wide : Bool) : Option Pt → Val
  | none => .non
  | some o => match partP ss o with
    | none => .non
    | some c => if wide then sgV (pq o) (pl c.1 (c.2 + 1)) else sgV (pl o.1 (o.2 + 1)) (pq c)
def brkA (ss : List (List Nat)) (p : Pt) (wide : Bool) : Val := brkV ss wide (hugO ss p)
theorem pq_le (p q : Pt) : fLe (pq p) (pq q) st = some (.bl (leP p q), st) := by
  show some (Val.bl (decide ((p.1 : Int) < (q.1 : Int) ∨ (p.1 : Int) = (q.1 : Int) ∧ (p.2 : Int) ≤ (q.2 : Int))), st) = _
  have e : leP p q = decide (p.1 < q.1 ∨ p.1 = q.1 ∧ p.2 ≤ q.2) := by
    unfold leP ltp
    rw [← decide_not]
    exact decide_eq_decide.mpr (by omega)
  rw [e]
  exact congrArg (fun b => some (Val.bl b, st)) (decide_eq_decide.mpr (by omega))
theorem pq_ge (p q : Pt) : fGe (pq p) (pq q) st = some (.bl (leP q p), st) := pq_le q p
def sgnI : Val → Nat
  | .tup [_, .str [c]] => c
  | _ => 0
theorem enumV_rng (s : List Nat) : enumV (s.map fun c => Val.str [c]) = (List.range s.length).map fun k => .tup [.int k, .str [s[k]?.getD 0]] := by
  refine List.ext_getElem? fun i => ?_
  unfold enumV
  rw [List.getElem?_map, List.getElem?_zipIdx, List.getElem?_map, List.getElem?_map]
  by_cases h : i < s.length
  · rw [List.getElem?_range h, List.getElem?_eq_getElem h]
    simp [h]
  · rw [List.getElem?_eq_none (by omega), List.getElem?_eq_none (by simp; omega)]
    rfl
def opnR (s : List Nat) : List Nat := (List.range s.length).filter fun k => decide (s[k]? = some 40)
theorem flat_opens (ss : List (List Nat)) : (((enumV (ss.map Val.str)).filter fun _ => true).flatMap fun x => ((enumV ((rowS x).map fun c => Val.str [c])).filter fun y => decide (sgnI y = 40)).map fun y => pl (rowI x) (rowI y)) = (rowsF opnR ss).map pq := by
  rw [filter_all (fun _ _ => rfl), enumV_rows, List.flatMap_map]
  rw [show (rowsF opnR ss).map pq = _ from (flat_rows opnR ss 0).symm]
  congr 1
  funext q
  show ((enumV (q.1.map fun c => Val.str [c])).filter fun y => decide (sgnI y = 40)).map (fun y => pl ((q.2 : Int)).toNat (rowI y)) = _
  rw [enumV_rng, List.filter_map, List.map_map, Int.toNat_natCast]
  unfold opnR
  have : ((List.range q.1.length).filter ((fun y => decide (sgnI y = 40)) ∘ fun k => Val.tup [.int (k : Nat), .str [q.1[k]?.getD 0]])) = (List.range q.1.length).filter fun k => decide (q.1[k]? = some 40) := by
    refine List.filter_congr fun k hk => ?_
    rw [List.mem_range] at hk
    rw [List.getElem?_eq_getElem hk]
    simp [sgnI, hk]
  rw [this]
  refine List.map_congr_left fun k _ => ?_
  show pl q.2 ((k : Int)).toNat = _
  rw [Int.toNat_natCast]
theorem opens_rows (ss : List (List Nat)) : opensP ss = rowsF opnR ss := by
  unfold opensP allP rowsF
  refine rowsG_filter (g := allR) (fun i j => decide (sgn ss (i, j) = 40)) ss 0 fun i s hs => ?_
  unfold allR opnR
  refine List.filter_congr fun k hk => ?_
  rw [List.mem_range] at hk
  have hg := sgn_eq (ss := ss) (p := (0 + i, k)) (s := s) (by rw [Nat.zero_add]; exact hs) hk
  rw [hg, List.getElem?_eq_getElem hk]
  simp
theorem len_o (s : List Nat) : (opnR s).length ≤ s.length := by
  unfold opnR
  have := List.length_filter_le (fun k => decide (s[k]? = some 40)) (List.range s.length)
  rwa [List.length_range] at this
theorem allP_ok {q : Pt} (h : q ∈ allP ss) : POk ss q.1 q.2 := by
  obtain ⟨s, h1, h2⟩ := mem_all.mp h
  exact ⟨s, h1, by omega⟩
theorem brackets_spec (T : TOk ss) {wide : Bool} : wF F_brackets_about [rowsV ss, pq p, .bl wide] st (fun v st' => v = brkA ss p wide ∧ Ap st st') G0 := by
  have hT := T.2.1
  have hlo := lensN T len_o
  unfold F_brackets_about MF_brackets_about rowsV
  simp
  refine wX_lc2 ?_
  simp
  refine ⟨fun _ => true, fun x => enumV ((rowS x).map fun c => Val.str [c]), fun x y => decide (sgnI y = 40), fun x y => pl (rowI x) (rowI y), ?_, ?_, ?_⟩
  · intro x hx
    obtain ⟨i, hi⟩ := List.getElem?_of_mem hx
    obtain ⟨y, hy, rfl⟩ := enumV_at hi
    rw [List.getElem?_map] at hy
    obtain ⟨t, ht, rfl⟩ := Option.map_eq_some_iff.mp hy
    simp [and_assoc, rowS, rowI]
    intro y hy
    obtain ⟨k, hk⟩ := List.getElem?_of_mem hy
    obtain ⟨z, hz, rfl⟩ := enumV_at hk
    rw [List.getElem?_map] at hz
    obtain ⟨c0, hc0, rfl⟩ := Option.map_eq_some_iff.mp hz
    have h128 := (T.row ht).2 c0 (List.mem_of_getElem? hc0)
    simp [and_assoc, h128, sgnI, pl]
    exact decide_eq_decide.mpr Iff.rfl
  · have e := congrArg List.length (flat_opens ss)
    rw [List.length_map] at e
    simp at e ⊢
    omega
  · have e := flat_opens ss
    simp at e ⊢
    rw [e]
    refine wS_for ?_
    simp
    refine pick_lc (Q := fun q => leP q p) (l := rowsF opnR ss) rfl (by simp) (by simp only [LINE_def]; omega) (by simp) ?_ ?_
    · intro q st' a
      simp [pq_le]
    · intro st' a
      refine ⟨_, asRev_ref (xs := ((rowsF opnR ss).filter fun q => leP q p).map pq) (by simp), ?_⟩
      rw [← opens_rows] at *
      have hre : (((opensP ss).filter fun q => leP q p).map pq).reverse = (((opensP ss).filter fun q => leP q p).reverse).map pq := by rw [List.map_reverse]
      refine ⟨fun i sl st2 => (∃ b4 b5 b6 b7 b8 b9 b10, sl = [some (.tup (ss.map .str)), some (pq p), some (.bl wide), some (.ref st.length), b4, b5, b6, b7, b8, b9, b10]) ∧ Ap (st' ++ [Ob.lst (((opensP ss).filter fun q => leP q p).map pq)]) st2 ∧ ((((opensP ss).filter fun q => leP q p).reverse).drop i).find? (hugs ss p) = hugO ss p,
        ⟨⟨_, _, _, _, _, _, _, rfl⟩, Ap.refl _, rfl⟩, ?_, ?_, ?_⟩
      · rintro i sl st2 _ ⟨_, a2, _⟩
        exact ⟨a2.get (by simp), a2.get (by simp)⟩
      · rintro i x sl st2 hx ⟨⟨b4, b5, b6, b7, b8, b9, b10, rfl⟩, a2, hf⟩
        have hx : ((((opensP ss).filter fun q => leP q p).map pq).reverse)[i]? = some x := hx
        rw [hre, List.getElem?_map] at hx
        obtain ⟨o, ho, rfl⟩ := Option.map_eq_some_iff.mp hx
        have hom := List.mem_reverse.mp (List.mem_of_getElem? ho)
        have hoa := (List.mem_filter.mp (List.mem_filter.mp hom).1).1
        rw [drop_find ho] at hf
        simp
        refine (partner_spec T (allP_ok hoa)).mono ?_
        rintro v st3 ⟨rfl, a3⟩
        have hap : Ap st st3 := Ap.trans ⟨_, rfl⟩ (a.trans (Ap.trans ⟨_, rfl⟩ (a2.trans a3)))
        cases hpp : partP ss o with
        | none =>
          have hh : hugs ss p o = false := by unfold hugs; rw [hpp]
          rw [if_neg (by rw [hh]; decide)] at hf
          simp [optV]
          exact ⟨a2.trans a3, hf⟩
        | some c =>
          have e5 : nonB (pq c) = false := rfl
          have hh : hugs ss p o = leP p c := by unfold hugs; rw [hpp]
          have hq0 : ∀ (q : Pt) st', fIx (pq q) (.int 0) st' = some (.int q.1, st') := fun q st' => rfl
          have hq1 : ∀ (q : Pt) st', fIx (pq q) (.int 1) st' = some (.int q.2, st') := fun q st' => rfl
          cases hle : leP p c with
          | true =>
            rw [if_pos (by rw [hh, hle])] at hf
            have hv : brkA ss p wide = brkV ss wide (some o) := by
              unfold brkA
              rw [← hf]
            cases wide <;> simp [optV, e5, pq_ge, hle, hq0, hq1, hv, brkV, hpp, sgV, pl] <;> exact hap
          | false =>
            rw [if_neg (by rw [hh, hle]; decide)] at hf
            simp [optV, e5, pq_ge, hle]
            exact ⟨a2.trans a3, hf⟩
      · rintro sl st2 ⟨⟨b4, b5, b6, b7, b8, b9, b10, rfl⟩, a2, hf⟩
        have hv : brkA ss p wide = .non := by
          unfold brkA
          rw [← hf, List.drop_of_length_le (by simp)]
          rfl
        simp [hv]
        exact Ap.trans ⟨_, rfl⟩ (a.trans (Ap.trans ⟨_, rfl⟩ a2))
end
open MO
section
variable {ss : List (List Nat)} {st : Sto} {s : List Nat} {p : Pt}
/-! ### the law's pile of brackets -/
def ppq (x : Pt × Pt) : Val := .tup [pq x.1, pq x.2]
def unppq : Val → Pt × Pt
  | .tup [a, b] => (unpq a, unpq b)
  | _ => ((0, 0), (0, 0))
@[simp] theorem unppq_ppq (x : Pt × Pt) : unppq (ppq x) = x := by
  show (unpq (pq x.1), unpq (pq x.2)) = x
  rw [unpq_pq, unpq_pq]
theorem pileF_cons (f : Pt → Nat) (p : Pt) (l S : List Pt) (P : List (Pt × Pt)) : pileF f (p :: l) S P = if f p = 40 then pileF f l (p :: S) P else if f p = 41 then (match S with
      | [] => pileF f l [] P
      | o :: S' => pileF f l S' (P ++ [(o, p)]))
    else pileF f l S P := rfl
theorem pileF_app (f : Pt → Nat) : ∀ (l m S : List Pt) (P : List (Pt × Pt)), pileF f (l ++ m) S P = pileF f m (pileF f l S P).1 (pileF f l S P).2
  | [], m, S, P => rfl
  | p :: l, m, S, P => by
    rw [List.cons_append, pileF_cons f p (l ++ m), pileF_cons f p l]
    by_cases h : f p = 40
    · rw [if_pos h, if_pos h]
      exact pileF_app f l m _ _
    · rw [if_neg h, if_neg h]
      by_cases h2 : f p = 41
      · rw [if_pos h2, if_pos h2]
        cases S with
        | nil => exact pileF_app f l m _ _
        | cons o S' => exact pileF_app f l m _ _
      · rw [if_neg h2, if_neg h2]
        exact pileF_app f l m _ _
theorem pileF_len (f : Pt → Nat) : ∀ (l S : List Pt) (P : List (Pt × Pt)), (pileF f l S P).1.length ≤ S.length + l.length ∧ (pileF f l S P).2.length ≤ P.length + l.length
  | [], S, P => by simp [pileF]
  | p :: l, S, P => by
    unfold pileF
    split
    · have := pileF_len f l (p :: S) P
      simp only [List.length_cons] at this ⊢
      omega
    · split
      · cases S with
        | nil =>
          have := pileF_len f l [] P
          simp only [List.length_cons, List.length_nil] at this ⊢
          omega
        | cons o S' =>
          have := pileF_len f l S' (P ++ [(o, p)])
          simp only [List.length_cons, List.length_append, List.length_nil] at this ⊢
          omega
      · have := pileF_len f l S P
        simp only [List.length_cons] at this ⊢
        omega
/-- the places up to k in the row at i -/
def upTo (ss : List (List Nat)) (i k : Nat) : List Pt := rowsF allR (ss.take i) ++ (List.range k).map fun j => (i, j)
def pS (ss : List (List Nat)) (i k : Nat) : List Pt × List (Pt × Pt) := pileF (sgn ss) (upTo ss i k) [] []
theorem upTo_len (T : TOk ss) {i k : Nat} (hk : k ≤ 1000) : (upTo ss i k).length ≤ 1001000 := by
  unfold upTo
  have h1 := rowsF_len (g := allR) (b := 1000) (ss := ss.take i) fun t ht => Nat.le_trans (len_a t) (T.2.2 t (List.mem_of_mem_take ht)).1
  have h4 : (ss.take i).length * 1000 ≤ 1000 * 1000 := Nat.mul_le_mul_right _ (Nat.le_trans (List.length_take_le' i ss) T.2.1)
  simp only [List.length_append, List.length_map, List.length_range]
  omega
theorem pS_succ (ss : List (List Nat)) (i k : Nat) : pS ss i (k + 1) = pileF (sgn ss) [(i, k)] (pS ss i k).1 (pS ss i k).2 := by
  unfold pS
  have : upTo ss i (k + 1) = upTo ss i k ++ [(i, k)] := by
    unfold upTo
    rw [List.range_succ, List.map_append, List.append_assoc]
    rfl
  rw [this, pileF_app]
/-- what the law's pile holds -/
def PileAt (ss : List (List Nat)) (a b : Nat) (r : List Pt × List (Pt × Pt)) (st : Sto) : Prop := st[a]? = some (.lst ((r.1.reverse).map pq)) ∧ st[b]? = some (.lst (r.2.map ppq))
theorem ppq_gd {B : Nat → Prop} {l : List (Pt × Pt)} : ∀ x ∈ l.map ppq, Gd B 2 st 2 x := fun x hx => by
  obtain ⟨q, _, rfl⟩ := List.mem_map.mp hx
  refine ⟨by simp, fun y hy => ?_⟩
  simp only [List.mem_cons, List.not_mem_nil, or_false] at hy
  rcases hy with rfl | rfl
  · exact pq_gd (l := [q.1]) _ (by simp)
  · exact pq_gd (l := [q.2]) _ (by simp)
/-- one place on the pile -/
theorem pile_turn (T : TOk ss) {i k a b : Nat} {sl0 a1 a2 a3 a9 a10 a11 : Option Val} (hs : ss[i]? = some s) (hk : k < s.length) (hab : a ≠ b) (hP : PileAt ss a b (pS ss i k) st)
    {PS : RS → Prop} (done : ∀ st', PileAt ss a b (pS ss i (k + 1)) st' → (∀ n, st.length ≤ st'.length ∧ (n < st.length → n ≠ a → n ≠ b → st'[n]? = st[n]?)) → PS (.nx [sl0, a1, a2, a3, some (.ref a), some (.ref b), some (.int i), some (.str s), some (.int k), a9, a10, a11] st')) :
    wS (fIfS (fB (fOp fEq (fOp fIx (fVar 7) (fVar 8)) (fC (.str [40])))) (fExpr (fMt "list" (onL gAppend) (fVar 4) (fCons (fTup (fCons (fVar 6) (fCons (fVar 8) fNil))) fNil))) (fIfS (fAnd (fB (fOp fEq (fOp fIx (fVar 7) (fVar 8)) (fC (.str [41])))) (fB (fOp fNe (fVar 4) (fLst fNil)))) (fExpr (fMt "list" (onL gAppend) (fVar 5) (fCons (fTup (fCons (fMt0 "list" (onL gPop) (fVar 4)) (fCons (fTup (fCons (fVar 6) (fCons (fVar 8) fNil))) fNil))) fNil))) fSkip))
      [sl0, a1, a2, a3, some (.ref a), some (.ref b), some (.int i), some (.str s), some (.int k), a9, a10, a11] st PS := by
  have hR := T.row hs
  have hz : s.length ≤ LINE := by simp only [LINE_def]; omega
  have h128 := hR.2 _ (List.getElem_mem hk)
  have hg : sgn ss (i, k) = s[k] := sgn_eq (p := (i, k)) hs hk
  obtain ⟨hA, hB⟩ := hP
  have hal := (List.getElem?_eq_some_iff.mp hA).1
  have hbl := (List.getElem?_eq_some_iff.mp hB).1
  have hlen := pileF_len (sgn ss) (upTo ss i k) [] []
  have hlen2 := upTo_len (ss := ss) T (i := i) (k := k) (by omega)
  have e := pS_succ ss i k
  have l1 : (pS ss i k).1.length ≤ 1001000 := by
    have := hlen.1
    unfold pS
    simp only [List.length_nil] at this
    omega
  have l2 : (pS ss i k).2.length ≤ 1001000 := by
    have := hlen.2
    unfold pS
    simp only [List.length_nil] at this
    omega
  generalize pS ss i k = r at *
  obtain ⟨S, P⟩ := r
  simp only at hA hB l1 l2 e
  simp [hz, sign_at hk, List.getElem?_eq_getElem hk, h128]
  by_cases h40 : s[k] = 40
  · have e2 : pS ss i (k + 1) = ((i, k) :: S, P) := by
      rw [e]
      unfold pileF
      rw [hg, if_pos h40]
      rfl
    rw [if_pos h40]
    refine ⟨kind_lst hA, ?_⟩
    rw [onL_ref hA, gAppend_one (by simp only [LINE_def, List.length_map, List.length_reverse]; omega)]
    simp
    refine done _ ?_ ?_
    · rw [e2]
      refine ⟨?_, ?_⟩
      · rw [List.getElem?_set_self hal]
        simp [pq, pl]
      · rw [List.getElem?_set_ne hab]
        exact hB
    · intro n
      refine ⟨by simp, fun hn h1 h2 => ?_⟩
      rw [List.getElem?_set_ne (Ne.symm h1)]
  · rw [if_neg h40]
    by_cases h41 : s[k] = 41
    · have hp2 : (st ++ [Ob.lst []])[a]? = some (.lst (S.reverse.map pq)) := by rw [List.getElem?_append_left hal]; exact hA
      have hb2 : (st ++ [Ob.lst []])[b]? = some (.lst (P.map ppq)) := by rw [List.getElem?_append_left hbl]; exact hB
      rw [if_pos h41, ne_pq hp2 (by simp)]
      cases S with
      | nil =>
        have e2 : pS ss i (k + 1) = ([], P) := by
          rw [e]
          unfold pileF
          rw [hg, if_neg h40, if_pos h41]
          rfl
        simp
        refine done _ ?_ ?_
        · rw [e2]
          exact ⟨hp2, hb2⟩
        · intro n
          exact ⟨by simp, fun hn _ _ => List.getElem?_append_left hn⟩
      | cons o S =>
        have e2 : pS ss i (k + 1) = (S, P ++ [(o, (i, k))]) := by
          rw [e]
          unfold pileF
          rw [hg, if_neg h40, if_pos h41]
          rfl
        have hp3 : (st ++ [Ob.lst []])[a]? = some (.lst (S.reverse.map pq ++ [pq o])) := by rw [hp2]; simp
        simp [kind_lst hb2, kind_lst hp3]
        rw [pop_last hp3]
        simp
        have hb3 : ((st ++ [Ob.lst []]).set a (Ob.lst (S.reverse.map pq)))[b]? = some (.lst (P.map ppq)) := by rw [List.getElem?_set_ne hab]; exact hb2
        rw [List.map_reverse] at hb3
        have hb3l := (List.getElem?_eq_some_iff.mp hb3).1
        rw [onL_ref hb3, gAppend_one (by simp only [LINE_def, List.length_map]; omega)]
        simp
        refine done _ ?_ ?_
        · rw [e2]
          refine ⟨?_, ?_⟩
          · rw [List.getElem?_set_ne (Ne.symm hab), List.getElem?_set_self (by simp; omega)]
            simp
          · rw [List.getElem?_set_self (by simpa using hb3l)]
            simp [ppq, pq, pl]
        · intro n
          refine ⟨by simp, fun hn h1 h2 => ?_⟩
          rw [List.getElem?_set_ne (Ne.symm h2), List.getElem?_set_ne (Ne.symm h1)]
          exact List.getElem?_append_left hn
    · have e2 : pS ss i (k + 1) = (S, P) := by
        rw [e]
        unfold pileF
        rw [hg, if_neg h40, if_neg h41]
        rfl
      rw [if_neg h41]
      refine done _ ?_ ?_
      · rw [e2]
        exact ⟨hA, hB⟩
      · intro n
        exact ⟨Nat.le_refl _, fun _ _ _ => rfl⟩
theorem upTo_end {i : Nat} (hs : ss[i]? = some s) : upTo ss i s.length = rowsF allR (ss.take (i + 1)) := by
  unfold upTo
  rw [rowsF_take hs]
  rfl
theorem ap_two {st0 st st' : Sto} {a b : Nat} (h : Ap st0 st) (ha : st0.length ≤ a) (hb : st0.length ≤ b) (d : ∀ n, st.length ≤ st'.length ∧ (n < st.length → n ≠ a → n ≠ b → st'[n]? = st[n]?)) : Ap st0 st' := by
  rw [apIff] at *
  exact ⟨Nat.le_trans h.1 (d 0).1, fun i hi => ((d i).2 (by omega) (by omega) (by omega)).trans (h.2 i hi)⟩
/-- pairs that hug the place -/
def hugQ (p : Pt) (x : Pt × Pt) : Bool := leP x.1 p && leP p x.2
def toPP (x : Pt × Pt) : PP := ((x.1.1, x.1.2), (x.2.1, x.2.2))
theorem ppV_ppq (x : Pt × Pt) : ppV (toPP x) = ppq x := rfl
theorem mapO_ppq : ∀ l : List (Pt × Pt), mapO ppI (l.map ppq) = some (l.map toPP)
  | [] => rfl
  | x :: l => by
    rw [List.map_cons]
    unfold mapO
    rw [mapO_ppq l]
    rfl
theorem lt_pl (a b c d : Int) : PySem.W.dataLt (.tuple [.int a, .int b]) (.tuple [.int c, .int d]) = decide (a < c ∨ a = c ∧ b < d) := by
  rw [PySem.W.dataLt_tuple]
  by_cases h : a = c
  · subst h
    rw [PySem.W.dataLt_all_yes (by simp [PySem.W.alike]) (by simp [PyData.eqv])]
    by_cases h2 : b = d
    · subst h2
      rw [PySem.W.dataLt_all_yes (by simp [PySem.W.alike]) (by simp [PyData.eqv])]
      unfold PySem.W.keyToksAll
      rw [PyProof.Rows.lex_self]
      exact (decide_eq_false (by omega)).symm
    · rw [PySem.W.dataLt_all_no (by simp [PySem.W.alike]) (by simp [PyData.eqv, h2]), PySem.W.dataLt_int]
      exact decide_eq_decide.mpr (by omega)
  · rw [PySem.W.dataLt_all_no (by simp [PySem.W.alike]) (by simp [PyData.eqv, h]), PySem.W.dataLt_int]
    exact decide_eq_decide.mpr (by omega)
theorem lt_pp (x y : Pt × Pt) (h : x.1 ≠ y.1) : PySem.W.dataLt (ppD (toPP x)) (ppD (toPP y)) = ltp x.1 y.1 := by
  have hne : ¬ ((x.1.1 : Int) = y.1.1 ∧ (x.1.2 : Int) = y.1.2) := fun z => h (Prod.ext (by omega) (by omega))
  unfold ppD
  rw [PySem.W.dataLt_tuple, PySem.W.dataLt_all_no (by simp [PySem.W.alike, PySem.W.alikeAll]) ?_, lt_pl]
  · exact decide_eq_decide.mpr (by show ((x.1.1 : Int) < y.1.1 ∨ _) ↔ _; simp only [toPP]; omega)
  · simp only [PyData.eqv, PyData.eqvAll, toPP]
    by_cases h1 : (x.1.1 : Int) = y.1.1
    · have h2 : ¬ (x.1.2 : Int) = y.1.2 := fun z => hne ⟨h1, z⟩
      simp
      intro _ z
      exact h2 (by omega)
    · simp
      intro z
      exact absurd (by omega) h1
theorem leP_refl (p : Pt) : leP p p = true := by
  unfold leP
  rw [ltp_irr]
  rfl
theorem leP_trans {p q r : Pt} (h : leP p q = true) (k : leP q r = true) : leP p r = true := by
  unfold leP ltp at *
  simp only [Bool.not_eq_true', decide_eq_false_iff_not] at *
  omega
theorem leP_of {p q : Pt} (h : ltp p q = true) : leP p q = true := by
  unfold leP
  rw [ltp_asymm h]
  rfl
theorem leP_no {p q : Pt} (h : ltp p q = false) : leP q p = true := by
  unfold leP
  rw [h]
  rfl
theorem max_fold : ∀ (qs : List (Pt × Pt)) (q : Pt × Pt), (∀ x ∈ q :: qs, ∀ y ∈ q :: qs, x.1 = y.1 → x = y) → ∃ m ∈ q :: qs, maxPP (toPP q) (qs.map toPP) = toPP m ∧ ∀ x ∈ q :: qs, leP x.1 m.1 = true
  | [], q, _ => ⟨q, by simp, rfl, fun x hx => by rw [List.mem_singleton.mp hx]; exact leP_refl _⟩
  | y :: qs, q, h => by
    have step : maxPP (toPP q) ((y :: qs).map toPP) = maxPP (if PySem.W.dataLt (ppD (toPP q)) (ppD (toPP y)) then toPP y else toPP q) (qs.map toPP) := rfl
    have goY : leP q.1 y.1 = true → ∃ m ∈ q :: y :: qs, maxPP (toPP y) (qs.map toPP) = toPP m ∧ ∀ x ∈ q :: y :: qs, leP x.1 m.1 = true := by
      intro hq
      obtain ⟨m, h1, h2, h3⟩ := max_fold qs y fun a ha b hb => h a (List.mem_cons_of_mem _ ha) b (List.mem_cons_of_mem _ hb)
      refine ⟨m, List.mem_cons_of_mem _ h1, h2, fun x hx => ?_⟩
      rcases List.mem_cons.mp hx with rfl | hx
      · exact leP_trans hq (h3 y List.mem_cons_self)
      · exact h3 x hx
    have goQ : leP y.1 q.1 = true → ∃ m ∈ q :: y :: qs, maxPP (toPP q) (qs.map toPP) = toPP m ∧ ∀ x ∈ q :: y :: qs, leP x.1 m.1 = true := by
      intro hy
      have sub : ∀ a ∈ q :: qs, a ∈ q :: y :: qs := fun a ha => by
        rcases List.mem_cons.mp ha with rfl | ha
        · exact List.mem_cons_self
        · exact List.mem_cons_of_mem _ (List.mem_cons_of_mem _ ha)
      obtain ⟨m, h1, h2, h3⟩ := max_fold qs q fun a ha b hb => h a (sub a ha) b (sub b hb)
      refine ⟨m, sub m h1, h2, fun x hx => ?_⟩
      rcases List.mem_cons.mp hx with rfl | hx
      · exact h3 _ List.mem_cons_self
      · rcases List.mem_cons.mp hx with rfl | hx
        · exact leP_trans hy (h3 q List.mem_cons_self)
        · exact h3 x (List.mem_cons_of_mem _ hx)
    rw [step]
    by_cases he : q.1 = y.1
    · have : q = y := h q List.mem_cons_self y (List.mem_cons_of_mem _ List.mem_cons_self) he
      subst this
      rw [ite_self]
      exact goQ (leP_refl _)
    · rw [lt_pp q y he]
      cases hl : ltp q.1 y.1 with
      | true =>
        rw [if_pos rfl]
        exact goY (leP_of hl)
      | false =>
        rw [if_neg Bool.false_ne_true]
        exact goQ (leP_no hl)
theorem hug_mem {o c : Pt} : (o, c) ∈ (prsP ss).filter (hugQ p) ↔ o ∈ allP ss ∧ sgn ss o = 40 ∧ partP ss o = some c ∧ leP o p = true ∧ leP p c = true := by
  rw [List.mem_filter, prs_mem]
  unfold hugQ
  simp only [Bool.and_eq_true]
  constructor
  · rintro ⟨⟨h1, h2, h3⟩, h4, h5⟩
    exact ⟨h1, h2, h3, h4, h5⟩
  · rintro ⟨h1, h2, h3, h4, h5⟩
    exact ⟨⟨h1, h2, h3⟩, h4, h5⟩
theorem hug_nil (h : (prsP ss).filter (hugQ p) = []) : hugO ss p = none := by
  cases e : hugO ss p with
  | none => rfl
  | some o =>
    obtain ⟨h1, h2, h3, h4, _⟩ := hug_some e
    unfold hugs at h4
    cases hp : partP ss o with
    | none => rw [hp] at h4; cases h4
    | some c =>
      rw [hp] at h4
      have := hug_mem (p := p).mpr ⟨h1, h2, hp, h3, h4⟩
      rw [h] at this
      cases this
theorem hug_max {m : Pt × Pt} (hm : m ∈ (prsP ss).filter (hugQ p)) (hx : ∀ x ∈ (prsP ss).filter (hugQ p), leP x.1 m.1 = true) : hugO ss p = some m.1 ∧ partP ss m.1 = some m.2 := by
  obtain ⟨o, c⟩ := m
  obtain ⟨h1, h2, h3, h4, h5⟩ := hug_mem.mp hm
  refine ⟨?_, h3⟩
  have hh : hugs ss p o = true := by unfold hugs; rw [h3]; exact h5
  cases e : hugO ss p with
  | none =>
    have := hug_none e o h1 h2 h4
    rw [hh] at this
    cases this
  | some o' =>
    obtain ⟨g1, g2, g3, g4, g5⟩ := hug_some e
    have l1 := g5 o h1 h2 h4 hh
    have g4' := g4
    unfold hugs at g4'
    cases hp : partP ss o' with
    | none => rw [hp] at g4'; cases g4'
    | some c' =>
      rw [hp] at g4'
      have l2 := hx (o', c') (hug_mem.mpr ⟨g1, g2, hp, g3, g4'⟩)
      have := leP_anti (p := o') (q := o) l2 l1
      rw [this]
theorem hug_inj {x y : Pt × Pt} (hx : x ∈ (prsP ss).filter (hugQ p)) (hy : y ∈ (prsP ss).filter (hugQ p)) (e : x.1 = y.1) : x = y := by
  obtain ⟨o, c⟩ := x
  obtain ⟨o', c'⟩ := y
  have e : o = o' := e
  subst e
  have h1 := (hug_mem.mp hx).2.2.1
  have h2 := (hug_mem.mp hy).2.2.1
  rw [h1] at h2
  cases h2
  rfl
end
open MO
section
variable {ss : List (List Nat)} {st : Sto} {s : List Nat} {p : Pt}
theorem fMaxPP_ref {a : Nat} {q : Pt × Pt} {qs : List (Pt × Pt)} (h : st[a]? = some (.lst ((q :: qs).map ppq))) : fMaxPP [.ref a] st = some (ppV (maxPP (toPP q) (qs.map toPP)), st) := by
  show (match st[a]? with
    | some (.lst xs) => (mapO ppI xs).bind fun qs => match qs with
      | [] => none
      | q :: qs => some (ppV (maxPP q qs), st)
    | _ => none) = _
  rw [h]
  simp only [mapO_ppq]
  rfl
theorem lround_spec (T : TOk ss) {wide : Bool} : wF L_round [rowsV ss, pq p, .bl wide] st (fun v st' => v = brkA ss p wide ∧ Ap st st') G0 := by
  have hT := T.2.1
  unfold L_round ML_round rowsV
  simp [and_assoc]
  refine wS_for ?_
  simp
  refine ⟨fun i sl st' => (∃ a3 a6 a7 a8 a9 a10 a11, sl = [some (.tup (ss.map .str)), some (pq p), some (.bl wide), a3, some (.ref st.length), some (.ref (st.length + 1)), a6, a7, a8, a9, a10, a11]) ∧ Ap st st' ∧ PileAt ss st.length (st.length + 1) (pS ss i 0) st', ⟨⟨_, _, _, _, _, _, _, rfl⟩, ⟨_, rfl⟩, by simp [pS, upTo, rowsF, rowsG, pileF], by simp [pS, upTo, rowsF, rowsG, pileF]⟩, fun _ _ _ _ _ => live_none, ?_, ?_⟩
  · rintro i x sl st1 hx ⟨⟨a3, a6, a7, a8, a9, a10, a11, rfl⟩, ha, hP⟩
    obtain ⟨y, hy, rfl⟩ := enumV_at hx
    rw [List.getElem?_map] at hy
    obtain ⟨t, ht, rfl⟩ := Option.map_eq_some_iff.mp hy
    have hR := T.row ht
    have hm : small62 (t.length : Int) := by unfold small62; omega
    refine wT_tupl.mpr ⟨_, rfl, rfl, ?_⟩
    simp only [wTs_and, wTs_no, wT_set]
    refine ⟨_, _, rfl, _, _, rfl, rfl, ?_⟩
    refine wS_for ?_
    simp [row_len T ht, hm]
    refine ⟨fun k sl st' => (∃ b8, sl = [some (.tup (ss.map .str)), some (pq p), some (.bl wide), a3, some (.ref st.length), some (.ref (st.length + 1)), some (.int i), some (.str t), b8, a9, a10, a11]) ∧ Ap st st' ∧ PileAt ss st.length (st.length + 1) (pS ss i k) st', ⟨⟨_, rfl⟩, ha, hP⟩, fun _ _ _ _ _ => live_none, ?_, ?_⟩
    · rintro k x sl st2 hx ⟨⟨b8, rfl⟩, ha2, hP2⟩
      obtain ⟨hk, rfl⟩ := rngL_get hx
      have e0 : (0 : Int) + k = (k : Nat) := by omega
      rw [e0]
      simp only [wT_set]
      refine pile_turn T ht hk (by omega) hP2 ?_
      intro st3 hP3 d
      exact ⟨⟨_, rfl⟩, ap_two ha2 (Nat.le_refl _) (by omega) d, hP3⟩
    · rintro sl st2 ⟨⟨b8, rfl⟩, ha2, hP2⟩
      refine ⟨⟨_, _, _, _, _, _, _, rfl⟩, ha2, ?_⟩
      have e : pS ss (i + 1) 0 = pS ss i t.length := by
        unfold pS
        rw [upTo_end ht]
        unfold upTo
        simp
      rw [e]
      simpa using hP2
  · rintro sl st1 ⟨⟨a3, a6, a7, a8, a9, a10, a11, rfl⟩, ha, hA, hB⟩
    have e0 : pS ss (Itb.mk (enumV (ss.map Val.str)) .none).items.length 0 = pileF (sgn ss) (allP ss) [] [] := by
      unfold pS upTo allP
      simp [enumV_len]
    rw [e0] at hB
    have hB : st1[st.length + 1]? = some (.lst ((prsP ss).map ppq)) := hB
    have hl := (pileF_len (sgn ss) (allP ss) [] []).2
    have hal := lensN T len_a
    have hl2 : (prsP ss).length ≤ 1000000 := by
      have e1 : (allP ss).length = (rowsF allR ss).length := rfl
      unfold prsP
      simp only [List.length_nil] at hl
      omega
    simp
    refine wX_lc ?_
    simp only [wX_it, wX_var]
    refine ⟨_, rfl, _, asIt_ref hB, ?_⟩
    refine LcOb.fm (fun v => hugQ p (unppq v)) id (by simp; omega) (fun st' a => a.get hB) ?_ ?_
    · intro x hx st2 a2
      obtain ⟨q, hq, rfl⟩ := List.mem_map.mp hx
      have i0 : ∀ st', fIx (ppq q) (.int 0) st' = some (pq q.1, st') := fun st' => rfl
      have i1 : ∀ st', fIx (ppq q) (.int 1) st' = some (pq q.2, st') := fun st' => rfl
      simp [i0, i1, pq_le]
      cases h1 : leP q.1 p <;> cases h2 : leP p q.2 <;> simp [h1, h2, hugQ, Ap.refl]
    · intro st2 a2
      have e : (((prsP ss).map ppq).filter fun v => hugQ p (unppq v)).map id = ((prsP ss).filter (hugQ p)).map ppq := by
        rw [List.map_id, List.filter_map]
        have e2 : ((fun v => hugQ p (unppq v)) ∘ ppq) = hugQ p := funext fun q => by simp
        rw [e2]
      rw [show (Itb.mk ((prsP ss).map ppq) (.some (st.length + 1))).items = (prsP ss).map ppq from rfl, e]
      have hap : ∀ o, Ap st (st2 ++ o) := fun o => ha.trans (a2.trans ⟨o, rfl⟩)
      simp
      rw [fEq_nil (B := fun _ => False) (xs := ((prsP ss).filter (hugQ p)).map ppq) (by simp) (by simp) ppq_gd (by decide)]
      simp only [Option.map_some, wG_some]
      have hmx := fun q qs (hl : (prsP ss).filter (hugQ p) = q :: qs) => max_fold qs q fun x hx y hy => hug_inj (ss := ss) (p := p) (by rw [hl]; exact hx) (by rw [hl]; exact hy)
      have hnil := hug_nil (ss := ss) (p := p)
      have hmax := fun m => hug_max (ss := ss) (p := p) (m := m)
      generalize (prsP ss).filter (hugQ p) = fl at hmx hnil hmax ⊢
      cases fl with
      | nil =>
        have hv : brkA ss p wide = .non := by
          unfold brkA
          rw [hnil rfl]
          rfl
        simp [hv]
        exact hap _
      | cons q qs =>
        obtain ⟨m, m1, m2, m3⟩ := hmx q qs rfl
        obtain ⟨g1, g2⟩ := hmax m m1 m3
        have hv : brkA ss p wide = brkV ss wide (some m.1) := by
          unfold brkA
          rw [g1]
        have hq0 : ∀ (q : Pt) st', fIx (pq q) (.int 0) st' = some (.int q.1, st') := fun q st' => rfl
        have hq1 : ∀ (q : Pt) st', fIx (pq q) (.int 1) st' = some (.int q.2, st') := fun q st' => rfl
        have hmf := fMaxPP_ref (st := st2 ++ [Ob.lst ((q :: qs).map ppq), Ob.lst []]) (a := st2.length) (q := q) (qs := qs) (by simp)
        rw [m2, ppV_ppq] at hmf
        simp at hmf
        simp [hmf]
        have hp1 : ppq m = .tup [pq m.1, pq m.2] := rfl
        rw [hp1]
        cases wide <;> simp [and_assoc, hq0, hq1, hv, brkV, g2, sgV, pl] <;> exact hap _
def objs (ss : List (List Nat)) (s : List Nat) (r c : Nat) (wide : Bool) : List Val := [wordA s r c wide, quoA s r c wide, brkA ss (r, c) wide, rowsA ss r wide]
theorem around_spec (T : TOk ss) {r c : Nat} (hr : ss[r]? = some s) (hc : c ≤ s.length) {wide : Bool} {key j : Nat} (hk : [119, 113, 98, 112][j]? = some key) : wF F_around [rowsV ss, pl r c, .str [if wide then 97 else 105, key]] st (fun v st' => (objs ss s r c wide)[j]? = some v ∧ Ap st st') G0 := by
  have hx : ∀ st : Sto, fEq (.str [if wide then 97 else 105]) (.str [97]) st = some (.bl wide, st) := fun st => by
    cases wide
    · rw [fEq_str (by decide) (by decide)]
      rfl
    · rw [fEq_str (by decide) (by decide)]
      rfl
  unfold F_around MF_around
  match j, hk with
  | 0, hk =>
    cases hk
    simp [hx]
    refine (word_spec T hr hc).mono ?_
    rintro v st1 ⟨rfl, rfl⟩
    exact ⟨rfl, Ap.refl _⟩
  | 1, hk =>
    cases hk
    simp [hx]
    refine (quoted_spec T hr hc).mono ?_
    rintro v st1 ⟨rfl, a⟩
    exact ⟨rfl, a⟩
  | 2, hk =>
    cases hk
    simp [hx]
    refine (brackets_spec (p := (r, c)) T).mono ?_
    rintro v st1 ⟨rfl, a⟩
    exact ⟨rfl, a⟩
  | 3, hk =>
    cases hk
    simp [hx]
    refine (rows_spec T hr).mono ?_
    rintro v st1 ⟨rfl, rfl⟩
    exact ⟨rfl, Ap.refl _⟩
theorem gd_sg {B : Nat → Prop} {k : List Nat} {a b c d : Int} (hk : OkS 10 k) : Gd B 10 st 2 (.tup [.str k, .tup [.int a, .int b], .tup [.int c, .int d]]) := by
  refine ⟨by simp, fun x hx => ?_⟩
  simp only [List.mem_cons, List.not_mem_nil, or_false] at hx
  rcases hx with rfl | rfl | rfl
  · exact hk
  · exact ⟨by simp, fun y hy => by
      simp only [List.mem_cons, List.not_mem_nil, or_false] at hy
      rcases hy with rfl | rfl <;> trivial⟩
  · exact ⟨by simp, fun y hy => by
      simp only [List.mem_cons, List.not_mem_nil, or_false] at hy
      rcases hy with rfl | rfl <;> trivial⟩
theorem objs_gd {B : Nat → Prop} {r c : Nat} {wide : Bool} : ∀ v ∈ objs ss s r c wide, Gd B 10 st 2 v := by
  have k1 : OkS 10 [115, 105, 103, 110, 115] := ⟨by decide, by decide⟩
  have k2 : OkS 10 [114, 111, 119, 115] := ⟨by decide, by decide⟩
  intro v hv
  simp only [objs, List.mem_cons, List.not_mem_nil, or_false] at hv
  rcases hv with rfl | rfl | rfl | rfl
  · unfold wordA
    split
    · trivial
    · exact gd_sg k1
  · unfold quoA
    cases (pairs2 (qus s)).find? (hitQ c) with
    | none => trivial
    | some q => cases wide <;> exact gd_sg k1
  · unfold brkA
    cases hugO ss (r, c) with
    | none => trivial
    | some o =>
      unfold brkV
      dsimp only
      cases partP ss o with
      | none => trivial
      | some c => cases wide <;> exact gd_sg k1
  · exact gd_sg k2
theorem tok_of {m : Int} (h1 : 1 ≤ ss.length) (h2 : (ss.length : Int) ≤ m) (hm : m ≤ 1000) (h3 : ∀ s ∈ ss, Signs s ∧ s.length ≤ 40) : TOk ss := ⟨h1, by omega, fun s hs => ⟨by have := (h3 s hs).2; omega, fun x hx => by have := (h3 s hs).1 x hx; omega⟩⟩
theorem law_spec {ns : List Int} (hn : ns.length ≤ 63) : wF F_law [.scr ns] st (fun v _ => v = .bl true) G0 := by
  unfold F_law MF_law
  simp
  refine wS_for ?_
  simp
  obtain ⟨N, hN⟩ : ∃ N : Int, N = (if (8 : Int) < (if (ns.length : Int) < 60 then (ns.length : Int) else 60) then (if (ns.length : Int) < 60 then (ns.length : Int) else 60) else 8) := ⟨_, rfl⟩
  have hN2 : 0 ≤ N ∧ N ≤ 60 := by rw [hN]; split <;> (try split) <;> omega
  rw [← hN]
  refine ⟨by unfold small62; omega, fun i sl _ => ∃ l, sl = some (.scr ns) :: l ∧ l.length = 9, ⟨_, rfl, rfl⟩, fun _ _ _ _ _ => live_none, ?_, ?_⟩
  · rintro i x sl st1 hx ⟨l, rfl, hl⟩
    obtain ⟨hi, rfl⟩ := rngL_get hx
    obtain ⟨a1, a2, a3, a4, a5, a6, a7, a8, a9, rfl⟩ : ∃ a1 a2 a3 a4 a5 a6 a7 a8 a9, l = [a1, a2, a3, a4, a5, a6, a7, a8, a9] := by
      match l, hl with
      | [a1, a2, a3, a4, a5, a6, a7, a8, a9], _ => exact ⟨a1, a2, a3, a4, a5, a6, a7, a8, a9, rfl⟩
    simp
    refine (well_spec (by omega) hn).mono ?_
    rintro v st2 ⟨w, rfl, hwge, hw2, d2⟩
    simp
    refine (text_spec (most := 7) hw2 (by decide) (by decide)).mono ?_
    rintro v st3 ⟨ss, rfl, s1, s2, s3, hw3, d3⟩
    have T := tok_of s1 s2 (by decide) s3
    simp
    refine wS_for ?_
    simp
    refine ⟨by decide, fun j sl st4 => (∃ b4 b5 b6 b7 b8 b9, sl = [some (.scr ns), some (.int i), some (.ref w), some (rowsV ss), b4, b5, b6, b7, b8, b9]) ∧ WellAt w st4, ⟨⟨_, _, _, _, _, _, rfl⟩, hw3⟩, fun _ _ _ _ _ => live_none, ?_, ?_⟩
    · rintro j x sl st4 hx ⟨⟨b4, b5, b6, b7, b8, b9, rfl⟩, hw4⟩
      obtain ⟨hj, rfl⟩ := rngL_get hx
      simp
      refine (place_spec hw4 (by have := T.1; omega) T.2.1 fun s hs => (T.2.2 s hs).1).mono ?_
      rintro v st5 ⟨r, c, s, rfl, hr, hc, hw5, d5⟩
      simp
      refine wS_for ?_
      simp
      refine ⟨fun j2 sl st6 => (∃ b6 b7 b8 b9, sl = [some (.scr ns), some (.int i), some (.ref w), some (rowsV ss), some (.int j), some (pl r c), b6, b7, b8, b9]) ∧ Ap (st5 ++ [Ob.lst [.bl false, .bl true]]) st6, ⟨⟨_, _, _, _, rfl⟩, Ap.refl _⟩, fun j2 sl st6 _ hI => hI.2.get (by simp), ?_, ?_⟩
      · rintro j2 x sl st6 hx ⟨⟨b6, b7, b8, b9, rfl⟩, a6'⟩
        obtain ⟨wide, rfl⟩ : ∃ wide, x = .bl wide := by
          have hxm := List.mem_of_getElem? hx
          simp only [List.mem_cons, List.not_mem_nil, or_false] at hxm
          rcases hxm with rfl | rfl
          · exact ⟨_, rfl⟩
          · exact ⟨_, rfl⟩
        simp
        refine (lword_spec T hr hc).mono ?_
        rintro v st7 ⟨rfl, rfl⟩
        simp
        refine (lquote_spec T hr hc).mono ?_
        rintro v st8 ⟨rfl, a8'⟩
        simp
        refine (lround_spec (p := (r, c)) T).mono ?_
        rintro v st9 ⟨rfl, a9'⟩
        simp [kind_lst]
        refine (lrows_spec T hr).mono ?_
        rintro v st10 ⟨rfl, a10'⟩
        have hd10 := a10'.get (i := st9.length) (o := .lst [wordA s r c wide, quoA s r c wide, brkA ss (r, c) wide]) (by simp)
        have hd10l := (List.getElem?_eq_some_iff.mp hd10).1
        simp
        rw [onL_ref hd10]
        simp
        have hat : L2.atI [Val.str [105], .str [97]] (if wide = true then 1 else 0) = some (.str [if wide then 97 else 105]) := by cases wide <;> rfl
        rw [hat]
        simp
        have hle9 : (st5 ++ [Ob.lst [.bl false, .bl true]]).length ≤ st9.length := Nat.le_trans a6'.le (Nat.le_trans a8'.le a9'.le)
        have hbase : Ap (st5 ++ [Ob.lst [.bl false, .bl true]]) (st10.set st9.length (Ob.lst [wordA s r c wide, quoA s r c wide, brkA ss (r, c) wide, rowsA ss r wide]) ++ [Ob.lst [.str [105], .str [97]]]) :=
          (apDr (a6'.trans (a8'.trans (a9'.trans ((Ap.one _ _).trans a10')))) (Dr.set (w := st9.length) _) hle9).trans (Ap.one _ _)
        have hdue : (st10.set st9.length (Ob.lst (objs ss s r c wide)) ++ [Ob.lst [.str [105], .str [97]]])[st9.length]? = some (.lst (objs ss s r c wide)) := by
          rw [List.getElem?_append_left (by simpa using hd10l), List.getElem?_set_self hd10l]
        refine wX_lc ?_
        simp
        refine ⟨by simp, fun n acc st' => acc = (objs ss s r c wide).take n ∧ Ap (st10.set st9.length (Ob.lst (objs ss s r c wide)) ++ [Ob.lst [.str [105], .str [97]]]) st', ⟨by simp, Ap.refl _⟩, fun _ _ _ _ _ => live_none, ?_, ?_⟩
        · rintro n x acc st11 hx ⟨rfl, a11'⟩
          have hx2 : ([119, 113, 98, 112].map fun k => Val.str [k])[n]? = some x := hx
          rw [List.getElem?_map] at hx2
          obtain ⟨key, hk, rfl⟩ := Option.map_eq_some_iff.mp hx2
          simp
          refine (around_spec T hr hc (wide := wide) hk).mono ?_
          rintro v st12 ⟨hv, a12'⟩
          refine ⟨?_, a11'.trans a12'⟩
          rw [List.take_add_one, hv]
          rfl
        · rintro acc st11 ⟨rfl, a11'⟩
          have e4 : (objs ss s r c wide).take 4 = objs ss s r c wide := rfl
          have hd11 := a11'.get hdue
          have hd11l := (List.getElem?_eq_some_iff.mp hd11).1
          simp
          rw [fNe_lst (c := 10) (n := 2) (xs := objs ss s r c wide) (by simp [e4]) (by rw [List.getElem?_append_left hd11l]; exact hd11) objs_gd (by simp [objs]) (by decide)]
          simp
          exact hbase.trans (a11'.trans (Ap.one _ _))
      · rintro sl st6 ⟨⟨b6, b7, b8, b9, rfl⟩, a6'⟩
        exact ⟨⟨_, _, _, _, _, _, rfl⟩, hw5.ap ((Ap.one _ _).trans a6')⟩
    · rintro sl st4 ⟨⟨b4, b5, b6, b7, b8, b9, rfl⟩, hw4⟩
      exact ⟨_, rfl, rfl⟩
  · rintro sl st1 ⟨l, rfl, hl⟩
    simp
end
end K14
namespace K14
open PySem PySem.Spec PyProof.Rows L2 FL
def topS (i : Nat) : Stmt := PySem.Challenge.pw_keyroom_k14_objects_by_hand.main.body.getD i (.Pass ⟨0, 0, 0, 0⟩)
abbrev s_kind_of : Stmt := topS 5
abbrev s_partner : Stmt := topS 6
abbrev s_word_about : Stmt := topS 8
abbrev s_quoted_about : Stmt := topS 9
abbrev s_brackets_about : Stmt := topS 10
abbrev s_rows_about : Stmt := topS 11
abbrev s_around : Stmt := topS 12
abbrev s__law_well : Stmt := topS 14
abbrev s__law_take : Stmt := topS 15
abbrev s__law_row : Stmt := topS 16
abbrev s__law_text : Stmt := topS 17
abbrev s__law_place : Stmt := topS 18
abbrev s__law_sort : Stmt := topS 19
abbrev s__law_word : Stmt := topS 20
abbrev s__law_quote : Stmt := topS 21
abbrev s__law_round : Stmt := topS 22
abbrev s__law_rows : Stmt := topS 23
abbrev s_law : Stmt := topS 24
/-- what the module's names hold -/
structure Gb (W : Wd) : Prop where
  n_int : W.mg "int" = none
  n_len : W.mg "len" = none
  n_range : W.mg "range" = none
  n_zip : W.mg "zip" = none
  n_enumerate : W.mg "enumerate" = none
  n_reversed : W.mg "reversed" = none
  n_tuple : W.mg "tuple" = none
  n_max : W.mg "max" = none
  n_min : W.mg "min" = none
  k_LETTERS : ∃ t, W.mg "LETTERS" = some (.str (St' [97, 98, 99, 100, 101, 102, 103, 104, 105, 106, 107, 108, 109, 110, 111, 112, 113, 114, 115, 116, 117, 118, 119, 120, 121, 122]) t)
  k_FIGURES : ∃ t, W.mg "FIGURES" = some (.str (St' [48, 49, 50, 51, 52, 53, 54, 55, 56, 57]) t)
  k_OPEN : ∃ t, W.mg "OPEN" = some (.str (St' [40, 91, 123]) t)
  k_CLOSE : ∃ t, W.mg "CLOSE" = some (.str (St' [41, 93, 125]) t)
theorem sc_kind_of : FnScope ["sign"] ["sign"] (defScope s_kind_of) := ⟨rfl, rfl, rfl, by decide +kernel, rfl, by decide +kernel, by decide +kernel⟩
theorem ok_kind_of {W : Wd} (G : Gb W) (h : Has W "kind_of" s_kind_of) : Callee W "kind_of" 1 F_kind_of :=
  callee (k := 0) h sc_kind_of (fun _ _ _ _ _ _ us hl => match us, hl with | [_], _ => rfl) fun f cdv A outer s H E C =>
  (ss_cons (ss_if (sc_cmp (op_eqF C.toCtx0) (se_var 0) (se_str [32])) (ss_one (ss_ret se_int)) ss_nil)
  (ss_one (ss_ret (se_if (sc_w (sw_or (sc_cmp (op_eqF C.toCtx0) (se_var 0) (se_str [95])) (sw_or (sc_cmp (op_inF C.toCtx0) (se_var 0) (se_gstr C.toCtx0 G.k_FIGURES)) (sw_one2 (sc_cmp (op_inF C.toCtx0) (se_mt0 C.toCtx0 PySem.F.plainAttrs_str PySem.F.slot_str_lower PySem.F.type_str_lower mt_lowerF (se_var 0)) (se_gstr C.toCtx0 G.k_LETTERS)))))) se_int se_int))))
theorem sc_partner : FnScope ["text", "place", "sign", "mate", "places", "deep", "row", "spot", "at", "one", "here"] ["text", "place"] (defScope s_partner) := ⟨rfl, rfl, rfl, by decide +kernel, rfl, by decide +kernel, by decide +kernel⟩
theorem ok_partner {W : Wd} (G : Gb W) (h : Has W "partner" s_partner) : Callee W "partner" 1 F_partner :=
  callee (k := 0) h sc_partner (fun _ _ _ _ _ _ us hl => match us, hl with | [_, _], _ => rfl) fun f cdv A outer s H E C =>
  (ss_cons (ss_asg (se_var 1) (sg_tup C (sgs_cons (sg_name 6 C.nd) (sgs_cons (sg_name 7 C.nd) sgs_nil))))
  (ss_cons (ss_set 2 C.nd (se_sl (sl_F C.toCtx0) (se_ix (ix_F C.toCtx0) (se_var 0) (se_var 6)) (so_some (se_var 7)) (so_some (se_op (op_addF C.toCtx0) (se_var 7) se_int))))
  (ss_cons (ss_if (sc_w (sw_or (sc_cmp (op_eqF C.toCtx0) (se_var 2) (se_str [])) (sw_one2 (sc_cmp (op_notinF C.toCtx0) (se_var 2) (se_op (op_addF C.toCtx0) (se_gstr C.toCtx0 G.k_OPEN) (se_gstr C.toCtx0 G.k_CLOSE)))))) (ss_one (ss_ret se_non)) ss_nil)
  (ss_cons (ss_set 3 C.nd (se_if (sc_cmp (op_inF C.toCtx0) (se_var 2) (se_gstr C.toCtx0 G.k_OPEN)) (se_ix (ix_F C.toCtx0) (se_gstr C.toCtx0 G.k_CLOSE) (se_mt C.toCtx0 PySem.F.plainAttrs_str PySem.F.slot_str_index PySem.F.type_str_index mt_indexF (se_gstr C.toCtx0 G.k_OPEN) (sa_cons (se_var 2) sa_nil))) (se_ix (ix_F C.toCtx0) (se_gstr C.toCtx0 G.k_OPEN) (se_mt C.toCtx0 PySem.F.plainAttrs_str PySem.F.slot_str_index PySem.F.type_str_index mt_indexF (se_gstr C.toCtx0 G.k_CLOSE) (sa_cons (se_var 2) sa_nil)))))
  (ss_cons (ss_setLc2 4 (own := [("at", 8), ("one", 9)]) (vs1 := [9]) C (sw_true rfl rfl rfl (by decide +kernel)) (si_rng1 C.toCtx0 G.n_range (sa_cons (se_blt C.toCtx0 (call_lenF C.toCtx0) G.n_len (by decide +kernel) (sa_cons (se_var 0) sa_nil)) sa_nil)) (blkOk_by (N := ["text", "place", "sign", "mate", "places", "deep", "row", "spot", "at", "one", "here"]) (sc := defScope s_partner) (by decide +kernel)) (by decide) (fun _ _ _ _ _ => sgw_name 8 (Ctx.blk C _ _ _ _ _).nd) (fun _ _ _ _ _ => sts_nil) (fun _ _ _ _ _ => (si_rng1 (Ctx.blk C _ _ _ _ _).toCtx0 G.n_range (sa_cons (se_blt (Ctx.blk C _ _ _ _ _).toCtx0 (call_lenF (Ctx.blk C _ _ _ _ _).toCtx0) G.n_len (by decide +kernel) (sa_cons (se_ix (ix_F (Ctx.blk C _ _ _ _ _).toCtx0) (se_var 0) (se_var 8)) sa_nil)) sa_nil))) (fun _ _ _ _ _ => sgw_name 9 (Ctx.blk C _ _ _ _ _).nd) (fun _ _ _ _ _ => sts_nil) (fun _ _ _ _ _ => (se_tup (sa_cons (se_var 8) (sa_cons (se_var 9) sa_nil)))))
  (ss_cons (ss_setLc 4 (own := [("one", 9)]) C (sw_true rfl rfl rfl (by decide +kernel)) (si_any C.toCtx0 (se_var 4)) (blkOk_by (N := ["text", "place", "sign", "mate", "places", "deep", "row", "spot", "at", "one", "here"]) (sc := defScope s_partner) (by decide +kernel)) (fun _ _ _ _ _ => sgw_name 9 (Ctx.blk C _ _ _ _ _).nd) (fun _ _ _ _ _ => (sts_one (sc_if (sc_cmp (op_inF (Ctx.blk C _ _ _ _ _).toCtx0) (se_var 2) (se_gstr (Ctx.blk C _ _ _ _ _).toCtx0 G.k_OPEN)) (sc_cmp (op_gtF (Ctx.blk C _ _ _ _ _).toCtx0) (se_var 9) (se_var 1)) (sc_cmp (op_ltF (Ctx.blk C _ _ _ _ _).toCtx0) (se_var 9) (se_var 1))))) (fun _ _ _ _ _ => (se_var 9)))
  (ss_cons (ss_set 5 C.nd se_int)
  (ss_cons (ss_for C (si_any C.toCtx0 (se_if (sc_cmp (op_inF C.toCtx0) (se_var 2) (se_gstr C.toCtx0 G.k_OPEN)) (se_var 4) (se_revL (se_var 4)))) (sg_tup C (sgs_cons (sg_name 8 C.nd) (sgs_cons (sg_name 9 C.nd) sgs_nil))) (ss_cons (ss_set 10 C.nd (se_ix (ix_F C.toCtx0) (se_ix (ix_F C.toCtx0) (se_var 0) (se_var 8)) (se_var 9)))
  (ss_cons (ss_aug 5 C.nd (se_op op_subF (se_bty C.toCtx0 call_intF G.n_int (by decide +kernel) (sa_cons (se_cmp (op_eqF C.toCtx0) (se_var 10) (se_var 2)) sa_nil)) (se_bty C.toCtx0 call_intF G.n_int (by decide +kernel) (sa_cons (se_cmp (op_eqF C.toCtx0) (se_var 10) (se_var 3)) sa_nil))) ip_addF)
  (ss_one (ss_if (sc_cmp (op_eqF C.toCtx0) (se_var 5) se_int) (ss_one (ss_ret (se_tup (sa_cons (se_var 8) (sa_cons (se_var 9) sa_nil))))) ss_nil)))))
  (ss_one (ss_ret se_non))))))))))
theorem sc_word_about : FnScope ["text", "place", "wide", "kind", "row", "spot", "first", "last"] ["text", "place", "wide"] (defScope s_word_about) := ⟨rfl, rfl, rfl, by decide +kernel, rfl, by decide +kernel, by decide +kernel⟩
theorem ok_word_about {W : Wd} (G : Gb W) (h : Has W "word_about" s_word_about) (ckind_of : Callee W "kind_of" 1 F_kind_of) : Callee W "word_about" 2 F_word_about :=
  callee (k := 1) h sc_word_about (fun _ _ _ _ _ _ us hl => match us, hl with | [_, _, _], _ => rfl) fun f cdv A outer s H E C =>
  (ss_cons (ss_par 4 5 C (sa_cons (se_ix (ix_F C.toCtx0) (se_var 0) (se_ix (ix_F C.toCtx0) (se_var 1) se_int)) (sa_cons (se_ix (ix_F C.toCtx0) (se_var 1) se_int) sa_nil)))
  (ss_cons (ss_if (sc_cmp (op_geF C.toCtx0) (se_var 5) (se_blt C.toCtx0 (call_lenF C.toCtx0) G.n_len (by decide +kernel) (sa_cons (se_var 4) sa_nil))) (ss_one (ss_ret se_non)) ss_nil)
  (ss_cons (ss_set 3 C.nd (se_call C ckind_of (by omega) (sa_cons (se_ix (ix_F C.toCtx0) (se_var 4) (se_var 5)) sa_nil)))
  (ss_cons (ss_par 6 7 C (sa_cons (se_var 5) (sa_cons (se_var 5) sa_nil)))
  (ss_cons (ss_while C.toCtx0 (sc_w (sw_and (sc_cmp (op_gtF C.toCtx0) (se_var 6) se_int) (sw_one1 (sc_cmp (op_eqF C.toCtx0) (se_call C ckind_of (by omega) (sa_cons (se_ix (ix_F C.toCtx0) (se_var 4) (se_op op_subF (se_var 6) se_int)) sa_nil)) (se_var 3))))) (ss_one (ss_aug 6 C.nd se_int ip_subF)))
  (ss_cons (ss_while C.toCtx0 (sc_w (sw_and (sc_cmp (op_ltF C.toCtx0) (se_var 7) (se_blt C.toCtx0 (call_lenF C.toCtx0) G.n_len (by decide +kernel) (sa_cons (se_var 4) sa_nil))) (sw_one1 (sc_cmp (op_eqF C.toCtx0) (se_call C ckind_of (by omega) (sa_cons (se_ix (ix_F C.toCtx0) (se_var 4) (se_var 7)) sa_nil)) (se_var 3))))) (ss_one (ss_aug 7 C.nd se_int ip_addF)))
  (ss_cons (ss_while C.toCtx0 (sc_w (sw_and (sc_val (se_var 2)) (sw_and (sc_cmp (op_ltF C.toCtx0) (se_var 7) (se_blt C.toCtx0 (call_lenF C.toCtx0) G.n_len (by decide +kernel) (sa_cons (se_var 4) sa_nil))) (sw_one1 (sc_cmp (op_eqF C.toCtx0) (se_ix (ix_F C.toCtx0) (se_var 4) (se_var 7)) (se_str [32])))))) (ss_one (ss_aug 7 C.nd se_int ip_addF)))
  (ss_one (ss_ret (se_tup (sa_cons (se_str [115, 105, 103, 110, 115]) (sa_cons (se_tup (sa_cons (se_ix (ix_F C.toCtx0) (se_var 1) se_int) (sa_cons (se_var 6) sa_nil))) (sa_cons (se_tup (sa_cons (se_ix (ix_F C.toCtx0) (se_var 1) se_int) (sa_cons (se_var 7) sa_nil))) sa_nil)))))))))))))
theorem sc_quoted_about : FnScope ["text", "place", "wide", "row", "spots", "first", "last", "at", "sign"] ["text", "place", "wide"] (defScope s_quoted_about) := ⟨rfl, rfl, rfl, by decide +kernel, rfl, by decide +kernel, by decide +kernel⟩
theorem ok_quoted_about {W : Wd} (G : Gb W) (h : Has W "quoted_about" s_quoted_about) : Callee W "quoted_about" 1 F_quoted_about :=
  callee (k := 0) h sc_quoted_about (fun _ _ _ _ _ _ us hl => match us, hl with | [_, _, _], _ => rfl) fun f cdv A outer s H E C =>
  (ss_cons (ss_set 3 C.nd (se_ix (ix_F C.toCtx0) (se_var 0) (se_ix (ix_F C.toCtx0) (se_var 1) se_int)))
  (ss_cons (ss_setLc 4 (own := [("at", 7), ("sign", 8)]) C (sw_true rfl rfl rfl (by decide +kernel)) (si_enum C.toCtx0 G.n_enumerate (sa_cons (se_var 3) sa_nil)) (blkOk_by (N := ["text", "place", "wide", "row", "spots", "first", "last", "at", "sign"]) (sc := defScope s_quoted_about) (by decide +kernel)) (fun _ _ _ _ _ => sgw_tup (Ctx.blk C _ _ _ _ _).calm (Ctx.blk C _ _ _ _ _).eK (sgsw_cons (sgw_name 7 (Ctx.blk C _ _ _ _ _).nd) (sgsw_cons (sgw_name 8 (Ctx.blk C _ _ _ _ _).nd) sgsw_nil))) (fun _ _ _ _ _ => (sts_one (sc_cmp (op_eqF (Ctx.blk C _ _ _ _ _).toCtx0) (se_var 8) (se_str [34])))) (fun _ _ _ _ _ => (se_var 7)))
  (ss_cons (ss_for C (si_zip C.toCtx0 G.n_zip (sa_cons (se_slC (se_var 4) so_none) (sa_cons (se_slC (se_var 4) (so_some se_int)) sa_nil))) (sg_tup C (sgs_cons (sg_name 5 C.nd) (sgs_cons (sg_name 6 C.nd) sgs_nil))) (ss_one (ss_if (sc_chain (op_leF C.toCtx0) (op_leF C.toCtx0) (se_var 5) (se_ix (ix_F C.toCtx0) (se_var 1) se_int) (se_var 6)) (ss_cons (ss_if (sc_val (se_var 2)) (ss_one (ss_ret (se_tup (sa_cons (se_str [115, 105, 103, 110, 115]) (sa_cons (se_tup (sa_cons (se_ix (ix_F C.toCtx0) (se_var 1) se_int) (sa_cons (se_var 5) sa_nil))) (sa_cons (se_tup (sa_cons (se_ix (ix_F C.toCtx0) (se_var 1) se_int) (sa_cons (se_op (op_addF C.toCtx0) (se_var 6) se_int) sa_nil))) sa_nil)))))) ss_nil)
  (ss_one (ss_ret (se_tup (sa_cons (se_str [115, 105, 103, 110, 115]) (sa_cons (se_tup (sa_cons (se_ix (ix_F C.toCtx0) (se_var 1) se_int) (sa_cons (se_op (op_addF C.toCtx0) (se_var 5) se_int) sa_nil))) (sa_cons (se_tup (sa_cons (se_ix (ix_F C.toCtx0) (se_var 1) se_int) (sa_cons (se_var 6) sa_nil))) sa_nil))))))) ss_nil)))
  (ss_one (ss_ret se_non)))))
theorem sc_brackets_about : FnScope ["text", "place", "wide", "opens", "first", "last", "at", "row", "spot", "sign", "one"] ["text", "place", "wide"] (defScope s_brackets_about) := ⟨rfl, rfl, rfl, by decide +kernel, rfl, by decide +kernel, by decide +kernel⟩
theorem ok_brackets_about {W : Wd} (G : Gb W) (h : Has W "brackets_about" s_brackets_about) (cpartner : Callee W "partner" 1 F_partner) : Callee W "brackets_about" 2 F_brackets_about :=
  callee (k := 1) h sc_brackets_about (fun _ _ _ _ _ _ us hl => match us, hl with | [_, _, _], _ => rfl) fun f cdv A outer s H E C =>
  (ss_cons (ss_setLc2 3 (own := [("at", 6), ("row", 7), ("spot", 8), ("sign", 9)]) (vs1 := [8, 9]) C (sw_true rfl rfl rfl (by decide +kernel)) (si_enum C.toCtx0 G.n_enumerate (sa_cons (se_var 0) sa_nil)) (blkOk_by (N := ["text", "place", "wide", "opens", "first", "last", "at", "row", "spot", "sign", "one"]) (sc := defScope s_brackets_about) (by decide +kernel)) (by decide) (fun _ _ _ _ _ => sgw_tup (Ctx.blk C _ _ _ _ _).calm (Ctx.blk C _ _ _ _ _).eK (sgsw_cons (sgw_name 6 (Ctx.blk C _ _ _ _ _).nd) (sgsw_cons (sgw_name 7 (Ctx.blk C _ _ _ _ _).nd) sgsw_nil))) (fun _ _ _ _ _ => sts_nil) (fun _ _ _ _ _ => (si_enum (Ctx.blk C _ _ _ _ _).toCtx0 G.n_enumerate (sa_cons (se_var 7) sa_nil))) (fun _ _ _ _ _ => sgw_tup (Ctx.blk C _ _ _ _ _).calm (Ctx.blk C _ _ _ _ _).eK (sgsw_cons (sgw_name 8 (Ctx.blk C _ _ _ _ _).nd) (sgsw_cons (sgw_name 9 (Ctx.blk C _ _ _ _ _).nd) sgsw_nil))) (fun _ _ _ _ _ => (sts_one (sc_cmp (op_eqF (Ctx.blk C _ _ _ _ _).toCtx0) (se_var 9) (se_str [40])))) (fun _ _ _ _ _ => (se_tup (sa_cons (se_var 6) (sa_cons (se_var 8) sa_nil)))))
  (ss_cons (ss_for C (si_rev C.toCtx0 G.n_reversed (se_lc (own := [("one", 10)]) C (si_any C.toCtx0 (se_var 3)) (blkOk_by (N := ["text", "place", "wide", "opens", "first", "last", "at", "row", "spot", "sign", "one"]) (sc := defScope s_brackets_about) (by decide +kernel)) (fun _ _ _ _ _ => sgw_name 10 (Ctx.blk C _ _ _ _ _).nd) (fun _ _ _ _ _ => (sts_one (sc_cmp (op_leF (Ctx.blk C _ _ _ _ _).toCtx0) (se_var 10) (se_var 1)))) (fun _ _ _ _ _ => (se_var 10)))) (sg_name 4 C.nd) (ss_cons (ss_set 5 C.nd (se_call C cpartner (by omega) (sa_cons (se_var 0) (sa_cons (se_var 4) sa_nil))))
  (ss_one (ss_if (sc_w (sw_and (sc_cmp op_isnF (se_var 5) se_non) (sw_one1 (sc_cmp (op_geF C.toCtx0) (se_var 5) (se_var 1))))) (ss_cons (ss_if (sc_val (se_var 2)) (ss_one (ss_ret (se_tup (sa_cons (se_str [115, 105, 103, 110, 115]) (sa_cons (se_var 4) (sa_cons (se_tup (sa_cons (se_ix (ix_F C.toCtx0) (se_var 5) se_int) (sa_cons (se_op (op_addF C.toCtx0) (se_ix (ix_F C.toCtx0) (se_var 5) se_int) se_int) sa_nil))) sa_nil)))))) ss_nil)
  (ss_one (ss_ret (se_tup (sa_cons (se_str [115, 105, 103, 110, 115]) (sa_cons (se_tup (sa_cons (se_ix (ix_F C.toCtx0) (se_var 4) se_int) (sa_cons (se_op (op_addF C.toCtx0) (se_ix (ix_F C.toCtx0) (se_var 4) se_int) se_int) sa_nil))) (sa_cons (se_var 5) sa_nil))))))) ss_nil))))
  (ss_one (ss_ret se_non))))
theorem sc_rows_about : FnScope ["text", "place", "wide", "empty", "first", "last"] ["text", "place", "wide"] (defScope s_rows_about) := ⟨rfl, rfl, rfl, by decide +kernel, rfl, by decide +kernel, by decide +kernel⟩
theorem ok_rows_about {W : Wd} (G : Gb W) (h : Has W "rows_about" s_rows_about) : Callee W "rows_about" 1 F_rows_about :=
  callee (k := 0) h sc_rows_about (fun _ _ _ _ _ _ us hl => match us, hl with | [_, _, _], _ => rfl) fun f cdv A outer s H E C =>
  (ss_cons (ss_par 4 5 C (sa_cons (se_ix (ix_F C.toCtx0) (se_var 1) se_int) (sa_cons (se_ix (ix_F C.toCtx0) (se_var 1) se_int) sa_nil)))
  (ss_cons (ss_set 3 C.nd (se_cmp (op_eqF C.toCtx0) (se_ix (ix_F C.toCtx0) (se_var 0) (se_var 4)) (se_str [])))
  (ss_cons (ss_while C.toCtx0 (sc_w (sw_and (sc_cmp (op_gtF C.toCtx0) (se_var 4) se_int) (sw_one1 (sc_cmp (op_eqF C.toCtx0) (se_cmp (op_eqF C.toCtx0) (se_ix (ix_F C.toCtx0) (se_var 0) (se_op op_subF (se_var 4) se_int)) (se_str [])) (se_var 3))))) (ss_one (ss_aug 4 C.nd se_int ip_subF)))
  (ss_cons (ss_while C.toCtx0 (sc_w (sw_and (sc_cmp (op_ltF C.toCtx0) (se_op (op_addF C.toCtx0) (se_var 5) se_int) (se_blt C.toCtx0 (call_lenF C.toCtx0) G.n_len (by decide +kernel) (sa_cons (se_var 0) sa_nil))) (sw_one1 (sc_cmp (op_eqF C.toCtx0) (se_cmp (op_eqF C.toCtx0) (se_ix (ix_F C.toCtx0) (se_var 0) (se_op (op_addF C.toCtx0) (se_var 5) se_int)) (se_str [])) (se_var 3))))) (ss_one (ss_aug 5 C.nd se_int ip_addF)))
  (ss_cons (ss_while C.toCtx0 (sc_w (sw_and (sc_val (se_var 2)) (sw_and (sc_not (sc_val (se_var 3))) (sw_and (sc_cmp (op_ltF C.toCtx0) (se_op (op_addF C.toCtx0) (se_var 5) se_int) (se_blt C.toCtx0 (call_lenF C.toCtx0) G.n_len (by decide +kernel) (sa_cons (se_var 0) sa_nil))) (sw_one1 (sc_cmp (op_eqF C.toCtx0) (se_ix (ix_F C.toCtx0) (se_var 0) (se_op (op_addF C.toCtx0) (se_var 5) se_int)) (se_str []))))))) (ss_one (ss_aug 5 C.nd se_int ip_addF)))
  (ss_one (ss_ret (se_tup (sa_cons (se_str [114, 111, 119, 115]) (sa_cons (se_tup (sa_cons (se_var 4) (sa_cons se_int sa_nil))) (sa_cons (se_tup (sa_cons (se_var 5) (sa_cons (se_blt C.toCtx0 (call_lenF C.toCtx0) G.n_len (by decide +kernel) (sa_cons (se_ix (ix_F C.toCtx0) (se_var 0) (se_var 5)) sa_nil)) sa_nil))) sa_nil)))))))))))
theorem sc_around : FnScope ["text", "place", "keys", "wide"] ["text", "place", "keys"] (defScope s_around) := ⟨rfl, rfl, rfl, by decide +kernel, rfl, by decide +kernel, by decide +kernel⟩
theorem ok_around {W : Wd} (G : Gb W) (h : Has W "around" s_around) (crows_about : Callee W "rows_about" 1 F_rows_about) (cbrackets_about : Callee W "brackets_about" 2 F_brackets_about) (cquoted_about : Callee W "quoted_about" 1 F_quoted_about) (cword_about : Callee W "word_about" 2 F_word_about) : Callee W "around" 3 F_around :=
  callee (k := 2) h sc_around (fun _ _ _ _ _ _ us hl => match us, hl with | [_, _, _], _ => rfl) fun f cdv A outer s H E C =>
  (ss_cons (ss_set 3 C.nd (se_cmp (op_eqF C.toCtx0) (se_ix (ix_F C.toCtx0) (se_var 2) se_int) (se_str [97])))
  (ss_cons (ss_if (sc_cmp (op_eqF C.toCtx0) (se_ix (ix_F C.toCtx0) (se_var 2) se_int) (se_str [119])) (ss_one (ss_ret (se_call C cword_about (by omega) (sa_cons (se_var 0) (sa_cons (se_var 1) (sa_cons (se_var 3) sa_nil)))))) ss_nil)
  (ss_cons (ss_if (sc_cmp (op_eqF C.toCtx0) (se_ix (ix_F C.toCtx0) (se_var 2) se_int) (se_str [113])) (ss_one (ss_ret (se_call C cquoted_about (by omega) (sa_cons (se_var 0) (sa_cons (se_var 1) (sa_cons (se_var 3) sa_nil)))))) ss_nil)
  (ss_cons (ss_if (sc_cmp (op_eqF C.toCtx0) (se_ix (ix_F C.toCtx0) (se_var 2) se_int) (se_str [98])) (ss_one (ss_ret (se_call C cbrackets_about (by omega) (sa_cons (se_var 0) (sa_cons (se_var 1) (sa_cons (se_var 3) sa_nil)))))) ss_nil)
  (ss_one (ss_ret (se_call C crows_about (by omega) (sa_cons (se_var 0) (sa_cons (se_var 1) (sa_cons (se_var 3) sa_nil))))))))))
theorem sc__law_well : FnScope ["script", "k", "cell", "primes", "seed"] ["script", "k"] (defScope s__law_well) := ⟨rfl, rfl, rfl, by decide +kernel, rfl, by decide +kernel, by decide +kernel⟩
theorem ok__law_well {W : Wd} (G : Gb W) (h : Has W "_law_well" s__law_well) : Callee W "_law_well" 1 L_well :=
  callee (k := 0) h sc__law_well (fun _ _ _ _ _ _ us hl => match us, hl with | [_, _], _ => rfl) fun f cdv A outer s H E C =>
  (ss_cons (ss_set 2 C.nd se_int)
  (ss_cons (ss_if (sc_cmp (op_ltF C.toCtx0) (se_var 1) (se_blt C.toCtx0 (call_lenF C.toCtx0) G.n_len (by decide +kernel) (sa_cons (se_var 0) sa_nil))) (ss_one (ss_set 2 C.nd (se_ix (ix_F C.toCtx0) (se_var 0) (se_var 1)))) ss_nil)
  (ss_cons (ss_set 3 C.nd (se_lst (sa_cons se_int (sa_cons se_int (sa_cons se_int (sa_cons se_int (sa_cons se_int (sa_cons se_int (sa_cons se_int (sa_cons se_int sa_nil))))))))))
  (ss_cons (ss_set 4 C.nd (se_op op_modF (se_op (op_mulLF C.toCtx0) (se_op (op_addF C.toCtx0) (se_op op_modF (se_var 2) se_int) se_int) (se_op (op_addF C.toCtx0) se_int (se_op (op_mulLF C.toCtx0) se_int (se_var 1)))) se_int))
  (ss_cons (ss_set 4 C.nd (se_op (op_addF C.toCtx0) (se_op (op_addF C.toCtx0) (se_op op_modF (se_op (op_mulLF C.toCtx0) (se_var 4) (se_var 4)) se_int) (se_var 1)) se_int))
  (ss_cons (ss_if (sc_cmp (op_geF C.toCtx0) (se_var 2) (se_op op_powF se_int se_int)) (ss_one (ss_ret (se_lst (sa_cons (se_var 2) (sa_cons (se_var 4) (sa_cons (se_ix (ix_F C.toCtx0) (se_var 3) (se_op op_modF (se_var 1) se_int)) sa_nil)))))) ss_nil)
  (ss_one (ss_ret (se_lst (sa_cons se_int (sa_cons (se_var 4) (sa_cons (se_ix (ix_F C.toCtx0) (se_var 3) (se_op op_modF (se_var 1) se_int)) sa_nil))))))))))))
theorem sc__law_take : FnScope ["well", "many", "got"] ["well", "many"] (defScope s__law_take) := ⟨rfl, rfl, rfl, by decide +kernel, rfl, by decide +kernel, by decide +kernel⟩
theorem ok__law_take {W : Wd} (G : Gb W) (h : Has W "_law_take" s__law_take) : Callee W "_law_take" 1 L_take :=
  callee (k := 0) h sc__law_take (fun _ _ _ _ _ _ us hl => match us, hl with | [_, _], _ => rfl) fun f cdv A outer s H E C =>
  (ss_cons (ss_if (sc_cmp (op_gtF C.toCtx0) (se_ix (ix_F C.toCtx0) (se_var 0) se_int) se_int) (ss_cons (ss_set 2 C.nd (se_op op_modF (se_ix (ix_F C.toCtx0) (se_var 0) se_int) (se_var 1)))
  (ss_cons (ss_asg (se_op op_divF (se_ix (ix_F C.toCtx0) (se_var 0) se_int) (se_var 1)) (sg_sub C.toCtx0 (se_var 0) se_int (set_F C.toCtx0)))
  (ss_one (ss_ret (se_var 2))))) ss_nil)
  (ss_cons (ss_asg (se_op (op_addF C.toCtx0) (se_op op_modF (se_op (op_mulLF C.toCtx0) (se_ix (ix_F C.toCtx0) (se_var 0) se_int) se_int) (se_ix (ix_F C.toCtx0) (se_var 0) se_int)) se_int) (sg_sub C.toCtx0 (se_var 0) se_int (set_F C.toCtx0)))
  (ss_one (ss_ret (se_op op_modF (se_op op_divF (se_op op_modF (se_op (op_mulLF C.toCtx0) (se_ix (ix_F C.toCtx0) (se_var 0) se_int) (se_ix (ix_F C.toCtx0) (se_var 0) se_int)) se_int) se_int) (se_var 1))))))
theorem sc__law_row : FnScope ["well", "parts", "many", "turn"] ["well"] (defScope s__law_row) := ⟨rfl, rfl, rfl, by decide +kernel, rfl, by decide +kernel, by decide +kernel⟩
theorem ok__law_row {W : Wd} (G : Gb W) (h : Has W "_law_row" s__law_row) (c_law_take : Callee W "_law_take" 1 L_take) : Callee W "_law_row" 2 L_row :=
  callee (k := 1) h sc__law_row (fun _ _ _ _ _ _ us hl => match us, hl with | [_], _ => rfl) fun f cdv A outer s H E C =>
  (ss_cons (ss_set 1 C.nd (se_lst (sa_cons (se_str [97, 98]) (sa_cons (se_str [70, 111, 111, 95, 49]) (sa_cons (se_str [32]) (sa_cons (se_str [32]) (sa_cons (se_str [32, 32]) (sa_cons (se_str [40]) (sa_cons (se_str [41]) (sa_cons (se_str [91, 120, 93]) (sa_cons (se_str [34]) (sa_cons (se_str [45, 45]) (sa_cons (se_str [122, 57]) (sa_cons (se_str [97]) (sa_cons (se_str [123]) (sa_cons (se_str [125]) (sa_cons (se_str [98, 32, 98]) (sa_cons (se_str [44]) (sa_cons (se_str [81]) sa_nil)))))))))))))))))))
  (ss_cons (ss_set 2 C.nd (se_call C c_law_take (by omega) (sa_cons (se_var 0) (sa_cons (se_ix (ix_F C.toCtx0) (se_lst (sa_cons se_int (sa_cons se_int sa_nil))) (se_call C c_law_take (by omega) (sa_cons (se_var 0) (sa_cons se_int sa_nil)))) sa_nil))))
  (ss_one (ss_ret (se_mt C.toCtx0 PySem.F.plainAttrs_str PySem.F.slot_str_join PySem.F.type_str_join (mt_joinF C.toCtx0) (se_str []) (sa_cons (se_lc (own := [("turn", 3)]) C (si_rng1 C.toCtx0 G.n_range (sa_cons (se_var 2) sa_nil)) (blkOk_by (N := ["well", "parts", "many", "turn"]) (sc := defScope s__law_row) (by decide +kernel)) (fun _ _ _ _ _ => sgw_name 3 (Ctx.blk C _ _ _ _ _).nd) (fun _ _ _ _ _ => sts_nil) (fun _ _ _ _ _ => (se_ix (ix_F (Ctx.blk C _ _ _ _ _).toCtx0) (se_var 1) (se_call (Ctx.blk C _ _ _ _ _) c_law_take (by omega) (sa_cons (se_var 0) (sa_cons se_int sa_nil)))))) sa_nil))))))
theorem sc__law_text : FnScope ["well", "most", "rows", "turn"] ["well", "most"] (defScope s__law_text) := ⟨rfl, rfl, rfl, by decide +kernel, rfl, by decide +kernel, by decide +kernel⟩
theorem ok__law_text {W : Wd} (G : Gb W) (h : Has W "_law_text" s__law_text) (c_law_take : Callee W "_law_take" 1 L_take) (c_law_row : Callee W "_law_row" 2 L_row) : Callee W "_law_text" 3 L_text :=
  callee (k := 2) h sc__law_text (fun _ _ _ _ _ _ us hl => match us, hl with | [_, _], _ => rfl) fun f cdv A outer s H E C =>
  (ss_cons (ss_set 2 C.nd (se_lst sa_nil))
  (ss_cons (ss_for C (si_rng1 C.toCtx0 G.n_range (sa_cons (se_op (op_addF C.toCtx0) se_int (se_call C c_law_take (by omega) (sa_cons (se_var 0) (sa_cons (se_var 1) sa_nil)))) sa_nil)) (sg_name 3 C.nd) (ss_one (ss_expr (se_mt C.toCtx0 PySem.F.plainAttrs_list PySem.F.slot_list_append PySem.F.type_list_append mt_appendF (se_var 2) (sa_cons (se_if (sc_cmp (op_eqF C.toCtx0) (se_call C c_law_take (by omega) (sa_cons (se_var 0) (sa_cons se_int sa_nil))) se_int) (se_str []) (se_call C c_law_row (by omega) (sa_cons (se_var 0) sa_nil))) sa_nil)))))
  (ss_one (ss_ret (se_bty C.toCtx0 (call_tupF C.toCtx0) G.n_tuple (by decide +kernel) (sa_cons (se_var 2) sa_nil))))))
theorem sc__law_place : FnScope ["well", "text", "row"] ["well", "text"] (defScope s__law_place) := ⟨rfl, rfl, rfl, by decide +kernel, rfl, by decide +kernel, by decide +kernel⟩
theorem ok__law_place {W : Wd} (G : Gb W) (h : Has W "_law_place" s__law_place) (c_law_take : Callee W "_law_take" 1 L_take) : Callee W "_law_place" 2 L_place :=
  callee (k := 1) h sc__law_place (fun _ _ _ _ _ _ us hl => match us, hl with | [_, _], _ => rfl) fun f cdv A outer s H E C =>
  (ss_cons (ss_set 2 C.nd (se_call C c_law_take (by omega) (sa_cons (se_var 0) (sa_cons (se_blt C.toCtx0 (call_lenF C.toCtx0) G.n_len (by decide +kernel) (sa_cons (se_var 1) sa_nil)) sa_nil))))
  (ss_one (ss_ret (se_tup (sa_cons (se_var 2) (sa_cons (se_call C c_law_take (by omega) (sa_cons (se_var 0) (sa_cons (se_op (op_addF C.toCtx0) (se_blt C.toCtx0 (call_lenF C.toCtx0) G.n_len (by decide +kernel) (sa_cons (se_ix (ix_F C.toCtx0) (se_var 1) (se_var 2)) sa_nil)) se_int) sa_nil))) sa_nil))))))
theorem sc__law_sort : FnScope ["sign", "low"] ["sign"] (defScope s__law_sort) := ⟨rfl, rfl, rfl, by decide +kernel, rfl, by decide +kernel, by decide +kernel⟩
theorem ok__law_sort {W : Wd} (G : Gb W) (h : Has W "_law_sort" s__law_sort) : Callee W "_law_sort" 1 L_sort :=
  callee (k := 0) h sc__law_sort (fun _ _ _ _ _ _ us hl => match us, hl with | [_], _ => rfl) fun f cdv A outer s H E C =>
  (ss_cons (ss_if (sc_cmp (op_eqF C.toCtx0) (se_var 0) (se_str [32])) (ss_one (ss_ret (se_str [98, 108, 97, 110, 107]))) ss_nil)
  (ss_cons (ss_set 1 C.nd (se_str [97, 98, 99, 100, 101, 102, 103, 104, 105, 106, 107, 108, 109, 110, 111, 112, 113, 114, 115, 116, 117, 118, 119, 120, 121, 122]))
  (ss_one (ss_ret (se_if (sc_cmp (op_inF C.toCtx0) (se_var 0) (se_op (op_addF C.toCtx0) (se_op (op_addF C.toCtx0) (se_var 1) (se_mt0 C.toCtx0 PySem.F.plainAttrs_str PySem.F.slot_str_upper PySem.F.type_str_upper mt_upperF (se_var 1))) (se_str [48, 49, 50, 51, 52, 53, 54, 55, 56, 57, 95]))) (se_str [119, 111, 114, 100]) (se_str [111, 116, 104, 101, 114]))))))
theorem sc__law_word : FnScope ["text", "place", "wide", "row", "spot", "first", "last"] ["text", "place", "wide"] (defScope s__law_word) := ⟨rfl, rfl, rfl, by decide +kernel, rfl, by decide +kernel, by decide +kernel⟩
theorem ok__law_word {W : Wd} (G : Gb W) (h : Has W "_law_word" s__law_word) (c_law_sort : Callee W "_law_sort" 1 L_sort) : Callee W "_law_word" 2 L_word :=
  callee (k := 1) h sc__law_word (fun _ _ _ _ _ _ us hl => match us, hl with | [_, _, _], _ => rfl) fun f cdv A outer s H E C =>
  (ss_cons (ss_par 3 4 C (sa_cons (se_ix (ix_F C.toCtx0) (se_var 0) (se_ix (ix_F C.toCtx0) (se_var 1) se_int)) (sa_cons (se_ix (ix_F C.toCtx0) (se_var 1) se_int) sa_nil)))
  (ss_cons (ss_if (sc_cmp (op_eqF C.toCtx0) (se_var 4) (se_blt C.toCtx0 (call_lenF C.toCtx0) G.n_len (by decide +kernel) (sa_cons (se_var 3) sa_nil))) (ss_one (ss_ret se_non)) ss_nil)
  (ss_cons (ss_par 5 6 C (sa_cons (se_var 4) (sa_cons (se_op (op_addF C.toCtx0) (se_var 4) se_int) sa_nil)))
  (ss_cons (ss_while C.toCtx0 (sc_w (sw_and (sc_cmp (op_gtF C.toCtx0) (se_var 5) se_int) (sw_one1 (sc_cmp (op_eqF C.toCtx0) (se_call C c_law_sort (by omega) (sa_cons (se_ix (ix_F C.toCtx0) (se_var 3) (se_op op_subF (se_var 5) se_int)) sa_nil)) (se_call C c_law_sort (by omega) (sa_cons (se_ix (ix_F C.toCtx0) (se_var 3) (se_var 4)) sa_nil)))))) (ss_one (ss_set 5 C.nd (se_op op_subF (se_var 5) se_int))))
  (ss_cons (ss_while C.toCtx0 (sc_w (sw_and (sc_cmp (op_ltF C.toCtx0) (se_var 6) (se_blt C.toCtx0 (call_lenF C.toCtx0) G.n_len (by decide +kernel) (sa_cons (se_var 3) sa_nil))) (sw_one1 (sc_cmp (op_eqF C.toCtx0) (se_call C c_law_sort (by omega) (sa_cons (se_ix (ix_F C.toCtx0) (se_var 3) (se_var 6)) sa_nil)) (se_call C c_law_sort (by omega) (sa_cons (se_ix (ix_F C.toCtx0) (se_var 3) (se_var 4)) sa_nil)))))) (ss_one (ss_set 6 C.nd (se_op (op_addF C.toCtx0) (se_var 6) se_int))))
  (ss_cons (ss_while C.toCtx0 (sc_w (sw_and (sc_val (se_var 2)) (sw_and (sc_cmp (op_ltF C.toCtx0) (se_var 6) (se_blt C.toCtx0 (call_lenF C.toCtx0) G.n_len (by decide +kernel) (sa_cons (se_var 3) sa_nil))) (sw_one1 (sc_cmp (op_eqF C.toCtx0) (se_ix (ix_F C.toCtx0) (se_var 3) (se_var 6)) (se_str [32])))))) (ss_one (ss_set 6 C.nd (se_op (op_addF C.toCtx0) (se_var 6) se_int))))
  (ss_one (ss_ret (se_tup (sa_cons (se_str [115, 105, 103, 110, 115]) (sa_cons (se_tup (sa_cons (se_ix (ix_F C.toCtx0) (se_var 1) se_int) (sa_cons (se_var 5) sa_nil))) (sa_cons (se_tup (sa_cons (se_ix (ix_F C.toCtx0) (se_var 1) se_int) (sa_cons (se_var 6) sa_nil))) sa_nil))))))))))))
theorem sc__law_quote : FnScope ["text", "place", "wide", "row", "marks", "k", "at", "more"] ["text", "place", "wide"] (defScope s__law_quote) := ⟨rfl, rfl, rfl, by decide +kernel, rfl, by decide +kernel, by decide +kernel⟩
theorem ok__law_quote {W : Wd} (G : Gb W) (h : Has W "_law_quote" s__law_quote) : Callee W "_law_quote" 1 L_quote :=
  callee (k := 0) h sc__law_quote (fun _ _ _ _ _ _ us hl => match us, hl with | [_, _, _], _ => rfl) fun f cdv A outer s H E C =>
  (ss_cons (ss_set 3 C.nd (se_ix (ix_F C.toCtx0) (se_var 0) (se_ix (ix_F C.toCtx0) (se_var 1) se_int)))
  (ss_cons (ss_setLc 4 (own := [("at", 6)]) C (sw_true rfl rfl rfl (by decide +kernel)) (si_rng1 C.toCtx0 G.n_range (sa_cons (se_blt C.toCtx0 (call_lenF C.toCtx0) G.n_len (by decide +kernel) (sa_cons (se_var 3) sa_nil)) sa_nil)) (blkOk_by (N := ["text", "place", "wide", "row", "marks", "k", "at", "more"]) (sc := defScope s__law_quote) (by decide +kernel)) (fun _ _ _ _ _ => sgw_name 6 (Ctx.blk C _ _ _ _ _).nd) (fun _ _ _ _ _ => (sts_one (sc_cmp (op_eqF (Ctx.blk C _ _ _ _ _).toCtx0) (se_ix (ix_F (Ctx.blk C _ _ _ _ _).toCtx0) (se_var 3) (se_var 6)) (se_str [34])))) (fun _ _ _ _ _ => (se_var 6)))
  (ss_cons (ss_for C (si_rng3 C.toCtx0 G.n_range (sa_cons se_int (sa_cons (se_op op_subF (se_blt C.toCtx0 (call_lenF C.toCtx0) G.n_len (by decide +kernel) (sa_cons (se_var 4) sa_nil)) se_int) (sa_cons se_int sa_nil)))) (sg_name 5 C.nd) (ss_one (ss_if (sc_w (sw_and (sc_cmp (op_leF C.toCtx0) (se_ix (ix_F C.toCtx0) (se_var 4) (se_var 5)) (se_ix (ix_F C.toCtx0) (se_var 1) se_int)) (sw_one1 (sc_cmp (op_leF C.toCtx0) (se_ix (ix_F C.toCtx0) (se_var 1) se_int) (se_ix (ix_F C.toCtx0) (se_var 4) (se_op (op_addF C.toCtx0) (se_var 5) se_int)))))) (ss_cons (ss_set 7 C.nd (se_bty C.toCtx0 call_intF G.n_int (by decide +kernel) (sa_cons (se_var 2) sa_nil)))
  (ss_one (ss_ret (se_tup (sa_cons (se_str [115, 105, 103, 110, 115]) (sa_cons (se_tup (sa_cons (se_ix (ix_F C.toCtx0) (se_var 1) se_int) (sa_cons (se_op op_subF (se_op (op_addF C.toCtx0) (se_ix (ix_F C.toCtx0) (se_var 4) (se_var 5)) se_int) (se_var 7)) sa_nil))) (sa_cons (se_tup (sa_cons (se_ix (ix_F C.toCtx0) (se_var 1) se_int) (sa_cons (se_op (op_addF C.toCtx0) (se_ix (ix_F C.toCtx0) (se_var 4) (se_op (op_addF C.toCtx0) (se_var 5) se_int)) (se_var 7)) sa_nil))) sa_nil))))))) ss_nil)))
  (ss_one (ss_ret se_non)))))
theorem sc__law_round : FnScope ["text", "place", "wide", "some", "pile", "pairs", "at", "row", "spot", "first", "last", "pair"] ["text", "place", "wide"] (defScope s__law_round) := ⟨rfl, rfl, rfl, by decide +kernel, rfl, by decide +kernel, by decide +kernel⟩
theorem ok__law_round {W : Wd} (G : Gb W) (h : Has W "_law_round" s__law_round) : Callee W "_law_round" 1 L_round :=
  callee (k := 0) h sc__law_round (fun _ _ _ _ _ _ us hl => match us, hl with | [_, _, _], _ => rfl) fun f cdv A outer s H E C =>
  (ss_cons (ss_par 4 5 C (sa_cons (se_lst sa_nil) (sa_cons (se_lst sa_nil) sa_nil)))
  (ss_cons (ss_for C (si_enum C.toCtx0 G.n_enumerate (sa_cons (se_var 0) sa_nil)) (sg_tup C (sgs_cons (sg_name 6 C.nd) (sgs_cons (sg_name 7 C.nd) sgs_nil))) (ss_one (ss_for C (si_rng1 C.toCtx0 G.n_range (sa_cons (se_blt C.toCtx0 (call_lenF C.toCtx0) G.n_len (by decide +kernel) (sa_cons (se_var 7) sa_nil)) sa_nil)) (sg_name 8 C.nd) (ss_one (ss_if (sc_cmp (op_eqF C.toCtx0) (se_ix (ix_F C.toCtx0) (se_var 7) (se_var 8)) (se_str [40])) (ss_one (ss_expr (se_mt C.toCtx0 PySem.F.plainAttrs_list PySem.F.slot_list_append PySem.F.type_list_append mt_appendF (se_var 4) (sa_cons (se_tup (sa_cons (se_var 6) (sa_cons (se_var 8) sa_nil))) sa_nil)))) (ss_one (ss_if (sc_w (sw_and (sc_cmp (op_eqF C.toCtx0) (se_ix (ix_F C.toCtx0) (se_var 7) (se_var 8)) (se_str [41])) (sw_one1 (sc_cmp (op_neF C.toCtx0) (se_var 4) (se_lst sa_nil))))) (ss_one (ss_expr (se_mt C.toCtx0 PySem.F.plainAttrs_list PySem.F.slot_list_append PySem.F.type_list_append mt_appendF (se_var 5) (sa_cons (se_tup (sa_cons (se_mt0 C.toCtx0 PySem.F.plainAttrs_list PySem.F.slot_list_pop PySem.F.type_list_pop mt_popF (se_var 4)) (sa_cons (se_tup (sa_cons (se_var 6) (sa_cons (se_var 8) sa_nil))) sa_nil))) sa_nil)))) ss_nil)))))))
  (ss_cons (ss_setLc 3 (own := [("pair", 11)]) C (sw_true rfl rfl rfl (by decide +kernel)) (si_any C.toCtx0 (se_var 5)) (blkOk_by (N := ["text", "place", "wide", "some", "pile", "pairs", "at", "row", "spot", "first", "last", "pair"]) (sc := defScope s__law_round) (by decide +kernel)) (fun _ _ _ _ _ => sgw_name 11 (Ctx.blk C _ _ _ _ _).nd) (fun _ _ _ _ _ => (sts_one (sc_w (sw_and (sc_cmp (op_leF (Ctx.blk C _ _ _ _ _).toCtx0) (se_ix (ix_F (Ctx.blk C _ _ _ _ _).toCtx0) (se_var 11) se_int) (se_var 1)) (sw_one1 (sc_cmp (op_leF (Ctx.blk C _ _ _ _ _).toCtx0) (se_var 1) (se_ix (ix_F (Ctx.blk C _ _ _ _ _).toCtx0) (se_var 11) se_int))))))) (fun _ _ _ _ _ => (se_var 11)))
  (ss_cons (ss_if (sc_cmp (op_eqF C.toCtx0) (se_var 3) (se_lst sa_nil)) (ss_one (ss_ret se_non)) ss_nil)
  (ss_cons (ss_asg (se_blt C.toCtx0 (call_maxPF C.toCtx0 C.calm) G.n_max (by decide +kernel) (sa_cons (se_var 3) sa_nil)) (sg_tup C (sgs_cons (sg_name 9 C.nd) (sgs_cons (sg_name 10 C.nd) sgs_nil))))
  (ss_cons (ss_if (sc_val (se_var 2)) (ss_one (ss_ret (se_tup (sa_cons (se_str [115, 105, 103, 110, 115]) (sa_cons (se_var 9) (sa_cons (se_tup (sa_cons (se_ix (ix_F C.toCtx0) (se_var 10) se_int) (sa_cons (se_op (op_addF C.toCtx0) (se_ix (ix_F C.toCtx0) (se_var 10) se_int) se_int) sa_nil))) sa_nil)))))) ss_nil)
  (ss_one (ss_ret (se_tup (sa_cons (se_str [115, 105, 103, 110, 115]) (sa_cons (se_tup (sa_cons (se_ix (ix_F C.toCtx0) (se_var 9) se_int) (sa_cons (se_op (op_addF C.toCtx0) (se_ix (ix_F C.toCtx0) (se_var 9) se_int) se_int) sa_nil))) (sa_cons (se_var 10) sa_nil))))))))))))
theorem sc__law_rows : FnScope ["text", "place", "wide", "bare", "first", "last", "row"] ["text", "place", "wide"] (defScope s__law_rows) := ⟨rfl, rfl, rfl, by decide +kernel, rfl, by decide +kernel, by decide +kernel⟩
theorem ok__law_rows {W : Wd} (G : Gb W) (h : Has W "_law_rows" s__law_rows) : Callee W "_law_rows" 1 L_rows :=
  callee (k := 0) h sc__law_rows (fun _ _ _ _ _ _ us hl => match us, hl with | [_, _, _], _ => rfl) fun f cdv A outer s H E C =>
  (ss_cons (ss_setLc 3 (own := [("row", 6)]) C (sw_true rfl rfl rfl (by decide +kernel)) (si_any C.toCtx0 (se_var 0)) (blkOk_by (N := ["text", "place", "wide", "bare", "first", "last", "row"]) (sc := defScope s__law_rows) (by decide +kernel)) (fun _ _ _ _ _ => sgw_name 6 (Ctx.blk C _ _ _ _ _).nd) (fun _ _ _ _ _ => sts_nil) (fun _ _ _ _ _ => (se_cmp (op_eqF (Ctx.blk C _ _ _ _ _).toCtx0) (se_var 6) (se_str []))))
  (ss_cons (ss_par 4 5 C (sa_cons (se_ix (ix_F C.toCtx0) (se_var 1) se_int) (sa_cons (se_ix (ix_F C.toCtx0) (se_var 1) se_int) sa_nil)))
  (ss_cons (ss_while C.toCtx0 (sc_w (sw_and (sc_cmp (op_gtF C.toCtx0) (se_var 4) se_int) (sw_one1 (sc_cmp (op_eqF C.toCtx0) (se_ix (ix_F C.toCtx0) (se_var 3) (se_op op_subF (se_var 4) se_int)) (se_ix (ix_F C.toCtx0) (se_var 3) (se_ix (ix_F C.toCtx0) (se_var 1) se_int)))))) (ss_one (ss_set 4 C.nd (se_op op_subF (se_var 4) se_int))))
  (ss_cons (ss_while C.toCtx0 (sc_w (sw_and (sc_cmp (op_ltF C.toCtx0) (se_op (op_addF C.toCtx0) (se_var 5) se_int) (se_blt C.toCtx0 (call_lenF C.toCtx0) G.n_len (by decide +kernel) (sa_cons (se_var 0) sa_nil))) (sw_one1 (sc_cmp (op_eqF C.toCtx0) (se_ix (ix_F C.toCtx0) (se_var 3) (se_op (op_addF C.toCtx0) (se_var 5) se_int)) (se_ix (ix_F C.toCtx0) (se_var 3) (se_ix (ix_F C.toCtx0) (se_var 1) se_int)))))) (ss_one (ss_set 5 C.nd (se_op (op_addF C.toCtx0) (se_var 5) se_int))))
  (ss_cons (ss_while C.toCtx0 (sc_w (sw_and (sc_val (se_var 2)) (sw_and (sc_cmp (op_ltF C.toCtx0) (se_op (op_addF C.toCtx0) (se_var 5) se_int) (se_blt C.toCtx0 (call_lenF C.toCtx0) G.n_len (by decide +kernel) (sa_cons (se_var 0) sa_nil))) (sw_and (sc_val (se_ix (ix_F C.toCtx0) (se_var 3) (se_op (op_addF C.toCtx0) (se_var 5) se_int))) (sw_one1 (sc_not (sc_val (se_ix (ix_F C.toCtx0) (se_var 3) (se_ix (ix_F C.toCtx0) (se_var 1) se_int))))))))) (ss_one (ss_set 5 C.nd (se_op (op_addF C.toCtx0) (se_var 5) se_int))))
  (ss_one (ss_ret (se_tup (sa_cons (se_str [114, 111, 119, 115]) (sa_cons (se_tup (sa_cons (se_var 4) (sa_cons se_int sa_nil))) (sa_cons (se_tup (sa_cons (se_var 5) (sa_cons (se_blt C.toCtx0 (call_lenF C.toCtx0) G.n_len (by decide +kernel) (sa_cons (se_ix (ix_F C.toCtx0) (se_var 0) (se_var 5)) sa_nil)) sa_nil))) sa_nil)))))))))))
theorem sc_law : FnScope ["script", "k", "well", "text", "turn", "place", "wide", "due", "first", "key"] ["script"] (defScope s_law) := ⟨rfl, rfl, rfl, by decide +kernel, rfl, by decide +kernel, by decide +kernel⟩
theorem ok_law {W : Wd} {f : Addr} {fd : FuncData} (G : Gb W) (Fu : Fun W.K "law" "law" s_law f fd) (caround : Callee W "around" 3 F_around) (c_law_rows : Callee W "_law_rows" 1 L_rows) (c_law_round : Callee W "_law_round" 1 L_round) (c_law_quote : Callee W "_law_quote" 1 L_quote) (c_law_word : Callee W "_law_word" 2 L_word) (c_law_place : Callee W "_law_place" 2 L_place) (c_law_text : Callee W "_law_text" 3 L_text) (c_law_well : Callee W "_law_well" 1 L_well) : FnOk W.P W.w W.K W.mg W.base (L2.CX W.P W.w) 4 f fd ["script"] (spOf W F_law) :=
  fn_snd (k := 3) (N := ["script", "k", "well", "text", "turn", "place", "wide", "due", "first", "key"]) (ps := ["script"]) Fu sc_law fun cdv A outer s H E C =>
  (ss_cons (ss_for C (si_rng1 C.toCtx0 G.n_range (sa_cons (se_blt C.toCtx0 (call_maxF C) G.n_max (by decide +kernel) (sa_cons se_int (sa_cons (se_blt C.toCtx0 (call_minF C) G.n_min (by decide +kernel) (sa_cons se_int (sa_cons (se_blt C.toCtx0 (call_lenF C.toCtx0) G.n_len (by decide +kernel) (sa_cons (se_var 0) sa_nil)) sa_nil))) sa_nil))) sa_nil)) (sg_name 1 C.nd) (ss_cons (ss_set 2 C.nd (se_call C c_law_well (by omega) (sa_cons (se_var 0) (sa_cons (se_var 1) sa_nil))))
  (ss_cons (ss_set 3 C.nd (se_call C c_law_text (by omega) (sa_cons (se_var 2) (sa_cons se_int sa_nil))))
  (ss_one (ss_for C (si_rng1 C.toCtx0 G.n_range (sa_cons se_int sa_nil)) (sg_name 4 C.nd) (ss_cons (ss_set 5 C.nd (se_call C c_law_place (by omega) (sa_cons (se_var 2) (sa_cons (se_var 3) sa_nil))))
  (ss_one (ss_for C (si_any C.toCtx0 (se_lst (sa_cons se_bl (sa_cons se_bl sa_nil)))) (sg_name 6 C.nd) (ss_cons (ss_set 7 C.nd (se_lst (sa_cons (se_call C c_law_word (by omega) (sa_cons (se_var 3) (sa_cons (se_var 5) (sa_cons (se_var 6) sa_nil)))) (sa_cons (se_call C c_law_quote (by omega) (sa_cons (se_var 3) (sa_cons (se_var 5) (sa_cons (se_var 6) sa_nil)))) (sa_cons (se_call C c_law_round (by omega) (sa_cons (se_var 3) (sa_cons (se_var 5) (sa_cons (se_var 6) sa_nil)))) sa_nil)))))
  (ss_cons (ss_expr (se_mt C.toCtx0 PySem.F.plainAttrs_list PySem.F.slot_list_append PySem.F.type_list_append mt_appendF (se_var 7) (sa_cons (se_call C c_law_rows (by omega) (sa_cons (se_var 3) (sa_cons (se_var 5) (sa_cons (se_var 6) sa_nil)))) sa_nil)))
  (ss_cons (ss_set 8 C.nd (se_ix (ix_F C.toCtx0) (se_lst (sa_cons (se_str [105]) (sa_cons (se_str [97]) sa_nil))) (se_bty C.toCtx0 call_intF G.n_int (by decide +kernel) (sa_cons (se_var 6) sa_nil))))
  (ss_one (ss_if (sc_cmp (op_neF C.toCtx0) (se_lc (own := [("key", 9)]) C (si_any C.toCtx0 (se_str [119, 113, 98, 112])) (blkOk_by (N := ["script", "k", "well", "text", "turn", "place", "wide", "due", "first", "key"]) (sc := defScope s_law) (by decide +kernel)) (fun _ _ _ _ _ => sgw_name 9 (Ctx.blk C _ _ _ _ _).nd) (fun _ _ _ _ _ => sts_nil) (fun _ _ _ _ _ => (se_call (Ctx.blk C _ _ _ _ _) caround (by omega) (sa_cons (se_var 3) (sa_cons (se_var 5) (sa_cons (se_op (op_addF (Ctx.blk C _ _ _ _ _).toCtx0) (se_var 8) (se_var 9)) sa_nil)))))) (se_var 7)) (ss_one (ss_ret se_bl)) ss_nil)))))))))))))
  (ss_one (ss_ret se_bl)))
end K14
namespace K14
open PySem PySem.Spec PyProof.Rows L2 FL
abbrev LL : PySem.W.OpenLaw := PySem.Challenge.rw_keyroom_k14_objects_by_hand
abbrev RR : PySem.W.OpenRow := PySem.W.OpenLaw.row LL
def d_kind_of : He.FnD := ⟨("kind_of", none), "kind_of", "kind_of", defArgs s_kind_of, defBody s_kind_of, defScope s_kind_of⟩
def d_partner : He.FnD := ⟨("partner", none), "partner", "partner", defArgs s_partner, defBody s_partner, defScope s_partner⟩
def d_word_about : He.FnD := ⟨("word_about", none), "word_about", "word_about", defArgs s_word_about, defBody s_word_about, defScope s_word_about⟩
def d_quoted_about : He.FnD := ⟨("quoted_about", none), "quoted_about", "quoted_about", defArgs s_quoted_about, defBody s_quoted_about, defScope s_quoted_about⟩
def d_brackets_about : He.FnD := ⟨("brackets_about", none), "brackets_about", "brackets_about", defArgs s_brackets_about, defBody s_brackets_about, defScope s_brackets_about⟩
def d_rows_about : He.FnD := ⟨("rows_about", none), "rows_about", "rows_about", defArgs s_rows_about, defBody s_rows_about, defScope s_rows_about⟩
def d_around : He.FnD := ⟨("around", none), "around", "around", defArgs s_around, defBody s_around, defScope s_around⟩
def d__law_well : He.FnD := ⟨("_law_well", none), "_law_well", "_law_well", defArgs s__law_well, defBody s__law_well, defScope s__law_well⟩
def d__law_take : He.FnD := ⟨("_law_take", none), "_law_take", "_law_take", defArgs s__law_take, defBody s__law_take, defScope s__law_take⟩
def d__law_row : He.FnD := ⟨("_law_row", none), "_law_row", "_law_row", defArgs s__law_row, defBody s__law_row, defScope s__law_row⟩
def d__law_text : He.FnD := ⟨("_law_text", none), "_law_text", "_law_text", defArgs s__law_text, defBody s__law_text, defScope s__law_text⟩
def d__law_place : He.FnD := ⟨("_law_place", none), "_law_place", "_law_place", defArgs s__law_place, defBody s__law_place, defScope s__law_place⟩
def d__law_sort : He.FnD := ⟨("_law_sort", none), "_law_sort", "_law_sort", defArgs s__law_sort, defBody s__law_sort, defScope s__law_sort⟩
def d__law_word : He.FnD := ⟨("_law_word", none), "_law_word", "_law_word", defArgs s__law_word, defBody s__law_word, defScope s__law_word⟩
def d__law_quote : He.FnD := ⟨("_law_quote", none), "_law_quote", "_law_quote", defArgs s__law_quote, defBody s__law_quote, defScope s__law_quote⟩
def d__law_round : He.FnD := ⟨("_law_round", none), "_law_round", "_law_round", defArgs s__law_round, defBody s__law_round, defScope s__law_round⟩
def d__law_rows : He.FnD := ⟨("_law_rows", none), "_law_rows", "_law_rows", defArgs s__law_rows, defBody s__law_rows, defScope s__law_rows⟩
def d_law : He.FnD := ⟨("law", none), "law", "law", defArgs s_law, defBody s_law, defScope s_law⟩
def fn : List He.FnD := [d_kind_of, d_partner, d_word_about, d_quoted_about, d_brackets_about, d_rows_about, d_around, d__law_well, d__law_take, d__law_row, d__law_text, d__law_place, d__law_sort, d__law_word, d__law_quote, d__law_round, d__law_rows, d_law]
def fa0 : List He.Fa := [.glo "kind_of", .keep "kind_of", .glo "partner", .keep "partner", .glo "word_about", .keep "word_about", .glo "quoted_about", .keep "quoted_about", .glo "brackets_about", .keep "brackets_about", .glo "rows_about", .keep "rows_about", .glo "around", .keep "around", .glo "_law_well", .keep "_law_well", .glo "_law_take", .keep "_law_take", .glo "_law_row", .keep "_law_row", .glo "_law_text", .keep "_law_text", .glo "_law_place", .keep "_law_place", .glo "_law_sort", .keep "_law_sort", .glo "_law_word", .keep "_law_word", .glo "_law_quote", .keep "_law_quote", .glo "_law_round", .keep "_law_round", .glo "_law_rows", .keep "_law_rows", .glo "law", .keep "law", .free "int", .free "len", .free "range", .free "zip"]
def fa1 : List He.Fa := [.free "enumerate", .free "reversed", .free "tuple", .free "max", .free "min", .str "LETTERS" (St' [97, 98, 99, 100, 101, 102, 103, 104, 105, 106, 107, 108, 109, 110, 111, 112, 113, 114, 115, 116, 117, 118, 119, 120, 121, 122]), .str "FIGURES" (St' [48, 49, 50, 51, 52, 53, 54, 55, 56, 57]), .str "OPEN" (St' [40, 91, 123]), .str "CLOSE" (St' [41, 93, 125])]
def fa : List He.Fa := fa0 ++ fa1
def loose0 : List PySem.Str := ["FIGURES", "LETTERS", "OPEN", "CLOSE", "kind_of", "partner", "word_about", "quoted_about", "brackets_about", "rows_about", "around", "_law_well", "_law_take", "_law_row", "_law_text", "_law_place", "_law_sort", "_law_word", "_law_quote", "_law_round", "_law_rows"]
def loose : List PySem.Str := loose0
def ex : List (PySem.W.Frag → Bool) := []
abbrev hk : PySem.W.Hook := hookF 4 fa fn ex
def ob (s : PySem.W.SharedT) : Bool × He.Al := obsFG 4 fa fn ex (HandSHeadRun.getT s)
theorem ob_eq (s : PySem.W.SharedT) : ob s = hk.obs s.abs := obsFG_eq (HandSHeadRun.getT_eq s)
theorem run (w : World) : HandSHeadRun.RunEq RR (PySem.W.view RR.prog [24]) hk ob 3000 loose w := by
  intro os
  kernel_rfl
section
variable {W : Wd} {h : Heap}
theorem has_kind_of (X : W.K.In h) (G : h.Ns mainGlobals W.mg) (c : SaysF fa fn ex W.K) : Has W "kind_of" s_kind_of := by
  obtain ⟨oc, od, osl, kV, doc, pm, an, cdv, ct, l, cd⟩ := c.def_ 0 (d := d_kind_of) rfl
  exact ⟨_, _, He.glo_ok X G (c.fact 0 (f := .glo "kind_of") rfl), fun_mk (st := s_kind_of) l cd (He.keep_ok (c.fact 1 (f := .keep "kind_of") rfl))⟩
theorem has_partner (X : W.K.In h) (G : h.Ns mainGlobals W.mg) (c : SaysF fa fn ex W.K) : Has W "partner" s_partner := by
  obtain ⟨oc, od, osl, kV, doc, pm, an, cdv, ct, l, cd⟩ := c.def_ 1 (d := d_partner) rfl
  exact ⟨_, _, He.glo_ok X G (c.fact 2 (f := .glo "partner") rfl), fun_mk (st := s_partner) l cd (He.keep_ok (c.fact 3 (f := .keep "partner") rfl))⟩
theorem has_word_about (X : W.K.In h) (G : h.Ns mainGlobals W.mg) (c : SaysF fa fn ex W.K) : Has W "word_about" s_word_about := by
  obtain ⟨oc, od, osl, kV, doc, pm, an, cdv, ct, l, cd⟩ := c.def_ 2 (d := d_word_about) rfl
  exact ⟨_, _, He.glo_ok X G (c.fact 4 (f := .glo "word_about") rfl), fun_mk (st := s_word_about) l cd (He.keep_ok (c.fact 5 (f := .keep "word_about") rfl))⟩
theorem has_quoted_about (X : W.K.In h) (G : h.Ns mainGlobals W.mg) (c : SaysF fa fn ex W.K) : Has W "quoted_about" s_quoted_about := by
  obtain ⟨oc, od, osl, kV, doc, pm, an, cdv, ct, l, cd⟩ := c.def_ 3 (d := d_quoted_about) rfl
  exact ⟨_, _, He.glo_ok X G (c.fact 6 (f := .glo "quoted_about") rfl), fun_mk (st := s_quoted_about) l cd (He.keep_ok (c.fact 7 (f := .keep "quoted_about") rfl))⟩
theorem has_brackets_about (X : W.K.In h) (G : h.Ns mainGlobals W.mg) (c : SaysF fa fn ex W.K) : Has W "brackets_about" s_brackets_about := by
  obtain ⟨oc, od, osl, kV, doc, pm, an, cdv, ct, l, cd⟩ := c.def_ 4 (d := d_brackets_about) rfl
  exact ⟨_, _, He.glo_ok X G (c.fact 8 (f := .glo "brackets_about") rfl), fun_mk (st := s_brackets_about) l cd (He.keep_ok (c.fact 9 (f := .keep "brackets_about") rfl))⟩
theorem has_rows_about (X : W.K.In h) (G : h.Ns mainGlobals W.mg) (c : SaysF fa fn ex W.K) : Has W "rows_about" s_rows_about := by
  obtain ⟨oc, od, osl, kV, doc, pm, an, cdv, ct, l, cd⟩ := c.def_ 5 (d := d_rows_about) rfl
  exact ⟨_, _, He.glo_ok X G (c.fact 10 (f := .glo "rows_about") rfl), fun_mk (st := s_rows_about) l cd (He.keep_ok (c.fact 11 (f := .keep "rows_about") rfl))⟩
theorem has_around (X : W.K.In h) (G : h.Ns mainGlobals W.mg) (c : SaysF fa fn ex W.K) : Has W "around" s_around := by
  obtain ⟨oc, od, osl, kV, doc, pm, an, cdv, ct, l, cd⟩ := c.def_ 6 (d := d_around) rfl
  exact ⟨_, _, He.glo_ok X G (c.fact 12 (f := .glo "around") rfl), fun_mk (st := s_around) l cd (He.keep_ok (c.fact 13 (f := .keep "around") rfl))⟩
theorem has__law_well (X : W.K.In h) (G : h.Ns mainGlobals W.mg) (c : SaysF fa fn ex W.K) : Has W "_law_well" s__law_well := by
  obtain ⟨oc, od, osl, kV, doc, pm, an, cdv, ct, l, cd⟩ := c.def_ 7 (d := d__law_well) rfl
  exact ⟨_, _, He.glo_ok X G (c.fact 14 (f := .glo "_law_well") rfl), fun_mk (st := s__law_well) l cd (He.keep_ok (c.fact 15 (f := .keep "_law_well") rfl))⟩
theorem has__law_take (X : W.K.In h) (G : h.Ns mainGlobals W.mg) (c : SaysF fa fn ex W.K) : Has W "_law_take" s__law_take := by
  obtain ⟨oc, od, osl, kV, doc, pm, an, cdv, ct, l, cd⟩ := c.def_ 8 (d := d__law_take) rfl
  exact ⟨_, _, He.glo_ok X G (c.fact 16 (f := .glo "_law_take") rfl), fun_mk (st := s__law_take) l cd (He.keep_ok (c.fact 17 (f := .keep "_law_take") rfl))⟩
theorem has__law_row (X : W.K.In h) (G : h.Ns mainGlobals W.mg) (c : SaysF fa fn ex W.K) : Has W "_law_row" s__law_row := by
  obtain ⟨oc, od, osl, kV, doc, pm, an, cdv, ct, l, cd⟩ := c.def_ 9 (d := d__law_row) rfl
  exact ⟨_, _, He.glo_ok X G (c.fact 18 (f := .glo "_law_row") rfl), fun_mk (st := s__law_row) l cd (He.keep_ok (c.fact 19 (f := .keep "_law_row") rfl))⟩
theorem has__law_text (X : W.K.In h) (G : h.Ns mainGlobals W.mg) (c : SaysF fa fn ex W.K) : Has W "_law_text" s__law_text := by
  obtain ⟨oc, od, osl, kV, doc, pm, an, cdv, ct, l, cd⟩ := c.def_ 10 (d := d__law_text) rfl
  exact ⟨_, _, He.glo_ok X G (c.fact 20 (f := .glo "_law_text") rfl), fun_mk (st := s__law_text) l cd (He.keep_ok (c.fact 21 (f := .keep "_law_text") rfl))⟩
theorem has__law_place (X : W.K.In h) (G : h.Ns mainGlobals W.mg) (c : SaysF fa fn ex W.K) : Has W "_law_place" s__law_place := by
  obtain ⟨oc, od, osl, kV, doc, pm, an, cdv, ct, l, cd⟩ := c.def_ 11 (d := d__law_place) rfl
  exact ⟨_, _, He.glo_ok X G (c.fact 22 (f := .glo "_law_place") rfl), fun_mk (st := s__law_place) l cd (He.keep_ok (c.fact 23 (f := .keep "_law_place") rfl))⟩
theorem has__law_sort (X : W.K.In h) (G : h.Ns mainGlobals W.mg) (c : SaysF fa fn ex W.K) : Has W "_law_sort" s__law_sort := by
  obtain ⟨oc, od, osl, kV, doc, pm, an, cdv, ct, l, cd⟩ := c.def_ 12 (d := d__law_sort) rfl
  exact ⟨_, _, He.glo_ok X G (c.fact 24 (f := .glo "_law_sort") rfl), fun_mk (st := s__law_sort) l cd (He.keep_ok (c.fact 25 (f := .keep "_law_sort") rfl))⟩
theorem has__law_word (X : W.K.In h) (G : h.Ns mainGlobals W.mg) (c : SaysF fa fn ex W.K) : Has W "_law_word" s__law_word := by
  obtain ⟨oc, od, osl, kV, doc, pm, an, cdv, ct, l, cd⟩ := c.def_ 13 (d := d__law_word) rfl
  exact ⟨_, _, He.glo_ok X G (c.fact 26 (f := .glo "_law_word") rfl), fun_mk (st := s__law_word) l cd (He.keep_ok (c.fact 27 (f := .keep "_law_word") rfl))⟩
theorem has__law_quote (X : W.K.In h) (G : h.Ns mainGlobals W.mg) (c : SaysF fa fn ex W.K) : Has W "_law_quote" s__law_quote := by
  obtain ⟨oc, od, osl, kV, doc, pm, an, cdv, ct, l, cd⟩ := c.def_ 14 (d := d__law_quote) rfl
  exact ⟨_, _, He.glo_ok X G (c.fact 28 (f := .glo "_law_quote") rfl), fun_mk (st := s__law_quote) l cd (He.keep_ok (c.fact 29 (f := .keep "_law_quote") rfl))⟩
theorem has__law_round (X : W.K.In h) (G : h.Ns mainGlobals W.mg) (c : SaysF fa fn ex W.K) : Has W "_law_round" s__law_round := by
  obtain ⟨oc, od, osl, kV, doc, pm, an, cdv, ct, l, cd⟩ := c.def_ 15 (d := d__law_round) rfl
  exact ⟨_, _, He.glo_ok X G (c.fact 30 (f := .glo "_law_round") rfl), fun_mk (st := s__law_round) l cd (He.keep_ok (c.fact 31 (f := .keep "_law_round") rfl))⟩
theorem has__law_rows (X : W.K.In h) (G : h.Ns mainGlobals W.mg) (c : SaysF fa fn ex W.K) : Has W "_law_rows" s__law_rows := by
  obtain ⟨oc, od, osl, kV, doc, pm, an, cdv, ct, l, cd⟩ := c.def_ 16 (d := d__law_rows) rfl
  exact ⟨_, _, He.glo_ok X G (c.fact 32 (f := .glo "_law_rows") rfl), fun_mk (st := s__law_rows) l cd (He.keep_ok (c.fact 33 (f := .keep "_law_rows") rfl))⟩
theorem fun_law (c : SaysF fa fn ex W.K) : ∃ fd, Fun W.K "law" "law" s_law (He.ga W.K "law") fd ∧ ∀ v, bindArgs fd ⟨[v], []⟩ = pure [(("script" : Str), v)] := by
  obtain ⟨oc, od, osl, kV, doc, pm, an, cdv, ct, l, cd⟩ := c.def_ 17 (d := d_law) rfl
  exact ⟨_, fun_mk (st := s_law) l cd (He.keep_ok (c.fact 35 (f := .keep "law") rfl)), fun v => rfl⟩
theorem gb_of (X : W.K.In h) (G : h.Ns mainGlobals W.mg) (c : SaysF fa fn ex W.K) : Gb W := ⟨He.free_ok X G (c.fact 36 (f := .free "int") rfl),
  He.free_ok X G (c.fact 37 (f := .free "len") rfl),
  He.free_ok X G (c.fact 38 (f := .free "range") rfl),
  He.free_ok X G (c.fact 39 (f := .free "zip") rfl),
  He.free_ok X G (c.fact 40 (f := .free "enumerate") rfl),
  He.free_ok X G (c.fact 41 (f := .free "reversed") rfl),
  He.free_ok X G (c.fact 42 (f := .free "tuple") rfl),
  He.free_ok X G (c.fact 43 (f := .free "max") rfl),
  He.free_ok X G (c.fact 44 (f := .free "min") rfl),
  He.str_ok X G (c.fact 45 (f := .str "LETTERS" (St' [97, 98, 99, 100, 101, 102, 103, 104, 105, 106, 107, 108, 109, 110, 111, 112, 113, 114, 115, 116, 117, 118, 119, 120, 121, 122])) rfl),
  He.str_ok X G (c.fact 46 (f := .str "FIGURES" (St' [48, 49, 50, 51, 52, 53, 54, 55, 56, 57])) rfl),
  He.str_ok X G (c.fact 47 (f := .str "OPEN" (St' [40, 91, 123])) rfl),
  He.str_ok X G (c.fact 48 (f := .str "CLOSE" (St' [41, 93, 125])) rfl)⟩
end
theorem law_ok (ns : List Int) (h : ns.length ≤ 63) : ∃ st', F_law [.scr ns] [] = some (.ok (.bl true) st') := by
  obtain ⟨r, h1, h2⟩ := law_spec (st := []) h
  cases r with
  | ok v st' =>
    have e : v = .bl true := h2
    subst e
    exact ⟨st', h1⟩
  | ex c st' => exact h2.elim
theorem all_ok {W : Wd} (hW : W.hot = none) (X : W.K.In W.base) (G : W.base.Ns mainGlobals W.mg) (c : SaysF fa fn ex W.K) {f : Addr} {fd : FuncData} (Fu : Fun W.K "law" "law" s_law f fd) : FnOk W.P W.w W.K W.mg W.base (L2.CX W.P W.w) 4 f fd ["script"] (spLaw W.K) := by
  have gb := gb_of X G c
  have ckind_of := ok_kind_of gb (has_kind_of X G c) 
  have cpartner := ok_partner gb (has_partner X G c) 
  have cword_about := ok_word_about gb (has_word_about X G c) ckind_of
  have cquoted_about := ok_quoted_about gb (has_quoted_about X G c) 
  have cbrackets_about := ok_brackets_about gb (has_brackets_about X G c) cpartner
  have crows_about := ok_rows_about gb (has_rows_about X G c) 
  have caround := ok_around gb (has_around X G c) crows_about cbrackets_about cquoted_about cword_about
  have c_law_well := ok__law_well gb (has__law_well X G c) 
  have c_law_take := ok__law_take gb (has__law_take X G c) 
  have c_law_row := ok__law_row gb (has__law_row X G c) c_law_take
  have c_law_text := ok__law_text gb (has__law_text X G c) c_law_take c_law_row
  have c_law_place := ok__law_place gb (has__law_place X G c) c_law_take
  have c_law_sort := ok__law_sort gb (has__law_sort X G c) 
  have c_law_word := ok__law_word gb (has__law_word X G c) c_law_sort
  have c_law_quote := ok__law_quote gb (has__law_quote X G c) 
  have c_law_round := ok__law_round gb (has__law_round X G c) 
  have c_law_rows := ok__law_rows gb (has__law_rows X G c) 
  exact (ok_law gb Fu caround c_law_rows c_law_round c_law_quote c_law_word c_law_place c_law_text c_law_well).imp fun vs H Q E z => sp_law hW law_ok z
theorem facts {w : World} {K : PySem.W.Frag} {h : Heap} {mg : Str → Option Value} {f : Addr} (X : K.In h) (G : h.Ns mainGlobals mg) (hfa : mg ("law" : Str) = some (.ref f)) (c : SaysF fa fn ex K) :
    ∃ fd : FuncData, (∀ (s : Shared) (v : Value), BindsTo s fd ⟨[v], []⟩ [("script", v)]) ∧ ∀ base : Heap, K.In base → base.Ns mainGlobals mg → FnOk LL.prog w K mg base (L2.CX LL.prog w) 4 f fd ["script"] (spLaw K) := by
  obtain ⟨fd, F, hb⟩ := fun_law (W := ⟨LL.prog, w, K, mg, h, none⟩) c
  have e := hfa.symm.trans (He.glo_ok X G (c.fact 34 (f := .glo "law") rfl))
  cases e
  exact ⟨fd, fun s v => .of_eq (hb v), fun base KX Gb => all_ok (W := ⟨LL.prog, w, K, mg, base, none⟩) rfl KX Gb c F⟩
end K14
open PySem PySem.W PySem.Calls PyProof.Rows
theorem PySem.Challenge.cw_keyroom_k14_objects_by_hand_holds : PySem.Challenge.rw_keyroom_k14_objects_by_hand.Holds := by
  w_on; o_law
  refine HandSHeadRun.head_any (r := OpenLaw.row PySem.Challenge.rw_keyroom_k14_objects_by_hand) (q := view (OpenLaw.row PySem.Challenge.rw_keyroom_k14_objects_by_hand).prog [24]) (H := K14.hk) (ob := K14.ob) (M := 3000) (loose := K14.loose) (d := HandSHeadRun.topDef (OpenLaw.row PySem.Challenge.rw_keyroom_k14_objects_by_hand).prog 24) (kwd := []) K14.ob_eq
    (by kernel_rfl) (fun s => by kernel_rfl) K14.run (by kernel_rfl) (by kernel_rfl) (by kernel_rfl) (by rfl) (by first | assumption | decide +kernel) (by decide +kernel) ⟨rfl, rfl, rfl, rfl, rfl, by decide +kernel⟩ ?hw ?hc
  case hw => w_witness2
  case hc =>
    refine FL.end_of (l := PySem.Challenge.rw_keyroom_k14_objects_by_hand) (k := 4) rfl (by kernel_rfl) ⟨rfl, by decide, by decide⟩ ?F
    intro w mg fa h Y G hmg0
    obtain ⟨K, KX, c⟩ := Y
    have hmg : mg ("law" : PySem.Str) = some (.ref fa) := by
      have e : (HandSHeadRun.topDef (OpenLaw.row PySem.Challenge.rw_keyroom_k14_objects_by_hand).prog 24).name = ("law" : PySem.Str) := by kernel_rfl
      rw [← e]
      exact hmg0
    obtain ⟨fd, hb, hF⟩ := K14.facts (w := w) KX G hmg c
    exact ⟨K, fd, KX, hb, hF⟩

