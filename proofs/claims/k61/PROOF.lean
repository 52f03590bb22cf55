import PyProof.Rows.All
import Wide.All
import OpenK.AllK
import Wide.FinOn
import PySem.Challenge.RW_keyroom_k61_shelves_by_hand
import HandS.ForMost
import HandS.ForExc
import HandS.CallSlots
import HandS.IsInst
import HandS.TupAny
import HandS.TupMul
import HandS.Style
import HandS.More
import HandS.TupLe
import HandS.Wide
import HandS.HeadHook2
import HandS.HotCalls
import PyProof.StrBlock2
import HandS.Defaults
import HandS.Ends
import HandS.HeadEnd
import HandS.Head0
import HandS.Head1
import HandS.Head2
import HandS.HeadHook1
import KE.KStateDown
import HandS.SortRule
import HandS.Zip
import HandS.TryOnly
import HandS.Text
import HandS.StrMore
import HandS.Deep
import HandS.Replace
import KE.GoesEnum
import KE.GoesMore
import HandS.Rev
import HandS.RevRange
import HandS.SortOrd
import HandS.SortInts
import HandS.DictTup
import HandS.ListItems
import HandS.DictComp
import HandS.Dict
import PyProof.Rows.SortKeyStr
import HandS.MakeKwOnly
import KE.DataMinMax
import KE.KRevSl
import HandS.Iter
import HandS.Conv
import HandS.ExcCtx
import HandS.ExcValue
import HandS.TryMany
import HandS.SuiteRaise
import HandS.ExcIs
import KE.KExcRaise
import HandS.Hot
import HandS.Comp
import HandS.Steps
set_option Elab.async false
set_option linter.all false
set_option maxRecDepth 100000
set_option maxHeartbeats 4000000
/-! FL1: a functional layer over the judgements: values as trees, a store of lists, dicts and instances; what a piece of code does is a plain function of slots and store. -/
namespace FL
open PySem PySem.Spec PyProof.Rows L2

/-- what a name may hold, without addresses: tuples are trees, whatever may change is a number of the store -/
inductive Val where
  | non
  | bl (b : Bool)
  | int (i : Int)
  | str (s : List Nat)
  | tup (xs : List Val)
  | ref (i : Nat)
  | scr (ns : List Int)
  | ty (n : String)
  /-- a def or class of the module, as a value -/
  | glo (x : Str)
  /-- an exception of the class c that was caught -/
  | exc (c : Str)
/-- what stands in the store -/
inductive Ob where
  | lst (xs : List Val)
  | dic (kvs : List (Key × Val))
  | ins (c : Str) (fs : List (Str × Val))
abbrev Sto := List Ob
abbrev Sl := List (Option Val)
abbrev LINE : Nat := 16777216
abbrev St' (l : List Nat) : Str := ⟨l.toArray⟩

/-- the row's world: its written part, where its classes stand -/
structure Wd where
  P : Program
  w : World
  K : PySem.W.Frag
  mg : Str → Option Value
  base : Heap
  /-- the exception that is handled, as its object -/
  hot : Option (Addr × Obj) := none

/-- a list that nobody can change: frozen, or of the written part -/
def SqZ (K : PySem.W.Frag) (H : Hp) (a : Addr) (xs : List V) : Prop := (∃ o, H a = some (.frz o (.lst xs))) ∨ ∀ H0, SqL K H0 a xs

mutual
inductive RV (K : PySem.W.Frag) (ι : List Addr) (H : Hp) : Val → V → Prop
  | non : RV K ι H .non .non
  | bl (b : Bool) : RV K ι H (.bl b) (.bl b)
  | int (i : Int) : RV K ι H (.int i) (.int i)
  | str (s : List Nat) : RV K ι H (.str s) (.str (St' s))
  | tup {a : Addr} {vs : List V} {xs : List Val} : SqT K H a vs → RVs K ι H xs vs → RV K ι H (.tup xs) (.ref a)
  | ref {i : Nat} {a : Addr} : ι[i]? = some a → RV K ι H (.ref i) (.ref a)
  | scr {a : Addr} {ns : List Int} : SqZ K H a (ns.map V.int) → RV K ι H (.scr ns) (.ref a)
  | ty (n : String) : RV K ι H (.ty n) (.ty n)
  | glo (x : Str) : RV K ι H (.glo x) (.ref (He.ga K x))
  | exc {c : Str} {a : Addr} {o : Obj} : H a = some (.frz o (.ext fun _ => True)) → o.cls = .ref (He.ga K c) → o.dict = none → (∃ vs, o.data = .fields vs) → RV K ι H (.exc c) (.ref a)
inductive RVs (K : PySem.W.Frag) (ι : List Addr) (H : Hp) : List Val → List V → Prop
  | nil : RVs K ι H [] []
  | cons {x : Val} {v : V} {xs : List Val} {vs : List V} : RV K ι H x v → RVs K ι H xs vs → RVs K ι H (x :: xs) (v :: vs)
end

/-- what only grows: the numbers, the tuples, what is frozen -/
structure Ext0 (ι : List Addr) (H : Hp) (ι' : List Addr) (H' : Hp) : Prop where
  pre : ∀ (i : Nat) (a : Addr), ι[i]? = some a → ι'[i]? = some a
  tup : ∀ a xs, H a = some (.tup xs) → H' a = some (.tup xs)
  frz : ∀ a o u, H a = some (.frz o u) → H' a = some (.frz o u)
/-- .. and what the store does not speak of stays as it is -/
structure Ext (ι : List Addr) (H : Hp) (ι' : List Addr) (H' : Hp) : Prop extends Ext0 ι H ι' H' where
  oth : ∀ a o, H a = some o → (∀ i : Nat, ι[i]? ≠ some a) → H' a = some o ∧ ∀ i : Nat, ι'[i]? ≠ some a

section
variable {K : PySem.W.Frag} {ι ι' ι2 : List Addr} {H H' H2 : Hp}
theorem Ext.refl (ι : List Addr) (H : Hp) : Ext ι H ι H := ⟨⟨fun _ _ h => h, fun _ _ h => h, fun _ _ _ h => h⟩, fun _ _ h n => ⟨h, n⟩⟩
theorem Ext.trans (a : Ext ι H ι' H') (b : Ext ι' H' ι2 H2) : Ext ι H ι2 H2 :=
  ⟨⟨fun i x h => b.pre i x (a.pre i x h), fun i x h => b.tup i x (a.tup i x h), fun i x y h => b.frz i x y (a.frz i x y h)⟩, fun i x h n => let ⟨h1, n1⟩ := a.oth i x h n; b.oth i x h1 n1⟩
theorem Ext0.trans (a : Ext0 ι H ι' H') (b : Ext0 ι' H' ι2 H2) : Ext0 ι H ι2 H2 := ⟨fun i x h => b.pre i x (a.pre i x h), fun i x h => b.tup i x (a.tup i x h), fun i x y h => b.frz i x y (a.frz i x y h)⟩
theorem Ext0.sqT (e : Ext0 ι H ι' H') {a : Addr} {xs : List V} (h : SqT K H a xs) : SqT K H' a xs := by
  rcases h with (h | ⟨o, h⟩) | h
  · exact .inl (.inl (e.tup _ _ h))
  · exact .inl (.inr ⟨o, e.frz _ _ _ h⟩)
  · exact .inr h
theorem Ext0.sqZ (e : Ext0 ι H ι' H') {a : Addr} {xs : List V} (h : SqZ K H a xs) : SqZ K H' a xs := by
  rcases h with ⟨o, h⟩ | h
  · exact .inl ⟨o, e.frz _ _ _ h⟩
  · exact .inr h
theorem SqZ.sq {a : Addr} {xs : List V} (h : SqZ K H a xs) : SqL K H a xs := by
  rcases h with ⟨o, h⟩ | h
  · exact .inl (.inr ⟨o, h⟩)
  · exact h H
mutual
theorem RV.mono0 (e : Ext0 ι H ι' H') : ∀ {x : Val} {v : V}, RV K ι H x v → RV K ι' H' x v
  | _, _, .non => .non
  | _, _, .bl b => .bl b
  | _, _, .int b => .int b
  | _, _, .str b => .str b
  | _, _, .tup s r => .tup (e.sqT s) (RVs.mono0 e r)
  | _, _, .ref h => .ref (e.pre _ _ h)
  | _, _, .scr h => .scr (e.sqZ h)
  | _, _, .ty n => .ty n
  | _, _, .glo n => .glo n
  | _, _, .exc h h1 h2 h3 => .exc (e.frz _ _ _ h) h1 h2 h3
theorem RVs.mono0 (e : Ext0 ι H ι' H') : ∀ {x : List Val} {v : List V}, RVs K ι H x v → RVs K ι' H' x v
  | _, _, .nil => .nil
  | _, _, .cons a b => .cons (RV.mono0 e a) (RVs.mono0 e b)
end
theorem RV.mono (e : Ext ι H ι' H') {x : Val} {v : V} (h : RV K ι H x v) : RV K ι' H' x v := h.mono0 e.toExt0
theorem RVs.mono (e : Ext ι H ι' H') {x : List Val} {v : List V} (h : RVs K ι H x v) : RVs K ι' H' x v := h.mono0 e.toExt0
theorem RVs.len : ∀ {x : List Val} {v : List V}, RVs K ι H x v → x.length = v.length
  | _, _, .nil => rfl
  | _, _, .cons a b => congrArg (· + 1) (RVs.len b)
theorem RVs.at : ∀ {xs : List Val} {vs : List V} (i : Nat) {x : Val}, RVs K ι H xs vs → xs[i]? = some x → ∃ v, vs[i]? = some v ∧ RV K ι H x v
  | _, _, i, _, .nil, h => by simp at h
  | _, _, 0, _, .cons a b, h => by
    simp at h
    subst h
    exact ⟨_, rfl, a⟩
  | _, _, i + 1, _, .cons a b, h => by
    obtain ⟨v, h1, h2⟩ := RVs.at i b (by simpa using h)
    exact ⟨v, by simpa using h1, h2⟩
theorem RVs.app : ∀ {xs ys : List Val} {vs ws : List V}, RVs K ι H xs vs → RVs K ι H ys ws → RVs K ι H (xs ++ ys) (vs ++ ws)
  | _, _, _, _, .nil, h => h
  | _, _, _, _, .cons a b, h => .cons a (RVs.app b h)
theorem RVs.take : ∀ {xs : List Val} {vs : List V} (n : Nat), RVs K ι H xs vs → RVs K ι H (xs.take n) (vs.take n)
  | _, _, 0, _ => by simp; exact .nil
  | _, _, n + 1, .nil => by simp; exact .nil
  | _, _, n + 1, .cons a b => .cons a (RVs.take n b)
theorem RVs.drop : ∀ {xs : List Val} {vs : List V} (n : Nat), RVs K ι H xs vs → RVs K ι H (xs.drop n) (vs.drop n)
  | _, _, 0, h => h
  | _, _, n + 1, .nil => by simp; exact .nil
  | _, _, n + 1, .cons a b => RVs.drop n b
theorem RVs.rev : ∀ {xs : List Val} {vs : List V}, RVs K ι H xs vs → RVs K ι H xs.reverse vs.reverse
  | _, _, .nil => .nil
  | _, _, .cons a b => by
    rw [List.reverse_cons, List.reverse_cons]
    exact RVs.app (RVs.rev b) (.cons a .nil)
theorem RVs.set {x : Val} {v : V} (r : RV K ι H x v) : ∀ {xs : List Val} {vs : List V} (n : Nat), RVs K ι H xs vs → RVs K ι H (xs.set n x) (vs.set n v)
  | _, _, _, .nil => .nil
  | _, _, 0, .cons a b => .cons r b
  | _, _, n + 1, .cons a b => .cons a (RVs.set r n b)
theorem RVs.del : ∀ {xs : List Val} {vs : List V} (n : Nat), RVs K ι H xs vs → RVs K ι H (xs.eraseIdx n) (vs.eraseIdx n)
  | _, _, _, .nil => .nil
  | _, _, 0, .cons a b => b
  | _, _, n + 1, .cons a b => .cons a (RVs.del n b)
theorem RVs.strs : ∀ (l : List (List Nat)), RVs K ι H (l.map Val.str) ((l.map St').map V.str)
  | [] => .nil
  | x :: l => .cons (.str x) (RVs.strs l)
theorem RVs.ints : ∀ (l : List Int), RVs K ι H (l.map Val.int) (l.map V.int)
  | [] => .nil
  | x :: l => .cons (.int x) (RVs.ints l)
theorem RVs.bls : ∀ (l : List Bool), RVs K ι H (l.map Val.bl) (l.map V.bl)
  | [] => .nil
  | x :: l => .cons (.bl x) (RVs.bls l)
end

/-- the store's things as they stand in the heap -/
def RO (W : Wd) (ι : List Addr) (H : Hp) : Ob → HO → Prop
  | .lst xs, .lst vs => RVs W.K ι H xs vs
  | .dic ks, .dK ms => Paired (fun (p : Key × Val) (q : Key × V) => p.1 = q.1 ∧ RV W.K ι H p.2 q.2) ks ms
  | .ins c fs, .ins C _ gs => C = He.ga W.K c ∧ Paired (fun (p : Str × Val) (q : Str × V) => p.1 = q.1 ∧ RV W.K ι H p.2 q.2) fs gs
  | _, _ => False

/-- the object that is handled stands as it is, its context is None -/
def HotP (H : Hp) (p : Addr × Obj) : Prop := H p.1 = some (.frz p.2 (.ext fun _ => True)) ∧ ∃ vs : Array Value, p.2.data = .fields vs ∧ vs[2]? = some .none
theorem HotP.ext {ι ι' : List Addr} {H H' : Hp} {p : Addr × Obj} (e : Ext0 ι H ι' H') (h : HotP H p) : HotP H' p := ⟨e.frz _ _ _ h.1, h.2⟩
structure Rel (W : Wd) (ι : List Addr) (H : Hp) (st : Sto) : Prop where
  len : ι.length = st.length
  nd : ∀ (i j : Nat) (a : Addr), ι[i]? = some a → ι[j]? = some a → i = j
  ob : ∀ (i : Nat) (a : Addr) (o : Ob), ι[i]? = some a → st[i]? = some o → ∃ ho, H a = some ho ∧ RO W ι H o ho
  hot : ∀ p, W.hot = some p → HotP H p

section
variable {W : Wd} {ι ι' ι2 : List Addr} {H H' H2 : Hp} {st : Sto}
theorem Paired.impl {α β : Type} {F G : α → β → Prop} (f : ∀ a b, F a b → G a b) : ∀ {xs : List α} {ys : List β}, Paired F xs ys → Paired G xs ys
  | _, _, .nil => .nil
  | _, _, .cons h t => .cons (f _ _ h) (Paired.impl f t)
theorem RO.mono0 (e : Ext0 ι H ι' H') {o : Ob} {ho : HO} (h : RO W ι H o ho) : RO W ι' H' o ho := by
  cases o <;> cases ho <;> first
    | exact h.elim
    | exact RVs.mono0 e h
    | exact Paired.impl (fun _ _ z => ⟨z.1, RV.mono0 e z.2⟩) h
    | exact ⟨h.1, Paired.impl (fun _ _ z => ⟨z.1, RV.mono0 e z.2⟩) h.2⟩
theorem RO.mono (e : Ext ι H ι' H') {o : Ob} {ho : HO} (h : RO W ι H o ho) : RO W ι' H' o ho := h.mono0 e.toExt0
/-- what RO speaks of may change: it is no tuple, nothing frozen -/
theorem RO.ntup {o : Ob} {xs : List V} (h : RO W ι H o (.tup xs)) : False := by cases o <;> exact h.elim
theorem RO.nfrz {o : Ob} {x : Obj} {u : HO} (h : RO W ι H o (.frz x u)) : False := by cases o <;> exact h.elim
theorem Rel.at (r : Rel W ι H st) {i : Nat} {o : Ob} (h : st[i]? = some o) : ∃ a ho, ι[i]? = some a ∧ H a = some ho ∧ RO W ι H o ho := by
  have hi : i < ι.length := by
    rw [r.len]
    exact (List.getElem?_eq_some_iff.mp h).1
  obtain ⟨ho, h1, h2⟩ := r.ob i ι[i] o (List.getElem?_eq_getElem hi) h
  exact ⟨_, ho, List.getElem?_eq_getElem hi, h1, h2⟩
/-- a new tuple -/
theorem Ext.newT {p : Addr} {vs : List V} (hp : H p = none) : Ext ι H ι (upd H p (.tup vs)) :=
  ⟨⟨fun _ _ h => h, fun a xs h => by rw [upd_ne (ne_of_none h hp)]; exact h, fun a o u h => by rw [upd_ne (ne_of_none h hp)]; exact h⟩, fun a o h n => ⟨by rw [upd_ne (ne_of_none h hp)]; exact h, n⟩⟩
theorem Ext.new {p : Addr} {ho : HO} (hp : H p = none) : Ext ι H (ι ++ [p]) (upd H p ho) :=
  ⟨⟨fun i a h => by rw [List.getElem?_append_left (List.getElem?_eq_some_iff.mp h).1]; exact h, fun a xs h => by rw [upd_ne (ne_of_none h hp)]; exact h, fun a o u h => by rw [upd_ne (ne_of_none h hp)]; exact h⟩, fun a o h n => ⟨by rw [upd_ne (ne_of_none h hp)]; exact h, fun i q => by
    by_cases hi : i < ι.length
    · rw [List.getElem?_append_left hi] at q
      exact n i q
    · rw [List.getElem?_append_right (by omega)] at q
      have q1 := List.mem_of_getElem? q
      simp at q1
      rw [q1, hp] at h
      cases h⟩⟩
theorem Rel.newT (r : Rel W ι H st) {p : Addr} {vs : List V} (hp : H p = none) : Rel W ι (upd H p (.tup vs)) st :=
  ⟨r.len, r.nd, fun i a o h1 h2 => by
    obtain ⟨ho, h3, h4⟩ := r.ob i a o h1 h2
    exact ⟨ho, by rw [upd_ne (ne_of_none h3 hp)]; exact h3, h4.mono (Ext.newT hp)⟩, fun p h => (r.hot p h).ext (ι := ι) (Ext.newT hp).toExt0⟩
theorem Rel.new (r : Rel W ι H st) {p : Addr} {o : Ob} {ho : HO} (hp : H p = none) (h : RO W ι H o ho) : Rel W (ι ++ [p]) (upd H p ho) (st ++ [o]) := by
  have e : Ext ι H (ι ++ [p]) (upd H p ho) := Ext.new hp
  have np : ∀ i, ι[i]? ≠ some p := fun i h => by
    have hi := (List.getElem?_eq_some_iff.mp h).1
    rw [r.len] at hi
    obtain ⟨_, h3, _⟩ := r.ob i p _ h (List.getElem?_eq_getElem hi)
    rw [hp] at h3
    cases h3
  have cs : ∀ (i : Nat) (a : Addr), (ι ++ [p])[i]? = some a → (ι[i]? = some a ∧ i < ι.length) ∨ (i = ι.length ∧ a = p) := fun i a h => by
    by_cases hi : i < ι.length
    · rw [List.getElem?_append_left hi] at h
      exact .inl ⟨h, hi⟩
    · rw [List.getElem?_append_right (by omega)] at h
      have h0 : i - ι.length = 0 := by
        have := (List.getElem?_eq_some_iff.mp h).1
        simp at this
        omega
      rw [h0] at h
      simp at h
      exact .inr ⟨by omega, h.symm⟩
  refine ⟨by simp [r.len], fun i j a h1 h2 => ?_, fun i a x h1 h2 => ?_, fun q h => (r.hot q h).ext e.toExt0⟩
  · rcases cs i a h1 with ⟨h3, _⟩ | ⟨h3, rfl⟩ <;> rcases cs j a h2 with ⟨h4, _⟩ | ⟨h4, h5⟩
    · exact r.nd i j a h3 h4
    · subst h5
      exact absurd h3 (np i)
    · exact absurd h4 (np j)
    · omega
  · rcases cs i a h1 with ⟨h3, hi⟩ | ⟨h3, rfl⟩
    · rw [List.getElem?_append_left (by rw [← r.len]; exact hi)] at h2
      obtain ⟨hx, h5, h6⟩ := r.ob i a x h3 h2
      exact ⟨hx, by rw [upd_ne (ne_of_none h5 hp)]; exact h5, h6.mono e⟩
    · subst h3
      rw [r.len, List.getElem?_append_right (Nat.le_refl _)] at h2
      simp at h2
      subst h2
      exact ⟨ho, upd_same, h.mono e⟩
theorem Ext.put (r : Rel W ι H st) {i : Nat} {a : Addr} {o : Ob} {ho : HO} (h1 : ι[i]? = some a) (h2 : st[i]? = some o) : Ext ι H ι (upd H a ho) := by
  obtain ⟨h0, h3, h4⟩ := r.ob i a o h1 h2
  refine ⟨⟨fun _ _ h => h, fun b xs h => ?_, fun b x u h => ?_⟩, fun b x h n => ⟨by rw [upd_ne (show b ≠ a from fun q => n i (by rw [q]; exact h1))]; exact h, n⟩⟩
  · by_cases e : b = a
    · subst e
      rw [h3] at h
      cases h
      exact h4.ntup.elim
    · rw [upd_ne e]
      exact h
  · by_cases e : b = a
    · subst e
      rw [h3] at h
      cases h
      exact h4.nfrz.elim
    · rw [upd_ne e]
      exact h
theorem Rel.put (r : Rel W ι H st) {i : Nat} {a : Addr} {o u : Ob} {hu : HO} (h1 : ι[i]? = some a) (h2 : st[i]? = some o) (h : RO W ι H u hu) : Rel W ι (upd H a hu) (st.set i u) := by
  have e : Ext ι H ι (upd H a hu) := Ext.put r h1 h2
  refine ⟨by simp [r.len], r.nd, fun j b x h3 h4 => ?_, fun q h => (r.hot q h).ext e.toExt0⟩
  by_cases hj : j = i
  · subst hj
    rw [h1] at h3
    cases h3
    rw [List.getElem?_set_self (List.getElem?_eq_some_iff.mp h2).1] at h4
    cases h4
    exact ⟨hu, upd_same, h.mono e⟩
  · rw [List.getElem?_set_ne (Ne.symm hj)] at h4
    obtain ⟨hx, h5, h6⟩ := r.ob j b x h3 h4
    have nb : b ≠ a := fun q => hj (r.nd j i a (q ▸ h3) h1)
    exact ⟨hx, by rw [upd_ne nb]; exact h5, h6.mono e⟩
end

section
variable {W : Wd} {ι : List Addr} {H : Hp} {st : Sto} {D : Addr} {vs ws : List V}
/-- a list that is being made stands outside the store -/
theorem Ext0.putO (h : H D = some (.lst vs)) : Ext0 ι H ι (upd H D (.lst ws)) := by
  refine ⟨fun _ _ h => h, fun a xs q => ?_, fun a o u q => ?_⟩
  · rw [upd_ne (ne_of q h (by intro z; cases z))]
    exact q
  · rw [upd_ne (ne_of q h (by intro z; cases z))]
    exact q
theorem Rel.putO (r : Rel W ι H st) (h : H D = some (.lst vs)) (n : ∀ i : Nat, ι[i]? ≠ some D) : Rel W ι (upd H D (.lst ws)) st :=
  ⟨r.len, r.nd, fun i a o h1 h2 => by
    obtain ⟨ho, h3, h4⟩ := r.ob i a o h1 h2
    exact ⟨ho, by rw [upd_ne (show a ≠ D from fun q => n i (by rw [← q]; exact h1))]; exact h3, h4.mono0 (Ext0.putO h)⟩, fun q z => (r.hot q z).ext (ι := ι) (Ext0.putO h)⟩
/-- anything outside the store that may change -/
theorem Ext0.putX {ho hu : HO} (h : H D = some ho) (h1 : ∀ xs, ho ≠ .tup xs) (h2 : ∀ o u, ho ≠ .frz o u) : Ext0 ι H ι (upd H D hu) := by
  refine ⟨fun _ _ h => h, fun a xs q => ?_, fun a o u q => ?_⟩
  · rw [upd_ne (ne_of q h (fun z => h1 xs z.symm))]
    exact q
  · rw [upd_ne (ne_of q h (fun z => h2 o u z.symm))]
    exact q
theorem Rel.putX {ho hu : HO} (r : Rel W ι H st) (h : H D = some ho) (h1 : ∀ xs, ho ≠ .tup xs) (h2 : ∀ o u, ho ≠ .frz o u) (n : ∀ i : Nat, ι[i]? ≠ some D) : Rel W ι (upd H D hu) st :=
  ⟨r.len, r.nd, fun i a o q1 q2 => by
    obtain ⟨ho', h3, h4⟩ := r.ob i a o q1 q2
    exact ⟨ho', by rw [upd_ne (show a ≠ D from fun q => n i (by rw [← q]; exact q1))]; exact h3, h4.mono0 (Ext0.putX h h1 h2)⟩, fun q z => (r.hot q z).ext (ι := ι) (Ext0.putX h h1 h2)⟩
/-- new outside the store -/
theorem Rel.newO {hu : HO} (r : Rel W ι H st) (h : H D = none) : Rel W ι (upd H D hu) st :=
  ⟨r.len, r.nd, fun i a o q1 q2 => by
    obtain ⟨ho, h3, h4⟩ := r.ob i a o q1 q2
    have e : Ext ι H ι (upd H D hu) := ⟨⟨fun _ _ h => h, fun b xs q => by rw [upd_ne (ne_of_none q h)]; exact q, fun b o u q => by rw [upd_ne (ne_of_none q h)]; exact q⟩, fun b o q n => ⟨by rw [upd_ne (ne_of_none q h)]; exact q, n⟩⟩
    exact ⟨ho, by rw [upd_ne (ne_of_none h3 h)]; exact h3, h4.mono e⟩, fun q z => (r.hot q z).ext (ι := ι) ⟨fun _ _ h => h, fun b xs q => by rw [upd_ne (ne_of_none q h)]; exact q, fun b o u q => by rw [upd_ne (ne_of_none q h)]; exact q⟩⟩
theorem Rel.free {D : Addr} (r : Rel W ι H st) (h : H D = none) : ∀ i : Nat, ι[i]? ≠ some D := fun i q => by
  have hi := (List.getElem?_eq_some_iff.mp q).1
  rw [r.len] at hi
  obtain ⟨_, h3, _⟩ := r.ob i D _ q (List.getElem?_eq_getElem hi)
  rw [h] at h3
  cases h3
/-- what is tracked only grows -/
theorem Rel.grow {H2 : Hp} (r : Rel W ι H st) (g : ∀ b o, H b = some o → H2 b = some o) : Ext ι H ι H2 ∧ Rel W ι H2 st := by
  have e : Ext ι H ι H2 := ⟨⟨fun _ _ h => h, fun b xs q => g _ _ q, fun b o u q => g _ _ q⟩, fun b o q n => ⟨g _ _ q, n⟩⟩
  exact ⟨e, r.len, r.nd, fun i a o q1 q2 => let ⟨ho, h3, h4⟩ := r.ob i a o q1 q2; ⟨ho, g _ _ h3, h4.mono e⟩, fun q z => (r.hot q z).ext e.toExt0⟩
theorem Ext.putO {ι1 : List Addr} {H1 : Hp} {ho : HO} (e : Ext ι1 H1 ι H) (h : H1 D = none) : Ext ι1 H1 ι (upd H D ho) :=
  ⟨⟨e.pre, fun a xs q => by rw [upd_ne (ne_of_none q h)]; exact e.tup a xs q, fun a o u q => by rw [upd_ne (ne_of_none q h)]; exact e.frz a o u q⟩,
    fun a o q n => ⟨by rw [upd_ne (ne_of_none q h)]; exact (e.oth a o q n).1, (e.oth a o q n).2⟩⟩
/-- .. and at last comes into it -/
theorem Ext0.join : Ext0 ι H (ι ++ [D]) H := ⟨fun i a h => by rw [List.getElem?_append_left (List.getElem?_eq_some_iff.mp h).1]; exact h, fun _ _ h => h, fun _ _ _ h => h⟩
theorem get_join {i : Nat} {a : Addr} (h : (ι ++ [D])[i]? = some a) : (ι[i]? = some a ∧ i < ι.length) ∨ (i = ι.length ∧ a = D) := by
  by_cases hi : i < ι.length
  · rw [List.getElem?_append_left hi] at h
    exact .inl ⟨h, hi⟩
  · rw [List.getElem?_append_right (by omega)] at h
    have h0 : i - ι.length = 0 := by
      have := (List.getElem?_eq_some_iff.mp h).1
      simp at this
      omega
    rw [h0] at h
    simp at h
    exact .inr ⟨by omega, h.symm⟩
theorem Ext.join {ι1 : List Addr} {H1 : Hp} (e : Ext ι1 H1 ι H) (h : H1 D = none) : Ext ι1 H1 (ι ++ [D]) H :=
  ⟨⟨fun i a q => (Ext0.join (H := H) (D := D)).pre i a (e.pre i a q), e.tup, e.frz⟩, fun a o q n => ⟨(e.oth a o q n).1, fun i z => by
    rcases get_join z with ⟨z1, _⟩ | ⟨_, z2⟩
    · exact (e.oth a o q n).2 i z1
    · rw [z2, h] at q
      cases q⟩⟩
theorem Rel.join {o : Ob} {ho : HO} (r : Rel W ι H st) (h : H D = some ho) (n : ∀ i : Nat, ι[i]? ≠ some D) (q : RO W ι H o ho) : Rel W (ι ++ [D]) H (st ++ [o]) := by
  refine ⟨by simp [r.len], fun i j a h1 h2 => ?_, fun i a x h1 h2 => ?_, fun q z => r.hot q z⟩
  · rcases get_join h1 with ⟨h3, _⟩ | ⟨h3, h5⟩ <;> rcases get_join h2 with ⟨h4, _⟩ | ⟨h4, h6⟩
    · exact r.nd i j a h3 h4
    · subst h6
      exact absurd h3 (n i)
    · subst h5
      exact absurd h4 (n j)
    · omega
  · rcases get_join h1 with ⟨h3, hi⟩ | ⟨h3, h5⟩
    · rw [List.getElem?_append_left (by rw [← r.len]; exact hi)] at h2
      obtain ⟨hx, h5, h6⟩ := r.ob i a x h3 h2
      exact ⟨hx, h5, h6.mono0 Ext0.join⟩
    · subst h3 h5
      rw [r.len, List.getElem?_append_right (Nat.le_refl _)] at h2
      simp at h2
      subst h2
      exact ⟨ho, h, q.mono0 Ext0.join⟩
end

/-! ### what code does -/
inductive R (α : Type) where
  | ok (a : α) (st : Sto)
  | ex (c : Str) (st : Sto)
abbrev FX (α : Type) := Sl → Sto → Option (R α)
abbrev FE := FX Val
abbrev FT := FX Bool
abbrev FA := FX (List Val)
inductive RS where
  | nx (sl : Sl) (st : Sto)
  | rt (v : Val) (st : Sto)
  | bk (sl : Sl) (st : Sto)
  | ct (sl : Sl) (st : Sto)
  | ex (c : Str) (sl : Sl) (st : Sto)
abbrev FS := Sl → Sto → Option RS
abbrev FF := List Val → Sto → Option (R Val)

/-- slots -/
structure RL (K : PySem.W.Frag) (ι : List Addr) (H : Hp) (sl : Sl) (σ : L2.St) : Prop where
  len : sl.length = σ.length
  at' : ∀ (i : Nat) (x : Val), sl[i]? = some (some x) → ∃ v, σ[i]? = some (some v) ∧ RV K ι H x v
theorem RL.mono0 {K : PySem.W.Frag} {ι ι' : List Addr} {H H' : Hp} {sl : Sl} {σ : L2.St} (e : Ext0 ι H ι' H') (h : RL K ι H sl σ) : RL K ι' H' sl σ :=
  ⟨h.len, fun i x q => let ⟨v, h1, h2⟩ := h.at' i x q; ⟨v, h1, h2.mono0 e⟩⟩
theorem RL.mono {K : PySem.W.Frag} {ι ι' : List Addr} {H H' : Hp} {sl : Sl} {σ : L2.St} (e : Ext ι H ι' H') (h : RL K ι H sl σ) : RL K ι' H' sl σ := h.mono0 e.toExt0
theorem RL.set {K : PySem.W.Frag} {ι : List Addr} {H : Hp} {sl : Sl} {σ : L2.St} (h : RL K ι H sl σ) {x : Val} {v : V} (r : RV K ι H x v) (i : Nat) : RL K ι H (sl.set i (some x)) (σ.set i (some v)) := by
  refine ⟨by simp [h.len], fun j y q => ?_⟩
  by_cases e : i = j
  · subst e
    have hi : i < sl.length := by
      have := (List.getElem?_eq_some_iff.mp q).1
      simpa using this
    rw [List.getElem?_set_self hi] at q
    cases q
    exact ⟨v, List.getElem?_set_self (by rw [← h.len]; exact hi), r⟩
  · rw [List.getElem?_set_ne e] at q
    rw [List.getElem?_set_ne e]
    exact h.at' j y q
theorem RL.unset {K : PySem.W.Frag} {ι : List Addr} {H : Hp} {sl : Sl} {σ : L2.St} (h : RL K ι H sl σ) (i : Nat) : RL K ι H (sl.set i none) (σ.set i none) := by
  refine ⟨by simp [h.len], fun j y q => ?_⟩
  by_cases e : i = j
  · subst e
    by_cases hi : i < sl.length
    · rw [List.getElem?_set_self hi] at q
      cases q
    · rw [List.getElem?_eq_none (by simp; omega)] at q
      cases q
  · rw [List.getElem?_set_ne e] at q
    rw [List.getElem?_set_ne e]
    exact h.at' j y q

/-- behind an expression -/
def Pst {α β : Type} (W : Wd) (RA : List Addr → Hp → α → β → Prop) (ι : List Addr) (H : Hp) (r : R α) (Q : β → Hp → Prop) (E : XK) : Prop := match r with
  | .ok a st' => ∀ ι' H' b, Ext ι H ι' H' → Rel W ι' H' st' → RA ι' H' a b → Q b H'
  | .ex c st' => ∀ ι' H', Ext ι H ι' H' → Rel W ι' H' st' → E (.ref (He.ga W.K c)) none H'
/-- behind a statement -/
def PsS (W : Wd) (Ew : WX) (ι : List Addr) (H : Hp) (r : RS) (D : Ends) : Prop := match r with
  | .nx sl st => ∀ ι' H' σ', Ext ι H ι' H' → Rel W ι' H' st → RL W.K ι' H' sl σ' → D.nx σ' H'
  | .rt x st => ∀ ι' H' v, Ext ι H ι' H' → Rel W ι' H' st → RV W.K ι' H' x v → D.rt v H'
  | .bk sl st => ∀ ι' H' σ', Ext ι H ι' H' → Rel W ι' H' st → RL W.K ι' H' sl σ' → D.bk σ' H'
  | .ct sl st => ∀ ι' H' σ', Ext ι H ι' H' → Rel W ι' H' st → RL W.K ι' H' sl σ' → D.ct σ' H'
  | .ex c sl st => ∀ ι' H' σ', Ext ι H ι' H' → Rel W ι' H' st → RL W.K ι' H' sl σ' → Ew (.ref (He.ga W.K c)) none σ' H'
/-- the reading of a plain function -/
def tOf {α β : Type} (W : Wd) (Ew : WX) (RA : List Addr → Hp → α → β → Prop) (m : FX α) : L2.St → Hp → (β → Hp → Prop) → Prop := fun σ H Q =>
  ∃ ι sl st r, RL W.K ι H sl σ ∧ Rel W ι H st ∧ m sl st = some r ∧ Pst W RA ι H r Q (fun c d H' => Ew c d σ H')
abbrev teOf (W : Wd) (Ew : WX) (m : FE) : TE := tOf W Ew (fun ι H => RV W.K ι H) m
abbrev ttOf (W : Wd) (Ew : WX) (m : FT) : TT := tOf W Ew (fun _ _ a b => a = b) m
abbrev taOf (W : Wd) (Ew : WX) (m : FA) : TA := tOf W Ew (fun ι H => RVs W.K ι H) m
def tsOf (W : Wd) (Ew : WX) (m : FS) : TS := fun D σ H =>
  ∃ ι sl st r, RL W.K ι H sl σ ∧ Rel W ι H st ∧ m sl st = some r ∧ PsS W Ew ι H r D

/-! ### the judgements -/
abbrev SE (W : Wd) (X : Cx) (Ew : WX) (e : Expr) (m : FE) : Prop := PE X e (teOf W Ew m)
abbrev SC (W : Wd) (X : Cx) (Ew : WX) (e : Expr) (m : FT) : Prop := PT X e (ttOf W Ew m)
abbrev SW (W : Wd) (X : Cx) (Ew : WX) (e : Expr) (m : FT) : Prop := PW X e (ttOf W Ew m)
abbrev SA (W : Wd) (X : Cx) (Ew : WX) (es : List Expr) (m : FA) : Prop := PA X es (taOf W Ew m)
abbrev SS (W : Wd) (X : Cx) (Ew : WX) (s : Stmt) (m : FS) : Prop := PS X s (tsOf W Ew m)
abbrev SSs (W : Wd) (X : Cx) (Ew : WX) (s : List Stmt) (m : FS) : Prop := PSs X s (tsOf W Ew m)

section
variable {X : Cx} {e : Expr} {es : List Expr} {s : Stmt} {ss : List Stmt}
theorem imE {t u : TE} (h : PE X e t) (i : ∀ σ H Q, u σ H Q → t σ H Q) : PE X e u := ⟨fun pins s σ H Q I hw => h.run pins s σ H Q I (i _ _ _ hw)⟩
theorem imT {t u : TT} (h : PT X e t) (i : ∀ σ H Q, u σ H Q → t σ H Q) : PT X e u := ⟨fun pins s σ H Q I hw => h.run pins s σ H Q I (i _ _ _ hw)⟩
theorem imW {t u : TT} (h : PW X e t) (i : ∀ σ H Q, u σ H Q → t σ H Q) : PW X e u := ⟨fun wh pins s σ H Q I hw => h.run wh pins s σ H Q I (i _ _ _ hw)⟩
theorem imA {t u : TA} (h : PA X es t) (i : ∀ σ H Q, u σ H Q → t σ H Q) : PA X es u := ⟨fun pos pins s σ H Q I hw => h.run pos pins s σ H Q I (i _ _ _ hw)⟩
theorem imS {t u : TS} (h : PS X s t) (i : ∀ D σ H, u D σ H → t D σ H) : PS X s u := ⟨fun pins s σ H D I hw => h.run pins s σ H D I (i _ _ _ hw)⟩
theorem imSs {t u : TS} (h : PSs X ss t) (i : ∀ D σ H, u D σ H → t D σ H) : PSs X ss u := ⟨fun pins s σ H D I hw => h.run pins s σ H D I (i _ _ _ hw)⟩
end

/-! ### one behind the other -/
def bnd {α β : Type} (m : FX α) (k : α → FX β) : FX β := fun sl st => match m sl st with
  | some (.ok a st') => k a sl st'
  | some (.ex c st') => some (.ex c st')
  | none => none
section
variable {W : Wd} {Ew : WX} {ι ι' : List Addr} {H H' : Hp} {σ : L2.St} {sl : Sl} {st : Sto}
theorem Pst.mono {α β : Type} {RA : List Addr → Hp → α → β → Prop} {r : R α} {Q : β → Hp → Prop} {E : XK} (e : Ext ι H ι' H') (h : Pst W RA ι H r Q E) : Pst W RA ι' H' r Q E := by
  cases r with
  | ok a st' => exact fun ι2 H2 b e2 r2 q => h ι2 H2 b (e.trans e2) r2 q
  | ex c st' => exact fun ι2 H2 e2 r2 => h ι2 H2 (e.trans e2) r2
theorem PsS.mono {r : RS} {D : Ends} (e : Ext ι H ι' H') (h : PsS W Ew ι H r D) : PsS W Ew ι' H' r D := by
  cases r <;> exact fun ι2 H2 b e2 r2 q => h ι2 H2 b (e.trans e2) r2 q
/-- THE STEP: a part's function has run; how the whole goes on -/
theorem run {α β γ δ : Type} {RA : List Addr → Hp → α → β → Prop} {RB : List Addr → Hp → γ → δ → Prop} {m : FX α} {k : α → FX γ} {r : R γ} {Q : β → Hp → Prop} {Q' : δ → Hp → Prop}
    (hs : RL W.K ι H sl σ) (hr : Rel W ι H st) (hm : bnd m k sl st = some r) (hq : Pst W RB ι H r Q' (fun c d H' => Ew c d σ H'))
    (hk : ∀ a st' ι' H' b, Ext ι H ι' H' → RL W.K ι' H' sl σ → Rel W ι' H' st' → RA ι' H' a b → k a sl st' = some r → Pst W RB ι' H' r Q' (fun c d H' => Ew c d σ H') → Q b H') : tOf W Ew RA m σ H Q := by
  unfold bnd at hm
  cases h : m sl st with
  | none => rw [h] at hm; cases hm
  | some x =>
    rw [h] at hm
    cases x with
    | ok a st' => exact ⟨ι, sl, st, _, hs, hr, h, fun ι' H' b e r2 ra => hk a st' ι' H' b e (hs.mono e) r2 ra hm (hq.mono e)⟩
    | ex c st' =>
      cases hm
      exact ⟨ι, sl, st, _, hs, hr, h, hq⟩
/-- the same for a statement's part -/
def bndS {α : Type} (m : FX α) (k : α → FS) : FS := fun sl st => match m sl st with
  | some (.ok a st') => k a sl st'
  | some (.ex c st') => some (.ex c sl st')
  | none => none
theorem runS {α β : Type} {RA : List Addr → Hp → α → β → Prop} {m : FX α} {k : α → FS} {r : RS} {Q : β → Hp → Prop} {D : Ends}
    (hs : RL W.K ι H sl σ) (hr : Rel W ι H st) (hm : bndS m k sl st = some r) (hq : PsS W Ew ι H r D)
    (hk : ∀ a st' ι' H' b, Ext ι H ι' H' → RL W.K ι' H' sl σ → Rel W ι' H' st' → RA ι' H' a b → k a sl st' = some r → PsS W Ew ι' H' r D → Q b H') : tOf W Ew RA m σ H Q := by
  unfold bndS at hm
  cases h : m sl st with
  | none => rw [h] at hm; cases hm
  | some x =>
    rw [h] at hm
    cases x with
    | ok a st' => exact ⟨ι, sl, st, _, hs, hr, h, fun ι' H' b e r2 ra => hk a st' ι' H' b e (hs.mono e) r2 ra hm (hq.mono e)⟩
    | ex c st' =>
      cases hm
      exact ⟨ι, sl, st, _, hs, hr, h, fun ι' H' e r2 => hq ι' H' σ e r2 (hs.mono e)⟩
end
end FL
/-! FL2: expressions. -/
namespace FL
open PySem PySem.Spec PyProof.Rows L2

theorem takesN0 {X : Cx} : L2N.Takes X (fun _ _ _ _ => False) := fun _ _ ⟨_, _, _, _, _, _, _, _, _, _, _, _, _, _, _, _, w⟩ => w.elim
/-- where a body stands: at level k, what leaves it as an exception is wished by Ew -/
structure Ctx0 (W : Wd) (k : Nat) (X : Cx) (Ew : WX) : Prop where
  eP : X.prog = W.P
  ew : X.w = W.w
  eK : X.K = W.K
  em : X.mg = W.mg
  eb : X.base = W.base
  tk : L2N.Takes X Ew
  rmu : L2H.RoomH k X.A
  nd : X.N.Nodup
  po : PassesOwn (model X.prog X.w) X.A X.env X.xe
/-- .. nothing is handled -/
structure Ctx (W : Wd) (k : Nat) (X : Cx) (Ew : WX) : Prop extends Ctx0 W k X Ew where
  rm : Room k X.A
  calm : X.calm = true
instance {W : Wd} {k : Nat} {X : Cx} {Ew : WX} : CoeOut (Ctx W k X Ew) (Ctx0 W k X Ew) := ⟨fun C => C.toCtx0⟩
theorem Ctx0.hu {W : Wd} {k : Nat} {X : Cx} {Ew : WX} (C : Ctx0 W k X Ew) : X.A.units + 64 < cLine := by
  have := C.rmu.un
  omega
theorem Ctx0.hu1 {W : Wd} {k : Nat} {X : Cx} {Ew : WX} (C : Ctx0 W k X Ew) : X.A.units + 1 < cLine := by
  have := C.rmu.un
  omega

/-! ### operations on values -/
abbrev O2 := Val → Val → Sto → Option (Val × Sto)
abbrev ON := List Val → Sto → Option (Val × Sto)
def Post (W : Wd) (ι : List Addr) (H : Hp) (v : Val) (st' : Sto) (Q : VK) : Prop := ∀ ι' H' z, Ext ι H ι' H' → Rel W ι' H' st' → RV W.K ι' H' v z → Q z H'
def ro (W : Wd) (f : O2) : R2 := fun x y H Q => ∃ ι st a b v st', RV W.K ι H a x ∧ RV W.K ι H b y ∧ Rel W ι H st ∧ f a b st = some (v, st') ∧ Post W ι H v st' Q
def rc (W : Wd) (f : ON) : List V → Hp → VK → Prop := fun xs H Q => ∃ ι st as v st', RVs W.K ι H as xs ∧ Rel W ι H st ∧ f as st = some (v, st') ∧ Post W ι H v st' Q
def rm (W : Wd) (f : Val → ON) : V → List V → Hp → VK → Prop := fun x xs H Q => ∃ ι st a as v st', RV W.K ι H a x ∧ RVs W.K ι H as xs ∧ Rel W ι H st ∧ f a as st = some (v, st') ∧ Post W ι H v st' Q
def lft (g : Sto → Option (Val × Sto)) : FE := fun _ st => match g st with
  | some (v, st') => some (.ok v st')
  | none => none

section
variable {W : Wd} {k : Nat} {X : Cx} {Ew : WX} {ι ι' : List Addr} {H H' : Hp} {st : Sto} {a b e : Expr} {es : List Expr} {ma mb me : FE} {mt mu : FT} {mas : FA} {pos : Pos}
theorem lft_some {g : Sto → Option (Val × Sto)} {sl : Sl} {r : R Val} (h : lft g sl st = some r) : ∃ v st', g st = some (v, st') ∧ r = .ok v st' := by
  unfold lft at h
  split at h
  · rename_i v st' e
    exact ⟨v, st', e, (Option.some.inj h).symm⟩
  · cases h
theorem Post.here {v : Val} {Q : VK} (h : Post W ι H v st Q) (r : Rel W ι H st) {z : V} (q : RV W.K ι H v z) : Q z H := h ι H z (Ext.refl _ _) r q
/-- a new tuple -/
theorem Post.newT {xs : List Val} {vs : List V} {Q : VK} (h : Post W ι H (.tup xs) st Q) (r : Rel W ι H st) (q : RVs W.K ι H xs vs) : ∀ p, H p = none → Q (.ref p) (upd H p (.tup vs)) := fun p hp =>
  h ι _ _ (Ext.newT hp) (r.newT hp) (.tup (SqT.of upd_same) (q.mono (Ext.newT hp)))
/-- a new thing of the store -/
theorem Post.new {o : Ob} {ho : HO} {Q : VK} (h : Post W ι H (.ref st.length) (st ++ [o]) Q) (r : Rel W ι H st) (q : RO W ι H o ho) : ∀ p, H p = none → Q (.ref p) (upd H p ho) := fun p hp =>
  h _ _ _ (Ext.new hp) (r.new hp q) (.ref (by rw [← r.len]; simp))
theorem Post.put {i : Nat} {x : Addr} {o u : Ob} {hu : HO} {v : Val} {z : V} {Q : VK} (h : Post W ι H v (st.set i u) Q) (r : Rel W ι H st) (h1 : ι[i]? = some x) (h2 : st[i]? = some o) (h3 : RO W ι H u hu) (q : RV W.K ι H v z) : Q z (upd H x hu) :=
  h _ _ _ (Ext.put r h1 h2) (r.put h1 h2 h3) (q.mono (Ext.put r h1 h2))
theorem Rel.lst {i : Nat} {x : Addr} {xs : List Val} (r : Rel W ι H st) (h : st[i]? = some (.lst xs)) (hx : ι[i]? = some x) : ∃ vs, H x = some (.lst vs) ∧ RVs W.K ι H xs vs := by
  obtain ⟨ho, h1, h2⟩ := r.ob i x _ hx h
  cases ho <;> first | exact h2.elim | exact ⟨_, h1, h2⟩
theorem Rel.dic {i : Nat} {x : Addr} {xs : List (Key × Val)} (r : Rel W ι H st) (h : st[i]? = some (.dic xs)) (hx : ι[i]? = some x) : ∃ vs, H x = some (.dK vs) ∧ Paired (fun (p : Key × Val) (q : Key × V) => p.1 = q.1 ∧ RV W.K ι H p.2 q.2) xs vs := by
  obtain ⟨ho, h1, h2⟩ := r.ob i x _ hx h
  cases ho <;> first | exact h2.elim | exact ⟨_, h1, h2⟩
/-- a rule by cases -/
theorem opBy {f : Value → Value → Sem Value} {r' : R2} (h : ∀ x y H Q, r' x y H Q → ∃ r, OpR X f r ∧ r x y H Q) : OpR X f r' := fun pins s σ H x y v u Q I rx ry hw =>
  let ⟨_, h1, h2⟩ := h x y H Q hw
  h1 pins s σ H x y v u Q I rx ry h2
theorem ixBy {r' : R2} (h : ∀ x y H Q, r' x y H Q → ∃ r, IxR X r ∧ r x y H Q) : IxR X r' := fun va sl pins s σ H x y v u Q I rx ry hw =>
  let ⟨_, h1, h2⟩ := h x y H Q hw
  h1 va sl pins s σ H x y v u Q I rx ry h2
theorem slBy {r' : V → Option Int → Option Int → Hp → VK → Prop} (h : ∀ x lo hi H Q, r' x lo hi H Q → ∃ r, SlR X r ∧ r x lo hi H Q) : SlR X r' := fun pins s σ H x v vl vu lo hi sl Q I rx is p1 p2 hw =>
  let ⟨_, h1, h2⟩ := h x lo hi H Q hw
  h1 pins s σ H x v vl vu lo hi sl Q I rx is p1 p2 h2
theorem callBy {f : Value} {r' : List V → Hp → VK → Prop} (h : ∀ xs H Q, r' xs H Q → ∃ r, CallR X f r ∧ r xs H Q) : CallR X f r' := fun pins s σ H xs us Q I rx hw =>
  let ⟨_, h1, h2⟩ := h xs H Q hw
  h1 pins s σ H xs us Q I rx h2

/-! ### names, constants -/
def fVar (i : Nat) : FE := fun sl st => match sl[i]? with
  | some (some v) => some (.ok v st)
  | _ => none
def fC (v : Val) : FE := fun _ st => some (.ok v st)
theorem se_var (i : Nat) {x : Str} (hN : X.N[i]? = some x := by rfl) (hv : Vis X.env.scope x := by first | exact Or.inl rfl | exact Or.inr (Or.inl rfl) | exact Or.inr (Or.inr rfl)) (hd : (x == ("__debug__" : Str)) = false := by decide)
    (hcd : (x == ("__classdict__" : Str)) = false := by decide) : SE W X Ew (.Name x pos) (fVar i) := by
  refine imE (pe_var hN hv hd hcd) fun σ H Q ⟨ι, sl, st, r, hs, hr, hm, hq⟩ => ?_
  unfold fVar at hm
  split at hm
  · rename_i v h
    cases hm
    obtain ⟨u, h1, h2⟩ := hs.at' i v h
    exact ⟨u, h1, hq ι H u (Ext.refl _ _) hr h2⟩
  · cases hm
theorem se_c {v : Val} {z : V} (h : PE X e (tC z)) (hv : ∀ ι H, RV W.K ι H v z) : SE W X Ew e (fC v) := imE h fun σ H Q ⟨ι, sl, st, r, hs, hr, hm, hq⟩ => by
  cases hm
  exact hq ι H z (Ext.refl _ _) hr (hv ι H)
theorem se_int {i : Int} {j : Nat} : SE W X Ew (.Constant (.int i) j pos) (fC (.int i)) := se_c pe_int fun _ _ => .int i
theorem se_bl {i : Bool} {j : Nat} : SE W X Ew (.Constant (.bool i) j pos) (fC (.bl i)) := se_c pe_bl fun _ _ => .bl i
theorem se_non {j : Nat} : SE W X Ew (.Constant .none j pos) (fC .non) := se_c pe_non fun _ _ => .non
theorem se_str (l : List Nat) {x : Str} {j : Nat} (h : x = St' l := by rfl) : SE W X Ew (.Constant (.str x) j pos) (fC (.str l)) := by
  subst h
  exact se_c pe_str fun _ _ => .str l
/-- a constant of the module: an int -/
theorem se_gint {i : Int} {x : Str} (C : Ctx0 W k X Ew) (hm : ∃ t, W.mg x = some (.int i t)) (hg : Gl X x := by rfl) (hd : (x == ("__debug__" : Str)) = false := by decide) : SE W X Ew (.Name x pos) (fC (.int i)) :=
  let ⟨t, hm⟩ := hm
  se_c (z := .int i) (pe_glob hg (by rw [C.em]; exact hm) (show RelV (.int i) (.int i t) from ⟨t, rfl⟩) hd) fun _ _ => .int i
theorem se_gstr {l : List Nat} {x : Str} (C : Ctx0 W k X Ew) (hm : ∃ t, W.mg x = some (.str (St' l) t)) (hg : Gl X x := by rfl) (hd : (x == ("__debug__" : Str)) = false := by decide) : SE W X Ew (.Name x pos) (fC (.str l)) :=
  let ⟨t, hm⟩ := hm
  se_c (z := .str (St' l)) (pe_glob hg (by rw [C.em]; exact hm) (show RelV (.str (St' l)) (.str (St' l) t) from ⟨t, rfl⟩) hd) fun _ _ => .str l
/-- a tuple of the written part -/
theorem se_gtup {xs : List Val} {vs : List V} {p : Addr} {x : Str} (C : Ctx0 W k X Ew) (hm : W.mg x = some (.ref p)) (h : ∀ H, SqT W.K H p vs) (hv : ∀ ι H, RVs W.K ι H xs vs) (hg : Gl X x := by rfl) (hd : (x == ("__debug__" : Str)) = false := by decide) : SE W X Ew (.Name x pos) (fC (.tup xs)) :=
  se_c (z := .ref p) (pe_glob hg (by rw [C.em]; exact hm) rfl hd) fun ι H => .tup (h H) (hv ι H)

/-! ### operators -/
def fOp (f : O2) (ma mb : FE) : FE := bnd ma fun x => bnd mb fun y => lft (f x y)
theorem ro_of {f : O2} {x y : Val} {vx vy : V} {sl : Sl} {r : R Val} {Q : VK} {E : XK} (rx : RV W.K ι H x vx) (ry : RV W.K ι H y vy) (hr : Rel W ι H st) (hm : lft (f x y) sl st = some r) (hq : Pst W (fun ι H => RV W.K ι H) ι H r Q E) : ro W f vx vy H Q := by
  obtain ⟨v, st', h1, rfl⟩ := lft_some hm
  exact ⟨ι, st, x, y, v, st', rx, ry, hr, h1, hq⟩
theorem se_op {op : Operator} {f : O2} (ho : OpR X (binaryOp op) (ro W f)) (ha : SE W X Ew a ma) (hb : SE W X Ew b mb) : SE W X Ew (.BinOp a op b pos) (fOp f ma mb) :=
  imE (pe_op ho ha hb) fun σ H Q ⟨ι, sl, st, r, hs, hr, hm, hq⟩ => run hs hr hm hq fun x st1 ι1 H1 vx e1 s1 r1 rx hm1 hq1 => run s1 r1 hm1 hq1 fun y st2 ι2 H2 vy e2 s2 r2 ry hm2 hq2 =>
    ro_of (rx.mono e2) ry r2 hm2 hq2
theorem se_cmp {op : CmpOp} {f : O2} (ho : OpR X (compareOp op) (ro W f)) (ha : SE W X Ew a ma) (hb : SE W X Ew b mb) (h : behindInMarks op b = false := by first | exact nomark _ | rfl) : SE W X Ew (.Compare a [op] [b] pos) (fOp f ma mb) :=
  imE (pe_cmpR ho ha hb h) fun σ H Q ⟨ι, sl, st, r, hs, hr, hm, hq⟩ => run hs hr hm hq fun x st1 ι1 H1 vx e1 s1 r1 rx hm1 hq1 => run s1 r1 hm1 hq1 fun y st2 ι2 H2 vy e2 s2 r2 ry hm2 hq2 =>
    ro_of (rx.mono e2) ry r2 hm2 hq2
/-- a value that is True or False, as a test -/
def asB : Val → FT
  | .bl b => fun _ st => some (.ok b st)
  | _ => fun _ _ => none
def fB (m : FE) : FT := bnd m asB
theorem fB_of {x : Val} {vx : V} {sl : Sl} {r : R Bool} {Q : Bool → Hp → Prop} {E : XK} (rx : RV W.K ι H x vx) (hr : Rel W ι H st) (hm : asB x sl st = some r) (hq : Pst W (fun _ _ a b => a = b) ι H r Q E) : ∃ c, vx = .bl c ∧ Q c H := by
  cases rx <;> first
    | (cases hm; done)
    | (cases hm
       exact ⟨_, rfl, hq ι H _ (Ext.refl _ _) hr rfl⟩)
theorem sc_cmp {op : CmpOp} {f : O2} (ho : OpR X (compareOp op) (ro W f)) (ha : SE W X Ew a ma) (hb : SE W X Ew b mb) (h : behindInMarks op b = false := by first | exact nomark _ | rfl) : SC W X Ew (.Compare a [op] [b] pos) (fB (fOp f ma mb)) := by
  refine imT (pt_cmpR ho ha hb h) fun σ H Q ⟨ι, sl, st, r, hs, hr, hm, hq⟩ => ?_
  have q : teOf W Ew (fOp f ma mb) σ H fun x H' => ∃ k, x = .bl k ∧ Q k H' := run hs hr hm hq fun x st1 ι1 H1 vx e1 s1 r1 rx hm1 hq1 => fB_of rx r1 hm1 hq1
  obtain ⟨ι, sl, st, r, hs, hr, hm, hq⟩ := q
  exact run hs hr hm hq fun x st1 ι1 H1 vx e1 s1 r1 rx hm1 hq1 => run s1 r1 hm1 hq1 fun y st2 ι2 H2 vy e2 s2 r2 ry hm2 hq2 => ro_of (rx.mono e2) ry r2 hm2 hq2
theorem sc_val (h : SE W X Ew e me) (he : ∀ whole, isTrue e X.env whole = (do let v ← whole; standAt e.pos; holding [v] (truthy v)) := by intro _; rfl) : SC W X Ew e (fB me) :=
  imT (pt_val h he) fun σ H Q ⟨ι, sl, st, r, hs, hr, hm, hq⟩ => run hs hr hm hq fun x st1 ι1 H1 vx e1 s1 r1 rx hm1 hq1 => fB_of rx r1 hm1 hq1

/-! ### and, or, not, if -/
def fAnd (m n : FT) : FT := bnd m fun b => if b then n else fun _ st => some (.ok false st)
def fOr (m n : FT) : FT := bnd m fun b => if b then fun _ st => some (.ok true st) else n
def fNot (m : FT) : FT := bnd m fun b => fun _ st => some (.ok (!b) st)
def fIf {α : Type} (m : FT) (n k : FX α) : FX α := bnd m fun b => if b then n else k
theorem toOf {α β : Type} {RA : List Addr → Hp → α → β → Prop} {m : FX α} {σ : L2.St} {sl : Sl} {r : R α} {Q : β → Hp → Prop} (hs : RL W.K ι H sl σ) (hr : Rel W ι H st) (hm : m sl st = some r) (hq : Pst W RA ι H r Q (fun c d H' => Ew c d σ H')) : tOf W Ew RA m σ H Q :=
  ⟨ι, sl, st, r, hs, hr, hm, hq⟩
theorem bl_of {b : Bool} {sl : Sl} {r : R Bool} {Q : Bool → Hp → Prop} {E : XK} (hr : Rel W ι H st) (hm : (fun (_ : Sl) (st : Sto) => some (R.ok b st)) sl st = some r) (hq : Pst W (fun _ _ a b => a = b) ι H r Q E) : Q b H := by
  cases hm
  exact hq ι H _ (Ext.refl _ _) hr rfl
theorem ve_of {v : Val} {z : V} {sl : Sl} {r : R Val} {Q : VK} {E : XK} (hr : Rel W ι H st) (hv : RV W.K ι H v z) (hm : (fun (_ : Sl) (st : Sto) => some (R.ok v st)) sl st = some r) (hq : Pst W (fun ι H => RV W.K ι H) ι H r Q E) : Q z H := by
  cases hm
  exact hq ι H _ (Ext.refl _ _) hr hv
theorem sw_one1 (h : SC W X Ew a mt) : SW W X Ew (.BoolOp .And [a] pos) mt := pw_and1 h
theorem sw_one2 (h : SC W X Ew a mt) : SW W X Ew (.BoolOp .Or [a] pos) mt := pw_or1 h
theorem sw_and (ha : SC W X Ew a mt) (hb : SW W X Ew (.BoolOp .And (b :: es) pos) mu) : SW W X Ew (.BoolOp .And (a :: b :: es) pos) (fAnd mt mu) :=
  imW (pw_and ha hb) fun σ H Q ⟨ι, sl, st, r, hs, hr, hm, hq⟩ => run hs hr hm hq fun x st1 ι1 H1 vx e1 s1 r1 rx hm1 hq1 => by
    subst rx
    cases x with
    | true => exact toOf s1 r1 hm1 hq1
    | false => exact bl_of (st := st1) (sl := sl) r1 hm1 hq1
theorem sw_or (ha : SC W X Ew a mt) (hb : SW W X Ew (.BoolOp .Or (b :: es) pos) mu) : SW W X Ew (.BoolOp .Or (a :: b :: es) pos) (fOr mt mu) :=
  imW (pw_or ha hb) fun σ H Q ⟨ι, sl, st, r, hs, hr, hm, hq⟩ => run hs hr hm hq fun x st1 ι1 H1 vx e1 s1 r1 rx hm1 hq1 => by
    subst rx
    cases x with
    | true => exact bl_of (st := st1) (sl := sl) r1 hm1 hq1
    | false => exact toOf s1 r1 hm1 hq1
theorem sc_w (h : SW W X Ew e mt) : SC W X Ew e mt := PW.pt h
theorem sc_not (ha : SC W X Ew a mt) : SC W X Ew (.UnaryOp .Not a pos) (fNot mt) :=
  imT (pt_not ha) fun σ H Q ⟨ι, sl, st, r, hs, hr, hm, hq⟩ => run hs hr hm hq fun x st1 ι1 H1 vx e1 s1 r1 rx hm1 hq1 => by
    subst rx
    exact bl_of (st := st1) (sl := sl) r1 hm1 hq1
/-- .. as values -/
def fV (m : FT) : FE := bnd m fun b => fun _ st => some (.ok (.bl b) st)
def fAndV (m n : FE) : FE := bnd m fun x => match x with
  | .bl true => n
  | .bl false => fun _ st => some (.ok (.bl false) st)
  | _ => fun _ _ => none
def fOrV (m n : FE) : FE := bnd m fun x => match x with
  | .bl true => fun _ st => some (.ok (.bl true) st)
  | .bl false => n
  | _ => fun _ _ => none
def fNotV (m : FE) : FE := bnd m fun x => match x with
  | .bl b => fun _ st => some (.ok (.bl (!b)) st)
  | _ => fun _ _ => none
theorem se_one {op : BoolOp} (h : SE W X Ew a ma) : SE W X Ew (.BoolOp op [a] pos) ma := pe_one h
theorem se_and (ha : SE W X Ew a ma) (hb : SE W X Ew (.BoolOp .And (b :: es) pos) mb) : SE W X Ew (.BoolOp .And (a :: b :: es) pos) (fAndV ma mb) :=
  imE (pe_and ha hb) fun σ H Q ⟨ι, sl, st, r, hs, hr, hm, hq⟩ => run hs hr hm hq fun x st1 ι1 H1 vx e1 s1 r1 rx hm1 hq1 => by
    cases rx <;> first
      | (cases hm1; done)
      | (rename_i b
         cases b with
         | true => exact ⟨true, rfl, toOf s1 r1 hm1 hq1⟩
         | false => exact ⟨false, rfl, ve_of (st := st1) (sl := sl) r1 (.bl false) hm1 hq1⟩)
theorem se_or (ha : SE W X Ew a ma) (hb : SE W X Ew (.BoolOp .Or (b :: es) pos) mb) : SE W X Ew (.BoolOp .Or (a :: b :: es) pos) (fOrV ma mb) :=
  imE (pe_or ha hb) fun σ H Q ⟨ι, sl, st, r, hs, hr, hm, hq⟩ => run hs hr hm hq fun x st1 ι1 H1 vx e1 s1 r1 rx hm1 hq1 => by
    cases rx <;> first
      | (cases hm1; done)
      | (rename_i b
         cases b with
         | true => exact ⟨true, rfl, ve_of (st := st1) (sl := sl) r1 (.bl true) hm1 hq1⟩
         | false => exact ⟨false, rfl, toOf s1 r1 hm1 hq1⟩)
theorem se_not (ha : SE W X Ew a ma) : SE W X Ew (.UnaryOp .Not a pos) (fNotV ma) :=
  imE (pe_not ha) fun σ H Q ⟨ι, sl, st, r, hs, hr, hm, hq⟩ => run hs hr hm hq fun x st1 ι1 H1 vx e1 s1 r1 rx hm1 hq1 => by
    cases rx <;> first
      | (cases hm1; done)
      | (rename_i b
         exact ⟨b, rfl, ve_of (st := st1) (sl := sl) r1 (.bl _) hm1 hq1⟩)
theorem se_if {c : Expr} (hc : SC W X Ew c mt) (ha : SE W X Ew a ma) (hb : SE W X Ew b mb) : SE W X Ew (.IfExp c a b pos) (fIf mt ma mb) :=
  imE (pe_ifExp hc ha hb) fun σ H Q ⟨ι, sl, st, r, hs, hr, hm, hq⟩ => run hs hr hm hq fun x st1 ι1 H1 vx e1 s1 r1 rx hm1 hq1 => by
    subst rx
    cases x with
    | true => exact toOf s1 r1 hm1 hq1
    | false => exact toOf s1 r1 hm1 hq1

/-! ### argument lists, displays -/
def fNil : FA := fun _ st => some (.ok [] st)
def fCons (m : FE) (n : FA) : FA := bnd m fun x => bnd n fun xs => fun _ st => some (.ok (x :: xs) st)
theorem sa_nil : SA W X Ew [] fNil := imA pa_nil fun σ H Q ⟨ι, sl, st, r, hs, hr, hm, hq⟩ => by
  cases hm
  exact hq ι H _ (Ext.refl _ _) hr .nil
theorem sa_cons (ha : SE W X Ew a ma) (hb : SA W X Ew es mas) (h1 : starEach (a :: es) X.env = (false, eval a X.env) :: starEach es X.env := by rfl) : SA W X Ew (a :: es) (fCons ma mas) :=
  imA (pa_cons ha hb h1) fun σ H Q ⟨ι, sl, st, r, hs, hr, hm, hq⟩ => run hs hr hm hq fun x st1 ι1 H1 vx e1 s1 r1 rx hm1 hq1 => run s1 r1 hm1 hq1 fun y st2 ι2 H2 vy e2 s2 r2 ry hm2 hq2 => by
    cases hm2
    exact hq2 ι2 H2 _ (Ext.refl _ _) r2 (.cons (rx.mono e2) ry)
def fTup (m : FA) : FE := bnd m fun xs => fun _ st => if xs.length ≤ LINE then some (.ok (.tup xs) st) else none
def fLst (m : FA) : FE := bnd m fun xs => fun _ st => if xs.length ≤ LINE then some (.ok (.ref st.length) (st ++ [.lst xs])) else none
theorem line_eq : LINE = sizeLine := by decide
theorem se_tup {j : Nat} (h : SA W X Ew es mas) : SE W X Ew (.Tuple es j pos) (fTup mas) :=
  imE (pe_tup h) fun σ H Q ⟨ι, sl, st, r, hs, hr, hm, hq⟩ => run hs hr hm hq fun x st1 ι1 H1 vx e1 s1 r1 rx hm1 hq1 => by
    have hm2 : (if x.length ≤ LINE then some (R.ok (.tup x) st1) else none) = some r := hm1
    by_cases hl : x.length ≤ LINE
    · rw [if_pos hl] at hm2
      cases hm2
      exact ⟨by rw [← rx.len, ← line_eq]; exact hl, Post.newT hq1 r1 rx⟩
    · rw [if_neg hl] at hm2
      cases hm2
theorem se_lst (h : SA W X Ew es mas) : SE W X Ew (.List es pos) (fLst mas) :=
  imE (pe_lst h) fun σ H Q ⟨ι, sl, st, r, hs, hr, hm, hq⟩ => run hs hr hm hq fun x st1 ι1 H1 vx e1 s1 r1 rx hm1 hq1 => by
    have hm2 : (if x.length ≤ LINE then some (R.ok (.ref st1.length) (st1 ++ [.lst x])) else none) = some r := hm1
    by_cases hl : x.length ≤ LINE
    · rw [if_pos hl] at hm2
      cases hm2
      exact ⟨by rw [← rx.len, ← line_eq]; exact hl, Post.new hq1 r1 (show RO W ι1 H1 (.lst x) (.lst vx) from rx)⟩
    · rw [if_neg hl] at hm2
      cases hm2

/-! ### subscripts, slices -/
theorem se_ix {f : O2} (ho : IxR X (ro W f)) (ha : SE W X Ew a ma) (hb : SE W X Ew b mb) (hp : PlainIx b := by exact fun _ _ => rfl) : SE W X Ew (.Subscript a b pos) (fOp f ma mb) :=
  imE (pe_ix ho ha hb hp) fun σ H Q ⟨ι, sl, st, r, hs, hr, hm, hq⟩ => run hs hr hm hq fun x st1 ι1 H1 vx e1 s1 r1 rx hm1 hq1 => run s1 r1 hm1 hq1 fun y st2 ι2 H2 vy e2 s2 r2 ry hm2 hq2 =>
    ro_of (rx.mono e2) ry r2 hm2 hq2
abbrev FO := FX (Option Int)
abbrev OSl := Val → Option Int → Option Int → Sto → Option (Val × Sto)
abbrev SO (W : Wd) (X : Cx) (Ew : WX) (e : Option Expr) (m : FO) : Prop := PO X e (tOf W Ew (fun _ _ a b => a = b) m)
def fPart (m : FE) : FO := bnd m fun x => fun _ st => match x with
  | .int i => some (.ok (some i) st)
  | _ => none
def fNoPart : FO := fun _ st => some (.ok none st)
theorem imO {o : Option Expr} {t u : TO} (h : PO X o t) (i : ∀ σ H Q, u σ H Q → t σ H Q) : PO X o u := ⟨fun pins s σ H Q I hw => h.run pins s σ H Q I (i _ _ _ hw)⟩
theorem so_none : SO W X Ew none fNoPart := imO po_none fun σ H Q ⟨ι, sl, st, r, hs, hr, hm, hq⟩ => by
  cases hm
  exact hq ι H _ (Ext.refl _ _) hr rfl
theorem so_some (h : SE W X Ew e me) : SO W X Ew (some e) (fPart me) := imO (po_some h) fun σ H Q ⟨ι, sl, st, r, hs, hr, hm, hq⟩ => run hs hr hm hq fun x st1 ι1 H1 vx e1 s1 r1 rx hm1 hq1 => by
  cases rx <;> first
    | (cases hm1; done)
    | (cases hm1
       exact ⟨_, rfl, hq1 ι1 H1 _ (Ext.refl _ _) r1 rfl⟩)
def rs (W : Wd) (f : OSl) : V → Option Int → Option Int → Hp → VK → Prop := fun x lo hi H Q => ∃ ι st a v st', RV W.K ι H a x ∧ Rel W ι H st ∧ f a lo hi st = some (v, st') ∧ Post W ι H v st' Q
def fSlice (f : OSl) (m : FE) (lo hi : FO) : FE := bnd m fun x => bnd lo fun l => bnd hi fun u => lft (f x l u)
theorem se_sl {f : OSl} {lo hi : Option Expr} {ml mh : FO} {p2 : Pos} (ho : SlR X (rs W f)) (ha : SE W X Ew a ma) (hl : SO W X Ew lo ml) (hh : SO W X Ew hi mh) : SE W X Ew (.Subscript a (.Slice lo hi none p2) pos) (fSlice f ma ml mh) :=
  imE (pe_slice ho ha hl hh) fun σ H Q ⟨ι, sl, st, r, hs, hr, hm, hq⟩ => run hs hr hm hq fun x st1 ι1 H1 vx e1 s1 r1 rx hm1 hq1 => run s1 r1 hm1 hq1 fun y st2 ι2 H2 vy e2 s2 r2 ry hm2 hq2 => run s2 r2 hm2 hq2 fun z st3 ι3 H3 vz e3 s3 r3 rz hm3 hq3 => by
    subst ry rz
    obtain ⟨v, st', h1, rfl⟩ := lft_some hm3
    exact ⟨ι3, st3, x, v, st', (rx.mono e2).mono e3, r3, h1, hq3⟩

/-! ### calls of built-ins -/
def fCall (f : ON) (m : FA) : FE := bnd m fun xs => lft (f xs)
theorem rc_of {f : ON} {xs : List Val} {vs : List V} {sl : Sl} {r : R Val} {Q : VK} {E : XK} (rx : RVs W.K ι H xs vs) (hr : Rel W ι H st) (hm : lft (f xs) sl st = some r) (hq : Pst W (fun ι H => RV W.K ι H) ι H r Q E) : rc W f vs H Q := by
  obtain ⟨v, st', h1, rfl⟩ := lft_some hm
  exact ⟨ι, st, xs, v, st', rx, hr, h1, hq⟩
theorem se_blt {id : String} {x : Str} {p : Pos} {f : ON} (C : Ctx0 W k X Ew) (ho : CallR X (.builtin id) (rc W f)) (hm : W.mg x = none) (hb : bootBuiltins x = some (.builtin id)) (ha : SA W X Ew (e :: es) mas) (hg : Gl X x := by rfl) (hn : x ≠ "__name__" := by decide) (hd : (x == ("__debug__" : Str)) = false := by decide)
    (h1 : starEach (e :: es) X.env = (false, eval e X.env) :: starEach es X.env := by rfl) (h2 : (backTo pos (starEach es X.env)).any (·.1) = false := by rfl) : SE W X Ew (.Call (.Name x p) (e :: es) [] pos) (fCall f mas) :=
  imE (pe_callB ho hg (by rw [C.em]; exact hm) hb ha hn hd h1 h2) fun σ H Q ⟨ι, sl, st, r, hs, hr, hm, hq⟩ => run hs hr hm hq fun x st1 ι1 H1 vx e1 s1 r1 rx hm1 hq1 => rc_of rx r1 hm1 hq1
theorem se_bty {id : String} {x : Str} {p : Pos} {f : ON} (C : Ctx0 W k X Ew) (ho : CallR X (.type id) (rc W f)) (hm : W.mg x = none) (hb : bootBuiltins x = some (.type id)) (ha : SA W X Ew (e :: es) mas) (hg : Gl X x := by rfl) (hn : x ≠ "__name__" := by decide) (hd : (x == ("__debug__" : Str)) = false := by decide)
    (h1 : starEach (e :: es) X.env = (false, eval e X.env) :: starEach es X.env := by rfl) (h2 : (backTo pos (starEach es X.env)).any (·.1) = false := by rfl) : SE W X Ew (.Call (.Name x p) (e :: es) [] pos) (fCall f mas) :=
  imE (pe_callTy ho hg (by rw [C.em]; exact hm) hb ha hn hd h1 h2) fun σ H Q ⟨ι, sl, st, r, hs, hr, hm, hq⟩ => run hs hr hm hq fun x st1 ι1 H1 vx e1 s1 r1 rx hm1 hq1 => rc_of rx r1 hm1 hq1
end
end FL
/-! FL3: statements, targets, loops, comprehensions, calls of defs. -/
namespace FL
open PySem PySem.Spec PyProof.Rows L2

section
variable {W : Wd} {k : Nat} {X : Cx} {Ew : WX} {ι ι' : List Addr} {H H' : Hp} {st : Sto} {a b e : Expr} {es : List Expr} {ma mb me : FE} {mt mu : FT} {mas : FA} {pos : Pos} {s : Stmt} {ss : List Stmt} {m n : FS}

/-! ### blocks -/
def fSkip : FS := fun sl st => some (.nx sl st)
def fSeq (m n : FS) : FS := fun sl st => match m sl st with
  | some (.nx sl' st') => n sl' st'
  | r => r
theorem tsOf_go {σ : L2.St} {sl : Sl} {r : RS} {D : Ends} (hs : RL W.K ι H sl σ) (hr : Rel W ι H st) (hm : m sl st = some r) (hq : PsS W Ew ι H r D) : tsOf W Ew m D σ H := ⟨ι, sl, st, r, hs, hr, hm, hq⟩
theorem nx_of {σ : L2.St} {sl : Sl} {r : RS} {D : Ends} (hs : RL W.K ι H sl σ) (hr : Rel W ι H st) (hm : some (RS.nx sl st) = some r) (hq : PsS W Ew ι H r D) : D.nx σ H := by
  cases hm
  exact hq ι H σ (Ext.refl _ _) hr hs
theorem ss_nil : SSs W X Ew [] fSkip := imSs pss_nil fun D σ H ⟨ι, sl, st, r, hs, hr, hm, hq⟩ => nx_of hs hr hm hq
theorem seq_imp : ∀ D σ H, tsOf W Ew (fSeq m n) D σ H → tSeq (tsOf W Ew m) (tsOf W Ew n) D σ H := fun D σ H ⟨ι, sl, st, r, hs, hr, hm, hq⟩ => by
  unfold fSeq at hm
  cases h : m sl st with
  | none => rw [h] at hm; cases hm
  | some x =>
    rw [h] at hm
    cases x with
    | nx sl' st' => exact ⟨ι, sl, st, _, hs, hr, h, fun ι' H' σ' e r2 s2 => ⟨ι', sl', st', r, s2, r2, hm, hq.mono e⟩⟩
    | rt v st' => cases hm; exact ⟨ι, sl, st, _, hs, hr, h, hq⟩
    | bk sl' st' => cases hm; exact ⟨ι, sl, st, _, hs, hr, h, hq⟩
    | ct sl' st' => cases hm; exact ⟨ι, sl, st, _, hs, hr, h, hq⟩
    | ex c sl' st' => cases hm; exact ⟨ι, sl, st, _, hs, hr, h, hq⟩
theorem ss_cons (h1 : SS W X Ew s m) (h2 : SSs W X Ew ss n) : SSs W X Ew (s :: ss) (fSeq m n) := imSs (pss_cons h1 h2) seq_imp
theorem ss_one (h1 : SS W X Ew s m) : SSs W X Ew [s] m := pss_one h1

/-! ### targets -/
abbrev FG := Val → Sl → Sto → Option (Sl × Sto)
abbrev FGs := List Val → Sl → Sto → Option (Sl × Sto)
def tgOf (W : Wd) (g : FG) : TG := fun v σ H Q => ∃ ι sl st x sl' st', RL W.K ι H sl σ ∧ Rel W ι H st ∧ RV W.K ι H x v ∧ g x sl st = some (sl', st') ∧ ∀ ι' H' σ', Ext ι H ι' H' → Rel W ι' H' st' → RL W.K ι' H' sl' σ' → Q σ' H'
def tgsOf (W : Wd) (g : FGs) : TGs := fun v σ H Q => ∃ ι sl st x sl' st', RL W.K ι H sl σ ∧ Rel W ι H st ∧ RVs W.K ι H x v ∧ g x sl st = some (sl', st') ∧ ∀ ι' H' σ', Ext ι H ι' H' → Rel W ι' H' st' → RL W.K ι' H' sl' σ' → Q σ' H'
abbrev SG (W : Wd) (X : Cx) (e : Expr) (g : FG) : Prop := PG X e (tgOf W g)
abbrev SGs (W : Wd) (X : Cx) (e : List Expr) (g : FGs) : Prop := PGs X e (tgsOf W g)
theorem imG {t u : TG} (h : PG X e t) (i : ∀ v σ H Q, u v σ H Q → t v σ H Q) : PG X e u := ⟨fun pins s σ H v w Q I r hw => h.run pins s σ H v w Q I r (i _ _ _ _ hw)⟩
theorem imGs {t u : TGs} (h : PGs X es t) (i : ∀ v σ H Q, u v σ H Q → t v σ H Q) : PGs X es u := ⟨fun pins s σ H v w Q I r hw => h.run pins s σ H v w Q I r (i _ _ _ _ hw)⟩
def gSet (i : Nat) : FG := fun x sl st => some (sl.set i (some x), st)
theorem sg_name (i : Nat) {x : Str} (nd : X.N.Nodup) (hN : X.N[i]? = some x := by rfl) (hl : L2.Loc X.env.scope x := by first | exact Or.inl rfl | exact Or.inr rfl) (hf : X.fn x = true ∨ X.env.scope.names.lookup x = some .local := by first | exact Or.inl rfl | exact Or.inr rfl) :
    SG W X (.Name x pos) (gSet i) := imG (pg_name nd hN hl hf) fun v σ H Q ⟨ι, sl, st, x, sl', st', hs, hr, hx, hm, hq⟩ => by
  cases hm
  exact hq ι H _ (Ext.refl _ _) hr (hs.set hx i)
def gNo : FGs := fun xs sl st => match xs with
  | [] => some (sl, st)
  | _ => none
def gAnd (g : FG) (h : FGs) : FGs := fun xs sl st => match xs with
  | [] => none
  | x :: r => match g x sl st with
    | some (sl', st') => h r sl' st'
    | none => none
theorem sgs_nil : SGs W X [] gNo := imGs pgs_nil fun v σ H Q ⟨ι, sl, st, x, sl', st', hs, hr, hx, hm, hq⟩ => by
  cases hx with
  | nil =>
    cases hm
    exact ⟨rfl, hq ι H _ (Ext.refl _ _) hr hs⟩
  | cons _ _ => cases hm
theorem sgs_cons {g : FG} {h : FGs} (hg : SG W X e g) (hh : SGs W X es h) (h1 : (assignEach (e :: es) X.env).map (·.2) = assign e X.env :: (assignEach es X.env).map (·.2) := by rfl) : SGs W X (e :: es) (gAnd g h) :=
  imGs (pgs_cons hg hh h1) fun v σ H Q ⟨ι, sl, st, x, sl', st', hs, hr, hx, hm, hq⟩ => by
    cases hx with
    | nil => cases hm
    | @cons x v xs vs rx rxs =>
      have hm2 : (match g x sl st with | some (sl', st') => h xs sl' st' | none => none) = some (sl', st') := hm
      cases hg1 : g x sl st with
      | none => rw [hg1] at hm2; cases hm2
      | some p =>
        obtain ⟨sl1, st1⟩ := p
        rw [hg1] at hm2
        refine ⟨v, vs, rfl, ι, sl, st, x, sl1, st1, hs, hr, rx, hg1, fun ι' H' σ' e1 r1 s1 => ⟨ι', sl1, st1, xs, sl', st', s1, r1, rxs.mono e1, hm2, fun ι2 H2 σ2 e2 r2 s2 => hq ι2 H2 σ2 (e1.trans e2) r2 s2⟩⟩
def gTupl (g : FGs) (n : Nat) : FG := fun x sl st => match x with
  | .tup xs => if xs.length = n then g xs sl st else none
  | _ => none
theorem sg_tup {g : FGs} {j n : Nat} (C : Ctx W k X Ew) (h : SGs W X es g) (h1 : (assignEach es X.env).length = n := by rfl) (h2 : List.findIdx? (fun x => x.1) (assignEach es X.env) = none := by rfl) : SG W X (.Tuple es j pos) (gTupl g n) :=
  imG (pg_tup C.calm h h1 h2) fun v σ H Q ⟨ι, sl, st, x, sl', st', hs, hr, hx, hm, hq⟩ => by
    cases hx with
    | @tup a vs xs sq rx =>
      have hm2 : (if xs.length = n then g xs sl st else none) = some (sl', st') := hm
      by_cases hl : xs.length = n
      · rw [if_pos hl] at hm2
        exact ⟨a, vs, rfl, by rw [C.eK]; exact sq, by rw [← rx.len]; exact hl, ι, sl, st, xs, sl', st', hs, hr, rx, hm2, hq⟩
      · rw [if_neg hl] at hm2
        cases hm2
    | _ => cases hm
/-- o[i] = v -/
abbrev O3 := Val → Val → Val → Sto → Option Sto
def rset (W : Wd) (f : O3) : TSet := fun o i v H Q => ∃ ι st x y z st', RV W.K ι H x o ∧ RV W.K ι H y i ∧ RV W.K ι H z v ∧ Rel W ι H st ∧ f x y z st = some st' ∧ ∀ ι' H', Ext ι H ι' H' → Rel W ι' H' st' → Q H'
def gIx (f : O3) (mo mi : FE) : FG := fun x sl st => match mo sl st with
  | some (.ok o st1) => match mi sl st1 with
    | some (.ok i st2) => match f o i x st2 with
      | some st3 => some (sl, st3)
      | none => none
    | _ => none
  | _ => none
theorem sg_sub {f : O3} {mo mi : FE} (C : Ctx0 W k X Ew) (ho : SE W X Ew a mo) (hi : SE W X Ew b mi) (hf : PSet X (rset W f))
    (h : ∀ v, assign (.Subscript a b pos) X.env v = (do let ov ← holding [v] (eval a X.env); let iv ← holding [v, ov] (eval b X.env); standAt pos; holding [v, ov, iv] (setItem ov iv v); release [v, ov, iv] []) := by intro _; rfl) : SG W X (.Subscript a b pos) (gIx f mo mi) :=
  imG (pg_sub ho hi hf h) fun v σ H Q ⟨ι, sl, st, x, sl', st', hs, hr, hx, hm, hq⟩ => by
    unfold gIx at hm
    cases h1 : mo sl st with
    | none => rw [h1] at hm; cases hm
    | some r1 =>
      rw [h1] at hm
      cases r1 with
      | ex c st1 => cases hm
      | ok o st1 =>
        refine ⟨ι, sl, st, _, hs, hr, h1, fun ι1 H1 vo e1 r1 ro => ?_⟩
        cases h2 : mi sl st1 with
        | none => simp [h2] at hm
        | some r2 =>
          cases r2 with
          | ex c st2 => simp [h2] at hm
          | ok i st2 =>
            simp only [h2] at hm
            refine ⟨ι1, sl, st1, _, hs.mono e1, r1, h2, fun ι2 H2 vi e2 r2 ri => ?_⟩
            cases h3 : f o i x st2 with
            | none => simp [h3] at hm
            | some st3 =>
              simp only [h3] at hm
              cases hm
              exact ⟨ι2, st2, o, i, x, _, ro.mono e2, ri, (hx.mono e1).mono e2, r2, h3, fun ι3 H3 e3 r3 => hq ι3 H3 σ ((e1.trans e2).trans e3) r3 (((hs.mono e1).mono e2).mono e3)⟩

/-! ### small statements -/
def fAsg (m : FE) (g : FG) : FS := bndS m fun x => fun sl st => match g x sl st with
  | some (sl', st') => some (.nx sl' st')
  | none => none
theorem asg_imp {g : FG} : ∀ D σ H, tsOf W Ew (fAsg ma g) D σ H → tAsg (teOf W Ew ma) (tgOf W g) D σ H := fun D σ H ⟨ι, sl, st, r, hs, hr, hm, hq⟩ => runS hs hr hm hq fun x st1 ι1 H1 vx e1 s1 r1 rx hm1 hq1 => by
  have hm2 : (match g x sl st1 with | some (sl', st') => some (RS.nx sl' st') | none => none) = some r := hm1
  cases h : g x sl st1 with
  | none => rw [h] at hm2; cases hm2
  | some p =>
    obtain ⟨sl', st'⟩ := p
    rw [h] at hm2
    cases hm2
    exact ⟨ι1, sl, st1, x, sl', st', s1, r1, rx, h, fun ι2 H2 σ2 e2 r2 s2 => hq1 ι2 H2 σ2 e2 r2 s2⟩
theorem ss_asg {g : FG} {tg : Expr} (ha : SE W X Ew a ma) (hg : SG W X tg g) (h1 : swapsWithSole [tg] a pos.line X.env = pure false := by rfl) (h2 : swappedStores [tg] a X.env = pure none := by rfl) (h3 : (assignEach [tg] X.env).map (·.2) = [assign tg X.env] := by rfl) : SS W X Ew (.Assign [tg] a pos) (fAsg ma g) :=
  imS (ps_asg ha hg h1 h2 h3) asg_imp
def fSet (i : Nat) (m : FE) : FS := fAsg m (gSet i)
theorem ss_set (i : Nat) {x : Str} {p : Pos} (nd : X.N.Nodup) (ha : SE W X Ew a ma) (hN : X.N[i]? = some x := by rfl) (hl : L2.Loc X.env.scope x := by first | exact Or.inl rfl | exact Or.inr rfl) (h1 : swapsWith a (some (.Name x p)) pos.line X.env = pure false := by rfl)
    (hf : X.fn x = true ∨ X.env.scope.names.lookup x = some .local := by first | exact Or.inl rfl | exact Or.inr rfl) : SS W X Ew (.Assign [.Name x p] a pos) (fSet i ma) :=
  imS (ps_set nd hN hl ha h1 hf) fun D σ H h => by
    obtain ⟨ι, sl, st, r, hs, hr, hm, hq⟩ := h
    exact runS (k := fun x => fun sl st => some (.nx (sl.set i (some x)) st)) hs hr hm hq fun x st1 ι1 H1 vx e1 s1 r1 rx hm1 hq1 => nx_of (s1.set rx i) r1 hm1 hq1
def fExpr (m : FE) : FS := bndS m fun _ => fun sl st => some (.nx sl st)
theorem ss_expr (ha : SE W X Ew a ma) (h1 : swapsWith a none pos.line X.env = pure false := by rfl) : SS W X Ew (.Expr a pos) (fExpr ma) :=
  imS (ps_expr ha h1) fun D σ H ⟨ι, sl, st, r, hs, hr, hm, hq⟩ => runS hs hr hm hq fun x st1 ι1 H1 vx e1 s1 r1 rx hm1 hq1 => nx_of s1 r1 hm1 hq1
def fRet (m : FE) : FS := bndS m fun x => fun _ st => some (.rt x st)
theorem ss_ret (ha : SE W X Ew a ma) : SS W X Ew (.Return (some a) pos) (fRet ma) :=
  imS (ps_ret ha) fun D σ H ⟨ι, sl, st, r, hs, hr, hm, hq⟩ => runS hs hr hm hq fun x st1 ι1 H1 vx e1 s1 r1 rx hm1 hq1 => by
    cases hm1
    exact hq1 ι1 H1 vx (Ext.refl _ _) r1 rx
def fRetN : FS := fun _ st => some (.rt .non st)
theorem ss_retN : SS W X Ew (.Return none pos) fRetN := imS ps_retN fun D σ H ⟨ι, sl, st, r, hs, hr, hm, hq⟩ => by
  cases hm
  exact hq ι H _ (Ext.refl _ _) hr .non
theorem ss_pass : SS W X Ew (.Pass pos) fSkip := imS ps_pass fun D σ H ⟨ι, sl, st, r, hs, hr, hm, hq⟩ => nx_of hs hr hm hq
def fBreak : FS := fun sl st => some (.bk sl st)
def fCont : FS := fun sl st => some (.ct sl st)
theorem ss_break : SS W X Ew (.Break pos) fBreak := imS ps_break fun D σ H ⟨ι, sl, st, r, hs, hr, hm, hq⟩ => by
  cases hm
  exact hq ι H _ (Ext.refl _ _) hr hs
theorem ss_cont : SS W X Ew (.Continue pos) fCont := imS ps_continue fun D σ H ⟨ι, sl, st, r, hs, hr, hm, hq⟩ => by
  cases hm
  exact hq ι H _ (Ext.refl _ _) hr hs
def fIfS (c : FT) (m n : FS) : FS := bndS c fun b => if b then m else n
theorem ss_if {c : Expr} {sa sb : List Stmt} (hc : SC W X Ew c mt) (ha : SSs W X Ew sa m) (hb : SSs W X Ew sb n) : SS W X Ew (.If c sa sb pos) (fIfS mt m n) :=
  imS (ps_if hc ha hb) fun D σ H ⟨ι, sl, st, r, hs, hr, hm, hq⟩ => runS hs hr hm hq fun x st1 ι1 H1 vx e1 s1 r1 rx hm1 hq1 => by
    subst rx
    cases x with
    | true => exact tsOf_go s1 r1 hm1 hq1
    | false => exact tsOf_go s1 r1 hm1 hq1
/-- x op= e -/
def rip (W : Wd) (f : O2) : TIp := fun x y H Q => ro W f x y H Q
def fAug (i : Nat) (f : O2) (m : FE) : FS := fun sl st => match sl[i]? with
  | some (some x) => bndS m (fun y => fun sl st => match f x y st with
    | some (z, st') => some (.nx (sl.set i (some z)) st')
    | none => none) sl st
  | _ => none
theorem ss_aug (i : Nat) {x : Str} {p : Pos} {op : Operator} {f : O2} (nd : X.N.Nodup) (ha : SE W X Ew a ma) (hp : PIp X op (rip W f)) (hN : X.N[i]? = some x := by rfl) (hl : L2.Loc X.env.scope x := by first | exact Or.inl rfl | exact Or.inr rfl)
    (hf : X.fn x = true ∨ X.env.scope.names.lookup x = some .local := by first | exact Or.inl rfl | exact Or.inr rfl) : SS W X Ew (.AugAssign (.Name x p) op a pos) (fAug i f ma) :=
  imS (ps_aug nd hN hl ha hp hf) fun D σ H ⟨ι, sl, st, r, hs, hr, hm, hq⟩ => by
    unfold fAug at hm
    split at hm
    · rename_i x hx
      obtain ⟨v, h1, h2⟩ := hs.at' i x hx
      refine ⟨v, h1, runS hs hr hm hq fun y st1 ι1 H1 vy e1 s1 r1 ry hm1 hq1 => ?_⟩
      have hm2 : (match f x y st1 with | some (z, st') => some (RS.nx (sl.set i (some z)) st') | none => none) = some r := hm1
      cases h : f x y st1 with
      | none => rw [h] at hm2; cases hm2
      | some q =>
        obtain ⟨z, st'⟩ := q
        rw [h] at hm2
        cases hm2
        exact ⟨ι1, st1, x, y, z, st', h2.mono e1, ry, r1, h, fun ι2 H2 w e2 r2 rw' => hq1 ι2 H2 _ e2 r2 ((s1.mono e2).set rw' i)⟩
    · cases hm

/-! ### what is walked -/
/-- what is walked and may change: one list, two -/
inductive Lv where
  | none
  | some (p : Nat)
  | two (p : Nat) (xs : List Val) (q : Nat) (ys : List Val)
structure Itb where
  items : List Val
  live : Lv
abbrev FI := FX Itb
/-- a list that is walked stands still -/
def Live (l : Lv) (xs : List Val) (st : Sto) : Prop := match l with
  | .none => True
  | .some n => st[n]? = some (.lst xs)
  | .two p xs q ys => st[p]? = some (.lst xs) ∧ st[q]? = some (.lst ys)
def ItOk (W : Wd) (ι : List Addr) (H : Hp) (b : Itb) (J : It) : Prop := ∀ ι' H' st (i : Nat), Ext0 ι H ι' H' → Rel W ι' H' st → Live b.live b.items st →
  (∀ x, b.items[i]? = some x → J.go i H' ∧ ∀ y H2, J.yld i H' y H2 → Ext ι' H' ι' H2 ∧ Rel W ι' H2 st ∧ RV W.K ι' H2 x y) ∧ (b.items.length ≤ i → J.stop i H')
abbrev tiOf (W : Wd) (Ew : WX) (m : FI) : TI := tOf W Ew (fun ι H b J => ItOk W ι H b J) m
abbrev SI (W : Wd) (X : Cx) (Ew : WX) (tg e : Expr) (m : FI) : Prop := PI X tg e (tiOf W Ew m)
theorem imI {tg : Expr} {t u : TI} (h : PI X tg e t) (i : ∀ σ H Q, u σ H Q → t σ H Q) : PI X tg e u := ⟨fun pins s σ H R I hw => h.run pins s σ H R I (i _ _ _ hw)⟩

open Classical in
noncomputable def forL (l : Lv) (all : List Val) (g : FG) (body : FS) : List Val → FS
  | [] => fun sl st => if Live l all st then some (.nx sl st) else none
  | x :: xs => fun sl st => if Live l all st then (match g x sl st with
      | none => none
      | some (sl1, st1) => match body sl1 st1 with
        | some (.nx sl2 st2) => forL l all g body xs sl2 st2
        | some (.ct sl2 st2) => forL l all g body xs sl2 st2
        | some (.bk sl2 st2) => some (.nx sl2 st2)
        | r => r) else none
noncomputable def fFor (mi : FI) (g : FG) (body : FS) : FS := bndS mi fun b => forL b.live b.items g body b.items
open Classical in
theorem ss_for {tg iter : Expr} {body : List Stmt} {mi : FI} {g : FG} (C : Ctx W k X Ew) (hi : SI W X Ew tg iter mi) (hg : SG W X tg g) (hb : SSs W X Ew body m)
    (h1 : ∀ x, foldedSetIterable iter X.env x = pure x := by intro _; rfl) : SS W X Ew (.For tg iter body [] pos) (fFor mi g m) :=
  imS (ps_for C.po C.calm hi hg hb h1) fun D σ H ⟨ι, sl, st, r, hs, hr, hm, hq⟩ => runS hs hr hm hq fun b st1 ι1 H1 J e1 s1 r1 ok hm1 hq1 => by
    refine ⟨fun i mm σ H => ∃ ι2 sl2 st2, Ext ι1 H1 ι2 H ∧ RL W.K ι2 H sl2 σ ∧ Rel W ι2 H st2 ∧ i ≤ b.items.length ∧ mm = b.items.length - i ∧ forL b.live b.items g m (b.items.drop i) sl2 st2 = some r ∧ PsS W Ew ι2 H r D,
      ⟨_, ι1, sl, st1, Ext.refl _ _, s1, r1, Nat.zero_le _, rfl, hm1, hq1⟩, ?_⟩
    rintro i mm σ2 H2 ⟨ι2, sl2, st2, e2, s2, r2, hi, rfl, hf, hq2⟩
    cases hd : b.items.drop i with
    | nil =>
      rw [hd] at hf
      have hf2 : (if Live b.live b.items st2 then some (RS.nx sl2 st2) else none) = some r := hf
      by_cases hl : Live b.live b.items st2
      · rw [if_pos hl] at hf2
        have hi2 : b.items.length ≤ i := by
          have := congrArg List.length hd
          rw [List.length_drop, List.length_nil] at this
          omega
        exact .inl ⟨(ok ι2 H2 st2 i e2.toExt0 r2 hl).2 hi2, nx_of s2 r2 hf2 hq2⟩
      · rw [if_neg hl] at hf2
        cases hf2
    | cons x xs =>
      rw [hd] at hf
      have hf2 : (if Live b.live b.items st2 then (match g x sl2 st2 with
        | none => none
        | some (sl1, st1) => match m sl1 st1 with
          | some (.nx sl2 st2) => forL b.live b.items g m xs sl2 st2
          | some (.ct sl2 st2) => forL b.live b.items g m xs sl2 st2
          | some (.bk sl2 st2) => some (.nx sl2 st2)
          | r => r) else none) = some r := hf
      by_cases hl : Live b.live b.items st2
      · rw [if_pos hl] at hf2
        have hx : b.items[i]? = some x := by
          have h0 := List.getElem?_drop (xs := b.items) (i := i) (j := 0)
          rw [hd] at h0
          simpa using h0.symm
        have hxs : b.items.drop (i + 1) = xs := by
          rw [← List.drop_drop, hd]
          rfl
        have hil : i < b.items.length := (List.getElem?_eq_some_iff.mp hx).1
        obtain ⟨hgo, hy⟩ := (ok ι2 H2 st2 i e2.toExt0 r2 hl).1 x hx
        refine .inr ⟨hgo, fun σ' H' => ∃ ι3 sl3 st3, Ext ι1 H1 ι3 H' ∧ RL W.K ι3 H' sl3 σ' ∧ Rel W ι3 H' st3 ∧ forL b.live b.items g m xs sl3 st3 = some r ∧ PsS W Ew ι3 H' r D, ?_, fun y H3 hyl => ?_⟩
        · rintro σ' H' ⟨ι3, sl3, st3, h3, h4, h5, h6, h7⟩
          exact ⟨b.items.length - (i + 1), by omega, ι3, sl3, st3, h3, h4, h5, hil, rfl, by rw [hxs]; exact h6, h7⟩
        · obtain ⟨e3, r3, ry⟩ := hy y H3 hyl
          cases h5 : g x sl2 st2 with
          | none => rw [h5] at hf2; cases hf2
          | some p =>
            obtain ⟨sl4, st4⟩ := p
            rw [h5] at hf2
            refine ⟨ι2, sl2, st2, x, sl4, st4, s2.mono e3, r3, ry, h5, fun ι4 H4 σ4 e4 r4 s4 => ?_⟩
            have hf3 : (match m sl4 st4 with
              | some (.nx sl2 st2) => forL b.live b.items g m xs sl2 st2
              | some (.ct sl2 st2) => forL b.live b.items g m xs sl2 st2
              | some (.bk sl2 st2) => some (.nx sl2 st2)
              | r => r) = some r := hf2
            have e24 : Ext ι2 H2 ι4 H4 := e3.trans e4
            cases h6 : m sl4 st4 with
            | none => rw [h6] at hf3; cases hf3
            | some r6 =>
              rw [h6] at hf3
              cases r6 with
              | nx sl5 st5 => exact ⟨ι4, sl4, st4, _, s4, r4, h6, fun ι5 H5 σ5 e5 r5 s5 => ⟨ι5, sl5, st5, (e2.trans e24).trans e5, s5, r5, hf3, hq2.mono (e24.trans e5)⟩⟩
              | ct sl5 st5 => exact ⟨ι4, sl4, st4, _, s4, r4, h6, fun ι5 H5 σ5 e5 r5 s5 => ⟨ι5, sl5, st5, (e2.trans e24).trans e5, s5, r5, hf3, hq2.mono (e24.trans e5)⟩⟩
              | bk sl5 st5 =>
                cases hf3
                exact ⟨ι4, sl4, st4, _, s4, r4, h6, fun ι5 H5 σ5 e5 r5 s5 => hq2 ι5 H5 σ5 (e24.trans e5) r5 s5⟩
              | rt v st5 =>
                cases hf3
                exact ⟨ι4, sl4, st4, _, s4, r4, h6, fun ι5 H5 σ5 e5 r5 s5 => hq2 ι5 H5 σ5 (e24.trans e5) r5 s5⟩
              | ex c sl5 st5 =>
                cases hf3
                exact ⟨ι4, sl4, st4, _, s4, r4, h6, fun ι5 H5 σ5 e5 r5 s5 => hq2 ι5 H5 σ5 (e24.trans e5) r5 s5⟩
      · rw [if_neg hl] at hf2
        cases hf2

/-! ### while -/
def whileL (c : FT) (body : FS) : Nat → FS
  | 0 => fun _ _ => none
  | n + 1 => bndS c fun b => if b then fun sl st => match body sl st with
      | some (.nx sl2 st2) => whileL c body n sl2 st2
      | some (.ct sl2 st2) => whileL c body n sl2 st2
      | some (.bk sl2 st2) => some (.nx sl2 st2)
      | r => r else fun sl st => some (.nx sl st)
open Classical in
noncomputable def fWhile (c : FT) (body : FS) : FS := fun sl st => if h : ∃ n r, whileL c body n sl st = some r then whileL c body h.choose sl st else none
theorem ss_while {c : Expr} {body : List Stmt} (C : Ctx0 W k X Ew) (hc : SC W X Ew c mt) (hb : SSs W X Ew body m) : SS W X Ew (.While c body [] pos) (fWhile mt m) :=
  imS (ps_while C.po hc hb) fun D σ H ⟨ι, sl, st, r, hs, hr, hm, hq⟩ => by
    have hn : ∃ n, whileL mt m n sl st = some r := by
      unfold fWhile at hm
      split at hm
      · exact ⟨_, hm⟩
      · cases hm
    obtain ⟨n, hn⟩ := hn
    refine ⟨fun n σ2 H2 => ∃ ι2 sl2 st2, RL W.K ι2 H2 sl2 σ2 ∧ Rel W ι2 H2 st2 ∧ whileL mt m n sl2 st2 = some r ∧ PsS W Ew ι2 H2 r D, ⟨n, ι, sl, st, hs, hr, hn, hq⟩, ?_⟩
    rintro n σ2 H2 ⟨ι2, sl2, st2, s2, r2, hm2, hq2⟩
    cases n with
    | zero => cases hm2
    | succ n =>
      refine runS s2 r2 hm2 hq2 fun x st3 ι3 H3 vx e3 s3 r3 rx hm3 hq3 => ?_
      subst rx
      cases x with
      | false => exact nx_of s3 r3 hm3 hq3
      | true =>
        refine ⟨fun σ4 H4 => ∃ ι4 sl4 st4, RL W.K ι4 H4 sl4 σ4 ∧ Rel W ι4 H4 st4 ∧ whileL mt m n sl4 st4 = some r ∧ PsS W Ew ι4 H4 r D, fun σ4 H4 h4 => ⟨n, Nat.lt_succ_self _, h4⟩, ?_⟩
        have hm4 : (match m sl2 st3 with
          | some (.nx sl2 st2) => whileL mt m n sl2 st2
          | some (.ct sl2 st2) => whileL mt m n sl2 st2
          | some (.bk sl2 st2) => some (.nx sl2 st2)
          | r => r) = some r := hm3
        cases h6 : m sl2 st3 with
        | none => rw [h6] at hm4; cases hm4
        | some r6 =>
          rw [h6] at hm4
          cases r6 with
          | nx sl5 st5 => exact ⟨ι3, sl2, st3, _, s3, r3, h6, fun ι5 H5 σ5 e5 r5 s5 => ⟨ι5, sl5, st5, s5, r5, hm4, hq3.mono e5⟩⟩
          | ct sl5 st5 => exact ⟨ι3, sl2, st3, _, s3, r3, h6, fun ι5 H5 σ5 e5 r5 s5 => ⟨ι5, sl5, st5, s5, r5, hm4, hq3.mono e5⟩⟩
          | bk sl5 st5 =>
            cases hm4
            exact ⟨ι3, sl2, st3, _, s3, r3, h6, hq3⟩
          | rt v st5 =>
            cases hm4
            exact ⟨ι3, sl2, st3, _, s3, r3, h6, hq3⟩
          | ex c sl5 st5 =>
            cases hm4
            exact ⟨ι3, sl2, st3, _, s3, r3, h6, hq3⟩
end
end FL
/-! FL4: comprehensions, calls of defs, what a def is worth, what is walked. -/
namespace FL
open PySem PySem.Spec PyProof.Rows L2

/-! ### comprehensions -/
theorem wipe_get (σ : L2.St) : ∀ (vs : List Nat) (j : Nat), (wipe σ vs)[j]? = if j ∈ vs ∧ j < σ.length then some none else σ[j]?
  | [], j => by simp [wipe]
  | v :: vs, j => by
    show ((wipe σ vs).set v none)[j]? = _
    by_cases e : v = j
    · subst e
      by_cases hl : v < σ.length
      · rw [List.getElem?_set_self (by rw [wipe_length]; exact hl), if_pos ⟨List.mem_cons_self, hl⟩]
      · rw [if_neg (fun q => hl q.2), List.getElem?_eq_none (by rw [List.length_set, wipe_length]; omega), List.getElem?_eq_none (by omega)]
    · rw [List.getElem?_set_ne e, wipe_get σ vs j]
      by_cases hj : j ∈ vs
      · simp [hj]
      · simp [hj, Ne.symm e]
theorem wipe_len (σ : L2.St) (vs : List Nat) : (wipe σ vs).length = σ.length := wipe_length σ vs
theorem wipe_set {σ : L2.St} {vs : List Nat} {i : Nat} {x : Option V} (h : i ∈ vs) : wipe (σ.set i x) vs = wipe σ vs := by
  apply List.ext_getElem?
  intro j
  rw [wipe_get, wipe_get, List.length_set]
  by_cases hj : j ∈ vs ∧ j < σ.length
  · rw [if_pos hj, if_pos hj]
  · rw [if_neg hj, if_neg hj]
    by_cases e : i = j
    · subst e
      have hn : ¬ i < σ.length := fun q => hj ⟨h, q⟩
      rw [List.getElem?_eq_none (by rw [List.length_set]; omega), List.getElem?_eq_none (by omega)]
    · rw [List.getElem?_set_ne e]
theorem wipe_wipe (σ : L2.St) (vs : List Nat) : wipe (wipe σ vs) vs = wipe σ vs := by
  apply List.ext_getElem?
  intro j
  rw [wipe_get, wipe_len]
  split
  · rename_i h
    rw [wipe_get, if_pos h]
  · rfl
def wipeL (sl : Sl) : List Nat → Sl
  | [] => sl
  | v :: vs => (wipeL sl vs).set v none
theorem RL.wipe {K : PySem.W.Frag} {ι : List Addr} {H : Hp} {sl : Sl} {σ : L2.St} (h : RL K ι H sl σ) : ∀ vs : List Nat, RL K ι H (wipeL sl vs) (L2.wipe σ vs)
  | [] => h
  | v :: vs => (RL.wipe h vs).unset v

section
variable {W : Wd} {k : Nat} {X : Cx} {Ew : WX} {ι ι' : List Addr} {H H' : Hp} {st : Sto} {a b e : Expr} {es : List Expr} {ma mb me : FE} {mt mu : FT} {mas : FA} {pos : Pos} {s : Stmt} {ss : List Stmt} {m n : FS}
/-- targets of a comprehension: all but the names vs stay -/
def tgW (W : Wd) (vs : List Nat) (g : FG) : TG := fun v σ H Q => ∃ ι sl st x sl' st', RL W.K ι H sl σ ∧ Rel W ι H st ∧ RV W.K ι H x v ∧ g x sl st = some (sl', st') ∧ ∀ ι' H' σ', Ext ι H ι' H' → Rel W ι' H' st' → RL W.K ι' H' sl' σ' → wipe σ' vs = wipe σ vs → Q σ' H'
def tgsW (W : Wd) (vs : List Nat) (g : FGs) : TGs := fun v σ H Q => ∃ ι sl st x sl' st', RL W.K ι H sl σ ∧ Rel W ι H st ∧ RVs W.K ι H x v ∧ g x sl st = some (sl', st') ∧ ∀ ι' H' σ', Ext ι H ι' H' → Rel W ι' H' st' → RL W.K ι' H' sl' σ' → wipe σ' vs = wipe σ vs → Q σ' H'
abbrev SGw (W : Wd) (X : Cx) (vs : List Nat) (e : Expr) (g : FG) : Prop := PG X e (tgW W vs g)
abbrev SGsw (W : Wd) (X : Cx) (vs : List Nat) (e : List Expr) (g : FGs) : Prop := PGs X e (tgsW W vs g)
theorem sgw_name (i : Nat) {vs : List Nat} {x : Str} (nd : X.N.Nodup) (hN : X.N[i]? = some x := by rfl) (hl : L2.Loc X.env.scope x := by first | exact Or.inl rfl | exact Or.inr rfl) (hf : X.fn x = true ∨ X.env.scope.names.lookup x = some .local := by first | exact Or.inl rfl | exact Or.inr rfl)
    (hv : i ∈ vs := by decide) : SGw W X vs (.Name x pos) (gSet i) := imG (pg_name nd hN hl hf) fun v σ H Q ⟨ι, sl, st, x, sl', st', hs, hr, hx, hm, hq⟩ => by
  cases hm
  exact hq ι H _ (Ext.refl _ _) hr (hs.set hx i) (wipe_set hv)
theorem sgsw_nil {vs : List Nat} : SGsw W X vs [] gNo := imGs pgs_nil fun v σ H Q ⟨ι, sl, st, x, sl', st', hs, hr, hx, hm, hq⟩ => by
  cases hx with
  | nil =>
    cases hm
    exact ⟨rfl, hq ι H _ (Ext.refl _ _) hr hs rfl⟩
  | cons _ _ => cases hm
theorem sgsw_cons {vs : List Nat} {g : FG} {h : FGs} (hg : SGw W X vs e g) (hh : SGsw W X vs es h) (h1 : (assignEach (e :: es) X.env).map (·.2) = assign e X.env :: (assignEach es X.env).map (·.2) := by rfl) : SGsw W X vs (e :: es) (gAnd g h) :=
  imGs (pgs_cons hg hh h1) fun v σ H Q ⟨ι, sl, st, x, sl', st', hs, hr, hx, hm, hq⟩ => by
    cases hx with
    | nil => cases hm
    | @cons x v xs us rx rxs =>
      have hm2 : (match g x sl st with | some (sl', st') => h xs sl' st' | none => none) = some (sl', st') := hm
      cases hg1 : g x sl st with
      | none => rw [hg1] at hm2; cases hm2
      | some p =>
        obtain ⟨sl1, st1⟩ := p
        rw [hg1] at hm2
        refine ⟨v, us, rfl, ι, sl, st, x, sl1, st1, hs, hr, rx, hg1, fun ι' H' σ' e1 r1 s1 w1 => ⟨ι', sl1, st1, xs, sl', st', s1, r1, rxs.mono e1, hm2, fun ι2 H2 σ2 e2 r2 s2 w2 => hq ι2 H2 σ2 (e1.trans e2) r2 s2 (w2.trans w1)⟩⟩
theorem sgw_tup {vs : List Nat} {g : FGs} {j n : Nat} (hc : X.calm = true) (hK : X.K = W.K) (h : SGsw W X vs es g) (h1 : (assignEach es X.env).length = n := by rfl) (h2 : List.findIdx? (fun x => x.1) (assignEach es X.env) = none := by rfl) : SGw W X vs (.Tuple es j pos) (gTupl g n) :=
  imG (pg_tup hc h h1 h2) fun v σ H Q ⟨ι, sl, st, x, sl', st', hs, hr, hx, hm, hq⟩ => by
    cases hx with
    | @tup a us xs sq rx =>
      have hm2 : (if xs.length = n then g xs sl st else none) = some (sl', st') := hm
      by_cases hl : xs.length = n
      · rw [if_pos hl] at hm2
        exact ⟨a, us, rfl, by rw [hK]; exact sq, by rw [← rx.len]; exact hl, ι, sl, st, xs, sl', st', hs, hr, rx, hm2, hq⟩
      · rw [if_neg hl] at hm2
        cases hm2
    | _ => cases hm

abbrev E00 : WX := fun _ _ _ _ => False
open Classical in
noncomputable def lcL (l : Lv) (all : List Val) (g : FG) (t : FT) (m : FE) (sl : Sl) : List Val → Sto → Option (List Val × Sto)
  | [], st => if Live l all st then some ([], st) else none
  | x :: xs, st => if Live l all st then (match g x sl st with
      | none => none
      | some (sl1, st1) => match t sl1 st1 with
        | some (.ok true st2) => (match m sl1 st2 with
          | some (.ok y st3) => (match lcL l all g t m sl xs st3 with
            | some (ys, st4) => some (y :: ys, st4)
            | none => none)
          | _ => none)
        | some (.ok false st2) => lcL l all g t m sl xs st2
        | _ => none) else none
noncomputable def fLc (mi : FI) (g : FG) (t : FT) (m : FE) (vs : List Nat) : FE := bnd mi fun b => fun sl st => if b.items.length ≤ LINE then (match lcL b.live b.items g t m (wipeL sl vs) b.items st with
  | some (ys, st') => some (.ok (.ref st'.length) (st' ++ [.lst ys]))
  | none => none) else none
def fYes : FT := fun _ st => some (.ok true st)
abbrev STs (W : Wd) (X : Cx) (ifs : List Expr) (m : FT) : Prop := PTs X ifs (ttOf W E00 m)
theorem imTs {ifs : List Expr} {t u : TT} (h : PTs X ifs t) (i : ∀ σ H Q, u σ H Q → t σ H Q) : PTs X ifs u := ⟨fun pins s σ H Q I hw => h.run pins s σ H Q I (i _ _ _ hw)⟩
theorem sts_nil : STs W X [] fYes := imTs pts_nil fun σ H Q ⟨ι, sl, st, r, hs, hr, hm, hq⟩ => bl_of (st := st) (sl := sl) hr hm hq
theorem sts_one (h : SC W X E00 e mt) : STs W X [e] mt := pts_one h
open Classical in
theorem lc_imp {mi : FI} {g : FG} {vs : List Nat} {σ : L2.St} {H : Hp} {Q : VK} (h : teOf W Ew (fLc mi g mt me vs) σ H Q) : tLc (tiOf W Ew mi) (tgW W vs g) (ttOf W E00 mt) (teOf W E00 me) vs σ H Q := by
  obtain ⟨ι, sl, st, r, hs, hr, hm, hq⟩ := h
  refine run hs hr hm hq fun b st1 ι1 H1 J e1 s1 r1 ok hm1 hq1 => ?_
  intro D hD
  have nD : ∀ i : Nat, ι1[i]? ≠ some D := fun i q => by
    have hi := (List.getElem?_eq_some_iff.mp q).1
    rw [r1.len] at hi
    obtain ⟨_, h3, _⟩ := r1.ob i D _ q (List.getElem?_eq_getElem hi)
    rw [hD] at h3
    cases h3
  have hm2 : (if b.items.length ≤ LINE then (match lcL b.live b.items g mt me (wipeL sl vs) b.items st1 with | some (ys, st') => some (R.ok (.ref st'.length) (st' ++ [.lst ys])) | none => none) else none) = some r := hm1
  by_cases hz : b.items.length ≤ LINE
  case neg => rw [if_neg hz] at hm2; cases hm2
  rw [if_pos hz] at hm2
  cases hl : lcL b.live b.items g mt me (wipeL sl vs) b.items st1 with
  | none => rw [hl] at hm2; cases hm2
  | some p =>
    obtain ⟨ys0, st0⟩ := p
    rw [hl] at hm2
    cases hm2
    have sw := s1.wipe vs
    refine ⟨fun i mm H => ∃ ι2 st2 acc vacc ys, Ext ι1 H1 ι2 H ∧ H D = some (.lst vacc) ∧ (∀ i : Nat, ι2[i]? ≠ some D) ∧ RVs W.K ι2 H acc vacc ∧ Rel W ι2 H st2 ∧ acc.length ≤ i ∧ i ≤ b.items.length ∧ mm = b.items.length - i ∧
      lcL b.live b.items g mt me (wipeL sl vs) (b.items.drop i) st2 = some (ys, st0) ∧ ys0 = acc ++ ys, ⟨_, ι1, st1, [], [], ys0, (Ext.refl _ _).putO hD, upd_same, nD, .nil, ?_, Nat.le_refl _, Nat.zero_le _, rfl, hl, rfl⟩, ?_⟩
    · exact ⟨r1.len, r1.nd, fun i a o h1 h2 => by
        obtain ⟨ho, h3, h4⟩ := r1.ob i a o h1 h2
        exact ⟨ho, by rw [upd_ne (ne_of_none h3 hD)]; exact h3, h4.mono ((Ext.refl _ _).putO hD)⟩, fun q z => (r1.hot q z).ext (ι := ι1) ((Ext.refl _ _).putO hD).toExt0⟩
    rintro i mm H2 ⟨ι2, st2, acc, vacc, ys, e2, hD2, nD2, ra, r2, hal, hi, rfl, hf, rfl⟩
    cases hd : b.items.drop i with
    | nil =>
      rw [hd] at hf
      have hf2 : (if Live b.live b.items st2 then some ([], st2) else none) = some (ys, st0) := hf
      by_cases hlv : Live b.live b.items st2
      case neg => rw [if_neg hlv] at hf2; cases hf2
      rw [if_pos hlv] at hf2
      obtain ⟨rfl, rfl⟩ := Prod.mk.inj (Option.some.inj hf2)
      have hi2 : b.items.length ≤ i := by
        have := congrArg List.length hd
        rw [List.length_drop, List.length_nil] at this
        omega
      refine .inl ⟨(ok ι2 H2 st2 i e2.toExt0 r2 hlv).2 hi2, ?_⟩
      rw [List.append_nil] at hq1
      exact hq1 _ _ _ (e2.join hD) (r2.join hD2 nD2 (show RO W ι2 H2 (.lst acc) (.lst vacc) from ra)) (.ref (by rw [← r2.len]; simp))
    | cons x xs =>
      rw [hd] at hf
      have hf2 : (if Live b.live b.items st2 then (match g x (wipeL sl vs) st2 with
        | none => none
        | some (sl1, st1) => match mt sl1 st1 with
          | some (.ok true st2) => (match me sl1 st2 with
            | some (.ok y st3) => (match lcL b.live b.items g mt me (wipeL sl vs) xs st3 with
              | some (ys, st4) => some (y :: ys, st4)
              | none => none)
            | _ => none)
          | some (.ok false st2) => lcL b.live b.items g mt me (wipeL sl vs) xs st2
          | _ => none) else none) = some (ys, st0) := hf
      by_cases hlv : Live b.live b.items st2
      case neg => rw [if_neg hlv] at hf2; cases hf2
      rw [if_pos hlv] at hf2
      have hx : b.items[i]? = some x := by
        have h0 := List.getElem?_drop (xs := b.items) (i := i) (j := 0)
        rw [hd] at h0
        simpa using h0.symm
      have hxs : b.items.drop (i + 1) = xs := by
        rw [← List.drop_drop, hd]
        rfl
      have hil : i < b.items.length := (List.getElem?_eq_some_iff.mp hx).1
      obtain ⟨hgo, hy⟩ := (ok ι2 H2 st2 i e2.toExt0 r2 hlv).1 x hx
      refine .inr ⟨hgo, fun H' => ∃ ι3 st3 acc3 vacc3 ys3, Ext ι1 H1 ι3 H' ∧ H' D = some (.lst vacc3) ∧ (∀ i : Nat, ι3[i]? ≠ some D) ∧ RVs W.K ι3 H' acc3 vacc3 ∧ Rel W ι3 H' st3 ∧ acc3.length ≤ i + 1 ∧
        lcL b.live b.items g mt me (wipeL sl vs) xs st3 = some (ys3, st0) ∧ acc ++ ys = acc3 ++ ys3, ?_, fun y H3 hyl => ?_⟩
      · rintro H' ⟨ι3, st3, acc3, vacc3, ys3, h1, h2, h3, h4, h5, h6, h7, h8⟩
        exact ⟨b.items.length - (i + 1), by omega, ι3, st3, acc3, vacc3, ys3, h1, h2, h3, h4, h5, h6, hil, rfl, by rw [hxs]; exact h7, h8⟩
      obtain ⟨e3, r3, ry⟩ := hy y H3 hyl
      cases h5 : g x (wipeL sl vs) st2 with
      | none => rw [h5] at hf2; cases hf2
      | some p =>
        obtain ⟨sl4, st4⟩ := p
        rw [h5] at hf2
        refine ⟨ι2, wipeL sl vs, st2, x, sl4, st4, sw.mono (e2.trans e3), r3, ry, h5, fun ι4 H4 σ4 e4 r4 s4 w4 => ⟨by rw [w4, wipe_wipe], ?_⟩⟩
        have hf3 : (match mt sl4 st4 with
          | some (.ok true st2) => (match me sl4 st2 with
            | some (.ok y st3) => (match lcL b.live b.items g mt me (wipeL sl vs) xs st3 with
              | some (ys, st4) => some (y :: ys, st4)
              | none => none)
            | _ => none)
          | some (.ok false st2) => lcL b.live b.items g mt me (wipeL sl vs) xs st2
          | _ => none) = some (ys, st0) := hf2
        have e24 : Ext ι2 H2 ι4 H4 := e3.trans e4
        obtain ⟨hD4, nD4⟩ := e24.oth D _ hD2 nD2
        cases h6 : mt sl4 st4 with
        | none => rw [h6] at hf3; cases hf3
        | some r6 =>
          rw [h6] at hf3
          cases r6 with
          | ex c st5 => cases hf3
          | ok bb st5 =>
            refine ⟨ι4, sl4, st4, _, s4, r4, h6, fun ι5 H5 bb' e5 r5 hb => ?_⟩
            subst hb
            obtain ⟨hD5, nD5⟩ := e5.oth D _ hD4 nD4
            have ra5 := ra.mono (e24.trans e5)
            cases bb with
            | false =>
              exact ⟨ι5, st5, acc, vacc, ys, (e2.trans e24).trans e5, hD5, nD5, ra5, r5, by omega, hf3, rfl⟩
            | true =>
              have hf4 : (match me sl4 st5 with
                | some (.ok y st3) => (match lcL b.live b.items g mt me (wipeL sl vs) xs st3 with
                  | some (ys, st4) => some (y :: ys, st4)
                  | none => none)
                | _ => none) = some (ys, st0) := hf3
              cases h7 : me sl4 st5 with
              | none => rw [h7] at hf4; cases hf4
              | some r7 =>
                rw [h7] at hf4
                cases r7 with
                | ex c st6 => cases hf4
                | ok z st6 =>
                  have hf5 : (match lcL b.live b.items g mt me (wipeL sl vs) xs st6 with | some (ys, st4) => some (z :: ys, st4) | none => none) = some (ys, st0) := hf4
                  cases h8 : lcL b.live b.items g mt me (wipeL sl vs) xs st6 with
                  | none => rw [h8] at hf5; cases hf5
                  | some q =>
                    obtain ⟨ys6, st7⟩ := q
                    rw [h8] at hf5
                    cases hf5
                    refine ⟨ι5, sl4, st5, _, s4.mono e5, r5, h7, fun ι6 H6 vz e6 r6 rz => ?_⟩
                    obtain ⟨hD6, nD6⟩ := e6.oth D _ hD5 nD5
                    have ra6 := ra5.mono e6
                    have hv : vacc.length < sizeLine := by
                      rw [← ra.len, ← line_eq]
                      omega
                    exact ⟨vacc, hD6, hv, ι6, st6, acc ++ [z], vacc ++ [vz], ys6, (((e2.trans e24).trans e5).trans e6).putO hD, upd_same, nD6, (ra6.app (.cons rz .nil)).mono0 (Ext0.putO hD6), r6.putO hD6 nD6, by rw [List.length_append, List.length_singleton]; omega, h8,
                      by rw [List.append_assoc]; rfl⟩
theorem Ctx.blk (C : Ctx W k X Ew) (s : Shared) (H : Hp) (sc : Scope) (ce : PySem.Env) (fp : List Addr) : Ctx W k (X.blk s H sc ce fp) E00 :=
  ⟨⟨C.eP, C.ew, C.eK, C.em, C.eb, takesN0, C.rmu, C.nd, PassesOwn.never⟩, C.rm, C.calm⟩
theorem se_lc {tg iter : Expr} {ifs : List Expr} {scope : Scope} {own : List (Str × Nat)} {mi : FI} {g : FG} (C : Ctx W k X Ew) (hi : SI W X Ew tg iter mi) (ok : BlkOk X.N X.env.scope scope own)
    (hg : ∀ (s : Shared) (H : Hp) (c : Addr) (cl : List (Str × Addr)) (fp : List Addr), SGw W (X.blk s H scope (compEnvC scope cl c X.env) fp) (own.map (·.2)) tg g)
    (ht : ∀ (s : Shared) (H : Hp) (c : Addr) (cl : List (Str × Addr)) (fp : List Addr), STs W (X.blk s H scope (compEnvC scope cl c X.env) fp) ifs mt)
    (he : ∀ (s : Shared) (H : Hp) (c : Addr) (cl : List (Str × Addr)) (fp : List Addr), SE W (X.blk s H scope (compEnvC scope cl c X.env) fp) E00 e me)
    (h1 : ∀ x, foldedSetIterable iter X.env x = pure x := by intro _; rfl) : SE W X Ew (.ListComp e [⟨tg, iter, ifs, 0⟩] scope pos) (fLc mi g mt me (own.map (·.2))) :=
  imE (pe_lc C.calm C.nd hi ok hg ht he h1) fun σ H Q h => lc_imp h
theorem ss_setLc (i : Nat) {y : Str} {py : Pos} {tg iter : Expr} {ifs : List Expr} {scope : Scope} {own : List (Str × Nat)} {spos : Pos} {mi : FI} {g : FG} (C : Ctx W k X Ew)
    (hsw : swapsWith (.ListComp e [⟨tg, iter, ifs, 0⟩] scope pos) (some (.Name y py)) spos.line X.env = pure true) (hi : SI W X Ew tg iter mi) (ok : BlkOk X.N X.env.scope scope own)
    (hg : ∀ (s : Shared) (H : Hp) (c : Addr) (cl : List (Str × Addr)) (fp : List Addr), SGw W (X.blk s H scope (compEnvC scope cl c X.env) fp) (own.map (·.2)) tg g)
    (ht : ∀ (s : Shared) (H : Hp) (c : Addr) (cl : List (Str × Addr)) (fp : List Addr), STs W (X.blk s H scope (compEnvC scope cl c X.env) fp) ifs mt)
    (he : ∀ (s : Shared) (H : Hp) (c : Addr) (cl : List (Str × Addr)) (fp : List Addr), SE W (X.blk s H scope (compEnvC scope cl c X.env) fp) E00 e me)
    (hy : X.N[i]? = some y := by rfl) (hyl : X.env.scope.names.lookup y = some .local := by rfl) (h1 : ∀ x, foldedSetIterable iter X.env x = pure x := by intro _; rfl) :
    SS W X Ew (.Assign [.Name y py] (.ListComp e [⟨tg, iter, ifs, 0⟩] scope pos) spos) (fSet i (fLc mi g mt me (own.map (·.2)))) :=
  imS (ps_setLc C.calm C.nd hy hyl hsw hi ok hg ht he h1) fun D σ H ⟨ι, sl, st, r, hs, hr, hm, hq⟩ =>
    lc_imp (runS (k := fun x => fun sl st => some (.nx (sl.set i (some x)) st)) hs hr hm hq fun x st1 ι1 H1 vx e1 s1 r1 rx hm1 hq1 => nx_of (s1.set rx i) r1 hm1 hq1)

/-! ### defs -/
def spOf (W : Wd) (F : FF) : Sp := fun vs H Q E => ∃ ι st as r, RVs W.K ι H as vs ∧ Rel W ι H st ∧ F as st = some r ∧ Pst W (fun ι H => RV W.K ι H) ι H r Q E
def runF (n N : Nat) (m : FS) : FF := fun as st => if as.length = n then (match m (as.map some ++ List.replicate (N - n) none) st with
  | some (.nx _ st') => some (.ok .non st')
  | some (.rt v st') => some (.ok v st')
  | some (.ex c _ st') => some (.ex c st')
  | _ => none) else none
structure Callee (W : Wd) (x : Str) (k : Nat) (F : FF) : Prop where
  ex : ∃ (f : Addr) (fd : FuncData) (ps : List Str), W.mg x = some (.ref f) ∧ PySem.W.keepIn W.K (.ref f) = true ∧ Binds W.K fd ps [] ∧ FnOk W.P W.w W.K W.mg W.base (L2N.CX W.P W.w) k f fd ps (spOf W F)
/-- the def st stands at the module's name x -/
structure Has (W : Wd) (x : Str) (st : Stmt) : Prop where
  ex : ∃ (f : Addr) (fd : FuncData), W.mg x = some (.ref f) ∧ Fun W.K x x st f fd
/-- where the body of st runs -/
abbrev bX (W : Wd) (N : List Str) (qual : Str) (st : Stmt) (f : Addr) (cdv : Value) (A : Around) (outer : List PySem.Env) (s : Shared) (H : Hp) (E : XK) : Cx :=
  cxOf (L2N.CX W.P W.w) W.P W.w W.K W.mg W.base N qual (defScope st) f cdv A outer s H E
theorem start_rl {ι : List Addr} {H : Hp} {as : List Val} {vs : List V} (N : List Str) (h : RVs W.K ι H as vs) : RL W.K ι H (as.map some ++ List.replicate (N.length - as.length) none) (L2.start N vs) := by
  refine ⟨by unfold L2.start; simp [h.len], fun i x q => ?_⟩
  by_cases hi : i < as.length
  · rw [List.getElem?_append_left (by simpa using hi), List.getElem?_map] at q
    cases h1 : as[i]? with
    | none => rw [h1] at q; cases q
    | some y =>
      rw [h1] at q
      cases q
      obtain ⟨v, h2, h3⟩ := h.at i h1
      refine ⟨v, ?_, h3⟩
      unfold L2.start
      rw [List.getElem?_append_left (by rw [List.length_map, ← h.len]; exact hi), List.getElem?_map, h2]
      rfl
  · rw [List.getElem?_append_right (by simpa using hi), List.getElem?_replicate] at q
    split at q <;> cases q
theorem okN {CX : CXT} {P : Program} {w : World} {K : PySem.W.Frag} {mg : Str → Option Value} {base : Heap} {x qual : Str} {st : Stmt} {f : Addr} {fd : FuncData} {N ps : List Str} {k : Nat} {sp : Sp} (F : L2.Fun K x qual st f fd) (S : FnScope N ps (defScope st)) (len : ∀ vs H Q E, sp vs H Q E → vs.length = ps.length)
    (hbody : ∀ (cdv : Value) (A : Around) (outer : List PySem.Env) (s : Shared) (H : Hp) (vs : List V) (Q : VK) (E : XK), Room k (A.deeper (envOfC qual (defScope st) s.heap.objs.size f cdv)) → sp vs H Q E →
      ∃ t, PSs (cxOf CX P w K mg base N qual (defScope st) f cdv A outer s H E) (defBody st) t ∧ t { nx := fun _ H' => Q .non H', rt := Q } (L2.start N vs) H) : FnOk P w K mg base CX (k + 1) f fd ps sp := by
  obtain ⟨oc, od, kV, doc, pm, an, cdv, ct, osl, rfl, lk, hcd⟩ := F.ex
  exact L2.fn_of lk hcd S len fun A outer s H vs Q E hr hsp => hbody cdv A outer s H vs Q E hr hsp
theorem fn_snd {x qual : Str} {st : Stmt} {f : Addr} {fd : FuncData} {N ps : List Str} (Fu : Fun W.K x qual st f fd) (S : FnScope N ps (defScope st))
    (hbody : ∀ (cdv : Value) (A : Around) (outer : List PySem.Env) (s : Shared) (H : Hp) (E : XK), Ctx W k (bX W N qual st f cdv A outer s H E) (fun c d _ H => E c d H) → SSs W (bX W N qual st f cdv A outer s H E) (fun c d _ H => E c d H) (defBody st) m) :
    FnOk W.P W.w W.K W.mg W.base (L2N.CX W.P W.w) (k + 1) f fd ps (spOf W (runF ps.length N.length m)) := by
  refine okN Fu S (fun vs H Q E h => ?_) fun cdv A outer s H vs Q E hr hsp => ?_
  · obtain ⟨ι, st, as, r, h1, h2, h3, h4⟩ := h
    unfold runF at h3
    split at h3
    · rename_i h5
      rw [← h1.len, h5]
    · cases h3
  · refine ⟨_, hbody cdv A outer s H E ⟨⟨rfl, rfl, rfl, rfl, rfl, L2N.takes_of rfl rfl rfl rfl, L2H.roomH_of hr, S.nd, passes_of rfl⟩, hr, rfl⟩, ?_⟩
    obtain ⟨ι, st, as, r, h1, h2, h3, h4⟩ := hsp
    unfold runF at h3
    split at h3
    case isFalse => cases h3
    rename_i h5
    have sr := start_rl N h1
    rw [h5] at sr
    cases h6 : m (as.map some ++ List.replicate (N.length - ps.length) none) st with
    | none => rw [h6] at h3; cases h3
    | some r6 =>
      rw [h6] at h3
      cases r6 with
      | nx sl' st' =>
        cases h3
        exact ⟨ι, _, st, _, sr, h2, h6, fun ι' H' σ' e r _ => h4 ι' H' _ e r .non⟩
      | rt v st' =>
        cases h3
        exact ⟨ι, _, st, _, sr, h2, h6, h4⟩
      | ex c sl' st' =>
        cases h3
        exact ⟨ι, _, st, _, sr, h2, h6, fun ι' H' σ' e r _ => h4 ι' H' e r⟩
      | bk _ _ => cases h3
      | ct _ _ => cases h3
theorem callee {x : Str} {st : Stmt} {N ps : List Str} (hh : Has W x st) (S : FnScope N ps (defScope st))
    (hb : ∀ (kV doc pm : Value) (an : Option Addr) (cdv ct : Value) (us : List Value), us.length = ps.length → bindArgs (PySem.W.fnOf x x (defArgs st) (defBody st) (defScope st) .none kV doc pm an cdv ct) ⟨us, []⟩ = pure (ps.zip us))
    (hbody : ∀ (f : Addr) (cdv : Value) (A : Around) (outer : List PySem.Env) (s : Shared) (H : Hp) (E : XK), Ctx W k (bX W N x st f cdv A outer s H E) (fun c d _ H => E c d H) → SSs W (bX W N x st f cdv A outer s H E) (fun c d _ H => E c d H) (defBody st) m) :
    Callee W x (k + 1) (runF ps.length N.length m) := by
  obtain ⟨f, fd, h1, h2⟩ := hh.ex
  exact ⟨f, fd, ps, h1, h2.kp, h2.binds hb, fn_snd h2 S (hbody f)⟩
theorem callee0 {x : Str} {st : Stmt} {ps : List Str} (hh : Has W x st)
    (hb : ∀ (kV doc pm : Value) (an : Option Addr) (cdv ct : Value) (us : List Value), us.length = ps.length → bindArgs (PySem.W.fnOf x x (defArgs st) (defBody st) (defScope st) .none kV doc pm an cdv ct) ⟨us, []⟩ = pure (ps.zip us)) : Callee W x k (fun _ _ => none) := by
  obtain ⟨f, fd, h1, h2⟩ := hh.ex
  have no : ∀ vs H Q E, spOf W (fun _ _ => none) vs H Q E → False := fun vs H Q E z => by
    obtain ⟨_, _, _, _, _, _, h, _⟩ := z
    cases h
  have F : FnOk W.P W.w W.K W.mg W.base (L2N.CX W.P W.w) k f fd ps (spOf W (fun _ _ => none)) := ⟨fun vs H Q E z => (no vs H Q E z).elim, fun A outer s H args us vs Q E hr he hb hv z => (no vs H Q E z).elim⟩
  exact ⟨f, fd, ps, h1, h2.kp, h2.binds hb, F⟩
def fCallF (F : FF) (m : FA) : FE := bnd m fun xs => fun _ st => F xs st
theorem se_call {x : Str} {p : Pos} {j : Nat} {F : FF} (C : Ctx W k X Ew) (G : Callee W x j F) (hj : j ≤ k) (ha : SA W X Ew (e :: es) mas) (hg : Gl X x := by rfl) (hd : (x == ("__debug__" : Str)) = false := by decide)
    (h1 : starEach (e :: es) X.env = (false, eval e X.env) :: starEach es X.env := by rfl) (h2 : (backTo pos (starEach es X.env)).any (·.1) = false := by rfl) : SE W X Ew (.Call (.Name x p) (e :: es) [] pos) (fCallF F mas) := by
  obtain ⟨f, fd, ps, g1, g2, g3, g4⟩ := G.ex
  have g5 : FnOk X.prog X.w X.K X.mg X.base (L2N.CX X.prog X.w) j f fd ps (spOf W F) := by
    rw [C.eP, C.ew, C.eK, C.em, C.eb]
    exact g4
  refine imE (pe_callS g5 (C.rm.mono hj) hg (by rw [C.em]; exact g1) (by rw [C.eK]; exact g2) (by rw [C.eK]; exact g3) (fun σ => L2N.passAt C.tk σ) ha hd h1 h2) fun σ H Q ⟨ι, sl, st, r, hs, hr, hm, hq⟩ => run hs hr hm hq fun xs st1 ι1 H1 vs e1 s1 r1 rx hm1 hq1 => ?_
  exact ⟨ι1, st1, xs, r, rx, r1, hm1, hq1⟩
end
end FL
/-! FL5: operations: numbers, texts, tuples, lists. -/
namespace FL
open PySem PySem.Spec PyProof.Rows L2

theorem st_app (a b : List Nat) : St' a ++ St' b = St' (a ++ b) := by
  show Str.mk (a.toArray ++ b.toArray) = _
  simp
theorem st_len (a : List Nat) : (St' a).length = a.length := by
  show a.toArray.size = _
  simp
theorem st_inj {a b : List Nat} (h : St' a = St' b) : a = b := by
  have := congrArg Str.cps h
  simpa using this
section
variable {W : Wd} {k : Nat} {X : Cx} {Ew : WX} {ι ι' : List Addr} {H H' : Hp} {st : Sto} {a b e : Expr} {es : List Expr} {ma mb me : FE} {mt mu : FT} {mas : FA} {pos : Pos}
theorem sz_of {n : Nat} (h : n ≤ LINE) : n ≤ sizeLine := by rw [← line_eq]; exact h

/-! ### + - * // % ** -/
def fAdd : O2
  | .int i, .int j, st => some (.int (i + j), st)
  | .str x, .str y, st => if x.length + y.length ≤ LINE then some (.str (x ++ y), st) else none
  | .tup xs, .tup ys, st => if xs.length + ys.length ≤ LINE then some (.tup (xs ++ ys), st) else none
  | .ref p, .ref q, st => match st[p]?, st[q]? with
    | some (.lst xs), some (.lst ys) => if xs.length + ys.length ≤ LINE then some (.ref st.length, st ++ [.lst (xs ++ ys)]) else none
    | _, _ => none
  | _, _, _ => none
theorem op_addF (C : Ctx0 W k X Ew) : OpR X (binaryOp .Add) (ro W fAdd) := opBy fun x y H Q ⟨ι, st, a, b, v, st', rx, ry, hr, hf, hq⟩ => by
  cases rx with
  | int i =>
    cases ry with
    | int j =>
      cases hf
      exact ⟨_, op_add, i, j, rfl, rfl, hq.here hr (.int _)⟩
    | _ => cases hf
  | str i =>
    cases ry with
    | str j =>
      have hf2 : (if i.length + j.length ≤ LINE then some (Val.str (i ++ j), st) else none) = some (v, st') := hf
      by_cases hl : i.length + j.length ≤ LINE
      case neg => rw [if_neg hl] at hf2; cases hf2
      rw [if_pos hl] at hf2
      cases hf2
      exact ⟨_, op_add_str, _, _, rfl, rfl, by rw [st_len, st_len]; exact sz_of hl, by rw [st_app]; exact hq.here hr (.str _)⟩
    | _ => cases hf
  | @tup p vs xs sx rxs =>
    cases ry with
    | @tup q ws ys sy rys =>
      have hf2 : (if xs.length + ys.length ≤ LINE then some (Val.tup (xs ++ ys), st) else none) = some (v, st') := hf
      by_cases hl : xs.length + ys.length ≤ LINE
      case neg => rw [if_neg hl] at hf2; cases hf2
      rw [if_pos hl] at hf2
      cases hf2
      refine ⟨_, op_catA, p, q, vs, ws, rfl, rfl, by rw [C.eK]; exact sx, by rw [C.eK]; exact sy, by rw [← rxs.len, ← rys.len]; exact sz_of hl, fun e => ?_, fun _ e => ?_, fun _ _ => ?_⟩
      · subst e
        cases rxs
        exact hq.here hr (.tup sy rys)
      · subst e
        cases rys
        rw [List.append_nil] at hq
        exact hq.here hr (.tup sx rxs)
      · exact hq.newT hr (rxs.app rys)
    | _ => cases hf
  | @ref i p h1 =>
    cases ry with
    | @ref j q h2 =>
      have hf2 : (match st[i]?, st[j]? with
        | some (.lst xs), some (.lst ys) => if xs.length + ys.length ≤ LINE then some (Val.ref st.length, st ++ [.lst (xs ++ ys)]) else none
        | _, _ => none) = some (v, st') := hf
      split at hf2
      · rename_i xs ys g1 g2
        by_cases hl : xs.length + ys.length ≤ LINE
        case neg => rw [if_neg hl] at hf2; cases hf2
        rw [if_pos hl] at hf2
        cases hf2
        obtain ⟨vs, g3, g4⟩ := hr.lst g1 h1
        obtain ⟨ws, g5, g6⟩ := hr.lst g2 h2
        exact ⟨_, op_cat, p, q, vs, ws, rfl, rfl, g3, g5, by rw [← g4.len, ← g6.len]; exact sz_of hl, hq.new hr (show RO W ι H (.lst (xs ++ ys)) (.lst (vs ++ ws)) from g4.app g6)⟩
      · cases hf2
    | _ => cases hf
  | _ => cases hf
def fSub : O2
  | .int i, .int j, st => some (.int (i - j), st)
  | _, _, _ => none
theorem op_subF : OpR X (binaryOp .Sub) (ro W fSub) := opBy fun x y H Q ⟨ι, st, a, b, v, st', rx, ry, hr, hf, hq⟩ => by
  cases rx with
  | int i =>
    cases ry with
    | int j =>
      cases hf
      exact ⟨_, op_sub, i, j, rfl, rfl, hq.here hr (.int _)⟩
    | _ => cases hf
  | _ => cases hf
def fMod : O2
  | .int i, .int j, st => if 0 < j then some (.int (i % j), st) else none
  | _, _, _ => none
theorem op_modF : OpR X (binaryOp .Mod) (ro W fMod) := opBy fun x y H Q ⟨ι, st, a, b, v, st', rx, ry, hr, hf, hq⟩ => by
  cases rx with
  | int i =>
    cases ry with
    | int j =>
      have hf2 : (if 0 < j then some (Val.int (i % j), st) else none) = some (v, st') := hf
      by_cases hl : 0 < j
      case neg => rw [if_neg hl] at hf2; cases hf2
      rw [if_pos hl] at hf2
      cases hf2
      exact ⟨_, op_mod, i, j, rfl, rfl, hl, hq.here hr (.int _)⟩
    | _ => cases hf
  | _ => cases hf
def fDiv : O2
  | .int i, .int j, st => if 0 < j ∧ j < 1073741824 then some (.int (i / j), st) else none
  | _, _, _ => none
theorem op_divF : OpR X (binaryOp .FloorDiv) (ro W fDiv) := opBy fun x y H Q ⟨ι, st, a, b, v, st', rx, ry, hr, hf, hq⟩ => by
  cases rx with
  | int i =>
    cases ry with
    | int j =>
      have hf2 : (if 0 < j ∧ j < 1073741824 then some (Val.int (i / j), st) else none) = some (v, st') := hf
      by_cases hl : 0 < j ∧ j < 1073741824
      case neg => rw [if_neg hl] at hf2; cases hf2
      rw [if_pos hl] at hf2
      cases hf2
      exact ⟨_, op_fdiv, i, j, rfl, rfl, hl, hq.here hr (.int _)⟩
    | _ => cases hf
  | _ => cases hf
def fPow : O2
  | .int i, .int j, st => if 0 ≤ j ∧ j ≤ 1000000 ∧ i.natAbs < 2 ^ 64 then some (.int (i ^ j.toNat), st) else none
  | _, _, _ => none
theorem op_powF : OpR X (binaryOp .Pow) (ro W fPow) := opBy fun x y H Q ⟨ι, st, a, b, v, st', rx, ry, hr, hf, hq⟩ => by
  cases rx with
  | int i =>
    cases ry with
    | int j =>
      have hf2 : (if 0 ≤ j ∧ j ≤ 1000000 ∧ i.natAbs < 2 ^ 64 then some (Val.int (i ^ j.toNat), st) else none) = some (v, st') := hf
      by_cases hl : 0 ≤ j ∧ j ≤ 1000000 ∧ i.natAbs < 2 ^ 64
      case neg => rw [if_neg hl] at hf2; cases hf2
      rw [if_pos hl] at hf2
      cases hf2
      exact ⟨_, op_pow, i, j, rfl, rfl, hl, hq.here hr (.int _)⟩
    | _ => cases hf
  | _ => cases hf
/-- a text so often -/
def reps {α : Type} (n : Nat) (l : List α) : List α := (List.replicate n l).flatten
def fMul : O2
  | .int i, .int j, st => if (-(2 ^ 64) < i ∧ i < 2 ^ 64) ∨ (-(2 ^ 64) < j ∧ j < 2 ^ 64) then some (.int (i * j), st) else none
  | .str x, .int j, st => if 0 ≤ j ∧ j ≤ 1000 ∧ x.length ≤ 1000 then some (.str (reps j.toNat x), st) else none
  | .tup xs, .int j, st => if 2 ≤ j ∧ j ≤ 1000 ∧ xs.length ≤ 1000 ∧ xs ≠ [] then some (.tup (reps j.toNat xs), st) else none
  | _, _, _ => none
theorem foldl_app (x : List Nat) : ∀ (n : Nat) (acc : Array Nat), (List.replicate n x.toArray).foldl (· ++ ·) acc = acc ++ (reps n x).toArray
  | 0, acc => by simp [reps]
  | n + 1, acc => by
    rw [List.replicate_succ, List.foldl_cons, foldl_app x n]
    simp [reps, List.replicate_succ, Array.append_assoc]
theorem op_mulS : OpR X (binaryOp .Mult) fun x y H Q => ∃ (l : List Nat) (n : Int), x = .str (St' l) ∧ y = .int n ∧ (0 ≤ n ∧ n ≤ 1000 ∧ l.length ≤ 1000) ∧ Q (.str (St' (reps n.toNat l))) H := by
  intro pins s σ H x y v u Q I rx ry h
  obtain ⟨l, n, rfl, rfl, ⟨h1, h2, h3⟩, q⟩ := h
  obtain ⟨t, rfl⟩ := rx
  obtain ⟨t', rfl⟩ := ry
  have hlen : (St' l).length = l.length := st_len l
  have ok : MulOk (St' l) n := by
    refine ⟨?_, fun hn hc => ?_, fun hn hc => ?_⟩
    · rw [decide_eq_false (by omega), decide_eq_false (by omega)]
      rfl
    · rw [hlen]
      intro hg
      have h5 : (2 ^ 63 - 1) / n ≥ (2 ^ 63 - 1) / 1000 := by
        have hn0 : 0 < n := by omega
        have : (2 ^ 63 - 1 : Int) / 1000 * n ≤ 2 ^ 63 - 1 := by
          have : (2 ^ 63 - 1 : Int) / 1000 * n ≤ (2 ^ 63 - 1 : Int) / 1000 * 1000 := Int.mul_le_mul_of_nonneg_left h2 (by decide)
          have h6 : (2 ^ 63 - 1 : Int) / 1000 * 1000 ≤ 2 ^ 63 - 1 := by decide
          omega
        exact (Int.le_ediv_iff_mul_le hn0).mpr this
      have h6 : (1000 : Int) ≤ (2 ^ 63 - 1) / 1000 := by decide
      omega
    · rw [hlen]
      have h7 : n.toNat ≤ 1000 := by omega
      have h8 : l.length * n.toNat ≤ 1000 * 1000 := Nat.mul_le_mul h3 h7
      show decide (_ > _) = false
      rw [decide_eq_false]
      have : (1000 * 1000 : Nat) ≤ sizeLine := by decide
      omega
  refine SB.mul ok fun t2 k2 => ?_
  refine ⟨.str (Txt.mul (St' l) n), H, I.tok k2, ⟨t2, rfl⟩, ?_⟩
  have e : Txt.mul (St' l) n = St' (reps n.toNat l) := by
    unfold Txt.mul
    split
    · rename_i h
      have : n.toNat = 0 := by omega
      rw [this]
      rfl
    · split
      · rename_i h4 h5
        have h6 : n = 1 ∨ l.length = 0 := by
          rw [hlen] at h5
          simpa using h5
        rcases h6 with rfl | h6
        · show St' l = St' (reps 1 l)
          simp [reps]
        · have : l = [] := List.eq_nil_of_length_eq_zero h6
          subst this
          simp [reps]
      · have := foldl_app l n.toNat #[]
        simp only [this, Array.empty_append]
  rw [e]
  exact q
theorem RVs.reps {xs : List Val} {vs : List V} (h : RVs W.K ι H xs vs) : ∀ n : Nat, RVs W.K ι H (reps n xs) (List.replicate n vs).flatten
  | 0 => .nil
  | n + 1 => by
    unfold FL.reps
    rw [List.replicate_succ, List.replicate_succ, List.flatten_cons, List.flatten_cons]
    exact h.app (RVs.reps h n)
theorem op_mulF (C : Ctx0 W k X Ew) : OpR X (binaryOp .Mult) (ro W fMul) := opBy fun x y H Q ⟨ι, st, a, b, v, st', rx, ry, hr, hf, hq⟩ => by
  cases rx with
  | int i =>
    cases ry with
    | int j =>
      have hf2 : (if (-(2 ^ 64) < i ∧ i < 2 ^ 64) ∨ (-(2 ^ 64) < j ∧ j < 2 ^ 64) then some (Val.int (i * j), st) else none) = some (v, st') := hf
      by_cases hl : (-(2 ^ 64) < i ∧ i < 2 ^ 64) ∨ (-(2 ^ 64) < j ∧ j < 2 ^ 64)
      case neg => rw [if_neg hl] at hf2; cases hf2
      rw [if_pos hl] at hf2
      cases hf2
      exact ⟨_, op_mul, i, j, rfl, rfl, hl, hq.here hr (.int _)⟩
    | _ => cases hf
  | str l =>
    cases ry with
    | int j =>
      have hf2 : (if 0 ≤ j ∧ j ≤ 1000 ∧ l.length ≤ 1000 then some (Val.str (reps j.toNat l), st) else none) = some (v, st') := hf
      by_cases hl : 0 ≤ j ∧ j ≤ 1000 ∧ l.length ≤ 1000
      case neg => rw [if_neg hl] at hf2; cases hf2
      rw [if_pos hl] at hf2
      cases hf2
      exact ⟨_, op_mulS, l, j, rfl, rfl, hl, hq.here hr (.str _)⟩
    | _ => cases hf
  | @tup p vs xs sx rxs =>
    cases ry with
    | int j =>
      have hf2 : (if 2 ≤ j ∧ j ≤ 1000 ∧ xs.length ≤ 1000 ∧ xs ≠ [] then some (Val.tup (reps j.toNat xs), st) else none) = some (v, st') := hf
      by_cases hl : 2 ≤ j ∧ j ≤ 1000 ∧ xs.length ≤ 1000 ∧ xs ≠ []
      case neg => rw [if_neg hl] at hf2; cases hf2
      rw [if_pos hl] at hf2
      cases hf2
      obtain ⟨l1, l2, l3, l4⟩ := hl
      refine ⟨_, op_repT, p, j, vs, rfl, rfl, by rw [C.eK]; exact sx, fun e => l4 ?_, l1, l2, by rw [← rxs.len]; exact l3, hq.newT hr (rxs.reps _)⟩
      subst e
      cases rxs
      rfl
    | _ => cases hf
  | _ => cases hf
def fNeg (m : FE) : FE := bnd m fun x => fun _ st => match x with
  | .int i => some (.ok (.int (-i)) st)
  | _ => none
theorem se_neg (ha : SE W X Ew a ma) : SE W X Ew (.UnaryOp .USub a pos) (fNeg ma) :=
  imE (pe_un un_neg ha) fun σ H Q ⟨ι, sl, st, r, hs, hr, hm, hq⟩ => run hs hr hm hq fun x st1 ι1 H1 vx e1 s1 r1 rx hm1 hq1 => by
    cases rx with
    | int i => exact ⟨i, rfl, ve_of (st := st1) (sl := sl) r1 (.int _) hm1 hq1⟩
    | _ => cases hm1

/-! ### order -/
def ltPr : List Val → List Val → Option Bool
  | [.int i, .int j], [.int m, .int n] => some (decide (i < m ∨ i = m ∧ j < n))
  | _, _ => none
def lePr : List Val → List Val → Option Bool
  | [.int i, .int j], [.int m, .int n] => some (decide (i < m ∨ i = m ∧ j ≤ n))
  | _, _ => none
def fLt : O2
  | .int i, .int j, st => some (.bl (decide (i < j)), st)
  | .str x, .str y, st => some (.bl (decide (x < y)), st)
  | .tup xs, .tup ys, st => (ltPr xs ys).map fun b => (.bl b, st)
  | _, _, _ => none
def fLe : O2
  | .int i, .int j, st => some (.bl (decide (i ≤ j)), st)
  | .str x, .str y, st => some (.bl (!decide (y < x)), st)
  | .tup xs, .tup ys, st => (lePr xs ys).map fun b => (.bl b, st)
  | _, _, _ => none
def fGt : O2 := fun a b => fLt b a
def fGe : O2 := fun a b => fLe b a
theorem lt_inv {xs ys : List Val} {r : Val × Sto} (h : fLt (.tup xs) (.tup ys) st = some r) : ∃ i j m n, xs = [.int i, .int j] ∧ ys = [.int m, .int n] ∧ r = (.bl (decide (i < m ∨ i = m ∧ j < n)), st) := by
  unfold fLt at h
  obtain ⟨b, h1, rfl⟩ := Option.map_eq_some_iff.mp h
  unfold ltPr at h1
  split at h1
  · cases h1
    exact ⟨_, _, _, _, rfl, rfl, rfl⟩
  · cases h1
theorem le_inv {xs ys : List Val} {r : Val × Sto} (h : fLe (.tup xs) (.tup ys) st = some r) : ∃ i j m n, xs = [.int i, .int j] ∧ ys = [.int m, .int n] ∧ r = (.bl (decide (i < m ∨ i = m ∧ j ≤ n)), st) := by
  unfold fLe at h
  obtain ⟨b, h1, rfl⟩ := Option.map_eq_some_iff.mp h
  unfold lePr at h1
  split at h1
  · cases h1
    exact ⟨_, _, _, _, rfl, rfl, rfl⟩
  · cases h1
theorem RVs.pair {i j : Int} {vs : List V} (h : RVs W.K ι H [.int i, .int j] vs) : vs = [.int i, .int j] := by
  cases h with
  | cons a b =>
    cases b with
    | cons c d =>
      cases d
      cases a
      cases c
      rfl
theorem eqAt_int {A : Around} {s : Shared} (a b : Int) (t u : Tok) : SeqAt.EqAt A s (.int a t) (.int b u) (decide (a = b)) := by
  have z : (a == b) = decide (a = b) := by
    by_cases q : a = b
    · rw [decide_eq_true q]
      exact beq_iff_eq.mpr q
    · rw [decide_eq_false q]
      exact beq_eq_false_iff_ne.mpr q
  rw [← z]
  exact SeqAt.EqAt.int_int _ _ _ _
def rPr (K : PySem.W.Frag) (f : Int → Int → Int → Int → Bool) : R2 := fun x y H Q => ∃ (a b : Addr) (i j m n : Int), x = .ref a ∧ y = .ref b ∧ SqT K H a [.int i, .int j] ∧ SqT K H b [.int m, .int n] ∧ Q (.bl (f i j m n)) H
theorem op_ltP (hu : X.A.units < cLine) : OpR X (compareOp .Lt) (rPr X.K fun i j m n => decide (i < m ∨ i = m ∧ j < n)) := by
  intro pins s σ H x y v u Q I rx ry h
  obtain ⟨a, b, i, j, m, n, rfl, rfl, ha, hb, q⟩ := h
  cases rx
  cases ry
  obtain ⟨l1, q1, t1, _⟩ := I.tuple ha
  obtain ⟨l2, q2, t2, _⟩ := I.tuple hb
  obtain ⟨u1, u2, rfl, k1, k2⟩ := vals2 q1
  obtain ⟨w1, w2, rfl, k3, k4⟩ := vals2 q2
  obtain ⟨c1, rfl⟩ := k1
  obtain ⟨c2, rfl⟩ := k2
  obtain ⟨c3, rfl⟩ := k3
  obtain ⟨c4, rfl⟩ := k4
  have R := Ob.RcOp.tuples_lt (A := X.A) (s := s) (e := fun c => match c with | 0 => decide (i = m) | _ => decide (j = n)) (r := fun c => match c with | 0 => decide (i < m) | _ => decide (j < n)) t1 t2 hu
    (fun c h1 h2 => match c, h1, h2 with | 0, _, _ => eqAt_int _ _ _ _ | 1, _, _ => eqAt_int _ _ _ _)
    (fun c h1 h2 _ => match c, h1, h2 with | 0, _, _ => Ob.RcOp.lt_int _ _ _ _ | 1, _, _ => Ob.RcOp.lt_int _ _ _ _)
  have R2 := R X.prog X.w X.xe (EP X pins σ Q)
  refine R2 ⟨.bl (decide (i < m ∨ i = m ∧ j < n)), H, I, ?_, q⟩
  show Value.bool _ = Value.bool _
  refine congrArg Value.bool ?_
  show (if decide (i = m) = true then (if decide (j = n) = true then false else decide (j < n)) else decide (i < m)) = _
  by_cases e1 : i = m
  · subst e1
    rw [if_pos (decide_eq_true rfl)]
    by_cases e2 : j = n
    · subst e2
      rw [if_pos (decide_eq_true rfl)]
      exact (decide_eq_false (by omega)).symm
    · rw [if_neg (by rw [decide_eq_false e2]; decide)]
      exact decide_eq_decide.mpr (by omega)
  · rw [if_neg (by rw [decide_eq_false e1]; decide)]
    exact decide_eq_decide.mpr (by omega)
theorem op_leP (hu : X.A.units < cLine) : OpR X (compareOp .LtE) (rPr X.K fun i j m n => decide (i < m ∨ i = m ∧ j ≤ n)) := by
  intro pins s σ H x y v u Q I rx ry h
  obtain ⟨a, b, i, j, m, n, rfl, rfl, ha, hb, q⟩ := h
  cases rx
  cases ry
  obtain ⟨l1, q1, t1, _⟩ := I.tuple ha
  obtain ⟨l2, q2, t2, _⟩ := I.tuple hb
  obtain ⟨u1, u2, rfl, k1, k2⟩ := vals2 q1
  obtain ⟨w1, w2, rfl, k3, k4⟩ := vals2 q2
  obtain ⟨c1, rfl⟩ := k1
  obtain ⟨c2, rfl⟩ := k2
  obtain ⟨c3, rfl⟩ := k3
  obtain ⟨c4, rfl⟩ := k4
  have R := Ob.RcOp.tuples_le (A := X.A) (s := s) (e := fun c => match c with | 0 => decide (i = m) | _ => decide (j = n)) (r := fun c => match c with | 0 => decide (i ≤ m) | _ => decide (j ≤ n)) t1 t2 hu
    (fun c h1 h2 => match c, h1, h2 with | 0, _, _ => eqAt_int _ _ _ _ | 1, _, _ => eqAt_int _ _ _ _)
    (fun c h1 h2 _ => match c, h1, h2 with | 0, _, _ => Ob.RcOp.le_int _ _ _ _ | 1, _, _ => Ob.RcOp.le_int _ _ _ _)
  have R2 := R X.prog X.w X.xe (EP X pins σ Q)
  refine R2 ⟨.bl (decide (i < m ∨ i = m ∧ j ≤ n)), H, I, ?_, q⟩
  show Value.bool _ = Value.bool _
  refine congrArg Value.bool ?_
  show (if decide (i = m) = true then (if decide (j = n) = true then true else decide (j ≤ n)) else decide (i ≤ m)) = _
  by_cases e1 : i = m
  · subst e1
    rw [if_pos (decide_eq_true rfl)]
    by_cases e2 : j = n
    · subst e2
      rw [if_pos (decide_eq_true rfl)]
      exact (decide_eq_true (by omega)).symm
    · rw [if_neg (by rw [decide_eq_false e2]; decide)]
      exact decide_eq_decide.mpr (by omega)
  · rw [if_neg (by rw [decide_eq_false e1]; decide)]
    exact decide_eq_decide.mpr (by omega)
theorem op_gtP (hu : X.A.units < cLine) : OpR X (compareOp .Gt) (rPr X.K fun i j m n => decide (m < i ∨ m = i ∧ n < j)) := by
  intro pins s σ H x y v u Q I rx ry h
  obtain ⟨a, b, i, j, m, n, rfl, rfl, ha, hb, q⟩ := h
  cases rx
  cases ry
  obtain ⟨l1, q1, t1, _⟩ := I.tuple ha
  obtain ⟨l2, q2, t2, _⟩ := I.tuple hb
  obtain ⟨u1, u2, rfl, k1, k2⟩ := vals2 q1
  obtain ⟨w1, w2, rfl, k3, k4⟩ := vals2 q2
  obtain ⟨c1, rfl⟩ := k1
  obtain ⟨c2, rfl⟩ := k2
  obtain ⟨c3, rfl⟩ := k3
  obtain ⟨c4, rfl⟩ := k4
  have R := Ob.RcOp.tuples_gt (A := X.A) (s := s) (e := fun c => match c with | 0 => decide (i = m) | _ => decide (j = n)) (r := fun c => match c with | 0 => decide (m < i) | _ => decide (n < j)) t1 t2 hu
    (fun c h1 h2 => match c, h1, h2 with | 0, _, _ => eqAt_int _ _ _ _ | 1, _, _ => eqAt_int _ _ _ _)
    (fun c h1 h2 _ => match c, h1, h2 with | 0, _, _ => Ob.RcOp.gt_int _ _ _ _ | 1, _, _ => Ob.RcOp.gt_int _ _ _ _)
  have R2 := R X.prog X.w X.xe (EP X pins σ Q)
  refine R2 ⟨.bl (decide (m < i ∨ m = i ∧ n < j)), H, I, ?_, q⟩
  show Value.bool _ = Value.bool _
  refine congrArg Value.bool ?_
  show (if decide (i = m) = true then (if decide (j = n) = true then false else decide (n < j)) else decide (m < i)) = _
  by_cases e1 : i = m
  · subst e1
    rw [if_pos (decide_eq_true rfl)]
    by_cases e2 : j = n
    · subst e2
      rw [if_pos (decide_eq_true rfl)]
      exact (decide_eq_false (by omega)).symm
    · rw [if_neg (by rw [decide_eq_false e2]; decide)]
      exact decide_eq_decide.mpr (by omega)
  · rw [if_neg (by rw [decide_eq_false e1]; decide)]
    exact decide_eq_decide.mpr (by omega)
theorem op_geP (hu : X.A.units < cLine) : OpR X (compareOp .GtE) (rPr X.K fun i j m n => decide (m < i ∨ m = i ∧ n ≤ j)) := by
  intro pins s σ H x y v u Q I rx ry h
  obtain ⟨a, b, i, j, m, n, rfl, rfl, ha, hb, q⟩ := h
  cases rx
  cases ry
  obtain ⟨l1, q1, t1, _⟩ := I.tuple ha
  obtain ⟨l2, q2, t2, _⟩ := I.tuple hb
  obtain ⟨u1, u2, rfl, k1, k2⟩ := vals2 q1
  obtain ⟨w1, w2, rfl, k3, k4⟩ := vals2 q2
  obtain ⟨c1, rfl⟩ := k1
  obtain ⟨c2, rfl⟩ := k2
  obtain ⟨c3, rfl⟩ := k3
  obtain ⟨c4, rfl⟩ := k4
  have R := Ob.RcOp.tuples_ge (A := X.A) (s := s) (e := fun c => match c with | 0 => decide (i = m) | _ => decide (j = n)) (r := fun c => match c with | 0 => decide (m ≤ i) | _ => decide (n ≤ j)) t1 t2 hu
    (fun c h1 h2 => match c, h1, h2 with | 0, _, _ => eqAt_int _ _ _ _ | 1, _, _ => eqAt_int _ _ _ _)
    (fun c h1 h2 _ => match c, h1, h2 with | 0, _, _ => Ob.RcOp.ge_int _ _ _ _ | 1, _, _ => Ob.RcOp.ge_int _ _ _ _)
  have R2 := R X.prog X.w X.xe (EP X pins σ Q)
  refine R2 ⟨.bl (decide (m < i ∨ m = i ∧ n ≤ j)), H, I, ?_, q⟩
  show Value.bool _ = Value.bool _
  refine congrArg Value.bool ?_
  show (if decide (i = m) = true then (if decide (j = n) = true then true else decide (n ≤ j)) else decide (m ≤ i)) = _
  by_cases e1 : i = m
  · subst e1
    rw [if_pos (decide_eq_true rfl)]
    by_cases e2 : j = n
    · subst e2
      rw [if_pos (decide_eq_true rfl)]
      exact (decide_eq_true (by omega)).symm
    · rw [if_neg (by rw [decide_eq_false e2]; decide)]
      exact decide_eq_decide.mpr (by omega)
  · rw [if_neg (by rw [decide_eq_false e1]; decide)]
    exact decide_eq_decide.mpr (by omega)
theorem op_ltF (C : Ctx0 W k X Ew) : OpR X (compareOp .Lt) (ro W fLt) := opBy fun x y H Q ⟨ι, st, a, b, v, st', rx, ry, hr, hf, hq⟩ => by
  cases rx with
  | int i =>
    cases ry with
    | int j =>
      cases hf
      exact ⟨_, op_lt, i, j, rfl, rfl, hq.here hr (.bl _)⟩
    | _ => cases hf
  | str i =>
    cases ry with
    | str j =>
      cases hf
      exact ⟨_, op_lt_str, _, _, rfl, rfl, hq.here hr (.bl _)⟩
    | _ => cases hf
  | tup s1 q1 =>
    cases ry with
    | tup s2 q2 =>
      obtain ⟨a, b, c, d, rfl, rfl, e⟩ := lt_inv hf
      cases e
      rw [RVs.pair q1] at s1
      rw [RVs.pair q2] at s2
      exact ⟨_, op_ltP (Nat.lt_of_le_of_lt (Nat.le_add_right _ 1) C.hu1), _, _, a, b, c, d, rfl, rfl, by rw [C.eK]; exact s1, by rw [C.eK]; exact s2, hq.here hr (.bl _)⟩
    | _ => cases hf
  | _ => cases hf
theorem op_leF (C : Ctx0 W k X Ew) : OpR X (compareOp .LtE) (ro W fLe) := opBy fun x y H Q ⟨ι, st, a, b, v, st', rx, ry, hr, hf, hq⟩ => by
  cases rx with
  | int i =>
    cases ry with
    | int j =>
      cases hf
      exact ⟨_, op_le, i, j, rfl, rfl, hq.here hr (.bl _)⟩
    | _ => cases hf
  | str i =>
    cases ry with
    | str j =>
      cases hf
      exact ⟨_, op_le_str, _, _, rfl, rfl, hq.here hr (.bl _)⟩
    | _ => cases hf
  | tup s1 q1 =>
    cases ry with
    | tup s2 q2 =>
      obtain ⟨a, b, c, d, rfl, rfl, e⟩ := le_inv hf
      cases e
      rw [RVs.pair q1] at s1
      rw [RVs.pair q2] at s2
      exact ⟨_, op_leP (Nat.lt_of_le_of_lt (Nat.le_add_right _ 1) C.hu1), _, _, a, b, c, d, rfl, rfl, by rw [C.eK]; exact s1, by rw [C.eK]; exact s2, hq.here hr (.bl _)⟩
    | _ => cases hf
  | _ => cases hf
theorem op_gtF (C : Ctx0 W k X Ew) : OpR X (compareOp .Gt) (ro W fGt) := opBy fun x y H Q ⟨ι, st, a, b, v, st', rx, ry, hr, hf, hq⟩ => by
  cases ry with
  | int i =>
    cases rx with
    | int j =>
      cases hf
      exact ⟨_, op_gt, j, i, rfl, rfl, hq.here hr (.bl _)⟩
    | _ => cases hf
  | str i =>
    cases rx with
    | str j =>
      cases hf
      exact ⟨_, op_gt_str, _, _, rfl, rfl, hq.here hr (.bl _)⟩
    | _ => cases hf
  | tup s1 q1 =>
    cases rx with
    | tup s2 q2 =>
      obtain ⟨a, b, c, d, rfl, rfl, e⟩ := lt_inv hf
      cases e
      rw [RVs.pair q1] at s1
      rw [RVs.pair q2] at s2
      exact ⟨_, op_gtP (Nat.lt_of_le_of_lt (Nat.le_add_right _ 1) C.hu1), _, _, c, d, a, b, rfl, rfl, by rw [C.eK]; exact s2, by rw [C.eK]; exact s1, hq.here hr (.bl _)⟩
    | _ => cases hf
  | _ => cases hf
theorem op_geF (C : Ctx0 W k X Ew) : OpR X (compareOp .GtE) (ro W fGe) := opBy fun x y H Q ⟨ι, st, a, b, v, st', rx, ry, hr, hf, hq⟩ => by
  cases ry with
  | int i =>
    cases rx with
    | int j =>
      cases hf
      exact ⟨_, op_ge, j, i, rfl, rfl, hq.here hr (.bl _)⟩
    | _ => cases hf
  | str i =>
    cases rx with
    | str j =>
      cases hf
      exact ⟨_, op_ge_str, _, _, rfl, rfl, hq.here hr (.bl _)⟩
    | _ => cases hf
  | tup s1 q1 =>
    cases rx with
    | tup s2 q2 =>
      obtain ⟨a, b, c, d, rfl, rfl, e⟩ := le_inv hf
      cases e
      rw [RVs.pair q1] at s1
      rw [RVs.pair q2] at s2
      exact ⟨_, op_geP (Nat.lt_of_le_of_lt (Nat.le_add_right _ 1) C.hu1), _, _, c, d, a, b, rfl, rfl, by rw [C.eK]; exact s2, by rw [C.eK]; exact s1, hq.here hr (.bl _)⟩
    | _ => cases hf
  | _ => cases hf
/-- a < b < c -/
def fChain (f g : O2) (ma mb mc : FE) : FE := bnd ma fun x => bnd mb fun y => bnd (lft (f x y)) fun z => match z with
  | .bl true => bnd mc fun w => lft (g y w)
  | .bl false => fun _ st => some (.ok (.bl false) st)
  | _ => fun _ _ => none
theorem chain_imp {f g : O2} {mc : FE} {σ : L2.St} {Q : VK} (h : teOf W Ew (fChain f g ma mb mc) σ H Q) : tChain (ro W f) (ro W g) (teOf W Ew ma) (teOf W Ew mb) (teOf W Ew mc) σ H Q := by
  obtain ⟨ι, sl, st, r, hs, hr, hm, hq⟩ := h
  refine run hs hr hm hq fun x st1 ι1 H1 vx e1 s1 r1 rx hm1 hq1 => run s1 r1 hm1 hq1 fun y st2 ι2 H2 vy e2 s2 r2 ry hm2 hq2 => ?_
  unfold bnd at hm2
  cases h3 : lft (f x y) sl st2 with
  | none => rw [h3] at hm2; cases hm2
  | some r3 =>
    obtain ⟨z, st3, h4, rfl⟩ := lft_some h3
    rw [h3] at hm2
    refine ⟨ι2, st2, x, y, z, st3, rx.mono e2, ry, r2, h4, fun ι3 H3 vz e3 r3 rz => ?_⟩
    cases rz with
    | bl bz =>
      refine ⟨bz, rfl, ?_⟩
      cases bz with
      | true =>
        show teOf W Ew mc σ H3 _
        exact run (s2.mono e3) r3 hm2 (hq2.mono e3) fun w st4 ι4 H4 vw e4 s4 r4 rw' hm4 hq4 => ro_of (ry.mono (e3.trans e4)) rw' r4 hm4 hq4
      | false =>
        show Q (.bl false) H3
        cases hm2
        exact hq2 _ _ _ e3 r3 (.bl false)
    | _ => cases hm2
theorem se_chain {c : Expr} {op op' : CmpOp} {f g : O2} {mc : FE} (ho : OpR X (compareOp op) (ro W f)) (ho' : OpR X (compareOp op') (ro W g)) (ha : SE W X Ew a ma) (hb : SE W X Ew b mb) (hc : SE W X Ew c mc) (h : lastMarks [op, op'] [b, c] = false := by rfl) :
    SE W X Ew (.Compare a [op, op'] [b, c] pos) (fChain f g ma mb mc) := imE (pe_chain ho ho' ha hb hc h) fun σ H Q h => chain_imp h
theorem sc_chain {c : Expr} {op op' : CmpOp} {f g : O2} {mc : FE} (ho : OpR X (compareOp op) (ro W f)) (ho' : OpR X (compareOp op') (ro W g)) (ha : SE W X Ew a ma) (hb : SE W X Ew b mb) (hc : SE W X Ew c mc) (h : lastMarks [op, op'] [b, c] = false := by rfl) :
    SC W X Ew (.Compare a [op, op'] [b, c] pos) (fB (fChain f g ma mb mc)) := imT (pt_chain ho ho' ha hb hc h) fun σ H Q ⟨ι, sl, st, r, hs, hr, hm, hq⟩ =>
  chain_imp (run hs hr hm hq fun x st1 ι1 H1 vx e1 s1 r1 rx hm1 hq1 => fB_of rx r1 hm1 hq1)

/-! ### == -/
def mapO {α β : Type} (f : α → Option β) : List α → Option (List β)
  | [] => some []
  | x :: xs => match f x, mapO f xs with
    | some y, some ys => some (y :: ys)
    | _, _ => none
def toD : Nat → Sto → Val → Option PyData
  | 0, _, _ => none
  | n + 1, st, v => match v with
    | .non => some .none
    | .bl b => some (.bool b)
    | .int i => some (.int i)
    | .str s => some (.str (St' s))
    | .tup xs => (mapO (toD n st) xs).map .tuple
    | .ref i => match st[i]? with
      | some (.lst xs) => (mapO (toD n st) xs).map .list
      | _ => none
    | .scr ns => some (.list (ns.map .int))
    | _ => none
theorem dpAll {f : Val → Option PyData} (h : ∀ x v d, f x = some d → RV W.K ι H x v → Dp W.K H v d) : ∀ {xs : List Val} {vs : List V} {ds : List PyData}, mapO f xs = some ds → RVs W.K ι H xs vs → DpAll W.K H vs ds
  | _, _, _, hm, .nil => by
    cases hm
    exact .nil
  | _, _, _, hm, .cons rx rxs => by
    rename_i x v xs vs ds
    unfold mapO at hm
    split at hm
    · rename_i y ys h1 h2
      cases hm
      exact .cons (h _ _ _ h1 rx) (dpAll h h2 rxs)
    · cases hm
theorem dpInts : ∀ ns : List Int, DpAll W.K H (ns.map V.int) (ns.map PyData.int)
  | [] => .nil
  | n :: ns => .cons (.int n) (dpInts ns)
theorem toD_dp (r : Rel W ι H st) : ∀ (n : Nat) (x : Val) (v : V) (d : PyData), toD n st x = some d → RV W.K ι H x v → Dp W.K H v d
  | 0, _, _, _, h, _ => by cases h
  | n + 1, x, v, d, h, rx => by
    cases rx with
    | non => cases h; exact .non
    | bl b => cases h; exact .bl b
    | int i => cases h; exact .int i
    | str s => cases h; exact .str _
    | @tup p vs xs sx rxs =>
      have h2 : (mapO (toD n st) xs).map PyData.tuple = some d := h
      obtain ⟨ds, h3, rfl⟩ := Option.map_eq_some_iff.mp h2
      exact .tup sx (dpAll (fun x v d => toD_dp r n x v d) h3 rxs)
    | @ref i p h1 =>
      have h2 : (match st[i]? with | some (.lst xs) => (mapO (toD n st) xs).map PyData.list | _ => none) = some d := h
      split at h2
      · rename_i xs h3
        obtain ⟨ds, h4, rfl⟩ := Option.map_eq_some_iff.mp h2
        obtain ⟨vs, h5, h6⟩ := r.lst h3 h1
        exact .lst (SqL.of h5) (dpAll (fun x v d => toD_dp r n x v d) h4 h6)
      · cases h2
    | scr h1 => cases h; exact .lst h1.sq (dpInts _)
    | _ => cases h
def fEqB (a b : Val) (st : Sto) : Option Bool := match toD 9 st a, toD 9 st b with
  | some d, some e => if SeqAt.shaped d = true ∧ SeqAt.shaped e = true then some (PyData.eqv d e) else none
  | _, _ => none
def fEq : O2 := fun a b st => (fEqB a b st).map fun c => (.bl c, st)
def fNe : O2 := fun a b st => (fEqB a b st).map fun c => (.bl (!c), st)
theorem eqB_dp {x y : Val} {vx vy : V} {c : Bool} (r : Rel W ι H st) (h : fEqB x y st = some c) (rx : RV W.K ι H x vx) (ry : RV W.K ι H y vy) : ∃ d e, Dp W.K H vx d ∧ Dp W.K H vy e ∧ SeqAt.shaped d = true ∧ SeqAt.shaped e = true ∧ PyData.eqv d e = c := by
  unfold fEqB at h
  split at h
  · rename_i d e h1 h2
    split at h
    · rename_i h3
      cases h
      exact ⟨d, e, toD_dp r _ _ _ _ h1 rx, toD_dp r _ _ _ _ h2 ry, h3.1, h3.2, rfl⟩
    · cases h
  · cases h
theorem op_eqF (C : Ctx0 W k X Ew) : OpR X (compareOp .Eq) (ro W fEq) := opBy fun x y H Q ⟨ι, st, a, b, v, st', rx, ry, hr, hf, hq⟩ => by
  obtain ⟨c, h1, h2⟩ := Option.map_eq_some_iff.mp hf
  cases h2
  obtain ⟨d, e, g1, g2, g3, g4, rfl⟩ := eqB_dp hr h1 rx ry
  exact ⟨_, op_eqD C.hu, d, e, by rw [C.eK]; exact g1, by rw [C.eK]; exact g2, g3, g4, hq.here hr (.bl _)⟩
theorem op_neF (C : Ctx0 W k X Ew) : OpR X (compareOp .NotEq) (ro W fNe) := opBy fun x y H Q ⟨ι, st, a, b, v, st', rx, ry, hr, hf, hq⟩ => by
  obtain ⟨c, h1, h2⟩ := Option.map_eq_some_iff.mp hf
  cases h2
  obtain ⟨d, e, g1, g2, g3, g4, rfl⟩ := eqB_dp hr h1 rx ry
  exact ⟨_, op_neD C.hu, d, e, by rw [C.eK]; exact g1, by rw [C.eK]; exact g2, g3, g4, hq.here hr (.bl _)⟩
end
end FL
/-! FL6: subscripts, slices, built-ins, methods of lists and texts, what is walked. -/
namespace FL
open PySem PySem.Spec PyProof.Rows L2

section
variable {W : Wd} {k : Nat} {X : Cx} {Ew : WX} {ι ι' : List Addr} {H H' : Hp} {st : Sto} {a b c e : Expr} {es : List Expr} {ma mb me : FE} {mt mu : FT} {mas : FA} {pos : Pos}

/-! ### dicts: keys are ints and texts -/
def keyOf : Val → Option Key
  | .int i => some (.inl i)
  | .str s => some (.inr (St' s))
  | _ => none
def getK {α : Type} (kvs : List (Key × α)) (k : Key) : Option α := (kvs.find? fun kv => decide (kv.1 = k)).map (·.2)
def setK {α : Type} (kvs : List (Key × α)) (k : Key) (v : α) : List (Key × α) :=
  if (kvs.any fun kv => decide (kv.1 = k)) = true then kvs.map (fun kv => if kv.1 = k then (kv.1, v) else kv) else kvs ++ [(k, v)]
def delK {α : Type} (kvs : List (Key × α)) (k : Key) : List (Key × α) := kvs.filter fun kv => decide (kv.1 ≠ k)
abbrev DP (K : PySem.W.Frag) (ι : List Addr) (H : Hp) : List (Key × Val) → List (Key × V) → Prop := Paired fun p q => p.1 = q.1 ∧ RV K ι H p.2 q.2
theorem keyOf_V {x : Val} {v : V} {k : Key} (h : keyOf x = some k) (r : RV W.K ι H x v) : v = kV k := by
  cases r <;> first
    | (cases h; rfl)
    | cases h
theorem DP.get {kvs : List (Key × Val)} {ms : List (Key × V)} (r : DP W.K ι H kvs ms) (k : Key) : (getK kvs k = none ∧ valV ms k = none) ∨ ∃ x v, getK kvs k = some x ∧ valV ms k = some v ∧ RV W.K ι H x v := by
  induction r with
  | nil => exact .inl ⟨rfl, rfl⟩
  | @cons p q ps qs h t ih =>
    obtain ⟨e, rv⟩ := h
    by_cases hk : p.1 = k
    · refine .inr ⟨p.2, q.2, by simp [getK, List.find?_cons, hk], ?_, rv⟩
      rw [valV_pos (by rw [← e]; exact hk)]
    · have h1 : getK (p :: ps) k = getK ps k := by simp [getK, List.find?_cons, hk]
      rw [h1, valV_neg (by rw [← e]; exact hk)]
      exact ih
theorem DP.len {kvs : List (Key × Val)} {ms : List (Key × V)} (r : DP W.K ι H kvs ms) : kvs.length = ms.length := Paired.length r
theorem DP.app {kvs lvs : List (Key × Val)} {ms ns : List (Key × V)} (r : DP W.K ι H kvs ms) (q : DP W.K ι H lvs ns) : DP W.K ι H (kvs ++ lvs) (ms ++ ns) := by
  induction r with
  | nil => exact q
  | cons h t ih => exact .cons h ih
theorem DP.any {kvs : List (Key × Val)} {ms : List (Key × V)} (r : DP W.K ι H kvs ms) (k : Key) : (kvs.any fun kv => decide (kv.1 = k)) = (ms.any fun kv => decide (kv.1 = k)) := by
  induction r with
  | nil => rfl
  | cons h t ih => rw [List.any_cons, List.any_cons, ih, h.1]
theorem DP.repl {kvs : List (Key × Val)} {ms : List (Key × V)} (r : DP W.K ι H kvs ms) (k : Key) {x : Val} {v : V} (rx : RV W.K ι H x v) : DP W.K ι H (kvs.map fun kv => if kv.1 = k then (kv.1, x) else kv) (ms.map fun kv => if kv.1 = k then (kv.1, v) else kv) := by
  induction r with
  | nil => exact .nil
  | @cons p q ps qs h t ih =>
    rw [List.map_cons, List.map_cons]
    refine .cons ?_ ih
    rw [← h.1]
    by_cases hk : p.1 = k
    · rw [if_pos hk, if_pos hk]
      exact ⟨rfl, rx⟩
    · rw [if_neg hk, if_neg hk]
      exact h
theorem DP.put {kvs : List (Key × Val)} {ms : List (Key × V)} (r : DP W.K ι H kvs ms) (k : Key) {x : Val} {v : V} (rx : RV W.K ι H x v) : DP W.K ι H (setK kvs k x) (putK ms k v) := by
  unfold setK putK
  rw [r.any k]
  split
  · exact r.repl k rx
  · exact r.app (.cons ⟨rfl, rx⟩ .nil)
theorem DP.del {kvs : List (Key × Val)} {ms : List (Key × V)} (r : DP W.K ι H kvs ms) (k : Key) : DP W.K ι H (delK kvs k) (dropK ms k) := by
  induction r with
  | nil => exact .nil
  | @cons p q ps qs h t ih =>
    unfold delK dropK at ih ⊢
    rw [List.filter_cons, List.filter_cons, ← h.1]
    by_cases hk : p.1 = k
    · simp only [hk, ne_eq, not_true_eq_false, decide_false, Bool.false_eq_true, if_false]
      exact ih
    · simp only [hk, ne_eq, not_false_eq_true, decide_true, if_true]
      exact .cons h ih
theorem ix_dict (hu : X.A.units + 1 < cLine) : IxR X (fun x y H Q => ∃ a v, x = .ref a ∧ DGet H a y (some v) ∧ Q v H) := by
  intro value slice pins s σ H x y v u Q I rx ry ⟨a, w, e, g, q⟩ hs
  subst e
  obtain rfl : v = Value.ref a := rx
  exact tail_any (dict_typeIs I g) PySem.F.slot_dict_getitem.lookup (d_getItem hu I g ry fun w' s3 I3 rw' => ⟨w, H, I3, rw', q⟩) hs
theorem set_dict (hu : X.A.units + 1 < cLine) : PSet X (fun o i v H Q => ∃ a H', o = .ref a ∧ DPut H a i v H' ∧ Q H') := by
  intro pins s σ H o i v ov iv u Q I ro ri rv ⟨a, H', e, g, q⟩
  subst e
  obtain rfl : ov = Value.ref a := ro
  exact d_setItem hu I g ri rv fun s4 I4 => ⟨H', I4, q⟩

/-! ### xs[i] -/
def fIx : O2
  | .tup xs, .int i, st => (atI xs i).map fun v => (v, st)
  | .ref p, y, st => match st[p]? with
    | some (.lst xs) => (match y with
      | .int i => (atI xs i).map fun v => (v, st)
      | _ => none)
    | some (.dic kvs) => (keyOf y).bind fun k => (getK kvs k).map fun v => (v, st)
    | _ => none
  | .scr ns, .int i, st => (atI ns i).map fun n => (.int n, st)
  | .str s, .int i, st => if s.length ≤ LINE then (atI s i).map fun c => (.str [c], st) else none
  | _, _, _ => none
theorem RVs.atI {xs : List Val} {vs : List V} (h : RVs W.K ι H xs vs) {i : Int} {x : Val} (hx : L2.atI xs i = some x) : ∃ v, L2.atI vs i = some v ∧ RV W.K ι H x v := by
  unfold L2.atI at hx ⊢
  obtain ⟨j, h1, h2⟩ := Option.bind_eq_some_iff.mp hx
  obtain ⟨v, h3, h4⟩ := h.at j h2
  exact ⟨v, Option.bind_eq_some_iff.mpr ⟨j, by rw [← h.len]; exact h1, h3⟩, h4⟩
theorem ix_F (C : Ctx0 W k X Ew) : IxR X (ro W fIx) := ixBy fun x y H Q ⟨ι, st, a, b, v, st', rx, ry, hr, hf, hq⟩ => by
  cases rx with
  | @tup p vs xs sx rxs =>
    cases ry with
    | int i =>
      obtain ⟨z, h1, h2⟩ := Option.map_eq_some_iff.mp (show (L2.atI xs i).map (fun v => (v, st)) = some (v, st') from hf)
      cases h2
      obtain ⟨w, h3, h4⟩ := rxs.atI h1
      exact ⟨_, ix_tup, p, vs, i, w, rfl, rfl, by rw [C.eK]; exact sx, h3, hq.here hr h4⟩
    | _ => cases hf
  | @ref j p h0 =>
    have hf2 : (match st[j]? with
      | some (.lst xs) => (match b with
        | .int i => (L2.atI xs i).map fun v => (v, st)
        | _ => none)
      | some (.dic kvs) => (keyOf b).bind fun k => (getK kvs k).map fun v => (v, st)
      | _ => none) = some (v, st') := by
      cases b <;> exact hf
    split at hf2
    · rename_i xs h5
      cases ry with
      | int i =>
        obtain ⟨z, h1, h2⟩ := Option.map_eq_some_iff.mp (show (L2.atI xs i).map (fun v => (v, st)) = some (v, st') from hf2)
        cases h2
        obtain ⟨vs, h6, h7⟩ := hr.lst h5 h0
        obtain ⟨w, h3, h4⟩ := h7.atI h1
        exact ⟨_, ix_list, p, vs, i, w, rfl, rfl, SqL.of h6, h3, hq.here hr h4⟩
      | _ => cases hf2
    · rename_i kvs h5
      obtain ⟨k, h1, h2⟩ := Option.bind_eq_some_iff.mp hf2
      obtain ⟨z, h3, h4⟩ := Option.map_eq_some_iff.mp h2
      cases h4
      obtain ⟨ms, h6, h7⟩ := hr.dic h5 h0
      have e := keyOf_V h1 ry
      subst e
      rcases DP.get h7 k with ⟨h8, _⟩ | ⟨x, w, h8, h9, h10⟩
      · rw [h8] at h3
        cases h3
      · rw [h8] at h3
        cases h3
        exact ⟨_, ix_dict C.hu1, p, w, rfl, by rw [← h9]; exact DGet.k h6, hq.here hr h10⟩
    · cases hf2
  | @scr p ns h0 =>
    cases ry with
    | int i =>
      obtain ⟨z, h1, h2⟩ := Option.map_eq_some_iff.mp (show (L2.atI ns i).map (fun n => (Val.int n, st)) = some (v, st') from hf)
      cases h2
      refine ⟨_, ix_list, p, _, i, .int z, rfl, rfl, by rw [C.eK]; exact h0.sq, ?_, hq.here hr (.int z)⟩
      unfold L2.atI at h1 ⊢
      obtain ⟨j, h3, h4⟩ := Option.bind_eq_some_iff.mp h1
      refine Option.bind_eq_some_iff.mpr ⟨j, by rw [List.length_map]; exact h3, ?_⟩
      rw [List.getElem?_map, h4]
      rfl
    | _ => cases hf
  | str s =>
    cases ry with
    | int i =>
      have hf2 : (if s.length ≤ LINE then (L2.atI s i).map (fun c => (Val.str [c], st)) else none) = some (v, st') := hf
      by_cases hl : s.length ≤ LINE
      case neg => rw [if_neg hl] at hf2; cases hf2
      rw [if_pos hl] at hf2
      obtain ⟨z, h1, h2⟩ := Option.map_eq_some_iff.mp hf2
      cases h2
      exact ⟨_, ix_seq, .inr (.inr ⟨_, i, z, rfl, rfl, by rw [st_len]; exact sz_of hl, by show L2.atI s.toArray.toList i = _; simpa using h1, hq.here hr (.str [z])⟩)⟩
    | _ => cases hf
  | _ => cases hf

/-! ### xs[i:j], xs[::-1] -/
def cutG {α : Type} (xs : List α) (lo hi : Option Int) : List α := (xs.drop (HT.sIx xs.length 0 lo)).take (HT.sIx xs.length xs.length hi - HT.sIx xs.length 0 lo)
theorem RVs.cut {xs : List Val} {vs : List V} (h : RVs W.K ι H xs vs) (lo hi : Option Int) : RVs W.K ι H (cutG xs lo hi) (cutV vs lo hi) := by
  unfold cutG cutV
  rw [← h.len]
  exact (h.drop _).take _
def fSl : OSl := fun a lo hi st => match a with
  | .str s => if s.length ≤ LINE then some (.str (cutG s lo hi), st) else none
  | .tup xs => some (.tup (cutG xs lo hi), st)
  | .ref p => match st[p]? with
    | some (.lst xs) => some (.ref st.length, st ++ [.lst (cutG xs lo hi)])
    | _ => none
  | _ => none
theorem sl_F (C : Ctx0 W k X Ew) : SlR X (rs W fSl) := slBy fun x lo hi H Q ⟨ι, st, a, v, st', rx, hr, hf, hq⟩ => by
  cases rx with
  | str s =>
    have hf2 : (if s.length ≤ LINE then some (Val.str (cutG s lo hi), st) else none) = some (v, st') := hf
    by_cases hl : s.length ≤ LINE
    case neg => rw [if_neg hl] at hf2; cases hf2
    rw [if_pos hl] at hf2
    cases hf2
    refine ⟨_, sl_str, _, rfl, by rw [st_len]; exact sz_of hl, ?_⟩
    have e : cutS (St' s) lo hi = St' (cutG s lo hi) := by
      unfold cutS cutG
      rw [st_len]
    rw [e]
    exact hq.here hr (.str _)
  | @tup p vs xs sx rxs =>
    cases hf
    refine ⟨_, sl_tupA, p, vs, rfl, by rw [C.eK]; exact sx, fun ⟨g1, g2⟩ => ?_, fun _ => hq.newT hr (rxs.cut lo hi)⟩
    have e : cutG xs lo hi = xs := by
      unfold cutG
      rw [rxs.len, g1, g2, ← rxs.len]
      simp
    rw [e] at hq
    exact hq.here hr (.tup sx rxs)
  | @ref j p h0 =>
    have hf2 : (match st[j]? with | some (.lst xs) => some (Val.ref st.length, st ++ [.lst (cutG xs lo hi)]) | _ => none) = some (v, st') := hf
    split at hf2
    · rename_i xs h5
      cases hf2
      obtain ⟨vs, h6, h7⟩ := hr.lst h5 h0
      exact ⟨_, sl_list, p, vs, rfl, SqL.of h6, hq.new hr (show RO W ι H (.lst (cutG xs lo hi)) (.lst (cutV vs lo hi)) from h7.cut lo hi)⟩
    · cases hf2
  | _ => cases hf
def fRevL (m : FE) : FE := bnd m fun x => lft (fun st => match x with
  | .ref p => match st[p]? with
    | some (.lst xs) => some (.ref st.length, st ++ [.lst xs.reverse])
    | _ => none
  | _ => none)
theorem se_revL {j : Nat} {p1 p2 p3 : Pos} (ha : SE W X Ew a ma) : SE W X Ew (.Subscript a (.Slice none none (some (.UnaryOp .USub (.Constant (.int 1) j p1) p2)) p3) pos) (fRevL ma) :=
  imE (pe_revL ha) fun σ H Q ⟨ι, sl, st, r, hs, hr, hm, hq⟩ => run hs hr hm hq fun x st1 ι1 H1 vx e1 s1 r1 rx hm1 hq1 => by
    obtain ⟨v, st', h1, rfl⟩ := lft_some hm1
    cases rx with
    | @ref j p h0 =>
      have h2 : (match st1[j]? with | some (.lst xs) => some (Val.ref st1.length, st1 ++ [.lst xs.reverse]) | _ => none) = some (v, st') := h1
      split at h2
      · rename_i xs h5
        cases h2
        obtain ⟨vs, h6, h7⟩ := r1.lst h5 h0
        exact ⟨p, vs, rfl, SqL.of h6, Post.new hq1 r1 (show RO W ι1 H1 (.lst xs.reverse) (.lst vs.reverse) from h7.rev)⟩
      · cases h2
    | _ => cases h1

/-! ### built-ins -/
def fLen : ON := fun xs st => match xs with
  | [.str s] => if s.length ≤ LINE then some (.int s.length, st) else none
  | [.tup xs] => some (.int xs.length, st)
  | [.scr ns] => some (.int ns.length, st)
  | [.ref p] => match st[p]? with
    | some (.lst xs) => some (.int xs.length, st)
    | _ => none
  | _ => none
theorem call_lenF (C : Ctx0 W k X Ew) : CallR X (.builtin "len") (rc W fLen) := callBy fun xs H Q ⟨ι, st, as, v, st', rx, hr, hf, hq⟩ => by
  cases rx with
  | nil => cases hf
  | cons r0 rr =>
    cases rr with
    | cons _ _ => cases r0 <;> cases hf
    | nil =>
      cases r0 with
      | str s =>
        have hf2 : (if s.length ≤ LINE then some (Val.int s.length, st) else none) = some (v, st') := hf
        by_cases hl : s.length ≤ LINE
        case neg => rw [if_neg hl] at hf2; cases hf2
        rw [if_pos hl] at hf2
        cases hf2
        exact ⟨_, call_len, _, s.length, rfl, ⟨by rw [st_len]; exact sz_of hl, (st_len s).symm⟩, hq.here hr (.int _)⟩
      | @tup p vs xs sx rxs =>
        cases hf
        exact ⟨_, call_len, _, xs.length, rfl, .inr ⟨vs, by rw [C.eK]; exact sx, rxs.len⟩, hq.here hr (.int _)⟩
      | @scr p ns h0 =>
        cases hf
        exact ⟨_, call_len, _, ns.length, rfl, .inl ⟨_, by rw [C.eK]; exact h0.sq, by rw [List.length_map]⟩, hq.here hr (.int _)⟩
      | @ref j p h0 =>
        have hf2 : (match st[j]? with | some (.lst xs) => some (Val.int xs.length, st) | _ => none) = some (v, st') := hf
        split at hf2
        · rename_i xs h5
          cases hf2
          obtain ⟨vs, h6, h7⟩ := hr.lst h5 h0
          exact ⟨_, call_len, _, xs.length, rfl, .inl ⟨vs, SqL.of h6, h7.len⟩, hq.here hr (.int _)⟩
        · cases hf2
      | _ => cases hf
def fOrd : ON := fun xs st => match xs with
  | [.str [c]] => some (.int c, st)
  | _ => none
theorem call_ordF : CallR X (.builtin "ord") (rc W fOrd) := callBy fun xs H Q ⟨ι, st, as, v, st', rx, hr, hf, hq⟩ => by
  unfold fOrd at hf
  split at hf
  · rename_i c
    cases hf
    cases rx with
    | cons r0 rr =>
      cases rr
      cases r0
      exact ⟨_, call_ord, St' [c], rfl, rfl, hq.here hr (.int _)⟩
  · cases hf
def allB : List Val → Option Bool
  | [] => some true
  | .bl b :: xs => match allB xs with
    | some c => some (b && c)
    | none => none
  | _ => none
def anyB : List Val → Option Bool
  | [] => some false
  | .bl b :: xs => match anyB xs with
    | some c => some (b || c)
    | none => none
  | _ => none
theorem allB_bls : ∀ {xs : List Val} {c : Bool}, allB xs = some c → ∃ bs : List Bool, xs = bs.map Val.bl ∧ c = bs.all id
  | [], c, h => by
    cases h
    exact ⟨[], rfl, rfl⟩
  | x :: xs, c, h => by
    cases x with
    | bl b =>
      have h2 : (match allB xs with | some c => some (b && c) | none => none) = some c := h
      split at h2
      · rename_i d h3
        cases h2
        obtain ⟨bs, rfl, rfl⟩ := allB_bls h3
        exact ⟨b :: bs, rfl, rfl⟩
      · cases h2
    | _ => cases h
theorem anyB_bls : ∀ {xs : List Val} {c : Bool}, anyB xs = some c → ∃ bs : List Bool, xs = bs.map Val.bl ∧ c = bs.any id
  | [], c, h => by
    cases h
    exact ⟨[], rfl, rfl⟩
  | x :: xs, c, h => by
    cases x with
    | bl b =>
      have h2 : (match anyB xs with | some c => some (b || c) | none => none) = some c := h
      split at h2
      · rename_i d h3
        cases h2
        obtain ⟨bs, rfl, rfl⟩ := anyB_bls h3
        exact ⟨b :: bs, rfl, rfl⟩
      · cases h2
    | _ => cases h
theorem RVs.ofBls : ∀ (bs : List Bool) {vs : List V}, RVs W.K ι H (bs.map Val.bl) vs → vs = bs.map V.bl
  | [], _, h => by cases h; rfl
  | b :: bs, _, h => by
    cases h with
    | cons h1 h2 =>
      cases h1
      rw [RVs.ofBls bs h2]
      rfl
theorem RVs.ofStrs : ∀ (bs : List (List Nat)) {vs : List V}, RVs W.K ι H (bs.map Val.str) vs → vs = (bs.map St').map V.str
  | [], _, h => by cases h; rfl
  | b :: bs, _, h => by
    cases h with
    | cons h1 h2 =>
      cases h1
      rw [RVs.ofStrs bs h2]
      rfl
theorem RVs.ofInts : ∀ (bs : List Int) {vs : List V}, RVs W.K ι H (bs.map Val.int) vs → vs = bs.map V.int
  | [], _, h => by cases h; rfl
  | b :: bs, _, h => by
    cases h with
    | cons h1 h2 =>
      cases h1
      rw [RVs.ofInts bs h2]
      rfl
def oneR (f : Nat → Sto → Option (Val × Sto)) : ON := fun xs st => match xs with
  | [.ref p] => f p st
  | _ => none
def fAll : ON := oneR fun p st => match st[p]? with
  | some (.lst xs) => (allB xs).map fun c => (.bl c, st)
  | _ => none
def fAny : ON := oneR fun p st => match st[p]? with
  | some (.lst xs) => (anyB xs).map fun c => (.bl c, st)
  | _ => none
theorem one_ref {f : Nat → Sto → Option (Val × Sto)} {as : List Val} {xs : List V} {v : Val} {st' : Sto} (rx : RVs W.K ι H as xs) (hf : oneR f as st = some (v, st')) : ∃ i p, as = [.ref i] ∧ xs = [.ref p] ∧ ι[i]? = some p ∧ f i st = some (v, st') := by
  unfold oneR at hf
  split at hf
  · rename_i i
    cases rx with
    | cons r0 rr =>
      cases rr
      cases r0
      rename_i p h0
      exact ⟨i, p, rfl, rfl, h0, hf⟩
  · cases hf
theorem call_allF (C : Ctx W k X Ew) : CallR X (.builtin "all") (rc W fAll) := callBy fun xs H Q ⟨ι, st, as, v, st', rx, hr, hf, hq⟩ => by
  obtain ⟨i, p, rfl, rfl, h0, h1⟩ := one_ref rx hf
  split at h1
  · rename_i ys h5
    obtain ⟨c, h2, h3⟩ := Option.map_eq_some_iff.mp h1
    cases h3
    obtain ⟨bs, rfl, rfl⟩ := allB_bls h2
    obtain ⟨vs, h6, h7⟩ := hr.lst h5 h0
    rw [RVs.ofBls bs h7] at h6
    exact ⟨_, cr_all C.calm, p, bs, rfl, SqL.of h6, hq.here hr (.bl _)⟩
  · cases h1
theorem call_anyF (C : Ctx W k X Ew) : CallR X (.builtin "any") (rc W fAny) := callBy fun xs H Q ⟨ι, st, as, v, st', rx, hr, hf, hq⟩ => by
  obtain ⟨i, p, rfl, rfl, h0, h1⟩ := one_ref rx hf
  split at h1
  · rename_i ys h5
    obtain ⟨c, h2, h3⟩ := Option.map_eq_some_iff.mp h1
    cases h3
    obtain ⟨bs, rfl, rfl⟩ := anyB_bls h2
    obtain ⟨vs, h6, h7⟩ := hr.lst h5 h0
    rw [RVs.ofBls bs h7] at h6
    exact ⟨_, cr_any C.calm, p, bs, rfl, SqL.of h6, hq.here hr (.bl _)⟩
  · cases h1
/-- isinstance of a built-in class -/
def tyN (st : Sto) : Val → Option String
  | .non => some "NoneType"
  | .bl _ => some "bool"
  | .int _ => some "int"
  | .str _ => some "str"
  | .tup _ => some "tuple"
  | .scr _ => some "list"
  | .ref p => match st[p]? with
    | some (.lst _) => some "list"
    | some (.dic _) => some "dict"
    | _ => none
  | _ => none
def isSub (n t : String) : Option Bool := match t with
  | "int" => some (n == "int" || n == "bool")
  | "bool" => some (n == "bool")
  | "str" => some (n == "str")
  | "tuple" => some (n == "tuple")
  | "list" => some (n == "list")
  | _ => none
def fIsi : ON := fun xs st => match xs with
  | [x, .ty t] => match tyN st x with
    | some n => (isSub n t).map fun c => (.bl c, st)
    | none => none
  | _ => none
theorem tyN_of (r : Rel W ι H st) {x : Val} {v : V} {n : String} (h : tyN st x = some n) (rx : RV W.K ι H x v) : TyX W.K H v (.type n) ∧ n ∈ ["NoneType", "bool", "int", "str", "tuple", "list", "dict"] := by
  cases rx with
  | non => cases h; exact ⟨.base .non, by decide⟩
  | bl b => cases h; exact ⟨.base (.bl b), by decide⟩
  | int b => cases h; exact ⟨.base (.int b), by decide⟩
  | str b => cases h; exact ⟨.base (.str _), by decide⟩
  | @tup p vs xs sx rxs =>
    cases h
    refine ⟨?_, by decide⟩
    rcases sx with (s1 | ⟨o, s1⟩) | ⟨o, its, n, s1, s2, _⟩
    · exact .base (.tup s1)
    · exact .fTuple s1
    · exact .kTuple s1 s2
  | @scr p ns h0 =>
    cases h
    refine ⟨?_, by decide⟩
    rcases h0 with ⟨o, h1⟩ | h1
    · exact .base (.frz h1)
    · rcases h1 (fun _ => none) with (s1 | ⟨o, s1⟩) | ⟨o, its, n, s1, s2, _⟩
      · cases s1
      · cases s1
      · exact .kList s1 s2
  | @ref j p h0 =>
    have h2 : (match st[j]? with | some (.lst _) => some "list" | some (.dic _) => some "dict" | _ => none) = some n := h
    split at h2
    · rename_i xs h5
      cases h2
      obtain ⟨vs, h6, _⟩ := r.lst h5 h0
      exact ⟨.base (.lst h6), by decide⟩
    · rename_i xs h5
      cases h2
      obtain ⟨vs, h6, _⟩ := r.dic h5 h0
      exact ⟨.base (.dK h6), by decide⟩
    · cases h2
  | _ => cases h
theorem isSub_ok {n t : String} {c : Bool} (h : isSub n t = some c) (hn : n ∈ ["NoneType", "bool", "int", "str", "tuple", "list", "dict"]) {K : PySem.W.Frag} : PySem.W.kitOne K (.type n) (.type t) = some c := by
  have ht : t ∈ ["int", "bool", "str", "tuple", "list"] := by
    unfold isSub at h
    split at h <;> first | (cases h; done) | simp
  simp only [List.mem_cons, List.not_mem_nil, or_false] at hn ht
  rcases hn with rfl | rfl | rfl | rfl | rfl | rfl | rfl <;> rcases ht with rfl | rfl | rfl | rfl | rfl <;> (cases h; exact kit_ty (by decide +kernel))
theorem call_isiF (C : Ctx0 W k X Ew) : CallR X (.builtin "isinstance") (rc W fIsi) := callBy fun xs H Q ⟨ι, st, as, v, st', rx, hr, hf, hq⟩ => by
  unfold fIsi at hf
  split at hf
  · rename_i x t
    cases h1 : tyN st x with
    | none => rw [h1] at hf; cases hf
    | some n =>
      rw [h1] at hf
      obtain ⟨c, h2, h3⟩ := Option.map_eq_some_iff.mp hf
      cases h3
      cases rx with
      | cons r0 rr =>
        cases rr with
        | cons r1 r2 =>
          cases r2
          cases r1
          obtain ⟨g1, g2⟩ := tyN_of hr h1 r0
          exact ⟨_, call_isi, _, .ty t, .type n, .type t, c, rfl, .ty t, by rw [C.eK]; exact g1, isSub_ok h2 g2, hq.here hr (.bl _)⟩
  · cases hf
/-- a built-in class's name as a value -/
theorem se_ty {x : Str} (n : String) (C : Ctx0 W k X Ew) (hm : W.mg x = none) (hb : bootBuiltins x = some (.type n)) (hg : Gl X x := by rfl) (hn : x ≠ "__name__" := by decide) (hd : (x == ("__debug__" : Str)) = false := by decide) : SE W X Ew (.Name x pos) (fC (.ty n)) :=
  se_c (z := .ty n) (pe_bltn hg (by rw [C.em]; exact hm) hb (show RelV (.ty n) (.type n) from rfl) hn hd) fun _ _ => .ty n
def fListOf : ON := fun xs st => match xs with
  | [.tup xs] => some (.ref st.length, st ++ [.lst xs])
  | [.ref p] => match st[p]? with
    | some (.lst xs) => some (.ref st.length, st ++ [.lst xs])
    | _ => none
  | _ => none
theorem call_listF (C : Ctx0 W k X Ew) : CallR X (.type "list") (rc W fListOf) := callBy fun xs H Q ⟨ι, st, as, v, st', rx, hr, hf, hq⟩ => by
  unfold fListOf at hf
  split at hf
  · rename_i xs
    cases hf
    cases rx with
    | cons r0 rr =>
      cases rr
      cases r0 with
      | @tup p vs xs sx rxs => exact ⟨_, call_list_of, p, vs, rfl, .inr (by rw [C.eK]; exact sx), hq.new hr (show RO W ι H (.lst xs) (.lst vs) from rxs)⟩
  · rename_i i
    split at hf
    · rename_i ys h5
      cases hf
      cases rx with
      | cons r0 rr =>
        cases rr
        cases r0 with
        | @ref j p h0 =>
          obtain ⟨vs, h6, h7⟩ := hr.lst h5 h0
          exact ⟨_, call_list_of, p, vs, rfl, .inl (SqL.of h6), hq.new hr (show RO W ι H (.lst ys) (.lst vs) from h7)⟩
    · cases hf
  · cases hf
def fTupOf : ON := fun xs st => match xs with
  | [.tup xs] => some (.tup xs, st)
  | [.ref p] => match st[p]? with
    | some (.lst xs) => some (.tup xs, st)
    | _ => none
  | _ => none
theorem call_tupF (C : Ctx0 W k X Ew) : CallR X (.type "tuple") (rc W fTupOf) := callBy fun xs H Q ⟨ι, st, as, v, st', rx, hr, hf, hq⟩ => by
  unfold fTupOf at hf
  split at hf
  · rename_i xs
    cases hf
    cases rx with
    | cons r0 rr =>
      cases rr
      cases r0 with
      | @tup p vs xs sx rxs => exact ⟨_, call_tuple_of, p, vs, rfl, .inr ⟨by rw [C.eK]; exact sx, hq.here hr (.tup sx rxs)⟩⟩
  · rename_i i
    split at hf
    · rename_i ys h5
      cases hf
      cases rx with
      | cons r0 rr =>
        cases rr
        cases r0 with
        | @ref j p h0 =>
          obtain ⟨vs, h6, h7⟩ := hr.lst h5 h0
          exact ⟨_, call_tuple_of, p, vs, rfl, .inl ⟨SqL.of h6, hq.newT hr h7⟩⟩
    · cases hf
  · cases hf
def twoI (f : Int → Int → Int) : ON := fun xs st => match xs with
  | [.int i, .int j] => some (.int (f i j), st)
  | _ => none
def fMin2 : ON := twoI fun i j => if j < i then j else i
def fMax2 : ON := twoI fun i j => if j > i then j else i
theorem two_ints {f : Int → Int → Int} {as : List Val} {xs : List V} {v : Val} {st' : Sto} (rx : RVs W.K ι H as xs) (hf : twoI f as st = some (v, st')) : ∃ i j, xs = [.int i, .int j] ∧ v = .int (f i j) ∧ st' = st := by
  unfold twoI at hf
  split at hf
  · rename_i i j
    cases hf
    cases rx with
    | cons r0 rr =>
      cases rr with
      | cons r1 r2 =>
        cases r2
        cases r0
        cases r1
        exact ⟨i, j, rfl, rfl, rfl⟩
  · cases hf
theorem call_minF (C : Ctx W k X Ew) : CallR X (.builtin "min") (rc W fMin2) := callBy fun xs H Q ⟨ι, st, as, v, st', rx, hr, hf, hq⟩ => by
  obtain ⟨i, j, rfl, rfl, rfl⟩ := two_ints rx hf
  exact ⟨_, call_min2 C.calm, i, j, rfl, hq.here hr (.int _)⟩
theorem call_maxF (C : Ctx W k X Ew) : CallR X (.builtin "max") (rc W fMax2) := callBy fun xs H Q ⟨ι, st, as, v, st', rx, hr, hf, hq⟩ => by
  obtain ⟨i, j, rfl, rfl, rfl⟩ := two_ints rx hf
  exact ⟨_, call_max2 C.calm, i, j, rfl, hq.here hr (.int _)⟩

/-! ### methods of lists and texts -/
theorem mtBy {id : String} {r' : V → List V → Hp → VK → Prop} (h : ∀ x xs H Q, r' x xs H Q → ∃ r, MtR X id r ∧ r x xs H Q) : MtR X id r' := fun pins s σ H x xs v us Q I rx rxs hw =>
  let ⟨_, h1, h2⟩ := h x xs H Q hw
  h1 pins s σ H x xs v us Q I rx rxs h2
def kindOf (T : String) (st : Sto) : Val → Bool
  | .str _ => T == "str"
  | .scr _ => T == "list"
  | .ref p => match st[p]? with
    | some (.lst _) => T == "list"
    | some (.dic _) => T == "dict"
    | _ => false
  | _ => false
theorem kind_ty (r : Rel W ι H st) {T : String} {x : Val} {v : V} (h : kindOf T st x = true) (rx : RV W.K ι H x v) : tyV W.K T v H := by
  cases rx with
  | str s => exact beq_iff_eq.mp h
  | @scr p ns h0 => exact .inl ⟨beq_iff_eq.mp h, _, h0.sq⟩
  | @ref j p h0 =>
    have h2 : (match st[j]? with | some (.lst _) => T == "list" | some (.dic _) => T == "dict" | _ => false) = true := h
    split at h2
    · rename_i xs h5
      obtain ⟨vs, h6, _⟩ := r.lst h5 h0
      exact .inl ⟨beq_iff_eq.mp h2, vs, SqL.of h6⟩
    · rename_i xs h5
      obtain ⟨vs, h6, _⟩ := r.dic h5 h0
      exact .inr (.inr (.inl ⟨beq_iff_eq.mp h2, .inl ⟨vs, h6⟩⟩))
    · cases h2
  | _ => cases h
def fMt (T : String) (f : Val → ON) (mo : FE) (ma : FA) : FE := bnd mo fun x => fun sl st => if kindOf T st x = true then bnd ma (fun xs => lft (f x xs)) sl st else none
theorem se_mt {T id : String} {f : Val → ON} {name : Str} {apos : Pos} {o : Expr} {mo : FE} (C : Ctx0 W k X Ew) (h1 : PySem.PlainAttrs T) (h2 : PySem.Slot T name id) (h3 : PySem.typeOf (.builtin id) = pure (.type "method_descriptor")) (hr : MtR X id (rm W f)) (ho : SE W X Ew o mo) (ha : SA W X Ew (e :: es) mas)
    (g1 : attributeBase o name X.env (eval o X.env) = eval o X.env := by rfl)
    (g2 : ((((backTo pos (starEach (e :: es) X.env)).all fun x => !x.1) && (backToKw pos (keywordEach [] X.env)).all fun x => x.1.isSome) && decide (((e :: es).length + ([] : List Keyword).length + if ([] : List Keyword).isEmpty = true then 0 else 1) < 30)) = true := by rfl)
    (g3 : (apos.endLine == pos.line) = true := by rfl) (g4 : starEach (e :: es) X.env = (false, eval e X.env) :: starEach es X.env := by rfl) (g5 : (backTo pos (starEach es X.env)).any (fun x => x.1) = false := by rfl) :
    SE W X Ew (.Call (.Attribute o name apos) (e :: es) [] pos) (fMt T f mo mas) :=
  imE (pe_bm h1 h2 h3 hr ho ha g1 g2 g3 g4 g5) fun σ H Q ⟨ι, sl, st, r, hs, hr, hm, hq⟩ => run hs hr hm hq fun x st1 ι1 H1 vx e1 s1 r1 rx hm1 hq1 => by
    have hm2 : (if kindOf T st1 x = true then bnd mas (fun xs => lft (f x xs)) sl st1 else none) = some r := hm1
    by_cases hk : kindOf T st1 x = true
    case neg => rw [if_neg hk] at hm2; cases hm2
    rw [if_pos hk] at hm2
    refine ⟨by rw [C.eK]; exact kind_ty r1 hk rx, run s1 r1 hm2 hq1 fun xs st2 ι2 H2 vs e2 s2 r2 rxs hm3 hq3 => ?_⟩
    obtain ⟨v, st', h5, rfl⟩ := lft_some hm3
    exact ⟨ι2, st2, x, xs, v, st', rx.mono e2, rxs, r2, h5, hq3⟩
def fMt0 (T : String) (f : Val → ON) (mo : FE) : FE := bnd mo fun x => fun sl st => if kindOf T st x = true then lft (f x []) sl st else none
theorem se_mt0 {T id : String} {f : Val → ON} {name : Str} {apos : Pos} {o : Expr} {mo : FE} (C : Ctx0 W k X Ew) (h1 : PySem.PlainAttrs T) (h2 : PySem.Slot T name id) (h3 : PySem.typeOf (.builtin id) = pure (.type "method_descriptor")) (hr : MtR X id (rm W f)) (ho : SE W X Ew o mo)
    (g1 : attributeBase o name X.env (eval o X.env) = eval o X.env := by rfl) (g3 : (apos.endLine == pos.line) = true := by rfl) : SE W X Ew (.Call (.Attribute o name apos) [] [] pos) (fMt0 T f mo) :=
  imE (pe_bm0 h1 h2 h3 hr ho g1 g3) fun σ H Q ⟨ι, sl, st, r, hs, hr, hm, hq⟩ => run hs hr hm hq fun x st1 ι1 H1 vx e1 s1 r1 rx hm1 hq1 => by
    have hm2 : (if kindOf T st1 x = true then lft (f x []) sl st1 else none) = some r := hm1
    by_cases hk : kindOf T st1 x = true
    case neg => rw [if_neg hk] at hm2; cases hm2
    rw [if_pos hk] at hm2
    refine ⟨by rw [C.eK]; exact kind_ty r1 hk rx, ?_⟩
    obtain ⟨v, st', h5, rfl⟩ := lft_some hm2
    exact ⟨ι1, st1, x, [], v, st', rx, .nil, r1, h5, hq1⟩
/-- a method of a list: what becomes of its items, what it hands back -/
def onL (g : List Val → List Val → Option (Val × List Val)) : Val → ON := fun x xs st => match x with
  | .ref p => match st[p]? with
    | some (.lst ys) => (g ys xs).map fun r => (r.1, st.set p (.lst r.2))
    | _ => none
  | _ => none
theorem onL_of {g : List Val → List Val → Option (Val × List Val)} {x : Val} {xs : List Val} {vx : V} {v : Val} {st' : Sto} (hr : Rel W ι H st) (rx : RV W.K ι H x vx) (h : onL g x xs st = some (v, st')) :
    ∃ i p ys vs zs, vx = .ref p ∧ ι[i]? = some p ∧ st[i]? = some (.lst ys) ∧ H p = some (.lst vs) ∧ RVs W.K ι H ys vs ∧ g ys xs = some (v, zs) ∧ st' = st.set i (.lst zs) := by
  cases rx with
  | @ref i p h0 =>
    have h2 : (match st[i]? with | some (.lst ys) => (g ys xs).map (fun r => (r.1, st.set i (.lst r.2))) | _ => none) = some (v, st') := h
    split at h2
    · rename_i ys h5
      obtain ⟨⟨w, zs⟩, h3, h4⟩ := Option.map_eq_some_iff.mp h2
      cases h4
      obtain ⟨vs, h6, h7⟩ := hr.lst h5 h0
      exact ⟨i, p, ys, vs, zs, rfl, h0, h5, h6, h7, h3, rfl⟩
    · cases h2
  | _ => cases h
def gAppend (ys xs : List Val) : Option (Val × List Val) := match xs with
  | [x] => if ys.length < LINE then some (.non, ys ++ [x]) else none
  | _ => none
theorem mt_appendF : MtR X "list.append" (rm W (onL gAppend)) := mtBy fun x xs H Q ⟨ι, st, a, as, v, st', rx, rxs, hr, hf, hq⟩ => by
  obtain ⟨i, p, ys, vs, zs, rfl, h0, h5, h6, h7, hg, rfl⟩ := onL_of hr rx hf
  unfold gAppend at hg
  split at hg
  · rename_i y
    split at hg
    · rename_i hl
      cases hg
      cases rxs with
      | @cons _ w _ _ r0 rr =>
        cases rr
        exact ⟨_, mt_append, p, vs, w, rfl, rfl, h6, by rw [← h7.len, ← line_eq]; exact hl, hq.put hr h0 h5 (show RO W ι H (.lst (ys ++ [y])) (.lst (vs ++ [w])) from h7.app (.cons r0 .nil)) .non⟩
    · cases hg
  · cases hg
def gPopAt (ys xs : List Val) : Option (Val × List Val) := match xs with
  | [.int i] => if 0 ≤ i ∧ i < ys.length ∧ ys.length ≤ LINE then (ys[i.toNat]?).map fun y => (y, ys.eraseIdx i.toNat) else none
  | _ => none
theorem seqIx {i : Int} {n : Nat} (h0 : 0 ≤ i) (h1 : i < n) : seqIndex? i n = some i.toNat := by
  unfold seqIndex?
  have h2 : ¬ i < 0 := by omega
  simp [h2]
  omega
theorem mt_popAtF : MtR X "list.pop" (rm W (onL gPopAt)) := mtBy fun x xs H Q ⟨ι, st, a, as, v, st', rx, rxs, hr, hf, hq⟩ => by
  obtain ⟨i, p, ys, vs, zs, rfl, h0, h5, h6, h7, hg, rfl⟩ := onL_of hr rx hf
  unfold gPopAt at hg
  split at hg
  · rename_i j
    split at hg
    · rename_i hl
      obtain ⟨y, h1, h2⟩ := Option.map_eq_some_iff.mp hg
      cases h2
      obtain ⟨w, h8, h9⟩ := h7.at _ h1
      cases rxs with
      | cons r0 rr =>
        cases rr
        cases r0
        have hz : (LINE : Int) < 2 ^ 63 := by decide
        exact ⟨_, mt_popAt, p, vs, j, j.toNat, w, rfl, rfl, h6, by omega, by omega, by rw [← h7.len]; exact seqIx hl.1 hl.2.1, h8, hq.put hr h0 h5 (show RO W ι H (.lst (ys.eraseIdx j.toNat)) (.lst (vs.eraseIdx j.toNat)) from h7.del _) h9⟩
    · cases hg
  · cases hg
def gPop (ys xs : List Val) : Option (Val × List Val) := match xs with
  | [] => (ys[ys.length - 1]?).map fun y => (y, ys.dropLast)
  | _ => none
theorem RVs.dropLast : ∀ {xs : List Val} {vs : List V}, RVs W.K ι H xs vs → RVs W.K ι H xs.dropLast vs.dropLast := fun {xs vs} h => by
  rw [List.dropLast_eq_take, List.dropLast_eq_take, h.len]
  exact h.take _
theorem mt_popF : MtR X "list.pop" (rm W (onL gPop)) := mtBy fun x xs H Q ⟨ι, st, a, as, v, st', rx, rxs, hr, hf, hq⟩ => by
  obtain ⟨i, p, ys, vs, zs, rfl, h0, h5, h6, h7, hg, rfl⟩ := onL_of hr rx hf
  unfold gPop at hg
  split at hg
  · obtain ⟨y, h1, h2⟩ := Option.map_eq_some_iff.mp hg
    cases h2
    obtain ⟨w, h8, h9⟩ := h7.at _ h1
    cases rxs
    exact ⟨_, mt_pop, p, vs, w, rfl, rfl, h6, by rw [← h7.len]; exact h8, hq.put hr h0 h5 (show RO W ι H (.lst ys.dropLast) (.lst vs.dropLast) from h7.dropLast) h9⟩
  · cases hg
def gInsert (ys xs : List Val) : Option (Val × List Val) := match xs with
  | [.int i, x] => if ys.length < LINE ∧ 0 ≤ i ∧ i < 2 ^ 63 then some (.non, ys.take i.toNat ++ [x] ++ ys.drop i.toNat) else none
  | _ => none
theorem mt_insertF : MtR X "list.insert" (rm W (onL gInsert)) := mtBy fun x xs H Q ⟨ι, st, a, as, v, st', rx, rxs, hr, hf, hq⟩ => by
  obtain ⟨i, p, ys, vs, zs, rfl, h0, h5, h6, h7, hg, rfl⟩ := onL_of hr rx hf
  unfold gInsert at hg
  split at hg
  · rename_i j y
    split at hg
    · rename_i hl
      cases hg
      cases rxs with
      | cons r0 rr =>
        cases r0
        cases rr with
        | @cons _ w _ _ r1 r2 =>
          cases r2
          exact ⟨_, mt_insert, p, vs, j, w, rfl, rfl, h6, by rw [← h7.len, ← line_eq]; exact hl.1, hl.2.1, hl.2.2, hq.put hr h0 h5 (show RO W ι H (.lst (ys.take j.toNat ++ [y] ++ ys.drop j.toNat)) (.lst (vs.take j.toNat ++ [w] ++ vs.drop j.toNat)) from ((h7.take _).app (.cons r1 .nil)).app (h7.drop _)) .non⟩
    · cases hg
  · cases hg
/-- sep.join(xs) -/
def jn (sep : List Nat) : List (List Nat) → List Nat
  | [] => []
  | p :: ps => ps.foldl (fun acc q => acc ++ sep ++ q) p
def strsOf : List Val → Option (List (List Nat))
  | [] => some []
  | .str s :: xs => match strsOf xs with
    | some ss => some (s :: ss)
    | none => none
  | _ => none
theorem strsOf_map : ∀ {xs : List Val} {ss : List (List Nat)}, strsOf xs = some ss → xs = ss.map Val.str
  | [], ss, h => by cases h; rfl
  | x :: xs, ss, h => by
    cases x with
    | str s =>
      have h2 : (match strsOf xs with | some ss => some (s :: ss) | none => none) = some ss := h
      split at h2
      · rename_i d h3
        cases h2
        rw [strsOf_map h3]
        rfl
      · cases h2
    | _ => cases h
def fJoin : Val → ON := fun x xs st => match x, xs with
  | .str sep, [.ref p] => match st[p]? with
    | some (.lst ys) => (match strsOf ys with
      | some ss => if (ss.map (·.length)).sum + ss.length * sep.length ≤ LINE then some (.str (jn sep ss), st) else none
      | none => none)
    | _ => none
  | .str sep, [.tup ys] => (match strsOf ys with
      | some ss => if (ss.map (·.length)).sum + ss.length * sep.length ≤ LINE then some (.str (jn sep ss), st) else none
      | none => none)
  | _, _ => none
theorem jn_fold (sep : List Nat) : ∀ (ps : List (List Nat)) (acc : List Nat), ((ps.map St').foldl (fun acc p => acc ++ (St' sep).cps ++ p.cps) acc.toArray) = (ps.foldl (fun acc q => acc ++ sep ++ q) acc).toArray
  | [], acc => rfl
  | p :: ps, acc => by
    rw [List.map_cons, List.foldl_cons, List.foldl_cons, ← jn_fold sep ps]
    congr 1
    simp
theorem jn_join (sep : List Nat) (ps : List (List Nat)) : Txt.join (St' sep) (ps.map St') = St' (jn sep ps) := by
  cases ps with
  | nil => rfl
  | cons p ps =>
    show Str.mk _ = _
    have := jn_fold sep ps p
    exact congrArg Str.mk this
theorem mt_joinF (C : Ctx0 W k X Ew) : MtR X "str.join" (rm W fJoin) := mtBy fun x xs H Q ⟨ι, st, a, as, v, st', rx, rxs, hr, hf, hq⟩ => by
  unfold fJoin at hf
  split at hf
  · rename_i sep i
    split at hf
    · rename_i ys h5
      split at hf
      · rename_i ss h1
        split at hf
        · rename_i hl
          cases hf
          cases rx
          cases rxs with
          | cons r0 rr =>
            cases rr
            cases r0 with
            | @ref j p h0 =>
              obtain ⟨vs, h6, h7⟩ := hr.lst h5 h0
              rw [strsOf_map h1] at h7
              rw [RVs.ofStrs ss h7] at h6
              refine ⟨_, mt_join, _, p, ss.map St', rfl, rfl, .inl (SqL.of h6), ?_, by rw [jn_join]; exact hq.here hr (.str _)⟩
              rw [List.map_map, st_len, List.length_map]
              have e : (ss.map ((fun x => x.length) ∘ St')) = ss.map (·.length) := List.map_congr_left fun x _ => st_len x
              rw [e]
              exact hl
        · cases hf
      · cases hf
    · cases hf
  · rename_i sep ys
    split at hf
    · rename_i ss h1
      split at hf
      · rename_i hl
        cases hf
        cases rx
        cases rxs with
        | cons r0 rr =>
          cases rr
          cases r0 with
          | @tup p vs xs sx rxs =>
            rw [strsOf_map h1] at rxs
            rw [RVs.ofStrs ss rxs] at sx
            refine ⟨_, mt_join, _, p, ss.map St', rfl, rfl, .inr (by rw [C.eK]; exact sx), ?_, by rw [jn_join]; exact hq.here hr (.str _)⟩
            rw [List.map_map, st_len, List.length_map]
            have e : (ss.map ((fun x => x.length) ∘ St')) = ss.map (·.length) := List.map_congr_left fun x _ => st_len x
            rw [e]
            exact hl
      · cases hf
    · cases hf
  · cases hf

/-! ### xs[i] = v -/
def fSetI : O3 := fun o i v st => match o with
  | .ref p => match st[p]? with
    | some (.lst xs) => (match i with
      | .int j => (ixN xs.length j).map fun n => st.set p (.lst (xs.set n v))
      | _ => none)
    | some (.dic kvs) => (keyOf i).bind fun k => if kvs.length < LINE then some (st.set p (.dic (setK kvs k v))) else none
    | _ => none
  | _ => none
theorem set_F (C : Ctx0 W k X Ew) : PSet X (rset W fSetI) := fun pins s σ H o i v ov iv u Q I ro ri rv h => by
  obtain ⟨ι, st, x, y, z, st', rx, ry, rz, hr, hf, hq⟩ := h
  unfold fSetI at hf
  split at hf
  · rename_i n
    split at hf
    · rename_i xs h5
      refine set_list pins s σ H o i v ov iv u Q I ro ri rv ?_
      split at hf
      case h_2 => cases hf
      rename_i j
      obtain ⟨m, h1, h2⟩ := Option.map_eq_some_iff.mp hf
      cases h2
      cases rx with
      | @ref n p h0 =>
        cases ry
        obtain ⟨vs, h6, h7⟩ := hr.lst h5 h0
        exact ⟨p, vs, j, m, rfl, rfl, h6, by rw [← h7.len]; exact h1, hq ι _ (Ext.put hr h0 h5) (hr.put h0 h5 (show RO W ι H (.lst (xs.set m z)) (.lst (vs.set m v)) from RVs.set rz m h7))⟩
    · rename_i kvs h5
      obtain ⟨k, h1, h2⟩ := Option.bind_eq_some_iff.mp hf
      split at h2
      case isFalse => cases h2
      rename_i hl
      cases h2
      cases rx with
      | @ref n p h0 =>
        obtain ⟨ms, h6, h7⟩ := hr.dic h5 h0
        have e := keyOf_V h1 ry
        subst e
        refine set_dict C.hu1 pins s σ H _ _ v ov iv u Q I ro ri rv ⟨p, _, rfl, DPut.k h6 ?_, ?_⟩
        · have := DP.len h7
          rw [← this, ← line_eq]
          exact hl
        · exact hq ι _ (Ext.put hr h0 h5) (hr.put h0 h5 (show RO W ι H (.dic (setK kvs k z)) (.dK (putK ms k v)) from DP.put h7 k rz))
    · cases hf
  · cases hf

/-! ### what is walked -/
def asIt (st : Sto) : Val → Option Itb
  | .tup xs => some ⟨xs, .none⟩
  | .str s => some ⟨s.map fun c => .str [c], .none⟩
  | .scr ns => some ⟨ns.map .int, .none⟩
  | .ref p => match st[p]? with
    | some (.lst xs) => some ⟨xs, .some p⟩
    | _ => none
  | _ => none
def fIt (m : FE) : FI := bnd m fun x => fun _ st => (asIt st x).map fun b => .ok b st
end
end FL
/-! FL7: what is walked; a slice stored. -/
namespace FL
open PySem PySem.Spec PyProof.Rows L2

section
variable {W : Wd} {k : Nat} {X : Cx} {Ew : WX} {ι ι' : List Addr} {H H' : Hp} {st : Sto} {a b c e : Expr} {es : List Expr} {ma mb me : FE} {mt mu : FT} {mas : FA} {pos : Pos} {tg : Expr}

/-! ### tuples, lists, texts walked -/
/-- any of the three, by its value -/
def iAny (K : PySem.W.Frag) (t : TE) : TI := fun σ H R => t σ H fun x H1 => (∃ p, x = .ref p ∧ (∃ xs, SqL K H1 p xs) ∧ R (Itl K p) H1) ∨ (∃ p, x = .ref p ∧ (∃ xs, SqT K H1 p xs) ∧ R (Itt K p) H1) ∨ ∃ z, x = .str z ∧ R (Its z) H1
theorem pi_any {l : Expr} {t : TE} (hl : PE X l t) : PI X tg l (iAny X.K t) := by
  refine ⟨fun pins s σ H R I h => thn (hl.run pins s σ H _ I h) ?_⟩
  rintro v s1 ⟨x, H1, I1, r1, ⟨p, rfl, ⟨xs, hx⟩, q⟩ | ⟨p, rfl, ⟨xs, hx⟩, q⟩ | ⟨z, rfl, q⟩⟩
  · cases r1; obtain ⟨its, _, pl, _⟩ := I1.list hx
    exact wpAny_pyIter_list pl.isList (pi_one (tk := s1.toks) I1 _ (turn_list p _) ⟨_, Heap.get?_push_size _ rfl, rfl, rfl⟩ q)
  · cases r1; obtain ⟨its, _, pl, _⟩ := I1.tuple hx
    exact wpAny_pyIter_tuple (show s1.heap.IsTuple p its.toArray from pl) (pi_one (tk := s1.toks) I1 _ (turn_tuple p _) ⟨_, Heap.get?_push_size _ rfl, rfl, rfl⟩ q)
  · obtain ⟨t, rfl⟩ := r1
    cases hz : z.cps.all (· < 128) with
    | false => exact wpAny_pyIter_wide hz (pi_one (tk := s1.toks) I1 _ (turn_str _ z t "str_iterator" (.inr rfl)) ⟨_, Heap.get?_push_size _ rfl, rfl, rfl⟩ q)
    | true => exact wpAny_pyIter_ascii hz (pi_one (tk := s1.toks) I1 _ (turn_str _ z t "str_ascii_iterator" (.inl rfl)) ⟨_, Heap.get?_push_size _ rfl, rfl, rfl⟩ q)
theorem ok_tup {p : Addr} {vs : List V} {xs : List Val} (sx : SqT W.K H p vs) (rxs : RVs W.K ι H xs vs) : ItOk W ι H ⟨xs, .none⟩ (Itt W.K p) := fun ι' H' st i e r _ => by
  refine ⟨fun x hx => ?_, fun hi => ⟨vs, e.sqT sx, by rw [← rxs.len]; exact hi⟩⟩
  obtain ⟨v, h1, h2⟩ := rxs.at i hx
  refine ⟨⟨vs, v, e.sqT sx, h1⟩, fun y H2 ⟨hH, hy⟩ => ?_⟩
  subst hH
  have := hy vs (e.sqT sx)
  rw [h1] at this
  cases this
  exact ⟨Ext.refl _ _, r, h2.mono0 e⟩
theorem ok_str (s : List Nat) : ItOk W ι H ⟨s.map fun c => .str [c], .none⟩ (Its (St' s)) := fun ι' H' st i e r _ => by
  refine ⟨fun x hx => ?_, fun hi => by
    show s.toArray.size ≤ i
    simpa using hi⟩
  have hx2 : (s.map fun c => Val.str [c])[i]? = some x := hx
  rw [List.getElem?_map] at hx2
  obtain ⟨c, h1, rfl⟩ := Option.map_eq_some_iff.mp hx2
  have hi := (List.getElem?_eq_some_iff.mp h1).1
  refine ⟨by show i < s.toArray.size; simpa using hi, fun y H2 ⟨hH, c', h3, h4⟩ => ?_⟩
  subst hH h4
  have h5 : s.toArray[i]? = some c' := h3
  rw [List.getElem?_toArray, h1] at h5
  cases h5
  exact ⟨Ext.refl _ _, r, .str [c]⟩
theorem ok_lst {j : Nat} {p : Addr} {xs : List Val} (h0 : ι[j]? = some p) : ItOk W ι H ⟨xs, .some j⟩ (Itl W.K p) := fun ι' H' st i e r lv => by
  have lv2 : st[j]? = some (.lst xs) := lv
  obtain ⟨vs, h1, h2⟩ := r.lst lv2 (e.pre _ _ h0)
  refine ⟨fun x hx => ?_, fun hi => ⟨vs, SqL.of h1, by rw [← h2.len]; exact hi⟩⟩
  obtain ⟨v, h3, h4⟩ := h2.at i hx
  refine ⟨⟨vs, v, SqL.of h1, h3⟩, fun y H2 ⟨hH, hy⟩ => ?_⟩
  subst hH
  have := hy vs (SqL.of h1)
  rw [h3] at this
  cases this
  exact ⟨Ext.refl _ _, r, h4⟩
theorem ok_scr {p : Addr} {ns : List Int} (h0 : SqZ W.K H p (ns.map V.int)) : ItOk W ι H ⟨ns.map .int, .none⟩ (Itl W.K p) := fun ι' H' st i e r _ => by
  have h1 := e.sqZ h0
  refine ⟨fun x hx => ?_, fun hi => ⟨_, h1.sq, by rw [List.length_map]; simpa using hi⟩⟩
  have hx2 : (ns.map Val.int)[i]? = some x := hx
  rw [List.getElem?_map] at hx2
  obtain ⟨n, h2, rfl⟩ := Option.map_eq_some_iff.mp hx2
  have h3 : (ns.map V.int)[i]? = some (.int n) := by
    rw [List.getElem?_map, h2]
    rfl
  refine ⟨⟨_, _, h1.sq, h3⟩, fun y H2 ⟨hH, hy⟩ => ?_⟩
  subst hH
  have := hy _ h1.sq
  rw [h3] at this
  cases this
  exact ⟨Ext.refl _ _, r, .int n⟩
theorem si_any (C : Ctx0 W k X Ew) (ha : SE W X Ew a ma) : SI W X Ew tg a (fIt ma) :=
  imI (pi_any ha) fun σ H Q ⟨ι, sl, st, r, hs, hr, hm, hq⟩ => run hs hr hm hq fun x st1 ι1 H1 vx e1 s1 r1 rx hm1 hq1 => by
    have hm2 : (asIt st1 x).map (fun b => R.ok b st1) = some r := hm1
    obtain ⟨b, h1, rfl⟩ := Option.map_eq_some_iff.mp hm2
    rw [C.eK]
    cases rx with
    | @tup p vs xs sx rxs =>
      cases h1
      exact .inr (.inl ⟨p, rfl, ⟨vs, sx⟩, hq1 ι1 H1 _ (Ext.refl _ _) r1 (ok_tup sx rxs)⟩)
    | str s =>
      cases h1
      exact .inr (.inr ⟨_, rfl, hq1 ι1 H1 _ (Ext.refl _ _) r1 (ok_str s)⟩)
    | @scr p ns h0 =>
      cases h1
      exact .inl ⟨p, rfl, ⟨_, h0.sq⟩, hq1 ι1 H1 _ (Ext.refl _ _) r1 (ok_scr h0)⟩
    | @ref j p h0 =>
      have h2 : (match st1[j]? with | some (.lst xs) => some (Itb.mk xs (.some j)) | _ => none) = some b := h1
      split at h2
      · rename_i xs h5
        cases h2
        obtain ⟨vs, h6, _⟩ := r1.lst h5 h0
        exact .inl ⟨p, rfl, ⟨vs, SqL.of h6⟩, hq1 ι1 H1 _ (Ext.refl _ _) r1 (ok_lst h0)⟩
      · cases h2
    | _ => cases h1

/-! ### range -/
def rngL (lo : Int) (n : Nat) : List Val := (List.range n).map fun i => Val.int (lo + (i : Nat))
theorem ok_rng (lo : Int) (n : Nat) : ItOk W ι H ⟨rngL lo n, .none⟩ (Itr lo n) := fun ι' H' st i e r _ => by
  refine ⟨fun x hx => ?_, fun hi => by
    have h1 : (rngL lo n).length ≤ i := hi
    unfold rngL at h1
    rw [List.length_map, List.length_range] at h1
    exact h1⟩
  have hx2 : (rngL lo n)[i]? = some x := hx
  unfold rngL at hx2
  rw [List.getElem?_map] at hx2
  obtain ⟨j, h1, rfl⟩ := Option.map_eq_some_iff.mp hx2
  have hi := (List.getElem?_eq_some_iff.mp h1).1
  rw [List.length_range] at hi
  rw [List.getElem?_range hi] at h1
  cases h1
  refine ⟨hi, fun y H2 ⟨hH, hy⟩ => ?_⟩
  subst hH hy
  exact ⟨Ext.refl _ _, r, .int _⟩
def small62 (j : Int) : Prop := -(2 ^ 62) ≤ j ∧ j < 2 ^ 62
instance (j : Int) : Decidable (small62 j) := by unfold small62; exact inferInstance
def fRng1 (m : FA) : FI := bnd m fun xs => fun _ st => match xs with
  | [.int j] => if small62 j then some (.ok ⟨rngL 0 j.toNat, .none⟩ st) else none
  | _ => none
theorem si_rng1 {p : Pos} (C : Ctx0 W k X Ew) (hm : W.mg "range" = none) (ha : SA W X Ew [a] mas) (hg : Gl X "range" := by rfl) (hs : starEach [a] X.env = [(false, eval a X.env)] := by rfl) : SI W X Ew tg (.Call (.Name "range" p) [a] [] pos) (fRng1 mas) :=
  imI (pi_range1 hg (by rw [C.em]; exact hm) ha hs) fun σ H Q ⟨ι, sl, st, r, hs, hr, hm, hq⟩ => run hs hr hm hq fun x st1 ι1 H1 vx e1 s1 r1 rx hm1 hq1 => by
    split at hm1
    · rename_i j
      split at hm1
      · rename_i hj
        cases hm1
        cases rx with
        | cons r0 rr =>
          cases rr
          cases r0
          exact ⟨j, rfl, hj.1, hj.2, hq1 ι1 H1 _ (Ext.refl _ _) r1 (ok_rng 0 _)⟩
      · cases hm1
    · cases hm1
def fRng2 (m : FA) : FI := bnd m fun xs => fun _ st => match xs with
  | [.int i, .int j] => if small62 i ∧ small62 j then some (.ok ⟨rngL i (j - i).toNat, .none⟩ st) else none
  | _ => none
theorem si_rng2 {p : Pos} (C : Ctx0 W k X Ew) (hm : W.mg "range" = none) (ha : SA W X Ew [a, b] mas) (hg : Gl X "range" := by rfl) (hs : starEach [a, b] X.env = [(false, eval a X.env), (false, eval b X.env)] := by rfl) (hs2 : starEach [b] X.env = [(false, eval b X.env)] := by rfl) : SI W X Ew tg (.Call (.Name "range" p) [a, b] [] pos) (fRng2 mas) :=
  imI (pi_range2 hg (by rw [C.em]; exact hm) ha hs hs2) fun σ H Q ⟨ι, sl, st, r, hs, hr, hm, hq⟩ => run hs hr hm hq fun x st1 ι1 H1 vx e1 s1 r1 rx hm1 hq1 => by
    split at hm1
    · rename_i i j
      split at hm1
      · rename_i hj
        cases hm1
        cases rx with
        | cons r0 rr =>
          cases rr with
          | cons r2 rr =>
            cases rr
            cases r0
            cases r2
            exact ⟨i, j, rfl, ⟨hj.1.1, hj.1.2, hj.2.1, hj.2.2⟩, hq1 ι1 H1 _ (Ext.refl _ _) r1 (ok_rng i _)⟩
      · cases hm1
    · cases hm1

/-! ### xs[i:j] = ys, of another list -/
theorem bounds2 {i c n : Nat} (hi : i ≤ n) (hc : i ≤ c) : sliceBounds (some (i : Int)) (some (c : Int)) none n = ((i : Int), ((min c n : Nat) : Int), 1) := by
  simp only [sliceBounds, Option.getD_none]
  have h1 : ¬ ((i : Int) < 0) := by omega
  have h2 : ¬ ((c : Int) < 0) := by omega
  simp only [h1, h2, if_false, show (1 : Int) > 0 by decide, if_true]
  congr 1
  · omega
  · congr 1; omega
theorem setSlice {prog : Program} {w : World} {A : Around} {E : Value → Shared → Prop} {s : Shared} {l b sl : Addr} {items new : Array Value} {n n2 : Nat} {vl vu : Value} {i c : Nat} {Q : Unit → Shared → Prop}
    (g : s.heap.get? l = some { cls := .type "list", data := .seq items n }) (g2 : s.heap.get? b = some { cls := .type "list", data := .seq new n2 }) (nb : l ≠ b) (so : s.heap.IsSliceOf sl vl vu .none) (pl : IsPart vl (some (i : Int))) (pu : IsPart vu (some (c : Int)))
    (hi : i ≤ items.size) (hc : i ≤ c) (hsz : items.size + new.size ≤ sizeLine) (q : Q () { s with heap := s.heap.update l (Obj.mapSeq fun xs => xs.extract 0 i ++ new ++ xs.extract (min c items.size) xs.size) }) :
    wpAny (model prog w) A (setItem (.ref l) (.ref sl) (.ref b)) Q E s := by
  have Ll : s.heap.IsList l items := PySem.IsL.isList g; have Lb : s.heap.IsList b new := PySem.IsL.isList g2
  obtain ⟨os, hos, hcs, hds⟩ := id so
  have Ts : s.TypeIs (.ref sl) "slice" := ⟨os, hos, hcs⟩
  have st0 : ¬ ((rawPart none == rawInt 0) = true) := Bool.false_ne_true
  have ns : Builtin.List.listSameRef (.ref l) (.ref b) = false := by unfold Builtin.List.listSameRef; exact beq_eq_false_iff_ne.mpr nb
  have mx : (max (i : Int) ((min c items.size : Nat) : Int)).toNat = min c items.size := by omega
  have z1 : ((fun xs : Array Value => xs.extract 0 i ++ new ++ xs.extract (min c items.size) xs.size) items).size ≤ sizeLine + 1 := by simp only [Array.size_append, Array.size_extract]; omega
  unfold setItem
  try with_reducible refine wpAny_holding ?_
  first | (refine wpAny_bind (wpAny_pure ?_)) | skip
  refine wpAny_bind (wpAny_sequenceKey Ll.typeIs (by decide) (wpAny_bind (wpAny_callSpecial?_slot (name := Str.ofString "__setitem__") Ll.typeIs slot_list_setitem (wpAny_call_entry slot_list_setitem Ll.typeIs entry_list_setitem ?_ (args_list_setitem _ _ _)))))
  show wpAny _ _ (Builtin.List.listSubscript? (.ref sl) >>= _) _ _ s; refine wpAny_bind ?_
  unfold Builtin.List.listSubscript?; refine wpAny_bind (wpAny_specialOf Ts slice_no_index ?_); simp only [Option.isNone_none, if_true]; refine wpAny_pure ?_
  show wpAny _ _ (typeOf (.ref sl) >>= _) _ _ s; refine wpAny_bind (wpAny_typeOf Ts ?_)
  first | (rw [if_neg (by decide)]) | (refine PySem.W.KFB.if_not (by decide) ?_)
  rw [listSliceParts_eq]; refine wpAny_bind (wpAny_bind (wpAny_field hos hds (x := .none) rfl (wpAny_bind (wpAny_listPart .none ?_)))); rw [if_neg st0]
  refine wpAny_bind (wpAny_field hos hds (x := vl) rfl (wpAny_bind (wpAny_listPart pl (wpAny_bind (wpAny_field hos hds (x := vu) rfl (wpAny_bind (wpAny_listPart pu (wpAny_pure ?_))))))))
  first | (simp only [ns, Bool.false_eq_true, if_false]) | (refine PySem.W.KFB.if_not ns ?_) | (dsimp only; rw [if_neg (by rw [ns]; exact Bool.false_ne_true)])
  refine wpAny_bind (m := Builtin.List.listAllItems (.ref b) "must assign iterable to extended slice") ?_; unfold Builtin.List.listAllItems; refine wpAny_bind (wpAny_typeOf Lb.typeIs ?_)
  first | (refine PySem.W.KFB.if_so (by decide) ?_) | (rw [if_pos (by decide)]) | (simp only [beq_self_eq_true, Bool.true_or, if_true])
  unfold Builtin.List.listItems; refine wpAny_bind (wpAny_seqItems g2 rfl (wpAny_pure (wpAny_bind (wpAny_bind (wpAny_seqItems g rfl (wpAny_pure ?_))))))
  refine wpAny_bind (wpAny_of_eq ((sliceIndices_raw (some (i : Int)) (some (c : Int)) none items.size (by simp)).trans (congrArg (pure : Int × Int × Int → Sem (Int × Int × Int)) (bounds2 hi hc))) ?_)
  show wpAny _ _ (if ((1 : Int) == 1) = true then _ else _) _ _ s; rw [if_pos (by decide)]; refine wpAny_bind (wpAny_rule ?_)
  first | (simp only [notLongL hsz, Bool.false_eq_true, if_false]) | (refine PySem.W.KFB.if_not (notLongL hsz) ?_)
  first | (refine wpAny_bind (wpAny_pure ?_)) | skip
  show wpAny _ _ (updateSeq l (fun xs => xs.extract 0 ((i : Int)).toNat ++ new ++ xs.extract (max (i : Int) ((min c items.size : Nat) : Int)).toNat xs.size) >>= _) _ _ s
  rw [mx, Int.toNat_natCast]; refine wpAny_bind (wpAny_updateSeq (hz := Nat.le_trans (Nat.le_add_right _ _) hsz) (_hz' := z1) g rfl (wpAny_bind (wpAny_letGo ?_)))
  first | (exact wpAny_bind (wpAny_pure (wpAny_pure ⟨.none, rfl, wpAny_pure q⟩))) | (exact wpAny_pure ⟨.none, rfl, wpAny_pure q⟩)
/-- what stands where -/
def tSlc (mo : TE) (tl th : TO) : TG := fun v σ H Q => mo σ H fun x H1 => tl σ H1 fun lo H2 => th σ H2 fun hi H3 => ∃ l b xs ys i c, x = .ref l ∧ v = .ref b ∧ lo = some i ∧ hi = some c ∧ H3 l = some (.lst xs) ∧ H3 b = some (.lst ys) ∧ l ≠ b ∧ 0 ≤ i ∧ i ≤ c ∧ i ≤ xs.length ∧
  xs.length + ys.length ≤ sizeLine ∧ Q σ (upd H3 l (.lst (xs.take i.toNat ++ ys ++ xs.drop (min c.toNat xs.length))))
theorem pg_slc {o : Expr} {lo hi : Option Expr} {mo : TE} {tl th : TO} {p2 : Pos} (ho : PE X o mo) (hl : PO X lo tl) (hh : PO X hi th)
    (ha : ∀ v, assign (.Subscript o (.Slice lo hi none p2) pos) X.env v = (do let ov ← holding [v] (eval o X.env); let iv ← holding [v, ov] (eval (.Slice lo hi none p2) X.env); standAt pos; holding [v, ov, iv] (setItem ov iv v); release [iv, v, ov] []) := by intro _; rfl) : PG X (.Subscript o (.Slice lo hi none p2) pos) (tSlc mo tl th) := by
  refine ⟨fun pins s σ H v u Q I r h => ?_⟩
  rw [ha]
  refine wpAny_bind (wpAny_holding (thn (ho.run pins s σ H _ I h) fun ov s1 ⟨x, H1, I1, r1, q1⟩ => ?_))
  refine wpAny_bind (wpAny_holding (wpAny_Slice (thn (hl.run pins s1 σ H1 _ I1 q1) fun vl s2 ⟨l, H2, I2, pl, q2⟩ => thn (hh.run pins s2 σ H2 _ I2 q2) fun vu s3 ⟨z, H3, I3, pu, q3⟩ => ?_)))
  rw [evalPart_none]
  refine wpAny_pure ?_
  obtain ⟨l, b, xs, ys, i, c, rfl, rfl, rfl, rfl, hx, hy, ne, hi0, hic, hil, hz, q⟩ := q3
  cases r
  cases r1
  obtain ⟨i', rfl⟩ := Int.eq_ofNat_of_zero_le hi0
  obtain ⟨c', rfl⟩ := Int.eq_ofNat_of_zero_le (Int.le_trans hi0 hic)
  have I4 : Inv X pins σ H3 { s3 with heap := s3.heap.push { cls := .type "slice", data := .fields #[vl, vu, .none] } } := I3.kept (t' := s3.toks) fun b ob q => Heap.get?_push_of_some _ q
  obtain ⟨z1, its, n, rv, hl1, e⟩ := I4.lstM hx
  obtain ⟨z2, its2, n2, rv2, hl2, e2⟩ := I4.lstM hy
  refine wpAny_bind (wpAny_standAt (wpAny_bind (wpAny_holding (setSlice e e2 ne (Heap.IsSliceOf.new ..) pl pu (by rw [List.size_toArray]; omega) (by omega) (by rw [List.size_toArray, List.size_toArray]; omega) ?_))))
  refine wpAny_release ⟨σ, _, I4.lset (its' := its.take i' ++ its2 ++ its.drop (min c' its.length)) (t' := s3.toks) hx e ?_ (Vals.append (Vals.append (rv.take _) rv2) (rv.drop _)) ?_, ?_⟩
  · have e9 : min c' its.toArray.size = min c' its.length := by rw [List.size_toArray]
    show its.toArray.extract 0 i' ++ its2.toArray ++ its.toArray.extract (min c' its.toArray.size) its.toArray.size = _
    rw [e9]
    exact splice_eq its its2 i' (min c' its.length)
  · rw [List.length_append, List.length_append, List.length_take, List.length_drop]
    omega
  · rw [hl1] at q
    simpa using q
def gSlc (mo : FE) (lo hi : FO) : FG := fun v sl st => match mo sl st with
  | some (.ok (.ref l) st1) => match lo sl st1 with
    | some (.ok (some i) st2) => match hi sl st2 with
      | some (.ok (some c) st3) => match v with
        | .ref b => match st3[l]?, st3[b]? with
          | some (.lst xs), some (.lst ys) => if l ≠ b ∧ 0 ≤ i ∧ i ≤ c ∧ i ≤ xs.length ∧ xs.length + ys.length ≤ LINE then some (sl, st3.set l (.lst (xs.take i.toNat ++ ys ++ xs.drop (min c.toNat xs.length)))) else none
          | _, _ => none
        | _ => none
      | _ => none
    | _ => none
  | _ => none
theorem sg_slc {o : Expr} {lo hi : Option Expr} {mo : FE} {ml mh : FO} {p2 : Pos} (C : Ctx0 W k X Ew) (ho : SE W X Ew o mo) (hl : SO W X Ew lo ml) (hh : SO W X Ew hi mh)
    (ha : ∀ v, assign (.Subscript o (.Slice lo hi none p2) pos) X.env v = (do let ov ← holding [v] (eval o X.env); let iv ← holding [v, ov] (eval (.Slice lo hi none p2) X.env); standAt pos; holding [v, ov, iv] (setItem ov iv v); release [iv, v, ov] []) := by intro _; rfl) : SG W X (.Subscript o (.Slice lo hi none p2) pos) (gSlc mo ml mh) :=
  imG (pg_slc ho hl hh ha) fun v σ H Q ⟨ι, sl, st, x, sl', st', hs, hr, hx, hm, hq⟩ => by
    unfold gSlc at hm
    split at hm
    case h_2 => cases hm
    rename_i l st1 h1
    refine ⟨ι, sl, st, _, hs, hr, h1, fun ι1 H1 vo e1 r1 ro => ?_⟩
    split at hm
    case h_2 => cases hm
    rename_i i st2 h2
    refine ⟨ι1, sl, st1, _, hs.mono e1, r1, h2, fun ι2 H2 vi e2 r2 ri => ?_⟩
    subst ri
    split at hm
    case h_2 => cases hm
    rename_i c st3 h3
    refine ⟨ι2, sl, st2, _, (hs.mono e1).mono e2, r2, h3, fun ι3 H3 vc e3 r3 rc => ?_⟩
    subst rc
    split at hm
    case h_2 => cases hm
    rename_i b
    split at hm
    case h_2 => cases hm
    rename_i xs ys h4 h5
    split at hm
    case isFalse => cases hm
    rename_i h6
    obtain ⟨g1, g2, g3, g4, g5⟩ := h6
    cases hm
    cases ro with
    | @ref _ p h7 =>
      cases hx with
      | @ref _ q h8 =>
        have h7' := e3.pre _ _ (e2.pre _ _ h7)
        have h8' := e3.pre _ _ (e2.pre _ _ (e1.pre _ _ h8))
        obtain ⟨vs, h9, h10⟩ := r3.lst h4 h7'
        obtain ⟨ws, h11, h12⟩ := r3.lst h5 h8'
        refine ⟨p, q, vs, ws, i, c, rfl, rfl, rfl, rfl, h9, h11, fun z => g1 (r3.nd _ _ p h7' (z ▸ h8')), g2, g3, by rw [← h10.len]; exact g4, by rw [← h10.len, ← h12.len]; exact sz_of g5, ?_⟩
        rw [← h10.len]
        exact hq ι3 _ σ (((e1.trans e2).trans e3).trans (Ext.put r3 h7' h4)) (r3.put h7' h4 (show RO W ι3 H3 (.lst (xs.take i.toNat ++ ys ++ xs.drop (min c.toNat xs.length))) (.lst (vs.take i.toNat ++ ws ++ vs.drop (min c.toNat xs.length))) from ((h10.take _).app h12).app (h10.drop _))) ((((hs.mono e1).mono e2).mono e3).mono (Ext.put r3 h7' h4))
end
end FL
/-! FL8: a law's end: what its def is to answer; the head by facts. -/
namespace FL
open PySem PySem.Spec PyProof.Rows L2
def spLaw (K : PySem.W.Frag) : Sp := fun vs H Q _ => ∃ (a : Addr) (ns : List Int), vs = [.ref a] ∧ SqZ K H a (ns.map V.int) ∧ ns.length ≤ 63 ∧ ∀ H', Q (.bl true) H'
theorem sp_law {W : Wd} {F : FF} (hW : W.hot = none) (hF : ∀ ns : List Int, ns.length ≤ 63 → ∃ st', F [.scr ns] [] = some (.ok (.bl true) st')) {vs : List V} {H : Hp} {Q : VK} {E : XK} (h : spLaw W.K vs H Q E) : spOf W F vs H Q E := by
  obtain ⟨a, ns, rfl, hS, hl, hq⟩ := h
  obtain ⟨st', h1⟩ := hF ns hl
  refine ⟨[], [], [.scr ns], _, .cons (.scr hS) .nil, ⟨rfl, fun i j a h => by simp at h, fun i a o h => by simp at h, fun p h => by rw [hW] at h; cases h⟩, h1, ?_⟩
  intro ι' H' b _ _ hb
  cases hb
  exact hq H'
theorem sqZ_of {K : PySem.W.Frag} {H : Hp} {a : Addr} {xs : List V} (hO : Only H) (hS : SqL K H a xs) : SqZ K H a xs := by
  rcases hS with (h | ⟨o, h⟩) | h
  · rcases hO a with e | ⟨o, ys, e⟩ <;> rw [e] at h <;> cases h
  · exact .inl ⟨o, h⟩
  · exact .inr fun H0 => .inr h
theorem end_of {l : PySem.W.OpenLaw} {k : Nat} {q : Program} {loose : List Str} {XP : (Str → Option Value) → Heap → Prop} {YP : World → Heap → Prop} {d : DefRec} (hn : l.most = some 63) (hdf : d.params.defaults = []) (hr : Room k callerA)
    (F : ∀ (w : World) (mg : Str → Option Value) (fa : Addr) (h : Heap), YP w h → h.Ns mainGlobals mg → mg d.name = some (.ref fa) → ∃ (K : PySem.W.Frag) (fd : FuncData), K.In h ∧ (∀ (s : Shared) (u : Value), BindsTo s fd ⟨[u], []⟩ [("script", u)]) ∧
      ∀ base : Heap, K.In base → base.Ns mainGlobals mg → FnOk l.prog w K mg base (L2N.CX l.prog w) k fa fd ["script"] (spLaw K)) : PySem.W.WalkO q loose XP YP l.row.toRowW d [] (fun f vs => PySem.call f vs) :=
  Att.attach_call hn hdf fun w s₀ s₁ mg mb fa o pm cd doc a vs ns G Y ho hd hcd hmg hobj hints hlen hg => by
    obtain ⟨K, fd, h1, h2, h3⟩ := F w mg fa _ Y G.T.g hmg
    have h4 : ns.length ≤ sizeLine := Nat.le_trans hlen (by decide)
    exact law_call h1 G.T.g G.T.b G.T.builtins G.T.nolimit hg hobj hints h4 hr h3 h2 (fun H hO hS => ⟨a, ns, rfl, sqZ_of hO hS, hlen, fun _ => rfl⟩) fun H e s' ⟨_, _, _, _, _, _, _, _, _, _, _, _, z⟩ => z
/-! ### a head's facts, and more -/
def kwdAt (f : Str × Option Str) (x : Str) (K : PySem.W.Frag) : Addr := match K.lookup (He.fAd K f) with
  | some ⟨_, _, .func fd, _⟩ => (match fd.kwdefaults with
    | .ref D => (match PySem.W.nsIn K D x with
      | some (some (.ref a)) => a
      | _ => 0)
    | _ => 0)
  | _ => 0
/-- keyword-only defaults of the def at f -/
def kwdOk (f : Str × Option Str) (kws : List (Str × He.Dv)) (K : PySem.W.Frag) : Bool := match K.lookup (He.fAd K f) with
  | some ⟨_, _, .func fd, _⟩ => He.kwdB K fd.kwdefaults (kws.map fun q => (q.1, q.2.v K))
  | _ => false
/-- an empty tuple -/
def tup0 (a : PySem.W.Frag → Addr) (K : PySem.W.Frag) : Bool := match K.lookup (a K) with
  | some ⟨.type c, _, .seq its _, _⟩ => decide (c = "tuple") && decide (its.size = 0)
  | _ => false
theorem tup0_ok {a : PySem.W.Frag → Addr} {K : PySem.W.Frag} (h : tup0 a K = true) (H : Hp) : SqT K H (a K) [] := by
  unfold tup0 at h
  cases q : K.lookup (a K) with
  | none => rw [q] at h; cases h
  | some o =>
    obtain ⟨oc, od, dt, osl⟩ := o
    rw [q] at h
    cases oc with
    | type c =>
      cases dt with
      | seq its n =>
        obtain ⟨h1, h2⟩ := He.ba (show (decide (c = "tuple") && decide (its.size = 0)) = true from h)
        have h3 : its.size = 0 := of_decide_eq_true h2
        refine .inr ⟨_, its, n, q, congrArg Value.type (of_decide_eq_true h1), rfl, by rw [h3]; exact Nat.zero_le _, ?_⟩
        have : its.toList = [] := by
          apply List.eq_nil_of_length_eq_zero
          simpa using h3
        rw [this]
        exact .nil
      | _ => cases h
    | _ => cases dt <;> cases h
def obsF (fa : List He.Fa) (fn : List He.FnD) (ex : List (PySem.W.Frag → Bool)) (K : PySem.W.Frag) : Bool × He.Al := (ex.all fun e => e K, He.obsE fa fn K)
def SaysF (fa : List He.Fa) (fn : List He.FnD) (ex : List (PySem.W.Frag → Bool)) (K : PySem.W.Frag) : Prop := obsF fa fn ex K = (true, He.valE fn)
def obsFG (n : Nat) (fa : List He.Fa) (fn : List He.FnD) (ex : List (PySem.W.Frag → Bool)) (g : Addr → Option Obj) : Bool × He.Al := obsF fa fn ex (He.frG g (He.asD g n))
def hookF (n : Nat) (fa : List He.Fa) (fn : List He.FnD) (ex : List (PySem.W.Frag → Bool)) : PySem.W.Hook where
  α := Bool × He.Al
  obs := fun s => obsFG n fa fn ex s.heap.get?
  val := fun _ => (true, He.valE fn)
  says := fun _ h => ∃ K : PySem.W.Frag, K.In h ∧ SaysF fa fn ex K
  of := fun _ _ e => ⟨_, He.frG_in, e⟩
  keeps := fun _ _ _ ⟨K, hK, c⟩ k => ⟨K, PySem.W.Frag.In.keeps hK k, c⟩
theorem obsFG_eq {n : Nat} {fa : List He.Fa} {fn : List He.FnD} {ex : List (PySem.W.Frag → Bool)} {g : Addr → Option Obj} {s : Shared} (h : ∀ a, g a = s.heap.get? a) : obsFG n fa fn ex g = (hookF n fa fn ex).obs s := by
  have e : g = s.heap.get? := funext h
  rw [e] <;> rfl
section
variable {fa : List He.Fa} {fn : List He.FnD} {ex : List (PySem.W.Frag → Bool)} {K : PySem.W.Frag}
theorem SaysF.e (c : SaysF fa fn ex K) : He.SaysE fa fn K := congrArg (fun z : Bool × He.Al => z.2) c
theorem SaysF.fact (c : SaysF fa fn ex K) (i : Nat) {f : He.Fa} (h : fa[i]? = some f := by rfl) : f.ok K = true := c.e.fact i h
theorem SaysF.more (c : SaysF fa fn ex K) (i : Nat) {f : PySem.W.Frag → Bool} (h : ex[i]? = some f := by rfl) : f K = true := by
  have c1 : (ex.all fun e => e K) = true := congrArg (fun z : Bool × He.Al => z.1) c
  exact List.all_eq_true.mp c1 f (List.mem_of_getElem? h)
theorem SaysF.def_ (c : SaysF fa fn ex K) (i : Nat) {d : He.FnD} (h : fn[i]? = some d := by rfl) :
    ∃ oc od osl kV doc pm an cdv ct, K.lookup (He.fAd K d.at_) = some ⟨oc, od, .func (PySem.W.fnOf d.name d.qual d.params d.body d.scope .none kV doc pm an cdv ct), osl⟩ ∧ PySem.W.codeIn K cdv d.qual = true := c.e.def_ i h
end
end FL
/-! FL9: sorted pairs, the greatest of a list, zip, what is never reached. -/
namespace FL
open PySem PySem.Spec PyProof.Rows L2
section
variable {W : Wd} {k : Nat} {X : Cx} {Ew : WX} {ι ι' : List Addr} {H H' : Hp} {st : Sto} {a b e : Expr} {es : List Expr} {ma mb me : FE} {mt mu : FT} {mas : FA} {pos : Pos} {tg : Expr}
/-! ### sorted(pairs) -/
def prOf : Val → Option (Int × Int)
  | .tup [.int i, .int j] => some (i, j)
  | _ => none
def ofPr (p : Int × Int) : Val := .tup [.int p.1, .int p.2]
def prLe (p q : Int × Int) : Bool := decide (p.1 < q.1 ∨ p.1 = q.1 ∧ p.2 ≤ q.2)
def srtP (l : List (Int × Int)) : List (Int × Int) := l.mergeSort prLe
theorem mapO_pr : ∀ {xs : List Val} {ps : List (Int × Int)}, mapO prOf xs = some ps → xs = ps.map ofPr
  | [], _, h => by cases h; rfl
  | x :: xs, ps, h => by
    unfold mapO at h
    cases h1 : prOf x with
    | none => rw [h1] at h; cases h
    | some p =>
      rw [h1] at h
      cases h2 : mapO prOf xs with
      | none => rw [h2] at h; cases h
      | some qs =>
        rw [h2] at h
        cases h
        rw [mapO_pr h2]
        have : x = ofPr p := by
          unfold prOf at h1
          split at h1
          · cases h1
            rfl
          · cases h1
        rw [this]
        rfl
def fSortP : ON := oneR fun p st => match st[p]? with
  | some (.lst xs) => (mapO prOf xs).map fun ps => (.ref st.length, st ++ [.lst ((srtP ps).map ofPr)])
  | _ => none
theorem RVs.permP {K : PySem.W.Frag} : ∀ {xs : List Val} {vs ws : List V}, ws.Perm vs → RVs K ι H xs vs → ∃ ys : List Val, ys.Perm xs ∧ RVs K ι H ys ws := by
  intro xs vs ws h
  induction h generalizing xs with
  | nil => intro r; exact ⟨xs, .refl _, r⟩
  | cons x _ ih =>
    intro r
    cases r with
    | cons a b =>
      obtain ⟨ys, h1, h2⟩ := ih b
      exact ⟨_ :: ys, h1.cons _, .cons a h2⟩
  | swap x y l =>
    intro r
    cases r with
    | cons a b =>
      cases b with
      | cons c d => exact ⟨_, .swap _ _ _, .cons c (.cons a d)⟩
  | trans _ _ ih1 ih2 =>
    intro r
    obtain ⟨ys, h1, h2⟩ := ih2 r
    obtain ⟨zs, h3, h4⟩ := ih1 h2
    exact ⟨zs, h3.trans h1, h4⟩
theorem RVs.pairs : ∀ {xs : List Val} {vs : List V} {R : Val → Val → Prop} {S : V → V → Prop}, RVs W.K ι H xs vs → vs.Pairwise S → (∀ x ∈ xs, ∀ y ∈ xs, ∀ u v, RV W.K ι H x u → RV W.K ι H y v → S u v → R x y) → xs.Pairwise R
  | _, _, _, _, .nil, _, _ => .nil
  | x :: xs, v :: vs, R, S, .cons a b, h, f => by
    obtain ⟨h1, h2⟩ := List.pairwise_cons.mp h
    refine List.pairwise_cons.mpr ⟨fun y hy => ?_, RVs.pairs b h2 fun x hx y hy => f x (List.mem_cons_of_mem _ hx) y (List.mem_cons_of_mem _ hy)⟩
    obtain ⟨i, hi⟩ := List.mem_iff_getElem?.mp hy
    obtain ⟨u, h3, h4⟩ := b.at i hi
    exact f x List.mem_cons_self y (List.mem_cons_of_mem _ hy) v u a h4 (h1 u (List.mem_of_getElem? h3))
theorem prLe_iff {p q : Int × Int} : prLe p q = true ↔ (p.1 < q.1 ∨ p.1 = q.1 ∧ p.2 ≤ q.2) := by
  unfold prLe
  rw [decide_eq_true_iff]
theorem srtP_perm (l : List (Int × Int)) : (srtP l).Perm l := List.mergeSort_perm _ _
theorem srtP_sorted (l : List (Int × Int)) : (srtP l).Pairwise fun p q => prLe p q = true :=
  List.pairwise_mergeSort (le := prLe) (fun a b c h1 h2 => by
    have h1 := prLe_iff.mp h1
    have h2 := prLe_iff.mp h2
    exact prLe_iff.mpr (by omega)) (fun a b => by
    cases h : prLe a b with
    | true => rfl
    | false =>
      have : ¬ (prLe a b = true) := by rw [h]; decide
      rw [prLe_iff] at this
      show prLe b a = true
      exact prLe_iff.mpr (by omega)) l
theorem srtP_uniq {l m : List (Int × Int)} (h1 : m.Perm l) (h2 : m.Pairwise fun p q => prLe p q = true) : m = srtP l :=
  List.Perm.eq_of_pairwise (le := fun p q => prLe p q = true) (fun a b _ _ x y => by
    have x := prLe_iff.mp x
    have y := prLe_iff.mp y
    exact Prod.ext (by omega) (by omega)) h2 (srtP_sorted l) (h1.trans (srtP_perm l).symm)
open Classical in
noncomputable def keyV (K : PySem.W.Frag) (H : Hp) (v : V) : Int × Int := if h : ∃ p : Int × Int, ∃ t, v = .ref t ∧ SqT K H t [.int p.1, .int p.2] then h.choose else (0, 0)
theorem keyV_eq {pins : List (Addr × Obj)} {σ : L2.St} {s : Shared} {v : V} {p : Int × Int} (I : Inv X pins σ H s) (eK : X.K = W.K) (r : RV W.K ι H (ofPr p) v) : keyV W.K H v = p ∧ ∃ t, v = .ref t ∧ SqT W.K H t [.int p.1, .int p.2] := by
  unfold ofPr at r
  cases r with
  | @tup t vs xs sx rx =>
    rw [RVs.pair rx] at sx
    have h : ∃ p : Int × Int, ∃ t', V.ref t = .ref t' ∧ SqT W.K H t' [.int p.1, .int p.2] := ⟨p, t, rfl, sx⟩
    refine ⟨?_, t, rfl, sx⟩
    unfold keyV
    rw [dif_pos h]
    obtain ⟨t', e, s'⟩ := h.choose_spec
    cases e
    generalize h.choose = q at s' ⊢
    rw [← eK] at s' sx
    have := I.tuple_inj s' sx
    simp at this
    exact Prod.ext this.1 this.2
theorem call_sortP (C : Ctx0 W k X Ew) : CallR X (.builtin "sorted") (rc W fSortP) := by
  intro pins s σ H zs us Q I rz ⟨ι, st, as, v, st', rx, hr, hf, hq⟩
  obtain ⟨n, p, rfl, rfl, h0, h1⟩ := one_ref rx hf
  split at h1
  case h_2 => cases h1
  rename_i xs h5
  obtain ⟨ps, h2, h3⟩ := Option.map_eq_some_iff.mp h1
  cases h3
  have hx := mapO_pr h2
  subst hx
  obtain ⟨vs, h6, h7⟩ := hr.lst h5 h0
  obtain ⟨its, rv, hl, hz⟩ := I.list (SqL.of h6 (K := X.K))
  obtain ⟨u, rfl, ru⟩ := vals1 rz
  obtain rfl : u = Value.ref p := ru
  have key : ∀ v ∈ vs, ∃ q, q ∈ ps ∧ keyV W.K H v = q ∧ RV W.K ι H (ofPr q) v ∧ ∃ t, v = .ref t ∧ SqT W.K H t [.int q.1, .int q.2] := fun v hv => by
    obtain ⟨i, hi⟩ := List.mem_iff_getElem?.mp hv
    have hlt : i < ps.length := by
      have := (List.getElem?_eq_some_iff.mp hi).1
      rw [← h7.len, List.length_map] at this
      exact this
    obtain ⟨w, hw, rw'⟩ := h7.at i (x := ofPr ps[i]) (by rw [List.getElem?_map, List.getElem?_eq_getElem hlt]; rfl)
    rw [hi] at hw
    cases hw
    exact ⟨ps[i], List.getElem_mem hlt, (keyV_eq I C.eK rw').1, rw', (keyV_eq I C.eK rw').2⟩
  obtain ⟨e1, e2⟩ := refs_back rv fun x m => by
    obtain ⟨_, _, _, _, t, e, _⟩ := key x m
    exact ⟨t, e⟩
  refine SrtO.sorted_pairsO (k := fun u => keyV W.K H (backV u)) hl.isList (by rw [← rv.length]; exact hz) (fun v hv => ?_) fun h' d out hs1 hs2 kp hd hn => ?_
  · obtain ⟨t, rfl⟩ := e2 v hv
    have hm : V.ref t ∈ vs := by rw [e1]; exact List.mem_map.mpr ⟨_, hv, rfl⟩
    obtain ⟨q, _, hk, _, t', e, ht⟩ := key _ hm
    cases e
    rw [← C.eK] at ht
    obtain ⟨its2, r2, ⟨o, ho, hc, n2, hd⟩, _⟩ := I.tuple ht
    obtain ⟨u1, u2, rfl, ri, rj⟩ := vals2 r2
    obtain ⟨t1, rfl⟩ := ri
    obtain ⟨t2, rfl⟩ := rj
    show ∃ _, _
    have hk2 : keyV W.K H (backV (Value.ref t)) = q := hk
    rw [hk2]
    exact ⟨t, o, t1, t2, n2, rfl, ho, hc, hd⟩
  · have h3 : ∀ u ∈ out, ∃ a, u = Value.ref a := fun u hu => e2 u (hs2.perm.mem_iff.mp hu)
    obtain ⟨n2, hn2⟩ := hn
    have hp : (out.map backV).Perm vs := by
      rw [e1]
      exact hs2.perm.map backV
    obtain ⟨ys, hy1, hy2⟩ := h7.permP hp
    -- the new list's items: pairs, in order
    have hys : ∃ qs : List (Int × Int), ys = qs.map ofPr ∧ qs.Perm ps := by
      have : ∀ (ys : List Val) (ps : List (Int × Int)), ys.Perm (ps.map ofPr) → ∃ qs : List (Int × Int), ys = qs.map ofPr ∧ qs.Perm ps := fun ys ps h => by
        have hinj : ∀ p q, ofPr p = ofPr q → p = q := fun p q e => by
          unfold ofPr at e
          simp at e
          exact Prod.ext e.1 e.2
        have h9 : ∀ y ∈ ys, ∃ q, y = ofPr q := fun y hy => by
          obtain ⟨q, _, e⟩ := List.mem_map.mp (h.mem_iff.mp hy)
          exact ⟨q, e.symm⟩
        have h8 : ∃ qs : List (Int × Int), ys = qs.map ofPr := by
          clear h
          induction ys with
          | nil => exact ⟨[], rfl⟩
          | cons y ys ih =>
            obtain ⟨q, rfl⟩ := h9 y List.mem_cons_self
            obtain ⟨qs, rfl⟩ := ih fun z hz => h9 z (List.mem_cons_of_mem _ hz)
            exact ⟨q :: qs, rfl⟩
        obtain ⟨qs, rfl⟩ := h8
        refine ⟨qs, rfl, ?_⟩
        have h7 := h.map fun v => (prOf v).getD (0, 0)
        rw [List.map_map, List.map_map] at h7
        have e : ((fun v => (prOf v).getD (0, 0)) ∘ ofPr) = id := rfl
        rw [e, List.map_id, List.map_id] at h7
        exact h7
      exact this ys ps hy1
    obtain ⟨qs, rfl, hq2⟩ := hys
    have hso : qs.Pairwise fun p q => prLe p q = true := by
      have h8 : (qs.map ofPr).Pairwise fun x y => ∀ p q, x = ofPr p → y = ofPr q → prLe p q = true := by
        refine RVs.pairs hy2 (SrtO.srtd_map (lt := ltP (keyV W.K H)) (f := backV) hs1) fun x hx y hy u v ru' rv' hs p q e1 e2 => ?_
        subst e1 e2
        have k1 := (keyV_eq I C.eK ru').1
        have k2 := (keyV_eq I C.eK rv').1
        have h9 : SrtO.lexB (keyV W.K H v) (keyV W.K H u) = false := hs
        rw [k1, k2] at h9
        have := SrtO.lexB_no.mp h9
        exact prLe_iff.mpr (by omega)
      exact (List.pairwise_map.mp h8).imp fun h => h _ _ rfl rfl
    have hfin := srtP_uniq hq2 hso
    subst hfin
    refine ⟨.ref d, upd H d (.lst (out.map backV)), I.laid (t' := s.toks) kp hd ⟨?_, out, n2, vals_back h3, hn2⟩, rfl, ?_⟩
    · rw [hp.length_eq]
      exact hz
    · have hd0 := I.hok.fresh hd
      exact hq.new hr (show RO W ι H (.lst _) (.lst _) from hy2) d hd0
/-! ### max(list) -/
def maxI : List Int → Option Int
  | [] => none
  | x :: xs => some (xs.foldl max x)
def fMaxL : ON := oneR fun p st => match st[p]? with
  | some (.lst xs) => (mapO (fun v => match v with | .int i => some i | _ => none) xs).bind fun ns => (maxI ns).map fun m => (.int m, st)
  | _ => none
theorem mapO_int : ∀ {xs : List Val} {ps : List Int}, mapO (fun v => match v with | .int i => some i | _ => none) xs = some ps → xs = ps.map .int
  | [], _, h => by cases h; rfl
  | x :: xs, ps, h => by
    unfold mapO at h
    cases x with
    | int i =>
      cases h2 : mapO (fun v => match v with | .int i => some i | _ => none) xs with
      | none => rw [h2] at h; cases h
      | some qs =>
        rw [h2] at h
        cases h
        rw [mapO_int h2]
        rfl
    | _ => cases h
theorem foldl_max : ∀ (xs : List Int) (x : Int), xs.foldl max x ∈ x :: xs ∧ ∀ y ∈ x :: xs, y ≤ xs.foldl max x
  | [], x => ⟨List.mem_cons_self, fun y hy => by rw [List.mem_singleton.mp hy]; exact Int.le_refl _⟩
  | z :: xs, x => by
    obtain ⟨h1, h2⟩ := foldl_max xs (max x z)
    refine ⟨?_, fun y hy => ?_⟩
    · rw [List.foldl_cons]
      rcases List.mem_cons.mp h1 with e | e
      · rw [e]
        by_cases h : x ≤ z
        · rw [Int.max_eq_right h]
          exact List.mem_cons_of_mem _ List.mem_cons_self
        · rw [Int.max_eq_left (by omega)]
          exact List.mem_cons_self
      · exact List.mem_cons_of_mem _ (List.mem_cons_of_mem _ e)
    · rw [List.foldl_cons]
      have h3 := h2 (max x z) List.mem_cons_self
      rcases List.mem_cons.mp hy with e | e
      · rw [e]
        omega
      · rcases List.mem_cons.mp e with e | e
        · rw [e]
          omega
        · exact h2 y (List.mem_cons_of_mem _ e)
theorem call_maxLF (C : Ctx0 W k X Ew) (hc : X.calm = true) : CallR X (.builtin "max") (rc W fMaxL) := callBy fun xs H Q ⟨ι, st, as, v, st', rx, hr, hf, hq⟩ => by
  obtain ⟨i, p, rfl, rfl, h0, h1⟩ := one_ref rx hf
  split at h1
  · rename_i ys h5
    obtain ⟨ns, h2, h3⟩ := Option.bind_eq_some_iff.mp h1
    obtain ⟨m, h4, h6⟩ := Option.map_eq_some_iff.mp h3
    cases h6
    have := mapO_int h2
    subst this
    obtain ⟨vs, h6, h7⟩ := hr.lst h5 h0
    rw [RVs.ofInts ns h7] at h6
    cases ns with
    | nil => cases h4
    | cons n ns =>
      cases h4
      refine ⟨_, cr_max hc, p, n :: ns, rfl, SqL.of h6, by simp, fun m hm hle => ?_⟩
      obtain ⟨g1, g2⟩ := foldl_max ns n
      have e : m = ns.foldl max n := Int.le_antisymm (g2 m hm) (hle _ g1)
      rw [e]
      exact hq.here hr (.int _)
  · cases h1
/-! ### zip of two lists -/
def zipV (xs ys : List Val) : List Val := (xs.zip ys).map fun p => .tup [p.1, p.2]
theorem ok_zip {i j : Nat} {p q : Addr} {xs ys : List Val} (h0 : ι[i]? = some p) (h1 : ι[j]? = some q) : ItOk W ι H ⟨zipV xs ys, .two i xs j ys⟩ (Itz W.K p q) := fun ι' H' st n e r lv => by
  obtain ⟨l1, l2⟩ : st[i]? = some (.lst xs) ∧ st[j]? = some (.lst ys) := lv
  obtain ⟨vs, a1, a2⟩ := r.lst l1 (e.pre _ _ h0)
  obtain ⟨ws, b1, b2⟩ := r.lst l2 (e.pre _ _ h1)
  have len : (zipV xs ys).length = min xs.length ys.length := by
    unfold zipV
    rw [List.length_map, List.length_zip]
  refine ⟨fun x hx => ?_, fun hi => ⟨vs, ws, SqL.of a1, SqL.of b1, by
    have hi' : (zipV xs ys).length ≤ n := hi
    rw [len, a2.len, b2.len] at hi'
    omega⟩⟩
  have hx' : (zipV xs ys)[n]? = some x := hx
  unfold zipV at hx'
  rw [List.getElem?_map] at hx'
  obtain ⟨⟨y, z⟩, hz, rfl⟩ := Option.map_eq_some_iff.mp hx'
  rw [List.getElem?_zip_eq_some] at hz
  obtain ⟨v, h3, h4⟩ := a2.at n hz.1
  obtain ⟨w, h5, h6⟩ := b2.at n hz.2
  refine ⟨⟨vs, ws, v, w, SqL.of a1, SqL.of b1, h3, h5⟩, fun u H2 hy => ?_⟩
  obtain ⟨T, v', w', rfl, nT, rfl, f1, f2⟩ := hy
  have e1 := f1 vs (SqL.of a1)
  have e2 := f2 ws (SqL.of b1)
  rw [h3] at e1
  rw [h5] at e2
  cases e1
  cases e2
  have ex : Ext ι' H' ι' (upd H' T (.tup [v, w])) := Ext.newT nT
  exact ⟨ex, r.newT nT, .tup (SqT.of upd_same) (.cons (h4.mono ex) (.cons (h6.mono ex) .nil))⟩
def fZip (m : FA) : FI := bnd m fun vs => fun _ st => match vs with
  | [.ref p, .ref q] => (match st[p]?, st[q]? with
    | some (.lst xs), some (.lst ys) => some (.ok ⟨zipV xs ys, .two p xs q ys⟩ st)
    | _, _ => none)
  | _ => none
theorem si_zip {elts : List Expr} {kk : Nat} {p tpos : Pos} (C : Ctx0 W k X Ew) (hm : W.mg "zip" = none) (ha : SA W X Ew [a, b] mas) (hg : Gl X "zip" := by rfl)
    (hs : starEach [a, b] X.env = (false, eval a X.env) :: starEach [b] X.env := by rfl) (hpl : (backTo pos (starEach [b] X.env)).any (·.1) = false := by rfl) : SI W X Ew (.Tuple elts kk tpos) (.Call (.Name "zip" p) [a, b] [] pos) (fZip mas) :=
  imI (pi_zip hg (by rw [C.em]; exact hm) ha hs hpl) fun σ H Q ⟨ι, sl, st, r, hs, hr, hm, hq⟩ => run hs hr hm hq fun x st1 ι1 H1 vx e1 s1 r1 rx hm1 hq1 => by
    split at hm1
    · rename_i i j
      split at hm1
      · rename_i xs ys h5 h6
        cases hm1
        cases rx with
        | cons r0 rr =>
          cases rr with
          | cons r2 r3 =>
            cases r3
            cases r0 with
            | @ref _ p h0 =>
              cases r2 with
              | @ref _ q h1 =>
                obtain ⟨vs, h7, _⟩ := r1.lst h5 h0
                obtain ⟨ws, h8, _⟩ := r1.lst h6 h1
                rw [C.eK]
                exact ⟨p, q, vs, ws, rfl, SqL.of h7, SqL.of h8, hq1 ι1 H1 _ (Ext.refl _ _) r1 (ok_zip h0 h1)⟩
      · cases hm1
    · cases hm1
/-! ### a, b = x, y -/
def fPar (i j : Nat) (m : FA) : FS := bndS m fun vs => fun sl st => match vs with
  | [v, w] => some (.nx ((sl.set i (some v)).set j (some w)) st)
  | _ => none
def fPar3 (i j l : Nat) (m : FA) : FS := bndS m fun vs => fun sl st => match vs with
  | [u, v, w] => some (.nx (((sl.set i (some u)).set j (some v)).set l (some w)) st)
  | _ => none
theorem ss_par (i j : Nat) {x y : Str} {px py pt pt2 : Pos} {kt k2} (C : Ctx W k X Ew) (ha : SA W X Ew [a, b] mas) (hi : X.N[i]? = some x := by rfl) (hj : X.N[j]? = some y := by rfl) (hij : i ≠ j := by decide)
    (hx : X.env.scope.names.lookup x = some .local := by rfl) (hy : X.env.scope.names.lookup y = some .local := by rfl)
    (hw : swappedStores [.Tuple [.Name x px, .Name y py] kt pt] (.Tuple [a, b] k2 pt2) X.env = pure (some [x, y]) := by rfl)
    (hs : swapsWithSole [.Tuple [.Name x px, .Name y py] kt pt] (.Tuple [a, b] k2 pt2) pos.line X.env = pure false := by rfl) : SS W X Ew (.Assign [.Tuple [.Name x px, .Name y py] kt pt] (.Tuple [a, b] k2 pt2) pos) (fPar i j mas) :=
  imS (ps_par C.calm C.nd hi hj hij hx hy ha hw hs) fun D σ H ⟨ι, sl, st, r, hs, hr, hm, hq⟩ => runS hs hr hm hq fun x st1 ι1 H1 vx e1 s1 r1 rx hm1 hq1 => by
    split at hm1
    · cases rx with
      | cons r0 rr =>
        cases rr with
        | cons r2 r3 =>
          cases r3
          exact ⟨_, _, rfl, nx_of ((s1.set r0 i).set r2 j) r1 hm1 hq1⟩
    · cases hm1
theorem ss_par3 (i j l : Nat) {x y z : Str} {c : Expr} {px py pz pt pt2 : Pos} {kt k2} (C : Ctx W k X Ew) (ha : SA W X Ew [a, b, c] mas) (hi : X.N[i]? = some x := by rfl) (hj : X.N[j]? = some y := by rfl) (hl : X.N[l]? = some z := by rfl) (hij : i ≠ j := by decide) (hil : i ≠ l := by decide) (hjl : j ≠ l := by decide)
    (hx : X.env.scope.names.lookup x = some .local := by rfl) (hy : X.env.scope.names.lookup y = some .local := by rfl) (hz : X.env.scope.names.lookup z = some .local := by rfl)
    (hw : swappedStores [.Tuple [.Name x px, .Name y py, .Name z pz] kt pt] (.Tuple [a, b, c] k2 pt2) X.env = pure (some [x, y, z]) := by rfl)
    (hs : swapsWithSole [.Tuple [.Name x px, .Name y py, .Name z pz] kt pt] (.Tuple [a, b, c] k2 pt2) pos.line X.env = pure false := by rfl) : SS W X Ew (.Assign [.Tuple [.Name x px, .Name y py, .Name z pz] kt pt] (.Tuple [a, b, c] k2 pt2) pos) (fPar3 i j l mas) :=
  imS (ps_par3 C.calm C.nd hi hj hl hij hil hjl hx hy hz ha hw hs) fun D σ H ⟨ι, sl, st, r, hs, hr, hm, hq⟩ => runS hs hr hm hq fun x st1 ι1 H1 vx e1 s1 r1 rx hm1 hq1 => by
    split at hm1
    · cases rx with
      | cons r0 rr =>
        cases rr with
        | cons r2 r3 =>
          cases r3 with
          | cons r4 r5 =>
            cases r5
            exact ⟨_, _, _, rfl, nx_of (((s1.set r0 i).set r2 j).set r4 l) r1 hm1 hq1⟩
    · cases hm1
/-! ### a, b = a list -/
def gUnL (g : FGs) (n : Nat) : FG := fun x sl st => match x with
  | .ref p => (match st[p]? with
    | some (.lst xs) => if xs.length = n then g xs sl st else none
    | _ => none)
  | _ => none
theorem sg_unl {g : FGs} {j n : Nat} (C : Ctx W k X Ew) (h : SGs W X es g) (h1 : (assignEach es X.env).length = n := by rfl) (h2 : List.findIdx? (fun x => x.1) (assignEach es X.env) = none := by rfl) : SG W X (.Tuple es j pos) (gUnL g n) :=
  imG (pg_lst C.calm h h1 h2) fun v σ H Q ⟨ι, sl, st, x, sl', st', hs, hr, hx, hm, hq⟩ => by
    cases hx with
    | @ref i a h0 =>
      have hm2 : (match st[i]? with | some (.lst xs) => if xs.length = n then g xs sl st else none | _ => none) = some (sl', st') := hm
      split at hm2
      · rename_i xs h5
        by_cases hl : xs.length = n
        · rw [if_pos hl] at hm2
          obtain ⟨vs, h6, h7⟩ := hr.lst h5 h0
          exact ⟨a, vs, rfl, SqL.of h6, by rw [← h7.len]; exact hl, ι, sl, st, xs, sl', st', hs, hr, h7, hm2, hq⟩
        · rw [if_neg hl] at hm2
          cases hm2
      · cases hm2
    | _ => cases hm
/-! ### what is never reached -/
def fNever : FS := fun _ _ => none
theorem ss_never {s : Stmt} : SS W X Ew s fNever := ⟨fun pins s σ H D I ⟨ι, sl, st, r, hs, hr, hm, hq⟩ => by cases hm⟩
end
end FL
/-! FL10: is None, in, int(..), methods of texts. -/
namespace FL
open PySem PySem.Spec PyProof.Rows L2
section
variable {W : Wd} {k : Nat} {X : Cx} {Ew : WX} {ι ι' : List Addr} {H H' : Hp} {st : Sto} {a b e : Expr} {es : List Expr} {ma mb me : FE} {mt mu : FT} {mas : FA} {pos : Pos} {tg : Expr}
/-! ### is None -/
def nonB : Val → Bool
  | .non => true
  | _ => false
def fIsN : O2 := fun a b st => match b with
  | .non => some (.bl (nonB a), st)
  | _ => none
def fNotN : O2 := fun a b st => match b with
  | .non => some (.bl (!nonB a), st)
  | _ => none
theorem nonB_rv {x : Val} {v : V} (r : RV W.K ι H x v) : decide (v = .non) = nonB x := by
  cases r <;> first | rfl | exact decide_eq_false fun z => (nomatch z)
theorem op_isF : OpR X (compareOp .Is) (ro W fIsN) := opBy fun x y H Q ⟨ι, st, a, b, v, st', rx, ry, hr, hf, hq⟩ => by
  cases ry with
  | non =>
    cases hf
    exact ⟨_, op_isN, rfl, by rw [nonB_rv rx]; exact hq.here hr (.bl _)⟩
  | _ => cases hf
theorem op_isnF : OpR X (compareOp .IsNot) (ro W fNotN) := opBy fun x y H Q ⟨ι, st, a, b, v, st', rx, ry, hr, hf, hq⟩ => by
  cases ry with
  | non =>
    cases hf
    exact ⟨_, op_notN, rfl, by rw [nonB_rv rx]; exact hq.here hr (.bl _)⟩
  | _ => cases hf
/-! ### in: a part of a text, an item of a tuple of texts, of a list, a key -/
def fInB (a b : Val) (st : Sto) : Option Bool := match b with
  | .str t => (match a with
    | .str [c] => some (decide (c ∈ t))
    | .str s => some (!(Builtin.Str.occurrences (St' t) (St' s) 0 (St' t).length 1).isEmpty)
    | _ => none)
  | .tup xs => (match a with
    | .str s => (strsOf xs).map fun ss => ss.any fun y => decide (y = s)
    | _ => none)
  | .ref p => (match st[p]? with
    | some (.dic kvs) => (keyOf a).map fun k => (getK kvs k).isSome
    | _ => (match toD 9 st a, toD 9 st (.ref p) with
      | some d, some (.list ds) => if SeqAt.shaped d = true ∧ SeqAt.shaped (.list ds) = true then some (ds.any fun z => PyData.eqv z d) else none
      | _, _ => none))
  | _ => none
def fIn : O2 := fun a b st => (fInB a b st).map fun c => (.bl c, st)
def fNotIn : O2 := fun a b st => (fInB a b st).map fun c => (.bl (!c), st)
theorem Ctx0.hu65 (C : Ctx0 W k X Ew) : X.A.units + 65 < cLine := by
  have := C.rmu.un
  omega
theorem inV_strs (s : List Nat) : ∀ ss : List (List Nat), inV (.str (St' s)) ((ss.map St').map V.str) = ss.any fun y => decide (y = s)
  | [] => rfl
  | y :: ss => by
    show (eqV (.str (St' y)) (.str (St' s)) || inV (.str (St' s)) ((ss.map St').map V.str)) = (decide (y = s) || ss.any fun y => decide (y = s))
    rw [inV_strs s ss]
    congr 1
    by_cases h : y = s
    · subst h
      simp [eqV]
    · have : St' y ≠ St' s := fun e => h (st_inj e)
      simp [eqV, h, this]
theorem flat_strs : ∀ ss : List (List Nat), ((ss.map St').map V.str).all flatV = true
  | [] => rfl
  | y :: ss => by
    rw [List.map_cons, List.map_cons, List.all_cons, flat_strs ss]
    rfl
def rInF (W : Wd) (neg : Bool) : R2 := fun x y H Q => ∃ ι st a b c, RV W.K ι H a x ∧ RV W.K ι H b y ∧ Rel W ι H st ∧ fInB a b st = some c ∧ Q (.bl (if neg then !c else c)) H
theorem inF_by (C : Ctx0 W k X Ew) {f : Value → Value → Sem Value} (neg : Bool)
    (h1 : OpR X f (fun x y H Q => ∃ (c : Nat) (z : Str), x = .str ⟨#[c]⟩ ∧ y = .str z ∧ Q (.bl (if neg then !decide (c ∈ z.cps.toList) else decide (c ∈ z.cps.toList))) H))
    (h2 : OpR X f (fun x y H Q => ∃ i j, x = .str i ∧ y = .str j ∧ Q (.bl (if neg then !(!(Builtin.Str.occurrences j i 0 j.length 1).isEmpty) else !(Builtin.Str.occurrences j i 0 j.length 1).isEmpty)) H))
    (h3 : OpR X f (rIn X.K neg))
    (h4 : OpR X f (fun x y H Q => ∃ d ds, Dp X.K H x d ∧ Dp X.K H y (.list ds) ∧ SeqAt.shaped d = true ∧ SeqAt.shaped (.list ds) = true ∧ Q (.bl (if neg then !(ds.any fun z => PyData.eqv z d) else ds.any fun z => PyData.eqv z d)) H))
    (h5 : OpR X f (fun x y H Q => ∃ p o, y = .ref p ∧ DGet H p x o ∧ Q (.bl (if neg then !o.isSome else o.isSome)) H)) : OpR X f (rInF W neg) := opBy fun x y H Q ⟨ι, st, a, b, c, rx, ry, hr, hf, hq⟩ => by
  unfold fInB at hf
  split at hf
  · cases ry
    split at hf
    · cases hf
      cases rx
      exact ⟨_, h1, _, _, rfl, rfl, by simpa using hq⟩
    · cases hf
      cases rx
      exact ⟨_, h2, _, _, rfl, rfl, hq⟩
    · cases hf
  · split at hf
    · rename_i ys s
      obtain ⟨ss, e1, e2⟩ := Option.map_eq_some_iff.mp hf
      subst e2
      have := strsOf_map e1
      subst this
      cases rx
      cases ry with
      | @tup p vs xs sx rxs =>
        rw [RVs.ofStrs ss rxs] at sx
        refine ⟨_, h3, p, _, rfl, .inr (by rw [C.eK]; exact sx), rfl, flat_strs ss, ?_⟩
        rw [inV_strs]
        exact hq
    · cases hf
  · split at hf
    · rename_i p kvs h0
      obtain ⟨k, e1, e2⟩ := Option.map_eq_some_iff.mp hf
      subst e2
      cases ry with
      | @ref j p h6 =>
        obtain ⟨ms, h7, h8⟩ := hr.dic h0 h6
        have e := keyOf_V e1 rx
        subst e
        refine ⟨_, h5, p, _, rfl, DGet.k h7, ?_⟩
        rcases DP.get h8 k with ⟨g1, g2⟩ | ⟨x, v, g1, g2, _⟩
        · rw [g1] at hq
          rw [g2]
          exact hq
        · rw [g1] at hq
          rw [g2]
          exact hq
    · split at hf
      · rename_i d ds g1 g2
        split at hf
        · rename_i g3
          cases hf
          exact ⟨_, h4, d, ds, by rw [C.eK]; exact toD_dp hr _ _ _ _ g1 rx, by rw [C.eK]; exact toD_dp hr _ _ _ _ g2 ry, g3.1, g3.2, hq⟩
        · cases hf
      · cases hf
  · cases hf
theorem op_inF (C : Ctx0 W k X Ew) : OpR X (compareOp .In) (ro W fIn) := opBy fun x y H Q ⟨ι, st, a, b, v, st', rx, ry, hr, hf, hq⟩ => by
  obtain ⟨c, h1, h2⟩ := Option.map_eq_some_iff.mp hf
  cases h2
  refine ⟨_, inF_by C false op_in_sign op_in_str op_in_seq (fun pins s σ H x y v u Q I rx ry h => op_inD C.hu65 pins s σ H x y v u Q I rx ry h) (fun pins s σ H x y v u Q I rx ry h => ?_), ι, st, a, b, c, rx, ry, hr, h1, hq.here hr (.bl _)⟩
  obtain ⟨p, o, e, g, q⟩ := h
  subst e
  obtain rfl : u = Value.ref p := ry
  exact d_in C.hu1 I g rx fun s3 I3 => ⟨.bl o.isSome, H, I3, rfl, q⟩
theorem op_notinF (C : Ctx0 W k X Ew) : OpR X (compareOp .NotIn) (ro W fNotIn) := opBy fun x y H Q ⟨ι, st, a, b, v, st', rx, ry, hr, hf, hq⟩ => by
  obtain ⟨c, h1, h2⟩ := Option.map_eq_some_iff.mp hf
  cases h2
  refine ⟨_, inF_by C true op_notIn_sign op_notIn_str op_notIn_seq (fun pins s σ H x y v u Q I rx ry h => op_notInD C.hu65 pins s σ H x y v u Q I rx ry h) (fun pins s σ H x y v u Q I rx ry h => ?_), ι, st, a, b, c, rx, ry, hr, h1, hq.here hr (.bl _)⟩
  obtain ⟨p, o, e, g, q⟩ := h
  subst e
  obtain rfl : u = Value.ref p := ry
  exact d_notIn C.hu1 I g rx fun s3 I3 => ⟨.bl (!o.isSome), H, I3, rfl, q⟩
/-! ### int(n), int(truth) -/
def fInt1 : ON := fun xs st => match xs with
  | [.int i] => some (.int i, st)
  | [.bl b] => some (.int (if b then 1 else 0), st)
  | _ => none
theorem call_intF : CallR X (.type "int") (rc W fInt1) := callBy fun xs H Q ⟨ι, st, as, v, st', rx, hr, hf, hq⟩ => by
  unfold fInt1 at hf
  split at hf
  · cases hf
    cases rx with
    | cons r0 rr =>
      cases rr
      cases r0
      exact ⟨_, call_int1, .inl ⟨_, rfl, hq.here hr (.int _)⟩⟩
  · cases hf
    cases rx with
    | cons r0 rr =>
      cases rr
      cases r0
      exact ⟨_, call_int1, .inr ⟨_, rfl, hq.here hr (.int _)⟩⟩
  · cases hf
/-! ### methods of texts -/
def fFind3 : Val → ON := fun a xs st => match a, xs with
  | .str s, [.str t, .int i] => some (.int (Txt.find3 (St' s) (St' t) i), st)
  | _, _ => none
theorem mt_find3F : MtR X "str.find" (rm W fFind3) := mtBy fun x xs H Q ⟨ι, st, a, as, v, st', rx, rxs, hr, hf, hq⟩ => by
  unfold fFind3 at hf
  split at hf
  · cases hf
    cases rx
    cases rxs with
    | cons r0 rr =>
      cases rr with
      | cons r1 r2 =>
        cases r2
        cases r0
        cases r1
        exact ⟨_, mt_find3, _, _, _, rfl, rfl, hq.here hr (.int _)⟩
  · cases hf
def fStarts3 : Val → ON := fun a xs st => match a, xs with
  | .str s, [.str t, .int i] => some (.bl (Txt.startswith3 (St' s) (St' t) i), st)
  | _, _ => none
theorem mt_starts3F : MtR X "str.startswith" (rm W fStarts3) := mtBy fun x xs H Q ⟨ι, st, a, as, v, st', rx, rxs, hr, hf, hq⟩ => by
  unfold fStarts3 at hf
  split at hf
  · cases hf
    cases rx
    cases rxs with
    | cons r0 rr =>
      cases rr with
      | cons r1 r2 =>
        cases r2
        cases r0
        cases r1
        exact ⟨_, mt_startswith3, _, _, _, rfl, rfl, hq.here hr (.bl _)⟩
  · cases hf
theorem st_back (x : Str) : St' x.cps.toList = x := by
  show Str.mk x.cps.toList.toArray = x
  rw [Array.toArray_toList]
def fLower : Val → ON := fun a xs st => match a, xs with
  | .str s, [] => if s.length ≤ 5592405 then some (.str (Txt.lower (St' s)).cps.toList, st) else none
  | _, _ => none
theorem mt_lowerF : MtR X "str.lower" (rm W fLower) := mtBy fun x xs H Q ⟨ι, st, a, as, v, st', rx, rxs, hr, hf, hq⟩ => by
  unfold fLower at hf
  split at hf
  · split at hf
    · rename_i hl
      cases hf
      cases rx
      cases rxs
      have r := RV.str (K := W.K) (ι := ι) (H := H) (Txt.lower (St' ‹List Nat›)).cps.toList
      rw [st_back] at r
      exact ⟨_, mt_lower, _, rfl, rfl, by rw [st_len]; exact hl, hq.here hr r⟩
    · cases hf
  · cases hf
def fUpper : Val → ON := fun a xs st => match a, xs with
  | .str s, [] => if s.length ≤ 5592405 then some (.str (Txt.upper (St' s)).cps.toList, st) else none
  | _, _ => none
theorem mt_upperF : MtR X "str.upper" (rm W fUpper) := mtBy fun x xs H Q ⟨ι, st, a, as, v, st', rx, rxs, hr, hf, hq⟩ => by
  unfold fUpper at hf
  split at hf
  · split at hf
    · rename_i hl
      cases hf
      cases rx
      cases rxs
      have r := RV.str (K := W.K) (ι := ι) (H := H) (Txt.upper (St' ‹List Nat›)).cps.toList
      rw [st_back] at r
      exact ⟨_, mt_upper, _, rfl, rfl, by rw [st_len]; exact hl, hq.here hr r⟩
    · cases hf
  · cases hf
def fLstripC : Val → ON := fun a xs st => match a, xs with
  | .str s, [.str t] => if s.length ≤ LINE then some (.str (Txt.lstripChars (St' s) (St' t)).cps.toList, st) else none
  | _, _ => none
theorem mt_lstripF : MtR X "str.lstrip" (rm W fLstripC) := mtBy fun x xs H Q ⟨ι, st, a, as, v, st', rx, rxs, hr, hf, hq⟩ => by
  unfold fLstripC at hf
  split at hf
  · rename_i s t
    split at hf
    · rename_i hl
      cases hf
      cases rx
      cases rxs with
      | cons r0 rr =>
        cases rr
        cases r0
        have r := RV.str (K := W.K) (ι := ι) (H := H) (Txt.lstripChars (St' s) (St' t)).cps.toList
        rw [st_back] at r
        exact ⟨_, mt_lstripChars, _, _, rfl, rfl, by rw [st_len, ← line_eq]; exact hl, hq.here hr r⟩
    · cases hf
  · cases hf
/-- t.index(s), s a part of t -/
def fIndexS : Val → ON := fun a xs st => match a, xs with
  | .str s, [.str t] => (match Builtin.Str.occurrences (St' s) (St' t) 0 (St' s).length 1 with
    | i :: _ => some (.int (i : Nat), st)
    | [] => none)
  | _, _ => none
theorem mt_indexF : MtR X "str.index" (rm W fIndexS) := mtBy fun x xs H Q ⟨ι, st, a, as, v, st', rx, rxs, hr, hf, hq⟩ => by
  unfold fIndexS at hf
  split at hf
  · split at hf
    · rename_i i rest h1
      cases hf
      cases rx
      cases rxs with
      | cons r0 rr =>
        cases rr
        cases r0
        exact ⟨_, mt_sindex, _, _, i, rest, rfl, rfl, h1, hq.here hr (.int _)⟩
    · cases hf
  · cases hf
end
end FL
/-! FL11: enumerate over a tuple, a text. -/
namespace PySem
open Sem (wp)
theorem fl_enumNew {v : Value} {o : Obj} {H : Heap → Prop} (B : Begins v o H) :
    Meets (Builtin.«enumerate.__new__» ⟨[.type "enumerate", v], []⟩) (fun _ R s => H s.heap ∧
      R (.ok (.ret (.ref (s.heap.push o).objs.size))) { s with heap := (s.heap.push o).push { cls := .type "enumerate", data := .fields #[.none, .bool false, .ref s.heap.objs.size, rawInt 0, .none, .none] } }) :=
  .of_wp fun prog w A R ⟨hp, g, d, tk, os⟩ ⟨h1, h⟩ => by
    have hsub := sub_enumerate
    have q1 : ∀ {A' : Around} {E Q : Value → Shared → Prop}, Q (.ref hp.objs.size) ⟨hp.push o, g, d, tk, os⟩ → wpAny (model prog w) A' (pyIter v) Q E ⟨hp, g, d, tk, os⟩ := fun q => B.iter prog w _ _ ⟨hp, g, d, tk, os⟩ _ h1 q
    wp_walk using q1
    refine wpAny_stack_any fun st => wpAny_pure ?_
    split
    · rename_i c _ _ _ _ _
      cases (c == Value.type "enumerate") <;> (wp_walk using q1; exact ⟨_, rfl, h⟩)
    · wp_walk using q1
      exact ⟨_, rfl, h⟩
theorem fl_enumCall {prog : Program} {w : World} {A : Around} {E : Value → Shared → Prop} {s : Shared} {v : Value} {o : Obj} {H : Heap → Prop} {Q : Value → Shared → Prop} (B : Begins v o H) (h1 : H s.heap)
    (h : ∀ h', IsEnum h' (s.heap.objs.size + 1) s.heap.objs.size 0 .none → h'.get? s.heap.objs.size = some o → (∀ b u, s.heap.get? b = some u → h'.get? b = some u) → Q (.ref (s.heap.objs.size + 1)) { s with heap := h' }) :
    wpAny (model prog w) A (call (.type "enumerate") [v]) Q E s := by
  refine callType_new F.called_enumerate (by decide) (F.typeCall_enumerate_1 _) (F.newCall_enumerate_1 _) (fun obj => F.args_object_init_2 obj _) F.entry_enumerate_new (fl_enumNew B) ⟨h1, ?_⟩
  have hz : (s.heap.push o).objs.size = s.heap.objs.size + 1 := Heap.size_push ..
  show _ ∧ _
  rw [hz]
  have he : IsEnum ((s.heap.push o).push { cls := .type "enumerate", data := .fields #[.none, .bool false, .ref s.heap.objs.size, rawInt 0, .none, .none] }) (s.heap.objs.size + 1) s.heap.objs.size 0 .none := by
    have z := Heap.get?_push_size (s.heap.push o) (o := { cls := .type "enumerate", data := .fields #[.none, .bool false, .ref s.heap.objs.size, rawInt 0, .none, .none] }) rfl
    rw [hz] at z
    exact z
  exact ⟨⟨_, he, rfl⟩, h _ he (Heap.get?_push_of_some _ (Heap.get?_push_size _ B.free)) fun b u x => Heap.get?_push_of_some _ (Heap.get?_push_of_some _ x)⟩
theorem fl_enumEnd {prog : Program} {w : World} {A : Around} {E : Value → Shared → Prop} {s : Shared} {e it a : Addr} {i : Int} {j : Nat} {items : Array Value} {old : Value} {Q : Option Value → Shared → Prop} (hh : A.in1.handled = none)
    (he : IsEnum s.heap e it i old) (hit : s.heap.IsTupleIter it a j) (hl : s.heap.IsTuple a items) (hx : items[j]? = none) (hQ : ∀ h', Heap.ExtBut it s.heap h' → Q none { s with heap := h' }) : wpAny (model prog w) A (pyNext (.ref e)) Q E s := by
  have ty : s.TypeIs (.ref e) "enumerate" := ⟨_, he, rfl⟩
  unfold pyNext
  refine wpAny_bind (wpAny_attempt (wpAny_callSpecial?_slot (name := Str.ofString "__next__") ty F.slot_enumerate_next (wpAny_call_entry F.slot_enumerate_next ty F.entry_enumerate_next ?_ (F.args_enumerate_next_1 _))))
  show wpAny _ _ (field (.ref e) 2 >>= _) _ _ _
  refine wpAny_bind (wpAny_field he rfl (x := .ref it) rfl (wpAny_bind (wpAny_nextOf_tuple_end hh hit hl hx fun h' x b1 ⟨o, b2, b3⟩ => ?_)))
  exact wpAny_bind (wpAny_isInstance (T := "StopIteration") (b := true) ⟨o, b2, b3⟩ isSubtype_stop (wpAny_pure (hQ _ b1)))
end PySem
namespace FL
open PySem PySem.Spec PyProof.Rows L2
/-- the tuple at a, each item in a new pair with its number -/
def IteT (K : PySem.W.Frag) (a : Addr) : It :=
  ⟨fun i H => ∃ (xs : List V) (x : V), SqT K H a xs ∧ xs[i]? = some x, fun i H v H' => ∃ T x, v = .ref T ∧ H T = none ∧ H' = upd H T (.tup [.int (i : Nat), x]) ∧ ∀ xs, SqT K H a xs → xs[i]? = some x, fun i H => ∃ xs : List V, SqT K H a xs ∧ xs.length ≤ i⟩
theorem turn_enumT {P : Program} {w : World} {K : PySem.W.Frag} {elts : List Expr} {kk : Nat} {tpos : Pos} (a e it : Addr) (hae : a ≠ e) (hai : a ≠ it) :
    Turn P w K (.Tuple elts kk tpos) (IteT K a) [e, it] e (fun i h => (∃ old, IsEnum h e it ((i : Nat) : Int) old) ∧ h.IsTupleIter it a i ∧ e ≠ it) where
  mem := by simp
  obj := fun i h st b hb => by
    obtain ⟨⟨old, he⟩, ⟨o, ho, hc, hd⟩, _⟩ := st
    rcases (by simpa using hb : b = e ∨ b = it) with z | z
    · rw [z]
      exact ⟨_, he, fun v q => nomatch q⟩
    · rw [z]
      exact ⟨o, ho, fun v q => by rw [hd] at q; cases q⟩
  keep := fun i h h' ⟨⟨old, he⟩, hi, hne⟩ k => ⟨⟨old, k e (by simp) _ he⟩, hi.at fun o q => k it (by simp) o q, hne⟩
  item := by
    intro X hP hw hK hc i pins s σ H E I hf st hg
    subst hP hw hK
    obtain ⟨⟨old, he⟩, hit, hne⟩ := st
    obtain ⟨xs, x, hq, hx⟩ := hg
    obtain ⟨its, rv, p, hz⟩ := I.tuple hq
    obtain ⟨u, hu, ru⟩ := rv.get hx
    have hel : e < s.heap.objs.size := Heap.lt_size he
    have hil : it < s.heap.objs.size := by
      obtain ⟨_, q, _⟩ := hit
      exact Heap.lt_size q
    have hlt : i < its.toArray.size := by simpa using (List.getElem?_eq_some_iff.mp hu).1
    refine wpAny_pyNext_enum_itemD (Draws.tuple (prog := X.prog) (w := X.w) (A := X.A.in1) (I.ok.hd hc) it a hai its.toArray) he ⟨hit, p⟩ hlt hne (by simp [hne, Ne.symm hae]) fun y h' tk hy ho hst hT hsz hk => ?_
    have ey : y = u := by
      have hy2 : its[i]? = some y := by simpa using hy
      rw [hu] at hy2
      exact (Option.some.inj hy2).symm
    subst ey
    refine ⟨_, rfl, wpAny_letOwnedTupleGo_enum (s := { s with heap := h', toks := tk + 1 }) ho fun h'' he' sb => ?_⟩
    have hT2 : h''.get? s.heap.objs.size = some { cls := .type "tuple", data := .seq #[.int i tk, y] } := (sb.2 _ (Nat.ne_of_gt hel)).trans hT
    have new : ObjOk X.prog X.w (upd H s.heap.objs.size (.tup [.int (i : Nat), x])) h'' s.heap.objs.size (.tup [.int (i : Nat), x]) := ⟨by show 2 ≤ sizeLine; decide, [.int i tk, y], .cons ⟨_, rfl⟩ (.cons ru .nil), ⟨_, hT2, rfl, _, rfl⟩⟩
    have I1 : Inv X pins σ (upd H s.heap.objs.size (.tup [.int (i : Nat), x])) { s with heap := h'', toks := tk + 1 } :=
      I.turnedNew (t' := tk + 1) (ch := [e, it]) (fun b ob hb q => (sb.2 b fun z => hb (by simp [z])).trans (hk b ob (fun z => hb (by simp [z])) (fun z => hb (by simp [z])) q)) hf (Nat.le_refl _) new
    refine ⟨.ref s.heap.objs.size, _, I1, rfl, ⟨_, x, rfl, I.hok.fresh (Nat.le_refl _), rfl, fun ys hy => by rw [I.tuple_inj hy hq]; exact hx⟩, ⟨⟨y, ?_⟩, hst.1.at fun o q => (sb.2 it (Ne.symm hne)).trans q, hne⟩, fun b hb => ?_⟩
    · have e1 : ((i + 1 : Nat) : Int) = (i : Int) + 1 := by omega
      rw [e1]
      exact he'
    · have hb' : b < s.heap.objs.size := by
        rcases (by simpa using hb : b = e ∨ b = it) with z | z <;> rw [z] <;> assumption
      rw [upd_ne (Nat.ne_of_lt hb')]
      exact (hf b hb).1
  done := by
    intro X hP hw hK hc i pins s σ H E I hf st hg
    subst hP hw hK
    obtain ⟨⟨old, he⟩, hit, hne⟩ := st
    obtain ⟨xs, hq, hx⟩ := hg
    obtain ⟨its, rv, p, hz⟩ := I.tuple hq
    obtain ⟨f0, f1, f2, f3, f4, f5⟩ := hf it (by simp)
    have hl := rv.length
    exact fl_enumEnd (I.ok.hd hc) he hit p (by simp; omega) fun h' eb => ⟨rfl, I.turned (t' := s.toks) (fun b o hb q => eb b o hb q) f0 f1 f3 f4 f5⟩
  self := fun A i s Q E ⟨⟨_, he⟩, _⟩ h => wpAny_pyIter_enum he h
theorem pi_enumT {X : Cx} {e : Expr} {ta : TA} {p pos tpos : Pos} {elts : List Expr} {kk : Nat} (hg : Gl X "enumerate") (hm : X.mg "enumerate" = none) (ha : PA X [e] ta) (hs : starEach [e] X.env = [(false, eval e X.env)] := by rfl) :
    PI X (.Tuple elts kk tpos) (.Call (.Name "enumerate" p) [e] [] pos) (fun σ H R => ta σ H fun vs H1 => ∃ a xs, vs = [.ref a] ∧ SqT X.K H1 a xs ∧ R (IteT X.K a) H1) := by
  refine ⟨fun pins s σ H R I h => ?_⟩
  refine Call_ (ld_blt I hg hm boot_enumerate (PyProof.Rows.callWith_type1 (thn (ha.run pos pins s σ H _ I h) fun us s1 ⟨vs, H1, I1, r1, q1⟩ => ?_) hs rfl))
  obtain ⟨a, xs, ex, hq, q⟩ := q1
  subst ex
  cases r1 with
  | cons r rr =>
    cases rr
    cases r
    obtain ⟨its, rv, p', hz⟩ := I1.tuple hq
    have hal : a < s1.heap.objs.size := by
      obtain ⟨o, ho, _⟩ := p'
      exact Heap.lt_size ho
    refine fl_enumCall (begins_tuple a its.toArray) p' fun h' he hit hk => wpAny_pyIter_enum he ?_
    have I2 : Inv X pins σ H1 { s1 with heap := h' } := I1.kept (t' := s1.toks) hk
    refine ⟨s1.heap.objs.size + 1, [s1.heap.objs.size + 1, s1.heap.objs.size], _, _, H1, rfl, I2, turn_enumT a (s1.heap.objs.size + 1) s1.heap.objs.size (Nat.ne_of_lt (Nat.lt_succ_of_lt hal)) (Nat.ne_of_lt hal), ⟨⟨.none, he⟩, ⟨_, hit, rfl, rfl⟩, Nat.succ_ne_self _⟩, fun b hb => ?_, q⟩
    have hle : s1.heap.objs.size ≤ b := by
      rcases (by simpa using hb : b = s1.heap.objs.size + 1 ∨ b = s1.heap.objs.size) with z | z
      · rw [z]
        exact Nat.le_add_right _ _
      · rw [z]
        exact Nat.le_refl _
    exact I1.fpOk hle (I1.hok.fresh hle)
section
variable {W : Wd} {k : Nat} {X : Cx} {Ew : WX} {ι : List Addr} {H : Hp}
def enumV (xs : List Val) : List Val := xs.zipIdx.map fun p => .tup [.int (p.2 : Nat), p.1]
theorem enumV_len (xs : List Val) : (enumV xs).length = xs.length := by simp [enumV]
theorem enumV_at {xs : List Val} {i : Nat} {x : Val} (h : (enumV xs)[i]? = some x) : ∃ y, xs[i]? = some y ∧ x = .tup [.int (i : Nat), y] := by
  unfold enumV at h
  rw [List.getElem?_map] at h
  obtain ⟨⟨y, j⟩, h1, rfl⟩ := Option.map_eq_some_iff.mp h
  rw [List.getElem?_zipIdx] at h1
  obtain ⟨z, h2, h3⟩ := Option.map_eq_some_iff.mp h1
  cases h3
  exact ⟨y, h2, by simp⟩
theorem ok_enumT {p : Addr} {vs : List V} {xs : List Val} (sx : SqT W.K H p vs) (rxs : RVs W.K ι H xs vs) : ItOk W ι H ⟨enumV xs, .none⟩ (IteT W.K p) := fun ι' H' st i e r _ => by
  have s1 := e.sqT sx
  have r1 := rxs.mono0 e
  refine ⟨fun x hx => ?_, fun hi => ⟨vs, s1, by
    have h2 : (enumV xs).length ≤ i := hi
    rw [enumV_len, rxs.len] at h2
    exact h2⟩⟩
  obtain ⟨y, hy, rfl⟩ := enumV_at (show (enumV xs)[i]? = some x from hx)
  obtain ⟨v, h3, h4⟩ := r1.at i hy
  refine ⟨⟨vs, v, s1, h3⟩, fun u H2 ⟨T, z, hu, nT, hH, hz⟩ => ?_⟩
  subst hu hH
  have h5 := hz vs s1
  rw [h3] at h5
  cases h5
  have ex : Ext ι' H' ι' (upd H' T (.tup [.int (i : Nat), v])) := Ext.newT nT
  exact ⟨ex, r.newT nT, .tup (SqT.of upd_same) (.cons (.int _) (.cons (h4.mono ex) .nil))⟩
end
end FL
/-! FL12: enumerate over texts, tuples, lists; reversed. -/
namespace FL
open PySem PySem.Spec PyProof.Rows L2
/-- the text z, each sign in a new pair with its number -/
def IteS (z : Str) : It :=
  ⟨fun i _ => i < z.cps.size, fun i H v H' => ∃ T c, v = .ref T ∧ H T = none ∧ z.cps[i]? = some c ∧ H' = upd H T (.tup [.int (i : Nat), .str ⟨#[c]⟩]), fun i _ => z.cps.size ≤ i⟩
theorem turn_enumS {P : Program} {w : World} {K : PySem.W.Frag} {elts : List Expr} {kk : Nat} {tpos : Pos} (z : Str) (t : Tok) (e it : Addr) :
    Turn P w K (.Tuple elts kk tpos) (IteS z) [e, it] e (fun i h => (∃ old, IsEnum h e it ((i : Nat) : Int) old) ∧ h.IsStrIter it (strIterType z) z t i ∧ e ≠ it) where
  mem := by simp
  obj := fun i h st b hb => by
    obtain ⟨⟨old, he⟩, ⟨o, ho, hc, hd⟩, _⟩ := st
    rcases (by simpa using hb : b = e ∨ b = it) with z | z
    · rw [z]
      exact ⟨_, he, fun v q => nomatch q⟩
    · rw [z]
      exact ⟨o, ho, fun v q => by rw [hd] at q; cases q⟩
  keep := fun i h h' ⟨⟨old, he⟩, ⟨o, ho, r⟩, hne⟩ k => ⟨⟨old, k e (by simp) _ he⟩, ⟨o, k it (by simp) o ho, r⟩, hne⟩
  item := by
    intro X hP hw hK hc i pins s σ H E I hf st hg
    subst hP hw hK
    obtain ⟨⟨old, he⟩, hit, hne⟩ := st
    have hlt : i < z.cps.size := hg
    have hel : e < s.heap.objs.size := Heap.lt_size he
    have hil : it < s.heap.objs.size := by
      obtain ⟨_, q, _⟩ := hit
      exact Heap.lt_size q
    refine wpAny_pyNext_enum_itemD (Draws.text (prog := X.prog) (w := X.w) (A := X.A.in1) (I.ok.hd hc) it z t) he hit hlt hne (by simp [hne]) fun y h' tk hy ho hst hT hsz hk => ?_
    obtain ⟨c, u, hc2, ey⟩ := hy
    subst ey
    refine ⟨_, rfl, wpAny_letOwnedTupleGo_enum (s := { s with heap := h', toks := tk + 1 }) ho fun h'' he' sb => ?_⟩
    have hT2 : h''.get? s.heap.objs.size = some { cls := .type "tuple", data := .seq #[.int i tk, .str ⟨#[c]⟩ u] } := (sb.2 _ (Nat.ne_of_gt hel)).trans hT
    have new : ObjOk X.prog X.w (upd H s.heap.objs.size (.tup [.int (i : Nat), .str ⟨#[c]⟩])) h'' s.heap.objs.size (.tup [.int (i : Nat), .str ⟨#[c]⟩]) := ⟨by show 2 ≤ sizeLine; decide, [.int i tk, .str ⟨#[c]⟩ u], .cons ⟨_, rfl⟩ (.cons ⟨_, rfl⟩ .nil), ⟨_, hT2, rfl, _, rfl⟩⟩
    have I1 : Inv X pins σ (upd H s.heap.objs.size (.tup [.int (i : Nat), .str ⟨#[c]⟩])) { s with heap := h'', toks := tk + 1 } :=
      I.turnedNew (t' := tk + 1) (ch := [e, it]) (fun b ob hb q => (sb.2 b fun z => hb (by simp [z])).trans (hk b ob (fun z => hb (by simp [z])) (fun z => hb (by simp [z])) q)) hf (Nat.le_refl _) new
    refine ⟨.ref s.heap.objs.size, _, I1, rfl, ⟨_, c, rfl, I.hok.fresh (Nat.le_refl _), hc2, rfl⟩, ⟨⟨.str ⟨#[c]⟩ u, ?_⟩, ?_, hne⟩, fun b hb => ?_⟩
    · have e1 : ((i + 1 : Nat) : Int) = (i : Int) + 1 := by omega
      rw [e1]
      exact he'
    · obtain ⟨o, ho2, r⟩ := hst
      exact ⟨o, (sb.2 it (Ne.symm hne)).trans ho2, r⟩
    · have hb' : b < s.heap.objs.size := by
        rcases (by simpa using hb : b = e ∨ b = it) with z | z <;> rw [z] <;> assumption
      rw [upd_ne (Nat.ne_of_lt hb')]
      exact (hf b hb).1
  done := by
    intro X hP hw hK hc i pins s σ H E I hf st hg
    subst hP hw hK
    obtain ⟨⟨old, he⟩, hit, hne⟩ := st
    obtain ⟨f0, f1, f2, f3, f4, f5⟩ := hf it (by simp)
    have hle : z.cps.size ≤ i := hg
    have ty : s.TypeIs (.ref e) "enumerate" := ⟨_, he, rfl⟩
    unfold pyNext
    refine wpAny_bind (wpAny_attempt (wpAny_callSpecial?_slot (name := Str.ofString "__next__") ty F.slot_enumerate_next (wpAny_call_entry F.slot_enumerate_next ty F.entry_enumerate_next ?_ (F.args_enumerate_next_1 _))))
    show wpAny _ _ (field (.ref e) 2 >>= _) _ _ _
    refine wpAny_bind (wpAny_field he rfl (x := .ref it) rfl ?_)
    have hx : z.cps[i]? = none := Array.getElem?_eq_none hle
    cases ha : z.cps.all (· < 128)
    · simp only [strIterType, ha, Bool.false_eq_true, if_false] at hit
      refine wpAny_bind (wpAny_nextOf_wide_end (I.ok.hd hc) hit hx fun h' x b1 ⟨o, b2, b3⟩ => ?_)
      exact wpAny_bind (wpAny_isInstance (T := "StopIteration") (b := true) ⟨o, b2, b3⟩ isSubtype_stop (wpAny_pure ⟨rfl, I.turned (t' := s.toks) (fun b o hb q => b1 b o hb q) f0 f1 f3 f4 f5⟩))
    · simp only [strIterType, ha, if_true] at hit
      refine wpAny_bind (wpAny_nextOf_ascii_end (I.ok.hd hc) hit hx fun h' x b1 ⟨o, b2, b3⟩ => ?_)
      exact wpAny_bind (wpAny_isInstance (T := "StopIteration") (b := true) ⟨o, b2, b3⟩ isSubtype_stop (wpAny_pure ⟨rfl, I.turned (t' := s.toks) (fun b o hb q => b1 b o hb q) f0 f1 f3 f4 f5⟩))
  self := fun A i s Q E ⟨⟨_, he⟩, _⟩ h => wpAny_pyIter_enum he h
/-- enumerate of a tuple, a list, a text -/
def iEnumA (K : PySem.W.Frag) (ta : TA) : TI := fun σ H R => ta σ H fun vs H1 => (∃ a xs, vs = [.ref a] ∧ SqT K H1 a xs ∧ R (IteT K a) H1) ∨ (∃ a xs, vs = [.ref a] ∧ SqL K H1 a xs ∧ R (Ite K a) H1) ∨ ∃ z, vs = [.str z] ∧ R (IteS z) H1
theorem pi_enumA {X : Cx} {e : Expr} {ta : TA} {p pos tpos : Pos} {elts : List Expr} {kk : Nat} (hg : Gl X "enumerate") (hm : X.mg "enumerate" = none) (ha : PA X [e] ta) (hs : starEach [e] X.env = [(false, eval e X.env)] := by rfl) :
    PI X (.Tuple elts kk tpos) (.Call (.Name "enumerate" p) [e] [] pos) (iEnumA X.K ta) := by
  refine ⟨fun pins s σ H R I h => ?_⟩
  refine Call_ (ld_blt I hg hm boot_enumerate (PyProof.Rows.callWith_type1 (thn (ha.run pos pins s σ H _ I h) fun us s1 ⟨vs, H1, I1, r1, q1⟩ => ?_) hs rfl))
  have le2 : ∀ b ∈ [s1.heap.objs.size + 1, s1.heap.objs.size], s1.heap.objs.size ≤ b := fun b hb => by
    rcases (by simpa using hb : b = s1.heap.objs.size + 1 ∨ b = s1.heap.objs.size) with z | z
    · rw [z]
      exact Nat.le_add_right _ _
    · rw [z]
      exact Nat.le_refl _
  rcases q1 with ⟨a, xs, ex, hq, q⟩ | ⟨a, xs, ex, hq, q⟩ | ⟨z, ex, q⟩ <;> subst ex
  · cases r1 with
    | cons r rr =>
      cases rr
      cases r
      obtain ⟨its, rv, p', hz⟩ := I1.tuple hq
      have hal : a < s1.heap.objs.size := by
        obtain ⟨o, ho, _⟩ := p'
        exact Heap.lt_size ho
      refine fl_enumCall (begins_tuple a its.toArray) p' fun h' he hit hk => wpAny_pyIter_enum he ?_
      have I2 : Inv X pins σ H1 { s1 with heap := h' } := I1.kept (t' := s1.toks) hk
      exact ⟨s1.heap.objs.size + 1, [s1.heap.objs.size + 1, s1.heap.objs.size], _, _, H1, rfl, I2, turn_enumT a (s1.heap.objs.size + 1) s1.heap.objs.size (Nat.ne_of_lt (Nat.lt_succ_of_lt hal)) (Nat.ne_of_lt hal), ⟨⟨.none, he⟩, ⟨_, hit, rfl, rfl⟩, Nat.succ_ne_self _⟩, fun b hb => I1.fpOk (le2 b hb) (I1.hok.fresh (le2 b hb)), q⟩
  · cases r1 with
    | cons r rr =>
      cases rr
      cases r
      obtain ⟨its, rv, p', hz⟩ := I1.list hq
      refine call_enumerate_list p'.isList fun h' he hit hsz hk => wpAny_pyIter_enum he ?_
      have I2 : Inv X pins σ H1 { s1 with heap := h' } := I1.kept (t' := s1.toks) hk
      exact ⟨s1.heap.objs.size + 1, [s1.heap.objs.size + 1, s1.heap.objs.size], _, _, H1, rfl, I2, turn_enum a (s1.heap.objs.size + 1) s1.heap.objs.size, ⟨⟨.none, he⟩, hit, Nat.succ_ne_self _⟩, fun b hb => I1.fpOk (le2 b hb) (I1.hok.fresh (le2 b hb)), q⟩
  · cases r1 with
    | cons r rr =>
      cases rr
      obtain ⟨t, rfl⟩ := r
      refine fl_enumCall (begins_text z t) trivial fun h' he hit hk => wpAny_pyIter_enum he ?_
      have I2 : Inv X pins σ H1 { s1 with heap := h' } := I1.kept (t' := s1.toks) hk
      exact ⟨s1.heap.objs.size + 1, [s1.heap.objs.size + 1, s1.heap.objs.size], _, _, H1, rfl, I2, turn_enumS z t (s1.heap.objs.size + 1) s1.heap.objs.size, ⟨⟨.none, he⟩, ⟨_, hit, rfl, rfl⟩, Nat.succ_ne_self _⟩, fun b hb => I1.fpOk (le2 b hb) (I1.hok.fresh (le2 b hb)), q⟩
section
variable {W : Wd} {k : Nat} {X : Cx} {Ew : WX} {ι ι' : List Addr} {H H' : Hp} {st : Sto} {a b e : Expr} {es : List Expr} {ma mb me : FE} {mt mu : FT} {mas : FA} {pos : Pos} {tg : Expr}
theorem ok_enumL {j : Nat} {p : Addr} {xs : List Val} (h0 : ι[j]? = some p) : ItOk W ι H ⟨enumV xs, .two j xs j xs⟩ (Ite W.K p) := fun ι' H' st i e r lv => by
  obtain ⟨l1, _⟩ : st[j]? = some (.lst xs) ∧ st[j]? = some (.lst xs) := lv
  obtain ⟨vs, a1, a2⟩ := r.lst l1 (e.pre _ _ h0)
  refine ⟨fun x hx => ?_, fun hi => ⟨vs, SqL.of a1, by
    have h2 : (enumV xs).length ≤ i := hi
    rw [enumV_len, a2.len] at h2
    exact h2⟩⟩
  obtain ⟨y, hy, rfl⟩ := enumV_at (show (enumV xs)[i]? = some x from hx)
  obtain ⟨v, h3, h4⟩ := a2.at i hy
  refine ⟨⟨vs, v, SqL.of a1, h3⟩, fun u H2 ⟨T, z, hu, nT, hH, hz⟩ => ?_⟩
  subst hu hH
  have h5 := hz vs (SqL.of a1)
  rw [h3] at h5
  cases h5
  have ex : Ext ι' H' ι' (upd H' T (.tup [.int (i : Nat), v])) := Ext.newT nT
  exact ⟨ex, r.newT nT, .tup (SqT.of upd_same) (.cons (.int _) (.cons (h4.mono ex) .nil))⟩
theorem ok_enumS (s : List Nat) : ItOk W ι H ⟨enumV (s.map fun c => .str [c]), .none⟩ (IteS (St' s)) := fun ι' H' st i e r lv => by
  refine ⟨fun x hx => ?_, fun hi => by
    have h2 : (enumV (s.map fun c => Val.str [c])).length ≤ i := hi
    rw [enumV_len, List.length_map] at h2
    show s.toArray.size ≤ i
    simpa using h2⟩
  obtain ⟨y, hy, rfl⟩ := enumV_at (show (enumV (s.map fun c => Val.str [c]))[i]? = some x from hx)
  rw [List.getElem?_map] at hy
  obtain ⟨c, h1, rfl⟩ := Option.map_eq_some_iff.mp hy
  have hi := (List.getElem?_eq_some_iff.mp h1).1
  refine ⟨by show i < s.toArray.size; simpa using hi, fun u H2 ⟨T, c', hu, nT, hz, hH⟩ => ?_⟩
  subst hu hH
  have h5 : s.toArray[i]? = some c' := hz
  rw [List.getElem?_toArray, h1] at h5
  cases h5
  have ex : Ext ι' H' ι' (upd H' T (.tup [.int (i : Nat), .str ⟨#[c]⟩])) := Ext.newT nT
  exact ⟨ex, r.newT nT, .tup (SqT.of upd_same) (.cons (.int _) (.cons (.str [c]) .nil))⟩
def asEnum (st : Sto) : Val → Option Itb
  | .tup xs => some ⟨enumV xs, .none⟩
  | .str s => some ⟨enumV (s.map fun c => .str [c]), .none⟩
  | .ref p => match st[p]? with
    | some (.lst xs) => some ⟨enumV xs, .two p xs p xs⟩
    | _ => none
  | _ => none
def fEnum (m : FA) : FI := bnd m fun vs => fun _ st => match vs with
  | [x] => (asEnum st x).map fun b => .ok b st
  | _ => none
theorem si_enum {elts : List Expr} {kk : Nat} {p tpos : Pos} (C : Ctx0 W k X Ew) (hm : W.mg "enumerate" = none) (ha : SA W X Ew [a] mas) (hg : Gl X "enumerate" := by rfl)
    (hs : starEach [a] X.env = [(false, eval a X.env)] := by rfl) : SI W X Ew (.Tuple elts kk tpos) (.Call (.Name "enumerate" p) [a] [] pos) (fEnum mas) :=
  imI (pi_enumA hg (by rw [C.em]; exact hm) ha hs) fun σ H Q ⟨ι, sl, st, r, hs, hr, hm, hq⟩ => run hs hr hm hq fun x st1 ι1 H1 vx e1 s1 r1 rx hm1 hq1 => by
    split at hm1
    · rename_i x
      obtain ⟨b, h1, rfl⟩ := Option.map_eq_some_iff.mp hm1
      cases rx with
      | cons r0 rr =>
        cases rr
        rw [C.eK]
        cases r0 with
        | @tup p vs xs sx rxs =>
          cases h1
          exact .inl ⟨p, vs, rfl, sx, hq1 ι1 H1 _ (Ext.refl _ _) r1 (ok_enumT sx rxs)⟩
        | str s =>
          cases h1
          exact .inr (.inr ⟨_, rfl, hq1 ι1 H1 _ (Ext.refl _ _) r1 (ok_enumS s)⟩)
        | @ref j p h0 =>
          have h2 : (match st1[j]? with | some (.lst xs) => some (Itb.mk (enumV xs) (.two j xs j xs)) | _ => none) = some b := h1
          split at h2
          · rename_i xs h5
            cases h2
            obtain ⟨vs, h6, _⟩ := r1.lst h5 h0
            exact .inr (.inl ⟨p, vs, rfl, SqL.of h6, hq1 ι1 H1 _ (Ext.refl _ _) r1 (ok_enumL h0)⟩)
          · cases h2
        | _ => cases h1
    · cases hm1
end
end FL
/-! FL13: comprehensions of two clauses. -/
namespace FL
open PySem PySem.Spec PyProof.Rows L2
section
variable {W : Wd} {k : Nat} {X : Cx} {Ew : WX} {ι ι' : List Addr} {H H' : Hp} {st : Sto} {a b e : Expr} {es : List Expr} {ma mb me : FE} {mt mu mt1 : FT} {mas : FA} {pos : Pos} {s : Stmt} {ss : List Stmt} {m n : FS}
open Classical in
noncomputable def lcL2 (l : Lv) (all : List Val) (g : FG) (t : FT) (mi1 : FI) (g1 : FG) (t1 : FT) (m : FE) (vs1 : List Nat) (sl : Sl) : List Val → Sto → Option (List Val × Sto)
  | [], st => if Live l all st then some ([], st) else none
  | x :: xs, st => if Live l all st then (match g x sl st with
      | none => none
      | some (sl1, st1) => match t sl1 st1 with
        | some (.ok true st2) => (match mi1 sl1 st2 with
          | some (.ok b1 st3) => (match lcL b1.live b1.items g1 t1 m (wipeL sl1 vs1) b1.items st3 with
            | some (ys, st4) => (match lcL2 l all g t mi1 g1 t1 m vs1 sl xs st4 with
              | some (zs, st5) => some (ys ++ zs, st5)
              | none => none)
            | none => none)
          | _ => none)
        | some (.ok false st2) => lcL2 l all g t mi1 g1 t1 m vs1 sl xs st2
        | _ => none) else none
noncomputable def fLc2 (mi : FI) (g : FG) (t : FT) (mi1 : FI) (g1 : FG) (t1 : FT) (m : FE) (vs vs1 : List Nat) : FE := bnd mi fun b => fun sl st => match lcL2 b.live b.items g t mi1 g1 t1 m vs1 (wipeL sl vs) b.items st with
  | some (ys, st') => if ys.length ≤ LINE then some (.ok (.ref st'.length) (st' ++ [.lst ys])) else none
  | none => none
open Classical in
theorem lc2_imp {mi mi1 : FI} {g g1 : FG} {vs vs1 : List Nat} {σ : L2.St} {H : Hp} {Q : VK} (h : teOf W Ew (fLc2 mi g mt mi1 g1 mt1 me vs vs1) σ H Q) : tLc2 (tiOf W Ew mi) (tgW W vs g) (ttOf W E00 mt) (tiOf W E00 mi1) (tgW W vs1 g1) (ttOf W E00 mt1) (teOf W E00 me) vs vs1 σ H Q := by
  obtain ⟨ι, sl, st, r, hs, hr, hm, hq⟩ := h
  refine run hs hr hm hq fun b st1 ι1 H1 J e1 s1 r1 ok hm1 hq1 => ?_
  intro D hD
  have nD : ∀ i : Nat, ι1[i]? ≠ some D := fun i q => by
    have hi := (List.getElem?_eq_some_iff.mp q).1
    rw [r1.len] at hi
    obtain ⟨_, h3, _⟩ := r1.ob i D _ q (List.getElem?_eq_getElem hi)
    rw [hD] at h3
    cases h3
  have hm2 : (match lcL2 b.live b.items g mt mi1 g1 mt1 me vs1 (wipeL sl vs) b.items st1 with | some (ys, st') => if ys.length ≤ LINE then some (R.ok (.ref st'.length) (st' ++ [.lst ys])) else none | none => none) = some r := hm1
  cases hl : lcL2 b.live b.items g mt mi1 g1 mt1 me vs1 (wipeL sl vs) b.items st1 with
  | none => rw [hl] at hm2; cases hm2
  | some p =>
    obtain ⟨ys0, st0⟩ := p
    rw [hl] at hm2
    have hm3 : (if ys0.length ≤ LINE then some (R.ok (Val.ref st0.length) (st0 ++ [.lst ys0])) else none) = some r := hm2
    by_cases hz : ys0.length ≤ LINE
    case neg => rw [if_neg hz] at hm3; cases hm3
    rw [if_pos hz] at hm3
    cases hm3
    have sw := s1.wipe vs
    refine ⟨fun i mm H => ∃ ι2 st2 acc vacc ys, Ext ι1 H1 ι2 H ∧ H D = some (.lst vacc) ∧ (∀ i : Nat, ι2[i]? ≠ some D) ∧ RVs W.K ι2 H acc vacc ∧ Rel W ι2 H st2 ∧ i ≤ b.items.length ∧ mm = b.items.length - i ∧
      lcL2 b.live b.items g mt mi1 g1 mt1 me vs1 (wipeL sl vs) (b.items.drop i) st2 = some (ys, st0) ∧ ys0 = acc ++ ys, ⟨_, ι1, st1, [], [], ys0, (Ext.refl _ _).putO hD, upd_same, nD, .nil, ?_, Nat.zero_le _, rfl, hl, rfl⟩, ?_⟩
    · exact ⟨r1.len, r1.nd, fun i a o h1 h2 => by
        obtain ⟨ho, h3, h4⟩ := r1.ob i a o h1 h2
        exact ⟨ho, by rw [upd_ne (ne_of_none h3 hD)]; exact h3, h4.mono ((Ext.refl _ _).putO hD)⟩, fun q z => (r1.hot q z).ext (ι := ι1) ((Ext.refl _ _).putO hD).toExt0⟩
    rintro i mm H2 ⟨ι2, st2, acc, vacc, ys, e2, hD2, nD2, ra, r2, hi, rfl, hf, rfl⟩
    cases hd : b.items.drop i with
    | nil =>
      rw [hd] at hf
      have hf2 : (if Live b.live b.items st2 then some ([], st2) else none) = some (ys, st0) := hf
      by_cases hlv : Live b.live b.items st2
      case neg => rw [if_neg hlv] at hf2; cases hf2
      rw [if_pos hlv] at hf2
      obtain ⟨rfl, rfl⟩ := Prod.mk.inj (Option.some.inj hf2)
      have hi2 : b.items.length ≤ i := by
        have := congrArg List.length hd
        rw [List.length_drop, List.length_nil] at this
        omega
      refine .inl ⟨(ok ι2 H2 st2 i e2.toExt0 r2 hlv).2 hi2, ?_⟩
      rw [List.append_nil] at hq1
      exact hq1 _ _ _ (e2.join hD) (r2.join hD2 nD2 (show RO W ι2 H2 (.lst acc) (.lst vacc) from ra)) (.ref (by rw [← r2.len]; simp))
    | cons x xs =>
      rw [hd] at hf
      have hf2 : (if Live b.live b.items st2 then (match g x (wipeL sl vs) st2 with
        | none => none
        | some (sl1, st1) => match mt sl1 st1 with
          | some (.ok true st2) => (match mi1 sl1 st2 with
            | some (.ok b1 st3) => (match lcL b1.live b1.items g1 mt1 me (wipeL sl1 vs1) b1.items st3 with
              | some (ys, st4) => (match lcL2 b.live b.items g mt mi1 g1 mt1 me vs1 (wipeL sl vs) xs st4 with
                | some (zs, st5) => some (ys ++ zs, st5)
                | none => none)
              | none => none)
            | _ => none)
          | some (.ok false st2) => lcL2 b.live b.items g mt mi1 g1 mt1 me vs1 (wipeL sl vs) xs st2
          | _ => none) else none) = some (ys, st0) := hf
      by_cases hlv : Live b.live b.items st2
      case neg => rw [if_neg hlv] at hf2; cases hf2
      rw [if_pos hlv] at hf2
      have hx : b.items[i]? = some x := by
        have h0 := List.getElem?_drop (xs := b.items) (i := i) (j := 0)
        rw [hd] at h0
        simpa using h0.symm
      have hxs : b.items.drop (i + 1) = xs := by
        rw [← List.drop_drop, hd]
        rfl
      have hil : i < b.items.length := (List.getElem?_eq_some_iff.mp hx).1
      obtain ⟨hgo, hy⟩ := (ok ι2 H2 st2 i e2.toExt0 r2 hlv).1 x hx
      refine .inr ⟨hgo, fun H' => ∃ ι3 st3 acc3 vacc3 ys3, Ext ι1 H1 ι3 H' ∧ H' D = some (.lst vacc3) ∧ (∀ i : Nat, ι3[i]? ≠ some D) ∧ RVs W.K ι3 H' acc3 vacc3 ∧ Rel W ι3 H' st3 ∧
        lcL2 b.live b.items g mt mi1 g1 mt1 me vs1 (wipeL sl vs) xs st3 = some (ys3, st0) ∧ acc ++ ys = acc3 ++ ys3, ?_, fun y H3 hyl => ?_⟩
      · rintro H' ⟨ι3, st3, acc3, vacc3, ys3, h1, h2, h3, h4, h5, h7, h8⟩
        exact ⟨b.items.length - (i + 1), by omega, ι3, st3, acc3, vacc3, ys3, h1, h2, h3, h4, h5, hil, rfl, by rw [hxs]; exact h7, h8⟩
      obtain ⟨e3, r3, ry⟩ := hy y H3 hyl
      cases h5 : g x (wipeL sl vs) st2 with
      | none => rw [h5] at hf2; cases hf2
      | some p =>
        obtain ⟨sl4, st4⟩ := p
        rw [h5] at hf2
        refine ⟨ι2, wipeL sl vs, st2, x, sl4, st4, sw.mono (e2.trans e3), r3, ry, h5, fun ι4 H4 σ4 e4 r4 s4 w4 => ⟨by rw [w4, wipe_wipe], ?_⟩⟩
        have hf3 : (match mt sl4 st4 with
          | some (.ok true st2) => (match mi1 sl4 st2 with
            | some (.ok b1 st3) => (match lcL b1.live b1.items g1 mt1 me (wipeL sl4 vs1) b1.items st3 with
              | some (ys, st4) => (match lcL2 b.live b.items g mt mi1 g1 mt1 me vs1 (wipeL sl vs) xs st4 with
                | some (zs, st5) => some (ys ++ zs, st5)
                | none => none)
              | none => none)
            | _ => none)
          | some (.ok false st2) => lcL2 b.live b.items g mt mi1 g1 mt1 me vs1 (wipeL sl vs) xs st2
          | _ => none) = some (ys, st0) := hf2
        have e24 : Ext ι2 H2 ι4 H4 := e3.trans e4
        obtain ⟨hD4, nD4⟩ := e24.oth D _ hD2 nD2
        cases h6 : mt sl4 st4 with
        | none => rw [h6] at hf3; cases hf3
        | some r6 =>
          rw [h6] at hf3
          cases r6 with
          | ex c st5 => cases hf3
          | ok bb st5 =>
            refine ⟨ι4, sl4, st4, _, s4, r4, h6, fun ι5 H5 bb' e5 r5 hb => ?_⟩
            subst hb
            obtain ⟨hD5, nD5⟩ := e5.oth D _ hD4 nD4
            have ra5 := ra.mono (e24.trans e5)
            cases bb with
            | false =>
              exact ⟨ι5, st5, acc, vacc, ys, (e2.trans e24).trans e5, hD5, nD5, ra5, r5, hf3, rfl⟩
            | true =>
              have hf4 : (match mi1 sl4 st5 with
                | some (.ok b1 st3) => (match lcL b1.live b1.items g1 mt1 me (wipeL sl4 vs1) b1.items st3 with
                  | some (ys, st4) => (match lcL2 b.live b.items g mt mi1 g1 mt1 me vs1 (wipeL sl vs) xs st4 with
                    | some (zs, st5) => some (ys ++ zs, st5)
                    | none => none)
                  | none => none)
                | _ => none) = some (ys, st0) := hf3
              cases h7 : mi1 sl4 st5 with
              | none => rw [h7] at hf4; cases hf4
              | some r7 =>
                rw [h7] at hf4
                cases r7 with
                | ex c st6 => cases hf4
                | ok b1 st6 =>
                  have hf5 : (match lcL b1.live b1.items g1 mt1 me (wipeL sl4 vs1) b1.items st6 with
                    | some (ys, st4) => (match lcL2 b.live b.items g mt mi1 g1 mt1 me vs1 (wipeL sl vs) xs st4 with
                      | some (zs, st5) => some (ys ++ zs, st5)
                      | none => none)
                    | none => none) = some (ys, st0) := hf4
                  cases h8 : lcL b1.live b1.items g1 mt1 me (wipeL sl4 vs1) b1.items st6 with
                  | none => rw [h8] at hf5; cases hf5
                  | some q8 =>
                    obtain ⟨ysI, st8⟩ := q8
                    rw [h8] at hf5
                    have hf6 : (match lcL2 b.live b.items g mt mi1 g1 mt1 me vs1 (wipeL sl vs) xs st8 with
                      | some (zs, st5) => some (ysI ++ zs, st5)
                      | none => none) = some (ys, st0) := hf5
                    cases h9 : lcL2 b.live b.items g mt mi1 g1 mt1 me vs1 (wipeL sl vs) xs st8 with
                    | none => rw [h9] at hf6; cases hf6
                    | some q9 =>
                      obtain ⟨zs, st9⟩ := q9
                      rw [h9] at hf6
                      cases hf6
                      refine ⟨ι5, sl4, st5, _, s4.mono e5, r5, h7, fun ι6 H6 J1 e6 r6 ok1 => ?_⟩
                      obtain ⟨hD6, nD6⟩ := e6.oth D _ hD5 nD5
                      have ra6 := ra5.mono e6
                      have e16 : Ext ι1 H1 ι6 H6 := ((e2.trans e24).trans e5).trans e6
                      refine ⟨fun j kk H => ∃ ι7 st7 acc7 vacc7 ys7, Ext0 ι6 H6 ι7 H ∧ Ext ι1 H1 ι7 H ∧ H D = some (.lst vacc7) ∧ (∀ i : Nat, ι7[i]? ≠ some D) ∧ RVs W.K ι7 H acc7 vacc7 ∧ Rel W ι7 H st7 ∧ j ≤ b1.items.length ∧ kk = b1.items.length - j ∧
                        lcL b1.live b1.items g1 mt1 me (wipeL sl4 vs1) (b1.items.drop j) st7 = some (ys7, st8) ∧ acc ++ ysI = acc7 ++ ys7, ⟨_, ι6, st6, acc, vacc, ysI, (Ext.refl _ _).toExt0, e16, hD6, nD6, ra6, r6, Nat.zero_le _, rfl, h8, rfl⟩, ?_⟩
                      rintro j kk H7 ⟨ι7, st7, acc7, vacc7, ys7, e7, e17, hD7, nD7, ra7, r7, hj, rfl, hf7, he7⟩
                      cases hd1 : b1.items.drop j with
                      | nil =>
                        rw [hd1] at hf7
                        have hf8 : (if Live b1.live b1.items st7 then some ([], st7) else none) = some (ys7, st8) := hf7
                        by_cases hlv1 : Live b1.live b1.items st7
                        case neg => rw [if_neg hlv1] at hf8; cases hf8
                        rw [if_pos hlv1] at hf8
                        obtain ⟨rfl, rfl⟩ := Prod.mk.inj (Option.some.inj hf8)
                        have hj2 : b1.items.length ≤ j := by
                          have := congrArg List.length hd1
                          rw [List.length_drop, List.length_nil] at this
                          omega
                        refine .inl ⟨(ok1 ι7 H7 st7 j e7 r7 hlv1).2 hj2, ι7, st7, acc7, vacc7, zs, e17, hD7, nD7, ra7, r7, h9, ?_⟩
                        rw [List.append_nil] at he7
                        rw [← he7, List.append_assoc]
                      | cons x1 xs1 =>
                        rw [hd1] at hf7
                        have hf8 : (if Live b1.live b1.items st7 then (match g1 x1 (wipeL sl4 vs1) st7 with
                          | none => none
                          | some (sl1, st1) => match mt1 sl1 st1 with
                            | some (.ok true st2) => (match me sl1 st2 with
                              | some (.ok y st3) => (match lcL b1.live b1.items g1 mt1 me (wipeL sl4 vs1) xs1 st3 with
                                | some (ys, st4) => some (y :: ys, st4)
                                | none => none)
                              | _ => none)
                            | some (.ok false st2) => lcL b1.live b1.items g1 mt1 me (wipeL sl4 vs1) xs1 st2
                            | _ => none) else none) = some (ys7, st8) := hf7
                        by_cases hlv1 : Live b1.live b1.items st7
                        case neg => rw [if_neg hlv1] at hf8; cases hf8
                        rw [if_pos hlv1] at hf8
                        have hx1 : b1.items[j]? = some x1 := by
                          have h0 := List.getElem?_drop (xs := b1.items) (i := j) (j := 0)
                          rw [hd1] at h0
                          simpa using h0.symm
                        have hxs1 : b1.items.drop (j + 1) = xs1 := by
                          rw [← List.drop_drop, hd1]
                          rfl
                        have hjl : j < b1.items.length := (List.getElem?_eq_some_iff.mp hx1).1
                        obtain ⟨hgo1, hy1⟩ := (ok1 ι7 H7 st7 j e7 r7 hlv1).1 x1 hx1
                        refine .inr ⟨hgo1, fun H' => ∃ ι3 st3 acc3 vacc3 ys3, Ext0 ι6 H6 ι3 H' ∧ Ext ι1 H1 ι3 H' ∧ H' D = some (.lst vacc3) ∧ (∀ i : Nat, ι3[i]? ≠ some D) ∧ RVs W.K ι3 H' acc3 vacc3 ∧ Rel W ι3 H' st3 ∧
                          lcL b1.live b1.items g1 mt1 me (wipeL sl4 vs1) xs1 st3 = some (ys3, st8) ∧ acc ++ ysI = acc3 ++ ys3, ?_, fun y1 H8 hyl1 => ?_⟩
                        · rintro H' ⟨ι3, st3, acc3, vacc3, ys3, q0, q1, q2, q3, q4, q5, q7, q8⟩
                          exact ⟨b1.items.length - (j + 1), by omega, ι3, st3, acc3, vacc3, ys3, q0, q1, q2, q3, q4, q5, hjl, rfl, by rw [hxs1]; exact q7, q8⟩
                        obtain ⟨e8, r8, ry1⟩ := hy1 y1 H8 hyl1
                        have s8 : RL W.K ι7 H8 (wipeL sl4 vs1) (L2.wipe σ4 vs1) := ((((s4.mono e5).mono0 e6.toExt0).mono0 e7).mono e8).wipe vs1
                        cases h10 : g1 x1 (wipeL sl4 vs1) st7 with
                        | none => rw [h10] at hf8; cases hf8
                        | some p10 =>
                          obtain ⟨sl10, st10⟩ := p10
                          rw [h10] at hf8
                          refine ⟨ι7, wipeL sl4 vs1, st7, x1, sl10, st10, s8, r8, ry1, h10, fun ι11 H11 σ11 e11 r11 s11 w11 => ⟨by rw [w11, wipe_wipe], ?_⟩⟩
                          have hf9 : (match mt1 sl10 st10 with
                            | some (.ok true st2) => (match me sl10 st2 with
                              | some (.ok y st3) => (match lcL b1.live b1.items g1 mt1 me (wipeL sl4 vs1) xs1 st3 with
                                | some (ys, st4) => some (y :: ys, st4)
                                | none => none)
                              | _ => none)
                            | some (.ok false st2) => lcL b1.live b1.items g1 mt1 me (wipeL sl4 vs1) xs1 st2
                            | _ => none) = some (ys7, st8) := hf8
                          have e711 : Ext ι7 H7 ι11 H11 := e8.trans e11
                          obtain ⟨hD11, nD11⟩ := e711.oth D _ hD7 nD7
                          cases h12 : mt1 sl10 st10 with
                          | none => rw [h12] at hf9; cases hf9
                          | some r12 =>
                            rw [h12] at hf9
                            cases r12 with
                            | ex c st12 => cases hf9
                            | ok bb st12 =>
                              refine ⟨ι11, sl10, st10, _, s11, r11, h12, fun ι12 H12 bb' e12 r12 hb => ?_⟩
                              subst hb
                              obtain ⟨hD12, nD12⟩ := e12.oth D _ hD11 nD11
                              have e712 := e711.trans e12
                              have ra12 := ra7.mono e712
                              cases bb with
                              | false => exact ⟨ι12, st12, acc7, vacc7, ys7, e7.trans e712.toExt0, e17.trans e712, hD12, nD12, ra12, r12, hf9, he7⟩
                              | true =>
                                have hf10 : (match me sl10 st12 with
                                  | some (.ok y st3) => (match lcL b1.live b1.items g1 mt1 me (wipeL sl4 vs1) xs1 st3 with
                                    | some (ys, st4) => some (y :: ys, st4)
                                    | none => none)
                                  | _ => none) = some (ys7, st8) := hf9
                                cases h13 : me sl10 st12 with
                                | none => rw [h13] at hf10; cases hf10
                                | some r13 =>
                                  rw [h13] at hf10
                                  cases r13 with
                                  | ex c st13 => cases hf10
                                  | ok z st13 =>
                                    have hf11 : (match lcL b1.live b1.items g1 mt1 me (wipeL sl4 vs1) xs1 st13 with | some (ys, st4) => some (z :: ys, st4) | none => none) = some (ys7, st8) := hf10
                                    cases h14 : lcL b1.live b1.items g1 mt1 me (wipeL sl4 vs1) xs1 st13 with
                                    | none => rw [h14] at hf11; cases hf11
                                    | some q =>
                                      obtain ⟨ys14, st14⟩ := q
                                      rw [h14] at hf11
                                      cases hf11
                                      refine ⟨ι12, sl10, st12, _, s11.mono e12, r12, h13, fun ι15 H15 vz e15 r15 rz => ?_⟩
                                      obtain ⟨hD15, nD15⟩ := e15.oth D _ hD12 nD12
                                      have ra15 := ra12.mono e15
                                      have hv : vacc7.length < sizeLine := by
                                        rw [← ra7.len, ← line_eq]
                                        have hz2 := hz
                                        rw [← List.append_assoc, he7] at hz2
                                        simp only [List.length_append, List.length_cons] at hz2
                                        omega
                                      exact ⟨vacc7, hD15, hv, ι15, st13, acc7 ++ [z], vacc7 ++ [vz], ys14, (e7.trans e712.toExt0).trans (e15.toExt0.trans (Ext0.putO hD15)), ((e17.trans e712).trans e15).putO hD, upd_same, nD15, (ra15.app (.cons rz .nil)).mono0 (Ext0.putO hD15), r15.putO hD15 nD15, h14,
                                        by rw [he7, List.append_assoc]; rfl⟩
theorem se_lc2 {tg iter tg1 iter1 : Expr} {ifs ifs1 : List Expr} {scope : Scope} {own : List (Str × Nat)} {vs1 : List Nat} {mi mi1 : FI} {g g1 : FG} (C : Ctx W k X Ew) (hi : SI W X Ew tg iter mi) (ok : BlkOk X.N X.env.scope scope own) (hv : ∀ i ∈ vs1, i ∈ own.map (·.2))
    (hg : ∀ (s : Shared) (H : Hp) (c : Addr) (cl : List (Str × Addr)) (fp : List Addr), SGw W (X.blk s H scope (compEnvC scope cl c X.env) fp) (own.map (·.2)) tg g)
    (ht : ∀ (s : Shared) (H : Hp) (c : Addr) (cl : List (Str × Addr)) (fp : List Addr), STs W (X.blk s H scope (compEnvC scope cl c X.env) fp) ifs mt)
    (hi1 : ∀ (s : Shared) (H : Hp) (c : Addr) (cl : List (Str × Addr)) (fp : List Addr), SI W (X.blk s H scope (compEnvC scope cl c X.env) fp) E00 tg1 iter1 mi1)
    (hg1 : ∀ (s : Shared) (H : Hp) (c : Addr) (cl : List (Str × Addr)) (fp : List Addr), SGw W (X.blk s H scope (compEnvC scope cl c X.env) fp) vs1 tg1 g1)
    (ht1 : ∀ (s : Shared) (H : Hp) (c : Addr) (cl : List (Str × Addr)) (fp : List Addr), STs W (X.blk s H scope (compEnvC scope cl c X.env) fp) ifs1 mt1)
    (he : ∀ (s : Shared) (H : Hp) (c : Addr) (cl : List (Str × Addr)) (fp : List Addr), SE W (X.blk s H scope (compEnvC scope cl c X.env) fp) E00 e me)
    (h1 : ∀ x, foldedSetIterable iter X.env x = pure x := by intro _; rfl) (h2 : ∀ env x, foldedSetIterable iter1 env x = pure x := by intro _ _; rfl) : SE W X Ew (.ListComp e [⟨tg, iter, ifs, 0⟩, ⟨tg1, iter1, ifs1, 0⟩] scope pos) (fLc2 mi g mt mi1 g1 mt1 me (own.map (·.2)) vs1) :=
  imE (pe_lc2 C.calm C.nd hi ok hv hg ht hi1 hg1 ht1 he h1 h2) fun σ H Q h => lc2_imp h
theorem ss_setLc2 (i : Nat) {y : Str} {py : Pos} {tg iter tg1 iter1 : Expr} {ifs ifs1 : List Expr} {scope : Scope} {own : List (Str × Nat)} {vs1 : List Nat} {spos : Pos} {mi mi1 : FI} {g g1 : FG} (C : Ctx W k X Ew)
    (hsw : swapsWith (.ListComp e [⟨tg, iter, ifs, 0⟩, ⟨tg1, iter1, ifs1, 0⟩] scope pos) (some (.Name y py)) spos.line X.env = pure true) (hi : SI W X Ew tg iter mi) (ok : BlkOk X.N X.env.scope scope own) (hv : ∀ i ∈ vs1, i ∈ own.map (·.2))
    (hg : ∀ (s : Shared) (H : Hp) (c : Addr) (cl : List (Str × Addr)) (fp : List Addr), SGw W (X.blk s H scope (compEnvC scope cl c X.env) fp) (own.map (·.2)) tg g)
    (ht : ∀ (s : Shared) (H : Hp) (c : Addr) (cl : List (Str × Addr)) (fp : List Addr), STs W (X.blk s H scope (compEnvC scope cl c X.env) fp) ifs mt)
    (hi1 : ∀ (s : Shared) (H : Hp) (c : Addr) (cl : List (Str × Addr)) (fp : List Addr), SI W (X.blk s H scope (compEnvC scope cl c X.env) fp) E00 tg1 iter1 mi1)
    (hg1 : ∀ (s : Shared) (H : Hp) (c : Addr) (cl : List (Str × Addr)) (fp : List Addr), SGw W (X.blk s H scope (compEnvC scope cl c X.env) fp) vs1 tg1 g1)
    (ht1 : ∀ (s : Shared) (H : Hp) (c : Addr) (cl : List (Str × Addr)) (fp : List Addr), STs W (X.blk s H scope (compEnvC scope cl c X.env) fp) ifs1 mt1)
    (he : ∀ (s : Shared) (H : Hp) (c : Addr) (cl : List (Str × Addr)) (fp : List Addr), SE W (X.blk s H scope (compEnvC scope cl c X.env) fp) E00 e me)
    (hy : X.N[i]? = some y := by rfl) (hyl : X.env.scope.names.lookup y = some .local := by rfl) (h1 : ∀ x, foldedSetIterable iter X.env x = pure x := by intro _; rfl) (h2 : ∀ env x, foldedSetIterable iter1 env x = pure x := by intro _ _; rfl) :
    SS W X Ew (.Assign [.Name y py] (.ListComp e [⟨tg, iter, ifs, 0⟩, ⟨tg1, iter1, ifs1, 0⟩] scope pos) spos) (fSet i (fLc2 mi g mt mi1 g1 mt1 me (own.map (·.2)) vs1)) :=
  imS (ps_setLc2 C.calm C.nd hy hyl hsw hi ok hv hg ht hi1 hg1 ht1 he h1 h2) fun D σ H ⟨ι, sl, st, r, hs, hr, hm, hq⟩ =>
    lc2_imp (runS (k := fun x => fun sl st => some (.nx (sl.set i (some x)) st)) hs hr hm hq fun x st1 ι1 H1 vx e1 s1 r1 rx hm1 hq1 => nx_of (s1.set rx i) r1 hm1 hq1)
/-! ### a if c else b, as a test -/
theorem pt_ifExp {c : Expr} {tA t u : TT} (hc : PT X c tA) (ha : PT X a t) (hb : PT X b u) : PT X (.IfExp c a b pos) (fun σ H Q => tA σ H fun d H1 => if d = true then t σ H1 Q else u σ H1 Q) := by
  refine ⟨fun pins s σ H Q I h => ?_⟩
  refine isTrue_IfExp (thn (hc.run pins s σ H _ I h) fun d s1 ⟨H1, I1, q1⟩ => ?_)
  cases d with
  | true => exact ha.run pins s1 σ H1 _ I1 q1
  | false => exact hb.run pins s1 σ H1 _ I1 q1
theorem sc_if {c : Expr} (hc : SC W X Ew c mt) (ha : SC W X Ew a mu) (hb : SC W X Ew b mt1) : SC W X Ew (.IfExp c a b pos) (fIf mt mu mt1) :=
  imT (pt_ifExp hc ha hb) fun σ H Q ⟨ι, sl, st, r, hs, hr, hm, hq⟩ => run hs hr hm hq fun x st1 ι1 H1 vx e1 s1 r1 rx hm1 hq1 => by
    subst rx
    cases x with
    | true => exact toOf s1 r1 hm1 hq1
    | false => exact toOf s1 r1 hm1 hq1
end
end FL
/-! FL14: sorted(d.items()) of a dict with text keys. -/
namespace FLS
open PySem PySem.Spec PyProof.Rows L2 SrtO DT
/-- v is a pair of the text y and something -/
def PrS (h : Heap) (v : Value) (y : Str) : Prop := ∃ (a : Addr) (t : Tok) (u : Value), v = .ref a ∧ IsTup h a #[.str y t, u]
def txV (h : Heap) (v : Value) : Str := txOf (seqAt0 h (refOf (some v)))
theorem PrS.tx {h : Heap} {v : Value} {y : Str} (p : PrS h v y) : txV h v = y := by
  obtain ⟨a, t, u, rfl, h1⟩ := p
  show txOf (seqAt0 h a) = y
  rw [seqAt0_of h1]
  rfl
theorem PrS.keeps {h h' : Heap} {v : Value} {y : Str} (p : PrS h v y) (k : ∀ b o, h.get? b = some o → o.cls = .type "tuple" → h'.get? b = some o) : PrS h' v y := by
  obtain ⟨a, t, u, rfl, ⟨o, ho, hc, r⟩⟩ := p
  exact ⟨a, t, u, rfl, ⟨o, k _ _ ho hc, hc, r⟩⟩
def ltS (x y : Str) : Bool := decide (x.cps.toList < y.cps.toList)
theorem swoS (f : Value → Str) : Swo fun v u => ltS (f v) (f u) := by
  refine ⟨fun x y h => ?_, fun x y z h1 h2 => ?_⟩
  · have a := of_decide_eq_true h
    exact decide_eq_false (List.lt_asymm a)
  · have a := of_decide_eq_false h1
    have b := of_decide_eq_false h2
    refine decide_eq_false ?_
    rw [List.not_lt] at *
    exact List.le_trans a b
theorem str_ext {x y : Str} (h : x.cps.toList = y.cps.toList) : x = y := by
  cases x
  cases y
  simp at h
  rw [h]
section
variable {prog : Program} {w : World} {A : Around} {E : Value → Shared → Prop} {s : Shared}
theorem firstsS {h : Heap} : ∀ {vs : List Value}, (∀ v ∈ vs, ∃ y, PrS h v y) → ∃ fs : List Value, PySem.W.KatTups h vs fs ∧ fs.length = vs.length ∧ ∀ f ∈ fs, ∃ x t, f = Value.str x t
  | [], _ => ⟨[], .nil, rfl, fun f hf => by simp at hf⟩
  | v :: vs, x => by
    obtain ⟨fs, k, hl, hi⟩ := firstsS (vs := vs) fun u hu => x u (List.mem_cons_of_mem _ hu)
    obtain ⟨y, a, t, u, rfl, ⟨o, ho, hc, n, hd⟩⟩ := x v List.mem_cons_self
    refine ⟨.str y t :: fs, .cons ho hc hd rfl k, by rw [List.length_cons, List.length_cons, hl], fun f hf => ?_⟩
    rcases List.mem_cons.mp hf with rfl | hf
    · exact ⟨y, t, rfl⟩
    · exact hi f hf
theorem cmpS {vs : List Value} {f : Value → Str} (hp : ∀ v ∈ vs, PrS s.heap v (f v)) (inj : ∀ v ∈ vs, ∀ u ∈ vs, f v = f u → v = u) : Cmp prog w A s (tuples' true) (fun p => p.1 ∈ vs) (lt2 fun v u => ltS (f v) (f u)) := by
  intro p q hm hm'
  have h1 := hp _ hm
  have h2 := hp _ hm'
  have i1 := inj _ hm _ hm'
  show wpAny (model prog w) A (keyLt' (tuples' true) p.1 q.1) (fun r s' => s' = s ∧ r = ltS (f p.1) (f q.1)) (fun _ _ => False) s
  obtain ⟨a, t, u, e, o, ho, hc, n, hd⟩ := h1
  obtain ⟨a', t', u', e', o', ho', hc', n', hd'⟩ := h2
  by_cases same : p.1 = q.1
  · have irr : ltS (f p.1) (f q.1) = false := by
      rw [same]
      exact decide_eq_false (List.lt_irrefl _)
    rw [irr, ← same, e]
    refine PySem.W.kat_lt ho hd ho hd ?_
    show PySem.W.KatLex prog w A true (decide (2 < 2)) _ [(.str (f p.1) t, .str (f p.1) t), (u, u)] 0 s
    refine PySem.W.kat_cons (SeqAt.EqAt.same _ prog w _ _ ?_)
    refine PySem.W.kat_yes (PySem.W.kat_cons (SeqAt.EqAt.same _ prog w _ _ ?_))
    exact PySem.W.kat_yes (PySem.W.kat_nil ⟨rfl, rfl⟩)
  · have ne : ¬ f p.1 = f q.1 := fun z => same (i1 z)
    generalize f p.1 = x at hd ne ⊢
    generalize f q.1 = y at hd' ne ⊢
    rw [e, e']
    refine PySem.W.kat_lt ho hd ho' hd' ?_
    show PySem.W.KatLex prog w A true (decide (2 < 2)) _ [(.str x t, .str y t'), (u, u')] 0 s
    refine PySem.W.kat_cons (wpAny_eqBool_str ?_)
    refine PySem.W.kat_go (fun e1 => absurd (of_decide_eq_true e1) ne) (fun e1 => ?_)
    exact PySem.W.kat_no (oneLt_str ⟨rfl, rfl⟩)
theorem sortableS {a : Addr} {vs : List Value} {f : Value → Str} (h0 : 0 < vs.length) (hp : ∀ v ∈ vs, PrS s.heap v (f v)) (inj : ∀ v ∈ vs, ∀ u ∈ vs, f v = f u → v = u) (ha : ∀ o, s.heap.get? a = some o → o.cls ≠ .type "tuple") :
    SortableO prog w A s a vs fun v u => ltS (f v) (f u) := by
  intro h' keep
  have hp' : ∀ v ∈ vs, PrS h' v (f v) := fun v hm => (hp v hm).keeps fun b o e c => keep b o (fun z => by subst z; exact ha o e c) e
  obtain ⟨fs, h1, h2, h3⟩ := firstsS fun v hm => ⟨_, hp' v hm⟩
  refine ⟨tuples' true, fun Q E hq => ?_, cmpS (s := { s with heap := h' }) hp' inj⟩
  refine PySem.W.kat_kind (T := .type "str") h1 (by omega) (fun f hm => ?_) (by rfl) ?_
  · obtain ⟨x, t, rfl⟩ := h3 f hm
    exact PySem.W.Looks.now
  · have e : (Value.type "str" != Value.type "tuple") = true := by first | decide +kernel | rfl | decide
    rw [e]
    exact hq
end
/-- sorted(d.items()) -/
def rSortK : V → Hp → VK → Prop := fun x H Q => ∃ (d : Addr) (ks : List (Str × V)), x = .ref d ∧ H d = some (.dK (ks.map fun e => (Sum.inr e.1, e.2))) ∧
  ∀ (H' : Hp) (p : Addr) (zs : List (Addr × Str × V)), (ks.map (·.1)).Nodup → (∀ b o, H b = some o → H' b = some o) → H p = none → (zs.map (·.2)).Perm ks → (zs.map (·.2)).Pairwise (fun e f => ltS f.1 e.1 = false) → H' p = some (.lst (zs.map fun z => V.ref z.1)) →
    (∀ z ∈ zs, H' z.1 = some (.tup [.str z.2.1, z.2.2])) → Q (.ref p) H'
section
variable {X : Cx} {e : Expr} {te : TE} {p apos cpos pos : Pos}
theorem zip_refs {α : Type} : ∀ (as : List Addr) (ks : List α), as.length = ks.length → (as.zip ks).map (fun z => Value.ref z.1) = as.map Value.ref
  | [], _, _ => rfl
  | a :: as, [], h => by simp at h
  | a :: as, k :: ks, h => by
    show Value.ref a :: (as.zip ks).map _ = Value.ref a :: as.map Value.ref
    rw [zip_refs as ks (by simpa using h)]
theorem pe_sortItems (hc : X.calm = true) (he : PE X e te) (hg : Gl X "sorted") (hm : X.mg "sorted" = none) (hv : bootBuiltins "sorted" = some (.builtin "sorted")) (hbase : attributeBase e "items" X.env (eval e X.env) = eval e X.env := by rfl) (hline : (apos.endLine == cpos.line) = true := by rfl)
    (hs : starEach [.Call (.Attribute e "items" apos) [] [] cpos] X.env = (false, eval (.Call (.Attribute e "items" apos) [] [] cpos) X.env) :: starEach [] X.env := by rfl) :
    PE X (.Call (.Name "sorted" p) [.Call (.Attribute e "items" apos) [] [] cpos] [] pos) (fun σ H Q => te σ H fun x H1 => rSortK x H1 Q) := by
  refine ⟨fun pins s σ H Q I hq => ?_⟩
  refine wpAny_Call_Name_kw (ld_blt I hg hm hv ?_ (by decide) (by decide))
  refine PyProof.Rows.callWith_builtin1 ?_ hs rfl
  rw [hs]
  show wpAny _ _ (spliced ((false, eval (.Call (.Attribute e "items" apos) [] [] cpos) X.env) :: backTo pos (starEach [] X.env))) _ _ s
  refine Calls.spliced_cons ?_
  refine wpAny_Call_method (T := "dict") (id := "dict.items") hbase rfl hline F.plainAttrs_dict F.slot_dict_items F.type_dict_items (thn (he.run pins s σ H _ I hq) fun u s1 ⟨x, H1, I1, rx, d, ks, ex, hd, q⟩ => ?_)
  subst ex
  obtain rfl : u = Value.ref d := rx
  obtain ⟨hz, hs0, vs, kv, hdo⟩ := I1.hok d _ hd
  obtain ⟨od, es, ep, hod, hxd, hdat, hko, hprs, hnd⟩ := id hdo
  have lk : (ks.map fun e => ((Sum.inr e.1 : Key), e.2)).length = vs.length := Paired.length kv
  rw [List.length_map] at lk hz
  have le : es.toList.length = vs.length := hprs.length
  have I2 : Inv X pins σ H1 { s1 with heap := s1.heap.push { cls := .type "dict_items", data := .fields #[.ref d] } } := I1.kept (t' := s1.toks) fun b ob q => Heap.get?_push_of_some _ q
  refine ⟨hdo.typeIs, hdo.mapOf.noDict, ?_⟩
  show wpAny _ _ (callWith cpos (.builtin "dict.items") [.ref d] [] []) _ X.xe s1
  refine method_meetsIn F.slot_dict_items F.entry_dict_items rfl (PySem.evalArgs_none ⟨rfl, hdo.typeIs, F.args_dict_items_1 _, _, meets_dict_items (mixKind X.prog X.w) d hs0, ⟨vs, hdo⟩, ?_⟩)
  refine Calls.spliced_nil ?_
  refine DT.sortedI (es := es) (ep := ep) (I1.ok.hd hc) ⟨_, Heap.get?_push_size _ rfl, rfl, rfl⟩ ⟨od, Heap.get?_push_of_some _ hod, hxd, hdat⟩ (by rw [← Array.length_toList, le, ← lk]; exact hz) fun h' tk as hk hlt hl hG => ?_
  dsimp only at hk hlt hG ⊢
  generalize hsz : (s1.heap.push { cls := .type "dict_items", data := .fields #[.ref d] }).objs.size = n0 at *
  have lak : as.length = ks.length := by rw [hl, ← Array.length_toList, le, lk]
  have nd : as.Nodup := List.Pairwise.imp (fun h => Nat.ne_of_lt h) hG.rise
  have ndk : (ks.map (·.1)).Nodup := by
    have h1 : ((ks.map fun e => ((Sum.inr e.1 : Key), e.2)).map (·.1)) = vs.map (·.1) := kv.keys
    rw [← h1, List.map_map] at hnd
    have h2 : ((fun x : Key × V => x.1) ∘ fun e : Str × V => ((Sum.inr e.1 : Key), e.2)) = (Sum.inr : Str → Key) ∘ fun e : Str × V => e.1 := rfl
    rw [h2, ← List.map_map] at hnd
    exact hnd.of_map _ fun a b h e => h (congrArg _ e)
  -- the pairs that were made
  have pr : ∀ (j : Nat) (b : Addr), as[j]? = some b → ∃ (e : Str × V) (t : Tok) (u : Value), ks[j]? = some e ∧ RelV e.2 u ∧ h'.get? b = some { cls := .type "tuple", data := .seq #[Value.str e.1 t, u] } := by
    intro j b hj
    obtain ⟨en, h1, h2⟩ := hG.pairs j b hj
    have hjl : j < ks.length := by rw [← lak]; exact (List.getElem?_eq_some_iff.mp hj).1
    have hkj : ks[j]? = some ks[j] := List.getElem?_eq_getElem hjl
    obtain ⟨u, h3, h4⟩ := kv_get kv (i := j) (k := Sum.inr ks[j].1) (v := ks[j].2) (by rw [List.getElem?_map, hkj]; rfl)
    obtain ⟨h5, h6⟩ := hprs.get? (i := j) (e := en) (by rw [Array.getElem?_toList]; exact h1) h3
    obtain ⟨t, h7⟩ : ∃ t, en.key = Value.str ks[j].1 t := relV_key (k := Sum.inr ks[j].1) h5
    rw [h7, h6] at h2
    exact ⟨ks[j], t, u, hkj, h4, h2⟩
  have hob : (h'.push { cls := .type "list", data := .seq (as.map Value.ref).toArray }).get? h'.objs.size = some (seqObj "list" (as.map Value.ref).toArray 0) := Heap.get?_push_size _ rfl
  have ka : ∀ b o, h'.get? b = some o → (h'.push { cls := .type "list", data := .seq (as.map Value.ref).toArray }).get? b = some o := fun b o e => Heap.get?_push_of_some _ e
  have ne0 : ∀ b o, h'.get? b = some o → b ≠ h'.objs.size := fun b o e => Nat.ne_of_lt (Heap.lt_size e)
  have kb : ∀ b o, s1.heap.get? b = some o → h'.get? b = some o := fun b o e => hk b o (Heap.get?_push_of_some _ e)
  generalize hh2 : h'.push { cls := .type "list", data := .seq (as.map Value.ref).toArray } = h2 at hob ka ⊢
  have at_ : ∀ v ∈ as.map Value.ref, ∃ (j : Nat) (b : Addr) (e : Str × V), v = .ref b ∧ as[j]? = some b ∧ ks[j]? = some e ∧ PrS h2 v e.1 := by
    intro v hv'
    obtain ⟨b, hb, rfl⟩ := List.mem_map.mp hv'
    obtain ⟨j, hj⟩ := List.mem_iff_getElem?.mp hb
    obtain ⟨e, t, u, he, _, hg⟩ := pr j b hj
    exact ⟨j, b, e, rfl, hj, he, b, t, u, rfl, _, ka _ _ hg, rfl, 0, rfl⟩
  have hp : ∀ v ∈ as.map Value.ref, PrS h2 v (txV h2 v) := fun v hv' => by
    obtain ⟨j, b, e, _, _, _, q⟩ := at_ v hv'
    rw [q.tx]
    exact q
  have inj : ∀ v ∈ as.map Value.ref, ∀ u ∈ as.map Value.ref, txV h2 v = txV h2 u → v = u := fun v hv' u hu' ee => by
    obtain ⟨j, b, e, rfl, hj, he, q⟩ := at_ v hv'
    obtain ⟨j2, b2, e2, rfl, hj2, he2, q2⟩ := at_ u hu'
    rw [q.tx, q2.tx] at ee
    have hj3 : (ks.map (·.1))[j]? = some e.1 := by rw [List.getElem?_map, he]; rfl
    have hj4 : (ks.map (·.1))[j2]? = some e2.1 := by rw [List.getElem?_map, he2]; rfl
    have : j = j2 := (List.getElem?_inj (List.getElem?_eq_some_iff.mp hj3).1 ndk).mp (by rw [hj3, hj4, ee])
    subst this
    rw [hj] at hj2
    cases hj2
    rfl
  refine wpAny_call_entry PyProof.Rows.slot_list_sort ⟨_, hob, rfl⟩ PyProof.Rows.entry_list_sort (list_sort_ord (swoS (txV h2)) hob (by rw [List.length_map, lak]; exact hz) (fun h2' => sortableS (s := { s1 with heap := h2, toks := tk }) (by omega) hp inj fun o ho => ?_) fun out hs1 hs2 => ⟨_, rfl, ?_⟩) (PyProof.Rows.args_list_sort _)
  · have ho' : h2.get? h'.objs.size = some o := ho
    rw [hob] at ho'
    cases ho'
    intro z
    have z' : Value.type "list" = Value.type "tuple" := z
    simp at z'
  · obtain ⟨zs, pz, ez⟩ := perm_lift (fun z : Addr × Str × V => Value.ref z.1) hs2.perm (as.zip ks) (zip_refs as ks lak)
    have idx : ∀ z ∈ zs, ∃ j : Nat, as[j]? = some z.1 ∧ ks[j]? = some z.2 := by
      intro z' hz'
      obtain ⟨j, hj⟩ := List.mem_iff_getElem?.mp (pz.mem_iff.mp hz')
      exact ⟨j, List.getElem?_zip_eq_some.mp hj⟩
    have hperm : (zs.map (·.2)).Perm ks := by
      have e := pz.map (·.2)
      have m2 : (as.zip ks).map (·.2) = ks := List.map_snd_zip (by rw [lak]; exact Nat.le_refl _)
      rw [m2] at e
      exact e
    have hsort : (zs.map (·.2)).Pairwise (fun e f => ltS f.1 e.1 = false) := by
      rw [← ez] at hs1
      have o3 := List.pairwise_map.mp hs1
      rw [List.pairwise_map]
      refine List.Pairwise.imp_of_mem (fun {x y} hx hy h => ?_) o3
      obtain ⟨j, j1, j2⟩ := idx x hx
      obtain ⟨i, i1, i2⟩ := idx y hy
      obtain ⟨_, b1, e1, q1, q2, q3, q4⟩ := at_ (.ref x.1) (List.mem_map.mpr ⟨_, List.mem_of_getElem? j1, rfl⟩)
      obtain ⟨_, b2, e2, r1, r2, r3, r4⟩ := at_ (.ref y.1) (List.mem_map.mpr ⟨_, List.mem_of_getElem? i1, rfl⟩)
      cases q1
      cases r1
      have c1 := (List.getElem?_inj (List.getElem?_eq_some_iff.mp q2).1 nd).mp (q2.trans j1.symm)
      have c2 := (List.getElem?_inj (List.getElem?_eq_some_iff.mp r2).1 nd).mp (r2.trans i1.symm)
      subst c1 c2
      rw [q3] at j2
      rw [r3] at i2
      have j2' := Option.some.inj j2
      have i2' := Option.some.inj i2
      have h' : ltS (txV h2 (.ref y.1)) (txV h2 (.ref x.1)) = false := h
      rw [q4.tx, r4.tx, j2', i2'] at h'
      exact h'
    have kF : ∀ b o, b ≠ h'.objs.size → h2.get? b = some o → (sortedHeap h2 h'.objs.size (as.map Value.ref) out.toArray).get? b = some o := fun b o hb e => (PyProof.Rows.sortedHeap_old hb (Heap.lt_size e)).trans e
    have kS : ∀ b o, s1.heap.get? b = some o → (sortedHeap h2 h'.objs.size (as.map Value.ref) out.toArray).get? b = some o := fun b o e => kF b o (ne0 _ _ (kb b o e)) (ka _ _ (kb b o e))
    obtain ⟨eF, heF⟩ := PyProof.Rows.sortedHeap_at (vs := as.map Value.ref) (out := out.toArray) hob
    have s1n : s1.heap.objs.size ≤ n0 := by rw [← hsz, Heap.size_push]; exact Nat.le_succ _
    have I3 : Inv X pins σ H1 { s1 with heap := sortedHeap h2 h'.objs.size (as.map Value.ref) out.toArray, toks := tk } := I1.kept (t' := tk) kS
    have hn0 : H1 h'.objs.size = none := I1.hok.fresh (by omega)
    have hout : out = zs.map fun z => Value.ref z.1 := ez.symm
    have hlen : (zs.map fun z => V.ref z.1).length ≤ sizeLine := by
      have e := hperm.length_eq
      rw [List.length_map] at e
      rw [List.length_map, e]
      exact hz
    have rv : Vals (zs.map fun z => V.ref z.1) out := by
      rw [hout]
      exact vals_maps (fun z : Addr × Str × V => V.ref z.1) (fun z => Value.ref z.1) zs fun _ _ => rfl
    have I4 : Inv X pins σ (upd H1 h'.objs.size (.lst (zs.map fun z => V.ref z.1))) { s1 with heap := sortedHeap h2 h'.objs.size (as.map Value.ref) out.toArray, toks := tk } :=
      I3.take (h' := sortedHeap h2 h'.objs.size (as.map Value.ref) out.toArray) (t' := tk) (fun b ob _ e => e) (I1.fpOk (by omega) hn0) ⟨hlen, out, eF, rv, heF⟩
    obtain ⟨H2, I5, g, qt⟩ := L2.DX.takeT (P := fun b vs => ∃ (j : Nat) (e : Str × V), as[j]? = some b ∧ ks[j]? = some e ∧ vs = [.str e.1, e.2]) I1 as _ I4 nd fun b hb => by
      obtain ⟨j, hj⟩ := List.mem_iff_getElem?.mp hb
      obtain ⟨e, t, u, he, hu, hg⟩ := pr j b hj
      have hbl : s1.heap.objs.size ≤ b := Nat.le_trans s1n (Nat.le_of_lt (hG.above b hb))
      refine ⟨hbl, ?_, [.str e.1, e.2], ⟨j, e, hj, he, rfl⟩, fun H3 => ⟨(by rw [sizeLine_eq]; show 2 ≤ 16777216; omega), [Value.str e.1 t, u], .cons ⟨t, rfl⟩ (.cons hu .nil), ⟨_, kF _ _ (ne0 _ _ hg) (ka _ _ hg), rfl, 0, rfl⟩⟩⟩
      rw [upd_ne (ne0 _ _ hg)]
      exact I1.hok.fresh hbl
    have gr : ∀ b o, H1 b = some o → H2 b = some o := fun b o e => g b o (by rw [upd_ne (ne_of_none e hn0)]; exact e)
    refine ⟨.ref h'.objs.size, H2, I5, rfl, q H2 h'.objs.size zs ndk gr hn0 hperm hsort (g _ _ upd_same) fun z' hz' => ?_⟩
    obtain ⟨i, i1, i2⟩ := idx z' hz'
    obtain ⟨vs, ⟨j, e, j1, j2, ev⟩, hH⟩ := qt z'.1 (List.mem_of_getElem? i1)
    have eij : i = j := (List.getElem?_inj (List.getElem?_eq_some_iff.mp i1).1 nd).mp (i1.trans j1.symm)
    subst eij
    have ee : e = z'.2 := Option.some.inj (j2.symm.trans i2)
    rw [ev, ee] at hH
    exact hH
end
end FLS
/-! FL15: dicts: methods, displays, comprehensions, sorted items; lists: more methods; reversed. -/
namespace FL
open PySem PySem.Spec PyProof.Rows L2
section
variable {W : Wd} {k : Nat} {X : Cx} {Ew : WX} {ι ι' : List Addr} {H H' : Hp} {st : Sto} {a b e : Expr} {es : List Expr} {ma mb me mk mv : FE} {mt mu mt1 : FT} {mas : FA} {pos : Pos} {s : Stmt} {ss : List Stmt} {m n : FS} {tg : Expr}
/-! ### d.get, d.pop -/
def fDGet : Val → ON := fun x xs st => match x with
  | .ref p => (match st[p]? with
    | some (.dic kvs) => (match xs with
      | [y] => (keyOf y).map fun k => ((getK kvs k).getD .non, st)
      | [y, d] => (keyOf y).map fun k => ((getK kvs k).getD d, st)
      | _ => none)
    | _ => none)
  | _ => none
theorem mt_dgetF (C : Ctx0 W k X Ew) : MtR X "dict.get" (rm W fDGet) := fun pins s σ H x xs v us Q I rx rxs h => by
  obtain ⟨ι, st, a, as, w, st', ra, ras, hr, hf, hq⟩ := h
  unfold fDGet at hf
  split at hf
  case h_2 => cases hf
  rename_i p
  split at hf
  case h_2 => cases hf
  rename_i kvs h0
  cases ra with
  | @ref _ q h1 =>
    obtain rfl : v = Value.ref q := rx
    obtain ⟨ms, h2, h3⟩ := hr.dic h0 h1
    split at hf
    · rename_i y
      obtain ⟨k, e1, e2⟩ := Option.map_eq_some_iff.mp hf
      cases e2
      cases ras with
      | cons r0 rr =>
        cases rr
        obtain ⟨u, rfl, ru⟩ := vals1 rxs
        have e := keyOf_V e1 r0
        subst e
        refine d_get1 C.hu1 I (DGet.k h2) ru fun w' s' I' rw' => ⟨_, H, I', rw', ?_⟩
        rcases DP.get h3 k with ⟨g1, g2⟩ | ⟨x, v, g1, g2, g3⟩
        · rw [g1] at hq
          rw [g2]
          exact hq.here hr .non
        · rw [g1] at hq
          rw [g2]
          exact hq.here hr g3
    · rename_i y d
      obtain ⟨k, e1, e2⟩ := Option.map_eq_some_iff.mp hf
      cases e2
      cases ras with
      | cons r0 rr =>
        cases rr with
        | cons r2 r3 =>
          cases r3
          obtain ⟨u, u2, rfl, ru, ru2⟩ := vals2 rxs
          have e := keyOf_V e1 r0
          subst e
          refine d_get2 C.hu1 I (DGet.k h2) ru ru2 fun w' s' I' rw' => ⟨_, H, I', rw', ?_⟩
          rcases DP.get h3 k with ⟨g1, g2⟩ | ⟨x, v, g1, g2, g3⟩
          · rw [g1] at hq
            rw [g2]
            exact hq.here hr r2
          · rw [g1] at hq
            rw [g2]
            exact hq.here hr g3
    · cases hf
def fDPop : Val → ON := fun x xs st => match x with
  | .ref p => (match st[p]? with
    | some (.dic kvs) => (match xs with
      | [y] => (keyOf y).bind fun k => (getK kvs k).map fun z => (z, st.set p (.dic (delK kvs k)))
      | [y, d] => (keyOf y).map fun k => match getK kvs k with
        | some z => (z, st.set p (.dic (delK kvs k)))
        | none => (d, st)
      | _ => none)
    | _ => none)
  | _ => none
theorem mt_dpopF : MtR X "dict.pop" (rm W fDPop) := fun pins s σ H x xs v us Q I rx rxs h => by
  obtain ⟨ι, st, a, as, w, st', ra, ras, hr, hf, hq⟩ := h
  unfold fDPop at hf
  split at hf
  case h_2 => cases hf
  rename_i p
  split at hf
  case h_2 => cases hf
  rename_i kvs h0
  cases ra with
  | @ref _ q h1 =>
    obtain rfl : v = Value.ref q := rx
    obtain ⟨ms, h2, h3⟩ := hr.dic h0 h1
    split at hf
    · rename_i y
      obtain ⟨k, e1, e2⟩ := Option.bind_eq_some_iff.mp hf
      obtain ⟨z, e3, e4⟩ := Option.map_eq_some_iff.mp e2
      cases e4
      cases ras with
      | cons r0 rr =>
        cases rr
        obtain ⟨u, rfl, ru⟩ := vals1 rxs
        have e := keyOf_V e1 r0
        subst e
        rcases DP.get h3 k with ⟨g1, g2⟩ | ⟨x, v, g1, g2, g3⟩
        · rw [g1] at e3
          cases e3
        · rw [g1] at e3
          cases e3
          refine d_pop I h2 ru g2 (.inl rfl) fun w' s' I' rw' => ⟨_, _, I', rw', ?_⟩
          exact hq.put hr h1 h0 (show RO W ι H (.dic (delK kvs k)) (.dK (dropK ms k)) from DP.del h3 k) g3
    · rename_i y d
      obtain ⟨k, e1, e2⟩ := Option.map_eq_some_iff.mp hf
      cases ras with
      | cons r0 rr =>
        cases rr with
        | cons r2 r3 =>
          cases r3
          obtain ⟨u, u2, rfl, ru, ru2⟩ := vals2 rxs
          have e := keyOf_V e1 r0
          subst e
          rcases DP.get h3 k with ⟨g1, g2⟩ | ⟨x, v, g1, g2, g3⟩
          · rw [g1] at e2
            cases e2
            exact d_popD I h2 ru g2 fun s' I' => ⟨_, H, I', ru2, hq.here hr r2⟩
          · rw [g1] at e2
            cases e2
            refine d_pop I h2 ru g2 (.inr ⟨_, rfl⟩) fun w' s' I' rw' => ⟨_, _, I', rw', ?_⟩
            exact hq.put hr h1 h0 (show RO W ι H (.dic (delK kvs k)) (.dK (dropK ms k)) from DP.del h3 k) g3
    · cases hf
/-! ### displays -/
def fDNew : FE := fun _ st => some (.ok (.ref st.length) (st ++ [.dic []]))
theorem se_dnew : SE W X Ew (.Dict [] [] pos) fDNew := imE pe_dnewK fun σ H Q ⟨ι, sl, st, r, hs, hr, hm, hq⟩ => by
  cases hm
  exact Post.new (o := .dic []) (ho := .dK []) hq hr .nil
def fPairs : List (FE × FE) → FX (List (Val × Val))
  | [] => fun _ st => some (.ok [] st)
  | (m, n) :: r => bnd m fun x => bnd n fun y => bnd (fPairs r) fun ps => fun _ st => some (.ok ((x, y) :: ps) st)
def RPs (K : PySem.W.Frag) (ι : List Addr) (H : Hp) : List (Val × Val) → List (V × V) → Prop := Paired fun p q => RV K ι H p.1 q.1 ∧ RV K ι H p.2 q.2
theorem RPs.mono {ι2 : List Addr} {H2 : Hp} (e : Ext ι H ι2 H2) {ps : List (Val × Val)} {qs : List (V × V)} (h : RPs W.K ι H ps qs) : RPs W.K ι2 H2 ps qs := Paired.impl (fun _ _ z => ⟨z.1.mono e, z.2.mono e⟩) h
theorem pairs_imp : ∀ {ms : List (FE × FE)} {σ : L2.St} {H : Hp} {Q : List (V × V) → Hp → Prop}, tOf W Ew (fun ι H => RPs W.K ι H) (fPairs ms) σ H Q → tPairs (ms.map fun p => (teOf W Ew p.1, teOf W Ew p.2)) σ H Q
  | [], σ, H, Q, ⟨ι, sl, st, r, hs, hr, hm, hq⟩ => by
    cases hm
    exact hq ι H _ (Ext.refl _ _) hr .nil
  | (m, n) :: ms, σ, H, Q, ⟨ι, sl, st, r, hs, hr, hm, hq⟩ => run hs hr hm hq fun x st1 ι1 H1 vx e1 s1 r1 rx hm1 hq1 => run s1 r1 hm1 hq1 fun y st2 ι2 H2 vy e2 s2 r2 ry hm2 hq2 =>
    pairs_imp (run s2 r2 hm2 hq2 fun ps st3 ι3 H3 vs e3 s3 r3 rps hm3 hq3 => by
      cases hm3
      exact hq3 ι3 H3 _ (Ext.refl _ _) r3 (.cons ⟨(rx.mono e2).mono e3, ry.mono e3⟩ rps))
abbrev SPs (W : Wd) (X : Cx) (Ew : WX) (pos : Pos) (keys : List (Option Expr)) (values : List Expr) (ms : List (FE × FE)) : Prop := PPs X pos keys values (ms.map fun p => (teOf W Ew p.1, teOf W Ew p.2))
theorem sps_nil : SPs W X Ew pos [] [] [] := pps_nil
theorem sps_cons {ks : List (Option Expr)} {vs : List Expr} {ms : List (FE × FE)} (ha : SE W X Ew a ma) (hb : SE W X Ew b mb) (h : SPs W X Ew pos ks vs ms) : SPs W X Ew pos (some a :: ks) (b :: vs) ((ma, mb) :: ms) := pps_cons ha hb h
def keyed (p : Val × Val) : Option (Key × Val) := (keyOf p.1).map fun k => (k, p.2)
def mergeD (kvs more : List (Key × Val)) : List (Key × Val) := more.foldl (fun acc kv => setK acc kv.1 kv.2) kvs
theorem DP.merge : ∀ {more : List (Key × Val)} {ns : List (Key × V)} {kvs : List (Key × Val)} {ms : List (Key × V)}, DP W.K ι H more ns → DP W.K ι H kvs ms → DP W.K ι H (mergeD kvs more) (mergeK ms ns)
  | _, _, _, _, .nil, h => h
  | _, _, kvs, ms, .cons (a := p) (b := q) z t, h => by
    have h2 := DP.put h p.1 z.2
    have h3 := DP.merge t h2
    show DP W.K ι H (mergeD (setK kvs p.1 p.2) _) (mergeK (putK ms q.1 q.2) _)
    rw [← z.1]
    exact h3
theorem keyed_all : ∀ {ps : List (Val × Val)} {qs : List (V × V)} {kvs : List (Key × Val)}, mapO keyed ps = some kvs → RPs W.K ι H ps qs → ∃ ms : List (Key × V), qs = ms.map (fun kv => (kV kv.1, kv.2)) ∧ DP W.K ι H kvs ms
  | [], [], _, h, .nil => by
    cases h
    exact ⟨[], rfl, .nil⟩
  | p :: ps, q :: qs, _, h, .cons z t => by
    unfold mapO at h
    split at h
    · rename_i y ys h1 h2
      cases h
      obtain ⟨k, h3, h4⟩ := Option.map_eq_some_iff.mp h1
      subst h4
      obtain ⟨ms, e, d⟩ := keyed_all h2 t
      have e2 := keyOf_V h3 z.1
      exact ⟨(k, q.2) :: ms, by rw [e, List.map_cons, ← e2], .cons ⟨rfl, z.2⟩ d⟩
    · cases h
def fDict (ms : List (FE × FE)) : FE := bnd (fPairs ms) fun ps => fun _ st => match mapO keyed ps with
  | some kvs => if kvs.length ≤ 15 then some (.ok (.ref st.length) (st ++ [.dic (mergeD [] kvs)])) else none
  | none => none
theorem se_dict {keys : List (Option Expr)} {values : List Expr} {ms : List (FE × FE)} (h : SPs W X Ew pos keys values ms) (hall : keys.all (·.isSome) = true := by rfl) (hl : keys.length = values.length := by rfl) (h0 : keys ≠ [] := by exact List.cons_ne_nil _ _) (h15 : keys.length ≤ 15 := by decide) :
    SE W X Ew (.Dict keys values pos) (fDict ms) := imE (pe_disp h hall hl h0 h15) fun σ H Q ⟨ι, sl, st, r, hs, hr, hm, hq⟩ => by
  intro p hp
  have e0 : Ext ι H ι (upd H p (.dK [])) := (Ext.refl _ _).putO hp
  refine pairs_imp ⟨ι, sl, st, ?_⟩
  unfold fDict bnd at hm
  cases h1 : fPairs ms sl st with
  | none => rw [h1] at hm; cases hm
  | some r1 =>
    rw [h1] at hm
    refine ⟨r1, hs.mono e0, hr.newO hp, rfl, ?_⟩
    cases r1 with
    | ex c st1 =>
      cases hm
      intro ι' H' e r
      exact hq ι' H' (e0.trans e) r
    | ok ps st1 =>
      intro ι2 H2 qs e2 r2 rps
      have hm2 : (match mapO keyed ps with
        | some kvs => if kvs.length ≤ 15 then some (R.ok (Val.ref st1.length) (st1 ++ [.dic (mergeD [] kvs)])) else none
        | none => none) = some r := hm
      split at hm2
      case h_2 => cases hm2
      rename_i kvs h3
      split at hm2
      case isFalse => cases hm2
      rename_i h4
      cases hm2
      obtain ⟨hD, nD⟩ := e2.oth p _ upd_same (hr.free hp)
      obtain ⟨ms, e, d⟩ := keyed_all h3 rps
      refine ⟨hD, ms, e, by rw [← d.len]; exact h4, ?_⟩
      have x0 : Ext0 ι2 H2 ι2 (upd H2 p (.dK (mergeK [] ms))) := Ext0.putX hD (fun _ z => nomatch z) fun _ _ z => nomatch z
      have r3 : Rel W ι2 (upd H2 p (.dK (mergeK [] ms))) st1 := r2.putX hD (fun _ z => nomatch z) (fun _ _ z => nomatch z) nD
      have d2 : DP W.K ι2 (upd H2 p (.dK (mergeK [] ms))) (mergeD [] kvs) (mergeK [] ms) := Paired.impl (fun _ _ z => ⟨z.1, z.2.mono0 x0⟩) (DP.merge d .nil)
      have e3 : Ext ι H ι2 (upd H2 p (.dK (mergeK [] ms))) := (e0.trans e2).putO hp
      exact hq _ _ _ (e3.join hp) (r3.join upd_same nD (show RO W ι2 _ (.dic (mergeD [] kvs)) (.dK (mergeK [] ms)) from d2)) (.ref (by rw [← r2.len]; simp))
/-! ### sorted(d.items()) -/
def keysS : List (Key × Val) → Option (List (Str × Val)) := mapO fun p => match p.1 with
  | .inr x => some (x, p.2)
  | _ => none
def srtS (l : List (Str × Val)) : List (Str × Val) := l.mergeSort fun e f => !FLS.ltS f.1 e.1
theorem srtS_perm (l : List (Str × Val)) : (srtS l).Perm l := List.mergeSort_perm _ _
theorem srtS_sorted (l : List (Str × Val)) : (srtS l).Pairwise fun e f => FLS.ltS f.1 e.1 = false := by
  have h := List.pairwise_mergeSort (le := fun e f : Str × Val => !FLS.ltS f.1 e.1) (fun a b c h1 h2 => by
    have h1 : FLS.ltS b.1 a.1 = false := by simpa using h1
    have h2 : FLS.ltS c.1 b.1 = false := by simpa using h2
    have a1 := of_decide_eq_false h1
    have a2 := of_decide_eq_false h2
    have : FLS.ltS c.1 a.1 = false := by
      refine decide_eq_false ?_
      rw [List.not_lt] at *
      exact List.le_trans a1 a2
    simpa using this) (fun a b => by
    cases h : FLS.ltS b.1 a.1 with
    | false => simp
    | true =>
      have : FLS.ltS a.1 b.1 = false := decide_eq_false (List.lt_asymm (of_decide_eq_true h))
      simp [this]) l
  exact h.imp fun z => by simpa using z
theorem srtS_uniq {l m : List (Str × Val)} (hn : (l.map (·.1)).Nodup) (h1 : m.Perm l) (h2 : m.Pairwise fun e f => FLS.ltS f.1 e.1 = false) : m = srtS l :=
  List.Perm.eq_of_pairwise (le := fun e f : Str × Val => FLS.ltS f.1 e.1 = false) (fun a b ha hb x y => by
    have x := of_decide_eq_false x
    have y := of_decide_eq_false y
    rw [List.not_lt] at x y
    have e := FLS.str_ext (List.le_antisymm x y)
    obtain ⟨i, hi⟩ := List.mem_iff_getElem?.mp (h1.mem_iff.mp ha)
    obtain ⟨j, hj⟩ := List.mem_iff_getElem?.mp ((srtS_perm l).mem_iff.mp hb)
    have hi2 : (l.map (·.1))[i]? = some a.1 := by rw [List.getElem?_map, hi]; rfl
    have hj2 : (l.map (·.1))[j]? = some b.1 := by rw [List.getElem?_map, hj]; rfl
    have := (List.getElem?_inj (List.getElem?_eq_some_iff.mp hi2).1 hn).mp (hi2.trans ((congrArg some e).trans hj2.symm))
    rw [← this, hi] at hj
    exact Option.some.inj hj) h2 (srtS_sorted l) (h1.trans (srtS_perm l).symm)
abbrev SPr (K : PySem.W.Frag) (ι : List Addr) (H : Hp) : List (Str × Val) → List (Str × V) → Prop := Paired fun p q => p.1 = q.1 ∧ RV K ι H p.2 q.2
theorem SPr.keys {ps : List (Str × Val)} {qs : List (Str × V)} (h : SPr W.K ι H ps qs) : ps.map (·.1) = qs.map (·.1) := by
  induction h with
  | nil => rfl
  | cons z _ ih => rw [List.map_cons, List.map_cons, ih, z.1]
theorem SPr.perm {qs rs : List (Str × V)} (h : rs.Perm qs) : ∀ {ps : List (Str × Val)}, SPr W.K ι H ps qs → ∃ ys : List (Str × Val), ys.Perm ps ∧ SPr W.K ι H ys rs := by
  induction h with
  | nil => intro ps r; exact ⟨ps, .refl _, r⟩
  | cons x _ ih =>
    intro ps r
    cases r with
    | cons a b =>
      obtain ⟨ys, h1, h2⟩ := ih b
      exact ⟨_ :: ys, h1.cons _, .cons a h2⟩
  | swap x y l =>
    intro ps r
    cases r with
    | cons a b =>
      cases b with
      | cons c d => exact ⟨_, .swap _ _ _, .cons c (.cons a d)⟩
  | trans _ _ ih1 ih2 =>
    intro ps r
    obtain ⟨ys, h1, h2⟩ := ih2 r
    obtain ⟨zs, h3, h4⟩ := ih1 h2
    exact ⟨zs, h3.trans h1, h4⟩
theorem keysS_V : ∀ {kvs : List (Key × Val)} {ks : List (Str × Val)} {ms : List (Key × V)}, keysS kvs = some ks → DP W.K ι H kvs ms → ∃ qs : List (Str × V), ms = qs.map (fun e => (Sum.inr e.1, e.2)) ∧ SPr W.K ι H ks qs
  | [], _, [], h, .nil => by
    cases h
    exact ⟨[], rfl, .nil⟩
  | p :: ps, _, q :: qs, h, .cons z t => by
    unfold keysS mapO at h
    split at h
    · rename_i y ys h1 h2
      cases h
      obtain ⟨qs, e, d⟩ := keysS_V (kvs := _) h2 t
      obtain ⟨k, v⟩ := p
      obtain ⟨k', v'⟩ := q
      cases k with
      | inl i => cases h1
      | inr x =>
        cases h1
        have z1 : Sum.inr x = k' := z.1
        subst z1
        exact ⟨(x, v') :: qs, by rw [e]; rfl, .cons ⟨rfl, z.2⟩ d⟩
    · cases h
def fSortIt (m : FE) : FE := bnd m fun x => lft fun st => match x with
  | .ref p => (match st[p]? with
    | some (.dic kvs) => (keysS kvs).map fun ks => (.ref st.length, st ++ [.lst ((srtS ks).map fun e => .tup [.str e.1.cps.toList, e.2])])
    | _ => none)
  | _ => none
theorem se_sortItems {p apos cpos : Pos} (C : Ctx W k X Ew) (hm : W.mg "sorted" = none) (he : SE W X Ew e me) (hg : Gl X "sorted" := by rfl) (hbase : attributeBase e "items" X.env (eval e X.env) = eval e X.env := by rfl) (hline : (apos.endLine == cpos.line) = true := by rfl)
    (hs : starEach [.Call (.Attribute e "items" apos) [] [] cpos] X.env = (false, eval (.Call (.Attribute e "items" apos) [] [] cpos) X.env) :: starEach [] X.env := by rfl) :
    SE W X Ew (.Call (.Name "sorted" p) [.Call (.Attribute e "items" apos) [] [] cpos] [] pos) (fSortIt me) :=
  imE (FLS.pe_sortItems C.calm he hg (by rw [C.em]; exact hm) (by decide +kernel) hbase hline hs) fun σ H Q ⟨ι, sl, st, r, hs, hr, hm, hq⟩ => run hs hr hm hq fun x st1 ι1 H1 vx e1 s1 r1 rx hm1 hq1 => by
    obtain ⟨v, st', h1, rfl⟩ := lft_some hm1
    cases rx with
    | @ref j q h0 =>
      have h2 : (match st1[j]? with
        | some (.dic kvs) => (keysS kvs).map fun ks => (Val.ref st1.length, st1 ++ [Ob.lst ((srtS ks).map fun e => .tup [.str e.1.cps.toList, e.2])])
        | _ => none) = some (v, st') := h1
      split at h2
      case h_2 => cases h2
      rename_i kvs h3
      obtain ⟨ks, h4, h5⟩ := Option.map_eq_some_iff.mp h2
      cases h5
      obtain ⟨ms, h6, h7⟩ := r1.dic h3 h0
      obtain ⟨qs, rfl, h8⟩ := keysS_V h4 h7
      refine ⟨q, qs, rfl, h6, fun H2 l zs nd g hl hp hso hL hz => ?_⟩
      obtain ⟨e2, r2⟩ := r1.grow g
      obtain ⟨ys, p1, p2⟩ := SPr.perm hp h8
      have hys : ys = srtS ks := by
        refine srtS_uniq (by rw [h8.keys]; exact nd) p1 ?_
        have hk : ∀ {ys : List (Str × Val)} {rs : List (Str × V)}, SPr W.K ι1 H1 ys rs → rs.Pairwise (fun e f => FLS.ltS f.1 e.1 = false) → ys.Pairwise fun e f => FLS.ltS f.1 e.1 = false := by
          intro ys rs h
          induction h with
          | nil => intro _; exact .nil
          | @cons a b as bs z t ih =>
            intro hp
            obtain ⟨q1, q2⟩ := List.pairwise_cons.mp hp
            refine List.pairwise_cons.mpr ⟨fun f hf => ?_, ih q2⟩
            have : f.1 ∈ as.map (·.1) := List.mem_map.mpr ⟨f, hf, rfl⟩
            rw [SPr.keys t] at this
            obtain ⟨f', hf', ef⟩ := List.mem_map.mp this
            have := q1 f' hf'
            rw [← ef, z.1]
            exact this
        exact hk p2 hso
      subst hys
      have rl : RVs W.K ι1 H2 ((srtS ks).map fun e => Val.tup [.str e.1.cps.toList, e.2]) (zs.map fun z => V.ref z.1) := by
        have : ∀ {ys : List (Str × Val)} {zs : List (Addr × Str × V)}, SPr W.K ι1 H1 ys (zs.map (·.2)) → (∀ z ∈ zs, H2 z.1 = some (.tup [.str z.2.1, z.2.2])) → RVs W.K ι1 H2 (ys.map fun e => Val.tup [.str e.1.cps.toList, e.2]) (zs.map fun z => V.ref z.1) := by
          intro ys
          induction ys with
          | nil =>
            intro zs h _
            cases zs with
            | nil => exact .nil
            | cons z zs => cases h
          | cons y ys ih =>
            intro zs h hz
            cases zs with
            | nil => cases h
            | cons z zs =>
              cases h with
              | cons q1 q2 =>
                refine .cons ?_ (ih q2 fun u hu => hz u (List.mem_cons_of_mem _ hu))
                refine .tup (SqT.of (hz z List.mem_cons_self)) (.cons ?_ (.cons (q1.2.mono e2) .nil))
                have e9 : y.1 = z.2.1 := q1.1
                rw [← e9]
                have := RV.str (K := W.K) (ι := ι1) (H := H2) y.1.cps.toList
                rw [st_back] at this
                exact this
        exact this p2 hz
      have nl := r1.free hl
      have e3 : Ext ι1 H1 (ι1 ++ [l]) H2 := e2.join hl
      exact hq1 _ _ _ e3 (r2.join hL nl (show RO W ι1 H2 (.lst _) (.lst _) from rl)) (.ref (by rw [← r1.len]; simp))
    | _ => cases h1
end
end FL
/-! FL16: dict comprehensions, calls with keywords, more of lists, reversed. -/
namespace FL
open PySem PySem.Spec PyProof.Rows L2
section
variable {W : Wd} {k : Nat} {X : Cx} {Ew : WX} {ι ι' : List Addr} {H H' : Hp} {st : Sto} {a b e : Expr} {es : List Expr} {ma mb me mk mv : FE} {mt mu mt1 : FT} {mas : FA} {pos : Pos} {s : Stmt} {ss : List Stmt} {m n : FS} {tg : Expr}
/-! ### dict comprehensions -/
open Classical in
noncomputable def dcL (l : Lv) (all : List Val) (g : FG) (t : FT) (mk mv : FE) (sl : Sl) : List Val → List (Key × Val) → Sto → Option (List (Key × Val) × Sto)
  | [], kvs, st => if Live l all st then some (kvs, st) else none
  | x :: xs, kvs, st => if Live l all st then (match g x sl st with
      | none => none
      | some (sl1, st1) => match t sl1 st1 with
        | some (.ok true st2) => (match mk sl1 st2 with
          | some (.ok y st3) => (match mv sl1 st3 with
            | some (.ok z st4) => (match keyOf y with
              | some k => if kvs.length < LINE then dcL l all g t mk mv sl xs (setK kvs k z) st4 else none
              | none => none)
            | _ => none)
          | _ => none)
        | some (.ok false st2) => dcL l all g t mk mv sl xs kvs st2
        | _ => none) else none
noncomputable def fDc (mi : FI) (g : FG) (t : FT) (mk mv : FE) (vs : List Nat) : FE := bnd mi fun b => fun sl st => match dcL b.live b.items g t mk mv (wipeL sl vs) b.items [] st with
  | some (kvs, st') => some (.ok (.ref st'.length) (st' ++ [.dic kvs]))
  | none => none
theorem DP.mono0 {ι2 : List Addr} {H2 : Hp} (e : Ext0 ι H ι2 H2) {kvs : List (Key × Val)} {ms : List (Key × V)} (h : DP W.K ι H kvs ms) : DP W.K ι2 H2 kvs ms := Paired.impl (fun _ _ z => ⟨z.1, z.2.mono0 e⟩) h
open Classical in
theorem dc_imp {mi : FI} {g : FG} {vs : List Nat} {σ : L2.St} {H : Hp} {Q : VK} (h : teOf W Ew (fDc mi g mt mk mv vs) σ H Q) : tDc (tiOf W Ew mi) (tgW W vs g) (ttOf W E00 mt) (teOf W E00 mk) (teOf W E00 mv) vs σ H Q := by
  obtain ⟨ι, sl, st, r, hs, hr, hm, hq⟩ := h
  refine run hs hr hm hq fun b st1 ι1 H1 J e1 s1 r1 ok hm1 hq1 => ?_
  intro D hD
  have nD := r1.free hD
  have hm2 : (match dcL b.live b.items g mt mk mv (wipeL sl vs) b.items [] st1 with | some (kvs, st') => some (R.ok (.ref st'.length) (st' ++ [.dic kvs])) | none => none) = some r := hm1
  cases hl : dcL b.live b.items g mt mk mv (wipeL sl vs) b.items [] st1 with
  | none => rw [hl] at hm2; cases hm2
  | some p =>
    obtain ⟨ys0, st0⟩ := p
    rw [hl] at hm2
    cases hm2
    have sw := s1.wipe vs
    refine ⟨fun i mm H => ∃ ι2 st2 acc vacc, Ext ι1 H1 ι2 H ∧ H D = some (.dK vacc) ∧ (∀ i : Nat, ι2[i]? ≠ some D) ∧ DP W.K ι2 H acc vacc ∧ Rel W ι2 H st2 ∧ i ≤ b.items.length ∧ mm = b.items.length - i ∧
      dcL b.live b.items g mt mk mv (wipeL sl vs) (b.items.drop i) acc st2 = some (ys0, st0), ⟨_, ι1, st1, [], [], (Ext.refl _ _).putO hD, upd_same, nD, .nil, r1.newO hD, Nat.zero_le _, rfl, hl⟩, ?_⟩
    rintro i mm H2 ⟨ι2, st2, acc, vacc, e2, hD2, nD2, ra, r2, hi, rfl, hf⟩
    cases hd : b.items.drop i with
    | nil =>
      rw [hd] at hf
      have hf2 : (if Live b.live b.items st2 then some (acc, st2) else none) = some (ys0, st0) := hf
      by_cases hlv : Live b.live b.items st2
      case neg => rw [if_neg hlv] at hf2; cases hf2
      rw [if_pos hlv] at hf2
      obtain ⟨rfl, rfl⟩ := Prod.mk.inj (Option.some.inj hf2)
      have hi2 : b.items.length ≤ i := by
        have := congrArg List.length hd
        rw [List.length_drop, List.length_nil] at this
        omega
      refine .inl ⟨(ok ι2 H2 st2 i e2.toExt0 r2 hlv).2 hi2, ?_⟩
      exact hq1 _ _ _ (e2.join hD) (r2.join hD2 nD2 (show RO W ι2 H2 (.dic acc) (.dK vacc) from ra)) (.ref (by rw [← r2.len]; simp))
    | cons x xs =>
      rw [hd] at hf
      have hf2 : (if Live b.live b.items st2 then (match g x (wipeL sl vs) st2 with
        | none => none
        | some (sl1, st1) => match mt sl1 st1 with
          | some (.ok true st2) => (match mk sl1 st2 with
            | some (.ok y st3) => (match mv sl1 st3 with
              | some (.ok z st4) => (match keyOf y with
                | some k => if acc.length < LINE then dcL b.live b.items g mt mk mv (wipeL sl vs) xs (setK acc k z) st4 else none
                | none => none)
              | _ => none)
            | _ => none)
          | some (.ok false st2) => dcL b.live b.items g mt mk mv (wipeL sl vs) xs acc st2
          | _ => none) else none) = some (ys0, st0) := hf
      by_cases hlv : Live b.live b.items st2
      case neg => rw [if_neg hlv] at hf2; cases hf2
      rw [if_pos hlv] at hf2
      have hx : b.items[i]? = some x := by
        have h0 := List.getElem?_drop (xs := b.items) (i := i) (j := 0)
        rw [hd] at h0
        simpa using h0.symm
      have hxs : b.items.drop (i + 1) = xs := by
        rw [← List.drop_drop, hd]
        rfl
      have hil : i < b.items.length := (List.getElem?_eq_some_iff.mp hx).1
      obtain ⟨hgo, hy⟩ := (ok ι2 H2 st2 i e2.toExt0 r2 hlv).1 x hx
      refine .inr ⟨hgo, fun H' => ∃ ι3 st3 acc3 vacc3, Ext ι1 H1 ι3 H' ∧ H' D = some (.dK vacc3) ∧ (∀ i : Nat, ι3[i]? ≠ some D) ∧ DP W.K ι3 H' acc3 vacc3 ∧ Rel W ι3 H' st3 ∧
        dcL b.live b.items g mt mk mv (wipeL sl vs) xs acc3 st3 = some (ys0, st0), ?_, fun y H3 hyl => ?_⟩
      · rintro H' ⟨ι3, st3, acc3, vacc3, h1, h2, h3, h4, h5, h7⟩
        exact ⟨b.items.length - (i + 1), by omega, ι3, st3, acc3, vacc3, h1, h2, h3, h4, h5, hil, rfl, by rw [hxs]; exact h7⟩
      obtain ⟨e3, r3, ry⟩ := hy y H3 hyl
      cases h5 : g x (wipeL sl vs) st2 with
      | none => rw [h5] at hf2; cases hf2
      | some p =>
        obtain ⟨sl4, st4⟩ := p
        rw [h5] at hf2
        refine ⟨ι2, wipeL sl vs, st2, x, sl4, st4, sw.mono (e2.trans e3), r3, ry, h5, fun ι4 H4 σ4 e4 r4 s4 w4 => ⟨by rw [w4, wipe_wipe], ?_⟩⟩
        have hf3 : (match mt sl4 st4 with
          | some (.ok true st2) => (match mk sl4 st2 with
            | some (.ok y st3) => (match mv sl4 st3 with
              | some (.ok z st4) => (match keyOf y with
                | some k => if acc.length < LINE then dcL b.live b.items g mt mk mv (wipeL sl vs) xs (setK acc k z) st4 else none
                | none => none)
              | _ => none)
            | _ => none)
          | some (.ok false st2) => dcL b.live b.items g mt mk mv (wipeL sl vs) xs acc st2
          | _ => none) = some (ys0, st0) := hf2
        have e24 : Ext ι2 H2 ι4 H4 := e3.trans e4
        obtain ⟨hD4, nD4⟩ := e24.oth D _ hD2 nD2
        cases h6 : mt sl4 st4 with
        | none => rw [h6] at hf3; cases hf3
        | some r6 =>
          rw [h6] at hf3
          cases r6 with
          | ex c st5 => cases hf3
          | ok bb st5 =>
            refine ⟨ι4, sl4, st4, _, s4, r4, h6, fun ι5 H5 bb' e5 r5 hb => ?_⟩
            subst hb
            obtain ⟨hD5, nD5⟩ := e5.oth D _ hD4 nD4
            have ra5 := DP.mono0 (e24.trans e5).toExt0 ra
            cases bb with
            | false => exact ⟨ι5, st5, acc, vacc, (e2.trans e24).trans e5, hD5, nD5, ra5, r5, hf3⟩
            | true =>
              have hf4 : (match mk sl4 st5 with
                | some (.ok y st3) => (match mv sl4 st3 with
                  | some (.ok z st4) => (match keyOf y with
                    | some k => if acc.length < LINE then dcL b.live b.items g mt mk mv (wipeL sl vs) xs (setK acc k z) st4 else none
                    | none => none)
                  | _ => none)
                | _ => none) = some (ys0, st0) := hf3
              cases h7 : mk sl4 st5 with
              | none => rw [h7] at hf4; cases hf4
              | some r7 =>
                rw [h7] at hf4
                cases r7 with
                | ex c st6 => cases hf4
                | ok y6 st6 =>
                  have hf5 : (match mv sl4 st6 with
                    | some (.ok z st4) => (match keyOf y6 with
                      | some k => if acc.length < LINE then dcL b.live b.items g mt mk mv (wipeL sl vs) xs (setK acc k z) st4 else none
                      | none => none)
                    | _ => none) = some (ys0, st0) := hf4
                  refine ⟨ι5, sl4, st5, _, s4.mono e5, r5, h7, fun ι6 H6 vy e6 r6 rvy => ?_⟩
                  obtain ⟨hD6, nD6⟩ := e6.oth D _ hD5 nD5
                  cases h8 : mv sl4 st6 with
                  | none => rw [h8] at hf5; cases hf5
                  | some r8 =>
                    rw [h8] at hf5
                    cases r8 with
                    | ex c st7 => cases hf5
                    | ok z7 st7 =>
                      have hf6 : (match keyOf y6 with
                        | some k => if acc.length < LINE then dcL b.live b.items g mt mk mv (wipeL sl vs) xs (setK acc k z7) st7 else none
                        | none => none) = some (ys0, st0) := hf5
                      cases hk : keyOf y6 with
                      | none => rw [hk] at hf6; cases hf6
                      | some key =>
                        rw [hk] at hf6
                        have hf7 : (if acc.length < LINE then dcL b.live b.items g mt mk mv (wipeL sl vs) xs (setK acc key z7) st7 else none) = some (ys0, st0) := hf6
                        by_cases hz : acc.length < LINE
                        case neg => rw [if_neg hz] at hf7; cases hf7
                        rw [if_pos hz] at hf7
                        refine ⟨ι6, sl4, st6, _, (s4.mono e5).mono e6, r6, h8, fun ι7 H7 vz e7 r7 rvz => ?_⟩
                        obtain ⟨hD7, nD7⟩ := e7.oth D _ hD6 nD6
                        have x0 : Ext0 ι7 H7 ι7 (upd H7 D (.dK (putK vacc key vz))) := Ext0.putX hD7 (fun _ z => nomatch z) fun _ _ z => nomatch z
                        refine ⟨vacc, key, keyOf_V hk rvy, hD7, ?_, ι7, st7, setK acc key z7, putK vacc key vz, ((((e2.trans e24).trans e5).trans e6).trans e7).putO hD, upd_same, nD7, DP.mono0 x0 (DP.put (DP.mono0 (e6.toExt0.trans e7.toExt0) ra5) key rvz), r7.putX hD7 (fun _ z => nomatch z) (fun _ _ z => nomatch z) nD7, hf7⟩
                        have := DP.len ra
                        rw [← this, ← line_eq]
                        exact hz
theorem se_dc {tg iter kx vx : Expr} {ifs : List Expr} {scope : Scope} {own : List (Str × Nat)} {mi : FI} {g : FG} (C : Ctx W k X Ew) (hi : SI W X Ew tg iter mi) (ok : BlkOk X.N X.env.scope scope own)
    (hg : ∀ (s : Shared) (H : Hp) (c : Addr) (cl : List (Str × Addr)) (fp : List Addr), SGw W (X.blk s H scope (compEnvC scope cl c X.env) fp) (own.map (·.2)) tg g)
    (ht : ∀ (s : Shared) (H : Hp) (c : Addr) (cl : List (Str × Addr)) (fp : List Addr), STs W (X.blk s H scope (compEnvC scope cl c X.env) fp) ifs mt)
    (hk : ∀ (s : Shared) (H : Hp) (c : Addr) (cl : List (Str × Addr)) (fp : List Addr), SE W (X.blk s H scope (compEnvC scope cl c X.env) fp) E00 kx mk)
    (he : ∀ (s : Shared) (H : Hp) (c : Addr) (cl : List (Str × Addr)) (fp : List Addr), SE W (X.blk s H scope (compEnvC scope cl c X.env) fp) E00 vx mv)
    (h1 : ∀ x, foldedSetIterable iter X.env x = pure x := by intro _; rfl) : SE W X Ew (.DictComp kx vx [⟨tg, iter, ifs, 0⟩] scope pos) (fDc mi g mt mk mv (own.map (·.2))) :=
  imE (pe_dc C.calm C.nd hi ok hg ht hk he h1) fun σ H Q h => dc_imp h
/-! ### calls with keywords -/
abbrev SK (W : Wd) (X : Cx) (Ew : WX) (kws : List Keyword) (m : FA) : Prop := PK X kws (taOf W Ew m)
theorem imK {kws : List Keyword} {t u : TA} (h : PK X kws t) (i : ∀ σ H Q, u σ H Q → t σ H Q) : PK X kws u := ⟨fun pos pins s σ H Q I hw => h.run pos pins s σ H Q I (i _ _ _ hw)⟩
theorem sk_nil : SK W X Ew [] fNil := imK pk_nil fun σ H Q ⟨ι, sl, st, r, hs, hr, hm, hq⟩ => by
  cases hm
  exact hq ι H _ (Ext.refl _ _) hr .nil
theorem sk_cons {kws : List Keyword} {nm : Option Str} {kpos : Pos} (ha : SE W X Ew a ma) (hb : SK W X Ew kws mas) : SK W X Ew (⟨nm, a, kpos⟩ :: kws) (fCons ma mas) :=
  imK (pk_cons ha hb) fun σ H Q ⟨ι, sl, st, r, hs, hr, hm, hq⟩ => run hs hr hm hq fun x st1 ι1 H1 vx e1 s1 r1 rx hm1 hq1 => run s1 r1 hm1 hq1 fun y st2 ι2 H2 vy e2 s2 r2 ry hm2 hq2 => by
    cases hm2
    exact hq2 ι2 H2 _ (Ext.refl _ _) r2 (.cons (rx.mono e2) ry)
/-- the def at the module's name x, called with n values and the keywords ks: gD puts them and the defaults in order -/
structure CalleeK (W : Wd) (x : Str) (k : Nat) (F : FF) (n : Nat) (ks : List Str) (gD : List Val → List Val → List Val) : Prop where
  ex : ∃ (f : Addr) (fd : FuncData) (ps : List Str) (g : List Value → List Value → List Value) (gV : List V → List V → List V), W.mg x = some (.ref f) ∧ PySem.W.keepIn W.K (.ref f) = true ∧ KBn W.K fd ps n ks g gV ∧ FnOk W.P W.w W.K W.mg W.base (L2N.CX W.P W.w) k f fd ps (spOf W F) ∧
    ∀ (ι : List Addr) (H : Hp) as bs vs zs, RVs W.K ι H as vs → RVs W.K ι H bs zs → as.length = n → bs.length = ks.length → RVs W.K ι H (gD as bs) (gV vs zs)
def tCallNS (n m : Nat) (sp : Sp) (gV : List V → List V → List V) (E : L2.St → XK) (t tk : TA) : TE := fun σ H Q => t σ H fun vs H1 => tk σ H1 fun zs H2 => vs.length = n ∧ zs.length = m ∧ sp (gV vs zs) H2 Q (E σ)
theorem pe_callNS {CX : CXT} {n : Nat} {f : Addr} {fd : FuncData} {ps ks : List Str} {sp : Sp} {E : L2.St → XK} {x : Str} {p : Pos} {kws : List Keyword} {t tk : TA} {g : List Value → List Value → List Value} {gV : List V → List V → List V} (F : FnOk X.prog X.w X.K X.mg X.base CX k f fd ps sp) (hr : Room k X.A) (hg : Gl X x) (hm : X.mg x = some (.ref f)) (hk : PySem.W.keepIn X.K (.ref f) = true) (hb : KBn X.K fd ps n ks g gV) (hx : ∀ σ, PassesAt CX X σ (E σ))
    (ha : PA X (e :: es) t) (hkw : PK X kws tk) (hall : (backToKw pos (keywordEach kws X.env)).all (·.1.isSome) = true := by rfl) (hks : (backToKw pos (keywordEach kws X.env)).filterMap (·.1) = ks := by rfl)
    (hdb : (x == ("__debug__" : Str)) = false := by decide) (he : starEach (e :: es) X.env = (false, eval e X.env) :: starEach es X.env := by rfl)
    (hpl : ((backTo pos (starEach (e :: es) X.env)).any (·.1) || (backToKw pos (keywordEach kws X.env)).any (·.1.isNone)) = false := by rfl) :
    PE X (.Call (.Name x p) (e :: es) kws pos) (tCallNS n ks.length sp gV E t tk) := by
  refine ⟨fun pins s σ H Q I h => ?_⟩
  refine wpAny_Call_Name_kw (ld_glob I hg hm ?_ hdb)
  refine PySem.W.callWith_KW (h₀ := X.base) I.ok.mod.kin hk hall (thn (ha.run pos pins s σ H _ I h) fun us s1 ⟨vs, H1, I1, r, q⟩ => ?_) hpl he
  refine thn (hkw.run pos pins s1 σ H1 _ I1 q) fun ws s2 ⟨zs, H2, I2, rz, l1, l2, q2⟩ => ⟨I2.kIn, ?_⟩
  rw [hks]
  have r2 := hb.rel r rz
  refine wpAny_call (codeAny_mono (F.run X.A X.stack s2 H2 ⟨us, ks.zip ws⟩ (g us ws) (gV vs zs) Q (E σ) hr I2.env0 (hb.to s2 us ws I2.kIn (r.length.symm.trans l1) (rz.length.symm.trans l2)) r2 q2) fun r s' hq => ?_)
  cases r with
  | error e => exact hx σ pins H2 s2 e s' I2 hq
  | ok fl =>
    cases fl with
    | ret u => exact I2.after hq
    | next => exact False.elim hq
    | brk => exact False.elim hq
    | cont => exact False.elim hq
def fCallK (F : FF) (n j : Nat) (gD : List Val → List Val → List Val) (m mk : FA) : FE := bnd m fun xs => bnd mk fun zs => fun _ st => if xs.length = n ∧ zs.length = j then F (gD xs zs) st else none
theorem se_callK {x : Str} {p : Pos} {j n : Nat} {F : FF} {ks : List Str} {gD : List Val → List Val → List Val} {kws : List Keyword} {mks : FA} (C : Ctx W k X Ew) (G : CalleeK W x j F n ks gD) (hj : j ≤ k) (ha : SA W X Ew (e :: es) mas) (hkw : SK W X Ew kws mks) (hg : Gl X x := by rfl)
    (hall : (backToKw pos (keywordEach kws X.env)).all (·.1.isSome) = true := by rfl) (hks : (backToKw pos (keywordEach kws X.env)).filterMap (·.1) = ks := by rfl)
    (hdb : (x == ("__debug__" : Str)) = false := by decide) (he : starEach (e :: es) X.env = (false, eval e X.env) :: starEach es X.env := by rfl)
    (hpl : ((backTo pos (starEach (e :: es) X.env)).any (·.1) || (backToKw pos (keywordEach kws X.env)).any (·.1.isNone)) = false := by rfl) :
    SE W X Ew (.Call (.Name x p) (e :: es) kws pos) (fCallK F n ks.length gD mas mks) := by
  obtain ⟨f, fd, ps, g, gV, g1, g2, g3, g4, g6⟩ := G.ex
  have g5 : FnOk X.prog X.w X.K X.mg X.base (L2N.CX X.prog X.w) j f fd ps (spOf W F) := by
    rw [C.eP, C.ew, C.eK, C.em, C.eb]
    exact g4
  refine imE (pe_callNS g5 (C.rm.mono hj) hg (by rw [C.em]; exact g1) (by rw [C.eK]; exact g2) (by rw [C.eK]; exact g3) (fun σ => L2N.passAt C.tk σ) ha hkw hall hks hdb he hpl) fun σ H Q ⟨ι, sl, st, r, hs, hr, hm, hq⟩ => run hs hr hm hq fun xs st1 ι1 H1 vs e1 s1 r1 rx hm1 hq1 => run s1 r1 hm1 hq1 fun zs st2 ι2 H2 ws e2 s2 r2 rz hm2 hq2 => ?_
  have hm3 : (if xs.length = n ∧ zs.length = ks.length then F (gD xs zs) st2 else none) = some r := hm2
  by_cases hl : xs.length = n ∧ zs.length = ks.length
  case neg => rw [if_neg hl] at hm3; cases hm3
  rw [if_pos hl] at hm3
  exact ⟨by rw [← rx.len]; exact hl.1, by rw [← rz.len]; exact hl.2, ι2, st2, _, r, g6 ι2 H2 xs zs vs ws (rx.mono e2) rz hl.1 hl.2, r2, hm3, hq2⟩
/-- by the pattern: given (true) or lacking -/
def mixK {α : Type} : List Bool → List α → List α → List α
  | true :: r, m, w :: ws => w :: mixK r m ws
  | false :: r, m :: ms, ws => m :: mixK r ms ws
  | _, _, _ => []
theorem mixK_vals : ∀ (pat : List Bool) {mz zs : List V} {mv ws : List Value}, Vals mz mv → Vals zs ws → Vals (mixK pat mz zs) (mixK pat mv ws)
  | [], _, _, _, _, _, _ => .nil
  | true :: r, _, [], _, [], _, .nil => .nil
  | true :: r, _, _ :: _, _, _ :: _, h, .cons a b => .cons a (mixK_vals r h b)
  | false :: r, [], _, [], _, .nil, _ => .nil
  | false :: r, _ :: _, _, _ :: _, _, .cons a b, h => .cons a (mixK_vals r b h)
theorem mixK_rvs {K : PySem.W.Frag} : ∀ (pat : List Bool) {ms bs : List Val} {mz zs : List V}, RVs K ι H ms mz → RVs K ι H bs zs → RVs K ι H (mixK pat ms bs) (mixK pat mz zs)
  | [], _, _, _, _, _, _ => .nil
  | true :: r, _, [], _, [], _, .nil => .nil
  | true :: r, _, _ :: _, _, _ :: _, h, .cons a b => .cons a (mixK_rvs r h b)
  | false :: r, [], _, [], _, .nil, _ => .nil
  | false :: r, _ :: _, _, _ :: _, _, .cons a b, h => .cons a (mixK_rvs r b h)
/-- a def with keyword-only parameters as it stands behind the top -/
structure HasK (W : Wd) (x : Str) (st : Stmt) (kws : List (Str × V)) : Prop where
  ex : ∃ (f : Addr) (fd : FuncData), W.mg x = some (.ref f) ∧ Fun W.K x x st f fd ∧ FunD W.K x x (defArgs st) (defBody st) (defScope st) [] kws f fd
theorem calleeK {x : Str} {st : Stmt} {N ps : List Str} {kws : List (Str × V)} (hh : HasK W x st kws) (S : FnScope N ps (defScope st)) (n : Nat) (ks : List Str) (ms : List (Str × V)) (msD : List Val) (pat : List Bool) (hd : ∀ ι H, RVs W.K ι H msD (ms.map (·.2))) (hk : kws ≠ []) (hms : ∀ q ∈ ms, q ∈ kws)
    (hb : ∀ (D : Addr) (doc pm : Value) (an : Option Addr) (cdv ct : Value) (us mv ws : List Value), us.length = n → mv.length = ms.length → ws.length = ks.length →
      KwChain D ((ms.map (·.1)).zip mv) (bindArgs (PySem.W.fnOf x x (defArgs st) (defBody st) (defScope st) .none (.ref D) doc pm an cdv ct) ⟨us, ks.zip ws⟩) (ps.zip (us ++ mixK pat mv ws)))
    (hbody : ∀ (f : Addr) (cdv : Value) (A : Around) (outer : List PySem.Env) (s : Shared) (H : Hp) (E : XK), Ctx W k (bX W N x st f cdv A outer s H E) (fun c d _ H => E c d H) → SSs W (bX W N x st f cdv A outer s H E) (fun c d _ H => E c d H) (defBody st) m) :
    CalleeK W x (k + 1) (runF ps.length N.length m) n ks (fun as bs => as ++ mixK pat msD bs) := by
  obtain ⟨f, fd, h1, h2, h3⟩ := hh.ex
  obtain ⟨mv, kb⟩ := FunD.kbinds0 h3 n ks ms (fun us mv ws => us ++ mixK pat mv ws) hk hms (fun a b c => a.append (mixK_vals pat b c)) hb
  exact ⟨f, fd, ps, _, _, h1, h2.kp, kb, fn_snd h2 S (hbody f), fun ι H as bs vs zs ra rb _ _ => ra.app (mixK_rvs pat (hd ι H) rb)⟩
/-! ### more of lists -/
def gExtend : Val → ON := fun x xs st => match x, xs with
  | .ref p, [.ref q] => (match st[p]?, st[q]? with
    | some (.lst ys), some (.lst zs) => if ys.length + zs.length ≤ LINE then some (.non, st.set p (.lst (ys ++ zs))) else none
    | _, _ => none)
  | _, _ => none
theorem mt_extendF : MtR X "list.extend" (rm W gExtend) := mtBy fun x xs H Q ⟨ι, st, a, as, v, st', rx, rxs, hr, hf, hq⟩ => by
  unfold gExtend at hf
  split at hf
  case h_2 => cases hf
  split at hf
  case h_2 => cases hf
  rename_i ys zs h1 h2
  split at hf
  case isFalse => cases hf
  rename_i hl
  cases hf
  cases rx with
  | @ref _ p h3 =>
    cases rxs with
    | cons r0 rr =>
      cases rr
      cases r0 with
      | @ref _ q h4 =>
        obtain ⟨vs, h5, h6⟩ := hr.lst h1 h3
        obtain ⟨ws, h7, h8⟩ := hr.lst h2 h4
        exact ⟨_, mt_extend, p, q, vs, ws, rfl, rfl, h5, h7, by rw [← h6.len, ← h8.len]; exact sz_of hl, hq.put hr h3 h1 (show RO W ι H (.lst (ys ++ zs)) (.lst (vs ++ ws)) from h6.app h8) .non⟩
def fLIndex : Val → ON := fun x xs st => match x, xs with
  | .ref p, [y] => (match toD 9 st y, toD 9 st (.ref p) with
    | some d, some (.list ds) => if SeqAt.shaped d = true ∧ SeqAt.shaped (.list ds) = true then (ds.findIdx? fun z => PyData.eqv z d).map fun j => (.int (j : Nat), st) else none
    | _, _ => none)
  | _, _ => none
theorem mt_lindexF (C : Ctx0 W k X Ew) : MtR X "list.index" (rm W fLIndex) := mtBy fun x xs H Q ⟨ι, st, a, as, v, st', rx, rxs, hr, hf, hq⟩ => by
  unfold fLIndex at hf
  split at hf
  case h_2 => cases hf
  rename_i n y
  split at hf
  case h_2 => cases hf
  rename_i d ds h1 h2
  split at hf
  case isFalse => cases hf
  rename_i h3
  obtain ⟨j, h4, h5⟩ := Option.map_eq_some_iff.mp hf
  cases h5
  cases rxs with
  | cons r0 rr =>
    cases rr
    have dx := toD_dp hr _ _ _ _ h2 rx
    cases rx with
    | @ref _ p h6 =>
      obtain ⟨q1, q2, q3⟩ := List.findIdx?_eq_some_iff_getElem.mp h4
      refine ⟨_, mt_indexD C.hu65, p, _, d, ds, j, ds[j], rfl, rfl, by rw [C.eK]; exact dx, by rw [C.eK]; exact toD_dp hr _ _ _ _ h1 r0, h3.2, h3.1, List.getElem?_eq_getElem q1, q2, fun m z' hm hz => ?_, hq.here hr (.int _)⟩
      have hml : m < ds.length := Nat.lt_trans hm q1
      rw [List.getElem?_eq_getElem hml] at hz
      cases hz
      have := q3 m hm
      simpa using this
/-- a list so often -/
def fMulL : O2
  | .ref p, .int j, st => match st[p]? with
    | some (.lst xs) => if -(2 ^ 62) ≤ j ∧ j < 2 ^ 62 ∧ xs.length * j.toNat ≤ LINE then some (.ref st.length, st ++ [.lst (reps j.toNat xs)]) else none
    | _ => none
  | a, b, st => fMul a b st
theorem op_mulLF (C : Ctx0 W k X Ew) : OpR X (binaryOp .Mult) (ro W fMulL) := opBy fun x y H Q ⟨ι, st, a, b, v, st', rx, ry, hr, hf, hq⟩ => by
  cases rx with
  | @ref n p h0 =>
    cases ry with
    | int j =>
      have hf2 : (match st[n]? with
        | some (.lst xs) => if -(2 ^ 62) ≤ j ∧ j < 2 ^ 62 ∧ xs.length * j.toNat ≤ LINE then some (Val.ref st.length, st ++ [Ob.lst (reps j.toNat xs)]) else none
        | _ => none) = some (v, st') := hf
      split at hf2
      case h_2 => cases hf2
      rename_i xs h5
      split at hf2
      case isFalse => cases hf2
      rename_i hl
      cases hf2
      obtain ⟨vs, h6, h7⟩ := hr.lst h5 h0
      exact ⟨_, op_rep, p, j, vs, rfl, rfl, h6, by omega, by omega, by rw [← h7.len]; exact sz_of hl.2.2, hq.new hr (show RO W ι H (.lst _) (.lst _) from h7.reps _)⟩
    | _ => cases hf
  | non => exact ⟨_, op_mulF C, ι, st, _, _, v, st', .non, ry, hr, hf, hq⟩
  | bl z => exact ⟨_, op_mulF C, ι, st, _, _, v, st', .bl z, ry, hr, hf, hq⟩
  | int i => exact ⟨_, op_mulF C, ι, st, _, _, v, st', .int i, ry, hr, hf, hq⟩
  | str i => exact ⟨_, op_mulF C, ι, st, _, _, v, st', .str i, ry, hr, hf, hq⟩
  | tup s1 s2 => exact ⟨_, op_mulF C, ι, st, _, _, v, st', .tup s1 s2, ry, hr, hf, hq⟩
  | scr i => exact ⟨_, op_mulF C, ι, st, _, _, v, st', .scr i, ry, hr, hf, hq⟩
  | ty i => exact ⟨_, op_mulF C, ι, st, _, _, v, st', .ty i, ry, hr, hf, hq⟩
  | glo i => exact ⟨_, op_mulF C, ι, st, _, _, v, st', .glo i, ry, hr, hf, hq⟩
  | exc h1 h2 h3 h4 => exact ⟨_, op_mulF C, ι, st, _, _, v, st', .exc h1 h2 h3 h4, ry, hr, hf, hq⟩
/-! ### reversed(list or tuple) -/
theorem rev_at {α : Type} {xs : List α} {i : Nat} {x : α} (h : xs.reverse[i]? = some x) : i < xs.length ∧ xs[xs.length - 1 - i]? = some x := by
  have hi := (List.getElem?_eq_some_iff.mp h).1
  rw [List.length_reverse] at hi
  rw [List.getElem?_reverse hi] at h
  exact ⟨hi, h⟩
theorem ok_revL {j : Nat} {p : Addr} {xs : List Val} {n : Nat} (hn : n = xs.length) (h0 : ι[j]? = some p) : ItOk W ι H ⟨xs.reverse, .two j xs j xs⟩ (Itv W.K p n) := fun ι' H' st i e r lv => by
  subst hn
  obtain ⟨l1, _⟩ : st[j]? = some (.lst xs) ∧ st[j]? = some (.lst xs) := lv
  obtain ⟨vs, a1, a2⟩ := r.lst l1 (e.pre _ _ h0)
  refine ⟨fun x hx => ?_, fun hi => by
    have h2 : xs.reverse.length ≤ i := hi
    rw [List.length_reverse] at h2
    exact h2⟩
  obtain ⟨hi, hx2⟩ := rev_at (show xs.reverse[i]? = some x from hx)
  obtain ⟨v, h3, h4⟩ := a2.at _ hx2
  refine ⟨⟨hi, vs, v, SqL.of a1, h3⟩, fun u H2 ⟨hH, hu⟩ => ?_⟩
  subst hH
  have h5 := hu vs (SqL.of a1)
  rw [h3] at h5
  cases h5
  exact ⟨Ext.refl _ _, r, h4⟩
theorem ok_revT {p : Addr} {vs : List V} {xs : List Val} {n : Nat} (hn : n = xs.length) (sx : SqT W.K H p vs) (rxs : RVs W.K ι H xs vs) : ItOk W ι H ⟨xs.reverse, .none⟩ (RT.ItvT W.K p n) := fun ι' H' st i e r _ => by
  subst hn
  have s1 := e.sqT sx
  have r1 := rxs.mono0 e
  refine ⟨fun x hx => ?_, fun hi => by
    have h2 : xs.reverse.length ≤ i := hi
    rw [List.length_reverse] at h2
    exact h2⟩
  obtain ⟨hi, hx2⟩ := rev_at (show xs.reverse[i]? = some x from hx)
  obtain ⟨v, h3, h4⟩ := r1.at _ hx2
  refine ⟨⟨hi, vs, v, s1, h3⟩, fun u H2 ⟨hH, hu⟩ => ?_⟩
  subst hH
  have h5 := hu vs s1
  rw [h3] at h5
  cases h5
  exact ⟨Ext.refl _ _, r, h4⟩
def asRev (st : Sto) : Val → Option Itb
  | .tup xs => some ⟨xs.reverse, .none⟩
  | .ref p => match st[p]? with
    | some (.lst xs) => some ⟨xs.reverse, .two p xs p xs⟩
    | _ => none
  | _ => none
def fRev (m : FE) : FI := bnd m fun x => fun _ st => (asRev st x).map fun b => .ok b st
theorem si_rev {p : Pos} (C : Ctx0 W k X Ew) (hm : W.mg "reversed" = none) (ha : SE W X Ew a ma) (hg : Gl X "reversed" := by rfl)
    (hs : starEach [a] X.env = (false, eval a X.env) :: starEach [] X.env := by rfl) : SI W X Ew tg (.Call (.Name "reversed" p) [a] [] pos) (fRev ma) :=
  imI (RT.pi_revA hg (by rw [C.em]; exact hm) ha hs) fun σ H Q ⟨ι, sl, st, r, hs, hr, hm, hq⟩ => run hs hr hm hq fun x st1 ι1 H1 vx e1 s1 r1 rx hm1 hq1 => by
    have hm2 : (asRev st1 x).map (fun b => R.ok b st1) = some r := hm1
    obtain ⟨b, h1, rfl⟩ := Option.map_eq_some_iff.mp hm2
    rw [C.eK]
    cases rx with
    | @tup p vs xs sx rxs =>
      cases h1
      exact ⟨p, vs, rfl, .inr ⟨sx, hq1 ι1 H1 _ (Ext.refl _ _) r1 (ok_revT rxs.len.symm sx rxs)⟩⟩
    | @ref j p h0 =>
      have h2 : (match st1[j]? with | some (.lst xs) => some (Itb.mk xs.reverse (.two j xs j xs)) | _ => none) = some b := h1
      split at h2
      · rename_i xs h5
        cases h2
        obtain ⟨vs, h6, h7⟩ := r1.lst h5 h0
        exact ⟨p, vs, rfl, .inl ⟨SqL.of h6, hq1 ι1 H1 _ (Ext.refl _ _) r1 (ok_revL h7.len.symm h0)⟩⟩
      · cases h2
    | _ => cases h1
/-! ### x += y, x -= y -/
def fIAdd : O2
  | .int i, .int j, st => some (.int (i + j), st)
  | .str x, .str y, st => if x.length + y.length ≤ LINE then some (.str (x ++ y), st) else none
  | _, _, _ => none
theorem ip_addF : PIp X .Add (rip W fIAdd) := fun pins s σ H x y v u Q I rx ry h => by
  obtain ⟨ι, st, a, b, w, st', ra, rb, hr, hf, hq⟩ := h
  cases ra with
  | int i =>
    cases rb with
    | int j =>
      cases hf
      exact iop_add pins s σ H _ _ v u Q I rx ry ⟨i, j, rfl, rfl, hq.here hr (.int _)⟩
    | _ => cases hf
  | str i =>
    cases rb with
    | str j =>
      have hf2 : (if i.length + j.length ≤ LINE then some (Val.str (i ++ j), st) else none) = some (w, st') := hf
      by_cases hl : i.length + j.length ≤ LINE
      case neg => rw [if_neg hl] at hf2; cases hf2
      rw [if_pos hl] at hf2
      cases hf2
      exact iop_add_str pins s σ H _ _ v u Q I rx ry ⟨_, _, rfl, rfl, by rw [st_len, st_len]; exact sz_of hl, by rw [st_app]; exact hq.here hr (.str _)⟩
    | _ => cases hf
  | _ => cases hf
theorem ip_subF : PIp X .Sub (rip W fSub) := fun pins s σ H x y v u Q I rx ry h => by
  obtain ⟨ι, st, a, b, w, st', ra, rb, hr, hf, hq⟩ := h
  cases ra with
  | int i =>
    cases rb with
    | int j =>
      cases hf
      exact iop_sub pins s σ H _ _ v u Q I rx ry ⟨i, j, rfl, rfl, hq.here hr (.int _)⟩
    | _ => cases hf
  | _ => cases hf
end
end FL
/-! FL17: slices with a step, ranges with a step, the greatest of pairs of places. -/
namespace FL
open PySem PySem.Spec PyProof.Rows L2
section
variable {W : Wd} {k : Nat} {X : Cx} {Ew : WX} {ι ι' : List Addr} {H H' : Hp} {st : Sto} {a b c e : Expr} {es : List Expr} {ma mb me : FE} {mas : FA} {pos : Pos} {tg : Expr}
/-! ### xs[i::c] -/
def pickG {α : Type} (xs : List α) (lo : Option Int) (c : Int) : List α := (sliceRange (sliceBounds lo none (some c) xs.length).1 (sliceBounds lo none (some c) xs.length).2.1 (sliceBounds lo none (some c) xs.length).2.2).filterMap (xs[·]?)
theorem RVs.pick {K : PySem.W.Frag} {xs : List Val} {vs : List V} (h : RVs K ι H xs vs) : ∀ is : List Nat, RVs K ι H (is.filterMap (xs[·]?)) (is.filterMap (vs[·]?))
  | [] => .nil
  | i :: is => by
    have ih := RVs.pick h is
    rw [List.filterMap_cons, List.filterMap_cons]
    cases hx : xs[i]? with
    | none =>
      have : vs[i]? = none := by
        rw [List.getElem?_eq_none_iff] at hx ⊢
        rw [← h.len]
        exact hx
      rw [this]
      exact ih
    | some x =>
      obtain ⟨v, h1, h2⟩ := RVs.at i h hx
      rw [h1]
      exact .cons h2 ih
theorem Vals.pick {vs : List V} {us : List Value} (h : Vals vs us) : ∀ is : List Nat, Vals (is.filterMap (vs[·]?)) (is.filterMap (us[·]?))
  | [] => .nil
  | i :: is => by
    have ih := Vals.pick h is
    rw [List.filterMap_cons, List.filterMap_cons]
    cases hx : vs[i]? with
    | none =>
      have : us[i]? = none := by
        rw [List.getElem?_eq_none_iff] at hx ⊢
        rw [← h.length]
        exact hx
      rw [this]
      exact ih
    | some x =>
      obtain ⟨u, h1, h2⟩ := Vals.get h hx
      rw [h1]
      exact .cons h2 ih
theorem pick_arr (its : List Value) (lo : Option Int) (c : Int) : slicePick its.toArray lo none (some c) = (pickG its lo c).toArray := by
  unfold slicePick pickG
  simp
def tSlC (K : PySem.W.Frag) (te : TE) (tl : TO) (c : Int) : TE := fun σ H Q => te σ H fun x H1 => tl σ H1 fun l H2 => ∃ a xs, x = .ref a ∧ SqL K H2 a xs ∧ ∀ p, H2 p = none → Q (.ref p) (upd H2 p (.lst (pickG xs l c)))
theorem pick_map {α β : Type} (f : α → β) (xs : List α) (lo : Option Int) (c : Int) : pickG (xs.map f) lo c = (pickG xs lo c).map f := by
  unfold pickG
  rw [List.length_map, List.map_filterMap]
  congr 1
  funext i
  rw [List.getElem?_map]
theorem pick_len {α : Type} (xs : List α) (lo : Option Int) (c : Int) : (pickG xs lo c).length ≤ xs.length := by
  have h := slicePick_size_le (xs.map fun _ => Value.none).toArray lo none (some c)
  rw [pick_arr, pick_map] at h
  simpa using h
theorem pe_slC {e : Expr} {te : TE} {lo : Option Expr} {tl : TO} {c : Int} {k : Nat} {p1 p3 pos : Pos} (hc : 0 < c) (he : PE X e te) (hl : PO X lo tl) : PE X (.Subscript e (.Slice lo none (some (.Constant (.int c) k p1)) p3) pos) (tSlC X.K te tl c) := by
  refine ⟨fun pins s σ H Q I h => ?_⟩
  refine Subscript_ (thn (he.run pins s σ H _ I h) fun v s1 ⟨x, H1, I1, r1, q1⟩ => ?_)
  have hst : PO X (some (.Constant (.int c) k p1)) (tPart (tC (.int c))) := po_some pe_int
  refine wpAny_Slice (thn (hl.run pins s1 σ H1 _ I1 q1) fun vl s2 ⟨l, H2, I2, pl, q2⟩ => ?_)
  obtain ⟨a, xs, ex, hx, q⟩ := q2
  subst ex
  cases r1
  refine thn (po_none.run pins s2 σ H2 (fun o H3 => o = none ∧ H3 = H2) I2 ⟨rfl, rfl⟩) fun vu s3 ⟨u, H3, I3, pu, eu, e3⟩ => ?_
  subst eu e3
  refine thn (hst.run pins s3 σ H3 (fun o H4 => o = some c ∧ H4 = H3) I3 ⟨c, rfl, rfl, rfl⟩) fun vs s4 ⟨o, H4, I4, ps, eo, e4⟩ => ?_
  subst eo e4
  have I5 : Inv X pins σ H4 { s4 with heap := s4.heap.push { cls := .type "slice", data := .fields #[vl, vu, vs] } } := I4.kept (t' := s4.toks) fun b ob q => Heap.get?_push_of_some _ q
  obtain ⟨its, r, ht, hz⟩ := I5.list hx
  have hlen := r.length
  show wpAny (model X.prog X.w) X.A (subscriptTail e (.Slice lo none (some (.Constant (.int c) k p1)) p3) (.ref a) (.ref s4.heap.objs.size)) (EP X pins σ Q) X.xe { s4 with heap := s4.heap.push { cls := .type "slice", data := .fields #[vl, vu, vs] } }
  refine tail_any (ops := [.ref a, .ref s4.heap.objs.size]) ht.isList.typeIs (PySem.slot_list_getitem.lookup) ?_ (by with_unfolding_all rfl)
  refine wpAny_getItem_list_slice ht.isList (Heap.IsSliceOf.new _ vl vu vs) pl pu ps (by intro z; cases z; exact absurd hc (by decide)) ?_ (by rw [List.size_toArray]; omega)
  rw [pick_arr]
  have hpl := pick_len xs l c
  have hp : Vals (pickG xs l c) (pickG its l c) := by
    unfold pickG
    rw [hlen]
    exact Vals.pick r _
  refine ⟨.ref _, _, I5.laid (t' := s4.toks) (o := .lst (pickG xs l c)) (fun b ob q => Heap.get?_push_of_some _ q) (Nat.le_refl _) ?_, rfl, q _ (I5.hok.fresh (Nat.le_refl _))⟩
  exact ⟨Nat.le_trans hpl hz, _, 0, hp, Heap.get?_push_size _ rfl⟩
def fSlC (m : FE) (lo : FO) (c : Int) : FE := bnd m fun x => bnd lo fun l => lft (fun st => match x with
  | .ref p => match st[p]? with
    | some (.lst xs) => some (.ref st.length, st ++ [.lst (pickG xs l c)])
    | _ => none
  | _ => none)
theorem se_slC {lo : Option Expr} {mlo : FO} {c : Int} {j : Nat} {p1 p3 : Pos} (ha : SE W X Ew a ma) (hl : SO W X Ew lo mlo) (hc : 0 < c := by decide) : SE W X Ew (.Subscript a (.Slice lo none (some (.Constant (.int c) j p1)) p3) pos) (fSlC ma mlo c) :=
  imE (pe_slC hc ha hl) fun σ H Q ⟨ι, sl, st, r, hs, hr, hm, hq⟩ => run hs hr hm hq fun x st1 ι1 H1 vx e1 s1 r1 rx hm1 hq1 => run s1 r1 hm1 hq1 fun l st2 ι2 H2 vl e2 s2 r2 rl hm2 hq2 => by
    subst rl
    obtain ⟨v, st', h1, rfl⟩ := lft_some hm2
    cases rx with
    | @ref j p h0 =>
      have h2 : (match st2[j]? with | some (.lst xs) => some (Val.ref st2.length, st2 ++ [.lst (pickG xs l c)]) | _ => none) = some (v, st') := h1
      split at h2
      · rename_i xs h5
        cases h2
        obtain ⟨vs, h6, h7⟩ := r2.lst h5 (e2.pre _ _ h0)
        refine ⟨p, vs, rfl, SqL.of h6, Post.new hq2 r2 (show RO W ι2 H2 (.lst (pickG xs l c)) (.lst (pickG vs l c)) from ?_)⟩
        unfold pickG
        rw [h7.len]
        exact RVs.pick h7 _
      · cases h2
    | _ => cases h1
/-! ### range(i, j, c) -/
def rngC (lo c : Int) (n : Nat) : List Val := (List.range n).map fun i => Val.int (lo + (i : Nat) * c)
theorem ok_rngC (lo c : Int) (n : Nat) : ItOk W ι H ⟨rngC lo c n, .none⟩ (Itc lo c n) := fun ι' H' st i e r _ => by
  refine ⟨fun x hx => ?_, fun hi => by
    have h1 : (rngC lo c n).length ≤ i := hi
    unfold rngC at h1
    rw [List.length_map, List.length_range] at h1
    exact h1⟩
  have hx2 : (rngC lo c n)[i]? = some x := hx
  unfold rngC at hx2
  rw [List.getElem?_map] at hx2
  obtain ⟨j, h1, rfl⟩ := Option.map_eq_some_iff.mp hx2
  have hi := (List.getElem?_eq_some_iff.mp h1).1
  rw [List.length_range] at hi
  rw [List.getElem?_range hi] at h1
  cases h1
  refine ⟨hi, fun y H2 ⟨hH, hy⟩ => ?_⟩
  subst hH hy
  exact ⟨Ext.refl _ _, r, .int _⟩
def okC (i j c : Int) : Bool := decide (c ≠ 0) && decide (c.natAbs < 1073741824) && Builtin.Range.small i j c
def fRng3 (m : FA) : FI := bnd m fun xs => fun _ st => match xs with
  | [.int i, .int j, .int c] => if okC i j c = true then some (.ok ⟨rngC i c (Builtin.Range.rangeSize i j c).toNat, .none⟩ st) else none
  | _ => none
theorem si_rng3 {p : Pos} (C : Ctx0 W k X Ew) (hm : W.mg "range" = none) (ha : SA W X Ew [a, b, c] mas) (hg : Gl X "range" := by rfl) (hs : starEach [a, b, c] X.env = (false, eval a X.env) :: starEach [b, c] X.env := by rfl) (hpl : (backTo pos (starEach [b, c] X.env)).any (·.1) = false := by rfl) : SI W X Ew tg (.Call (.Name "range" p) [a, b, c] [] pos) (fRng3 mas) :=
  imI (pi_range3 hg (by rw [C.em]; exact hm) ha hs hpl) fun σ H Q ⟨ι, sl, st, r, hs, hr, hm, hq⟩ => run hs hr hm hq fun x st1 ι1 H1 vx e1 s1 r1 rx hm1 hq1 => by
    split at hm1
    · rename_i i j c
      split at hm1
      · rename_i hj
        cases hm1
        simp only [okC, Bool.and_eq_true, decide_eq_true_eq] at hj
        cases rx with
        | cons r0 rr =>
          cases rr with
          | cons r2 rr =>
            cases rr with
            | cons r4 rr =>
              cases rr
              cases r0
              cases r2
              cases r4
              exact ⟨i, j, c, (Builtin.Range.rangeSize i j c).toNat, rfl, ⟨hj.1.1, hj.1.2, hj.2, rangeSize_toNat i j c⟩, hq1 ι1 H1 _ (Ext.refl _ _) r1 (ok_rngC i c _)⟩
      · cases hm1
    · cases hm1
/-! ### max of a list of alike data -/
theorem max_at {prog : Program} {w : World} {A : Around} {E : Value → Shared → Prop} {s : Shared} {l : Addr} {vs : Array Value} {x : PyData} {xs : List PyData} {as : List Addr} {Q : Value → Shared → Prop} (hh : A.handled = none) (hl : s.heap.IsList l vs) (hr : ReadsAll s.heap vs.toList (x :: xs) as) (ha : PySem.W.AlikeAll (x :: xs)) (hu : A.units + 1 + PyData.depthAll (x :: xs) < cLine)
    (h : ∀ (i : Nat) v h' tk, vs[i]? = some v → i < xs.length + 1 → (x :: xs).getD i .none = PySem.W.maxD x xs → (∀ b o, s.heap.get? b = some o → h'.get? b = some o) → Q v { s with heap := h', toks := tk }) :
    wpAny (model prog w) A (call (.builtin "max") [.ref l]) Q E s := by
  have hn : vs.size = xs.length + 1 := PySem.W.readsAll_len hr
  refine call_max_walkH (PySem.W.iter_listW (A := A.in1) hh hl fun s₂ e W st hfp hw hk => ?_)
  refine ⟨_, _, _, _, _, _, _, s.heap, _, rfl, W, st, hfp, by omega, hw, hk, PySem.W.cmpIn_gt (A := A.in1) hr ha (by show A.units + 1 + _ < _; exact hu), fun v s' hP m => ?_⟩
  obtain ⟨h', tk, rfl, hk'⟩ := PySem.W.moved_old e rfl m
  have e1 : vs.size - 1 = xs.length := by omega
  have e2 := PySem.W.argBest_fold (fun a b => PySem.W.dataLt b a) PyData.none x xs xs.length (Nat.le_refl _)
  rw [List.take_length] at e2
  rw [e1] at hP
  exact h _ v h' tk hP (by have := e2.1; omega) e2.2 hk'
def rMaxA (X : Cx) : List V → Hp → VK → Prop := fun vs H Q => ∃ (a : Addr) (xs : List V) (d : PyData) (ds : List PyData), vs = [V.ref a] ∧ SqL X.K H a xs ∧ DpAll X.K H xs (d :: ds) ∧ PySem.W.AlikeAll (d :: ds) ∧ X.A.units + 1 + PyData.depthAll (d :: ds) < cLine ∧ ∀ (i : Nat) (v : V), xs[i]? = some v → (d :: ds)[i]? = some (PySem.W.maxD d ds) → Q v H
theorem cr_maxA (hc : X.calm = true) : CallR X (.builtin "max") (rMaxA X) := by
  intro pins s σ H vs us Q I r h
  obtain ⟨a, xs, d, ds, rfl, hs, hd, hal, hu, q⟩ := h
  obtain ⟨its, rv, hl, _⟩ := I.list hs
  rw [Vals.ref1 r]
  obtain ⟨as, hR⟩ := Dp.readsAll I (d :: ds) xs its hd rv
  have hlen : its.length = ds.length + 1 := by
    have := PySem.W.readsAll_len (vs := its.toArray) hR
    simpa using this
  refine max_at (I.ok.hd hc) hl.isList hR hal hu fun i v h' tk hv hi he hk => ?_
  have hxl : xs.length = its.length := rv.length
  have hx : xs[i]? = some xs[i] := List.getElem?_eq_getElem (by omega)
  obtain ⟨u, h1, h2⟩ := Vals.get rv hx
  have : v = u := by
    have hv2 : its[i]? = some v := by simpa using hv
    rw [hv2] at h1
    exact Option.some.inj h1
  subst this
  refine ⟨xs[i], H, I.kept hk, h2, q i _ hx ?_⟩
  rw [← he, List.getD_eq_getElem?_getD]
  rw [List.getElem?_eq_getElem (by simpa using hi)]
  rfl
/-! pairs of places -/
abbrev PP := (Int × Int) × (Int × Int)
def ppV (q : PP) : Val := .tup [.tup [.int q.1.1, .int q.1.2], .tup [.int q.2.1, .int q.2.2]]
def ppD (q : PP) : PyData := .tuple [.tuple [.int q.1.1, .int q.1.2], .tuple [.int q.2.1, .int q.2.2]]
def ppI : Val → Option PP
  | .tup [.tup [.int a, .int b], .tup [.int c, .int d]] => some ((a, b), (c, d))
  | _ => none
theorem ppI_V {v : Val} {q : PP} (h : ppI v = some q) : v = ppV q := by
  unfold ppI at h
  split at h
  · cases h
    rfl
  · cases h
def maxPP (q : PP) (qs : List PP) : PP := qs.foldl (fun a y => if PySem.W.dataLt (ppD a) (ppD y) then y else a) q
theorem maxPP_D : ∀ (qs : List PP) (q : PP), PySem.W.maxD (ppD q) (qs.map ppD) = ppD (maxPP q qs)
  | [], q => rfl
  | y :: qs, q => by
    show PySem.W.maxD (if PySem.W.dataLt (ppD q) (ppD y) then ppD y else ppD q) (qs.map ppD) = ppD (maxPP (if PySem.W.dataLt (ppD q) (ppD y) then y else q) qs)
    split
    · exact maxPP_D qs y
    · exact maxPP_D qs q
def fMaxPP : ON := oneR fun p st => match st[p]? with
  | some (.lst xs) => (mapO ppI xs).bind fun qs => match qs with
    | [] => none
    | q :: qs => some (ppV (maxPP q qs), st)
  | _ => none
theorem mapO_pp : ∀ {xs : List Val} {qs : List PP}, mapO ppI xs = some qs → xs = qs.map ppV
  | [], _, h => by cases h; rfl
  | x :: xs, qs, h => by
    unfold mapO at h
    split at h
    · rename_i y ys h1 h2
      cases h
      rw [List.map_cons, ppI_V h1, mapO_pp h2]
    · cases h
theorem ppD_inj {a b : PP} (h : ppD a = ppD b) : a = b := by
  obtain ⟨⟨a1, a2⟩, a3, a4⟩ := a
  obtain ⟨⟨b1, b2⟩, b3, b4⟩ := b
  simp [ppD] at h
  obtain ⟨⟨rfl, rfl⟩, rfl, rfl⟩ := h
  rfl
theorem dp_pp {K : PySem.W.Frag} : ∀ {qs : List PP} {vs : List V}, RVs K ι H (qs.map ppV) vs → DpAll K H vs (qs.map ppD)
  | [], _, h => by cases h; exact .nil
  | q :: qs, _, h => by
    cases h with
    | cons r0 rr =>
      refine .cons ?_ (dp_pp rr)
      cases r0 with
      | tup s1 r1 =>
        cases r1 with
        | cons r2 r3 =>
          cases r3 with
          | cons r4 r5 =>
            cases r5
            cases r2 with
            | tup s2 t1 =>
              cases t1 with
              | cons t2 t3 =>
                cases t3 with
                | cons t4 t5 =>
                  cases t5
                  cases t2
                  cases t4
                  cases r4 with
                  | tup s3 u1 =>
                    cases u1 with
                    | cons u2 u3 =>
                      cases u3 with
                      | cons u4 u5 =>
                        cases u5
                        cases u2
                        cases u4
                        exact .tup s1 (.cons (.tup s2 (.cons (.int _) (.cons (.int _) .nil))) (.cons (.tup s3 (.cons (.int _) (.cons (.int _) .nil))) .nil))
theorem pp_alike (q : PP) (qs : List PP) : PySem.W.AlikeAll (ppD q :: qs.map ppD) := by
  rw [← List.map_cons]
  refine ⟨fun x hx y hy => ?_, fun x hx => ?_⟩
  · obtain ⟨a, _, rfl⟩ := List.mem_map.mp hx
    obtain ⟨b, _, rfl⟩ := List.mem_map.mp hy
    simp [ppD, PySem.W.alike, PySem.W.alikeAll]
  · obtain ⟨a, _, rfl⟩ := List.mem_map.mp hx
    exact fun z => nomatch z
theorem pp_depth : ∀ qs : List PP, PyData.depthAll (qs.map ppD) ≤ 2
  | [] => by simp [PyData.depthAll]
  | q :: qs => by
    have := pp_depth qs
    simp [PyData.depthAll, PyData.depth, ppD] at this ⊢
    omega
theorem call_maxPF (C : Ctx0 W k X Ew) (hc : X.calm = true) : CallR X (.builtin "max") (rc W fMaxPP) := callBy fun xs H Q ⟨ι, st, as, v, st', rx, hr, hf, hq⟩ => by
  obtain ⟨i, p, rfl, rfl, h0, h1⟩ := one_ref rx hf
  split at h1
  · rename_i ys h5
    obtain ⟨qs, h2, h3⟩ := Option.bind_eq_some_iff.mp h1
    have := mapO_pp h2
    subst this
    obtain ⟨vs, h6, h7⟩ := hr.lst h5 h0
    cases qs with
    | nil => cases h3
    | cons q qs =>
      cases h3
      have hu := C.hu65
      have hdp := pp_depth (q :: qs)
      refine ⟨_, cr_maxA hc, p, vs, ppD q, qs.map ppD, rfl, SqL.of h6, by rw [C.eK]; exact dp_pp h7, pp_alike q qs, by rw [List.map_cons] at hdp; omega, fun j u hu2 hd => ?_⟩
      rw [maxPP_D, ← List.map_cons, List.getElem?_map] at hd
      obtain ⟨q2, h8, h9⟩ := Option.map_eq_some_iff.mp hd
      have := ppD_inj h9
      subst this
      obtain ⟨u', h10, h11⟩ := RVs.at j h7 (x := ppV (maxPP q qs)) (by rw [List.getElem?_map, h8]; rfl)
      rw [hu2] at h10
      cases h10
      exact hq.here hr h11
  · cases h1
end
end FL
/-! FL18: t += u of tuples, reversed(range(n)), dict(list of pairs), str(int). -/
namespace FL
open PySem PySem.Spec PyProof.Rows L2
section
variable {prog : Program} {w : World} {A : Around} {E : Value → Shared → Prop} {s : Shared}
theorem noI_tup : typeLookup (.type "tuple") (dunderI "add") = pure none := by rw [typeLookup_type, builtinLookup_eq_fast]; kernel_rfl
theorem icat_meets {a b : Value} {B : Builtin} {S : PySem.Spec} {Q : Value → Shared → Prop} (ha : s.TypeIs a "tuple") (hb : s.TypeIs b "tuple") (entry : entryFor table "tuple.__add__" = some B) (args : argsOk "tuple.__add__" ⟨[a, b], []⟩) (g : Meets (B ⟨[a, b], []⟩) S) (h : S A (wants Q E) s) : wpAny (model prog w) A (inplaceOp .Add a b) Q E s :=
  wpAny_inplaceOp_concat ha hb noI_tup noFill_tuple_add seq_tuple_add (call_meets PySem.F.slot_tuple_add ha entry args g h)
theorem icat_tup {t b : Addr} {vs ws : List Value} {Q : Value → Shared → Prop} (ht : IsTup s.heap t vs.toArray) (hb : IsTup s.heap b ws.toArray)
    (h0 : vs = [] → Q (.ref b) s) (h1 : vs ≠ [] → ws = [] → Q (.ref t) s) (h2 : vs ≠ [] → ws ≠ [] → Q (.ref s.heap.objs.size) { s with heap := s.heap.push { cls := .type "tuple", data := .seq (vs ++ ws).toArray } })
    (hsz : vs.length + ws.length ≤ sizeLine) : wpAny (model prog w) A (inplaceOp .Add (.ref t) (.ref b)) Q E s := by
  obtain ⟨⟨cls, dd, data, sl⟩, ho, hc, n, hd⟩ := id ht
  obtain ⟨⟨cls2, dd2, data2, sl2⟩, ho2, hc2, n2, hd2⟩ := id hb
  simp only at hc hd hc2 hd2
  subst hc hd hc2 hd2
  have e : vs.toArray ++ ws.toArray = (vs ++ ws).toArray := by simp
  by_cases hv : vs = []
  · subst hv
    exact icat_meets ⟨_, ho, rfl⟩ ⟨_, ho2, rfl⟩ PySem.F.entry_tuple_add (PySem.F.args_tuple_add_2 _ _) (tuple_addW0 t b ([] : List Value).toArray ws.toArray n n2 dd dd2 sl sl2 (by simp)) ⟨ho, ho2, h0 rfl⟩
  · by_cases hw : ws = []
    · exact icat_meets ⟨_, ho, rfl⟩ ⟨_, ho2, rfl⟩ PySem.F.entry_tuple_add (PySem.F.args_tuple_add_2 _ _) (tuple_addW1 t b vs.toArray ws.toArray n n2 dd dd2 sl sl2 (by simpa using hv) (by simp [hw])) ⟨ho, ho2, h1 hv hw⟩
    · refine icat_meets ⟨_, ho, rfl⟩ ⟨_, ho2, rfl⟩ PySem.F.entry_tuple_add (PySem.F.args_tuple_add_2 _ _) (tuple_addW2 t b vs.toArray ws.toArray n n2 dd dd2 sl sl2 (by simpa using hv) (by simpa using hw) (by rw [List.size_toArray, List.size_toArray]; exact hsz)) ⟨ho, ho2, ?_⟩
      rw [e]
      exact h2 hv hw
end
section
variable {W : Wd} {k : Nat} {X : Cx} {Ew : WX} {ι ι' : List Addr} {H H' : Hp} {st : Sto} {a b c e : Expr} {es : List Expr} {ma mb me : FE} {mas : FA} {pos : Pos} {tg : Expr}
theorem iop_catA : OpR X (inplaceOp .Add) (rCatA X.K) := by
  intro pins s σ H x y v u Q I rx ry h
  obtain ⟨a, b, xs, ys, rfl, rfl, ha, hb, hz, q0, q1, q2⟩ := h
  cases rx
  cases ry
  obtain ⟨its, r1, p1, _⟩ := I.tuple ha
  obtain ⟨its2, r2, p2, _⟩ := I.tuple hb
  refine icat_tup p1 p2 (fun z => ⟨.ref b, H, I, rfl, q0 (r1.nil_iff.mp z)⟩) (fun z z2 => ⟨.ref a, H, I, rfl, q1 (fun w => z (r1.nil_iff.mpr w)) (r2.nil_iff.mp z2)⟩) (fun z z2 => ?_) (by rw [← r1.length, ← r2.length]; exact hz)
  refine ⟨.ref s.heap.objs.size, _, I.laid (t' := s.toks) (o := .tup (xs ++ ys)) (fun b ob q => Heap.get?_push_of_some _ q) (Nat.le_refl _) ?_, rfl, q2 (fun w => z (r1.nil_iff.mpr w)) (fun w => z2 (r2.nil_iff.mpr w)) _ (I.hok.fresh (Nat.le_refl _))⟩
  exact ⟨by rw [List.length_append]; exact hz, _, r1.append r2, IsTup.new _ _⟩
def fIAddT : O2
  | .tup xs, .tup ys, st => if xs.length + ys.length ≤ LINE then some (.tup (xs ++ ys), st) else none
  | x, y, st => fIAdd x y st
theorem ip_addTF (C : Ctx0 W k X Ew) : PIp X .Add (rip W fIAddT) := fun pins s σ H x y v u Q I rx ry h => by
  obtain ⟨ι, st, a, b, w, st', ra, rb, hr, hf, hq⟩ := h
  by_cases ht : (∃ xs, a = .tup xs) ∧ ∃ ys, b = .tup ys
  · obtain ⟨⟨xs, rfl⟩, ys, rfl⟩ := ht
    cases ra with
    | @tup p vs _ sx rxs =>
      cases rb with
      | @tup q ws _ sy rys =>
        have hf2 : (if xs.length + ys.length ≤ LINE then some (Val.tup (xs ++ ys), st) else none) = some (w, st') := hf
        by_cases hl : xs.length + ys.length ≤ LINE
        case neg => rw [if_neg hl] at hf2; cases hf2
        rw [if_pos hl] at hf2
        cases hf2
        refine iop_catA pins s σ H _ _ v u Q I rx ry ⟨p, q, vs, ws, rfl, rfl, by rw [C.eK]; exact sx, by rw [C.eK]; exact sy, by rw [← rxs.len, ← rys.len]; exact sz_of hl, fun e => ?_, fun _ e => ?_, fun _ _ => ?_⟩
        · subst e
          cases rxs
          exact hq.here hr (.tup sy rys)
        · subst e
          cases rys
          rw [List.append_nil] at hq
          exact hq.here hr (.tup sx rxs)
        · exact hq.newT hr (rxs.app rys)
  · have hf2 : fIAdd a b st = some (w, st') := by
      unfold fIAddT at hf
      split at hf
      · exact absurd ⟨⟨_, rfl⟩, _, rfl⟩ ht
      · exact hf
    exact ip_addF pins s σ H x y v u Q I rx ry ⟨ι, st, a, b, w, st', ra, rb, hr, hf2, hq⟩
/-! ### reversed(range(n)) -/
def fRevR (m : FE) : FI := bnd m fun x => fun _ st => match x with
  | .int j => if small62 j then some (.ok ⟨rngC (0 + ((j.toNat : Nat) : Int) - 1) (-1) j.toNat, .none⟩ st) else none
  | _ => none
theorem si_revR {p p2 pos2 : Pos} (C : Ctx0 W k X Ew) (hm : W.mg "reversed" = none) (hm2 : W.mg "range" = none) (ha : SE W X Ew a ma) (hg : Gl X "reversed" := by rfl) (hg2 : Gl X "range" := by rfl)
    (na : starEach [a] X.env = (false, eval a X.env) :: starEach [] X.env := by rfl) (ns : starEach [.Call (.Name "range" p2) [a] [] pos2] X.env = (false, eval (.Call (.Name "range" p2) [a] [] pos2) X.env) :: starEach [] X.env := by rfl) :
    SI W X Ew tg (.Call (.Name "reversed" p) [.Call (.Name "range" p2) [a] [] pos2] [] pos) (fRevR ma) :=
  imI (pi_revR hg (by rw [C.em]; exact hm) (prg_1 hg2 (by rw [C.em]; exact hm2) ha na) ns) fun σ H Q ⟨ι, sl, st, r, hs, hr, hm, hq⟩ => run hs hr hm hq fun x st1 ι1 H1 vx e1 s1 r1 rx hm1 hq1 => by
    split at hm1
    · rename_i j
      split at hm1
      · rename_i hj
        cases hm1
        cases rx
        refine ⟨j, rfl, by decide, by decide, hj.1, hj.2, ?_⟩
        rw [Int.sub_zero]
        exact hq1 ι1 H1 _ (Ext.refl _ _) r1 (ok_rngC _ (-1) _)
      · cases hm1
    · cases hm1
/-! ### str(int) -/
def fStr1 : ON := fun xs st => match xs with
  | [.int i] => if i.natAbs.log2 < 1920 then some (.str (Str.ofString (toString i)).cps.toList, st) else none
  | _ => none
theorem call_strF : CallR X (.type "str") (rc W fStr1) := callBy fun xs H Q ⟨ι, st, as, v, st', rx, hr, hf, hq⟩ => by
  unfold fStr1 at hf
  split at hf
  · rename_i i
    split at hf
    · rename_i hl
      cases hf
      cases rx with
      | cons r0 rr =>
        cases rr
        cases r0
        refine ⟨_, call_str_int, i, rfl, hl, ?_⟩
        exact hq.here hr (.str (Str.ofString (toString i)).cps.toList)
    · cases hf
  · cases hf
/-! ### dict(list of pairs) -/
def kvOf : Val → Option (Key × Val)
  | .tup [x, v] => keyed (x, v)
  | _ => none
theorem prs_all : ∀ {xs : List Val} {vs : List V} {kvs : List (Key × Val)}, mapO kvOf xs = some kvs → RVs W.K ι H xs vs → ∃ (ps : List Addr) (ms : List (Key × V)), vs = ps.map V.ref ∧ Paired (fun p kv => SqT W.K H p [kV kv.1, kv.2]) ps ms ∧ DP W.K ι H kvs ms
  | [], [], _, h, .nil => by
    cases h
    exact ⟨[], [], rfl, .nil, .nil⟩
  | x :: xs, v :: vs, _, h, .cons z t => by
    unfold mapO at h
    split at h
    · rename_i y ys h1 h2
      cases h
      obtain ⟨ps, ms, e1, e2, e3⟩ := prs_all h2 t
      unfold kvOf at h1
      split at h1
      · rename_i a b
        obtain ⟨k, h3, h4⟩ := Option.map_eq_some_iff.mp h1
        subst h4
        cases z with
        | @tup p us _ sx rxs =>
          cases rxs with
          | cons r1 r2 =>
            cases r2 with
            | cons r3 r4 =>
              cases r4
              have := keyOf_V h3 r1
              subst this
              exact ⟨p :: ps, (k, _) :: ms, by rw [e1]; rfl, .cons sx e2, .cons ⟨rfl, r3⟩ e3⟩
      · cases h1
    · cases h
def fDictP : ON := oneR fun p st => match st[p]? with
  | some (.lst xs) => (mapO kvOf xs).map fun kvs => (.ref st.length, st ++ [.dic (mergeD [] kvs)])
  | _ => none
theorem call_dictPF (C : Ctx0 W k X Ew) (hc : X.calm = true) : CallR X (.type "dict") (rc W fDictP) := callBy fun xs H Q ⟨ι, st, as, v, st', rx, hr, hf, hq⟩ => by
  obtain ⟨i, p, rfl, rfl, h0, h1⟩ := one_ref rx hf
  split at h1
  · rename_i ys h5
    obtain ⟨kvs, h2, h3⟩ := Option.map_eq_some_iff.mp h1
    cases h3
    obtain ⟨vs, h6, h7⟩ := hr.lst h5 h0
    obtain ⟨ps, ms, e1, e2, e3⟩ := prs_all h2 h7
    subst e1
    refine ⟨_, call_dictP hc, p, ps, ms, rfl, SqL.of h6, by rw [C.eK]; exact e2, ?_⟩
    exact hq.new hr (show RO W ι H (.dic (mergeD [] kvs)) (.dK (mergeK [] ms)) from DP.merge e3 .nil)
  · cases h1
end
end FL
/-! FL19: raise, try .. except: the exception that is handled stands in the abstract heap, frozen. -/
namespace FL
open PySem PySem.Spec PyProof.Rows L2
abbrev extT : HO := .ext fun _ => True
section
variable {X : Cx} {pins : List (Addr × Obj)} {σ : L2.St} {H : Hp} {s sI : Shared} {a : Addr} {oe : Obj} {vs : Array Value}
theorem hotIn (J : Inv X pins σ H s) (new0 : X.s_0.heap.get? a = none) (he : s.heap.get? a = some oe) (hd : oe.data = .fields vs) (na : H a = none) (offL : a ≠ X.env.locals) (apart : ∀ p ∈ X.pn ++ pins, p.1 ≠ a) :
    Inv (X.suite a (X.pn ++ pins)) [] σ (upd H a (.frz oe extT)) s where
  ok := J.ok.suite _ _
  os := J.os
  bare := J.bare
  base := ⟨J.base.keep, J.base.slot, fun b o e n hx => by
      rw [upd_ne (fun z => by rw [z, new0] at e; cases e)]
      exact J.base.free b o e n hx, J.base.there, fun b xs q => by
      have z := J.base.tups b xs q
      rw [upd_ne (ne_of_none z na)]
      exact z, fun b o u q => by
      have z := J.base.frzs b o u q
      rw [upd_ne (ne_of_none z na)]
      exact z, fun b ps q => by
      obtain ⟨m, z⟩ := J.base.tbls b ps q
      exact ⟨m, by rw [upd_ne (ne_of_none z na)]; exact z⟩⟩
  loc := J.loc
  cell := J.cell
  free := by
    rw [upd_ne (Ne.symm offL)]
    exact J.free
  freeC := fun x c e => by
    have : c ≠ a := fun z => by
      obtain ⟨v, o, h1, h2⟩ := J.cell x c e
      rw [z, he] at h1
      cases h1
      rw [hd] at h2
      cases h2
    rw [upd_ne this]
    exact J.freeC x c e
  pin := fun p hp => by
    rw [List.append_nil] at hp
    obtain ⟨h1, h2, h3⟩ := J.pin p hp
    exact ⟨h1, by rw [upd_ne (apart p hp)]; exact h2, h3⟩
  hok := HOk.laidN J.hok (fun _ _ q => q) na ⟨he, trivial, ⟨_, he⟩, fun _ _ _ _ => trivial⟩
  len := J.len
theorem hotOut {pn' : List (Addr × Obj)} (I : Inv (X.suite a (X.pn ++ pins)) pn' σ H s) (ok : X.Ok) : Inv X pins σ H s :=
  ⟨ok, I.os, I.bare, I.base, I.loc, I.cell, I.free, I.freeC, fun p hp => I.pin p (List.mem_append_left _ hp), I.hok, I.len⟩
end
/-- what an except clause names: one class, two of them -/
inductive SpecOk (X : Cx) : Expr → List Value → Prop
  | one {x : Str} {c : Value} {p : Pos} : Names X x c → SpecOk X (.Name x p) [c]
  | two {x y : Str} {c d : Value} {p q r : Pos} {k : Nat} : Names X x c → Names X y d → SpecOk X (.Tuple [.Name x p, .Name y q] k r) [c, d]
/-- what it wishes of an exception of the body -/
def wXF (K : PySem.W.Frag) (cs : List Value) (ts : Addr → TS) (Wout : WX) (D : Ends) : WX := fun cls d σ H =>
  ∃ b, PySem.W.exmAny K cls cs = some b ∧ (b = true → ∀ a oe, H a = none → L2N.Zn cls d oe → (∃ vs, oe.data = .fields vs) → ts a D σ (upd H a (.frz oe extT))) ∧ (b = false → Wout cls d σ H)
theorem exmAny_one {K : PySem.W.Frag} {cls c : Value} {b : Bool} (h : PySem.W.exmAny K cls [c] = some b) : PySem.W.exmOne K cls c = some b := by
  obtain ⟨b1, d1, x1, y1, z1⟩ := PySem.W.exmAny_cons h
  cases y1
  rw [z1, Bool.or_false]
  exact x1
section
variable {X : Cx} {t : Expr} {n : Str} {cs : List Value} {i : Nat} {body suite : List Stmt} {b₀ : Stmt} {pos pos' : Pos} {tb : WX → TS} {ts : Addr → TS} {Wout : WX}
theorem name_run {a : Addr} {pn pins : List (Addr × Obj)} {σ : L2.St} {H : Hp} {s : Shared} {Q E : Value → Shared → Prop} {x : Str} {c : Value} {p : Pos} (S : Inv (X.suite a pn) pins σ H s) (hc : Names X x c) (q : Q c s) :
    wpAny (model X.prog X.w) (X.A.mark (some (.ref a))) (eval (.Name x p) X.env) Q E s := by
  obtain ⟨hg, hdbg, hm | ⟨hm, hv, hnn⟩⟩ := hc
  · exact ld_glob (X := X.suite a pn) S hg hm q hdbg
  · exact ld_blt (X := X.suite a pn) S hg hm hv q hnn hdbg
/-- the clause is looked at: whether it names the class -/
theorem spec_run {a : Addr} {pn pins : List (Addr × Obj)} {σ : L2.St} {H : Hp} {s : Shared} {Q E : Value → Shared → Prop} {cls : Value} {b : Bool} (S : Inv (X.suite a pn) pins σ H s) (hc : SpecOk X t cs) (hx : PySem.W.exmAny X.K cls cs = some b)
    (tyL : PySem.W.Looks (model X.prog X.w) s.heap (typeOf (.ref a)) cls)
    (q : ∀ (cv : Value) (h' : Heap), (∀ b o, s.heap.get? b = some o → h'.get? b = some o) → PySem.W.Looks (model X.prog X.w) h' (excMatches (.ref a) cv) b → Q cv { s with heap := h' }) :
    wpAny (model X.prog X.w) (X.A.mark (some (.ref a))) (eval t X.env) Q E s := by
  have KX : X.K.In s.heap := S.kIn
  cases hc with
  | one hc => exact name_run S hc (q _ s.heap (fun _ _ h => h) (PySem.W.exm_one KX tyL (exmAny_one hx)))
  | @two x y c d p q' r' k' hc hd =>
    refine wpAny_Tuple ?_
    refine Calls.spliced_cons (name_run S hc ?_)
    refine Calls.spliced_cons (name_run S hd ?_)
    refine Calls.spliced_nil ⟨by show 2 ≤ sizeLine; decide, ?_⟩
    have k : ∀ b o, s.heap.get? b = some o → (s.heap.push { cls := .type "tuple", data := .seq [c, d].toArray }).get? b = some o := fun b o e => Heap.get?_push_of_some _ e
    exact q (.ref s.heap.objs.size) _ k (PySem.W.exm_tup2 (KX.keeps k) (tyL.keeps k) (Heap.get?_push_size _ rfl) hx)
theorem flying_kept {B h h' : Heap} {l : List PySem.Env} {a : Addr} {Z : Obj → Prop} (k : ∀ b o, h.get? b = some o → h'.get? b = some o) (x : HandSPX.FlyingZ B l a Z h) : HandSPX.FlyingZ B l a Z h' := by
  obtain ⟨k1, k2, k3, oe, vs, T, oT, ts, he, hz, hd, h1, hnT, hTe, hT, hdT, h3⟩ := x
  exact ⟨fun b o e => k b o (k1 b o e), k2, k3.of_keeps fun b o hb _ => ⟨o, k b o hb, rfl⟩, oe, vs, T, oT, ts, k _ _ he, hz, hd, h1, hnT, hTe, k _ _ hT, hdT, h3⟩
end

/-- .. as a name: slot i holds it, and nothing behind the suite -/
def tsAs (i : Nat) (ts : Addr → TS) : Addr → TS := fun a D σ H => ts a { nx := fun σ' H' => D.nx (σ'.set i none) H', rt := D.rt, bk := fun σ' H' => D.bk (σ'.set i none) H', ct := fun σ' H' => D.ct (σ'.set i none) H' } (σ.set i (some (.ref a))) H

section
variable {X : Cx} {t : Expr} {n : Str} {cs : List Value} {i : Nat} {body suite : List Stmt} {b₀ : Stmt} {pos pos' : Pos} {tb : WX → TS} {ts : Addr → TS} {Wout : WX}
theorem ps_try_f (hs : X.stack = X.env :: X.outer) (hf : X.env.frame = some X.env.locals) (hex : X.ex = []) (hc : SpecOk X t cs) (tk : L2N.Takes X Wout)
    (hb : ∀ (W : WX) (pn : List (Addr × Obj)) (xe : Value → Shared → Prop), L2N.Takes (X.tr pn xe) W → PassesOwn (model X.prog X.w) X.A X.env xe → PSs (X.tr pn xe) body (tb W))
    (hsu : ∀ (a : Addr) (pn : List (Addr × Obj)), PSs (X.suite a pn) (b₀ :: suite) (ts a)) :
    PS X (.Try body [.ExceptHandler (some t) none (b₀ :: suite) pos'] [] [] pos) (fun D σ H => tb (wXF X.K cs ts Wout D) D σ H) := by
  refine ⟨fun pins s σ H D I h => ?_⟩
  have ok := I.ok
  have frm : X.A.frames = some (X.env :: X.outer) := by rw [ok.frames, hs]
  refine wpAny_Try_except ?_
  refine wpAny_mono ((hb (wXF X.K cs ts Wout D) (X.pn ++ pins) (fun e s₁ => wpAny (model X.prog X.w) X.A (noteFrame e X.env) (fun _ s₂ => wpAny (model X.prog X.w) X.A (setFlight e none) (fun _ s₃ =>
    wpAny (model X.prog X.w) X.A (handleBy e X.env [.ExceptHandler (some t) none (b₀ :: suite) pos']) (SP X pins D) X.xe s₃) X.xe s₂) X.xe s₁) (fun u s' xx => ?_) PassesOwn.looking).run [] s σ H D (I.toTry _) h) (fun f s1 res => ?_) (fun e s1 he => he)
  · -- the catch
    obtain ⟨a, B, sI, pins', σ', H', cls, d, rfl, J', gnd, up, air, na, os, ag, b, tst, onHit, onMiss⟩ := xx
    have J : Inv X pins σ' H' sI := J'.ofTry ok
    have air2 : Sky B (X.env :: X.outer) a (L2N.Zn cls d) X.env.locals s'.heap := by rw [← hs]; exact air
    show wpAny (model X.prog X.w) X.A (noteFrame (.ref a) X.env) _ _ _
    refine L2N.Sky.land L2N.Zn.steady frm hf air2 fun h3 fly upl => ?_
    have Jl : Inv X pins σ' H' { s' with heap := h3 } := J.landed gnd fly.1 (up.trans upl) os ag
    obtain ⟨ol, vl, gl, zl, dl⟩ := fly.there
    have noFr : ∀ {h : Heap} {o : Obj} {vs : Array Value}, h.FunFrames B (X.env :: X.outer) → h.get? a = some o → o.data = .fields vs → a ∉ frs (X.env :: X.outer) := fun {h o vs} ff e dd hm => by
      obtain ⟨_, o', e', hnf⟩ := ff.mem hm
      rw [e] at e'; cases e'
      exact hnf _ dd
    have outF := noFr fly.2.2.1 gl dl
    have offL : a ≠ X.env.locals := fun z => outF (List.mem_filterMap.mpr ⟨X.env, List.mem_cons_self, by rw [hf, z]⟩)
    have offF : a ∉ X.fs := fun hm => by
      obtain ⟨e, he, q⟩ := List.mem_filterMap.mp hm
      exact outF (List.mem_filterMap.mpr ⟨e, List.mem_cons_of_mem _ he, q⟩)
    have ngr : ∀ c o, sI.heap.get? c = some o → c ∉ frs X.stack → c ≠ a := fun c o e hm z => by
      have := gnd c o e hm
      rw [z, fly.2.1] at this
      cases this
    have nfs : a ∉ frs X.stack := by rw [hs]; exact outF
    have new0 : X.s_0.heap.get? a = none := by
      cases e : X.s_0.heap.get? a with
      | none => rfl
      | some o =>
        obtain ⟨o', e'⟩ := J.base.there a o e (by rw [hex]; exact fun z => nomatch z)
        exact absurd rfl (ngr a o' e' nfs)
    have apart : ∀ p ∈ X.pn ++ pins, p.1 ≠ a := fun p hp => by
      obtain ⟨p1, p2, p3, p4, p5⟩ := J.pin p hp
      refine ngr p.1 p.2 p1 fun hm => ?_
      rw [hs] at hm
      rcases List.mem_filterMap.mp hm with ⟨e, he, q⟩
      rcases List.mem_cons.mp he with rfl | he
      · rw [hf] at q
        exact p3 (Option.some.inj q).symm
      · exact p4 (List.mem_filterMap.mpr ⟨e, he, q⟩)
    have Sl := Jl.suite gl dl na offL offF
    refine wpAny_handleBy_cons (codeAny_handlers_test ?_) (by intro q; cases q)
    have tyL : PySem.W.Looks (model X.prog X.w) h3 (typeOf (.ref a)) cls := fun A Q E s k q => wpAny_typeOf_ref (k _ _ gl) (by rw [zl.1]; exact q)
    refine spec_run (s := { s' with heap := h3 }) Sl hc tst tyL fun cv h3' k3 LM => LM.here ?_
    have fl3' := flying_kept k3 fly
    have up3' : s'.heap.UpToSlots h3' := upl.trans (Heap.UpToSlots.of_keeps k3)
    cases b with
    | true =>
      refine codeAny_handlers_suite ?_
      refine HandSPX.lands_againZ fl3' fun h4 flz upm => ?_
      have Jm : Inv X pins σ' H' { s' with heap := h4 } := J.landed gnd flz.1 ((up.trans up3').trans upm) os ag
      obtain ⟨om, vm, gm, zm, dm⟩ := flz.there
      have Sm := hotIn Jm new0 gm dm na offL apart
      refine wpAny_mono ((hsu a (X.pn ++ pins)).run [] _ _ _ _ Sm (onHit rfl a om na zm ⟨_, dm⟩)) (fun f so res => ?_) (fun _ _ z => False.elim z)
      cases f with
      | next =>
        obtain ⟨σo, Ho, So, qo⟩ := res
        exact ⟨_, _, hotOut So ok, qo⟩
      | brk =>
        obtain ⟨σo, Ho, So, qo⟩ := res
        exact ⟨_, _, hotOut So ok, qo⟩
      | cont =>
        obtain ⟨σo, Ho, So, qo⟩ := res
        exact ⟨_, _, hotOut So ok, qo⟩
      | ret u =>
        obtain ⟨vo, σo, Ho, So, ro6, qo⟩ := res
        exact ⟨_, _, _, hotOut So ok, ro6, qo⟩
    | false =>
      show wpAny _ X.A (handleBy (.ref a) X.env []) _ _ _
      refine wpAny_handleBy_nil ?_
      obtain ⟨k1, k2, k3, oe, vs, T, oT, ts', he, hz, hd, h1, hr⟩ := id fl3'
      unfold PySem.passOn
      refine wpAny_bind (wpAny_field he hd h1 ?_)
      rw [if_neg (show ¬ ((Value.ref T == Value.none) = true) from by simp)]
      have done : wpAny (model X.prog X.w) X.A (setFlight (.ref a) X.env.frame) (fun _ s4 => wpAny (model X.prog X.w) X.A (throw (.ref a) : Sem Flow) (SP X pins D) X.xe s4) X.xe { s' with heap := h3' } := by
        rw [hf]
        refine HandSPX.setFlight_upZ fl3' fun h4 hh4 upm => wpAny_throw (tk _ _ ?_)
        exact ⟨a, B, sI, pins, σ', H', cls, d, rfl, J, gnd, (up.trans up3').trans upm, .inr (.inr (by rw [hs]; exact hh4)), na, os, ag, onMiss rfl⟩
      first
        | exact wpAny_bind (wpAny_pure (wpAny_bind done))
        | exact wpAny_bind done
  · cases f with
    | next =>
      obtain ⟨σ', H', J', q⟩ := res
      exact wpAny_execs_nil ⟨σ', H', J'.ofTry ok, q⟩
    | brk =>
      obtain ⟨σ', H', J', q⟩ := res
      exact ⟨σ', H', J'.ofTry ok, q⟩
    | cont =>
      obtain ⟨σ', H', J', q⟩ := res
      exact ⟨σ', H', J'.ofTry ok, q⟩
    | ret u =>
      obtain ⟨v, σ', H', J', r, q⟩ := res
      exact ⟨v, σ', H', J'.ofTry ok, r, q⟩
end

section
variable {X : Cx} {t : Expr} {n : Str} {cs : List Value} {i : Nat} {body suite : List Stmt} {b₀ : Stmt} {pos pos' : Pos} {tb : WX → TS} {ts : Addr → TS} {Wout : WX}
theorem ps_try_fas (hs : X.stack = X.env :: X.outer) (hf : X.env.frame = some X.env.locals) (hex : X.ex = []) (hN : X.N.Nodup) (hi : X.N[i]? = some n) (hln : X.env.kindOf n = some .local) (hc : SpecOk X t cs) (tk : L2N.Takes X Wout)
    (hb : ∀ (W : WX) (pn : List (Addr × Obj)) (xe : Value → Shared → Prop), L2N.Takes (X.tr pn xe) W → PassesOwn (model X.prog X.w) X.A X.env xe → PSs (X.tr pn xe) body (tb W))
    (hsu : ∀ (a : Addr) (pn : List (Addr × Obj)), PSs (X.suite a pn) (b₀ :: suite) (ts a)) :
    PS X (.Try body [.ExceptHandler (some t) (some n) (b₀ :: suite) pos'] [] [] pos) (fun D σ H => tb (wXF X.K cs (tsAs i ts) Wout D) D σ H) := by
  refine ⟨fun pins s σ H D I h => ?_⟩
  have ok := I.ok
  have frm : X.A.frames = some (X.env :: X.outer) := by rw [ok.frames, hs]
  refine wpAny_Try_except ?_
  refine wpAny_mono ((hb (wXF X.K cs (tsAs i ts) Wout D) (X.pn ++ pins) (fun e s₁ => wpAny (model X.prog X.w) X.A (noteFrame e X.env) (fun _ s₂ => wpAny (model X.prog X.w) X.A (setFlight e none) (fun _ s₃ =>
    wpAny (model X.prog X.w) X.A (handleBy e X.env [.ExceptHandler (some t) (some n) (b₀ :: suite) pos']) (SP X pins D) X.xe s₃) X.xe s₂) X.xe s₁) (fun u s' xx => ?_) PassesOwn.looking).run [] s σ H D (I.toTry _) h) (fun f s1 res => ?_) (fun e s1 he => he)
  · -- the catch
    obtain ⟨a, B, sI, pins', σ', H', cls, d, rfl, J', gnd, up, air, na, os, ag, b, tst, onHit, onMiss⟩ := xx
    have J : Inv X pins σ' H' sI := J'.ofTry ok
    have air2 : Sky B (X.env :: X.outer) a (L2N.Zn cls d) X.env.locals s'.heap := by rw [← hs]; exact air
    show wpAny (model X.prog X.w) X.A (noteFrame (.ref a) X.env) _ _ _
    refine L2N.Sky.land L2N.Zn.steady frm hf air2 fun h3 fly upl => ?_
    have Jl : Inv X pins σ' H' { s' with heap := h3 } := J.landed gnd fly.1 (up.trans upl) os ag
    obtain ⟨ol, vl, gl, zl, dl⟩ := fly.there
    have noFr : ∀ {h : Heap} {o : Obj} {vs : Array Value}, h.FunFrames B (X.env :: X.outer) → h.get? a = some o → o.data = .fields vs → a ∉ frs (X.env :: X.outer) := fun {h o vs} ff e dd hm => by
      obtain ⟨_, o', e', hnf⟩ := ff.mem hm
      rw [e] at e'; cases e'
      exact hnf _ dd
    have outF := noFr fly.2.2.1 gl dl
    have offL : a ≠ X.env.locals := fun z => outF (List.mem_filterMap.mpr ⟨X.env, List.mem_cons_self, by rw [hf, z]⟩)
    have offF : a ∉ X.fs := fun hm => by
      obtain ⟨e, he, q⟩ := List.mem_filterMap.mp hm
      exact outF (List.mem_filterMap.mpr ⟨e, List.mem_cons_of_mem _ he, q⟩)
    have ngr : ∀ c o, sI.heap.get? c = some o → c ∉ frs X.stack → c ≠ a := fun c o e hm z => by
      have := gnd c o e hm
      rw [z, fly.2.1] at this
      cases this
    have nfs : a ∉ frs X.stack := by rw [hs]; exact outF
    have new0 : X.s_0.heap.get? a = none := by
      cases e : X.s_0.heap.get? a with
      | none => rfl
      | some o =>
        obtain ⟨o', e'⟩ := J.base.there a o e (by rw [hex]; exact fun z => nomatch z)
        exact absurd rfl (ngr a o' e' nfs)
    have apart : ∀ p ∈ X.pn ++ pins, p.1 ≠ a := fun p hp => by
      obtain ⟨p1, p2, p3, p4, p5⟩ := J.pin p hp
      refine ngr p.1 p.2 p1 fun hm => ?_
      rw [hs] at hm
      rcases List.mem_filterMap.mp hm with ⟨e, he, q⟩
      rcases List.mem_cons.mp he with rfl | he
      · rw [hf] at q
        exact p3 (Option.some.inj q).symm
      · exact p4 (List.mem_filterMap.mpr ⟨e, he, q⟩)
    have Sl := Jl.suite gl dl na offL offF
    refine wpAny_handleBy_cons (codeAny_handlers_test ?_) (by intro q; cases q)
    have tyL : PySem.W.Looks (model X.prog X.w) h3 (typeOf (.ref a)) cls := fun A Q E s k q => wpAny_typeOf_ref (k _ _ gl) (by rw [zl.1]; exact q)
    refine spec_run (s := { s' with heap := h3 }) Sl hc tst tyL fun cv h3' k3 LM => LM.here ?_
    have fl3' := flying_kept k3 fly
    have up3' : s'.heap.UpToSlots h3' := upl.trans (Heap.UpToSlots.of_keeps k3)
    cases b with
    | true =>
      refine codeAny_handlers_suite_as ?_
      refine HandSPX.lands_againZ fl3' fun h4 flz upm => ?_
      have Jm : Inv X pins σ' H' { s' with heap := h4 } := J.landed gnd flz.1 ((up.trans up3').trans upm) os ag
      obtain ⟨om, vm, gm, zm, dm⟩ := flz.there
      have Sm := hotIn Jm new0 gm dm na offL apart
      refine store_ok (X := X.suite a (X.pn ++ pins)) (v := .ref a) Sm hN hi (.inl hln) rfl (fun s5 Sn => ?_) (.inr hln)
      refine wpAny_mono ((hsu a (X.pn ++ pins)).run [] s5 _ _ _ Sn (onHit rfl a om na zm ⟨_, dm⟩)) (fun f so res => ?_) (fun _ _ z => False.elim z)
      have over : ∀ {σo : L2.St} {Ho : Hp} {Q : Shared → Prop}, Inv (X.suite a (X.pn ++ pins)) [] σo Ho so → (∀ s7, Inv X pins (σo.set i none) Ho s7 → Q s7) →
          wpAny (model X.prog X.w) X.A (do bindName X.env n .none; unbindBehindTheSuite X.env n pos') (fun _ s7 => Q s7) X.xe so := fun {σo Ho Q} So hq => gone_ok (hotOut So ok) hN hi hln hq
      cases f with
      | next =>
        obtain ⟨σo, Ho, So, qo⟩ := res
        exact over So fun s7 Jn => ⟨_, _, Jn, qo⟩
      | brk =>
        obtain ⟨σo, Ho, So, qo⟩ := res
        exact over So fun s7 Jn => ⟨_, _, Jn, qo⟩
      | cont =>
        obtain ⟨σo, Ho, So, qo⟩ := res
        exact over So fun s7 Jn => ⟨_, _, Jn, qo⟩
      | ret u =>
        obtain ⟨vo, σo, Ho, So, ro6, qo⟩ := res
        exact over So fun s7 Jn => ⟨_, _, _, Jn, ro6, qo⟩
    | false =>
      show wpAny _ X.A (handleBy (.ref a) X.env []) _ _ _
      refine wpAny_handleBy_nil ?_
      obtain ⟨k1, k2, k3, oe, vs, T, oT, ts', he, hz, hd, h1, hr⟩ := id fl3'
      unfold PySem.passOn
      refine wpAny_bind (wpAny_field he hd h1 ?_)
      rw [if_neg (show ¬ ((Value.ref T == Value.none) = true) from by simp)]
      have done : wpAny (model X.prog X.w) X.A (setFlight (.ref a) X.env.frame) (fun _ s4 => wpAny (model X.prog X.w) X.A (throw (.ref a) : Sem Flow) (SP X pins D) X.xe s4) X.xe { s' with heap := h3' } := by
        rw [hf]
        refine HandSPX.setFlight_upZ fl3' fun h4 hh4 upm => wpAny_throw (tk _ _ ?_)
        exact ⟨a, B, sI, pins, σ', H', cls, d, rfl, J, gnd, (up.trans up3').trans upm, .inr (.inr (by rw [hs]; exact hh4)), na, os, ag, onMiss rfl⟩
      first
        | exact wpAny_bind (wpAny_pure (wpAny_bind done))
        | exact wpAny_bind done
  · cases f with
    | next =>
      obtain ⟨σ', H', J', q⟩ := res
      exact wpAny_execs_nil ⟨σ', H', J'.ofTry ok, q⟩
    | brk =>
      obtain ⟨σ', H', J', q⟩ := res
      exact ⟨σ', H', J'.ofTry ok, q⟩
    | cont =>
      obtain ⟨σ', H', J', q⟩ := res
      exact ⟨σ', H', J'.ofTry ok, q⟩
    | ret u =>
      obtain ⟨v, σ', H', J', r, q⟩ := res
      exact ⟨v, σ', H', J'.ofTry ok, r, q⟩
end
end FL
/-! FL20: raise, try .. except, calls where an exception is handled: as plain functions. -/
namespace FL
open PySem PySem.Spec PyProof.Rows L2
section
variable {W : Wd} {k : Nat} {X : Cx} {Ew : WX} {ι ι' : List Addr} {H H' : Hp} {st : Sto} {a b e : Expr} {es : List Expr} {ma mb me : FE} {mt mu : FT} {mas : FA} {pos : Pos} {s : Stmt} {ss : List Stmt} {m n : FS}
/-! ### raise -/
/-- a class of exceptions without an own __init__ -/
structure ExcF (W : Wd) (c : Str) : Prop where
  gC : W.mg c = some (.ref (He.ga W.K c))
  kC : PySem.W.keepIn W.K (.ref (He.ga W.K c)) = true
  q : ∃ bmB B newId initId, ExcBaseFacts B newId initId bmB ∧ PySem.W.excIn W.K (He.ga W.K c) bmB newId = true
  sb : PySem.W.subIn W.K (.ref (He.ga W.K c)) (.type "BaseException") = some true
  ty : PySem.W.typeIn W.K (.ref (He.ga W.K c)) = some (.type "type")
def fRaise (c : Str) : FS := fun sl st => some (.ex c sl st)
theorem ss_raise {c msg : Str} {j : Nat} {p p2 p3 : Pos} (C : Ctx W k X Ew) (F : ExcF W c) (hg : Gl X c := by rfl) (hdb : (c == ("__debug__" : Str)) = false := by decide) :
    SS W X Ew (.Raise (some (.Call (.Name c p) [.Constant (.str msg) j p2] [] p3)) none pos) (fRaise c) := by
  obtain ⟨bmB, B, newId, initId, F1, F2⟩ := F.q
  refine imS (L2N.ps_raise C.calm C.tk (L2N.pmk_own F1 (by rw [C.eK]; exact F2) (by rw [C.em]; exact F.gC) (by rw [C.eK]; exact F.kC) (raises_own (by rw [C.eK]; exact F.sb) (by rw [C.eK]; exact F.ty)) hg hdb)) fun D σ H ⟨ι, sl, st, r, hs, hr, hm, hq⟩ => ?_
  cases hm
  exact hq ι H σ (Ext.refl _ _) hr hs

/-! ### where an exception is handled -/
abbrev Wd.at (W : Wd) (p : Addr × Obj) : Wd := { W with hot := some p }
structure CtxH (W : Wd) (k : Nat) (X : Cx) (Ew : WX) : Prop extends Ctx0 W k X Ew where
  hh : ∃ p, W.hot = some p ∧ X.A.handled = some (.ref p.1)
theorem Rel.atH {p : Addr × Obj} (r : Rel W ι H st) (h : HotP H p) : Rel (W.at p) ι H st := ⟨r.len, r.nd, r.ob, fun q z => by cases z; exact h⟩
theorem Rel.unH {p : Addr × Obj} (r : Rel (W.at p) ι H st) (h : ∀ q, W.hot = some q → HotP H q) : Rel W ι H st := ⟨r.len, r.nd, r.ob, h⟩
theorem Ext.newX {D : Addr} {hu : HO} (h : H D = none) : Ext ι H ι (upd H D hu) :=
  ⟨⟨fun _ _ h => h, fun b xs q => by rw [upd_ne (ne_of_none q h)]; exact q, fun b o u q => by rw [upd_ne (ne_of_none q h)]; exact q⟩, fun b o q n => ⟨by rw [upd_ne (ne_of_none q h)]; exact q, n⟩⟩

/-! ### try -/
/-- which classes the clause names -/
def TryF (W : Wd) (cs : List Value) (tab : List (Str × Bool)) : Prop := ∀ c b, tab.lookup c = some b → PySem.W.exmAny W.K (.ref (He.ga W.K c)) cs = some b
/-- an except suite raises nothing -/
def noX : Option RS → Option RS
  | some (.ex _ _ _) => none
  | r => r
def goneS (i : Nat) : Option RS → Option RS
  | some (.nx sl st) => some (.nx (sl.set i none) st)
  | some (.bk sl st) => some (.bk (sl.set i none) st)
  | some (.ct sl st) => some (.ct (sl.set i none) st)
  | r => r
def fTryG (tab : List (Str × Bool)) (m : FS) (n : Str → FS) : FS := fun sl st => match m sl st with
  | some (.ex c sl' st') => (match tab.lookup c with
    | some true => n c sl' st'
    | some false => some (.ex c sl' st')
    | none => none)
  | r => r
def fTry (tab : List (Str × Bool)) (m n : FS) : FS := fTryG tab m fun _ sl st => noX (n sl st)
def fTryAs (i : Nat) (tab : List (Str × Bool)) (m n : FS) : FS := fTryG tab m fun c sl st => goneS i (noX (n (sl.set i (some (.exc c))) st))
theorem try_imp {cs : List Value} {tab : List (Str × Bool)} {g : Str → FS} {ts : Addr → TS} (eK : X.K = W.K) (tf : TryF W cs tab)
    (hk : ∀ (c : Str) (sl : Sl) (st : Sto) (r : RS) (D : Ends) (σ : L2.St) (H : Hp) (ι : List Addr) (a : Addr) (oe : Obj), RL W.K ι H sl σ → Rel W ι H st → g c sl st = some r → PsS W Ew ι H r D → H a = none → L2N.Zn (.ref (He.ga W.K c)) none oe → (∃ vs, oe.data = .fields vs) → ts a D σ (upd H a (.frz oe extT))) :
    ∀ D σ H, tsOf W Ew (fTryG tab m g) D σ H → tsOf W (wXF X.K cs ts Ew D) m D σ H := fun D σ H ⟨ι, sl, st, r, hs, hr, hm, hq⟩ => by
  unfold fTryG at hm
  cases h1 : m sl st with
  | none => rw [h1] at hm; cases hm
  | some r1 =>
    rw [h1] at hm
    refine ⟨ι, sl, st, r1, hs, hr, h1, ?_⟩
    cases r1 with
    | ex c sl' st' =>
      have hm2 : (match tab.lookup c with | some true => g c sl' st' | some false => some (.ex c sl' st') | none => none) = some r := hm
      intro ι' H' σ' e1 r1 s1
      cases h2 : tab.lookup c with
      | none => rw [h2] at hm2; cases hm2
      | some b =>
        rw [h2] at hm2
        refine ⟨b, by rw [eK]; exact tf c b h2, fun hb a oe na hz hd => ?_, fun hb => ?_⟩
        · subst hb
          exact hk c sl' st' r D σ' H' ι' a oe s1 r1 hm2 (hq.mono e1) na hz hd
        · subst hb
          cases hm2
          exact hq ι' H' σ' e1 r1 s1
    | nx _ _ => cases hm; exact hq
    | rt _ _ => cases hm; exact hq
    | bk _ _ => cases hm; exact hq
    | ct _ _ => cases hm; exact hq
theorem hotP_of {c : Value} {a : Addr} {oe : Obj} (hz : L2N.Zn c none oe) (hd : ∃ vs, oe.data = .fields vs) : HotP (upd H a (.frz oe extT)) (a, oe) := by
  obtain ⟨vs, hd⟩ := hd
  exact ⟨upd_same, vs, hd, hz.2.2 vs hd⟩
/-- a suite's reading, whatever its exception is -/
def tsH (W : Wd) (n : FS) : Addr → TS := fun a D σ H => ∃ oe, tsOf (W.at (a, oe)) E00 n D σ H
theorem ctx_tr {pn : List (Addr × Obj)} {xe : Value → Shared → Prop} {Ew' : WX} (C : Ctx W k X Ew) (tk : L2N.Takes (X.tr pn xe) Ew') (po : PassesOwn (model X.prog X.w) X.A X.env xe) : Ctx W k (X.tr pn xe) Ew' :=
  ⟨⟨C.eP, C.ew, C.eK, C.em, C.eb, tk, C.rmu, C.nd, po⟩, C.rm, C.calm⟩
theorem ctx_suite {a : Addr} {oe : Obj} {pn : List (Addr × Obj)} (C : Ctx W k X Ew) : CtxH (W.at (a, oe)) k (X.suite a pn) E00 :=
  ⟨⟨C.eP, C.ew, C.eK, C.em, C.eb, takesN0, ⟨C.rmu.dp, C.rmu.un⟩, C.nd, PassesOwn.never⟩, _, rfl, rfl⟩
theorem ss_try {t : Expr} {cs : List Value} {tab : List (Str × Bool)} {body suite : List Stmt} {b₀ : Stmt} {pos' : Pos} (C : Ctx W k X Ew) (hc : SpecOk X t cs) (tf : TryF W cs tab)
    (hb : ∀ (Ew' : WX) (pn : List (Addr × Obj)) (xe : Value → Shared → Prop), Ctx W k (X.tr pn xe) Ew' → SSs W (X.tr pn xe) Ew' body m)
    (hsu : ∀ (a : Addr) (oe : Obj) (pn : List (Addr × Obj)), CtxH (W.at (a, oe)) k (X.suite a pn) E00 → SSs (W.at (a, oe)) (X.suite a pn) E00 (b₀ :: suite) n)
    (hs : X.stack = X.env :: X.outer := by rfl) (hf : X.env.frame = some X.env.locals := by rfl) (hex : X.ex = [] := by rfl) :
    SS W X Ew (.Try body [.ExceptHandler (some t) none (b₀ :: suite) pos'] [] [] pos) (fTry tab m n) := by
  refine imS (ps_try_f (ts := tsH W n) hs hf hex hc C.tk (fun Ew' pn xe tk po => hb Ew' pn xe (ctx_tr C tk po)) fun a pn => ⟨fun pins s σ H D I ⟨oe, h⟩ => (hsu a oe pn (ctx_suite C)).run pins s σ H D I h⟩) ?_
  refine try_imp C.eK tf fun c sl st r D σ H ι a oe hs hr hm hq na hz hd => ?_
  have e0 : Ext ι H ι (upd H a (.frz oe extT)) := Ext.newX na
  cases h1 : n sl st with
  | none => rw [h1] at hm; cases hm
  | some r1 =>
    rw [h1] at hm
    refine ⟨oe, ι, sl, st, r1, hs.mono e0, (hr.newO na).atH (hotP_of hz hd), h1, ?_⟩
    have un : ∀ {ι' : List Addr} {H' : Hp} {st' : Sto}, Ext ι (upd H a (.frz oe extT)) ι' H' → Rel (W.at (a, oe)) ι' H' st' → Rel W ι' H' st' := fun e r => r.unH fun q z => ((hr.hot q z).ext e0.toExt0).ext e.toExt0
    cases r1 with
    | ex _ _ _ => cases hm
    | nx _ _ => cases hm; exact fun ι' H' σ' e r2 s2 => hq ι' H' σ' (e0.trans e) (un e r2) s2
    | rt _ _ => cases hm; exact fun ι' H' σ' e r2 s2 => hq ι' H' σ' (e0.trans e) (un e r2) s2
    | bk _ _ => cases hm; exact fun ι' H' σ' e r2 s2 => hq ι' H' σ' (e0.trans e) (un e r2) s2
    | ct _ _ => cases hm; exact fun ι' H' σ' e r2 s2 => hq ι' H' σ' (e0.trans e) (un e r2) s2
theorem ss_tryAs (i : Nat) {t : Expr} {x : Str} {cs : List Value} {tab : List (Str × Bool)} {body suite : List Stmt} {b₀ : Stmt} {pos' : Pos} (C : Ctx W k X Ew) (hc : SpecOk X t cs) (tf : TryF W cs tab)
    (hb : ∀ (Ew' : WX) (pn : List (Addr × Obj)) (xe : Value → Shared → Prop), Ctx W k (X.tr pn xe) Ew' → SSs W (X.tr pn xe) Ew' body m)
    (hsu : ∀ (a : Addr) (oe : Obj) (pn : List (Addr × Obj)), CtxH (W.at (a, oe)) k (X.suite a pn) E00 → SSs (W.at (a, oe)) (X.suite a pn) E00 (b₀ :: suite) n)
    (hs : X.stack = X.env :: X.outer := by rfl) (hf : X.env.frame = some X.env.locals := by rfl) (hex : X.ex = [] := by rfl) (hN : X.N[i]? = some x := by rfl) (hln : X.env.kindOf x = some .local := by rfl) :
    SS W X Ew (.Try body [.ExceptHandler (some t) (some x) (b₀ :: suite) pos'] [] [] pos) (fTryAs i tab m n) := by
  refine imS (ps_try_fas (ts := tsH W n) hs hf hex C.nd hN hln hc C.tk (fun Ew' pn xe tk po => hb Ew' pn xe (ctx_tr C tk po)) fun a pn => ⟨fun pins s σ H D I ⟨oe, h⟩ => (hsu a oe pn (ctx_suite C)).run pins s σ H D I h⟩) ?_
  refine try_imp C.eK tf fun c sl st r D σ H ι a oe hs hr hm hq na hz hd => ?_
  have e0 : Ext ι H ι (upd H a (.frz oe extT)) := Ext.newX na
  cases h1 : n (sl.set i (some (.exc c))) st with
  | none => rw [h1] at hm; cases hm
  | some r1 =>
    rw [h1] at hm
    refine ⟨oe, ι, _, st, r1, (hs.mono e0).set (.exc upd_same hz.1 hz.2.1 hd) i, (hr.newO na).atH (hotP_of hz hd), h1, ?_⟩
    have un : ∀ {ι' : List Addr} {H' : Hp} {st' : Sto}, Ext ι (upd H a (.frz oe extT)) ι' H' → Rel (W.at (a, oe)) ι' H' st' → Rel W ι' H' st' := fun e r => r.unH fun q z => ((hr.hot q z).ext e0.toExt0).ext e.toExt0
    cases r1 with
    | ex _ _ _ => cases hm
    | nx _ _ => cases hm; exact fun ι' H' σ' e r2 s2 => hq ι' H' _ (e0.trans e) (un e r2) (s2.unset i)
    | rt _ _ => cases hm; exact fun ι' H' σ' e r2 s2 => hq ι' H' σ' (e0.trans e) (un e r2) s2
    | bk _ _ => cases hm; exact fun ι' H' σ' e r2 s2 => hq ι' H' _ (e0.trans e) (un e r2) (s2.unset i)
    | ct _ _ => cases hm; exact fun ι' H' σ' e r2 s2 => hq ι' H' _ (e0.trans e) (un e r2) (s2.unset i)
end
end FL
/-! FL21: defs called where an exception is handled, or wherever. -/
namespace FL
open PySem PySem.Spec PyProof.Rows L2
/-- a def's promise wherever what is handled is as hP says -/
structure FnP (hP : Option Value → Prop) (P : Program) (w : World) (K : PySem.W.Frag) (mg : Str → Option Value) (base : Heap) (CX : CXT) (k : Nat) (f : Addr) (fd : FuncData) (ps : List Str) (sp : Sp) : Prop where
  len : ∀ vs H Q E, sp vs H Q E → vs.length = ps.length
  run : ∀ (A : Around) (outer : List PySem.Env) (s : Shared) (H : Hp) (args : Args) (us : List Value) (vs : List V) (Q : VK) (E : XK), L2H.RoomH k A → hP A.handled → Env0 P w K mg base A outer s H → BindsTo s fd args (ps.zip us) → Vals vs us → sp vs H Q E →
    codeAny (model P w) A (.call (.ref f) args) (CR CX outer P w H s Q E) s
def cxP (CX : CXT) (P : Program) (w : World) (K : PySem.W.Frag) (mg : Str → Option Value) (base : Heap) (N : List Str) (qual : Str) (scope : Scope) (f : Addr) (cd : Value) (A : Around) (outer : List PySem.Env) (s : Shared) (H : Hp) (E : XK) : Cx :=
  { cxOf CX P w K mg base N qual scope f cd A outer s H E with calm := false }
/-- the start is that of the calm: what is handled does not matter to it -/
theorem inv_startP {CX : CXT} {P : Program} {w : World} {K : PySem.W.Frag} {mg : Str → Option Value} {base : Heap} {N ps : List Str} {qual : Str} {scope : Scope} {f : Addr} {cd : Value} {A : Around} {outer : List PySem.Env} {s t : Shared} {H : Hp} {E : XK} {ys : List Value} {xs : List V}
    (S : FnScope N ps scope) (e : Env0 P w K mg base A outer s H) (len : xs.length = ps.length) (r : Vals xs ys)
    (cl : InCallC s s.heap.objs.size (bindL (envOfC qual scope s.heap.objs.size f cd).kindOf (ps.zip ys) fun _ => none) (cellsFrom (s.heap.objs.size + 1) scope.names []) (bindC (envOfC qual scope s.heap.objs.size f cd).kindOf (ps.zip ys) fun _ => none) t) :
    Inv (cxP CX P w K mg base N qual scope f cd A outer s H E) [] (L2.start N xs) H t := by
  have calm : Env0 P w K mg base { A with handled := none } outer s H := ⟨e.frames, e.mod, e.bs, e.bsz, e.funs, e.frf, e.hok, e.bare⟩
  have Iv : Inv (cxOf CX P w K mg base N qual scope f cd { A with handled := none } outer s H E) [] (L2.start N xs) H t := inv_start S rfl calm len r cl
  have o := Iv.ok
  exact ⟨⟨o.mod, o.kind, o.glob, o.blt, o.above, o.inj, o.has, o.cab, (fun z => nomatch (show false = true from z)), Around.frames_deeper e.frames, o.stk, o.exf, o.bs, o.bsz, o.noex, o.exfs, o.funs, o.frf⟩,
    Iv.os, Iv.bare, Iv.base, Iv.loc, Iv.cell, Iv.free, Iv.freeC, Iv.pin, Iv.hok, Iv.len⟩
theorem fn_ofP {hP : Option Value → Prop} {CX : CXT} {P : Program} {w : World} {K : PySem.W.Frag} {mg : Str → Option Value} {base : Heap} {k : Nat} {x qual : Str} {st : Stmt} {f : Addr} {fd : FuncData} {N ps : List Str} {sp : Sp} (F : L2.Fun K x qual st f fd) (S : FnScope N ps (defScope st))
    (len : ∀ vs H Q E, sp vs H Q E → vs.length = ps.length)
    (hbody : ∀ (cdv : Value) (A : Around) (outer : List PySem.Env) (s : Shared) (H : Hp) (vs : List V) (Q : VK) (E : XK), hP A.handled → L2H.RoomH k (A.deeper (envOfC qual (defScope st) s.heap.objs.size f cdv)) → sp vs H Q E →
      ∃ t, PSs (cxP CX P w K mg base N qual (defScope st) f cdv A outer s H E) (defBody st) t ∧ t { nx := fun _ H' => Q .non H', rt := Q } (L2.start N vs) H) :
    FnP hP P w K mg base CX (k + 1) f fd ps sp := by
  obtain ⟨oc, od, kV, doc, pm, an, cdv, ct, osl, rfl, lk, hcd⟩ := F.ex
  refine ⟨len, fun A outer s H args us vs Q E hr hot env0 hb r hsp => ?_⟩
  have len1 := len _ _ _ _ hsp
  have inK : K.In s.heap := env0.mod.kin.keeps fun b o e => (env0.bs b o e).1
  have free0 : s.heap.NoLimit := env0.mod.nolimit.keeps fun b o e => (env0.bs b o e).1
  have kinds : ∀ y ∈ ps.zip us, (defScope st).names.lookup y.1 = some .local ∨ ((defScope st).names.lookup y.1 = some .cell ∧ ((cellsFrom (s.heap.objs.size + 1) (defScope st).names []).lookup y.1).isSome = true) := fun ⟨n, v⟩ hy => by
    rcases S.par n (List.of_mem_zip hy).1 with q | q
    · exact .inl q
    · exact .inr ⟨q, PySem.W.cellsFrom_some _ _ _ (.inl q)⟩
  refine codeAny_call_function hr.depth (inK _ _ lk) rfl S.co S.gen rfl (PySem.W.codeRec_of inK hcd) (hb _ _ _ _ ?_)
  refine wpAny_newFunctionEnv_cells S.kind kinds fun env he sq x => ?_
  subst he
  refine ⟨free0.keeps x.toInCall.keep, codeAny_func ?_⟩
  obtain ⟨t, ht, hq⟩ := hbody cdv A outer s H vs Q E hot (hr.deeper _) hsp
  have Iv : Inv (cxP CX P w K mg base N qual (defScope st) f cdv A outer s H E) [] (L2.start N vs) H sq := inv_startP S env0 len1 r x
  refine wpAny_mono (ht.run [] sq (L2.start N vs) H _ Iv hq) (fun fl s' hs => ?_) fun e s' hs => hs
  have fin : ∀ {σ' : L2.St} {H' : Hp} {v : V} {u : Value}, Inv (cxP CX P w K mg base N qual (defScope st) f cdv A outer s H E) [] σ' H' s' → RelV v u → Q v H' → CE outer P w H s Q u s' :=
    fun {σ' H' v u} Jv rv q => ⟨v, H', Jv.os, Jv.bare, Jv.base, Jv.hok, rv, q⟩
  cases fl with
  | ret u =>
    obtain ⟨v, σ', H', Jv, rv, q⟩ := hs
    exact fin Jv rv q
  | next =>
    obtain ⟨σ', H', Jv, q⟩ := hs
    exact fin (v := V.non) (u := Value.none) Jv rfl q
  | brk =>
    obtain ⟨_, _, _, q⟩ := hs
    exact False.elim q
  | cont =>
    obtain ⟨_, _, _, q⟩ := hs
    exact False.elim q
section
variable {hP : Option Value → Prop} {X : Cx} {CX : CXT} {k : Nat} {f C : Addr} {fd : FuncData} {ps : List Str} {sp : Sp} {E : L2.St → XK} {x m : Str} {q pos apos : Pos} {e o : Expr} {es : List Expr} {ta : TE} {t : TA}
theorem run_fnP {pins : List (Addr × Obj)} {σ : L2.St} {H : Hp} {s : Shared} {Q : VK} {us : List Value} {vs : List V} (F : FnP hP X.prog X.w X.K X.mg X.base CX k f fd ps sp) (hr : L2H.RoomH k X.A) (hc : hP X.A.handled) (hb : Binds X.K fd ps []) (hx : PassesAt CX X σ (E σ))
    (Iv : Inv X pins σ H s) (r : Vals vs us) (h : sp vs H Q (E σ)) : wpAny (model X.prog X.w) X.A (call (.ref f) us) (EP X pins σ Q) X.xe s := by
  have len1 : us.length = ps.length := by rw [← r.length]; exact F.len _ _ _ _ h
  have b := hb s us Iv.kIn (by rw [List.append_nil]; exact len1)
  rw [List.append_nil] at b
  refine wpAny_call (codeAny_mono (F.run X.A X.stack s H ⟨us, []⟩ us vs Q (E σ) hr hc Iv.env0 b r h) fun r s' hq => ?_)
  cases r with
  | error e => exact hx pins H s e s' Iv hq
  | ok fl =>
    cases fl with
    | ret u => exact Iv.after hq
    | next => exact False.elim hq
    | brk => exact False.elim hq
    | cont => exact False.elim hq
theorem pe_callP (F : FnP hP X.prog X.w X.K X.mg X.base CX k f fd ps sp) (hr : L2H.RoomH k X.A) (hc : hP X.A.handled) (hg : Gl X x) (hm : X.mg x = some (.ref f)) (hk : PySem.W.keepIn X.K (.ref f) = true) (hb : Binds X.K fd ps []) (hx : ∀ σ, PassesAt CX X σ (E σ))
    (ha : PA X (e :: es) t) (hdb : (x == ("__debug__" : Str)) = false := by decide) (he : starEach (e :: es) X.env = (false, eval e X.env) :: starEach es X.env := by rfl) (short : (backTo pos (starEach es X.env)).any (·.1) = false := by rfl) :
    PE X (.Call (.Name x q) (e :: es) [] pos) (tCallS sp E t) := by
  refine ⟨fun pins s σ H Q Iv h => ?_⟩
  refine wpAny_Call_Name_kw (ld_glob Iv hg hm ?_ hdb)
  refine PySem.W.callWith_K (h₀ := X.base) Iv.ok.mod.kin hk (thn (ha.run pos pins s σ H _ Iv h) fun us sq ⟨vs, Hq, Iq, r, q⟩ => ⟨Iq.kIn, ?_⟩) he short
  exact run_fnP F hr hc hb (hx σ) Iq r q
def tMethP (C : Addr) (m : Str) (sp : Sp) (E : L2.St → XK) (ta : TE) (t : TA) : TE := fun σ H Q => ta σ H fun x Hq => ∃ a dx fs, x = .ref a ∧ Hq a = some (.ins C dx fs) ∧ fs.lookup m = none ∧ t σ Hq fun vs H2 => sp (x :: vs) H2 Q (E σ)
theorem pe_methP0 {pl : Sem Bool} (he : PE X o ta) (c : Cls X.K C) (hm : Meth X.K C m f) (F : FnP hP X.prog X.w X.K X.mg X.base CX k f fd ps sp) (hr : L2H.RoomH k X.A) (hc : hP X.A.handled) (hb : Binds X.K fd ps []) (hx : ∀ σ, PassesAt CX X σ (E σ))
    (ht : eval (.Call (.Attribute o m apos) [] [] pos) X.env = (do
      let ov ← eval o X.env
      standAt apos.atName
      let (f, first) ← holding [ov] (getMethod ov m pl)
      callWith pos f first (backTo pos (starEach [] X.env)) (backToKw pos (keywordEach [] X.env))) := by rfl) :
    PE X (.Call (.Attribute o m apos) [] [] pos) (tMethP C m sp E ta tNil) := by
  refine ⟨fun pins s σ H Q Iv h => ?_⟩
  refine PySem.W.methodCall_KW (pl := pl) (thn (he.run pins s σ H _ Iv h) fun u sq ⟨x, Hq, Iq, rel, a, dx, fs, ex, atA, l, q⟩ => ?_) ht
  subst ex
  obtain rfl : u = Value.ref a := rel
  refine getmeth_ok Iq atA c hm l ?_
  exact PySem.W.callWith_K0 (first := [.ref a]) Iq.kIn hm.kp (run_fnP (us := [.ref a]) (vs := [.ref a]) F hr hc hb (hx σ) Iq (.cons rfl .nil) q)
end
/-! ### as plain functions -/
abbrev bXP (W : Wd) (N : List Str) (qual : Str) (st : Stmt) (f : Addr) (cdv : Value) (A : Around) (outer : List PySem.Env) (s : Shared) (H : Hp) (E : XK) : Cx :=
  cxP (L2N.CX W.P W.w) W.P W.w W.K W.mg W.base N qual (defScope st) f cdv A outer s H E
structure CalleeP (hP : Option Value → Prop) (W : Wd) (x : Str) (k : Nat) (F : FF) : Prop where
  ex : ∃ (f : Addr) (fd : FuncData) (ps : List Str), W.mg x = some (.ref f) ∧ PySem.W.keepIn W.K (.ref f) = true ∧ Binds W.K fd ps [] ∧ FnP hP W.P W.w W.K W.mg W.base (L2N.CX W.P W.w) k f fd ps (spOf W F)
/-- what is handled is p's exception -/
abbrev isH (p : Addr × Obj) : Option Value → Prop := fun h => h = some (.ref p.1)
section
variable {hP : Option Value → Prop} {W : Wd} {k : Nat} {X : Cx} {Ew : WX} {e : Expr} {es : List Expr} {mas : FA} {m : FS} {pos : Pos} {pp : Addr × Obj}
theorem fn_sndP {x qual : Str} {st : Stmt} {f : Addr} {fd : FuncData} {N ps : List Str} (Fu : Fun W.K x qual st f fd) (S : FnScope N ps (defScope st))
    (hbody : ∀ (cdv : Value) (A : Around) (outer : List PySem.Env) (s : Shared) (H : Hp) (E : XK), hP A.handled → Ctx0 W k (bXP W N qual st f cdv A outer s H E) (fun c d _ H => E c d H) → SSs W (bXP W N qual st f cdv A outer s H E) (fun c d _ H => E c d H) (defBody st) m) :
    FnP hP W.P W.w W.K W.mg W.base (L2N.CX W.P W.w) (k + 1) f fd ps (spOf W (runF ps.length N.length m)) := by
  refine fn_ofP Fu S (fun vs H Q E h => ?_) fun cdv A outer s H vs Q E hh hr hsp => ?_
  · obtain ⟨ι, st, as, r, h1, h2, h3, h4⟩ := h
    unfold runF at h3
    split at h3
    · rename_i h5
      rw [← h1.len, h5]
    · cases h3
  · refine ⟨_, hbody cdv A outer s H E hh ⟨rfl, rfl, rfl, rfl, rfl, L2N.takes_of rfl rfl rfl rfl, hr, S.nd, passes_of rfl⟩, ?_⟩
    obtain ⟨ι, st, as, r, h1, h2, h3, h4⟩ := hsp
    unfold runF at h3
    split at h3
    case isFalse => cases h3
    rename_i h5
    have sr := start_rl N h1
    rw [h5] at sr
    cases h6 : m (as.map some ++ List.replicate (N.length - ps.length) none) st with
    | none => rw [h6] at h3; cases h3
    | some r6 =>
      rw [h6] at h3
      cases r6 with
      | nx sl' st' =>
        cases h3
        exact ⟨ι, _, st, _, sr, h2, h6, fun ι' H' σ' e r _ => h4 ι' H' _ e r .non⟩
      | rt v st' =>
        cases h3
        exact ⟨ι, _, st, _, sr, h2, h6, h4⟩
      | ex c sl' st' =>
        cases h3
        exact ⟨ι, _, st, _, sr, h2, h6, fun ι' H' σ' e r _ => h4 ι' H' e r⟩
      | bk _ _ => cases h3
      | ct _ _ => cases h3
theorem calleeH {x : Str} {st : Stmt} {N ps : List Str} (hW : W.hot = some pp) (hh : Has W x st) (S : FnScope N ps (defScope st))
    (hb : ∀ (kV doc pm : Value) (an : Option Addr) (cdv ct : Value) (us : List Value), us.length = ps.length → bindArgs (PySem.W.fnOf x x (defArgs st) (defBody st) (defScope st) .none kV doc pm an cdv ct) ⟨us, []⟩ = pure (ps.zip us))
    (hbody : ∀ (f : Addr) (cdv : Value) (A : Around) (outer : List PySem.Env) (s : Shared) (H : Hp) (E : XK), CtxH W k (bXP W N x st f cdv A outer s H E) (fun c d _ H => E c d H) → SSs W (bXP W N x st f cdv A outer s H E) (fun c d _ H => E c d H) (defBody st) m) :
    CalleeP (isH pp) W x (k + 1) (runF ps.length N.length m) := by
  obtain ⟨f, fd, h1, h2⟩ := hh.ex
  exact ⟨f, fd, ps, h1, h2.kp, h2.binds hb, fn_sndP h2 S fun cdv A outer s H E q C => hbody f cdv A outer s H E ⟨C, pp, hW, q⟩⟩
theorem se_callP {x : Str} {p : Pos} {j : Nat} {F : FF} (C : CtxH W k X Ew) (hW : W.hot = some pp) (G : CalleeP (isH pp) W x j F) (hj : j ≤ k) (ha : SA W X Ew (e :: es) mas) (hg : Gl X x := by rfl) (hd : (x == ("__debug__" : Str)) = false := by decide)
    (h1 : starEach (e :: es) X.env = (false, eval e X.env) :: starEach es X.env := by rfl) (h2 : (backTo pos (starEach es X.env)).any (·.1) = false := by rfl) : SE W X Ew (.Call (.Name x p) (e :: es) [] pos) (fCallF F mas) := by
  obtain ⟨f, fd, ps, g1, g2, g3, g4⟩ := G.ex
  have hh : isH pp X.A.handled := by
    obtain ⟨p', e1, e2⟩ := C.hh
    rw [hW] at e1
    cases e1
    exact e2
  have g5 : FnP (isH pp) X.prog X.w X.K X.mg X.base (L2N.CX X.prog X.w) j f fd ps (spOf W F) := by
    rw [C.eP, C.ew, C.eK, C.em, C.eb]
    exact g4
  refine imE (pe_callP g5 (C.rmu.mono hj) hh hg (by rw [C.em]; exact g1) (by rw [C.eK]; exact g2) (by rw [C.eK]; exact g3) (fun σ => L2N.passAt C.tk σ) ha hd h1 h2) fun σ H Q ⟨ι, sl, st, r, hs, hr, hm, hq⟩ => run hs hr hm hq fun xs st1 ι1 Hq vs e1 sq r1 rel hm1 hq1 => ?_
  exact ⟨ι1, st1, xs, r, rel, r1, hm1, hq1⟩
theorem Has.at {x : Str} {st : Stmt} (h : Has W x st) (p : Addr × Obj) : Has (W.at p) x st := ⟨h.ex⟩
end
end FL
/-! FL22: where an exception is handled: the ends of lists and zips, tuples taken apart, comprehensions over a zip. -/
namespace FLH
open PySem PySem.Spec PyProof.Rows L2 HotX
section
variable {prog : Program} {w : World} {A : Around} {E : Value → Shared → Prop} {s : Shared} {xa : Addr}
theorem nextOf_list_endH {it l : Addr} {i : Nat} {items} {Q : Value → Shared → Prop} (hot : HotAt A xa s.heap)
    (off : xa ≠ it) (hit : s.heap.IsListIter it l i) (hl : s.heap.IsList l items) (hx : items[i]? = none)
    (hE : ∀ h' e, Heap.ExtBut it s.heap h' → (∃ o, h'.get? e = some o ∧ o.cls = .type "StopIteration") → E (.ref e) { s with heap := h' }) :
    wpAny (model prog w) A (Builtin.SmallTypes.nextOf (.ref it)) Q E s := by
  obtain ⟨o, ho, hc, hd⟩ := id hit
  obtain ⟨ol, hol, _, nl, hdl⟩ := hl
  unfold Builtin.SmallTypes.nextOf
  refine wpAny_bind (wpAny_callSpecial?_slot (name := Str.ofString "__next__") hit.typeIs slot_listiter_next
    (wpAny_call_entry slot_listiter_next hit.typeIs entry_listiter_next ?_ (args_listiter_next _)))
  show wpAny _ _ (field (.ref it) 0 >>= _) _ _ s
  refine wpAny_bind (wpAny_field ho hd (x := .ref l) rfl ?_)
  show wpAny _ _ (if (Value.ref l == Value.none) = true then _ else _) _ _ s
  rw [if_neg (show ¬ ((Value.ref l == Value.none) = true) from Bool.false_ne_true)]
  show wpAny _ _ (field (.ref it) 1 >>= _) _ _ s
  refine wpAny_bind (wpAny_field ho hd (x := .int i 0) rfl ?_)
  show wpAny _ _ (seqItems? (.ref l) >>= _) _ _ s
  refine wpAny_bind (wpAny_seqItems hol hdl ?_)
  simp only [Int.toNat_natCast, hx]
  refine wpAny_bind (wpAny_rule (wpAny_bind (wpAny_setField ho hd (by simp) ?_)))
  show wpAny _ _ (newExc (.type "StopIteration") [] >>= _) _ _ _
  refine wpAny_bind ?_
  simp only [newExc, newTuple]
  refine wpAny_bind (wpAny_newObj_type ?_ (by size_fits))
  refine wpAny_bind (m := firstArgMember _ _) (wpAny_of_eq (a := Value.none) (by first | rfl | (simp only [firstArgMember]; rfl)) ?_)
  refine wpAny_newObj_type ?_ (by size_fits)
  obtain ⟨is, oo, vo, gx, dx, cx⟩ := hot
  have g1 : (s.heap.update it (Obj.mapFields (·.setIfInBounds 0 Value.none))).get? xa = some oo := (Heap.get?_update_other _ _ (Ne.symm off)).trans gx
  refine raiseNew_hot ⟨is, oo, vo, Heap.get?_push_of_some _ (Heap.get?_push_of_some _ g1), dx, cx⟩ (Nat.ne_of_lt (Heap.lt_size (Heap.get?_push_of_some _ g1))) (Heap.get?_push_size _ rfl) rfl (by first | (simp; done) | (simp; omega) | (simp only [Array.size_append]; simp; omega)) ?_
  exact hE _ _ (fun b o hb q => by
    have q1 := (Heap.SameBut.update s.heap it (Obj.mapFields (·.setIfInBounds 0 Value.none))).extBut b o hb q
    rw [Heap.get?_update_other _ _ (Nat.ne_of_gt (Heap.lt_size (Heap.get?_push_of_some _ q1)))]
    exact Heap.get?_push_of_some _ (Heap.get?_push_of_some _ q1)) ⟨_, Heap.get?_update_self _ (Heap.get?_push_size _ rfl) rfl, rfl⟩
theorem hotBut {A : Around} {h h' : Heap} {a xa : Addr} (hot : HotAt A xa h) (off : xa ≠ a) (k : Heap.ExtBut a h h') : HotAt A xa h' := by
  obtain ⟨is, oo, vo, gx, dx, cx⟩ := hot
  exact ⟨is, oo, vo, k _ _ off gx, dx, cx⟩
theorem zip_next_endH {z TI TO i1 i2 l1 l2 : Addr} {k1 k2 : Nat} {xs ys : Array Value} {a b : Value} {Q : Fin → Shared → Prop} (hot : HotAt A xa s.heap) (oz : xa ≠ z) (oT : xa ≠ TO) (o1 : xa ≠ i1) (o2 : xa ≠ i2) (D : ZipApart z TI TO i1 i2 l1 l2)
    (hz : IsZip s.heap z TI TO .none) (hTI : IsPair s.heap TI (.ref i1) (.ref i2)) (hTO : IsPair s.heap TO a b)
    (h1 : s.heap.IsListIter i1 l1 k1) (h2 : s.heap.IsListIter i2 l2 k2) (hl1 : s.heap.IsList l1 xs) (hl2 : s.heap.IsList l2 ys) (hend : xs[k1]? = none ∨ ys[k2]? = none)
    (hE : ∀ h' e, (∀ c o, c ≠ z → c ≠ TO → c ≠ i1 → c ≠ i2 → s.heap.get? c = some o → h'.get? c = some o) → (∃ o, h'.get? e = some o ∧ o.cls = .type "StopIteration") → E (.ref e) { s with heap := h' }) :
    wpAny (model prog w) A (Builtin.«zip.__next__» ⟨[.ref z], []⟩) Q E s := by
  show wpAny _ _ (field (.ref z) 2 >>= _) _ _ _
  refine wpAny_bind (wpAny_field hz rfl (x := .bool false) rfl ?_)
  show wpAny _ _ (field (.ref z) 3 >>= _) _ _ _
  refine wpAny_bind (wpAny_field hz rfl (x := .ref TI) rfl ?_)
  refine wpAny_bind (wpAny_seqItems hTI rfl ?_)
  show wpAny _ _ (Builtin.SmallTypes.ownedTupleIsFree (.ref z) >>= _) _ _ _
  refine wpAny_bind ?_
  unfold Builtin.SmallTypes.ownedTupleIsFree
  refine wpAny_bind (wpAny_field hz rfl (x := .none) rfl (wpAny_pure ?_))
  simp only [if_true]
  refine wpAny_bind (wpAny_rule ?_)
  refine wpAny_bind (wpAny_field hz rfl (x := .ref TO) rfl ?_)
  refine wpAny_bind (wpAny_setField_rec hz (by simp) fun h₁ hz₁ hs₁ => ?_)
  replace hz₁ : IsZip h₁ z TI TO .ellipsis := hz₁
  refine wpAny_bind ?_
  simp only [List.zipIdx_cons, List.zipIdx_nil, List.forIn_cons, List.forIn_nil]
  refine wpAny_bind (wpAny_bind (wpAny_onRaise ?_))
  show wpAny _ _ (Builtin.SmallTypes.nextOf (.ref i1) >>= _) _ _ _
  cases hx : xs[k1]? with
  | none =>
    refine wpAny_bind (nextOf_list_endH (hotBut hot oz hs₁.extBut) o1 (h1.extBut hs₁.extBut D.i1z) (hl1.extBut hs₁.extBut D.l1z) hx fun h₂ e hs₂ he => ?_)
    obtain ⟨oe, hoe, hce⟩ := he
    have hz₂ : IsZip h₂ z TI TO .ellipsis := hs₂ _ _ D.i1z.symm hz₁
    have hez : e ≠ z := fun x => by subst x; rw [hz₂] at hoe; cases hoe; simp at hce
    refine wpAny_setField_rec hz₂ (by simp) fun h₃ _ hs₃ => hE h₃ e (fun c o c1 _ c3 _ x => hs₃.extBut _ _ c1 (hs₂ _ _ c3 (hs₁.extBut _ _ c1 x))) ⟨oe, hs₃.extBut _ _ hez hoe, hce⟩
  | some x =>
    have hy : ys[k2]? = none := by rcases hend with h | h; rw [hx] at h; cases h; exact h
    refine wpAny_bind (wpAny_nextOf_list_item (h1.extBut hs₁.extBut D.i1z) (hl1.extBut hs₁.extBut D.l1z) hx fun h₂ h1₂ hs₂ => wpAny_pure ?_)
    have hTO₂ : IsPair h₂ TO a b := hs₂.extBut _ _ D.TOi1 (hs₁.extBut _ _ D.TOz hTO)
    refine wpAny_bind (wpAny_seqItems hTO₂ rfl ?_)
    refine wpAny_bind (wpAny_updateSeq_pair hTO₂ fun h₃ hTO₃ hs₃ => ?_)
    refine wpAny_bind (wpAny_letGo (wpAny_pure ?_))
    refine wpAny_bind (wpAny_bind (wpAny_onRaise ?_))
    show wpAny _ _ (Builtin.SmallTypes.nextOf (.ref i2) >>= _) _ _ _
    refine wpAny_bind (nextOf_list_endH (hotBut (hotBut (hotBut hot oz hs₁.extBut) o1 hs₂.extBut) oT hs₃.extBut) o2 (((h2.extBut hs₁.extBut D.i2z).extBut hs₂.extBut D.i12.symm).extBut hs₃.extBut D.TOi2.symm)
      (((hl2.extBut hs₁.extBut D.l2z).extBut hs₂.extBut D.l2i1).extBut hs₃.extBut D.l2TO) hy fun h₄ e hs₄ he => ?_)
    obtain ⟨oe, hoe, hce⟩ := he
    have hz₄ : IsZip h₄ z TI TO .ellipsis := hs₄ _ _ D.i2z.symm (hs₃.extBut _ _ D.TOz.symm (hs₂.extBut _ _ D.i1z.symm hz₁))
    have hez : e ≠ z := fun x => by subst x; rw [hz₄] at hoe; cases hoe; simp at hce
    refine wpAny_setField_rec hz₄ (by simp) fun h₅ _ hs₅ => hE h₅ e (fun c o c1 c2 c3 c4 x => hs₅.extBut _ _ c1 (hs₄ _ _ c4 (hs₃.extBut _ _ c2 (hs₂.extBut _ _ c3 (hs₁.extBut _ _ c1 x))))) ⟨oe, hs₅.extBut _ _ hez hoe, hce⟩

theorem pyNext_zip_endH {z TI TO i1 i2 l1 l2 : Addr} {k1 k2 : Nat} {xs ys : Array Value} {a b : Value} {Q : Option Value → Shared → Prop} (hot : HotAt A xa s.heap) (oz : xa ≠ z) (oT : xa ≠ TO) (o1 : xa ≠ i1) (o2 : xa ≠ i2) (D : ZipApart z TI TO i1 i2 l1 l2)
    (hz : IsZip s.heap z TI TO .none) (hTI : IsPair s.heap TI (.ref i1) (.ref i2)) (hTO : IsPair s.heap TO a b)
    (h1 : s.heap.IsListIter i1 l1 k1) (h2 : s.heap.IsListIter i2 l2 k2) (hl1 : s.heap.IsList l1 xs) (hl2 : s.heap.IsList l2 ys) (hend : xs[k1]? = none ∨ ys[k2]? = none)
    (hQ : ∀ h', (∀ c o, c ≠ z → c ≠ TO → c ≠ i1 → c ≠ i2 → s.heap.get? c = some o → h'.get? c = some o) → Q none { s with heap := h' }) : wpAny (model prog w) A (pyNext (.ref z)) Q E s := by
  have hT : s.TypeIs (.ref z) "zip" := ⟨_, hz, rfl⟩
  unfold pyNext
  refine wpAny_bind (wpAny_attempt (wpAny_callSpecial?_slot (name := Str.ofString "__next__") hT F.slot_zip_next
    (wpAny_call_entry F.slot_zip_next hT F.entry_zip_next (zip_next_endH hot oz oT o1 o2 D hz hTI hTO h1 h2 hl1 hl2 hend fun h' e hk he => ?_) (F.args_zip_next_1 _))))
  obtain ⟨o, ho, hc⟩ := he
  refine wpAny_bind (wpAny_isInstance (T := "StopIteration") (b := true) ⟨o, ho, hc⟩ isSubtype_stop ?_)
  exact wpAny_pure (hQ _ hk)

theorem next_tuple_endH {it t : Addr} {i : Nat} {items} {Q : Option Value → Shared → Prop} (hot : HotAt A xa s.heap)
    (off : xa ≠ it) (hit : IsTupIter s.heap it t i) (ht : IsTup s.heap t items) (hx : items[i]? = none)
    (hQ : ∀ h', Heap.ExtBut it s.heap h' → Q none { s with heap := h' }) : wpAny (model prog w) A (pyNext (.ref it)) Q E s := by
  obtain ⟨o, ho, hc, hd⟩ := id hit
  obtain ⟨ol, hol, _, nl, hdl⟩ := ht
  unfold pyNext
  refine wpAny_bind (wpAny_attempt (wpAny_callSpecial?_slot (name := Str.ofString "__next__") hit.typeIs slot_tupleiter_next
    (wpAny_call_entry slot_tupleiter_next hit.typeIs entry_tupleiter_next ?_ (args_tupleiter_next _))))
  show wpAny _ _ (field (.ref it) 0 >>= _) _ _ s
  refine wpAny_bind (wpAny_field ho hd (x := .ref t) rfl ?_)
  show wpAny _ _ (if (Value.ref t == Value.none) = true then _ else _) _ _ s
  rw [if_neg (show ¬ ((Value.ref t == Value.none) = true) from Bool.false_ne_true)]
  show wpAny _ _ (field (.ref it) 1 >>= _) _ _ s
  refine wpAny_bind (wpAny_field ho hd (x := .int i 0) rfl ?_)
  show wpAny _ _ (seqItems? (.ref t) >>= _) _ _ s
  refine wpAny_bind (wpAny_seqItems hol hdl ?_)
  simp only [Int.toNat_natCast, hx]
  refine wpAny_bind (wpAny_rule (wpAny_bind (wpAny_setField ho hd (by simp) ?_)))
  show wpAny _ _ (newExc (.type "StopIteration") [] >>= _) _ _ _
  refine wpAny_bind ?_
  simp only [newExc, newTuple]
  refine wpAny_bind (wpAny_newObj_type ?_ (by size_fits))
  refine wpAny_bind (m := firstArgMember _ _) (wpAny_of_eq (a := Value.none) (by first | rfl | (simp only [firstArgMember]; rfl)) ?_)
  refine wpAny_newObj_type ?_ (by size_fits)
  obtain ⟨is, oo, vo, gx, dx, cx⟩ := hot
  have g1 : (s.heap.update it (Obj.mapFields (·.setIfInBounds 0 Value.none))).get? xa = some oo := (Heap.get?_update_other _ _ (Ne.symm off)).trans gx
  refine raiseNew_hot ⟨is, oo, vo, Heap.get?_push_of_some _ (Heap.get?_push_of_some _ g1), dx, cx⟩ (Nat.ne_of_lt (Heap.lt_size (Heap.get?_push_of_some _ g1))) (Heap.get?_push_size _ rfl) rfl (by first | (simp; done) | (simp; omega) | (simp only [Array.size_append]; simp; omega)) ?_
  refine wpAny_bind (wpAny_isInstance (T := "StopIteration") (b := true) ⟨_, Heap.get?_update_self _ (Heap.get?_push_size _ rfl) rfl, rfl⟩ isSubtype_stop ?_)
  exact wpAny_pure (hQ _ fun b o hb q => by
    have q1 := (Heap.SameBut.update s.heap it (Obj.mapFields (·.setIfInBounds 0 Value.none))).extBut b o hb q
    rw [Heap.get?_update_other _ _ (Nat.ne_of_gt (Heap.lt_size (Heap.get?_push_of_some _ q1)))]
    exact Heap.get?_push_of_some _ (Heap.get?_push_of_some _ q1))
theorem unpackItems_tupleH {t : Addr} {items : Array Value} {Q : List Value → Shared → Prop} (hot : HotAt A xa s.heap) (ht : IsTup s.heap t items)
    (hQ : ∀ h', Heap.ExtBut s.heap.objs.size s.heap h' → Q items.toList { s with heap := h' }) : wpAny (model prog w) A (unpackItems (.ref t) items.size none) Q E s := by
  have hlt : t ≠ s.heap.objs.size := by obtain ⟨o, ho, _⟩ := ht; exact Nat.ne_of_lt (Heap.lt_size ho)
  have ox : xa ≠ s.heap.objs.size := by
    obtain ⟨_, oo, _, gx, _⟩ := hot
    exact Nat.ne_of_lt (Heap.lt_size gx)
  unfold unpackItems
  refine wpAny_bind ?_
  · unfold notIterableAtAll
    refine wpAny_bind (wpAny_specialOf ht.typeIs slot_tuple_iter.lookup ?_)
    refine wpAny_pure ?_
    simp only [Bool.false_eq_true, if_false]
    refine wpAny_bind (wpAny_holding (iter_tuple ht ?_))
    refine wpAny_bind (wpAny_holding (draw_tuple hlt items.size 0 _ _ ⟨_, Heap.get?_push_size _ rfl, rfl, rfl⟩ (ht.push _) (by omega) fun h₁ hit₁ hs₁ => ?_))
    have hall : List.take items.size (List.drop 0 items.toList) = items.toList := by
      rw [List.drop_zero]; exact List.take_of_length_le (by simp)
    rw [hall]
    rw [if_neg (by simp)]
    have hot2 : HotAt A xa (s.heap.push { cls := .type "tuple_iterator", data := .fields #[.ref t, .int 0 0] }) := by
      obtain ⟨is, oo, vo, gx, dx, cx⟩ := hot
      exact ⟨is, oo, vo, Heap.get?_push_of_some _ gx, dx, cx⟩
    have ht₁ : IsTup h₁ t items := (ht.push _).extBut hs₁.extBut hlt
    refine wpAny_bind (wpAny_holding (next_tuple_endH (hotBut hot2 ox hs₁.extBut) ox hit₁ ht₁ (by simp) fun h₂ he₂ => ?_))
    simp only [Option.isSome_none, Bool.false_eq_true, if_false]
    refine wpAny_pure (hQ h₂ fun b o hb e => he₂ b o hb (hs₁.extBut b o hb (Heap.get?_push_of_some _ e)))

theorem unpack_tupleH {t : Addr} {items : Array Value} {targets : List (Bool × (Value → Sem Unit))} {Q : Unit → Shared → Prop} (hot : HotAt A xa s.heap) (ht : IsTup s.heap t items)
    (hn : targets.length = items.size) (hstar : targets.findIdx? (·.1) = none)
    (h : ∀ h', Heap.ExtBut s.heap.objs.size s.heap h' → wpAny (model prog w) A (assignInOrder (targets.map (·.2)) items.toList) Q E { s with heap := h' }) :
    wpAny (model prog w) A (unpack (.ref t) targets) Q E s := by
  unfold unpack
  rw [hn, hstar]
  exact wpAny_bind (wpAny_holding (unpackItems_tupleH hot ht h))
theorem assign_Tuple_tupleH {env : Env} {elts : List Expr} {x1} {pos : Pos} {t : Addr} {items : Array Value} {Q : Unit → Shared → Prop} (hot : HotAt A xa s.heap) (ht : IsTup s.heap t items)
    (hn : (assignEach elts env).length = items.size) (hstar : (assignEach elts env).findIdx? (·.1) = none)
    (h : ∀ h', Heap.ExtBut s.heap.objs.size s.heap h' → wpAny (model prog w) A (assignInOrder ((assignEach elts env).map (·.2)) items.toList) Q E { s with heap := h' }) :
    wpAny (model prog w) A (assign (.Tuple elts x1 pos) env (.ref t)) Q E s := by
  rw [assign_Tuple]
  exact wpAny_bind (wpAny_standAt (unpack_tupleH hot ht hn hstar h))
end
end FLH

namespace FL
open PySem PySem.Spec PyProof.Rows L2 FLH
abbrev HotX (X : Cx) (p : Addr × Obj) : Prop := X.A.handled = some (.ref p.1)
theorem hot_at {X : Cx} {pins : List (Addr × Obj)} {σ : L2.St} {H : Hp} {s : Shared} {p : Addr × Obj} (I : Inv X pins σ H s) (hh : HotX X p) (hp : HotP H p) : HotX.HotAt X.A p.1 s.heap := by
  obtain ⟨h1, vs, h2, h3⟩ := hp
  exact ⟨hh, p.2, vs, (I.hok p.1 _ h1).1, h2, h3⟩
/-- a tuple taken apart where an exception is handled -/
def gTupH (p : Addr × Obj) (K : PySem.W.Frag) (n : Nat) (t : TGs) : TG := fun v σ H Q => HotP H p ∧ gTup K n t v σ H Q
theorem pg_tupH {X : Cx} {es : List Expr} {k : Nat} {t : TGs} {n : Nat} {pos : Pos} {p : Addr × Obj} (hh : HotX X p) (h : PGs X es t)
    (hn : (assignEach es X.env).length = n := by rfl) (hst : (assignEach es X.env).findIdx? (·.1) = none := by rfl) : PG X (.Tuple es k pos) (gTupH p X.K n t) := by
  refine ⟨fun pins s σ H v u Q Iv r ⟨hp, a, xs, e1, hq, hl, hw⟩ => ?_⟩
  subst e1
  cases r
  obtain ⟨its, rv, ht, hz⟩ := Iv.tuple hq
  refine assign_Tuple_tupleH (hot_at Iv hh hp) ht (by simp [hn, ← hl, rv.length]) hst fun h' hx => ?_
  exact h.run pins _ σ H xs _ Q (Iv.kept (t' := s.toks) fun b o e => hx b o (Nat.ne_of_lt (Heap.lt_size e)) e) (by simpa using rv) hw
structure TurnK (p : Addr × Obj) (P : Program) (w : World) (K : PySem.W.Frag) (tg : Expr) (J : It) (fp : List Addr) (it : Addr) (tn : Nat → Heap → Prop) : Prop where
  obj : ∀ i h, tn i h → ∀ b ∈ fp, ∃ o, h.get? b = some o ∧ ∀ v, o.data ≠ .cell v
  keep : ∀ i h h', tn i h → (∀ b ∈ fp, ∀ o, h.get? b = some o → h'.get? b = some o) → tn i h'
  self : ∀ (A : Around) (i : Nat) (s : Shared) (Q : Value → Shared → Prop) (E : Value → Shared → Prop), tn i s.heap → Q (.ref it) s → wpAny (model P w) A (pyIter (.ref it)) Q E s
  item : ∀ (X : Cx), X.prog = P → X.w = w → X.K = K → HotX X p → ∀ (i : Nat) (pins : List (Addr × Obj)) (s : Shared) (σ : L2.St) (H : Hp) (E : Value → Shared → Prop), Inv X pins σ H s → (∀ b ∈ fp, FpOk X pins H b) → HotP H p → tn i s.heap → J.go i H →
    wpAny (model P w) X.A (pyNext (.ref it)) (fun r s1 => ∃ u, r = some u ∧
      wpAny (model P w) X.A (letOwnedTupleGo tg (.ref it) u) (fun _ s2 => ∃ x H', Inv X pins σ H' s2 ∧ RelV x u ∧ J.yld i H x H' ∧ tn (i + 1) s2.heap ∧ ∀ b ∈ fp, H' b = none) E s1) E s
  done : ∀ (X : Cx), X.prog = P → X.w = w → X.K = K → HotX X p → ∀ (i : Nat) (pins : List (Addr × Obj)) (s : Shared) (σ : L2.St) (H : Hp) (E : Value → Shared → Prop), Inv X pins σ H s → (∀ b ∈ fp, FpOk X pins H b) → HotP H p → tn i s.heap → J.stop i H →
    wpAny (model P w) X.A (pyNext (.ref it)) (fun r s1 => r = none ∧ Inv X pins σ H s1) E s
theorem turn_zipK {P : Program} {w : World} {K : PySem.W.Frag} {elts : List Expr} {kk : Nat} {tpos : Pos} {pp : Addr × Obj} {a b z TI TO i1 i2 : Addr} (D : ZipApart z TI TO i1 i2 a b) :
    TurnK pp P w K (.Tuple elts kk tpos) (Itz K a b) [z, TI, TO, i1, i2] z (fun i h => IsZip h z TI TO .none ∧ IsPair h TI (.ref i1) (.ref i2) ∧ (∃ x y, IsPair h TO x y) ∧ h.IsListIter i1 a i ∧ h.IsListIter i2 b i) where
  obj := fun i h st c hc => by
    obtain ⟨hz, hTI, ⟨x, y, hTO⟩, ⟨o1, e1, _, d1⟩, ⟨o2, e2, _, d2⟩⟩ := st
    have e' : c = z ∨ c = TI ∨ c = TO ∨ c = i1 ∨ c = i2 := by simpa using hc
    rcases e' with q | q | q | q | q
    · rw [q]; exact ⟨_, hz, fun v q => nomatch q⟩
    · rw [q]; exact ⟨_, hTI, fun v q => nomatch q⟩
    · rw [q]; exact ⟨_, hTO, fun v q => nomatch q⟩
    · rw [q]; exact ⟨o1, e1, fun v q => by rw [d1] at q; cases q⟩
    · rw [q]; exact ⟨o2, e2, fun v q => by rw [d2] at q; cases q⟩
  keep := fun i h h' st k => by
    obtain ⟨hz, hTI, ⟨x, y, hTO⟩, h1, h2⟩ := st
    exact ⟨k z (by simp) _ hz, k TI (by simp) _ hTI, ⟨x, y, k TO (by simp) _ hTO⟩, h1.at fun o q => k i1 (by simp) o q, h2.at fun o q => k i2 (by simp) o q⟩
  item := by
    intro X hP hw hK hc i pins s σ H E I hf hot st hg
    subst hP hw hK
    obtain ⟨hz, hTI, ⟨x0, y0, hTO⟩, h1, h2⟩ := st
    obtain ⟨xs, ys, x, y, hqx, hqy, hx, hy⟩ := hg
    obtain ⟨its, rv, p, _⟩ := I.list hqx
    obtain ⟨its2, rv2, p2, _⟩ := I.list hqy
    obtain ⟨u, hu, ru⟩ := rv.get hx
    obtain ⟨u2, hu2, ru2⟩ := rv2.get hy
    have hzl : z < s.heap.objs.size := Heap.lt_size hz
    refine wpAny_pyNext_zip_item D hz hTI hTO h1 h2 p.isList p2.isList (x := u) (y := u2) (by simpa using hu) (by simpa using hu2) fun h' z' TO' h1' h2' hT hsz hk => ?_
    refine ⟨_, rfl, wpAny_letOwnedTupleGo_zip (s := { s with heap := h' }) z' fun h'' z'' sb => ?_⟩
    have hT2 : h''.get? s.heap.objs.size = some { cls := .type "tuple", data := .seq #[u, u2] } := (sb.2 _ (Nat.ne_of_gt hzl)).trans hT
    have new : ObjOk X.prog X.w (upd H s.heap.objs.size (.tup [x, y])) h'' s.heap.objs.size (.tup [x, y]) :=
      ⟨by show 2 ≤ sizeLine; decide, [u, u2], .cons ru (.cons ru2 .nil), ⟨_, hT2, rfl, _, rfl⟩⟩
    have I1 : Inv X pins σ (upd H s.heap.objs.size (.tup [x, y])) { s with heap := h'' } :=
      I.turnedNew (t' := s.toks) (ch := [z, TI, TO, i1, i2]) (fun c o hb q => (sb.2 c (fun q' => hb (by simp [q']))).trans (hk c o (fun q' => hb (by simp [q'])) (fun q' => hb (by simp [q'])) (fun q' => hb (by simp [q'])) (fun q' => hb (by simp [q'])) q)) hf (Nat.le_refl _) new
    refine ⟨.ref s.heap.objs.size, _, I1, rfl, ⟨_, x, y, rfl, I.hok.fresh (Nat.le_refl _), rfl, fun l hl => by rw [I.list_inj hl hqx]; exact hx, fun l hl => by rw [I.list_inj hl hqy]; exact hy⟩, ⟨z'', ?_, ⟨u, u2, ?_⟩, ?_, ?_⟩, fun c hcm => ?_⟩
    · exact (sb.2 _ D.TIz).trans (hk _ _ D.TIz D.TITO D.TIi1 D.TIi2 hTI)
    · exact (sb.2 _ D.TOz).trans TO'
    · exact h1'.at fun o q => (sb.2 _ D.i1z).trans q
    · exact h2'.at fun o q => (sb.2 _ D.i2z).trans q
    · have hlt : c < s.heap.objs.size := by
        have e' : c = z ∨ c = TI ∨ c = TO ∨ c = i1 ∨ c = i2 := by simpa using hcm
        rcases e' with q | q | q | q | q
        · rw [q]; exact hzl
        · rw [q]; exact Heap.lt_size hTI
        · rw [q]; exact Heap.lt_size hTO
        · rw [q]; obtain ⟨_, e1, _⟩ := h1; exact Heap.lt_size e1
        · rw [q]; obtain ⟨_, e2, _⟩ := h2; exact Heap.lt_size e2
      rw [upd_ne (Nat.ne_of_lt hlt)]
      exact (hf c hcm).1
  done := by
    intro X hP hw hK hc i pins s σ H E I hf hot st hg
    subst hP hw hK
    obtain ⟨hz, hTI, ⟨x0, y0, hTO⟩, h1, h2⟩ := st
    obtain ⟨xs, ys, hqx, hqy, hend⟩ := hg
    obtain ⟨its, rv, p, _⟩ := I.list hqx
    obtain ⟨its2, rv2, p2, _⟩ := I.list hqy
    have l1 := rv.length
    have l2 := rv2.length
    have he : its.toArray[i]? = none ∨ its2.toArray[i]? = none := by
      rcases hend with q | q
      · exact .inl (by simp; omega)
      · exact .inr (by simp; omega)
    have off : ∀ c ∈ [z, TI, TO, i1, i2], pp.1 ≠ c := fun c hc' e => by
      have := (hf c hc').1
      rw [← e, hot.1] at this
      cases this
    exact pyNext_zip_endH (hot_at I hc hot) (off z (by simp)) (off TO (by simp)) (off i1 (by simp)) (off i2 (by simp)) D hz hTI hTO h1 h2 p.isList p2.isList he fun h' hk => ⟨rfl, I.turnedL (t' := s.toks) (ch := [z, TI, TO, i1, i2]) (fun c o hb q =>
      hk c o (fun q' => hb (by simp [q'])) (fun q' => hb (by simp [q'])) (fun q' => hb (by simp [q'])) (fun q' => hb (by simp [q'])) q) hf⟩
  self := fun A i s Q E st h => wpAny_pyIter_zip st.1 h

def PIEK (p : Addr × Obj) (X : Cx) (pins : List (Addr × Obj)) (σ : L2.St) (tg : Expr) (R : It → Hp → Prop) (itv : Value) (s2 : Shared) : Prop :=
  ∃ (it : Addr) (fp : List Addr) (tn : Nat → Heap → Prop) (J : It) (H' : Hp), itv = .ref it ∧ Inv X pins σ H' s2 ∧ TurnK p X.prog X.w X.K tg J fp it tn ∧ tn 0 s2.heap ∧ (∀ b ∈ fp, FpOk X pins H' b) ∧ R J H'
structure PIK (p : Addr × Obj) (X : Cx) (tg iter : Expr) (wi : TI) : Prop where
  run : ∀ (pins : List (Addr × Obj)) (s : Shared) (σ : L2.St) (H : Hp) (R : It → Hp → Prop), Inv X pins σ H s → wi σ H R →
    wpAny (model X.prog X.w) X.A (eval iter X.env) (fun v s1 => wpAny (model X.prog X.w) X.A (pyIter v) (PIEK p X pins σ tg R) X.xe s1) X.xe s
theorem pi_zipK {pp : Addr × Obj} {X : Cx} {e e2 : Expr} {ta : TA} {p pos tpos : Pos} {elts : List Expr} {kk : Nat} (hg : Gl X "zip") (hm : X.mg "zip" = none) (ha : PA X [e, e2] ta)
    (hs : starEach [e, e2] X.env = (false, eval e X.env) :: starEach [e2] X.env := by rfl) (hpl : (backTo pos (starEach [e2] X.env)).any (·.1) = false := by rfl) :
    PIK pp X (.Tuple elts kk tpos) (.Call (.Name "zip" p) [e, e2] [] pos) (iZip X.K ta) := by
  refine ⟨fun pins s σ H R I h => ?_⟩
  refine Call_ (ld_blt I hg hm PyProof.Rows.boot_zip (PyProof.Rows.callWith_type1 (thn (ha.run pos pins s σ H _ I h) fun us s1 ⟨vs, H1, I1, r1, q1⟩ => ?_) hs hpl))
  obtain ⟨a, b, xs, ys, ex, hqx, hqy, q⟩ := q1
  subst ex
  cases r1 with
  | cons r rr =>
    cases rr with
    | cons r' rr =>
      cases rr
      cases r
      cases r'
      obtain ⟨its, rv, p1, _⟩ := I1.list hqx
      obtain ⟨its2, rv2, p2, _⟩ := I1.list hqy
      have la : a < s1.heap.objs.size := p1.lt
      have lb : b < s1.heap.objs.size := p2.lt
      refine call_zip_2 p1.isList p2.isList fun h' hz hTI hTO h1 h2 hsz hk => wpAny_pyIter_zip hz ?_
      have I2 : Inv X pins σ H1 { s1 with heap := h' } := I1.kept (t' := s1.toks) hk
      refine ⟨s1.heap.objs.size + 4, [s1.heap.objs.size + 4, s1.heap.objs.size + 2, s1.heap.objs.size + 3, s1.heap.objs.size, s1.heap.objs.size + 1], _, _, H1, rfl, I2, turn_zipK (PySem.W.ktu_apart s1.heap.objs.size a b la lb), ⟨hz, hTI, ⟨_, _, hTO⟩, h1, h2⟩, fun c hcm => ?_, q⟩
      have e' : c = s1.heap.objs.size + 4 ∨ c = s1.heap.objs.size + 2 ∨ c = s1.heap.objs.size + 3 ∨ c = s1.heap.objs.size ∨ c = s1.heap.objs.size + 1 := by simpa using hcm
      have hle : s1.heap.objs.size ≤ c := by
        rcases e' with z | z | z | z | z
        · rw [z]; exact Nat.le_add_right _ _
        · rw [z]; exact Nat.le_add_right _ _
        · rw [z]; exact Nat.le_add_right _ _
        · rw [z]; exact Nat.le_refl _
        · rw [z]; exact Nat.le_add_right _ _
      exact I1.fpOk hle (I1.hok.fresh hle)

def tLcK (p : Addr × Obj) (wi : TI) (g : TG) (tt : TT) (te : TE) (vs : List Nat) : TE := fun σ H Q => wi σ H fun J H1 => HotP H1 p ∧ ∀ D, H1 D = none → ∃ W : Nat → Nat → Hp → Prop, (∃ m, W 0 m (upd H1 D (.lst []))) ∧ ∀ i m H, W i m H →
  (J.stop i H ∧ Q (.ref D) H) ∨ (J.go i H ∧ ∃ Nx : Hp → Prop, (∀ H', Nx H' → ∃ m', m' < m ∧ W (i + 1) m' H') ∧ ∀ x H', J.yld i H x H' → g x (wipe σ vs) H' fun σ2 H2 => wipe σ2 vs = wipe σ vs ∧ tt σ2 H2 fun b H3 =>
    if b = true then te σ2 H3 fun y H4 => ∃ acc, H4 D = some (.lst acc) ∧ acc.length < sizeLine ∧ Nx (upd H4 D (.lst (acc ++ [y]))) else Nx H3)
theorem lc_coreK {X : Cx} {pp : Addr × Obj} {pins : List (Addr × Obj)} {s : Shared} {σ : L2.St} {H : Hp} {Q : VK} {elt tg iter : Expr} {ifs : List Expr} {scope : Scope} {own : List (Str × Nat)} {pos pos' : Pos} {wi : TI} {g : TG} {tt : TT} {te : TE} {use : Option (Value → Sem Unit)} {Qf : Value → Shared → Prop}
    (hc : HotX X pp) (hN : X.N.Nodup) (I : Inv X pins σ H s) (hi : PIK pp X tg iter wi) (ok : BlkOk X.N X.env.scope scope own)
    (hg : ∀ (s : Shared) (H : Hp) (C : Addr) (cl : List (Str × Addr)) (fp : List Addr), PG (X.blk s H scope (compEnvC scope cl C X.env) fp) tg g) (ht : ∀ (s : Shared) (H : Hp) (C : Addr) (cl : List (Str × Addr)) (fp : List Addr), PTs (X.blk s H scope (compEnvC scope cl C X.env) fp) ifs tt)
    (he : ∀ (s : Shared) (H : Hp) (C : Addr) (cl : List (Str × Addr)) (fp : List Addr), PE (X.blk s H scope (compEnvC scope cl C X.env) fp) elt te) (hs : ∀ x, foldedSetIterable iter X.env x = pure x)
    (h : tLcK pp wi g tt te (own.map (·.2)) σ H Q)
    (hRR : ∀ D C s' m H', Inv X pins σ H' s' → Q (.ref D) H' → s'.heap.Ns C m → FpOk X pins H' C → compPost (model X.prog X.w) X.A X.xe use Qf (.ref D) C (.ok .next) s') :
    wpAny (model X.prog X.w) X.A (comprehension (.ListComp elt [⟨tg, iter, ifs, 0⟩] scope pos) scope X.env pos' (newList []) false (eval iter X.env) use) Qf X.xe s := by
  have hfree : ∀ y ∈ scope.names, y.2 = .free → ∃ c, X.env.cells.lookup y.1 = some c := fun y hy e => by
    rcases ok.free y hy e with k | k
    · exact I.ok.has _ (.inl k)
    · exact I.ok.has _ (.inr k)
  refine wpAny_comprehension_free (use := use) rfl hs (closure_ok hfree) ok.kind (fun y hy e => by rw [ok.uniq y hy, e])
    (thn (hi.run pins s σ H _ I h) fun xv s1 hx => thn hx fun itv s2 h2 => ?_)
  obtain ⟨it, fp, tn, J, H2, e, I2, T, st2, f2, q⟩ := h2
  subst e
  refine wpAny_newObj_type (newEnv_comp ?_) (by show 0 ≤ sizeLine; decide)
  generalize hD : s2.heap.objs.size = D
  have hDn : H2 D = none := I2.hok.fresh (Nat.le_of_eq hD)
  obtain ⟨hot, q⟩ := q
  obtain ⟨W, ⟨m0, w0⟩, turn⟩ := q D hDn
  have hotD : HotP (upd H2 D (.lst [])) pp := ⟨by rw [upd_ne (ne_of_none hot.1 hDn)]; exact hot.1, hot.2⟩
  -- the new list
  generalize hs3 : ({ s2 with heap := s2.heap.push { cls := .type "list", data := .seq ([] : List Value).toArray } } : Shared) = s3
  have I3 : Inv X pins σ (upd H2 D (.lst [])) s3 := by
    rw [← hs3]
    refine I2.laid (t' := s2.toks) (fun b o e => Heap.get?_push_of_some _ e) (Nat.le_of_eq hD) ⟨Nat.zero_le _, [], 0, .nil, ?_⟩
    rw [← hD]
    exact Heap.get?_push_size _ rfl
  have h3 : s3.heap = s2.heap.push { cls := .type "list", data := .seq ([] : List Value).toArray } := by rw [← hs3]
  have sz : ∀ b ∈ fp, b < s2.heap.objs.size := fun b hb => by
    obtain ⟨o, e, _⟩ := T.obj _ _ st2 b hb
    exact Heap.lt_size e
  have f3 : ∀ b ∈ fp, FpOk X pins (upd H2 D (.lst [])) b ∧ b < s3.heap.objs.size := fun b hb => by
    have hlt := sz b hb
    refine ⟨⟨?_, (f2 b hb).2⟩, by rw [h3, Heap.size_push]; exact Nat.lt_succ_of_lt hlt⟩
    rw [upd_ne (by rw [← hD]; exact Nat.ne_of_lt hlt)]
    exact (f2 b hb).1
  have st3 : tn 0 s3.heap := T.keep _ _ _ st2 fun b _ o e => by rw [h3]; exact Heap.get?_push_of_some _ e
  have I4 := block_start I3 ok hN f3
  have pg := hg s3 (upd H2 D (.lst [])) s3.heap.objs.size (cellsFrom (s3.heap.objs.size + 1) scope.names (cloFrom X.env.cells scope.names [])) fp
  have pt := ht s3 (upd H2 D (.lst [])) s3.heap.objs.size (cellsFrom (s3.heap.objs.size + 1) scope.names (cloFrom X.env.cells scope.names [])) fp
  have pe := he s3 (upd H2 D (.lst [])) s3.heap.objs.size (cellsFrom (s3.heap.objs.size + 1) scope.names (cloFrom X.env.cells scope.names [])) fp
  show codeAny _ _ (.compStart (.ListComp elt [⟨tg, iter, ifs, 0⟩] scope pos) 0 (.ref it) (.ref D) (compEnvC scope (cellsFrom (s3.heap.objs.size + 1) scope.names (cloFrom X.env.cells scope.names [])) s3.heap.objs.size X.env)) (compPost (model X.prog X.w) X.A X.xe use Qf (.ref D) s3.heap.objs.size) { s3 with heap := pushCells (s3.heap.push { cls := .type "dict", data := .dict #[] }) scope.names }
  have nfp : ∀ b ∈ fp, (upd H2 D (.lst [])) b = none := fun b hb => (f3 b hb).1.1
  generalize hce : compEnvC scope (cellsFrom (s3.heap.objs.size + 1) scope.names (cloFrom X.env.cells scope.names [])) s3.heap.objs.size X.env = ce at I4 pg pt pe ⊢
  have cL : ce.locals = s3.heap.objs.size := by subst hce; rfl
  generalize hH3 : upd H2 D (.lst []) = H3 at I3 I4 pg pt pe w0 nfp f3 hotD
  generalize hs4 : ({ s3 with heap := pushCells (s3.heap.push { cls := .type "dict", data := .dict #[] }) scope.names } : Shared) = s4 at I4 ⊢
  have st4 : tn 0 s4.heap := T.keep _ _ _ st3 fun b _ o e => by rw [← hs4]; exact pushCells_keeps _ _ _ _ (Heap.get?_push_of_some _ e)
  have stat : ∀ {σ' : L2.St} {H' : Hp} {s' : Shared}, Inv (X.blk s3 H3 scope ce fp) [] σ' H' s' → (∀ b ∈ fp, H' b = none) → ∀ b ∈ fp, FpOk (X.blk s3 H3 scope ce fp) [] H' b := fun {σ' H' s'} I' hn b hb =>
    ⟨hn b hb, (I'.ok.exf b hb).1, I'.ok.exfs b hb, .inl hb, fun x c e => (I'.ok.exf b hb).2 x c e, fun p hp => absurd (show p ∈ ([] : List (Addr × Obj)) ++ [] from hp) (by simp)⟩
  have loop : codeAny (model X.prog X.w) X.A (.compLoop (.ListComp elt [⟨tg, iter, ifs, 0⟩] scope pos) 0 (.ref it) (.ref D) ce) (compPost (model X.prog X.w) X.A X.xe use Qf (.ref D) s3.heap.objs.size) s4 := by
    refine compLoop_any (fun n s' => ∃ i H', Inv (X.blk s3 H3 scope ce fp) [] (wipe σ (own.map (·.2))) H' s' ∧ tn i s'.heap ∧ (∀ b ∈ fp, H' b = none) ∧ W i n H') ?_ m0 ⟨0, H3, I4, st4, nfp, w0⟩
    rintro n s5 ⟨i, H5, I5, st5, n5, w5⟩
    rcases turn i n H5 w5 with ⟨stop, qq⟩ | ⟨go, Nx, hNx, step⟩
    · have td := T.done (X.blk s3 H3 scope ce fp) rfl rfl rfl hc i [] s5 _ H5 (fun _ _ => False) I5 (stat I5 n5) ⟨I5.base.frzs _ _ _ hotD.1, hotD.2⟩ st5 stop
      refine thnF td fun r s6 ⟨hr, I6⟩ => ?_
      subst hr
      -- back in the def's context
      have I7 : Inv X pins σ H5 s6 := I3.call' (ch := fp) I6.os I6.base I6.hok I6.bare fun b hb => ⟨(f3 b hb).1.2.2.2.1, (f3 b hb).1.2.1, (f3 b hb).1.2.2.2.2.1, (f3 b hb).1.2.2.2.2.2⟩
      have nC : H5 s3.heap.objs.size = none := by
        have z : H5 ce.locals = none := I6.free
        rw [cL] at z
        exact z
      obtain ⟨m, hn, _⟩ := I6.loc
      have hn : s6.heap.Ns ce.locals m := hn
      rw [cL] at hn
      exact hRR D s3.heap.objs.size s6 m H5 I7 qq hn (I3.fpOk (Nat.le_refl _) nC)
    · have ti := T.item (X.blk s3 H3 scope ce fp) rfl rfl rfl hc i [] s5 _ H5 (fun _ _ => False) I5 (stat I5 n5) ⟨I5.base.frzs _ _ _ hotD.1, hotD.2⟩ st5 go
      refine thnF ti fun r s6 ⟨u, hr, h6⟩ => ?_
      subst hr
      refine thnF h6 fun _ s7 ⟨x, H7, I7, r7, y7, st7, n7⟩ => ?_
      have I7' := I7.pinned (stat I7 n7) (T.obj _ _ st7)
      refine thnF (pg.run _ s7 _ H7 x u _ I7' r7 (step x H7 y7)) fun _ s8 ⟨σ8, H8, I8, hw8, q8⟩ => ?_
      refine thnF (pt.run _ s8 σ8 H8 _ I8 q8) fun b s9 ⟨H9, I9, q9⟩ => ?_
      -- the turn's end
      have fin : ∀ {s' : Shared} {H' : Hp}, Inv (X.blk s3 H3 scope ce fp) ([] ++ pinsAt fp s7.heap) σ8 H' s' → Nx H' → ∃ m, m < n ∧ ∃ i H', Inv (X.blk s3 H3 scope ce fp) [] (wipe σ (own.map (·.2))) H' s' ∧ tn i s'.heap ∧ (∀ b ∈ fp, H' b = none) ∧ W i m H' := fun {s' H'} I' nx => by
        obtain ⟨m', hm, w'⟩ := hNx H' nx
        have pin' : ∀ b ∈ fp, ∀ o, s7.heap.get? b = some o → s'.heap.get? b = some o ∧ H' b = none := fun b hb o e =>
          let z := I'.pin (b, o) (List.mem_append_right _ (List.mem_append_right _ (mem_pinsAt hb e)))
          ⟨z.1, z.2.1⟩
        have hl : (wipe σ (own.map (·.2))).length = σ8.length := by rw [← hw8, wipe_length]
        refine ⟨m', hm, i + 1, H', (I'.unpinned (pins := [])).weak hl (fun j v e => ?_), T.keep _ _ _ st7 fun b hb o e => (pin' b hb o e).1, fun b hb => ?_, w'⟩
        · rw [← hw8] at e
          exact (wipe_some e).1
        · obtain ⟨o, e, _⟩ := T.obj _ _ st7 b hb
          exact (pin' b hb o e).2
      cases b with
      | false =>
        simp only [Bool.false_eq_true, if_false] at q9 ⊢
        exact fin I9 q9
      | true =>
        simp only [if_true] at q9 ⊢
        refine thnF (pe.run _ s9 σ8 H9 _ I9 q9) fun z s10 ⟨yv, H10, I10, r10, acc, hD10, hz10, nx⟩ => ?_
        exact app_ok (X := X.blk s3 H3 scope ce fp) I10 hD10 hz10 r10 fun s11 I11 => fin I11 nx
  exact codeAny_compStart_list loop (T.self X.A 0 _ _ _ st4 loop)
/-- as a value -/
theorem pe_lcK {X : Cx} {pp : Addr × Obj} {elt tg iter : Expr} {ifs : List Expr} {scope : Scope} {own : List (Str × Nat)} {pos : Pos} {wi : TI} {g : TG} {tt : TT} {te : TE} (hc : HotX X pp) (hN : X.N.Nodup) (hi : PIK pp X tg iter wi) (ok : BlkOk X.N X.env.scope scope own)
    (hg : ∀ (s : Shared) (H : Hp) (C : Addr) (cl : List (Str × Addr)) (fp : List Addr), PG (X.blk s H scope (compEnvC scope cl C X.env) fp) tg g) (ht : ∀ (s : Shared) (H : Hp) (C : Addr) (cl : List (Str × Addr)) (fp : List Addr), PTs (X.blk s H scope (compEnvC scope cl C X.env) fp) ifs tt)
    (he : ∀ (s : Shared) (H : Hp) (C : Addr) (cl : List (Str × Addr)) (fp : List Addr), PE (X.blk s H scope (compEnvC scope cl C X.env) fp) elt te) (hs : ∀ x, foldedSetIterable iter X.env x = pure x := by intro _; rfl) :
    PE X (.ListComp elt [⟨tg, iter, ifs, 0⟩] scope pos) (tLcK pp wi g tt te (own.map (·.2))) := by
  refine ⟨fun pins s σ H Q I h => ?_⟩
  rw [eval_ListComp]
  refine lc_coreK hc hN I hi ok hg ht he hs h fun D C s' m H' I' q hn f => ⟨m, hn, fun h'' sb => ?_⟩
  obtain ⟨f0, f1, f2, f3, f4, f5⟩ := f
  exact ⟨.ref D, H', I'.turned (t' := s'.toks) (fun b o hb e => (sb.2 b hb).trans e) f0 f1 f3 f4 f5, rfl, q⟩
end FL
/-! FL23: as plain functions: comprehensions where an exception is handled, isinstance of an exception, defs and classes as values, split. -/
namespace FL
open PySem PySem.Spec PyProof.Rows L2
section
variable {W : Wd} {k : Nat} {X : Cx} {Ew : WX} {ι ι' : List Addr} {H H' : Hp} {st : Sto} {a b e : Expr} {es : List Expr} {ma mb me : FE} {mt mu : FT} {mas : FA} {pos : Pos} {s : Stmt} {ss : List Stmt} {m n : FS} {pp : Addr × Obj}
theorem CtxH.hot (C : CtxH W k X Ew) (hW : W.hot = some pp) : HotX X pp := by
  obtain ⟨p', e1, e2⟩ := C.hh
  rw [hW] at e1
  cases e1
  exact e2
theorem CtxH.blk (C : CtxH W k X Ew) (s : Shared) (H : Hp) (sc : Scope) (ce : PySem.Env) (fp : List Addr) : CtxH W k (X.blk s H sc ce fp) E00 :=
  ⟨⟨C.eP, C.ew, C.eK, C.em, C.eb, takesN0, C.rmu, C.nd, PassesOwn.never⟩, C.hh⟩
/-- what is handled stands behind any part -/
theorem tOf_hot {α β : Type} {RA : List Addr → Hp → α → β → Prop} {f : FX α} {σ : L2.St} {Q : β → Hp → Prop} (hW : W.hot = some pp) (h : tOf W Ew RA f σ H Q) : tOf W Ew RA f σ H fun b H' => HotP H' pp ∧ Q b H' := by
  obtain ⟨ι, sl, st, r, hs, hr, hm, hq⟩ := h
  refine ⟨ι, sl, st, r, hs, hr, hm, ?_⟩
  cases r with
  | ok a st' => exact fun ι' H' b e r2 ra => ⟨r2.hot pp hW, hq ι' H' b e r2 ra⟩
  | ex c st' => exact hq
theorem sgw_tupK {vs : List Nat} {g : FGs} {j n : Nat} (C : CtxH W k X Ew) (hW : W.hot = some pp) (h : SGsw W X vs es g) (h1 : (assignEach es X.env).length = n := by rfl) (h2 : List.findIdx? (fun x => x.1) (assignEach es X.env) = none := by rfl) : SGw W X vs (.Tuple es j pos) (gTupl g n) :=
  imG (pg_tupH (C.hot hW) h h1 h2) fun v σ H Q ⟨ι, sl, st, x, sl', st', hs, hr, hx, hm, hq⟩ => by
    cases hx with
    | @tup a us xs sq rx =>
      have hm2 : (if xs.length = n then g xs sl st else none) = some (sl', st') := hm
      by_cases hl : xs.length = n
      · rw [if_pos hl] at hm2
        exact ⟨hr.hot pp hW, a, us, rfl, by rw [C.eK]; exact sq, by rw [← rx.len]; exact hl, ι, sl, st, xs, sl', st', hs, hr, rx, hm2, hq⟩
      · rw [if_neg hl] at hm2
        cases hm2
    | _ => cases hm
abbrev SIK (pp : Addr × Obj) (W : Wd) (X : Cx) (Ew : WX) (tg e : Expr) (m : FI) : Prop := PIK pp X tg e (tiOf W Ew m)
theorem si_zipK {elts : List Expr} {kk : Nat} {p tpos : Pos} (C : Ctx0 W k X Ew) (hm : W.mg "zip" = none) (ha : SA W X Ew [a, b] mas) (hg : Gl X "zip" := by rfl)
    (hs : starEach [a, b] X.env = (false, eval a X.env) :: starEach [b] X.env := by rfl) (hpl : (backTo pos (starEach [b] X.env)).any (·.1) = false := by rfl) : SIK pp W X Ew (.Tuple elts kk tpos) (.Call (.Name "zip" p) [a, b] [] pos) (fZip mas) := by
  have z := pi_zipK (pp := pp) (p := p) (elts := elts) (kk := kk) (tpos := tpos) hg (by rw [C.em]; exact hm) ha hs hpl
  refine ⟨fun pins s σ H R Iv hw => z.run pins s σ H R Iv ?_⟩
  obtain ⟨ι, sl, st, r, hs, hr, hm, hq⟩ := hw
  refine run hs hr hm hq fun x st1 ι1 H1 vx e1 s1 r1 rx hm1 hq1 => ?_
  split at hm1
  · rename_i i j
    split at hm1
    · rename_i xs ys h5 h6
      cases hm1
      cases rx with
      | cons r0 rr =>
        cases rr with
        | cons r2 r3 =>
          cases r3
          cases r0 with
          | @ref _ p h0 =>
            cases r2 with
            | @ref _ q h1 =>
              obtain ⟨vs, h7, _⟩ := r1.lst h5 h0
              obtain ⟨ws, h8, _⟩ := r1.lst h6 h1
              rw [C.eK]
              exact ⟨p, q, vs, ws, rfl, SqL.of h7, SqL.of h8, hq1 ι1 H1 _ (Ext.refl _ _) r1 (ok_zip h0 h1)⟩
    · cases hm1
  · cases hm1
theorem lc_impK {mi : FI} {g : FG} {vs : List Nat} {σ : L2.St} {H : Hp} {Q : VK} (hW : W.hot = some pp) (h : teOf W Ew (fLc mi g mt me vs) σ H Q) : tLcK pp (tiOf W Ew mi) (tgW W vs g) (ttOf W E00 mt) (teOf W E00 me) vs σ H Q := tOf_hot hW (lc_imp h)
theorem se_lcK {tg iter : Expr} {ifs : List Expr} {scope : Scope} {own : List (Str × Nat)} {mi : FI} {g : FG} (C : CtxH W k X Ew) (hW : W.hot = some pp) (hi : SIK pp W X Ew tg iter mi) (ok : BlkOk X.N X.env.scope scope own)
    (hg : ∀ (s : Shared) (H : Hp) (c : Addr) (cl : List (Str × Addr)) (fp : List Addr), SGw W (X.blk s H scope (compEnvC scope cl c X.env) fp) (own.map (·.2)) tg g)
    (ht : ∀ (s : Shared) (H : Hp) (c : Addr) (cl : List (Str × Addr)) (fp : List Addr), STs W (X.blk s H scope (compEnvC scope cl c X.env) fp) ifs mt)
    (he : ∀ (s : Shared) (H : Hp) (c : Addr) (cl : List (Str × Addr)) (fp : List Addr), SE W (X.blk s H scope (compEnvC scope cl c X.env) fp) E00 e me)
    (h1 : ∀ x, foldedSetIterable iter X.env x = pure x := by intro _; rfl) : SE W X Ew (.ListComp e [⟨tg, iter, ifs, 0⟩] scope pos) (fLc mi g mt me (own.map (·.2))) :=
  imE (pe_lcK (C.hot hW) C.nd hi ok hg ht he h1) fun σ H Q h => lc_impK hW h
/-! ### a def, a class as a value -/
theorem se_glo {x : Str} (C : Ctx0 W k X Ew) (hm : W.mg x = some (.ref (He.ga W.K x))) (hg : Gl X x := by rfl) (hd : (x == ("__debug__" : Str)) = false := by decide) : SE W X Ew (.Name x pos) (fC (.glo x)) :=
  se_c (z := .ref (He.ga W.K x)) (pe_glob hg (by rw [C.em]; exact hm) rfl hd) fun _ _ => .glo x
/-! ### isinstance of an exception -/
/-- what is known: of which classes it is -/
structure IsF (W : Wd) (tab : List ((Str × Str) × Bool)) (tyb : List ((Str × String) × Bool)) : Prop where
  own : ∀ c y b, tab.lookup (c, y) = some b → ExcC W.K (He.ga W.K c) ∧ PySem.W.kitOne W.K (.ref (He.ga W.K c)) (.ref (He.ga W.K y)) = some b
  typ : ∀ c y b, tyb.lookup (c, y) = some b → ExcC W.K (He.ga W.K c) ∧ PySem.W.kitOne W.K (.ref (He.ga W.K c)) (.type y) = some b
def fIsE (tab : List ((Str × Str) × Bool)) (tyb : List ((Str × String) × Bool)) : ON := fun xs st => match xs with
  | [.exc c, .glo y] => (tab.lookup (c, y)).map fun b => (.bl b, st)
  | [.exc c, .ty y] => (tyb.lookup (c, y)).map fun b => (.bl b, st)
  | _ => none
theorem call_isEF {tab : List ((Str × Str) × Bool)} {tyb : List ((Str × String) × Bool)} (C : Ctx0 W k X Ew) (F : IsF W tab tyb) : CallR X (.builtin "isinstance") (rc W (fIsE tab tyb)) := by
  have core : ∀ {pins : List (Addr × Obj)} {s : Shared} {σ : L2.St} {H : Hp} {Q : VK} {c : Str} {a : Addr} {o : Obj} {cv : Value} {b : Bool}, Inv X pins σ H s → H a = some (.frz o (.ext fun _ => True)) → o.cls = .ref (He.ga W.K c) → o.dict = none →
      ExcC W.K (He.ga W.K c) → (∃ vs, o.data = .fields vs) → PySem.W.kitOne W.K (.ref (He.ga W.K c)) cv = some b → Q (.bl b) H → wpAny (model X.prog X.w) X.A (call (.builtin "isinstance") [.ref a, cv]) (EP X pins σ Q) X.xe s := by
    intro pins s σ H Q c a o cv b Iv h1 h2 h3 E hv e q
    obtain ⟨vs, hv⟩ := hv
    have J : PySem.W.InstAt s.heap a o (He.ga W.K c) none := by
      have g := (Iv.hok a _ h1).1
      obtain ⟨oc, od, oda, osl⟩ := o
      dsimp only at h2 h3 hv
      subst h2 h3 hv
      exact ⟨g, rfl, rfl, trivial⟩
    have KI : W.K.In s.heap := by rw [← C.eK]; exact Iv.kIn
    exact PySem.W.kia_one (PySem.W.handS_kitx_exc E.hg E.hk E.hs E.hd E.ha E.hn E.ht E.hm) KI J e (fun z => nomatch z) fun tk => ⟨.bl b, H, Iv.kept (t' := tk) fun _ _ z => z, rfl, q⟩
  intro pins s σ H xs us Q Iv r h
  obtain ⟨ι, st, as, v, st', rx, hr, hf, hq⟩ := h
  unfold fIsE at hf
  split at hf
  · rename_i c y
    obtain ⟨b, hb, e⟩ := Option.map_eq_some_iff.mp hf
    cases e
    cases rx with
    | cons r1 rr =>
      cases rr with
      | cons r2 r3 =>
        cases r3
        cases r2
        cases r1 with
        | @exc _ a o h1 h2 h3 h4 =>
          cases r with
          | cons u1 rr =>
            cases rr with
            | cons u2 rr =>
              cases rr
              cases u1
              cases u2
              exact core Iv h1 h2 h3 (F.own _ _ _ hb).1 h4 (F.own _ _ _ hb).2 (hq.here hr (.bl b))
  · rename_i c y
    obtain ⟨b, hb, e⟩ := Option.map_eq_some_iff.mp hf
    cases e
    cases rx with
    | cons r1 rr =>
      cases rr with
      | cons r2 r3 =>
        cases r3
        cases r2
        cases r1 with
        | @exc _ a o h1 h2 h3 h4 =>
          cases r with
          | cons u1 rr =>
            cases rr with
            | cons u2 rr =>
              cases rr
              cases u1
              cases u2
              exact core Iv h1 h2 h3 (F.typ _ _ _ hb).1 h4 (F.typ _ _ _ hb).2 (hq.here hr (.bl b))
  · cases hf
end
end FL
/-! FL24: split; the facts of a head about exceptions. -/
namespace FL
open PySem PySem.Spec PyProof.Rows L2
section
variable {W : Wd} {k : Nat} {X : Cx} {Ew : WX}
/-- s.split(t) -/
def fSplit : Val → ON := fun a xs st => match a, xs with
  | .str s, [.str t] => if 0 < t.length ∧ s.length + 2 ≤ LINE then some (.ref st.length, st ++ [.lst ((Txt.split (St' s) (St' t)).map fun z => Val.str z.cps.toList)]) else none
  | _, _ => none
theorem RVs.ofStr {K : PySem.W.Frag} {ι : List Addr} {H : Hp} : ∀ l : List Str, RVs K ι H (l.map fun z => Val.str z.cps.toList) (l.map V.str)
  | [] => .nil
  | z :: l => by
    refine .cons ?_ (RVs.ofStr l)
    have r := RV.str (K := K) (ι := ι) (H := H) z.cps.toList
    rw [st_back] at r
    exact r
theorem mt_splitF : MtR X "str.split" (rm W fSplit) := mtBy fun x xs H Q ⟨ι, st, a, as, v, st', rx, rxs, hr, hf, hq⟩ => by
  unfold fSplit at hf
  split at hf
  · rename_i s t
    split at hf
    · rename_i hl
      cases hf
      cases rx
      cases rxs with
      | cons r0 rr =>
        cases rr
        cases r0
        refine ⟨_, mt_split, St' s, St' t, rfl, rfl, ?_, ?_, fun p hp => hq.new hr (show RO W ι H (.lst _) (.lst _) from RVs.ofStr _) p hp⟩
        · rw [st_len]
          exact beq_eq_false_iff_ne.mpr (by omega)
        · rw [st_len, ← line_eq]
          exact hl.2
    · cases hf
  · cases hf
end
/-! ### a head's facts about exceptions -/
section
variable {W : Wd} {h : Heap}
def exBase : List Value := [.type "Exception", .type "BaseException", .type "object"]
def excFB (ve : Bool) (c : Str) (K : PySem.W.Frag) : Bool := PySem.W.excIn K (He.ga K c) (if ve then He.veBase else exBase) (if ve then "ValueError.__new__" else "Exception.__new__") && (PySem.W.keepIn K (.ref (He.ga K c)) && (decide (PySem.W.subIn K (.ref (He.ga K c)) (.type "BaseException") = some true) && decide (PySem.W.typeIn K (.ref (He.ga K c)) = some (.type "type"))))
theorem excF_ok {c : Str} {ve : Bool} (hm : W.mg c = some (.ref (He.ga W.K c))) (e : excFB ve c W.K = true) : ExcF W c := by
  obtain ⟨c1, e⟩ := He.ba e
  obtain ⟨c2, e⟩ := He.ba e
  obtain ⟨c3, c4⟩ := He.ba e
  refine ⟨hm, c2, ?_, of_decide_eq_true c3, of_decide_eq_true c4⟩
  cases ve with
  | true => exact ⟨_, _, _, _, PySem.F.excBase_ValueError, c1⟩
  | false => exact ⟨_, _, _, _, PySem.F.excBase_Exception, c1⟩
def tryB (ys : List Str) (tab : List (Str × Bool)) (K : PySem.W.Frag) : Bool := tab.all fun q => decide (PySem.W.exmAny K (.ref (He.ga K q.1)) (ys.map fun y => Value.ref (He.ga K y)) = some q.2)
theorem lookup_mem {α β : Type} [BEq α] [LawfulBEq α] {c : α} {b : β} : ∀ {tab : List (α × β)}, tab.lookup c = some b → (c, b) ∈ tab
  | [], h => by cases h
  | (x, y) :: t, h => by
    rw [List.lookup_cons] at h
    cases e : c == x with
    | true =>
      rw [e] at h
      cases h
      rw [beq_iff_eq.mp e]
      exact List.mem_cons_self ..
    | false =>
      rw [e] at h
      exact List.mem_cons_of_mem _ (lookup_mem h)
theorem try_ok {ys : List Str} {tab : List (Str × Bool)} (e : tryB ys tab W.K = true) : TryF W (ys.map fun y => Value.ref (He.ga W.K y)) tab := fun c b hb => of_decide_eq_true (List.all_eq_true.mp e _ (lookup_mem hb))
def excCB (K : PySem.W.Frag) (c : Str) : Bool := He.eqO (PySem.W.findIn K (.ref (He.ga K c)) "__getattribute__") (some (some (.builtin "BaseException.__getattribute__"))) && (He.eqO (PySem.W.findIn K (.ref (He.ga K c)) "__getattr__") (some none) && (decide (PySem.W.subIn K (.ref (He.ga K c)) (.type "BaseException") = some true) && (PySem.W.hasDictIn K (He.ga K c) &&
  (He.eqO (PySem.W.findIn K (.ref (He.ga K c)) "__class__") (some (some (.builtin "object.__class__"))) && (decide (PySem.W.specialIn K (.builtin "object.__class__") "__get__" = some (some (.builtin "getset_descriptor.__get__"))) && (decide (PySem.W.takesIn K (.builtin "object.__class__") = some true) && decide (PySem.W.mroIn K (He.ga K c) (.type "object") = some true)))))))
theorem excC_ok {K : PySem.W.Frag} {c : Str} (e : excCB K c = true) : ExcC K (He.ga K c) := by
  obtain ⟨c1, e⟩ := He.ba e
  obtain ⟨c2, e⟩ := He.ba e
  obtain ⟨c3, e⟩ := He.ba e
  obtain ⟨c4, e⟩ := He.ba e
  obtain ⟨c5, e⟩ := He.ba e
  obtain ⟨c6, e⟩ := He.ba e
  obtain ⟨c7, c8⟩ := He.ba e
  exact ⟨He.eqO_ok c1, He.eqO_ok c2, of_decide_eq_true c3, c4, He.eqO_ok c5, of_decide_eq_true c6, of_decide_eq_true c7, of_decide_eq_true c8⟩
def isB (tab : List ((Str × Str) × Bool)) (tyb : List ((Str × String) × Bool)) (K : PySem.W.Frag) : Bool := (tab.all fun q => excCB K q.1.1 && decide (PySem.W.kitOne K (.ref (He.ga K q.1.1)) (.ref (He.ga K q.1.2)) = some q.2)) && tyb.all fun q => excCB K q.1.1 && decide (PySem.W.kitOne K (.ref (He.ga K q.1.1)) (.type q.1.2) = some q.2)
theorem is_ok {tab : List ((Str × Str) × Bool)} {tyb : List ((Str × String) × Bool)} (e : isB tab tyb W.K = true) : IsF W tab tyb := by
  obtain ⟨e1, e2⟩ := He.ba e
  refine ⟨fun c y b hb => ?_, fun c y b hb => ?_⟩
  · obtain ⟨z1, z2⟩ := He.ba (List.all_eq_true.mp e1 _ (lookup_mem hb))
    exact ⟨excC_ok z1, of_decide_eq_true z2⟩
  · obtain ⟨z1, z2⟩ := He.ba (List.all_eq_true.mp e2 _ (lookup_mem hb))
    exact ⟨excC_ok z1, of_decide_eq_true z2⟩
end
theorem ExcF.at {W : Wd} {c : Str} (h : ExcF W c) (p : Addr × Obj) : ExcF (W.at p) c := ⟨h.1, h.2, h.3, h.4, h.5⟩
theorem IsF.at {W : Wd} {tab : List ((Str × Str) × Bool)} {tyb : List ((Str × String) × Bool)} (h : IsF W tab tyb) (p : Addr × Obj) : IsF (W.at p) tab tyb := ⟨h.1, h.2⟩
end FL
/-! FL25: instances: fields, stores, methods, making. -/
namespace FL
open PySem PySem.Spec PyProof.Rows L2
/-! ### the fields of an instance -/
def putV (f : Str) (v : Val) : List (Str × Val) → List (Str × Val)
  | [] => [(f, v)]
  | (g, x) :: r => if g = f then (g, v) :: r else (g, x) :: putV f v r
section
variable {K : PySem.W.Frag} {ι : List Addr} {H : Hp} {f : Str}
abbrev FsR (K : PySem.W.Frag) (ι : List Addr) (H : Hp) : List (Str × Val) → List (Str × V) → Prop := Paired (fun (p : Str × Val) (q : Str × V) => p.1 = q.1 ∧ RV K ι H p.2 q.2)
theorem fs_some : ∀ {fs : List (Str × Val)} {gs : List (Str × V)} {x : Val}, FsR K ι H fs gs → fs.lookup f = some x → ∃ v, gs.lookup f = some v ∧ RV K ι H x v
  | _, _, _, .nil, h => by cases h
  | (g, y) :: fs, (g', v) :: gs, x, .cons ⟨e, r⟩ t, h => by
    cases e
    rw [List.lookup_cons] at h ⊢
    cases q : f == g with
    | true =>
      rw [q] at h
      cases h
      exact ⟨v, rfl, r⟩
    | false =>
      rw [q] at h
      exact fs_some t h
theorem fs_none : ∀ {fs : List (Str × Val)} {gs : List (Str × V)}, FsR K ι H fs gs → fs.lookup f = none → gs.lookup f = none
  | _, _, .nil, _ => rfl
  | (g, y) :: fs, (g', v) :: gs, .cons ⟨e, r⟩ t, h => by
    cases e
    rw [List.lookup_cons] at h ⊢
    cases q : f == g with
    | true => rw [q] at h; cases h
    | false =>
      rw [q] at h
      exact fs_none t h
theorem fs_len : ∀ {fs : List (Str × Val)} {gs : List (Str × V)}, FsR K ι H fs gs → fs.length = gs.length
  | _, _, .nil => rfl
  | _ :: _, _ :: _, .cons _ t => congrArg (· + 1) (fs_len t)
theorem fs_put {x : Val} {v : V} (r : RV K ι H x v) : ∀ {fs : List (Str × Val)} {gs : List (Str × V)}, FsR K ι H fs gs → FsR K ι H (putV f x fs) (putF f v gs)
  | _, _, .nil => .cons ⟨rfl, r⟩ .nil
  | (g, y) :: fs, (g', w) :: gs, .cons ⟨e, q⟩ t => by
    cases e
    unfold putV putF
    by_cases h : g = f
    · rw [if_pos h, if_pos h]
      exact .cons ⟨rfl, r⟩ t
    · rw [if_neg h, if_neg h]
      exact .cons ⟨rfl, q⟩ (fs_put r t)
end
section
variable {W : Wd} {k : Nat} {X : Cx} {Ew : WX} {ι ι' : List Addr} {H H' : Hp} {st : Sto} {a b e o : Expr} {es : List Expr} {ma mb me mo : FE} {mas : FA} {pos pos' : Pos} {m n : FS}
theorem Rel.ins {i : Nat} {x : Addr} {c : Str} {fs : List (Str × Val)} (r : Rel W ι H st) (h : st[i]? = some (.ins c fs)) (hx : ι[i]? = some x) : ∃ dx gs, H x = some (.ins (He.ga W.K c) dx gs) ∧ FsR W.K ι H fs gs := by
  obtain ⟨ho, h1, h2⟩ := r.ob i x _ hx h
  cases ho <;> first
    | exact h2.elim
    | (obtain ⟨h3, h4⟩ := h2
       subst h3
       exact ⟨_, _, h1, h4⟩)
/-- what the classes cs say of the name f -/
def ClsF (W : Wd) (cs : List Str) (f : Str) : Prop := ∀ c ∈ cs, Cls W.K (He.ga W.K c) ∧ NoAttr W.K (He.ga W.K c) f
theorem clsF_nil {f : Str} : ClsF W [] f := fun c h => (List.not_mem_nil h).elim
theorem clsF_cons {f c : Str} {cs : List Str} (h1 : Cls W.K (He.ga W.K c)) (h2 : NoAttr W.K (He.ga W.K c) f) (h : ClsF W cs f) : ClsF W (c :: cs) f := fun d hd => (List.mem_cons.mp hd).elim (fun e => e ▸ ⟨h1, h2⟩) (h d)
/-- o.f -/
def gFld (cs : List Str) (f : Str) (x : Val) (st : Sto) : Option (Val × Sto) := match x with
  | .ref i => (match st[i]? with
    | some (.ins c fs) => if c ∈ cs then (fs.lookup f).map fun v => (v, st) else none
    | _ => none)
  | _ => none
def fFld (cs : List Str) (f : Str) (mo : FE) : FE := bnd mo fun x => lft (gFld cs f x)
theorem gFld_some {cs : List Str} {f : Str} {x v : Val} {st' : Sto} (h : gFld cs f x st = some (v, st')) : ∃ i c fs, x = .ref i ∧ st[i]? = some (.ins c fs) ∧ c ∈ cs ∧ fs.lookup f = some v ∧ st' = st := by
  unfold gFld at h
  split at h
  · split at h
    · rename_i i c fs h1
      split at h
      · rename_i h2
        obtain ⟨v', h3, h4⟩ := Option.map_eq_some_iff.mp h
        cases h4
        exact ⟨_, _, _, rfl, h1, h2, h3, rfl⟩
      · cases h
    · cases h
  · cases h
theorem se_fld {f : Str} {cs : List Str} (C : Ctx0 W k X Ew) (F : ClsF W cs f) (ho : SE W X Ew o mo) (hb : attributeBase o f X.env (eval o X.env) = eval o X.env := by rfl) : SE W X Ew (.Attribute o f pos) (fFld cs f mo) :=
  imE (pe_fld ho hb) fun σ H Q ⟨ι, sl, st, r, hs, hr, hm, hq⟩ => run hs hr hm hq fun x st1 ι1 H1 vx e1 s1 r1 rx hm1 hq1 => by
    obtain ⟨v, st2, h1, rfl⟩ := lft_some hm1
    obtain ⟨i, c, fs, rfl, h2, h3, h4, rfl⟩ := gFld_some h1
    cases rx with
    | @ref _ p h5 =>
      obtain ⟨dx, gs, h6, h7⟩ := r1.ins h2 h5
      obtain ⟨u, h8, h9⟩ := fs_some h7 h4
      rw [C.eK]
      exact ⟨p, _, dx, gs, u, rfl, h6, (F c h3).1, (F c h3).2, h8, hq1 ι1 H1 u (Ext.refl _ _) r1 h9⟩
/-- a store to o.f -/
def setFld (cs : List Str) (f : Str) (x v : Val) (st : Sto) : Option Sto := match x with
  | .ref i => (match st[i]? with
    | some (.ins c fs) => if c ∈ cs ∧ fs.length < 1000 then some (st.set i (.ins c (putV f v fs))) else none
    | _ => none)
  | _ => none
theorem setFld_some {cs : List Str} {f : Str} {x v : Val} {st' : Sto} (h : setFld cs f x v st = some st') : ∃ i c fs, x = .ref i ∧ st[i]? = some (.ins c fs) ∧ c ∈ cs ∧ fs.length < 1000 ∧ st' = st.set i (.ins c (putV f v fs)) := by
  unfold setFld at h
  split at h
  · split at h
    · rename_i i c fs h1
      split at h
      · rename_i h2
        cases h
        exact ⟨_, _, _, rfl, h1, h2.1, h2.2, rfl⟩
      · cases h
    · cases h
  · cases h
/-- the heap behind it -/
theorem put_fld {i : Nat} {p dx : Addr} {c f : Str} {fs : List (Str × Val)} {gs : List (Str × V)} {v : Val} {u : V} (r : Rel W ι H st) (h1 : ι[i]? = some p) (h2 : st[i]? = some (.ins c fs)) (h3 : FsR W.K ι H fs gs) (h4 : RV W.K ι H v u) :
    Ext ι H ι (upd H p (.ins (He.ga W.K c) dx (putF f u gs))) ∧ Rel W ι (upd H p (.ins (He.ga W.K c) dx (putF f u gs))) (st.set i (.ins c (putV f v fs))) :=
  ⟨Ext.put r h1 h2, r.put h1 h2 (show RO W ι H (.ins c (putV f v fs)) (.ins (He.ga W.K c) dx (putF f u gs)) from ⟨rfl, fs_put h4 h3⟩)⟩
def gFldT (cs : List Str) (f : Str) (mo : FE) : FG := fun v sl st => match mo sl st with
  | some (.ok x st1) => (match setFld cs f x v st1 with
    | some st2 => some (sl, st2)
    | none => none)
  | _ => none
def tFldT (K : PySem.W.Frag) (to : TE) (f : Str) : TG := fun y σ H Q => to σ H fun x H2 => ∃ a C dx fs, x = .ref a ∧ H2 a = some (.ins C dx fs) ∧ Cls K C ∧ NoAttr K C f ∧ fs.length < 1000 ∧ Q σ (upd H2 a (.ins C dx (putF f y fs)))
theorem pg_fld {f : Str} {to : TE} (ho : PE X o to) : PG X (.Attribute o f pos) (tFldT X.K to f) := by
  refine ⟨fun pins s σ H v u Q Iv r h => ?_⟩
  rw [arm_assign_Attribute]
  refine wpAny_bind (wpAny_holding (thn (ho.run pins s σ H _ Iv h) fun ov sq ⟨x, Hq, Iq, rel, a, C, dx, fs, e1, e2, c, nn, l, q⟩ => ?_))
  subst e1
  obtain rfl : ov = Value.ref a := rel
  exact wpAny_bind (wpAny_standAt (wpAny_bind (wpAny_holding (setattr_ok Iq e2 c nn l r fun sr Ir => wpAny_release ⟨σ, _, Ir, q⟩))))
theorem sg_fld {f : Str} {cs : List Str} (C : Ctx0 W k X Ew) (F : ClsF W cs f) (ho : SE W X Ew o mo) : SG W X (.Attribute o f pos) (gFldT cs f mo) :=
  imG (pg_fld ho) fun v σ H Q ⟨ι, sl, st, x, sl', st', hs, hr, hx, hm, hq⟩ => by
    unfold gFldT at hm
    split at hm
    case h_2 => cases hm
    rename_i y st1 h1
    refine ⟨ι, sl, st, _, hs, hr, h1, fun ι1 H1 vo e1 r1 ro => ?_⟩
    split at hm
    case h_2 => cases hm
    rename_i st2 h2
    cases hm
    obtain ⟨i, c, fs, rfl, h3, h4, h5, rfl⟩ := setFld_some h2
    cases ro with
    | @ref _ p h6 =>
      obtain ⟨dx, gs, h7, h8⟩ := r1.ins h3 h6
      obtain ⟨e2, r2⟩ := put_fld (f := f) (dx := dx) r1 h6 h3 h8 (hx.mono e1)
      rw [C.eK]
      exact ⟨p, _, dx, gs, rfl, h7, (F c h4).1, (F c h4).2, by rw [← fs_len h8]; exact h5, hq ι1 _ σ (e1.trans e2) r2 ((hs.mono e1).mono e2)⟩
def fFldSet (cs : List Str) (f : Str) (mo mv : FE) : FS := fAsg mv (gFldT cs f mo)
theorem ss_fld {f : Str} {cs : List Str} (C : Ctx0 W k X Ew) (F : ClsF W cs f) (ho : SE W X Ew o mo) (ha : SE W X Ew a ma) (h1 : swapsWithSole [.Attribute o f pos'] a pos.line X.env = pure false := by rfl) (h2 : swappedStores [.Attribute o f pos'] a X.env = pure none := by rfl) (h3 : (assignEach [.Attribute o f pos'] X.env).map (·.2) = [assign (.Attribute o f pos') X.env] := by rfl) :
    SS W X Ew (.Assign [.Attribute o f pos'] a pos) (fFldSet cs f mo ma) := ss_asg ha (sg_fld C F ho) h1 h2 h3
/-- o.f op= e -/
def rin (W : Wd) (f : O2) : V → V → Hp → VK → Prop := fun x y H Q => ro W f x y H Q
def fFldAug (cs : List Str) (f : Str) (op : O2) (mo mv : FE) : FS := bndS mo fun x => bndS (lft (gFld cs f x)) fun v => bndS mv fun y => bndS (lft (op v y)) fun z => fun sl st => match setFld cs f x z st with
  | some st' => some (.nx sl st')
  | none => none
theorem ss_fldaug {f c0 : Str} {op : Operator} {g : O2} (C : Ctx0 W k X Ew) (F : ClsF W [c0] f) (ho : SE W X Ew o mo) (ha : SE W X Ew a ma) (hop : InOp X op (rin W g)) : SS W X Ew (.AugAssign (.Attribute o f pos') op a pos) (fFldAug [c0] f g mo ma) :=
  imS (ps_fldaug ho ha hop) fun D σ H ⟨ι, sl, st, r, hs, hr, hm, hq⟩ => runS hs hr hm hq fun x st1 ι1 H1 vx e1 s1 r1 rx hm1 hq1 => by
    have hm1' : bndS (lft (gFld [c0] f x)) (fun v => bndS ma fun y => bndS (lft (g v y)) fun z => fun sl st => match setFld [c0] f x z st with
      | some st' => some (.nx sl st')
      | none => none) sl st1 = some r := hm1
    unfold bndS at hm1'
    cases h1 : lft (gFld [c0] f x) sl st1 with
    | none => rw [h1] at hm1'; cases hm1'
    | some r0 =>
      rw [h1] at hm1'
      obtain ⟨v, st1', h2, rfl⟩ := lft_some h1
      obtain ⟨i, c, fs, rfl, h3, h4, h5, rfl⟩ := gFld_some h2
      have hm2 : bndS ma (fun y => bndS (lft (g v y)) fun z => fun sl st => match setFld [c0] f (.ref i) z st with
        | some st' => some (.nx sl st')
        | none => none) sl st1' = some r := hm1'
      cases rx with
      | @ref _ p h6 =>
        obtain ⟨dx, gs, h7, h8⟩ := r1.ins h3 h6
        obtain ⟨u, h9, h10⟩ := fs_some h8 h5
        rw [C.eK]
        refine ⟨p, _, dx, gs, u, rfl, h7, (F c h4).1, (F c h4).2, h9, ?_⟩
        refine runS s1 r1 hm2 hq1 fun y st2 ι2 H2 vy e2 s2 r2 ry hm3 hq2 => ?_
        have hm3' : bndS (lft (g v y)) (fun z => fun sl st => match setFld [c0] f (.ref i) z st with
          | some st' => some (.nx sl st')
          | none => none) sl st2 = some r := hm3
        unfold bndS at hm3'
        cases h11 : lft (g v y) sl st2 with
        | none => rw [h11] at hm3'; cases hm3'
        | some r9 =>
          rw [h11] at hm3'
          obtain ⟨z, st3, h12, rfl⟩ := lft_some h11
          have hm4 : (match setFld [c0] f (.ref i) z st3 with | some st' => some (RS.nx sl st') | none => none) = some r := hm3'
          cases h13 : setFld [c0] f (.ref i) z st3 with
          | none => rw [h13] at hm4; cases hm4
          | some st4 =>
            rw [h13] at hm4
            cases hm4
            obtain ⟨i', c', fs', e9, h14, h15, h16, rfl⟩ := setFld_some h13
            cases e9
            refine ⟨ι2, st2, v, y, z, st3, h10.mono e2, ry, r2, h12, fun ι3 H3 uz e3 r3 rz => ?_⟩
            have h6' := e3.pre _ _ (e2.pre _ _ h6)
            obtain ⟨dx', gs', h17, h18⟩ := r3.ins h14 h6'
            have e8 : c' = c := by rw [List.mem_singleton.mp h15, List.mem_singleton.mp h4]
            subst e8
            obtain ⟨e4, r4⟩ := put_fld (f := f) (dx := dx') r3 h6' h14 h18 rz
            exact ⟨dx', gs', h17, by rw [← fs_len h18]; exact h16, hq2 ι3 _ σ (e3.trans e4) r4 ((s2.mono e3).mono e4)⟩
theorem in_by {op : Operator} {rd : V → V → Hp → VK → Prop} (h : ∀ x y H Q, rd x y H Q → ∃ r, InOp X op r ∧ r x y H Q) : InOp X op rd := fun pins s σ H x y u v Q Iv rx ry hw =>
  let ⟨_, h1, h2⟩ := h x y H Q hw
  h1 pins s σ H x y u v Q Iv rx ry h2
theorem in_addF : InOp X .Add (rin W fIAdd) := in_by fun x y H Q ⟨ι, st, a, b, v, st', rx, ry, hr, hf, hq⟩ => by
  unfold fIAdd at hf
  split at hf
  · cases hf
    cases rx
    cases ry
    exact ⟨_, in_add, _, _, rfl, rfl, hq.here hr (.int _)⟩
  · rename_i s t
    split at hf
    · rename_i hl
      cases hf
      cases rx
      cases ry
      refine ⟨_, in_addS, St' s, St' t, rfl, rfl, by rw [st_len, st_len, ← line_eq]; exact hl, ?_⟩
      have e : St' s ++ St' t = St' (s ++ t) := congrArg Str.mk (by simp)
      rw [e]
      exact hq.here hr (.str _)
    · cases hf
  · cases hf
/-! ### methods -/
/-- the method m of the class c -/
structure CalleeM (W : Wd) (c m : Str) (k : Nat) (F : FF) : Prop where
  cl : Cls W.K (He.ga W.K c)
  ex : ∃ (f : Addr) (fd : FuncData) (ps : List Str), Meth W.K (He.ga W.K c) m f ∧ Binds W.K fd ps [] ∧ FnOk W.P W.w W.K W.mg W.base (L2N.CX W.P W.w) k f fd ps (spOf W F)
/-- a method of c stands there as the text st -/
structure HasM (W : Wd) (c m qual : Str) (st : Stmt) : Prop where
  cl : Cls W.K (He.ga W.K c)
  ex : ∃ (f : Addr) (fd : FuncData), Meth W.K (He.ga W.K c) m f ∧ Fun W.K m qual st f fd
theorem calleeM {c m' qual : Str} {st : Stmt} {N ps : List Str} (hh : HasM W c m' qual st) (S : FnScope N ps (defScope st))
    (hb : ∀ (kV doc pm : Value) (an : Option Addr) (cdv ct : Value) (us : List Value), us.length = ps.length → bindArgs (PySem.W.fnOf m' qual (defArgs st) (defBody st) (defScope st) .none kV doc pm an cdv ct) ⟨us, []⟩ = pure (ps.zip us))
    (hbody : ∀ (f : Addr) (cdv : Value) (A : Around) (outer : List PySem.Env) (s : Shared) (H : Hp) (E : XK), Ctx W k (bX W N qual st f cdv A outer s H E) (fun c d _ H => E c d H) → SSs W (bX W N qual st f cdv A outer s H E) (fun c d _ H => E c d H) (defBody st) m) :
    CalleeM W c m' (k + 1) (runF ps.length N.length m) := by
  obtain ⟨f, fd, h1, h2⟩ := hh.ex
  exact ⟨hh.cl, f, fd, ps, h1, h2.binds hb, fn_snd h2 S (hbody f)⟩
theorem calleeM0 {c m' qual : Str} {st : Stmt} {ps : List Str} (hh : HasM W c m' qual st)
    (hb : ∀ (kV doc pm : Value) (an : Option Addr) (cdv ct : Value) (us : List Value), us.length = ps.length → bindArgs (PySem.W.fnOf m' qual (defArgs st) (defBody st) (defScope st) .none kV doc pm an cdv ct) ⟨us, []⟩ = pure (ps.zip us)) : CalleeM W c m' k (fun _ _ => none) := by
  obtain ⟨f, fd, h1, h2⟩ := hh.ex
  have no : ∀ vs H Q E, spOf W (fun _ _ => none) vs H Q E → False := fun vs H Q E z => by
    obtain ⟨_, _, _, _, _, _, h, _⟩ := z
    cases h
  exact ⟨hh.cl, f, fd, ps, h1, h2.binds hb, ⟨fun vs H Q E z => (no vs H Q E z).elim, fun A outer s H args us vs Q E hr he hb hv z => (no vs H Q E z).elim⟩⟩
/-- o.m(..): the instance, whether it is of the class, then what is handed in -/
def isInst (c m : Str) (x : Val) : FX Unit := fun _ st => match x with
  | .ref i => (match st[i]? with
    | some (.ins c' fs) => if c' = c ∧ fs.lookup m = none then some (.ok () st) else none
    | _ => none)
  | _ => none
def fMeth (c m : Str) (F : FF) (mo : FE) (mas : FA) : FE := bnd mo fun x => bnd (isInst c m x) fun _ => bnd mas fun xs => fun _ st => F (x :: xs) st
theorem isInst_some {c m : Str} {x : Val} {sl : Sl} {st : Sto} {r : R Unit} (h : isInst c m x sl st = some r) : ∃ i fs, x = .ref i ∧ st[i]? = some (.ins c fs) ∧ fs.lookup m = none ∧ r = .ok () st := by
  unfold isInst at h
  split at h
  · split at h
    · rename_i i c' fs h1
      split at h
      · rename_i h2
        cases h
        obtain ⟨rfl, h3⟩ := h2
        exact ⟨_, _, rfl, h1, h3, rfl⟩
      · cases h
    · cases h
  · cases h
section
variable {CX : CXT} {f C0 : Addr} {fd : FuncData} {ps : List Str} {sp : Sp} {E : L2.St → XK} {x m' : Str} {apos : Pos} {ta : TE} {t : TA}
theorem pe_methS {pl : Sem Bool} (he : PE X o ta) (c : Cls X.K C0) (hm : Meth X.K C0 m' f) (F : FnOk X.prog X.w X.K X.mg X.base CX k f fd ps sp) (hr : Room k X.A) (hb : Binds X.K fd ps []) (hx : ∀ σ, PassesAt CX X σ (E σ)) (ha : PA X (e :: es) t)
    (hst : starEach (e :: es) X.env = (false, eval e X.env) :: starEach es X.env := by rfl) (hpl : (backTo pos (starEach es X.env)).any (·.1) = false := by rfl)
    (ht : eval (.Call (.Attribute o m' apos) (e :: es) [] pos) X.env = (do
      let ov ← eval o X.env
      standAt apos.atName
      let (f, first) ← holding [ov] (getMethod ov m' pl)
      callWith pos f first (backTo pos (starEach (e :: es) X.env)) (backToKw pos (keywordEach [] X.env))) := by rfl) :
    PE X (.Call (.Attribute o m' apos) (e :: es) [] pos) (tMethP C0 m' sp E ta t) := by
  refine ⟨fun pins s σ H Q Iv h => PySem.W.methodCall_KW (pl := pl) (thn (he.run pins s σ H _ Iv h) fun u sq ⟨x, Hq, Iq, rel, a, dx, fs, ex, e2, l, q⟩ => ?_) ht⟩
  subst ex
  obtain rfl : u = Value.ref a := rel
  refine getmeth_ok Iq e2 c hm l (PySem.W.callWith_K (first := [.ref a]) (h₀ := X.base) Iq.ok.mod.kin hm.kp (thn (ha.run pos pins sq σ Hq _ Iq q) fun us sr ⟨vs, Hr, Ir, r, qr⟩ => ⟨Ir.kIn, ?_⟩) hst hpl)
  exact run_fnS (us := .ref a :: us) (vs := .ref a :: vs) F hr hb (hx σ) Ir (.cons rfl r) qr
theorem pe_methS0 {pl : Sem Bool} (he : PE X o ta) (c : Cls X.K C0) (hm : Meth X.K C0 m' f) (F : FnOk X.prog X.w X.K X.mg X.base CX k f fd ps sp) (hr : Room k X.A) (hb : Binds X.K fd ps []) (hx : ∀ σ, PassesAt CX X σ (E σ))
    (ht : eval (.Call (.Attribute o m' apos) [] [] pos) X.env = (do
      let ov ← eval o X.env
      standAt apos.atName
      let (f, first) ← holding [ov] (getMethod ov m' pl)
      callWith pos f first (backTo pos (starEach [] X.env)) (backToKw pos (keywordEach [] X.env))) := by rfl) :
    PE X (.Call (.Attribute o m' apos) [] [] pos) (tMethP C0 m' sp E ta tNil) := by
  refine ⟨fun pins s σ H Q Iv h => PySem.W.methodCall_KW (pl := pl) (thn (he.run pins s σ H _ Iv h) fun u sq ⟨x, Hq, Iq, rel, a, dx, fs, ex, e2, l, q⟩ => ?_) ht⟩
  subst ex
  obtain rfl : u = Value.ref a := rel
  exact getmeth_ok Iq e2 c hm l (PySem.W.callWith_K0 (first := [.ref a]) Iq.kIn hm.kp (run_fnS (us := [.ref a]) (vs := [.ref a]) F hr hb (hx σ) Iq (.cons rfl .nil) q))
end
/-- what a method's reading asks, from its plain function -/
theorem meth_imp {c m' : Str} {F : FF} {es' : List Expr} {σ : L2.St} {H : Hp} {Q : VK} (h : teOf W Ew (fMeth c m' F mo mas) σ H Q) : tMethP (He.ga W.K c) m' (spOf W F) (fun σ => WE Ew σ) (teOf W Ew mo) (taOf W Ew mas) σ H Q := by
  obtain ⟨ι, sl, st, r, hs, hr, hm, hq⟩ := h
  refine run hs hr hm hq fun x st1 ι1 H1 vx e1 s1 r1 rx hm1 hq1 => ?_
  have hm1' : bnd (isInst c m' x) (fun _ => bnd mas fun xs => fun _ st => F (x :: xs) st) sl st1 = some r := hm1
  unfold bnd at hm1'
  cases h1 : isInst c m' x sl st1 with
  | none => rw [h1] at hm1'; cases hm1'
  | some r0 =>
    rw [h1] at hm1'
    obtain ⟨i, fs, rfl, h2, h3, rfl⟩ := isInst_some h1
    have hm2 : bnd mas (fun xs => fun _ st => F (.ref i :: xs) st) sl st1 = some r := hm1'
    cases rx with
    | @ref _ p h4 =>
      obtain ⟨dx, gs, h5, h6⟩ := r1.ins h2 h4
      refine ⟨p, dx, gs, rfl, h5, fs_none h6 h3, run s1 r1 hm2 hq1 fun xs st2 ι2 H2 vs e2 s2 r2 rxs hm3 hq2 => ?_⟩
      exact ⟨ι2, st2, .ref i :: xs, r, .cons (.ref (e2.pre _ _ h4)) rxs, r2, hm3, hq2⟩
theorem se_meth {c m' : Str} {apos : Pos} {j : Nat} {F : FF} {pl : Sem Bool} (C : Ctx W k X Ew) (G : CalleeM W c m' j F) (hj : j ≤ k) (ho : SE W X Ew o mo) (ha : SA W X Ew (e :: es) mas)
    (hst : starEach (e :: es) X.env = (false, eval e X.env) :: starEach es X.env := by rfl) (hpl : (backTo pos (starEach es X.env)).any (·.1) = false := by rfl)
    (ht : eval (.Call (.Attribute o m' apos) (e :: es) [] pos) X.env = (do
      let ov ← eval o X.env
      standAt apos.atName
      let (f, first) ← holding [ov] (getMethod ov m' pl)
      callWith pos f first (backTo pos (starEach (e :: es) X.env)) (backToKw pos (keywordEach [] X.env))) := by rfl) :
    SE W X Ew (.Call (.Attribute o m' apos) (e :: es) [] pos) (fMeth c m' F mo mas) := by
  obtain ⟨f, fd, ps, g1, g2, g3⟩ := G.ex
  have g5 : FnOk X.prog X.w X.K X.mg X.base (L2N.CX X.prog X.w) j f fd ps (spOf W F) := by
    rw [C.eP, C.ew, C.eK, C.em, C.eb]
    exact g3
  exact imE (pe_methS ho (by rw [C.eK]; exact G.cl) (by rw [C.eK]; exact g1) g5 (C.rm.mono hj) (by rw [C.eK]; exact g2) (fun σ => L2N.passAt C.tk σ) ha hst hpl ht) fun σ H Q h => meth_imp (es' := es) h
theorem se_meth0 {c m' : Str} {apos : Pos} {j : Nat} {F : FF} {pl : Sem Bool} (C : Ctx W k X Ew) (G : CalleeM W c m' j F) (hj : j ≤ k) (ho : SE W X Ew o mo)
    (ht : eval (.Call (.Attribute o m' apos) [] [] pos) X.env = (do
      let ov ← eval o X.env
      standAt apos.atName
      let (f, first) ← holding [ov] (getMethod ov m' pl)
      callWith pos f first (backTo pos (starEach [] X.env)) (backToKw pos (keywordEach [] X.env))) := by rfl) :
    SE W X Ew (.Call (.Attribute o m' apos) [] [] pos) (fMeth c m' F mo fNil) := by
  obtain ⟨f, fd, ps, g1, g2, g3⟩ := G.ex
  have g5 : FnOk X.prog X.w X.K X.mg X.base (L2N.CX X.prog X.w) j f fd ps (spOf W F) := by
    rw [C.eP, C.ew, C.eK, C.em, C.eb]
    exact g3
  refine imE (pe_methS0 ho (by rw [C.eK]; exact G.cl) (by rw [C.eK]; exact g1) g5 (C.rm.mono hj) (by rw [C.eK]; exact g2) (fun σ => L2N.passAt C.tk σ) ht) fun σ H Q h => ?_
  obtain ⟨ι, sl, st, r, h1, h2, h3, h4⟩ := meth_imp (es' := []) h
  refine ⟨ι, sl, st, r, h1, h2, h3, ?_⟩
  cases r with
  | ok a st' =>
    intro ι' H' b e r2 ra
    obtain ⟨p, dx, fs, e1, e2, e3, ι2, sl2, st2, r0, q1, q2, q3, q4⟩ := h4 ι' H' b e r2 ra
    cases q3
    exact ⟨p, dx, fs, e1, e2, e3, q4 ι2 H' [] (Ext.refl _ _) q2 .nil⟩
  | ex c st' => exact h4
/-! ### making an instance -/
structure CalleeI (W : Wd) (c : Str) (k : Nat) (F : FF) : Prop where
  ex : ∃ (f : Addr) (fd : FuncData) (ps : List Str), W.mg c = some (.ref (He.ga W.K c)) ∧ Mk W.K (He.ga W.K c) f ∧ Binds W.K fd ps [] ∧ FnOk W.P W.w W.K W.mg W.base (L2N.CX W.P W.w) k f fd ps (spOf W F)
structure HasI (W : Wd) (c qual : Str) (st : Stmt) : Prop where
  ex : ∃ (f : Addr) (fd : FuncData), W.mg c = some (.ref (He.ga W.K c)) ∧ Mk W.K (He.ga W.K c) f ∧ Fun W.K "__init__" qual st f fd
theorem calleeI {c qual : Str} {st : Stmt} {N ps : List Str} (hh : HasI W c qual st) (S : FnScope N ps (defScope st))
    (hb : ∀ (kV doc pm : Value) (an : Option Addr) (cdv ct : Value) (us : List Value), us.length = ps.length → bindArgs (PySem.W.fnOf "__init__" qual (defArgs st) (defBody st) (defScope st) .none kV doc pm an cdv ct) ⟨us, []⟩ = pure (ps.zip us))
    (hbody : ∀ (f : Addr) (cdv : Value) (A : Around) (outer : List PySem.Env) (s : Shared) (H : Hp) (E : XK), Ctx W k (bX W N qual st f cdv A outer s H E) (fun c d _ H => E c d H) → SSs W (bX W N qual st f cdv A outer s H E) (fun c d _ H => E c d H) (defBody st) m) :
    CalleeI W c (k + 1) (runF ps.length N.length m) := by
  obtain ⟨f, fd, h1, h2, h3⟩ := hh.ex
  exact ⟨f, fd, ps, h1, h2, h3.binds hb, fn_snd h3 S (hbody f)⟩
def mkRes (n : Nat) : Option (R Val) → Option (R Val)
  | some (.ok .non st') => some (.ok (.ref n) st')
  | _ => none
def fMake (c : Str) (F : FF) (mas : FA) : FE := bnd mas fun xs => fun _ st => mkRes st.length (F (.ref st.length :: xs) (st ++ [.ins c []]))
theorem passN {P : Program} {w : World} : Passes (L2N.CX P w) X (fun _ _ _ => False) := fun _ _ _ _ _ _ _ ⟨_, _, _, _, _, _, _, _, _, _, _, _, z⟩ => z.elim
theorem make_sp {c : Str} {F : FF} {xs : List Val} {vs : List V} {r : R Val} {Q : VK} {E : XK} (hr : Rel W ι H st) (rx : RVs W.K ι H xs vs) (hm : mkRes st.length (F (.ref st.length :: xs) (st ++ [.ins c []])) = some r) (hq : Pst W (fun ι H => RV W.K ι H) ι H r Q E)
    {x dx : Addr} (nx : H x = none) (nd : H dx = none) (ne : dx ≠ x) : spOf W F (.ref x :: vs) (upd (upd H dx (.own x)) x (.ins (He.ga W.K c) dx [])) (fun v H2 => v = .non ∧ Q (.ref x) H2) (fun _ _ _ => False) := by
  have e1 : Ext ι H ι (upd H dx (.own x)) := Ext.newX nd
  have r1 : Rel W ι (upd H dx (.own x)) st := hr.newO nd
  have nx1 : (upd H dx (.own x)) x = none := by rw [upd_ne (Ne.symm ne)]; exact nx
  have e2 : Ext ι (upd H dx (.own x)) (ι ++ [x]) (upd (upd H dx (.own x)) x (.ins (He.ga W.K c) dx [])) := Ext.new nx1
  have r2 : Rel W (ι ++ [x]) (upd (upd H dx (.own x)) x (.ins (He.ga W.K c) dx [])) (st ++ [.ins c []]) := r1.new nx1 (show RO W ι (upd H dx (.own x)) (.ins c []) (.ins (He.ga W.K c) dx []) from ⟨rfl, .nil⟩)
  have hx : (ι ++ [x])[st.length]? = some x := by rw [← hr.len]; simp
  unfold mkRes at hm
  split at hm
  · rename_i st' h1
    cases hm
    refine ⟨_, _, _, _, .cons (.ref hx) (rx.mono (e1.trans e2)), r2, h1, fun ι' H' v e r3 rv => ?_⟩
    cases rv
    exact ⟨rfl, hq ι' H' _ ((e1.trans e2).trans e) r3 (.ref (e.pre _ _ hx))⟩
  · cases hm
theorem se_make {c : Str} {p : Pos} {j : Nat} {F : FF} (C : Ctx W k X Ew) (G : CalleeI W c j F) (hj : j + 1 ≤ k) (ha : SA W X Ew (e :: es) mas) (hg : Gl X c := by rfl) (hd : (c == ("__debug__" : Str)) = false := by decide)
    (h1 : starEach (e :: es) X.env = (false, eval e X.env) :: starEach es X.env := by rfl) (h2 : (backTo pos (starEach es X.env)).any (·.1) = false := by rfl) : SE W X Ew (.Call (.Name c p) (e :: es) [] pos) (fMake c F mas) := by
  obtain ⟨f, fd, ps, g1, g2, g3, g4⟩ := G.ex
  have g5 : FnOk X.prog X.w X.K X.mg X.base (L2N.CX X.prog X.w) j f fd ps (spOf W F) := by
    rw [C.eP, C.ew, C.eK, C.em, C.eb]
    exact g4
  refine imE (pe_make (dvs := []) (ds := []) (E := fun _ _ _ => False) (by rw [C.eK]; exact g2) g5 (C.rm.mono hj) hg (by rw [C.em]; exact g1) (by rw [C.eK]; exact g3) .nil passN ha hd h1 h2) fun σ H Q ⟨ι, sl, st, r, hs, hr, hm, hq⟩ => run hs hr hm hq fun xs st1 ι1 H1 vs e1 s1 r1 rx hm1 hq1 => ?_
  intro x dx nx nd ne
  rw [List.append_nil]
  exact make_sp r1 rx hm1 hq1 nx nd ne
theorem se_make0 {c : Str} {p : Pos} {j : Nat} {F : FF} (C : Ctx W k X Ew) (G : CalleeI W c j F) (hj : j + 1 ≤ k) (hg : Gl X c := by rfl) (hd : (c == ("__debug__" : Str)) = false := by decide) : SE W X Ew (.Call (.Name c p) [] [] pos) (fMake c F fNil) := by
  obtain ⟨f, fd, ps, g1, g2, g3, g4⟩ := G.ex
  have g5 : FnOk X.prog X.w X.K X.mg X.base (L2N.CX X.prog X.w) j f fd ps (spOf W F) := by
    rw [C.eP, C.ew, C.eK, C.em, C.eb]
    exact g4
  refine imE (pe_make0 (dvs := []) (ds := []) (E := fun _ _ _ => False) (by rw [C.eK]; exact g2) g5 (C.rm.mono hj) hg (by rw [C.em]; exact g1) (by rw [C.eK]; exact g3) .nil passN hd) fun σ H Q ⟨ι, sl, st, r, hs, hr, hm, hq⟩ => ?_
  intro x dx nx nd ne
  exact make_sp (xs := []) hr .nil hm hq nx nd ne
end
end FL
/-! FL26: sum of whole numbers, what is met on the way to k02, k71. -/
namespace FL
open PySem PySem.Spec PyProof.Rows L2
section
variable {W : Wd} {k : Nat} {X : Cx} {Ew : WX} {ι : List Addr} {H : Hp} {st : Sto}
/-! ### sum of whole numbers -/
def fSumL : ON := oneR fun p st => match st[p]? with
  | some (.lst xs) => (mapO (fun v => match v with | .int i => some i | _ => none) xs).map fun ns => (.int ns.sum, st)
  | _ => none
theorem call_sumLF (C : Ctx0 W k X Ew) (hc : X.calm = true) : CallR X (.builtin "sum") (rc W fSumL) := callBy fun xs H Q ⟨ι, st, as, v, st', rx, hr, hf, hq⟩ => by
  obtain ⟨i, p, rfl, rfl, h0, h1⟩ := one_ref rx hf
  split at h1
  · rename_i ys h5
    obtain ⟨ns, h2, h3⟩ := Option.map_eq_some_iff.mp h1
    cases h3
    have := mapO_int h2
    subst this
    obtain ⟨vs, h6, h7⟩ := hr.lst h5 h0
    rw [RVs.ofInts ns h7] at h6
    exact ⟨_, cr_sum hc, p, ns, rfl, SqL.of h6, hq.here hr (.int _)⟩
  · cases h1
end
end FL
/-! FL27: sorted of a dict's keys, ends of texts, a field made less. -/
namespace FL
open PySem PySem.Spec PyProof.Rows L2
section
variable {W : Wd} {k : Nat} {X : Cx} {Ew : WX} {ι : List Addr} {H : Hp} {st : Sto}
def keysO : List (Key × Val) → Option (List Str) := mapO fun p => match p.1 with
  | .inr x => some x
  | _ => none
def srtK (l : List Str) : List Str := l.mergeSort fun e f => !FLS.ltS f e
theorem srtK_perm (l : List Str) : (srtK l).Perm l := List.mergeSort_perm _ _
theorem srtK_sorted (l : List Str) : (srtK l).Pairwise fun e f => FLS.ltS f e = false := by
  have h := List.pairwise_mergeSort (le := fun e f : Str => !FLS.ltS f e) (fun a b c h1 h2 => by
    have h1 : FLS.ltS b a = false := by simpa using h1
    have h2 : FLS.ltS c b = false := by simpa using h2
    have a1 := of_decide_eq_false h1
    have a2 := of_decide_eq_false h2
    have : FLS.ltS c a = false := by
      refine decide_eq_false ?_
      rw [List.not_lt] at *
      exact List.le_trans a1 a2
    simpa using this) (fun a b => by
    cases h : FLS.ltS b a with
    | false => simp
    | true =>
      have : FLS.ltS a b = false := decide_eq_false (List.lt_asymm (of_decide_eq_true h))
      simp [this]) l
  exact h.imp fun z => by simpa using z
theorem srtK_uniq {l m : List Str} (h1 : m.Perm l) (h2 : m.Pairwise fun e f => FLS.ltS f e = false) : m = srtK l :=
  List.Perm.eq_of_pairwise (le := fun e f : Str => FLS.ltS f e = false) (fun a b ha hb x y => by
    have x := of_decide_eq_false x
    have y := of_decide_eq_false y
    rw [List.not_lt] at x y
    exact FLS.str_ext (List.le_antisymm x y)) h2 (srtK_sorted l) (h1.trans (srtK_perm l).symm)
theorem ltS_cps (x y : Str) : ltCps x.cps.toList y.cps.toList = FLS.ltS x y := ltCps_eq _ _
theorem rising_pw : ∀ {l : List Str} {p : Str}, risingS p l = true → (p :: l).Pairwise fun e f => FLS.ltS f e = false
  | [], p, _ => List.pairwise_singleton _ _
  | x :: r, p, h => by
    have h2 : (!ltCps x.cps.toList p.cps.toList && risingS x r) = true := h
    rw [Bool.and_eq_true] at h2
    obtain ⟨h3, h4⟩ := h2
    rw [ltS_cps] at h3
    have h5 : FLS.ltS x p = false := by simpa using h3
    have ih := rising_pw h4
    refine List.pairwise_cons.mpr ⟨fun y hy => ?_, ih⟩
    rcases List.mem_cons.mp hy with e | e
    · rw [e]; exact h5
    · have h6 := (List.pairwise_cons.mp ih).1 y e
      have a1 := of_decide_eq_false h5
      have a2 := of_decide_eq_false h6
      refine decide_eq_false ?_
      rw [List.not_lt] at *
      exact List.le_trans a1 a2
theorem sorted_pw {l : List Str} (h : sortedS l = true) : l.Pairwise fun e f => FLS.ltS f e = false := by
  cases l with
  | nil => exact .nil
  | cons x r => exact rising_pw h
/-- sorted(d), the keys texts -/
def fSortD : ON := oneR fun p st => match st[p]? with
  | some (.dic kvs) => (keysO kvs).bind fun ks => if ks.length < 64 then some (.ref st.length, st ++ [.lst ((srtK ks).map fun z => Val.str z.cps.toList)]) else none
  | _ => none
theorem keysO_V : ∀ {kvs : List (Key × Val)} {ks : List Str} {ms : List (Key × V)}, keysO kvs = some ks → DP W.K ι H kvs ms → ms.map (·.1) = ks.map Sum.inr
  | [], ks, ms, h, d => by
    cases h
    cases d
    rfl
  | p :: r, ks, ms, h, d => by
    cases d with
    | @cons _ q _ ms z t =>
      unfold keysO mapO at h
      split at h
      · rename_i y ys h1 h2
        cases h
        have e := keysO_V (kvs := r) h2 t
        rw [List.map_cons, List.map_cons, e]
        congr 1
        rw [← z.1]
        cases hp : p.1 with
        | inl i => rw [hp] at h1; cases h1
        | inr x => rw [hp] at h1; cases h1; rfl
      · cases h
theorem call_sortDF (C : Ctx0 W k X Ew) (hc : X.calm = true) : CallR X (.builtin "sorted") (rc W fSortD) := callBy fun xs H Q ⟨ι, st, as, v, st', rx, hr, hf, hq⟩ => by
  obtain ⟨i, p, rfl, rfl, h0, h1⟩ := one_ref rx hf
  split at h1
  · rename_i kvs h5
    obtain ⟨ks, h2, h3⟩ := Option.bind_eq_some_iff.mp h1
    split at h3
    · rename_i h64
      cases h3
      obtain ⟨ms, h6, h7⟩ := hr.dic h5 h0
      refine ⟨_, call_sortedD hc, p, ms, ks, rfl, .inl h6, keysO_V h2 h7, h64, fun ys q g1 g2 g3 => ?_⟩
      have e := srtK_uniq g1 (sorted_pw g2)
      subst e
      exact hq.new hr (show RO W ι H (.lst ((srtK ks).map fun z => Val.str z.cps.toList)) (.lst ((srtK ks).map V.str)) from RVs.ofStr _) q g3
    · cases h3
  · cases h1
/-- one text or another sorted: a list of pairs of numbers, or a dict's keys -/
theorem call_sortedDP (C : Ctx0 W k X Ew) (hc : X.calm = true) {f g h : ON} (h1 : CallR X (.builtin "sorted") (rc W f)) (h2 : CallR X (.builtin "sorted") (rc W g)) (hh : ∀ xs st v, h xs st = some v → f xs st = some v ∨ g xs st = some v) : CallR X (.builtin "sorted") (rc W h) := callBy fun xs H Q ⟨ι, st, as, v, st', rx, hr, hf, hq⟩ => by
  rcases hh _ _ _ hf with z | z
  · exact ⟨_, h1, ι, st, as, v, st', rx, hr, z, hq⟩
  · exact ⟨_, h2, ι, st, as, v, st', rx, hr, z, hq⟩
def fRstripC : Val → ON := fun a xs st => match a, xs with
  | .str s, [.str t] => if s.length ≤ LINE then some (.str (Txt.rstripChars (St' s) (St' t)).cps.toList, st) else none
  | _, _ => none
theorem mt_rstripF : MtR X "str.rstrip" (rm W fRstripC) := mtBy fun x xs H Q ⟨ι, st, a, as, v, st', rx, rxs, hr, hf, hq⟩ => by
  unfold fRstripC at hf
  split at hf
  · rename_i s t
    split at hf
    · rename_i hl
      cases hf
      cases rx
      cases rxs with
      | cons r0 rr =>
        cases rr
        cases r0
        have r := RV.str (K := W.K) (ι := ι) (H := H) (Txt.rstripChars (St' s) (St' t)).cps.toList
        rw [st_back] at r
        exact ⟨_, mt_rstripChars, _, _, rfl, rfl, by rw [st_len, ← line_eq]; exact hl, hq.here hr r⟩
    · cases hf
  · cases hf
def fEnds : Val → ON := fun a xs st => match a, xs with
  | .str s, [.str t] => some (.bl (Txt.endswith (St' s) (St' t)), st)
  | _, _ => none
theorem mt_endsF : MtR X "str.endswith" (rm W fEnds) := mtBy fun x xs H Q ⟨ι, st, a, as, v, st', rx, rxs, hr, hf, hq⟩ => by
  unfold fEnds at hf
  split at hf
  · cases hf
    cases rx
    cases rxs with
    | cons r0 rr =>
      cases rr
      cases r0
      exact ⟨_, mt_endswith, _, _, rfl, rfl, hq.here hr (.bl _)⟩
  · cases hf
theorem in_subF : InOp X .Sub (rin W fSub) := in_by fun x y H Q ⟨ι, st, a, b, v, st', rx, ry, hr, hf, hq⟩ => by
  unfold fSub at hf
  split at hf
  · cases hf
    cases rx
    cases ry
    exact ⟨_, in_sub, _, _, rfl, rfl, hq.here hr (.int _)⟩
  · cases hf
end
end FL
/-! PL1: what a plain function comes to: a small calculus of what must hold behind it (P), and where it raises (G). -/
namespace FL
open PySem PySem.Spec PyProof.Rows L2

abbrev EP' := Str → Sto → Prop
/-- nothing is raised -/
abbrev G0 : EP' := fun _ _ => False
def okP {α : Type} (P : α → Sto → Prop) (G : EP') : R α → Prop
  | .ok a st => P a st
  | .ex c st => G c st
/-- hides what comes behind from simp -/
inductive Lk {α : Type} (a : α) : Type where
  | mk
def wX {α : Type} (m : FX α) (sl : Sl) (st : Sto) (P : α → Sto → Prop) (G : EP') (_ : Lk P := .mk) (_ : Lk G := .mk) : Prop := ∃ r, m sl st = some r ∧ okP P G r
def wF (F : FF) (as : List Val) (st : Sto) (P : Val → Sto → Prop) (G : EP') (_ : Lk P := .mk) (_ : Lk G := .mk) : Prop := ∃ r, F as st = some r ∧ okP P G r
def wS (m : FS) (sl : Sl) (st : Sto) (P : RS → Prop) (_ : Lk P := .mk) : Prop := ∃ r, m sl st = some r ∧ P r
def wG (o : Option (Val × Sto)) (P : Val → Sto → Prop) (_ : Lk P := .mk) : Prop := ∃ v st', o = some (v, st') ∧ P v st'
def finP (P : Val → Sto → Prop) (G : EP') : RS → Prop
  | .nx _ st => P .non st
  | .rt v st => P v st
  | .ex c _ st => G c st
  | _ => False
def sqP (n : FS) (P : RS → Prop) : RS → Prop
  | .nx sl st => wS n sl st P
  | r => P r
theorem okP.mono {α : Type} {P Q : α → Sto → Prop} {G G' : EP'} {r : R α} (h : okP P G r) (i : ∀ v st', P v st' → Q v st') (j : ∀ c st', G c st' → G' c st') : okP Q G' r := by
  cases r with
  | ok a st => exact i _ _ h
  | ex c st => exact j _ _ h
theorem wF.mono {F : FF} {as : List Val} {st : Sto} {P Q : Val → Sto → Prop} {G : EP'} (h : wF F as st P G) (i : ∀ v st', P v st' → Q v st') : wF F as st Q G :=
  let ⟨r, h1, h2⟩ := h
  ⟨r, h1, h2.mono i fun _ _ h => h⟩
theorem wF.monoE {F : FF} {as : List Val} {st : Sto} {P Q : Val → Sto → Prop} {G G' : EP'} (h : wF F as st P G) (i : ∀ v st', P v st' → Q v st') (j : ∀ c st', G c st' → G' c st') : wF F as st Q G' :=
  let ⟨r, h1, h2⟩ := h
  ⟨r, h1, h2.mono i j⟩
theorem wF.go {F : FF} {as : List Val} {st : Sto} {P Q : Val → Sto → Prop} {G : EP'} (h : wF F as st P G0) (i : ∀ v st', P v st' → Q v st') : wF F as st Q G := h.monoE i fun _ _ z => z.elim
theorem wX.mono {α : Type} {m : FX α} {sl : Sl} {st : Sto} {P Q : α → Sto → Prop} {G : EP'} (h : wX m sl st P G) (i : ∀ v st', P v st' → Q v st') : wX m sl st Q G :=
  let ⟨r, h1, h2⟩ := h
  ⟨r, h1, h2.mono i fun _ _ h => h⟩
theorem wS.mono {m : FS} {sl : Sl} {st : Sto} {P Q : RS → Prop} (h : wS m sl st P) (i : ∀ r, P r → Q r) : wS m sl st Q :=
  let ⟨r, h1, h2⟩ := h
  ⟨r, h1, i _ h2⟩
theorem wX_congr {α : Type} {m : FX α} {sl : Sl} {st : Sto} {P Q : α → Sto → Prop} {G : EP'} (i : ∀ v st', P v st' ↔ Q v st') : wX m sl st P G ↔ wX m sl st Q G := ⟨fun h => h.mono fun v st' => (i v st').mp, fun h => h.mono fun v st' => (i v st').mpr⟩
section
variable {sl : Sl} {st : Sto} {ma mb mc me : FE} {mt mu : FT} {mas : FA} {m n : FS} {v : Val} {i : Nat} {c : Str} {F : FF}
variable {P : Val → Sto → Prop} {PB : Bool → Sto → Prop} {PA : List Val → Sto → Prop} {PO : Option Int → Sto → Prop} {PS : RS → Prop} {G : EP'}
@[simp] theorem finP_rt : finP P G (.rt v st) = P v st := rfl
@[simp] theorem finP_nx : finP P G (.nx sl st) = P .non st := rfl
@[simp] theorem finP_ex : finP P G (.ex c sl st) = G c st := rfl
@[simp] theorem sqP_nx : sqP n PS (.nx sl st) = wS n sl st PS := rfl
@[simp] theorem sqP_rt : sqP n PS (.rt v st) = PS (.rt v st) := rfl
@[simp] theorem sqP_bk : sqP n PS (.bk sl st) = PS (.bk sl st) := rfl
@[simp] theorem sqP_ct : sqP n PS (.ct sl st) = PS (.ct sl st) := rfl
@[simp] theorem sqP_ex : sqP n PS (.ex c sl st) = PS (.ex c sl st) := rfl
@[simp] theorem wG_some {p : Val × Sto} : wG (some p) P ↔ P p.1 p.2 := ⟨fun ⟨v, st', h, q⟩ => by cases h; exact q, fun h => ⟨p.1, p.2, rfl, h⟩⟩
@[simp] theorem wG_none : wG none P ↔ False := ⟨fun ⟨_, _, h, _⟩ => (nomatch h), False.elim⟩
@[simp] theorem wG_if {c : Prop} [Decidable c] {o : Option (Val × Sto)} : wG (if c then o else none) P ↔ c ∧ wG o P := by
  by_cases h : c
  · simp [h]
  · simp [h]
theorem wX_bnd {α β : Type} {a : FX α} {k : α → FX β} {Q : β → Sto → Prop} : wX (bnd a k) sl st Q G ↔ wX a sl st (fun x st' => wX (k x) sl st' Q G) G := by
  unfold wX bnd
  constructor
  · rintro ⟨r, h, q⟩
    cases h1 : a sl st with
    | none => rw [h1] at h; cases h
    | some r1 =>
      rw [h1] at h
      cases r1 with
      | ok x st1 => exact ⟨_, rfl, r, h, q⟩
      | ex c st1 => cases h; exact ⟨_, rfl, q⟩
  · rintro ⟨r1, h, q⟩
    rw [h]
    cases r1 with
    | ok x st1 => exact q
    | ex c st1 => exact ⟨_, rfl, q⟩
theorem wS_bnd {α : Type} {a : FX α} {k : α → FS} : wS (bndS a k) sl st PS ↔ wX a sl st (fun x st' => wS (k x) sl st' PS) (fun c st' => PS (.ex c sl st')) := by
  unfold wX wS bndS
  constructor
  · rintro ⟨r, h, q⟩
    cases h1 : a sl st with
    | none => rw [h1] at h; cases h
    | some r1 =>
      rw [h1] at h
      cases r1 with
      | ok x st1 => exact ⟨_, rfl, r, h, q⟩
      | ex c st1 => cases h; exact ⟨_, rfl, q⟩
  · rintro ⟨r1, h, q⟩
    rw [h]
    cases r1 with
    | ok x st1 => exact q
    | ex c st1 => exact ⟨_, rfl, q⟩
@[simp ↓] theorem wX_var : wX (fVar i) sl st P G ↔ ∃ v, sl[i]? = some (some v) ∧ P v st := by
  unfold wX fVar
  constructor
  · rintro ⟨r, h, q⟩
    split at h
    · rename_i w hw
      cases h
      exact ⟨w, hw, q⟩
    · cases h
  · rintro ⟨v, h, q⟩
    exact ⟨.ok v st, by rw [h], q⟩
theorem wX_ret {α : Type} {a : α} {Q : α → Sto → Prop} : wX (fun _ st => some (.ok a st)) sl st Q G ↔ Q a st := ⟨fun ⟨r, h, q⟩ => by cases h; exact q, fun h => ⟨_, rfl, h⟩⟩
theorem wX_no {α : Type} {Q : α → Sto → Prop} : wX (fun _ _ => none) sl st Q G ↔ False := ⟨fun ⟨r, h, q⟩ => (nomatch h), False.elim⟩
@[simp ↓] theorem wX_c : wX (fC v) sl st P G ↔ P v st := wX_ret
@[simp ↓] theorem wX_lft {g : Sto → Option (Val × Sto)} : wX (lft g) sl st P G ↔ wG (g st) P := by
  unfold wX lft wG
  constructor
  · rintro ⟨r, h, q⟩
    split at h
    · rename_i w st1 hw
      cases h
      exact ⟨w, st1, hw, q⟩
    · cases h
  · rintro ⟨v, st', h, q⟩
    exact ⟨.ok v st', by rw [h], q⟩
@[simp ↓] theorem wX_op {f : O2} : wX (fOp f ma mb) sl st P G ↔ wX ma sl st (fun x st1 => wX mb sl st1 (fun y st2 => wG (f x y st2) P) G) G := by
  unfold fOp
  rw [wX_bnd]
  refine wX_congr fun x st1 => ?_
  rw [wX_bnd]
  exact wX_congr fun y st2 => wX_lft
@[simp ↓] theorem wX_asB {x : Val} : wX (asB x) sl st PB G ↔ ∃ b, x = .bl b ∧ PB b st := by
  cases x with
  | bl b =>
    show wX (fun _ st => some (.ok b st)) sl st PB G ↔ _
    rw [wX_ret]
    exact ⟨fun h => ⟨b, rfl, h⟩, fun ⟨c, e, h⟩ => by cases e; exact h⟩
  | _ => exact ⟨fun ⟨_, h, _⟩ => (nomatch h), fun ⟨_, e, _⟩ => (nomatch e)⟩
@[simp ↓] theorem wX_B : wX (fB me) sl st PB G ↔ wX me sl st (fun x st' => ∃ b, x = .bl b ∧ PB b st') G := by
  unfold fB
  rw [wX_bnd]
  exact wX_congr fun x st1 => wX_asB
@[simp ↓] theorem wX_And : wX (fAnd mt mu) sl st PB G ↔ wX mt sl st (fun b st' => if b = true then wX mu sl st' PB G else PB false st') G := by
  simp only [fAnd, wX_bnd]
  refine wX_congr fun b st' => ?_
  cases b <;> simp [wX_ret]
@[simp ↓] theorem wX_Or : wX (fOr mt mu) sl st PB G ↔ wX mt sl st (fun b st' => if b = true then PB true st' else wX mu sl st' PB G) G := by
  simp only [fOr, wX_bnd]
  refine wX_congr fun b st' => ?_
  cases b <;> simp [wX_ret]
@[simp ↓] theorem wX_Not : wX (fNot mt) sl st PB G ↔ wX mt sl st (fun b st' => PB (!b) st') G := by
  unfold fNot
  rw [wX_bnd]
  exact wX_congr fun x st1 => wX_ret
@[simp ↓] theorem wX_If {α : Type} {a b : FX α} {Q : α → Sto → Prop} : wX (fIf mt a b) sl st Q G ↔ wX mt sl st (fun c st' => if c = true then wX a sl st' Q G else wX b sl st' Q G) G := by
  simp only [fIf, wX_bnd]
  refine wX_congr fun b st' => ?_
  cases b <;> simp
@[simp ↓] theorem wX_AndV : wX (fAndV ma mb) sl st P G ↔ wX ma sl st (fun x st' => ∃ b, x = .bl b ∧ if b = true then wX mb sl st' P G else P (.bl false) st') G := by
  simp only [fAndV, wX_bnd]
  refine wX_congr fun x st' => ?_
  cases x with
  | bl b => cases b <;> simp [wX_ret]
  | _ => simp [wX_no]
@[simp ↓] theorem wX_OrV : wX (fOrV ma mb) sl st P G ↔ wX ma sl st (fun x st' => ∃ b, x = .bl b ∧ if b = true then P (.bl true) st' else wX mb sl st' P G) G := by
  simp only [fOrV, wX_bnd]
  refine wX_congr fun x st' => ?_
  cases x with
  | bl b => cases b <;> simp [wX_ret]
  | _ => simp [wX_no]
@[simp ↓] theorem wX_NotV : wX (fNotV ma) sl st P G ↔ wX ma sl st (fun x st' => ∃ b, x = .bl b ∧ P (.bl (!b)) st') G := by
  simp only [fNotV, wX_bnd]
  refine wX_congr fun x st' => ?_
  cases x with
  | bl b => simp [wX_ret]
  | _ => simp [wX_no]
@[simp ↓] theorem wX_Neg : wX (fNeg ma) sl st P G ↔ wX ma sl st (fun x st' => ∃ i, x = .int i ∧ P (.int (-i)) st') G := by
  simp only [fNeg, wX_bnd]
  refine wX_congr fun x st' => ?_
  cases x with
  | int b => simp [wX_ret]
  | _ => simp [wX_no]
@[simp ↓] theorem wX_Chain {f g : O2} : wX (fChain f g ma mb mc) sl st P G ↔ wX ma sl st (fun x st1 => wX mb sl st1 (fun y st2 => wG (f x y st2) fun z st3 => ∃ b, z = .bl b ∧ if b = true then wX mc sl st3 (fun w st4 => wG (g y w st4) P) G else P (.bl false) st3) G) G := by
  unfold fChain
  rw [wX_bnd]
  refine wX_congr fun x st1 => ?_
  rw [wX_bnd]
  refine wX_congr fun y st2 => ?_
  rw [wX_bnd, wX_lft]
  unfold wG
  constructor
  · rintro ⟨z, st3, h1, h⟩
    refine ⟨z, st3, h1, ?_⟩
    cases z with
    | bl b =>
      refine ⟨b, rfl, ?_⟩
      cases b with
      | false => exact wX_ret.mp h
      | true => exact (wX_congr fun w st4 => wX_lft).mp (wX_bnd.mp h)
    | _ => exact (wX_no.mp h).elim
  · rintro ⟨z, st3, h1, b, rfl, h⟩
    refine ⟨_, st3, h1, ?_⟩
    cases b with
    | false => exact wX_ret.mpr h
    | true => exact wX_bnd.mpr ((wX_congr fun w st4 => wX_lft).mpr h)
@[simp ↓] theorem wX_nil : wX fNil sl st PA G ↔ PA [] st := wX_ret
@[simp ↓] theorem wX_cons : wX (fCons ma mas) sl st PA G ↔ wX ma sl st (fun x st1 => wX mas sl st1 (fun xs st2 => PA (x :: xs) st2) G) G := by
  unfold fCons
  rw [wX_bnd]
  refine wX_congr fun x st1 => ?_
  rw [wX_bnd]
  exact wX_congr fun y st2 => wX_ret
theorem wX_guard {α : Type} {c : Sto → Prop} [∀ st, Decidable (c st)] {a : FX α} {Q : α → Sto → Prop} : wX (fun sl st => if c st then a sl st else none) sl st Q G ↔ c st ∧ wX a sl st Q G := by
  unfold wX
  by_cases h : c st
  · simp [h]
  · simp [h]
theorem wX_ifR {α : Type} {c : Prop} [Decidable c] {v : Sto → α} {f : Sto → Sto} {Q : α → Sto → Prop} : wX (fun _ st => if c then some (R.ok (v st) (f st)) else none) sl st Q G ↔ c ∧ Q (v st) (f st) := by
  unfold wX
  by_cases h : c
  · simp [h, okP]
  · simp [h]
@[simp ↓] theorem wX_tup : wX (fTup mas) sl st P G ↔ wX mas sl st (fun xs st' => xs.length ≤ LINE ∧ P (.tup xs) st') G := by
  simp only [fTup, wX_bnd]
  exact wX_congr fun xs st' => wX_ifR (v := fun _ => Val.tup xs) (f := fun st => st)
@[simp ↓] theorem wX_lst : wX (fLst mas) sl st P G ↔ wX mas sl st (fun xs st' => xs.length ≤ LINE ∧ P (.ref st'.length) (st' ++ [.lst xs])) G := by
  simp only [fLst, wX_bnd]
  exact wX_congr fun xs st' => wX_ifR (v := fun st => Val.ref st.length) (f := fun st => st ++ [Ob.lst xs])
@[simp ↓] theorem wX_part : wX (fPart me) sl st PO G ↔ wX me sl st (fun x st' => ∃ i, x = .int i ∧ PO (some i) st') G := by
  simp only [fPart, wX_bnd]
  refine wX_congr fun x st' => ?_
  cases x with
  | int b => simp [wX_ret]
  | _ => simp [wX_no]
@[simp ↓] theorem wX_nopart : wX fNoPart sl st PO G ↔ PO none st := wX_ret
@[simp ↓] theorem wX_slice {f : OSl} {lo hi : FO} : wX (fSlice f me lo hi) sl st P G ↔ wX me sl st (fun x st1 => wX lo sl st1 (fun l st2 => wX hi sl st2 (fun u st3 => wG (f x l u st3) P) G) G) G := by
  unfold fSlice
  rw [wX_bnd]
  refine wX_congr fun x st1 => ?_
  rw [wX_bnd]
  refine wX_congr fun y st2 => ?_
  rw [wX_bnd]
  exact wX_congr fun y st2 => wX_lft
def revO (st : Sto) (x : Val) : Option (Val × Sto) := match x with
  | .ref p => match st[p]? with
    | some (.lst xs) => some (Val.ref st.length, st ++ [.lst xs.reverse])
    | _ => none
  | _ => none
@[simp ↓] theorem wX_revL : wX (fRevL me) sl st P G ↔ wX me sl st (fun x st' => wG (revO st' x) P) G := by
  unfold fRevL
  rw [wX_bnd]
  exact wX_congr fun x st1 => wX_lft
@[simp ↓] theorem wX_call {f : ON} : wX (fCall f mas) sl st P G ↔ wX mas sl st (fun xs st' => wG (f xs st') P) G := by
  unfold fCall
  rw [wX_bnd]
  exact wX_congr fun x st1 => wX_lft
@[simp ↓] theorem wX_callF : wX (fCallF F mas) sl st P G ↔ wX mas sl st (fun xs st' => wF F xs st' P G) G := by
  simp only [fCallF, wX_bnd]
  exact Iff.rfl
@[simp ↓] theorem wX_mt {T : String} {f : Val → ON} : wX (fMt T f me mas) sl st P G ↔ wX me sl st (fun x st1 => kindOf T st1 x = true ∧ wX mas sl st1 (fun xs st2 => wG (f x xs st2) P) G) G := by
  unfold fMt
  rw [wX_bnd]
  refine wX_congr fun x st1 => ?_
  rw [wX_guard (c := fun st => kindOf T st x = true), wX_bnd]
  exact and_congr_right fun _ => wX_congr fun xs st2 => wX_lft
@[simp ↓] theorem wX_mt0 {T : String} {f : Val → ON} : wX (fMt0 T f me) sl st P G ↔ wX me sl st (fun x st1 => kindOf T st1 x = true ∧ wG (f x [] st1) P) G := by
  unfold fMt0
  rw [wX_bnd]
  refine wX_congr fun x st1 => ?_
  rw [wX_guard (c := fun st => kindOf T st x = true), wX_lft]

/-! statements -/
@[simp ↓] theorem wS_seq : wS (fSeq m n) sl st PS ↔ wS m sl st (sqP n PS) := by
  unfold wS fSeq
  constructor
  · rintro ⟨r, h, q⟩
    cases h1 : m sl st with
    | none => rw [h1] at h; cases h
    | some r1 =>
      rw [h1] at h
      cases r1 with
      | nx sl' st' => exact ⟨_, rfl, r, h, q⟩
      | _ => cases h; exact ⟨_, rfl, q⟩
  · rintro ⟨r, h1, h2⟩
    rw [h1]
    cases r with
    | nx sl' st' => exact h2
    | _ => exact ⟨_, rfl, h2⟩
theorem wS_one {r : RS} : wS (fun _ _ => some r) sl st PS ↔ PS r := ⟨fun ⟨r, h, q⟩ => by cases h; exact q, fun h => ⟨_, rfl, h⟩⟩
@[simp ↓] theorem wS_skip : wS fSkip sl st PS ↔ PS (.nx sl st) := ⟨fun ⟨r, h, q⟩ => by cases h; exact q, fun h => ⟨_, rfl, h⟩⟩
@[simp ↓] theorem wS_brk : wS fBreak sl st PS ↔ PS (.bk sl st) := ⟨fun ⟨r, h, q⟩ => by cases h; exact q, fun h => ⟨_, rfl, h⟩⟩
@[simp ↓] theorem wS_cnt : wS fCont sl st PS ↔ PS (.ct sl st) := ⟨fun ⟨r, h, q⟩ => by cases h; exact q, fun h => ⟨_, rfl, h⟩⟩
/-- behind a target -/
def wT (g : FG) (v : Val) (sl : Sl) (st : Sto) (Q : Sl → Sto → Prop) (_ : Lk Q := .mk) : Prop := ∃ sl2 st2, g v sl st = some (sl2, st2) ∧ Q sl2 st2
def wTs (g : FGs) (v : List Val) (sl : Sl) (st : Sto) (Q : Sl → Sto → Prop) (_ : Lk Q := .mk) : Prop := ∃ sl2 st2, g v sl st = some (sl2, st2) ∧ Q sl2 st2
def wO (o : Option Sto) (Q : Sto → Prop) (_ : Lk Q := .mk) : Prop := ∃ st', o = some st' ∧ Q st'
@[simp] theorem wO_some {Q : Sto → Prop} : wO (some st) Q ↔ Q st := ⟨fun ⟨_, h, q⟩ => by cases h; exact q, fun q => ⟨_, rfl, q⟩⟩
@[simp] theorem wO_none {Q : Sto → Prop} : wO none Q ↔ False := ⟨fun ⟨_, h, _⟩ => (nomatch h), False.elim⟩
@[simp ↓] theorem wS_asg {g : FG} : wS (fAsg ma g) sl st PS ↔ wX ma sl st (fun v st' => wT g v sl st' fun sl2 st2 => PS (.nx sl2 st2)) (fun c st' => PS (.ex c sl st')) := by
  unfold fAsg
  rw [wS_bnd]
  refine wX_congr fun v st' => ?_
  unfold wS wT
  constructor
  · rintro ⟨r, h, q⟩
    cases h1 : g v sl st' with
    | none => simp [h1] at h
    | some p =>
      simp only [h1] at h
      cases h
      exact ⟨_, _, rfl, q⟩
  · rintro ⟨sl2, st2, h, q⟩
    exact ⟨.nx sl2 st2, by simp only [h], q⟩
@[simp ↓] theorem wT_set {Q : Sl → Sto → Prop} : wT (gSet i) v sl st Q ↔ Q (sl.set i (some v)) st := ⟨fun ⟨_, _, h, q⟩ => by cases h; exact q, fun q => ⟨_, _, rfl, q⟩⟩
@[simp ↓] theorem wTs_no {Q : Sl → Sto → Prop} {xs : List Val} : wTs gNo xs sl st Q ↔ xs = [] ∧ Q sl st := by
  unfold wTs gNo
  cases xs with
  | nil => exact ⟨fun ⟨_, _, h, q⟩ => by cases h; exact ⟨rfl, q⟩, fun ⟨_, q⟩ => ⟨_, _, rfl, q⟩⟩
  | cons x xs => simp
@[simp ↓] theorem wTs_and {Q : Sl → Sto → Prop} {g : FG} {h : FGs} {xs : List Val} : wTs (gAnd g h) xs sl st Q ↔ ∃ x r, xs = x :: r ∧ wT g x sl st fun sl2 st2 => wTs h r sl2 st2 Q := by
  unfold wTs wT gAnd
  cases xs with
  | nil => simp
  | cons x xs =>
    constructor
    · rintro ⟨sl2, st2, h1, q⟩
      cases h2 : g x sl st with
      | none => simp [h2] at h1
      | some p =>
        simp only [h2] at h1
        exact ⟨x, xs, rfl, _, _, h2, sl2, st2, h1, q⟩
    · rintro ⟨_, _, e, sl1, st1, h2, sl2, st2, h1, q⟩
      cases e
      exact ⟨sl2, st2, by simp only [h2]; exact h1, q⟩
@[simp ↓] theorem wT_tupl {Q : Sl → Sto → Prop} {g : FGs} {k : Nat} : wT (gTupl g k) v sl st Q ↔ ∃ xs, v = .tup xs ∧ xs.length = k ∧ wTs g xs sl st Q := by
  unfold wTs wT gTupl
  constructor
  · rintro ⟨sl2, st2, h1, q⟩
    split at h1
    · rename_i xs
      split at h1
      · rename_i hl
        exact ⟨xs, rfl, hl, _, _, h1, q⟩
      · cases h1
    · cases h1
  · rintro ⟨xs, rfl, hl, sl2, st2, h1, q⟩
    exact ⟨sl2, st2, by simp only [if_pos hl]; exact h1, q⟩
@[simp ↓] theorem wT_ix {Q : Sl → Sto → Prop} {f : O3} {mo mi : FE} : wT (gIx f mo mi) v sl st Q ↔ wX mo sl st (fun o st1 => wX mi sl st1 (fun i st2 => wO (f o i v st2) fun st3 => Q sl st3) G0) G0 := by
  unfold wT gIx wX wO
  constructor
  · rintro ⟨sl2, st2, h1, q⟩
    split at h1
    · rename_i o st1 h2
      split at h1
      · rename_i j st3 h3
        split at h1
        · rename_i st4 h4
          cases h1
          exact ⟨_, h2, _, h3, _, h4, q⟩
        · cases h1
      · cases h1
    · cases h1
  · rintro ⟨r, h2, q⟩
    cases r with
    | ex c st1 => exact q.elim
    | ok o st1 =>
      obtain ⟨r2, h3, q⟩ := q
      cases r2 with
      | ex c st1 => exact q.elim
      | ok j st3 =>
        obtain ⟨st4, h4, q⟩ := q
        exact ⟨sl, st4, by simp only [h2, h3, h4], q⟩
@[simp ↓] theorem wS_set : wS (fSet i ma) sl st PS ↔ wX ma sl st (fun v st' => PS (.nx (sl.set i (some v)) st')) (fun c st' => PS (.ex c sl st')) := by
  unfold fSet
  rw [wS_asg]
  refine wX_congr fun v st' => ?_
  exact wT_set
@[simp ↓] theorem wS_expr : wS (fExpr ma) sl st PS ↔ wX ma sl st (fun _ st' => PS (.nx sl st')) (fun c st' => PS (.ex c sl st')) := by
  unfold fExpr
  rw [wS_bnd]
  exact wX_congr fun v st' => ⟨fun ⟨r, h, q⟩ => by cases h; exact q, fun q => ⟨_, rfl, q⟩⟩
@[simp ↓] theorem wS_ret : wS (fRet ma) sl st PS ↔ wX ma sl st (fun v st' => PS (.rt v st')) (fun c st' => PS (.ex c sl st')) := by
  unfold fRet
  rw [wS_bnd]
  exact wX_congr fun v st' => ⟨fun ⟨r, h, q⟩ => by cases h; exact q, fun q => ⟨_, rfl, q⟩⟩
@[simp ↓] theorem wS_retN : wS fRetN sl st PS ↔ PS (.rt .non st) := ⟨fun ⟨r, h, q⟩ => by cases h; exact q, fun h => ⟨_, rfl, h⟩⟩
@[simp ↓] theorem wS_if : wS (fIfS mt m n) sl st PS ↔ wX mt sl st (fun c st' => if c = true then wS m sl st' PS else wS n sl st' PS) (fun c st' => PS (.ex c sl st')) := by
  unfold fIfS
  rw [wS_bnd]
  refine wX_congr fun c st' => ?_
  cases c <;> simp
theorem wF_run {k N : Nat} {as : List Val} (hl : as.length = k) : wF (runF k N m) as st P G ↔ wS m (as.map some ++ List.replicate (N - k) none) st (finP P G) := by
  unfold wF runF wS
  rw [if_pos hl]
  constructor
  · rintro ⟨r, h, q⟩
    split at h <;> rename_i h1
    · cases h; exact ⟨_, h1, q⟩
    · cases h; exact ⟨_, h1, q⟩
    · cases h; exact ⟨_, h1, q⟩
    · cases h
  · rintro ⟨r, h1, h2⟩
    rw [h1]
    cases r with
    | nx sl' st' => exact ⟨_, rfl, h2⟩
    | rt v st' => exact ⟨_, rfl, h2⟩
    | ex c _ st' => exact ⟨_, rfl, h2⟩
    | _ => exact h2.elim
@[simp ↓] theorem wF_iff {k N : Nat} {as : List Val} : wF (runF k N m) as st P G ↔ as.length = k ∧ wS m (as.map some ++ List.replicate (N - k) none) st (finP P G) := by
  by_cases hl : as.length = k
  · rw [wF_run hl]
    exact ⟨fun h => ⟨hl, h⟩, fun h => h.2⟩
  · refine ⟨fun ⟨r, h, _⟩ => ?_, fun h => absurd h.1 hl⟩
    unfold runF at h
    rw [if_neg hl] at h
    cases h
end
end FL
/-! PL2: loops and comprehensions by an invariant; what only grows; a law's well. -/
namespace FL
open PySem PySem.Spec PyProof.Rows L2

/-- behind a loop's turn -/
def lpP (I : Sl → Sto → Prop) (PS : RS → Prop) : RS → Prop
  | .nx sl st => I sl st
  | .ct sl st => I sl st
  | .bk sl st => PS (.nx sl st)
  | r => PS r
theorem ok_of {α : Type} {m : FX α} {sl : Sl} {st : Sto} {P : α → Sto → Prop} (h : wX m sl st P G0) : ∃ a st', m sl st = some (.ok a st') ∧ P a st' := by
  obtain ⟨r, h1, h2⟩ := h
  cases r with
  | ok a st' => exact ⟨a, st', h1, h2⟩
  | ex c st' => exact h2.elim
section
variable {sl sl' : Sl} {st st' : Sto} {v : Val} {PS : RS → Prop} {I : Sl → Sto → Prop} {c : Str} {G : EP'}
@[simp] theorem lpP_nx : lpP I PS (.nx sl st) = I sl st := rfl
@[simp] theorem lpP_ct : lpP I PS (.ct sl st) = I sl st := rfl
@[simp] theorem lpP_bk : lpP I PS (.bk sl st) = PS (.nx sl st) := rfl
@[simp] theorem lpP_ex : lpP I PS (.ex c sl st) = PS (.ex c sl st) := rfl
@[simp] theorem lpP_rt : lpP I PS (.rt v st) = PS (.rt v st) := rfl
open Classical in
theorem forL_run {l : Lv} {all : List Val} {g : FG} {body : FS} {I : Nat → Sl → Sto → Prop} (lv : ∀ i sl st, i ≤ all.length → I i sl st → Live l all st)
    (turn : ∀ i x sl st, all[i]? = some x → I i sl st → ∃ sl1 st1, g x sl st = some (sl1, st1) ∧ wS body sl1 st1 (lpP (I (i + 1)) PS)) (done : ∀ sl st, I all.length sl st → PS (.nx sl st)) :
    ∀ (n i : Nat) (sl : Sl) (st : Sto), n + i = all.length → I i sl st → wS (forL l all g body (all.drop i)) sl st PS
  | 0, i, sl, st, hn, hi => by
    have e : all.drop i = [] := List.drop_eq_nil_of_le (by omega)
    have e2 : i = all.length := by omega
    rw [e]
    subst e2
    exact ⟨.nx sl st, by show (if Live l all st then some (RS.nx sl st) else none) = _; rw [if_pos (lv _ _ _ (Nat.le_refl _) hi)], done _ _ hi⟩
  | n + 1, i, sl, st, hn, hi => by
    have hlt : i < all.length := by omega
    have hx : all[i]? = some all[i] := List.getElem?_eq_getElem hlt
    obtain ⟨sl1, st1, h1, r, h2, h3⟩ := turn i _ sl st hx hi
    rw [List.drop_eq_getElem_cons hlt]
    unfold wS forL
    rw [if_pos (lv _ _ _ (Nat.le_of_lt hlt) hi), h1]
    simp only [h2]
    cases r with
    | nx sl2 st2 => exact forL_run lv turn done n (i + 1) sl2 st2 (by omega) h3
    | ct sl2 st2 => exact forL_run lv turn done n (i + 1) sl2 st2 (by omega) h3
    | bk sl2 st2 => exact ⟨_, rfl, h3⟩
    | rt v st2 => exact ⟨_, rfl, h3⟩
    | ex c sl2 st2 => exact ⟨_, rfl, h3⟩
/-- what is to be shown of a for: an invariant of your own (by the turn, the slots, the store) -/
def ForOb (g : FG) (body : FS) (PS : RS → Prop) (sl : Sl) (b : Itb) (st : Sto) : Prop := ∃ I : Nat → Sl → Sto → Prop, I 0 sl st ∧ (∀ i sl st, i ≤ b.items.length → I i sl st → Live b.live b.items st) ∧
  (∀ i x sl st, b.items[i]? = some x → I i sl st → wT g x sl st fun sl1 st1 => wS body sl1 st1 (lpP (I (i + 1)) PS)) ∧ ∀ sl st, I b.items.length sl st → PS (.nx sl st)
theorem wS_for {mi : FI} {g : FG} {body : FS} (h : wX mi sl st (fun b st1 => ForOb g body PS sl b st1) (fun c st' => PS (.ex c sl st'))) : wS (fFor mi g body) sl st PS :=
  wS_bnd.mpr (h.mono fun b st1 ⟨I, h1, h2, h3, h4⟩ => by
    have := forL_run h2 h3 h4 b.items.length 0 sl st1 (by omega) h1
    simpa using this)
open Classical in
theorem lcL_run {l : Lv} {all : List Val} {g : FG} {t : FT} {m : FE} {J : Nat → List Val → Sto → Prop} (lv : ∀ i acc st, i ≤ all.length → J i acc st → Live l all st)
    (turn : ∀ i x acc st, all[i]? = some x → J i acc st → ∃ sl1 st1, g x sl st = some (sl1, st1) ∧ wX t sl1 st1 (fun b st2 => if b = true then wX m sl1 st2 (fun y st3 => J (i + 1) (acc ++ [y]) st3) G0 else J (i + 1) acc st2) G0) :
    ∀ (n i : Nat) (acc : List Val) (st : Sto), n + i = all.length → J i acc st → ∃ ys st', lcL l all g t m sl (all.drop i) st = some (ys, st') ∧ J all.length (acc ++ ys) st'
  | 0, i, acc, st, hn, hi => by
    have e : all.drop i = [] := List.drop_eq_nil_of_le (by omega)
    have e2 : i = all.length := by omega
    rw [e]
    subst e2
    exact ⟨[], st, by show (if Live l all st then some (([] : List Val), st) else none) = _; rw [if_pos (lv _ _ _ (Nat.le_refl _) hi)], by simpa using hi⟩
  | n + 1, i, acc, st, hn, hi => by
    have hlt : i < all.length := by omega
    have hx : all[i]? = some all[i] := List.getElem?_eq_getElem hlt
    obtain ⟨sl1, st1, h1, h9⟩ := turn i _ acc st hx hi
    obtain ⟨b, st2, h2, h3⟩ := ok_of h9
    rw [List.drop_eq_getElem_cons hlt]
    unfold lcL
    rw [if_pos (lv _ _ _ (Nat.le_of_lt hlt) hi), h1]
    simp only [h2]
    cases b with
    | false =>
      have h4 : J (i + 1) acc st2 := by simpa using h3
      exact lcL_run lv turn n (i + 1) acc st2 (by omega) h4
    | true =>
      have h4 : wX m sl1 st2 (fun y st3 => J (i + 1) (acc ++ [y]) st3) G0 := by simpa using h3
      obtain ⟨y, st3, h5, h6⟩ := ok_of h4
      simp only [h5]
      obtain ⟨ys, st4, h7, h8⟩ := lcL_run lv turn n (i + 1) _ st3 (by omega) h6
      exact ⟨y :: ys, st4, by rw [h7], by simpa using h8⟩
/-- what is to be shown of a comprehension: an invariant by the turn, what is made so far, the store -/
def LcOb (g : FG) (t : FT) (m : FE) (P : Val → Sto → Prop) (sl : Sl) (b : Itb) (st : Sto) : Prop := b.items.length ≤ LINE ∧ ∃ J : Nat → List Val → Sto → Prop, J 0 [] st ∧ (∀ i acc st, i ≤ b.items.length → J i acc st → Live b.live b.items st) ∧
  (∀ i x acc st, b.items[i]? = some x → J i acc st → wT g x sl st fun sl1 st1 => wX t sl1 st1 (fun c st2 => if c = true then wX m sl1 st2 (fun y st3 => J (i + 1) (acc ++ [y]) st3) G0 else J (i + 1) acc st2) G0) ∧
  ∀ acc st, J b.items.length acc st → P (.ref st.length) (st ++ [.lst acc])
theorem wX_lc {mi : FI} {g : FG} {t : FT} {m : FE} {vs : List Nat} {P : Val → Sto → Prop} (h : wX mi sl st (fun b st1 => LcOb g t m P (wipeL sl vs) b st1) G) : wX (fLc mi g t m vs) sl st P G := by
  unfold fLc
  rw [wX_bnd]
  refine h.mono fun b st1 ⟨h0, J, h1, h2, h3, h4⟩ => ?_
  obtain ⟨ys, st', h5, h6⟩ := lcL_run (sl := wipeL sl vs) h2 h3 b.items.length 0 [] st1 (by omega) h1
  refine ⟨.ok _ _, ?_, h4 _ _ (by simpa using h6)⟩
  simp only [if_pos h0]
  rw [List.drop_zero] at h5
  rw [h5]
@[simp ↓] theorem wX_yes {PB : Bool → Sto → Prop} : wX fYes sl st PB G ↔ PB true st := wX_ret
@[simp ↓] theorem wX_it {me : FE} {Q : Itb → Sto → Prop} : wX (fIt me) sl st Q G ↔ wX me sl st (fun x st' => ∃ b, asIt st' x = some b ∧ Q b st') G := by
  simp only [fIt, wX_bnd]
  refine wX_congr fun x st' => ?_
  unfold wX
  constructor
  · rintro ⟨r, h1, q⟩
    obtain ⟨b, h2, rfl⟩ := Option.map_eq_some_iff.mp h1
    exact ⟨b, h2, q⟩
  · rintro ⟨b, h1, q⟩
    exact ⟨.ok b st', by simp only [h1]; rfl, q⟩
@[simp ↓] theorem wX_rng1 {mas : FA} {Q : Itb → Sto → Prop} : wX (fRng1 mas) sl st Q G ↔ wX mas sl st (fun xs st' => ∃ j, xs = [.int j] ∧ small62 j ∧ Q ⟨rngL 0 j.toNat, .none⟩ st') G := by
  simp only [fRng1, wX_bnd]
  refine wX_congr fun x st' => ?_
  unfold wX
  constructor
  · rintro ⟨r, h1, q⟩
    split at h1
    · split at h1
      · rename_i hj
        cases h1
        exact ⟨_, rfl, hj, q⟩
      · cases h1
    · cases h1
  · rintro ⟨j, rfl, hj, q⟩
    exact ⟨.ok _ _, by simp [hj], q⟩
@[simp ↓] theorem wX_rng2 {mas : FA} {Q : Itb → Sto → Prop} : wX (fRng2 mas) sl st Q G ↔ wX mas sl st (fun xs st' => ∃ i j, xs = [.int i, .int j] ∧ (small62 i ∧ small62 j) ∧ Q ⟨rngL i (j - i).toNat, .none⟩ st') G := by
  simp only [fRng2, wX_bnd]
  refine wX_congr fun x st' => ?_
  unfold wX
  constructor
  · rintro ⟨r, h1, q⟩
    split at h1
    · split at h1
      · rename_i hj
        cases h1
        exact ⟨_, _, rfl, hj, q⟩
      · cases h1
    · cases h1
  · rintro ⟨i, j, rfl, hj, q⟩
    exact ⟨.ok _ _, by simp [hj], q⟩
end
theorem rngL_get {lo : Int} {n i : Nat} {x : Val} (h : (rngL lo n)[i]? = some x) : i < n ∧ x = .int (lo + i) := by
  unfold rngL at h
  rw [List.getElem?_map] at h
  obtain ⟨j, h1, rfl⟩ := Option.map_eq_some_iff.mp h
  have hi := (List.getElem?_eq_some_iff.mp h1).1
  rw [List.length_range] at hi
  rw [List.getElem?_range hi] at h1
  cases h1
  exact ⟨hi, rfl⟩
@[simp] theorem rngL_len {lo : Int} {n : Nat} : (rngL lo n).length = n := by unfold rngL; simp
@[simp] theorem wipeL_nil {sl : Sl} : wipeL sl [] = sl := rfl
@[simp] theorem wipeL_cons {sl : Sl} {v : Nat} {vs : List Nat} : wipeL sl (v :: vs) = (wipeL sl vs).set v none := rfl
@[simp] theorem live_none {xs : List Val} {st : Sto} : Live .none xs st := trivial

/-! ### xs[i:j] = ys -/
def slcO (o : Val) (l u : Option Int) (v : Val) (st : Sto) : Option Sto := match o, l, u, v with
  | .ref l, some i, some c, .ref b => match st[l]?, st[b]? with
    | some (Ob.lst xs), some (Ob.lst ys) => if l ≠ b ∧ 0 ≤ i ∧ i ≤ c ∧ i ≤ xs.length ∧ xs.length + ys.length ≤ LINE then some (st.set l (Ob.lst (xs.take i.toNat ++ ys ++ xs.drop (min c.toNat xs.length)))) else none
    | _, _ => none
  | _, _, _, _ => none
theorem wT_slc {mo : FE} {lo hi : FO} {v : Val} {sl : Sl} {st : Sto} {Q : Sl → Sto → Prop} (h : wX mo sl st (fun o st1 => wX lo sl st1 (fun l st2 => wX hi sl st2 (fun u st3 => wO (slcO o l u v st3) fun st4 => Q sl st4) G0) G0) G0) : wT (gSlc mo lo hi) v sl st Q := by
  obtain ⟨o, st1, h1, h⟩ := ok_of h
  obtain ⟨l, st2, h2, h⟩ := ok_of h
  obtain ⟨u, st3, h3, h⟩ := ok_of h
  obtain ⟨st4, h4, q⟩ := h
  unfold slcO at h4
  split at h4
  · rename_i l' i c b
    split at h4
    · rename_i xs ys g1 g2
      split at h4
      · rename_i g3
        cases h4
        refine ⟨sl, _, ?_, q⟩
        unfold gSlc
        simp only [h1, h2, h3, g1, g2]
        exact if_pos g3
      · cases h4
    · cases h4
  · cases h4
theorem slcO_ref {l b : Nat} {i c : Int} {st : Sto} {xs ys : List Val} (g1 : st[l]? = some (Ob.lst xs)) (g2 : st[b]? = some (Ob.lst ys)) (h1 : l ≠ b) (h2 : 0 ≤ i) (h3 : i ≤ c) (h4 : i ≤ xs.length) (h5 : xs.length + ys.length ≤ LINE) :
    slcO (.ref l) (some i) (some c) (.ref b) st = some (st.set l (Ob.lst (xs.take i.toNat ++ ys ++ xs.drop (min c.toNat xs.length)))) := by
  show (match st[l]?, st[b]? with
    | some (Ob.lst xs), some (Ob.lst ys) => if l ≠ b ∧ 0 ≤ i ∧ i ≤ c ∧ i ≤ xs.length ∧ xs.length + ys.length ≤ LINE then some (st.set l (Ob.lst (xs.take i.toNat ++ ys ++ xs.drop (min c.toNat xs.length)))) else none
    | _, _ => none) = _
  rw [g1, g2]
  exact if_pos ⟨h1, h2, h3, h4, h5⟩

/-! ### what only grows; all but the number w stays -/
def Dr (w : Nat) (st st' : Sto) : Prop := st.length ≤ st'.length ∧ ∀ i, i < st.length → i ≠ w → st'[i]? = st[i]?
def Ap (st st' : Sto) : Prop := ∃ l, st' = st ++ l
theorem Dr.refl (w : Nat) (st : Sto) : Dr w st st := ⟨Nat.le_refl _, fun _ _ _ => rfl⟩
theorem Dr.trans {w : Nat} {a b c : Sto} (h : Dr w a b) (k : Dr w b c) : Dr w a c := ⟨Nat.le_trans h.1 k.1, fun i hi hw => (k.2 i (Nat.lt_of_lt_of_le hi h.1) hw).trans (h.2 i hi hw)⟩
theorem Dr.get {w : Nat} {st st' : Sto} (h : Dr w st st') {i : Nat} {o : Ob} (hw : i ≠ w) (g : st[i]? = some o) : st'[i]? = some o := by
  rw [h.2 i (List.getElem?_eq_some_iff.mp g).1 hw]
  exact g
theorem Ap.refl (st : Sto) : Ap st st := ⟨[], by simp⟩
theorem Ap.trans {a b c : Sto} (h : Ap a b) (k : Ap b c) : Ap a c := by
  obtain ⟨l, rfl⟩ := h
  obtain ⟨m, rfl⟩ := k
  exact ⟨l ++ m, by simp⟩
theorem Ap.one (st : Sto) (o : Ob) : Ap st (st ++ [o]) := ⟨[o], rfl⟩
theorem Ap.get {st st' : Sto} (h : Ap st st') {i : Nat} {o : Ob} (g : st[i]? = some o) : st'[i]? = some o := by
  obtain ⟨l, rfl⟩ := h
  rw [List.getElem?_append_left (List.getElem?_eq_some_iff.mp g).1]
  exact g
theorem Ap.le {st st' : Sto} (h : Ap st st') : st.length ≤ st'.length := by
  obtain ⟨l, rfl⟩ := h
  simp
theorem Ap.dr {w : Nat} {st st' : Sto} (h : Ap st st') : Dr w st st' := by
  obtain ⟨l, rfl⟩ := h
  exact ⟨by simp, fun i hi _ => List.getElem?_append_left hi⟩
theorem Dr.set {w : Nat} {st : Sto} (o : Ob) : Dr w st (st.set w o) := ⟨by simp, fun i hi hw => by rw [List.getElem?_set_ne (Ne.symm hw)]⟩
theorem Dr.app {w : Nat} {st st' : Sto} (h : Dr w st st') (o : Ob) : Dr w st (st' ++ [o]) := h.trans (Ap.one _ _).dr
/-- something new may change -/
theorem Dr.new {w : Nat} {st st' : Sto} (h : Dr w st st') {i : Nat} (o : Ob) (hi : st.length ≤ i) : Dr w st (st'.set i o) := ⟨by simpa using h.1, fun j hj hw => by rw [List.getElem?_set_ne (by omega)]; exact h.2 j hj hw⟩

/-! ### the well of a law -/
def WellAt (w : Nat) (st : Sto) : Prop := ∃ c s p : Int, st[w]? = some (.lst [.int c, .int s, .int p]) ∧ 0 ≤ s ∧ s ≤ 2147483648 ∧ 0 < p ∧ p ≤ 2147483647
theorem WellAt.ap {w : Nat} {st st' : Sto} (h : WellAt w st) (a : Ap st st') : WellAt w st' := by
  obtain ⟨c, s, p, h1, h2⟩ := h
  exact ⟨c, s, p, a.get h1, h2⟩
theorem WellAt.lt {w : Nat} {st : Sto} (h : WellAt w st) : w < st.length := by
  obtain ⟨c, s, p, h1, h2⟩ := h
  exact (List.getElem?_eq_some_iff.mp h1).1
theorem WellAt.set {w i : Nat} {st : Sto} (h : WellAt w st) (o : Ob) (hi : i ≠ w) : WellAt w (st.set i o) := by
  obtain ⟨c, s, p, h1, h2⟩ := h
  exact ⟨c, s, p, by rw [List.getElem?_set_ne hi]; exact h1, h2⟩
/-- a comprehension whose parts change nothing that was there: (xs.filter q).map f -/
theorem LcOb.fm {g : FG} {t : FT} {m : FE} {P : Val → Sto → Prop} {sl : Sl} {b : Itb} {st : Sto} (q : Val → Bool) (f : Val → Val) (hl : b.items.length ≤ LINE) (hv : ∀ st', Ap st st' → Live b.live b.items st')
    (h : ∀ x ∈ b.items, ∀ st1, Ap st st1 → wT g x sl st1 fun sl1 st2 => wX t sl1 st2 (fun c st3 => c = q x ∧ Ap st1 st3 ∧ (q x = true → wX m sl1 st3 (fun y st4 => y = f x ∧ Ap st1 st4) G0)) G0)
    (done : ∀ st', Ap st st' → P (.ref st'.length) (st' ++ [.lst ((b.items.filter q).map f)])) : LcOb g t m P sl b st := by
  refine ⟨hl, fun i acc st' => acc = ((b.items.take i).filter q).map f ∧ Ap st st', ⟨by simp, Ap.refl _⟩, fun i acc st' _ h => hv st' h.2, ?_, ?_⟩
  · rintro i x acc st1 hx ⟨rfl, a1⟩
    have hm : x ∈ b.items := List.mem_of_getElem? hx
    have ht : b.items.take (i + 1) = b.items.take i ++ [x] := by
      rw [List.take_add_one, hx]
      rfl
    obtain ⟨sl1, st2, h1, h2⟩ := h x hm st1 a1
    refine ⟨sl1, st2, h1, h2.mono ?_⟩
    rintro c st3 ⟨rfl, a3, h3⟩
    cases hq : q x with
    | true =>
      simp
      refine (h3 hq).mono ?_
      rintro y st4 ⟨rfl, a4⟩
      exact ⟨by rw [ht]; simp [hq], a1.trans a4⟩
    | false =>
      simp
      exact ⟨by rw [ht]; simp [hq], a1.trans a3⟩
  · rintro acc st' ⟨rfl, a⟩
    rw [List.take_length]
    exact done st' a
end FL
/-! PL3: the operations on values that are seen. -/
namespace FL
open PySem PySem.Spec PyProof.Rows L2
@[simp] theorem LINE_def : LINE = 16777216 := rfl
section
variable {st : Sto} {i j : Int} {s t : List Nat} {xs ys : List Val} {p q : Nat} {v w : Val}
@[simp] theorem fAdd_int : fAdd (.int i) (.int j) st = some (.int (i + j), st) := rfl
@[simp] theorem fAdd_str (h : s.length + t.length ≤ LINE) : fAdd (.str s) (.str t) st = some (.str (s ++ t), st) := if_pos h
@[simp] theorem fAdd_tup (h : xs.length + ys.length ≤ LINE) : fAdd (.tup xs) (.tup ys) st = some (.tup (xs ++ ys), st) := if_pos h
theorem fAdd_ref (h1 : st[p]? = some (Ob.lst xs)) (h2 : st[q]? = some (Ob.lst ys)) (h : xs.length + ys.length ≤ LINE) : fAdd (.ref p) (.ref q) st = some (.ref st.length, st ++ [Ob.lst (xs ++ ys)]) := by
  show (match st[p]?, st[q]? with | some (Ob.lst xs), some (Ob.lst ys) => if xs.length + ys.length ≤ LINE then some (Val.ref st.length, st ++ [Ob.lst (xs ++ ys)]) else none | _, _ => none) = _
  rw [h1, h2]
  exact if_pos h
@[simp] theorem fSub_int : fSub (.int i) (.int j) st = some (.int (i - j), st) := rfl
@[simp] theorem fMod_int (h : 0 < j) : fMod (.int i) (.int j) st = some (.int (i % j), st) := if_pos h
@[simp] theorem fDiv_int (h1 : 0 < j) (h2 : j < 1073741824) : fDiv (.int i) (.int j) st = some (.int (i / j), st) := if_pos ⟨h1, h2⟩
@[simp] theorem fMul_r (h1 : -(2 ^ 64) < j) (h2 : j < 2 ^ 64) : fMul (.int i) (.int j) st = some (.int (i * j), st) := if_pos (.inr ⟨h1, h2⟩)
theorem fMul_l (h1 : -(2 ^ 64) < i) (h2 : i < 2 ^ 64) : fMul (.int i) (.int j) st = some (.int (i * j), st) := if_pos (.inl ⟨h1, h2⟩)
@[simp] theorem fMul_str (h1 : 0 ≤ j) (h2 : j ≤ 1000) (h3 : s.length ≤ 1000) : fMul (.str s) (.int j) st = some (.str (reps j.toNat s), st) := if_pos ⟨h1, h2, h3⟩
theorem fMul_tup (h1 : 2 ≤ j) (h2 : j ≤ 1000) (h3 : xs.length ≤ 1000) (h4 : xs ≠ []) : fMul (.tup xs) (.int j) st = some (.tup (reps j.toNat xs), st) := if_pos ⟨h1, h2, h3, h4⟩
@[simp] theorem fPow_10_18 : fPow (.int 10) (.int 18) st = some (.int (10 ^ 18), st) := rfl
@[simp] theorem fPow_10_11 : fPow (.int 10) (.int 11) st = some (.int (10 ^ 11), st) := rfl
@[simp] theorem fLt_int : fLt (.int i) (.int j) st = some (.bl (decide (i < j)), st) := rfl
@[simp] theorem fLe_int : fLe (.int i) (.int j) st = some (.bl (decide (i ≤ j)), st) := rfl
@[simp] theorem fGt_int : fGt (.int i) (.int j) st = some (.bl (decide (j < i)), st) := rfl
@[simp] theorem fGe_int : fGe (.int i) (.int j) st = some (.bl (decide (j ≤ i)), st) := rfl
@[simp] theorem fLt_str : fLt (.str s) (.str t) st = some (.bl (decide (s < t)), st) := rfl
@[simp] theorem fLe_str : fLe (.str s) (.str t) st = some (.bl (!decide (t < s)), st) := rfl
@[simp] theorem atI_0 {α : Type} {a : α} {l : List α} : L2.atI (a :: l) 0 = some a := by simp [L2.atI, ixN]
@[simp] theorem atI_1 {α : Type} {a b : α} {l : List α} : L2.atI (a :: b :: l) 1 = some b := by
  have : (1 : Int) < (l.length : Int) + 1 + 1 := by omega
  simp [L2.atI, ixN, this]
@[simp] theorem atI_2 {α : Type} {a b c : α} {l : List α} : L2.atI (a :: b :: c :: l) 2 = some c := by
  have : (2 : Int) < (l.length : Int) + 1 + 1 + 1 := by omega
  simp [L2.atI, ixN, this]
theorem atI_at {α : Type} {l : List α} {i : Int} (h0 : 0 ≤ i) (h1 : i < l.length) : L2.atI l i = l[i.toNat]? := by
  simp [L2.atI, ixN, h0, h1]
@[simp] theorem fIx_tup : fIx (.tup xs) (.int i) st = (L2.atI xs i).map fun v => (v, st) := rfl
@[simp] theorem fIx_ref (h : st[p]? = some (Ob.lst xs)) : fIx (.ref p) (.int i) st = (L2.atI xs i).map fun v => (v, st) := by
  unfold fIx
  simp only [h]
@[simp] theorem fIx_scr {ns : List Int} : fIx (.scr ns) (.int i) st = (L2.atI ns i).map fun n => (.int n, st) := rfl
@[simp] theorem fIx_str (h : s.length ≤ LINE) : fIx (.str s) (.int i) st = (L2.atI s i).map fun c => (.str [c], st) := if_pos h
@[simp] theorem fSl_str {lo hi : Option Int} (h : s.length ≤ LINE) : fSl (.str s) lo hi st = some (.str (cutG s lo hi), st) := if_pos h
@[simp] theorem fSl_tup {lo hi : Option Int} : fSl (.tup xs) lo hi st = some (.tup (cutG xs lo hi), st) := rfl
@[simp] theorem fSl_ref {lo hi : Option Int} (h : st[p]? = some (Ob.lst xs)) : fSl (.ref p) lo hi st = some (.ref st.length, st ++ [Ob.lst (cutG xs lo hi)]) := by
  show (match st[p]? with | some (Ob.lst xs) => some (Val.ref st.length, st ++ [Ob.lst (cutG xs lo hi)]) | _ => none) = _
  rw [h]
@[simp] theorem revO_ref (h : st[p]? = some (Ob.lst xs)) : revO st (.ref p) = some (.ref st.length, st ++ [Ob.lst xs.reverse]) := by
  show (match st[p]? with | some (Ob.lst xs) => some (Val.ref st.length, st ++ [Ob.lst xs.reverse]) | _ => none) = _
  rw [h]
@[simp] theorem fSetI_ref (h : st[p]? = some (Ob.lst xs)) : fSetI (.ref p) (.int i) v st = (ixN xs.length i).map fun n => st.set p (Ob.lst (xs.set n v)) := by
  unfold fSetI
  simp only [h]
@[simp] theorem ixN_0 {n : Nat} (h : 0 < n) : ixN n 0 = some 0 := by simp [ixN, h]
@[simp] theorem ixN_1 {n : Nat} (h : 1 < n) : ixN n 1 = some 1 := by
  have : (1 : Int) < (n : Int) := by omega
  simp [ixN, this]
@[simp] theorem ixN_2 {n : Nat} (h : 2 < n) : ixN n 2 = some 2 := by
  have : (2 : Int) < (n : Int) := by omega
  simp [ixN, this]
@[simp] theorem ixN_m1 {n : Nat} (h : 0 < n) : ixN n (-1) = some (n - 1) := by
  have h1 : -(n : Int) ≤ -1 := by omega
  have h2 : (-1 + (n : Int)).toNat = n - 1 := by omega
  simp [ixN, h1, h2]
theorem ixN_at {n : Nat} (h0 : 0 ≤ i) (h1 : i < n) : ixN n i = some i.toNat := by simp [ixN, h0, h1]
@[simp] theorem fLen_str (h : s.length ≤ LINE) : fLen [.str s] st = some (.int s.length, st) := if_pos h
@[simp] theorem fLen_tup : fLen [.tup xs] st = some (.int xs.length, st) := rfl
@[simp] theorem fLen_scr {ns : List Int} : fLen [.scr ns] st = some (.int ns.length, st) := rfl
@[simp] theorem fLen_ref (h : st[p]? = some (Ob.lst xs)) : fLen [.ref p] st = some (.int xs.length, st) := by
  show (match st[p]? with | some (Ob.lst xs) => some (Val.int xs.length, st) | _ => none) = _
  rw [h]
@[simp] theorem fOrd_one {c : Nat} : fOrd [.str [c]] st = some (.int c, st) := rfl
@[simp] theorem fAll_ref (h : st[p]? = some (Ob.lst xs)) : fAll [.ref p] st = (allB xs).map fun c => (.bl c, st) := by
  show (match st[p]? with | some (Ob.lst xs) => (allB xs).map (fun c => (Val.bl c, st)) | _ => none) = _
  rw [h]
@[simp] theorem fAny_ref (h : st[p]? = some (Ob.lst xs)) : fAny [.ref p] st = (anyB xs).map fun c => (.bl c, st) := by
  show (match st[p]? with | some (Ob.lst xs) => (anyB xs).map (fun c => (Val.bl c, st)) | _ => none) = _
  rw [h]
@[simp] theorem allB_map (bs : List Bool) : allB (bs.map Val.bl) = some (bs.all id) := by
  induction bs with
  | nil => rfl
  | cons b bs ih =>
    show (match allB (bs.map Val.bl) with | some c => some (b && c) | none => none) = _
    rw [ih]
    rfl
@[simp] theorem allB_comp {α : Type} (f : α → Bool) (l : List α) : allB (l.map (Val.bl ∘ f)) = some (l.all f) := by
  rw [← List.map_map, allB_map, List.all_map]
  rfl
@[simp] theorem allB_fun {α : Type} (f : α → Bool) (l : List α) : allB (l.map fun x => Val.bl (f x)) = some (l.all f) := allB_comp f l
@[simp] theorem anyB_map (bs : List Bool) : anyB (bs.map Val.bl) = some (bs.any id) := by
  induction bs with
  | nil => rfl
  | cons b bs ih =>
    show (match anyB (bs.map Val.bl) with | some c => some (b || c) | none => none) = _
    rw [ih]
    rfl
@[simp] theorem fListOf_tup : fListOf [.tup xs] st = some (.ref st.length, st ++ [Ob.lst xs]) := rfl
@[simp] theorem fListOf_ref (h : st[p]? = some (Ob.lst xs)) : fListOf [.ref p] st = some (.ref st.length, st ++ [Ob.lst xs]) := by
  show (match st[p]? with | some (Ob.lst xs) => some (Val.ref st.length, st ++ [Ob.lst xs]) | _ => none) = _
  rw [h]
@[simp] theorem fTupOf_tup : fTupOf [.tup xs] st = some (.tup xs, st) := rfl
@[simp] theorem fTupOf_ref (h : st[p]? = some (Ob.lst xs)) : fTupOf [.ref p] st = some (.tup xs, st) := by
  show (match st[p]? with | some (Ob.lst xs) => some (Val.tup xs, st) | _ => none) = _
  rw [h]
@[simp] theorem fJoin_ref {ss : List (List Nat)} (h : st[p]? = some (Ob.lst (ss.map Val.str))) (h2 : (ss.map List.length).sum + ss.length * s.length ≤ LINE) : fJoin (.str s) [.ref p] st = some (.str (jn s ss), st) := by
  have e : strsOf (ss.map Val.str) = some ss := by
    clear h h2
    induction ss with
    | nil => rfl
    | cons b bs ih =>
      show (match strsOf (bs.map Val.str) with | some ss => some (b :: ss) | none => none) = _
      rw [ih]
  show (match st[p]? with
    | some (Ob.lst ys) => (match strsOf ys with
      | some ss => if (ss.map List.length).sum + ss.length * s.length ≤ LINE then some (Val.str (jn s ss), st) else none
      | none => none)
    | _ => none) = _
  rw [h]
  simp only [e]
  exact if_pos h2
theorem jn_nil : ∀ (ss : List (List Nat)), jn [] ss = ss.flatten
  | [] => rfl
  | p :: ss => by
    show ss.foldl (fun acc q => acc ++ [] ++ q) p = p ++ ss.flatten
    have : ∀ (l : List (List Nat)) (a : List Nat), l.foldl (fun acc q => acc ++ [] ++ q) a = a ++ l.flatten := fun l => by
      induction l with
      | nil => intro a; simp
      | cons x l ih => intro a; rw [List.foldl_cons, ih]; simp
    exact this ss p
@[simp] theorem fMin2_int : fMin2 [.int i, .int j] st = some (.int (if j < i then j else i), st) := rfl
@[simp] theorem fMax2_int : fMax2 [.int i, .int j] st = some (.int (if j > i then j else i), st) := rfl
@[simp] theorem kind_str : kindOf "str" st (.str s) = true := rfl
theorem kind_lst (h : st[p]? = some (Ob.lst xs)) : kindOf "list" st (.ref p) = true := by
  show (match st[p]? with | some (.lst _) => "list" == "list" | some (.dic _) => "list" == "dict" | _ => false) = true
  rw [h]
  rfl
theorem onL_ref {g : List Val → List Val → Option (Val × List Val)} (h : st[p]? = some (Ob.lst xs)) : onL g (.ref p) ys st = (g xs ys).map fun (r : Val × List Val) => (r.1, st.set p (Ob.lst r.2)) := by
  show (match st[p]? with | some (Ob.lst zs) => (g zs ys).map (fun (r : Val × List Val) => (r.1, st.set p (Ob.lst r.2))) | _ => none) = _
  rw [h]
@[simp] theorem gAppend_one (h : xs.length < LINE) : gAppend xs [v] = some (.non, xs ++ [v]) := if_pos h
@[simp] theorem asIt_tup : asIt st (.tup xs) = some ⟨xs, .none⟩ := rfl
@[simp] theorem asIt_str : asIt st (.str s) = some ⟨s.map fun c => .str [c], .none⟩ := rfl
@[simp] theorem asIt_ref (h : st[p]? = some (Ob.lst xs)) : asIt st (.ref p) = some ⟨xs, .some p⟩ := by
  show (match st[p]? with | some (Ob.lst xs) => some (Itb.mk xs (.some p)) | _ => none) = _
  rw [h]
/-! dicts -/
variable {kvs : List (Key × Val)} {k : Key} {y : Val}
@[simp] theorem keyOf_str : keyOf (.str s) = some (.inr (St' s)) := rfl
@[simp] theorem keyOf_int : keyOf (.int i) = some (.inl i) := rfl
@[simp] theorem fIx_dic (h : st[p]? = some (Ob.dic kvs)) (hk : keyOf y = some k) : fIx (.ref p) y st = (getK kvs k).map fun v => (v, st) := by
  cases y <;> first
    | (cases hk; done)
    | (unfold fIx
       simp only [h, hk, Option.bind_some])
theorem fSetI_dic (h : st[p]? = some (Ob.dic kvs)) (hk : keyOf y = some k) (hl : kvs.length < LINE) : fSetI (.ref p) y v st = some (st.set p (Ob.dic (setK kvs k v))) := by
  unfold fSetI
  simp only [h, hk, Option.bind_some]
  exact if_pos hl
theorem fDGet_one (h : st[p]? = some (Ob.dic kvs)) (hk : keyOf y = some k) : fDGet (.ref p) [y] st = some ((getK kvs k).getD .non, st) := by
  unfold fDGet
  simp only [h, hk, Option.map_some]
theorem fDGet_two (h : st[p]? = some (Ob.dic kvs)) (hk : keyOf y = some k) : fDGet (.ref p) [y, v] st = some ((getK kvs k).getD v, st) := by
  unfold fDGet
  simp only [h, hk, Option.map_some]
theorem kind_dic (h : st[p]? = some (Ob.dic kvs)) : kindOf "dict" st (.ref p) = true := by
  unfold kindOf
  simp only [h]
  rfl
@[simp] theorem fIsN_non : fIsN v .non st = some (.bl (nonB v), st) := rfl
@[simp] theorem fNotN_non : fNotN v .non st = some (.bl (!nonB v), st) := rfl
@[simp] theorem nonB_non : nonB .non = true := rfl
@[simp] theorem nonB_int : nonB (.int i) = false := rfl
@[simp] theorem nonB_str : nonB (.str s) = false := rfl
@[simp] theorem nonB_tup : nonB (.tup xs) = false := rfl
@[simp] theorem nonB_ref : nonB (.ref p) = false := rfl
@[simp] theorem fIn_sign {c : Nat} : fIn (.str [c]) (.str t) st = some (.bl (decide (c ∈ t)), st) := rfl
@[simp] theorem fNotIn_sign {c : Nat} : fNotIn (.str [c]) (.str t) st = some (.bl (!decide (c ∈ t)), st) := rfl
theorem fIn_dic (h : st[p]? = some (Ob.dic kvs)) (hk : keyOf y = some k) : fIn y (.ref p) st = some (.bl (getK kvs k).isSome, st) := by
  unfold fIn fInB
  simp only [h, hk, Option.map_some]
theorem fNotIn_dic (h : st[p]? = some (Ob.dic kvs)) (hk : keyOf y = some k) : fNotIn y (.ref p) st = some (.bl (!(getK kvs k).isSome), st) := by
  unfold fNotIn fInB
  simp only [h, hk, Option.map_some]
@[simp] theorem fInt1_int : fInt1 [.int i] st = some (.int i, st) := rfl
@[simp] theorem fInt1_bl {b : Bool} : fInt1 [.bl b] st = some (.int (if b then 1 else 0), st) := rfl
@[simp] theorem fIAdd_int : fIAdd (.int i) (.int j) st = some (.int (i + j), st) := rfl
@[simp] theorem fIAdd_str (h : s.length + t.length ≤ LINE) : fIAdd (.str s) (.str t) st = some (.str (s ++ t), st) := if_pos h
@[simp] theorem fMulL_int : fMulL (.int i) (.int j) st = fMul (.int i) (.int j) st := rfl
@[simp] theorem fMulL_str : fMulL (.str s) (.int j) st = fMul (.str s) (.int j) st := rfl
@[simp] theorem fMulL_tup : fMulL (.tup xs) (.int j) st = fMul (.tup xs) (.int j) st := rfl
theorem fMulL_ref (h : st[p]? = some (Ob.lst xs)) (h1 : -(2 ^ 62) ≤ j) (h2 : j < 2 ^ 62) (h3 : xs.length * j.toNat ≤ LINE) : fMulL (.ref p) (.int j) st = some (.ref st.length, st ++ [Ob.lst (reps j.toNat xs)]) := by
  unfold fMulL
  simp only [h]
  exact if_pos ⟨h1, h2, h3⟩
@[simp] theorem asEnum_tup : asEnum st (.tup xs) = some ⟨enumV xs, .none⟩ := rfl
@[simp] theorem asEnum_str : asEnum st (.str s) = some ⟨enumV (s.map fun c => .str [c]), .none⟩ := rfl
@[simp] theorem asEnum_ref (h : st[p]? = some (Ob.lst xs)) : asEnum st (.ref p) = some ⟨enumV xs, .two p xs p xs⟩ := by
  unfold asEnum
  simp only [h]
@[simp] theorem asRev_tup : asRev st (.tup xs) = some ⟨xs.reverse, .none⟩ := rfl
@[simp] theorem asRev_ref (h : st[p]? = some (Ob.lst xs)) : asRev st (.ref p) = some ⟨xs.reverse, .two p xs p xs⟩ := by
  unfold asRev
  simp only [h]
theorem gExtend_ref (h1 : st[p]? = some (Ob.lst xs)) (h2 : st[q]? = some (Ob.lst ys)) (hl : xs.length + ys.length ≤ LINE) : gExtend (.ref p) [.ref q] st = some (.non, st.set p (Ob.lst (xs ++ ys))) := by
  unfold gExtend
  simp only [h1, h2]
  exact if_pos hl
/-! isinstance -/
def isiB (t : String) (st : Sto) (v : Val) : Option Bool := match tyN st v with
  | some n => isSub n t
  | none => none
theorem fIsi_eq {t : String} {c : Bool} (h : isiB t st v = some c) : fIsi [v, .ty t] st = some (.bl c, st) := by
  unfold isiB at h
  show (match tyN st v with | some n => (isSub n t).map (fun c => (Val.bl c, st)) | none => none) = _
  cases h1 : tyN st v with
  | none => rw [h1] at h; cases h
  | some n =>
    rw [h1] at h
    simp only [h]
    rfl
end
end FL
/-! PL4: ==; things of any kind, bounded in depth and size. -/
namespace FL
open PySem PySem.Spec PyProof.Rows L2

/-- a text of bounded size and of usual signs -/
def OkS (c : Nat) (s : List Nat) : Prop := s.length ≤ c ∧ ∀ x ∈ s, x < 128
theorem OkS.mono {c d : Nat} {s : List Nat} (h : OkS c s) (e : c ≤ d) : OkS d s := ⟨Nat.le_trans h.1 e, h.2⟩
theorem strOk_of {s : List Nat} (h : ∀ x ∈ s, x < 128) : PyData.strOk (St' s) = true := by
  unfold PyData.strOk
  rw [Array.all_eq_true]
  intro i hi
  have h1 : s.toArray[i] ∈ s := by
    rw [List.getElem_toArray]
    exact List.getElem_mem _
  have h2 := h _ h1
  exact decide_eq_true (Nat.lt_trans h2 (by decide))
/-- a thing of bounded depth and size, none of its lists among the numbers B -/
def Gd (B : Nat → Prop) (c : Nat) (st : Sto) : Nat → Val → Prop
  | 0, v => match v with
    | .non => True
    | .bl _ => True
    | .int _ => True
    | .str s => OkS c s
    | _ => False
  | n + 1, v => match v with
    | .non => True
    | .bl _ => True
    | .int _ => True
    | .str s => OkS c s
    | .tup xs => xs.length ≤ c ∧ ∀ x ∈ xs, Gd B c st n x
    | .ref i => ¬ B i ∧ ∃ xs, st[i]? = some (.lst xs) ∧ xs.length ≤ c ∧ ∀ x ∈ xs, Gd B c st n x
    | _ => False
section
variable {w c : Nat} {st st' : Sto} {B : Nat → Prop}
theorem Gd.keepB (d : ∀ i o, ¬ B i → st[i]? = some o → st'[i]? = some o) : ∀ {n : Nat} {v : Val}, Gd B c st n v → Gd B c st' n v
  | 0, v, h => by cases v <;> exact h
  | n + 1, v, h => by
    cases v with
    | tup xs => exact ⟨h.1, fun x hx => Gd.keepB d (h.2 x hx)⟩
    | ref i =>
      obtain ⟨h1, xs, h2, h3, h4⟩ := h
      exact ⟨h1, xs, d _ _ h1 h2, h3, fun x hx => Gd.keepB d (h4 x hx)⟩
    | _ => exact h
theorem Gd.keep (hB : B w) (d : Dr w st st') {n : Nat} {v : Val} (h : Gd B c st n v) : Gd B c st' n v :=
  h.keepB fun i o hi e => d.get (fun z => hi (by rw [z]; exact hB)) e
theorem Gd.keepA (d : Ap st st') {n : Nat} {v : Val} (h : Gd B c st n v) : Gd B c st' n v := h.keepB fun i o hi e => d.get e
theorem Gd.weak {B' : Nat → Prop} (d : ∀ i, i < st.length → B' i → B i) : ∀ {n : Nat} {v : Val}, Gd B c st n v → Gd B' c st n v
  | 0, v, h => by cases v <;> exact h
  | n + 1, v, h => by
    cases v with
    | tup xs => exact ⟨h.1, fun x hx => Gd.weak d (h.2 x hx)⟩
    | ref i =>
      obtain ⟨h1, xs, h2, h3, h4⟩ := h
      exact ⟨fun z => h1 (d i (List.getElem?_eq_some_iff.mp h2).1 z), xs, h2, h3, fun x hx => Gd.weak d (h4 x hx)⟩
    | _ => exact h
theorem Gd.up : ∀ {n : Nat} {v : Val}, Gd B c st n v → Gd B c st (n + 1) v
  | 0, v, h => by cases v <;> first | exact h | exact h.elim
  | n + 1, v, h => by
    cases v with
    | tup xs => exact ⟨h.1, fun x hx => Gd.up (h.2 x hx)⟩
    | ref i =>
      obtain ⟨h1, xs, h2, h3, h4⟩ := h
      exact ⟨h1, xs, h2, h3, fun x hx => Gd.up (h4 x hx)⟩
    | _ => exact h
theorem Gd.le {n m : Nat} {v : Val} (h : Gd B c st n v) (e : n ≤ m) : Gd B c st m v := by
  induction e with
  | refl => exact h
  | step _ ih => exact ih.up
theorem Gd.more {c' : Nat} (e : c ≤ c') : ∀ {n : Nat} {v : Val}, Gd B c st n v → Gd B c' st n v
  | 0, v, h => by
    cases v with
    | str s => exact OkS.mono h e
    | _ => exact h
  | n + 1, v, h => by
    cases v with
    | str s => exact OkS.mono h e
    | tup xs => exact ⟨Nat.le_trans h.1 e, fun x hx => Gd.more e (h.2 x hx)⟩
    | ref i =>
      obtain ⟨h1, xs, h2, h3, h4⟩ := h
      exact ⟨h1, xs, h2, Nat.le_trans h3 e, fun x hx => Gd.more e (h4 x hx)⟩
    | _ => exact h
theorem mapO_some {α β : Type} {f : α → Option β} {R : β → Prop} : ∀ {xs : List α}, (∀ x ∈ xs, ∃ d, f x = some d ∧ R d) → ∃ ds, mapO f xs = some ds ∧ ds.length = xs.length ∧ ∀ d ∈ ds, R d
  | [], _ => ⟨[], rfl, rfl, by simp⟩
  | x :: xs, h => by
    obtain ⟨d, h1, h2⟩ := h x List.mem_cons_self
    obtain ⟨ds, h3, h4, h5⟩ := mapO_some (xs := xs) fun y hy => h y (List.mem_cons_of_mem _ hy)
    refine ⟨d :: ds, by unfold mapO; rw [h1, h3], by simp [h4], fun e he => ?_⟩
    rcases List.mem_cons.mp he with rfl | he
    · exact h2
    · exact h5 e he
theorem canAll {ds : List PyData} (h : ∀ d ∈ ds, PyData.canLay0 d = true) : PyData.canLayAll0 ds = true := by
  induction ds with
  | nil => simp [PyData.canLayAll0]
  | cons d ds ih => simp [PyData.canLayAll0, h d List.mem_cons_self, ih fun e he => h e (List.mem_cons_of_mem _ he)]
theorem depAll {k : Nat} {ds : List PyData} (h : ∀ d ∈ ds, PyData.depth d ≤ k) : PyData.depthAll ds ≤ k := by
  induction ds with
  | nil => simp [PyData.depthAll]
  | cons d ds ih =>
    have h1 := h d List.mem_cons_self
    have h2 := ih fun e he => h e (List.mem_cons_of_mem _ he)
    simp [PyData.depthAll]
    omega
theorem Gd.toD : ∀ {n m : Nat} {v : Val}, Gd B c st n v → n < m → ∃ d, FL.toD m st v = some d ∧ PyData.canLay0 d = true ∧ PyData.depth d ≤ n
  | n, 0, v, _, e => absurd e (Nat.not_lt_zero _)
  | 0, m + 1, v, h, _ => by
    cases v with
    | non => exact ⟨_, rfl, by simp [PyData.canLay0], by simp [PyData.depth]⟩
    | bl b => exact ⟨_, rfl, by simp [PyData.canLay0], by simp [PyData.depth]⟩
    | int b => exact ⟨_, rfl, by simp [PyData.canLay0], by simp [PyData.depth]⟩
    | str s => exact ⟨_, rfl, by simp only [PyData.canLay0]; exact strOk_of h.2, by simp [PyData.depth]⟩
    | _ => exact h.elim
  | n + 1, m + 1, v, h, e => by
    cases v with
    | non => exact ⟨_, rfl, by simp [PyData.canLay0], by simp [PyData.depth]⟩
    | bl b => exact ⟨_, rfl, by simp [PyData.canLay0], by simp [PyData.depth]⟩
    | int b => exact ⟨_, rfl, by simp [PyData.canLay0], by simp [PyData.depth]⟩
    | str s => exact ⟨_, rfl, by simp only [PyData.canLay0]; exact strOk_of h.2, by simp [PyData.depth]⟩
    | tup xs =>
      obtain ⟨ds, h1, h2, h3⟩ := mapO_some (R := fun d => PyData.canLay0 d = true ∧ PyData.depth d ≤ n) fun x hx => Gd.toD (h.2 x hx) (show n < m by omega)
      refine ⟨.tuple ds, by show (mapO (FL.toD m st) xs).map PyData.tuple = _; rw [h1]; rfl, by simp only [PyData.canLay0]; exact canAll fun d hd => (h3 d hd).1, ?_⟩
      have := depAll fun d hd => (h3 d hd).2
      simp only [PyData.depth]
      omega
    | ref i =>
      obtain ⟨_, xs, hx, _, h4⟩ := h
      obtain ⟨ds, h1, h2, h3⟩ := mapO_some (R := fun d => PyData.canLay0 d = true ∧ PyData.depth d ≤ n) fun x hx => Gd.toD (h4 x hx) (show n < m by omega)
      refine ⟨.list ds, by show (match st[i]? with | some (Ob.lst xs) => (mapO (FL.toD m st) xs).map PyData.list | _ => none) = _; rw [hx]; simp only [h1]; rfl, by simp only [PyData.canLay0]; exact canAll fun d hd => (h3 d hd).1, ?_⟩
      have := depAll fun d hd => (h3 d hd).2
      simp only [PyData.depth]
      omega
    | _ => exact h.elim
theorem shaped_of {d : PyData} (h1 : PyData.canLay0 d = true) (h2 : PyData.depth d ≤ 64) : SeqAt.shaped d = true := by
  unfold SeqAt.shaped
  rw [h1, decide_eq_true h2]
  rfl
theorem fEqB_gd {n m : Nat} {a b : Val} (ha : Gd B c st n a) (hb : Gd B c st m b) (hn : n < 9) (hm : m < 9) : ∃ d e, FL.toD 9 st a = some d ∧ FL.toD 9 st b = some e ∧ fEqB a b st = some (PyData.eqv d e) := by
  obtain ⟨d, h1, h2, h3⟩ := ha.toD hn
  obtain ⟨e, h4, h5, h6⟩ := hb.toD hm
  refine ⟨d, e, h1, h4, ?_⟩
  unfold fEqB
  rw [h1, h4]
  exact if_pos ⟨shaped_of h2 (by omega), shaped_of h5 (by omega)⟩
/-- a list against the empty one -/
theorem fEq_nil {p q n : Nat} {xs : List Val} (h1 : st[p]? = some (.lst xs)) (h2 : st[q]? = some (.lst [])) (hx : ∀ x ∈ xs, Gd B c st n x) (hn : n < 8) : fEq (.ref p) (.ref q) st = some (.bl (decide (xs = [])), st) := by
  obtain ⟨ds, h3, h4, h5⟩ := mapO_some (R := fun d => PyData.canLay0 d = true ∧ PyData.depth d ≤ n) fun x hx' => (hx x hx').toD (show n < 8 by omega)
  have e1 : FL.toD 9 st (.ref p) = some (.list ds) := by
    show (match st[p]? with | some (Ob.lst xs) => (mapO (FL.toD 8 st) xs).map PyData.list | _ => none) = _
    rw [h1]
    simp only [h3]
    rfl
  have e2 : FL.toD 9 st (.ref q) = some (.list []) := by
    show (match st[q]? with | some (Ob.lst xs) => (mapO (FL.toD 8 st) xs).map PyData.list | _ => none) = _
    rw [h2]
    rfl
  have d1 := depAll fun d hd => (h5 d hd).2
  have e3 : SeqAt.shaped (.list ds) = true := shaped_of (by simp only [PyData.canLay0]; exact canAll fun d hd => (h5 d hd).1) (by simp only [PyData.depth]; omega)
  have e4 : SeqAt.shaped (.list []) = true := by decide
  unfold fEq fEqB
  rw [e1, e2]
  simp only [e3, e4, and_self, if_true, Option.map_some]
  congr 3
  cases xs with
  | nil =>
    cases ds with
    | nil => rfl
    | cons d ds => simp at h4
  | cons x xs =>
    cases ds with
    | nil => simp at h4
    | cons d ds => rfl
theorem fEq_of {a b : Val} {d e : PyData} (h1 : FL.toD 9 st a = some d) (h2 : FL.toD 9 st b = some e) (h3 : SeqAt.shaped d = true) (h4 : SeqAt.shaped e = true) : fEq a b st = some (.bl (PyData.eqv d e), st) := by
  unfold fEq fEqB
  rw [h1, h2]
  simp only [h3, h4, and_self, if_true, Option.map_some]
theorem fNe_of {a b : Val} {d e : PyData} (h1 : FL.toD 9 st a = some d) (h2 : FL.toD 9 st b = some e) (h3 : SeqAt.shaped d = true) (h4 : SeqAt.shaped e = true) : fNe a b st = some (.bl (!PyData.eqv d e), st) := by
  unfold fNe fEqB
  rw [h1, h2]
  simp only [h3, h4, and_self, if_true, Option.map_some]
@[simp] theorem fEq_int {i j : Int} : fEq (.int i) (.int j) st = some (.bl (decide (i = j)), st) := by
  rw [fEq_of rfl rfl rfl rfl]
  simp only [PyData.eqv, Bool.beq_eq_decide_eq]
@[simp] theorem fNe_int {i j : Int} : fNe (.int i) (.int j) st = some (.bl (!decide (i = j)), st) := by
  rw [fNe_of rfl rfl rfl rfl]
  simp only [PyData.eqv, Bool.beq_eq_decide_eq]
@[simp] theorem fEq_bl {i j : Bool} : fEq (.bl i) (.bl j) st = some (.bl (i == j), st) := by
  rw [fEq_of rfl rfl rfl rfl]
  simp only [PyData.eqv]
def isTup : Val → Bool
  | .tup _ => true
  | _ => false
def isInt : Val → Bool
  | .int _ => true
  | .bl _ => true
  | _ => false
def isBl : Val → Bool
  | .bl _ => true
  | _ => false
def isStr : Val → Bool
  | .str _ => true
  | _ => false
theorem tyN_gd {n : Nat} {v : Val} (h : Gd B c st n v) : ∃ t, tyN st v = some t ∧ isSub t "tuple" = some (isTup v) ∧ isSub t "int" = some (isInt v) ∧ isSub t "bool" = some (isBl v) ∧ isSub t "str" = some (isStr v) := by
  cases v with
  | ref i =>
    cases n with
    | zero => exact h.elim
    | succ n =>
      obtain ⟨_, xs, h2, _⟩ := h
      refine ⟨"list", ?_, rfl, rfl, rfl, rfl⟩
      show (match st[i]? with | some (Ob.lst _) => some "list" | some (Ob.dic _) => some "dict" | _ => none) = _
      rw [h2]
  | scr ns => cases n <;> exact h.elim
  | ty ns => cases n <;> exact h.elim
  | glo ns => cases n <;> exact h.elim
  | exc ns => cases n <;> exact h.elim
  | _ => exact ⟨_, rfl, rfl, rfl, rfl, rfl⟩
theorem isi_tup {n : Nat} {v : Val} (h : Gd B c st n v) : fIsi [v, .ty "tuple"] st = some (.bl (isTup v), st) := by
  obtain ⟨t, h1, h2, h3, h4, h5⟩ := tyN_gd h
  exact fIsi_eq (by unfold isiB; rw [h1]; exact h2)
theorem isi_int {n : Nat} {v : Val} (h : Gd B c st n v) : fIsi [v, .ty "int"] st = some (.bl (isInt v), st) := by
  obtain ⟨t, h1, h2, h3, h4, h5⟩ := tyN_gd h
  exact fIsi_eq (by unfold isiB; rw [h1]; exact h3)
theorem isi_bl {n : Nat} {v : Val} (h : Gd B c st n v) : fIsi [v, .ty "bool"] st = some (.bl (isBl v), st) := by
  obtain ⟨t, h1, h2, h3, h4, h5⟩ := tyN_gd h
  exact fIsi_eq (by unfold isiB; rw [h1]; exact h4)
theorem isi_str {n : Nat} {v : Val} (h : Gd B c st n v) : fIsi [v, .ty "str"] st = some (.bl (isStr v), st) := by
  obtain ⟨t, h1, h2, h3, h4, h5⟩ := tyN_gd h
  exact fIsi_eq (by unfold isiB; rw [h1]; exact h5)
@[simp] theorem isi_bl_bl {b : Bool} : fIsi [.bl b, .ty "bool"] st = some (.bl true, st) := rfl
end
end FL
/-! PL5: more of the calculus. -/
namespace FL
open PySem L2
section
variable {sl : Sl} {st : Sto} {v : Val} {PS : RS → Prop} {G : EP'}
theorem wX_ret' {α : Type} {v : Sto → α} {f : Sto → Sto} {Q : α → Sto → Prop} : wX (fun _ st => some (R.ok (v st) (f st))) sl st Q G ↔ Q (v st) (f st) := ⟨fun ⟨r, h, q⟩ => by cases h; exact q, fun h => ⟨_, rfl, h⟩⟩
@[simp ↓] theorem wT_unl {Q : Sl → Sto → Prop} {g : FGs} {k : Nat} : wT (gUnL g k) v sl st Q ↔ ∃ p xs, v = .ref p ∧ st[p]? = some (Ob.lst xs) ∧ xs.length = k ∧ wTs g xs sl st Q := by
  unfold wTs wT gUnL
  constructor
  · rintro ⟨sl2, st2, h1, q⟩
    split at h1
    · rename_i p
      split at h1
      · rename_i xs h5
        split at h1
        · rename_i hl
          exact ⟨p, xs, rfl, h5, hl, _, _, h1, q⟩
        · cases h1
      · cases h1
    · cases h1
  · rintro ⟨p, xs, rfl, h5, hl, sl2, st2, h1, q⟩
    exact ⟨sl2, st2, by simp only [h5, if_pos hl]; exact h1, q⟩
@[simp ↓] theorem wS_par {i j : Nat} {m : FA} : wS (fPar i j m) sl st PS ↔ wX m sl st (fun vs st1 => ∃ v w, vs = [v, w] ∧ PS (.nx ((sl.set i (some v)).set j (some w)) st1)) (fun c st' => PS (.ex c sl st')) := by
  unfold fPar
  rw [wS_bnd]
  refine wX_congr fun x st' => ?_
  unfold wS
  constructor
  · rintro ⟨r, h1, q⟩
    split at h1
    · cases h1
      exact ⟨_, _, rfl, q⟩
    · cases h1
  · rintro ⟨v, w, rfl, q⟩
    exact ⟨_, rfl, q⟩
@[simp ↓] theorem wS_par3 {i j l : Nat} {m : FA} : wS (fPar3 i j l m) sl st PS ↔ wX m sl st (fun vs st1 => ∃ u v w, vs = [u, v, w] ∧ PS (.nx (((sl.set i (some u)).set j (some v)).set l (some w)) st1)) (fun c st' => PS (.ex c sl st')) := by
  unfold fPar3
  rw [wS_bnd]
  refine wX_congr fun x st' => ?_
  unfold wS
  constructor
  · rintro ⟨r, h1, q⟩
    split at h1
    · cases h1
      exact ⟨_, _, _, rfl, q⟩
    · cases h1
  · rintro ⟨u, v, w, rfl, q⟩
    exact ⟨_, rfl, q⟩
@[simp ↓] theorem wX_enum {mas : FA} {Q : Itb → Sto → Prop} : wX (fEnum mas) sl st Q G ↔ wX mas sl st (fun vs st' => ∃ x b, vs = [x] ∧ asEnum st' x = some b ∧ Q b st') G := by
  simp only [fEnum, wX_bnd]
  refine wX_congr fun x st' => ?_
  unfold wX
  constructor
  · rintro ⟨r, h1, q⟩
    split at h1
    · obtain ⟨b, h2, rfl⟩ := Option.map_eq_some_iff.mp h1
      exact ⟨_, b, rfl, h2, q⟩
    · cases h1
  · rintro ⟨x, b, rfl, h1, q⟩
    exact ⟨.ok b st', by simp only [h1]; rfl, q⟩
@[simp ↓] theorem wX_rev {me : FE} {Q : Itb → Sto → Prop} : wX (fRev me) sl st Q G ↔ wX me sl st (fun x st' => ∃ b, asRev st' x = some b ∧ Q b st') G := by
  simp only [fRev, wX_bnd]
  refine wX_congr fun x st' => ?_
  unfold wX
  constructor
  · rintro ⟨r, h1, q⟩
    obtain ⟨b, h2, rfl⟩ := Option.map_eq_some_iff.mp h1
    exact ⟨b, h2, q⟩
  · rintro ⟨b, h1, q⟩
    exact ⟨.ok b st', by simp only [h1]; rfl, q⟩
@[simp ↓] theorem wX_sortIt {me : FE} {Q : Val → Sto → Prop} : wX (fSortIt me) sl st Q G ↔ wX me sl st (fun x st' => ∃ p kvs ks, x = .ref p ∧ st'[p]? = some (.dic kvs) ∧ keysS kvs = some ks ∧ Q (.ref st'.length) (st' ++ [.lst ((srtS ks).map fun e => .tup [.str e.1.cps.toList, e.2])])) G := by
  unfold fSortIt
  rw [wX_bnd]
  refine wX_congr fun x st' => ?_
  rw [wX_lft]
  unfold wG
  constructor
  · rintro ⟨v, s2, h1, q⟩
    split at h1
    · rename_i p
      split at h1
      · rename_i kvs h2
        obtain ⟨ks, h3, h4⟩ := Option.map_eq_some_iff.mp h1
        cases h4
        exact ⟨p, kvs, ks, rfl, h2, h3, q⟩
      · cases h1
    · cases h1
  · rintro ⟨p, kvs, ks, rfl, h2, h3, q⟩
    exact ⟨_, _, by simp only [h2, h3, Option.map_some], q⟩
@[simp ↓] theorem wX_callK {F : FF} {n j : Nat} {gD : List Val → List Val → List Val} {m mk : FA} {Q : Val → Sto → Prop} : wX (fCallK F n j gD m mk) sl st Q G ↔ wX m sl st (fun xs st1 => wX mk sl st1 (fun zs st2 => (xs.length = n ∧ zs.length = j) ∧ wF F (gD xs zs) st2 Q G) G) G := by
  unfold fCallK
  rw [wX_bnd]
  refine wX_congr fun xs st1 => ?_
  rw [wX_bnd]
  refine wX_congr fun zs st2 => ?_
  by_cases h : xs.length = n ∧ zs.length = j
  · simp only [h, and_self, if_true, true_and]
    exact Iff.rfl
  · unfold wX
    simp [h]
@[simp ↓] theorem wX_dnew {Q : Val → Sto → Prop} : wX fDNew sl st Q G ↔ Q (.ref st.length) (st ++ [.dic []]) := wX_ret' (v := fun st : Sto => Val.ref st.length) (f := fun st => st ++ [Ob.dic []])
@[simp ↓] theorem wX_pairs0 {Q : List (Val × Val) → Sto → Prop} : wX (fPairs []) sl st Q G ↔ Q [] st := wX_ret
@[simp ↓] theorem wX_pairs1 {m n : FE} {r : List (FE × FE)} {Q : List (Val × Val) → Sto → Prop} : wX (fPairs ((m, n) :: r)) sl st Q G ↔ wX m sl st (fun x st1 => wX n sl st1 (fun y st2 => wX (fPairs r) sl st2 (fun ps st3 => Q ((x, y) :: ps) st3) G) G) G := by
  show wX (bnd m fun x => bnd n fun y => bnd (fPairs r) fun ps => fun _ st => some (.ok ((x, y) :: ps) st)) sl st Q G ↔ _
  rw [wX_bnd]
  refine wX_congr fun x st1 => ?_
  rw [wX_bnd]
  refine wX_congr fun y st2 => ?_
  rw [wX_bnd]
  exact wX_congr fun ps st3 => wX_ret
@[simp ↓] theorem wX_dict {ms : List (FE × FE)} {Q : Val → Sto → Prop} : wX (fDict ms) sl st Q G ↔ wX (fPairs ms) sl st (fun ps st' => ∃ kvs, mapO keyed ps = some kvs ∧ kvs.length ≤ 15 ∧ Q (.ref st'.length) (st' ++ [.dic (mergeD [] kvs)])) G := by
  unfold fDict
  rw [wX_bnd]
  refine wX_congr fun ps st' => ?_
  unfold wX
  constructor
  · rintro ⟨r, h1, q⟩
    split at h1
    · rename_i kvs h2
      split at h1
      · rename_i h3
        cases h1
        exact ⟨kvs, h2, h3, q⟩
      · cases h1
    · cases h1
  · rintro ⟨kvs, h2, h3, q⟩
    exact ⟨.ok _ _, by simp only [h2, if_pos h3], q⟩
@[simp ↓] theorem wX_zip {mas : FA} {Q : Itb → Sto → Prop} : wX (fZip mas) sl st Q G ↔ wX mas sl st (fun vs st' => ∃ p q xs ys, vs = [.ref p, .ref q] ∧ st'[p]? = some (Ob.lst xs) ∧ st'[q]? = some (Ob.lst ys) ∧ Q ⟨zipV xs ys, .two p xs q ys⟩ st') G := by
  simp only [fZip, wX_bnd]
  refine wX_congr fun x st' => ?_
  unfold wX
  constructor
  · rintro ⟨r, h1, q⟩
    split at h1
    · dsimp only at h1
      split at h1
      · rename_i h5 h6
        cases h1
        exact ⟨_, _, _, _, rfl, h5, h6, q⟩
      · cases h1
    · cases h1
  · rintro ⟨p, q, xs, ys, rfl, h5, h6, hq⟩
    exact ⟨.ok _ st', by simp only [h5, h6], hq⟩
/-- a while: an invariant by the turns that are left at most -/
theorem whileL_run {c : FT} {body : FS} {I : Nat → Sl → Sto → Prop} (turn : ∀ n sl st, I n sl st → wX c sl st (fun b st1 => if b = true then ∃ m, n = m + 1 ∧ wS body sl st1 (lpP (I m) PS) else PS (.nx sl st1)) G0) :
    ∀ (n : Nat) (sl : Sl) (st : Sto), I n sl st → ∃ k r, whileL c body k sl st = some r ∧ PS r
  | n, sl, st, hi => by
    obtain ⟨b, st1, h1, h2⟩ := ok_of (turn n sl st hi)
    cases b with
    | false =>
      have h3 : PS (.nx sl st1) := by simpa using h2
      exact ⟨1, .nx sl st1, by show bndS c _ sl st = _; unfold bndS; rw [h1]; rfl, h3⟩
    | true =>
      have h3 : ∃ m, n = m + 1 ∧ wS body sl st1 (lpP (I m) PS) := by simpa using h2
      obtain ⟨m, rfl, r, h4, h5⟩ := h3
      have go : ∀ k, whileL c body (k + 1) sl st = match body sl st1 with
          | some (.nx sl2 st2) => whileL c body k sl2 st2
          | some (.ct sl2 st2) => whileL c body k sl2 st2
          | some (.bk sl2 st2) => some (.nx sl2 st2)
          | r => r := fun k => by
        show bndS c _ sl st = _
        unfold bndS
        rw [h1]
        rfl
      cases r with
      | nx sl2 st2 =>
        obtain ⟨k, r, h6, h7⟩ := whileL_run turn m sl2 st2 h5
        exact ⟨k + 1, r, by rw [go, h4]; exact h6, h7⟩
      | ct sl2 st2 =>
        obtain ⟨k, r, h6, h7⟩ := whileL_run turn m sl2 st2 h5
        exact ⟨k + 1, r, by rw [go, h4]; exact h6, h7⟩
      | bk sl2 st2 => exact ⟨1, _, by rw [go, h4], h5⟩
      | rt v st2 => exact ⟨1, _, by rw [go, h4], h5⟩
      | ex c' sl2 st2 => exact ⟨1, _, by rw [go, h4], h5⟩
theorem whileL_mono {c : FT} {body : FS} : ∀ (n m : Nat) (sl : Sl) (st : Sto) (r : RS), whileL c body n sl st = some r → whileL c body m sl st = some r ∨ m < n
  | 0, m, sl, st, r, h => by cases h
  | n + 1, 0, sl, st, r, h => .inr (Nat.succ_pos _)
  | n + 1, m + 1, sl, st, r, h => by
    have h0 : bndS c (fun b => if b then fun sl st => match body sl st with
      | some (.nx sl2 st2) => whileL c body n sl2 st2
      | some (.ct sl2 st2) => whileL c body n sl2 st2
      | some (.bk sl2 st2) => some (.nx sl2 st2)
      | r => r else fun sl st => some (.nx sl st)) sl st = some r := h
    show bndS c (fun b => if b then fun sl st => match body sl st with
      | some (.nx sl2 st2) => whileL c body m sl2 st2
      | some (.ct sl2 st2) => whileL c body m sl2 st2
      | some (.bk sl2 st2) => some (.nx sl2 st2)
      | r => r else fun sl st => some (.nx sl st)) sl st = some r ∨ _
    unfold bndS at h0 ⊢
    cases h1 : c sl st with
    | none => rw [h1] at h0; cases h0
    | some x =>
      rw [h1] at h0
      cases x with
      | ex e st1 => exact .inl h0
      | ok b st1 =>
        cases b with
        | false => exact .inl h0
        | true =>
          have h2 : (match body sl st1 with
            | some (.nx sl2 st2) => whileL c body n sl2 st2
            | some (.ct sl2 st2) => whileL c body n sl2 st2
            | some (.bk sl2 st2) => some (.nx sl2 st2)
            | r => r) = some r := h0
          show (match body sl st1 with
            | some (.nx sl2 st2) => whileL c body m sl2 st2
            | some (.ct sl2 st2) => whileL c body m sl2 st2
            | some (.bk sl2 st2) => some (.nx sl2 st2)
            | r => r) = some r ∨ _
          cases h3 : body sl st1 with
          | none => rw [h3] at h2; cases h2
          | some y =>
            rw [h3] at h2
            cases y with
            | nx sl2 st2 =>
              rcases whileL_mono n m sl2 st2 r h2 with z | z
              · exact .inl z
              · exact .inr (by omega)
            | ct sl2 st2 =>
              rcases whileL_mono n m sl2 st2 r h2 with z | z
              · exact .inl z
              · exact .inr (by omega)
            | bk sl2 st2 => exact .inl h2
            | rt v st2 => exact .inl h2
            | ex c' sl2 st2 => exact .inl h2
/-- what is to be shown of a while -/
theorem wS_while {c : FT} {body : FS} (I : Nat → Sl → Sto → Prop) (n : Nat) (h0 : I n sl st) (turn : ∀ n sl st, I n sl st → wX c sl st (fun b st1 => if b = true then ∃ m, n = m + 1 ∧ wS body sl st1 (lpP (I m) PS) else PS (.nx sl st1)) G0) : wS (fWhile c body) sl st PS := by
  obtain ⟨k, r, h1, h2⟩ := whileL_run turn n sl st h0
  refine ⟨r, ?_, h2⟩
  have hex : ∃ n r, whileL c body n sl st = some r := ⟨k, r, h1⟩
  unfold fWhile
  rw [dif_pos hex]
  obtain ⟨r', h3⟩ := hex.choose_spec
  rcases Nat.lt_or_ge hex.choose k with z | z
  · rcases whileL_mono _ k sl st r' h3 with y | y
    · rw [h1] at y
      cases y
      exact h3
    · omega
  · rcases whileL_mono k hex.choose sl st r h1 with y | y
    · exact y
    · omega
/-! ### alike -/
variable {B : Nat → Prop} {c n : Nat} {xs : List Val}
theorem fNe_same (g : Gd B c st n v) (hn : n < 9) : fNe v v st = some (.bl false, st) := by
  obtain ⟨d, h1, h2, h3⟩ := g.toD hn
  obtain ⟨d1, e1, h4, h5, h6⟩ := fEqB_gd g g hn hn
  rw [h1] at h4 h5
  cases h4
  cases h5
  unfold fNe
  rw [h6, PySem.SeqAt.eqv_refl d h2]
  rfl
theorem fNe_fEq {a b : Val} {k : Bool} (h : fEq a b st = some (.bl k, st)) : fNe a b st = some (.bl (!k), st) := by
  obtain ⟨e, h1, h2⟩ := Option.map_eq_some_iff.mp h
  cases h2
  unfold fNe
  rw [h1]
  rfl
theorem fNe_nil {p q : Nat} (h1 : st[p]? = some (Ob.lst xs)) (h2 : st[q]? = some (Ob.lst [])) (hx : ∀ x ∈ xs, Gd B c st n x) (hn : n < 8) : fNe (.ref p) (.ref q) st = some (.bl (!decide (xs = [])), st) := fNe_fEq (fEq_nil h1 h2 hx hn)
theorem fNe_lst {p q : Nat} (h1 : st[p]? = some (Ob.lst xs)) (h2 : st[q]? = some (Ob.lst xs)) (hx : ∀ x ∈ xs, Gd (fun _ => False) c st n x) (hl : xs.length ≤ c) (hn : n < 8) : fNe (.ref p) (.ref q) st = some (.bl false, st) := by
  have g1 : Gd (fun _ => False) c st (n + 1) (.ref p) := ⟨fun z => z, xs, h1, hl, hx⟩
  have g2 : Gd (fun _ => False) c st (n + 1) (.ref q) := ⟨fun z => z, xs, h2, hl, hx⟩
  obtain ⟨d, e1, e2, e3⟩ := g1.toD (m := 9) (by omega)
  have e4 : FL.toD 9 st (.ref q) = some d := by
    rw [← e1]
    show (match st[q]? with | some (Ob.lst xs) => (mapO (FL.toD 8 st) xs).map PyData.list | _ => none) = (match st[p]? with | some (Ob.lst xs) => (mapO (FL.toD 8 st) xs).map PyData.list | _ => none)
    rw [h1, h2]
  have sh := shaped_of e2 (by omega)
  unfold fNe fEqB
  rw [e1, e4]
  simp only [sh, and_self, if_true, Option.map_some, PySem.SeqAt.eqv_refl d e2]
  rfl
theorem pop_last {p : Nat} {x : Val} (h : st[p]? = some (Ob.lst (xs ++ [x]))) : onL gPop (.ref p) [] st = some (x, st.set p (Ob.lst xs)) := by
  rw [onL_ref h]
  unfold gPop
  simp
end
end FL
/-! TX1: texts as flat lists of signs and line feeds: rows, places, cuts. -/
namespace TX
/-- the rows of a flat text -/
def T : List Nat → List (List Nat)
  | [] => [[]]
  | c :: s => if c = 10 then [] :: T s else (c :: (T s).headD []) :: (T s).tail
def J : List (List Nat) → List Nat
  | [] => []
  | [r] => r
  | r :: q :: l => r ++ 10 :: J (q :: l)
theorem T_ne (s : List Nat) : T s ≠ [] := by
  cases s with
  | nil => simp [T]
  | cons c s => unfold T; split <;> simp
theorem T_ht (s : List Nat) : T s = (T s).headD [] :: (T s).tail := by
  cases h : T s with
  | nil => exact absurd h (T_ne s)
  | cons a l => rfl
theorem T_len (s : List Nat) : 1 ≤ (T s).length := List.length_pos_iff.mpr (T_ne s)
/-- the last row -/
def la : List (List Nat) → List Nat
  | [] => []
  | [a] => a
  | _ :: b :: l => la (b :: l)
theorem la_app : ∀ {l m : List (List Nat)}, m ≠ [] → la (l ++ m) = la m
  | [], m, _ => rfl
  | [a], m, h => by
    cases m with
    | nil => exact absurd rfl h
    | cons b m => rfl
  | a :: b :: l, m, h => by
    show la (b :: l ++ m) = _
    exact la_app h
@[simp] theorem la_snoc {l : List (List Nat)} {a : List Nat} : la (l ++ [a]) = a := la_app (by simp)
@[simp] theorem la_two {l : List (List Nat)} {a b : List Nat} : la (a :: b :: l) = la (b :: l) := rfl
@[simp] theorem la_one {a : List Nat} : la [a] = a := rfl
theorem dl_last : ∀ {l : List (List Nat)}, l ≠ [] → l.dropLast ++ [la l] = l
  | [], h => absurd rfl h
  | [a], _ => rfl
  | a :: b :: l, _ => by
    show a :: ((b :: l).dropLast ++ [la (b :: l)]) = _
    rw [dl_last (by simp)]
theorem T_last (s : List Nat) : (T s).dropLast ++ [la (T s)] = T s := dl_last (T_ne s)
theorem T_app : ∀ (x y : List Nat), T (x ++ y) = (T x).dropLast ++ (la (T x) ++ (T y).headD []) :: (T y).tail
  | [], y => by
    show T y = ([] : List (List Nat)) ++ ([] ++ (T y).headD []) :: (T y).tail
    exact T_ht y
  | c :: x, y => by
    have ih := T_app x y
    show T (c :: (x ++ y)) = _
    by_cases h : c = 10
    · simp only [T, h, if_true]
      rw [ih]
      obtain ⟨a, l, e⟩ : ∃ a l, T x = a :: l := ⟨_, _, T_ht x⟩
      rw [e]
      simp
    · simp only [T, h, if_false]
      rw [ih]
      obtain ⟨a, l, e⟩ : ∃ a l, T x = a :: l := ⟨_, _, T_ht x⟩
      rw [e]
      cases l with
      | nil => simp
      | cons b l => simp
theorem JT : ∀ s : List Nat, J (T s) = s
  | [] => rfl
  | c :: s => by
    have ih := JT s
    obtain ⟨a, l, e⟩ : ∃ a l, T s = a :: l := ⟨_, _, T_ht s⟩
    rw [e] at ih
    unfold T
    split
    · rename_i h
      rw [e, h]
      show [] ++ 10 :: J (a :: l) = _
      rw [ih]
      rfl
    · rw [e]
      show J ((c :: a) :: l) = _
      cases l with
      | nil =>
        show c :: a = _
        rw [← ih]
        rfl
      | cons b l =>
        show (c :: a) ++ 10 :: J (b :: l) = _
        rw [← ih]
        rfl
theorem T_inj {s t : List Nat} (h : T s = T t) : s = t := by rw [← JT s, h, JT t]
theorem T_row : ∀ {r : List Nat}, 10 ∉ r → T r = [r]
  | [], _ => rfl
  | c :: r, h => by
    have h1 : c ≠ 10 := fun z => h (by rw [z]; exact List.mem_cons_self)
    unfold T
    rw [if_neg h1, T_row fun z => h (List.mem_cons_of_mem _ z)]
    rfl
theorem T_lf (t : List Nat) : T (10 :: t) = [] :: T t := by simp [T]
theorem TJ : ∀ {ss : List (List Nat)}, ss ≠ [] → (∀ r ∈ ss, 10 ∉ r) → T (J ss) = ss
  | [], h, _ => absurd rfl h
  | [r], _, h => T_row (h r List.mem_cons_self)
  | r :: q :: l, _, h => by
    show T (r ++ 10 :: J (q :: l)) = _
    rw [T_app, T_row (h r List.mem_cons_self), T_lf, TJ (by simp) fun x hx => h x (List.mem_cons_of_mem _ hx)]
    simp
theorem T_no10 : ∀ (s : List Nat), ∀ r ∈ T s, 10 ∉ r
  | [], r, h => by simp [T] at h; subst h; simp
  | c :: s, r, h => by
    have ih := T_no10 s
    unfold T at h
    split at h
    · rcases List.mem_cons.mp h with e | e
      · rw [e]; simp
      · exact ih r e
    · rename_i hc
      rcases List.mem_cons.mp h with e | e
      · rw [e]
        have h2 := ih ((T s).headD []) (by rw [T_ht s]; exact List.mem_cons_self)
        intro z
        rcases List.mem_cons.mp z with z | z
        · exact hc z.symm
        · exact h2 z
      · exact ih r (List.mem_of_mem_tail e)
/-- how many line feeds -/
def nl (s : List Nat) : Nat := (T s).length - 1
/-- what stands behind the last -/
def co (s : List Nat) : Nat := (la (T s)).length
theorem len_T (s : List Nat) : (T s).length = nl s + 1 := by
  have := T_len s
  unfold nl
  omega
theorem nl_app (x y : List Nat) : nl (x ++ y) = nl x + nl y := by
  have h1 := T_len x
  have h2 := T_len y
  unfold nl
  rw [T_app]
  simp
theorem co_app0 {x y : List Nat} (h : nl y = 0) : co (x ++ y) = co x + y.length := by
  obtain ⟨a, l, e⟩ : ∃ a l, T y = a :: l := ⟨_, _, T_ht y⟩
  have hl : l = [] := by
    unfold nl at h
    rw [e] at h
    simpa using h
  subst hl
  have e2 : y = a := by
    have := JT y
    rw [e] at this
    exact this.symm
  unfold co
  rw [T_app, e, e2]
  simp
theorem co_app1 {x y : List Nat} (h : nl y ≠ 0) : co (x ++ y) = co y := by
  obtain ⟨a, l, e⟩ : ∃ a l, T y = a :: l := ⟨_, _, T_ht y⟩
  cases l with
  | nil =>
    unfold nl at h
    rw [e] at h
    simp at h
  | cons b l =>
    unfold co
    rw [T_app, e]
    simp only [List.tail_cons, la_two]
    rw [la_app (by simp)]
    rfl
/-! rows at a cut: x ++ y -/
theorem take_T (x y : List Nat) : (T (x ++ y)).take (nl x) = (T x).dropLast := by
  rw [T_app]
  have h : nl x = (T x).dropLast.length := by simp [nl]
  rw [h, List.take_left]
theorem drop_T (x y : List Nat) : (T (x ++ y)).drop (nl x) = (la (T x) ++ (T y).headD []) :: (T y).tail := by
  rw [T_app]
  have h : nl x = (T x).dropLast.length := by simp [nl]
  rw [h, List.drop_left]
theorem drop1_T (x y : List Nat) : (T (x ++ y)).drop (nl x + 1) = (T y).tail := by
  have := congrArg (List.drop 1) (drop_T x y)
  rw [List.drop_drop] at this
  simpa using this
theorem at_T (x y : List Nat) : (T (x ++ y))[nl x]? = some (la (T x) ++ (T y).headD []) := by
  have := congrArg (fun l => l[0]?) (drop_T x y)
  simp only [List.getElem?_drop] at this
  simpa using this
theorem take1_T (x y : List Nat) : (T (x ++ y)).take (nl x + 1) = (T x).dropLast ++ [la (T x) ++ (T y).headD []] := by
  rw [List.take_succ, take_T, at_T]
  rfl
theorem lt_T (x y : List Nat) : nl x < (T (x ++ y)).length := by
  rw [len_T, nl_app]
  omega
/-! order of places -/
theorem co_le {x y : List Nat} (h : nl y = 0) : co x ≤ co (x ++ y) := by
  rw [co_app0 h]
  omega
/-- lexicographic -/
def pLt (p q : Nat × Nat) : Prop := p.1 < q.1 ∨ p.1 = q.1 ∧ p.2 < q.2
def pl (s : List Nat) (n : Nat) : Nat × Nat := (nl (s.take n), co (s.take n))
theorem pl_app {x y : List Nat} : pl (x ++ y) x.length = (nl x, co x) := by
  unfold pl
  rw [List.take_left]
theorem pl_mono {s : List Nat} {n m : Nat} (h : n < m) (hm : m ≤ s.length) : pLt (pl s n) (pl s m) := by
  have e : s.take m = s.take n ++ (s.take m).drop n := by
    have := List.take_append_drop n (s.take m)
    rw [List.take_take, Nat.min_eq_left (Nat.le_of_lt h)] at this
    exact this.symm
  have hw : 0 < ((s.take m).drop n).length := by
    rw [List.length_drop, List.length_take]
    omega
  generalize (s.take m).drop n = w at e hw
  unfold pl pLt
  rw [e]
  simp only
  rw [nl_app]
  by_cases h0 : nl w = 0
  · right
    rw [co_app0 h0]
    omega
  · left
    omega
theorem pl_lt {s : List Nat} {n m : Nat} (hn : n ≤ s.length) (hm : m ≤ s.length) : pLt (pl s n) (pl s m) ↔ n < m := by
  constructor
  · intro h
    rcases Nat.lt_trichotomy n m with z | z | z
    · exact z
    · subst z
      unfold pLt at h
      omega
    · have := pl_mono z hn
      unfold pLt at h this
      omega
  · intro h
    exact pl_mono h hm
theorem pl_eq {s : List Nat} {n m : Nat} (hn : n ≤ s.length) (hm : m ≤ s.length) : pl s n = pl s m ↔ n = m := by
  constructor
  · intro h
    rcases Nat.lt_trichotomy n m with z | z | z
    · have := pl_mono z hm
      rw [h] at this
      unfold pLt at this
      omega
    · exact z
    · have := pl_mono z hn
      rw [h] at this
      unfold pLt at this
      omega
  · intro h
    rw [h]
/-- a place of the rows is one of the flat text -/
theorem pl_of {s : List Nat} {r c : Nat} {row : List Nat} (h1 : (T s)[r]? = some row) (h2 : c ≤ row.length) : ∃ n, n ≤ s.length ∧ pl s n = (r, c) := by
  have hr : r < (T s).length := (List.getElem?_eq_some_iff.mp h1).1
  have no := T_no10 s
  have hrow : row ∈ T s := List.mem_of_getElem? h1
  have cut : T s = (T s).take r ++ row :: (T s).drop (r + 1) := by
    have := List.take_append_drop r (T s)
    rw [List.drop_eq_getElem_cons hr] at this
    rw [List.getElem?_eq_getElem hr] at h1
    cases h1
    exact this.symm
  obtain ⟨x, hx⟩ : ∃ x, T x = (T s).take r ++ [row.take c] := ⟨_, TJ (by simp) fun q hq => by
    rcases List.mem_append.mp hq with h | h
    · exact no q (List.mem_of_mem_take h)
    · rw [List.mem_singleton.mp h]
      exact fun z => no row hrow (List.mem_of_mem_take z)⟩
  obtain ⟨y, hy⟩ : ∃ y, T y = row.drop c :: (T s).drop (r + 1) := ⟨_, TJ (by simp) fun q hq => by
    rcases List.mem_cons.mp hq with h | h
    · rw [h]
      exact fun z => no row hrow (List.mem_of_mem_drop z)
    · exact no q (List.mem_of_mem_drop h)⟩
  have e : x ++ y = s := T_inj (by
    rw [T_app, hx, hy]
    simp
    exact cut.symm)
  refine ⟨x.length, by rw [← e]; simp, ?_⟩
  rw [← e, pl_app]
  unfold nl co
  rw [hx]
  simp
  omega
end TX
/-! PL6: texts, dicts made by comprehension, comprehensions of two clauses. -/
namespace FL
open PySem PySem.Spec PyProof.Rows L2
section
variable {sl : Sl} {st : Sto} {v : Val} {PS : RS → Prop} {G : EP'}
theorem wX.go {α : Type} {m : FX α} {sl : Sl} {st : Sto} {P Q : α → Sto → Prop} {G : EP'} (h : wX m sl st P G0) (i : ∀ v st', P v st' → Q v st') : wX m sl st Q G :=
  let ⟨r, h1, h2⟩ := h
  ⟨r, h1, h2.mono i fun _ _ z => z.elim⟩
theorem getK_mem {α : Type} {kvs : List (Key × α)} {k : Key} {v : α} (h : getK kvs k = some v) : ∃ j, (j, v) ∈ kvs := by
  unfold getK at h
  obtain ⟨p, h1, rfl⟩ := Option.map_eq_some_iff.mp h
  exact ⟨p.1, List.mem_of_find?_eq_some h1⟩
theorem shaped_str {s : List Nat} (h : ∀ x ∈ s, x < 128) : SeqAt.shaped (.str (St' s)) = true := shaped_of (by simp only [PyData.canLay0]; exact strOk_of h) (by simp [PyData.depth])
theorem st_inj' {a b : List Nat} (h : St' a = St' b) : a = b := by
  have := congrArg (fun x : Str => x.cps.toList) h
  exact this
theorem st_beq (a b : List Nat) : (St' a == St' b) = decide (a = b) := by
  by_cases h : a = b
  · subst h
    simp
  · rw [decide_eq_false h]
    exact beq_eq_false_iff_ne.mpr fun e => h (st_inj' e)
@[simp] theorem fEq_str {a b : List Nat} (ha : ∀ x ∈ a, x < 128) (hb : ∀ x ∈ b, x < 128) : fEq (.str a) (.str b) st = some (.bl (decide (a = b)), st) := by
  rw [fEq_of rfl rfl (shaped_str ha) (shaped_str hb)]
  simp only [PyData.eqv, st_beq]
@[simp] theorem fNe_str {a b : List Nat} (ha : ∀ x ∈ a, x < 128) (hb : ∀ x ∈ b, x < 128) : fNe (.str a) (.str b) st = some (.bl (!decide (a = b)), st) := fNe_fEq (fEq_str ha hb)
@[simp] theorem fEq_pr {a b c d : Int} : fEq (.tup [.int a, .int b]) (.tup [.int c, .int d]) st = some (.bl (decide (a = c ∧ b = d)), st) := by
  rw [fEq_of rfl rfl rfl rfl]
  simp [PyData.eqv, PyData.eqvAll, Bool.beq_eq_decide_eq]
@[simp] theorem fNe_pr {a b c d : Int} : fNe (.tup [.int a, .int b]) (.tup [.int c, .int d]) st = some (.bl (!decide (a = c ∧ b = d)), st) := fNe_fEq fEq_pr
@[simp] theorem fNe_nn : fNe .non .non st = some (.bl false, st) := rfl
@[simp] theorem fNe_prn {a b : Int} : fNe (.tup [.int a, .int b]) .non st = some (.bl true, st) := rfl
@[simp] theorem fNe_npr {a b : Int} : fNe .non (.tup [.int a, .int b]) st = some (.bl true, st) := rfl
theorem pr_lt (a b c d : Int) : fLt (.tup [.int a, .int b]) (.tup [.int c, .int d]) st = some (.bl (decide (a < c ∨ a = c ∧ b < d)), st) := rfl
theorem pr_gt (a b c d : Int) : fGt (.tup [.int a, .int b]) (.tup [.int c, .int d]) st = some (.bl (decide (c < a ∨ c = a ∧ d < b)), st) := rfl
@[simp ↓] theorem wS_aug {i : Nat} {f : O2} {m : FE} : wS (fAug i f m) sl st PS ↔ ∃ x, sl[i]? = some (some x) ∧ wX m sl st (fun y st1 => wG (f x y st1) fun z st2 => PS (.nx (sl.set i (some z)) st2)) (fun c st' => PS (.ex c sl st')) := by
  have key : ∀ x, wS (bndS m (fun y => fun sl st => match f x y st with
    | some (z, st') => some (.nx (sl.set i (some z)) st')
    | none => none)) sl st PS ↔ wX m sl st (fun y st1 => wG (f x y st1) fun z st2 => PS (.nx (sl.set i (some z)) st2)) (fun c st' => PS (.ex c sl st')) := fun x => by
    rw [wS_bnd]
    refine wX_congr fun y st' => ?_
    unfold wS wG
    constructor
    · rintro ⟨r, h, q⟩
      dsimp only at h
      split at h
      · rename_i z st2 h2
        cases h
        exact ⟨z, st2, h2, q⟩
      · cases h
    · rintro ⟨z, st2, h, q⟩
      exact ⟨_, by simp only [h], q⟩
  unfold fAug
  constructor
  · rintro ⟨r, h, q⟩
    dsimp only at h
    split at h
    · rename_i x hx
      exact ⟨x, hx, (key x).mp ⟨r, h, q⟩⟩
    · cases h
  · rintro ⟨x, hx, h⟩
    obtain ⟨r, h1, q⟩ := (key x).mpr h
    exact ⟨r, by simp only [hx]; exact h1, q⟩
/-! texts -/
theorem lower_St {s : List Nat} (h : ∀ x ∈ s, x < 128) : Txt.lower (St' s) = St' (s.map PyProof.Rows.lo1) := by
  rw [PyProof.Rows.lower_ascii (x := St' s) h]
  show (⟨(s.toArray).map lo1⟩ : Str) = _
  rw [List.map_toArray]
theorem upper_St {s : List Nat} (h : ∀ x ∈ s, x < 128) : Txt.upper (St' s) = St' (s.map PyProof.Rows.up1) := by
  rw [PyProof.Rows.upper_ascii (x := St' s) h]
  show (⟨(s.toArray).map up1⟩ : Str) = _
  rw [List.map_toArray]
@[simp] theorem fLower_str {s : List Nat} (hl : s.length ≤ 5592405) (h : ∀ x ∈ s, x < 128) : fLower (.str s) [] st = some (.str (s.map PyProof.Rows.lo1), st) := by
  show (if s.length ≤ 5592405 then some (Val.str (Txt.lower (St' s)).cps.toList, st) else none) = _
  rw [if_pos hl]
  have : Txt.lower (St' s) = St' (s.map PyProof.Rows.lo1) := lower_St h
  rw [this]
@[simp] theorem fUpper_str {s : List Nat} (hl : s.length ≤ 5592405) (h : ∀ x ∈ s, x < 128) : fUpper (.str s) [] st = some (.str (s.map PyProof.Rows.up1), st) := by
  show (if s.length ≤ 5592405 then some (Val.str (Txt.upper (St' s)).cps.toList, st) else none) = _
  rw [if_pos hl]
  have : Txt.upper (St' s) = St' (s.map PyProof.Rows.up1) := upper_St h
  rw [this]
/-- the first of the places from i on where p holds -/
theorem hd_filter {p : Nat → Bool} : ∀ {n lo : Nat}, ((List.range' lo n).filter p).head? = none → ∀ v, lo ≤ v → v < lo + n → p v = false
  | 0, lo, _, v, h1, h2 => by omega
  | n + 1, lo, h, v, h1, h2 => by
    rw [List.range'_succ, List.filter_cons] at h
    cases hp : p lo with
    | true => rw [hp] at h; simp at h
    | false =>
      rw [hp] at h
      simp only [Bool.false_eq_true, if_false] at h
      by_cases e : v = lo
      · rw [e]; exact hp
      · exact hd_filter (n := n) (lo := lo + 1) h v (by omega) (by omega)
theorem hd_some {p : Nat → Bool} : ∀ {n lo k : Nat}, lo ≤ k → k < lo + n → p k = true → (∀ v, lo ≤ v → v < k → p v = false) → ((List.range' lo n).filter p).head? = some k
  | 0, lo, k, h1, h2, _, _ => by omega
  | n + 1, lo, k, h1, h2, h3, h4 => by
    rw [List.range'_succ, List.filter_cons]
    by_cases e : k = lo
    · subst e
      rw [h3]
      rfl
    · rw [h4 lo (Nat.le_refl _) (by omega)]
      simp only [Bool.false_eq_true, if_false]
      exact hd_some (by omega) (by omega) h3 fun v h5 h6 => h4 v (by omega) h6
theorem hd_none {p : Nat → Bool} : ∀ {n lo : Nat}, (∀ v, lo ≤ v → v < lo + n → p v = false) → ((List.range' lo n).filter p).head? = none
  | 0, lo, _ => rfl
  | n + 1, lo, h => by
    rw [List.range'_succ, List.filter_cons, h lo (Nat.le_refl _) (by omega)]
    simp only [Bool.false_eq_true, if_false]
    exact hd_none fun v h1 h2 => h v (by omega) (by omega)
/-- where a sign stands from i on -/
def nextAt (s : List Nat) (c i : Nat) : Option Nat := ((List.range' i (s.length - i)).filter fun v => decide (s[v]? = some c)).head?
theorem nextAt_lt {s : List Nat} {c i k : Nat} (h : nextAt s c i = some k) : i ≤ k ∧ s[k]? = some c := by
  unfold nextAt at h
  have hm := List.mem_of_mem_head? (l := (List.range' i (s.length - i)).filter fun v => decide (s[v]? = some c)) (a := k) (by rw [h]; rfl)
  obtain ⟨h1, h2⟩ := List.mem_filter.mp hm
  rw [List.mem_range'_1] at h1
  exact ⟨h1.1, of_decide_eq_true h2⟩
theorem get_iff {s : List Nat} {c v : Nat} (h : v < s.length) : (St' s).cps.getD v 0 = c ↔ s[v]? = some c := by
  show (s.toArray).getD v 0 = c ↔ _
  rw [List.getElem?_eq_getElem h]
  simp [Array.getD, h]
theorem fFind3_one {s : List Nat} {c i : Nat} : fFind3 (.str s) [.str [c], .int i] st = some (.int (match nextAt s c i with | some k => (k : Int) | none => -1), st) := by
  show some (Val.int (Txt.find3 (St' s) (St' [c]) i), st) = _
  have hlen : (St' s).length = s.length := st_len s
  have hfi : PySem.fromIndex (St' s).length (i : Int) = i := by
    unfold PySem.fromIndex
    rw [if_neg (by omega)]
    omega
  have : Txt.find3 (St' s) (St' [c]) i = (match nextAt s c i with | some k => (k : Int) | none => -1) := by
    rcases PySem.StrLaws.find3_spec (St' s) c (i : Int) with ⟨h, hn⟩ | ⟨k, h, h1, h2, h3, h4⟩
    · rw [hfi, hlen] at hn
      have e : nextAt s c i = none := hd_none fun v h1 h2 => decide_eq_false fun z => hn v h1 (by omega) ((get_iff (by omega)).mpr z)
      rw [e]
      exact h
    · rw [hfi] at h1 h4
      rw [hlen] at h2
      have e : nextAt s c i = some k := hd_some h1 (by omega) (decide_eq_true ((get_iff h2).mp h3)) fun v h5 h6 => decide_eq_false fun z => h4 v h5 h6 ((get_iff (by omega)).mpr z)
      rw [e]
      exact h
  rw [this]
/-- how many signs c a text begins with -/
def lead (c : Nat) (s : List Nat) : Nat := (s.takeWhile (· == c)).length
theorem lead_le (c : Nat) (s : List Nat) : lead c s ≤ s.length := PyProof.Rows.takeWhile_len_le _ _
theorem fLstripC_one {s : List Nat} {c : Nat} (hl : s.length ≤ LINE) : fLstripC (.str s) [.str [c]] st = some (.str (s.drop (lead c s)), st) := by
  show (if s.length ≤ LINE then some (Val.str (Txt.lstripChars (St' s) (St' [c])).cps.toList, st) else none) = _
  rw [if_pos hl]
  have e0 : stripLo (St' [c]).cps.contains true (St' s) = lead c s := by
    unfold stripLo lead
    rw [if_pos rfl]
    have : (St' [c]).cps.contains = fun x => x == c := by
      funext x
      show ([c].toArray).contains x = _
      simp [Bool.beq_eq_decide_eq]
    rw [this]
  have : (Txt.lstripChars (St' s) (St' [c])).cps.toList = s.drop (lead c s) := by
    unfold Txt.lstripChars Txt.stripBy stripSame
    rw [e0]
    by_cases h0 : lead c s = 0
    · simp [h0, stripHi]
    · have : (lead c s == 0) = false := by simp [h0]
      rw [this]
      simp only [Bool.false_and, Bool.false_eq_true, if_false]
      unfold stripped
      rw [e0, StrLaws.strSub_toList]
      simp only [stripHi, Bool.false_eq_true, if_false]
      have hl : (St' s).length = s.length := st_len s
      rw [hl]
      exact List.take_of_length_le (by simp)
  rw [this]
/-! ranges -/
def iv (k : Nat) : Val := .int k
def qv (p : Nat → Bool) : Val → Bool
  | .int i => p i.toNat
  | _ => false
theorem rngF (p : Nat → Bool) (lo n : Nat) : (rngL (lo : Int) n).filter (qv p) = ((List.range' lo n).filter p).map iv := by
  have e : rngL (lo : Int) n = (List.range' lo n).map iv := by
    unfold rngL
    rw [List.range_eq_range']
    have : List.range' lo n = (List.range' 0 n).map (lo + ·) := by rw [List.map_add_range', Nat.add_zero]
    rw [this, List.map_map]
    refine List.map_congr_left fun k _ => ?_
    show Val.int _ = Val.int _
    simp
  rw [e, List.filter_map]
  congr 1
@[simp] theorem atI_hd {α : Type} {l : List α} : L2.atI l 0 = l.head? := by cases l <;> simp [L2.atI, ixN]
theorem atI_la {α : Type} {l : List α} : L2.atI l (-1) = l.getLast? := by
  rw [List.getLast?_eq_getElem?]
  by_cases h : l = []
  · subst h
    rfl
  · have : 0 < l.length := List.length_pos_iff.mpr h
    simp [L2.atI, ixN_m1 this]
/-- a text among texts -/
theorem toD_strs (st : Sto) (n : Nat) : ∀ bs : List (List Nat), mapO (FL.toD (n + 1) st) (bs.map Val.str) = some (bs.map fun b => PyData.str (St' b))
  | [] => rfl
  | b :: bs => by
    rw [List.map_cons]
    unfold mapO
    rw [toD_strs st n bs]
    rfl
theorem fIn_strs {a : List Nat} {bs : List (List Nat)} {p : Nat} (h : st[p]? = some (Ob.lst (bs.map Val.str))) (ha : ∀ x ∈ a, x < 128) (hb : ∀ b ∈ bs, ∀ x ∈ b, x < 128) : fIn (.str a) (.ref p) st = some (.bl (decide (a ∈ bs)), st) := by
  have e1 : FL.toD 9 st (.ref p) = some (.list (bs.map fun b => PyData.str (St' b))) := by
    show (match st[p]? with | some (Ob.lst xs) => (mapO (FL.toD 8 st) xs).map PyData.list | _ => none) = _
    rw [h]
    simp only [toD_strs]
    rfl
  have e2 : SeqAt.shaped (.list (bs.map fun b => PyData.str (St' b))) = true := by
    have d1 := depAll (k := 0) (ds := bs.map fun b => PyData.str (St' b)) fun d hd => by
      obtain ⟨b, _, rfl⟩ := List.mem_map.mp hd
      simp [PyData.depth]
    refine shaped_of ?_ (by simp only [PyData.depth]; omega)
    simp only [PyData.canLay0]
    refine canAll fun d hd => ?_
    obtain ⟨b, hb', rfl⟩ := List.mem_map.mp hd
    simp only [PyData.canLay0]
    exact strOk_of (hb b hb')
  have e3 : (bs.map fun b => PyData.str (St' b)).any (fun z => PyData.eqv z (.str (St' a))) = decide (a ∈ bs) := by
    rw [List.any_map]
    clear h e1 e2 hb
    induction bs with
    | nil => rfl
    | cons b bs ih =>
      rw [List.any_cons, ih]
      show (PyData.eqv (.str (St' b)) (.str (St' a)) || decide (a ∈ bs)) = _
      simp only [PyData.eqv, st_beq]
      by_cases e : b = a
      · subst e
        simp
      · have e' : ¬ a = b := fun z => e z.symm
        simp [e, e']
  unfold fIn fInB
  simp only [h]
  have e4 : FL.toD 9 st (.str a) = some (.str (St' a)) := rfl
  rw [e1, e4]
  simp only [shaped_str ha, e2, and_self, if_true, Option.map_some, e3]
/-! a dict made by a comprehension whose parts change nothing -/
theorem setK_len {α : Type} (kvs : List (Key × α)) (k : Key) (v : α) : (setK kvs k v).length ≤ kvs.length + 1 := by
  unfold setK
  split
  · simp
  · simp
theorem dcL_run {l : Lv} {all : List Val} {g : FG} {mk mv : FE} {fk : Val → Key} {fv : Val → Val} (lv : Live l all st)
    (h : ∀ x ∈ all, wT g x sl st fun sl1 st2 => st2 = st ∧ wX mk sl1 st (fun y st3 => st3 = st ∧ keyOf y = some (fk x)) G0 ∧ wX mv sl1 st (fun z st4 => st4 = st ∧ z = fv x) G0) :
    ∀ (xs : List Val) (kvs : List (Key × Val)), (∀ x ∈ xs, x ∈ all) → kvs.length + xs.length < LINE → dcL l all g fYes mk mv sl xs kvs st = some (xs.foldl (fun kvs x => setK kvs (fk x) (fv x)) kvs, st)
  | [], kvs, _, _ => if_pos lv
  | x :: xs, kvs, hm, hl => by
    obtain ⟨sl1, st2, h1, e2, h2, h3⟩ := h x (hm x List.mem_cons_self)
    subst st2
    obtain ⟨y, st3, h4, e3, h5⟩ := ok_of h2
    subst st3
    obtain ⟨z, st4, h6, e4, e5⟩ := ok_of h3
    subst st4
    subst z
    have h0 : fYes sl1 st = some (.ok true st) := rfl
    have hlen : kvs.length < LINE := by
      simp only [List.length_cons] at hl
      omega
    unfold dcL
    rw [if_pos lv]
    simp only [h1, h0, h4, h5, h6, if_pos hlen]
    have := setK_len kvs (fk x) (fv x)
    exact dcL_run lv h xs _ (fun x hx => hm x (List.mem_cons_of_mem _ hx)) (by
      simp only [List.length_cons] at hl
      omega)
theorem wX_dc {mi : FI} {g : FG} {mk mv : FE} {vs : List Nat} {P : Val → Sto → Prop} (h : wX mi sl st (fun b st1 => ∃ (fk : Val → Key) (fv : Val → Val), Live b.live b.items st1 ∧ b.items.length < LINE ∧
    (∀ x ∈ b.items, wT g x (wipeL sl vs) st1 fun sl1 st2 => st2 = st1 ∧ wX mk sl1 st1 (fun y st3 => st3 = st1 ∧ keyOf y = some (fk x)) G0 ∧ wX mv sl1 st1 (fun z st4 => st4 = st1 ∧ z = fv x) G0) ∧
    P (.ref st1.length) (st1 ++ [.dic (b.items.foldl (fun kvs x => setK kvs (fk x) (fv x)) [])])) G) : wX (fDc mi g fYes mk mv vs) sl st P G := by
  unfold fDc
  rw [wX_bnd]
  refine h.mono fun b st1 ⟨fk, fv, h1, h2, h3, h4⟩ => ?_
  have := dcL_run h1 h3 b.items [] (fun x hx => hx) (by simpa using h2)
  exact ⟨.ok _ _, by simp only [this], h4⟩
/-! two clauses, whose parts change nothing -/
theorem lcL_pure {l : Lv} {all : List Val} {g : FG} {t : FT} {m : FE} {q : Val → Bool} {f : Val → Val} (lv : Live l all st)
    (h : ∀ x ∈ all, wT g x sl st fun sl1 st2 => st2 = st ∧ wX t sl1 st (fun c st3 => c = q x ∧ st3 = st ∧ (q x = true → wX m sl1 st (fun y st4 => y = f x ∧ st4 = st) G0)) G0) :
    ∀ xs : List Val, (∀ x ∈ xs, x ∈ all) → lcL l all g t m sl xs st = some ((xs.filter q).map f, st)
  | [], _ => if_pos lv
  | x :: xs, hm => by
    obtain ⟨sl1, st2, h1, e2, h2⟩ := h x (hm x List.mem_cons_self)
    subst st2
    obtain ⟨c, st3, h3, e3, e4, h4⟩ := ok_of h2
    subst st3
    subst c
    have ih := lcL_pure lv h xs fun x hx => hm x (List.mem_cons_of_mem _ hx)
    unfold lcL
    rw [if_pos lv]
    simp only [h1, h3]
    cases hq : q x with
    | true =>
      obtain ⟨y, st4, h5, e5, e6⟩ := ok_of (h4 hq)
      subst st4
      subst y
      simp only [h5, ih, List.filter_cons, hq, if_true, List.map_cons]
    | false => simp only [ih, List.filter_cons, hq, Bool.false_eq_true, if_false]
theorem lcL2_pure {l : Lv} {all : List Val} {g : FG} {t t1 : FT} {mi1 : FI} {g1 : FG} {m : FE} {vs1 : List Nat} {q : Val → Bool} {its : Val → List Val} {q1 : Val → Val → Bool} {f : Val → Val → Val} (lv : Live l all st)
    (h : ∀ x ∈ all, wT g x sl st fun sl1 st2 => st2 = st ∧ wX t sl1 st (fun c st3 => c = q x ∧ st3 = st ∧ (q x = true → wX mi1 sl1 st (fun b st4 => st4 = st ∧ b.items = its x ∧ Live b.live b.items st ∧
      ∀ y ∈ b.items, wT g1 y (wipeL sl1 vs1) st fun sl2 st5 => st5 = st ∧ wX t1 sl2 st (fun c st6 => c = q1 x y ∧ st6 = st ∧ (q1 x y = true → wX m sl2 st (fun z st7 => z = f x y ∧ st7 = st) G0)) G0) G0)) G0) :
    ∀ xs : List Val, (∀ x ∈ xs, x ∈ all) → lcL2 l all g t mi1 g1 t1 m vs1 sl xs st = some ((xs.filter q).flatMap fun x => ((its x).filter (q1 x)).map (f x), st)
  | [], _ => if_pos lv
  | x :: xs, hm => by
    obtain ⟨sl1, st2, h1, e2, h2⟩ := h x (hm x List.mem_cons_self)
    subst st2
    obtain ⟨c, st3, h3, e3, e4, h4⟩ := ok_of h2
    subst st3
    subst c
    have ih := lcL2_pure lv h xs fun x hx => hm x (List.mem_cons_of_mem _ hx)
    unfold lcL2
    rw [if_pos lv]
    simp only [h1, h3]
    cases hq : q x with
    | true =>
      obtain ⟨b, st4, h5, e5, h6, h7, h8⟩ := ok_of (h4 hq)
      subst st4
      have := lcL_pure h7 h8 b.items fun x hx => hx
      rw [h6] at this
      simp only [h5, this, ih, List.filter_cons, hq, if_true, List.flatMap_cons, h6]
    | false => simp only [ih, List.filter_cons, hq, Bool.false_eq_true, if_false]
theorem wX_lc2 {mi mi1 : FI} {g g1 : FG} {t t1 : FT} {m : FE} {vs vs1 : List Nat} {P : Val → Sto → Prop} (h : wX mi sl st (fun b st1 => ∃ (q : Val → Bool) (its : Val → List Val) (q1 : Val → Val → Bool) (f : Val → Val → Val), Live b.live b.items st1 ∧
    (∀ x ∈ b.items, wT g x (wipeL sl vs) st1 fun sl1 st2 => st2 = st1 ∧ wX t sl1 st1 (fun c st3 => c = q x ∧ st3 = st1 ∧ (q x = true → wX mi1 sl1 st1 (fun b st4 => st4 = st1 ∧ b.items = its x ∧ Live b.live b.items st1 ∧
      ∀ y ∈ b.items, wT g1 y (wipeL sl1 vs1) st1 fun sl2 st5 => st5 = st1 ∧ wX t1 sl2 st1 (fun c st6 => c = q1 x y ∧ st6 = st1 ∧ (q1 x y = true → wX m sl2 st1 (fun z st7 => z = f x y ∧ st7 = st1) G0)) G0) G0)) G0) ∧
    ((b.items.filter q).flatMap fun x => ((its x).filter (q1 x)).map (f x)).length ≤ LINE ∧ P (.ref st1.length) (st1 ++ [.lst ((b.items.filter q).flatMap fun x => ((its x).filter (q1 x)).map (f x))])) G) : wX (fLc2 mi g t mi1 g1 t1 m vs vs1) sl st P G := by
  unfold fLc2
  rw [wX_bnd]
  refine h.mono fun b st1 ⟨q, its, q1, f, h1, h2, h3, h4⟩ => ?_
  have := lcL2_pure h1 h2 b.items fun x hx => hx
  exact ⟨.ok _ _, by simp only [this, if_pos h3], h4⟩
end
end FL
/-! MO1: places of a text in their order, in plain terms. -/
namespace MO
abbrev Pt := Nat × Nat
def ltp (p q : Pt) : Bool := decide (p.1 < q.1 ∨ p.1 = q.1 ∧ p.2 < q.2)
theorem ltp_iff {p q : Pt} : ltp p q = true ↔ p.1 < q.1 ∨ p.1 = q.1 ∧ p.2 < q.2 := decide_eq_true_iff
theorem ltp_trans {p q r : Pt} (h : ltp p q = true) (k : ltp q r = true) : ltp p r = true := by
  rw [ltp_iff] at *
  omega
theorem ltp_irr (p : Pt) : ltp p p = false := decide_eq_false (by omega)
theorem ltp_asymm {p q : Pt} (h : ltp p q = true) : ltp q p = false := by
  rw [ltp_iff] at h
  exact decide_eq_false (by omega)
theorem ltp_tri {p q : Pt} (h : ltp p q = false) (k : ltp q p = false) : p = q := by
  have h := of_decide_eq_false h
  have k := of_decide_eq_false k
  exact Prod.ext (by omega) (by omega)
/-- what g finds in each row -/
def rowsG (g : List Nat → List Nat) : Nat → List (List Nat) → List Pt
  | _, [] => []
  | i, s :: ss => (g s).map (fun j => (i, j)) ++ rowsG g (i + 1) ss
def rowsF (g : List Nat → List Nat) (ss : List (List Nat)) : List Pt := rowsG g 0 ss
section
variable {g : List Nat → List Nat}
theorem rowsG_app : ∀ (xs ys : List (List Nat)) (i : Nat), rowsG g i (xs ++ ys) = rowsG g i xs ++ rowsG g (i + xs.length) ys
  | [], ys, i => by simp [rowsG]
  | x :: xs, ys, i => by
    show (g x).map _ ++ rowsG g (i + 1) (xs ++ ys) = ((g x).map _ ++ rowsG g (i + 1) xs) ++ _
    rw [rowsG_app xs ys (i + 1), List.append_assoc]
    congr 3
    simp only [List.length_cons]
    omega
theorem rowsF_take {ss : List (List Nat)} {i : Nat} {s : List Nat} (h : ss[i]? = some s) : rowsF g (ss.take (i + 1)) = rowsF g (ss.take i) ++ (g s).map fun j => (i, j) := by
  have hl := (List.getElem?_eq_some_iff.mp h).1
  rw [List.take_add_one, h]
  show rowsG g 0 (ss.take i ++ [s]) = _
  rw [rowsG_app]
  have : (ss.take i).length = i := by rw [List.length_take]; omega
  rw [this]
  simp [rowsG, rowsF]
theorem rowsG_mem : ∀ {ss : List (List Nat)} {i : Nat} {p : Pt}, p ∈ rowsG g i ss ↔ ∃ s, i ≤ p.1 ∧ ss[p.1 - i]? = some s ∧ p.2 ∈ g s
  | [], i, p => by simp [rowsG]
  | s :: ss, i, p => by
    show p ∈ (g s).map _ ++ rowsG g (i + 1) ss ↔ _
    rw [List.mem_append, rowsG_mem (ss := ss)]
    constructor
    · rintro (h | ⟨t, h1, h2, h3⟩)
      · obtain ⟨j, hj, rfl⟩ := List.mem_map.mp h
        exact ⟨s, Nat.le_refl _, by simp, hj⟩
      · refine ⟨t, by omega, ?_, h3⟩
        have : p.1 - i = (p.1 - (i + 1)) + 1 := by omega
        rw [this, List.getElem?_cons_succ]
        exact h2
    · rintro ⟨t, h1, h2, h3⟩
      by_cases e : p.1 = i
      · left
        rw [e, Nat.sub_self] at h2
        cases h2
        exact List.mem_map.mpr ⟨p.2, h3, by rw [← e]⟩
      · right
        refine ⟨t, by omega, ?_, h3⟩
        have : p.1 - i = (p.1 - (i + 1)) + 1 := by omega
        rw [this, List.getElem?_cons_succ] at h2
        exact h2
theorem rowsF_mem {ss : List (List Nat)} {p : Pt} : p ∈ rowsF g ss ↔ ∃ s, ss[p.1]? = some s ∧ p.2 ∈ g s := by
  unfold rowsF
  rw [rowsG_mem]
  simp
/-- in order -/
def Up (l : List Pt) : Prop := l.Pairwise fun p q => ltp p q = true
theorem rowsG_up : ∀ (ss : List (List Nat)) (i : Nat), (∀ s ∈ ss, (g s).Pairwise (· < ·)) → Up (rowsG g i ss)
  | [], i, _ => List.Pairwise.nil
  | s :: ss, i, h => by
    show List.Pairwise _ ((g s).map _ ++ rowsG g (i + 1) ss)
    rw [List.pairwise_append]
    refine ⟨?_, rowsG_up ss (i + 1) fun t ht => h t (List.mem_cons_of_mem _ ht), ?_⟩
    · rw [List.pairwise_map]
      refine List.Pairwise.imp (R := fun a b : Nat => a < b) ?_ (h s List.mem_cons_self)
      intro a b hab
      exact ltp_iff.mpr (.inr ⟨rfl, hab⟩)
    · rintro p hp q hq
      obtain ⟨j, _, rfl⟩ := List.mem_map.mp hp
      obtain ⟨t, h1, _⟩ := rowsG_mem.mp hq
      exact ltp_iff.mpr (.inl (by show i < q.1; omega))
theorem rowsF_up {ss : List (List Nat)} (h : ∀ s ∈ ss, (g s).Pairwise (· < ·)) : Up (rowsF g ss) := rowsG_up ss 0 h
theorem rowsG_len {b : Nat} : ∀ (ss : List (List Nat)) (i : Nat), (∀ s ∈ ss, (g s).length ≤ b) → (rowsG g i ss).length ≤ ss.length * b
  | [], i, _ => by simp [rowsG]
  | s :: ss, i, h => by
    show ((g s).map _ ++ rowsG g (i + 1) ss).length ≤ _
    have h1 := rowsG_len ss (i + 1) fun t ht => h t (List.mem_cons_of_mem _ ht)
    have h2 := h s List.mem_cons_self
    simp only [List.length_append, List.length_map, List.length_cons, Nat.add_mul, Nat.one_mul]
    omega
theorem rowsF_len {b : Nat} {ss : List (List Nat)} (h : ∀ s ∈ ss, (g s).length ≤ b) : (rowsF g ss).length ≤ ss.length * b := rowsG_len ss 0 h
theorem rowsG_filter (Q : Nat → Nat → Bool) : ∀ (ss : List (List Nat)) (i : Nat) {h : List Nat → List Nat}, (∀ j s, ss[j]? = some s → (g s).filter (Q (i + j)) = h s) → (rowsG g i ss).filter (fun p => Q p.1 p.2) = rowsG h i ss
  | [], i, h, _ => rfl
  | s :: ss, i, h, e => by
    show ((g s).map _ ++ rowsG g (i + 1) ss).filter _ = (h s).map _ ++ rowsG h (i + 1) ss
    rw [List.filter_append, List.filter_map, rowsG_filter Q ss (i + 1) fun j t ht => by
      have := e (j + 1) t (by simpa using ht)
      rwa [show i + (j + 1) = i + 1 + j by omega] at this]
    congr 1
    have := e 0 s rfl
    rw [Nat.add_zero] at this
    rw [← this]
    rfl
end
theorem range_up (n : Nat) (p : Nat → Bool) : ((List.range n).filter p).Pairwise (· < ·) := List.pairwise_lt_range.filter p
theorem range_up1 (n : Nat) (p : Nat → Bool) : (((List.range n).filter p).map (· + 1)).Pairwise (· < ·) := by
  rw [List.pairwise_map]
  exact (range_up n p).imp fun {a b} h => by omega
def firstA (l : List Pt) (p : Pt) : Option Pt := (l.filter fun q => ltp p q).head?
def lastA (l : List Pt) (p : Pt) : Option Pt := (l.filter fun q => ltp q p).getLast?
theorem firstA_mem {l : List Pt} {p q : Pt} (h : firstA l p = some q) : q ∈ l ∧ ltp p q = true := by
  have := List.mem_of_mem_head? (a := q) (by unfold firstA at h; rw [h]; rfl)
  exact List.mem_filter.mp this
theorem lastA_mem {l : List Pt} {p q : Pt} (h : lastA l p = some q) : q ∈ l ∧ ltp q p = true := by
  have := List.mem_of_getLast? h
  exact List.mem_filter.mp this
/-- a place splits what stands in order -/
theorem Up.split {l : List Pt} (h : Up l) {p : Pt} (hp : p ∈ l) : ∃ a b, l = a ++ p :: b ∧ (∀ q ∈ a, ltp q p = true) ∧ ∀ q ∈ b, ltp p q = true := by
  obtain ⟨a, b, rfl⟩ := List.append_of_mem hp
  unfold Up at h
  rw [List.pairwise_append] at h
  obtain ⟨h1, h2, h3⟩ := h
  rw [List.pairwise_cons] at h2
  exact ⟨a, b, rfl, fun q hq => h3 q hq p List.mem_cons_self, h2.1⟩
theorem filter_all {α : Type} {l : List α} {q : α → Bool} (h : ∀ x ∈ l, q x = true) : l.filter q = l := List.filter_eq_self.mpr h
theorem filter_no {α : Type} {l : List α} {q : α → Bool} (h : ∀ x ∈ l, q x = false) : l.filter q = [] := by
  rw [List.filter_eq_nil_iff]
  intro x hx
  rw [h x hx]
  decide
theorem split_after {a b : List Pt} {p : Pt} (ha : ∀ q ∈ a, ltp q p = true) (hb : ∀ q ∈ b, ltp p q = true) : (a ++ p :: b).filter (fun q => ltp p q) = b ∧ (a ++ p :: b).filter (fun q => ltp q p) = a := by
  constructor
  · rw [List.filter_append, filter_no fun q hq => ltp_asymm (ha q hq), List.filter_cons, ltp_irr, filter_all hb]
    rfl
  · rw [List.filter_append, filter_all ha, List.filter_cons, ltp_irr, filter_no fun q hq => ltp_asymm (hb q hq)]
    simp
/-! kinds of signs -/
def wordB (c : Nat) : Bool := decide (c = 95) || decide (48 ≤ c ∧ c ≤ 57) || decide (97 ≤ c ∧ c ≤ 122) || decide (65 ≤ c ∧ c ≤ 90)
def kindN (c : Nat) : Nat := if c = 32 then 0 else if wordB c = true then 1 else 2
def kd (s : List Nat) (i : Nat) : Nat := kindN (s[i]?.getD 32)
theorem kindN_le (c : Nat) : kindN c ≤ 2 := by
  unfold kindN
  split
  · omega
  · split <;> omega
def isB (s : List Nat) (i : Nat) : Bool := decide (0 < kd s i) && (decide (i = 0) || !decide (kd s (i - 1) = kd s i))
def isE (s : List Nat) (i : Nat) : Bool := decide (0 < kd s i) && !decide (kd s (i + 1) = kd s i)
def beginsR (s : List Nat) : List Nat := (List.range s.length).filter (isB s)
def endsR (s : List Nat) : List Nat := ((List.range s.length).filter (isE s)).map (· + 1)
def foundR (w : List Nat) (s : List Nat) : List Nat := (List.range s.length).filter fun i => decide ((s.drop i).take w.length = w)
def allR (s : List Nat) : List Nat := List.range s.length
def wayB (o : Nat) : Nat := if o = 40 then 41 else if o = 41 then 40 else if o = 91 then 93 else if o = 93 then 91 else if o = 123 then 125 else 123
def brk (x : Nat) : Bool := [40, 41, 91, 93, 123, 125].contains x
def opn (x : Nat) : Bool := [40, 91, 123].contains x
/-- the sign at a place -/
def sgn (ss : List (List Nat)) (p : Pt) : Nat := ((ss[p.1]?.getD [])[p.2]?).getD 0
/-- how deep behind this sign -/
def dlt (x m c : Nat) : Int := (if c = x then 1 else 0) - (if c = m then 1 else 0)
def scanM (f : Pt → Nat) (x m : Nat) : List Pt → Int → Option Pt
  | [], _ => none
  | p :: l, d => if d + dlt x m (f p) = 0 then some p else scanM f x m l (d + dlt x m (f p))
theorem scanM_mem {f : Pt → Nat} {x m : Nat} : ∀ {l : List Pt} {d : Int} {p : Pt}, scanM f x m l d = some p → p ∈ l
  | [], d, p, h => by cases h
  | q :: l, d, p, h => by
    unfold scanM at h
    split at h
    · cases h
      exact List.mem_cons_self
    · exact List.mem_cons_of_mem _ (scanM_mem h)
theorem scanM_filter {f : Pt → Nat} {x m : Nat} : ∀ (l : List Pt) (d : Int), d ≠ 0 → scanM f x m (l.filter fun p => decide (f p = x) || decide (f p = m)) d = scanM f x m l d
  | [], d, _ => rfl
  | p :: l, d, h => by
    rw [List.filter_cons]
    by_cases e : (decide (f p = x) || decide (f p = m)) = true
    · rw [if_pos e]
      unfold scanM
      split
      · rfl
      · rename_i h2
        exact scanM_filter l _ h2
    · rw [if_neg e]
      have e1 : ¬ f p = x := fun z => e (by simp [z])
      have e2 : ¬ f p = m := fun z => e (by simp [z])
      have : dlt x m (f p) = 0 := by simp [dlt, e1, e2]
      rw [scanM_filter l d h]
      conv => rhs; unfold scanM
      rw [this, Int.add_zero, if_neg h]
def allP (ss : List (List Nat)) : List Pt := rowsF allR ss
theorem allP_up (ss : List (List Nat)) : Up (allP ss) := rowsF_up fun s _ => List.pairwise_lt_range
/-- the partner of the bracket that stands at p -/
def partP (ss : List (List Nat)) (p : Pt) : Option Pt := if brk (sgn ss p) then
    if opn (sgn ss p) then scanM (sgn ss) (sgn ss p) (wayB (sgn ss p)) ((allP ss).filter fun q => ltp p q) 1
    else scanM (sgn ss) (sgn ss p) (wayB (sgn ss p)) ((allP ss).filter fun q => ltp q p).reverse 1
  else none
def nextP (l : List Pt) (p : Pt) : Option Pt := match firstA l p with
  | some q => some q
  | none => l.head?
def prevP (l : List Pt) (p : Pt) : Option Pt := match lastA l p with
  | some q => some q
  | none => l.getLast?
end MO
/-! MO2: motions there and back. -/
namespace MO
theorem dlt_bound (x m c : Nat) : -1 ≤ dlt x m c ∧ dlt x m c ≤ 1 := by
  unfold dlt
  split <;> split <;> omega
theorem dlt_flip (x m c : Nat) : dlt m x c = -dlt x m c := by
  unfold dlt
  omega
theorem dlt_neg {x m c : Nat} (h : dlt x m c = -1) : c = m := by
  unfold dlt at h
  by_cases h1 : c = m
  · exact h1
  · rw [if_neg h1] at h
    split at h <;> omega
def sm (f : Pt → Nat) (x m : Nat) : List Pt → Int
  | [] => 0
  | p :: l => dlt x m (f p) + sm f x m l
theorem sm_app (f : Pt → Nat) (x m : Nat) : ∀ a b : List Pt, sm f x m (a ++ b) = sm f x m a + sm f x m b
  | [], b => by simp [sm]
  | p :: a, b => by
    show dlt x m (f p) + sm f x m (a ++ b) = dlt x m (f p) + sm f x m a + sm f x m b
    rw [sm_app f x m a b]
    omega
/-- what is found splits the places; ahead of it one is deep -/
theorem scanM_split {f : Pt → Nat} {x m : Nat} {q : Pt} : ∀ {l : List Pt} {d : Int}, 1 ≤ d → scanM f x m l d = some q → ∃ a b, l = a ++ q :: b ∧ (∀ a1 a2, a = a1 ++ a2 → 1 ≤ d + sm f x m a1) ∧ d + sm f x m a = 1 ∧ f q = m
  | [], d, _, h => by cases h
  | p :: l, d, hd, h => by
    have hb := dlt_bound x m (f p)
    unfold scanM at h
    split at h
    · rename_i h0
      cases h
      refine ⟨[], l, rfl, ?_, by simp [sm]; omega, dlt_neg (x := x) (by omega)⟩
      intro a1 a2 e
      have : a1 = [] := (List.append_eq_nil_iff.mp e.symm).1
      subst this
      simp [sm]
      exact hd
    · rename_i h0
      obtain ⟨a, b, rfl, h1, h2, h3⟩ := scanM_split (by omega) h
      refine ⟨p :: a, b, rfl, ?_, by show d + (dlt x m (f p) + sm f x m a) = 1; omega, h3⟩
      intro a1 a2 e
      cases a1 with
      | nil =>
        simp [sm]
        exact hd
      | cons y a1 =>
        rw [List.cons_append, List.cons.injEq] at e
        obtain ⟨rfl, e⟩ := e
        have := h1 a1 a2 e
        show 1 ≤ d + (dlt x m (f p) + sm f x m a1)
        omega
/-- the way back -/
theorem scanM_back {f : Pt → Nat} {x m : Nat} {rest : List Pt} {d : Int} : ∀ (n : Nat) (a : List Pt), a.length = n → (∀ a1 a2, a = a1 ++ a2 → 1 ≤ d + sm f x m a1) → scanM f m x (a.reverse ++ rest) (d + sm f x m a) = scanM f m x rest d
  | 0, a, hl, h => by
    have : a = [] := List.length_eq_zero_iff.mp hl
    subst this
    simp [sm]
  | n + 1, a, hl, h => by
    have hne : a ≠ [] := fun z => by rw [z] at hl; cases hl
    obtain ⟨a', y, rfl⟩ : ∃ a' y, a = a' ++ [y] := ⟨a.dropLast, a.getLast hne, (List.dropLast_concat_getLast hne).symm⟩
    rw [List.reverse_append, List.reverse_singleton, List.singleton_append, List.cons_append]
    have e : d + sm f x m (a' ++ [y]) + dlt m x (f y) = d + sm f x m a' := by
      rw [sm_app, dlt_flip]
      show d + (sm f x m a' + (dlt x m (f y) + 0)) + _ = _
      omega
    have h1 := h a' [y] rfl
    show (if d + sm f x m (a' ++ [y]) + dlt m x (f y) = 0 then some y else scanM f m x (a'.reverse ++ rest) (d + sm f x m (a' ++ [y]) + dlt m x (f y))) = _
    rw [e, if_neg (by omega)]
    refine scanM_back n a' (by simpa using hl) fun a1 a2 e2 => h a1 (a2 ++ [y]) ?_
    rw [e2, List.append_assoc]
theorem way_back {x : Nat} (h : brk x = true) : brk (wayB x) = true ∧ opn (wayB x) = !opn x ∧ wayB (wayB x) = x ∧ wayB x ≠ x := by
  have h1 : x ∈ [40, 41, 91, 93, 123, 125] := List.contains_iff_mem.mp h
  simp only [List.mem_cons, List.not_mem_nil, or_false] at h1
  rcases h1 with rfl | rfl | rfl | rfl | rfl | rfl <;> decide
theorem scanM_home {f : Pt → Nat} {x m : Nat} {p : Pt} {rest : List Pt} (h : f p = x) (hm : m ≠ x) : scanM f m x (p :: rest) 1 = some p := by
  have : dlt m x (f p) = -1 := by
    rw [h]
    unfold dlt
    rw [if_neg hm.symm, if_pos rfl]
    rfl
  unfold scanM
  rw [this]
  rfl
/-- a bracket's partner's partner -/
theorem partP_back {ss : List (List Nat)} {p q : Pt} (hp : p ∈ allP ss) (h : partP ss p = some q) : partP ss q = some p := by
  have up := allP_up ss
  obtain ⟨pre, post, hall, h1, h2⟩ := up.split hp
  have hs := split_after h1 h2
  rw [← hall] at hs
  have h' := h
  unfold partP at h'
  split at h'
  case isFalse => cases h'
  rename_i hb
  obtain ⟨w1, w2, w3, w4⟩ := way_back hb
  split at h'
  · rename_i ho
    rw [hs.1] at h'
    obtain ⟨a, b, e1, e2, e3, e4⟩ := scanM_split (Int.le_refl 1) h'
    have hq : q ∈ allP ss := by rw [hall, e1]; simp
    have hspl : allP ss = (pre ++ p :: a) ++ q :: b := by rw [hall, e1]; simp
    have up2 := up
    rw [hspl] at up2
    unfold Up at up2
    rw [List.pairwise_append] at up2
    obtain ⟨_, u2, u3⟩ := up2
    rw [List.pairwise_cons] at u2
    have hs2 := (split_after (a := pre ++ p :: a) (b := b) (p := q) (fun y hy => u3 y hy q List.mem_cons_self) u2.1).2
    rw [← hspl] at hs2
    unfold partP
    rw [e4, w1, w2, w3, ho]
    simp only [if_true, Bool.not_true, Bool.false_eq_true, if_false]
    rw [hs2, List.reverse_append, List.reverse_cons, List.append_assoc, List.singleton_append]
    have := scanM_back (f := sgn ss) (x := sgn ss p) (m := wayB (sgn ss p)) (rest := p :: pre.reverse) (d := 1) a.length a rfl e2
    rw [e3] at this
    rw [this]
    exact scanM_home rfl w4
  · rename_i ho
    have ho : opn (sgn ss p) = false := by simpa using ho
    rw [hs.2] at h'
    obtain ⟨a, b, e1, e2, e3, e4⟩ := scanM_split (Int.le_refl 1) h'
    have e5 : pre = b.reverse ++ q :: a.reverse := by
      have := congrArg List.reverse e1
      rw [List.reverse_reverse] at this
      rw [this]
      simp
    have hspl : allP ss = b.reverse ++ q :: (a.reverse ++ p :: post) := by rw [hall, e5]; simp
    have up2 := up
    rw [hspl] at up2
    unfold Up at up2
    rw [List.pairwise_append] at up2
    obtain ⟨_, u2, u3⟩ := up2
    rw [List.pairwise_cons] at u2
    have hs2 := (split_after (a := b.reverse) (b := a.reverse ++ p :: post) (p := q) (fun y hy => u3 y hy q List.mem_cons_self) u2.1).1
    rw [← hspl] at hs2
    unfold partP
    rw [e4, w1, w2, w3, ho]
    simp only [if_true, Bool.not_false]
    rw [hs2]
    have := scanM_back (f := sgn ss) (x := sgn ss p) (m := wayB (sgn ss p)) (rest := p :: post) (d := 1) a.length a rfl e2
    rw [e3] at this
    rw [this]
    exact scanM_home rfl w4
theorem last_first {l : List Pt} (up : Up l) {p q1 q2 : Pt} (h1 : firstA l p = some q1) (h2 : firstA l q1 = some q2) : lastA l q2 = some q1 := by
  obtain ⟨a, b, rfl, ha, hb⟩ := up.split (firstA_mem h1).1
  have hs := split_after ha hb
  unfold firstA at h2
  rw [hs.1] at h2
  cases b with
  | nil => cases h2
  | cons y b =>
    cases h2
    have up2 := up
    rw [show a ++ q1 :: q2 :: b = (a ++ [q1]) ++ q2 :: b by simp] at up2 ⊢
    unfold Up at up2
    rw [List.pairwise_append] at up2
    obtain ⟨_, u2, u3⟩ := up2
    rw [List.pairwise_cons] at u2
    have hs2 := (split_after (a := a ++ [q1]) (b := b) (p := q2) (fun y hy => u3 y hy q2 List.mem_cons_self) u2.1).2
    unfold lastA
    rw [hs2]
    simp
/-! around -/
theorem split_at {l : List Pt} (up : Up l) {i : Nat} (hi : i < l.length) : l.filter (fun q => ltp l[i] q) = l.drop (i + 1) ∧ l.filter (fun q => ltp q l[i]) = l.take i := by
  have e : l = l.take i ++ l[i] :: l.drop (i + 1) := by rw [← List.drop_eq_getElem_cons hi, List.take_append_drop]
  have up2 := up
  rw [e] at up2
  unfold Up at up2
  rw [List.pairwise_append] at up2
  obtain ⟨_, u2, u3⟩ := up2
  rw [List.pairwise_cons] at u2
  have hs := split_after (a := l.take i) (b := l.drop (i + 1)) (p := l[i]) (fun y hy => u3 y hy l[i] List.mem_cons_self) u2.1
  rw [← e] at hs
  exact hs
theorem next_at {l : List Pt} (up : Up l) {i : Nat} (hi : i < l.length) : nextP l l[i] = l[(i + 1) % l.length]? := by
  unfold nextP firstA
  rw [(split_at up hi).1]
  by_cases h : i + 1 < l.length
  · rw [Nat.mod_eq_of_lt h, List.drop_eq_getElem_cons h]
    simp [h]
  · have e : i + 1 = l.length := by omega
    rw [e, Nat.mod_self, List.drop_length]
    simp [List.head?_eq_getElem?]
theorem prev_at {l : List Pt} (up : Up l) {i : Nat} (hi : i < l.length) : prevP l l[i] = l[(i + (l.length - 1)) % l.length]? := by
  unfold prevP lastA
  rw [(split_at up hi).2]
  cases i with
  | zero =>
    rw [Nat.zero_add, Nat.mod_eq_of_lt (by omega)]
    simp [List.getLast?_eq_getElem?]
  | succ i =>
    have e : (i + 1 + (l.length - 1)) % l.length = i := by
      rw [show i + 1 + (l.length - 1) = i + l.length by omega, Nat.add_mod_right, Nat.mod_eq_of_lt (by omega)]
    rw [e, List.getLast?_eq_getElem?, List.length_take]
    have : min (i + 1) l.length - 1 = i := by omega
    rw [this, List.getElem?_take]
    rw [if_pos (by omega), List.getElem?_eq_getElem (by omega)]
end MO
/-! PL7: slices and ranges with a step, whiles that count, loops that look for the first. -/
namespace FL
open PySem PySem.Spec PyProof.Rows L2
section
variable {sl : Sl} {st : Sto} {v : Val} {PS : RS → Prop} {G : EP'}
@[simp ↓] theorem wX_slC {m : FE} {lo : FO} {c : Int} {P : Val → Sto → Prop} : wX (fSlC m lo c) sl st P G ↔ wX m sl st (fun x st1 => wX lo sl st1 (fun l st2 => ∃ p xs, x = .ref p ∧ st2[p]? = some (.lst xs) ∧ P (.ref st2.length) (st2 ++ [.lst (pickG xs l c)])) G) G := by
  unfold fSlC
  rw [wX_bnd]
  refine wX_congr fun x st1 => ?_
  rw [wX_bnd]
  refine wX_congr fun l st2 => ?_
  rw [wX_lft]
  unfold wG
  constructor
  · rintro ⟨v, s2, h1, q⟩
    split at h1
    · rename_i p
      split at h1
      · rename_i xs h2
        cases h1
        exact ⟨p, xs, rfl, h2, q⟩
      · cases h1
    · cases h1
  · rintro ⟨p, xs, rfl, h2, q⟩
    exact ⟨_, _, by simp only [h2], q⟩
@[simp ↓] theorem wX_rng3 {mas : FA} {Q : Itb → Sto → Prop} : wX (fRng3 mas) sl st Q G ↔ wX mas sl st (fun xs st' => ∃ i j c, xs = [.int i, .int j, .int c] ∧ okC i j c = true ∧ Q ⟨rngC i c (Builtin.Range.rangeSize i j c).toNat, .none⟩ st') G := by
  simp only [fRng3, wX_bnd]
  refine wX_congr fun x st' => ?_
  unfold wX
  constructor
  · rintro ⟨r, h1, q⟩
    split at h1
    · split at h1
      · rename_i hj
        cases h1
        exact ⟨_, _, _, rfl, hj, q⟩
      · cases h1
    · cases h1
  · rintro ⟨i, j, c, rfl, hj, q⟩
    exact ⟨.ok _ _, by simp [hj], q⟩
theorem rngC_get {lo c : Int} {n i : Nat} {x : Val} (h : (rngC lo c n)[i]? = some x) : i < n ∧ x = .int (lo + i * c) := by
  unfold rngC at h
  rw [List.getElem?_map] at h
  obtain ⟨j, h1, rfl⟩ := Option.map_eq_some_iff.mp h
  have hi := (List.getElem?_eq_some_iff.mp h1).1
  rw [List.length_range] at hi
  rw [List.getElem?_range hi] at h1
  cases h1
  exact ⟨hi, rfl⟩
@[simp] theorem rngC_len {lo c : Int} {n : Nat} : (rngC lo c n).length = n := by unfold rngC; simp
theorem okC_two {j : Int} (h0 : -(2 ^ 40) ≤ j) (h1 : j < 2 ^ 40) : okC 0 j 2 = true := by
  have h2 : ((2 : Int) > 0) = True := by simp
  have hr : Builtin.Range.rangeSize 0 j 2 = if 0 < j then (j - 0 - 1) / 2 + 1 else 0 := by
    unfold Builtin.Range.rangeSize
    simp only [h2, if_true]
  have hs : Builtin.Range.small 0 j 2 = true := by
    unfold Builtin.Range.small
    rw [hr]
    simp only [Builtin.Range.rangeFitsLong, Bool.and_eq_true, Bool.or_eq_true, decide_eq_true_eq, beq_iff_eq, h2, if_true]
    simp only [show (2 : Int) ^ 63 = 9223372036854775808 from rfl]
    split <;> omega
  unfold okC
  rw [hs]
  rfl
theorem okC_down {i : Int} (h0 : -(2 ^ 40) ≤ i) (h1 : i < 2 ^ 40) : okC i (-1) (-1) = true := by
  have hs := PySem.W.small_down (a := i) (b := -1) (by omega) (by omega) (by decide) (by decide)
  unfold okC
  rw [hs]
  rfl
theorem rsize_down (i : Int) : (Builtin.Range.rangeSize i (-1) (-1)).toNat = (i + 1).toNat := by
  rw [PySem.W.rangeSize_downNat]
  omega
@[simp ↓] theorem wX_revR {m : FE} {Q : Itb → Sto → Prop} : wX (fRevR m) sl st Q G ↔ wX m sl st (fun x st' => ∃ j, x = .int j ∧ small62 j ∧ Q ⟨rngC (0 + ((j.toNat : Nat) : Int) - 1) (-1) j.toNat, .none⟩ st') G := by
  simp only [fRevR, wX_bnd]
  refine wX_congr fun x st' => ?_
  unfold wX
  constructor
  · rintro ⟨r, h1, q⟩
    split at h1
    · split at h1
      · rename_i hj
        cases h1
        exact ⟨_, rfl, hj, q⟩
      · cases h1
    · cases h1
  · rintro ⟨j, rfl, hj, q⟩
    exact ⟨.ok _ _, by simp [hj], q⟩
/-! whiles that count down, or up, as long as p -/
def downW (p : Nat → Bool) : Nat → Nat
  | 0 => 0
  | n + 1 => if p n then downW p n else n + 1
def upW (p : Nat → Bool) : Nat → Nat → Nat
  | 0, i => i
  | f + 1, i => if p i then upW p f (i + 1) else i
theorem downW_le (p : Nat → Bool) : ∀ n, downW p n ≤ n
  | 0 => Nat.le_refl _
  | n + 1 => by
    unfold downW
    split
    · exact Nat.le_succ_of_le (downW_le p n)
    · exact Nat.le_refl _
theorem upW_le (p : Nat → Bool) : ∀ f i, i ≤ upW p f i ∧ upW p f i ≤ i + f
  | 0, i => ⟨Nat.le_refl _, Nat.le_refl _⟩
  | f + 1, i => by
    unfold upW
    have := upW_le p f (i + 1)
    split <;> omega
theorem while_dn {c : FT} {body : FS} {S : Nat → Sl} {p : Nat → Bool} {n : Nat} (hc : ∀ i st', i ≤ n → st' = st → wX c (S i) st' (fun b st2 => b = (decide (0 < i) && p (i - 1)) ∧ st2 = st') G0)
    (hb : ∀ i st', i < n → st' = st → wS body (S (i + 1)) st' (fun r => r = .nx (S i) st')) (done : PS (.nx (S (downW p n)) st)) : wS (fWhile c body) (S n) st PS := by
  refine wS_while (fun k sl st' => ∃ i, k = i ∧ i ≤ n ∧ sl = S i ∧ st' = st ∧ downW p i = downW p n) n ⟨n, rfl, Nat.le_refl _, rfl, rfl, rfl⟩ ?_
  rintro k sl st' ⟨i, rfl, hi, rfl, rfl, hd⟩
  refine (hc k st' hi rfl).mono ?_
  rintro b st2 ⟨rfl, rfl⟩
  cases k with
  | zero =>
    simp
    have : downW p n = 0 := hd.symm
    rw [this] at done
    exact done
  | succ i =>
    have e : downW p (i + 1) = if p i then downW p i else i + 1 := rfl
    by_cases hp : p i = true
    · rw [if_pos hp] at e
      simp [hp]
      refine (hb i st2 (by omega) rfl).mono ?_
      rintro r rfl
      exact ⟨i, rfl, by omega, rfl, rfl, by rw [← e, hd]⟩
    · rw [if_neg hp] at e
      simp [hp]
      rw [← hd, e] at done
      exact done
theorem while_up {c : FT} {body : FS} {S : Nat → Sl} {p : Nat → Bool} {n i0 : Nat} (hi0 : i0 ≤ n) (hc : ∀ i st', i ≤ n → st' = st → wX c (S i) st' (fun b st2 => b = (decide (i < n) && p i) ∧ st2 = st') G0)
    (hb : ∀ i st', i < n → st' = st → wS body (S i) st' (fun r => r = .nx (S (i + 1)) st')) (done : PS (.nx (S (upW p (n - i0) i0)) st)) : wS (fWhile c body) (S i0) st PS := by
  refine wS_while (fun k sl st' => ∃ i, k = n - i ∧ i ≤ n ∧ sl = S i ∧ st' = st ∧ upW p (n - i) i = upW p (n - i0) i0) (n - i0) ⟨i0, rfl, hi0, rfl, rfl, rfl⟩ ?_
  rintro k sl st' ⟨i, rfl, hi, rfl, rfl, hd⟩
  refine (hc i st' hi rfl).mono ?_
  rintro b st2 ⟨rfl, rfl⟩
  by_cases hlt : i < n
  · obtain ⟨m, hm⟩ : ∃ m, n - i = m + 1 := ⟨n - i - 1, by omega⟩
    rw [hm] at hd ⊢
    have e : upW p (m + 1) i = if p i then upW p m (i + 1) else i := rfl
    by_cases hp : p i = true
    · rw [if_pos hp] at e
      simp [hp, hlt]
      refine (hb i st2 hlt rfl).mono ?_
      rintro r rfl
      exact ⟨i + 1, by omega, by omega, rfl, rfl, by rw [show n - (i + 1) = m by omega, ← e, hd]⟩
    · rw [if_neg hp] at e
      simp [hp]
      rw [← hd, e] at done
      exact done
  · have e : i = n := by omega
    subst e
    simp
    rw [Nat.sub_self] at hd
    rw [← hd] at done
    exact done
end
end FL
/-! MO3: every second one; brackets by a pile. -/
namespace MO
open FL
def evens {α : Type} : List α → List α
  | [] => []
  | [a] => [a]
  | a :: _ :: l => a :: evens l
def odds {α : Type} : List α → List α
  | _ :: b :: l => b :: odds l
  | _ => []
def pairs2 {α : Type} : List α → List (α × α)
  | a :: b :: l => (a, b) :: pairs2 l
  | _ => []
theorem zip_pairs {α : Type} : ∀ l : List α, (evens l).zip (odds l) = pairs2 l
  | [] => rfl
  | [a] => rfl
  | a :: b :: l => by
    show (a :: evens l).zip (b :: odds l) = (a, b) :: pairs2 l
    rw [List.zip_cons_cons, zip_pairs l]
theorem evens_eq {α : Type} : ∀ l : List α, evens l = (List.range ((l.length + 1) / 2)).filterMap fun k => l[2 * k]?
  | [] => by simp [evens]
  | [a] => by simp [evens, List.range_succ]
  | a :: b :: l => by
    have e : ((a :: b :: l).length + 1) / 2 = (l.length + 1) / 2 + 1 := by simp only [List.length_cons]; omega
    rw [e, List.range_succ_eq_map, List.filterMap_cons]
    show a :: evens l = a :: _
    rw [evens_eq l, List.filterMap_map]
    rfl
theorem odds_eq {α : Type} : ∀ l : List α, odds l = (List.range (l.length / 2)).filterMap fun k => l[1 + 2 * k]?
  | [] => by simp [odds]
  | [a] => by simp [odds]
  | a :: b :: l => by
    have e : (a :: b :: l).length / 2 = l.length / 2 + 1 := by simp only [List.length_cons]; omega
    rw [e, List.range_succ_eq_map, List.filterMap_cons]
    show b :: odds l = b :: _
    rw [odds_eq l, List.filterMap_map]
    congr 2
    try rw [List.getElem?_cons_succ]
theorem pick_evens {α : Type} (l : List α) : pickG l none 2 = evens l := by
  rw [evens_eq]
  unfold pickG PySem.sliceBounds PySem.sliceRange
  simp only [Option.getD_some, show ((2 : Int) > 0) = True by simp, if_true]
  have hc : (if (0 : Int) < (l.length : Int) then ((l.length : Int) - 0 + 2 - 1) / 2 else 0).toNat = (l.length + 1) / 2 := by
    split <;> omega
  rw [hc, List.filterMap_map]
  congr 1
  funext k
  show l[((0 : Int) + 2 * (k : Int)).toNat]? = l[2 * k]?
  try (congr 1; omega)
theorem pick_odds {α : Type} (l : List α) : pickG l (some 1) 2 = odds l := by
  rw [odds_eq]
  unfold pickG PySem.sliceBounds PySem.sliceRange
  simp only [Option.getD_some, show ((2 : Int) > 0) = True by simp, if_true, show ¬ ((1 : Int) < 0) by omega, if_false]
  by_cases h0 : l.length = 0
  · have : l = [] := List.length_eq_zero_iff.mp h0
    subst this
    simp
  · have h1 : max (0 : Int) (min 1 (l.length : Int)) = 1 := by omega
    rw [h1]
    have hc : (if (1 : Int) < (l.length : Int) then ((l.length : Int) - 1 + 2 - 1) / 2 else 0).toNat = l.length / 2 := by
      split <;> omega
    rw [hc, List.filterMap_map]
    congr 1
theorem pairs2_len {α : Type} : ∀ l : List α, (pairs2 l).length = l.length / 2
  | [] => by simp [pairs2]
  | [a] => by simp [pairs2]
  | a :: b :: l => by
    show (pairs2 l).length + 1 = _
    rw [pairs2_len l]
    simp only [List.length_cons]
    omega
theorem pairs2_at {α : Type} : ∀ (l : List α) (k : Nat) (q : α × α), (pairs2 l)[k]? = some q → l[2 * k]? = some q.1 ∧ l[2 * k + 1]? = some q.2
  | [], k, q, h => by cases h
  | [a], k, q, h => by cases h
  | a :: b :: l, k, q, h => by
    cases k with
    | zero => cases h; exact ⟨rfl, rfl⟩
    | succ k =>
      have h' : (pairs2 l)[k]? = some q := h
      exact pairs2_at l k q h'
/-! brackets by a pile -/
def pileF (f : Pt → Nat) : List Pt → List Pt → List (Pt × Pt) → List Pt × List (Pt × Pt)
  | [], S, P => (S, P)
  | p :: l, S, P => if f p = 40 then pileF f l (p :: S) P else if f p = 41 then (match S with
      | [] => pileF f l [] P
      | o :: S' => pileF f l S' (P ++ [(o, p)]))
    else pileF f l S P
theorem scan_cons {f : Pt → Nat} {p : Pt} {l : List Pt} {d : Int} : scanM f 40 41 (p :: l) d = if d + dlt 40 41 (f p) = 0 then some p else scanM f 40 41 l (d + dlt 40 41 (f p)) := rfl
theorem split_cons {f : Pt → Nat} {p o c : Pt} {l : List Pt} (h : f p ≠ 40) : (∃ l1 l2, p :: l = l1 ++ o :: l2 ∧ f o = 40 ∧ scanM f 40 41 l2 1 = some c) ↔ ∃ l1 l2, l = l1 ++ o :: l2 ∧ f o = 40 ∧ scanM f 40 41 l2 1 = some c := by
  constructor
  · rintro ⟨l1, l2, e, h1, h2⟩
    cases l1 with
    | nil =>
      rw [List.nil_append, List.cons.injEq] at e
      rw [e.1] at h
      exact absurd h1 h
    | cons y l1 =>
      rw [List.cons_append, List.cons.injEq] at e
      exact ⟨l1, l2, e.2, h1, h2⟩
  · rintro ⟨l1, l2, e, h1, h2⟩
    exact ⟨p :: l1, l2, by rw [e]; rfl, h1, h2⟩
theorem pile_mem {f : Pt → Nat} {o c : Pt} : ∀ (l S : List Pt) (P : List (Pt × Pt)), (o, c) ∈ (pileF f l S P).2 ↔
    (o, c) ∈ P ∨ (∃ j : Nat, S[j]? = some o ∧ scanM f 40 41 l (j + 1) = some c) ∨ ∃ l1 l2, l = l1 ++ o :: l2 ∧ f o = 40 ∧ scanM f 40 41 l2 1 = some c
  | [], S, P => by
    simp [pileF, scanM]
  | p :: l, S, P => by
    unfold pileF
    by_cases h40 : f p = 40
    · rw [if_pos h40, pile_mem l (p :: S) P]
      have hd : dlt 40 41 (f p) = 1 := by rw [h40]; rfl
      constructor
      · rintro (h | ⟨j, h1, h2⟩ | ⟨l1, l2, e, h1, h2⟩)
        · exact .inl h
        · cases j with
          | zero =>
            cases h1
            exact .inr (.inr ⟨[], l, rfl, h40, by simpa using h2⟩)
          | succ j =>
            refine .inr (.inl ⟨j, by simpa using h1, ?_⟩)
            rw [scan_cons, hd, if_neg (by omega)]
            rw [← h2]
            congr 1
        · exact .inr (.inr ⟨p :: l1, l2, by rw [e]; rfl, h1, h2⟩)
      · rintro (h | ⟨j, h1, h2⟩ | ⟨l1, l2, e, h1, h2⟩)
        · exact .inl h
        · refine .inr (.inl ⟨j + 1, by simpa using h1, ?_⟩)
          rw [scan_cons, hd, if_neg (by omega)] at h2
          rw [← h2]
          congr 1
        · cases l1 with
          | nil =>
            rw [List.nil_append, List.cons.injEq] at e
            refine .inr (.inl ⟨0, by simp [e.1], ?_⟩)
            rw [e.2]
            simpa using h2
          | cons y l1 =>
            rw [List.cons_append, List.cons.injEq] at e
            exact .inr (.inr ⟨l1, l2, e.2, h1, h2⟩)
    · rw [if_neg h40]
      by_cases h41 : f p = 41
      · rw [if_pos h41]
        have hd : dlt 40 41 (f p) = -1 := by rw [h41]; rfl
        cases S with
        | nil =>
          show (o, c) ∈ (pileF f l [] P).2 ↔ _
          rw [pile_mem l [] P, split_cons h40]
          simp
        | cons o' S' =>
          show (o, c) ∈ (pileF f l S' (P ++ [(o', p)])).2 ↔ _
          rw [pile_mem l S' (P ++ [(o', p)]), split_cons h40]
          constructor
          · rintro (h | ⟨j, h1, h2⟩ | h)
            · rcases List.mem_append.mp h with h | h
              · exact .inl h
              · simp at h
                refine .inr (.inl ⟨0, by simp [h.1], ?_⟩)
                rw [scan_cons, hd, if_pos (by omega), h.2]
            · refine .inr (.inl ⟨j + 1, by simpa using h1, ?_⟩)
              rw [scan_cons, hd, if_neg (by omega), ← h2]
              congr 1
              omega
            · exact .inr (.inr h)
          · rintro (h | ⟨j, h1, h2⟩ | h)
            · exact .inl (List.mem_append.mpr (.inl h))
            · cases j with
              | zero =>
                rw [scan_cons, hd, if_pos (by omega)] at h2
                cases h2
                cases h1
                exact .inl (List.mem_append.mpr (.inr (by simp)))
              | succ j =>
                refine .inr (.inl ⟨j, by simpa using h1, ?_⟩)
                rw [scan_cons, hd, if_neg (by omega)] at h2
                rw [← h2]
                congr 1
                omega
            · exact .inr (.inr h)
      · rw [if_neg h41, pile_mem l S P, split_cons h40]
        have hd : dlt 40 41 (f p) = 0 := by simp [dlt, h40, h41]
        have e : ∀ j : Nat, scanM f 40 41 (p :: l) ((j : Int) + 1) = scanM f 40 41 l ((j : Int) + 1) := fun j => by
          rw [scan_cons, hd, Int.add_zero, if_neg (by omega)]
        simp only [e]
/-- the pairs of round brackets of a text -/
def prsP (ss : List (List Nat)) : List (Pt × Pt) := (pileF (sgn ss) (allP ss) [] []).2
theorem prs_mem {ss : List (List Nat)} {o c : Pt} : (o, c) ∈ prsP ss ↔ o ∈ allP ss ∧ sgn ss o = 40 ∧ partP ss o = some c := by
  unfold prsP
  rw [pile_mem]
  have key : ∀ l1 l2, allP ss = l1 ++ o :: l2 → sgn ss o = 40 → partP ss o = scanM (sgn ss) 40 41 l2 1 := by
    intro l1 l2 e h
    have up := allP_up ss
    rw [e] at up
    unfold Up at up
    rw [List.pairwise_append] at up
    obtain ⟨_, u2, u3⟩ := up
    rw [List.pairwise_cons] at u2
    have hs := (split_after (a := l1) (b := l2) (p := o) (fun y hy => u3 y hy o List.mem_cons_self) u2.1).1
    rw [← e] at hs
    unfold partP
    rw [h]
    show scanM (sgn ss) 40 41 ((allP ss).filter fun q => ltp o q) 1 = _
    rw [hs]
  constructor
  · rintro (h | ⟨j, h1, _⟩ | ⟨l1, l2, e, h1, h2⟩)
    · cases h
    · simp at h1
    · exact ⟨by rw [e]; simp, h1, by rw [key l1 l2 e h1, h2]⟩
  · rintro ⟨h1, h2, h3⟩
    obtain ⟨l1, l2, e⟩ := List.append_of_mem h1
    exact .inr (.inr ⟨l1, l2, e, h2, by rw [← key l1 l2 e h2, h3]⟩)
def leP (p q : Pt) : Bool := !ltp q p
/-- a round bracket ahead of p whose partner is not ahead of p -/
def hugs (ss : List (List Nat)) (p o : Pt) : Bool := match partP ss o with
  | some c => leP p c
  | none => false
def opensP (ss : List (List Nat)) : List Pt := (allP ss).filter fun o => decide (sgn ss o = 40)
def hugO (ss : List (List Nat)) (p : Pt) : Option Pt := (((opensP ss).filter fun o => leP o p).reverse).find? (hugs ss p)
theorem rev_find_up {l : List Pt} {h : Pt → Bool} {o : Pt} (up : Up l) (e : l.reverse.find? h = some o) : o ∈ l ∧ h o = true ∧ ∀ x ∈ l, h x = true → leP x o = true := by
  obtain ⟨h1, a, b, h2, h3⟩ := List.find?_eq_some_iff_append.mp e
  have e2 : l = b.reverse ++ o :: a.reverse := by
    have := congrArg List.reverse h2
    rw [List.reverse_reverse] at this
    rw [this]
    simp
  refine ⟨by rw [e2]; simp, h1, fun x hx hhx => ?_⟩
  rw [e2] at hx up
  unfold Up at up
  rw [List.pairwise_append] at up
  obtain ⟨_, u2, u3⟩ := up
  rcases List.mem_append.mp hx with g | g
  · have := u3 x g o List.mem_cons_self
    unfold leP
    rw [ltp_asymm this]
    rfl
  · rcases List.mem_cons.mp g with g | g
    · rw [g]
      unfold leP
      rw [ltp_irr]
      rfl
    · have := h3 x (List.mem_reverse.mp g)
      rw [hhx] at this
      cases this
theorem hug_some {ss : List (List Nat)} {p o : Pt} (e : hugO ss p = some o) : o ∈ allP ss ∧ sgn ss o = 40 ∧ leP o p = true ∧ hugs ss p o = true ∧ ∀ x ∈ allP ss, sgn ss x = 40 → leP x p = true → hugs ss p x = true → leP x o = true := by
  have up : Up ((opensP ss).filter fun o => leP o p) := ((allP_up ss).filter _).filter _
  obtain ⟨h1, h2, h3⟩ := rev_find_up up e
  obtain ⟨g1, g2⟩ := List.mem_filter.mp h1
  obtain ⟨g3, g4⟩ := List.mem_filter.mp g1
  exact ⟨g3, of_decide_eq_true g4, g2, h2, fun x hx hs hl hh => h3 x (List.mem_filter.mpr ⟨List.mem_filter.mpr ⟨hx, decide_eq_true hs⟩, hl⟩) hh⟩
theorem hug_none {ss : List (List Nat)} {p : Pt} (e : hugO ss p = none) : ∀ x ∈ allP ss, sgn ss x = 40 → leP x p = true → hugs ss p x = false := by
  intro x hx hs hl
  have := List.find?_eq_none.mp e x (List.mem_reverse.mpr (List.mem_filter.mpr ⟨List.mem_filter.mpr ⟨hx, decide_eq_true hs⟩, hl⟩))
  simpa using this
theorem leP_anti {p q : Pt} (h : leP p q = true) (k : leP q p = true) : p = q := by
  unfold leP at h k
  exact ltp_tri (by simpa using k) (by simpa using h)
end MO
/-! MO4: rows that stand in both, in plain terms: the longest common rows, how they are picked. -/
namespace MT
abbrev Row := List Nat
def lcs : List Row → List Row → Nat
  | [], _ => 0
  | _ :: _, [] => 0
  | a :: x, b :: y => if a = b then 1 + lcs x y else max (lcs x (b :: y)) (lcs (a :: x) y)
termination_by x y => x.length + y.length
theorem lcs_nil (y : List Row) : lcs [] y = 0 := by unfold lcs; rfl
theorem lcs_nil2 (x : List Row) : lcs x [] = 0 := by
  cases x with
  | nil => exact lcs_nil []
  | cons a x => unfold lcs; rfl
theorem lcs_cons (a b : Row) (x y : List Row) : lcs (a :: x) (b :: y) = if a = b then 1 + lcs x y else max (lcs x (b :: y)) (lcs (a :: x) y) := by
  conv => lhs; unfold lcs
theorem lcs_le : ∀ (n : Nat) (x y : List Row), x.length + y.length = n → lcs x y ≤ x.length ∧ lcs x y ≤ y.length
  | n, [], y, _ => by rw [lcs_nil]; exact ⟨Nat.zero_le _, Nat.zero_le _⟩
  | n, a :: x, [], _ => by rw [lcs_nil2]; exact ⟨Nat.zero_le _, Nat.zero_le _⟩
  | n, a :: x, b :: y, h => by
    have h1 := lcs_le (x.length + y.length) x y rfl
    have h2 := lcs_le (x.length + (b :: y).length) x (b :: y) rfl
    have h3 := lcs_le ((a :: x).length + y.length) (a :: x) y rfl
    rw [lcs_cons]
    simp only [List.length_cons] at *
    split <;> omega
termination_by _ x y _ => x.length + y.length
theorem lcs_self : ∀ x : List Row, lcs x x = x.length
  | [] => lcs_nil []
  | a :: x => by
    rw [lcs_cons, if_pos rfl, lcs_self x, List.length_cons]
    omega
theorem sub_cons {c b : Row} {k y : List Row} (h : (c :: k).Sublist (b :: y)) : (c :: k).Sublist y ∨ c = b ∧ k.Sublist y := by
  cases h with
  | cons _ h => exact .inl h
  | cons_cons _ h => exact .inr ⟨rfl, h⟩
theorem sub_tail {c b : Row} {k y : List Row} (h : (c :: k).Sublist (b :: y)) : k.Sublist y := by
  rcases sub_cons h with h | ⟨_, h⟩
  · exact (List.sublist_cons_self c k).trans h
  · exact h
/-- what stands in both, one behind another, is no longer -/
theorem lcs_sub : ∀ (n : Nat) (x y k : List Row), x.length + y.length = n → k.Sublist x → k.Sublist y → k.length ≤ lcs x y
  | n, [], y, k, _, h1, _ => by
    rw [List.sublist_nil.mp h1]
    exact Nat.zero_le _
  | n, a :: x, [], k, _, _, h2 => by
    rw [List.sublist_nil.mp h2]
    exact Nat.zero_le _
  | n, a :: x, b :: y, k, hn, h1, h2 => by
    rw [lcs_cons]
    cases k with
    | nil => exact Nat.zero_le _
    | cons c k =>
      split
      · rename_i e
        have s1 : k.Sublist x := sub_tail h1
        have s2 : k.Sublist y := sub_tail h2
        have := lcs_sub (x.length + y.length) x y k rfl s1 s2
        simp only [List.length_cons]
        omega
      · rename_i e
        by_cases hc : c = a
        · have s2 : (c :: k).Sublist y := by
            rcases sub_cons h2 with h | ⟨h, _⟩
            · exact h
            · exact absurd (hc.symm.trans h) e
          have := lcs_sub ((a :: x).length + y.length) (a :: x) y (c :: k) rfl h1 s2
          exact Nat.le_trans this (Nat.le_max_right _ _)
        · have s1 : (c :: k).Sublist x := by
            rcases sub_cons h1 with h | ⟨h, _⟩
            · exact h
            · exact absurd h hc
          have := lcs_sub (x.length + (b :: y).length) x (b :: y) (c :: k) rfl s1 h2
          exact Nat.le_trans this (Nat.le_max_left _ _)
termination_by _ x y _ _ _ _ => x.length + y.length
/-- pairs of equal rows, in order, that leave so much in common behind them -/
def good (x y : List Row) (left : Nat) (q : Nat × Nat) : Bool := decide (x[q.1]? = y[q.2]?) && decide (1 + lcs (x.drop (q.1 + 1)) (y.drop (q.2 + 1)) = left)
def pairsL (x y : List Row) (i j left : Nat) : List (Nat × Nat) := (List.range' i (x.length - i)).flatMap fun r => ((List.range' j (y.length - j)).filter fun p => good x y left (r, p)).map fun p => (r, p)
theorem pairsL_mem {x y : List Row} {i j left : Nat} {q : Nat × Nat} : q ∈ pairsL x y i j left ↔ i ≤ q.1 ∧ q.1 < x.length ∧ j ≤ q.2 ∧ q.2 < y.length ∧ good x y left q = true := by
  unfold pairsL
  rw [List.mem_flatMap]
  constructor
  · rintro ⟨r, hr, hq⟩
    obtain ⟨p, hp, rfl⟩ := List.mem_map.mp hq
    obtain ⟨h1, h2⟩ := List.mem_filter.mp hp
    rw [List.mem_range'_1] at hr h1
    exact ⟨hr.1, by show r < _; omega, h1.1, by show p < _; omega, h2⟩
  · rintro ⟨h1, h2, h3, h4, h5⟩
    refine ⟨q.1, List.mem_range'_1.mpr ⟨h1, by omega⟩, List.mem_map.mpr ⟨q.2, List.mem_filter.mpr ⟨List.mem_range'_1.mpr ⟨h3, by omega⟩, h5⟩, rfl⟩⟩
/-- one is found -/
theorem pair_ex : ∀ (n : Nat) (x y : List Row), x.length + y.length = n → 0 < lcs x y → ∃ r p, r < x.length ∧ p < y.length ∧ x[r]? = y[p]? ∧ 1 + lcs (x.drop (r + 1)) (y.drop (p + 1)) = lcs x y
  | n, [], y, _, h => by rw [lcs_nil] at h; omega
  | n, a :: x, [], _, h => by rw [lcs_nil2] at h; omega
  | n, a :: x, b :: y, hn, h => by
    rw [lcs_cons] at h ⊢
    by_cases e : a = b
    · rw [if_pos e]
      exact ⟨0, 0, by simp, by simp, by simp [e], by simp⟩
    · rw [if_neg e] at h ⊢
      by_cases hm : lcs (a :: x) y ≤ lcs x (b :: y)
      · rw [Nat.max_eq_left hm] at h ⊢
        obtain ⟨r, p, h1, h2, h3, h4⟩ := pair_ex (x.length + (b :: y).length) x (b :: y) rfl h
        exact ⟨r + 1, p, by simpa using h1, h2, by simpa using h3, by simpa using h4⟩
      · rw [Nat.max_eq_right (by omega)] at h ⊢
        obtain ⟨r, p, h1, h2, h3, h4⟩ := pair_ex ((a :: x).length + y.length) (a :: x) y rfl h
        exact ⟨r, p + 1, h1, by simpa using h2, by simpa using h3, by simpa using h4⟩
termination_by _ x y _ _ => x.length + y.length
theorem pairsL_ne {x y : List Row} {i j : Nat} (h : 0 < lcs (x.drop i) (y.drop j)) : pairsL x y i j (lcs (x.drop i) (y.drop j)) ≠ [] := by
  obtain ⟨r, p, h1, h2, h3, h4⟩ := pair_ex _ (x.drop i) (y.drop j) rfl h
  rw [List.length_drop] at h1 h2
  rw [List.getElem?_drop, List.getElem?_drop] at h3
  rw [List.drop_drop, List.drop_drop] at h4
  intro z
  have : (i + r, j + p) ∈ pairsL x y i j (lcs (x.drop i) (y.drop j)) := pairsL_mem.mpr ⟨by simp, by show i + r < _; omega, by simp, by show j + p < _; omega, by
    unfold good
    rw [Bool.and_eq_true]
    refine ⟨decide_eq_true h3, decide_eq_true ?_⟩
    rw [← h4]
    congr 2⟩
  rw [z] at this
  cases this
/-- rising pairs -/
def inB (x y : List Row) : Nat → Nat → Nat → List (Nat × Nat)
  | 0, _, _ => []
  | n + 1, i, j => if lcs (x.drop i) (y.drop j) = 0 then [] else match (pairsL x y i j (lcs (x.drop i) (y.drop j))).head? with
    | none => []
    | some q => q :: inB x y n (q.1 + 1) (q.2 + 1)
end MT
/-! MO5: what came apart is met, in plain terms. -/
namespace MT
/-- what stands for a row on one side: ahead of it, whether it is kept, behind it -/
abbrev Side := List Row × Bool × List Row
abbrev Dd := Row × Side
def piece (d : Dd) : List Row := if d.2.2.1 then d.2.1 ++ d.1 :: d.2.2.2 else d.2.1
def rowsD (ds : List Dd) : List Row := ds.map (·.1)
def flatD (ds : List Dd) : List Row := ds.flatMap piece
/-- the pairs of the kept -/
def prs : Nat → Nat → List Dd → List (Nat × Nat)
  | _, _, [] => []
  | i, j, d :: ds => if d.2.2.1 then (i, j + d.2.1.length) :: prs (i + 1) (j + (piece d).length) ds else prs (i + 1) (j + (piece d).length) ds
def keptN (ds : List Dd) : Nat := ds.countP fun d => d.2.2.1
/-- all that is not kept is like no row -/
def freshD (bs : List Row) (ds : List Dd) : Prop := ∀ d ∈ ds, (∀ r ∈ d.2.1, r ∉ bs) ∧ (∀ r ∈ d.2.2.2, r ∉ bs)
theorem lcs_ub : ∀ (n : Nat) (x y : List Row), x.length + y.length = n → lcs x y ≤ x.countP fun r => decide (r ∈ y)
  | n, [], y, _ => by rw [lcs_nil]; exact Nat.zero_le _
  | n, a :: x, [], _ => by rw [lcs_nil2]; exact Nat.zero_le _
  | n, a :: x, b :: y, h => by
    rw [lcs_cons]
    have mono : ∀ (u v : List Row), (∀ r, r ∈ u → r ∈ v) → (x.countP fun r => decide (r ∈ u)) ≤ x.countP fun r => decide (r ∈ v) := by
      intro u v z
      refine List.countP_mono_left fun r _ hr => ?_
      exact decide_eq_true (z r (of_decide_eq_true hr))
    split
    · rename_i e
      have h1 := lcs_ub (x.length + y.length) x y rfl
      have h2 := mono y (b :: y) fun r hr => List.mem_cons_of_mem _ hr
      rw [List.countP_cons, if_pos (by simp [e])]
      omega
    · have h1 := lcs_ub (x.length + (b :: y).length) x (b :: y) rfl
      have h2 := lcs_ub ((a :: x).length + y.length) (a :: x) y rfl
      have h3 := mono y (b :: y) fun r hr => List.mem_cons_of_mem _ hr
      rw [List.countP_cons] at h2 ⊢
      refine Nat.max_le.mpr ⟨Nat.le_trans h1 (Nat.le_add_right _ _), Nat.le_trans h2 (Nat.add_le_add h3 ?_)⟩
      by_cases hy : a ∈ y
      · simp [hy]
      · simp [hy]
termination_by _ x y _ => x.length + y.length
theorem mem_flatD {ds : List Dd} {bs : List Row} (h : freshD bs ds) {r : Row} (hr : r ∈ bs) (z : r ∈ flatD ds) : ∃ d ∈ ds, d.2.2.1 = true ∧ d.1 = r := by
  unfold flatD at z
  obtain ⟨d, hd, z⟩ := List.mem_flatMap.mp z
  obtain ⟨h1, h2⟩ := h d hd
  unfold piece at z
  split at z
  · rename_i e
    rcases List.mem_append.mp z with z | z
    · exact absurd hr (h1 r z)
    · rcases List.mem_cons.mp z with z | z
      · exact ⟨d, hd, e, z.symm⟩
      · exact absurd hr (h2 r z)
  · exact absurd hr (h1 r z)
theorem kept_sub (ds : List Dd) : ((ds.filter fun d => d.2.2.1).map (·.1)).Sublist (flatD ds) := by
  induction ds with
  | nil => exact List.Sublist.refl _
  | cons d ds ih =>
    have hfl : flatD (d :: ds) = piece d ++ flatD ds := List.flatMap_cons ..
    rw [hfl]
    by_cases e : d.2.2.1 = true
    · rw [List.filter_cons_of_pos (p := fun d : Dd => d.2.2.1) e, List.map_cons]
      unfold piece
      rw [if_pos e, List.append_assoc]
      exact (List.Sublist.cons_cons d.1 (ih.trans (List.sublist_append_right _ _))).trans (List.sublist_append_right _ _)
    · rw [List.filter_cons_of_neg (p := fun d : Dd => d.2.2.1) e]
      exact ih.trans (List.sublist_append_right _ _)
/-- how many are kept -/
theorem lcs_kept {pre : List Row} {ds : List Dd} (hp : ∀ r ∈ pre, r ∉ rowsD ds) (hn : (rowsD ds).Nodup) (hf : freshD (rowsD ds) ds) : lcs (rowsD ds) (pre ++ flatD ds) = keptN ds := by
  refine Nat.le_antisymm ?_ ?_
  · refine Nat.le_trans (lcs_ub _ _ _ rfl) ?_
    unfold rowsD keptN
    rw [List.countP_map]
    refine List.countP_mono_left fun d hd z => ?_
    have z := of_decide_eq_true (p := d.1 ∈ pre ++ flatD ds) z
    have z : d.1 ∈ flatD ds := by
      rcases List.mem_append.mp z with z | z
      · exact absurd (List.mem_map_of_mem (f := (·.1)) hd) (hp _ z)
      · exact z
    obtain ⟨d', hd', k, e⟩ := mem_flatD hf (List.mem_map_of_mem hd) z
    have : d' = d := by
      obtain ⟨u, hu⟩ := List.getElem?_of_mem hd'
      obtain ⟨v, hv⟩ := List.getElem?_of_mem hd
      have hu2 : (rowsD ds)[u]? = some d'.1 := by unfold rowsD; rw [List.getElem?_map, hu]; rfl
      have hv2 : (rowsD ds)[v]? = some d.1 := by unfold rowsD; rw [List.getElem?_map, hv]; rfl
      have hul : u < (rowsD ds).length := by
        rcases Nat.lt_or_ge u (rowsD ds).length with q | q
        · exact q
        · rw [List.getElem?_eq_none q] at hu2; cases hu2
      have := (List.getElem?_inj hul hn (j := v)).mp (by rw [hu2, hv2, e])
      rw [this, hv] at hu
      exact (Option.some.inj hu).symm
    rw [← this]
    exact k
  · unfold keptN
    rw [List.countP_eq_length_filter]
    have := lcs_sub _ (rowsD ds) (pre ++ flatD ds) _ rfl ((List.filter_sublist (l := ds) (p := fun d => d.2.2.1)).map (fun d : Dd => d.1)) ((kept_sub ds).trans (List.sublist_append_right _ _))
    rw [List.length_map] at this
    exact this
/-- one row at a time -/
theorem pairsL_step {x y : List Row} {i j left : Nat} (h : i < x.length) : pairsL x y i j left = (((List.range' j (y.length - j)).filter fun p => good x y left (i, p)).map fun p => (i, p)) ++ pairsL x y (i + 1) j left := by
  unfold pairsL
  rw [show x.length - i = (x.length - (i + 1)) + 1 by omega, List.range'_succ, List.flatMap_cons]
theorem pairsL_skip {x y : List Row} {i j left : Nat} (h : i < x.length) (hn : ∀ p, j ≤ p → p < y.length → x[i]? ≠ y[p]?) : pairsL x y i j left = pairsL x y (i + 1) j left := by
  rw [pairsL_step h, List.filter_eq_nil_iff.mpr]
  · rfl
  · intro p hp z
    rw [List.mem_range'_1] at hp
    unfold good at z
    rw [Bool.and_eq_true] at z
    exact hn p hp.1 (by omega) (of_decide_eq_true z.1)
theorem pairsL_hit {x y : List Row} {i j left k : Nat} (h : i < x.length) (hk : j + k < y.length) (hn : ∀ p, j ≤ p → p < j + k → x[i]? ≠ y[p]?) (hg : good x y left (i, j + k) = true) : (pairsL x y i j left).head? = some (i, j + k) := by
  rw [pairsL_step h, show y.length - j = k + (y.length - (j + k)) by omega, ← List.range'_append_1, List.filter_append, List.filter_eq_nil_iff.mpr, List.nil_append, show y.length - (j + k) = (y.length - (j + k) - 1) + 1 by omega, List.range'_succ, List.filter_cons_of_pos (p := fun p => good x y left (i, p)) hg]
  · rfl
  · intro p hp z
    rw [List.mem_range'_1] at hp
    unfold good at z
    rw [Bool.and_eq_true] at z
    exact hn p hp.1 hp.2 (of_decide_eq_true z.1)
theorem inB_done {x y : List Row} {n i j : Nat} (h : lcs (x.drop i) (y.drop j) = 0) : inB x y n i j = [] := by
  cases n with
  | zero => rfl
  | succ n => show (if _ then _ else _) = _; rw [if_pos h]
theorem inB_step {x y : List Row} {n i j : Nat} {q : Nat × Nat} (h : lcs (x.drop i) (y.drop j) ≠ 0) (hq : (pairsL x y i j (lcs (x.drop i) (y.drop j))).head? = some q) : inB x y (n + 1) i j = q :: inB x y n (q.1 + 1) (q.2 + 1) := by
  show (if _ then _ else _) = _
  rw [if_neg h, hq]
/-- the same rows on both sides -/
theorem inB_self (x : List Row) : ∀ (m n i : Nat), x.length - i = m → m < n → inB x x n i i = (List.range' i m).map fun r => (r, r)
  | 0, n, i, h, _ => by
    rw [inB_done]
    · rfl
    · rw [List.drop_eq_nil_of_le (by omega), lcs_nil]
  | m + 1, 0, i, h, hn => by omega
  | m + 1, n + 1, i, h, hn => by
    have hl : lcs (x.drop i) (x.drop i) = m + 1 := by rw [lcs_self, List.length_drop, h]
    have hh : (pairsL x x i i (lcs (x.drop i) (x.drop i))).head? = some (i, i) := by
      refine pairsL_hit (k := 0) (by omega) (by omega) (fun p h1 h2 => by omega) ?_
      unfold good
      rw [Bool.and_eq_true]
      refine ⟨decide_eq_true rfl, decide_eq_true ?_⟩
      show 1 + lcs (x.drop (i + 1)) (x.drop (i + 1)) = _
      rw [lcs_self, hl, List.length_drop]
      omega
    rw [inB_step (by rw [hl]; omega) hh, inB_self x m n (i + 1) (by omega) (by omega)]
    rfl
theorem pairsL_skips {x y : List Row} {j left i : Nat} : ∀ (k i0 : Nat), i0 + k = i → i ≤ x.length → (∀ k, i0 ≤ k → k < i → ∀ p, j ≤ p → p < y.length → x[k]? ≠ y[p]?) → pairsL x y i0 j left = pairsL x y i j left
  | 0, i0, h, _, _ => by rw [show i0 = i by omega]
  | k + 1, i0, h, hl, hn => by
    rw [pairsL_skip (by omega) (hn i0 (Nat.le_refl _) (by omega)), pairsL_skips k (i0 + 1) (by omega) hl fun k h1 h2 => hn k (by omega) h2]
theorem fresh_tl {d : Dd} {ds : List Dd} (h : freshD (rowsD (d :: ds)) (d :: ds)) : freshD (rowsD ds) ds := fun e he => ⟨fun r hr z => (h e (List.mem_cons_of_mem _ he)).1 r hr (List.mem_cons_of_mem _ z), fun r hr z => (h e (List.mem_cons_of_mem _ he)).2 r hr (List.mem_cons_of_mem _ z)⟩
theorem drop_get {x u : List Row} {i k : Nat} (h : x.drop i = u) : x[i + k]? = u[k]? := by rw [← h, List.getElem?_drop]
theorem drop_len {x u : List Row} {i : Nat} (h : x.drop i = u) (hu : u ≠ []) : i < x.length ∧ x.length = i + u.length := by
  have := congrArg List.length h
  rw [List.length_drop] at this
  have : 0 < u.length := List.length_pos_iff.mpr hu
  omega
/-- rows that are kept are found, and no more -/
theorem inB_kept (x y : List Row) : ∀ (ds : List Dd) (n m i i0 j : Nat) (pre : List Row), ds.length = m → m < n → i0 ≤ i → x.drop i = rowsD ds → y.drop j = pre ++ flatD ds → (∀ r ∈ pre, r ∉ rowsD ds) → (∀ k, i0 ≤ k → k < i → ∀ p, j ≤ p → p < y.length → x[k]? ≠ y[p]?) → lcs (x.drop i0) (y.drop j) = keptN ds → (rowsD ds).Nodup → freshD (rowsD ds) ds → inB x y n i0 j = prs i (j + pre.length) ds
  | [], n, m, i, i0, j, pre, hm, hn, hi, hx, hy, hp, hs, hl, hd, hf => inB_done hl
  | d :: ds, 0, m, i, i0, j, pre, hm, hn, hi, hx, hy, hp, hs, hl, hd, hf => by omega
  | d :: ds, n + 1, m, i, i0, j, pre, hm, hn, hi, hx, hy, hp, hs, hl, hd, hf => by
    have hxl := drop_len hx (by unfold rowsD; simp)
    have hx1 : x.drop (i + 1) = rowsD ds := by
      rw [← List.drop_drop, hx]; rfl
    have hxi : x[i]? = some d.1 := by
      have := drop_get (k := 0) hx
      rw [Nat.add_zero] at this
      rw [this]; rfl
    obtain ⟨hd1, hd2⟩ := List.nodup_cons.mp (show (d.1 :: rowsD ds).Nodup from hd)
    have hfl : flatD (d :: ds) = piece d ++ flatD ds := List.flatMap_cons ..
    have hpd : d.1 ∉ pre := fun z => hp _ z (List.mem_cons_self ..)
    have hpd2 : d.1 ∉ d.2.1 := fun z => (hf d (List.mem_cons_self ..)).1 _ z (List.mem_cons_self ..)
    have hpf : ∀ r ∈ d.2.1, r ∉ rowsD ds := fun r hr z => (hf d (List.mem_cons_self ..)).1 r hr (List.mem_cons_of_mem _ z)
    have hpf2 : ∀ r ∈ d.2.2.2, r ∉ rowsD ds := fun r hr z => (hf d (List.mem_cons_self ..)).2 r hr (List.mem_cons_of_mem _ z)
    have hpp : ∀ r ∈ pre, r ∉ rowsD ds := fun r hr z => hp r hr (List.mem_cons_of_mem _ z)
    by_cases k : d.2.2.1 = true
    · have hpc : piece d = d.2.1 ++ d.1 :: d.2.2.2 := by unfold piece; rw [if_pos k]
      have hy2 : y.drop j = (pre ++ d.2.1) ++ d.1 :: (d.2.2.2 ++ flatD ds) := by
        rw [hy, hfl, hpc]
        simp only [List.append_assoc, List.cons_append]
      have hyl := drop_len hy2 (by simp)
      have hyd : y.drop (j + (pre ++ d.2.1).length + 1) = d.2.2.2 ++ flatD ds := by
        rw [Nat.add_assoc, ← List.drop_drop, hy2, List.drop_append, List.drop_eq_nil_of_le (by omega), show (pre ++ d.2.1).length + 1 - (pre ++ d.2.1).length = 1 by omega]
        rfl
      have hkn : keptN (d :: ds) = keptN ds + 1 := by unfold keptN; rw [List.countP_cons, if_pos k]
      have hl2 : lcs (x.drop (i + 1)) (y.drop (j + (pre ++ d.2.1).length + 1)) = keptN ds := by
        rw [hx1, hyd]; exact lcs_kept hpf2 hd2 (fresh_tl hf)
      have hh : (pairsL x y i0 j (lcs (x.drop i0) (y.drop j))).head? = some (i, j + (pre ++ d.2.1).length) := by
        rw [pairsL_skips (i - i0) i0 (by omega) (by omega) hs]
        refine pairsL_hit hxl.1 (by rw [hyl.2]; simp only [List.length_append, List.length_cons]; omega) ?_ ?_
        · intro p h1 h2 z
          rw [show p = j + (p - j) by omega, drop_get hy2, hxi, List.getElem?_append_left (by omega)] at z
          have := List.mem_of_getElem? z.symm
          rcases List.mem_append.mp this with z | z
          · exact hpd z
          · exact hpd2 z
        · unfold good
          rw [Bool.and_eq_true]
          refine ⟨decide_eq_true ?_, decide_eq_true ?_⟩
          · show x[i]? = y[j + _]?
            rw [drop_get hy2, hxi, List.getElem?_append_right (Nat.le_refl _), Nat.sub_self]
            rfl
          · show 1 + lcs (x.drop (i + 1)) (y.drop (j + (pre ++ d.2.1).length + 1)) = _
            rw [hl2, hl, hkn]
            omega
      rw [inB_step (by rw [hl, hkn]; omega) hh, inB_kept x y ds n (m - 1) (i + 1) (i + 1) _ d.2.2.2 (by simp only [List.length_cons] at hm; omega) (by simp only [List.length_cons] at hm; omega) (Nat.le_refl _) hx1 hyd hpf2 (fun k h1 h2 => by omega) hl2 hd2 (fresh_tl hf)]
      show _ = prs i (j + pre.length) (d :: ds)
      conv => rhs; unfold prs
      rw [if_pos k, hpc]
      rw [show j + (pre ++ d.2.1).length = j + pre.length + d.2.1.length by rw [List.length_append]; omega, show j + pre.length + (d.2.1 ++ d.1 :: d.2.2.2).length = j + pre.length + d.2.1.length + 1 + d.2.2.2.length by rw [List.length_append, List.length_cons]; omega]
    · have hpc : piece d = d.2.1 := by unfold piece; rw [if_neg k]
      have hkn : keptN (d :: ds) = keptN ds := by unfold keptN; rw [List.countP_cons, if_neg k]; rfl
      have hy2 : y.drop j = (pre ++ d.2.1) ++ flatD ds := by rw [hy, hfl, hpc, List.append_assoc]
      rw [inB_kept x y ds (n + 1) (m - 1) (i + 1) i0 j (pre ++ d.2.1) (by simp only [List.length_cons] at hm; omega) (by omega) (by omega) hx1 hy2 ?_ ?_ (hl.trans hkn) hd2 (fresh_tl hf)]
      · show _ = prs i (j + pre.length) (d :: ds)
        conv => rhs; unfold prs
        rw [if_neg k, hpc, List.length_append, Nat.add_assoc]
      · intro r hr
        rcases List.mem_append.mp hr with z | z
        · exact hpp r z
        · exact hpf r z
      · intro k' h1 h2 p h3 h4 z
        rcases Nat.lt_or_ge k' i with h | h
        · exact hs k' h1 h p h3 h4 z
        · rw [show k' = i by omega, hxi, show p = j + (p - j) by omega, drop_get hy2] at z
          rcases List.mem_append.mp (List.mem_of_getElem? z.symm) with z | z
          · rcases List.mem_append.mp z with z | z
            · exact hpd z
            · exact hpd2 z
          · have : freshD [d.1] ds := fun e he => ⟨fun r hr q => (hf e (List.mem_cons_of_mem _ he)).1 r hr (by rw [List.mem_singleton.mp q]; exact List.mem_cons_self ..), fun r hr q => (hf e (List.mem_cons_of_mem _ he)).2 r hr (by rw [List.mem_singleton.mp q]; exact List.mem_cons_self ..)⟩
            obtain ⟨e, he, _, e2⟩ := mem_flatD this (List.mem_singleton.mpr rfl) z
            exact hd1 (e2 ▸ List.mem_map_of_mem (f := (·.1)) he)
end MT
/-! MO6: the stretches, and what is made of them. -/
namespace MT
def cut (l : List Row) (a b : Nat) : List Row := (l.take b).drop a
theorem cut_eq (l : List Row) (a k : Nat) : cut l a (a + k) = (l.drop a).take k := by
  unfold cut
  rw [List.drop_take, Nat.add_sub_cancel_left]
abbrev Str := List Row × List Row × List Row × List Row
def strGo (base one other : List Row) (f s : Nat → Option Nat) : List Nat → Nat → Nat → Nat → List Str
  | [], _, _, _ => []
  | row :: rs, a, h, t =>
    if row = base.length then (cut base a row, cut one h one.length, cut other t other.length, cut base row (row + 1)) :: strGo base one other f s rs (row + 1) (one.length + 1) (other.length + 1)
    else match f row, s row with
      | some p, some q => (cut base a row, cut one h p, cut other t q, cut base row (row + 1)) :: strGo base one other f s rs (row + 1) (p + 1) (q + 1)
      | _, _ => strGo base one other f s rs a h t
def lk (q : List (Nat × Nat)) (r : Nat) : Option Nat := (q.find? fun p => decide (p.1 = r)).map (·.2)
abbrev Cell := Row × Side × Side
def cL (c : Cell) : Dd := (c.1, c.2.1)
def cR (c : Cell) : Dd := (c.1, c.2.2)
def gos (u1 u2 : List Row) : List Row → List Row → List Row → List Cell → List Str
  | o, m, t, [] => [(o, m ++ u1, t ++ u2, [])]
  | o, m, t, c :: cs => if c.2.1.2.1 && c.2.2.2.1 then (o, m ++ c.2.1.1, t ++ c.2.2.1, [c.1]) :: gos u1 u2 [] c.2.1.2.2 c.2.2.2.2 cs
    else gos u1 u2 (o ++ [c.1]) (m ++ piece (cL c)) (t ++ piece (cR c)) cs
theorem prs_ge : ∀ (ds : List Dd) (i j : Nat) (q : Nat × Nat), q ∈ prs i j ds → i ≤ q.1
  | [], _, _, _, h => by cases h
  | d :: ds, i, j, q, h => by
    unfold prs at h
    split at h
    · rcases List.mem_cons.mp h with h | h
      · rw [h]; exact Nat.le_refl _
      · have := prs_ge ds _ _ q h; omega
    · have := prs_ge ds _ _ q h; omega
theorem lk_none {q : List (Nat × Nat)} {r : Nat} (h : ∀ p ∈ q, p.1 ≠ r) : lk q r = none := by
  unfold lk
  rw [List.find?_eq_none.mpr fun p hp => by simpa using h p hp]
  rfl
theorem lk_at (d : Dd) (ds : List Dd) (i j : Nat) : lk (prs i j (d :: ds)) i = if d.2.2.1 then some (j + d.2.1.length) else none := by
  unfold prs
  split
  · unfold lk; rw [List.find?_cons_of_pos (by simp)]; rfl
  · exact lk_none fun p hp => by have := prs_ge _ _ _ p hp; omega
theorem lk_past (d : Dd) (ds : List Dd) (i j r : Nat) (h : i < r) : lk (prs i j (d :: ds)) r = lk (prs (i + 1) (j + (piece d).length) ds) r := by
  conv => lhs; unfold prs
  split
  · unfold lk; rw [List.find?_cons_of_neg (by simp; omega)]
  · rfl
theorem flat_cons (d : Dd) (ds : List Dd) : flatD (d :: ds) = piece d ++ flatD ds := List.flatMap_cons ..
theorem piece_kept {d : Dd} (k : d.2.2.1 = true) : piece d = d.2.1 ++ d.1 :: d.2.2.2 := by unfold piece; rw [if_pos k]
theorem drop_more {l u v w : List Row} {a : Nat} (h : l.drop a = u ++ v) (hw : u.length = w.length) : l.drop (a + w.length) = v := by
  rw [← List.drop_drop, h, ← hw, List.drop_left]
/-- the loop cuts the rows as the kept say -/
theorem strGo_gos (base one other : List Row) (f s : Nat → Option Nat) (u1 u2 : List Row) : ∀ (cs : List Cell) (i a h t : Nat) (o m e : List Row), i + cs.length = base.length → base.drop a = o ++ cs.map (·.1) → a + o.length = i → one.drop h = m ++ (flatD (cs.map cL) ++ u1) → other.drop t = e ++ (flatD (cs.map cR) ++ u2) → h ≤ one.length → t ≤ other.length → (∀ r, i ≤ r → f r = lk (prs i (h + m.length) (cs.map cL)) r) → (∀ r, i ≤ r → s r = lk (prs i (t + e.length) (cs.map cR)) r) → strGo base one other f s (List.range' i (cs.length + 1)) a h t = gos u1 u2 o m e cs
  | [], i, a, h, t, o, m, e, hi, hb, ha, h1, h2, hl1, hl2, hf, hs => by
    show strGo base one other f s [i] a h t = [(o, m ++ u1, e ++ u2, [])]
    unfold strGo
    rw [if_pos (by simpa using hi)]
    have e1 : cut base a i = o := by
      rw [← ha, cut_eq, hb]; simp
    have e2 : cut one h one.length = m ++ u1 := by
      unfold cut; rw [List.take_length, h1]; rfl
    have e3 : cut other t other.length = e ++ u2 := by
      unfold cut; rw [List.take_length, h2]; rfl
    have e4 : cut base i (i + 1) = [] := by
      unfold cut; exact List.drop_eq_nil_of_le (by rw [List.length_take]; simp only [List.length_nil] at hi; omega)
    rw [e1, e2, e3, e4]
    rfl
  | c :: cs, i, a, h, t, o, m, e, hi, hb, ha, h1, h2, hl1, hl2, hf, hs => by
    simp only [List.length_cons] at hi
    rw [show (c :: cs).length + 1 = (cs.length + 1) + 1 from rfl, List.range'_succ]
    unfold strGo gos
    rw [if_neg (by omega), hf i (Nat.le_refl _), hs i (Nat.le_refl _)]
    simp only [List.map_cons] at h1 h2 hf hs hb ⊢
    rw [lk_at, lk_at]
    rw [flat_cons] at h1 h2
    have g1 : ∀ r, i + 1 ≤ r → f r = lk (prs (i + 1) (h + m.length + (piece (cL c)).length) (cs.map cL)) r := fun r hr => by
      rw [hf r (by omega), lk_past _ _ _ _ _ (by omega)]
    have g2 : ∀ r, i + 1 ≤ r → s r = lk (prs (i + 1) (t + e.length + (piece (cR c)).length) (cs.map cR)) r := fun r hr => by
      rw [hs r (by omega), lk_past _ _ _ _ _ (by omega)]
    by_cases k : (c.2.1.2.1 && c.2.2.2.1) = true
    · rw [if_pos k]
      obtain ⟨k1, k2⟩ := Bool.and_eq_true _ _ |>.mp k
      rw [if_pos (show (cL c).2.2.1 = true from k1), if_pos (show (cR c).2.2.1 = true from k2)]
      have p1 := piece_kept (d := cL c) k1
      have p2 := piece_kept (d := cR c) k2
      have e1 : cut base a i = o := by rw [← ha, cut_eq, hb]; simp
      have e2 : cut one h (h + m.length + (cL c).2.1.length) = m ++ c.2.1.1 := by
        rw [Nat.add_assoc, cut_eq, h1, p1, show m.length + (cL c).2.1.length = (m ++ c.2.1.1).length by rw [List.length_append]; rfl]
        rw [show m ++ (((cL c).2.1 ++ (cL c).1 :: (cL c).2.2.2) ++ flatD (cs.map cL) ++ u1) = (m ++ c.2.1.1) ++ (c.1 :: c.2.1.2.2 ++ flatD (cs.map cL) ++ u1) by simp [cL], List.take_left]
      have e3 : cut other t (t + e.length + (cR c).2.1.length) = e ++ c.2.2.1 := by
        rw [Nat.add_assoc, cut_eq, h2, p2, show e.length + (cR c).2.1.length = (e ++ c.2.2.1).length by rw [List.length_append]; rfl]
        rw [show e ++ (((cR c).2.1 ++ (cR c).1 :: (cR c).2.2.2) ++ flatD (cs.map cR) ++ u2) = (e ++ c.2.2.1) ++ (c.1 :: c.2.2.2.2 ++ flatD (cs.map cR) ++ u2) by simp [cR], List.take_left]
      have hbi : base.drop i = c.1 :: cs.map (·.1) := by rw [← ha]; exact drop_more hb rfl
      have e4 : cut base i (i + 1) = [c.1] := by rw [cut_eq, hbi]; rfl
      have d1 : one.drop (h + m.length + (cL c).2.1.length + 1) = c.2.1.2.2 ++ (flatD (cs.map cL) ++ u1) := by
        rw [show h + m.length + (cL c).2.1.length + 1 = h + (m ++ (cL c).2.1 ++ [c.1]).length by simp only [List.length_append, List.length_cons, List.length_nil]; omega]
        refine drop_more (u := m ++ (cL c).2.1 ++ [c.1]) ?_ rfl
        rw [h1, p1]; simp [cL]
      have d2 : other.drop (t + e.length + (cR c).2.1.length + 1) = c.2.2.2.2 ++ (flatD (cs.map cR) ++ u2) := by
        rw [show t + e.length + (cR c).2.1.length + 1 = t + (e ++ (cR c).2.1 ++ [c.1]).length by simp only [List.length_append, List.length_cons, List.length_nil]; omega]
        refine drop_more (u := e ++ (cR c).2.1 ++ [c.1]) ?_ rfl
        rw [h2, p2]; simp [cR]
      have b1 : h + m.length + (cL c).2.1.length + 1 ≤ one.length := by
        have := congrArg List.length h1
        rw [p1] at this
        simp only [List.length_drop, List.length_append, List.length_cons] at this
        omega
      have b2 : t + e.length + (cR c).2.1.length + 1 ≤ other.length := by
        have := congrArg List.length h2
        rw [p2] at this
        simp only [List.length_drop, List.length_append, List.length_cons] at this
        omega
      show (cut base a i, _, _, _) :: _ = _
      rw [e1, e2, e3, e4, strGo_gos base one other f s u1 u2 cs (i + 1) (i + 1) _ _ [] c.2.1.2.2 c.2.2.2.2 (by omega) (by rw [← List.drop_drop, hbi]; rfl) (by simp) d1 d2 b1 b2 ?_ ?_]
      · intro r hr
        rw [g1 r hr, p1]
        congr 2
        simp only [List.length_append, List.length_cons, cL]
        omega
      · intro r hr
        rw [g2 r hr, p2]
        congr 2
        simp only [List.length_append, List.length_cons, cR]
        omega
    · rw [if_neg k]
      have step := strGo_gos base one other f s u1 u2 cs (i + 1) a h t (o ++ [c.1]) (m ++ piece (cL c)) (e ++ piece (cR c)) (by omega) (by rw [hb]; simp) (by rw [List.length_append]; simp; omega) (by rw [h1]; simp) (by rw [h2]; simp) hl1 hl2 (fun r hr => by rw [g1 r hr, List.length_append, Nat.add_assoc]) (fun r hr => by rw [g2 r hr, List.length_append, Nat.add_assoc])
      rw [← step]
      cases k1 : c.2.1.2.1
      · rw [show (cL c).2.2.1 = false from k1]; rfl
      · cases k2 : c.2.2.2.1
        · rw [show (cL c).2.2.1 = true from k1, show (cR c).2.2.1 = false from k2]; rfl
        · rw [k1, k2] at k; exact absurd rfl k
/-- what is made of the stretches -/
def clashP (x : Str) : Bool := decide (x.2.1 ≠ x.2.2.1) && (decide (x.2.1 ≠ x.1) && decide (x.2.2.1 ≠ x.1))
def sel (o m t : List Row) : List Row := if m = o then t else m
def rowsS (x : Str) : List Row := sel x.1 x.2.1 x.2.2.1 ++ x.2.2.2
def rowsOf (ss : List Str) : List Row := ss.flatMap rowsS
def clashes (ss : List Str) : List Str := ss.filter clashP
def plainS : Side := ([], true, [])
theorem rowsOf_cons (x : Str) (ss : List Str) : rowsOf (x :: ss) = rowsS x ++ rowsOf ss := List.flatMap_cons ..
theorem clashes_no {x : Str} {ss : List Str} (h : clashP x = false) : clashes (x :: ss) = clashes ss := by
  unfold clashes; rw [List.filter_cons_of_neg (by rw [h]; simp)]
/-- nothing new on the one side -/
theorem gos_id (u2 : List Row) : ∀ (cs : List Cell) (o t : List Row), (∀ c ∈ cs, c.2.1 = plainS) → rowsOf (gos [] u2 o o t cs) = t ++ flatD (cs.map cR) ++ u2 ∧ clashes (gos [] u2 o o t cs) = []
  | [], o, t, h => by
    unfold gos
    refine ⟨?_, ?_⟩
    · rw [rowsOf_cons]
      show (if o ++ [] = o then t ++ u2 else _) ++ [] ++ [] = _
      rw [if_pos (by simp)]; simp [flatD]
    · rw [clashes_no]; rfl
      show (_ && (decide (o ++ [] ≠ o) && _)) = false
      simp
  | c :: cs, o, t, h => by
    have hc := h c (List.mem_cons_self ..)
    have ih := fun o t => gos_id u2 cs o t fun c hc => h c (List.mem_cons_of_mem _ hc)
    have hp : piece (cL c) = [c.1] := by unfold piece cL; rw [hc]; rfl
    unfold gos
    rw [List.map_cons, flat_cons]
    split
    · rename_i k
      obtain ⟨k1, k2⟩ := Bool.and_eq_true _ _ |>.mp k
      rw [rowsOf_cons, clashes_no, hc]
      · refine ⟨?_, (ih [] _).2⟩
        show rowsS _ ++ rowsOf (gos [] u2 [] [] _ cs) = _
        rw [(ih [] _).1, piece_kept (d := cR c) k2]
        show (if o ++ [] = o then t ++ c.2.2.1 else _) ++ [c.1] ++ _ = _
        rw [if_pos (by simp)]
        simp [cR]
      · rw [hc]
        show (_ && (decide (o ++ [] ≠ o) && _)) = false
        simp
    · rw [hp]
      refine ⟨?_, (ih _ _).2⟩
      rw [(ih _ _).1]
      simp
/-- what one of the two has made of a row -/
def pieceB (c : Cell) : List Row := if c.2.1 = plainS then piece (cR c) else piece (cL c)
/-- no two rows that touch are changed; what both have changed is alike -/
def tame : Bool → List Cell → Prop
  | _, [] => True
  | b, c :: cs => (c.2.1 = plainS ∧ c.2.2 = plainS ∧ tame false cs) ∨ (b = false ∧ (c.2.1 = plainS ∨ c.2.2 = plainS ∨ c.2.1 = c.2.2) ∧ tame true cs)
theorem gos_tame : ∀ (cs : List Cell) (b : Bool) (o m t : List Row), tame b cs → (b = false → o = [] ∧ m = [] ∧ t = []) → (m = t ∨ m = o ∨ t = o) → rowsOf (gos [] [] o m t cs) = sel o m t ++ cs.flatMap pieceB ∧ clashes (gos [] [] o m t cs) = []
  | [], b, o, m, t, ht, hb, hq => by
    unfold gos
    refine ⟨?_, ?_⟩
    · rw [rowsOf_cons]
      unfold rowsS
      simp [rowsOf]
    · rw [clashes_no]; rfl
      unfold clashP
      simp only [List.append_nil]
      rcases hq with q | q | q <;> simp [q]
  | c :: cs, b, o, m, t, ht, hb, hq => by
    obtain ⟨r, ⟨p1, k1, q1⟩, ⟨p2, k2, q2⟩⟩ := c
    rw [List.flatMap_cons]
    have go : ∀ (b : Bool) (o m t : List Row), tame b cs → (b = false → o = [] ∧ m = [] ∧ t = []) → (m = t ∨ m = o ∨ t = o) → rowsOf (gos [] [] o m t cs) = sel o m t ++ cs.flatMap pieceB ∧ clashes (gos [] [] o m t cs) = [] := fun b o m t => gos_tame cs b o m t
    rcases ht with ⟨h1, h2, ht⟩ | ⟨rfl, h, ht⟩
    · cases h1
      cases h2
      have := go false [] [] [] ht (fun _ => ⟨rfl, rfl, rfl⟩) (.inl rfl)
      unfold gos
      show rowsOf ((o, m ++ [], t ++ [], [r]) :: gos [] [] [] [] [] cs) = _ ∧ clashes ((o, m ++ [], t ++ [], [r]) :: gos [] [] [] [] [] cs) = _
      rw [rowsOf_cons, clashes_no, this.1, this.2]
      · refine ⟨?_, rfl⟩
        simp [rowsS, sel, pieceB, piece, cR, plainS]
      · unfold clashP
        simp only [List.append_nil]
        rcases hq with q | q | q <;> simp [q]
    · obtain ⟨rfl, rfl, rfl⟩ := hb rfl
      unfold gos
      rcases h with h | h | h
      · cases h
        cases k2
        · have := go true ([] ++ [r]) ([] ++ [r]) ([] ++ p2) ht (by simp) (.inr (.inl rfl))
          show rowsOf (gos [] [] ([] ++ [r]) ([] ++ [r]) ([] ++ p2) cs) = _ ∧ clashes (gos [] [] ([] ++ [r]) ([] ++ [r]) ([] ++ p2) cs) = _
          rw [this.1, this.2]
          refine ⟨?_, rfl⟩
          simp [sel, pieceB, piece, cR, plainS]
        · have := go true [] [] q2 ht (by simp) (.inr (.inl rfl))
          show rowsOf (([], [], p2, [r]) :: gos [] [] [] [] q2 cs) = _ ∧ clashes (([], [], p2, [r]) :: gos [] [] [] [] q2 cs) = _
          rw [rowsOf_cons, clashes_no, this.1, this.2]
          · refine ⟨?_, rfl⟩
            simp [rowsS, sel, pieceB, piece, cR, plainS]
          · simp [clashP]
      · cases h
        cases k1
        · have := go true ([] ++ [r]) ([] ++ p1) ([] ++ [r]) ht (by simp) (.inr (.inr rfl))
          show rowsOf (gos [] [] ([] ++ [r]) ([] ++ p1) ([] ++ [r]) cs) = _ ∧ clashes (gos [] [] ([] ++ [r]) ([] ++ p1) ([] ++ [r]) cs) = _
          rw [this.1, this.2]
          refine ⟨?_, rfl⟩
          simp only [sel, pieceB, piece, cL, cR, plainS, List.nil_append]
          split
          · rename_i e
            simp [e]
          · simp
        · have := go true [] q1 [] ht (by simp) (.inr (.inr rfl))
          show rowsOf (([], p1, [], [r]) :: gos [] [] [] q1 [] cs) = _ ∧ clashes (([], p1, [], [r]) :: gos [] [] [] q1 [] cs) = _
          rw [rowsOf_cons, clashes_no, this.1, this.2]
          · refine ⟨?_, rfl⟩
            by_cases e1 : p1 = [] <;> by_cases e2 : q1 = [] <;> simp [rowsS, sel, pieceB, piece, cL, cR, plainS, e1, e2]
          · simp [clashP]
      · cases h
        cases k1
        · have := go true ([] ++ [r]) ([] ++ p1) ([] ++ p1) ht (by simp) (.inl rfl)
          show rowsOf (gos [] [] ([] ++ [r]) ([] ++ p1) ([] ++ p1) cs) = _ ∧ clashes (gos [] [] ([] ++ [r]) ([] ++ p1) ([] ++ p1) cs) = _
          rw [this.1, this.2]
          refine ⟨?_, rfl⟩
          by_cases e1 : p1 = [r] <;> simp [sel, pieceB, piece, cL, cR, plainS, e1]
        · have := go true [] q1 q1 ht (by simp) (.inl rfl)
          show rowsOf (([], p1, p1, [r]) :: gos [] [] [] q1 q1 cs) = _ ∧ clashes (([], p1, p1, [r]) :: gos [] [] [] q1 q1 cs) = _
          rw [rowsOf_cons, clashes_no, this.1, this.2]
          · refine ⟨?_, rfl⟩
            by_cases e1 : p1 = [] <;> by_cases e2 : q1 = [] <;> simp [rowsS, sel, pieceB, piece, cL, cR, plainS, e1, e2]
          · simp [clashP]
end MT
/-! MO7: a clash, and any rising pairs as kept rows. -/
namespace MT
def allPlain (cs : List Cell) : Prop := ∀ c ∈ cs, c.2.1 = plainS ∧ c.2.2 = plainS
theorem tame_plain : ∀ (cs : List Cell), allPlain cs → tame false cs
  | [], _ => trivial
  | c :: cs, h => .inl ⟨(h c (List.mem_cons_self ..)).1, (h c (List.mem_cons_self ..)).2, tame_plain cs fun d hd => h d (List.mem_cons_of_mem _ hd)⟩
theorem tame_any : ∀ {cs : List Cell} {b : Bool}, tame b cs → tame false cs
  | [], _, _ => trivial
  | c :: cs, b, h => by
    rcases h with h | ⟨_, h⟩
    · exact .inl h
    · exact .inr ⟨rfl, h⟩
def three (x : Str) : List Row × List Row × List Row := (x.1, x.2.1, x.2.2.1)
theorem gos_one : ∀ (cs : List Cell) (o m t : List Row), allPlain cs → clashP (o, m, t, []) = true → (clashes (gos [] [] o m t cs)).map three = [(o, m, t)]
  | [], o, m, t, _, hc => by
    unfold gos clashes
    rw [List.filter_cons_of_pos (by simpa [clashP] using hc)]
    simp [three]
  | c :: cs, o, m, t, h, hc => by
    obtain ⟨r, s1, s2⟩ := c
    obtain ⟨rfl, rfl⟩ := h _ (List.mem_cons_self ..)
    have g := (gos_tame cs false [] [] [] (tame_plain cs fun d hd => h d (List.mem_cons_of_mem _ hd)) (fun _ => ⟨rfl, rfl, rfl⟩) (.inl rfl)).2
    show (clashes ((o, m ++ [], t ++ [], [r]) :: gos [] [] [] [] [] cs)).map three = _
    unfold clashes at g ⊢
    rw [List.filter_cons_of_pos (by simpa [clashP] using hc), g]
    simp [three]
theorem gos_clash (r u v : Row) (h1 : u ≠ v) (h2 : u ≠ r) (h3 : v ≠ r) (zs : List Cell) (hz : allPlain zs) : ∀ (cs : List Cell), allPlain cs → (clashes (gos [] [] [] [] [] (cs ++ (r, ([u], false, []), ([v], false, [])) :: zs))).map three = [([r], [u], [v])]
  | [], h => gos_one zs [r] [u] [v] hz (by simp [clashP, h1, h2, h3])
  | c :: cs, h => by
    obtain ⟨q, s1, s2⟩ := c
    obtain ⟨rfl, rfl⟩ := h _ (List.mem_cons_self ..)
    show (clashes (([], [] ++ [], [] ++ [], [q]) :: gos [] [] [] [] [] (cs ++ _))).map three = _
    rw [clashes_no (by simp [clashP])]
    exact gos_clash r u v h1 h2 h3 zs hz cs fun d hd => h d (List.mem_cons_of_mem _ hd)
/-- rising pairs of equal rows -/
def rising (x y : List Row) : Nat → Nat → List (Nat × Nat) → Prop
  | _, _, [] => True
  | i, j, q :: qs => i ≤ q.1 ∧ j ≤ q.2 ∧ q.1 < x.length ∧ q.2 < y.length ∧ x[q.1]? = y[q.2]? ∧ rising x y (q.1 + 1) (q.2 + 1) qs
theorem inB_rising (x y : List Row) : ∀ (n i j : Nat), rising x y i j (inB x y n i j)
  | 0, i, j => trivial
  | n + 1, i, j => by
    show rising x y i j (if _ then _ else _)
    split
    · trivial
    · split
      · trivial
      · rename_i q hq
        obtain ⟨h1, h2, h3, h4, h5⟩ := pairsL_mem.mp (List.mem_of_head? hq)
        unfold good at h5
        rw [Bool.and_eq_true] at h5
        exact ⟨h1, h3, h2, h4, of_decide_eq_true h5.1, inB_rising x y n _ _⟩
theorem rising_cells (x y : List Row) : ∀ (m i j : Nat) (q : List (Nat × Nat)), x.length - i = m → rising x y i j q → ∃ ds u, rowsD ds = x.drop i ∧ y.drop j = flatD ds ++ u ∧ prs i j ds = q
  | 0, i, j, q, hm, hr => by
    cases q with
    | nil => exact ⟨[], y.drop j, (List.drop_eq_nil_of_le (by omega)).symm, rfl, rfl⟩
    | cons a q => obtain ⟨h1, h2, h3, _⟩ := hr; omega
  | m + 1, i, j, q, hm, hr => by
    have hi : i < x.length := by omega
    have hxd : x.drop i = x[i] :: x.drop (i + 1) := List.drop_eq_getElem_cons hi
    have skip : rising x y (i + 1) j q → ∃ ds u, rowsD ds = x.drop i ∧ y.drop j = flatD ds ++ u ∧ prs i j ds = q := by
      intro hr
      obtain ⟨ds, u, e1, e2, e3⟩ := rising_cells x y m (i + 1) j q (by omega) hr
      refine ⟨(x[i], ([], false, [])) :: ds, u, ?_, ?_, ?_⟩
      · rw [hxd, ← e1]; rfl
      · rw [flat_cons, e2]; rfl
      · rw [← e3]; rfl
    cases q with
    | nil => exact skip trivial
    | cons a q =>
      obtain ⟨h1, h2, h3, h4, h5, h6⟩ := hr
      rcases Nat.lt_or_ge i a.1 with h | h
      · exact skip ⟨h, h2, h3, h4, h5, h6⟩
      · obtain ⟨a1, a2⟩ := a
        have ha : a1 = i := by show a1 = i; simp only at h h1; omega
        subst ha
        obtain ⟨ds, u, e1, e2, e3⟩ := rising_cells x y m (a1 + 1) (a2 + 1) q (by omega) h6
        simp only at h2 h4 h5
        have hl : (cut y j a2).length = a2 - j := by
          unfold cut; rw [List.length_drop, List.length_take]; omega
        have hy : y.drop j = cut y j a2 ++ y.drop a2 := by
          conv => lhs; rw [← List.take_append_drop (a2 - j) (y.drop j)]
          rw [List.drop_drop, show j + (a2 - j) = a2 by omega]
          unfold cut
          rw [List.drop_take]
        have hy2 : y.drop a2 = x[a1] :: y.drop (a2 + 1) := by
          rw [List.drop_eq_getElem_cons h4]
          rw [List.getElem?_eq_getElem h4, List.getElem?_eq_getElem hi] at h5
          rw [Option.some.inj h5]
        refine ⟨(x[a1], (cut y j a2, true, [])) :: ds, u, ?_, ?_, ?_⟩
        · rw [hxd, ← e1]; rfl
        · rw [flat_cons, hy, hy2, e2]
          show _ = (cut y j a2 ++ [x[a1]]) ++ flatD ds ++ u
          simp
        · show (a1, j + (cut y j a2).length) :: prs (a1 + 1) (j + (cut y j a2 ++ [x[a1]]).length) ds = _
          rw [List.length_append, hl, show j + (a2 - j) = a2 by omega, show j + (a2 - j + [x[a1]].length) = a2 + 1 by show j + (a2 - j + 1) = _; omega, e3]
end MT
/-! PL8: data without True and False: alike is the same. -/
namespace FL
open PySem PySem.Spec PyProof.Rows L2
mutual
def plD : PyData → Bool
  | .none => true
  | .int _ => true
  | .str x => PyData.strOk x
  | .list xs => plDs xs
  | .tuple xs => plDs xs
  | _ => false
def plDs : List PyData → Bool
  | [] => true
  | x :: xs => plD x && plDs xs
end
mutual
theorem eqv_pl : ∀ d e : PyData, plD d = true → plD e = true → (PyData.eqv d e = true ↔ d = e)
  | .none, e, _, h => by cases e <;> simp [PyData.eqv]
  | .bool _, _, h, _ => by cases h
  | .dict _, _, h, _ => by cases h
  | .int i, e, _, h => by
    cases e with
    | bool _ => cases h
    | _ => simp [PyData.eqv]
  | .str i, e, _, h => by cases e <;> simp [PyData.eqv]
  | .list xs, e, h, h2 => by
    cases e with
    | list ys =>
      simp only [PyData.eqv]
      rw [eqvs_pl xs ys (by simpa [plD] using h) (by simpa [plD] using h2)]
      simp
    | _ => simp [PyData.eqv]
  | .tuple xs, e, h, h2 => by
    cases e with
    | tuple ys =>
      simp only [PyData.eqv]
      rw [eqvs_pl xs ys (by simpa [plD] using h) (by simpa [plD] using h2)]
      simp
    | _ => simp [PyData.eqv]
theorem eqvs_pl : ∀ d e : List PyData, plDs d = true → plDs e = true → (PyData.eqvAll d e = true ↔ d = e)
  | [], [], _, _ => by simp [PyData.eqvAll]
  | [], _ :: _, _, _ => by simp [PyData.eqvAll]
  | _ :: _, [], _, _ => by simp [PyData.eqvAll]
  | x :: xs, y :: ys, h, h2 => by
    simp only [plDs, Bool.and_eq_true] at h h2
    simp only [PyData.eqvAll, Bool.and_eq_true]
    rw [eqv_pl x y h.1 h2.1, eqvs_pl xs ys h.2 h2.2]
    simp
end
mutual
theorem canLay_pl : ∀ d : PyData, plD d = true → PyData.canLay0 d = true
  | .none, _ => by simp [PyData.canLay0]
  | .bool _, h => by cases h
  | .dict _, h => by cases h
  | .int i, _ => by simp [PyData.canLay0]
  | .str i, h => by simpa [PyData.canLay0, plD] using h
  | .list xs, h => by
    simp only [PyData.canLay0]
    exact canLays_pl xs (by simpa [plD] using h)
  | .tuple xs, h => by
    simp only [PyData.canLay0]
    exact canLays_pl xs (by simpa [plD] using h)
theorem canLays_pl : ∀ d : List PyData, plDs d = true → PyData.canLayAll0 d = true
  | [], _ => by simp [PyData.canLayAll0]
  | x :: xs, h => by
    simp only [plDs, Bool.and_eq_true] at h
    simp only [PyData.canLayAll0, Bool.and_eq_true]
    exact ⟨canLay_pl x h.1, canLays_pl xs h.2⟩
end
theorem plDs_of {ds : List PyData} (h : ∀ d ∈ ds, plD d = true) : plDs ds = true := by
  induction ds with
  | nil => rfl
  | cons d ds ih =>
    simp only [plDs, Bool.and_eq_true]
    exact ⟨h d (List.mem_cons_self ..), ih fun e he => h e (List.mem_cons_of_mem _ he)⟩
theorem plD_str {s : List Nat} (h : ∀ x ∈ s, x < 128) : plD (.str (St' s)) = true := strOk_of h
/-- plain data of a depth -/
def PlN (k : Nat) (d : PyData) : Prop := plD d = true ∧ PyData.depth d ≤ k
theorem PlN.shaped {k : Nat} {d : PyData} (h : PlN k d) (hk : k ≤ 64) : SeqAt.shaped d = true := shaped_of (canLay_pl d h.1) (Nat.le_trans h.2 hk)
theorem PlN.none {k : Nat} : PlN k .none := ⟨rfl, by simp [PyData.depth]⟩
theorem PlN.int {k : Nat} (i : Int) : PlN k (.int i) := ⟨rfl, by simp [PyData.depth]⟩
theorem PlN.str {k : Nat} {s : List Nat} (h : ∀ x ∈ s, x < 128) : PlN k (.str (St' s)) := ⟨plD_str h, by simp [PyData.depth]⟩
theorem PlN.tup {k : Nat} {ds : List PyData} (h : ∀ d ∈ ds, PlN k d) : PlN (k + 1) (.tuple ds) := ⟨by simp only [plD]; exact plDs_of fun d hd => (h d hd).1, by
  have := depAll fun d hd => (h d hd).2
  simp only [PyData.depth]
  omega⟩
theorem PlN.lst {k : Nat} {ds : List PyData} (h : ∀ d ∈ ds, PlN k d) : PlN (k + 1) (.list ds) := ⟨by simp only [plD]; exact plDs_of fun d hd => (h d hd).1, by
  have := depAll fun d hd => (h d hd).2
  simp only [PyData.depth]
  omega⟩
theorem PlN.le {k j : Nat} {d : PyData} (h : PlN k d) (e : k ≤ j) : PlN j d := ⟨h.1, Nat.le_trans h.2 e⟩
/-- a value is to be read as such data -/
def Rd (st : Sto) (k : Nat) (v : Val) (d : PyData) : Prop := PlN k d ∧ ∀ n, k < n → FL.toD n st v = some d
section
variable {st : Sto} {k j : Nat} {a b v : Val} {d e : PyData}
theorem Rd.none : Rd st k .non .none := ⟨.none, fun n hn => by obtain ⟨m, rfl⟩ : ∃ m, n = m + 1 := ⟨n - 1, by omega⟩; rfl⟩
theorem Rd.int (i : Int) : Rd st k (.int i) (.int i) := ⟨.int i, fun n hn => by obtain ⟨m, rfl⟩ : ∃ m, n = m + 1 := ⟨n - 1, by omega⟩; rfl⟩
theorem Rd.str {s : List Nat} (h : ∀ x ∈ s, x < 128) : Rd st k (.str s) (.str (St' s)) := ⟨.str h, fun n hn => by obtain ⟨m, rfl⟩ : ∃ m, n = m + 1 := ⟨n - 1, by omega⟩; rfl⟩
theorem mapO_rd {f : Val → Option PyData} {g : Val → PyData} : ∀ {xs : List Val}, (∀ x ∈ xs, f x = some (g x)) → mapO f xs = some (xs.map g)
  | [], _ => rfl
  | x :: xs, h => by
    unfold mapO
    rw [h x (List.mem_cons_self ..), mapO_rd fun y hy => h y (List.mem_cons_of_mem _ hy)]
    rfl
theorem Rd.tup {xs : List Val} (g : Val → PyData) (h : ∀ x ∈ xs, Rd st k x (g x)) : Rd st (k + 1) (.tup xs) (.tuple (xs.map g)) := ⟨.tup fun d hd => by
    obtain ⟨x, hx, rfl⟩ := List.mem_map.mp hd
    exact (h x hx).1, fun n hn => by
    obtain ⟨m, rfl⟩ : ∃ m, n = m + 1 := ⟨n - 1, by omega⟩
    show (mapO (FL.toD m st) xs).map PyData.tuple = _
    rw [mapO_rd fun x hx => (h x hx).2 m (by omega)]
    rfl⟩
theorem Rd.lst {xs : List Val} {p : Nat} (hp : st[p]? = some (.lst xs)) (g : Val → PyData) (h : ∀ x ∈ xs, Rd st k x (g x)) : Rd st (k + 1) (.ref p) (.list (xs.map g)) := ⟨.lst fun d hd => by
    obtain ⟨x, hx, rfl⟩ := List.mem_map.mp hd
    exact (h x hx).1, fun n hn => by
    obtain ⟨m, rfl⟩ : ∃ m, n = m + 1 := ⟨n - 1, by omega⟩
    show (match st[p]? with | some (.lst xs) => (mapO (FL.toD m st) xs).map PyData.list | _ => Option.none) = _
    rw [hp]
    show (mapO (FL.toD m st) xs).map PyData.list = _
    rw [mapO_rd fun x hx => (h x hx).2 m (by omega)]
    rfl⟩
/-- several, of any kinds -/
inductive Rds (st : Sto) (k : Nat) : List Val → List PyData → Prop
  | nil : Rds st k [] []
  | cons {v : Val} {d : PyData} {vs : List Val} {ds : List PyData} : Rd st k v d → Rds st k vs ds → Rds st k (v :: vs) (d :: ds)
theorem Rds.all : ∀ {vs : List Val} {ds : List PyData}, Rds st k vs ds → (∀ d ∈ ds, PlN k d) ∧ ∀ n, k < n → mapO (FL.toD n st) vs = some ds
  | _, _, .nil => ⟨fun d h => (List.not_mem_nil h).elim, fun n hn => rfl⟩
  | _, _, .cons h t => ⟨fun d hd => (List.mem_cons.mp hd).elim (fun e => e ▸ h.1) fun q => t.all.1 d q, fun n hn => by
    unfold mapO
    rw [h.2 n hn, t.all.2 n hn]⟩
theorem Rds.tup {vs : List Val} {ds : List PyData} (h : Rds st k vs ds) : Rd st (k + 1) (.tup vs) (.tuple ds) := ⟨.tup h.all.1, fun n hn => by
    obtain ⟨m, rfl⟩ : ∃ m, n = m + 1 := ⟨n - 1, by omega⟩
    show (mapO (FL.toD m st) vs).map PyData.tuple = _
    rw [h.all.2 m (by omega)]
    rfl⟩
theorem Rds.lst {vs : List Val} {ds : List PyData} {p : Nat} (hp : st[p]? = some (.lst vs)) (h : Rds st k vs ds) : Rd st (k + 1) (.ref p) (.list ds) := ⟨.lst h.all.1, fun n hn => by
    obtain ⟨m, rfl⟩ : ∃ m, n = m + 1 := ⟨n - 1, by omega⟩
    show (match st[p]? with | some (.lst xs) => (mapO (FL.toD m st) xs).map PyData.list | _ => Option.none) = _
    rw [hp]
    show (mapO (FL.toD m st) vs).map PyData.list = _
    rw [h.all.2 m (by omega)]
    rfl⟩
theorem Rds.map {α : Type} {f : α → Val} {g : α → PyData} : ∀ {l : List α}, (∀ x ∈ l, Rd st k (f x) (g x)) → Rds st k (l.map f) (l.map g)
  | [], _ => .nil
  | x :: l, h => .cons (h x (List.mem_cons_self ..)) (Rds.map fun y hy => h y (List.mem_cons_of_mem _ hy))
theorem Rd.le (h : Rd st k v d) (e : k ≤ j) : Rd st j v d := ⟨h.1.le e, fun n hn => h.2 n (by omega)⟩
theorem Rd.rows {rs : List (List Nat)} (h : ∀ s ∈ rs, ∀ x ∈ s, x < 128) : Rd st (k + 1) (.tup (rs.map Val.str)) (.tuple (rs.map fun s => PyData.str (St' s))) := Rds.tup (Rds.map fun s hs => .str (h s hs))
open Classical in
theorem fEq_rd (h1 : Rd st k a d) (h2 : Rd st j b e) (hk : k < 9) (hj : j < 9) : fEq a b st = some (.bl (decide (d = e)), st) := by
  rw [fEq_of (h1.2 9 hk) (h2.2 9 hj) (h1.1.shaped (by omega)) (h2.1.shaped (by omega))]
  congr 3
  rw [Bool.eq_iff_iff, eqv_pl d e h1.1.1 h2.1.1]
  simp
open Classical in
theorem fNe_rd (h1 : Rd st k a d) (h2 : Rd st j b e) (hk : k < 9) (hj : j < 9) : fNe a b st = some (.bl (!decide (d = e)), st) := fNe_fEq (fEq_rd h1 h2 hk hj)
theorem fNe_rd_same (h1 : Rd st k a d) (h2 : Rd st j b d) (hk : k < 9) (hj : j < 9) : fNe a b st = some (.bl false, st) := by
  rw [fNe_rd h1 h2 hk hj]
  simp
open Classical in
theorem fIn_rd {ds : List PyData} {p : Nat} {xs : List Val} (h : st[p]? = some (.lst xs)) (h1 : Rd st k a d) (h2 : Rds st j xs ds) (hk : k < 9) (hj : j < 8) : fIn a (.ref p) st = some (.bl (decide (d ∈ ds)), st) := by
  have h3 : Rd st (j + 1) (.ref p) (.list ds) := h2.lst h
  unfold fIn fInB
  simp only [h, h1.2 9 hk, h3.2 9 (by omega), h1.1.shaped (by omega), h3.1.shaped (by omega), and_self, if_true, Option.map_some]
  congr 3
  rw [Bool.eq_iff_iff, List.any_eq_true]
  simp only [decide_eq_true_eq]
  constructor
  · rintro ⟨x, hx, hx2⟩
    rw [(eqv_pl x d ((h2.all).1 x hx).1 h1.1.1).mp hx2] at hx
    exact hx
  · intro hd
    exact ⟨d, hd, (eqv_pl d d h1.1.1 h1.1.1).mpr rfl⟩
theorem st_inj2 {a b : List Nat} : St' a = St' b ↔ a = b := ⟨st_inj', fun h => by rw [h]⟩
theorem rows_inj {a b : List (List Nat)} : (a.map fun s => PyData.str (St' s)) = (b.map fun s => PyData.str (St' s)) ↔ a = b := by
  constructor
  · intro h
    induction a generalizing b with
    | nil =>
      cases b with
      | nil => rfl
      | cons y b => cases h
    | cons x a ih =>
      cases b with
      | nil => cases h
      | cons y b =>
        rw [List.map_cons, List.map_cons] at h
        obtain ⟨h1, h2⟩ := List.cons.inj h
        rw [ih h2, st_inj2.mp (PyData.str.inj h1)]
  · rintro rfl
    rfl
end
end FL
/-! PL9: plain functions that raise, and what handles it; sums. -/
namespace FL
open PySem PySem.Spec PyProof.Rows L2
section
variable {sl : Sl} {st : Sto} {PS : RS → Prop} {m n : FS} {i : Nat} {tab : List (Str × Bool)} {c : Str}
@[simp ↓] theorem wS_raise : wS (fRaise c) sl st PS ↔ PS (.ex c sl st) := ⟨fun ⟨r, h, q⟩ => by cases h; exact q, fun h => ⟨_, rfl, h⟩⟩
/-- behind a handler's suite -/
def goneP (i : Nat) (PS : RS → Prop) : RS → Prop
  | .nx sl st => PS (.nx (sl.set i none) st)
  | .bk sl st => PS (.bk (sl.set i none) st)
  | .ct sl st => PS (.ct (sl.set i none) st)
  | .rt v st => PS (.rt v st)
  | .ex _ _ _ => False
def noxP (PS : RS → Prop) : RS → Prop
  | .ex _ _ _ => False
  | r => PS r
@[simp] theorem goneP_nx : goneP i PS (.nx sl st) = PS (.nx (sl.set i none) st) := rfl
@[simp] theorem goneP_bk : goneP i PS (.bk sl st) = PS (.bk (sl.set i none) st) := rfl
@[simp] theorem goneP_ct : goneP i PS (.ct sl st) = PS (.ct (sl.set i none) st) := rfl
@[simp] theorem goneP_rt {v : Val} : goneP i PS (.rt v st) = PS (.rt v st) := rfl
@[simp] theorem goneP_ex : goneP i PS (.ex c sl st) = False := rfl
@[simp] theorem noxP_nx : noxP PS (.nx sl st) = PS (.nx sl st) := rfl
@[simp] theorem noxP_bk : noxP PS (.bk sl st) = PS (.bk sl st) := rfl
@[simp] theorem noxP_ct : noxP PS (.ct sl st) = PS (.ct sl st) := rfl
@[simp] theorem noxP_rt {v : Val} : noxP PS (.rt v st) = PS (.rt v st) := rfl
@[simp] theorem noxP_ex : noxP PS (.ex c sl st) = False := rfl
/-- what is raised goes to the suite, or on -/
def tryP (tab : List (Str × Bool)) (n : Str → Sl → Sto → Prop) (PS : RS → Prop) : RS → Prop
  | .ex c sl st => match tab.lookup c with
    | some true => n c sl st
    | some false => PS (.ex c sl st)
    | none => False
  | r => PS r
variable {h : Str → Sl → Sto → Prop}
@[simp] theorem tryP_nx : tryP tab h PS (.nx sl st) = PS (.nx sl st) := rfl
@[simp] theorem tryP_bk : tryP tab h PS (.bk sl st) = PS (.bk sl st) := rfl
@[simp] theorem tryP_ct : tryP tab h PS (.ct sl st) = PS (.ct sl st) := rfl
@[simp] theorem tryP_rt {v : Val} : tryP tab h PS (.rt v st) = PS (.rt v st) := rfl
theorem tryP_yes (e : tab.lookup c = some true) : tryP tab h PS (.ex c sl st) = h c sl st := by
  show (match tab.lookup c with | some true => h c sl st | some false => PS (.ex c sl st) | none => False) = _
  rw [e]
theorem tryP_no (e : tab.lookup c = some false) : tryP tab h PS (.ex c sl st) = PS (.ex c sl st) := by
  show (match tab.lookup c with | some true => h c sl st | some false => PS (.ex c sl st) | none => False) = _
  rw [e]
theorem wS_tryG {g : Str → FS} (w : wS m sl st (tryP tab (fun c sl' st' => wS (g c) sl' st' PS) PS)) : wS (fTryG tab m g) sl st PS := by
  obtain ⟨r, h1, h2⟩ := w
  unfold wS fTryG
  rw [h1]
  cases r with
  | ex c sl' st' =>
    have h3 : (match tab.lookup c with | some true => wS (g c) sl' st' PS | some false => PS (.ex c sl' st') | none => False) := h2
    show ∃ r, (match tab.lookup c with | some true => g c sl' st' | some false => some (.ex c sl' st') | none => none) = some r ∧ PS r
    cases e : tab.lookup c with
    | none => rw [e] at h3; exact h3.elim
    | some b =>
      rw [e] at h3
      cases b with
      | true => exact h3
      | false => exact ⟨_, rfl, h3⟩
  | nx sl' st' => exact ⟨_, rfl, h2⟩
  | bk sl' st' => exact ⟨_, rfl, h2⟩
  | ct sl' st' => exact ⟨_, rfl, h2⟩
  | rt v st' => exact ⟨_, rfl, h2⟩
theorem wS_noX (w : wS m sl st (noxP PS)) : wS (fun sl st => noX (m sl st)) sl st PS := by
  obtain ⟨r, h1, h2⟩ := w
  unfold wS
  simp only [h1]
  cases r with
  | ex c sl' st' => exact h2.elim
  | nx sl' st' => exact ⟨_, rfl, h2⟩
  | bk sl' st' => exact ⟨_, rfl, h2⟩
  | ct sl' st' => exact ⟨_, rfl, h2⟩
  | rt v st' => exact ⟨_, rfl, h2⟩
theorem wS_try (w : wS m sl st (tryP tab (fun _ sl' st' => wS n sl' st' (noxP PS)) PS)) : wS (fTry tab m n) sl st PS :=
  wS_tryG (w.mono fun r hr => by
    cases r with
    | ex c sl' st' =>
      cases e : tab.lookup c with
      | none =>
        have hr : (match tab.lookup c with | some true => wS n sl' st' (noxP PS) | some false => PS (.ex c sl' st') | none => False) := hr
        rw [e] at hr
        exact hr.elim
      | some b =>
        cases b with
        | true => rw [tryP_yes e] at hr ⊢; exact wS_noX hr
        | false => rw [tryP_no e] at hr ⊢; exact hr
    | nx sl' st' => exact hr
    | bk sl' st' => exact hr
    | ct sl' st' => exact hr
    | rt v st' => exact hr)
theorem wS_tryAs (w : wS m sl st (tryP tab (fun c sl' st' => wS n (sl'.set i (some (.exc c))) st' (goneP i PS)) PS)) : wS (fTryAs i tab m n) sl st PS :=
  wS_tryG (w.mono fun r hr => by
    cases r with
    | ex c sl' st' =>
      have fin : wS n (sl'.set i (some (.exc c))) st' (goneP i PS) → wS (fun sl st => goneS i (noX (n (sl.set i (some (.exc c))) st))) sl' st' PS := fun ⟨r, h1, h2⟩ => by
        unfold wS
        simp only [h1]
        cases r with
        | ex c sl' st' => exact h2.elim
        | nx sl' st' => exact ⟨_, rfl, h2⟩
        | bk sl' st' => exact ⟨_, rfl, h2⟩
        | ct sl' st' => exact ⟨_, rfl, h2⟩
        | rt v st' => exact ⟨_, rfl, h2⟩
      cases e : tab.lookup c with
      | none =>
        have hr : (match tab.lookup c with | some true => wS n (sl'.set i (some (.exc c))) st' (goneP i PS) | some false => PS (.ex c sl' st') | none => False) := hr
        rw [e] at hr
        exact hr.elim
      | some b =>
        cases b with
        | true => rw [tryP_yes e] at hr ⊢; exact fin hr
        | false => rw [tryP_no e] at hr ⊢; exact hr
    | nx sl' st' => exact hr
    | bk sl' st' => exact hr
    | ct sl' st' => exact hr
    | rt v st' => exact hr)
theorem fSumL_ref {p : Nat} {ns : List Int} (h : st[p]? = some (Ob.lst (ns.map Val.int))) : fSumL [.ref p] st = some (.int (List.sum ns), st) := by
  have e : ∀ ns : List Int, mapO (fun v => match v with | Val.int i => some i | _ => none) (ns.map Val.int) = some ns := fun ns => by
    induction ns with
    | nil => rfl
    | cons a l ih =>
      show mapO _ (Val.int a :: l.map Val.int) = _
      unfold mapO
      rw [ih]
  show (match st[p]? with | some (Ob.lst xs) => (mapO (fun v => match v with | Val.int i => some i | _ => none) xs).map (fun ns => (Val.int (List.sum ns), st)) | _ => none) = _
  rw [h]
  show (mapO _ (ns.map Val.int)).map _ = _
  rw [e]
  rfl
theorem fSplit_eq {s t : List Nat} {l : List (List Nat)} (h1 : 0 < t.length) (h2 : s.length + 2 ≤ LINE) (e : (Txt.split (St' s) (St' t)).map (fun z => z.cps.toList) = l) : fSplit (.str s) [.str t] st = some (.ref st.length, st ++ [.lst (l.map Val.str)]) := by
  show (if 0 < t.length ∧ s.length + 2 ≤ LINE then _ else none) = _
  rw [if_pos ⟨h1, h2⟩, ← e, List.map_map]
  rfl
theorem fIsE_glo {tb : List ((Str × Str) × Bool)} {ty : List ((Str × String) × Bool)} {y : Str} {b : Bool} (h : tb.lookup (c, y) = some b) : fIsE tb ty [.exc c, .glo y] st = some (.bl b, st) := by
  show (tb.lookup (c, y)).map _ = _
  rw [h]
  rfl
theorem fIsE_ty {tb : List ((Str × Str) × Bool)} {ty : List ((Str × String) × Bool)} {y : String} {b : Bool} (h : ty.lookup (c, y) = some b) : fIsE tb ty [.exc c, .ty y] st = some (.bl b, st) := by
  show (ty.lookup (c, y)).map _ = _
  rw [h]
  rfl
/-- two lists of texts -/
theorem fEq_rows {p q : Nat} {a b : List (List Nat)} (h1 : st[p]? = some (Ob.lst (a.map Val.str))) (h2 : st[q]? = some (Ob.lst (b.map Val.str))) (ha : ∀ s ∈ a, ∀ x ∈ s, x < 128) (hb : ∀ s ∈ b, ∀ x ∈ s, x < 128) : fEq (.ref p) (.ref q) st = some (.bl (decide (a = b)), st) := by
  have r1 : Rds st 0 (a.map Val.str) (a.map fun s => PyData.str (St' s)) := Rds.map fun s hs => .str (ha s hs)
  have r2 : Rds st 0 (b.map Val.str) (b.map fun s => PyData.str (St' s)) := Rds.map fun s hs => .str (hb s hs)
  rw [fEq_rd (r1.lst h1) (r2.lst h2) (by decide) (by decide)]
  congr 3
  exact decide_eq_decide.mpr (by rw [PyData.list.injEq, rows_inj])
theorem jn_one (a c : List Nat) : jn c [a] = a := rfl
theorem free_eq {c : Nat} : ∀ {a b x y : List Nat}, c ∉ a → c ∉ b → a ++ c :: x = b ++ c :: y → a = b ∧ x = y
  | [], [], x, y, _, _, h => by cases h; exact ⟨rfl, rfl⟩
  | [], d :: b, x, y, _, hb, h => by
    cases h
    exact absurd List.mem_cons_self hb
  | d :: a, [], x, y, ha, _, h => by
    cases h
    exact absurd List.mem_cons_self ha
  | d :: a, e :: b, x, y, ha, hb, h => by
    rw [List.cons_append, List.cons_append, List.cons.injEq] at h
    obtain ⟨rfl, h⟩ := h
    obtain ⟨rfl, rfl⟩ := free_eq (fun z => ha (List.mem_cons_of_mem _ z)) (fun z => hb (List.mem_cons_of_mem _ z)) h
    exact ⟨rfl, rfl⟩
theorem jn_two (c : List Nat) (a b : List Nat) (l : List (List Nat)) : jn c (a :: b :: l) = a ++ (c ++ jn c (b :: l)) := by
  show (b :: l).foldl (fun acc q => acc ++ c ++ q) a = a ++ (c ++ l.foldl (fun acc q => acc ++ c ++ q) b)
  rw [List.foldl_cons]
  generalize b = d
  clear b
  induction l generalizing a d with
  | nil => simp
  | cons e l ih =>
    rw [List.foldl_cons, List.foldl_cons]
    have h1 := ih (a ++ c ++ d) e
    have h2 := ih d e
    rw [h1, h2]
    simp
theorem jn_inj {c : Nat} : ∀ {p q : List (List Nat)}, p ≠ [] → q ≠ [] → (∀ r ∈ p, c ∉ r) → (∀ r ∈ q, c ∉ r) → jn [c] p = jn [c] q → p = q
  | [], _, h, _, _, _, _ => absurd rfl h
  | _, [], _, h, _, _, _ => absurd rfl h
  | [a], [b], _, _, _, _, h => by rw [jn_one, jn_one] at h; rw [h]
  | [a], b :: d :: q, _, _, ha, _, h => by
    rw [jn_one, jn_two] at h
    exact absurd (by rw [h]; simp) (ha a List.mem_cons_self)
  | a :: d :: p, [b], _, _, _, hb, h => by
    rw [jn_one, jn_two] at h
    exact absurd (by rw [← h]; simp) (hb b List.mem_cons_self)
  | a :: d :: p, b :: e :: q, _, _, ha, hb, h => by
    rw [jn_two, jn_two] at h
    obtain ⟨rfl, h2⟩ := free_eq (ha a List.mem_cons_self) (hb b List.mem_cons_self) h
    rw [jn_inj (p := d :: p) (q := e :: q) (by simp) (by simp) (fun r hr => ha r (List.mem_cons_of_mem _ hr)) (fun r hr => hb r (List.mem_cons_of_mem _ hr)) h2]
theorem split_uniq {c : Nat} {s : List Nat} {ps : List (List Nat)} (hn : ps ≠ []) (hf : ∀ r ∈ ps, c ∉ r) (e : jn [c] ps = s) : (Txt.split (St' s) (St' [c])).map (fun z => z.cps.toList) = ps := by
  have h1 := StrLaws.join_split (St' s) (St' [c])
  have h2 : ∀ p ∈ Txt.split (St' s) (St' [c]), c ∉ p.cps.toList := StrLaws.split_free (St' s) c
  have h3 := PyProof.Rows.split_pos (St' s) (St' [c])
  generalize Txt.split (St' s) (St' [c]) = L at h1 h2 h3
  have h4 : L = (L.map fun z => z.cps.toList).map St' := by
    rw [List.map_map]
    refine (List.map_id _).symm.trans (List.map_congr_left fun z _ => (st_back z).symm)
  have h5 : St' (jn [c] (L.map fun z => z.cps.toList)) = St' s := by
    rw [← jn_join, ← h4]
    exact (StrLaws.glued_eq_join _ _).trans h1
  have h6 := st_inj' h5
  refine jn_inj ?_ hn ?_ hf (h6.trans e.symm)
  · intro z
    rw [List.map_eq_nil_iff] at z
    rw [z] at h3
    simp at h3
  · intro r hr
    obtain ⟨z, hz, rfl⟩ := List.mem_map.mp hr
    exact h2 z hz
theorem jn_J : ∀ ss : List (List Nat), jn [10] ss = TX.J ss
  | [] => rfl
  | [a] => rfl
  | a :: b :: l => by
    rw [jn_two, jn_J (b :: l)]
    rfl
theorem split_T (s : List Nat) : (Txt.split (St' s) (St' [10])).map (fun z => z.cps.toList) = TX.T s :=
  split_uniq (TX.T_ne s) (TX.T_no10 s) (by rw [jn_J, TX.JT])
theorem words_kinds : (Txt.split (St' [103, 114, 101, 97, 116, 32, 102, 105, 108, 101, 32, 110, 97, 109, 101, 32, 116, 119, 105, 99, 101, 32, 115, 116, 97, 108, 101, 32, 99, 108, 97, 115, 104, 32, 110, 111, 100, 101, 32, 119, 105, 110, 100, 111, 119, 32, 112, 108, 117, 103, 32, 116, 101, 120, 116, 32, 98, 117, 115, 121, 32, 111, 119, 110, 32, 118, 97, 108, 117, 101]) (St' [32])).map (fun z => z.cps.toList) =
    [[103, 114, 101, 97, 116], [102, 105, 108, 101], [110, 97, 109, 101], [116, 119, 105, 99, 101], [115, 116, 97, 108, 101], [99, 108, 97, 115, 104], [110, 111, 100, 101], [119, 105, 110, 100, 111, 119], [112, 108, 117, 103], [116, 101, 120, 116], [98, 117, 115, 121], [111, 119, 110], [118, 97, 108, 117, 101]] :=
  split_uniq (by decide) (by decide) (by decide)
end
end FL
/-! PL10: instances in the wp calculus. -/
namespace FL
open PySem PySem.Spec PyProof.Rows L2
section
variable {sl : Sl} {st : Sto} {P : Val → Sto → Prop} {G : EP'} {PS : RS → Prop} {cs : List Str} {f c m : Str} {me mv : FE} {ma : FA} {F : FF} {op : O2} {fs : List (Str × Val)} {i : Nat} {v : Val}
@[simp ↓] theorem wX_fld : wX (fFld cs f me) sl st P G ↔ wX me sl st (fun x st1 => wG (gFld cs f x st1) P) G := by
  unfold fFld
  rw [wX_bnd]
  exact wX_congr fun v st' => wX_lft
theorem gFld_ref (h : st[i]? = some (.ins c fs)) (hc : c ∈ cs) (hv : fs.lookup f = some v) : gFld cs f (.ref i) st = some (v, st) := by
  show (match st[i]? with | some (.ins c fs) => if c ∈ cs then (fs.lookup f).map fun v => (v, st) else none | _ => none) = _
  rw [h]
  show (if c ∈ cs then (fs.lookup f).map fun v => (v, st) else none) = _
  rw [if_pos hc, hv]
  rfl
theorem setFld_ref (h : st[i]? = some (.ins c fs)) (hc : c ∈ cs) (hl : fs.length < 1000) : setFld cs f (.ref i) v st = some (st.set i (.ins c (putV f v fs))) := by
  show (match st[i]? with | some (.ins c fs) => if c ∈ cs ∧ fs.length < 1000 then some (st.set i (.ins c (putV f v fs))) else none | _ => none) = _
  rw [h]
  exact if_pos ⟨hc, hl⟩
@[simp ↓] theorem wT_fld {Q : Sl → Sto → Prop} : wT (gFldT cs f me) v sl st Q ↔ wX me sl st (fun x st1 => wO (setFld cs f x v st1) fun st2 => Q sl st2) G0 := by
  constructor
  · rintro ⟨sl2, st2, h, q⟩
    unfold gFldT at h
    split at h
    · rename_i x st1 h1
      refine ⟨_, h1, ?_⟩
      split at h
      · rename_i st3 h3
        cases h
        exact ⟨_, h3, q⟩
      · cases h
    · cases h
  · rintro ⟨r, h1, h2⟩
    cases r with
    | ex c st1 => exact h2.elim
    | ok x st1 =>
      obtain ⟨st2, h3, q⟩ := h2
      refine ⟨sl, st2, ?_, q⟩
      unfold gFldT
      rw [h1]
      show (match setFld cs f x v st1 with | some st2 => some (sl, st2) | none => none) = _
      rw [h3]
@[simp ↓] theorem wS_fldaug : wS (fFldAug cs f op me mv) sl st PS ↔ wX me sl st (fun x st1 => wG (gFld cs f x st1) fun v st2 => wX mv sl st2 (fun y st3 => wG (op v y st3) fun z st4 => wO (setFld cs f x z st4) fun st5 => PS (.nx sl st5)) (fun c st' => PS (.ex c sl st'))) (fun c st' => PS (.ex c sl st')) := by
  unfold fFldAug
  rw [wS_bnd]
  refine ⟨fun h => ?_, fun h => ?_⟩ <;> refine h.mono fun x st1 h => ?_
  · rw [wS_bnd, wX_lft] at h
    obtain ⟨v, st2, h1, h⟩ := h
    refine ⟨v, st2, h1, ?_⟩
    rw [wS_bnd] at h
    refine h.mono fun y st3 h => ?_
    rw [wS_bnd, wX_lft] at h
    obtain ⟨z, st4, h1, r, h2, h3⟩ := h
    refine ⟨z, st4, h1, ?_⟩
    dsimp only at h2
    split at h2
    · rename_i st5 h4
      cases h2
      exact ⟨_, h4, h3⟩
    · cases h2
  · obtain ⟨v, st2, h1, h⟩ := h
    rw [wS_bnd, wX_lft]
    refine ⟨v, st2, h1, ?_⟩
    dsimp only
    rw [wS_bnd]
    refine h.mono fun y st3 h => ?_
    obtain ⟨z, st4, h1, st5, h4, h3⟩ := h
    rw [wS_bnd, wX_lft]
    refine ⟨z, st4, h1, _, ?_, h3⟩
    dsimp only
    rw [h4]
/-- no field of that name -/
def noF (m : Str) (fs : List (Str × Val)) : Bool := match fs.lookup m with
  | none => true
  | some _ => false
theorem noF_iff : noF m fs = true ↔ fs.lookup m = none := by
  unfold noF
  cases fs.lookup m <;> simp
@[simp ↓] theorem wX_isInst {Q : Unit → Sto → Prop} {x : Val} : wX (isInst c m x) sl st Q G ↔ ∃ i fs, x = .ref i ∧ st[i]? = some (.ins c fs) ∧ fs.lookup m = none ∧ Q () st := by
  constructor
  · rintro ⟨r, h, q⟩
    obtain ⟨i, fs, h1, h2, h3, rfl⟩ := isInst_some h
    exact ⟨i, fs, h1, h2, h3, q⟩
  · rintro ⟨i, fs, rfl, h2, h3, q⟩
    refine ⟨.ok () st, ?_, q⟩
    show (match st[i]? with | some (.ins c' fs) => if c' = c ∧ fs.lookup m = none then some (R.ok () st) else none | _ => none) = _
    rw [h2]
    exact if_pos ⟨rfl, h3⟩
@[simp ↓] theorem wX_meth : wX (fMeth c m F me ma) sl st P G ↔ wX me sl st (fun x st1 => ∃ i fs, x = .ref i ∧ st1[i]? = some (.ins c fs) ∧ noF m fs = true ∧ wX ma sl st1 (fun xs st2 => wF F (.ref i :: xs) st2 P G) G) G := by
  unfold fMeth
  rw [wX_bnd]
  refine wX_congr fun x st1 => ?_
  rw [wX_bnd, wX_isInst]
  constructor
  · rintro ⟨i, fs, rfl, h2, h3, h⟩
    rw [wX_bnd] at h
    exact ⟨i, fs, rfl, h2, noF_iff.mpr h3, h⟩
  · rintro ⟨i, fs, rfl, h2, h3, h⟩
    refine ⟨i, fs, rfl, h2, noF_iff.mp h3, ?_⟩
    rw [wX_bnd]
    exact h
@[simp ↓] theorem wX_make : wX (fMake c F ma) sl st P G ↔ wX ma sl st (fun xs st1 => wF F (.ref st1.length :: xs) (st1 ++ [.ins c []]) (fun v st2 => v = .non ∧ P (.ref st1.length) st2) G0) G := by
  unfold fMake
  rw [wX_bnd]
  refine wX_congr fun xs st1 => ?_
  constructor
  · rintro ⟨r, h, q⟩
    have h' : mkRes st1.length (F (.ref st1.length :: xs) (st1 ++ [.ins c []])) = some r := h
    unfold mkRes at h'
    split at h'
    · rename_i st' h1
      cases h'
      exact ⟨_, h1, rfl, q⟩
    · cases h'
  · rintro ⟨r, h, q⟩
    cases r with
    | ex c st' => exact q.elim
    | ok v st' =>
      obtain ⟨rfl, q⟩ := q
      refine ⟨.ok (.ref st1.length) st', ?_, q⟩
      show mkRes st1.length (F (.ref st1.length :: xs) (st1 ++ [.ins c []])) = _
      rw [h]
      rfl
end
end FL
namespace K61
open PySem PySem.Spec PyProof.Rows L2 FL
abbrev tab_RoomError : List (Str × Bool) := [("NoFile", true), ("NoName", true), ("NoText", true)]
def isT0 : List ((Str × Str) × Bool) := [(("NoFile", "TooGreat"), false), (("NoFile", "NoFile"), true), (("NoFile", "NoName"), false), (("NoFile", "Twice"), false), (("NoFile", "Stale"), false), (("NoFile", "Clash"), false), (("NoFile", "NoNode"), false), (("NoFile", "NoWindow"), false), (("NoFile", "NoPlug"), false), (("NoFile", "NoText"), false), (("NoFile", "Busy"), false), (("NoFile", "RoomError"), true), (("NoName", "TooGreat"), false), (("NoName", "NoFile"), false), (("NoName", "NoName"), true), (("NoName", "Twice"), false), (("NoName", "Stale"), false), (("NoName", "Clash"), false), (("NoName", "NoNode"), false), (("NoName", "NoWindow"), false), (("NoName", "NoPlug"), false), (("NoName", "NoText"), false), (("NoName", "Busy"), false), (("NoName", "RoomError"), true)]
def isT1 : List ((Str × Str) × Bool) := [(("NoText", "TooGreat"), false), (("NoText", "NoFile"), false), (("NoText", "NoName"), false), (("NoText", "Twice"), false), (("NoText", "Stale"), false), (("NoText", "Clash"), false), (("NoText", "NoNode"), false), (("NoText", "NoWindow"), false), (("NoText", "NoPlug"), false), (("NoText", "NoText"), true), (("NoText", "Busy"), false), (("NoText", "RoomError"), true)]
def isT : List ((Str × Str) × Bool) := isT0 ++ isT1
def isY : List ((Str × String) × Bool) := [(("NoFile", "ValueError"), true), (("NoName", "ValueError"), true), (("NoText", "ValueError"), true)]
noncomputable def MF_Shelf_names : FS :=
  (fRet (fCall fSortD (fCons (fFld ["Shelf"] "files" (fVar 0)) fNil)))
noncomputable def F_Shelf_names : FF := runF 1 1 MF_Shelf_names
noncomputable def MF_Shelf_journal : FS :=
  (fSeq (fIfS (fOr (fNot (fB (fCall fIsi (fCons (fVar 1) (fCons (fC (.ty "str")) fNil))))) (fB (fOp fNotIn (fVar 1) (fFld ["Shelf"] "stories" (fVar 0))))) (fRet (fC .non)) fSkip)
  (fSeq (fAsg (fOp fIx (fFld ["Shelf"] "stories" (fVar 0)) (fVar 1)) (gTupl (gAnd (gSet 2) (gAnd (gSet 3) gNo)) 2))
  (fRet (fTup (fCons (fVar 2) (fCons (fCall fListOf (fCons (fVar 3) fNil)) fNil))))))
noncomputable def F_Shelf_journal : FF := runF 2 4 MF_Shelf_journal
noncomputable def MF_Shelf_journals : FS :=
  (fRet (fCall fSortD (fCons (fFld ["Shelf"] "stories" (fVar 0)) fNil)))
noncomputable def F_Shelf_journals : FF := runF 1 1 MF_Shelf_journals
noncomputable def MF_Shelf_has : FS :=
  (fRet (fAndV (fCall fIsi (fCons (fVar 1) (fCons (fC (.ty "str")) fNil))) (fOp fIn (fVar 1) (fFld ["Shelf"] "files" (fVar 0)))))
noncomputable def F_Shelf_has : FF := runF 2 2 MF_Shelf_has
noncomputable def MF_Shelf_get : FS :=
  (fSeq (fIfS (fNot (fB (fMeth "Shelf" "has" F_Shelf_has (fVar 0) (fCons (fVar 1) fNil)))) (fRaise "NoFile") fSkip)
  (fRet (fTup (fCons (fOp fIx (fFld ["Shelf"] "files" (fVar 0)) (fVar 1)) (fCons (fOp fIx (fFld ["Shelf"] "counts" (fVar 0)) (fVar 1)) fNil)))))
noncomputable def F_Shelf_get : FF := runF 2 2 MF_Shelf_get
noncomputable def MF_Shelf_drop : FS :=
  (fSeq (fIfS (fNot (fB (fMeth "Shelf" "has" F_Shelf_has (fVar 0) (fCons (fVar 1) fNil)))) (fRaise "NoFile") fSkip)
  (fExpr (fMt "dict" (fDPop) (fFld ["Shelf"] "files" (fVar 0)) (fCons (fVar 1) fNil))))
noncomputable def F_Shelf_drop : FF := runF 2 2 MF_Shelf_drop
noncomputable def MF_are_signs : FS :=
  (fRet (fAndV (fCall fIsi (fCons (fVar 0) (fCons (fC (.ty "str")) fNil))) (fCall fAll (fCons (fLc (fIt (fVar 0)) (gSet 1) fYes (fAndV (fChain fLe fLe (fC (.str [32])) (fVar 1) (fC (.str [126]))) (fOp fNe (fCall fOrd (fCons (fVar 1) fNil)) (fC (.int 37)))) [1]) fNil))))
noncomputable def F_are_signs : FF := runF 1 2 MF_are_signs
noncomputable def MF_is_text : FS :=
  (fSeq (fIfS (fOr (fNot (fB (fCall fIsi (fCons (fVar 0) (fCons (fC (.ty "tuple")) fNil))))) (fNot (fB (fChain fLe fLe (fC (.int 1)) (fCall fLen (fCons (fVar 0) fNil)) (fC (.int 200)))))) (fRet (fC (.bl false))) fSkip)
  (fRet (fCall fAll (fCons (fLc (fIt (fVar 0)) (gSet 1) fYes (fAndV (fCallF F_are_signs (fCons (fVar 1) fNil)) (fOp fLe (fCall fLen (fCons (fVar 1) fNil)) (fC (.int 120)))) [1]) fNil))))
noncomputable def F_is_text : FF := runF 1 2 MF_is_text
noncomputable def MF_is_name : FS :=
  (fRet (fAndV (fCall fIsi (fCons (fVar 0) (fCons (fC (.ty "str")) fNil))) (fAndV (fChain fLe fLe (fC (.int 1)) (fCall fLen (fCons (fVar 0) fNil)) (fC (.int 12))) (fCall fAll (fCons (fLc (fIt (fVar 0)) (gSet 1) fYes (fOp fIn (fVar 1) (fC (.str [97, 98, 99, 100, 101, 102, 103, 104, 105, 106, 107, 108, 109, 110, 111, 112, 113, 114, 115, 116, 117, 118, 119, 120, 121, 122]))) [1]) fNil)))))
noncomputable def F_is_name : FF := runF 1 2 MF_is_name
noncomputable def MF_Shelf_put : FS :=
  (fSeq (fIfS (fNot (fB (fCallF F_is_name (fCons (fVar 1) fNil)))) (fRaise "NoName") fSkip)
  (fSeq (fIfS (fNot (fB (fCallF F_is_text (fCons (fVar 2) fNil)))) (fRaise "NoText") fSkip)
  (fSeq (fAsg (fOp fAdd (fMt "dict" (fDGet) (fFld ["Shelf"] "counts" (fVar 0)) (fCons (fVar 1) (fCons (fC (.int 0)) fNil))) (fC (.int 1))) (gIx fSetI (fFld ["Shelf"] "counts" (fVar 0)) (fVar 1)))
  (fSeq (fAsg (fVar 2) (gIx fSetI (fFld ["Shelf"] "files" (fVar 0)) (fVar 1)))
  (fRet (fOp fIx (fFld ["Shelf"] "counts" (fVar 0)) (fVar 1)))))))
noncomputable def F_Shelf_put : FF := runF 3 3 MF_Shelf_put
noncomputable def ML_kinds : FS :=
  (fSeq (fSet 1 (fLst (fCons (fCall (fIsE isT isY) (fCons (fVar 0) (fCons (fC (.glo "TooGreat")) fNil))) (fCons (fCall (fIsE isT isY) (fCons (fVar 0) (fCons (fC (.glo "NoFile")) fNil))) (fCons (fCall (fIsE isT isY) (fCons (fVar 0) (fCons (fC (.glo "NoName")) fNil))) (fCons (fCall (fIsE isT isY) (fCons (fVar 0) (fCons (fC (.glo "Twice")) fNil))) fNil))))))
  (fSeq (fSet 1 (fOp fAdd (fVar 1) (fLst (fCons (fCall (fIsE isT isY) (fCons (fVar 0) (fCons (fC (.glo "Stale")) fNil))) (fCons (fCall (fIsE isT isY) (fCons (fVar 0) (fCons (fC (.glo "Clash")) fNil))) (fCons (fCall (fIsE isT isY) (fCons (fVar 0) (fCons (fC (.glo "NoNode")) fNil))) (fCons (fCall (fIsE isT isY) (fCons (fVar 0) (fCons (fC (.glo "NoWindow")) fNil))) fNil)))))))
  (fSeq (fSet 1 (fOp fAdd (fVar 1) (fLst (fCons (fCall (fIsE isT isY) (fCons (fVar 0) (fCons (fC (.glo "NoPlug")) fNil))) (fCons (fCall (fIsE isT isY) (fCons (fVar 0) (fCons (fC (.glo "NoText")) fNil))) (fCons (fCall (fIsE isT isY) (fCons (fVar 0) (fCons (fC (.glo "Busy")) fNil))) fNil))))))
  (fSeq (fSet 1 (fOp fAdd (fVar 1) (fLst (fCons (fCall (fIsE isT isY) (fCons (fVar 0) (fCons (fC (.glo "RoomError")) fNil))) (fCons (fCall (fIsE isT isY) (fCons (fVar 0) (fCons (fC (.ty "ValueError")) fNil))) fNil)))))
  (fSeq (fSet 2 (fC (.str [103, 114, 101, 97, 116, 32, 102, 105, 108, 101, 32, 110, 97, 109, 101, 32, 116, 119, 105, 99, 101, 32, 115, 116, 97, 108, 101, 32, 99, 108, 97, 115, 104, 32, 110, 111, 100, 101, 32, 119, 105, 110, 100, 111, 119, 32, 112, 108, 117, 103, 32, 116, 101, 120, 116, 32, 98, 117, 115, 121, 32, 111, 119, 110, 32, 118, 97, 108, 117, 101])))
  (fRet (fLc (fZip (fCons (fMt "str" (fSplit) (fVar 2) (fCons (fC (.str [32])) fNil)) (fCons (fVar 1) fNil))) (gTupl (gAnd (gSet 3) (gAnd (gSet 4) gNo)) 2) (fB (fVar 4)) (fVar 3) [3, 4])))))))
noncomputable def L_kinds : FF := runF 1 5 ML_kinds
noncomputable def ML_refusal : FS :=
  (fSeq (fSet 1 (fCallF L_kinds (fCons (fVar 0) fNil)))
  (fRet (fIf (fB (fOp fEq (fSlice fSl (fVar 1) (fPart (fC (.int 1))) fNoPart) (fLst (fCons (fC (.str [111, 119, 110])) (fCons (fC (.str [118, 97, 108, 117, 101])) fNil))))) (fOp fIx (fVar 1) (fC (.int 0))) (fC (.str [101, 108, 115, 101])))))
noncomputable def L_refusal : FF := runF 1 2 ML_refusal
noncomputable def ML_done : FS :=
  (fTryAs 4 tab_RoomError (fSeq (fIfS (fB (fOp fEq (fVar 1) (fC (.int 0)))) (fRet (fMeth "Shelf" "put" F_Shelf_put (fVar 0) (fCons (fVar 2) (fCons (fVar 3) fNil)))) fSkip)
  (fRet (fIf (fB (fOp fEq (fVar 1) (fC (.int 1)))) (fMeth "Shelf" "get" F_Shelf_get (fVar 0) (fCons (fVar 2) fNil)) (fMeth "Shelf" "drop" F_Shelf_drop (fVar 0) (fCons (fVar 2) fNil)))))
  (fRet (fCallF L_refusal (fCons (fVar 4) fNil))))
noncomputable def L_done : FF := runF 4 5 ML_done
noncomputable def ML_is_signs : FS :=
  (fSeq (fIfS (fNot (fB (fCall fIsi (fCons (fVar 0) (fCons (fC (.ty "str")) fNil))))) (fRet (fC (.bl false))) fSkip)
  (fRet (fOp fEq (fLc (fIt (fVar 0)) (gSet 1) (fOr (fB (fOp fLt (fCall fOrd (fCons (fVar 1) fNil)) (fC (.int 32)))) (fOr (fB (fOp fGt (fCall fOrd (fCons (fVar 1) fNil)) (fC (.int 126)))) (fB (fOp fEq (fCall fOrd (fCons (fVar 1) fNil)) (fC (.int 37)))))) (fVar 1) [1]) (fLst fNil))))
noncomputable def L_is_signs : FF := runF 1 2 ML_is_signs
noncomputable def ML_is_text : FS :=
  (fSeq (fIfS (fOr (fNot (fB (fCall fIsi (fCons (fVar 0) (fCons (fC (.ty "tuple")) fNil))))) (fNot (fB (fChain fLe fLe (fC (.int 1)) (fCall fLen (fCons (fVar 0) fNil)) (fC (.int 200)))))) (fRet (fC (.bl false))) fSkip)
  (fRet (fOp fEq (fLc (fIt (fVar 0)) (gSet 1) (fOr (fNot (fB (fCallF L_is_signs (fCons (fVar 1) fNil)))) (fB (fOp fGt (fCall fLen (fCons (fVar 1) fNil)) (fC (.int 120))))) (fVar 1) [1]) (fLst fNil))))
noncomputable def L_is_text : FF := runF 1 2 ML_is_text
noncomputable def ML_take : FS :=
  (fSeq (fIfS (fB (fOp fGt (fOp fIx (fVar 0) (fC (.int 0))) (fC (.int 0)))) (fSeq (fSet 2 (fOp fMod (fOp fIx (fVar 0) (fC (.int 0))) (fVar 1)))
  (fSeq (fAsg (fOp fDiv (fOp fIx (fVar 0) (fC (.int 0))) (fVar 1)) (gIx fSetI (fVar 0) (fC (.int 0))))
  (fRet (fVar 2)))) fSkip)
  (fSeq (fAsg (fOp fAdd (fOp fMod (fOp fMulL (fOp fIx (fVar 0) (fC (.int 1))) (fC (.int 48271))) (fOp fIx (fVar 0) (fC (.int 2)))) (fC (.int 1))) (gIx fSetI (fVar 0) (fC (.int 1))))
  (fRet (fOp fMod (fOp fDiv (fOp fMod (fOp fMulL (fOp fIx (fVar 0) (fC (.int 1))) (fOp fIx (fVar 0) (fC (.int 1)))) (fC (.int 2147483423))) (fC (.int 7))) (fVar 1)))))
noncomputable def L_take : FF := runF 2 3 ML_take
noncomputable def ML_thing (F_rec : FF) : FS :=
  (fSeq (fSet 2 (fCallF L_take (fCons (fVar 0) (fCons (fC (.int 9)) fNil))))
  (fSeq (fIfS (fOr (fB (fOp fLt (fVar 2) (fC (.int 6)))) (fB (fOp fEq (fVar 1) (fC (.int 0))))) (fSeq (fSet 4 (fLst (fCons (fC (.int 0)) (fCons (fNeg (fC (.int 1))) (fCons (fC (.int 1)) (fCons (fC (.bl true)) (fCons (fC (.bl false)) (fCons (fC .non) (fCons (fC (.str [])) (fCons (fC (.str [97])) (fCons (fC (.str [97, 98])) (fCons (fC (.str [65])) (fCons (fC (.str [97, 32, 98])) (fCons (fC (.str [97, 98, 99, 100, 101, 102, 103, 104, 105])) (fCons (fC (.int 2)) (fCons (fC (.int 3)) (fCons (fNeg (fC (.int 7))) (fCons (fC (.str [116, 97, 107, 101])) (fCons (fOp fPow (fC (.int 10)) (fC (.int 11))) (fCons (fC (.int 8)) fNil))))))))))))))))))))
  (fRet (fOp fIx (fOp fAdd (fVar 4) (fLst (fCons (fTup fNil) (fCons (fLst fNil) (fCons (fTup (fCons (fC (.int 0)) (fCons (fC (.int 1)) fNil))) fNil))))) (fCallF L_take (fCons (fVar 0) (fCons (fC (.int 21)) fNil)))))) fSkip)
  (fSeq (fSet 3 (fLc (fRng1 (fCons (fCallF L_take (fCons (fVar 0) (fCons (fC (.int 6)) fNil))) fNil)) (gSet 5) fYes (fCallF F_rec (fCons (fVar 0) (fCons (fOp fSub (fVar 1) (fC (.int 1))) fNil))) [5]))
  (fRet (fOp fIx (fLst (fCons (fVar 3) (fCons (fCall fTupOf (fCons (fVar 3) fNil)) (fCons (fCall fTupOf (fCons (fVar 3) fNil)) fNil)))) (fOp fSub (fVar 2) (fC (.int 6))))))))
noncomputable def L_thing : Nat → FF
  | 0 => fun _ _ => none
  | d + 1 => runF 2 6 (ML_thing (L_thing d))
noncomputable def ML_row : FS :=
  (fSeq (fSet 1 (fLst (fCons (fC (.str [97, 98])) (fCons (fC (.str [70, 111, 111, 95, 49])) (fCons (fC (.str [32])) (fCons (fC (.str [32])) (fCons (fC (.str [32, 32])) (fCons (fC (.str [40])) (fCons (fC (.str [41])) (fCons (fC (.str [91, 120, 93])) (fCons (fC (.str [34])) (fCons (fC (.str [45, 45])) (fCons (fC (.str [122, 57])) (fCons (fC (.str [97])) (fCons (fC (.str [123])) (fCons (fC (.str [125])) (fCons (fC (.str [98, 32, 98])) (fCons (fC (.str [44])) (fCons (fC (.str [81])) fNil)))))))))))))))))))
  (fSeq (fSet 2 (fCallF L_take (fCons (fVar 0) (fCons (fOp fIx (fLst (fCons (fC (.int 3)) (fCons (fC (.int 9)) fNil))) (fCallF L_take (fCons (fVar 0) (fCons (fC (.int 2)) fNil)))) fNil))))
  (fRet (fMt "str" (fJoin) (fC (.str [])) (fCons (fLc (fRng1 (fCons (fVar 2) fNil)) (gSet 3) fYes (fOp fIx (fVar 1) (fCallF L_take (fCons (fVar 0) (fCons (fC (.int 17)) fNil)))) [3]) fNil)))))
noncomputable def L_row : FF := runF 1 4 ML_row
noncomputable def ML_text : FS :=
  (fSeq (fSet 2 (fLst fNil))
  (fSeq (fFor (fRng1 (fCons (fOp fAdd (fC (.int 1)) (fCallF L_take (fCons (fVar 0) (fCons (fVar 1) fNil)))) fNil)) (gSet 3) (fExpr (fMt "list" (onL gAppend) (fVar 2) (fCons (fIf (fB (fOp fEq (fCallF L_take (fCons (fVar 0) (fCons (fC (.int 5)) fNil))) (fC (.int 0)))) (fC (.str [])) (fCallF L_row (fCons (fVar 0) fNil))) fNil))))
  (fRet (fCall fTupOf (fCons (fVar 2) fNil)))))
noncomputable def L_text : FF := runF 2 4 ML_text
noncomputable def MF_Shelf___init__ : FS :=
  (fSeq (fAsg fDNew (gFldT ["Shelf"] "files" (fVar 0)))
  (fSeq (fAsg fDNew (gFldT ["Shelf"] "counts" (fVar 0)))
  (fAsg fDNew (gFldT ["Shelf"] "stories" (fVar 0)))))
noncomputable def F_Shelf___init__ : FF := runF 1 1 MF_Shelf___init__
noncomputable def T0L_well : FS :=
  (fSeq (fSet 3 (fLst (fCons (fC (.int 2147483647)) (fCons (fC (.int 2147483629)) (fCons (fC (.int 2147483587)) (fCons (fC (.int 2147483579)) (fCons (fC (.int 2147483563)) (fCons (fC (.int 2147483549)) (fCons (fC (.int 2147483543)) (fCons (fC (.int 2147483497)) fNil))))))))))
  (fSeq (fSet 4 (fOp fMod (fOp fMulL (fOp fAdd (fOp fMod (fVar 2) (fC (.int 2147483489))) (fC (.int 1))) (fOp fAdd (fC (.int 48271)) (fOp fMulL (fC (.int 2)) (fVar 1)))) (fC (.int 2147483489))))
  (fSeq (fSet 4 (fOp fAdd (fOp fAdd (fOp fMod (fOp fMulL (fVar 4) (fVar 4)) (fC (.int 2147483477))) (fVar 1)) (fC (.int 1))))
  (fSeq (fIfS (fB (fOp fGe (fVar 2) (fOp fPow (fC (.int 10)) (fC (.int 18))))) (fRet (fLst (fCons (fVar 2) (fCons (fVar 4) (fCons (fOp fIx (fVar 3) (fOp fMod (fVar 1) (fC (.int 8)))) fNil))))) fSkip)
  (fRet (fLst (fCons (fC (.int 0)) (fCons (fVar 4) (fCons (fOp fIx (fVar 3) (fOp fMod (fVar 1) (fC (.int 8)))) fNil)))))))))
noncomputable def ML_well : FS :=
  (fSeq (fSet 2 (fC (.int 0)))
  (fSeq (fIfS (fB (fOp fLt (fVar 1) (fCall fLen (fCons (fVar 0) fNil)))) (fSet 2 (fOp fIx (fVar 0) (fVar 1))) fSkip)
  T0L_well))
noncomputable def L_well : FF := runF 2 5 ML_well
noncomputable def T3F_law : FS :=
  (fSeq (fSet 11 (fMeth "Shelf" "names" F_Shelf_names (fOp fIx (fVar 4) (fVar 12)) fNil))
  (fSeq (fIfS (fOr (fB (fOp fNe (fVar 11) (fCall fSortD (fCons (fOp fIx (fVar 5) (fVar 12)) fNil)))) (fOr (fB (fOp fNe (fMeth "Shelf" "journals" F_Shelf_journals (fOp fIx (fVar 4) (fVar 12)) fNil) (fLst fNil))) (fB (fOp fNotN (fMeth "Shelf" "journal" F_Shelf_journal (fOp fIx (fVar 4) (fVar 12)) (fCons (fVar 7) fNil)) (fC .non))))) (fRet (fC (.bl false))) fSkip)
  (fSeq (fExpr (fMt "list" (onL gAppend) (fVar 11) (fCons (fC (.str [111, 100, 100])) fNil)))
  (fIfS (fOr (fB (fOp fNe (fMeth "Shelf" "names" F_Shelf_names (fOp fIx (fVar 4) (fVar 12)) fNil) (fCall fSortD (fCons (fOp fIx (fVar 5) (fVar 12)) fNil)))) (fB (fOp fNe (fMeth "Shelf" "names" F_Shelf_names (fOp fIx (fVar 4) (fOp fSub (fC (.int 1)) (fVar 12))) fNil) (fCall fSortD (fCons (fOp fIx (fVar 5) (fOp fSub (fC (.int 1)) (fVar 12))) fNil))))) (fRet (fC (.bl false))) fSkip))))
noncomputable def T2F_law : FS :=
  (fSeq (fIfS (fB (fOp fNe (fCallF L_done (fCons (fOp fIx (fVar 4) (fVar 12)) (fCons (fVar 13) (fCons (fVar 7) (fCons (fVar 8) fNil))))) (fVar 10))) (fRet (fC (.bl false))) fSkip)
  T3F_law)
noncomputable def T1F_law : FS :=
  (fSeq (fSet 9 (fOp fIn (fVar 7) (fLst (fCons (fC (.str [97])) (fCons (fC (.str [98])) (fCons (fC (.str [97, 98, 99, 100, 101, 102, 103, 104, 105, 106, 107, 108])) fNil))))))
  (fSeq (fSet 10 (fIf (fOr (fNot (fB (fVar 9))) (fB (fOp fNotIn (fVar 7) (fOp fIx (fVar 5) (fVar 12))))) (fC (.str [102, 105, 108, 101])) (fC .non)))
  (fSeq (fIfS (fB (fOp fEq (fVar 13) (fC (.int 0)))) (fSeq (fSet 10 (fIf (fNot (fB (fVar 9))) (fC (.str [110, 97, 109, 101])) (fC (.str [116, 101, 120, 116]))))
  (fIfS (fAnd (fB (fVar 9)) (fB (fCallF L_is_text (fCons (fVar 8) fNil)))) (fSeq (fAsg (fOp fAdd (fMt "dict" (fDGet) (fOp fIx (fVar 6) (fVar 12)) (fCons (fVar 7) (fCons (fC (.int 0)) fNil))) (fC (.int 1))) (gIx fSetI (fOp fIx (fVar 6) (fVar 12)) (fVar 7)))
  (fSeq (fAsg (fVar 8) (gIx fSetI (fOp fIx (fVar 5) (fVar 12)) (fVar 7)))
  (fSet 10 (fOp fIx (fOp fIx (fVar 6) (fVar 12)) (fVar 7))))) fSkip)) (fIfS (fAnd (fB (fOp fIsN (fVar 10) (fC .non))) (fB (fOp fEq (fVar 13) (fC (.int 1))))) (fSet 10 (fTup (fCons (fOp fIx (fOp fIx (fVar 5) (fVar 12)) (fVar 7)) (fCons (fOp fIx (fOp fIx (fVar 6) (fVar 12)) (fVar 7)) fNil)))) (fIfS (fB (fOp fIsN (fVar 10) (fC .non))) (fExpr (fMt "dict" (fDPop) (fOp fIx (fVar 5) (fVar 12)) (fCons (fVar 7) fNil))) fSkip)))
  T2F_law)))
noncomputable def T0F_law : FS :=
  (fSeq (fSet 7 (fOp fIx (fLst (fCons (fC (.str [97])) (fCons (fC (.str [98])) (fCons (fC (.str [97, 98, 99, 100, 101, 102, 103, 104, 105, 106, 107, 108])) (fCons (fC (.str [97, 98, 99, 100, 101, 102, 103, 104, 105, 106, 107, 108, 109])) (fCons (fC (.str [])) (fCons (fC (.str [65])) (fCons (fC (.int 7)) (fCons (fTup (fCons (fC (.str [97])) fNil)) (fCons (fC (.str [97, 32, 98])) fNil)))))))))) (fCallF L_take (fCons (fVar 2) (fCons (fC (.int 9)) fNil)))))
  (fSeq (fSet 8 (fOp fIx (fLst (fCons (fCallF L_text (fCons (fVar 2) (fCons (fC (.int 3)) fNil))) (fCons (fCallF L_text (fCons (fVar 2) (fCons (fC (.int 3)) fNil))) (fCons (fCallF (L_thing 3) (fCons (fVar 2) (fCons (fC (.int 2)) fNil))) (fCons (fTup fNil) fNil))))) (fCallF L_take (fCons (fVar 2) (fCons (fC (.int 4)) fNil)))))
  T1F_law))
noncomputable def MF_law : FS :=
  (fSeq (fFor (fRng1 (fCons (fCall fMax2 (fCons (fC (.int 5)) (fCons (fCall fMin2 (fCons (fC (.int 40)) (fCons (fCall fLen (fCons (fVar 0) fNil)) fNil))) fNil))) fNil)) (gSet 1) (fSeq (fSet 2 (fCallF L_well (fCons (fVar 0) (fCons (fVar 1) fNil))))
  (fSeq (fPar3 4 5 6 (fCons (fLst (fCons (fMake "Shelf" F_Shelf___init__ fNil) (fCons (fMake "Shelf" F_Shelf___init__ fNil) fNil))) (fCons (fLst (fCons fDNew (fCons fDNew fNil))) (fCons (fLst (fCons fDNew (fCons fDNew fNil))) fNil))))
  (fFor (fRng1 (fCons (fC (.int 16)) fNil)) (gSet 3) (fSeq (fPar 12 13 (fCons (fCallF L_take (fCons (fVar 2) (fCons (fC (.int 2)) fNil))) (fCons (fCallF L_take (fCons (fVar 2) (fCons (fC (.int 3)) fNil))) fNil)))
  T0F_law)))))
  (fRet (fC (.bl true))))
noncomputable def F_law : FF := runF 1 14 MF_law
end K61
namespace K61
open PySem PySem.Spec PyProof.Rows L2 FL
section
theorem take_spec {w : Nat} {st : Sto} {many : Int} (h : WellAt w st) (h1 : 0 < many) (h2 : many < 1073741824) :
    wF L_take [.ref w, .int many] st (fun v st' => ∃ r, v = .int r ∧ 0 ≤ r ∧ r < many ∧ WellAt w st' ∧ st'.length = st.length ∧ Dr w st st') G0 := by
  obtain ⟨c, s, p, hw, s0, s1, p0, p1⟩ := h
  have hlt := (List.getElem?_eq_some_iff.mp hw).1
  unfold L_take ML_take
  by_cases hc : 0 < c
  · simp [hw, hc, h1, h2]
    exact ⟨Int.emod_nonneg _ (by omega), Int.emod_lt_of_pos _ h1, ⟨_, s, p, by simp [hlt]; rfl, s0, s1, p0, p1⟩, Dr.set _⟩
  · have q1 := Int.emod_nonneg (s * 48271) (b := p) (by omega)
    have q2 := Int.emod_lt_of_pos (s * 48271) p0
    have hw2 : (st.set w (.lst [.int c, .int (s * 48271 % p + 1), .int p]))[w]? = some (.lst [.int c, .int (s * 48271 % p + 1), .int p]) := List.getElem?_set_self hlt
    have l1 : -(2 ^ 64) < s * 48271 % p + 1 := by omega
    have l2 : s * 48271 % p + 1 < 2 ^ 64 := by omega
    simp [hw, hw2, hc, h1, h2, p0, fMul_l l1 l2]
    exact ⟨Int.emod_nonneg _ (by omega), Int.emod_lt_of_pos _ h1, ⟨c, _, p, hw2, by omega, by omega, p0, p1⟩, Dr.set _⟩

end
section
def PARTS : List (List Nat) := [[97, 98], [70, 111, 111, 95, 49], [32], [32], [32, 32], [40], [41], [91, 120, 93], [34], [45, 45], [122, 57], [97], [123], [125], [98, 32, 98], [44], [81]]
def Signs (s : List Nat) : Prop := ∀ c ∈ s, 32 ≤ c ∧ c ≤ 126 ∧ c ≠ 37
theorem parts_ok : ∀ s ∈ PARTS, (∀ c ∈ s, 32 ≤ c ∧ c ≤ 126 ∧ c ≠ 37) ∧ s.length ≤ 5 := by decide
theorem sum_le {α : Type} (f : α → Nat) (k : Nat) : ∀ (l : List α), (∀ x ∈ l, f x ≤ k) → (l.map f).sum ≤ l.length * k
  | [], _ => by simp
  | x :: l, h => by
    have h1 := h x List.mem_cons_self
    have h2 := sum_le f k l fun y hy => h y (List.mem_cons_of_mem _ hy)
    simp only [List.map_cons, List.sum_cons, List.length_cons, Nat.add_mul, Nat.one_mul]
    omega
theorem row_spec {w : Nat} {st : Sto} (h : WellAt w st) :
    wF L_row [.ref w] st (fun v st' => ∃ s, v = .str s ∧ Signs s ∧ s.length ≤ 40 ∧ WellAt w st' ∧ Dr w st st') G0 := by
  have hw := h.lt
  unfold L_row ML_row
  simp
  refine (take_spec (h.ap ⟨_, rfl⟩) (by decide) (by decide)).mono ?_
  rintro v st1 ⟨r, rfl, r0, r1, hw1, hl1, d1⟩
  have hB := d1.get (i := st.length + 1) (o := .lst [.int 3, .int 9]) (by omega) (by simp)
  have hA := d1.get (i := st.length) (o := .lst (PARTS.map Val.str)) (by omega) (by simp [PARTS])
  have hN : ∃ n : Int, 0 < n ∧ n ≤ 9 ∧ fIx (.ref (st.length + 1)) (.int r) st1 = some (.int n, st1) := by
    have : r = 0 ∨ r = 1 := by omega
    rcases this with rfl | rfl
    · exact ⟨3, by decide, by decide, by simp [hB]⟩
    · exact ⟨9, by decide, by decide, by simp [hB]⟩
  obtain ⟨n, n0, n9, hn⟩ := hN
  simp [hn]
  refine (take_spec hw1 n0 (by omega)).mono ?_
  rintro v st2 ⟨m, rfl, m0, m1, hw2, hl2, d2⟩
  have hA2 := d2.get (by omega) hA
  simp
  refine wX_lc ?_
  have hm : small62 m := by unfold small62; omega
  simp [hm]
  refine ⟨by simp; omega, fun i acc st3 => WellAt w st3 ∧ Dr w st2 st3 ∧ ∃ ss : List (List Nat), acc = ss.map Val.str ∧ ss.length = i ∧ ∀ s ∈ ss, s ∈ PARTS, ⟨hw2, Dr.refl _ _, [], rfl, rfl, by simp⟩, fun _ _ _ _ _ => live_none, ?_, ?_⟩
  · rintro i x acc st3 hx ⟨hw3, d3, ss, e1, e2, e3⟩
    subst e1
    obtain ⟨hi, rfl⟩ := rngL_get hx
    simp
    refine (take_spec (many := 17) hw3 (by decide) (by decide)).mono ?_
    rintro v st4 ⟨q, rfl, q0, q1, hw4, hl4, d4⟩
    have hA4 := d4.get (by omega) (d3.get (by omega) hA2)
    have hq : q.toNat < PARTS.length := by
      show q.toNat < 17
      omega
    have hl : ((PARTS.map Val.str).length : Int) = 17 := rfl
    simp [hA4, atI_at q0 (show q < ((PARTS.map Val.str).length : Int) by omega)]
    rw [List.getElem?_eq_getElem hq]
    refine ⟨Val.str PARTS[q.toNat], st4, rfl, ?_⟩
    refine ⟨hw4, d3.trans d4, ss ++ [PARTS[q.toNat]], by simp, by simp [e2], ?_⟩
    intro s hs
    rcases List.mem_append.mp hs with h1 | h1
    · exact e3 s h1
    · rw [List.mem_singleton.mp h1]
      exact List.getElem_mem hq
  · rintro acc st3 ⟨hw3, d3, ss, e1, e2, e3⟩
    have e2 : ss.length = m.toNat := by simpa using e2
    subst e1
    have h5 := sum_le List.length 5 ss fun s hs => (parts_ok s (e3 s hs)).2
    have h6 : (ss.map List.length).sum ≤ 40 := by omega
    simp [fJoin_ref (s := []) (st := st3 ++ [Ob.lst (ss.map Val.str)]) (p := st3.length) (ss := ss) (by simp) (by simp only [LINE_def, List.length_nil]; omega)]
    rw [jn_nil]
    refine ⟨fun c hc => ?_, by rw [List.length_flatten]; exact h6, hw3.ap (Ap.one _ _), ?_⟩
    · obtain ⟨s, hs, hc⟩ := List.mem_flatten.mp hc
      exact (parts_ok s (e3 s hs)).1 c hc
    · exact ((((Ap.dr ⟨_, rfl⟩).trans d1).trans d2).trans d3).app _

end
section
theorem text_spec {w : Nat} {st : Sto} {most : Int} (h : WellAt w st) (h1 : 0 < most) (h2 : most ≤ 1000) :
    wF L_text [.ref w, .int most] st (fun v st' => ∃ ss : List (List Nat), v = .tup (ss.map .str) ∧ 1 ≤ ss.length ∧ (ss.length : Int) ≤ most ∧ (∀ s ∈ ss, Signs s ∧ s.length ≤ 40) ∧ WellAt w st' ∧ Dr w st st') G0 := by
  have hw := h.lt
  unfold L_text ML_text
  simp
  refine wS_for ?_
  simp
  refine (take_spec (h.ap (Ap.one _ _)) h1 (by omega)).mono ?_
  rintro v st1 ⟨r, rfl, r0, r1, hw1, hl1, d1⟩
  have hA := d1.get (i := st.length) (o := .lst []) (by omega) (by simp)
  have hm : small62 (1 + r) := by unfold small62; omega
  simp [hm]
  refine ⟨fun i sl st3 => (∃ t, sl = [some (.ref w), some (.int most), some (.ref st.length), t]) ∧ WellAt w st3 ∧ Dr w st st3 ∧ ∃ ss : List (List Nat), st3[st.length]? = some (.lst (ss.map Val.str)) ∧ ss.length = i ∧ ∀ s ∈ ss, Signs s ∧ s.length ≤ 40,
    ⟨⟨_, rfl⟩, hw1, (Ap.dr (Ap.one _ _)).trans d1, [], hA, rfl, by simp⟩, fun _ _ _ _ _ => live_none, ?_, ?_⟩
  · rintro i x sl st3 hx ⟨⟨t, rfl⟩, hw3, d3, ss, e1, e2, e3⟩
    obtain ⟨hi, rfl⟩ := rngL_get hx
    have fin : ∀ (s : List Nat) (st4 : Sto), Signs s → s.length ≤ 40 → WellAt w st4 → Dr w st3 st4 → st4[st.length]? = some (.lst (ss.map Val.str)) ∧ WellAt w (st4.set st.length (.lst (ss.map Val.str ++ [.str s]))) ∧ Dr w st (st4.set st.length (.lst (ss.map Val.str ++ [.str s]))) ∧
        ∃ us : List (List Nat), (st4.set st.length (.lst (ss.map Val.str ++ [.str s])))[st.length]? = some (.lst (us.map Val.str)) ∧ us.length = i + 1 ∧ ∀ s ∈ us, Signs s ∧ s.length ≤ 40 := by
      intro s st4 s1 s2 hw4 d4
      have e4 := d4.get (by omega) e1
      refine ⟨e4, hw4.set _ (by omega), (d3.trans d4).new _ (Nat.le_refl _), ss ++ [s], ?_, by simp [e2], ?_⟩
      · rw [List.getElem?_set_self (by have := (List.getElem?_eq_some_iff.mp e4).1; exact this)]
        simp
      · intro u hu
        rcases List.mem_append.mp hu with h5 | h5
        · exact e3 u h5
        · rw [List.mem_singleton.mp h5]
          exact ⟨s1, s2⟩
    have hz : ss.length < 16777216 := by omega
    simp [kind_lst e1]
    refine (take_spec (many := 5) hw3 (by decide) (by decide)).mono ?_
    rintro v st4 ⟨q, rfl, q0, q1, hw4, hl4, d4⟩
    simp
    split
    · obtain ⟨f1, f2⟩ := fin [] st4 (by intro c hc; cases hc) (by decide) hw4 d4
      simp [onL_ref f1, hz]
      exact f2
    · refine (row_spec hw4).mono ?_
      rintro v st5 ⟨s, rfl, s1, s2, hw5, d5⟩
      obtain ⟨f1, f2⟩ := fin s st5 s1 s2 hw5 (d4.trans d5)
      simp [onL_ref f1, hz]
      exact f2
  · rintro sl st3 ⟨⟨t, rfl⟩, hw3, d3, ss, e1, e2, e3⟩
    have e2 : ss.length = (1 + r).toNat := by simpa using e2
    simp [e1]
    exact ⟨ss, rfl, by omega, by omega, e3, hw3, d3⟩

end
section
def SOME1 : List Val := [.int 0, .int (-1), .int 1, .bl true, .bl false, .non, .str [], .str [97], .str [97, 98], .str [65], .str [97, 32, 98], .str [97, 98, 99, 100, 101, 102, 103, 104, 105], .int 2, .int 3, .int (-7), .str [116, 97, 107, 101], .int 100000000000, .int 8]
def SOME2 (k : Nat) : List Val := [.tup [], .ref k, .tup [.int 0, .int 1]]
theorem some1_gd {B : Nat → Prop} {st : Sto} : ∀ v ∈ SOME1, Gd B 1000 st 0 v := by
  intro v hv
  simp only [SOME1, List.mem_cons, List.not_mem_nil, or_false] at hv
  rcases hv with rfl | rfl | rfl | rfl | rfl | rfl | rfl | rfl | rfl | rfl | rfl | rfl | rfl | rfl | rfl | rfl | rfl | rfl <;> first | trivial | (exact ⟨by decide, by decide⟩)
theorem some2_gd {B : Nat → Prop} {k : Nat} {st : Sto} (hk : ¬ B k) (h : st[k]? = some (.lst [])) : ∀ v ∈ SOME2 k, Gd B 1000 st 1 v := by
  intro v hv
  simp only [SOME2, List.mem_cons, List.not_mem_nil, or_false] at hv
  rcases hv with rfl | rfl | rfl
  · exact ⟨by decide, by simp⟩
  · exact ⟨hk, [], h, by decide, by simp⟩
  · refine ⟨by decide, fun x hx => ?_⟩
    simp only [List.mem_cons, List.not_mem_nil, or_false] at hx
    rcases hx with rfl | rfl <;> trivial
theorem thing_spec {w : Nat} {B : Nat → Prop} (hBw : B w) : ∀ (d : Nat) {st : Sto}, WellAt w st → (∀ i, B i → i < st.length) → ∀ n : Nat, n < d →
    wF (L_thing d) [.ref w, .int n] st (fun v st' => Gd B 1000 st' (n + 1) v ∧ WellAt w st' ∧ Dr w st st') G0
  | 0, st, h, _, n, hn => absurd hn (Nat.not_lt_zero _)
  | d + 1, st, h, hB, n, hn => by
    have hw := h.lt
    unfold L_thing ML_thing
    simp
    refine (take_spec (many := 9) h (by decide) (by decide)).mono ?_
    rintro v st1 ⟨r, rfl, r0, r1, hw1, hl1, d1⟩
    simp
    by_cases hb : r < 6 ∨ n = 0
    · have fin : ∀ k : Nat, k = st1.length → wG (fAdd (.ref k) (.ref (k + 2)) (st1 ++ [.lst SOME1, .lst [], .lst (SOME2 (k + 1))])) (fun x st1_1 =>
          wX (fCallF L_take (fCons (fVar 0) (fCons (fC (.int 21)) fNil))) [some (.ref w), some (.int n), some (.int r), none, some (.ref k), none] st1_1 (fun y st2 => wG (fIx x y st2) fun v st' => Gd B 1000 st' (n + 1) v ∧ WellAt w st' ∧ Dr w st st') fun c st' => G0 c st') := by
        rintro k rfl
        have hwl := hw1.lt
        rw [fAdd_ref (xs := SOME1) (ys := SOME2 (st1.length + 1)) (by simp) (by simp) (by simp [SOME1, SOME2])]
        simp
        refine (take_spec (many := 21) (hw1.ap ⟨_, rfl⟩) (by decide) (by decide)).mono ?_
        rintro v st4 ⟨q, rfl, q0, q1, hw4, hl4, d4⟩
        have hA := d4.get (i := st1.length + 3) (o := .lst (SOME1 ++ SOME2 (st1.length + 1))) (by omega) (by simp)
        have hB' := d4.get (i := st1.length + 1) (o := .lst []) (by omega) (by simp)
        have hq : q.toNat < (SOME1 ++ SOME2 (st1.length + 1)).length := by
          show q.toNat < 21
          omega
        rw [fIx_ref hA, atI_at q0 (by show q < 21; exact q1), List.getElem?_eq_getElem hq]
        simp
        refine ⟨?_, hw4, (d1.trans (Ap.dr ⟨_, rfl⟩)).trans d4⟩
        have hv := List.getElem_mem hq
        rw [List.mem_append] at hv
        rcases hv with hv | hv
        · exact (some1_gd _ hv).le (Nat.zero_le _)
        · exact (some2_gd (fun z => by have := hB _ z; omega) hB' _ hv).le (by omega)
      by_cases h6 : r < 6
      · simp [h6]
        exact fin _ rfl
      · have hn0 : n = 0 := by omega
        simp [h6, hn0]
        exact fin _ rfl
    · have hb1 : ¬ r < 6 := fun z => hb (.inl z)
      have hb2 : n ≠ 0 := fun z => hb (.inr z)
      simp [hb1, hb2]
      refine wX_lc ?_
      simp
      refine (take_spec (many := 6) hw1 (by decide) (by decide)).mono ?_
      rintro v st2 ⟨m, rfl, m0, m1, hw2, hl2, d2⟩
      have hm : small62 m := by unfold small62; omega
      simp [hm]
      refine ⟨by simp; omega, fun i acc st3 => WellAt w st3 ∧ Dr w st2 st3 ∧ acc.length = i ∧ ∀ x ∈ acc, Gd B 1000 st3 n x, ⟨hw2, Dr.refl _ _, rfl, by simp⟩, fun _ _ _ _ _ => live_none, ?_, ?_⟩
      · rintro i x acc st3 hx ⟨hw3, d3, e1, e2⟩
        obtain ⟨hi, rfl⟩ := rngL_get hx
        simp
        have e3 : (n : Int) - 1 = ((n - 1 : Nat) : Int) := by omega
        rw [e3]
        refine (thing_spec hBw d hw3 (fun i hi => by have := hB i hi; have := d1.1; have := d2.1; have := d3.1; omega) (n - 1) (by omega)).mono ?_
        rintro v st4 ⟨g, hw4, d4⟩
        have e4 : n - 1 + 1 = n := by omega
        rw [e4] at g
        refine ⟨hw4, d3.trans d4, by simp [e1], fun y hy => ?_⟩
        rcases List.mem_append.mp hy with h5 | h5
        · exact (e2 y h5).keep hBw d4
        · rw [List.mem_singleton.mp h5]
          exact g
      · rintro acc st3 ⟨hw3, d3, e1, e2⟩
        have e1 : acc.length = m.toNat := by simpa using e1
        have hwl := hw3.lt
        simp
        have hr : r - 6 = 0 ∨ r - 6 = 1 ∨ r - 6 = 2 := by omega
        have hd : Dr w st (st3 ++ [Ob.lst acc, Ob.lst [Val.ref st3.length, Val.tup acc, Val.tup acc]]) := ((d1.trans d2).trans d3).trans (Ap.dr ⟨_, rfl⟩)
        have hw9 : WellAt w (st3 ++ [Ob.lst acc, Ob.lst [Val.ref st3.length, Val.tup acc, Val.tup acc]]) := hw3.ap ⟨_, rfl⟩
        have hx : ∀ x ∈ acc, Gd B 1000 (st3 ++ [Ob.lst acc, Ob.lst [Val.ref st3.length, Val.tup acc, Val.tup acc]]) n x := fun x hx => (e2 x hx).keepA ⟨_, rfl⟩
        rcases hr with hr | hr | hr <;> rw [hr] <;> simp
        · exact ⟨⟨fun z => by have := hB _ z; have := d1.1; have := d2.1; have := d3.1; omega, acc, by simp, by omega, hx⟩, hw9, hd⟩
        · exact ⟨⟨by omega, hx⟩, hw9, hd⟩
        · exact ⟨⟨by omega, hx⟩, hw9, hd⟩

end
section
theorem well_spec {st : Sto} {ns : List Int} {k : Nat} (hk : k < 64) (hn : ns.length ≤ 63) :
    wF L_well [.scr ns, .int k] st (fun v st' => ∃ w, v = .ref w ∧ st.length ≤ w ∧ WellAt w st' ∧ Ap st st') G0 := by
  unfold L_well ML_well
  have tail : ∀ c : Int, wS (T0L_well) [some (.scr ns), some (.int k), some (.int c), none, none] st (finP (fun v st' => ∃ w, v = .ref w ∧ st.length ≤ w ∧ WellAt w st' ∧ Ap st st') G0) := by
    intro c
    have b1 : -(2 ^ 64) < 48271 + 2 * (k : Int) := by omega
    have b2 : 48271 + 2 * (k : Int) < 2 ^ 64 := by omega
    have b5 : -(2 ^ 64) < (k : Int) := by omega
    have b6 : (k : Int) < 2 ^ 64 := by omega
    obtain ⟨s, hs⟩ : ∃ s, s = (c % 2147483489 + 1) * (48271 + 2 * (k : Int)) % 2147483489 := ⟨_, rfl⟩
    have s0 : 0 ≤ s := by rw [hs]; exact Int.emod_nonneg _ (by decide)
    have s1 : s < 2147483489 := by rw [hs]; exact Int.emod_lt_of_pos _ (by decide)
    have b3 : -(2 ^ 64) < s := by omega
    have b4 : s < 2 ^ 64 := by omega
    have q0 := Int.emod_nonneg (s * s) (b := 2147483477) (by decide)
    have q1 := Int.emod_lt_of_pos (s * s) (b := 2147483477) (by decide)
    have hp : ∃ p : Int, 0 < p ∧ p ≤ 2147483647 ∧ L2.atI [Val.int 2147483647, .int 2147483629, .int 2147483587, .int 2147483579, .int 2147483563, .int 2147483549, .int 2147483543, .int 2147483497] ((k : Int) % 8) = some (.int p) := by
      have : (k : Int) % 8 = 0 ∨ (k : Int) % 8 = 1 ∨ (k : Int) % 8 = 2 ∨ (k : Int) % 8 = 3 ∨ (k : Int) % 8 = 4 ∨ (k : Int) % 8 = 5 ∨ (k : Int) % 8 = 6 ∨ (k : Int) % 8 = 7 := by omega
      rcases this with e | e | e | e | e | e | e | e <;> rw [e] <;> exact ⟨_, by decide, by decide, rfl⟩
    obtain ⟨p, p0, p1, hp⟩ := hp
    have well : ∀ c' : Int, WellAt (st.length + 1) (st ++ [.lst [.int 2147483647, .int 2147483629, .int 2147483587, .int 2147483579, .int 2147483563, .int 2147483549, .int 2147483543, .int 2147483497], .lst [.int c', .int (s * s % 2147483477 + k + 1), .int p]]) := fun c' => ⟨c', s * s % 2147483477 + k + 1, p, by simp, by omega, by omega, p0, p1⟩
    unfold T0L_well
    simp [fMul_r b1 b2, ← hs, fMul_r b3 b4, fMul_r b5 b6, hp]
    by_cases hc : (1000000000000000000 : Int) ≤ c <;> simp [hc, hp] <;> exact ⟨well _, ⟨_, rfl⟩⟩
  simp
  by_cases h1 : k < ns.length
  · simp [h1]
    rw [atI_at (by omega) (by omega)]
    simp [h1]
    exact tail _
  · simp [h1]
    exact tail 0

end
section

section
variable {ss : List (List Nat)} {st : Sto} {r c : Nat} {s : List Nat} {ms : List (Nat × Val)} {keys : List Nat} {p : Pt} {w : List Nat}
def signB (c : Nat) : Bool := decide (32 ≤ c) && decide (c ≤ 126) && !decide (c = 37)
def signsB : Val → Bool
  | .str s => s.all signB
  | _ => false
def rowB : Val → Bool
  | .str s => s.all signB && decide (s.length ≤ 120)
  | _ => false
def textB : Val → Bool
  | .tup xs => decide (1 ≤ xs.length ∧ xs.length ≤ 200) && xs.all rowB
  | _ => false
theorem lt1 {a b : Nat} : ([a] : List Nat) < [b] ↔ a < b := by
  rw [List.cons_lt_cons_iff]
  simp
theorem le1 {a b : Nat} : ([a] : List Nat) ≤ [b] ↔ a ≤ b := by
  rw [← List.not_lt, lt1]
  omega
def sgF : Val → Val
  | .str [c] => .bl (signB c)
  | _ => .non
theorem sgF_map (s : List Nat) : ((s.map fun c => Val.str [c]).filter fun _ => true).map sgF = (s.map signB).map Val.bl := by
  rw [List.filter_eq_self.mpr (fun _ _ => rfl), List.map_map, List.map_map]
  rfl
theorem signs_spec {B : Nat → Prop} {c n : Nat} {st : Sto} {v : Val} (g : Gd B c st n v) (hc : c ≤ 1000000) : wF F_are_signs [v] st (fun r st' => r = .bl (signsB v) ∧ Ap st st') G0 := by
  unfold F_are_signs MF_are_signs
  simp [isi_str g]
  cases v with
  | str s =>
    have hs : OkS c s := by cases n <;> exact g
    have := hs.1
    simp [isStr]
    refine wX_lc ?_
    simp
    refine LcOb.fm (fun _ => true) sgF (by simp; omega) (fun _ _ => live_none) ?_ ?_
    · intro x hx st1 a1
      simp at hx
      obtain ⟨c, hc, rfl⟩ := hx
      have e : ((c : Int) = 37) ↔ c = 37 := by omega
      simp [Ap.refl, lt1, le1, sgF, signB, e]
      by_cases h1 : 32 ≤ c <;> by_cases h2 : c ≤ 126 <;> by_cases h3 : c = 37 <;> simp [*] <;> omega
    · intro st' a
      simp only [sgF_map]
      simp [signsB]
      exact a.trans (Ap.one _ _)
  | _ => simp [isStr, signsB, Ap.refl]
def rwF : Val → Val := fun x => .bl (rowB x)
theorem rwF_map (xs : List Val) : (xs.filter fun _ => true).map rwF = (xs.map rowB).map Val.bl := by
  rw [List.filter_eq_self.mpr (fun _ _ => rfl), List.map_map]
  rfl
theorem is_text_spec {B : Nat → Prop} {c n : Nat} {st : Sto} {v : Val} (g : Gd B c st n v) (hc : c ≤ 1000000) : wF F_is_text [v] st (fun r st' => r = .bl (textB v) ∧ Ap st st') G0 := by
  unfold F_is_text MF_is_text
  simp [isi_tup g]
  cases v with
  | tup xs =>
    cases n with
    | zero => exact g.elim
    | succ n =>
    simp [isTup]
    by_cases h1 : 1 ≤ xs.length ∧ xs.length ≤ 200
    · have h2 : (1 : Int) ≤ (xs.length : Int) := by omega
      have h3 : (xs.length : Int) ≤ 200 := by omega
      simp [h2, h3]
      refine wX_lc ?_
      simp
      refine LcOb.fm (fun _ => true) rwF (by simp; omega) (fun _ _ => live_none) ?_ ?_
      · intro x hx st1 a1
        have gx := (g.2 x hx).keepA a1
        simp [Ap.refl]
        refine (signs_spec gx hc).mono ?_
        rintro r st2 ⟨rfl, a2⟩
        simp
        cases x with
        | str s =>
          have hs : OkS c s := by cases n <;> exact gx
          have := hs.1
          have h9 : s.length ≤ 16777216 := by omega
          have h8 : ((s.length : Int) ≤ 120) ↔ s.length ≤ 120 := by omega
          cases h7 : s.all signB <;> simp [signsB, rwF, rowB, h9, a2, h7, h8]
        | _ => simp [signsB, rwF, rowB, a2]
      · intro st' a
        simp only [rwF_map]
        simp [textB, h1]
        exact a.trans (Ap.one _ _)
    · have e : textB (.tup xs) = false := by
        show (decide (1 ≤ xs.length ∧ xs.length ≤ 200) && xs.all rowB) = false
        rw [decide_eq_false h1]
        rfl
      by_cases h2 : (1 : Int) ≤ (xs.length : Int)
      · have h3 : ¬ (xs.length : Int) ≤ 200 := by omega
        simp [h2, h3, e, Ap.refl]
      · simp [h2, e, Ap.refl]
  | _ => simp [isTup, textB, Ap.refl]

def bsg : Val → Bool
  | .str [c] => !signB c
  | _ => false
theorem bsg_nil (s : List Nat) : decide ((s.map fun c => Val.str [c]).filter bsg = []) = s.all signB := by
  induction s with
  | nil => rfl
  | cons a s ih =>
    rw [List.map_cons, List.all_cons, ← ih]
    cases h : signB a with
    | true => simp [bsg, h]
    | false => simp [bsg, h]
theorem lsigns_spec {B : Nat → Prop} {c n : Nat} {st : Sto} {v : Val} (g : Gd B c st n v) (hc : c ≤ 1000000) : wF L_is_signs [v] st (fun r st' => r = .bl (signsB v) ∧ Ap st st') G0 := by
  unfold L_is_signs ML_is_signs
  simp [isi_str g]
  cases v with
  | str s =>
    have hs : OkS c s := by cases n <;> exact g
    have := hs.1
    simp [isStr]
    refine wX_lc ?_
    simp
    refine LcOb.fm bsg id (by simp; omega) (fun _ _ => live_none) ?_ ?_
    · intro x hx st1 a1
      simp at hx
      obtain ⟨c, hc, rfl⟩ := hx
      have e : ((c : Int) = 37) ↔ c = 37 := by omega
      have e1 : ((c : Int) < 32) ↔ c < 32 := by omega
      have e2 : (126 < (c : Int)) ↔ 126 < c := by omega
      simp [Ap.refl, bsg, signB, e, e1, e2]
      by_cases h1 : c < 32 <;> by_cases h2 : 126 < c <;> by_cases h3 : c = 37 <;> simp [*] <;> omega
    · intro st' a
      simp
      rw [fEq_nil (B := fun _ => False) (c := 1) (n := 0) (xs := (s.map fun c => Val.str [c]).filter bsg) (by simp) (by simp) ?_ (by decide), bsg_nil]
      · simp [signsB]
        exact a.trans ⟨_, rfl⟩
      · intro x hx
        have hx := (List.mem_filter.mp hx).1
        simp at hx
        obtain ⟨c, hc, rfl⟩ := hx
        refine ⟨by simp, fun y hy => ?_⟩
        rw [List.mem_singleton.mp hy]
        exact hs.2 c hc
  | _ => simp [isStr, signsB, Ap.refl]
def brw (x : Val) : Bool := !rowB x
theorem brw_nil (xs : List Val) : decide (xs.filter brw = []) = xs.all rowB := by
  induction xs with
  | nil => rfl
  | cons a s ih =>
    rw [List.all_cons, ← ih]
    cases h : rowB a with
    | true => simp [brw, h]
    | false => simp [brw, h]
theorem lis_text_spec {B : Nat → Prop} {c n : Nat} {st : Sto} {v : Val} (g : Gd B c st n v) (hc : c ≤ 1000000) (hn : n ≤ 7) : wF L_is_text [v] st (fun r st' => r = .bl (textB v) ∧ Ap st st') G0 := by
  unfold L_is_text ML_is_text
  simp [isi_tup g]
  cases v with
  | tup xs =>
    cases n with
    | zero => exact g.elim
    | succ n =>
    simp [isTup]
    by_cases h1 : 1 ≤ xs.length ∧ xs.length ≤ 200
    · have h2 : (1 : Int) ≤ (xs.length : Int) := by omega
      have h3 : (xs.length : Int) ≤ 200 := by omega
      simp [h2, h3]
      refine wX_lc ?_
      simp
      refine LcOb.fm brw id (by simp; omega) (fun _ _ => live_none) ?_ ?_
      · intro x hx st1 a1
        have gx := (g.2 x hx).keepA a1
        simp
        refine (lsigns_spec gx hc).mono ?_
        rintro r st2 ⟨rfl, a2⟩
        simp
        cases x with
        | str s =>
          have hs : OkS c s := by cases n <;> exact gx
          have := hs.1
          have h9 : s.length ≤ 16777216 := by omega
          have h8 : (120 < (s.length : Int)) ↔ ¬ s.length ≤ 120 := by omega
          by_cases h10 : s.length ≤ 120 <;> cases h7 : s.all signB <;> simp [signsB, brw, rowB, h9, a2, h7, h8, h10, Ap.refl]
          all_goals omega
        | _ => simp [signsB, brw, rowB, a2, Ap.refl]
      · intro st' a
        simp
        rw [fEq_nil (B := B) (c := c) (n := n) (xs := xs.filter brw) (by simp) (by simp) ?_ (by omega), brw_nil]
        · simp [textB, h1]
          exact a.trans ⟨_, rfl⟩
        · intro x hx
          exact ((g.2 x (List.mem_filter.mp hx).1).keepA a).keepA ⟨_, rfl⟩
    · have e : textB (.tup xs) = false := by
        show (decide (1 ≤ xs.length ∧ xs.length ≤ 200) && xs.all rowB) = false
        rw [decide_eq_false h1]
        rfl
      by_cases h2 : (1 : Int) ≤ (xs.length : Int)
      · have h3 : ¬ (xs.length : Int) ≤ 200 := by omega
        simp [h2, h3, e, Ap.refl]
      · simp [h2, e, Ap.refl]
  | _ => simp [isTup, textB, Ap.refl]
end

end
section
def keepK : Val → Bool
  | .tup [_, .bl true] => true
  | _ => false
def wordK : Val → Val
  | .tup [v, _] => v
  | _ => .non
theorem kinds_NoName {st : Sto} : wF L_kinds [.exc "NoName"] st (fun v st' => ∃ p, v = .ref p ∧ st'[p]? = some (.lst [.str [110, 97, 109, 101], .str [111, 119, 110], .str [118, 97, 108, 117, 101]]) ∧ Ap st st') G0 := by
  have g0 : ∀ st, fIsE isT isY [.exc "NoName", .glo "TooGreat"] st = some (.bl false, st) := fun st => fIsE_glo (by decide)
  have g1 : ∀ st, fIsE isT isY [.exc "NoName", .glo "NoFile"] st = some (.bl false, st) := fun st => fIsE_glo (by decide)
  have g2 : ∀ st, fIsE isT isY [.exc "NoName", .glo "NoName"] st = some (.bl true, st) := fun st => fIsE_glo (by decide)
  have g3 : ∀ st, fIsE isT isY [.exc "NoName", .glo "Twice"] st = some (.bl false, st) := fun st => fIsE_glo (by decide)
  have g4 : ∀ st, fIsE isT isY [.exc "NoName", .glo "Stale"] st = some (.bl false, st) := fun st => fIsE_glo (by decide)
  have g5 : ∀ st, fIsE isT isY [.exc "NoName", .glo "Clash"] st = some (.bl false, st) := fun st => fIsE_glo (by decide)
  have g6 : ∀ st, fIsE isT isY [.exc "NoName", .glo "NoNode"] st = some (.bl false, st) := fun st => fIsE_glo (by decide)
  have g7 : ∀ st, fIsE isT isY [.exc "NoName", .glo "NoWindow"] st = some (.bl false, st) := fun st => fIsE_glo (by decide)
  have g8 : ∀ st, fIsE isT isY [.exc "NoName", .glo "NoPlug"] st = some (.bl false, st) := fun st => fIsE_glo (by decide)
  have g9 : ∀ st, fIsE isT isY [.exc "NoName", .glo "NoText"] st = some (.bl false, st) := fun st => fIsE_glo (by decide)
  have g10 : ∀ st, fIsE isT isY [.exc "NoName", .glo "Busy"] st = some (.bl false, st) := fun st => fIsE_glo (by decide)
  have g11 : ∀ st, fIsE isT isY [.exc "NoName", .glo "RoomError"] st = some (.bl true, st) := fun st => fIsE_glo (by decide)
  have g12 : ∀ st, fIsE isT isY [.exc "NoName", .ty "ValueError"] st = some (.bl true, st) := fun st => fIsE_ty (by decide)
  have sp : ∀ st, fSplit (.str [103, 114, 101, 97, 116, 32, 102, 105, 108, 101, 32, 110, 97, 109, 101, 32, 116, 119, 105, 99, 101, 32, 115, 116, 97, 108, 101, 32, 99, 108, 97, 115, 104, 32, 110, 111, 100, 101, 32, 119, 105, 110, 100, 111, 119, 32, 112, 108, 117, 103, 32, 116, 101, 120, 116, 32, 98, 117, 115, 121, 32, 111, 119, 110, 32, 118, 97, 108, 117, 101]) [.str [32]] st = some (.ref st.length, st ++ [.lst ([[103, 114, 101, 97, 116], [102, 105, 108, 101], [110, 97, 109, 101], [116, 119, 105, 99, 101], [115, 116, 97, 108, 101], [99, 108, 97, 115, 104], [110, 111, 100, 101], [119, 105, 110, 100, 111, 119], [112, 108, 117, 103], [116, 101, 120, 116], [98, 117, 115, 121], [111, 119, 110], [118, 97, 108, 117, 101]].map Val.str)]) := fun st => fSplit_eq (by decide) (by decide) words_kinds
  unfold L_kinds ML_kinds
  have a0 : fAdd (.ref (st.length)) (.ref (st.length + 1)) (st ++ [Ob.lst [.bl false, .bl false, .bl true, .bl false], Ob.lst [.bl false, .bl false, .bl false, .bl false]]) = some (.ref (st ++ [Ob.lst [.bl false, .bl false, .bl true, .bl false], Ob.lst [.bl false, .bl false, .bl false, .bl false]]).length, st ++ [Ob.lst [.bl false, .bl false, .bl true, .bl false], Ob.lst [.bl false, .bl false, .bl false, .bl false]] ++ [.lst ([.bl false, .bl false, .bl true, .bl false] ++ [.bl false, .bl false, .bl false, .bl false])]) := fAdd_ref (by simp) (by simp) (by decide)
  have a1 : fAdd (.ref (st.length + 2)) (.ref (st.length + 3)) (st ++ [Ob.lst [.bl false, .bl false, .bl true, .bl false], Ob.lst [.bl false, .bl false, .bl false, .bl false], Ob.lst [.bl false, .bl false, .bl true, .bl false, .bl false, .bl false, .bl false, .bl false], Ob.lst [.bl false, .bl false, .bl false]]) = some (.ref (st ++ [Ob.lst [.bl false, .bl false, .bl true, .bl false], Ob.lst [.bl false, .bl false, .bl false, .bl false], Ob.lst [.bl false, .bl false, .bl true, .bl false, .bl false, .bl false, .bl false, .bl false], Ob.lst [.bl false, .bl false, .bl false]]).length, st ++ [Ob.lst [.bl false, .bl false, .bl true, .bl false], Ob.lst [.bl false, .bl false, .bl false, .bl false], Ob.lst [.bl false, .bl false, .bl true, .bl false, .bl false, .bl false, .bl false, .bl false], Ob.lst [.bl false, .bl false, .bl false]] ++ [.lst ([.bl false, .bl false, .bl true, .bl false, .bl false, .bl false, .bl false, .bl false] ++ [.bl false, .bl false, .bl false])]) := fAdd_ref (by simp) (by simp) (by decide)
  have a2 : fAdd (.ref (st.length + 4)) (.ref (st.length + 5)) (st ++ [Ob.lst [.bl false, .bl false, .bl true, .bl false], Ob.lst [.bl false, .bl false, .bl false, .bl false], Ob.lst [.bl false, .bl false, .bl true, .bl false, .bl false, .bl false, .bl false, .bl false], Ob.lst [.bl false, .bl false, .bl false], Ob.lst [.bl false, .bl false, .bl true, .bl false, .bl false, .bl false, .bl false, .bl false, .bl false, .bl false, .bl false], Ob.lst [.bl true, .bl true]]) = some (.ref (st ++ [Ob.lst [.bl false, .bl false, .bl true, .bl false], Ob.lst [.bl false, .bl false, .bl false, .bl false], Ob.lst [.bl false, .bl false, .bl true, .bl false, .bl false, .bl false, .bl false, .bl false], Ob.lst [.bl false, .bl false, .bl false], Ob.lst [.bl false, .bl false, .bl true, .bl false, .bl false, .bl false, .bl false, .bl false, .bl false, .bl false, .bl false], Ob.lst [.bl true, .bl true]]).length, st ++ [Ob.lst [.bl false, .bl false, .bl true, .bl false], Ob.lst [.bl false, .bl false, .bl false, .bl false], Ob.lst [.bl false, .bl false, .bl true, .bl false, .bl false, .bl false, .bl false, .bl false], Ob.lst [.bl false, .bl false, .bl false], Ob.lst [.bl false, .bl false, .bl true, .bl false, .bl false, .bl false, .bl false, .bl false, .bl false, .bl false, .bl false], Ob.lst [.bl true, .bl true]] ++ [.lst ([.bl false, .bl false, .bl true, .bl false, .bl false, .bl false, .bl false, .bl false, .bl false, .bl false, .bl false] ++ [.bl true, .bl true])]) := fAdd_ref (by simp) (by simp) (by decide)
  have z : zipV [.str [103, 114, 101, 97, 116], .str [102, 105, 108, 101], .str [110, 97, 109, 101], .str [116, 119, 105, 99, 101], .str [115, 116, 97, 108, 101], .str [99, 108, 97, 115, 104], .str [110, 111, 100, 101], .str [119, 105, 110, 100, 111, 119], .str [112, 108, 117, 103], .str [116, 101, 120, 116], .str [98, 117, 115, 121], .str [111, 119, 110], .str [118, 97, 108, 117, 101]] [.bl false, .bl false, .bl true, .bl false, .bl false, .bl false, .bl false, .bl false, .bl false, .bl false, .bl false, .bl true, .bl true] = [.tup [.str [103, 114, 101, 97, 116], .bl false], .tup [.str [102, 105, 108, 101], .bl false], .tup [.str [110, 97, 109, 101], .bl true], .tup [.str [116, 119, 105, 99, 101], .bl false], .tup [.str [115, 116, 97, 108, 101], .bl false], .tup [.str [99, 108, 97, 115, 104], .bl false], .tup [.str [110, 111, 100, 101], .bl false], .tup [.str [119, 105, 110, 100, 111, 119], .bl false], .tup [.str [112, 108, 117, 103], .bl false], .tup [.str [116, 101, 120, 116], .bl false], .tup [.str [98, 117, 115, 121], .bl false], .tup [.str [111, 119, 110], .bl true], .tup [.str [118, 97, 108, 117, 101], .bl true]] := rfl
  simp [g0, g1, g2, g3, g4, g5, g6, g7, g8, g9, g10, g11, g12, sp, a0, a1, a2]
  refine wX_lc ?_
  simp [sp]
  refine ⟨_, _, ⟨rfl, rfl⟩, [.str [103, 114, 101, 97, 116], .str [102, 105, 108, 101], .str [110, 97, 109, 101], .str [116, 119, 105, 99, 101], .str [115, 116, 97, 108, 101], .str [99, 108, 97, 115, 104], .str [110, 111, 100, 101], .str [119, 105, 110, 100, 111, 119], .str [112, 108, 117, 103], .str [116, 101, 120, 116], .str [98, 117, 115, 121], .str [111, 119, 110], .str [118, 97, 108, 117, 101]], by simp, [.bl false, .bl false, .bl true, .bl false, .bl false, .bl false, .bl false, .bl false, .bl false, .bl false, .bl false, .bl true, .bl true], by simp, ?_⟩
  rw [z]
  clear g0 g1 g2 g3 g4 g5 g6 g7 g8 g9 g10 g11 g12 sp a0 a1 a2
  refine LcOb.fm keepK wordK (by simp) (fun st' a => ⟨a.get (by simp), a.get (by simp)⟩) ?_ ?_
  · intro x hx st1 a1
    simp at hx
    rcases hx with rfl | rfl | rfl | rfl | rfl | rfl | rfl | rfl | rfl | rfl | rfl | rfl | rfl <;> simp [keepK, wordK, Ap.refl, and_assoc]
  · intro st1 a1
    simp
    exact ⟨rfl, (Ap.trans ⟨_, rfl⟩ a1).trans (Ap.one _ _)⟩
theorem refusal_NoName {st : Sto} : wF L_refusal [.exc "NoName"] st (fun v st' => v = .str [110, 97, 109, 101] ∧ Ap st st') G0 := by
  unfold L_refusal ML_refusal
  simp
  refine kinds_NoName.mono ?_
  rintro v st1 ⟨p, rfl, hp, a1⟩
  have eq := fEq_rows (st := st1 ++ [.lst [.str [111, 119, 110], .str [118, 97, 108, 117, 101]], .lst [.str [111, 119, 110], .str [118, 97, 108, 117, 101]]]) (p := st1.length) (q := st1.length + 1) (a := [[111, 119, 110], [118, 97, 108, 117, 101]]) (b := [[111, 119, 110], [118, 97, 108, 117, 101]]) (by simp) (by simp) (by decide) (by decide)
  have hp2 : (st1 ++ [Ob.lst [.str [111, 119, 110], .str [118, 97, 108, 117, 101]], Ob.lst [.str [111, 119, 110], .str [118, 97, 108, 117, 101]]])[p]? = _ := Ap.get ⟨_, rfl⟩ hp
  have cu : cutG [Val.str [110, 97, 109, 101], .str [111, 119, 110], .str [118, 97, 108, 117, 101]] (some 1) none = [.str [111, 119, 110], .str [118, 97, 108, 117, 101]] := rfl
  simp [hp, cu, eq, hp2]
  exact a1.trans ⟨_, rfl⟩
theorem kinds_NoText {st : Sto} : wF L_kinds [.exc "NoText"] st (fun v st' => ∃ p, v = .ref p ∧ st'[p]? = some (.lst [.str [116, 101, 120, 116], .str [111, 119, 110], .str [118, 97, 108, 117, 101]]) ∧ Ap st st') G0 := by
  have g0 : ∀ st, fIsE isT isY [.exc "NoText", .glo "TooGreat"] st = some (.bl false, st) := fun st => fIsE_glo (by decide)
  have g1 : ∀ st, fIsE isT isY [.exc "NoText", .glo "NoFile"] st = some (.bl false, st) := fun st => fIsE_glo (by decide)
  have g2 : ∀ st, fIsE isT isY [.exc "NoText", .glo "NoName"] st = some (.bl false, st) := fun st => fIsE_glo (by decide)
  have g3 : ∀ st, fIsE isT isY [.exc "NoText", .glo "Twice"] st = some (.bl false, st) := fun st => fIsE_glo (by decide)
  have g4 : ∀ st, fIsE isT isY [.exc "NoText", .glo "Stale"] st = some (.bl false, st) := fun st => fIsE_glo (by decide)
  have g5 : ∀ st, fIsE isT isY [.exc "NoText", .glo "Clash"] st = some (.bl false, st) := fun st => fIsE_glo (by decide)
  have g6 : ∀ st, fIsE isT isY [.exc "NoText", .glo "NoNode"] st = some (.bl false, st) := fun st => fIsE_glo (by decide)
  have g7 : ∀ st, fIsE isT isY [.exc "NoText", .glo "NoWindow"] st = some (.bl false, st) := fun st => fIsE_glo (by decide)
  have g8 : ∀ st, fIsE isT isY [.exc "NoText", .glo "NoPlug"] st = some (.bl false, st) := fun st => fIsE_glo (by decide)
  have g9 : ∀ st, fIsE isT isY [.exc "NoText", .glo "NoText"] st = some (.bl true, st) := fun st => fIsE_glo (by decide)
  have g10 : ∀ st, fIsE isT isY [.exc "NoText", .glo "Busy"] st = some (.bl false, st) := fun st => fIsE_glo (by decide)
  have g11 : ∀ st, fIsE isT isY [.exc "NoText", .glo "RoomError"] st = some (.bl true, st) := fun st => fIsE_glo (by decide)
  have g12 : ∀ st, fIsE isT isY [.exc "NoText", .ty "ValueError"] st = some (.bl true, st) := fun st => fIsE_ty (by decide)
  have sp : ∀ st, fSplit (.str [103, 114, 101, 97, 116, 32, 102, 105, 108, 101, 32, 110, 97, 109, 101, 32, 116, 119, 105, 99, 101, 32, 115, 116, 97, 108, 101, 32, 99, 108, 97, 115, 104, 32, 110, 111, 100, 101, 32, 119, 105, 110, 100, 111, 119, 32, 112, 108, 117, 103, 32, 116, 101, 120, 116, 32, 98, 117, 115, 121, 32, 111, 119, 110, 32, 118, 97, 108, 117, 101]) [.str [32]] st = some (.ref st.length, st ++ [.lst ([[103, 114, 101, 97, 116], [102, 105, 108, 101], [110, 97, 109, 101], [116, 119, 105, 99, 101], [115, 116, 97, 108, 101], [99, 108, 97, 115, 104], [110, 111, 100, 101], [119, 105, 110, 100, 111, 119], [112, 108, 117, 103], [116, 101, 120, 116], [98, 117, 115, 121], [111, 119, 110], [118, 97, 108, 117, 101]].map Val.str)]) := fun st => fSplit_eq (by decide) (by decide) words_kinds
  unfold L_kinds ML_kinds
  have a0 : fAdd (.ref (st.length)) (.ref (st.length + 1)) (st ++ [Ob.lst [.bl false, .bl false, .bl false, .bl false], Ob.lst [.bl false, .bl false, .bl false, .bl false]]) = some (.ref (st ++ [Ob.lst [.bl false, .bl false, .bl false, .bl false], Ob.lst [.bl false, .bl false, .bl false, .bl false]]).length, st ++ [Ob.lst [.bl false, .bl false, .bl false, .bl false], Ob.lst [.bl false, .bl false, .bl false, .bl false]] ++ [.lst ([.bl false, .bl false, .bl false, .bl false] ++ [.bl false, .bl false, .bl false, .bl false])]) := fAdd_ref (by simp) (by simp) (by decide)
  have a1 : fAdd (.ref (st.length + 2)) (.ref (st.length + 3)) (st ++ [Ob.lst [.bl false, .bl false, .bl false, .bl false], Ob.lst [.bl false, .bl false, .bl false, .bl false], Ob.lst [.bl false, .bl false, .bl false, .bl false, .bl false, .bl false, .bl false, .bl false], Ob.lst [.bl false, .bl true, .bl false]]) = some (.ref (st ++ [Ob.lst [.bl false, .bl false, .bl false, .bl false], Ob.lst [.bl false, .bl false, .bl false, .bl false], Ob.lst [.bl false, .bl false, .bl false, .bl false, .bl false, .bl false, .bl false, .bl false], Ob.lst [.bl false, .bl true, .bl false]]).length, st ++ [Ob.lst [.bl false, .bl false, .bl false, .bl false], Ob.lst [.bl false, .bl false, .bl false, .bl false], Ob.lst [.bl false, .bl false, .bl false, .bl false, .bl false, .bl false, .bl false, .bl false], Ob.lst [.bl false, .bl true, .bl false]] ++ [.lst ([.bl false, .bl false, .bl false, .bl false, .bl false, .bl false, .bl false, .bl false] ++ [.bl false, .bl true, .bl false])]) := fAdd_ref (by simp) (by simp) (by decide)
  have a2 : fAdd (.ref (st.length + 4)) (.ref (st.length + 5)) (st ++ [Ob.lst [.bl false, .bl false, .bl false, .bl false], Ob.lst [.bl false, .bl false, .bl false, .bl false], Ob.lst [.bl false, .bl false, .bl false, .bl false, .bl false, .bl false, .bl false, .bl false], Ob.lst [.bl false, .bl true, .bl false], Ob.lst [.bl false, .bl false, .bl false, .bl false, .bl false, .bl false, .bl false, .bl false, .bl false, .bl true, .bl false], Ob.lst [.bl true, .bl true]]) = some (.ref (st ++ [Ob.lst [.bl false, .bl false, .bl false, .bl false], Ob.lst [.bl false, .bl false, .bl false, .bl false], Ob.lst [.bl false, .bl false, .bl false, .bl false, .bl false, .bl false, .bl false, .bl false], Ob.lst [.bl false, .bl true, .bl false], Ob.lst [.bl false, .bl false, .bl false, .bl false, .bl false, .bl false, .bl false, .bl false, .bl false, .bl true, .bl false], Ob.lst [.bl true, .bl true]]).length, st ++ [Ob.lst [.bl false, .bl false, .bl false, .bl false], Ob.lst [.bl false, .bl false, .bl false, .bl false], Ob.lst [.bl false, .bl false, .bl false, .bl false, .bl false, .bl false, .bl false, .bl false], Ob.lst [.bl false, .bl true, .bl false], Ob.lst [.bl false, .bl false, .bl false, .bl false, .bl false, .bl false, .bl false, .bl false, .bl false, .bl true, .bl false], Ob.lst [.bl true, .bl true]] ++ [.lst ([.bl false, .bl false, .bl false, .bl false, .bl false, .bl false, .bl false, .bl false, .bl false, .bl true, .bl false] ++ [.bl true, .bl true])]) := fAdd_ref (by simp) (by simp) (by decide)
  have z : zipV [.str [103, 114, 101, 97, 116], .str [102, 105, 108, 101], .str [110, 97, 109, 101], .str [116, 119, 105, 99, 101], .str [115, 116, 97, 108, 101], .str [99, 108, 97, 115, 104], .str [110, 111, 100, 101], .str [119, 105, 110, 100, 111, 119], .str [112, 108, 117, 103], .str [116, 101, 120, 116], .str [98, 117, 115, 121], .str [111, 119, 110], .str [118, 97, 108, 117, 101]] [.bl false, .bl false, .bl false, .bl false, .bl false, .bl false, .bl false, .bl false, .bl false, .bl true, .bl false, .bl true, .bl true] = [.tup [.str [103, 114, 101, 97, 116], .bl false], .tup [.str [102, 105, 108, 101], .bl false], .tup [.str [110, 97, 109, 101], .bl false], .tup [.str [116, 119, 105, 99, 101], .bl false], .tup [.str [115, 116, 97, 108, 101], .bl false], .tup [.str [99, 108, 97, 115, 104], .bl false], .tup [.str [110, 111, 100, 101], .bl false], .tup [.str [119, 105, 110, 100, 111, 119], .bl false], .tup [.str [112, 108, 117, 103], .bl false], .tup [.str [116, 101, 120, 116], .bl true], .tup [.str [98, 117, 115, 121], .bl false], .tup [.str [111, 119, 110], .bl true], .tup [.str [118, 97, 108, 117, 101], .bl true]] := rfl
  simp [g0, g1, g2, g3, g4, g5, g6, g7, g8, g9, g10, g11, g12, sp, a0, a1, a2]
  refine wX_lc ?_
  simp [sp]
  refine ⟨_, _, ⟨rfl, rfl⟩, [.str [103, 114, 101, 97, 116], .str [102, 105, 108, 101], .str [110, 97, 109, 101], .str [116, 119, 105, 99, 101], .str [115, 116, 97, 108, 101], .str [99, 108, 97, 115, 104], .str [110, 111, 100, 101], .str [119, 105, 110, 100, 111, 119], .str [112, 108, 117, 103], .str [116, 101, 120, 116], .str [98, 117, 115, 121], .str [111, 119, 110], .str [118, 97, 108, 117, 101]], by simp, [.bl false, .bl false, .bl false, .bl false, .bl false, .bl false, .bl false, .bl false, .bl false, .bl true, .bl false, .bl true, .bl true], by simp, ?_⟩
  rw [z]
  clear g0 g1 g2 g3 g4 g5 g6 g7 g8 g9 g10 g11 g12 sp a0 a1 a2
  refine LcOb.fm keepK wordK (by simp) (fun st' a => ⟨a.get (by simp), a.get (by simp)⟩) ?_ ?_
  · intro x hx st1 a1
    simp at hx
    rcases hx with rfl | rfl | rfl | rfl | rfl | rfl | rfl | rfl | rfl | rfl | rfl | rfl | rfl <;> simp [keepK, wordK, Ap.refl, and_assoc]
  · intro st1 a1
    simp
    exact ⟨rfl, (Ap.trans ⟨_, rfl⟩ a1).trans (Ap.one _ _)⟩
theorem refusal_NoText {st : Sto} : wF L_refusal [.exc "NoText"] st (fun v st' => v = .str [116, 101, 120, 116] ∧ Ap st st') G0 := by
  unfold L_refusal ML_refusal
  simp
  refine kinds_NoText.mono ?_
  rintro v st1 ⟨p, rfl, hp, a1⟩
  have eq := fEq_rows (st := st1 ++ [.lst [.str [111, 119, 110], .str [118, 97, 108, 117, 101]], .lst [.str [111, 119, 110], .str [118, 97, 108, 117, 101]]]) (p := st1.length) (q := st1.length + 1) (a := [[111, 119, 110], [118, 97, 108, 117, 101]]) (b := [[111, 119, 110], [118, 97, 108, 117, 101]]) (by simp) (by simp) (by decide) (by decide)
  have hp2 : (st1 ++ [Ob.lst [.str [111, 119, 110], .str [118, 97, 108, 117, 101]], Ob.lst [.str [111, 119, 110], .str [118, 97, 108, 117, 101]]])[p]? = _ := Ap.get ⟨_, rfl⟩ hp
  have cu : cutG [Val.str [116, 101, 120, 116], .str [111, 119, 110], .str [118, 97, 108, 117, 101]] (some 1) none = [.str [111, 119, 110], .str [118, 97, 108, 117, 101]] := rfl
  simp [hp, cu, eq, hp2]
  exact a1.trans ⟨_, rfl⟩
theorem kinds_NoFile {st : Sto} : wF L_kinds [.exc "NoFile"] st (fun v st' => ∃ p, v = .ref p ∧ st'[p]? = some (.lst [.str [102, 105, 108, 101], .str [111, 119, 110], .str [118, 97, 108, 117, 101]]) ∧ Ap st st') G0 := by
  have g0 : ∀ st, fIsE isT isY [.exc "NoFile", .glo "TooGreat"] st = some (.bl false, st) := fun st => fIsE_glo (by decide)
  have g1 : ∀ st, fIsE isT isY [.exc "NoFile", .glo "NoFile"] st = some (.bl true, st) := fun st => fIsE_glo (by decide)
  have g2 : ∀ st, fIsE isT isY [.exc "NoFile", .glo "NoName"] st = some (.bl false, st) := fun st => fIsE_glo (by decide)
  have g3 : ∀ st, fIsE isT isY [.exc "NoFile", .glo "Twice"] st = some (.bl false, st) := fun st => fIsE_glo (by decide)
  have g4 : ∀ st, fIsE isT isY [.exc "NoFile", .glo "Stale"] st = some (.bl false, st) := fun st => fIsE_glo (by decide)
  have g5 : ∀ st, fIsE isT isY [.exc "NoFile", .glo "Clash"] st = some (.bl false, st) := fun st => fIsE_glo (by decide)
  have g6 : ∀ st, fIsE isT isY [.exc "NoFile", .glo "NoNode"] st = some (.bl false, st) := fun st => fIsE_glo (by decide)
  have g7 : ∀ st, fIsE isT isY [.exc "NoFile", .glo "NoWindow"] st = some (.bl false, st) := fun st => fIsE_glo (by decide)
  have g8 : ∀ st, fIsE isT isY [.exc "NoFile", .glo "NoPlug"] st = some (.bl false, st) := fun st => fIsE_glo (by decide)
  have g9 : ∀ st, fIsE isT isY [.exc "NoFile", .glo "NoText"] st = some (.bl false, st) := fun st => fIsE_glo (by decide)
  have g10 : ∀ st, fIsE isT isY [.exc "NoFile", .glo "Busy"] st = some (.bl false, st) := fun st => fIsE_glo (by decide)
  have g11 : ∀ st, fIsE isT isY [.exc "NoFile", .glo "RoomError"] st = some (.bl true, st) := fun st => fIsE_glo (by decide)
  have g12 : ∀ st, fIsE isT isY [.exc "NoFile", .ty "ValueError"] st = some (.bl true, st) := fun st => fIsE_ty (by decide)
  have sp : ∀ st, fSplit (.str [103, 114, 101, 97, 116, 32, 102, 105, 108, 101, 32, 110, 97, 109, 101, 32, 116, 119, 105, 99, 101, 32, 115, 116, 97, 108, 101, 32, 99, 108, 97, 115, 104, 32, 110, 111, 100, 101, 32, 119, 105, 110, 100, 111, 119, 32, 112, 108, 117, 103, 32, 116, 101, 120, 116, 32, 98, 117, 115, 121, 32, 111, 119, 110, 32, 118, 97, 108, 117, 101]) [.str [32]] st = some (.ref st.length, st ++ [.lst ([[103, 114, 101, 97, 116], [102, 105, 108, 101], [110, 97, 109, 101], [116, 119, 105, 99, 101], [115, 116, 97, 108, 101], [99, 108, 97, 115, 104], [110, 111, 100, 101], [119, 105, 110, 100, 111, 119], [112, 108, 117, 103], [116, 101, 120, 116], [98, 117, 115, 121], [111, 119, 110], [118, 97, 108, 117, 101]].map Val.str)]) := fun st => fSplit_eq (by decide) (by decide) words_kinds
  unfold L_kinds ML_kinds
  have a0 : fAdd (.ref (st.length)) (.ref (st.length + 1)) (st ++ [Ob.lst [.bl false, .bl true, .bl false, .bl false], Ob.lst [.bl false, .bl false, .bl false, .bl false]]) = some (.ref (st ++ [Ob.lst [.bl false, .bl true, .bl false, .bl false], Ob.lst [.bl false, .bl false, .bl false, .bl false]]).length, st ++ [Ob.lst [.bl false, .bl true, .bl false, .bl false], Ob.lst [.bl false, .bl false, .bl false, .bl false]] ++ [.lst ([.bl false, .bl true, .bl false, .bl false] ++ [.bl false, .bl false, .bl false, .bl false])]) := fAdd_ref (by simp) (by simp) (by decide)
  have a1 : fAdd (.ref (st.length + 2)) (.ref (st.length + 3)) (st ++ [Ob.lst [.bl false, .bl true, .bl false, .bl false], Ob.lst [.bl false, .bl false, .bl false, .bl false], Ob.lst [.bl false, .bl true, .bl false, .bl false, .bl false, .bl false, .bl false, .bl false], Ob.lst [.bl false, .bl false, .bl false]]) = some (.ref (st ++ [Ob.lst [.bl false, .bl true, .bl false, .bl false], Ob.lst [.bl false, .bl false, .bl false, .bl false], Ob.lst [.bl false, .bl true, .bl false, .bl false, .bl false, .bl false, .bl false, .bl false], Ob.lst [.bl false, .bl false, .bl false]]).length, st ++ [Ob.lst [.bl false, .bl true, .bl false, .bl false], Ob.lst [.bl false, .bl false, .bl false, .bl false], Ob.lst [.bl false, .bl true, .bl false, .bl false, .bl false, .bl false, .bl false, .bl false], Ob.lst [.bl false, .bl false, .bl false]] ++ [.lst ([.bl false, .bl true, .bl false, .bl false, .bl false, .bl false, .bl false, .bl false] ++ [.bl false, .bl false, .bl false])]) := fAdd_ref (by simp) (by simp) (by decide)
  have a2 : fAdd (.ref (st.length + 4)) (.ref (st.length + 5)) (st ++ [Ob.lst [.bl false, .bl true, .bl false, .bl false], Ob.lst [.bl false, .bl false, .bl false, .bl false], Ob.lst [.bl false, .bl true, .bl false, .bl false, .bl false, .bl false, .bl false, .bl false], Ob.lst [.bl false, .bl false, .bl false], Ob.lst [.bl false, .bl true, .bl false, .bl false, .bl false, .bl false, .bl false, .bl false, .bl false, .bl false, .bl false], Ob.lst [.bl true, .bl true]]) = some (.ref (st ++ [Ob.lst [.bl false, .bl true, .bl false, .bl false], Ob.lst [.bl false, .bl false, .bl false, .bl false], Ob.lst [.bl false, .bl true, .bl false, .bl false, .bl false, .bl false, .bl false, .bl false], Ob.lst [.bl false, .bl false, .bl false], Ob.lst [.bl false, .bl true, .bl false, .bl false, .bl false, .bl false, .bl false, .bl false, .bl false, .bl false, .bl false], Ob.lst [.bl true, .bl true]]).length, st ++ [Ob.lst [.bl false, .bl true, .bl false, .bl false], Ob.lst [.bl false, .bl false, .bl false, .bl false], Ob.lst [.bl false, .bl true, .bl false, .bl false, .bl false, .bl false, .bl false, .bl false], Ob.lst [.bl false, .bl false, .bl false], Ob.lst [.bl false, .bl true, .bl false, .bl false, .bl false, .bl false, .bl false, .bl false, .bl false, .bl false, .bl false], Ob.lst [.bl true, .bl true]] ++ [.lst ([.bl false, .bl true, .bl false, .bl false, .bl false, .bl false, .bl false, .bl false, .bl false, .bl false, .bl false] ++ [.bl true, .bl true])]) := fAdd_ref (by simp) (by simp) (by decide)
  have z : zipV [.str [103, 114, 101, 97, 116], .str [102, 105, 108, 101], .str [110, 97, 109, 101], .str [116, 119, 105, 99, 101], .str [115, 116, 97, 108, 101], .str [99, 108, 97, 115, 104], .str [110, 111, 100, 101], .str [119, 105, 110, 100, 111, 119], .str [112, 108, 117, 103], .str [116, 101, 120, 116], .str [98, 117, 115, 121], .str [111, 119, 110], .str [118, 97, 108, 117, 101]] [.bl false, .bl true, .bl false, .bl false, .bl false, .bl false, .bl false, .bl false, .bl false, .bl false, .bl false, .bl true, .bl true] = [.tup [.str [103, 114, 101, 97, 116], .bl false], .tup [.str [102, 105, 108, 101], .bl true], .tup [.str [110, 97, 109, 101], .bl false], .tup [.str [116, 119, 105, 99, 101], .bl false], .tup [.str [115, 116, 97, 108, 101], .bl false], .tup [.str [99, 108, 97, 115, 104], .bl false], .tup [.str [110, 111, 100, 101], .bl false], .tup [.str [119, 105, 110, 100, 111, 119], .bl false], .tup [.str [112, 108, 117, 103], .bl false], .tup [.str [116, 101, 120, 116], .bl false], .tup [.str [98, 117, 115, 121], .bl false], .tup [.str [111, 119, 110], .bl true], .tup [.str [118, 97, 108, 117, 101], .bl true]] := rfl
  simp [g0, g1, g2, g3, g4, g5, g6, g7, g8, g9, g10, g11, g12, sp, a0, a1, a2]
  refine wX_lc ?_
  simp [sp]
  refine ⟨_, _, ⟨rfl, rfl⟩, [.str [103, 114, 101, 97, 116], .str [102, 105, 108, 101], .str [110, 97, 109, 101], .str [116, 119, 105, 99, 101], .str [115, 116, 97, 108, 101], .str [99, 108, 97, 115, 104], .str [110, 111, 100, 101], .str [119, 105, 110, 100, 111, 119], .str [112, 108, 117, 103], .str [116, 101, 120, 116], .str [98, 117, 115, 121], .str [111, 119, 110], .str [118, 97, 108, 117, 101]], by simp, [.bl false, .bl true, .bl false, .bl false, .bl false, .bl false, .bl false, .bl false, .bl false, .bl false, .bl false, .bl true, .bl true], by simp, ?_⟩
  rw [z]
  clear g0 g1 g2 g3 g4 g5 g6 g7 g8 g9 g10 g11 g12 sp a0 a1 a2
  refine LcOb.fm keepK wordK (by simp) (fun st' a => ⟨a.get (by simp), a.get (by simp)⟩) ?_ ?_
  · intro x hx st1 a1
    simp at hx
    rcases hx with rfl | rfl | rfl | rfl | rfl | rfl | rfl | rfl | rfl | rfl | rfl | rfl | rfl <;> simp [keepK, wordK, Ap.refl, and_assoc]
  · intro st1 a1
    simp
    exact ⟨rfl, (Ap.trans ⟨_, rfl⟩ a1).trans (Ap.one _ _)⟩
theorem refusal_NoFile {st : Sto} : wF L_refusal [.exc "NoFile"] st (fun v st' => v = .str [102, 105, 108, 101] ∧ Ap st st') G0 := by
  unfold L_refusal ML_refusal
  simp
  refine kinds_NoFile.mono ?_
  rintro v st1 ⟨p, rfl, hp, a1⟩
  have eq := fEq_rows (st := st1 ++ [.lst [.str [111, 119, 110], .str [118, 97, 108, 117, 101]], .lst [.str [111, 119, 110], .str [118, 97, 108, 117, 101]]]) (p := st1.length) (q := st1.length + 1) (a := [[111, 119, 110], [118, 97, 108, 117, 101]]) (b := [[111, 119, 110], [118, 97, 108, 117, 101]]) (by simp) (by simp) (by decide) (by decide)
  have hp2 : (st1 ++ [Ob.lst [.str [111, 119, 110], .str [118, 97, 108, 117, 101]], Ob.lst [.str [111, 119, 110], .str [118, 97, 108, 117, 101]]])[p]? = _ := Ap.get ⟨_, rfl⟩ hp
  have cu : cutG [Val.str [102, 105, 108, 101], .str [111, 119, 110], .str [118, 97, 108, 117, 101]] (some 1) none = [.str [111, 119, 110], .str [118, 97, 108, 117, 101]] := rfl
  simp [hp, cu, eq, hp2]
  exact a1.trans ⟨_, rfl⟩

end
section
def LET : List Nat := [97, 98, 99, 100, 101, 102, 103, 104, 105, 106, 107, 108, 109, 110, 111, 112, 113, 114, 115, 116, 117, 118, 119, 120, 121, 122]
def nmB (s : List Nat) : Bool := decide (1 ≤ s.length ∧ s.length ≤ 12) && s.all fun c => decide (c ∈ LET)
def nameB : Val → Bool
  | .str s => nmB s
  | _ => false
theorem nmB_lt {s : List Nat} (h : nmB s = true) : s.length ≤ 12 ∧ ∀ c ∈ s, c < 128 := by
  unfold nmB at h
  rw [Bool.and_eq_true] at h
  refine ⟨(of_decide_eq_true h.1).2, fun c hc => ?_⟩
  have := of_decide_eq_true (List.all_eq_true.mp h.2 c hc)
  simp only [LET, List.mem_cons, List.not_mem_nil, or_false] at this
  omega
def letF : Val → Val
  | .str [c] => .bl (decide (c ∈ LET))
  | _ => .non
theorem is_name_spec {B : Nat → Prop} {c n : Nat} {st : Sto} {v : Val} (g : Gd B c st n v) (hc : c ≤ 1000000) : wF F_is_name [v] st (fun r st' => r = .bl (nameB v) ∧ Ap st st') G0 := by
  unfold F_is_name MF_is_name
  simp [isi_str g]
  cases v with
  | str s =>
    have hs : OkS c s := by cases n <;> exact g
    have hl := hs.1
    have hz : s.length ≤ 16777216 := by omega
    simp [isStr, hz]
    by_cases h1 : 1 ≤ s.length
    · have e1 : (1 : Int) ≤ (s.length : Int) := by omega
      by_cases h2 : s.length ≤ 12
      · have e2 : (s.length : Int) ≤ 12 := by omega
        simp [e1, e2]
        refine wX_lc ?_
        simp
        refine LcOb.fm (fun _ => true) letF (by simp; omega) (fun _ _ => live_none) ?_ ?_
        · intro x hx st1 a1
          simp at hx
          obtain ⟨c, hc, rfl⟩ := hx
          simp [Ap.refl, letF, LET]
        · intro st' a
          have e : ((s.map fun c => Val.str [c]).filter fun _ => true).map letF = (s.map fun c => decide (c ∈ LET)).map Val.bl := by
            rw [List.filter_eq_self.mpr (fun _ _ => rfl), List.map_map, List.map_map]
            rfl
          simp only [e]
          simp [nameB, nmB, h1, h2]
          exact a.trans (Ap.one _ _)
      · have e2 : ¬ (s.length : Int) ≤ 12 := by omega
        simp [e1, e2, nameB, nmB, h2, Ap.refl]
    · have e1 : ¬ (1 : Int) ≤ (s.length : Int) := by omega
      simp [e1, nameB, nmB, h1, Ap.refl]
  | _ => simp [isStr, nameB, Ap.refl]
def NMS : List Val := [.str [97], .str [98], .str [97, 98, 99, 100, 101, 102, 103, 104, 105, 106, 107, 108], .str [97, 98, 99, 100, 101, 102, 103, 104, 105, 106, 107, 108, 109], .str [], .str [65], .int 7, .tup [.str [97]], .str [97, 32, 98]]
def GOOD : List Val := [.str [97], .str [98], .str [97, 98, 99, 100, 101, 102, 103, 104, 105, 106, 107, 108]]
theorem nms_gd {B : Nat → Prop} {st : Sto} : ∀ v ∈ NMS, Gd B 1000 st 1 v := by
  intro v hv
  simp only [NMS, List.mem_cons, List.not_mem_nil, or_false] at hv
  rcases hv with rfl | rfl | rfl | rfl | rfl | rfl | rfl | rfl | rfl <;> first | trivial | (exact ⟨by decide, by decide⟩) | (refine ⟨by decide, fun x hx => ?_⟩; simp at hx; subst hx; exact ⟨by decide, by decide⟩)
theorem good_in {st : Sto} {p : Nat} (h : st[p]? = some (.lst GOOD)) : ∀ v ∈ NMS, fIn v (.ref p) st = some (.bl (nameB v), st) := by
  have r : Rds st 0 GOOD [PyData.str (St' [97]), .str (St' [98]), .str (St' [97, 98, 99, 100, 101, 102, 103, 104, 105, 106, 107, 108])] := .cons (.str (by decide)) (.cons (.str (by decide)) (.cons (.str (by decide)) .nil))
  intro v hv
  simp only [NMS, List.mem_cons, List.not_mem_nil, or_false] at hv
  rcases hv with rfl | rfl | rfl | rfl | rfl | rfl | rfl | rfl | rfl
  · rw [fIn_rd h (.str (by decide) : Rd st 0 _ _) r (by decide) (by decide)]
    simp [nameB, nmB, LET]
  · rw [fIn_rd h (.str (by decide) : Rd st 0 _ _) r (by decide) (by decide)]
    simp [nameB, nmB, LET]
  · rw [fIn_rd h (.str (by decide) : Rd st 0 _ _) r (by decide) (by decide)]
    simp [nameB, nmB, LET]
  · rw [fIn_rd h (.str (by decide) : Rd st 0 _ _) r (by decide) (by decide)]
    simp [nameB, nmB, LET, st_inj2]
  · rw [fIn_rd h (.str (by decide) : Rd st 0 _ _) r (by decide) (by decide)]
    simp [nameB, nmB, LET, st_inj2]
  · rw [fIn_rd h (.str (by decide) : Rd st 0 _ _) r (by decide) (by decide)]
    simp [nameB, nmB, LET, st_inj2]
  · rw [fIn_rd h (.int 7 : Rd st 0 _ _) r (by decide) (by decide)]
    simp [nameB]
  · rw [fIn_rd h (Rds.tup (.cons (.str (by decide)) .nil) : Rd st 1 _ _) r (by decide) (by decide)]
    simp [nameB]
  · rw [fIn_rd h (.str (by decide) : Rd st 0 _ _) r (by decide) (by decide)]
    simp [nameB, nmB, LET, st_inj2]

end
section
abbrev KVs := List (Key × Val)
abbrev ky (s : List Nat) : Key := .inr (St' s)
/-- a shelf at s, its dicts at a, b, c -/
structure ShAt (st : Sto) (s a b c : Nat) (F C : KVs) : Prop where
  hs : st[s]? = some (.ins "Shelf" [("files", .ref a), ("counts", .ref b), ("stories", .ref c)])
  hf : st[a]? = some (.dic F)
  hc : st[b]? = some (.dic C)
  hj : st[c]? = some (.dic [])
theorem ShAt.ap {st st' : Sto} {s a b c : Nat} {F C : KVs} (h : ShAt st s a b c F C) (d : Ap st st') : ShAt st' s a b c F C := ⟨d.get h.hs, d.get h.hf, d.get h.hc, d.get h.hj⟩
/-- what dicts of files and counts hold -/
structure KvOk (F C : KVs) (m : Nat) : Prop where
  f : ∀ p ∈ F, ∃ s, p.1 = ky s ∧ nmB s = true ∧ textB p.2 = true
  c : ∀ p ∈ C, ∃ i : Int, p.2 = .int i
  l : F.length ≤ m
  k : C.length ≤ m
def cntI (C : KVs) (k : Key) : Int := match getK C k with
  | some (.int i) => i
  | _ => 0
theorem KvOk.cnt {F C : KVs} {m : Nat} (h : KvOk F C m) (k : Key) : (getK C k).getD (.int 0) = .int (cntI C k) := by
  unfold cntI
  cases e : getK C k with
  | none => rfl
  | some v =>
    obtain ⟨j, hj⟩ := getK_mem e
    obtain ⟨i, hi⟩ := h.c _ hj
    have hi : v = .int i := hi
    subst hi
    rfl
theorem KvOk.good {F C : KVs} {m : Nat} (h : KvOk F C m) {s : List Nat} {v : Val} (e : getK F (ky s) = some v) : nmB s = true ∧ textB v = true := by
  unfold getK at e
  obtain ⟨p, hp, rfl⟩ := Option.map_eq_some_iff.mp e
  obtain ⟨t, h1, h2, h3⟩ := h.f p (List.mem_of_find?_eq_some hp)
  have h4 := List.find?_some hp
  have h5 : p.1 = ky s := of_decide_eq_true h4
  rw [h1] at h5
  have : t = s := st_inj' (Sum.inr.inj h5)
  subst this
  exact ⟨h2, h3⟩
theorem setK_mem {F : KVs} {k : Key} {v : Val} {p : Key × Val} (h : p ∈ setK F k v) : p ∈ F ∨ (p.1 = k ∧ p.2 = v) := by
  unfold setK at h
  split at h
  · obtain ⟨q, hq, rfl⟩ := List.mem_map.mp h
    split
    · rename_i e
      exact .inr ⟨e, rfl⟩
    · exact .inl hq
  · rcases List.mem_append.mp h with z | z
    · exact .inl z
    · rw [List.mem_singleton.mp z]
      exact .inr ⟨rfl, rfl⟩
theorem setK_len (F : KVs) (k : Key) (v : Val) : (setK F k v).length ≤ F.length + 1 := by
  unfold setK
  split
  · rw [List.length_map]; omega
  · simp
theorem getK_set (F : KVs) (k : Key) (v : Val) : getK (setK F k v) k = some v := by
  unfold setK getK
  split
  · rename_i h
    induction F with
    | nil => cases h
    | cons p r ih =>
      rw [List.map_cons, List.find?_cons]
      by_cases e : p.1 = k
      · simp [e]
      · simp only [e, if_false, decide_false]
        refine ih ?_
        rw [List.any_cons, decide_eq_false e, Bool.false_or] at h
        exact h
  · rename_i h
    rw [List.find?_append]
    have : F.find? (fun kv => decide (kv.1 = k)) = none := by
      rw [List.find?_eq_none]
      intro p hp
      rw [List.any_eq_true] at h
      intro z
      exact h ⟨p, hp, z⟩
    rw [this]
    simp
theorem KvOk.put {F C : KVs} {m : Nat} (h : KvOk F C m) {s : List Nat} {v : Val} {i : Int} (hs : nmB s = true) (hv : textB v = true) : KvOk (setK F (ky s) v) (setK C (ky s) (.int i)) (m + 1) := by
  refine ⟨fun p hp => ?_, fun p hp => ?_, ?_, ?_⟩
  · rcases setK_mem hp with z | ⟨z1, z2⟩
    · exact h.f p z
    · exact ⟨s, z1, hs, by rw [z2]; exact hv⟩
  · rcases setK_mem hp with z | ⟨z1, z2⟩
    · exact h.c p z
    · exact ⟨i, z2⟩
  · have := setK_len F (ky s) v; have := h.l; omega
  · have := setK_len C (ky s) (.int i); have := h.k; omega
theorem KvOk.del {F C : KVs} {m : Nat} (h : KvOk F C m) (k : Key) : KvOk (delK F k) C (m + 1) := by
  refine ⟨fun p hp => h.f p (List.mem_filter.mp hp).1, h.c, ?_, ?_⟩
  · have : (delK F k).length ≤ F.length := List.length_filter_le _ _
    have := h.l
    omega
  · have := h.k; omega
theorem KvOk.up {F C : KVs} {m : Nat} (h : KvOk F C m) : KvOk F C (m + 1) := ⟨h.f, h.c, by have := h.l; omega, by have := h.k; omega⟩
/-- what a call does to a shelf's dicts, and what it hands back or raises -/
inductive Out where
  | ok (v : Val)
  | no (c : String)
def putO (nm tx : Val) (F C : KVs) : Out × KVs × KVs := match nm with
  | .str s => if nmB s = true then (if textB tx = true then (.ok (.int (cntI C (ky s) + 1)), setK F (ky s) tx, setK C (ky s) (.int (cntI C (ky s) + 1))) else (.no "NoText", F, C)) else (.no "NoName", F, C)
  | _ => (.no "NoName", F, C)
theorem put_spec {B : Nat → Prop} {c n m s a b j : Nat} {st : Sto} {nm tx : Val} {F C : KVs} (h : ShAt st s a b j F C) (hab : a ≠ b) (hsa : s ≠ a) (hsb : s ≠ b) (g1 : Gd B 1000 st 1 nm) (g2 : Gd B c st n tx) (hc : c ≤ 1000000) (hn : n ≤ 7) (K : KvOk F C m) (hm : m ≤ 1000) :
    wF F_Shelf_put [.ref s, nm, tx] st (fun v st' => ∃ t F' C' st1, putO nm tx F C = (.ok v, F', C') ∧ nm = .str t ∧ nmB t = true ∧ textB tx = true ∧ Ap st st1 ∧ st' = (st1.set b (.dic C')).set a (.dic F'))
      (fun e st' => ∃ z, e = Str.ofString z ∧ putO nm tx F C = (.no z, F, C) ∧ (z = "NoName" ∨ z = "NoText") ∧ Ap st st') := by
  unfold F_Shelf_put MF_Shelf_put
  simp
  refine (is_name_spec g1 (by decide)).go ?_
  rintro v st1 ⟨rfl, a1⟩
  simp
  cases hb : nameB nm with
  | false =>
    simp
    have e : putO nm tx F C = (.no "NoName", F, C) := by
      cases nm with
      | str t =>
        have : nmB t = false := hb
        simp [putO, this]
      | _ => rfl
    exact ⟨_, rfl, e, .inl rfl, a1⟩
  | true =>
    obtain ⟨t, rfl⟩ : ∃ t, nm = .str t := by
      cases nm with
      | str t => exact ⟨t, rfl⟩
      | _ => cases hb
    have ht : nmB t = true := hb
    simp
    refine (is_text_spec (g2.keepA a1) hc).go ?_
    rintro v st2 ⟨rfl, a2⟩
    simp
    have A := a1.trans a2
    cases hx : textB tx with
    | false =>
      simp
      exact ⟨_, rfl, by simp [putO, ht, hx], .inr rfl, A⟩
    | true =>
      have H := h.ap A
      have gb : gFld ["Shelf"] "counts" (.ref s) st2 = some (.ref b, st2) := gFld_ref H.hs (by decide) rfl
      have gk : fDGet (.ref b) [.str t, .int 0] st2 = some ((getK C (ky t)).getD (.int 0), st2) := fDGet_two H.hc keyOf_str
      rw [K.cnt] at gk
      have kl := K.k
      have fl := K.l
      have s1 : fSetI (.ref b) (.str t) (.int (cntI C (ky t) + 1)) st2 = some (st2.set b (.dic (setK C (ky t) (.int (cntI C (ky t) + 1))))) := fSetI_dic H.hc keyOf_str (by simp; omega)
      have hs3 : (st2.set b (.dic (setK C (ky t) (.int (cntI C (ky t) + 1)))))[s]? = st2[s]? := List.getElem?_set_ne (fun z => hsb z.symm)
      have ha3 : (st2.set b (.dic (setK C (ky t) (.int (cntI C (ky t) + 1)))))[a]? = st2[a]? := List.getElem?_set_ne (fun z => hab z.symm)
      have hb3 : (st2.set b (.dic (setK C (ky t) (.int (cntI C (ky t) + 1)))))[b]? = some (.dic (setK C (ky t) (.int (cntI C (ky t) + 1)))) := List.getElem?_set_self (List.getElem?_eq_some_iff.mp H.hc).1
      have kb : FL.kindOf "dict" st2 (.ref b) = true := kind_dic H.hc
      simp [gb, gk, kb, s1]
      generalize he : st2.set b (.dic (setK C (ky t) (.int (cntI C (ky t) + 1)))) = st3 at *
      have ga : gFld ["Shelf"] "files" (.ref s) st3 = some (.ref a, st3) := gFld_ref (hs3.trans H.hs) (by decide) rfl
      have s2 : fSetI (.ref a) (.str t) tx st3 = some (st3.set a (.dic (setK F (ky t) tx))) := fSetI_dic (ha3.trans H.hf) keyOf_str (by simp; omega)
      have hs4 : (st3.set a (.dic (setK F (ky t) tx)))[s]? = st3[s]? := List.getElem?_set_ne (fun z => hsa z.symm)
      have hb4 : (st3.set a (.dic (setK F (ky t) tx)))[b]? = st3[b]? := List.getElem?_set_ne hab
      simp [ga, s2]
      have gc : gFld ["Shelf"] "counts" (.ref s) (st3.set a (.dic (setK F (ky t) tx))) = some (.ref b, st3.set a (.dic (setK F (ky t) tx))) := gFld_ref (hs4.trans (hs3.trans H.hs)) (by decide) rfl
      have ix : fIx (.ref b) (.str t) (st3.set a (.dic (setK F (ky t) tx))) = some (.int (cntI C (ky t) + 1), st3.set a (.dic (setK F (ky t) tx))) := by
        rw [fIx_dic (hb4.trans hb3) keyOf_str, getK_set]
        rfl
      simp [gc, ix]
      exact ⟨t, setK F (ky t) tx, setK C (ky t) (.int (cntI C (ky t) + 1)), by simp [putO, ht, hx], rfl, ht, st2, A, by rw [he]⟩

end
section
def stIn (F : KVs) : Val → Bool
  | .str s => (getK F (ky s)).isSome
  | _ => false
theorem has_spec {B : Nat → Prop} {m s a b j : Nat} {st : Sto} {nm : Val} {F C : KVs} (h : ShAt st s a b j F C) (g1 : Gd B 1000 st 1 nm) :
    wF F_Shelf_has [.ref s, nm] st (fun v st' => v = .bl (stIn F nm) ∧ st' = st) G0 := by
  have ga : gFld ["Shelf"] "files" (.ref s) st = some (.ref a, st) := gFld_ref h.hs (by decide) rfl
  unfold F_Shelf_has MF_Shelf_has
  simp [isi_str g1]
  cases nm with
  | str t =>
    have e := fIn_dic (y := .str t) h.hf keyOf_str
    simp [isStr, ga, e, stIn]
  | _ => simp [isStr, stIn]
def getO (nm : Val) (F C : KVs) : Out × KVs × KVs := match nm with
  | .str s => (match getK F (ky s), getK C (ky s) with
    | some v, some w => (.ok (.tup [v, w]), F, C)
    | _, _ => (.no "NoFile", F, C))
  | _ => (.no "NoFile", F, C)
/-- each file has its number -/
def Both (F C : KVs) : Prop := ∀ k, (getK F k).isSome = true → (getK C k).isSome = true
theorem get_spec {B : Nat → Prop} {m s a b j : Nat} {st : Sto} {nm : Val} {F C : KVs} (h : ShAt st s a b j F C) (g1 : Gd B 1000 st 1 nm) (Bt : Both F C) :
    wF F_Shelf_get [.ref s, nm] st (fun v st' => getO nm F C = (.ok v, F, C) ∧ st' = st) (fun e st' => e = Str.ofString "NoFile" ∧ getO nm F C = (.no "NoFile", F, C) ∧ st' = st) := by
  unfold F_Shelf_get MF_Shelf_get
  simp
  refine ⟨_, h.hs, rfl, ?_⟩
  refine (has_spec (m := m) h g1).go ?_
  rintro v st1 ⟨rfl, rfl⟩
  simp
  cases hb : stIn F nm with
  | false =>
    simp
    cases nm with
    | str t =>
      have e : (getK F (ky t)).isSome = false := hb
      have e : getK F (ky t) = none := by simpa using e
      simp [getO, e]
    | _ => rfl
  | true =>
    cases nm with
    | str t =>
      have e : (getK F (ky t)).isSome = true := hb
      obtain ⟨v, hv⟩ := Option.isSome_iff_exists.mp e
      obtain ⟨w, hw⟩ := Option.isSome_iff_exists.mp (Bt _ e)
      have ga : gFld ["Shelf"] "files" (.ref s) st1 = some (.ref a, st1) := gFld_ref h.hs (by decide) rfl
      have gb : gFld ["Shelf"] "counts" (.ref s) st1 = some (.ref b, st1) := gFld_ref h.hs (by decide) rfl
      have x1 : fIx (.ref a) (.str t) st1 = some (v, st1) := by rw [fIx_dic h.hf keyOf_str, hv]; rfl
      have x2 : fIx (.ref b) (.str t) st1 = some (w, st1) := by rw [fIx_dic h.hc keyOf_str, hw]; rfl
      simp [ga, gb, x1, x2, getO, hv, hw]
    | _ => cases hb
def dropO (nm : Val) (F C : KVs) : Out × KVs × KVs := match nm with
  | .str s => if (getK F (ky s)).isSome = true then (.ok .non, delK F (ky s), C) else (.no "NoFile", F, C)
  | _ => (.no "NoFile", F, C)
theorem fDPop_one {st : Sto} {p : Nat} {kvs : KVs} {s : List Nat} {v : Val} (h : st[p]? = some (.dic kvs)) (hv : getK kvs (ky s) = some v) : fDPop (.ref p) [.str s] st = some (v, st.set p (.dic (delK kvs (ky s)))) := by
  show (match st[p]? with
    | some (.dic kvs) => (keyOf (.str s)).bind fun k => (getK kvs k).map fun z => (z, st.set p (.dic (delK kvs k)))
    | _ => none) = _
  rw [h]
  show (getK kvs (ky s)).map (fun z => (z, st.set p (.dic (delK kvs (ky s))))) = _
  rw [hv]
  rfl
theorem drop_spec {B : Nat → Prop} {m s a b j : Nat} {st : Sto} {nm : Val} {F C : KVs} (h : ShAt st s a b j F C) (g1 : Gd B 1000 st 1 nm) :
    wF F_Shelf_drop [.ref s, nm] st (fun v st' => ∃ t, v = .non ∧ nm = .str t ∧ dropO nm F C = (.ok .non, delK F (ky t), C) ∧ st' = st.set a (.dic (delK F (ky t)))) (fun e st' => e = Str.ofString "NoFile" ∧ dropO nm F C = (.no "NoFile", F, C) ∧ st' = st) := by
  unfold F_Shelf_drop MF_Shelf_drop
  simp
  refine ⟨_, h.hs, rfl, ?_⟩
  refine (has_spec (m := m) h g1).go ?_
  rintro v st1 ⟨rfl, rfl⟩
  simp
  cases hb : stIn F nm with
  | false =>
    simp
    cases nm with
    | str t =>
      have e : (getK F (ky t)).isSome = false := hb
      simp [dropO, e]
    | _ => rfl
  | true =>
    cases nm with
    | str t =>
      have e : (getK F (ky t)).isSome = true := hb
      obtain ⟨v, hv⟩ := Option.isSome_iff_exists.mp e
      have ga : gFld ["Shelf"] "files" (.ref s) st1 = some (.ref a, st1) := gFld_ref h.hs (by decide) rfl
      have pp := fDPop_one h.hf hv
      simp [ga, pp, kind_dic h.hf, dropO, e]
    | _ => cases hb

end
section
/-- the names told: sorted -/
def nmsOf (F : KVs) : List Str := srtK (F.map fun p => match p.1 with | .inr x => x | _ => Str.empty)
theorem keys_of {F C : KVs} {m : Nat} (K : KvOk F C m) : keysO F = some (F.map fun p => match p.1 with | .inr x => x | _ => Str.empty) := by
  have h : ∀ p ∈ F, ∃ s, p.1 = ky s := fun p hp => let ⟨s, e, _⟩ := K.f p hp; ⟨s, e⟩
  clear K
  induction F with
  | nil => rfl
  | cons p r ih =>
    unfold keysO mapO
    obtain ⟨s, hs⟩ := h p List.mem_cons_self
    have := ih fun q hq => h q (List.mem_cons_of_mem _ hq)
    unfold keysO at this
    rw [this, List.map_cons, hs]
theorem fSortD_ref {F C : KVs} {m p : Nat} {st : Sto} (h : st[p]? = some (.dic F)) (K : KvOk F C m) (hm : m < 64) : fSortD [.ref p] st = some (.ref st.length, st ++ [.lst ((nmsOf F).map fun z => Val.str z.cps.toList)]) := by
  show (match st[p]? with
    | some (.dic kvs) => (keysO kvs).bind fun ks => if ks.length < 64 then some (Val.ref st.length, st ++ [Ob.lst ((srtK ks).map fun (z : Str) => Val.str z.cps.toList)]) else none
    | _ => none) = _
  rw [h]
  show ((keysO F).bind fun ks => if ks.length < 64 then some (Val.ref st.length, st ++ [Ob.lst ((srtK ks).map fun (z : Str) => Val.str z.cps.toList)]) else none) = _
  rw [keys_of K]
  show (if _ then _ else none) = _
  rw [if_pos (by rw [List.length_map]; have := K.l; omega)]
  rfl
def rowsN (F : KVs) : List (List Nat) := (nmsOf F).map fun z => z.cps.toList
theorem rowsN_map (F : KVs) : ((nmsOf F).map fun z => Val.str z.cps.toList) = (rowsN F).map Val.str := by
  unfold rowsN
  rw [List.map_map]
  rfl
theorem rowsN_lt {F C : KVs} {m : Nat} (K : KvOk F C m) : ∀ s ∈ rowsN F, ∀ x ∈ s, x < 128 := by
  intro s hs
  obtain ⟨z, hz, rfl⟩ := List.mem_map.mp hs
  have h1 := (srtK_perm _).mem_iff.mp hz
  obtain ⟨p, hp, rfl⟩ := List.mem_map.mp h1
  obtain ⟨t, e, h2, _⟩ := K.f p hp
  rw [e]
  show ∀ x ∈ (St' t).cps.toList, x < 128
  have : (St' t).cps.toList = t := by show t.toArray.toList = t; simp
  rw [this]
  exact (nmB_lt h2).2
theorem names_spec {s a b j m : Nat} {st : Sto} {F C : KVs} (h : ShAt st s a b j F C) (K : KvOk F C m) (hm : m < 64) : wF F_Shelf_names [.ref s] st (fun v st' => v = .ref st.length ∧ st' = st ++ [.lst ((rowsN F).map Val.str)]) G0 := by
  have ga : gFld ["Shelf"] "files" (.ref s) st = some (.ref a, st) := gFld_ref h.hs (by decide) rfl
  unfold F_Shelf_names MF_Shelf_names
  simp [ga, fSortD_ref h.hf K hm, rowsN_map]
theorem fSortD_nil {st : Sto} {p : Nat} (h : st[p]? = some (.dic [])) : fSortD [.ref p] st = some (.ref st.length, st ++ [.lst []]) := by
  show (match st[p]? with
    | some (.dic kvs) => (keysO kvs).bind fun ks => if ks.length < 64 then some (Val.ref st.length, st ++ [Ob.lst ((srtK ks).map fun (z : Str) => Val.str z.cps.toList)]) else none
    | _ => none) = _
  rw [h]
  have e : srtK [] = [] := List.length_eq_zero_iff.mp (srtK_perm []).length_eq
  show (if ([] : List Str).length < 64 then some (Val.ref st.length, st ++ [Ob.lst ((srtK []).map fun (z : Str) => Val.str z.cps.toList)]) else none) = _
  rw [if_pos (by decide), e]
  rfl
theorem journals_spec {s a b j : Nat} {st : Sto} {F C : KVs} (h : ShAt st s a b j F C) : wF F_Shelf_journals [.ref s] st (fun v st' => v = .ref st.length ∧ st' = st ++ [.lst []]) G0 := by
  have ga : gFld ["Shelf"] "stories" (.ref s) st = some (.ref j, st) := gFld_ref h.hs (by decide) rfl
  unfold F_Shelf_journals MF_Shelf_journals
  simp [ga, fSortD_nil h.hj]
theorem journal_spec {B : Nat → Prop} {s a b j : Nat} {st : Sto} {nm : Val} {F C : KVs} (h : ShAt st s a b j F C) (g1 : Gd B 1000 st 1 nm) : wF F_Shelf_journal [.ref s, nm] st (fun v st' => v = .non ∧ st' = st) G0 := by
  have ga : gFld ["Shelf"] "stories" (.ref s) st = some (.ref j, st) := gFld_ref h.hs (by decide) rfl
  unfold F_Shelf_journal MF_Shelf_journal
  simp [isi_str g1]
  cases nm with
  | str t =>
    have e := fNotIn_dic (y := .str t) h.hj keyOf_str
    simp [isStr, ga, e, getK]
  | _ => simp [isStr]
def WORD : String → List Nat
  | "NoName" => [110, 97, 109, 101]
  | "NoText" => [116, 101, 120, 116]
  | "NoFile" => [102, 105, 108, 101]
  | _ => []
/-- what a turn does: 0 puts, 1 gets, 2 drops -/
def stepO (way : Int) (nm tx : Val) (F C : KVs) : Out × KVs × KVs := if way = 0 then putO nm tx F C else if way = 1 then getO nm F C else dropO nm F C
def outV : Out → Val
  | .ok v => v
  | .no c => .str (WORD c)
def DoneP (a b : Nat) (o : Out × KVs × KVs) (st : Sto) (v : Val) (st' : Sto) : Prop := v = outV o.1 ∧ ∃ st1 l, Ap st st1 ∧ st' = (st1.set b (.dic o.2.2)).set a (.dic o.2.1) ++ l
theorem set_same {st : Sto} {i : Nat} {o : Ob} (h : st[i]? = some o) : st.set i o = st := by
  refine List.ext_getElem? fun j => ?_
  by_cases e : i = j
  · subst e
    rw [List.getElem?_set_self (List.getElem?_eq_some_iff.mp h).1, h]
  · rw [List.getElem?_set_ne e]
theorem stay {st1 : Sto} {s a b j : Nat} {F C : KVs} (h : ShAt st1 s a b j F C) : st1 = (st1.set b (.dic C)).set a (.dic F) := by
  rw [set_same h.hc, set_same h.hf]
theorem done_spec {B : Nat → Prop} {c n m s a b j : Nat} {way : Int} {st : Sto} {nm tx : Val} {F C : KVs} (h : ShAt st s a b j F C) (hab : a ≠ b) (hsa : s ≠ a) (hsb : s ≠ b) (g1 : Gd B 1000 st 1 nm) (g2 : Gd B c st n tx) (hc : c ≤ 1000000) (hn : n ≤ 7) (K : KvOk F C m) (hm : m ≤ 1000) (Bt : Both F C) :
    wF L_done [.ref s, .int way, nm, tx] st (DoneP a b (stepO way nm tx F C) st) G0 := by
  have fin : ∀ (z : String) (st1 : Sto), (z = "NoName" ∨ z = "NoText" ∨ z = "NoFile") → Ap st st1 → stepO way nm tx F C = (.no z, F, C) →
      tryP tab_RoomError (fun c sl' st' => wS (fRet (fCallF L_refusal (fCons (fVar 4) fNil))) (sl'.set 4 (some (.exc c))) st' (goneP 4 (finP (DoneP a b (stepO way nm tx F C) st) G0))) (finP (DoneP a b (stepO way nm tx F C) st) G0) (.ex (Str.ofString z) [some (.ref s), some (.int way), some nm, some tx, none] st1) := by
    intro z st1 hz A e
    have H := h.ap A
    rcases hz with rfl | rfl | rfl
    · rw [tryP_yes (by decide)]
      simp
      refine refusal_NoName.mono ?_
      rintro v st2 ⟨rfl, a2⟩
      obtain ⟨l, rfl⟩ := a2
      rw [e]
      refine ⟨rfl, st1, l, A, ?_⟩
      exact congrArg (· ++ l) (stay H)
    · rw [tryP_yes (by decide)]
      simp
      refine refusal_NoText.mono ?_
      rintro v st2 ⟨rfl, a2⟩
      obtain ⟨l, rfl⟩ := a2
      rw [e]
      refine ⟨rfl, st1, l, A, ?_⟩
      exact congrArg (· ++ l) (stay H)
    · rw [tryP_yes (by decide)]
      simp
      refine refusal_NoFile.mono ?_
      rintro v st2 ⟨rfl, a2⟩
      obtain ⟨l, rfl⟩ := a2
      rw [e]
      refine ⟨rfl, st1, l, A, ?_⟩
      exact congrArg (· ++ l) (stay H)
  unfold L_done ML_done
  simp
  refine wS_tryAs ?_
  simp
  by_cases w0 : way = 0
  · simp [w0]
    refine ⟨_, h.hs, rfl, ?_⟩
    refine (put_spec (m := m) h hab hsa hsb g1 g2 hc hn K hm).monoE ?_ ?_
    · rintro v st1 ⟨t, F', C', st2, e1, rfl, e2, e3, a2, rfl⟩
      have e : stepO way (.str t) tx F C = (.ok v, F', C') := by rw [stepO, if_pos w0, e1]
      subst w0
      rw [e]
      exact ⟨rfl, st2, [], a2, by simp⟩
    · rintro e st1 ⟨z, rfl, e1, e2, a2⟩
      subst w0
      have y := fin z st1 (by rcases e2 with rfl | rfl <;> simp) a2 (by rw [stepO, if_pos rfl, e1])
      simpa using y
  · simp [w0]
    by_cases w1 : way = 1
    · simp [w1]
      refine ⟨_, h.hs, rfl, ?_⟩
      refine (get_spec (m := m) h g1 Bt).monoE ?_ ?_
      · rintro v st1 ⟨e1, rfl⟩
        subst w1
        have e : stepO 1 nm tx F C = (.ok v, F, C) := by rw [stepO, if_neg (by decide), if_pos rfl, e1]
        rw [e]
        exact ⟨rfl, st1, [], Ap.refl _, by simpa using stay h⟩
      · rintro e st1 ⟨rfl, e1, rfl⟩
        subst w1
        have z := fin "NoFile" st1 (by simp) (Ap.refl _) (by rw [stepO, if_neg (by decide), if_pos rfl, e1])
        simpa using z
    · simp [w1]
      refine ⟨_, h.hs, rfl, ?_⟩
      refine (drop_spec (m := m) h g1).monoE ?_ ?_
      · rintro v st1 ⟨t, rfl, rfl, e1, rfl⟩
        have e : stepO way (.str t) tx F C = (.ok .non, delK F (ky t), C) := by rw [stepO, if_neg w0, if_neg w1, e1]
        rw [e]
        exact ⟨rfl, st, [], Ap.refl _, by simp [set_same h.hc]⟩
      · rintro e st1 ⟨rfl, e1, rfl⟩
        have z := fin "NoFile" st1 (by simp) (Ap.refl _) (by rw [stepO, if_neg w0, if_neg w1, e1])
        simpa using z

end
section
def up2 (F : Nat → KVs) (o : Nat) (X : KVs) : Nat → KVs := fun i => if i = o then X else F i
theorem up2_same {F : Nat → KVs} {o : Nat} {X : KVs} : up2 F o X o = X := if_pos rfl
structure Iv (n : Nat) (F C LF LC : Nat → KVs) (st : Sto) : Prop where
  s : ∀ o < 2, ShAt st (n + 4 * o) (n + 4 * o + 1) (n + 4 * o + 2) (n + 4 * o + 3) (F o) (C o)
  l1 : st[n + 8]? = some (.lst [.ref n, .ref (n + 4)])
  lf : ∀ o < 2, st[n + 9 + o]? = some (.dic (LF o))
  l2 : st[n + 11]? = some (.lst [.ref (n + 9), .ref (n + 10)])
  lc : ∀ o < 2, st[n + 12 + o]? = some (.dic (LC o))
  l3 : st[n + 14]? = some (.lst [.ref (n + 12), .ref (n + 13)])
theorem Iv.kp {n : Nat} {F C LF LC : Nat → KVs} {st st' : Sto} (h : Iv n F C LF LC st) (k : ∀ i o, n ≤ i → i < n + 15 → st[i]? = some o → st'[i]? = some o) : Iv n F C LF LC st' :=
  ⟨fun o ho => ⟨k _ _ (by omega) (by omega) (h.s o ho).hs, k _ _ (by omega) (by omega) (h.s o ho).hf, k _ _ (by omega) (by omega) (h.s o ho).hc, k _ _ (by omega) (by omega) (h.s o ho).hj⟩,
    k _ _ (by omega) (by omega) h.l1, fun o ho => k _ _ (by omega) (by omega) (h.lf o ho), k _ _ (by omega) (by omega) h.l2, fun o ho => k _ _ (by omega) (by omega) (h.lc o ho), k _ _ (by omega) (by omega) h.l3⟩
theorem Iv.dr {n w : Nat} {F C LF LC : Nat → KVs} {st st' : Sto} (h : Iv n F C LF LC st) (hw : w < n) (d : Dr w st st') : Iv n F C LF LC st' := h.kp fun i o h1 _ e => d.get (by omega) e
theorem Iv.ap {n : Nat} {F C LF LC : Nat → KVs} {st st' : Sto} (h : Iv n F C LF LC st) (d : Ap st st') : Iv n F C LF LC st' := h.kp fun i o _ _ e => d.get e
theorem Iv.len {n : Nat} {F C LF LC : Nat → KVs} {st : Sto} (h : Iv n F C LF LC st) : n + 15 ≤ st.length := by
  have := (List.getElem?_eq_some_iff.mp h.l3).1
  omega
theorem put_at {st : Sto} {i j : Nat} {o q : Ob} (e : st[j]? = some q) (h : i ≠ j) : (st.set i o)[j]? = some q := by rw [List.getElem?_set_ne h]; exact e
theorem put_is {st : Sto} {i : Nat} {o : Ob} (h : i < st.length) : (st.set i o)[i]? = some o := List.getElem?_set_self h
/-- the law's own dicts changed -/
theorem Iv.law {n o : Nat} {F C LF LC : Nat → KVs} {st : Sto} {X Y : KVs} (h : Iv n F C LF LC st) (ho : o < 2) : Iv n F C (up2 LF o X) (up2 LC o Y) ((st.set (n + 12 + o) (.dic Y)).set (n + 9 + o) (.dic X)) := by
  have hl := h.len
  refine ⟨fun q hq => ⟨put_at (put_at (h.s q hq).hs (by omega)) (by omega), put_at (put_at (h.s q hq).hf (by omega)) (by omega), put_at (put_at (h.s q hq).hc (by omega)) (by omega), put_at (put_at (h.s q hq).hj (by omega)) (by omega)⟩,
    put_at (put_at h.l1 (by omega)) (by omega), fun q hq => ?_, put_at (put_at h.l2 (by omega)) (by omega), fun q hq => ?_, put_at (put_at h.l3 (by omega)) (by omega)⟩
  · by_cases e : q = o
    · subst e
      rw [up2_same]
      exact put_is (by rw [List.length_set]; omega)
    · rw [up2, if_neg e]
      exact put_at (put_at (h.lf q hq) (by omega)) (by omega)
  · by_cases e : q = o
    · subst e
      rw [up2_same]
      exact put_at (put_is (by omega)) (by omega)
    · rw [up2, if_neg e]
      exact put_at (put_at (h.lc q hq) (by omega)) (by omega)
/-- a shelf's dicts changed -/
theorem Iv.sh {n o : Nat} {F C LF LC : Nat → KVs} {st : Sto} {X Y : KVs} (h : Iv n F C LF LC st) (ho : o < 2) : Iv n (up2 F o X) (up2 C o Y) LF LC ((st.set (n + 4 * o + 2) (.dic Y)).set (n + 4 * o + 1) (.dic X)) := by
  have hl := h.len
  refine ⟨fun q hq => ?_, put_at (put_at h.l1 (by omega)) (by omega), fun q hq => put_at (put_at (h.lf q hq) (by omega)) (by omega), put_at (put_at h.l2 (by omega)) (by omega), fun q hq => put_at (put_at (h.lc q hq) (by omega)) (by omega), put_at (put_at h.l3 (by omega)) (by omega)⟩
  by_cases e : q = o
  · subst e
    rw [up2_same, up2_same]
    exact ⟨put_at (put_at (h.s q hq).hs (by omega)) (by omega), put_is (by rw [List.length_set]; omega), put_at (put_is (by omega)) (by omega), put_at (put_at (h.s q hq).hj (by omega)) (by omega)⟩
  · rw [up2, up2, if_neg e, if_neg e]
    exact ⟨put_at (put_at (h.s q hq).hs (by omega)) (by omega), put_at (put_at (h.s q hq).hf (by omega)) (by omega), put_at (put_at (h.s q hq).hc (by omega)) (by omega), put_at (put_at (h.s q hq).hj (by omega)) (by omega)⟩
theorem Iv.same {n o : Nat} {F C LF LC : Nat → KVs} {st : Sto} (h : Iv n F C LF LC st) : Iv n F C (up2 LF o (LF o)) (up2 LC o (LC o)) st := by
  have e : ∀ F : Nat → KVs, up2 F o (F o) = F := fun F => funext fun q => by
    unfold up2
    split
    · rename_i h; rw [h]
    · rfl
  rw [e, e]
  exact h
/-- all that holds between turns -/
structure Ok (n m : Nat) (F C : Nat → KVs) : Prop where
  k : ∀ o < 2, KvOk (F o) (C o) m
  b : ∀ o < 2, Both (F o) (C o)
theorem text_gd {B : Nat → Prop} {st : Sto} {v : Val} (h : textB v = true) : Gd B 1000 st 1 v := by
  cases v with
  | tup xs =>
    have h : (decide (1 ≤ xs.length ∧ xs.length ≤ 200) && xs.all rowB) = true := h
    rw [Bool.and_eq_true] at h
    refine ⟨by have := of_decide_eq_true h.1; omega, fun x hx => ?_⟩
    have h2 := List.all_eq_true.mp h.2 x hx
    cases x with
    | str s =>
      have h2 : (s.all signB && decide (s.length ≤ 120)) = true := h2
      rw [Bool.and_eq_true] at h2
      refine ⟨by have := of_decide_eq_true h2.2; omega, fun c hc => ?_⟩
      have h3 := List.all_eq_true.mp h2.1 c hc
      unfold signB at h3
      rw [Bool.and_eq_true, Bool.and_eq_true] at h3
      have := of_decide_eq_true h3.1.2
      omega
    | _ => cases h2
  | _ => cases h
theorem out_gd {B : Nat → Prop} {st : Sto} {way : Int} {nm tx : Val} {F C : KVs} {m : Nat} (K : KvOk F C m) : Gd B 1000 st 2 (outV (stepO way nm tx F C).1) := by
  have w : ∀ z, (z = "NoName" ∨ z = "NoText" ∨ z = "NoFile") → Gd B 1000 st 2 (.str (WORD z)) := fun z hz => by
    rcases hz with rfl | rfl | rfl <;> exact ⟨by decide, by decide⟩
  unfold stepO
  split
  · unfold putO
    split
    · split
      · split
        · trivial
        · exact w _ (by simp)
      · exact w _ (by simp)
    · exact w _ (by simp)
  · split
    · unfold getO
      split
      · split
        · rename_i s v u h1 h2
          obtain ⟨_, h3⟩ := K.good h1
          obtain ⟨j, hj⟩ := getK_mem h2
          obtain ⟨i, hi⟩ := K.c _ hj
          have hi : u = .int i := hi
          refine ⟨by simp, fun x hx => ?_⟩
          simp only [List.mem_cons, List.not_mem_nil, or_false] at hx
          rcases hx with rfl | rfl
          · exact text_gd h3
          · rw [hi]; trivial
        · exact w _ (by simp)
      · exact w _ (by simp)
    · unfold dropO
      split
      · split
        · trivial
        · exact w _ (by simp)
      · exact w _ (by simp)
theorem step_ok {way : Int} {nm tx : Val} {F C : KVs} {m : Nat} (K : KvOk F C m) (B : Both F C) : KvOk (stepO way nm tx F C).2.1 (stepO way nm tx F C).2.2 (m + 1) ∧ Both (stepO way nm tx F C).2.1 (stepO way nm tx F C).2.2 := by
  have st : KvOk F C (m + 1) ∧ Both F C := ⟨K.up, B⟩
  unfold stepO
  split
  · unfold putO
    split
    · split
      · split
        · rename_i s h1 h2
          refine ⟨K.put h1 h2, fun k hk => ?_⟩
          by_cases e : k = ky s
          · rw [e, getK_set]; rfl
          · have ne : ∀ (D : KVs) (v : Val), getK (setK D (ky s) v) k = getK D k := fun D v => by
              unfold setK getK
              split
              · congr 1
                rename_i z
                clear z
                induction D with
                | nil => rfl
                | cons p r ih =>
                  rw [List.map_cons, List.find?_cons, List.find?_cons, ih]
                  by_cases y : p.1 = ky s
                  · have y2 : ¬ p.1 = k := fun z => e (z.symm.trans y)
                    simp [y, y2, show ¬ ky s = k from fun z => e z.symm]
                  · simp [y]
              · rw [List.find?_append]
                cases List.find? (fun kv => decide (kv.1 = k)) D with
                | some p => rfl
                | none =>
                  have : ¬ ky s = k := fun z => e z.symm
                  simp [this]
            rw [ne] at hk ⊢
            exact B k hk
        · exact st
      · exact st
    · exact st
  · split
    · unfold getO
      split
      · split <;> exact st
      · exact st
    · unfold dropO
      split
      · split
        · refine ⟨K.del _, fun k hk => B k ?_⟩
          rename_i s _
          unfold getK delK at hk
          rw [List.find?_filter] at hk
          unfold getK
          cases e : List.find? (fun kv => decide (kv.1 = k)) F with
          | some p => rfl
          | none =>
            rw [List.find?_eq_none] at e
            have : List.find? (fun a : Key × Val => decide (decide (a.1 ≠ ky s) = true ∧ decide (a.1 = k) = true)) F = none := by
              rw [List.find?_eq_none]
              intro p hp z
              exact e p hp (of_decide_eq_true z).2
            rw [this] at hk
            cases hk
        · exact st
      · exact st

end
section
abbrev sl14 (ns : List Int) (w n : Nat) (a1 a3 a7 a8 a9 a10 a11 a12 a13 : Option Val) : Sl := [some (.scr ns), a1, some (.ref w), a3, some (.ref (n + 8)), some (.ref (n + 11)), some (.ref (n + 14)), a7, a8, a9, a10, a11, a12, a13]
def Bh (ns : List Int) (w n m : Nat) (sl : Sl) (st : Sto) : Prop := ∃ F C a1 a3 a7 a8 a9 a10 a11 a12 a13, sl = sl14 ns w n a1 a3 a7 a8 a9 a10 a11 a12 a13 ∧ Iv n F C F C st ∧ Ok n m F C ∧ WellAt w st
theorem at_two {x y : Val} {o : Nat} (ho : o < 2) : L2.atI [x, y] (o : Int) = some (if o = 0 then x else y) := by
  have : o = 0 ∨ o = 1 := by omega
  rcases this with rfl | rfl <;> rfl
theorem two1 {n o : Nat} (ho : o < 2) : (if o = 0 then Val.ref n else .ref (n + 4)) = .ref (n + 4 * o) := by
  have : o = 0 ∨ o = 1 := by omega
  rcases this with rfl | rfl <;> rfl
theorem two2 {n o : Nat} (ho : o < 2) : (if o = 0 then Val.ref n else .ref (n + 1)) = .ref (n + o) := by
  have : o = 0 ∨ o = 1 := by omega
  rcases this with rfl | rfl <;> rfl
theorem fNe_rows {st : Sto} {p q : Nat} {a : List (List Nat)} (h1 : st[p]? = some (Ob.lst (a.map Val.str))) (h2 : st[q]? = some (Ob.lst (a.map Val.str))) (ha : ∀ s ∈ a, ∀ x ∈ s, x < 128) : fNe (.ref p) (.ref q) st = some (.bl false, st) := by
  have := fNe_fEq (fEq_rows h1 h2 ha ha)
  rw [this, decide_eq_true rfl]
  rfl
theorem t3_spec {ns : List Int} {w n m o : Nat} {F C : Nat → KVs} {st : Sto} {nm : Val} {a1 a3 a8 a9 a10 a11 a13 : Option Val} (hw : w < n) (ho : o < 2) (h : Iv n F C F C st) (K : Ok n m F C) (hm : m < 64) (W : WellAt w st) (g1 : ∀ st : Sto, Gd (fun _ => False) 1000 st 1 nm) {Q : RS → Prop}
    (q : ∀ sl st', Bh ns w n m sl st' → Q (.nx sl st')) :
    wS T3F_law (sl14 ns w n a1 a3 (some nm) a8 a9 a10 a11 (some (.int o)) a13) st Q := by
  have hl := h.len
  have ix1 : ∀ st', Ap st st' → ∀ o < 2, fIx (.ref (n + 8)) (.int (o : Nat)) st' = some (.ref (n + 4 * o), st') := fun st' a o ho => by
    rw [fIx_ref (a.get h.l1), at_two ho, two1 ho]; rfl
  have ix2 : ∀ st', Ap st st' → ∀ o < 2, fIx (.ref (n + 11)) (.int (o : Nat)) st' = some (.ref (n + 9 + o), st') := fun st' a o ho => by
    rw [fIx_ref (a.get h.l2), at_two ho, two2 (n := n + 9) ho]; rfl
  have e1 : (1 : Int) - (o : Int) = ((1 - o : Nat) : Int) := by omega
  have ho' : 1 - o < 2 := by omega
  have R := rowsN_lt (K.k o ho)
  have R' := rowsN_lt (K.k (1 - o) ho')
  unfold T3F_law sl14
  simp [ix1 st (Ap.refl _) o ho]
  refine ⟨_, (h.s o ho).hs, rfl, ?_⟩
  refine (names_spec (h.s o ho) (K.k o ho) hm).go ?_
  rintro v st1 ⟨rfl, h1⟩
  have A1 : Ap st st1 := ⟨_, h1⟩
  have r1 : st1[st.length]? = some (.lst ((rowsN (F o)).map Val.str)) := by rw [h1]; simp
  have so := fSortD_ref (A1.get (h.lf o ho)) (K.k o ho) hm
  rw [rowsN_map] at so
  simp [ix2 _ A1 o ho, so]
  obtain ⟨st2, h2⟩ : ∃ st2, st2 = st1 ++ [Ob.lst ((rowsN (F o)).map Val.str)] := ⟨_, rfl⟩
  have A2 : Ap st1 st2 := ⟨_, h2⟩
  have r2 : st2[st1.length]? = some (.lst ((rowsN (F o)).map Val.str)) := by rw [h2]; simp
  rw [← h2]
  simp [fNe_rows (A2.get r1) r2 R, ix1 _ (A1.trans A2) o ho]
  refine ⟨_, (A1.trans A2).get (h.s o ho).hs, rfl, ?_⟩
  refine (journals_spec ((h.s o ho).ap (A1.trans A2))).go ?_
  rintro v st3 ⟨rfl, h3⟩
  have A3 : Ap st2 st3 := ⟨_, h3⟩
  have r3 : st3[st2.length]? = some (.lst []) := by rw [h3]; simp
  have ne := fNe_nil (B := fun _ => False) (c := 1000) (n := 1) (st := st3 ++ [Ob.lst []]) (p := st2.length) (q := st3.length) (xs := []) (Ap.get (Ap.one _ _) r3) (by simp) (by simp) (by decide)
  have A4 : Ap st3 (st3 ++ [Ob.lst []]) := Ap.one _ _
  have A := ((A1.trans A2).trans A3).trans A4
  simp [ne, ix1 _ A o ho]
  refine ⟨_, A.get (h.s o ho).hs, rfl, ?_⟩
  refine (journal_spec ((h.s o ho).ap A) (g1 _)).go ?_
  rintro v st4 ⟨rfl, h4⟩
  have A' : Ap st st4 := by rw [h4]; exact A
  have r4 : st4[st.length]? = some (.lst ((rowsN (F o)).map Val.str)) := by rw [h4]; exact ((A2.trans A3).trans A4).get r1
  clear h4 ne so
  have rl : (rowsN (F o)).length < 16777216 := by
    have := (K.k o ho).l
    unfold rowsN nmsOf
    rw [List.length_map, (srtK_perm _).length_eq, List.length_map]
    omega
  simp [kind_lst r4, onL_ref r4, rl]
  obtain ⟨st5, h5⟩ : ∃ st5, st5 = st4.set st.length (Ob.lst ((rowsN (F o)).map Val.str ++ [.str [111, 100, 100]])) := ⟨_, rfl⟩
  rw [← h5]
  have I5 : Iv n F C F C st5 := (h.ap A').kp fun i ob h1 h2 e => by rw [h5]; exact put_at e (by omega)
  have W5 : WellAt w st5 := by
    have hwl := W.lt
    rw [h5]
    exact (W.ap A').set _ (by omega)
  have jx1 : ∀ st', Ap st5 st' → ∀ o < 2, fIx (.ref (n + 8)) (.int (o : Nat)) st' = some (.ref (n + 4 * o), st') := fun st' a o ho => by
    rw [fIx_ref (a.get I5.l1), at_two ho, two1 ho]; rfl
  have jx2 : ∀ st', Ap st5 st' → ∀ o < 2, fIx (.ref (n + 11)) (.int (o : Nat)) st' = some (.ref (n + 9 + o), st') := fun st' a o ho => by
    rw [fIx_ref (a.get I5.l2), at_two ho, two2 (n := n + 9) ho]; rfl
  simp [jx1 _ (Ap.refl _) o ho]
  refine ⟨_, (I5.s o ho).hs, rfl, ?_⟩
  refine (names_spec (I5.s o ho) (K.k o ho) hm).go ?_
  rintro v st6 ⟨rfl, h6⟩
  have A6 : Ap st5 st6 := ⟨_, h6⟩
  have r6 : st6[st5.length]? = some (.lst ((rowsN (F o)).map Val.str)) := by rw [h6]; simp
  have so := fSortD_ref (A6.get (I5.lf o ho)) (K.k o ho) hm
  rw [rowsN_map] at so
  simp [jx2 _ A6 o ho, so]
  obtain ⟨st7, h7⟩ : ∃ st7, st7 = st6 ++ [Ob.lst ((rowsN (F o)).map Val.str)] := ⟨_, rfl⟩
  have A7 : Ap st6 st7 := ⟨_, h7⟩
  have r7 : st7[st6.length]? = some (.lst ((rowsN (F o)).map Val.str)) := by rw [h7]; simp
  rw [← h7]
  simp [fNe_rows (A7.get r6) r7 R, e1, jx1 _ (A6.trans A7) (1 - o) ho']
  refine ⟨_, (A6.trans A7).get (I5.s (1 - o) ho').hs, rfl, ?_⟩
  refine (names_spec ((I5.s (1 - o) ho').ap (A6.trans A7)) (K.k (1 - o) ho') hm).go ?_
  rintro v st8 ⟨rfl, h8⟩
  have A8 : Ap st7 st8 := ⟨_, h8⟩
  have r8 : st8[st7.length]? = some (.lst ((rowsN (F (1 - o))).map Val.str)) := by rw [h8]; simp
  have A58 := (A6.trans A7).trans A8
  have so := fSortD_ref (A58.get (I5.lf (1 - o) ho')) (K.k (1 - o) ho') hm
  rw [rowsN_map] at so
  simp [e1, jx2 _ A58 (1 - o) ho', so]
  obtain ⟨st9, h9⟩ : ∃ st9, st9 = st8 ++ [Ob.lst ((rowsN (F (1 - o))).map Val.str)] := ⟨_, rfl⟩
  have A9 : Ap st8 st9 := ⟨_, h9⟩
  have r9 : st9[st8.length]? = some (.lst ((rowsN (F (1 - o))).map Val.str)) := by rw [h9]; simp
  rw [← h9]
  simp [fNe_rows (A9.get r8) r9 R']
  exact q _ _ ⟨F, C, _, _, _, _, _, _, _, _, _, rfl, I5.ap (A58.trans A9), K, W5.ap (A58.trans A9)⟩

end
section
theorem step_str {way : Int} {nm tx : Val} {F C : KVs} {X Y : KVs} {O : Out} (h : stepO way nm tx F C = (O, X, Y)) : (stepO way nm tx F C).1 = O ∧ (stepO way nm tx F C).2.1 = X ∧ (stepO way nm tx F C).2.2 = Y := by rw [h]; exact ⟨rfl, rfl, rfl⟩
theorem t2_spec {ns : List Int} {w n m o c k : Nat} {way : Int} {F C : Nat → KVs} {X Y : KVs} {O : Out} {st : Sto} {nm tx : Val} {a1 a3 a9 a11 : Option Val} (hw : w < n) (ho : o < 2) (e : stepO way nm tx (F o) (C o) = (O, X, Y)) (h : Iv n F C (up2 F o X) (up2 C o Y) st) (K : Ok n m F C) (hm : m < 63) (W : WellAt w st) (g1 : ∀ (B : Nat → Prop) (st : Sto), Gd B 1000 st 1 nm) (g2 : Gd (fun i => i < n + 15) c st k tx) (hc : c ≤ 1000000) (hk : k ≤ 7) {Q : RS → Prop}
    (q : ∀ sl st', Bh ns w n (m + 1) sl st' → Q (.nx sl st')) :
    wS T2F_law (sl14 ns w n a1 a3 (some nm) (some tx) a9 (some (outV O)) a11 (some (.int o)) (some (.int way))) st Q := by
  have ix1 : fIx (.ref (n + 8)) (.int (o : Nat)) st = some (.ref (n + 4 * o), st) := by
    rw [fIx_ref h.l1, at_two ho, two1 ho]; rfl
  unfold T2F_law sl14
  simp [ix1]
  refine (done_spec (h.s o ho) (by omega) (by omega) (by omega) (g1 _ st) g2 hc hk (K.k o ho) (by omega) (K.b o ho)).go ?_
  rintro v st1 ⟨rfl, st2, l, A, rfl⟩
  obtain ⟨o1, o2⟩ := step_ok (way := way) (nm := nm) (tx := tx) (K.k o ho) (K.b o ho)
  have og := fun st => out_gd (B := fun _ => False) (st := st) (way := way) (nm := nm) (tx := tx) (K.k o ho)
  rw [e] at o1 o2 og
  rw [e]
  have I1 : Iv n (up2 F o X) (up2 C o Y) (up2 F o X) (up2 C o Y) ((st2.set (n + 4 * o + 2) (.dic Y)).set (n + 4 * o + 1) (.dic X) ++ l) := ((h.ap A).sh ho).ap ⟨l, rfl⟩
  have W1 : WellAt w ((st2.set (n + 4 * o + 2) (.dic Y)).set (n + 4 * o + 1) (.dic X) ++ l) := (((W.ap A).set _ (by omega)).set _ (by omega)).ap ⟨l, rfl⟩
  generalize (st2.set (n + 4 * o + 2) (.dic Y)).set (n + 4 * o + 1) (.dic X) ++ l = st3 at *
  have ne := fNe_same (st := st3) (og st3) (by decide)
  simp [ne]
  refine t3_spec hw ho I1 ⟨fun p hp => ?_, fun p hp => ?_⟩ (by omega) W1 (g1 _) q
  · by_cases z : p = o
    · subst z
      rw [up2_same, up2_same]
      exact o1
    · rw [up2, up2, if_neg z, if_neg z]
      exact (K.k p hp).up
  · by_cases z : p = o
    · subst z
      rw [up2_same, up2_same]
      exact o2
    · rw [up2, up2, if_neg z, if_neg z]
      exact K.b p hp
theorem t1_spec {ns : List Int} {w n m o c k : Nat} {way : Int} {F C : Nat → KVs} {st : Sto} {nm tx : Val} {a1 a3 a9 a10 a11 : Option Val} (hw : w < n) (ho : o < 2) (w0 : 0 ≤ way) (w3 : way < 3) (h : Iv n F C F C st) (K : Ok n m F C) (hm : m < 63) (W : WellAt w st) (hn : nm ∈ NMS) (g2 : Gd (fun i => i < n + 15) c st k tx) (hc : c ≤ 1000000) (hk : k ≤ 7) {Q : RS → Prop}
    (q : ∀ sl st', Bh ns w n (m + 1) sl st' → Q (.nx sl st')) :
    wS T1F_law (sl14 ns w n a1 a3 (some nm) (some tx) a9 a10 a11 (some (.int o)) (some (.int way))) st Q := by
  have g1 : ∀ (B : Nat → Prop) (st : Sto), Gd B 1000 st 1 nm := fun B st => nms_gd nm hn
  obtain ⟨st1, h1⟩ : ∃ st1, st1 = st ++ [Ob.lst GOOD] := ⟨_, rfl⟩
  have A1 : Ap st st1 := ⟨_, h1⟩
  have I1 := h.ap A1
  have W1 := W.ap A1
  have r1 : st1[st.length]? = some (.lst GOOD) := by rw [h1]; simp
  have gi := good_in r1 nm hn
  have ix2 : fIx (.ref (n + 11)) (.int (o : Nat)) st1 = some (.ref (n + 9 + o), st1) := by
    rw [fIx_ref I1.l2, at_two ho, two2 (n := n + 9) ho]; rfl
  have ix3 : ∀ st', st'[n + 14]? = some (.lst [.ref (n + 12), .ref (n + 13)]) → fIx (.ref (n + 14)) (.int (o : Nat)) st' = some (.ref (n + 12 + o), st') := fun st' e => by
    rw [fIx_ref e, at_two ho, two2 (n := n + 12) ho]; rfl
  have ix2' : ∀ st', st'[n + 11]? = some (.lst [.ref (n + 9), .ref (n + 10)]) → fIx (.ref (n + 11)) (.int (o : Nat)) st' = some (.ref (n + 9 + o), st') := fun st' e => by
    rw [fIx_ref e, at_two ho, two2 (n := n + 9) ho]; rfl
  have g2' := g2.keepA A1
  unfold T1F_law sl14
  simp
  have h1' : st ++ [Ob.lst [Val.str [97], .str [98], .str [97, 98, 99, 100, 101, 102, 103, 104, 105, 106, 107, 108]]] = st1 := h1.symm
  rw [h1']
  have fin : ∀ (O : Out) (X Y : KVs) (st2 : Sto) b9, stepO way nm tx (F o) (C o) = (O, X, Y) → Iv n F C (up2 F o X) (up2 C o Y) st2 → WellAt w st2 → Gd (fun i => i < n + 15) c st2 k tx →
      wS T2F_law [some (.scr ns), a1, some (.ref w), a3, some (.ref (n + 8)), some (.ref (n + 11)), some (.ref (n + 14)), some nm, some tx, b9, some (outV O), a11, some (.int o), some (.int way)] st2 Q := fun O X Y st2 b9 e I2 W2 G2 => t2_spec hw ho e I2 K hm W2 g1 G2 hc hk q
  have same : ∀ (O : Out) (st2 : Sto) b9, stepO way nm tx (F o) (C o) = (O, F o, C o) → Ap st1 st2 →
      wS T2F_law [some (.scr ns), a1, some (.ref w), a3, some (.ref (n + 8)), some (.ref (n + 11)), some (.ref (n + 14)), some nm, some tx, b9, some (outV O), a11, some (.int o), some (.int way)] st2 Q := fun O st2 b9 e A => fin O _ _ st2 b9 e (I1.ap A).same (W1.ap A) (g2'.keepA A)
  have kcl := (K.k o ho).k
  have kfl := (K.k o ho).l
  cases hb : nameB nm with
  | false =>
    rw [hb] at gi
    have e0 : putO nm tx (F o) (C o) = (.no "NoName", F o, C o) := by
      cases nm with
      | str t =>
        have : nmB t = false := hb
        simp [putO, this]
      | _ => rfl
    have e1 : getO nm (F o) (C o) = (.no "NoFile", F o, C o) := by
      cases nm with
      | str t =>
        have e : getK (F o) (ky t) = none := by
          cases z : getK (F o) (ky t) with
          | none => rfl
          | some v => exact absurd ((K.k o ho).good z).1 (by rw [show nmB t = false from hb]; decide)
        simp [getO, e]
      | _ => rfl
    have e2 : dropO nm (F o) (C o) = (.no "NoFile", F o, C o) := by
      cases nm with
      | str t =>
        have e : getK (F o) (ky t) = none := by
          cases z : getK (F o) (ky t) with
          | none => rfl
          | some v => exact absurd ((K.k o ho).good z).1 (by rw [show nmB t = false from hb]; decide)
        simp [dropO, e]
      | _ => rfl
    by_cases h0 : way = 0
    · simp [gi, h0]
      subst h0
      exact same (.no "NoName") st1 _ (by rw [stepO, if_pos rfl, e0]) (Ap.refl _)
    · simp [gi, h0]
      refine same (.no "NoFile") st1 _ ?_ (Ap.refl _)
      by_cases h1 : way = 1
      · rw [stepO, if_neg h0, if_pos h1, e1]
      · rw [stepO, if_neg h0, if_neg h1, e2]
  | true =>
    rw [hb] at gi
    obtain ⟨t, rfl⟩ : ∃ t, nm = .str t := by
      cases nm with
      | str t => exact ⟨t, rfl⟩
      | _ => cases hb
    have ht : nmB t = true := hb
    have ni := fNotIn_dic (y := .str t) (I1.lf o ho) keyOf_str
    simp [gi, ix2, ni]
    by_cases h0 : way = 0
    · subst h0
      simp
      refine (lis_text_spec g2' hc hk).go ?_
      rintro v st2 ⟨rfl, A2⟩
      have I2 := I1.ap A2
      simp
      cases hx : textB tx with
      | false =>
        simp
        exact same (.no "NoText") st2 _ (by rw [stepO, if_pos rfl]; simp [putO, ht, hx]) A2
      | true =>
        have gk : fDGet (.ref (n + 12 + o)) [.str t, .int 0] st2 = some ((getK (C o) (ky t)).getD (.int 0), st2) := fDGet_two (I2.lc o ho) keyOf_str
        rw [(K.k o ho).cnt] at gk
        have s1 : fSetI (.ref (n + 12 + o)) (.str t) (.int (cntI (C o) (ky t) + 1)) st2 = some (st2.set (n + 12 + o) (.dic (setK (C o) (ky t) (.int (cntI (C o) (ky t) + 1))))) := fSetI_dic (I2.lc o ho) keyOf_str (by simp; omega)
        simp [ix3 st2 I2.l3, gk, kind_dic (I2.lc o ho), s1]
        have I3 := I2.law (o := o) (X := setK (F o) (ky t) tx) (Y := setK (C o) (ky t) (.int (cntI (C o) (ky t) + 1))) ho
        have f3 : (st2.set (n + 12 + o) (.dic (setK (C o) (ky t) (.int (cntI (C o) (ky t) + 1)))))[n + 11]? = some (.lst [.ref (n + 9), .ref (n + 10)]) := put_at I2.l2 (by omega)
        have f4 : (st2.set (n + 12 + o) (.dic (setK (C o) (ky t) (.int (cntI (C o) (ky t) + 1)))))[n + 9 + o]? = some (.dic (F o)) := put_at (I2.lf o ho) (by omega)
        have W3 : WellAt w ((st2.set (n + 12 + o) (.dic (setK (C o) (ky t) (.int (cntI (C o) (ky t) + 1))))).set (n + 9 + o) (.dic (setK (F o) (ky t) tx))) := ((W1.ap A2).set _ (by omega)).set _ (by omega)
        have g3 : Gd (fun i => i < n + 15) c ((st2.set (n + 12 + o) (.dic (setK (C o) (ky t) (.int (cntI (C o) (ky t) + 1))))).set (n + 9 + o) (.dic (setK (F o) (ky t) tx))) k tx := (g2'.keepA A2).keepB fun i q hi e => put_at (put_at e (by omega)) (by omega)
        have s2 : fSetI (.ref (n + 9 + o)) (.str t) tx (st2.set (n + 12 + o) (.dic (setK (C o) (ky t) (.int (cntI (C o) (ky t) + 1))))) = some ((st2.set (n + 12 + o) (.dic (setK (C o) (ky t) (.int (cntI (C o) (ky t) + 1))))).set (n + 9 + o) (.dic (setK (F o) (ky t) tx))) := fSetI_dic f4 keyOf_str (by simp; omega)
        have f5 := I3.l3
        have f6 := I3.lc o ho
        rw [up2_same] at f6
        simp [ix2' _ f3, s2, ix3 _ f5]
        have x6 : fIx (.ref (n + 12 + o)) (.str t) ((st2.set (n + 12 + o) (.dic (setK (C o) (ky t) (.int (cntI (C o) (ky t) + 1))))).set (n + 9 + o) (.dic (setK (F o) (ky t) tx))) = some (.int (cntI (C o) (ky t) + 1), (st2.set (n + 12 + o) (.dic (setK (C o) (ky t) (.int (cntI (C o) (ky t) + 1))))).set (n + 9 + o) (.dic (setK (F o) (ky t) tx))) := by
          rw [fIx_dic f6 keyOf_str, getK_set]
          rfl
        simp [x6]
        exact fin (.ok (.int (cntI (C o) (ky t) + 1))) _ _ _ _ (by rw [stepO, if_pos rfl]; simp [putO, ht, hx]) I3 W3 g3
    · simp [h0]
      cases hg : getK (F o) (ky t) with
      | none =>
        simp
        refine same (.no "NoFile") st1 _ ?_ (Ap.refl _)
        by_cases h1 : way = 1
        · rw [stepO, if_neg h0, if_pos h1]; simp [getO, hg]
        · rw [stepO, if_neg h0, if_neg h1]; simp [dropO, hg]
      | some v =>
        obtain ⟨u, hu⟩ := Option.isSome_iff_exists.mp (K.b o ho (ky t) (by rw [hg]; rfl))
        by_cases h1 : way = 1
        · subst h1
          have x1 : fIx (.ref (n + 9 + o)) (.str t) st1 = some (v, st1) := by rw [fIx_dic (I1.lf o ho) keyOf_str, hg]; rfl
          have x2 : fIx (.ref (n + 12 + o)) (.str t) st1 = some (u, st1) := by rw [fIx_dic (I1.lc o ho) keyOf_str, hu]; rfl
          simp [ix2, x1, x2, ix3 _ I1.l3]
          exact same (.ok (.tup [v, u])) st1 _ (by rw [stepO, if_neg (by decide), if_pos rfl]; simp [getO, hg, hu]) (Ap.refl _)
        · have pp := fDPop_one (I1.lf o ho) hg
          simp [h1, ix2, kind_dic (I1.lf o ho), pp]
          have I3 := I1.law (o := o) (X := delK (F o) (ky t)) (Y := C o) ho
          rw [set_same (I1.lc o ho)] at I3
          have W3 : WellAt w (st1.set (n + 9 + o) (.dic (delK (F o) (ky t)))) := W1.set _ (by omega)
          have g3 : Gd (fun i => i < n + 15) c (st1.set (n + 9 + o) (.dic (delK (F o) (ky t)))) k tx := g2'.keepB fun i q hi e => put_at e (by omega)
          exact fin (.ok .non) _ _ _ _ (by rw [stepO, if_neg h0, if_neg h1]; simp [dropO, hg]) I3 W3 g3

end
section
theorem ctake {α : Type} {l : List α} {q : Int} (q0 : 0 ≤ q) (q1 : q < l.length) : ∃ x ∈ l, L2.atI l q = some x := by
  have h : q.toNat < l.length := by omega
  exact ⟨l[q.toNat], List.getElem_mem h, by rw [atI_at q0 q1]; exact List.getElem?_eq_getElem h⟩
theorem txt_gd {B : Nat → Prop} {st : Sto} {ss : List (List Nat)} (h1 : ss.length ≤ 1000) (h : ∀ s ∈ ss, Signs s ∧ s.length ≤ 40) : Gd B 1000 st 3 (.tup (ss.map Val.str)) := by
  refine ⟨by simpa using h1, fun v hv => ?_⟩
  obtain ⟨s, hs, rfl⟩ := List.mem_map.mp hv
  exact ⟨by have := (h s hs).2; omega, fun c hc => by have := (h s hs).1 c hc; omega⟩
theorem t0_spec {ns : List Int} {w n m o : Nat} {way : Int} {F C : Nat → KVs} {st : Sto} {a1 a3 a7 a8 a9 a10 a11 : Option Val} (hw : w < n) (ho : o < 2) (w0 : 0 ≤ way) (w3 : way < 3) (h : Iv n F C F C st) (K : Ok n m F C) (hm : m < 63) (W : WellAt w st) {Q : RS → Prop}
    (q : ∀ sl st', Bh ns w n (m + 1) sl st' → Q (.nx sl st')) :
    wS T0F_law (sl14 ns w n a1 a3 a7 a8 a9 a10 a11 (some (.int o)) (some (.int way))) st Q := by
  unfold T0F_law sl14
  simp
  refine (take_spec (many := 9) (W.ap (Ap.one _ _)) (by decide) (by decide)).go ?_
  rintro v st1 ⟨r, rfl, r0, r1, W1, hl1, d1⟩
  have hl := h.len
  have hA := d1.get (i := st.length) (o := .lst NMS) (by omega) (by simp [NMS])
  obtain ⟨nm, hnm, e⟩ := ctake (l := NMS) r0 r1
  have I1 : Iv n F C F C st1 := (h.ap (Ap.one _ _)).dr hw d1
  have ix : fIx (.ref st.length) (.int r) st1 = some (nm, st1) := by rw [fIx_ref hA, e]; rfl
  simp [ix]
  refine (text_spec (most := 3) W1 (by decide) (by decide)).go ?_
  rintro v st2 ⟨s1, rfl, s1a, s1b, s1c, W2, d2⟩
  simp
  refine (text_spec (most := 3) W2 (by decide) (by decide)).go ?_
  rintro v st3 ⟨s2, rfl, s2a, s2b, s2c, W3, d3⟩
  have I3 := (I1.dr hw d2).dr hw d3
  simp
  refine (thing_spec (B := fun i => i < n + 15) (by omega) 3 W3 (fun i hi => by have := I3.len; omega) 2 (by decide)).go ?_
  rintro v st4 ⟨g4, W4, d4⟩
  have I4 := I3.dr hw d4
  have hl4 := I4.len
  simp
  refine (take_spec (many := 4) (W4.ap (Ap.one _ _)) (by decide) (by decide)).go ?_
  rintro u st5 ⟨p, rfl, p0, p1, W5, hl5, d5⟩
  have hB := d5.get (i := st4.length) (o := .lst [.tup (s1.map Val.str), .tup (s2.map Val.str), v, .tup []]) (by omega) (by simp)
  have I5 : Iv n F C F C st5 := (I4.ap (Ap.one _ _)).dr hw d5
  have G : ∀ x ∈ [Val.tup (s1.map Val.str), .tup (s2.map Val.str), v, .tup []], Gd (fun i => i < n + 15) 1000 st5 3 x := by
    intro x hx
    simp only [List.mem_cons, List.not_mem_nil, or_false] at hx
    rcases hx with rfl | rfl | rfl | rfl
    · exact txt_gd (by omega) s1c
    · exact txt_gd (by omega) s2c
    · exact (g4.keepA (Ap.one _ _)).keep (by omega) d5
    · exact ⟨by decide, by simp⟩
  obtain ⟨tx, htx, e2⟩ := ctake (l := [Val.tup (s1.map Val.str), .tup (s2.map Val.str), v, .tup []]) p0 p1
  have ix2 : fIx (.ref st4.length) (.int p) st5 = some (tx, st5) := by rw [fIx_ref hB, e2]; rfl
  simp [ix2]
  exact t1_spec hw ho w0 w3 I5 K hm W5 hnm (G tx htx) (by decide) (by decide) q
abbrev shF (n : Nat) : Ob := .ins "Shelf" [("files", .ref (n + 1)), ("counts", .ref (n + 2)), ("stories", .ref (n + 3))]
theorem setT {st0 : Sto} {a b : Ob} {l : List Ob} : (st0 ++ a :: l).set st0.length b = st0 ++ b :: l := by
  rw [List.set_append_right _ _ (Nat.le_refl _), Nat.sub_self, List.set_cons_zero]
theorem getT {st0 : Sto} {a : Ob} {l : List Ob} : (st0 ++ a :: l)[st0.length]? = some a := by
  rw [List.getElem?_append_right (Nat.le_refl _), Nat.sub_self]
  rfl
theorem init_spec {st0 : Sto} : wF F_Shelf___init__ [.ref st0.length] (st0 ++ [.ins "Shelf" []]) (fun v st' => v = .non ∧ st' = st0 ++ [shF st0.length, .dic [], .dic [], .dic []]) G0 := by
  have e1 : setFld ["Shelf"] "files" (.ref st0.length) (.ref (st0.length + 1)) (st0 ++ [Ob.ins "Shelf" [], Ob.dic []]) = some (st0 ++ [Ob.ins "Shelf" [("files", .ref (st0.length + 1))], Ob.dic []]) := by
    rw [setFld_ref getT (by decide) (by simp), setT]; rfl
  have e2 : setFld ["Shelf"] "counts" (.ref st0.length) (.ref (st0.length + 2)) (st0 ++ [Ob.ins "Shelf" [("files", .ref (st0.length + 1))], Ob.dic [], Ob.dic []]) = some (st0 ++ [Ob.ins "Shelf" [("files", .ref (st0.length + 1)), ("counts", .ref (st0.length + 2))], Ob.dic [], Ob.dic []]) := by
    rw [setFld_ref getT (by decide) (by simp), setT]; rfl
  have e3 : setFld ["Shelf"] "stories" (.ref st0.length) (.ref (st0.length + 3)) (st0 ++ [Ob.ins "Shelf" [("files", .ref (st0.length + 1)), ("counts", .ref (st0.length + 2))], Ob.dic [], Ob.dic [], Ob.dic []]) = some (st0 ++ [shF st0.length, Ob.dic [], Ob.dic [], Ob.dic []]) := by
    rw [setFld_ref getT (by decide) (by simp), setT]; rfl
  unfold F_Shelf___init__ MF_Shelf___init__
  simp [e1, e2, e3]
theorem law_spec {st : Sto} {ns : List Int} (hn : ns.length ≤ 63) : wF F_law [.scr ns] st (fun v _ => v = .bl true) G0 := by
  unfold F_law MF_law
  simp
  refine wS_for ?_
  simp
  obtain ⟨N, hN⟩ : ∃ N : Int, N = (if (5 : Int) < (if (ns.length : Int) < 40 then (ns.length : Int) else 40) then (if (ns.length : Int) < 40 then (ns.length : Int) else 40) else 5) := ⟨_, rfl⟩
  have hN2 : 0 ≤ N ∧ N ≤ 40 := by rw [hN]; split <;> (try split) <;> omega
  rw [← hN]
  refine ⟨by unfold small62; omega, fun i sl _ => ∃ l, sl = some (.scr ns) :: l ∧ l.length = 13, ⟨_, rfl, rfl⟩, fun _ _ _ _ _ => live_none, ?_, ?_⟩
  · rintro i x sl st1 hx ⟨l, rfl, hl⟩
    obtain ⟨hi, rfl⟩ := rngL_get hx
    obtain ⟨a1, a2, a3, a4, a5, a6, a7, a8, a9, a10, a11, a12, a13, rfl⟩ : ∃ a1 a2 a3 a4 a5 a6 a7 a8 a9 a10 a11 a12 a13, l = [a1, a2, a3, a4, a5, a6, a7, a8, a9, a10, a11, a12, a13] := by
      match l, hl with
      | [a1, a2, a3, a4, a5, a6, a7, a8, a9, a10, a11, a12, a13], _ => exact ⟨a1, a2, a3, a4, a5, a6, a7, a8, a9, a10, a11, a12, a13, rfl⟩
    simp
    refine (well_spec (by omega) hn).mono ?_
    rintro v st2 ⟨w, rfl, hwge, hw2, d2⟩
    simp
    refine init_spec.mono ?_
    rintro v st3 ⟨rfl, h3⟩
    simp
    refine init_spec.mono ?_
    rintro v st4 ⟨rfl, h4⟩
    obtain ⟨n, hnn⟩ : ∃ n, n = st2.length := ⟨_, rfl⟩
    have l3 : st3.length = n + 4 := by rw [h3]; simp [hnn]
    have l4 : st4.length = n + 8 := by rw [h4]; simp [l3]
    rw [l3] at h4
    rw [← hnn] at h3
    have wlt := hw2.lt
    simp [l3, l4]
    refine ⟨_, _, _, ⟨rfl, rfl, rfl⟩, ?_⟩
    have e4 : st4 = st2 ++ [shF n, .dic [], .dic [], .dic [], shF (n + 4), .dic [], .dic [], .dic []] := by rw [h4, h3]; simp
    rw [← hnn, e4]
    obtain ⟨st5, h5⟩ : ∃ st5, st5 = st2 ++ [shF n, .dic [], .dic [], .dic [], shF (n + 4), .dic [], .dic [], .dic []] ++ [Ob.lst [Val.ref n, Val.ref (n + 4)], Ob.dic [], Ob.dic [], Ob.lst [Val.ref (n + 8 + 1), Val.ref (n + 8 + 2)], Ob.dic [], Ob.dic [], Ob.lst [Val.ref (n + 8 + 4), Val.ref (n + 8 + 5)]] := ⟨_, rfl⟩
    rw [← h5]
    have at5 : ∀ k ob, ([shF n, .dic [], .dic [], .dic [], shF (n + 4), .dic [], .dic [], .dic [], Ob.lst [Val.ref n, Val.ref (n + 4)], Ob.dic [], Ob.dic [], Ob.lst [Val.ref (n + 8 + 1), Val.ref (n + 8 + 2)], Ob.dic [], Ob.dic [], Ob.lst [Val.ref (n + 8 + 4), Val.ref (n + 8 + 5)]] : List Ob)[k]? = some ob → st5[n + k]? = some ob := fun k ob e => by
      rw [h5, List.append_assoc, List.getElem?_append_right (by omega), show n + k - st2.length = k by omega]
      exact e
    have two : ∀ (P : Nat → Prop), P 0 → P 1 → ∀ o < 2, P o := fun P p0 p1 o ho => by
      have : o = 0 ∨ o = 1 := by omega
      rcases this with rfl | rfl
      · exact p0
      · exact p1
    have I5 : Iv n (fun _ => []) (fun _ => []) (fun _ => []) (fun _ => []) st5 := ⟨two _ ⟨at5 0 _ rfl, at5 1 _ rfl, at5 2 _ rfl, at5 3 _ rfl⟩ ⟨at5 4 _ rfl, at5 5 _ rfl, at5 6 _ rfl, at5 7 _ rfl⟩, at5 8 _ rfl, two _ (at5 9 _ rfl) (at5 10 _ rfl), at5 11 _ rfl, two _ (at5 12 _ rfl) (at5 13 _ rfl), at5 14 _ rfl⟩
    have K5 : Ok n 0 (fun _ => []) (fun _ => []) := ⟨fun o _ => { f := (fun p hp => nomatch hp), c := (fun p hp => nomatch hp), l := Nat.le_refl _, k := Nat.le_refl _ }, fun o _ k hk => by cases hk⟩
    have W5 : WellAt w st5 := by rw [h5, List.append_assoc]; exact hw2.ap ⟨_, rfl⟩
    clear at5 h5 e4 h3 h4 l3
    refine wS_for ?_
    have s16 : small62 16 := by unfold small62; omega
    simp [s16]
    refine ⟨fun m sl st => Bh ns w n m sl st ∧ m ≤ 16, ⟨⟨_, _, _, _, _, _, _, _, _, _, _, rfl, I5, K5, W5⟩, by omega⟩, fun _ _ _ _ _ => live_none, ?_, ?_⟩
    · rintro m x sl st6 hx ⟨⟨F, C, b1, b3, b7, b8, b9, b10, b11, b12, b13, rfl, I6, K6, W6⟩, hm⟩
      obtain ⟨hm2, rfl⟩ := rngL_get hx
      have hm2 : m < 16 := hm2
      unfold sl14
      simp
      refine (take_spec (many := 2) W6 (by decide) (by decide)).go ?_
      rintro v st7 ⟨o, rfl, o0, o1, W7, hl7, d7⟩
      simp
      refine (take_spec (many := 3) W7 (by decide) (by decide)).go ?_
      rintro v st8 ⟨way, rfl, y0, y1, W8, hl8, d8⟩
      obtain ⟨o, rfl⟩ := Int.eq_ofNat_of_zero_le o0
      have hwn : w < n := by omega
      simp
      refine ⟨_, _, ⟨rfl, rfl⟩, ?_⟩
      refine t0_spec (m := m) (o := o) (F := F) (C := C) (ns := ns) (n := n) (w := w) hwn (by omega) y0 y1 ((I6.dr hwn d7).dr hwn d8) K6 (by omega) W8 ?_
      intro sl st' h
      exact And.intro h (show m + 1 ≤ 16 by omega)
    · rintro sl st6 ⟨⟨F, C, b1, b3, b7, b8, b9, b10, b11, b12, b13, rfl, _⟩, hm⟩
      exact ⟨_, rfl, rfl⟩
  · rintro sl st1 ⟨l, rfl, hl⟩
    simp

end
end K61
namespace K61
open PySem PySem.Spec PyProof.Rows L2 FL
def topS (i : Nat) : Stmt := PySem.Challenge.pw_keyroom_k61_shelves_by_hand.main.body.getD i (.Pass ⟨0, 0, 0, 0⟩)
abbrev s_are_signs : Stmt := topS 19
abbrev s_is_text : Stmt := topS 20
abbrev s_is_name : Stmt := topS 23
abbrev s_Shelf___init__ : Stmt := inClass (topS 24) 0
abbrev s_Shelf_put : Stmt := inClass (topS 24) 1
abbrev s_Shelf_has : Stmt := inClass (topS 24) 2
abbrev s_Shelf_get : Stmt := inClass (topS 24) 3
abbrev s_Shelf_drop : Stmt := inClass (topS 24) 4
abbrev s_Shelf_names : Stmt := inClass (topS 24) 5
abbrev s_Shelf_journal : Stmt := inClass (topS 24) 9
abbrev s_Shelf_journals : Stmt := inClass (topS 24) 10
abbrev s__law_well : Stmt := topS 26
abbrev s__law_take : Stmt := topS 27
abbrev s__law_thing : Stmt := topS 28
abbrev s__law_row : Stmt := topS 29
abbrev s__law_text : Stmt := topS 30
abbrev s__law_is_signs : Stmt := topS 31
abbrev s__law_is_text : Stmt := topS 32
abbrev s__law_kinds : Stmt := topS 33
abbrev s__law_refusal : Stmt := topS 34
abbrev s__law_done : Stmt := topS 35
abbrev s_law : Stmt := topS 36
/-- what the module's names hold -/
structure Gb (W : Wd) : Prop where
  n_len : W.mg "len" = none
  n_min : W.mg "min" = none
  n_max : W.mg "max" = none
  n_range : W.mg "range" = none
  n_sorted : W.mg "sorted" = none
  n_list : W.mg "list" = none
  n_str : W.mg "str" = none
  n_isinstance : W.mg "isinstance" = none
  n_all : W.mg "all" = none
  n_tuple : W.mg "tuple" = none
  n_ord : W.mg "ord" = none
  n_zip : W.mg "zip" = none
  n_ValueError : W.mg "ValueError" = none
  k_PERCENT : ∃ t, W.mg "PERCENT" = some (.int 37 t)
  k_SIGNS : ∃ t, W.mg "SIGNS" = some (.int 120 t)
  k_ROWS : ∃ t, W.mg "ROWS" = some (.int 200 t)
  k_LETTERS : ∃ t, W.mg "LETTERS" = some (.str (St' [97, 98, 99, 100, 101, 102, 103, 104, 105, 106, 107, 108, 109, 110, 111, 112, 113, 114, 115, 116, 117, 118, 119, 120, 121, 122]) t)
  k_MOST_NAME : ∃ t, W.mg "MOST_NAME" = some (.int 12 t)
  g_RoomError : W.mg "RoomError" = some (.ref (He.ga W.K "RoomError"))
  g_NoFile : W.mg "NoFile" = some (.ref (He.ga W.K "NoFile"))
  g_NoText : W.mg "NoText" = some (.ref (He.ga W.K "NoText"))
  g_NoName : W.mg "NoName" = some (.ref (He.ga W.K "NoName"))
  g_Busy : W.mg "Busy" = some (.ref (He.ga W.K "Busy"))
  g_NoPlug : W.mg "NoPlug" = some (.ref (He.ga W.K "NoPlug"))
  g_NoWindow : W.mg "NoWindow" = some (.ref (He.ga W.K "NoWindow"))
  g_NoNode : W.mg "NoNode" = some (.ref (He.ga W.K "NoNode"))
  g_Clash : W.mg "Clash" = some (.ref (He.ga W.K "Clash"))
  g_Stale : W.mg "Stale" = some (.ref (He.ga W.K "Stale"))
  g_Twice : W.mg "Twice" = some (.ref (He.ga W.K "Twice"))
  g_TooGreat : W.mg "TooGreat" = some (.ref (He.ga W.K "TooGreat"))
  x_NoFile : ExcF W "NoFile"
  x_NoText : ExcF W "NoText"
  x_NoName : ExcF W "NoName"
  e_RoomError : TryF W [.ref (He.ga W.K "RoomError")] tab_RoomError
  is_ : IsF W isT isY
  f_Shelf_files : ClsF W ["Shelf"] "files"
  f_Shelf_stories : ClsF W ["Shelf"] "stories"
  f_Shelf_counts : ClsF W ["Shelf"] "counts"
theorem gb_at {W : Wd} (G : Gb W) (p : Addr × Obj) : Gb (W.at p) := ⟨G.n_len, G.n_min, G.n_max, G.n_range, G.n_sorted, G.n_list, G.n_str, G.n_isinstance, G.n_all, G.n_tuple, G.n_ord, G.n_zip, G.n_ValueError, G.k_PERCENT, G.k_SIGNS, G.k_ROWS, G.k_LETTERS, G.k_MOST_NAME, G.g_RoomError, G.g_NoFile, G.g_NoText, G.g_NoName, G.g_Busy, G.g_NoPlug, G.g_NoWindow, G.g_NoNode, G.g_Clash, G.g_Stale, G.g_Twice, G.g_TooGreat, G.x_NoFile.at p, G.x_NoText.at p, G.x_NoName.at p, G.e_RoomError, G.is_.at p, G.f_Shelf_files, G.f_Shelf_stories, G.f_Shelf_counts⟩
theorem sc_Shelf_names : FnScope ["self"] ["self"] (defScope s_Shelf_names) := ⟨rfl, rfl, rfl, by decide +kernel, rfl, by decide +kernel, by decide +kernel⟩
theorem ok_Shelf_names {W : Wd} (G : Gb W) (h : HasM W "Shelf" "names" "Shelf.names" s_Shelf_names) : CalleeM W "Shelf" "names" 1 F_Shelf_names :=
  calleeM (k := 0) h sc_Shelf_names (fun _ _ _ _ _ _ us hl => match us, hl with | [_], _ => rfl) fun f cdv A outer s H E C =>
  (ss_one (ss_ret (se_blt C.toCtx0 (call_sortDF C.toCtx0 C.calm) G.n_sorted (by decide +kernel) (sa_cons (se_fld C.toCtx0 G.f_Shelf_files (se_var 0)) sa_nil))))
theorem sc_Shelf_journal : FnScope ["self", "name", "number", "edits"] ["self", "name"] (defScope s_Shelf_journal) := ⟨rfl, rfl, rfl, by decide +kernel, rfl, by decide +kernel, by decide +kernel⟩
theorem ok_Shelf_journal {W : Wd} (G : Gb W) (h : HasM W "Shelf" "journal" "Shelf.journal" s_Shelf_journal) : CalleeM W "Shelf" "journal" 1 F_Shelf_journal :=
  calleeM (k := 0) h sc_Shelf_journal (fun _ _ _ _ _ _ us hl => match us, hl with | [_, _], _ => rfl) fun f cdv A outer s H E C =>
  (ss_cons (ss_if (sc_w (sw_or (sc_not (sc_val (se_blt C.toCtx0 (call_isiF C.toCtx0) G.n_isinstance (by decide +kernel) (sa_cons (se_var 1) (sa_cons (se_ty "str" C.toCtx0 G.n_str (by decide +kernel)) sa_nil))))) (sw_one2 (sc_cmp (op_notinF C.toCtx0) (se_var 1) (se_fld C.toCtx0 G.f_Shelf_stories (se_var 0)))))) (ss_one (ss_ret se_non)) ss_nil)
  (ss_cons (ss_asg (se_ix (ix_F C.toCtx0) (se_fld C.toCtx0 G.f_Shelf_stories (se_var 0)) (se_var 1)) (sg_tup C (sgs_cons (sg_name 2 C.nd) (sgs_cons (sg_name 3 C.nd) sgs_nil))))
  (ss_one (ss_ret (se_tup (sa_cons (se_var 2) (sa_cons (se_bty C.toCtx0 (call_listF C.toCtx0) G.n_list (by decide +kernel) (sa_cons (se_var 3) sa_nil)) sa_nil)))))))
theorem sc_Shelf_journals : FnScope ["self"] ["self"] (defScope s_Shelf_journals) := ⟨rfl, rfl, rfl, by decide +kernel, rfl, by decide +kernel, by decide +kernel⟩
theorem ok_Shelf_journals {W : Wd} (G : Gb W) (h : HasM W "Shelf" "journals" "Shelf.journals" s_Shelf_journals) : CalleeM W "Shelf" "journals" 1 F_Shelf_journals :=
  calleeM (k := 0) h sc_Shelf_journals (fun _ _ _ _ _ _ us hl => match us, hl with | [_], _ => rfl) fun f cdv A outer s H E C =>
  (ss_one (ss_ret (se_blt C.toCtx0 (call_sortDF C.toCtx0 C.calm) G.n_sorted (by decide +kernel) (sa_cons (se_fld C.toCtx0 G.f_Shelf_stories (se_var 0)) sa_nil))))
theorem sc_Shelf_has : FnScope ["self", "name"] ["self", "name"] (defScope s_Shelf_has) := ⟨rfl, rfl, rfl, by decide +kernel, rfl, by decide +kernel, by decide +kernel⟩
theorem ok_Shelf_has {W : Wd} (G : Gb W) (h : HasM W "Shelf" "has" "Shelf.has" s_Shelf_has) : CalleeM W "Shelf" "has" 1 F_Shelf_has :=
  calleeM (k := 0) h sc_Shelf_has (fun _ _ _ _ _ _ us hl => match us, hl with | [_, _], _ => rfl) fun f cdv A outer s H E C =>
  (ss_one (ss_ret (se_and (se_blt C.toCtx0 (call_isiF C.toCtx0) G.n_isinstance (by decide +kernel) (sa_cons (se_var 1) (sa_cons (se_ty "str" C.toCtx0 G.n_str (by decide +kernel)) sa_nil))) (se_one (se_cmp (op_inF C.toCtx0) (se_var 1) (se_fld C.toCtx0 G.f_Shelf_files (se_var 0)))))))
theorem sc_Shelf_get : FnScope ["self", "name"] ["self", "name"] (defScope s_Shelf_get) := ⟨rfl, rfl, rfl, by decide +kernel, rfl, by decide +kernel, by decide +kernel⟩
theorem ok_Shelf_get {W : Wd} (G : Gb W) (h : HasM W "Shelf" "get" "Shelf.get" s_Shelf_get) (cShelf_has : CalleeM W "Shelf" "has" 1 F_Shelf_has) : CalleeM W "Shelf" "get" 2 F_Shelf_get :=
  calleeM (k := 1) h sc_Shelf_get (fun _ _ _ _ _ _ us hl => match us, hl with | [_, _], _ => rfl) fun f cdv A outer s H E C =>
  (ss_cons (ss_if (sc_not (sc_val (se_meth C cShelf_has (by omega) (se_var 0) (sa_cons (se_var 1) sa_nil)))) (ss_one (ss_raise C G.x_NoFile)) ss_nil)
  (ss_one (ss_ret (se_tup (sa_cons (se_ix (ix_F C.toCtx0) (se_fld C.toCtx0 G.f_Shelf_files (se_var 0)) (se_var 1)) (sa_cons (se_ix (ix_F C.toCtx0) (se_fld C.toCtx0 G.f_Shelf_counts (se_var 0)) (se_var 1)) sa_nil))))))
theorem sc_Shelf_drop : FnScope ["self", "name"] ["self", "name"] (defScope s_Shelf_drop) := ⟨rfl, rfl, rfl, by decide +kernel, rfl, by decide +kernel, by decide +kernel⟩
theorem ok_Shelf_drop {W : Wd} (G : Gb W) (h : HasM W "Shelf" "drop" "Shelf.drop" s_Shelf_drop) (cShelf_has : CalleeM W "Shelf" "has" 1 F_Shelf_has) : CalleeM W "Shelf" "drop" 2 F_Shelf_drop :=
  calleeM (k := 1) h sc_Shelf_drop (fun _ _ _ _ _ _ us hl => match us, hl with | [_, _], _ => rfl) fun f cdv A outer s H E C =>
  (ss_cons (ss_if (sc_not (sc_val (se_meth C cShelf_has (by omega) (se_var 0) (sa_cons (se_var 1) sa_nil)))) (ss_one (ss_raise C G.x_NoFile)) ss_nil)
  (ss_one (ss_expr (se_mt C.toCtx0 PySem.F.plainAttrs_dict PySem.F.slot_dict_pop PySem.F.type_dict_pop mt_dpopF (se_fld C.toCtx0 G.f_Shelf_files (se_var 0)) (sa_cons (se_var 1) sa_nil)))))
theorem sc_are_signs : FnScope ["thing", "sign"] ["thing"] (defScope s_are_signs) := ⟨rfl, rfl, rfl, by decide +kernel, rfl, by decide +kernel, by decide +kernel⟩
theorem ok_are_signs {W : Wd} (G : Gb W) (h : Has W "are_signs" s_are_signs) : Callee W "are_signs" 1 F_are_signs :=
  callee (k := 0) h sc_are_signs (fun _ _ _ _ _ _ us hl => match us, hl with | [_], _ => rfl) fun f cdv A outer s H E C =>
  (ss_one (ss_ret (se_and (se_blt C.toCtx0 (call_isiF C.toCtx0) G.n_isinstance (by decide +kernel) (sa_cons (se_var 0) (sa_cons (se_ty "str" C.toCtx0 G.n_str (by decide +kernel)) sa_nil))) (se_one (se_blt C.toCtx0 (call_allF C) G.n_all (by decide +kernel) (sa_cons (se_lc (own := [("sign", 1)]) C (si_any C.toCtx0 (se_var 0)) (blkOk_by (N := ["thing", "sign"]) (sc := defScope s_are_signs) (by decide +kernel)) (fun _ _ _ _ _ => sgw_name 1 (Ctx.blk C _ _ _ _ _).nd) (fun _ _ _ _ _ => sts_nil) (fun _ _ _ _ _ => (se_and (se_chain (op_leF (Ctx.blk C _ _ _ _ _).toCtx0) (op_leF (Ctx.blk C _ _ _ _ _).toCtx0) (se_str [32]) (se_var 1) (se_str [126])) (se_one (se_cmp (op_neF (Ctx.blk C _ _ _ _ _).toCtx0) (se_blt (Ctx.blk C _ _ _ _ _).toCtx0 call_ordF G.n_ord (by decide +kernel) (sa_cons (se_var 1) sa_nil)) (se_gint (Ctx.blk C _ _ _ _ _).toCtx0 G.k_PERCENT)))))) sa_nil))))))
theorem sc_is_text : FnScope ["thing", "row"] ["thing"] (defScope s_is_text) := ⟨rfl, rfl, rfl, by decide +kernel, rfl, by decide +kernel, by decide +kernel⟩
theorem ok_is_text {W : Wd} (G : Gb W) (h : Has W "is_text" s_is_text) (care_signs : Callee W "are_signs" 1 F_are_signs) : Callee W "is_text" 2 F_is_text :=
  callee (k := 1) h sc_is_text (fun _ _ _ _ _ _ us hl => match us, hl with | [_], _ => rfl) fun f cdv A outer s H E C =>
  (ss_cons (ss_if (sc_w (sw_or (sc_not (sc_val (se_blt C.toCtx0 (call_isiF C.toCtx0) G.n_isinstance (by decide +kernel) (sa_cons (se_var 0) (sa_cons (se_ty "tuple" C.toCtx0 G.n_tuple (by decide +kernel)) sa_nil))))) (sw_one2 (sc_not (sc_chain (op_leF C.toCtx0) (op_leF C.toCtx0) se_int (se_blt C.toCtx0 (call_lenF C.toCtx0) G.n_len (by decide +kernel) (sa_cons (se_var 0) sa_nil)) (se_gint C.toCtx0 G.k_ROWS)))))) (ss_one (ss_ret se_bl)) ss_nil)
  (ss_one (ss_ret (se_blt C.toCtx0 (call_allF C) G.n_all (by decide +kernel) (sa_cons (se_lc (own := [("row", 1)]) C (si_any C.toCtx0 (se_var 0)) (blkOk_by (N := ["thing", "row"]) (sc := defScope s_is_text) (by decide +kernel)) (fun _ _ _ _ _ => sgw_name 1 (Ctx.blk C _ _ _ _ _).nd) (fun _ _ _ _ _ => sts_nil) (fun _ _ _ _ _ => (se_and (se_call (Ctx.blk C _ _ _ _ _) care_signs (by omega) (sa_cons (se_var 1) sa_nil)) (se_one (se_cmp (op_leF (Ctx.blk C _ _ _ _ _).toCtx0) (se_blt (Ctx.blk C _ _ _ _ _).toCtx0 (call_lenF (Ctx.blk C _ _ _ _ _).toCtx0) G.n_len (by decide +kernel) (sa_cons (se_var 1) sa_nil)) (se_gint (Ctx.blk C _ _ _ _ _).toCtx0 G.k_SIGNS)))))) sa_nil)))))
theorem sc_is_name : FnScope ["thing", "sign"] ["thing"] (defScope s_is_name) := ⟨rfl, rfl, rfl, by decide +kernel, rfl, by decide +kernel, by decide +kernel⟩
theorem ok_is_name {W : Wd} (G : Gb W) (h : Has W "is_name" s_is_name) : Callee W "is_name" 1 F_is_name :=
  callee (k := 0) h sc_is_name (fun _ _ _ _ _ _ us hl => match us, hl with | [_], _ => rfl) fun f cdv A outer s H E C =>
  (ss_one (ss_ret (se_and (se_blt C.toCtx0 (call_isiF C.toCtx0) G.n_isinstance (by decide +kernel) (sa_cons (se_var 0) (sa_cons (se_ty "str" C.toCtx0 G.n_str (by decide +kernel)) sa_nil))) (se_and (se_chain (op_leF C.toCtx0) (op_leF C.toCtx0) se_int (se_blt C.toCtx0 (call_lenF C.toCtx0) G.n_len (by decide +kernel) (sa_cons (se_var 0) sa_nil)) (se_gint C.toCtx0 G.k_MOST_NAME)) (se_one (se_blt C.toCtx0 (call_allF C) G.n_all (by decide +kernel) (sa_cons (se_lc (own := [("sign", 1)]) C (si_any C.toCtx0 (se_var 0)) (blkOk_by (N := ["thing", "sign"]) (sc := defScope s_is_name) (by decide +kernel)) (fun _ _ _ _ _ => sgw_name 1 (Ctx.blk C _ _ _ _ _).nd) (fun _ _ _ _ _ => sts_nil) (fun _ _ _ _ _ => (se_cmp (op_inF (Ctx.blk C _ _ _ _ _).toCtx0) (se_var 1) (se_gstr (Ctx.blk C _ _ _ _ _).toCtx0 G.k_LETTERS)))) sa_nil)))))))
theorem sc_Shelf_put : FnScope ["self", "name", "text"] ["self", "name", "text"] (defScope s_Shelf_put) := ⟨rfl, rfl, rfl, by decide +kernel, rfl, by decide +kernel, by decide +kernel⟩
theorem ok_Shelf_put {W : Wd} (G : Gb W) (h : HasM W "Shelf" "put" "Shelf.put" s_Shelf_put) (cis_text : Callee W "is_text" 2 F_is_text) (cis_name : Callee W "is_name" 1 F_is_name) : CalleeM W "Shelf" "put" 3 F_Shelf_put :=
  calleeM (k := 2) h sc_Shelf_put (fun _ _ _ _ _ _ us hl => match us, hl with | [_, _, _], _ => rfl) fun f cdv A outer s H E C =>
  (ss_cons (ss_if (sc_not (sc_val (se_call C cis_name (by omega) (sa_cons (se_var 1) sa_nil)))) (ss_one (ss_raise C G.x_NoName)) ss_nil)
  (ss_cons (ss_if (sc_not (sc_val (se_call C cis_text (by omega) (sa_cons (se_var 2) sa_nil)))) (ss_one (ss_raise C G.x_NoText)) ss_nil)
  (ss_cons (ss_asg (se_op (op_addF C.toCtx0) (se_mt C.toCtx0 PySem.F.plainAttrs_dict PySem.F.slot_dict_get PySem.F.type_dict_get (mt_dgetF C.toCtx0) (se_fld C.toCtx0 G.f_Shelf_counts (se_var 0)) (sa_cons (se_var 1) (sa_cons se_int sa_nil))) se_int) (sg_sub C.toCtx0 (se_fld C.toCtx0 G.f_Shelf_counts (se_var 0)) (se_var 1) (set_F C.toCtx0)))
  (ss_cons (ss_asg (se_var 2) (sg_sub C.toCtx0 (se_fld C.toCtx0 G.f_Shelf_files (se_var 0)) (se_var 1) (set_F C.toCtx0)))
  (ss_one (ss_ret (se_ix (ix_F C.toCtx0) (se_fld C.toCtx0 G.f_Shelf_counts (se_var 0)) (se_var 1))))))))
theorem sc__law_kinds : FnScope ["e", "some", "words", "word", "good"] ["e"] (defScope s__law_kinds) := ⟨rfl, rfl, rfl, by decide +kernel, rfl, by decide +kernel, by decide +kernel⟩
theorem okH__law_kinds {W : Wd} {pp : Addr × Obj} (hW : W.hot = some pp) (G : Gb W) (h : Has W "_law_kinds" s__law_kinds) : CalleeP (isH pp) W "_law_kinds" 1 L_kinds :=
  calleeH (k := 0) hW h sc__law_kinds (fun _ _ _ _ _ _ us hl => match us, hl with | [_], _ => rfl) fun f cdv A outer s H E C =>
  (ss_cons (ss_set 1 C.nd (se_lst (sa_cons (se_blt C.toCtx0 (call_isEF C.toCtx0 G.is_) G.n_isinstance (by decide +kernel) (sa_cons (se_var 0) (sa_cons (se_glo C.toCtx0 G.g_TooGreat) sa_nil))) (sa_cons (se_blt C.toCtx0 (call_isEF C.toCtx0 G.is_) G.n_isinstance (by decide +kernel) (sa_cons (se_var 0) (sa_cons (se_glo C.toCtx0 G.g_NoFile) sa_nil))) (sa_cons (se_blt C.toCtx0 (call_isEF C.toCtx0 G.is_) G.n_isinstance (by decide +kernel) (sa_cons (se_var 0) (sa_cons (se_glo C.toCtx0 G.g_NoName) sa_nil))) (sa_cons (se_blt C.toCtx0 (call_isEF C.toCtx0 G.is_) G.n_isinstance (by decide +kernel) (sa_cons (se_var 0) (sa_cons (se_glo C.toCtx0 G.g_Twice) sa_nil))) sa_nil))))))
  (ss_cons (ss_set 1 C.nd (se_op (op_addF C.toCtx0) (se_var 1) (se_lst (sa_cons (se_blt C.toCtx0 (call_isEF C.toCtx0 G.is_) G.n_isinstance (by decide +kernel) (sa_cons (se_var 0) (sa_cons (se_glo C.toCtx0 G.g_Stale) sa_nil))) (sa_cons (se_blt C.toCtx0 (call_isEF C.toCtx0 G.is_) G.n_isinstance (by decide +kernel) (sa_cons (se_var 0) (sa_cons (se_glo C.toCtx0 G.g_Clash) sa_nil))) (sa_cons (se_blt C.toCtx0 (call_isEF C.toCtx0 G.is_) G.n_isinstance (by decide +kernel) (sa_cons (se_var 0) (sa_cons (se_glo C.toCtx0 G.g_NoNode) sa_nil))) (sa_cons (se_blt C.toCtx0 (call_isEF C.toCtx0 G.is_) G.n_isinstance (by decide +kernel) (sa_cons (se_var 0) (sa_cons (se_glo C.toCtx0 G.g_NoWindow) sa_nil))) sa_nil)))))))
  (ss_cons (ss_set 1 C.nd (se_op (op_addF C.toCtx0) (se_var 1) (se_lst (sa_cons (se_blt C.toCtx0 (call_isEF C.toCtx0 G.is_) G.n_isinstance (by decide +kernel) (sa_cons (se_var 0) (sa_cons (se_glo C.toCtx0 G.g_NoPlug) sa_nil))) (sa_cons (se_blt C.toCtx0 (call_isEF C.toCtx0 G.is_) G.n_isinstance (by decide +kernel) (sa_cons (se_var 0) (sa_cons (se_glo C.toCtx0 G.g_NoText) sa_nil))) (sa_cons (se_blt C.toCtx0 (call_isEF C.toCtx0 G.is_) G.n_isinstance (by decide +kernel) (sa_cons (se_var 0) (sa_cons (se_glo C.toCtx0 G.g_Busy) sa_nil))) sa_nil))))))
  (ss_cons (ss_set 1 C.nd (se_op (op_addF C.toCtx0) (se_var 1) (se_lst (sa_cons (se_blt C.toCtx0 (call_isEF C.toCtx0 G.is_) G.n_isinstance (by decide +kernel) (sa_cons (se_var 0) (sa_cons (se_glo C.toCtx0 G.g_RoomError) sa_nil))) (sa_cons (se_blt C.toCtx0 (call_isEF C.toCtx0 G.is_) G.n_isinstance (by decide +kernel) (sa_cons (se_var 0) (sa_cons (se_ty "ValueError" C.toCtx0 G.n_ValueError (by decide +kernel)) sa_nil))) sa_nil)))))
  (ss_cons (ss_set 2 C.nd (se_str [103, 114, 101, 97, 116, 32, 102, 105, 108, 101, 32, 110, 97, 109, 101, 32, 116, 119, 105, 99, 101, 32, 115, 116, 97, 108, 101, 32, 99, 108, 97, 115, 104, 32, 110, 111, 100, 101, 32, 119, 105, 110, 100, 111, 119, 32, 112, 108, 117, 103, 32, 116, 101, 120, 116, 32, 98, 117, 115, 121, 32, 111, 119, 110, 32, 118, 97, 108, 117, 101]))
  (ss_one (ss_ret (se_lcK (own := [("word", 3), ("good", 4)]) C hW (si_zipK C.toCtx0 G.n_zip (sa_cons (se_mt C.toCtx0 PySem.F.plainAttrs_str PySem.F.slot_str_split PySem.F.type_str_split mt_splitF (se_var 2) (sa_cons (se_str [32]) sa_nil)) (sa_cons (se_var 1) sa_nil))) (blkOk_by (N := ["e", "some", "words", "word", "good"]) (sc := defScope s__law_kinds) (by decide +kernel)) (fun _ _ _ _ _ => sgw_tupK (CtxH.blk C _ _ _ _ _) hW (sgsw_cons (sgw_name 3 (CtxH.blk C _ _ _ _ _).nd) (sgsw_cons (sgw_name 4 (CtxH.blk C _ _ _ _ _).nd) sgsw_nil))) (fun _ _ _ _ _ => (sts_one (sc_val (se_var 4)))) (fun _ _ _ _ _ => (se_var 3))))))))))
theorem sc__law_refusal : FnScope ["e", "kinds"] ["e"] (defScope s__law_refusal) := ⟨rfl, rfl, rfl, by decide +kernel, rfl, by decide +kernel, by decide +kernel⟩
theorem okH__law_refusal {W : Wd} {pp : Addr × Obj} (hW : W.hot = some pp) (G : Gb W) (h : Has W "_law_refusal" s__law_refusal) (h_law_kinds : CalleeP (isH pp) W "_law_kinds" 1 L_kinds) : CalleeP (isH pp) W "_law_refusal" 2 L_refusal :=
  calleeH (k := 1) hW h sc__law_refusal (fun _ _ _ _ _ _ us hl => match us, hl with | [_], _ => rfl) fun f cdv A outer s H E C =>
  (ss_cons (ss_set 1 C.nd (se_callP C hW h_law_kinds (by omega) (sa_cons (se_var 0) sa_nil)))
  (ss_one (ss_ret (se_if (sc_cmp (op_eqF C.toCtx0) (se_sl (sl_F C.toCtx0) (se_var 1) (so_some se_int) so_none) (se_lst (sa_cons (se_str [111, 119, 110]) (sa_cons (se_str [118, 97, 108, 117, 101]) sa_nil)))) (se_ix (ix_F C.toCtx0) (se_var 1) se_int) (se_str [101, 108, 115, 101])))))
theorem sc__law_done : FnScope ["shelf", "way", "name", "text", "e"] ["shelf", "way", "name", "text"] (defScope s__law_done) := ⟨rfl, rfl, rfl, by decide +kernel, rfl, by decide +kernel, by decide +kernel⟩
theorem ok__law_done {W : Wd} (G : Gb W) (h : Has W "_law_done" s__law_done) (cShelf_get : CalleeM W "Shelf" "get" 2 F_Shelf_get) (cShelf_drop : CalleeM W "Shelf" "drop" 2 F_Shelf_drop) (cShelf_put : CalleeM W "Shelf" "put" 3 F_Shelf_put) (h_law_refusal : ∀ p : Addr × Obj, CalleeP (isH p) (W.at p) "_law_refusal" 2 L_refusal) : Callee W "_law_done" 4 L_done :=
  callee (k := 3) h sc__law_done (fun _ _ _ _ _ _ us hl => match us, hl with | [_, _, _, _], _ => rfl) fun f cdv A outer s H E C =>
  (ss_one (ss_tryAs 4 C (.one ⟨rfl, by decide, .inl (by rw [C.em]; exact G.g_RoomError)⟩) G.e_RoomError (fun _ _ _ C =>
  (ss_cons (ss_if (sc_cmp (op_eqF C.toCtx0) (se_var 1) se_int) (ss_one (ss_ret (se_meth C cShelf_put (by omega) (se_var 0) (sa_cons (se_var 2) (sa_cons (se_var 3) sa_nil))))) ss_nil)
  (ss_one (ss_ret (se_if (sc_cmp (op_eqF C.toCtx0) (se_var 1) se_int) (se_meth C cShelf_get (by omega) (se_var 0) (sa_cons (se_var 2) sa_nil)) (se_meth C cShelf_drop (by omega) (se_var 0) (sa_cons (se_var 2) sa_nil)))))))
  (fun _ _ _ C =>
  (ss_one (ss_ret (se_callP C rfl (h_law_refusal _) (by omega) (sa_cons (se_var 4) sa_nil)))))))
theorem sc__law_is_signs : FnScope ["thing", "sign"] ["thing"] (defScope s__law_is_signs) := ⟨rfl, rfl, rfl, by decide +kernel, rfl, by decide +kernel, by decide +kernel⟩
theorem ok__law_is_signs {W : Wd} (G : Gb W) (h : Has W "_law_is_signs" s__law_is_signs) : Callee W "_law_is_signs" 1 L_is_signs :=
  callee (k := 0) h sc__law_is_signs (fun _ _ _ _ _ _ us hl => match us, hl with | [_], _ => rfl) fun f cdv A outer s H E C =>
  (ss_cons (ss_if (sc_not (sc_val (se_blt C.toCtx0 (call_isiF C.toCtx0) G.n_isinstance (by decide +kernel) (sa_cons (se_var 0) (sa_cons (se_ty "str" C.toCtx0 G.n_str (by decide +kernel)) sa_nil))))) (ss_one (ss_ret se_bl)) ss_nil)
  (ss_one (ss_ret (se_cmp (op_eqF C.toCtx0) (se_lc (own := [("sign", 1)]) C (si_any C.toCtx0 (se_var 0)) (blkOk_by (N := ["thing", "sign"]) (sc := defScope s__law_is_signs) (by decide +kernel)) (fun _ _ _ _ _ => sgw_name 1 (Ctx.blk C _ _ _ _ _).nd) (fun _ _ _ _ _ => (sts_one (sc_w (sw_or (sc_cmp (op_ltF (Ctx.blk C _ _ _ _ _).toCtx0) (se_blt (Ctx.blk C _ _ _ _ _).toCtx0 call_ordF G.n_ord (by decide +kernel) (sa_cons (se_var 1) sa_nil)) se_int) (sw_or (sc_cmp (op_gtF (Ctx.blk C _ _ _ _ _).toCtx0) (se_blt (Ctx.blk C _ _ _ _ _).toCtx0 call_ordF G.n_ord (by decide +kernel) (sa_cons (se_var 1) sa_nil)) se_int) (sw_one2 (sc_cmp (op_eqF (Ctx.blk C _ _ _ _ _).toCtx0) (se_blt (Ctx.blk C _ _ _ _ _).toCtx0 call_ordF G.n_ord (by decide +kernel) (sa_cons (se_var 1) sa_nil)) se_int))))))) (fun _ _ _ _ _ => (se_var 1))) (se_lst sa_nil)))))
theorem sc__law_is_text : FnScope ["thing", "row"] ["thing"] (defScope s__law_is_text) := ⟨rfl, rfl, rfl, by decide +kernel, rfl, by decide +kernel, by decide +kernel⟩
theorem ok__law_is_text {W : Wd} (G : Gb W) (h : Has W "_law_is_text" s__law_is_text) (c_law_is_signs : Callee W "_law_is_signs" 1 L_is_signs) : Callee W "_law_is_text" 2 L_is_text :=
  callee (k := 1) h sc__law_is_text (fun _ _ _ _ _ _ us hl => match us, hl with | [_], _ => rfl) fun f cdv A outer s H E C =>
  (ss_cons (ss_if (sc_w (sw_or (sc_not (sc_val (se_blt C.toCtx0 (call_isiF C.toCtx0) G.n_isinstance (by decide +kernel) (sa_cons (se_var 0) (sa_cons (se_ty "tuple" C.toCtx0 G.n_tuple (by decide +kernel)) sa_nil))))) (sw_one2 (sc_not (sc_chain (op_leF C.toCtx0) (op_leF C.toCtx0) se_int (se_blt C.toCtx0 (call_lenF C.toCtx0) G.n_len (by decide +kernel) (sa_cons (se_var 0) sa_nil)) se_int))))) (ss_one (ss_ret se_bl)) ss_nil)
  (ss_one (ss_ret (se_cmp (op_eqF C.toCtx0) (se_lc (own := [("row", 1)]) C (si_any C.toCtx0 (se_var 0)) (blkOk_by (N := ["thing", "row"]) (sc := defScope s__law_is_text) (by decide +kernel)) (fun _ _ _ _ _ => sgw_name 1 (Ctx.blk C _ _ _ _ _).nd) (fun _ _ _ _ _ => (sts_one (sc_w (sw_or (sc_not (sc_val (se_call (Ctx.blk C _ _ _ _ _) c_law_is_signs (by omega) (sa_cons (se_var 1) sa_nil)))) (sw_one2 (sc_cmp (op_gtF (Ctx.blk C _ _ _ _ _).toCtx0) (se_blt (Ctx.blk C _ _ _ _ _).toCtx0 (call_lenF (Ctx.blk C _ _ _ _ _).toCtx0) G.n_len (by decide +kernel) (sa_cons (se_var 1) sa_nil)) se_int)))))) (fun _ _ _ _ _ => (se_var 1))) (se_lst sa_nil)))))
theorem sc__law_take : FnScope ["well", "many", "got"] ["well", "many"] (defScope s__law_take) := ⟨rfl, rfl, rfl, by decide +kernel, rfl, by decide +kernel, by decide +kernel⟩
theorem ok__law_take {W : Wd} (G : Gb W) (h : Has W "_law_take" s__law_take) : Callee W "_law_take" 1 L_take :=
  callee (k := 0) h sc__law_take (fun _ _ _ _ _ _ us hl => match us, hl with | [_, _], _ => rfl) fun f cdv A outer s H E C =>
  (ss_cons (ss_if (sc_cmp (op_gtF C.toCtx0) (se_ix (ix_F C.toCtx0) (se_var 0) se_int) se_int) (ss_cons (ss_set 2 C.nd (se_op op_modF (se_ix (ix_F C.toCtx0) (se_var 0) se_int) (se_var 1)))
  (ss_cons (ss_asg (se_op op_divF (se_ix (ix_F C.toCtx0) (se_var 0) se_int) (se_var 1)) (sg_sub C.toCtx0 (se_var 0) se_int (set_F C.toCtx0)))
  (ss_one (ss_ret (se_var 2))))) ss_nil)
  (ss_cons (ss_asg (se_op (op_addF C.toCtx0) (se_op op_modF (se_op (op_mulLF C.toCtx0) (se_ix (ix_F C.toCtx0) (se_var 0) se_int) se_int) (se_ix (ix_F C.toCtx0) (se_var 0) se_int)) se_int) (sg_sub C.toCtx0 (se_var 0) se_int (set_F C.toCtx0)))
  (ss_one (ss_ret (se_op op_modF (se_op op_divF (se_op op_modF (se_op (op_mulLF C.toCtx0) (se_ix (ix_F C.toCtx0) (se_var 0) se_int) (se_ix (ix_F C.toCtx0) (se_var 0) se_int)) se_int) se_int) (se_var 1))))))
theorem sc__law_thing : FnScope ["well", "deep", "way", "parts", "some", "k"] ["well", "deep"] (defScope s__law_thing) := ⟨rfl, rfl, rfl, by decide +kernel, rfl, by decide +kernel, by decide +kernel⟩
theorem ok__law_thing {W : Wd} (G : Gb W) (h : Has W "_law_thing" s__law_thing) (c_law_take : Callee W "_law_take" 1 L_take) : ∀ d : Nat, Callee W "_law_thing" (1 + 1 + d) (L_thing d)
  | 0 => callee0 (ps := ["well", "deep"]) h (fun _ _ _ _ _ _ us hl => match us, hl with | [_, _], _ => rfl)
  | d + 1 => have IH := ok__law_thing G h c_law_take d
    callee (k := 1 + 1 + d) h sc__law_thing (fun _ _ _ _ _ _ us hl => match us, hl with | [_, _], _ => rfl) fun f cdv A outer s H E C =>
  (ss_cons (ss_set 2 C.nd (se_call C c_law_take (by omega) (sa_cons (se_var 0) (sa_cons se_int sa_nil))))
  (ss_cons (ss_if (sc_w (sw_or (sc_cmp (op_ltF C.toCtx0) (se_var 2) se_int) (sw_one2 (sc_cmp (op_eqF C.toCtx0) (se_var 1) se_int)))) (ss_cons (ss_set 4 C.nd (se_lst (sa_cons se_int (sa_cons (se_neg se_int) (sa_cons se_int (sa_cons se_bl (sa_cons se_bl (sa_cons se_non (sa_cons (se_str []) (sa_cons (se_str [97]) (sa_cons (se_str [97, 98]) (sa_cons (se_str [65]) (sa_cons (se_str [97, 32, 98]) (sa_cons (se_str [97, 98, 99, 100, 101, 102, 103, 104, 105]) (sa_cons se_int (sa_cons se_int (sa_cons (se_neg se_int) (sa_cons (se_str [116, 97, 107, 101]) (sa_cons (se_op op_powF se_int se_int) (sa_cons se_int sa_nil))))))))))))))))))))
  (ss_one (ss_ret (se_ix (ix_F C.toCtx0) (se_op (op_addF C.toCtx0) (se_var 4) (se_lst (sa_cons (se_tup sa_nil) (sa_cons (se_lst sa_nil) (sa_cons (se_tup (sa_cons se_int (sa_cons se_int sa_nil))) sa_nil))))) (se_call C c_law_take (by omega) (sa_cons (se_var 0) (sa_cons se_int sa_nil))))))) ss_nil)
  (ss_cons (ss_setLc 3 (own := [("k", 5)]) C (sw_true rfl rfl rfl (by decide +kernel)) (si_rng1 C.toCtx0 G.n_range (sa_cons (se_call C c_law_take (by omega) (sa_cons (se_var 0) (sa_cons se_int sa_nil))) sa_nil)) (blkOk_by (N := ["well", "deep", "way", "parts", "some", "k"]) (sc := defScope s__law_thing) (by decide +kernel)) (fun _ _ _ _ _ => sgw_name 5 (Ctx.blk C _ _ _ _ _).nd) (fun _ _ _ _ _ => sts_nil) (fun _ _ _ _ _ => (se_call (Ctx.blk C _ _ _ _ _) IH (by omega) (sa_cons (se_var 0) (sa_cons (se_op op_subF (se_var 1) se_int) sa_nil)))))
  (ss_one (ss_ret (se_ix (ix_F C.toCtx0) (se_lst (sa_cons (se_var 3) (sa_cons (se_bty C.toCtx0 (call_tupF C.toCtx0) G.n_tuple (by decide +kernel) (sa_cons (se_var 3) sa_nil)) (sa_cons (se_bty C.toCtx0 (call_tupF C.toCtx0) G.n_tuple (by decide +kernel) (sa_cons (se_var 3) sa_nil)) sa_nil)))) (se_op op_subF (se_var 2) se_int)))))))
theorem sc__law_row : FnScope ["well", "parts", "many", "turn"] ["well"] (defScope s__law_row) := ⟨rfl, rfl, rfl, by decide +kernel, rfl, by decide +kernel, by decide +kernel⟩
theorem ok__law_row {W : Wd} (G : Gb W) (h : Has W "_law_row" s__law_row) (c_law_take : Callee W "_law_take" 1 L_take) : Callee W "_law_row" 2 L_row :=
  callee (k := 1) h sc__law_row (fun _ _ _ _ _ _ us hl => match us, hl with | [_], _ => rfl) fun f cdv A outer s H E C =>
  (ss_cons (ss_set 1 C.nd (se_lst (sa_cons (se_str [97, 98]) (sa_cons (se_str [70, 111, 111, 95, 49]) (sa_cons (se_str [32]) (sa_cons (se_str [32]) (sa_cons (se_str [32, 32]) (sa_cons (se_str [40]) (sa_cons (se_str [41]) (sa_cons (se_str [91, 120, 93]) (sa_cons (se_str [34]) (sa_cons (se_str [45, 45]) (sa_cons (se_str [122, 57]) (sa_cons (se_str [97]) (sa_cons (se_str [123]) (sa_cons (se_str [125]) (sa_cons (se_str [98, 32, 98]) (sa_cons (se_str [44]) (sa_cons (se_str [81]) sa_nil)))))))))))))))))))
  (ss_cons (ss_set 2 C.nd (se_call C c_law_take (by omega) (sa_cons (se_var 0) (sa_cons (se_ix (ix_F C.toCtx0) (se_lst (sa_cons se_int (sa_cons se_int sa_nil))) (se_call C c_law_take (by omega) (sa_cons (se_var 0) (sa_cons se_int sa_nil)))) sa_nil))))
  (ss_one (ss_ret (se_mt C.toCtx0 PySem.F.plainAttrs_str PySem.F.slot_str_join PySem.F.type_str_join (mt_joinF C.toCtx0) (se_str []) (sa_cons (se_lc (own := [("turn", 3)]) C (si_rng1 C.toCtx0 G.n_range (sa_cons (se_var 2) sa_nil)) (blkOk_by (N := ["well", "parts", "many", "turn"]) (sc := defScope s__law_row) (by decide +kernel)) (fun _ _ _ _ _ => sgw_name 3 (Ctx.blk C _ _ _ _ _).nd) (fun _ _ _ _ _ => sts_nil) (fun _ _ _ _ _ => (se_ix (ix_F (Ctx.blk C _ _ _ _ _).toCtx0) (se_var 1) (se_call (Ctx.blk C _ _ _ _ _) c_law_take (by omega) (sa_cons (se_var 0) (sa_cons se_int sa_nil)))))) sa_nil))))))
theorem sc__law_text : FnScope ["well", "most", "rows", "turn"] ["well", "most"] (defScope s__law_text) := ⟨rfl, rfl, rfl, by decide +kernel, rfl, by decide +kernel, by decide +kernel⟩
theorem ok__law_text {W : Wd} (G : Gb W) (h : Has W "_law_text" s__law_text) (c_law_take : Callee W "_law_take" 1 L_take) (c_law_row : Callee W "_law_row" 2 L_row) : Callee W "_law_text" 3 L_text :=
  callee (k := 2) h sc__law_text (fun _ _ _ _ _ _ us hl => match us, hl with | [_, _], _ => rfl) fun f cdv A outer s H E C =>
  (ss_cons (ss_set 2 C.nd (se_lst sa_nil))
  (ss_cons (ss_for C (si_rng1 C.toCtx0 G.n_range (sa_cons (se_op (op_addF C.toCtx0) se_int (se_call C c_law_take (by omega) (sa_cons (se_var 0) (sa_cons (se_var 1) sa_nil)))) sa_nil)) (sg_name 3 C.nd) (ss_one (ss_expr (se_mt C.toCtx0 PySem.F.plainAttrs_list PySem.F.slot_list_append PySem.F.type_list_append mt_appendF (se_var 2) (sa_cons (se_if (sc_cmp (op_eqF C.toCtx0) (se_call C c_law_take (by omega) (sa_cons (se_var 0) (sa_cons se_int sa_nil))) se_int) (se_str []) (se_call C c_law_row (by omega) (sa_cons (se_var 0) sa_nil))) sa_nil)))))
  (ss_one (ss_ret (se_bty C.toCtx0 (call_tupF C.toCtx0) G.n_tuple (by decide +kernel) (sa_cons (se_var 2) sa_nil))))))
theorem sc_Shelf___init__ : FnScope ["self"] ["self"] (defScope s_Shelf___init__) := ⟨rfl, rfl, rfl, by decide +kernel, rfl, by decide +kernel, by decide +kernel⟩
theorem ok_Shelf___init__ {W : Wd} (G : Gb W) (h : HasI W "Shelf" "Shelf.__init__" s_Shelf___init__) : CalleeI W "Shelf" 1 F_Shelf___init__ :=
  calleeI (k := 0) h sc_Shelf___init__ (fun _ _ _ _ _ _ us hl => match us, hl with | [_], _ => rfl) fun f cdv A outer s H E C =>
  (ss_cons (ss_asg se_dnew (sg_fld C.toCtx0 G.f_Shelf_files (se_var 0)))
  (ss_cons (ss_asg se_dnew (sg_fld C.toCtx0 G.f_Shelf_counts (se_var 0)))
  (ss_one (ss_asg se_dnew (sg_fld C.toCtx0 G.f_Shelf_stories (se_var 0))))))
theorem sc__law_well : FnScope ["script", "k", "cell", "primes", "seed"] ["script", "k"] (defScope s__law_well) := ⟨rfl, rfl, rfl, by decide +kernel, rfl, by decide +kernel, by decide +kernel⟩
theorem ok__law_well {W : Wd} (G : Gb W) (h : Has W "_law_well" s__law_well) : Callee W "_law_well" 1 L_well :=
  callee (k := 0) h sc__law_well (fun _ _ _ _ _ _ us hl => match us, hl with | [_, _], _ => rfl) fun f cdv A outer s H E C =>
  (ss_cons (ss_set 2 C.nd se_int)
  (ss_cons (ss_if (sc_cmp (op_ltF C.toCtx0) (se_var 1) (se_blt C.toCtx0 (call_lenF C.toCtx0) G.n_len (by decide +kernel) (sa_cons (se_var 0) sa_nil))) (ss_one (ss_set 2 C.nd (se_ix (ix_F C.toCtx0) (se_var 0) (se_var 1)))) ss_nil)
  (ss_cons (ss_set 3 C.nd (se_lst (sa_cons se_int (sa_cons se_int (sa_cons se_int (sa_cons se_int (sa_cons se_int (sa_cons se_int (sa_cons se_int (sa_cons se_int sa_nil))))))))))
  (ss_cons (ss_set 4 C.nd (se_op op_modF (se_op (op_mulLF C.toCtx0) (se_op (op_addF C.toCtx0) (se_op op_modF (se_var 2) se_int) se_int) (se_op (op_addF C.toCtx0) se_int (se_op (op_mulLF C.toCtx0) se_int (se_var 1)))) se_int))
  (ss_cons (ss_set 4 C.nd (se_op (op_addF C.toCtx0) (se_op (op_addF C.toCtx0) (se_op op_modF (se_op (op_mulLF C.toCtx0) (se_var 4) (se_var 4)) se_int) (se_var 1)) se_int))
  (ss_cons (ss_if (sc_cmp (op_geF C.toCtx0) (se_var 2) (se_op op_powF se_int se_int)) (ss_one (ss_ret (se_lst (sa_cons (se_var 2) (sa_cons (se_var 4) (sa_cons (se_ix (ix_F C.toCtx0) (se_var 3) (se_op op_modF (se_var 1) se_int)) sa_nil)))))) ss_nil)
  (ss_one (ss_ret (se_lst (sa_cons se_int (sa_cons (se_var 4) (sa_cons (se_ix (ix_F C.toCtx0) (se_var 3) (se_op op_modF (se_var 1) se_int)) sa_nil))))))))))))
theorem sc_law : FnScope ["script", "k", "well", "turn", "both", "files", "counts", "name", "text", "good", "due", "told", "one", "way"] ["script"] (defScope s_law) := ⟨rfl, rfl, rfl, by decide +kernel, rfl, by decide +kernel, by decide +kernel⟩
theorem ok_law {W : Wd} {f : Addr} {fd : FuncData} (G : Gb W) (Fu : Fun W.K "law" "law" s_law f fd) (cShelf_names : CalleeM W "Shelf" "names" 1 F_Shelf_names) (cShelf_journal : CalleeM W "Shelf" "journal" 1 F_Shelf_journal) (cShelf_journals : CalleeM W "Shelf" "journals" 1 F_Shelf_journals) (c_law_done : Callee W "_law_done" 4 L_done) (c_law_is_text : Callee W "_law_is_text" 2 L_is_text) (c_law_thing : Callee W "_law_thing" 5 (L_thing 3)) (c_law_text : Callee W "_law_text" 3 L_text) (c_law_take : Callee W "_law_take" 1 L_take) (cShelf___init__ : CalleeI W "Shelf" 1 F_Shelf___init__) (c_law_well : Callee W "_law_well" 1 L_well) : FnOk W.P W.w W.K W.mg W.base (L2N.CX W.P W.w) 6 f fd ["script"] (spOf W F_law) :=
  fn_snd (k := 5) (N := ["script", "k", "well", "turn", "both", "files", "counts", "name", "text", "good", "due", "told", "one", "way"]) (ps := ["script"]) Fu sc_law fun cdv A outer s H E C =>
  (ss_cons (ss_for C (si_rng1 C.toCtx0 G.n_range (sa_cons (se_blt C.toCtx0 (call_maxF C) G.n_max (by decide +kernel) (sa_cons se_int (sa_cons (se_blt C.toCtx0 (call_minF C) G.n_min (by decide +kernel) (sa_cons se_int (sa_cons (se_blt C.toCtx0 (call_lenF C.toCtx0) G.n_len (by decide +kernel) (sa_cons (se_var 0) sa_nil)) sa_nil))) sa_nil))) sa_nil)) (sg_name 1 C.nd) (ss_cons (ss_set 2 C.nd (se_call C c_law_well (by omega) (sa_cons (se_var 0) (sa_cons (se_var 1) sa_nil))))
  (ss_cons (ss_par3 4 5 6 C (sa_cons (se_lst (sa_cons (se_make0 C cShelf___init__ (by omega)) (sa_cons (se_make0 C cShelf___init__ (by omega)) sa_nil))) (sa_cons (se_lst (sa_cons se_dnew (sa_cons se_dnew sa_nil))) (sa_cons (se_lst (sa_cons se_dnew (sa_cons se_dnew sa_nil))) sa_nil))))
  (ss_one (ss_for C (si_rng1 C.toCtx0 G.n_range (sa_cons se_int sa_nil)) (sg_name 3 C.nd) (ss_cons (ss_par 12 13 C (sa_cons (se_call C c_law_take (by omega) (sa_cons (se_var 2) (sa_cons se_int sa_nil))) (sa_cons (se_call C c_law_take (by omega) (sa_cons (se_var 2) (sa_cons se_int sa_nil))) sa_nil)))
  (ss_cons (ss_set 7 C.nd (se_ix (ix_F C.toCtx0) (se_lst (sa_cons (se_str [97]) (sa_cons (se_str [98]) (sa_cons (se_str [97, 98, 99, 100, 101, 102, 103, 104, 105, 106, 107, 108]) (sa_cons (se_str [97, 98, 99, 100, 101, 102, 103, 104, 105, 106, 107, 108, 109]) (sa_cons (se_str []) (sa_cons (se_str [65]) (sa_cons se_int (sa_cons (se_tup (sa_cons (se_str [97]) sa_nil)) (sa_cons (se_str [97, 32, 98]) sa_nil)))))))))) (se_call C c_law_take (by omega) (sa_cons (se_var 2) (sa_cons se_int sa_nil)))))
  (ss_cons (ss_set 8 C.nd (se_ix (ix_F C.toCtx0) (se_lst (sa_cons (se_call C c_law_text (by omega) (sa_cons (se_var 2) (sa_cons se_int sa_nil))) (sa_cons (se_call C c_law_text (by omega) (sa_cons (se_var 2) (sa_cons se_int sa_nil))) (sa_cons (se_call C c_law_thing (by omega) (sa_cons (se_var 2) (sa_cons se_int sa_nil))) (sa_cons (se_tup sa_nil) sa_nil))))) (se_call C c_law_take (by omega) (sa_cons (se_var 2) (sa_cons se_int sa_nil)))))
  (ss_cons (ss_set 9 C.nd (se_cmp (op_inF C.toCtx0) (se_var 7) (se_lst (sa_cons (se_str [97]) (sa_cons (se_str [98]) (sa_cons (se_str [97, 98, 99, 100, 101, 102, 103, 104, 105, 106, 107, 108]) sa_nil))))))
  (ss_cons (ss_set 10 C.nd (se_if (sc_w (sw_or (sc_not (sc_val (se_var 9))) (sw_one2 (sc_cmp (op_notinF C.toCtx0) (se_var 7) (se_ix (ix_F C.toCtx0) (se_var 5) (se_var 12)))))) (se_str [102, 105, 108, 101]) se_non))
  (ss_cons (ss_if (sc_cmp (op_eqF C.toCtx0) (se_var 13) se_int) (ss_cons (ss_set 10 C.nd (se_if (sc_not (sc_val (se_var 9))) (se_str [110, 97, 109, 101]) (se_str [116, 101, 120, 116])))
  (ss_one (ss_if (sc_w (sw_and (sc_val (se_var 9)) (sw_one1 (sc_val (se_call C c_law_is_text (by omega) (sa_cons (se_var 8) sa_nil)))))) (ss_cons (ss_asg (se_op (op_addF C.toCtx0) (se_mt C.toCtx0 PySem.F.plainAttrs_dict PySem.F.slot_dict_get PySem.F.type_dict_get (mt_dgetF C.toCtx0) (se_ix (ix_F C.toCtx0) (se_var 6) (se_var 12)) (sa_cons (se_var 7) (sa_cons se_int sa_nil))) se_int) (sg_sub C.toCtx0 (se_ix (ix_F C.toCtx0) (se_var 6) (se_var 12)) (se_var 7) (set_F C.toCtx0)))
  (ss_cons (ss_asg (se_var 8) (sg_sub C.toCtx0 (se_ix (ix_F C.toCtx0) (se_var 5) (se_var 12)) (se_var 7) (set_F C.toCtx0)))
  (ss_one (ss_set 10 C.nd (se_ix (ix_F C.toCtx0) (se_ix (ix_F C.toCtx0) (se_var 6) (se_var 12)) (se_var 7)))))) ss_nil))) (ss_one (ss_if (sc_w (sw_and (sc_cmp op_isF (se_var 10) se_non) (sw_one1 (sc_cmp (op_eqF C.toCtx0) (se_var 13) se_int)))) (ss_one (ss_set 10 C.nd (se_tup (sa_cons (se_ix (ix_F C.toCtx0) (se_ix (ix_F C.toCtx0) (se_var 5) (se_var 12)) (se_var 7)) (sa_cons (se_ix (ix_F C.toCtx0) (se_ix (ix_F C.toCtx0) (se_var 6) (se_var 12)) (se_var 7)) sa_nil))))) (ss_one (ss_if (sc_cmp op_isF (se_var 10) se_non) (ss_one (ss_expr (se_mt C.toCtx0 PySem.F.plainAttrs_dict PySem.F.slot_dict_pop PySem.F.type_dict_pop mt_dpopF (se_ix (ix_F C.toCtx0) (se_var 5) (se_var 12)) (sa_cons (se_var 7) sa_nil)))) ss_nil)))))
  (ss_cons (ss_if (sc_cmp (op_neF C.toCtx0) (se_call C c_law_done (by omega) (sa_cons (se_ix (ix_F C.toCtx0) (se_var 4) (se_var 12)) (sa_cons (se_var 13) (sa_cons (se_var 7) (sa_cons (se_var 8) sa_nil))))) (se_var 10)) (ss_one (ss_ret se_bl)) ss_nil)
  (ss_cons (ss_set 11 C.nd (se_meth0 C cShelf_names (by omega) (se_ix (ix_F C.toCtx0) (se_var 4) (se_var 12))))
  (ss_cons (ss_if (sc_w (sw_or (sc_cmp (op_neF C.toCtx0) (se_var 11) (se_blt C.toCtx0 (call_sortDF C.toCtx0 C.calm) G.n_sorted (by decide +kernel) (sa_cons (se_ix (ix_F C.toCtx0) (se_var 5) (se_var 12)) sa_nil))) (sw_or (sc_cmp (op_neF C.toCtx0) (se_meth0 C cShelf_journals (by omega) (se_ix (ix_F C.toCtx0) (se_var 4) (se_var 12))) (se_lst sa_nil)) (sw_one2 (sc_cmp op_isnF (se_meth C cShelf_journal (by omega) (se_ix (ix_F C.toCtx0) (se_var 4) (se_var 12)) (sa_cons (se_var 7) sa_nil)) se_non))))) (ss_one (ss_ret se_bl)) ss_nil)
  (ss_cons (ss_expr (se_mt C.toCtx0 PySem.F.plainAttrs_list PySem.F.slot_list_append PySem.F.type_list_append mt_appendF (se_var 11) (sa_cons (se_str [111, 100, 100]) sa_nil)))
  (ss_one (ss_if (sc_w (sw_or (sc_cmp (op_neF C.toCtx0) (se_meth0 C cShelf_names (by omega) (se_ix (ix_F C.toCtx0) (se_var 4) (se_var 12))) (se_blt C.toCtx0 (call_sortDF C.toCtx0 C.calm) G.n_sorted (by decide +kernel) (sa_cons (se_ix (ix_F C.toCtx0) (se_var 5) (se_var 12)) sa_nil))) (sw_one2 (sc_cmp (op_neF C.toCtx0) (se_meth0 C cShelf_names (by omega) (se_ix (ix_F C.toCtx0) (se_var 4) (se_op op_subF se_int (se_var 12)))) (se_blt C.toCtx0 (call_sortDF C.toCtx0 C.calm) G.n_sorted (by decide +kernel) (sa_cons (se_ix (ix_F C.toCtx0) (se_var 5) (se_op op_subF se_int (se_var 12))) sa_nil)))))) (ss_one (ss_ret se_bl)) ss_nil)))))))))))))))))
  (ss_one (ss_ret se_bl)))
end K61
namespace K61
open PySem PySem.Spec PyProof.Rows L2 FL
abbrev LL : PySem.W.OpenLaw := PySem.Challenge.rw_keyroom_k61_shelves_by_hand
abbrev RR : PySem.W.OpenRow := PySem.W.OpenLaw.row LL
def d_are_signs : He.FnD := ⟨("are_signs", none), "are_signs", "are_signs", defArgs s_are_signs, defBody s_are_signs, defScope s_are_signs⟩
def d_is_text : He.FnD := ⟨("is_text", none), "is_text", "is_text", defArgs s_is_text, defBody s_is_text, defScope s_is_text⟩
def d_is_name : He.FnD := ⟨("is_name", none), "is_name", "is_name", defArgs s_is_name, defBody s_is_name, defScope s_is_name⟩
def d_Shelf___init__ : He.FnD := ⟨("Shelf", some "__init__"), "__init__", "Shelf.__init__", defArgs s_Shelf___init__, defBody s_Shelf___init__, defScope s_Shelf___init__⟩
def d_Shelf_put : He.FnD := ⟨("Shelf", some "put"), "put", "Shelf.put", defArgs s_Shelf_put, defBody s_Shelf_put, defScope s_Shelf_put⟩
def d_Shelf_has : He.FnD := ⟨("Shelf", some "has"), "has", "Shelf.has", defArgs s_Shelf_has, defBody s_Shelf_has, defScope s_Shelf_has⟩
def d_Shelf_get : He.FnD := ⟨("Shelf", some "get"), "get", "Shelf.get", defArgs s_Shelf_get, defBody s_Shelf_get, defScope s_Shelf_get⟩
def d_Shelf_drop : He.FnD := ⟨("Shelf", some "drop"), "drop", "Shelf.drop", defArgs s_Shelf_drop, defBody s_Shelf_drop, defScope s_Shelf_drop⟩
def d_Shelf_names : He.FnD := ⟨("Shelf", some "names"), "names", "Shelf.names", defArgs s_Shelf_names, defBody s_Shelf_names, defScope s_Shelf_names⟩
def d_Shelf_journal : He.FnD := ⟨("Shelf", some "journal"), "journal", "Shelf.journal", defArgs s_Shelf_journal, defBody s_Shelf_journal, defScope s_Shelf_journal⟩
def d_Shelf_journals : He.FnD := ⟨("Shelf", some "journals"), "journals", "Shelf.journals", defArgs s_Shelf_journals, defBody s_Shelf_journals, defScope s_Shelf_journals⟩
def d__law_well : He.FnD := ⟨("_law_well", none), "_law_well", "_law_well", defArgs s__law_well, defBody s__law_well, defScope s__law_well⟩
def d__law_take : He.FnD := ⟨("_law_take", none), "_law_take", "_law_take", defArgs s__law_take, defBody s__law_take, defScope s__law_take⟩
def d__law_thing : He.FnD := ⟨("_law_thing", none), "_law_thing", "_law_thing", defArgs s__law_thing, defBody s__law_thing, defScope s__law_thing⟩
def d__law_row : He.FnD := ⟨("_law_row", none), "_law_row", "_law_row", defArgs s__law_row, defBody s__law_row, defScope s__law_row⟩
def d__law_text : He.FnD := ⟨("_law_text", none), "_law_text", "_law_text", defArgs s__law_text, defBody s__law_text, defScope s__law_text⟩
def d__law_is_signs : He.FnD := ⟨("_law_is_signs", none), "_law_is_signs", "_law_is_signs", defArgs s__law_is_signs, defBody s__law_is_signs, defScope s__law_is_signs⟩
def d__law_is_text : He.FnD := ⟨("_law_is_text", none), "_law_is_text", "_law_is_text", defArgs s__law_is_text, defBody s__law_is_text, defScope s__law_is_text⟩
def d__law_kinds : He.FnD := ⟨("_law_kinds", none), "_law_kinds", "_law_kinds", defArgs s__law_kinds, defBody s__law_kinds, defScope s__law_kinds⟩
def d__law_refusal : He.FnD := ⟨("_law_refusal", none), "_law_refusal", "_law_refusal", defArgs s__law_refusal, defBody s__law_refusal, defScope s__law_refusal⟩
def d__law_done : He.FnD := ⟨("_law_done", none), "_law_done", "_law_done", defArgs s__law_done, defBody s__law_done, defScope s__law_done⟩
def d_law : He.FnD := ⟨("law", none), "law", "law", defArgs s_law, defBody s_law, defScope s_law⟩
def fn : List He.FnD := [d_are_signs, d_is_text, d_is_name, d_Shelf___init__, d_Shelf_put, d_Shelf_has, d_Shelf_get, d_Shelf_drop, d_Shelf_names, d_Shelf_journal, d_Shelf_journals, d__law_well, d__law_take, d__law_thing, d__law_row, d__law_text, d__law_is_signs, d__law_is_text, d__law_kinds, d__law_refusal, d__law_done, d_law]
def fa0 : List He.Fa := [.glo "are_signs", .keep "are_signs", .glo "is_text", .keep "is_text", .glo "is_name", .keep "is_name", .cls "Shelf", .meth "Shelf" "__init__", .glo "Shelf", .mkr "Shelf", .meth "Shelf" "put", .meth "Shelf" "has", .meth "Shelf" "get", .meth "Shelf" "drop", .meth "Shelf" "names", .meth "Shelf" "journal", .meth "Shelf" "journals", .glo "_law_well", .keep "_law_well", .glo "_law_take", .keep "_law_take", .glo "_law_thing", .keep "_law_thing", .glo "_law_row"]
def fa1 : List He.Fa := [.keep "_law_row", .glo "_law_text", .keep "_law_text", .glo "_law_is_signs", .keep "_law_is_signs", .glo "_law_is_text", .keep "_law_is_text", .glo "_law_kinds", .keep "_law_kinds", .glo "_law_refusal", .keep "_law_refusal", .glo "_law_done", .keep "_law_done", .glo "law", .keep "law", .noat "Shelf" "files", .noat "Shelf" "stories", .noat "Shelf" "counts", .free "len", .free "min", .free "max", .free "range", .free "sorted", .free "list"]
def fa2 : List He.Fa := [.free "str", .free "isinstance", .free "all", .free "tuple", .free "ord", .free "zip", .free "ValueError", .int "PERCENT" 37, .int "SIGNS" 120, .int "ROWS" 200, .str "LETTERS" (St' [97, 98, 99, 100, 101, 102, 103, 104, 105, 106, 107, 108, 109, 110, 111, 112, 113, 114, 115, 116, 117, 118, 119, 120, 121, 122]), .int "MOST_NAME" 12, .glo "RoomError", .glo "NoFile", .glo "NoText", .glo "NoName", .glo "Busy", .glo "NoPlug", .glo "NoWindow", .glo "NoNode", .glo "Clash", .glo "Stale", .glo "Twice", .glo "TooGreat"]
def fa : List He.Fa := fa0 ++ fa1 ++ fa2
def loose0 : List PySem.Str := ["_wall", "RoomError", "TooGreat", "NoFile", "NoName", "Twice", "Stale", "Clash", "NoNode", "NoWindow", "NoPlug", "NoText", "Busy", "LETTERS", "ROWS", "SIGNS", "PERCENT", "are_signs", "is_text", "MOST_NAME", "is_name", "Shelf", "_law_well", "_law_take"]
def loose1 : List PySem.Str := ["_law_thing", "_law_row", "_law_text", "_law_is_signs", "_law_is_text", "_law_kinds", "_law_refusal", "_law_done"]
def loose : List PySem.Str := loose0 ++ loose1
def ex : List (PySem.W.Frag → Bool) := [excFB true "NoFile", excFB true "NoText", excFB true "NoName", tryB ["RoomError"] tab_RoomError, isB isT isY]
abbrev hk : PySem.W.Hook := hookF 5 fa fn ex
def ob (s : PySem.W.SharedT) : Bool × He.Al := obsFG 5 fa fn ex (HandSHeadRun.getT s)
theorem ob_eq (s : PySem.W.SharedT) : ob s = hk.obs s.abs := obsFG_eq (HandSHeadRun.getT_eq s)
theorem run (w : World) : HandSHeadRun.RunEq RR (PySem.W.view RR.prog [36]) hk ob 60000 loose w := by
  intro os
  kernel_rfl
section
variable {W : Wd} {h : Heap}
theorem has_are_signs (X : W.K.In h) (G : h.Ns mainGlobals W.mg) (c : SaysF fa fn ex W.K) : Has W "are_signs" s_are_signs := by
  obtain ⟨oc, od, osl, kV, doc, pm, an, cdv, ct, l, cd⟩ := c.def_ 0 (d := d_are_signs) rfl
  exact ⟨_, _, He.glo_ok X G (c.fact 0 (f := .glo "are_signs") rfl), fun_mk (st := s_are_signs) l cd (He.keep_ok (c.fact 1 (f := .keep "are_signs") rfl))⟩
theorem has_is_text (X : W.K.In h) (G : h.Ns mainGlobals W.mg) (c : SaysF fa fn ex W.K) : Has W "is_text" s_is_text := by
  obtain ⟨oc, od, osl, kV, doc, pm, an, cdv, ct, l, cd⟩ := c.def_ 1 (d := d_is_text) rfl
  exact ⟨_, _, He.glo_ok X G (c.fact 2 (f := .glo "is_text") rfl), fun_mk (st := s_is_text) l cd (He.keep_ok (c.fact 3 (f := .keep "is_text") rfl))⟩
theorem has_is_name (X : W.K.In h) (G : h.Ns mainGlobals W.mg) (c : SaysF fa fn ex W.K) : Has W "is_name" s_is_name := by
  obtain ⟨oc, od, osl, kV, doc, pm, an, cdv, ct, l, cd⟩ := c.def_ 2 (d := d_is_name) rfl
  exact ⟨_, _, He.glo_ok X G (c.fact 4 (f := .glo "is_name") rfl), fun_mk (st := s_is_name) l cd (He.keep_ok (c.fact 5 (f := .keep "is_name") rfl))⟩
theorem has_Shelf___init__ (X : W.K.In h) (G : h.Ns mainGlobals W.mg) (c : SaysF fa fn ex W.K) : HasI W "Shelf" "Shelf.__init__" s_Shelf___init__ := by
  obtain ⟨oc, od, osl, kV, doc, pm, an, cdv, ct, l, cd⟩ := c.def_ 3 (d := d_Shelf___init__) rfl
  have M := He.meth_ok (c.fact 7 (f := .meth "Shelf" "__init__") rfl)
  exact ⟨_, _, He.glo_ok X G (c.fact 8 (f := .glo "Shelf") rfl), He.mkr_ok (c.fact 9 (f := .mkr "Shelf") rfl), fun_mk (st := s_Shelf___init__) l cd M.kp⟩
theorem has_Shelf_put (X : W.K.In h) (G : h.Ns mainGlobals W.mg) (c : SaysF fa fn ex W.K) : HasM W "Shelf" "put" "Shelf.put" s_Shelf_put := by
  obtain ⟨oc, od, osl, kV, doc, pm, an, cdv, ct, l, cd⟩ := c.def_ 4 (d := d_Shelf_put) rfl
  have M := He.meth_ok (c.fact 10 (f := .meth "Shelf" "put") rfl)
  exact ⟨He.cls_ok (c.fact 6 (f := .cls "Shelf") rfl), _, _, M, fun_mk (st := s_Shelf_put) l cd M.kp⟩
theorem has_Shelf_has (X : W.K.In h) (G : h.Ns mainGlobals W.mg) (c : SaysF fa fn ex W.K) : HasM W "Shelf" "has" "Shelf.has" s_Shelf_has := by
  obtain ⟨oc, od, osl, kV, doc, pm, an, cdv, ct, l, cd⟩ := c.def_ 5 (d := d_Shelf_has) rfl
  have M := He.meth_ok (c.fact 11 (f := .meth "Shelf" "has") rfl)
  exact ⟨He.cls_ok (c.fact 6 (f := .cls "Shelf") rfl), _, _, M, fun_mk (st := s_Shelf_has) l cd M.kp⟩
theorem has_Shelf_get (X : W.K.In h) (G : h.Ns mainGlobals W.mg) (c : SaysF fa fn ex W.K) : HasM W "Shelf" "get" "Shelf.get" s_Shelf_get := by
  obtain ⟨oc, od, osl, kV, doc, pm, an, cdv, ct, l, cd⟩ := c.def_ 6 (d := d_Shelf_get) rfl
  have M := He.meth_ok (c.fact 12 (f := .meth "Shelf" "get") rfl)
  exact ⟨He.cls_ok (c.fact 6 (f := .cls "Shelf") rfl), _, _, M, fun_mk (st := s_Shelf_get) l cd M.kp⟩
theorem has_Shelf_drop (X : W.K.In h) (G : h.Ns mainGlobals W.mg) (c : SaysF fa fn ex W.K) : HasM W "Shelf" "drop" "Shelf.drop" s_Shelf_drop := by
  obtain ⟨oc, od, osl, kV, doc, pm, an, cdv, ct, l, cd⟩ := c.def_ 7 (d := d_Shelf_drop) rfl
  have M := He.meth_ok (c.fact 13 (f := .meth "Shelf" "drop") rfl)
  exact ⟨He.cls_ok (c.fact 6 (f := .cls "Shelf") rfl), _, _, M, fun_mk (st := s_Shelf_drop) l cd M.kp⟩
theorem has_Shelf_names (X : W.K.In h) (G : h.Ns mainGlobals W.mg) (c : SaysF fa fn ex W.K) : HasM W "Shelf" "names" "Shelf.names" s_Shelf_names := by
  obtain ⟨oc, od, osl, kV, doc, pm, an, cdv, ct, l, cd⟩ := c.def_ 8 (d := d_Shelf_names) rfl
  have M := He.meth_ok (c.fact 14 (f := .meth "Shelf" "names") rfl)
  exact ⟨He.cls_ok (c.fact 6 (f := .cls "Shelf") rfl), _, _, M, fun_mk (st := s_Shelf_names) l cd M.kp⟩
theorem has_Shelf_journal (X : W.K.In h) (G : h.Ns mainGlobals W.mg) (c : SaysF fa fn ex W.K) : HasM W "Shelf" "journal" "Shelf.journal" s_Shelf_journal := by
  obtain ⟨oc, od, osl, kV, doc, pm, an, cdv, ct, l, cd⟩ := c.def_ 9 (d := d_Shelf_journal) rfl
  have M := He.meth_ok (c.fact 15 (f := .meth "Shelf" "journal") rfl)
  exact ⟨He.cls_ok (c.fact 6 (f := .cls "Shelf") rfl), _, _, M, fun_mk (st := s_Shelf_journal) l cd M.kp⟩
theorem has_Shelf_journals (X : W.K.In h) (G : h.Ns mainGlobals W.mg) (c : SaysF fa fn ex W.K) : HasM W "Shelf" "journals" "Shelf.journals" s_Shelf_journals := by
  obtain ⟨oc, od, osl, kV, doc, pm, an, cdv, ct, l, cd⟩ := c.def_ 10 (d := d_Shelf_journals) rfl
  have M := He.meth_ok (c.fact 16 (f := .meth "Shelf" "journals") rfl)
  exact ⟨He.cls_ok (c.fact 6 (f := .cls "Shelf") rfl), _, _, M, fun_mk (st := s_Shelf_journals) l cd M.kp⟩
theorem has__law_well (X : W.K.In h) (G : h.Ns mainGlobals W.mg) (c : SaysF fa fn ex W.K) : Has W "_law_well" s__law_well := by
  obtain ⟨oc, od, osl, kV, doc, pm, an, cdv, ct, l, cd⟩ := c.def_ 11 (d := d__law_well) rfl
  exact ⟨_, _, He.glo_ok X G (c.fact 17 (f := .glo "_law_well") rfl), fun_mk (st := s__law_well) l cd (He.keep_ok (c.fact 18 (f := .keep "_law_well") rfl))⟩
theorem has__law_take (X : W.K.In h) (G : h.Ns mainGlobals W.mg) (c : SaysF fa fn ex W.K) : Has W "_law_take" s__law_take := by
  obtain ⟨oc, od, osl, kV, doc, pm, an, cdv, ct, l, cd⟩ := c.def_ 12 (d := d__law_take) rfl
  exact ⟨_, _, He.glo_ok X G (c.fact 19 (f := .glo "_law_take") rfl), fun_mk (st := s__law_take) l cd (He.keep_ok (c.fact 20 (f := .keep "_law_take") rfl))⟩
theorem has__law_thing (X : W.K.In h) (G : h.Ns mainGlobals W.mg) (c : SaysF fa fn ex W.K) : Has W "_law_thing" s__law_thing := by
  obtain ⟨oc, od, osl, kV, doc, pm, an, cdv, ct, l, cd⟩ := c.def_ 13 (d := d__law_thing) rfl
  exact ⟨_, _, He.glo_ok X G (c.fact 21 (f := .glo "_law_thing") rfl), fun_mk (st := s__law_thing) l cd (He.keep_ok (c.fact 22 (f := .keep "_law_thing") rfl))⟩
theorem has__law_row (X : W.K.In h) (G : h.Ns mainGlobals W.mg) (c : SaysF fa fn ex W.K) : Has W "_law_row" s__law_row := by
  obtain ⟨oc, od, osl, kV, doc, pm, an, cdv, ct, l, cd⟩ := c.def_ 14 (d := d__law_row) rfl
  exact ⟨_, _, He.glo_ok X G (c.fact 23 (f := .glo "_law_row") rfl), fun_mk (st := s__law_row) l cd (He.keep_ok (c.fact 24 (f := .keep "_law_row") rfl))⟩
theorem has__law_text (X : W.K.In h) (G : h.Ns mainGlobals W.mg) (c : SaysF fa fn ex W.K) : Has W "_law_text" s__law_text := by
  obtain ⟨oc, od, osl, kV, doc, pm, an, cdv, ct, l, cd⟩ := c.def_ 15 (d := d__law_text) rfl
  exact ⟨_, _, He.glo_ok X G (c.fact 25 (f := .glo "_law_text") rfl), fun_mk (st := s__law_text) l cd (He.keep_ok (c.fact 26 (f := .keep "_law_text") rfl))⟩
theorem has__law_is_signs (X : W.K.In h) (G : h.Ns mainGlobals W.mg) (c : SaysF fa fn ex W.K) : Has W "_law_is_signs" s__law_is_signs := by
  obtain ⟨oc, od, osl, kV, doc, pm, an, cdv, ct, l, cd⟩ := c.def_ 16 (d := d__law_is_signs) rfl
  exact ⟨_, _, He.glo_ok X G (c.fact 27 (f := .glo "_law_is_signs") rfl), fun_mk (st := s__law_is_signs) l cd (He.keep_ok (c.fact 28 (f := .keep "_law_is_signs") rfl))⟩
theorem has__law_is_text (X : W.K.In h) (G : h.Ns mainGlobals W.mg) (c : SaysF fa fn ex W.K) : Has W "_law_is_text" s__law_is_text := by
  obtain ⟨oc, od, osl, kV, doc, pm, an, cdv, ct, l, cd⟩ := c.def_ 17 (d := d__law_is_text) rfl
  exact ⟨_, _, He.glo_ok X G (c.fact 29 (f := .glo "_law_is_text") rfl), fun_mk (st := s__law_is_text) l cd (He.keep_ok (c.fact 30 (f := .keep "_law_is_text") rfl))⟩
theorem has__law_kinds (X : W.K.In h) (G : h.Ns mainGlobals W.mg) (c : SaysF fa fn ex W.K) : Has W "_law_kinds" s__law_kinds := by
  obtain ⟨oc, od, osl, kV, doc, pm, an, cdv, ct, l, cd⟩ := c.def_ 18 (d := d__law_kinds) rfl
  exact ⟨_, _, He.glo_ok X G (c.fact 31 (f := .glo "_law_kinds") rfl), fun_mk (st := s__law_kinds) l cd (He.keep_ok (c.fact 32 (f := .keep "_law_kinds") rfl))⟩
theorem has__law_refusal (X : W.K.In h) (G : h.Ns mainGlobals W.mg) (c : SaysF fa fn ex W.K) : Has W "_law_refusal" s__law_refusal := by
  obtain ⟨oc, od, osl, kV, doc, pm, an, cdv, ct, l, cd⟩ := c.def_ 19 (d := d__law_refusal) rfl
  exact ⟨_, _, He.glo_ok X G (c.fact 33 (f := .glo "_law_refusal") rfl), fun_mk (st := s__law_refusal) l cd (He.keep_ok (c.fact 34 (f := .keep "_law_refusal") rfl))⟩
theorem has__law_done (X : W.K.In h) (G : h.Ns mainGlobals W.mg) (c : SaysF fa fn ex W.K) : Has W "_law_done" s__law_done := by
  obtain ⟨oc, od, osl, kV, doc, pm, an, cdv, ct, l, cd⟩ := c.def_ 20 (d := d__law_done) rfl
  exact ⟨_, _, He.glo_ok X G (c.fact 35 (f := .glo "_law_done") rfl), fun_mk (st := s__law_done) l cd (He.keep_ok (c.fact 36 (f := .keep "_law_done") rfl))⟩
theorem fun_law (c : SaysF fa fn ex W.K) : ∃ fd, Fun W.K "law" "law" s_law (He.ga W.K "law") fd ∧ ∀ v, bindArgs fd ⟨[v], []⟩ = pure [(("script" : Str), v)] := by
  obtain ⟨oc, od, osl, kV, doc, pm, an, cdv, ct, l, cd⟩ := c.def_ 21 (d := d_law) rfl
  exact ⟨_, fun_mk (st := s_law) l cd (He.keep_ok (c.fact 38 (f := .keep "law") rfl)), fun v => rfl⟩
theorem gb_of (X : W.K.In h) (G : h.Ns mainGlobals W.mg) (c : SaysF fa fn ex W.K) : Gb W := ⟨He.free_ok X G (c.fact 42 (f := .free "len") rfl),
  He.free_ok X G (c.fact 43 (f := .free "min") rfl),
  He.free_ok X G (c.fact 44 (f := .free "max") rfl),
  He.free_ok X G (c.fact 45 (f := .free "range") rfl),
  He.free_ok X G (c.fact 46 (f := .free "sorted") rfl),
  He.free_ok X G (c.fact 47 (f := .free "list") rfl),
  He.free_ok X G (c.fact 48 (f := .free "str") rfl),
  He.free_ok X G (c.fact 49 (f := .free "isinstance") rfl),
  He.free_ok X G (c.fact 50 (f := .free "all") rfl),
  He.free_ok X G (c.fact 51 (f := .free "tuple") rfl),
  He.free_ok X G (c.fact 52 (f := .free "ord") rfl),
  He.free_ok X G (c.fact 53 (f := .free "zip") rfl),
  He.free_ok X G (c.fact 54 (f := .free "ValueError") rfl),
  He.int_ok X G (c.fact 55 (f := .int "PERCENT" 37) rfl),
  He.int_ok X G (c.fact 56 (f := .int "SIGNS" 120) rfl),
  He.int_ok X G (c.fact 57 (f := .int "ROWS" 200) rfl),
  He.str_ok X G (c.fact 58 (f := .str "LETTERS" (St' [97, 98, 99, 100, 101, 102, 103, 104, 105, 106, 107, 108, 109, 110, 111, 112, 113, 114, 115, 116, 117, 118, 119, 120, 121, 122])) rfl),
  He.int_ok X G (c.fact 59 (f := .int "MOST_NAME" 12) rfl),
  He.glo_ok X G (c.fact 60 (f := .glo "RoomError") rfl),
  He.glo_ok X G (c.fact 61 (f := .glo "NoFile") rfl),
  He.glo_ok X G (c.fact 62 (f := .glo "NoText") rfl),
  He.glo_ok X G (c.fact 63 (f := .glo "NoName") rfl),
  He.glo_ok X G (c.fact 64 (f := .glo "Busy") rfl),
  He.glo_ok X G (c.fact 65 (f := .glo "NoPlug") rfl),
  He.glo_ok X G (c.fact 66 (f := .glo "NoWindow") rfl),
  He.glo_ok X G (c.fact 67 (f := .glo "NoNode") rfl),
  He.glo_ok X G (c.fact 68 (f := .glo "Clash") rfl),
  He.glo_ok X G (c.fact 69 (f := .glo "Stale") rfl),
  He.glo_ok X G (c.fact 70 (f := .glo "Twice") rfl),
  He.glo_ok X G (c.fact 71 (f := .glo "TooGreat") rfl),
  excF_ok (He.glo_ok X G (c.fact 61 (f := .glo "NoFile") rfl)) (c.more 0 (f := excFB true "NoFile") rfl),
  excF_ok (He.glo_ok X G (c.fact 62 (f := .glo "NoText") rfl)) (c.more 1 (f := excFB true "NoText") rfl),
  excF_ok (He.glo_ok X G (c.fact 63 (f := .glo "NoName") rfl)) (c.more 2 (f := excFB true "NoName") rfl),
  try_ok (c.more 3 (f := tryB ["RoomError"] tab_RoomError) rfl),
  is_ok (c.more 4 (f := isB isT isY) rfl),
  clsF_cons (He.cls_ok (c.fact 6 (f := .cls "Shelf") rfl)) (He.noat_ok (c.fact 39 (f := .noat "Shelf" "files") rfl)) clsF_nil,
  clsF_cons (He.cls_ok (c.fact 6 (f := .cls "Shelf") rfl)) (He.noat_ok (c.fact 40 (f := .noat "Shelf" "stories") rfl)) clsF_nil,
  clsF_cons (He.cls_ok (c.fact 6 (f := .cls "Shelf") rfl)) (He.noat_ok (c.fact 41 (f := .noat "Shelf" "counts") rfl)) clsF_nil⟩
end
theorem law_ok (ns : List Int) (h : ns.length ≤ 63) : ∃ st', F_law [.scr ns] [] = some (.ok (.bl true) st') := by
  obtain ⟨r, h1, h2⟩ := law_spec (st := []) h
  cases r with
  | ok v st' =>
    have e : v = .bl true := h2
    subst e
    exact ⟨st', h1⟩
  | ex c st' => exact h2.elim
theorem all_ok {W : Wd} (hW : W.hot = none) (X : W.K.In W.base) (G : W.base.Ns mainGlobals W.mg) (c : SaysF fa fn ex W.K) {f : Addr} {fd : FuncData} (Fu : Fun W.K "law" "law" s_law f fd) : FnOk W.P W.w W.K W.mg W.base (L2N.CX W.P W.w) 6 f fd ["script"] (spLaw W.K) := by
  have gb := gb_of X G c
  have cShelf_names := ok_Shelf_names gb (has_Shelf_names X G c) 
  have cShelf_journal := ok_Shelf_journal gb (has_Shelf_journal X G c) 
  have cShelf_journals := ok_Shelf_journals gb (has_Shelf_journals X G c) 
  have cShelf_has := ok_Shelf_has gb (has_Shelf_has X G c) 
  have cShelf_get := ok_Shelf_get gb (has_Shelf_get X G c) cShelf_has
  have cShelf_drop := ok_Shelf_drop gb (has_Shelf_drop X G c) cShelf_has
  have care_signs := ok_are_signs gb (has_are_signs X G c) 
  have cis_text := ok_is_text gb (has_is_text X G c) care_signs
  have cis_name := ok_is_name gb (has_is_name X G c) 
  have cShelf_put := ok_Shelf_put gb (has_Shelf_put X G c) cis_text cis_name
  have h_law_kinds := fun p => okH__law_kinds (pp := p) rfl (gb_at gb p) ((has__law_kinds X G c).at p) 
  have h_law_refusal := fun p => okH__law_refusal (pp := p) rfl (gb_at gb p) ((has__law_refusal X G c).at p) (h_law_kinds p)
  have c_law_done := ok__law_done gb (has__law_done X G c) cShelf_get cShelf_drop cShelf_put h_law_refusal
  have c_law_is_signs := ok__law_is_signs gb (has__law_is_signs X G c) 
  have c_law_is_text := ok__law_is_text gb (has__law_is_text X G c) c_law_is_signs
  have c_law_take := ok__law_take gb (has__law_take X G c) 
  have c_law_thing := ok__law_thing gb (has__law_thing X G c) c_law_take 3
  have c_law_row := ok__law_row gb (has__law_row X G c) c_law_take
  have c_law_text := ok__law_text gb (has__law_text X G c) c_law_take c_law_row
  have cShelf___init__ := ok_Shelf___init__ gb (has_Shelf___init__ X G c) 
  have c_law_well := ok__law_well gb (has__law_well X G c) 
  exact (ok_law gb Fu cShelf_names cShelf_journal cShelf_journals c_law_done c_law_is_text c_law_thing c_law_text c_law_take cShelf___init__ c_law_well).imp fun vs H Q E z => sp_law hW law_ok z
theorem facts {w : World} {K : PySem.W.Frag} {h : Heap} {mg : Str → Option Value} {f : Addr} (X : K.In h) (G : h.Ns mainGlobals mg) (hfa : mg ("law" : Str) = some (.ref f)) (c : SaysF fa fn ex K) :
    ∃ fd : FuncData, (∀ (s : Shared) (v : Value), BindsTo s fd ⟨[v], []⟩ [("script", v)]) ∧ ∀ base : Heap, K.In base → base.Ns mainGlobals mg → FnOk LL.prog w K mg base (L2N.CX LL.prog w) 6 f fd ["script"] (spLaw K) := by
  obtain ⟨fd, F, hb⟩ := fun_law (W := ⟨LL.prog, w, K, mg, h, none⟩) c
  have e := hfa.symm.trans (He.glo_ok X G (c.fact 37 (f := .glo "law") rfl))
  cases e
  exact ⟨fd, fun s v => .of_eq (hb v), fun base KX Gb => all_ok (W := ⟨LL.prog, w, K, mg, base, none⟩) rfl KX Gb c F⟩
end K61
open PySem PySem.W PySem.Calls PyProof.Rows
theorem PySem.Challenge.cw_keyroom_k61_shelves_by_hand_holds : PySem.Challenge.rw_keyroom_k61_shelves_by_hand.Holds := by
  w_on; o_law
  refine HandSHeadRun.head_any (r := OpenLaw.row PySem.Challenge.rw_keyroom_k61_shelves_by_hand) (q := view (OpenLaw.row PySem.Challenge.rw_keyroom_k61_shelves_by_hand).prog [36]) (H := K61.hk) (ob := K61.ob) (M := 60000) (loose := K61.loose) (d := HandSHeadRun.topDef (OpenLaw.row PySem.Challenge.rw_keyroom_k61_shelves_by_hand).prog 36) (kwd := []) K61.ob_eq
    (by kernel_rfl) (fun s => by kernel_rfl) K61.run (by kernel_rfl) (by kernel_rfl) (by kernel_rfl) (by rfl) (by first | assumption | decide +kernel) (by decide +kernel) ⟨rfl, rfl, rfl, rfl, rfl, by decide +kernel⟩ ?hw ?hc
  case hw => w_witness2
  case hc =>
    refine FL.end_of (l := PySem.Challenge.rw_keyroom_k61_shelves_by_hand) (k := 6) rfl (by kernel_rfl) ⟨rfl, by decide, by decide⟩ ?F
    intro w mg fa h Y G hmg0
    obtain ⟨K, KX, c⟩ := Y
    have hmg : mg ("law" : PySem.Str) = some (.ref fa) := by
      have e : (HandSHeadRun.topDef (OpenLaw.row PySem.Challenge.rw_keyroom_k61_shelves_by_hand).prog 36).name = ("law" : PySem.Str) := by kernel_rfl
      rw [← e]
      exact hmg0
    obtain ⟨fd, hb, hF⟩ := K61.facts (w := w) KX G hmg c
    exact ⟨K, fd, KX, hb, hF⟩

