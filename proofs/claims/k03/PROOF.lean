import PyProof.Rows.All
import Wide.All
import OpenK.AllK
import Wide.FinOn
import PySem.Challenge.RW_keyroom_k03_whole_edits_and_places
import HandS.ForMost
import HandS.ForExc
import HandS.CallSlots
import HandS.IsInst
import HandS.TupAny
import HandS.TupMul
import HandS.Style
import HandS.More
import HandS.TupLe
import HandS.Wide
import PyProof.StrBlock2
import HandS.Ends
import HandS.HeadEnd
import HandS.Head0
import HandS.Head1
import HandS.Head2
import HandS.HeadHook1
import HandS.HeadHook2
import KE.KStateDown
import HandS.SortRule
import HandS.Zip
import HandS.TryOnly
set_option Elab.async false
set_option linter.all false
set_option maxRecDepth 100000
set_option maxHeartbeats 4000000
/-! FL1: a functional layer over the judgements: values as trees, a store of lists, dicts and instances; what a piece of code does is a plain function of slots and store. -/
namespace FL
open PySem PySem.Spec PyProof.Rows L2

/-- what a name may hold, without addresses: tuples are trees, whatever may change is a number of the store -/
inductive Val where
  | non
  | bl (b : Bool)
  | int (i : Int)
  | str (s : List Nat)
  | tup (xs : List Val)
  | ref (i : Nat)
  | scr (ns : List Int)
  | ty (n : String)
/-- what stands in the store -/
inductive Ob where
  | lst (xs : List Val)
  | dic (kvs : List (Key × Val))
  | ins (c : Nat) (fs : List (Str × Val))
abbrev Sto := List Ob
abbrev Sl := List (Option Val)
abbrev LINE : Nat := 16777216
abbrev St' (l : List Nat) : Str := ⟨l.toArray⟩

/-- the row's world: its written part, where its classes stand -/
structure Wd where
  P : Program
  w : World
  K : PySem.W.Frag
  mg : Str → Option Value
  base : Heap
  cl : Nat → Addr

/-- a list that nobody can change: frozen, or of the written part -/
def SqZ (K : PySem.W.Frag) (H : Hp) (a : Addr) (xs : List V) : Prop := (∃ o, H a = some (.frz o (.lst xs))) ∨ ∀ H0, SqL K H0 a xs

mutual
inductive RV (K : PySem.W.Frag) (ι : List Addr) (H : Hp) : Val → V → Prop
  | non : RV K ι H .non .non
  | bl (b : Bool) : RV K ι H (.bl b) (.bl b)
  | int (i : Int) : RV K ι H (.int i) (.int i)
  | str (s : List Nat) : RV K ι H (.str s) (.str (St' s))
  | tup {a : Addr} {vs : List V} {xs : List Val} : SqT K H a vs → RVs K ι H xs vs → RV K ι H (.tup xs) (.ref a)
  | ref {i : Nat} {a : Addr} : ι[i]? = some a → RV K ι H (.ref i) (.ref a)
  | scr {a : Addr} {ns : List Int} : SqZ K H a (ns.map V.int) → RV K ι H (.scr ns) (.ref a)
  | ty (n : String) : RV K ι H (.ty n) (.ty n)
inductive RVs (K : PySem.W.Frag) (ι : List Addr) (H : Hp) : List Val → List V → Prop
  | nil : RVs K ι H [] []
  | cons {x : Val} {v : V} {xs : List Val} {vs : List V} : RV K ι H x v → RVs K ι H xs vs → RVs K ι H (x :: xs) (v :: vs)
end

/-- what only grows: the numbers, the tuples, what is frozen -/
structure Ext0 (ι : List Addr) (H : Hp) (ι' : List Addr) (H' : Hp) : Prop where
  pre : ∀ (i : Nat) (a : Addr), ι[i]? = some a → ι'[i]? = some a
  tup : ∀ a xs, H a = some (.tup xs) → H' a = some (.tup xs)
  frz : ∀ a o u, H a = some (.frz o u) → H' a = some (.frz o u)
/-- .. and what the store does not speak of stays as it is -/
structure Ext (ι : List Addr) (H : Hp) (ι' : List Addr) (H' : Hp) : Prop extends Ext0 ι H ι' H' where
  oth : ∀ a o, H a = some o → (∀ i : Nat, ι[i]? ≠ some a) → H' a = some o ∧ ∀ i : Nat, ι'[i]? ≠ some a

section
variable {K : PySem.W.Frag} {ι ι' ι2 : List Addr} {H H' H2 : Hp}
theorem Ext.refl (ι : List Addr) (H : Hp) : Ext ι H ι H := ⟨⟨fun _ _ h => h, fun _ _ h => h, fun _ _ _ h => h⟩, fun _ _ h n => ⟨h, n⟩⟩
theorem Ext.trans (a : Ext ι H ι' H') (b : Ext ι' H' ι2 H2) : Ext ι H ι2 H2 :=
  ⟨⟨fun i x h => b.pre i x (a.pre i x h), fun i x h => b.tup i x (a.tup i x h), fun i x y h => b.frz i x y (a.frz i x y h)⟩, fun i x h n => let ⟨h1, n1⟩ := a.oth i x h n; b.oth i x h1 n1⟩
theorem Ext0.sqT (e : Ext0 ι H ι' H') {a : Addr} {xs : List V} (h : SqT K H a xs) : SqT K H' a xs := by
  rcases h with (h | ⟨o, h⟩) | h
  · exact .inl (.inl (e.tup _ _ h))
  · exact .inl (.inr ⟨o, e.frz _ _ _ h⟩)
  · exact .inr h
theorem Ext0.sqZ (e : Ext0 ι H ι' H') {a : Addr} {xs : List V} (h : SqZ K H a xs) : SqZ K H' a xs := by
  rcases h with ⟨o, h⟩ | h
  · exact .inl ⟨o, e.frz _ _ _ h⟩
  · exact .inr h
theorem SqZ.sq {a : Addr} {xs : List V} (h : SqZ K H a xs) : SqL K H a xs := by
  rcases h with ⟨o, h⟩ | h
  · exact .inl (.inr ⟨o, h⟩)
  · exact h H
mutual
theorem RV.mono0 (e : Ext0 ι H ι' H') : ∀ {x : Val} {v : V}, RV K ι H x v → RV K ι' H' x v
  | _, _, .non => .non
  | _, _, .bl b => .bl b
  | _, _, .int b => .int b
  | _, _, .str b => .str b
  | _, _, .tup s r => .tup (e.sqT s) (RVs.mono0 e r)
  | _, _, .ref h => .ref (e.pre _ _ h)
  | _, _, .scr h => .scr (e.sqZ h)
  | _, _, .ty n => .ty n
theorem RVs.mono0 (e : Ext0 ι H ι' H') : ∀ {x : List Val} {v : List V}, RVs K ι H x v → RVs K ι' H' x v
  | _, _, .nil => .nil
  | _, _, .cons a b => .cons (RV.mono0 e a) (RVs.mono0 e b)
end
theorem RV.mono (e : Ext ι H ι' H') {x : Val} {v : V} (h : RV K ι H x v) : RV K ι' H' x v := h.mono0 e.toExt0
theorem RVs.mono (e : Ext ι H ι' H') {x : List Val} {v : List V} (h : RVs K ι H x v) : RVs K ι' H' x v := h.mono0 e.toExt0
theorem RVs.len : ∀ {x : List Val} {v : List V}, RVs K ι H x v → x.length = v.length
  | _, _, .nil => rfl
  | _, _, .cons a b => congrArg (· + 1) (RVs.len b)
theorem RVs.at : ∀ {xs : List Val} {vs : List V} (i : Nat) {x : Val}, RVs K ι H xs vs → xs[i]? = some x → ∃ v, vs[i]? = some v ∧ RV K ι H x v
  | _, _, i, _, .nil, h => by simp at h
  | _, _, 0, _, .cons a b, h => by
    simp at h
    subst h
    exact ⟨_, rfl, a⟩
  | _, _, i + 1, _, .cons a b, h => by
    obtain ⟨v, h1, h2⟩ := RVs.at i b (by simpa using h)
    exact ⟨v, by simpa using h1, h2⟩
theorem RVs.app : ∀ {xs ys : List Val} {vs ws : List V}, RVs K ι H xs vs → RVs K ι H ys ws → RVs K ι H (xs ++ ys) (vs ++ ws)
  | _, _, _, _, .nil, h => h
  | _, _, _, _, .cons a b, h => .cons a (RVs.app b h)
theorem RVs.take : ∀ {xs : List Val} {vs : List V} (n : Nat), RVs K ι H xs vs → RVs K ι H (xs.take n) (vs.take n)
  | _, _, 0, _ => by simp; exact .nil
  | _, _, n + 1, .nil => by simp; exact .nil
  | _, _, n + 1, .cons a b => .cons a (RVs.take n b)
theorem RVs.drop : ∀ {xs : List Val} {vs : List V} (n : Nat), RVs K ι H xs vs → RVs K ι H (xs.drop n) (vs.drop n)
  | _, _, 0, h => h
  | _, _, n + 1, .nil => by simp; exact .nil
  | _, _, n + 1, .cons a b => RVs.drop n b
theorem RVs.rev : ∀ {xs : List Val} {vs : List V}, RVs K ι H xs vs → RVs K ι H xs.reverse vs.reverse
  | _, _, .nil => .nil
  | _, _, .cons a b => by
    rw [List.reverse_cons, List.reverse_cons]
    exact RVs.app (RVs.rev b) (.cons a .nil)
theorem RVs.set {x : Val} {v : V} (r : RV K ι H x v) : ∀ {xs : List Val} {vs : List V} (n : Nat), RVs K ι H xs vs → RVs K ι H (xs.set n x) (vs.set n v)
  | _, _, _, .nil => .nil
  | _, _, 0, .cons a b => .cons r b
  | _, _, n + 1, .cons a b => .cons a (RVs.set r n b)
theorem RVs.del : ∀ {xs : List Val} {vs : List V} (n : Nat), RVs K ι H xs vs → RVs K ι H (xs.eraseIdx n) (vs.eraseIdx n)
  | _, _, _, .nil => .nil
  | _, _, 0, .cons a b => b
  | _, _, n + 1, .cons a b => .cons a (RVs.del n b)
theorem RVs.strs : ∀ (l : List (List Nat)), RVs K ι H (l.map Val.str) ((l.map St').map V.str)
  | [] => .nil
  | x :: l => .cons (.str x) (RVs.strs l)
theorem RVs.ints : ∀ (l : List Int), RVs K ι H (l.map Val.int) (l.map V.int)
  | [] => .nil
  | x :: l => .cons (.int x) (RVs.ints l)
theorem RVs.bls : ∀ (l : List Bool), RVs K ι H (l.map Val.bl) (l.map V.bl)
  | [] => .nil
  | x :: l => .cons (.bl x) (RVs.bls l)
end

/-- the store's things as they stand in the heap -/
def RO (W : Wd) (ι : List Addr) (H : Hp) : Ob → HO → Prop
  | .lst xs, .lst vs => RVs W.K ι H xs vs
  | .dic ks, .dK ms => Paired (fun (p : Key × Val) (q : Key × V) => p.1 = q.1 ∧ RV W.K ι H p.2 q.2) ks ms
  | .ins c fs, .ins C _ gs => C = W.cl c ∧ Paired (fun (p : Str × Val) (q : Str × V) => p.1 = q.1 ∧ RV W.K ι H p.2 q.2) fs gs
  | _, _ => False

structure Rel (W : Wd) (ι : List Addr) (H : Hp) (st : Sto) : Prop where
  len : ι.length = st.length
  nd : ∀ (i j : Nat) (a : Addr), ι[i]? = some a → ι[j]? = some a → i = j
  ob : ∀ (i : Nat) (a : Addr) (o : Ob), ι[i]? = some a → st[i]? = some o → ∃ ho, H a = some ho ∧ RO W ι H o ho

section
variable {W : Wd} {ι ι' ι2 : List Addr} {H H' H2 : Hp} {st : Sto}
theorem Paired.impl {α β : Type} {F G : α → β → Prop} (f : ∀ a b, F a b → G a b) : ∀ {xs : List α} {ys : List β}, Paired F xs ys → Paired G xs ys
  | _, _, .nil => .nil
  | _, _, .cons h t => .cons (f _ _ h) (Paired.impl f t)
theorem RO.mono0 (e : Ext0 ι H ι' H') {o : Ob} {ho : HO} (h : RO W ι H o ho) : RO W ι' H' o ho := by
  cases o <;> cases ho <;> first
    | exact h.elim
    | exact RVs.mono0 e h
    | exact Paired.impl (fun _ _ z => ⟨z.1, RV.mono0 e z.2⟩) h
    | exact ⟨h.1, Paired.impl (fun _ _ z => ⟨z.1, RV.mono0 e z.2⟩) h.2⟩
theorem RO.mono (e : Ext ι H ι' H') {o : Ob} {ho : HO} (h : RO W ι H o ho) : RO W ι' H' o ho := h.mono0 e.toExt0
/-- what RO speaks of may change: it is no tuple, nothing frozen -/
theorem RO.ntup {o : Ob} {xs : List V} (h : RO W ι H o (.tup xs)) : False := by cases o <;> exact h.elim
theorem RO.nfrz {o : Ob} {x : Obj} {u : HO} (h : RO W ι H o (.frz x u)) : False := by cases o <;> exact h.elim
theorem Rel.at (r : Rel W ι H st) {i : Nat} {o : Ob} (h : st[i]? = some o) : ∃ a ho, ι[i]? = some a ∧ H a = some ho ∧ RO W ι H o ho := by
  have hi : i < ι.length := by
    rw [r.len]
    exact (List.getElem?_eq_some_iff.mp h).1
  obtain ⟨ho, h1, h2⟩ := r.ob i ι[i] o (List.getElem?_eq_getElem hi) h
  exact ⟨_, ho, List.getElem?_eq_getElem hi, h1, h2⟩
/-- a new tuple -/
theorem Ext.newT {p : Addr} {vs : List V} (hp : H p = none) : Ext ι H ι (upd H p (.tup vs)) :=
  ⟨⟨fun _ _ h => h, fun a xs h => by rw [upd_ne (ne_of_none h hp)]; exact h, fun a o u h => by rw [upd_ne (ne_of_none h hp)]; exact h⟩, fun a o h n => ⟨by rw [upd_ne (ne_of_none h hp)]; exact h, n⟩⟩
theorem Ext.new {p : Addr} {ho : HO} (hp : H p = none) : Ext ι H (ι ++ [p]) (upd H p ho) :=
  ⟨⟨fun i a h => by rw [List.getElem?_append_left (List.getElem?_eq_some_iff.mp h).1]; exact h, fun a xs h => by rw [upd_ne (ne_of_none h hp)]; exact h, fun a o u h => by rw [upd_ne (ne_of_none h hp)]; exact h⟩, fun a o h n => ⟨by rw [upd_ne (ne_of_none h hp)]; exact h, fun i q => by
    by_cases hi : i < ι.length
    · rw [List.getElem?_append_left hi] at q
      exact n i q
    · rw [List.getElem?_append_right (by omega)] at q
      have q1 := List.mem_of_getElem? q
      simp at q1
      rw [q1, hp] at h
      cases h⟩⟩
theorem Rel.newT (r : Rel W ι H st) {p : Addr} {vs : List V} (hp : H p = none) : Rel W ι (upd H p (.tup vs)) st :=
  ⟨r.len, r.nd, fun i a o h1 h2 => by
    obtain ⟨ho, h3, h4⟩ := r.ob i a o h1 h2
    exact ⟨ho, by rw [upd_ne (ne_of_none h3 hp)]; exact h3, h4.mono (Ext.newT hp)⟩⟩
theorem Rel.new (r : Rel W ι H st) {p : Addr} {o : Ob} {ho : HO} (hp : H p = none) (h : RO W ι H o ho) : Rel W (ι ++ [p]) (upd H p ho) (st ++ [o]) := by
  have e : Ext ι H (ι ++ [p]) (upd H p ho) := Ext.new hp
  have np : ∀ i, ι[i]? ≠ some p := fun i h => by
    have hi := (List.getElem?_eq_some_iff.mp h).1
    rw [r.len] at hi
    obtain ⟨_, h3, _⟩ := r.ob i p _ h (List.getElem?_eq_getElem hi)
    rw [hp] at h3
    cases h3
  have cs : ∀ (i : Nat) (a : Addr), (ι ++ [p])[i]? = some a → (ι[i]? = some a ∧ i < ι.length) ∨ (i = ι.length ∧ a = p) := fun i a h => by
    by_cases hi : i < ι.length
    · rw [List.getElem?_append_left hi] at h
      exact .inl ⟨h, hi⟩
    · rw [List.getElem?_append_right (by omega)] at h
      have h0 : i - ι.length = 0 := by
        have := (List.getElem?_eq_some_iff.mp h).1
        simp at this
        omega
      rw [h0] at h
      simp at h
      exact .inr ⟨by omega, h.symm⟩
  refine ⟨by simp [r.len], fun i j a h1 h2 => ?_, fun i a x h1 h2 => ?_⟩
  · rcases cs i a h1 with ⟨h3, _⟩ | ⟨h3, rfl⟩ <;> rcases cs j a h2 with ⟨h4, _⟩ | ⟨h4, h5⟩
    · exact r.nd i j a h3 h4
    · subst h5
      exact absurd h3 (np i)
    · exact absurd h4 (np j)
    · omega
  · rcases cs i a h1 with ⟨h3, hi⟩ | ⟨h3, rfl⟩
    · rw [List.getElem?_append_left (by rw [← r.len]; exact hi)] at h2
      obtain ⟨hx, h5, h6⟩ := r.ob i a x h3 h2
      exact ⟨hx, by rw [upd_ne (ne_of_none h5 hp)]; exact h5, h6.mono e⟩
    · subst h3
      rw [r.len, List.getElem?_append_right (Nat.le_refl _)] at h2
      simp at h2
      subst h2
      exact ⟨ho, upd_same, h.mono e⟩
theorem Ext.put (r : Rel W ι H st) {i : Nat} {a : Addr} {o : Ob} {ho : HO} (h1 : ι[i]? = some a) (h2 : st[i]? = some o) : Ext ι H ι (upd H a ho) := by
  obtain ⟨h0, h3, h4⟩ := r.ob i a o h1 h2
  refine ⟨⟨fun _ _ h => h, fun b xs h => ?_, fun b x u h => ?_⟩, fun b x h n => ⟨by rw [upd_ne (show b ≠ a from fun q => n i (by rw [q]; exact h1))]; exact h, n⟩⟩
  · by_cases e : b = a
    · subst e
      rw [h3] at h
      cases h
      exact h4.ntup.elim
    · rw [upd_ne e]
      exact h
  · by_cases e : b = a
    · subst e
      rw [h3] at h
      cases h
      exact h4.nfrz.elim
    · rw [upd_ne e]
      exact h
theorem Rel.put (r : Rel W ι H st) {i : Nat} {a : Addr} {o u : Ob} {hu : HO} (h1 : ι[i]? = some a) (h2 : st[i]? = some o) (h : RO W ι H u hu) : Rel W ι (upd H a hu) (st.set i u) := by
  have e : Ext ι H ι (upd H a hu) := Ext.put r h1 h2
  refine ⟨by simp [r.len], r.nd, fun j b x h3 h4 => ?_⟩
  by_cases hj : j = i
  · subst hj
    rw [h1] at h3
    cases h3
    rw [List.getElem?_set_self (List.getElem?_eq_some_iff.mp h2).1] at h4
    cases h4
    exact ⟨hu, upd_same, h.mono e⟩
  · rw [List.getElem?_set_ne (Ne.symm hj)] at h4
    obtain ⟨hx, h5, h6⟩ := r.ob j b x h3 h4
    have nb : b ≠ a := fun q => hj (r.nd j i a (q ▸ h3) h1)
    exact ⟨hx, by rw [upd_ne nb]; exact h5, h6.mono e⟩
end

section
variable {W : Wd} {ι : List Addr} {H : Hp} {st : Sto} {D : Addr} {vs ws : List V}
/-- a list that is being made stands outside the store -/
theorem Ext0.putO (h : H D = some (.lst vs)) : Ext0 ι H ι (upd H D (.lst ws)) := by
  refine ⟨fun _ _ h => h, fun a xs q => ?_, fun a o u q => ?_⟩
  · rw [upd_ne (ne_of q h (by intro z; cases z))]
    exact q
  · rw [upd_ne (ne_of q h (by intro z; cases z))]
    exact q
theorem Rel.putO (r : Rel W ι H st) (h : H D = some (.lst vs)) (n : ∀ i : Nat, ι[i]? ≠ some D) : Rel W ι (upd H D (.lst ws)) st :=
  ⟨r.len, r.nd, fun i a o h1 h2 => by
    obtain ⟨ho, h3, h4⟩ := r.ob i a o h1 h2
    exact ⟨ho, by rw [upd_ne (show a ≠ D from fun q => n i (by rw [← q]; exact h1))]; exact h3, h4.mono0 (Ext0.putO h)⟩⟩
theorem Ext.putO {ι1 : List Addr} {H1 : Hp} {ho : HO} (e : Ext ι1 H1 ι H) (h : H1 D = none) : Ext ι1 H1 ι (upd H D ho) :=
  ⟨⟨e.pre, fun a xs q => by rw [upd_ne (ne_of_none q h)]; exact e.tup a xs q, fun a o u q => by rw [upd_ne (ne_of_none q h)]; exact e.frz a o u q⟩,
    fun a o q n => ⟨by rw [upd_ne (ne_of_none q h)]; exact (e.oth a o q n).1, (e.oth a o q n).2⟩⟩
/-- .. and at last comes into it -/
theorem Ext0.join : Ext0 ι H (ι ++ [D]) H := ⟨fun i a h => by rw [List.getElem?_append_left (List.getElem?_eq_some_iff.mp h).1]; exact h, fun _ _ h => h, fun _ _ _ h => h⟩
theorem get_join {i : Nat} {a : Addr} (h : (ι ++ [D])[i]? = some a) : (ι[i]? = some a ∧ i < ι.length) ∨ (i = ι.length ∧ a = D) := by
  by_cases hi : i < ι.length
  · rw [List.getElem?_append_left hi] at h
    exact .inl ⟨h, hi⟩
  · rw [List.getElem?_append_right (by omega)] at h
    have h0 : i - ι.length = 0 := by
      have := (List.getElem?_eq_some_iff.mp h).1
      simp at this
      omega
    rw [h0] at h
    simp at h
    exact .inr ⟨by omega, h.symm⟩
theorem Ext.join {ι1 : List Addr} {H1 : Hp} (e : Ext ι1 H1 ι H) (h : H1 D = none) : Ext ι1 H1 (ι ++ [D]) H :=
  ⟨⟨fun i a q => (Ext0.join (H := H) (D := D)).pre i a (e.pre i a q), e.tup, e.frz⟩, fun a o q n => ⟨(e.oth a o q n).1, fun i z => by
    rcases get_join z with ⟨z1, _⟩ | ⟨_, z2⟩
    · exact (e.oth a o q n).2 i z1
    · rw [z2, h] at q
      cases q⟩⟩
theorem Rel.join {o : Ob} {ho : HO} (r : Rel W ι H st) (h : H D = some ho) (n : ∀ i : Nat, ι[i]? ≠ some D) (q : RO W ι H o ho) : Rel W (ι ++ [D]) H (st ++ [o]) := by
  refine ⟨by simp [r.len], fun i j a h1 h2 => ?_, fun i a x h1 h2 => ?_⟩
  · rcases get_join h1 with ⟨h3, _⟩ | ⟨h3, h5⟩ <;> rcases get_join h2 with ⟨h4, _⟩ | ⟨h4, h6⟩
    · exact r.nd i j a h3 h4
    · subst h6
      exact absurd h3 (n i)
    · subst h5
      exact absurd h4 (n j)
    · omega
  · rcases get_join h1 with ⟨h3, hi⟩ | ⟨h3, h5⟩
    · rw [List.getElem?_append_left (by rw [← r.len]; exact hi)] at h2
      obtain ⟨hx, h5, h6⟩ := r.ob i a x h3 h2
      exact ⟨hx, h5, h6.mono0 Ext0.join⟩
    · subst h3 h5
      rw [r.len, List.getElem?_append_right (Nat.le_refl _)] at h2
      simp at h2
      subst h2
      exact ⟨ho, h, q.mono0 Ext0.join⟩
end

/-! ### what code does -/
inductive R (α : Type) where
  | ok (a : α) (st : Sto)
  | ex (c : Nat) (st : Sto)
abbrev FX (α : Type) := Sl → Sto → Option (R α)
abbrev FE := FX Val
abbrev FT := FX Bool
abbrev FA := FX (List Val)
inductive RS where
  | nx (sl : Sl) (st : Sto)
  | rt (v : Val) (st : Sto)
  | bk (sl : Sl) (st : Sto)
  | ct (sl : Sl) (st : Sto)
  | ex (c : Nat) (sl : Sl) (st : Sto)
abbrev FS := Sl → Sto → Option RS
abbrev FF := List Val → Sto → Option (R Val)

/-- slots -/
structure RL (K : PySem.W.Frag) (ι : List Addr) (H : Hp) (sl : Sl) (σ : L2.St) : Prop where
  len : sl.length = σ.length
  at' : ∀ (i : Nat) (x : Val), sl[i]? = some (some x) → ∃ v, σ[i]? = some (some v) ∧ RV K ι H x v
theorem RL.mono0 {K : PySem.W.Frag} {ι ι' : List Addr} {H H' : Hp} {sl : Sl} {σ : L2.St} (e : Ext0 ι H ι' H') (h : RL K ι H sl σ) : RL K ι' H' sl σ :=
  ⟨h.len, fun i x q => let ⟨v, h1, h2⟩ := h.at' i x q; ⟨v, h1, h2.mono0 e⟩⟩
theorem RL.mono {K : PySem.W.Frag} {ι ι' : List Addr} {H H' : Hp} {sl : Sl} {σ : L2.St} (e : Ext ι H ι' H') (h : RL K ι H sl σ) : RL K ι' H' sl σ := h.mono0 e.toExt0
theorem RL.set {K : PySem.W.Frag} {ι : List Addr} {H : Hp} {sl : Sl} {σ : L2.St} (h : RL K ι H sl σ) {x : Val} {v : V} (r : RV K ι H x v) (i : Nat) : RL K ι H (sl.set i (some x)) (σ.set i (some v)) := by
  refine ⟨by simp [h.len], fun j y q => ?_⟩
  by_cases e : i = j
  · subst e
    have hi : i < sl.length := by
      have := (List.getElem?_eq_some_iff.mp q).1
      simpa using this
    rw [List.getElem?_set_self hi] at q
    cases q
    exact ⟨v, List.getElem?_set_self (by rw [← h.len]; exact hi), r⟩
  · rw [List.getElem?_set_ne e] at q
    rw [List.getElem?_set_ne e]
    exact h.at' j y q
theorem RL.unset {K : PySem.W.Frag} {ι : List Addr} {H : Hp} {sl : Sl} {σ : L2.St} (h : RL K ι H sl σ) (i : Nat) : RL K ι H (sl.set i none) (σ.set i none) := by
  refine ⟨by simp [h.len], fun j y q => ?_⟩
  by_cases e : i = j
  · subst e
    by_cases hi : i < sl.length
    · rw [List.getElem?_set_self hi] at q
      cases q
    · rw [List.getElem?_eq_none (by simp; omega)] at q
      cases q
  · rw [List.getElem?_set_ne e] at q
    rw [List.getElem?_set_ne e]
    exact h.at' j y q

/-- behind an expression -/
def Pst {α β : Type} (W : Wd) (RA : List Addr → Hp → α → β → Prop) (ι : List Addr) (H : Hp) (r : R α) (Q : β → Hp → Prop) (E : XK) : Prop := match r with
  | .ok a st' => ∀ ι' H' b, Ext ι H ι' H' → Rel W ι' H' st' → RA ι' H' a b → Q b H'
  | .ex c st' => ∀ ι' H', Ext ι H ι' H' → Rel W ι' H' st' → E (.ref (W.cl c)) none H'
/-- behind a statement -/
def PsS (W : Wd) (Ew : WX) (ι : List Addr) (H : Hp) (r : RS) (D : Ends) : Prop := match r with
  | .nx sl st => ∀ ι' H' σ', Ext ι H ι' H' → Rel W ι' H' st → RL W.K ι' H' sl σ' → D.nx σ' H'
  | .rt x st => ∀ ι' H' v, Ext ι H ι' H' → Rel W ι' H' st → RV W.K ι' H' x v → D.rt v H'
  | .bk sl st => ∀ ι' H' σ', Ext ι H ι' H' → Rel W ι' H' st → RL W.K ι' H' sl σ' → D.bk σ' H'
  | .ct sl st => ∀ ι' H' σ', Ext ι H ι' H' → Rel W ι' H' st → RL W.K ι' H' sl σ' → D.ct σ' H'
  | .ex c sl st => ∀ ι' H' σ', Ext ι H ι' H' → Rel W ι' H' st → RL W.K ι' H' sl σ' → Ew (.ref (W.cl c)) none σ' H'
/-- the reading of a plain function -/
def tOf {α β : Type} (W : Wd) (Ew : WX) (RA : List Addr → Hp → α → β → Prop) (m : FX α) : L2.St → Hp → (β → Hp → Prop) → Prop := fun σ H Q =>
  ∃ ι sl st r, RL W.K ι H sl σ ∧ Rel W ι H st ∧ m sl st = some r ∧ Pst W RA ι H r Q (fun c d H' => Ew c d σ H')
abbrev teOf (W : Wd) (Ew : WX) (m : FE) : TE := tOf W Ew (fun ι H => RV W.K ι H) m
abbrev ttOf (W : Wd) (Ew : WX) (m : FT) : TT := tOf W Ew (fun _ _ a b => a = b) m
abbrev taOf (W : Wd) (Ew : WX) (m : FA) : TA := tOf W Ew (fun ι H => RVs W.K ι H) m
def tsOf (W : Wd) (Ew : WX) (m : FS) : TS := fun D σ H =>
  ∃ ι sl st r, RL W.K ι H sl σ ∧ Rel W ι H st ∧ m sl st = some r ∧ PsS W Ew ι H r D

/-! ### the judgements -/
abbrev SE (W : Wd) (X : Cx) (Ew : WX) (e : Expr) (m : FE) : Prop := PE X e (teOf W Ew m)
abbrev SC (W : Wd) (X : Cx) (Ew : WX) (e : Expr) (m : FT) : Prop := PT X e (ttOf W Ew m)
abbrev SW (W : Wd) (X : Cx) (Ew : WX) (e : Expr) (m : FT) : Prop := PW X e (ttOf W Ew m)
abbrev SA (W : Wd) (X : Cx) (Ew : WX) (es : List Expr) (m : FA) : Prop := PA X es (taOf W Ew m)
abbrev SS (W : Wd) (X : Cx) (Ew : WX) (s : Stmt) (m : FS) : Prop := PS X s (tsOf W Ew m)
abbrev SSs (W : Wd) (X : Cx) (Ew : WX) (s : List Stmt) (m : FS) : Prop := PSs X s (tsOf W Ew m)

section
variable {X : Cx} {e : Expr} {es : List Expr} {s : Stmt} {ss : List Stmt}
theorem imE {t u : TE} (h : PE X e t) (i : ∀ σ H Q, u σ H Q → t σ H Q) : PE X e u := ⟨fun pins s σ H Q I hw => h.run pins s σ H Q I (i _ _ _ hw)⟩
theorem imT {t u : TT} (h : PT X e t) (i : ∀ σ H Q, u σ H Q → t σ H Q) : PT X e u := ⟨fun pins s σ H Q I hw => h.run pins s σ H Q I (i _ _ _ hw)⟩
theorem imW {t u : TT} (h : PW X e t) (i : ∀ σ H Q, u σ H Q → t σ H Q) : PW X e u := ⟨fun wh pins s σ H Q I hw => h.run wh pins s σ H Q I (i _ _ _ hw)⟩
theorem imA {t u : TA} (h : PA X es t) (i : ∀ σ H Q, u σ H Q → t σ H Q) : PA X es u := ⟨fun pos pins s σ H Q I hw => h.run pos pins s σ H Q I (i _ _ _ hw)⟩
theorem imS {t u : TS} (h : PS X s t) (i : ∀ D σ H, u D σ H → t D σ H) : PS X s u := ⟨fun pins s σ H D I hw => h.run pins s σ H D I (i _ _ _ hw)⟩
theorem imSs {t u : TS} (h : PSs X ss t) (i : ∀ D σ H, u D σ H → t D σ H) : PSs X ss u := ⟨fun pins s σ H D I hw => h.run pins s σ H D I (i _ _ _ hw)⟩
end

/-! ### one behind the other -/
def bnd {α β : Type} (m : FX α) (k : α → FX β) : FX β := fun sl st => match m sl st with
  | some (.ok a st') => k a sl st'
  | some (.ex c st') => some (.ex c st')
  | none => none
section
variable {W : Wd} {Ew : WX} {ι ι' : List Addr} {H H' : Hp} {σ : L2.St} {sl : Sl} {st : Sto}
theorem Pst.mono {α β : Type} {RA : List Addr → Hp → α → β → Prop} {r : R α} {Q : β → Hp → Prop} {E : XK} (e : Ext ι H ι' H') (h : Pst W RA ι H r Q E) : Pst W RA ι' H' r Q E := by
  cases r with
  | ok a st' => exact fun ι2 H2 b e2 r2 q => h ι2 H2 b (e.trans e2) r2 q
  | ex c st' => exact fun ι2 H2 e2 r2 => h ι2 H2 (e.trans e2) r2
theorem PsS.mono {r : RS} {D : Ends} (e : Ext ι H ι' H') (h : PsS W Ew ι H r D) : PsS W Ew ι' H' r D := by
  cases r <;> exact fun ι2 H2 b e2 r2 q => h ι2 H2 b (e.trans e2) r2 q
/-- THE STEP: a part's function has run; how the whole goes on -/
theorem run {α β γ δ : Type} {RA : List Addr → Hp → α → β → Prop} {RB : List Addr → Hp → γ → δ → Prop} {m : FX α} {k : α → FX γ} {r : R γ} {Q : β → Hp → Prop} {Q' : δ → Hp → Prop}
    (hs : RL W.K ι H sl σ) (hr : Rel W ι H st) (hm : bnd m k sl st = some r) (hq : Pst W RB ι H r Q' (fun c d H' => Ew c d σ H'))
    (hk : ∀ a st' ι' H' b, Ext ι H ι' H' → RL W.K ι' H' sl σ → Rel W ι' H' st' → RA ι' H' a b → k a sl st' = some r → Pst W RB ι' H' r Q' (fun c d H' => Ew c d σ H') → Q b H') : tOf W Ew RA m σ H Q := by
  unfold bnd at hm
  cases h : m sl st with
  | none => rw [h] at hm; cases hm
  | some x =>
    rw [h] at hm
    cases x with
    | ok a st' => exact ⟨ι, sl, st, _, hs, hr, h, fun ι' H' b e r2 ra => hk a st' ι' H' b e (hs.mono e) r2 ra hm (hq.mono e)⟩
    | ex c st' =>
      cases hm
      exact ⟨ι, sl, st, _, hs, hr, h, hq⟩
/-- the same for a statement's part -/
def bndS {α : Type} (m : FX α) (k : α → FS) : FS := fun sl st => match m sl st with
  | some (.ok a st') => k a sl st'
  | some (.ex c st') => some (.ex c sl st')
  | none => none
theorem runS {α β : Type} {RA : List Addr → Hp → α → β → Prop} {m : FX α} {k : α → FS} {r : RS} {Q : β → Hp → Prop} {D : Ends}
    (hs : RL W.K ι H sl σ) (hr : Rel W ι H st) (hm : bndS m k sl st = some r) (hq : PsS W Ew ι H r D)
    (hk : ∀ a st' ι' H' b, Ext ι H ι' H' → RL W.K ι' H' sl σ → Rel W ι' H' st' → RA ι' H' a b → k a sl st' = some r → PsS W Ew ι' H' r D → Q b H') : tOf W Ew RA m σ H Q := by
  unfold bndS at hm
  cases h : m sl st with
  | none => rw [h] at hm; cases hm
  | some x =>
    rw [h] at hm
    cases x with
    | ok a st' => exact ⟨ι, sl, st, _, hs, hr, h, fun ι' H' b e r2 ra => hk a st' ι' H' b e (hs.mono e) r2 ra hm (hq.mono e)⟩
    | ex c st' =>
      cases hm
      exact ⟨ι, sl, st, _, hs, hr, h, fun ι' H' e r2 => hq ι' H' σ e r2 (hs.mono e)⟩
end
end FL
/-! FL2: expressions. -/
namespace FL
open PySem PySem.Spec PyProof.Rows L2

/-- where a body stands: at level k, what leaves it as an exception is wished by Ew -/
structure Ctx (W : Wd) (k : Nat) (X : Cx) (Ew : WX) : Prop where
  eP : X.prog = W.P
  ew : X.w = W.w
  eK : X.K = W.K
  em : X.mg = W.mg
  eb : X.base = W.base
  tk : Takes X Ew
  rm : Room k X.A
  calm : X.calm = true
  nd : X.N.Nodup
  po : PassesOwn (model X.prog X.w) X.A X.env X.xe
theorem Ctx.hu {W : Wd} {k : Nat} {X : Cx} {Ew : WX} (C : Ctx W k X Ew) : X.A.units + 64 < cLine := C.rm.units
theorem Ctx.hu1 {W : Wd} {k : Nat} {X : Cx} {Ew : WX} (C : Ctx W k X Ew) : X.A.units + 1 < cLine := hu_of C.rm

/-! ### operations on values -/
abbrev O2 := Val → Val → Sto → Option (Val × Sto)
abbrev ON := List Val → Sto → Option (Val × Sto)
def Post (W : Wd) (ι : List Addr) (H : Hp) (v : Val) (st' : Sto) (Q : VK) : Prop := ∀ ι' H' z, Ext ι H ι' H' → Rel W ι' H' st' → RV W.K ι' H' v z → Q z H'
def ro (W : Wd) (f : O2) : R2 := fun x y H Q => ∃ ι st a b v st', RV W.K ι H a x ∧ RV W.K ι H b y ∧ Rel W ι H st ∧ f a b st = some (v, st') ∧ Post W ι H v st' Q
def rc (W : Wd) (f : ON) : List V → Hp → VK → Prop := fun xs H Q => ∃ ι st as v st', RVs W.K ι H as xs ∧ Rel W ι H st ∧ f as st = some (v, st') ∧ Post W ι H v st' Q
def rm (W : Wd) (f : Val → ON) : V → List V → Hp → VK → Prop := fun x xs H Q => ∃ ι st a as v st', RV W.K ι H a x ∧ RVs W.K ι H as xs ∧ Rel W ι H st ∧ f a as st = some (v, st') ∧ Post W ι H v st' Q
def lft (g : Sto → Option (Val × Sto)) : FE := fun _ st => match g st with
  | some (v, st') => some (.ok v st')
  | none => none

section
variable {W : Wd} {k : Nat} {X : Cx} {Ew : WX} {ι ι' : List Addr} {H H' : Hp} {st : Sto} {a b e : Expr} {es : List Expr} {ma mb me : FE} {mt mu : FT} {mas : FA} {pos : Pos}
theorem lft_some {g : Sto → Option (Val × Sto)} {sl : Sl} {r : R Val} (h : lft g sl st = some r) : ∃ v st', g st = some (v, st') ∧ r = .ok v st' := by
  unfold lft at h
  split at h
  · rename_i v st' e
    exact ⟨v, st', e, (Option.some.inj h).symm⟩
  · cases h
theorem Post.here {v : Val} {Q : VK} (h : Post W ι H v st Q) (r : Rel W ι H st) {z : V} (q : RV W.K ι H v z) : Q z H := h ι H z (Ext.refl _ _) r q
/-- a new tuple -/
theorem Post.newT {xs : List Val} {vs : List V} {Q : VK} (h : Post W ι H (.tup xs) st Q) (r : Rel W ι H st) (q : RVs W.K ι H xs vs) : ∀ p, H p = none → Q (.ref p) (upd H p (.tup vs)) := fun p hp =>
  h ι _ _ (Ext.newT hp) (r.newT hp) (.tup (SqT.of upd_same) (q.mono (Ext.newT hp)))
/-- a new thing of the store -/
theorem Post.new {o : Ob} {ho : HO} {Q : VK} (h : Post W ι H (.ref st.length) (st ++ [o]) Q) (r : Rel W ι H st) (q : RO W ι H o ho) : ∀ p, H p = none → Q (.ref p) (upd H p ho) := fun p hp =>
  h _ _ _ (Ext.new hp) (r.new hp q) (.ref (by rw [← r.len]; simp))
theorem Post.put {i : Nat} {x : Addr} {o u : Ob} {hu : HO} {v : Val} {z : V} {Q : VK} (h : Post W ι H v (st.set i u) Q) (r : Rel W ι H st) (h1 : ι[i]? = some x) (h2 : st[i]? = some o) (h3 : RO W ι H u hu) (q : RV W.K ι H v z) : Q z (upd H x hu) :=
  h _ _ _ (Ext.put r h1 h2) (r.put h1 h2 h3) (q.mono (Ext.put r h1 h2))
theorem Rel.lst {i : Nat} {x : Addr} {xs : List Val} (r : Rel W ι H st) (h : st[i]? = some (.lst xs)) (hx : ι[i]? = some x) : ∃ vs, H x = some (.lst vs) ∧ RVs W.K ι H xs vs := by
  obtain ⟨ho, h1, h2⟩ := r.ob i x _ hx h
  cases ho <;> first | exact h2.elim | exact ⟨_, h1, h2⟩
theorem Rel.dic {i : Nat} {x : Addr} {xs : List (Key × Val)} (r : Rel W ι H st) (h : st[i]? = some (.dic xs)) (hx : ι[i]? = some x) : ∃ vs, H x = some (.dK vs) ∧ Paired (fun (p : Key × Val) (q : Key × V) => p.1 = q.1 ∧ RV W.K ι H p.2 q.2) xs vs := by
  obtain ⟨ho, h1, h2⟩ := r.ob i x _ hx h
  cases ho <;> first | exact h2.elim | exact ⟨_, h1, h2⟩
/-- a rule by cases -/
theorem opBy {f : Value → Value → Sem Value} {r' : R2} (h : ∀ x y H Q, r' x y H Q → ∃ r, OpR X f r ∧ r x y H Q) : OpR X f r' := fun pins s σ H x y v u Q I rx ry hw =>
  let ⟨_, h1, h2⟩ := h x y H Q hw
  h1 pins s σ H x y v u Q I rx ry h2
theorem ixBy {r' : R2} (h : ∀ x y H Q, r' x y H Q → ∃ r, IxR X r ∧ r x y H Q) : IxR X r' := fun va sl pins s σ H x y v u Q I rx ry hw =>
  let ⟨_, h1, h2⟩ := h x y H Q hw
  h1 va sl pins s σ H x y v u Q I rx ry h2
theorem slBy {r' : V → Option Int → Option Int → Hp → VK → Prop} (h : ∀ x lo hi H Q, r' x lo hi H Q → ∃ r, SlR X r ∧ r x lo hi H Q) : SlR X r' := fun pins s σ H x v vl vu lo hi sl Q I rx is p1 p2 hw =>
  let ⟨_, h1, h2⟩ := h x lo hi H Q hw
  h1 pins s σ H x v vl vu lo hi sl Q I rx is p1 p2 h2
theorem callBy {f : Value} {r' : List V → Hp → VK → Prop} (h : ∀ xs H Q, r' xs H Q → ∃ r, CallR X f r ∧ r xs H Q) : CallR X f r' := fun pins s σ H xs us Q I rx hw =>
  let ⟨_, h1, h2⟩ := h xs H Q hw
  h1 pins s σ H xs us Q I rx h2

/-! ### names, constants -/
def fVar (i : Nat) : FE := fun sl st => match sl[i]? with
  | some (some v) => some (.ok v st)
  | _ => none
def fC (v : Val) : FE := fun _ st => some (.ok v st)
theorem se_var (i : Nat) {x : Str} (hN : X.N[i]? = some x := by rfl) (hv : Vis X.env.scope x := by first | exact Or.inl rfl | exact Or.inr (Or.inl rfl) | exact Or.inr (Or.inr rfl)) (hd : (x == ("__debug__" : Str)) = false := by decide)
    (hcd : (x == ("__classdict__" : Str)) = false := by decide) : SE W X Ew (.Name x pos) (fVar i) := by
  refine imE (pe_var hN hv hd hcd) fun σ H Q ⟨ι, sl, st, r, hs, hr, hm, hq⟩ => ?_
  unfold fVar at hm
  split at hm
  · rename_i v h
    cases hm
    obtain ⟨u, h1, h2⟩ := hs.at' i v h
    exact ⟨u, h1, hq ι H u (Ext.refl _ _) hr h2⟩
  · cases hm
theorem se_c {v : Val} {z : V} (h : PE X e (tC z)) (hv : ∀ ι H, RV W.K ι H v z) : SE W X Ew e (fC v) := imE h fun σ H Q ⟨ι, sl, st, r, hs, hr, hm, hq⟩ => by
  cases hm
  exact hq ι H z (Ext.refl _ _) hr (hv ι H)
theorem se_int {i : Int} {j : Nat} : SE W X Ew (.Constant (.int i) j pos) (fC (.int i)) := se_c pe_int fun _ _ => .int i
theorem se_bl {i : Bool} {j : Nat} : SE W X Ew (.Constant (.bool i) j pos) (fC (.bl i)) := se_c pe_bl fun _ _ => .bl i
theorem se_non {j : Nat} : SE W X Ew (.Constant .none j pos) (fC .non) := se_c pe_non fun _ _ => .non
theorem se_str (l : List Nat) {x : Str} {j : Nat} (h : x = St' l := by rfl) : SE W X Ew (.Constant (.str x) j pos) (fC (.str l)) := by
  subst h
  exact se_c pe_str fun _ _ => .str l
/-- a constant of the module: an int -/
theorem se_gint {i : Int} {x : Str} (C : Ctx W k X Ew) (hm : ∃ t, W.mg x = some (.int i t)) (hg : Gl X x := by rfl) (hd : (x == ("__debug__" : Str)) = false := by decide) : SE W X Ew (.Name x pos) (fC (.int i)) :=
  let ⟨t, hm⟩ := hm
  se_c (z := .int i) (pe_glob hg (by rw [C.em]; exact hm) (show RelV (.int i) (.int i t) from ⟨t, rfl⟩) hd) fun _ _ => .int i
theorem se_gstr {l : List Nat} {x : Str} (C : Ctx W k X Ew) (hm : ∃ t, W.mg x = some (.str (St' l) t)) (hg : Gl X x := by rfl) (hd : (x == ("__debug__" : Str)) = false := by decide) : SE W X Ew (.Name x pos) (fC (.str l)) :=
  let ⟨t, hm⟩ := hm
  se_c (z := .str (St' l)) (pe_glob hg (by rw [C.em]; exact hm) (show RelV (.str (St' l)) (.str (St' l) t) from ⟨t, rfl⟩) hd) fun _ _ => .str l
/-- a tuple of the written part -/
theorem se_gtup {xs : List Val} {vs : List V} {p : Addr} {x : Str} (C : Ctx W k X Ew) (hm : W.mg x = some (.ref p)) (h : ∀ H, SqT W.K H p vs) (hv : ∀ ι H, RVs W.K ι H xs vs) (hg : Gl X x := by rfl) (hd : (x == ("__debug__" : Str)) = false := by decide) : SE W X Ew (.Name x pos) (fC (.tup xs)) :=
  se_c (z := .ref p) (pe_glob hg (by rw [C.em]; exact hm) rfl hd) fun ι H => .tup (h H) (hv ι H)

/-! ### operators -/
def fOp (f : O2) (ma mb : FE) : FE := bnd ma fun x => bnd mb fun y => lft (f x y)
theorem ro_of {f : O2} {x y : Val} {vx vy : V} {sl : Sl} {r : R Val} {Q : VK} {E : XK} (rx : RV W.K ι H x vx) (ry : RV W.K ι H y vy) (hr : Rel W ι H st) (hm : lft (f x y) sl st = some r) (hq : Pst W (fun ι H => RV W.K ι H) ι H r Q E) : ro W f vx vy H Q := by
  obtain ⟨v, st', h1, rfl⟩ := lft_some hm
  exact ⟨ι, st, x, y, v, st', rx, ry, hr, h1, hq⟩
theorem se_op {op : Operator} {f : O2} (ho : OpR X (binaryOp op) (ro W f)) (ha : SE W X Ew a ma) (hb : SE W X Ew b mb) : SE W X Ew (.BinOp a op b pos) (fOp f ma mb) :=
  imE (pe_op ho ha hb) fun σ H Q ⟨ι, sl, st, r, hs, hr, hm, hq⟩ => run hs hr hm hq fun x st1 ι1 H1 vx e1 s1 r1 rx hm1 hq1 => run s1 r1 hm1 hq1 fun y st2 ι2 H2 vy e2 s2 r2 ry hm2 hq2 =>
    ro_of (rx.mono e2) ry r2 hm2 hq2
theorem se_cmp {op : CmpOp} {f : O2} (ho : OpR X (compareOp op) (ro W f)) (ha : SE W X Ew a ma) (hb : SE W X Ew b mb) (h : behindInMarks op b = false := by first | exact nomark _ | rfl) : SE W X Ew (.Compare a [op] [b] pos) (fOp f ma mb) :=
  imE (pe_cmpR ho ha hb h) fun σ H Q ⟨ι, sl, st, r, hs, hr, hm, hq⟩ => run hs hr hm hq fun x st1 ι1 H1 vx e1 s1 r1 rx hm1 hq1 => run s1 r1 hm1 hq1 fun y st2 ι2 H2 vy e2 s2 r2 ry hm2 hq2 =>
    ro_of (rx.mono e2) ry r2 hm2 hq2
/-- a value that is True or False, as a test -/
def asB : Val → FT
  | .bl b => fun _ st => some (.ok b st)
  | _ => fun _ _ => none
def fB (m : FE) : FT := bnd m asB
theorem fB_of {x : Val} {vx : V} {sl : Sl} {r : R Bool} {Q : Bool → Hp → Prop} {E : XK} (rx : RV W.K ι H x vx) (hr : Rel W ι H st) (hm : asB x sl st = some r) (hq : Pst W (fun _ _ a b => a = b) ι H r Q E) : ∃ c, vx = .bl c ∧ Q c H := by
  cases rx <;> first
    | (cases hm; done)
    | (cases hm
       exact ⟨_, rfl, hq ι H _ (Ext.refl _ _) hr rfl⟩)
theorem sc_cmp {op : CmpOp} {f : O2} (ho : OpR X (compareOp op) (ro W f)) (ha : SE W X Ew a ma) (hb : SE W X Ew b mb) (h : behindInMarks op b = false := by first | exact nomark _ | rfl) : SC W X Ew (.Compare a [op] [b] pos) (fB (fOp f ma mb)) := by
  refine imT (pt_cmpR ho ha hb h) fun σ H Q ⟨ι, sl, st, r, hs, hr, hm, hq⟩ => ?_
  have q : teOf W Ew (fOp f ma mb) σ H fun x H' => ∃ k, x = .bl k ∧ Q k H' := run hs hr hm hq fun x st1 ι1 H1 vx e1 s1 r1 rx hm1 hq1 => fB_of rx r1 hm1 hq1
  obtain ⟨ι, sl, st, r, hs, hr, hm, hq⟩ := q
  exact run hs hr hm hq fun x st1 ι1 H1 vx e1 s1 r1 rx hm1 hq1 => run s1 r1 hm1 hq1 fun y st2 ι2 H2 vy e2 s2 r2 ry hm2 hq2 => ro_of (rx.mono e2) ry r2 hm2 hq2
theorem sc_val (h : SE W X Ew e me) (he : ∀ whole, isTrue e X.env whole = (do let v ← whole; standAt e.pos; holding [v] (truthy v)) := by intro _; rfl) : SC W X Ew e (fB me) :=
  imT (pt_val h he) fun σ H Q ⟨ι, sl, st, r, hs, hr, hm, hq⟩ => run hs hr hm hq fun x st1 ι1 H1 vx e1 s1 r1 rx hm1 hq1 => fB_of rx r1 hm1 hq1

/-! ### and, or, not, if -/
def fAnd (m n : FT) : FT := bnd m fun b => if b then n else fun _ st => some (.ok false st)
def fOr (m n : FT) : FT := bnd m fun b => if b then fun _ st => some (.ok true st) else n
def fNot (m : FT) : FT := bnd m fun b => fun _ st => some (.ok (!b) st)
def fIf {α : Type} (m : FT) (n k : FX α) : FX α := bnd m fun b => if b then n else k
theorem toOf {α β : Type} {RA : List Addr → Hp → α → β → Prop} {m : FX α} {σ : L2.St} {sl : Sl} {r : R α} {Q : β → Hp → Prop} (hs : RL W.K ι H sl σ) (hr : Rel W ι H st) (hm : m sl st = some r) (hq : Pst W RA ι H r Q (fun c d H' => Ew c d σ H')) : tOf W Ew RA m σ H Q :=
  ⟨ι, sl, st, r, hs, hr, hm, hq⟩
theorem bl_of {b : Bool} {sl : Sl} {r : R Bool} {Q : Bool → Hp → Prop} {E : XK} (hr : Rel W ι H st) (hm : (fun (_ : Sl) (st : Sto) => some (R.ok b st)) sl st = some r) (hq : Pst W (fun _ _ a b => a = b) ι H r Q E) : Q b H := by
  cases hm
  exact hq ι H _ (Ext.refl _ _) hr rfl
theorem ve_of {v : Val} {z : V} {sl : Sl} {r : R Val} {Q : VK} {E : XK} (hr : Rel W ι H st) (hv : RV W.K ι H v z) (hm : (fun (_ : Sl) (st : Sto) => some (R.ok v st)) sl st = some r) (hq : Pst W (fun ι H => RV W.K ι H) ι H r Q E) : Q z H := by
  cases hm
  exact hq ι H _ (Ext.refl _ _) hr hv
theorem sw_one1 (h : SC W X Ew a mt) : SW W X Ew (.BoolOp .And [a] pos) mt := pw_and1 h
theorem sw_one2 (h : SC W X Ew a mt) : SW W X Ew (.BoolOp .Or [a] pos) mt := pw_or1 h
theorem sw_and (ha : SC W X Ew a mt) (hb : SW W X Ew (.BoolOp .And (b :: es) pos) mu) : SW W X Ew (.BoolOp .And (a :: b :: es) pos) (fAnd mt mu) :=
  imW (pw_and ha hb) fun σ H Q ⟨ι, sl, st, r, hs, hr, hm, hq⟩ => run hs hr hm hq fun x st1 ι1 H1 vx e1 s1 r1 rx hm1 hq1 => by
    subst rx
    cases x with
    | true => exact toOf s1 r1 hm1 hq1
    | false => exact bl_of (st := st1) (sl := sl) r1 hm1 hq1
theorem sw_or (ha : SC W X Ew a mt) (hb : SW W X Ew (.BoolOp .Or (b :: es) pos) mu) : SW W X Ew (.BoolOp .Or (a :: b :: es) pos) (fOr mt mu) :=
  imW (pw_or ha hb) fun σ H Q ⟨ι, sl, st, r, hs, hr, hm, hq⟩ => run hs hr hm hq fun x st1 ι1 H1 vx e1 s1 r1 rx hm1 hq1 => by
    subst rx
    cases x with
    | true => exact bl_of (st := st1) (sl := sl) r1 hm1 hq1
    | false => exact toOf s1 r1 hm1 hq1
theorem sc_w (h : SW W X Ew e mt) : SC W X Ew e mt := PW.pt h
theorem sc_not (ha : SC W X Ew a mt) : SC W X Ew (.UnaryOp .Not a pos) (fNot mt) :=
  imT (pt_not ha) fun σ H Q ⟨ι, sl, st, r, hs, hr, hm, hq⟩ => run hs hr hm hq fun x st1 ι1 H1 vx e1 s1 r1 rx hm1 hq1 => by
    subst rx
    exact bl_of (st := st1) (sl := sl) r1 hm1 hq1
/-- .. as values -/
def fV (m : FT) : FE := bnd m fun b => fun _ st => some (.ok (.bl b) st)
def fAndV (m n : FE) : FE := bnd m fun x => match x with
  | .bl true => n
  | .bl false => fun _ st => some (.ok (.bl false) st)
  | _ => fun _ _ => none
def fOrV (m n : FE) : FE := bnd m fun x => match x with
  | .bl true => fun _ st => some (.ok (.bl true) st)
  | .bl false => n
  | _ => fun _ _ => none
def fNotV (m : FE) : FE := bnd m fun x => match x with
  | .bl b => fun _ st => some (.ok (.bl (!b)) st)
  | _ => fun _ _ => none
theorem se_one {op : BoolOp} (h : SE W X Ew a ma) : SE W X Ew (.BoolOp op [a] pos) ma := pe_one h
theorem se_and (ha : SE W X Ew a ma) (hb : SE W X Ew (.BoolOp .And (b :: es) pos) mb) : SE W X Ew (.BoolOp .And (a :: b :: es) pos) (fAndV ma mb) :=
  imE (pe_and ha hb) fun σ H Q ⟨ι, sl, st, r, hs, hr, hm, hq⟩ => run hs hr hm hq fun x st1 ι1 H1 vx e1 s1 r1 rx hm1 hq1 => by
    cases rx <;> first
      | (cases hm1; done)
      | (rename_i b
         cases b with
         | true => exact ⟨true, rfl, toOf s1 r1 hm1 hq1⟩
         | false => exact ⟨false, rfl, ve_of (st := st1) (sl := sl) r1 (.bl false) hm1 hq1⟩)
theorem se_or (ha : SE W X Ew a ma) (hb : SE W X Ew (.BoolOp .Or (b :: es) pos) mb) : SE W X Ew (.BoolOp .Or (a :: b :: es) pos) (fOrV ma mb) :=
  imE (pe_or ha hb) fun σ H Q ⟨ι, sl, st, r, hs, hr, hm, hq⟩ => run hs hr hm hq fun x st1 ι1 H1 vx e1 s1 r1 rx hm1 hq1 => by
    cases rx <;> first
      | (cases hm1; done)
      | (rename_i b
         cases b with
         | true => exact ⟨true, rfl, ve_of (st := st1) (sl := sl) r1 (.bl true) hm1 hq1⟩
         | false => exact ⟨false, rfl, toOf s1 r1 hm1 hq1⟩)
theorem se_not (ha : SE W X Ew a ma) : SE W X Ew (.UnaryOp .Not a pos) (fNotV ma) :=
  imE (pe_not ha) fun σ H Q ⟨ι, sl, st, r, hs, hr, hm, hq⟩ => run hs hr hm hq fun x st1 ι1 H1 vx e1 s1 r1 rx hm1 hq1 => by
    cases rx <;> first
      | (cases hm1; done)
      | (rename_i b
         exact ⟨b, rfl, ve_of (st := st1) (sl := sl) r1 (.bl _) hm1 hq1⟩)
theorem se_if {c : Expr} (hc : SC W X Ew c mt) (ha : SE W X Ew a ma) (hb : SE W X Ew b mb) : SE W X Ew (.IfExp c a b pos) (fIf mt ma mb) :=
  imE (pe_ifExp hc ha hb) fun σ H Q ⟨ι, sl, st, r, hs, hr, hm, hq⟩ => run hs hr hm hq fun x st1 ι1 H1 vx e1 s1 r1 rx hm1 hq1 => by
    subst rx
    cases x with
    | true => exact toOf s1 r1 hm1 hq1
    | false => exact toOf s1 r1 hm1 hq1

/-! ### argument lists, displays -/
def fNil : FA := fun _ st => some (.ok [] st)
def fCons (m : FE) (n : FA) : FA := bnd m fun x => bnd n fun xs => fun _ st => some (.ok (x :: xs) st)
theorem sa_nil : SA W X Ew [] fNil := imA pa_nil fun σ H Q ⟨ι, sl, st, r, hs, hr, hm, hq⟩ => by
  cases hm
  exact hq ι H _ (Ext.refl _ _) hr .nil
theorem sa_cons (ha : SE W X Ew a ma) (hb : SA W X Ew es mas) (h1 : starEach (a :: es) X.env = (false, eval a X.env) :: starEach es X.env := by rfl) : SA W X Ew (a :: es) (fCons ma mas) :=
  imA (pa_cons ha hb h1) fun σ H Q ⟨ι, sl, st, r, hs, hr, hm, hq⟩ => run hs hr hm hq fun x st1 ι1 H1 vx e1 s1 r1 rx hm1 hq1 => run s1 r1 hm1 hq1 fun y st2 ι2 H2 vy e2 s2 r2 ry hm2 hq2 => by
    cases hm2
    exact hq2 ι2 H2 _ (Ext.refl _ _) r2 (.cons (rx.mono e2) ry)
def fTup (m : FA) : FE := bnd m fun xs => fun _ st => if xs.length ≤ LINE then some (.ok (.tup xs) st) else none
def fLst (m : FA) : FE := bnd m fun xs => fun _ st => if xs.length ≤ LINE then some (.ok (.ref st.length) (st ++ [.lst xs])) else none
theorem line_eq : LINE = sizeLine := by decide
theorem se_tup {j : Nat} (h : SA W X Ew es mas) : SE W X Ew (.Tuple es j pos) (fTup mas) :=
  imE (pe_tup h) fun σ H Q ⟨ι, sl, st, r, hs, hr, hm, hq⟩ => run hs hr hm hq fun x st1 ι1 H1 vx e1 s1 r1 rx hm1 hq1 => by
    have hm2 : (if x.length ≤ LINE then some (R.ok (.tup x) st1) else none) = some r := hm1
    by_cases hl : x.length ≤ LINE
    · rw [if_pos hl] at hm2
      cases hm2
      exact ⟨by rw [← rx.len, ← line_eq]; exact hl, Post.newT hq1 r1 rx⟩
    · rw [if_neg hl] at hm2
      cases hm2
theorem se_lst (h : SA W X Ew es mas) : SE W X Ew (.List es pos) (fLst mas) :=
  imE (pe_lst h) fun σ H Q ⟨ι, sl, st, r, hs, hr, hm, hq⟩ => run hs hr hm hq fun x st1 ι1 H1 vx e1 s1 r1 rx hm1 hq1 => by
    have hm2 : (if x.length ≤ LINE then some (R.ok (.ref st1.length) (st1 ++ [.lst x])) else none) = some r := hm1
    by_cases hl : x.length ≤ LINE
    · rw [if_pos hl] at hm2
      cases hm2
      exact ⟨by rw [← rx.len, ← line_eq]; exact hl, Post.new hq1 r1 (show RO W ι1 H1 (.lst x) (.lst vx) from rx)⟩
    · rw [if_neg hl] at hm2
      cases hm2

/-! ### subscripts, slices -/
theorem se_ix {f : O2} (ho : IxR X (ro W f)) (ha : SE W X Ew a ma) (hb : SE W X Ew b mb) (hp : PlainIx b := by exact fun _ _ => rfl) : SE W X Ew (.Subscript a b pos) (fOp f ma mb) :=
  imE (pe_ix ho ha hb hp) fun σ H Q ⟨ι, sl, st, r, hs, hr, hm, hq⟩ => run hs hr hm hq fun x st1 ι1 H1 vx e1 s1 r1 rx hm1 hq1 => run s1 r1 hm1 hq1 fun y st2 ι2 H2 vy e2 s2 r2 ry hm2 hq2 =>
    ro_of (rx.mono e2) ry r2 hm2 hq2
abbrev FO := FX (Option Int)
abbrev OSl := Val → Option Int → Option Int → Sto → Option (Val × Sto)
abbrev SO (W : Wd) (X : Cx) (Ew : WX) (e : Option Expr) (m : FO) : Prop := PO X e (tOf W Ew (fun _ _ a b => a = b) m)
def fPart (m : FE) : FO := bnd m fun x => fun _ st => match x with
  | .int i => some (.ok (some i) st)
  | _ => none
def fNoPart : FO := fun _ st => some (.ok none st)
theorem imO {o : Option Expr} {t u : TO} (h : PO X o t) (i : ∀ σ H Q, u σ H Q → t σ H Q) : PO X o u := ⟨fun pins s σ H Q I hw => h.run pins s σ H Q I (i _ _ _ hw)⟩
theorem so_none : SO W X Ew none fNoPart := imO po_none fun σ H Q ⟨ι, sl, st, r, hs, hr, hm, hq⟩ => by
  cases hm
  exact hq ι H _ (Ext.refl _ _) hr rfl
theorem so_some (h : SE W X Ew e me) : SO W X Ew (some e) (fPart me) := imO (po_some h) fun σ H Q ⟨ι, sl, st, r, hs, hr, hm, hq⟩ => run hs hr hm hq fun x st1 ι1 H1 vx e1 s1 r1 rx hm1 hq1 => by
  cases rx <;> first
    | (cases hm1; done)
    | (cases hm1
       exact ⟨_, rfl, hq1 ι1 H1 _ (Ext.refl _ _) r1 rfl⟩)
def rs (W : Wd) (f : OSl) : V → Option Int → Option Int → Hp → VK → Prop := fun x lo hi H Q => ∃ ι st a v st', RV W.K ι H a x ∧ Rel W ι H st ∧ f a lo hi st = some (v, st') ∧ Post W ι H v st' Q
def fSlice (f : OSl) (m : FE) (lo hi : FO) : FE := bnd m fun x => bnd lo fun l => bnd hi fun u => lft (f x l u)
theorem se_sl {f : OSl} {lo hi : Option Expr} {ml mh : FO} {p2 : Pos} (ho : SlR X (rs W f)) (ha : SE W X Ew a ma) (hl : SO W X Ew lo ml) (hh : SO W X Ew hi mh) : SE W X Ew (.Subscript a (.Slice lo hi none p2) pos) (fSlice f ma ml mh) :=
  imE (pe_slice ho ha hl hh) fun σ H Q ⟨ι, sl, st, r, hs, hr, hm, hq⟩ => run hs hr hm hq fun x st1 ι1 H1 vx e1 s1 r1 rx hm1 hq1 => run s1 r1 hm1 hq1 fun y st2 ι2 H2 vy e2 s2 r2 ry hm2 hq2 => run s2 r2 hm2 hq2 fun z st3 ι3 H3 vz e3 s3 r3 rz hm3 hq3 => by
    subst ry rz
    obtain ⟨v, st', h1, rfl⟩ := lft_some hm3
    exact ⟨ι3, st3, x, v, st', (rx.mono e2).mono e3, r3, h1, hq3⟩

/-! ### calls of built-ins -/
def fCall (f : ON) (m : FA) : FE := bnd m fun xs => lft (f xs)
theorem rc_of {f : ON} {xs : List Val} {vs : List V} {sl : Sl} {r : R Val} {Q : VK} {E : XK} (rx : RVs W.K ι H xs vs) (hr : Rel W ι H st) (hm : lft (f xs) sl st = some r) (hq : Pst W (fun ι H => RV W.K ι H) ι H r Q E) : rc W f vs H Q := by
  obtain ⟨v, st', h1, rfl⟩ := lft_some hm
  exact ⟨ι, st, xs, v, st', rx, hr, h1, hq⟩
theorem se_blt {id : String} {x : Str} {p : Pos} {f : ON} (C : Ctx W k X Ew) (ho : CallR X (.builtin id) (rc W f)) (hm : W.mg x = none) (hb : bootBuiltins x = some (.builtin id)) (ha : SA W X Ew (e :: es) mas) (hg : Gl X x := by rfl) (hn : x ≠ "__name__" := by decide) (hd : (x == ("__debug__" : Str)) = false := by decide)
    (h1 : starEach (e :: es) X.env = (false, eval e X.env) :: starEach es X.env := by rfl) (h2 : (backTo pos (starEach es X.env)).any (·.1) = false := by rfl) : SE W X Ew (.Call (.Name x p) (e :: es) [] pos) (fCall f mas) :=
  imE (pe_callB ho hg (by rw [C.em]; exact hm) hb ha hn hd h1 h2) fun σ H Q ⟨ι, sl, st, r, hs, hr, hm, hq⟩ => run hs hr hm hq fun x st1 ι1 H1 vx e1 s1 r1 rx hm1 hq1 => rc_of rx r1 hm1 hq1
theorem se_bty {id : String} {x : Str} {p : Pos} {f : ON} (C : Ctx W k X Ew) (ho : CallR X (.type id) (rc W f)) (hm : W.mg x = none) (hb : bootBuiltins x = some (.type id)) (ha : SA W X Ew (e :: es) mas) (hg : Gl X x := by rfl) (hn : x ≠ "__name__" := by decide) (hd : (x == ("__debug__" : Str)) = false := by decide)
    (h1 : starEach (e :: es) X.env = (false, eval e X.env) :: starEach es X.env := by rfl) (h2 : (backTo pos (starEach es X.env)).any (·.1) = false := by rfl) : SE W X Ew (.Call (.Name x p) (e :: es) [] pos) (fCall f mas) :=
  imE (pe_callTy ho hg (by rw [C.em]; exact hm) hb ha hn hd h1 h2) fun σ H Q ⟨ι, sl, st, r, hs, hr, hm, hq⟩ => run hs hr hm hq fun x st1 ι1 H1 vx e1 s1 r1 rx hm1 hq1 => rc_of rx r1 hm1 hq1
end
end FL
/-! FL3: statements, targets, loops, comprehensions, calls of defs. -/
namespace FL
open PySem PySem.Spec PyProof.Rows L2

section
variable {W : Wd} {k : Nat} {X : Cx} {Ew : WX} {ι ι' : List Addr} {H H' : Hp} {st : Sto} {a b e : Expr} {es : List Expr} {ma mb me : FE} {mt mu : FT} {mas : FA} {pos : Pos} {s : Stmt} {ss : List Stmt} {m n : FS}

/-! ### blocks -/
def fSkip : FS := fun sl st => some (.nx sl st)
def fSeq (m n : FS) : FS := fun sl st => match m sl st with
  | some (.nx sl' st') => n sl' st'
  | r => r
theorem tsOf_go {σ : L2.St} {sl : Sl} {r : RS} {D : Ends} (hs : RL W.K ι H sl σ) (hr : Rel W ι H st) (hm : m sl st = some r) (hq : PsS W Ew ι H r D) : tsOf W Ew m D σ H := ⟨ι, sl, st, r, hs, hr, hm, hq⟩
theorem nx_of {σ : L2.St} {sl : Sl} {r : RS} {D : Ends} (hs : RL W.K ι H sl σ) (hr : Rel W ι H st) (hm : some (RS.nx sl st) = some r) (hq : PsS W Ew ι H r D) : D.nx σ H := by
  cases hm
  exact hq ι H σ (Ext.refl _ _) hr hs
theorem ss_nil : SSs W X Ew [] fSkip := imSs pss_nil fun D σ H ⟨ι, sl, st, r, hs, hr, hm, hq⟩ => nx_of hs hr hm hq
theorem seq_imp : ∀ D σ H, tsOf W Ew (fSeq m n) D σ H → tSeq (tsOf W Ew m) (tsOf W Ew n) D σ H := fun D σ H ⟨ι, sl, st, r, hs, hr, hm, hq⟩ => by
  unfold fSeq at hm
  cases h : m sl st with
  | none => rw [h] at hm; cases hm
  | some x =>
    rw [h] at hm
    cases x with
    | nx sl' st' => exact ⟨ι, sl, st, _, hs, hr, h, fun ι' H' σ' e r2 s2 => ⟨ι', sl', st', r, s2, r2, hm, hq.mono e⟩⟩
    | rt v st' => cases hm; exact ⟨ι, sl, st, _, hs, hr, h, hq⟩
    | bk sl' st' => cases hm; exact ⟨ι, sl, st, _, hs, hr, h, hq⟩
    | ct sl' st' => cases hm; exact ⟨ι, sl, st, _, hs, hr, h, hq⟩
    | ex c sl' st' => cases hm; exact ⟨ι, sl, st, _, hs, hr, h, hq⟩
theorem ss_cons (h1 : SS W X Ew s m) (h2 : SSs W X Ew ss n) : SSs W X Ew (s :: ss) (fSeq m n) := imSs (pss_cons h1 h2) seq_imp
theorem ss_one (h1 : SS W X Ew s m) : SSs W X Ew [s] m := pss_one h1

/-! ### targets -/
abbrev FG := Val → Sl → Sto → Option (Sl × Sto)
abbrev FGs := List Val → Sl → Sto → Option (Sl × Sto)
def tgOf (W : Wd) (g : FG) : TG := fun v σ H Q => ∃ ι sl st x sl' st', RL W.K ι H sl σ ∧ Rel W ι H st ∧ RV W.K ι H x v ∧ g x sl st = some (sl', st') ∧ ∀ ι' H' σ', Ext ι H ι' H' → Rel W ι' H' st' → RL W.K ι' H' sl' σ' → Q σ' H'
def tgsOf (W : Wd) (g : FGs) : TGs := fun v σ H Q => ∃ ι sl st x sl' st', RL W.K ι H sl σ ∧ Rel W ι H st ∧ RVs W.K ι H x v ∧ g x sl st = some (sl', st') ∧ ∀ ι' H' σ', Ext ι H ι' H' → Rel W ι' H' st' → RL W.K ι' H' sl' σ' → Q σ' H'
abbrev SG (W : Wd) (X : Cx) (e : Expr) (g : FG) : Prop := PG X e (tgOf W g)
abbrev SGs (W : Wd) (X : Cx) (e : List Expr) (g : FGs) : Prop := PGs X e (tgsOf W g)
theorem imG {t u : TG} (h : PG X e t) (i : ∀ v σ H Q, u v σ H Q → t v σ H Q) : PG X e u := ⟨fun pins s σ H v w Q I r hw => h.run pins s σ H v w Q I r (i _ _ _ _ hw)⟩
theorem imGs {t u : TGs} (h : PGs X es t) (i : ∀ v σ H Q, u v σ H Q → t v σ H Q) : PGs X es u := ⟨fun pins s σ H v w Q I r hw => h.run pins s σ H v w Q I r (i _ _ _ _ hw)⟩
def gSet (i : Nat) : FG := fun x sl st => some (sl.set i (some x), st)
theorem sg_name (i : Nat) {x : Str} (nd : X.N.Nodup) (hN : X.N[i]? = some x := by rfl) (hl : L2.Loc X.env.scope x := by first | exact Or.inl rfl | exact Or.inr rfl) (hf : X.fn x = true ∨ X.env.scope.names.lookup x = some .local := by first | exact Or.inl rfl | exact Or.inr rfl) :
    SG W X (.Name x pos) (gSet i) := imG (pg_name nd hN hl hf) fun v σ H Q ⟨ι, sl, st, x, sl', st', hs, hr, hx, hm, hq⟩ => by
  cases hm
  exact hq ι H _ (Ext.refl _ _) hr (hs.set hx i)
def gNo : FGs := fun xs sl st => match xs with
  | [] => some (sl, st)
  | _ => none
def gAnd (g : FG) (h : FGs) : FGs := fun xs sl st => match xs with
  | [] => none
  | x :: r => match g x sl st with
    | some (sl', st') => h r sl' st'
    | none => none
theorem sgs_nil : SGs W X [] gNo := imGs pgs_nil fun v σ H Q ⟨ι, sl, st, x, sl', st', hs, hr, hx, hm, hq⟩ => by
  cases hx with
  | nil =>
    cases hm
    exact ⟨rfl, hq ι H _ (Ext.refl _ _) hr hs⟩
  | cons _ _ => cases hm
theorem sgs_cons {g : FG} {h : FGs} (hg : SG W X e g) (hh : SGs W X es h) (h1 : (assignEach (e :: es) X.env).map (·.2) = assign e X.env :: (assignEach es X.env).map (·.2) := by rfl) : SGs W X (e :: es) (gAnd g h) :=
  imGs (pgs_cons hg hh h1) fun v σ H Q ⟨ι, sl, st, x, sl', st', hs, hr, hx, hm, hq⟩ => by
    cases hx with
    | nil => cases hm
    | @cons x v xs vs rx rxs =>
      have hm2 : (match g x sl st with | some (sl', st') => h xs sl' st' | none => none) = some (sl', st') := hm
      cases hg1 : g x sl st with
      | none => rw [hg1] at hm2; cases hm2
      | some p =>
        obtain ⟨sl1, st1⟩ := p
        rw [hg1] at hm2
        refine ⟨v, vs, rfl, ι, sl, st, x, sl1, st1, hs, hr, rx, hg1, fun ι' H' σ' e1 r1 s1 => ⟨ι', sl1, st1, xs, sl', st', s1, r1, rxs.mono e1, hm2, fun ι2 H2 σ2 e2 r2 s2 => hq ι2 H2 σ2 (e1.trans e2) r2 s2⟩⟩
def gTupl (g : FGs) (n : Nat) : FG := fun x sl st => match x with
  | .tup xs => if xs.length = n then g xs sl st else none
  | _ => none
theorem sg_tup {g : FGs} {j n : Nat} (C : Ctx W k X Ew) (h : SGs W X es g) (h1 : (assignEach es X.env).length = n := by rfl) (h2 : List.findIdx? (fun x => x.1) (assignEach es X.env) = none := by rfl) : SG W X (.Tuple es j pos) (gTupl g n) :=
  imG (pg_tup C.calm h h1 h2) fun v σ H Q ⟨ι, sl, st, x, sl', st', hs, hr, hx, hm, hq⟩ => by
    cases hx with
    | @tup a vs xs sq rx =>
      have hm2 : (if xs.length = n then g xs sl st else none) = some (sl', st') := hm
      by_cases hl : xs.length = n
      · rw [if_pos hl] at hm2
        exact ⟨a, vs, rfl, by rw [C.eK]; exact sq, by rw [← rx.len]; exact hl, ι, sl, st, xs, sl', st', hs, hr, rx, hm2, hq⟩
      · rw [if_neg hl] at hm2
        cases hm2
    | _ => cases hm
/-- o[i] = v -/
abbrev O3 := Val → Val → Val → Sto → Option Sto
def rset (W : Wd) (f : O3) : TSet := fun o i v H Q => ∃ ι st x y z st', RV W.K ι H x o ∧ RV W.K ι H y i ∧ RV W.K ι H z v ∧ Rel W ι H st ∧ f x y z st = some st' ∧ ∀ ι' H', Ext ι H ι' H' → Rel W ι' H' st' → Q H'
def gIx (f : O3) (mo mi : FE) : FG := fun x sl st => match mo sl st with
  | some (.ok o st1) => match mi sl st1 with
    | some (.ok i st2) => match f o i x st2 with
      | some st3 => some (sl, st3)
      | none => none
    | _ => none
  | _ => none
theorem sg_sub {f : O3} {mo mi : FE} (C : Ctx W k X Ew) (ho : SE W X Ew a mo) (hi : SE W X Ew b mi) (hf : PSet X (rset W f))
    (h : ∀ v, assign (.Subscript a b pos) X.env v = (do let ov ← holding [v] (eval a X.env); let iv ← holding [v, ov] (eval b X.env); standAt pos; holding [v, ov, iv] (setItem ov iv v); release [v, ov, iv] []) := by intro _; rfl) : SG W X (.Subscript a b pos) (gIx f mo mi) :=
  imG (pg_sub ho hi hf h) fun v σ H Q ⟨ι, sl, st, x, sl', st', hs, hr, hx, hm, hq⟩ => by
    unfold gIx at hm
    cases h1 : mo sl st with
    | none => rw [h1] at hm; cases hm
    | some r1 =>
      rw [h1] at hm
      cases r1 with
      | ex c st1 => cases hm
      | ok o st1 =>
        refine ⟨ι, sl, st, _, hs, hr, h1, fun ι1 H1 vo e1 r1 ro => ?_⟩
        cases h2 : mi sl st1 with
        | none => simp [h2] at hm
        | some r2 =>
          cases r2 with
          | ex c st2 => simp [h2] at hm
          | ok i st2 =>
            simp only [h2] at hm
            refine ⟨ι1, sl, st1, _, hs.mono e1, r1, h2, fun ι2 H2 vi e2 r2 ri => ?_⟩
            cases h3 : f o i x st2 with
            | none => simp [h3] at hm
            | some st3 =>
              simp only [h3] at hm
              cases hm
              exact ⟨ι2, st2, o, i, x, _, ro.mono e2, ri, (hx.mono e1).mono e2, r2, h3, fun ι3 H3 e3 r3 => hq ι3 H3 σ ((e1.trans e2).trans e3) r3 (((hs.mono e1).mono e2).mono e3)⟩

/-! ### small statements -/
def fAsg (m : FE) (g : FG) : FS := bndS m fun x => fun sl st => match g x sl st with
  | some (sl', st') => some (.nx sl' st')
  | none => none
theorem asg_imp {g : FG} : ∀ D σ H, tsOf W Ew (fAsg ma g) D σ H → tAsg (teOf W Ew ma) (tgOf W g) D σ H := fun D σ H ⟨ι, sl, st, r, hs, hr, hm, hq⟩ => runS hs hr hm hq fun x st1 ι1 H1 vx e1 s1 r1 rx hm1 hq1 => by
  have hm2 : (match g x sl st1 with | some (sl', st') => some (RS.nx sl' st') | none => none) = some r := hm1
  cases h : g x sl st1 with
  | none => rw [h] at hm2; cases hm2
  | some p =>
    obtain ⟨sl', st'⟩ := p
    rw [h] at hm2
    cases hm2
    exact ⟨ι1, sl, st1, x, sl', st', s1, r1, rx, h, fun ι2 H2 σ2 e2 r2 s2 => hq1 ι2 H2 σ2 e2 r2 s2⟩
theorem ss_asg {g : FG} {tg : Expr} (ha : SE W X Ew a ma) (hg : SG W X tg g) (h1 : swapsWithSole [tg] a pos.line X.env = pure false := by rfl) (h2 : swappedStores [tg] a X.env = pure none := by rfl) (h3 : (assignEach [tg] X.env).map (·.2) = [assign tg X.env] := by rfl) : SS W X Ew (.Assign [tg] a pos) (fAsg ma g) :=
  imS (ps_asg ha hg h1 h2 h3) asg_imp
def fSet (i : Nat) (m : FE) : FS := fAsg m (gSet i)
theorem ss_set (i : Nat) {x : Str} {p : Pos} (nd : X.N.Nodup) (ha : SE W X Ew a ma) (hN : X.N[i]? = some x := by rfl) (hl : L2.Loc X.env.scope x := by first | exact Or.inl rfl | exact Or.inr rfl) (h1 : swapsWith a (some (.Name x p)) pos.line X.env = pure false := by rfl)
    (hf : X.fn x = true ∨ X.env.scope.names.lookup x = some .local := by first | exact Or.inl rfl | exact Or.inr rfl) : SS W X Ew (.Assign [.Name x p] a pos) (fSet i ma) :=
  imS (ps_set nd hN hl ha h1 hf) fun D σ H h => by
    obtain ⟨ι, sl, st, r, hs, hr, hm, hq⟩ := h
    exact runS (k := fun x => fun sl st => some (.nx (sl.set i (some x)) st)) hs hr hm hq fun x st1 ι1 H1 vx e1 s1 r1 rx hm1 hq1 => nx_of (s1.set rx i) r1 hm1 hq1
def fExpr (m : FE) : FS := bndS m fun _ => fun sl st => some (.nx sl st)
theorem ss_expr (ha : SE W X Ew a ma) (h1 : swapsWith a none pos.line X.env = pure false := by rfl) : SS W X Ew (.Expr a pos) (fExpr ma) :=
  imS (ps_expr ha h1) fun D σ H ⟨ι, sl, st, r, hs, hr, hm, hq⟩ => runS hs hr hm hq fun x st1 ι1 H1 vx e1 s1 r1 rx hm1 hq1 => nx_of s1 r1 hm1 hq1
def fRet (m : FE) : FS := bndS m fun x => fun _ st => some (.rt x st)
theorem ss_ret (ha : SE W X Ew a ma) : SS W X Ew (.Return (some a) pos) (fRet ma) :=
  imS (ps_ret ha) fun D σ H ⟨ι, sl, st, r, hs, hr, hm, hq⟩ => runS hs hr hm hq fun x st1 ι1 H1 vx e1 s1 r1 rx hm1 hq1 => by
    cases hm1
    exact hq1 ι1 H1 vx (Ext.refl _ _) r1 rx
def fRetN : FS := fun _ st => some (.rt .non st)
theorem ss_retN : SS W X Ew (.Return none pos) fRetN := imS ps_retN fun D σ H ⟨ι, sl, st, r, hs, hr, hm, hq⟩ => by
  cases hm
  exact hq ι H _ (Ext.refl _ _) hr .non
theorem ss_pass : SS W X Ew (.Pass pos) fSkip := imS ps_pass fun D σ H ⟨ι, sl, st, r, hs, hr, hm, hq⟩ => nx_of hs hr hm hq
def fBreak : FS := fun sl st => some (.bk sl st)
def fCont : FS := fun sl st => some (.ct sl st)
theorem ss_break : SS W X Ew (.Break pos) fBreak := imS ps_break fun D σ H ⟨ι, sl, st, r, hs, hr, hm, hq⟩ => by
  cases hm
  exact hq ι H _ (Ext.refl _ _) hr hs
theorem ss_cont : SS W X Ew (.Continue pos) fCont := imS ps_continue fun D σ H ⟨ι, sl, st, r, hs, hr, hm, hq⟩ => by
  cases hm
  exact hq ι H _ (Ext.refl _ _) hr hs
def fIfS (c : FT) (m n : FS) : FS := bndS c fun b => if b then m else n
theorem ss_if {c : Expr} {sa sb : List Stmt} (hc : SC W X Ew c mt) (ha : SSs W X Ew sa m) (hb : SSs W X Ew sb n) : SS W X Ew (.If c sa sb pos) (fIfS mt m n) :=
  imS (ps_if hc ha hb) fun D σ H ⟨ι, sl, st, r, hs, hr, hm, hq⟩ => runS hs hr hm hq fun x st1 ι1 H1 vx e1 s1 r1 rx hm1 hq1 => by
    subst rx
    cases x with
    | true => exact tsOf_go s1 r1 hm1 hq1
    | false => exact tsOf_go s1 r1 hm1 hq1
/-- x op= e -/
def rip (W : Wd) (f : O2) : TIp := fun x y H Q => ro W f x y H Q
def fAug (i : Nat) (f : O2) (m : FE) : FS := fun sl st => match sl[i]? with
  | some (some x) => bndS m (fun y => fun sl st => match f x y st with
    | some (z, st') => some (.nx (sl.set i (some z)) st')
    | none => none) sl st
  | _ => none
theorem ss_aug (i : Nat) {x : Str} {p : Pos} {op : Operator} {f : O2} (nd : X.N.Nodup) (ha : SE W X Ew a ma) (hp : PIp X op (rip W f)) (hN : X.N[i]? = some x := by rfl) (hl : L2.Loc X.env.scope x := by first | exact Or.inl rfl | exact Or.inr rfl)
    (hf : X.fn x = true ∨ X.env.scope.names.lookup x = some .local := by first | exact Or.inl rfl | exact Or.inr rfl) : SS W X Ew (.AugAssign (.Name x p) op a pos) (fAug i f ma) :=
  imS (ps_aug nd hN hl ha hp hf) fun D σ H ⟨ι, sl, st, r, hs, hr, hm, hq⟩ => by
    unfold fAug at hm
    split at hm
    · rename_i x hx
      obtain ⟨v, h1, h2⟩ := hs.at' i x hx
      refine ⟨v, h1, runS hs hr hm hq fun y st1 ι1 H1 vy e1 s1 r1 ry hm1 hq1 => ?_⟩
      have hm2 : (match f x y st1 with | some (z, st') => some (RS.nx (sl.set i (some z)) st') | none => none) = some r := hm1
      cases h : f x y st1 with
      | none => rw [h] at hm2; cases hm2
      | some q =>
        obtain ⟨z, st'⟩ := q
        rw [h] at hm2
        cases hm2
        exact ⟨ι1, st1, x, y, z, st', h2.mono e1, ry, r1, h, fun ι2 H2 w e2 r2 rw' => hq1 ι2 H2 _ e2 r2 ((s1.mono e2).set rw' i)⟩
    · cases hm

/-! ### what is walked -/
/-- what is walked and may change: one list, two -/
inductive Lv where
  | none
  | some (p : Nat)
  | two (p : Nat) (xs : List Val) (q : Nat) (ys : List Val)
structure Itb where
  items : List Val
  live : Lv
abbrev FI := FX Itb
/-- a list that is walked stands still -/
def Live (l : Lv) (xs : List Val) (st : Sto) : Prop := match l with
  | .none => True
  | .some n => st[n]? = some (.lst xs)
  | .two p xs q ys => st[p]? = some (.lst xs) ∧ st[q]? = some (.lst ys)
def ItOk (W : Wd) (ι : List Addr) (H : Hp) (b : Itb) (J : It) : Prop := ∀ ι' H' st (i : Nat), Ext ι H ι' H' → Rel W ι' H' st → Live b.live b.items st →
  (∀ x, b.items[i]? = some x → J.go i H' ∧ ∀ y H2, J.yld i H' y H2 → Ext ι' H' ι' H2 ∧ Rel W ι' H2 st ∧ RV W.K ι' H2 x y) ∧ (b.items.length ≤ i → J.stop i H')
abbrev tiOf (W : Wd) (Ew : WX) (m : FI) : TI := tOf W Ew (fun ι H b J => ItOk W ι H b J) m
abbrev SI (W : Wd) (X : Cx) (Ew : WX) (tg e : Expr) (m : FI) : Prop := PI X tg e (tiOf W Ew m)
theorem imI {tg : Expr} {t u : TI} (h : PI X tg e t) (i : ∀ σ H Q, u σ H Q → t σ H Q) : PI X tg e u := ⟨fun pins s σ H R I hw => h.run pins s σ H R I (i _ _ _ hw)⟩

open Classical in
noncomputable def forL (l : Lv) (all : List Val) (g : FG) (body : FS) : List Val → FS
  | [] => fun sl st => if Live l all st then some (.nx sl st) else none
  | x :: xs => fun sl st => if Live l all st then (match g x sl st with
      | none => none
      | some (sl1, st1) => match body sl1 st1 with
        | some (.nx sl2 st2) => forL l all g body xs sl2 st2
        | some (.ct sl2 st2) => forL l all g body xs sl2 st2
        | some (.bk sl2 st2) => some (.nx sl2 st2)
        | r => r) else none
noncomputable def fFor (mi : FI) (g : FG) (body : FS) : FS := bndS mi fun b => forL b.live b.items g body b.items
open Classical in
theorem ss_for {tg iter : Expr} {body : List Stmt} {mi : FI} {g : FG} (C : Ctx W k X Ew) (hi : SI W X Ew tg iter mi) (hg : SG W X tg g) (hb : SSs W X Ew body m)
    (h1 : ∀ x, foldedSetIterable iter X.env x = pure x := by intro _; rfl) : SS W X Ew (.For tg iter body [] pos) (fFor mi g m) :=
  imS (ps_for C.po C.calm hi hg hb h1) fun D σ H ⟨ι, sl, st, r, hs, hr, hm, hq⟩ => runS hs hr hm hq fun b st1 ι1 H1 J e1 s1 r1 ok hm1 hq1 => by
    refine ⟨fun i mm σ H => ∃ ι2 sl2 st2, Ext ι1 H1 ι2 H ∧ RL W.K ι2 H sl2 σ ∧ Rel W ι2 H st2 ∧ i ≤ b.items.length ∧ mm = b.items.length - i ∧ forL b.live b.items g m (b.items.drop i) sl2 st2 = some r ∧ PsS W Ew ι2 H r D,
      ⟨_, ι1, sl, st1, Ext.refl _ _, s1, r1, Nat.zero_le _, rfl, hm1, hq1⟩, ?_⟩
    rintro i mm σ2 H2 ⟨ι2, sl2, st2, e2, s2, r2, hi, rfl, hf, hq2⟩
    cases hd : b.items.drop i with
    | nil =>
      rw [hd] at hf
      have hf2 : (if Live b.live b.items st2 then some (RS.nx sl2 st2) else none) = some r := hf
      by_cases hl : Live b.live b.items st2
      · rw [if_pos hl] at hf2
        have hi2 : b.items.length ≤ i := by
          have := congrArg List.length hd
          rw [List.length_drop, List.length_nil] at this
          omega
        exact .inl ⟨(ok ι2 H2 st2 i e2 r2 hl).2 hi2, nx_of s2 r2 hf2 hq2⟩
      · rw [if_neg hl] at hf2
        cases hf2
    | cons x xs =>
      rw [hd] at hf
      have hf2 : (if Live b.live b.items st2 then (match g x sl2 st2 with
        | none => none
        | some (sl1, st1) => match m sl1 st1 with
          | some (.nx sl2 st2) => forL b.live b.items g m xs sl2 st2
          | some (.ct sl2 st2) => forL b.live b.items g m xs sl2 st2
          | some (.bk sl2 st2) => some (.nx sl2 st2)
          | r => r) else none) = some r := hf
      by_cases hl : Live b.live b.items st2
      · rw [if_pos hl] at hf2
        have hx : b.items[i]? = some x := by
          have h0 := List.getElem?_drop (xs := b.items) (i := i) (j := 0)
          rw [hd] at h0
          simpa using h0.symm
        have hxs : b.items.drop (i + 1) = xs := by
          rw [← List.drop_drop, hd]
          rfl
        have hil : i < b.items.length := (List.getElem?_eq_some_iff.mp hx).1
        obtain ⟨hgo, hy⟩ := (ok ι2 H2 st2 i e2 r2 hl).1 x hx
        refine .inr ⟨hgo, fun σ' H' => ∃ ι3 sl3 st3, Ext ι1 H1 ι3 H' ∧ RL W.K ι3 H' sl3 σ' ∧ Rel W ι3 H' st3 ∧ forL b.live b.items g m xs sl3 st3 = some r ∧ PsS W Ew ι3 H' r D, ?_, fun y H3 hyl => ?_⟩
        · rintro σ' H' ⟨ι3, sl3, st3, h3, h4, h5, h6, h7⟩
          exact ⟨b.items.length - (i + 1), by omega, ι3, sl3, st3, h3, h4, h5, hil, rfl, by rw [hxs]; exact h6, h7⟩
        · obtain ⟨e3, r3, ry⟩ := hy y H3 hyl
          cases h5 : g x sl2 st2 with
          | none => rw [h5] at hf2; cases hf2
          | some p =>
            obtain ⟨sl4, st4⟩ := p
            rw [h5] at hf2
            refine ⟨ι2, sl2, st2, x, sl4, st4, s2.mono e3, r3, ry, h5, fun ι4 H4 σ4 e4 r4 s4 => ?_⟩
            have hf3 : (match m sl4 st4 with
              | some (.nx sl2 st2) => forL b.live b.items g m xs sl2 st2
              | some (.ct sl2 st2) => forL b.live b.items g m xs sl2 st2
              | some (.bk sl2 st2) => some (.nx sl2 st2)
              | r => r) = some r := hf2
            have e24 : Ext ι2 H2 ι4 H4 := e3.trans e4
            cases h6 : m sl4 st4 with
            | none => rw [h6] at hf3; cases hf3
            | some r6 =>
              rw [h6] at hf3
              cases r6 with
              | nx sl5 st5 => exact ⟨ι4, sl4, st4, _, s4, r4, h6, fun ι5 H5 σ5 e5 r5 s5 => ⟨ι5, sl5, st5, (e2.trans e24).trans e5, s5, r5, hf3, hq2.mono (e24.trans e5)⟩⟩
              | ct sl5 st5 => exact ⟨ι4, sl4, st4, _, s4, r4, h6, fun ι5 H5 σ5 e5 r5 s5 => ⟨ι5, sl5, st5, (e2.trans e24).trans e5, s5, r5, hf3, hq2.mono (e24.trans e5)⟩⟩
              | bk sl5 st5 =>
                cases hf3
                exact ⟨ι4, sl4, st4, _, s4, r4, h6, fun ι5 H5 σ5 e5 r5 s5 => hq2 ι5 H5 σ5 (e24.trans e5) r5 s5⟩
              | rt v st5 =>
                cases hf3
                exact ⟨ι4, sl4, st4, _, s4, r4, h6, fun ι5 H5 σ5 e5 r5 s5 => hq2 ι5 H5 σ5 (e24.trans e5) r5 s5⟩
              | ex c sl5 st5 =>
                cases hf3
                exact ⟨ι4, sl4, st4, _, s4, r4, h6, fun ι5 H5 σ5 e5 r5 s5 => hq2 ι5 H5 σ5 (e24.trans e5) r5 s5⟩
      · rw [if_neg hl] at hf2
        cases hf2

/-! ### while -/
def whileL (c : FT) (body : FS) : Nat → FS
  | 0 => fun _ _ => none
  | n + 1 => bndS c fun b => if b then fun sl st => match body sl st with
      | some (.nx sl2 st2) => whileL c body n sl2 st2
      | some (.ct sl2 st2) => whileL c body n sl2 st2
      | some (.bk sl2 st2) => some (.nx sl2 st2)
      | r => r else fun sl st => some (.nx sl st)
open Classical in
noncomputable def fWhile (c : FT) (body : FS) : FS := fun sl st => if h : ∃ n r, whileL c body n sl st = some r then whileL c body h.choose sl st else none
theorem ss_while {c : Expr} {body : List Stmt} (C : Ctx W k X Ew) (hc : SC W X Ew c mt) (hb : SSs W X Ew body m) : SS W X Ew (.While c body [] pos) (fWhile mt m) :=
  imS (ps_while C.po hc hb) fun D σ H ⟨ι, sl, st, r, hs, hr, hm, hq⟩ => by
    have hn : ∃ n, whileL mt m n sl st = some r := by
      unfold fWhile at hm
      split at hm
      · exact ⟨_, hm⟩
      · cases hm
    obtain ⟨n, hn⟩ := hn
    refine ⟨fun n σ2 H2 => ∃ ι2 sl2 st2, RL W.K ι2 H2 sl2 σ2 ∧ Rel W ι2 H2 st2 ∧ whileL mt m n sl2 st2 = some r ∧ PsS W Ew ι2 H2 r D, ⟨n, ι, sl, st, hs, hr, hn, hq⟩, ?_⟩
    rintro n σ2 H2 ⟨ι2, sl2, st2, s2, r2, hm2, hq2⟩
    cases n with
    | zero => cases hm2
    | succ n =>
      refine runS s2 r2 hm2 hq2 fun x st3 ι3 H3 vx e3 s3 r3 rx hm3 hq3 => ?_
      subst rx
      cases x with
      | false => exact nx_of s3 r3 hm3 hq3
      | true =>
        refine ⟨fun σ4 H4 => ∃ ι4 sl4 st4, RL W.K ι4 H4 sl4 σ4 ∧ Rel W ι4 H4 st4 ∧ whileL mt m n sl4 st4 = some r ∧ PsS W Ew ι4 H4 r D, fun σ4 H4 h4 => ⟨n, Nat.lt_succ_self _, h4⟩, ?_⟩
        have hm4 : (match m sl2 st3 with
          | some (.nx sl2 st2) => whileL mt m n sl2 st2
          | some (.ct sl2 st2) => whileL mt m n sl2 st2
          | some (.bk sl2 st2) => some (.nx sl2 st2)
          | r => r) = some r := hm3
        cases h6 : m sl2 st3 with
        | none => rw [h6] at hm4; cases hm4
        | some r6 =>
          rw [h6] at hm4
          cases r6 with
          | nx sl5 st5 => exact ⟨ι3, sl2, st3, _, s3, r3, h6, fun ι5 H5 σ5 e5 r5 s5 => ⟨ι5, sl5, st5, s5, r5, hm4, hq3.mono e5⟩⟩
          | ct sl5 st5 => exact ⟨ι3, sl2, st3, _, s3, r3, h6, fun ι5 H5 σ5 e5 r5 s5 => ⟨ι5, sl5, st5, s5, r5, hm4, hq3.mono e5⟩⟩
          | bk sl5 st5 =>
            cases hm4
            exact ⟨ι3, sl2, st3, _, s3, r3, h6, hq3⟩
          | rt v st5 =>
            cases hm4
            exact ⟨ι3, sl2, st3, _, s3, r3, h6, hq3⟩
          | ex c sl5 st5 =>
            cases hm4
            exact ⟨ι3, sl2, st3, _, s3, r3, h6, hq3⟩
end
end FL
/-! FL4: comprehensions, calls of defs, what a def is worth, what is walked. -/
namespace FL
open PySem PySem.Spec PyProof.Rows L2

/-! ### comprehensions -/
theorem wipe_get (σ : L2.St) : ∀ (vs : List Nat) (j : Nat), (wipe σ vs)[j]? = if j ∈ vs ∧ j < σ.length then some none else σ[j]?
  | [], j => by simp [wipe]
  | v :: vs, j => by
    show ((wipe σ vs).set v none)[j]? = _
    by_cases e : v = j
    · subst e
      by_cases hl : v < σ.length
      · rw [List.getElem?_set_self (by rw [wipe_length]; exact hl), if_pos ⟨List.mem_cons_self, hl⟩]
      · rw [if_neg (fun q => hl q.2), List.getElem?_eq_none (by rw [List.length_set, wipe_length]; omega), List.getElem?_eq_none (by omega)]
    · rw [List.getElem?_set_ne e, wipe_get σ vs j]
      by_cases hj : j ∈ vs
      · simp [hj]
      · simp [hj, Ne.symm e]
theorem wipe_len (σ : L2.St) (vs : List Nat) : (wipe σ vs).length = σ.length := wipe_length σ vs
theorem wipe_set {σ : L2.St} {vs : List Nat} {i : Nat} {x : Option V} (h : i ∈ vs) : wipe (σ.set i x) vs = wipe σ vs := by
  apply List.ext_getElem?
  intro j
  rw [wipe_get, wipe_get, List.length_set]
  by_cases hj : j ∈ vs ∧ j < σ.length
  · rw [if_pos hj, if_pos hj]
  · rw [if_neg hj, if_neg hj]
    by_cases e : i = j
    · subst e
      have hn : ¬ i < σ.length := fun q => hj ⟨h, q⟩
      rw [List.getElem?_eq_none (by rw [List.length_set]; omega), List.getElem?_eq_none (by omega)]
    · rw [List.getElem?_set_ne e]
theorem wipe_wipe (σ : L2.St) (vs : List Nat) : wipe (wipe σ vs) vs = wipe σ vs := by
  apply List.ext_getElem?
  intro j
  rw [wipe_get, wipe_len]
  split
  · rename_i h
    rw [wipe_get, if_pos h]
  · rfl
def wipeL (sl : Sl) : List Nat → Sl
  | [] => sl
  | v :: vs => (wipeL sl vs).set v none
theorem RL.wipe {K : PySem.W.Frag} {ι : List Addr} {H : Hp} {sl : Sl} {σ : L2.St} (h : RL K ι H sl σ) : ∀ vs : List Nat, RL K ι H (wipeL sl vs) (L2.wipe σ vs)
  | [] => h
  | v :: vs => (RL.wipe h vs).unset v

section
variable {W : Wd} {k : Nat} {X : Cx} {Ew : WX} {ι ι' : List Addr} {H H' : Hp} {st : Sto} {a b e : Expr} {es : List Expr} {ma mb me : FE} {mt mu : FT} {mas : FA} {pos : Pos} {s : Stmt} {ss : List Stmt} {m n : FS}
/-- targets of a comprehension: all but the names vs stay -/
def tgW (W : Wd) (vs : List Nat) (g : FG) : TG := fun v σ H Q => ∃ ι sl st x sl' st', RL W.K ι H sl σ ∧ Rel W ι H st ∧ RV W.K ι H x v ∧ g x sl st = some (sl', st') ∧ ∀ ι' H' σ', Ext ι H ι' H' → Rel W ι' H' st' → RL W.K ι' H' sl' σ' → wipe σ' vs = wipe σ vs → Q σ' H'
def tgsW (W : Wd) (vs : List Nat) (g : FGs) : TGs := fun v σ H Q => ∃ ι sl st x sl' st', RL W.K ι H sl σ ∧ Rel W ι H st ∧ RVs W.K ι H x v ∧ g x sl st = some (sl', st') ∧ ∀ ι' H' σ', Ext ι H ι' H' → Rel W ι' H' st' → RL W.K ι' H' sl' σ' → wipe σ' vs = wipe σ vs → Q σ' H'
abbrev SGw (W : Wd) (X : Cx) (vs : List Nat) (e : Expr) (g : FG) : Prop := PG X e (tgW W vs g)
abbrev SGsw (W : Wd) (X : Cx) (vs : List Nat) (e : List Expr) (g : FGs) : Prop := PGs X e (tgsW W vs g)
theorem sgw_name (i : Nat) {vs : List Nat} {x : Str} (nd : X.N.Nodup) (hN : X.N[i]? = some x := by rfl) (hl : L2.Loc X.env.scope x := by first | exact Or.inl rfl | exact Or.inr rfl) (hf : X.fn x = true ∨ X.env.scope.names.lookup x = some .local := by first | exact Or.inl rfl | exact Or.inr rfl)
    (hv : i ∈ vs := by decide) : SGw W X vs (.Name x pos) (gSet i) := imG (pg_name nd hN hl hf) fun v σ H Q ⟨ι, sl, st, x, sl', st', hs, hr, hx, hm, hq⟩ => by
  cases hm
  exact hq ι H _ (Ext.refl _ _) hr (hs.set hx i) (wipe_set hv)
theorem sgsw_nil {vs : List Nat} : SGsw W X vs [] gNo := imGs pgs_nil fun v σ H Q ⟨ι, sl, st, x, sl', st', hs, hr, hx, hm, hq⟩ => by
  cases hx with
  | nil =>
    cases hm
    exact ⟨rfl, hq ι H _ (Ext.refl _ _) hr hs rfl⟩
  | cons _ _ => cases hm
theorem sgsw_cons {vs : List Nat} {g : FG} {h : FGs} (hg : SGw W X vs e g) (hh : SGsw W X vs es h) (h1 : (assignEach (e :: es) X.env).map (·.2) = assign e X.env :: (assignEach es X.env).map (·.2) := by rfl) : SGsw W X vs (e :: es) (gAnd g h) :=
  imGs (pgs_cons hg hh h1) fun v σ H Q ⟨ι, sl, st, x, sl', st', hs, hr, hx, hm, hq⟩ => by
    cases hx with
    | nil => cases hm
    | @cons x v xs us rx rxs =>
      have hm2 : (match g x sl st with | some (sl', st') => h xs sl' st' | none => none) = some (sl', st') := hm
      cases hg1 : g x sl st with
      | none => rw [hg1] at hm2; cases hm2
      | some p =>
        obtain ⟨sl1, st1⟩ := p
        rw [hg1] at hm2
        refine ⟨v, us, rfl, ι, sl, st, x, sl1, st1, hs, hr, rx, hg1, fun ι' H' σ' e1 r1 s1 w1 => ⟨ι', sl1, st1, xs, sl', st', s1, r1, rxs.mono e1, hm2, fun ι2 H2 σ2 e2 r2 s2 w2 => hq ι2 H2 σ2 (e1.trans e2) r2 s2 (w2.trans w1)⟩⟩
theorem sgw_tup {vs : List Nat} {g : FGs} {j n : Nat} (hc : X.calm = true) (hK : X.K = W.K) (h : SGsw W X vs es g) (h1 : (assignEach es X.env).length = n := by rfl) (h2 : List.findIdx? (fun x => x.1) (assignEach es X.env) = none := by rfl) : SGw W X vs (.Tuple es j pos) (gTupl g n) :=
  imG (pg_tup hc h h1 h2) fun v σ H Q ⟨ι, sl, st, x, sl', st', hs, hr, hx, hm, hq⟩ => by
    cases hx with
    | @tup a us xs sq rx =>
      have hm2 : (if xs.length = n then g xs sl st else none) = some (sl', st') := hm
      by_cases hl : xs.length = n
      · rw [if_pos hl] at hm2
        exact ⟨a, us, rfl, by rw [hK]; exact sq, by rw [← rx.len]; exact hl, ι, sl, st, xs, sl', st', hs, hr, rx, hm2, hq⟩
      · rw [if_neg hl] at hm2
        cases hm2
    | _ => cases hm

abbrev E00 : WX := fun _ _ _ _ => False
open Classical in
noncomputable def lcL (l : Lv) (all : List Val) (g : FG) (t : FT) (m : FE) (sl : Sl) : List Val → Sto → Option (List Val × Sto)
  | [], st => if Live l all st then some ([], st) else none
  | x :: xs, st => if Live l all st then (match g x sl st with
      | none => none
      | some (sl1, st1) => match t sl1 st1 with
        | some (.ok true st2) => (match m sl1 st2 with
          | some (.ok y st3) => (match lcL l all g t m sl xs st3 with
            | some (ys, st4) => some (y :: ys, st4)
            | none => none)
          | _ => none)
        | some (.ok false st2) => lcL l all g t m sl xs st2
        | _ => none) else none
noncomputable def fLc (mi : FI) (g : FG) (t : FT) (m : FE) (vs : List Nat) : FE := bnd mi fun b => fun sl st => if b.items.length ≤ LINE then (match lcL b.live b.items g t m (wipeL sl vs) b.items st with
  | some (ys, st') => some (.ok (.ref st'.length) (st' ++ [.lst ys]))
  | none => none) else none
def fYes : FT := fun _ st => some (.ok true st)
abbrev STs (W : Wd) (X : Cx) (ifs : List Expr) (m : FT) : Prop := PTs X ifs (ttOf W E00 m)
theorem imTs {ifs : List Expr} {t u : TT} (h : PTs X ifs t) (i : ∀ σ H Q, u σ H Q → t σ H Q) : PTs X ifs u := ⟨fun pins s σ H Q I hw => h.run pins s σ H Q I (i _ _ _ hw)⟩
theorem sts_nil : STs W X [] fYes := imTs pts_nil fun σ H Q ⟨ι, sl, st, r, hs, hr, hm, hq⟩ => bl_of (st := st) (sl := sl) hr hm hq
theorem sts_one (h : SC W X E00 e mt) : STs W X [e] mt := pts_one h
open Classical in
theorem lc_imp {mi : FI} {g : FG} {vs : List Nat} {σ : L2.St} {H : Hp} {Q : VK} (h : teOf W Ew (fLc mi g mt me vs) σ H Q) : tLc (tiOf W Ew mi) (tgW W vs g) (ttOf W E00 mt) (teOf W E00 me) vs σ H Q := by
  obtain ⟨ι, sl, st, r, hs, hr, hm, hq⟩ := h
  refine run hs hr hm hq fun b st1 ι1 H1 J e1 s1 r1 ok hm1 hq1 => ?_
  intro D hD
  have nD : ∀ i : Nat, ι1[i]? ≠ some D := fun i q => by
    have hi := (List.getElem?_eq_some_iff.mp q).1
    rw [r1.len] at hi
    obtain ⟨_, h3, _⟩ := r1.ob i D _ q (List.getElem?_eq_getElem hi)
    rw [hD] at h3
    cases h3
  have hm2 : (if b.items.length ≤ LINE then (match lcL b.live b.items g mt me (wipeL sl vs) b.items st1 with | some (ys, st') => some (R.ok (.ref st'.length) (st' ++ [.lst ys])) | none => none) else none) = some r := hm1
  by_cases hz : b.items.length ≤ LINE
  case neg => rw [if_neg hz] at hm2; cases hm2
  rw [if_pos hz] at hm2
  cases hl : lcL b.live b.items g mt me (wipeL sl vs) b.items st1 with
  | none => rw [hl] at hm2; cases hm2
  | some p =>
    obtain ⟨ys0, st0⟩ := p
    rw [hl] at hm2
    cases hm2
    have sw := s1.wipe vs
    refine ⟨fun i mm H => ∃ ι2 st2 acc vacc ys, Ext ι1 H1 ι2 H ∧ H D = some (.lst vacc) ∧ (∀ i : Nat, ι2[i]? ≠ some D) ∧ RVs W.K ι2 H acc vacc ∧ Rel W ι2 H st2 ∧ acc.length ≤ i ∧ i ≤ b.items.length ∧ mm = b.items.length - i ∧
      lcL b.live b.items g mt me (wipeL sl vs) (b.items.drop i) st2 = some (ys, st0) ∧ ys0 = acc ++ ys, ⟨_, ι1, st1, [], [], ys0, (Ext.refl _ _).putO hD, upd_same, nD, .nil, ?_, Nat.le_refl _, Nat.zero_le _, rfl, hl, rfl⟩, ?_⟩
    · exact ⟨r1.len, r1.nd, fun i a o h1 h2 => by
        obtain ⟨ho, h3, h4⟩ := r1.ob i a o h1 h2
        exact ⟨ho, by rw [upd_ne (ne_of_none h3 hD)]; exact h3, h4.mono ((Ext.refl _ _).putO hD)⟩⟩
    rintro i mm H2 ⟨ι2, st2, acc, vacc, ys, e2, hD2, nD2, ra, r2, hal, hi, rfl, hf, rfl⟩
    cases hd : b.items.drop i with
    | nil =>
      rw [hd] at hf
      have hf2 : (if Live b.live b.items st2 then some ([], st2) else none) = some (ys, st0) := hf
      by_cases hlv : Live b.live b.items st2
      case neg => rw [if_neg hlv] at hf2; cases hf2
      rw [if_pos hlv] at hf2
      obtain ⟨rfl, rfl⟩ := Prod.mk.inj (Option.some.inj hf2)
      have hi2 : b.items.length ≤ i := by
        have := congrArg List.length hd
        rw [List.length_drop, List.length_nil] at this
        omega
      refine .inl ⟨(ok ι2 H2 st2 i e2 r2 hlv).2 hi2, ?_⟩
      rw [List.append_nil] at hq1
      exact hq1 _ _ _ (e2.join hD) (r2.join hD2 nD2 (show RO W ι2 H2 (.lst acc) (.lst vacc) from ra)) (.ref (by rw [← r2.len]; simp))
    | cons x xs =>
      rw [hd] at hf
      have hf2 : (if Live b.live b.items st2 then (match g x (wipeL sl vs) st2 with
        | none => none
        | some (sl1, st1) => match mt sl1 st1 with
          | some (.ok true st2) => (match me sl1 st2 with
            | some (.ok y st3) => (match lcL b.live b.items g mt me (wipeL sl vs) xs st3 with
              | some (ys, st4) => some (y :: ys, st4)
              | none => none)
            | _ => none)
          | some (.ok false st2) => lcL b.live b.items g mt me (wipeL sl vs) xs st2
          | _ => none) else none) = some (ys, st0) := hf
      by_cases hlv : Live b.live b.items st2
      case neg => rw [if_neg hlv] at hf2; cases hf2
      rw [if_pos hlv] at hf2
      have hx : b.items[i]? = some x := by
        have h0 := List.getElem?_drop (xs := b.items) (i := i) (j := 0)
        rw [hd] at h0
        simpa using h0.symm
      have hxs : b.items.drop (i + 1) = xs := by
        rw [← List.drop_drop, hd]
        rfl
      have hil : i < b.items.length := (List.getElem?_eq_some_iff.mp hx).1
      obtain ⟨hgo, hy⟩ := (ok ι2 H2 st2 i e2 r2 hlv).1 x hx
      refine .inr ⟨hgo, fun H' => ∃ ι3 st3 acc3 vacc3 ys3, Ext ι1 H1 ι3 H' ∧ H' D = some (.lst vacc3) ∧ (∀ i : Nat, ι3[i]? ≠ some D) ∧ RVs W.K ι3 H' acc3 vacc3 ∧ Rel W ι3 H' st3 ∧ acc3.length ≤ i + 1 ∧
        lcL b.live b.items g mt me (wipeL sl vs) xs st3 = some (ys3, st0) ∧ acc ++ ys = acc3 ++ ys3, ?_, fun y H3 hyl => ?_⟩
      · rintro H' ⟨ι3, st3, acc3, vacc3, ys3, h1, h2, h3, h4, h5, h6, h7, h8⟩
        exact ⟨b.items.length - (i + 1), by omega, ι3, st3, acc3, vacc3, ys3, h1, h2, h3, h4, h5, h6, hil, rfl, by rw [hxs]; exact h7, h8⟩
      obtain ⟨e3, r3, ry⟩ := hy y H3 hyl
      cases h5 : g x (wipeL sl vs) st2 with
      | none => rw [h5] at hf2; cases hf2
      | some p =>
        obtain ⟨sl4, st4⟩ := p
        rw [h5] at hf2
        refine ⟨ι2, wipeL sl vs, st2, x, sl4, st4, sw.mono (e2.trans e3), r3, ry, h5, fun ι4 H4 σ4 e4 r4 s4 w4 => ⟨by rw [w4, wipe_wipe], ?_⟩⟩
        have hf3 : (match mt sl4 st4 with
          | some (.ok true st2) => (match me sl4 st2 with
            | some (.ok y st3) => (match lcL b.live b.items g mt me (wipeL sl vs) xs st3 with
              | some (ys, st4) => some (y :: ys, st4)
              | none => none)
            | _ => none)
          | some (.ok false st2) => lcL b.live b.items g mt me (wipeL sl vs) xs st2
          | _ => none) = some (ys, st0) := hf2
        have e24 : Ext ι2 H2 ι4 H4 := e3.trans e4
        obtain ⟨hD4, nD4⟩ := e24.oth D _ hD2 nD2
        cases h6 : mt sl4 st4 with
        | none => rw [h6] at hf3; cases hf3
        | some r6 =>
          rw [h6] at hf3
          cases r6 with
          | ex c st5 => cases hf3
          | ok bb st5 =>
            refine ⟨ι4, sl4, st4, _, s4, r4, h6, fun ι5 H5 bb' e5 r5 hb => ?_⟩
            subst hb
            obtain ⟨hD5, nD5⟩ := e5.oth D _ hD4 nD4
            have ra5 := ra.mono (e24.trans e5)
            cases bb with
            | false =>
              exact ⟨ι5, st5, acc, vacc, ys, (e2.trans e24).trans e5, hD5, nD5, ra5, r5, by omega, hf3, rfl⟩
            | true =>
              have hf4 : (match me sl4 st5 with
                | some (.ok y st3) => (match lcL b.live b.items g mt me (wipeL sl vs) xs st3 with
                  | some (ys, st4) => some (y :: ys, st4)
                  | none => none)
                | _ => none) = some (ys, st0) := hf3
              cases h7 : me sl4 st5 with
              | none => rw [h7] at hf4; cases hf4
              | some r7 =>
                rw [h7] at hf4
                cases r7 with
                | ex c st6 => cases hf4
                | ok z st6 =>
                  have hf5 : (match lcL b.live b.items g mt me (wipeL sl vs) xs st6 with | some (ys, st4) => some (z :: ys, st4) | none => none) = some (ys, st0) := hf4
                  cases h8 : lcL b.live b.items g mt me (wipeL sl vs) xs st6 with
                  | none => rw [h8] at hf5; cases hf5
                  | some q =>
                    obtain ⟨ys6, st7⟩ := q
                    rw [h8] at hf5
                    cases hf5
                    refine ⟨ι5, sl4, st5, _, s4.mono e5, r5, h7, fun ι6 H6 vz e6 r6 rz => ?_⟩
                    obtain ⟨hD6, nD6⟩ := e6.oth D _ hD5 nD5
                    have ra6 := ra5.mono e6
                    have hv : vacc.length < sizeLine := by
                      rw [← ra.len, ← line_eq]
                      omega
                    exact ⟨vacc, hD6, hv, ι6, st6, acc ++ [z], vacc ++ [vz], ys6, (((e2.trans e24).trans e5).trans e6).putO hD, upd_same, nD6, (ra6.app (.cons rz .nil)).mono0 (Ext0.putO hD6), r6.putO hD6 nD6, by rw [List.length_append, List.length_singleton]; omega, h8,
                      by rw [List.append_assoc]; rfl⟩
theorem Ctx.blk (C : Ctx W k X Ew) (s : Shared) (H : Hp) (sc : Scope) (ce : PySem.Env) (fp : List Addr) : Ctx W k (X.blk s H sc ce fp) E00 :=
  ⟨C.eP, C.ew, C.eK, C.em, C.eb, takes0, C.rm, C.calm, C.nd, PassesOwn.never⟩
theorem se_lc {tg iter : Expr} {ifs : List Expr} {scope : Scope} {own : List (Str × Nat)} {mi : FI} {g : FG} (C : Ctx W k X Ew) (hi : SI W X Ew tg iter mi) (ok : BlkOk X.N X.env.scope scope own)
    (hg : ∀ (s : Shared) (H : Hp) (c : Addr) (cl : List (Str × Addr)) (fp : List Addr), SGw W (X.blk s H scope (compEnvC scope cl c X.env) fp) (own.map (·.2)) tg g)
    (ht : ∀ (s : Shared) (H : Hp) (c : Addr) (cl : List (Str × Addr)) (fp : List Addr), STs W (X.blk s H scope (compEnvC scope cl c X.env) fp) ifs mt)
    (he : ∀ (s : Shared) (H : Hp) (c : Addr) (cl : List (Str × Addr)) (fp : List Addr), SE W (X.blk s H scope (compEnvC scope cl c X.env) fp) E00 e me)
    (h1 : ∀ x, foldedSetIterable iter X.env x = pure x := by intro _; rfl) : SE W X Ew (.ListComp e [⟨tg, iter, ifs, 0⟩] scope pos) (fLc mi g mt me (own.map (·.2))) :=
  imE (pe_lc C.calm C.nd hi ok hg ht he h1) fun σ H Q h => lc_imp h
theorem ss_setLc (i : Nat) {y : Str} {py : Pos} {tg iter : Expr} {ifs : List Expr} {scope : Scope} {own : List (Str × Nat)} {spos : Pos} {mi : FI} {g : FG} (C : Ctx W k X Ew)
    (hsw : swapsWith (.ListComp e [⟨tg, iter, ifs, 0⟩] scope pos) (some (.Name y py)) spos.line X.env = pure true) (hi : SI W X Ew tg iter mi) (ok : BlkOk X.N X.env.scope scope own)
    (hg : ∀ (s : Shared) (H : Hp) (c : Addr) (cl : List (Str × Addr)) (fp : List Addr), SGw W (X.blk s H scope (compEnvC scope cl c X.env) fp) (own.map (·.2)) tg g)
    (ht : ∀ (s : Shared) (H : Hp) (c : Addr) (cl : List (Str × Addr)) (fp : List Addr), STs W (X.blk s H scope (compEnvC scope cl c X.env) fp) ifs mt)
    (he : ∀ (s : Shared) (H : Hp) (c : Addr) (cl : List (Str × Addr)) (fp : List Addr), SE W (X.blk s H scope (compEnvC scope cl c X.env) fp) E00 e me)
    (hy : X.N[i]? = some y := by rfl) (hyl : X.env.scope.names.lookup y = some .local := by rfl) (h1 : ∀ x, foldedSetIterable iter X.env x = pure x := by intro _; rfl) :
    SS W X Ew (.Assign [.Name y py] (.ListComp e [⟨tg, iter, ifs, 0⟩] scope pos) spos) (fSet i (fLc mi g mt me (own.map (·.2)))) :=
  imS (ps_setLc C.calm C.nd hy hyl hsw hi ok hg ht he h1) fun D σ H ⟨ι, sl, st, r, hs, hr, hm, hq⟩ =>
    lc_imp (runS (k := fun x => fun sl st => some (.nx (sl.set i (some x)) st)) hs hr hm hq fun x st1 ι1 H1 vx e1 s1 r1 rx hm1 hq1 => nx_of (s1.set rx i) r1 hm1 hq1)

/-! ### defs -/
def spOf (W : Wd) (F : FF) : Sp := fun vs H Q E => ∃ ι st as r, RVs W.K ι H as vs ∧ Rel W ι H st ∧ F as st = some r ∧ Pst W (fun ι H => RV W.K ι H) ι H r Q E
def runF (n N : Nat) (m : FS) : FF := fun as st => if as.length = n then (match m (as.map some ++ List.replicate (N - n) none) st with
  | some (.nx _ st') => some (.ok .non st')
  | some (.rt v st') => some (.ok v st')
  | some (.ex c _ st') => some (.ex c st')
  | _ => none) else none
structure Callee (W : Wd) (x : Str) (k : Nat) (F : FF) : Prop where
  ex : ∃ (f : Addr) (fd : FuncData) (ps : List Str), W.mg x = some (.ref f) ∧ PySem.W.keepIn W.K (.ref f) = true ∧ Binds W.K fd ps [] ∧ FnOk W.P W.w W.K W.mg W.base (L2.CX W.P W.w) k f fd ps (spOf W F)
/-- the def st stands at the module's name x -/
structure Has (W : Wd) (x : Str) (st : Stmt) : Prop where
  ex : ∃ (f : Addr) (fd : FuncData), W.mg x = some (.ref f) ∧ Fun W.K x x st f fd
/-- where the body of st runs -/
abbrev bX (W : Wd) (N : List Str) (qual : Str) (st : Stmt) (f : Addr) (cdv : Value) (A : Around) (outer : List PySem.Env) (s : Shared) (H : Hp) (E : XK) : Cx :=
  cxOf (L2.CX W.P W.w) W.P W.w W.K W.mg W.base N qual (defScope st) f cdv A outer s H E
theorem start_rl {ι : List Addr} {H : Hp} {as : List Val} {vs : List V} (N : List Str) (h : RVs W.K ι H as vs) : RL W.K ι H (as.map some ++ List.replicate (N.length - as.length) none) (L2.start N vs) := by
  refine ⟨by unfold L2.start; simp [h.len], fun i x q => ?_⟩
  by_cases hi : i < as.length
  · rw [List.getElem?_append_left (by simpa using hi), List.getElem?_map] at q
    cases h1 : as[i]? with
    | none => rw [h1] at q; cases q
    | some y =>
      rw [h1] at q
      cases q
      obtain ⟨v, h2, h3⟩ := h.at i h1
      refine ⟨v, ?_, h3⟩
      unfold L2.start
      rw [List.getElem?_append_left (by rw [List.length_map, ← h.len]; exact hi), List.getElem?_map, h2]
      rfl
  · rw [List.getElem?_append_right (by simpa using hi), List.getElem?_replicate] at q
    split at q <;> cases q
theorem fn_snd {x qual : Str} {st : Stmt} {f : Addr} {fd : FuncData} {N ps : List Str} (Fu : Fun W.K x qual st f fd) (S : FnScope N ps (defScope st))
    (hbody : ∀ (cdv : Value) (A : Around) (outer : List PySem.Env) (s : Shared) (H : Hp) (E : XK), Ctx W k (bX W N qual st f cdv A outer s H E) (fun c d _ H => E c d H) → SSs W (bX W N qual st f cdv A outer s H E) (fun c d _ H => E c d H) (defBody st) m) :
    FnOk W.P W.w W.K W.mg W.base (L2.CX W.P W.w) (k + 1) f fd ps (spOf W (runF ps.length N.length m)) := by
  refine Fu.okX S (fun vs H Q E h => ?_) fun cdv A outer s H vs Q E hr hsp => ?_
  · obtain ⟨ι, st, as, r, h1, h2, h3, h4⟩ := h
    unfold runF at h3
    split at h3
    · rename_i h5
      rw [← h1.len, h5]
    · cases h3
  · refine ⟨_, hbody cdv A outer s H E ⟨rfl, rfl, rfl, rfl, rfl, takes_of rfl rfl rfl rfl, hr, rfl, S.nd, passes_of rfl⟩, ?_⟩
    obtain ⟨ι, st, as, r, h1, h2, h3, h4⟩ := hsp
    unfold runF at h3
    split at h3
    case isFalse => cases h3
    rename_i h5
    have sr := start_rl N h1
    rw [h5] at sr
    cases h6 : m (as.map some ++ List.replicate (N.length - ps.length) none) st with
    | none => rw [h6] at h3; cases h3
    | some r6 =>
      rw [h6] at h3
      cases r6 with
      | nx sl' st' =>
        cases h3
        exact ⟨ι, _, st, _, sr, h2, h6, fun ι' H' σ' e r _ => h4 ι' H' _ e r .non⟩
      | rt v st' =>
        cases h3
        exact ⟨ι, _, st, _, sr, h2, h6, h4⟩
      | ex c sl' st' =>
        cases h3
        exact ⟨ι, _, st, _, sr, h2, h6, fun ι' H' σ' e r _ => h4 ι' H' e r⟩
      | bk _ _ => cases h3
      | ct _ _ => cases h3
theorem callee {x : Str} {st : Stmt} {N ps : List Str} (hh : Has W x st) (S : FnScope N ps (defScope st))
    (hb : ∀ (kV doc pm : Value) (an : Option Addr) (cdv ct : Value) (us : List Value), us.length = ps.length → bindArgs (PySem.W.fnOf x x (defArgs st) (defBody st) (defScope st) .none kV doc pm an cdv ct) ⟨us, []⟩ = pure (ps.zip us))
    (hbody : ∀ (f : Addr) (cdv : Value) (A : Around) (outer : List PySem.Env) (s : Shared) (H : Hp) (E : XK), Ctx W k (bX W N x st f cdv A outer s H E) (fun c d _ H => E c d H) → SSs W (bX W N x st f cdv A outer s H E) (fun c d _ H => E c d H) (defBody st) m) :
    Callee W x (k + 1) (runF ps.length N.length m) := by
  obtain ⟨f, fd, h1, h2⟩ := hh.ex
  exact ⟨f, fd, ps, h1, h2.kp, h2.binds hb, fn_snd h2 S (hbody f)⟩
theorem callee0 {x : Str} {st : Stmt} {ps : List Str} (hh : Has W x st)
    (hb : ∀ (kV doc pm : Value) (an : Option Addr) (cdv ct : Value) (us : List Value), us.length = ps.length → bindArgs (PySem.W.fnOf x x (defArgs st) (defBody st) (defScope st) .none kV doc pm an cdv ct) ⟨us, []⟩ = pure (ps.zip us)) : Callee W x k (fun _ _ => none) := by
  obtain ⟨f, fd, h1, h2⟩ := hh.ex
  have no : ∀ vs H Q E, spOf W (fun _ _ => none) vs H Q E → False := fun vs H Q E z => by
    obtain ⟨_, _, _, _, _, _, h, _⟩ := z
    cases h
  have F : FnOk W.P W.w W.K W.mg W.base (L2.CX W.P W.w) k f fd ps (spOf W (fun _ _ => none)) := ⟨fun vs H Q E z => (no vs H Q E z).elim, fun A outer s H args us vs Q E hr he hb hv z => (no vs H Q E z).elim⟩
  exact ⟨f, fd, ps, h1, h2.kp, h2.binds hb, F⟩
def fCallF (F : FF) (m : FA) : FE := bnd m fun xs => fun _ st => F xs st
theorem se_call {x : Str} {p : Pos} {j : Nat} {F : FF} (C : Ctx W k X Ew) (G : Callee W x j F) (hj : j ≤ k) (ha : SA W X Ew (e :: es) mas) (hg : Gl X x := by rfl) (hd : (x == ("__debug__" : Str)) = false := by decide)
    (h1 : starEach (e :: es) X.env = (false, eval e X.env) :: starEach es X.env := by rfl) (h2 : (backTo pos (starEach es X.env)).any (·.1) = false := by rfl) : SE W X Ew (.Call (.Name x p) (e :: es) [] pos) (fCallF F mas) := by
  obtain ⟨f, fd, ps, g1, g2, g3, g4⟩ := G.ex
  have g5 : FnOk X.prog X.w X.K X.mg X.base (L2.CX X.prog X.w) j f fd ps (spOf W F) := by
    rw [C.eP, C.ew, C.eK, C.em, C.eb]
    exact g4
  refine imE (pe_callS g5 (C.rm.mono hj) hg (by rw [C.em]; exact g1) (by rw [C.eK]; exact g2) (by rw [C.eK]; exact g3) (fun σ => passAt C.tk σ) ha hd h1 h2) fun σ H Q ⟨ι, sl, st, r, hs, hr, hm, hq⟩ => run hs hr hm hq fun xs st1 ι1 H1 vs e1 s1 r1 rx hm1 hq1 => ?_
  exact ⟨ι1, st1, xs, r, rx, r1, hm1, hq1⟩
end
end FL
/-! FL5: operations: numbers, texts, tuples, lists. -/
namespace FL
open PySem PySem.Spec PyProof.Rows L2

theorem st_app (a b : List Nat) : St' a ++ St' b = St' (a ++ b) := by
  show Str.mk (a.toArray ++ b.toArray) = _
  simp
theorem st_len (a : List Nat) : (St' a).length = a.length := by
  show a.toArray.size = _
  simp
theorem st_inj {a b : List Nat} (h : St' a = St' b) : a = b := by
  have := congrArg Str.cps h
  simpa using this
section
variable {W : Wd} {k : Nat} {X : Cx} {Ew : WX} {ι ι' : List Addr} {H H' : Hp} {st : Sto} {a b e : Expr} {es : List Expr} {ma mb me : FE} {mt mu : FT} {mas : FA} {pos : Pos}
theorem sz_of {n : Nat} (h : n ≤ LINE) : n ≤ sizeLine := by rw [← line_eq]; exact h

/-! ### + - * // % ** -/
def fAdd : O2
  | .int i, .int j, st => some (.int (i + j), st)
  | .str x, .str y, st => if x.length + y.length ≤ LINE then some (.str (x ++ y), st) else none
  | .tup xs, .tup ys, st => if xs.length + ys.length ≤ LINE then some (.tup (xs ++ ys), st) else none
  | .ref p, .ref q, st => match st[p]?, st[q]? with
    | some (.lst xs), some (.lst ys) => if xs.length + ys.length ≤ LINE then some (.ref st.length, st ++ [.lst (xs ++ ys)]) else none
    | _, _ => none
  | _, _, _ => none
theorem op_addF (C : Ctx W k X Ew) : OpR X (binaryOp .Add) (ro W fAdd) := opBy fun x y H Q ⟨ι, st, a, b, v, st', rx, ry, hr, hf, hq⟩ => by
  cases rx with
  | int i =>
    cases ry with
    | int j =>
      cases hf
      exact ⟨_, op_add, i, j, rfl, rfl, hq.here hr (.int _)⟩
    | _ => cases hf
  | str i =>
    cases ry with
    | str j =>
      have hf2 : (if i.length + j.length ≤ LINE then some (Val.str (i ++ j), st) else none) = some (v, st') := hf
      by_cases hl : i.length + j.length ≤ LINE
      case neg => rw [if_neg hl] at hf2; cases hf2
      rw [if_pos hl] at hf2
      cases hf2
      exact ⟨_, op_add_str, _, _, rfl, rfl, by rw [st_len, st_len]; exact sz_of hl, by rw [st_app]; exact hq.here hr (.str _)⟩
    | _ => cases hf
  | @tup p vs xs sx rxs =>
    cases ry with
    | @tup q ws ys sy rys =>
      have hf2 : (if xs.length + ys.length ≤ LINE then some (Val.tup (xs ++ ys), st) else none) = some (v, st') := hf
      by_cases hl : xs.length + ys.length ≤ LINE
      case neg => rw [if_neg hl] at hf2; cases hf2
      rw [if_pos hl] at hf2
      cases hf2
      refine ⟨_, op_catA, p, q, vs, ws, rfl, rfl, by rw [C.eK]; exact sx, by rw [C.eK]; exact sy, by rw [← rxs.len, ← rys.len]; exact sz_of hl, fun e => ?_, fun _ e => ?_, fun _ _ => ?_⟩
      · subst e
        cases rxs
        exact hq.here hr (.tup sy rys)
      · subst e
        cases rys
        rw [List.append_nil] at hq
        exact hq.here hr (.tup sx rxs)
      · exact hq.newT hr (rxs.app rys)
    | _ => cases hf
  | @ref i p h1 =>
    cases ry with
    | @ref j q h2 =>
      have hf2 : (match st[i]?, st[j]? with
        | some (.lst xs), some (.lst ys) => if xs.length + ys.length ≤ LINE then some (Val.ref st.length, st ++ [.lst (xs ++ ys)]) else none
        | _, _ => none) = some (v, st') := hf
      split at hf2
      · rename_i xs ys g1 g2
        by_cases hl : xs.length + ys.length ≤ LINE
        case neg => rw [if_neg hl] at hf2; cases hf2
        rw [if_pos hl] at hf2
        cases hf2
        obtain ⟨vs, g3, g4⟩ := hr.lst g1 h1
        obtain ⟨ws, g5, g6⟩ := hr.lst g2 h2
        exact ⟨_, op_cat, p, q, vs, ws, rfl, rfl, g3, g5, by rw [← g4.len, ← g6.len]; exact sz_of hl, hq.new hr (show RO W ι H (.lst (xs ++ ys)) (.lst (vs ++ ws)) from g4.app g6)⟩
      · cases hf2
    | _ => cases hf
  | _ => cases hf
def fSub : O2
  | .int i, .int j, st => some (.int (i - j), st)
  | _, _, _ => none
theorem op_subF : OpR X (binaryOp .Sub) (ro W fSub) := opBy fun x y H Q ⟨ι, st, a, b, v, st', rx, ry, hr, hf, hq⟩ => by
  cases rx with
  | int i =>
    cases ry with
    | int j =>
      cases hf
      exact ⟨_, op_sub, i, j, rfl, rfl, hq.here hr (.int _)⟩
    | _ => cases hf
  | _ => cases hf
def fMod : O2
  | .int i, .int j, st => if 0 < j then some (.int (i % j), st) else none
  | _, _, _ => none
theorem op_modF : OpR X (binaryOp .Mod) (ro W fMod) := opBy fun x y H Q ⟨ι, st, a, b, v, st', rx, ry, hr, hf, hq⟩ => by
  cases rx with
  | int i =>
    cases ry with
    | int j =>
      have hf2 : (if 0 < j then some (Val.int (i % j), st) else none) = some (v, st') := hf
      by_cases hl : 0 < j
      case neg => rw [if_neg hl] at hf2; cases hf2
      rw [if_pos hl] at hf2
      cases hf2
      exact ⟨_, op_mod, i, j, rfl, rfl, hl, hq.here hr (.int _)⟩
    | _ => cases hf
  | _ => cases hf
def fDiv : O2
  | .int i, .int j, st => if 0 < j ∧ j < 1073741824 then some (.int (i / j), st) else none
  | _, _, _ => none
theorem op_divF : OpR X (binaryOp .FloorDiv) (ro W fDiv) := opBy fun x y H Q ⟨ι, st, a, b, v, st', rx, ry, hr, hf, hq⟩ => by
  cases rx with
  | int i =>
    cases ry with
    | int j =>
      have hf2 : (if 0 < j ∧ j < 1073741824 then some (Val.int (i / j), st) else none) = some (v, st') := hf
      by_cases hl : 0 < j ∧ j < 1073741824
      case neg => rw [if_neg hl] at hf2; cases hf2
      rw [if_pos hl] at hf2
      cases hf2
      exact ⟨_, op_fdiv, i, j, rfl, rfl, hl, hq.here hr (.int _)⟩
    | _ => cases hf
  | _ => cases hf
def fPow : O2
  | .int i, .int j, st => if 0 ≤ j ∧ j ≤ 1000000 ∧ i.natAbs < 2 ^ 64 then some (.int (i ^ j.toNat), st) else none
  | _, _, _ => none
theorem op_powF : OpR X (binaryOp .Pow) (ro W fPow) := opBy fun x y H Q ⟨ι, st, a, b, v, st', rx, ry, hr, hf, hq⟩ => by
  cases rx with
  | int i =>
    cases ry with
    | int j =>
      have hf2 : (if 0 ≤ j ∧ j ≤ 1000000 ∧ i.natAbs < 2 ^ 64 then some (Val.int (i ^ j.toNat), st) else none) = some (v, st') := hf
      by_cases hl : 0 ≤ j ∧ j ≤ 1000000 ∧ i.natAbs < 2 ^ 64
      case neg => rw [if_neg hl] at hf2; cases hf2
      rw [if_pos hl] at hf2
      cases hf2
      exact ⟨_, op_pow, i, j, rfl, rfl, hl, hq.here hr (.int _)⟩
    | _ => cases hf
  | _ => cases hf
/-- a text so often -/
def reps {α : Type} (n : Nat) (l : List α) : List α := (List.replicate n l).flatten
def fMul : O2
  | .int i, .int j, st => if (-(2 ^ 64) < i ∧ i < 2 ^ 64) ∨ (-(2 ^ 64) < j ∧ j < 2 ^ 64) then some (.int (i * j), st) else none
  | .str x, .int j, st => if 0 ≤ j ∧ j ≤ 1000 ∧ x.length ≤ 1000 then some (.str (reps j.toNat x), st) else none
  | .tup xs, .int j, st => if 2 ≤ j ∧ j ≤ 1000 ∧ xs.length ≤ 1000 ∧ xs ≠ [] then some (.tup (reps j.toNat xs), st) else none
  | _, _, _ => none
theorem foldl_app (x : List Nat) : ∀ (n : Nat) (acc : Array Nat), (List.replicate n x.toArray).foldl (· ++ ·) acc = acc ++ (reps n x).toArray
  | 0, acc => by simp [reps]
  | n + 1, acc => by
    rw [List.replicate_succ, List.foldl_cons, foldl_app x n]
    simp [reps, List.replicate_succ, Array.append_assoc]
theorem op_mulS : OpR X (binaryOp .Mult) fun x y H Q => ∃ (l : List Nat) (n : Int), x = .str (St' l) ∧ y = .int n ∧ (0 ≤ n ∧ n ≤ 1000 ∧ l.length ≤ 1000) ∧ Q (.str (St' (reps n.toNat l))) H := by
  intro pins s σ H x y v u Q I rx ry h
  obtain ⟨l, n, rfl, rfl, ⟨h1, h2, h3⟩, q⟩ := h
  obtain ⟨t, rfl⟩ := rx
  obtain ⟨t', rfl⟩ := ry
  have hlen : (St' l).length = l.length := st_len l
  have ok : MulOk (St' l) n := by
    refine ⟨?_, fun hn hc => ?_, fun hn hc => ?_⟩
    · rw [decide_eq_false (by omega), decide_eq_false (by omega)]
      rfl
    · rw [hlen]
      intro hg
      have h5 : (2 ^ 63 - 1) / n ≥ (2 ^ 63 - 1) / 1000 := by
        have hn0 : 0 < n := by omega
        have : (2 ^ 63 - 1 : Int) / 1000 * n ≤ 2 ^ 63 - 1 := by
          have : (2 ^ 63 - 1 : Int) / 1000 * n ≤ (2 ^ 63 - 1 : Int) / 1000 * 1000 := Int.mul_le_mul_of_nonneg_left h2 (by decide)
          have h6 : (2 ^ 63 - 1 : Int) / 1000 * 1000 ≤ 2 ^ 63 - 1 := by decide
          omega
        exact (Int.le_ediv_iff_mul_le hn0).mpr this
      have h6 : (1000 : Int) ≤ (2 ^ 63 - 1) / 1000 := by decide
      omega
    · rw [hlen]
      have h7 : n.toNat ≤ 1000 := by omega
      have h8 : l.length * n.toNat ≤ 1000 * 1000 := Nat.mul_le_mul h3 h7
      show decide (_ > _) = false
      rw [decide_eq_false]
      have : (1000 * 1000 : Nat) ≤ sizeLine := by decide
      omega
  refine SB.mul ok fun t2 k2 => ?_
  refine ⟨.str (Txt.mul (St' l) n), H, I.tok k2, ⟨t2, rfl⟩, ?_⟩
  have e : Txt.mul (St' l) n = St' (reps n.toNat l) := by
    unfold Txt.mul
    split
    · rename_i h
      have : n.toNat = 0 := by omega
      rw [this]
      rfl
    · split
      · rename_i h4 h5
        have h6 : n = 1 ∨ l.length = 0 := by
          rw [hlen] at h5
          simpa using h5
        rcases h6 with rfl | h6
        · show St' l = St' (reps 1 l)
          simp [reps]
        · have : l = [] := List.eq_nil_of_length_eq_zero h6
          subst this
          simp [reps]
      · have := foldl_app l n.toNat #[]
        simp only [this, Array.empty_append]
  rw [e]
  exact q
theorem RVs.reps {xs : List Val} {vs : List V} (h : RVs W.K ι H xs vs) : ∀ n : Nat, RVs W.K ι H (reps n xs) (List.replicate n vs).flatten
  | 0 => .nil
  | n + 1 => by
    unfold FL.reps
    rw [List.replicate_succ, List.replicate_succ, List.flatten_cons, List.flatten_cons]
    exact h.app (RVs.reps h n)
theorem op_mulF (C : Ctx W k X Ew) : OpR X (binaryOp .Mult) (ro W fMul) := opBy fun x y H Q ⟨ι, st, a, b, v, st', rx, ry, hr, hf, hq⟩ => by
  cases rx with
  | int i =>
    cases ry with
    | int j =>
      have hf2 : (if (-(2 ^ 64) < i ∧ i < 2 ^ 64) ∨ (-(2 ^ 64) < j ∧ j < 2 ^ 64) then some (Val.int (i * j), st) else none) = some (v, st') := hf
      by_cases hl : (-(2 ^ 64) < i ∧ i < 2 ^ 64) ∨ (-(2 ^ 64) < j ∧ j < 2 ^ 64)
      case neg => rw [if_neg hl] at hf2; cases hf2
      rw [if_pos hl] at hf2
      cases hf2
      exact ⟨_, op_mul, i, j, rfl, rfl, hl, hq.here hr (.int _)⟩
    | _ => cases hf
  | str l =>
    cases ry with
    | int j =>
      have hf2 : (if 0 ≤ j ∧ j ≤ 1000 ∧ l.length ≤ 1000 then some (Val.str (reps j.toNat l), st) else none) = some (v, st') := hf
      by_cases hl : 0 ≤ j ∧ j ≤ 1000 ∧ l.length ≤ 1000
      case neg => rw [if_neg hl] at hf2; cases hf2
      rw [if_pos hl] at hf2
      cases hf2
      exact ⟨_, op_mulS, l, j, rfl, rfl, hl, hq.here hr (.str _)⟩
    | _ => cases hf
  | @tup p vs xs sx rxs =>
    cases ry with
    | int j =>
      have hf2 : (if 2 ≤ j ∧ j ≤ 1000 ∧ xs.length ≤ 1000 ∧ xs ≠ [] then some (Val.tup (reps j.toNat xs), st) else none) = some (v, st') := hf
      by_cases hl : 2 ≤ j ∧ j ≤ 1000 ∧ xs.length ≤ 1000 ∧ xs ≠ []
      case neg => rw [if_neg hl] at hf2; cases hf2
      rw [if_pos hl] at hf2
      cases hf2
      obtain ⟨l1, l2, l3, l4⟩ := hl
      refine ⟨_, op_repT, p, j, vs, rfl, rfl, by rw [C.eK]; exact sx, fun e => l4 ?_, l1, l2, by rw [← rxs.len]; exact l3, hq.newT hr (rxs.reps _)⟩
      subst e
      cases rxs
      rfl
    | _ => cases hf
  | _ => cases hf
def fNeg (m : FE) : FE := bnd m fun x => fun _ st => match x with
  | .int i => some (.ok (.int (-i)) st)
  | _ => none
theorem se_neg (ha : SE W X Ew a ma) : SE W X Ew (.UnaryOp .USub a pos) (fNeg ma) :=
  imE (pe_un un_neg ha) fun σ H Q ⟨ι, sl, st, r, hs, hr, hm, hq⟩ => run hs hr hm hq fun x st1 ι1 H1 vx e1 s1 r1 rx hm1 hq1 => by
    cases rx with
    | int i => exact ⟨i, rfl, ve_of (st := st1) (sl := sl) r1 (.int _) hm1 hq1⟩
    | _ => cases hm1

/-! ### order -/
def ltPr : List Val → List Val → Option Bool
  | [.int i, .int j], [.int m, .int n] => some (decide (i < m ∨ i = m ∧ j < n))
  | _, _ => none
def lePr : List Val → List Val → Option Bool
  | [.int i, .int j], [.int m, .int n] => some (decide (i < m ∨ i = m ∧ j ≤ n))
  | _, _ => none
def fLt : O2
  | .int i, .int j, st => some (.bl (decide (i < j)), st)
  | .str x, .str y, st => some (.bl (decide (x < y)), st)
  | .tup xs, .tup ys, st => (ltPr xs ys).map fun b => (.bl b, st)
  | _, _, _ => none
def fLe : O2
  | .int i, .int j, st => some (.bl (decide (i ≤ j)), st)
  | .str x, .str y, st => some (.bl (!decide (y < x)), st)
  | .tup xs, .tup ys, st => (lePr xs ys).map fun b => (.bl b, st)
  | _, _, _ => none
def fGt : O2 := fun a b => fLt b a
def fGe : O2 := fun a b => fLe b a
theorem lt_inv {xs ys : List Val} {r : Val × Sto} (h : fLt (.tup xs) (.tup ys) st = some r) : ∃ i j m n, xs = [.int i, .int j] ∧ ys = [.int m, .int n] ∧ r = (.bl (decide (i < m ∨ i = m ∧ j < n)), st) := by
  unfold fLt at h
  obtain ⟨b, h1, rfl⟩ := Option.map_eq_some_iff.mp h
  unfold ltPr at h1
  split at h1
  · cases h1
    exact ⟨_, _, _, _, rfl, rfl, rfl⟩
  · cases h1
theorem le_inv {xs ys : List Val} {r : Val × Sto} (h : fLe (.tup xs) (.tup ys) st = some r) : ∃ i j m n, xs = [.int i, .int j] ∧ ys = [.int m, .int n] ∧ r = (.bl (decide (i < m ∨ i = m ∧ j ≤ n)), st) := by
  unfold fLe at h
  obtain ⟨b, h1, rfl⟩ := Option.map_eq_some_iff.mp h
  unfold lePr at h1
  split at h1
  · cases h1
    exact ⟨_, _, _, _, rfl, rfl, rfl⟩
  · cases h1
theorem RVs.pair {i j : Int} {vs : List V} (h : RVs W.K ι H [.int i, .int j] vs) : vs = [.int i, .int j] := by
  cases h with
  | cons a b =>
    cases b with
    | cons c d =>
      cases d
      cases a
      cases c
      rfl
theorem eqAt_int {A : Around} {s : Shared} (a b : Int) (t u : Tok) : SeqAt.EqAt A s (.int a t) (.int b u) (decide (a = b)) := by
  have z : (a == b) = decide (a = b) := by
    by_cases q : a = b
    · rw [decide_eq_true q]
      exact beq_iff_eq.mpr q
    · rw [decide_eq_false q]
      exact beq_eq_false_iff_ne.mpr q
  rw [← z]
  exact SeqAt.EqAt.int_int _ _ _ _
def rPr (K : PySem.W.Frag) (f : Int → Int → Int → Int → Bool) : R2 := fun x y H Q => ∃ (a b : Addr) (i j m n : Int), x = .ref a ∧ y = .ref b ∧ SqT K H a [.int i, .int j] ∧ SqT K H b [.int m, .int n] ∧ Q (.bl (f i j m n)) H
theorem op_ltP (hu : X.A.units < cLine) : OpR X (compareOp .Lt) (rPr X.K fun i j m n => decide (i < m ∨ i = m ∧ j < n)) := by
  intro pins s σ H x y v u Q I rx ry h
  obtain ⟨a, b, i, j, m, n, rfl, rfl, ha, hb, q⟩ := h
  cases rx
  cases ry
  obtain ⟨l1, q1, t1, _⟩ := I.tuple ha
  obtain ⟨l2, q2, t2, _⟩ := I.tuple hb
  obtain ⟨u1, u2, rfl, k1, k2⟩ := vals2 q1
  obtain ⟨w1, w2, rfl, k3, k4⟩ := vals2 q2
  obtain ⟨c1, rfl⟩ := k1
  obtain ⟨c2, rfl⟩ := k2
  obtain ⟨c3, rfl⟩ := k3
  obtain ⟨c4, rfl⟩ := k4
  have R := Ob.RcOp.tuples_lt (A := X.A) (s := s) (e := fun c => match c with | 0 => decide (i = m) | _ => decide (j = n)) (r := fun c => match c with | 0 => decide (i < m) | _ => decide (j < n)) t1 t2 hu
    (fun c h1 h2 => match c, h1, h2 with | 0, _, _ => eqAt_int _ _ _ _ | 1, _, _ => eqAt_int _ _ _ _)
    (fun c h1 h2 _ => match c, h1, h2 with | 0, _, _ => Ob.RcOp.lt_int _ _ _ _ | 1, _, _ => Ob.RcOp.lt_int _ _ _ _)
  have R2 := R X.prog X.w X.xe (EP X pins σ Q)
  refine R2 ⟨.bl (decide (i < m ∨ i = m ∧ j < n)), H, I, ?_, q⟩
  show Value.bool _ = Value.bool _
  refine congrArg Value.bool ?_
  show (if decide (i = m) = true then (if decide (j = n) = true then false else decide (j < n)) else decide (i < m)) = _
  by_cases e1 : i = m
  · subst e1
    rw [if_pos (decide_eq_true rfl)]
    by_cases e2 : j = n
    · subst e2
      rw [if_pos (decide_eq_true rfl)]
      exact (decide_eq_false (by omega)).symm
    · rw [if_neg (by rw [decide_eq_false e2]; decide)]
      exact decide_eq_decide.mpr (by omega)
  · rw [if_neg (by rw [decide_eq_false e1]; decide)]
    exact decide_eq_decide.mpr (by omega)
theorem op_leP (hu : X.A.units < cLine) : OpR X (compareOp .LtE) (rPr X.K fun i j m n => decide (i < m ∨ i = m ∧ j ≤ n)) := by
  intro pins s σ H x y v u Q I rx ry h
  obtain ⟨a, b, i, j, m, n, rfl, rfl, ha, hb, q⟩ := h
  cases rx
  cases ry
  obtain ⟨l1, q1, t1, _⟩ := I.tuple ha
  obtain ⟨l2, q2, t2, _⟩ := I.tuple hb
  obtain ⟨u1, u2, rfl, k1, k2⟩ := vals2 q1
  obtain ⟨w1, w2, rfl, k3, k4⟩ := vals2 q2
  obtain ⟨c1, rfl⟩ := k1
  obtain ⟨c2, rfl⟩ := k2
  obtain ⟨c3, rfl⟩ := k3
  obtain ⟨c4, rfl⟩ := k4
  have R := Ob.RcOp.tuples_le (A := X.A) (s := s) (e := fun c => match c with | 0 => decide (i = m) | _ => decide (j = n)) (r := fun c => match c with | 0 => decide (i ≤ m) | _ => decide (j ≤ n)) t1 t2 hu
    (fun c h1 h2 => match c, h1, h2 with | 0, _, _ => eqAt_int _ _ _ _ | 1, _, _ => eqAt_int _ _ _ _)
    (fun c h1 h2 _ => match c, h1, h2 with | 0, _, _ => Ob.RcOp.le_int _ _ _ _ | 1, _, _ => Ob.RcOp.le_int _ _ _ _)
  have R2 := R X.prog X.w X.xe (EP X pins σ Q)
  refine R2 ⟨.bl (decide (i < m ∨ i = m ∧ j ≤ n)), H, I, ?_, q⟩
  show Value.bool _ = Value.bool _
  refine congrArg Value.bool ?_
  show (if decide (i = m) = true then (if decide (j = n) = true then true else decide (j ≤ n)) else decide (i ≤ m)) = _
  by_cases e1 : i = m
  · subst e1
    rw [if_pos (decide_eq_true rfl)]
    by_cases e2 : j = n
    · subst e2
      rw [if_pos (decide_eq_true rfl)]
      exact (decide_eq_true (by omega)).symm
    · rw [if_neg (by rw [decide_eq_false e2]; decide)]
      exact decide_eq_decide.mpr (by omega)
  · rw [if_neg (by rw [decide_eq_false e1]; decide)]
    exact decide_eq_decide.mpr (by omega)
theorem op_gtP (hu : X.A.units < cLine) : OpR X (compareOp .Gt) (rPr X.K fun i j m n => decide (m < i ∨ m = i ∧ n < j)) := by
  intro pins s σ H x y v u Q I rx ry h
  obtain ⟨a, b, i, j, m, n, rfl, rfl, ha, hb, q⟩ := h
  cases rx
  cases ry
  obtain ⟨l1, q1, t1, _⟩ := I.tuple ha
  obtain ⟨l2, q2, t2, _⟩ := I.tuple hb
  obtain ⟨u1, u2, rfl, k1, k2⟩ := vals2 q1
  obtain ⟨w1, w2, rfl, k3, k4⟩ := vals2 q2
  obtain ⟨c1, rfl⟩ := k1
  obtain ⟨c2, rfl⟩ := k2
  obtain ⟨c3, rfl⟩ := k3
  obtain ⟨c4, rfl⟩ := k4
  have R := Ob.RcOp.tuples_gt (A := X.A) (s := s) (e := fun c => match c with | 0 => decide (i = m) | _ => decide (j = n)) (r := fun c => match c with | 0 => decide (m < i) | _ => decide (n < j)) t1 t2 hu
    (fun c h1 h2 => match c, h1, h2 with | 0, _, _ => eqAt_int _ _ _ _ | 1, _, _ => eqAt_int _ _ _ _)
    (fun c h1 h2 _ => match c, h1, h2 with | 0, _, _ => Ob.RcOp.gt_int _ _ _ _ | 1, _, _ => Ob.RcOp.gt_int _ _ _ _)
  have R2 := R X.prog X.w X.xe (EP X pins σ Q)
  refine R2 ⟨.bl (decide (m < i ∨ m = i ∧ n < j)), H, I, ?_, q⟩
  show Value.bool _ = Value.bool _
  refine congrArg Value.bool ?_
  show (if decide (i = m) = true then (if decide (j = n) = true then false else decide (n < j)) else decide (m < i)) = _
  by_cases e1 : i = m
  · subst e1
    rw [if_pos (decide_eq_true rfl)]
    by_cases e2 : j = n
    · subst e2
      rw [if_pos (decide_eq_true rfl)]
      exact (decide_eq_false (by omega)).symm
    · rw [if_neg (by rw [decide_eq_false e2]; decide)]
      exact decide_eq_decide.mpr (by omega)
  · rw [if_neg (by rw [decide_eq_false e1]; decide)]
    exact decide_eq_decide.mpr (by omega)
theorem op_geP (hu : X.A.units < cLine) : OpR X (compareOp .GtE) (rPr X.K fun i j m n => decide (m < i ∨ m = i ∧ n ≤ j)) := by
  intro pins s σ H x y v u Q I rx ry h
  obtain ⟨a, b, i, j, m, n, rfl, rfl, ha, hb, q⟩ := h
  cases rx
  cases ry
  obtain ⟨l1, q1, t1, _⟩ := I.tuple ha
  obtain ⟨l2, q2, t2, _⟩ := I.tuple hb
  obtain ⟨u1, u2, rfl, k1, k2⟩ := vals2 q1
  obtain ⟨w1, w2, rfl, k3, k4⟩ := vals2 q2
  obtain ⟨c1, rfl⟩ := k1
  obtain ⟨c2, rfl⟩ := k2
  obtain ⟨c3, rfl⟩ := k3
  obtain ⟨c4, rfl⟩ := k4
  have R := Ob.RcOp.tuples_ge (A := X.A) (s := s) (e := fun c => match c with | 0 => decide (i = m) | _ => decide (j = n)) (r := fun c => match c with | 0 => decide (m ≤ i) | _ => decide (n ≤ j)) t1 t2 hu
    (fun c h1 h2 => match c, h1, h2 with | 0, _, _ => eqAt_int _ _ _ _ | 1, _, _ => eqAt_int _ _ _ _)
    (fun c h1 h2 _ => match c, h1, h2 with | 0, _, _ => Ob.RcOp.ge_int _ _ _ _ | 1, _, _ => Ob.RcOp.ge_int _ _ _ _)
  have R2 := R X.prog X.w X.xe (EP X pins σ Q)
  refine R2 ⟨.bl (decide (m < i ∨ m = i ∧ n ≤ j)), H, I, ?_, q⟩
  show Value.bool _ = Value.bool _
  refine congrArg Value.bool ?_
  show (if decide (i = m) = true then (if decide (j = n) = true then true else decide (n ≤ j)) else decide (m ≤ i)) = _
  by_cases e1 : i = m
  · subst e1
    rw [if_pos (decide_eq_true rfl)]
    by_cases e2 : j = n
    · subst e2
      rw [if_pos (decide_eq_true rfl)]
      exact (decide_eq_true (by omega)).symm
    · rw [if_neg (by rw [decide_eq_false e2]; decide)]
      exact decide_eq_decide.mpr (by omega)
  · rw [if_neg (by rw [decide_eq_false e1]; decide)]
    exact decide_eq_decide.mpr (by omega)
theorem op_ltF (C : Ctx W k X Ew) : OpR X (compareOp .Lt) (ro W fLt) := opBy fun x y H Q ⟨ι, st, a, b, v, st', rx, ry, hr, hf, hq⟩ => by
  cases rx with
  | int i =>
    cases ry with
    | int j =>
      cases hf
      exact ⟨_, op_lt, i, j, rfl, rfl, hq.here hr (.bl _)⟩
    | _ => cases hf
  | str i =>
    cases ry with
    | str j =>
      cases hf
      exact ⟨_, op_lt_str, _, _, rfl, rfl, hq.here hr (.bl _)⟩
    | _ => cases hf
  | tup s1 q1 =>
    cases ry with
    | tup s2 q2 =>
      obtain ⟨a, b, c, d, rfl, rfl, e⟩ := lt_inv hf
      cases e
      rw [RVs.pair q1] at s1
      rw [RVs.pair q2] at s2
      exact ⟨_, op_ltP (Nat.lt_of_le_of_lt (Nat.le_add_right _ 1) C.hu1), _, _, a, b, c, d, rfl, rfl, by rw [C.eK]; exact s1, by rw [C.eK]; exact s2, hq.here hr (.bl _)⟩
    | _ => cases hf
  | _ => cases hf
theorem op_leF (C : Ctx W k X Ew) : OpR X (compareOp .LtE) (ro W fLe) := opBy fun x y H Q ⟨ι, st, a, b, v, st', rx, ry, hr, hf, hq⟩ => by
  cases rx with
  | int i =>
    cases ry with
    | int j =>
      cases hf
      exact ⟨_, op_le, i, j, rfl, rfl, hq.here hr (.bl _)⟩
    | _ => cases hf
  | str i =>
    cases ry with
    | str j =>
      cases hf
      exact ⟨_, op_le_str, _, _, rfl, rfl, hq.here hr (.bl _)⟩
    | _ => cases hf
  | tup s1 q1 =>
    cases ry with
    | tup s2 q2 =>
      obtain ⟨a, b, c, d, rfl, rfl, e⟩ := le_inv hf
      cases e
      rw [RVs.pair q1] at s1
      rw [RVs.pair q2] at s2
      exact ⟨_, op_leP (Nat.lt_of_le_of_lt (Nat.le_add_right _ 1) C.hu1), _, _, a, b, c, d, rfl, rfl, by rw [C.eK]; exact s1, by rw [C.eK]; exact s2, hq.here hr (.bl _)⟩
    | _ => cases hf
  | _ => cases hf
theorem op_gtF (C : Ctx W k X Ew) : OpR X (compareOp .Gt) (ro W fGt) := opBy fun x y H Q ⟨ι, st, a, b, v, st', rx, ry, hr, hf, hq⟩ => by
  cases ry with
  | int i =>
    cases rx with
    | int j =>
      cases hf
      exact ⟨_, op_gt, j, i, rfl, rfl, hq.here hr (.bl _)⟩
    | _ => cases hf
  | str i =>
    cases rx with
    | str j =>
      cases hf
      exact ⟨_, op_gt_str, _, _, rfl, rfl, hq.here hr (.bl _)⟩
    | _ => cases hf
  | tup s1 q1 =>
    cases rx with
    | tup s2 q2 =>
      obtain ⟨a, b, c, d, rfl, rfl, e⟩ := lt_inv hf
      cases e
      rw [RVs.pair q1] at s1
      rw [RVs.pair q2] at s2
      exact ⟨_, op_gtP (Nat.lt_of_le_of_lt (Nat.le_add_right _ 1) C.hu1), _, _, c, d, a, b, rfl, rfl, by rw [C.eK]; exact s2, by rw [C.eK]; exact s1, hq.here hr (.bl _)⟩
    | _ => cases hf
  | _ => cases hf
theorem op_geF (C : Ctx W k X Ew) : OpR X (compareOp .GtE) (ro W fGe) := opBy fun x y H Q ⟨ι, st, a, b, v, st', rx, ry, hr, hf, hq⟩ => by
  cases ry with
  | int i =>
    cases rx with
    | int j =>
      cases hf
      exact ⟨_, op_ge, j, i, rfl, rfl, hq.here hr (.bl _)⟩
    | _ => cases hf
  | str i =>
    cases rx with
    | str j =>
      cases hf
      exact ⟨_, op_ge_str, _, _, rfl, rfl, hq.here hr (.bl _)⟩
    | _ => cases hf
  | tup s1 q1 =>
    cases rx with
    | tup s2 q2 =>
      obtain ⟨a, b, c, d, rfl, rfl, e⟩ := le_inv hf
      cases e
      rw [RVs.pair q1] at s1
      rw [RVs.pair q2] at s2
      exact ⟨_, op_geP (Nat.lt_of_le_of_lt (Nat.le_add_right _ 1) C.hu1), _, _, c, d, a, b, rfl, rfl, by rw [C.eK]; exact s2, by rw [C.eK]; exact s1, hq.here hr (.bl _)⟩
    | _ => cases hf
  | _ => cases hf
/-- a < b < c -/
def fChain (f g : O2) (ma mb mc : FE) : FE := bnd ma fun x => bnd mb fun y => bnd (lft (f x y)) fun z => match z with
  | .bl true => bnd mc fun w => lft (g y w)
  | .bl false => fun _ st => some (.ok (.bl false) st)
  | _ => fun _ _ => none
theorem chain_imp {f g : O2} {mc : FE} {σ : L2.St} {Q : VK} (h : teOf W Ew (fChain f g ma mb mc) σ H Q) : tChain (ro W f) (ro W g) (teOf W Ew ma) (teOf W Ew mb) (teOf W Ew mc) σ H Q := by
  obtain ⟨ι, sl, st, r, hs, hr, hm, hq⟩ := h
  refine run hs hr hm hq fun x st1 ι1 H1 vx e1 s1 r1 rx hm1 hq1 => run s1 r1 hm1 hq1 fun y st2 ι2 H2 vy e2 s2 r2 ry hm2 hq2 => ?_
  unfold bnd at hm2
  cases h3 : lft (f x y) sl st2 with
  | none => rw [h3] at hm2; cases hm2
  | some r3 =>
    obtain ⟨z, st3, h4, rfl⟩ := lft_some h3
    rw [h3] at hm2
    refine ⟨ι2, st2, x, y, z, st3, rx.mono e2, ry, r2, h4, fun ι3 H3 vz e3 r3 rz => ?_⟩
    cases rz with
    | bl bz =>
      refine ⟨bz, rfl, ?_⟩
      cases bz with
      | true =>
        show teOf W Ew mc σ H3 _
        exact run (s2.mono e3) r3 hm2 (hq2.mono e3) fun w st4 ι4 H4 vw e4 s4 r4 rw' hm4 hq4 => ro_of (ry.mono (e3.trans e4)) rw' r4 hm4 hq4
      | false =>
        show Q (.bl false) H3
        cases hm2
        exact hq2 _ _ _ e3 r3 (.bl false)
    | _ => cases hm2
theorem se_chain {c : Expr} {op op' : CmpOp} {f g : O2} {mc : FE} (ho : OpR X (compareOp op) (ro W f)) (ho' : OpR X (compareOp op') (ro W g)) (ha : SE W X Ew a ma) (hb : SE W X Ew b mb) (hc : SE W X Ew c mc) (h : lastMarks [op, op'] [b, c] = false := by rfl) :
    SE W X Ew (.Compare a [op, op'] [b, c] pos) (fChain f g ma mb mc) := imE (pe_chain ho ho' ha hb hc h) fun σ H Q h => chain_imp h
theorem sc_chain {c : Expr} {op op' : CmpOp} {f g : O2} {mc : FE} (ho : OpR X (compareOp op) (ro W f)) (ho' : OpR X (compareOp op') (ro W g)) (ha : SE W X Ew a ma) (hb : SE W X Ew b mb) (hc : SE W X Ew c mc) (h : lastMarks [op, op'] [b, c] = false := by rfl) :
    SC W X Ew (.Compare a [op, op'] [b, c] pos) (fB (fChain f g ma mb mc)) := imT (pt_chain ho ho' ha hb hc h) fun σ H Q ⟨ι, sl, st, r, hs, hr, hm, hq⟩ =>
  chain_imp (run hs hr hm hq fun x st1 ι1 H1 vx e1 s1 r1 rx hm1 hq1 => fB_of rx r1 hm1 hq1)

/-! ### == -/
def mapO {α β : Type} (f : α → Option β) : List α → Option (List β)
  | [] => some []
  | x :: xs => match f x, mapO f xs with
    | some y, some ys => some (y :: ys)
    | _, _ => none
def toD : Nat → Sto → Val → Option PyData
  | 0, _, _ => none
  | n + 1, st, v => match v with
    | .non => some .none
    | .bl b => some (.bool b)
    | .int i => some (.int i)
    | .str s => some (.str (St' s))
    | .tup xs => (mapO (toD n st) xs).map .tuple
    | .ref i => match st[i]? with
      | some (.lst xs) => (mapO (toD n st) xs).map .list
      | _ => none
    | .scr ns => some (.list (ns.map .int))
    | .ty _ => none
theorem dpAll {f : Val → Option PyData} (h : ∀ x v d, f x = some d → RV W.K ι H x v → Dp W.K H v d) : ∀ {xs : List Val} {vs : List V} {ds : List PyData}, mapO f xs = some ds → RVs W.K ι H xs vs → DpAll W.K H vs ds
  | _, _, _, hm, .nil => by
    cases hm
    exact .nil
  | _, _, _, hm, .cons rx rxs => by
    rename_i x v xs vs ds
    unfold mapO at hm
    split at hm
    · rename_i y ys h1 h2
      cases hm
      exact .cons (h _ _ _ h1 rx) (dpAll h h2 rxs)
    · cases hm
theorem dpInts : ∀ ns : List Int, DpAll W.K H (ns.map V.int) (ns.map PyData.int)
  | [] => .nil
  | n :: ns => .cons (.int n) (dpInts ns)
theorem toD_dp (r : Rel W ι H st) : ∀ (n : Nat) (x : Val) (v : V) (d : PyData), toD n st x = some d → RV W.K ι H x v → Dp W.K H v d
  | 0, _, _, _, h, _ => by cases h
  | n + 1, x, v, d, h, rx => by
    cases rx with
    | non => cases h; exact .non
    | bl b => cases h; exact .bl b
    | int i => cases h; exact .int i
    | str s => cases h; exact .str _
    | @tup p vs xs sx rxs =>
      have h2 : (mapO (toD n st) xs).map PyData.tuple = some d := h
      obtain ⟨ds, h3, rfl⟩ := Option.map_eq_some_iff.mp h2
      exact .tup sx (dpAll (fun x v d => toD_dp r n x v d) h3 rxs)
    | @ref i p h1 =>
      have h2 : (match st[i]? with | some (.lst xs) => (mapO (toD n st) xs).map PyData.list | _ => none) = some d := h
      split at h2
      · rename_i xs h3
        obtain ⟨ds, h4, rfl⟩ := Option.map_eq_some_iff.mp h2
        obtain ⟨vs, h5, h6⟩ := r.lst h3 h1
        exact .lst (SqL.of h5) (dpAll (fun x v d => toD_dp r n x v d) h4 h6)
      · cases h2
    | scr h1 => cases h; exact .lst h1.sq (dpInts _)
    | ty n => cases h
def fEqB (a b : Val) (st : Sto) : Option Bool := match toD 9 st a, toD 9 st b with
  | some d, some e => if SeqAt.shaped d = true ∧ SeqAt.shaped e = true then some (PyData.eqv d e) else none
  | _, _ => none
def fEq : O2 := fun a b st => (fEqB a b st).map fun c => (.bl c, st)
def fNe : O2 := fun a b st => (fEqB a b st).map fun c => (.bl (!c), st)
theorem eqB_dp {x y : Val} {vx vy : V} {c : Bool} (r : Rel W ι H st) (h : fEqB x y st = some c) (rx : RV W.K ι H x vx) (ry : RV W.K ι H y vy) : ∃ d e, Dp W.K H vx d ∧ Dp W.K H vy e ∧ SeqAt.shaped d = true ∧ SeqAt.shaped e = true ∧ PyData.eqv d e = c := by
  unfold fEqB at h
  split at h
  · rename_i d e h1 h2
    split at h
    · rename_i h3
      cases h
      exact ⟨d, e, toD_dp r _ _ _ _ h1 rx, toD_dp r _ _ _ _ h2 ry, h3.1, h3.2, rfl⟩
    · cases h
  · cases h
theorem op_eqF (C : Ctx W k X Ew) : OpR X (compareOp .Eq) (ro W fEq) := opBy fun x y H Q ⟨ι, st, a, b, v, st', rx, ry, hr, hf, hq⟩ => by
  obtain ⟨c, h1, h2⟩ := Option.map_eq_some_iff.mp hf
  cases h2
  obtain ⟨d, e, g1, g2, g3, g4, rfl⟩ := eqB_dp hr h1 rx ry
  exact ⟨_, op_eqD C.hu, d, e, by rw [C.eK]; exact g1, by rw [C.eK]; exact g2, g3, g4, hq.here hr (.bl _)⟩
theorem op_neF (C : Ctx W k X Ew) : OpR X (compareOp .NotEq) (ro W fNe) := opBy fun x y H Q ⟨ι, st, a, b, v, st', rx, ry, hr, hf, hq⟩ => by
  obtain ⟨c, h1, h2⟩ := Option.map_eq_some_iff.mp hf
  cases h2
  obtain ⟨d, e, g1, g2, g3, g4, rfl⟩ := eqB_dp hr h1 rx ry
  exact ⟨_, op_neD C.hu, d, e, by rw [C.eK]; exact g1, by rw [C.eK]; exact g2, g3, g4, hq.here hr (.bl _)⟩
end
end FL
/-! FL6: subscripts, slices, built-ins, methods of lists and texts, what is walked. -/
namespace FL
open PySem PySem.Spec PyProof.Rows L2

section
variable {W : Wd} {k : Nat} {X : Cx} {Ew : WX} {ι ι' : List Addr} {H H' : Hp} {st : Sto} {a b c e : Expr} {es : List Expr} {ma mb me : FE} {mt mu : FT} {mas : FA} {pos : Pos}

/-! ### xs[i] -/
def fIx : O2
  | .tup xs, .int i, st => (atI xs i).map fun v => (v, st)
  | .ref p, .int i, st => match st[p]? with
    | some (.lst xs) => (atI xs i).map fun v => (v, st)
    | _ => none
  | .scr ns, .int i, st => (atI ns i).map fun n => (.int n, st)
  | .str s, .int i, st => if s.length ≤ LINE then (atI s i).map fun c => (.str [c], st) else none
  | _, _, _ => none
theorem RVs.atI {xs : List Val} {vs : List V} (h : RVs W.K ι H xs vs) {i : Int} {x : Val} (hx : L2.atI xs i = some x) : ∃ v, L2.atI vs i = some v ∧ RV W.K ι H x v := by
  unfold L2.atI at hx ⊢
  obtain ⟨j, h1, h2⟩ := Option.bind_eq_some_iff.mp hx
  obtain ⟨v, h3, h4⟩ := h.at j h2
  exact ⟨v, Option.bind_eq_some_iff.mpr ⟨j, by rw [← h.len]; exact h1, h3⟩, h4⟩
theorem ix_F (C : Ctx W k X Ew) : IxR X (ro W fIx) := ixBy fun x y H Q ⟨ι, st, a, b, v, st', rx, ry, hr, hf, hq⟩ => by
  cases rx with
  | @tup p vs xs sx rxs =>
    cases ry with
    | int i =>
      obtain ⟨z, h1, h2⟩ := Option.map_eq_some_iff.mp (show (L2.atI xs i).map (fun v => (v, st)) = some (v, st') from hf)
      cases h2
      obtain ⟨w, h3, h4⟩ := rxs.atI h1
      exact ⟨_, ix_tup, p, vs, i, w, rfl, rfl, by rw [C.eK]; exact sx, h3, hq.here hr h4⟩
    | _ => cases hf
  | @ref j p h0 =>
    cases ry with
    | int i =>
      have hf2 : (match st[j]? with | some (.lst xs) => (L2.atI xs i).map (fun v => (v, st)) | _ => none) = some (v, st') := hf
      split at hf2
      · rename_i xs h5
        obtain ⟨z, h1, h2⟩ := Option.map_eq_some_iff.mp hf2
        cases h2
        obtain ⟨vs, h6, h7⟩ := hr.lst h5 h0
        obtain ⟨w, h3, h4⟩ := h7.atI h1
        exact ⟨_, ix_list, p, vs, i, w, rfl, rfl, SqL.of h6, h3, hq.here hr h4⟩
      · cases hf2
    | _ => cases hf
  | @scr p ns h0 =>
    cases ry with
    | int i =>
      obtain ⟨z, h1, h2⟩ := Option.map_eq_some_iff.mp (show (L2.atI ns i).map (fun n => (Val.int n, st)) = some (v, st') from hf)
      cases h2
      refine ⟨_, ix_list, p, _, i, .int z, rfl, rfl, by rw [C.eK]; exact h0.sq, ?_, hq.here hr (.int z)⟩
      unfold L2.atI at h1 ⊢
      obtain ⟨j, h3, h4⟩ := Option.bind_eq_some_iff.mp h1
      refine Option.bind_eq_some_iff.mpr ⟨j, by rw [List.length_map]; exact h3, ?_⟩
      rw [List.getElem?_map, h4]
      rfl
    | _ => cases hf
  | str s =>
    cases ry with
    | int i =>
      have hf2 : (if s.length ≤ LINE then (L2.atI s i).map (fun c => (Val.str [c], st)) else none) = some (v, st') := hf
      by_cases hl : s.length ≤ LINE
      case neg => rw [if_neg hl] at hf2; cases hf2
      rw [if_pos hl] at hf2
      obtain ⟨z, h1, h2⟩ := Option.map_eq_some_iff.mp hf2
      cases h2
      exact ⟨_, ix_seq, .inr (.inr ⟨_, i, z, rfl, rfl, by rw [st_len]; exact sz_of hl, by show L2.atI s.toArray.toList i = _; simpa using h1, hq.here hr (.str [z])⟩)⟩
    | _ => cases hf
  | _ => cases hf

/-! ### xs[i:j], xs[::-1] -/
def cutG {α : Type} (xs : List α) (lo hi : Option Int) : List α := (xs.drop (HT.sIx xs.length 0 lo)).take (HT.sIx xs.length xs.length hi - HT.sIx xs.length 0 lo)
theorem RVs.cut {xs : List Val} {vs : List V} (h : RVs W.K ι H xs vs) (lo hi : Option Int) : RVs W.K ι H (cutG xs lo hi) (cutV vs lo hi) := by
  unfold cutG cutV
  rw [← h.len]
  exact (h.drop _).take _
def fSl : OSl := fun a lo hi st => match a with
  | .str s => if s.length ≤ LINE then some (.str (cutG s lo hi), st) else none
  | .tup xs => some (.tup (cutG xs lo hi), st)
  | .ref p => match st[p]? with
    | some (.lst xs) => some (.ref st.length, st ++ [.lst (cutG xs lo hi)])
    | _ => none
  | _ => none
theorem sl_F (C : Ctx W k X Ew) : SlR X (rs W fSl) := slBy fun x lo hi H Q ⟨ι, st, a, v, st', rx, hr, hf, hq⟩ => by
  cases rx with
  | str s =>
    have hf2 : (if s.length ≤ LINE then some (Val.str (cutG s lo hi), st) else none) = some (v, st') := hf
    by_cases hl : s.length ≤ LINE
    case neg => rw [if_neg hl] at hf2; cases hf2
    rw [if_pos hl] at hf2
    cases hf2
    refine ⟨_, sl_str, _, rfl, by rw [st_len]; exact sz_of hl, ?_⟩
    have e : cutS (St' s) lo hi = St' (cutG s lo hi) := by
      unfold cutS cutG
      rw [st_len]
    rw [e]
    exact hq.here hr (.str _)
  | @tup p vs xs sx rxs =>
    cases hf
    refine ⟨_, sl_tupA, p, vs, rfl, by rw [C.eK]; exact sx, fun ⟨g1, g2⟩ => ?_, fun _ => hq.newT hr (rxs.cut lo hi)⟩
    have e : cutG xs lo hi = xs := by
      unfold cutG
      rw [rxs.len, g1, g2, ← rxs.len]
      simp
    rw [e] at hq
    exact hq.here hr (.tup sx rxs)
  | @ref j p h0 =>
    have hf2 : (match st[j]? with | some (.lst xs) => some (Val.ref st.length, st ++ [.lst (cutG xs lo hi)]) | _ => none) = some (v, st') := hf
    split at hf2
    · rename_i xs h5
      cases hf2
      obtain ⟨vs, h6, h7⟩ := hr.lst h5 h0
      exact ⟨_, sl_list, p, vs, rfl, SqL.of h6, hq.new hr (show RO W ι H (.lst (cutG xs lo hi)) (.lst (cutV vs lo hi)) from h7.cut lo hi)⟩
    · cases hf2
  | _ => cases hf
def fRevL (m : FE) : FE := bnd m fun x => lft (fun st => match x with
  | .ref p => match st[p]? with
    | some (.lst xs) => some (.ref st.length, st ++ [.lst xs.reverse])
    | _ => none
  | _ => none)
theorem se_revL {j : Nat} {p1 p2 p3 : Pos} (ha : SE W X Ew a ma) : SE W X Ew (.Subscript a (.Slice none none (some (.UnaryOp .USub (.Constant (.int 1) j p1) p2)) p3) pos) (fRevL ma) :=
  imE (pe_revL ha) fun σ H Q ⟨ι, sl, st, r, hs, hr, hm, hq⟩ => run hs hr hm hq fun x st1 ι1 H1 vx e1 s1 r1 rx hm1 hq1 => by
    obtain ⟨v, st', h1, rfl⟩ := lft_some hm1
    cases rx with
    | @ref j p h0 =>
      have h2 : (match st1[j]? with | some (.lst xs) => some (Val.ref st1.length, st1 ++ [.lst xs.reverse]) | _ => none) = some (v, st') := h1
      split at h2
      · rename_i xs h5
        cases h2
        obtain ⟨vs, h6, h7⟩ := r1.lst h5 h0
        exact ⟨p, vs, rfl, SqL.of h6, Post.new hq1 r1 (show RO W ι1 H1 (.lst xs.reverse) (.lst vs.reverse) from h7.rev)⟩
      · cases h2
    | _ => cases h1

/-! ### built-ins -/
def fLen : ON := fun xs st => match xs with
  | [.str s] => if s.length ≤ LINE then some (.int s.length, st) else none
  | [.tup xs] => some (.int xs.length, st)
  | [.scr ns] => some (.int ns.length, st)
  | [.ref p] => match st[p]? with
    | some (.lst xs) => some (.int xs.length, st)
    | _ => none
  | _ => none
theorem call_lenF (C : Ctx W k X Ew) : CallR X (.builtin "len") (rc W fLen) := callBy fun xs H Q ⟨ι, st, as, v, st', rx, hr, hf, hq⟩ => by
  cases rx with
  | nil => cases hf
  | cons r0 rr =>
    cases rr with
    | cons _ _ => cases r0 <;> cases hf
    | nil =>
      cases r0 with
      | str s =>
        have hf2 : (if s.length ≤ LINE then some (Val.int s.length, st) else none) = some (v, st') := hf
        by_cases hl : s.length ≤ LINE
        case neg => rw [if_neg hl] at hf2; cases hf2
        rw [if_pos hl] at hf2
        cases hf2
        exact ⟨_, call_len, _, s.length, rfl, ⟨by rw [st_len]; exact sz_of hl, (st_len s).symm⟩, hq.here hr (.int _)⟩
      | @tup p vs xs sx rxs =>
        cases hf
        exact ⟨_, call_len, _, xs.length, rfl, .inr ⟨vs, by rw [C.eK]; exact sx, rxs.len⟩, hq.here hr (.int _)⟩
      | @scr p ns h0 =>
        cases hf
        exact ⟨_, call_len, _, ns.length, rfl, .inl ⟨_, by rw [C.eK]; exact h0.sq, by rw [List.length_map]⟩, hq.here hr (.int _)⟩
      | @ref j p h0 =>
        have hf2 : (match st[j]? with | some (.lst xs) => some (Val.int xs.length, st) | _ => none) = some (v, st') := hf
        split at hf2
        · rename_i xs h5
          cases hf2
          obtain ⟨vs, h6, h7⟩ := hr.lst h5 h0
          exact ⟨_, call_len, _, xs.length, rfl, .inl ⟨vs, SqL.of h6, h7.len⟩, hq.here hr (.int _)⟩
        · cases hf2
      | _ => cases hf
def fOrd : ON := fun xs st => match xs with
  | [.str [c]] => some (.int c, st)
  | _ => none
theorem call_ordF : CallR X (.builtin "ord") (rc W fOrd) := callBy fun xs H Q ⟨ι, st, as, v, st', rx, hr, hf, hq⟩ => by
  unfold fOrd at hf
  split at hf
  · rename_i c
    cases hf
    cases rx with
    | cons r0 rr =>
      cases rr
      cases r0
      exact ⟨_, call_ord, St' [c], rfl, rfl, hq.here hr (.int _)⟩
  · cases hf
def allB : List Val → Option Bool
  | [] => some true
  | .bl b :: xs => match allB xs with
    | some c => some (b && c)
    | none => none
  | _ => none
def anyB : List Val → Option Bool
  | [] => some false
  | .bl b :: xs => match anyB xs with
    | some c => some (b || c)
    | none => none
  | _ => none
theorem allB_bls : ∀ {xs : List Val} {c : Bool}, allB xs = some c → ∃ bs : List Bool, xs = bs.map Val.bl ∧ c = bs.all id
  | [], c, h => by
    cases h
    exact ⟨[], rfl, rfl⟩
  | x :: xs, c, h => by
    cases x with
    | bl b =>
      have h2 : (match allB xs with | some c => some (b && c) | none => none) = some c := h
      split at h2
      · rename_i d h3
        cases h2
        obtain ⟨bs, rfl, rfl⟩ := allB_bls h3
        exact ⟨b :: bs, rfl, rfl⟩
      · cases h2
    | _ => cases h
theorem anyB_bls : ∀ {xs : List Val} {c : Bool}, anyB xs = some c → ∃ bs : List Bool, xs = bs.map Val.bl ∧ c = bs.any id
  | [], c, h => by
    cases h
    exact ⟨[], rfl, rfl⟩
  | x :: xs, c, h => by
    cases x with
    | bl b =>
      have h2 : (match anyB xs with | some c => some (b || c) | none => none) = some c := h
      split at h2
      · rename_i d h3
        cases h2
        obtain ⟨bs, rfl, rfl⟩ := anyB_bls h3
        exact ⟨b :: bs, rfl, rfl⟩
      · cases h2
    | _ => cases h
theorem RVs.ofBls : ∀ (bs : List Bool) {vs : List V}, RVs W.K ι H (bs.map Val.bl) vs → vs = bs.map V.bl
  | [], _, h => by cases h; rfl
  | b :: bs, _, h => by
    cases h with
    | cons h1 h2 =>
      cases h1
      rw [RVs.ofBls bs h2]
      rfl
theorem RVs.ofStrs : ∀ (bs : List (List Nat)) {vs : List V}, RVs W.K ι H (bs.map Val.str) vs → vs = (bs.map St').map V.str
  | [], _, h => by cases h; rfl
  | b :: bs, _, h => by
    cases h with
    | cons h1 h2 =>
      cases h1
      rw [RVs.ofStrs bs h2]
      rfl
theorem RVs.ofInts : ∀ (bs : List Int) {vs : List V}, RVs W.K ι H (bs.map Val.int) vs → vs = bs.map V.int
  | [], _, h => by cases h; rfl
  | b :: bs, _, h => by
    cases h with
    | cons h1 h2 =>
      cases h1
      rw [RVs.ofInts bs h2]
      rfl
def oneR (f : Nat → Sto → Option (Val × Sto)) : ON := fun xs st => match xs with
  | [.ref p] => f p st
  | _ => none
def fAll : ON := oneR fun p st => match st[p]? with
  | some (.lst xs) => (allB xs).map fun c => (.bl c, st)
  | _ => none
def fAny : ON := oneR fun p st => match st[p]? with
  | some (.lst xs) => (anyB xs).map fun c => (.bl c, st)
  | _ => none
theorem one_ref {f : Nat → Sto → Option (Val × Sto)} {as : List Val} {xs : List V} {v : Val} {st' : Sto} (rx : RVs W.K ι H as xs) (hf : oneR f as st = some (v, st')) : ∃ i p, as = [.ref i] ∧ xs = [.ref p] ∧ ι[i]? = some p ∧ f i st = some (v, st') := by
  unfold oneR at hf
  split at hf
  · rename_i i
    cases rx with
    | cons r0 rr =>
      cases rr
      cases r0
      rename_i p h0
      exact ⟨i, p, rfl, rfl, h0, hf⟩
  · cases hf
theorem call_allF (C : Ctx W k X Ew) : CallR X (.builtin "all") (rc W fAll) := callBy fun xs H Q ⟨ι, st, as, v, st', rx, hr, hf, hq⟩ => by
  obtain ⟨i, p, rfl, rfl, h0, h1⟩ := one_ref rx hf
  split at h1
  · rename_i ys h5
    obtain ⟨c, h2, h3⟩ := Option.map_eq_some_iff.mp h1
    cases h3
    obtain ⟨bs, rfl, rfl⟩ := allB_bls h2
    obtain ⟨vs, h6, h7⟩ := hr.lst h5 h0
    rw [RVs.ofBls bs h7] at h6
    exact ⟨_, cr_all C.calm, p, bs, rfl, SqL.of h6, hq.here hr (.bl _)⟩
  · cases h1
theorem call_anyF (C : Ctx W k X Ew) : CallR X (.builtin "any") (rc W fAny) := callBy fun xs H Q ⟨ι, st, as, v, st', rx, hr, hf, hq⟩ => by
  obtain ⟨i, p, rfl, rfl, h0, h1⟩ := one_ref rx hf
  split at h1
  · rename_i ys h5
    obtain ⟨c, h2, h3⟩ := Option.map_eq_some_iff.mp h1
    cases h3
    obtain ⟨bs, rfl, rfl⟩ := anyB_bls h2
    obtain ⟨vs, h6, h7⟩ := hr.lst h5 h0
    rw [RVs.ofBls bs h7] at h6
    exact ⟨_, cr_any C.calm, p, bs, rfl, SqL.of h6, hq.here hr (.bl _)⟩
  · cases h1
/-- isinstance of a built-in class -/
def tyN (st : Sto) : Val → Option String
  | .non => some "NoneType"
  | .bl _ => some "bool"
  | .int _ => some "int"
  | .str _ => some "str"
  | .tup _ => some "tuple"
  | .scr _ => some "list"
  | .ref p => match st[p]? with
    | some (.lst _) => some "list"
    | some (.dic _) => some "dict"
    | _ => none
  | _ => none
def isSub (n t : String) : Option Bool := match t with
  | "int" => some (n == "int" || n == "bool")
  | "bool" => some (n == "bool")
  | "str" => some (n == "str")
  | "tuple" => some (n == "tuple")
  | "list" => some (n == "list")
  | _ => none
def fIsi : ON := fun xs st => match xs with
  | [x, .ty t] => match tyN st x with
    | some n => (isSub n t).map fun c => (.bl c, st)
    | none => none
  | _ => none
theorem tyN_of (r : Rel W ι H st) {x : Val} {v : V} {n : String} (h : tyN st x = some n) (rx : RV W.K ι H x v) : TyX W.K H v (.type n) ∧ n ∈ ["NoneType", "bool", "int", "str", "tuple", "list", "dict"] := by
  cases rx with
  | non => cases h; exact ⟨.base .non, by decide⟩
  | bl b => cases h; exact ⟨.base (.bl b), by decide⟩
  | int b => cases h; exact ⟨.base (.int b), by decide⟩
  | str b => cases h; exact ⟨.base (.str _), by decide⟩
  | @tup p vs xs sx rxs =>
    cases h
    refine ⟨?_, by decide⟩
    rcases sx with (s1 | ⟨o, s1⟩) | ⟨o, its, n, s1, s2, _⟩
    · exact .base (.tup s1)
    · exact .fTuple s1
    · exact .kTuple s1 s2
  | @scr p ns h0 =>
    cases h
    refine ⟨?_, by decide⟩
    rcases h0 with ⟨o, h1⟩ | h1
    · exact .base (.frz h1)
    · rcases h1 (fun _ => none) with (s1 | ⟨o, s1⟩) | ⟨o, its, n, s1, s2, _⟩
      · cases s1
      · cases s1
      · exact .kList s1 s2
  | @ref j p h0 =>
    have h2 : (match st[j]? with | some (.lst _) => some "list" | some (.dic _) => some "dict" | _ => none) = some n := h
    split at h2
    · rename_i xs h5
      cases h2
      obtain ⟨vs, h6, _⟩ := r.lst h5 h0
      exact ⟨.base (.lst h6), by decide⟩
    · rename_i xs h5
      cases h2
      obtain ⟨vs, h6, _⟩ := r.dic h5 h0
      exact ⟨.base (.dK h6), by decide⟩
    · cases h2
  | ty t => cases h
theorem isSub_ok {n t : String} {c : Bool} (h : isSub n t = some c) (hn : n ∈ ["NoneType", "bool", "int", "str", "tuple", "list", "dict"]) {K : PySem.W.Frag} : PySem.W.kitOne K (.type n) (.type t) = some c := by
  have ht : t ∈ ["int", "bool", "str", "tuple", "list"] := by
    unfold isSub at h
    split at h <;> first | (cases h; done) | simp
  simp only [List.mem_cons, List.not_mem_nil, or_false] at hn ht
  rcases hn with rfl | rfl | rfl | rfl | rfl | rfl | rfl <;> rcases ht with rfl | rfl | rfl | rfl | rfl <;> (cases h; exact kit_ty (by decide +kernel))
theorem call_isiF (C : Ctx W k X Ew) : CallR X (.builtin "isinstance") (rc W fIsi) := callBy fun xs H Q ⟨ι, st, as, v, st', rx, hr, hf, hq⟩ => by
  unfold fIsi at hf
  split at hf
  · rename_i x t
    cases h1 : tyN st x with
    | none => rw [h1] at hf; cases hf
    | some n =>
      rw [h1] at hf
      obtain ⟨c, h2, h3⟩ := Option.map_eq_some_iff.mp hf
      cases h3
      cases rx with
      | cons r0 rr =>
        cases rr with
        | cons r1 r2 =>
          cases r2
          cases r1
          obtain ⟨g1, g2⟩ := tyN_of hr h1 r0
          exact ⟨_, call_isi, _, .ty t, .type n, .type t, c, rfl, .ty t, by rw [C.eK]; exact g1, isSub_ok h2 g2, hq.here hr (.bl _)⟩
  · cases hf
/-- a built-in class's name as a value -/
theorem se_ty {x : Str} (n : String) (C : Ctx W k X Ew) (hm : W.mg x = none) (hb : bootBuiltins x = some (.type n)) (hg : Gl X x := by rfl) (hn : x ≠ "__name__" := by decide) (hd : (x == ("__debug__" : Str)) = false := by decide) : SE W X Ew (.Name x pos) (fC (.ty n)) :=
  se_c (z := .ty n) (pe_bltn hg (by rw [C.em]; exact hm) hb (show RelV (.ty n) (.type n) from rfl) hn hd) fun _ _ => .ty n
def fListOf : ON := fun xs st => match xs with
  | [.tup xs] => some (.ref st.length, st ++ [.lst xs])
  | [.ref p] => match st[p]? with
    | some (.lst xs) => some (.ref st.length, st ++ [.lst xs])
    | _ => none
  | _ => none
theorem call_listF (C : Ctx W k X Ew) : CallR X (.type "list") (rc W fListOf) := callBy fun xs H Q ⟨ι, st, as, v, st', rx, hr, hf, hq⟩ => by
  unfold fListOf at hf
  split at hf
  · rename_i xs
    cases hf
    cases rx with
    | cons r0 rr =>
      cases rr
      cases r0 with
      | @tup p vs xs sx rxs => exact ⟨_, call_list_of, p, vs, rfl, .inr (by rw [C.eK]; exact sx), hq.new hr (show RO W ι H (.lst xs) (.lst vs) from rxs)⟩
  · rename_i i
    split at hf
    · rename_i ys h5
      cases hf
      cases rx with
      | cons r0 rr =>
        cases rr
        cases r0 with
        | @ref j p h0 =>
          obtain ⟨vs, h6, h7⟩ := hr.lst h5 h0
          exact ⟨_, call_list_of, p, vs, rfl, .inl (SqL.of h6), hq.new hr (show RO W ι H (.lst ys) (.lst vs) from h7)⟩
    · cases hf
  · cases hf
def fTupOf : ON := fun xs st => match xs with
  | [.tup xs] => some (.tup xs, st)
  | [.ref p] => match st[p]? with
    | some (.lst xs) => some (.tup xs, st)
    | _ => none
  | _ => none
theorem call_tupF (C : Ctx W k X Ew) : CallR X (.type "tuple") (rc W fTupOf) := callBy fun xs H Q ⟨ι, st, as, v, st', rx, hr, hf, hq⟩ => by
  unfold fTupOf at hf
  split at hf
  · rename_i xs
    cases hf
    cases rx with
    | cons r0 rr =>
      cases rr
      cases r0 with
      | @tup p vs xs sx rxs => exact ⟨_, call_tuple_of, p, vs, rfl, .inr ⟨by rw [C.eK]; exact sx, hq.here hr (.tup sx rxs)⟩⟩
  · rename_i i
    split at hf
    · rename_i ys h5
      cases hf
      cases rx with
      | cons r0 rr =>
        cases rr
        cases r0 with
        | @ref j p h0 =>
          obtain ⟨vs, h6, h7⟩ := hr.lst h5 h0
          exact ⟨_, call_tuple_of, p, vs, rfl, .inl ⟨SqL.of h6, hq.newT hr h7⟩⟩
    · cases hf
  · cases hf
def twoI (f : Int → Int → Int) : ON := fun xs st => match xs with
  | [.int i, .int j] => some (.int (f i j), st)
  | _ => none
def fMin2 : ON := twoI fun i j => if j < i then j else i
def fMax2 : ON := twoI fun i j => if j > i then j else i
theorem two_ints {f : Int → Int → Int} {as : List Val} {xs : List V} {v : Val} {st' : Sto} (rx : RVs W.K ι H as xs) (hf : twoI f as st = some (v, st')) : ∃ i j, xs = [.int i, .int j] ∧ v = .int (f i j) ∧ st' = st := by
  unfold twoI at hf
  split at hf
  · rename_i i j
    cases hf
    cases rx with
    | cons r0 rr =>
      cases rr with
      | cons r1 r2 =>
        cases r2
        cases r0
        cases r1
        exact ⟨i, j, rfl, rfl, rfl⟩
  · cases hf
theorem call_minF (C : Ctx W k X Ew) : CallR X (.builtin "min") (rc W fMin2) := callBy fun xs H Q ⟨ι, st, as, v, st', rx, hr, hf, hq⟩ => by
  obtain ⟨i, j, rfl, rfl, rfl⟩ := two_ints rx hf
  exact ⟨_, call_min2 C.calm, i, j, rfl, hq.here hr (.int _)⟩
theorem call_maxF (C : Ctx W k X Ew) : CallR X (.builtin "max") (rc W fMax2) := callBy fun xs H Q ⟨ι, st, as, v, st', rx, hr, hf, hq⟩ => by
  obtain ⟨i, j, rfl, rfl, rfl⟩ := two_ints rx hf
  exact ⟨_, call_max2 C.calm, i, j, rfl, hq.here hr (.int _)⟩

/-! ### methods of lists and texts -/
theorem mtBy {id : String} {r' : V → List V → Hp → VK → Prop} (h : ∀ x xs H Q, r' x xs H Q → ∃ r, MtR X id r ∧ r x xs H Q) : MtR X id r' := fun pins s σ H x xs v us Q I rx rxs hw =>
  let ⟨_, h1, h2⟩ := h x xs H Q hw
  h1 pins s σ H x xs v us Q I rx rxs h2
def kindOf (T : String) (st : Sto) : Val → Bool
  | .str _ => T == "str"
  | .scr _ => T == "list"
  | .ref p => match st[p]? with
    | some (.lst _) => T == "list"
    | some (.dic _) => T == "dict"
    | _ => false
  | _ => false
theorem kind_ty (r : Rel W ι H st) {T : String} {x : Val} {v : V} (h : kindOf T st x = true) (rx : RV W.K ι H x v) : tyV W.K T v H := by
  cases rx with
  | str s => exact beq_iff_eq.mp h
  | @scr p ns h0 => exact .inl ⟨beq_iff_eq.mp h, _, h0.sq⟩
  | @ref j p h0 =>
    have h2 : (match st[j]? with | some (.lst _) => T == "list" | some (.dic _) => T == "dict" | _ => false) = true := h
    split at h2
    · rename_i xs h5
      obtain ⟨vs, h6, _⟩ := r.lst h5 h0
      exact .inl ⟨beq_iff_eq.mp h2, vs, SqL.of h6⟩
    · rename_i xs h5
      obtain ⟨vs, h6, _⟩ := r.dic h5 h0
      exact .inr (.inr (.inl ⟨beq_iff_eq.mp h2, .inl ⟨vs, h6⟩⟩))
    · cases h2
  | _ => cases h
def fMt (T : String) (f : Val → ON) (mo : FE) (ma : FA) : FE := bnd mo fun x => fun sl st => if kindOf T st x = true then bnd ma (fun xs => lft (f x xs)) sl st else none
theorem se_mt {T id : String} {f : Val → ON} {name : Str} {apos : Pos} {o : Expr} {mo : FE} (C : Ctx W k X Ew) (h1 : PySem.PlainAttrs T) (h2 : PySem.Slot T name id) (h3 : PySem.typeOf (.builtin id) = pure (.type "method_descriptor")) (hr : MtR X id (rm W f)) (ho : SE W X Ew o mo) (ha : SA W X Ew (e :: es) mas)
    (g1 : attributeBase o name X.env (eval o X.env) = eval o X.env := by rfl)
    (g2 : ((((backTo pos (starEach (e :: es) X.env)).all fun x => !x.1) && (backToKw pos (keywordEach [] X.env)).all fun x => x.1.isSome) && decide (((e :: es).length + ([] : List Keyword).length + if ([] : List Keyword).isEmpty = true then 0 else 1) < 30)) = true := by rfl)
    (g3 : (apos.endLine == pos.line) = true := by rfl) (g4 : starEach (e :: es) X.env = (false, eval e X.env) :: starEach es X.env := by rfl) (g5 : (backTo pos (starEach es X.env)).any (fun x => x.1) = false := by rfl) :
    SE W X Ew (.Call (.Attribute o name apos) (e :: es) [] pos) (fMt T f mo mas) :=
  imE (pe_bm h1 h2 h3 hr ho ha g1 g2 g3 g4 g5) fun σ H Q ⟨ι, sl, st, r, hs, hr, hm, hq⟩ => run hs hr hm hq fun x st1 ι1 H1 vx e1 s1 r1 rx hm1 hq1 => by
    have hm2 : (if kindOf T st1 x = true then bnd mas (fun xs => lft (f x xs)) sl st1 else none) = some r := hm1
    by_cases hk : kindOf T st1 x = true
    case neg => rw [if_neg hk] at hm2; cases hm2
    rw [if_pos hk] at hm2
    refine ⟨by rw [C.eK]; exact kind_ty r1 hk rx, run s1 r1 hm2 hq1 fun xs st2 ι2 H2 vs e2 s2 r2 rxs hm3 hq3 => ?_⟩
    obtain ⟨v, st', h5, rfl⟩ := lft_some hm3
    exact ⟨ι2, st2, x, xs, v, st', rx.mono e2, rxs, r2, h5, hq3⟩
def fMt0 (T : String) (f : Val → ON) (mo : FE) : FE := bnd mo fun x => fun sl st => if kindOf T st x = true then lft (f x []) sl st else none
theorem se_mt0 {T id : String} {f : Val → ON} {name : Str} {apos : Pos} {o : Expr} {mo : FE} (C : Ctx W k X Ew) (h1 : PySem.PlainAttrs T) (h2 : PySem.Slot T name id) (h3 : PySem.typeOf (.builtin id) = pure (.type "method_descriptor")) (hr : MtR X id (rm W f)) (ho : SE W X Ew o mo)
    (g1 : attributeBase o name X.env (eval o X.env) = eval o X.env := by rfl) (g3 : (apos.endLine == pos.line) = true := by rfl) : SE W X Ew (.Call (.Attribute o name apos) [] [] pos) (fMt0 T f mo) :=
  imE (pe_bm0 h1 h2 h3 hr ho g1 g3) fun σ H Q ⟨ι, sl, st, r, hs, hr, hm, hq⟩ => run hs hr hm hq fun x st1 ι1 H1 vx e1 s1 r1 rx hm1 hq1 => by
    have hm2 : (if kindOf T st1 x = true then lft (f x []) sl st1 else none) = some r := hm1
    by_cases hk : kindOf T st1 x = true
    case neg => rw [if_neg hk] at hm2; cases hm2
    rw [if_pos hk] at hm2
    refine ⟨by rw [C.eK]; exact kind_ty r1 hk rx, ?_⟩
    obtain ⟨v, st', h5, rfl⟩ := lft_some hm2
    exact ⟨ι1, st1, x, [], v, st', rx, .nil, r1, h5, hq1⟩
/-- a method of a list: what becomes of its items, what it hands back -/
def onL (g : List Val → List Val → Option (Val × List Val)) : Val → ON := fun x xs st => match x with
  | .ref p => match st[p]? with
    | some (.lst ys) => (g ys xs).map fun r => (r.1, st.set p (.lst r.2))
    | _ => none
  | _ => none
theorem onL_of {g : List Val → List Val → Option (Val × List Val)} {x : Val} {xs : List Val} {vx : V} {v : Val} {st' : Sto} (hr : Rel W ι H st) (rx : RV W.K ι H x vx) (h : onL g x xs st = some (v, st')) :
    ∃ i p ys vs zs, vx = .ref p ∧ ι[i]? = some p ∧ st[i]? = some (.lst ys) ∧ H p = some (.lst vs) ∧ RVs W.K ι H ys vs ∧ g ys xs = some (v, zs) ∧ st' = st.set i (.lst zs) := by
  cases rx with
  | @ref i p h0 =>
    have h2 : (match st[i]? with | some (.lst ys) => (g ys xs).map (fun r => (r.1, st.set i (.lst r.2))) | _ => none) = some (v, st') := h
    split at h2
    · rename_i ys h5
      obtain ⟨⟨w, zs⟩, h3, h4⟩ := Option.map_eq_some_iff.mp h2
      cases h4
      obtain ⟨vs, h6, h7⟩ := hr.lst h5 h0
      exact ⟨i, p, ys, vs, zs, rfl, h0, h5, h6, h7, h3, rfl⟩
    · cases h2
  | _ => cases h
def gAppend (ys xs : List Val) : Option (Val × List Val) := match xs with
  | [x] => if ys.length < LINE then some (.non, ys ++ [x]) else none
  | _ => none
theorem mt_appendF : MtR X "list.append" (rm W (onL gAppend)) := mtBy fun x xs H Q ⟨ι, st, a, as, v, st', rx, rxs, hr, hf, hq⟩ => by
  obtain ⟨i, p, ys, vs, zs, rfl, h0, h5, h6, h7, hg, rfl⟩ := onL_of hr rx hf
  unfold gAppend at hg
  split at hg
  · rename_i y
    split at hg
    · rename_i hl
      cases hg
      cases rxs with
      | @cons _ w _ _ r0 rr =>
        cases rr
        exact ⟨_, mt_append, p, vs, w, rfl, rfl, h6, by rw [← h7.len, ← line_eq]; exact hl, hq.put hr h0 h5 (show RO W ι H (.lst (ys ++ [y])) (.lst (vs ++ [w])) from h7.app (.cons r0 .nil)) .non⟩
    · cases hg
  · cases hg
def gPopAt (ys xs : List Val) : Option (Val × List Val) := match xs with
  | [.int i] => if 0 ≤ i ∧ i < ys.length ∧ ys.length ≤ LINE then (ys[i.toNat]?).map fun y => (y, ys.eraseIdx i.toNat) else none
  | _ => none
theorem seqIx {i : Int} {n : Nat} (h0 : 0 ≤ i) (h1 : i < n) : seqIndex? i n = some i.toNat := by
  unfold seqIndex?
  have h2 : ¬ i < 0 := by omega
  simp [h2]
  omega
theorem mt_popAtF : MtR X "list.pop" (rm W (onL gPopAt)) := mtBy fun x xs H Q ⟨ι, st, a, as, v, st', rx, rxs, hr, hf, hq⟩ => by
  obtain ⟨i, p, ys, vs, zs, rfl, h0, h5, h6, h7, hg, rfl⟩ := onL_of hr rx hf
  unfold gPopAt at hg
  split at hg
  · rename_i j
    split at hg
    · rename_i hl
      obtain ⟨y, h1, h2⟩ := Option.map_eq_some_iff.mp hg
      cases h2
      obtain ⟨w, h8, h9⟩ := h7.at _ h1
      cases rxs with
      | cons r0 rr =>
        cases rr
        cases r0
        have hz : (LINE : Int) < 2 ^ 63 := by decide
        exact ⟨_, mt_popAt, p, vs, j, j.toNat, w, rfl, rfl, h6, by omega, by omega, by rw [← h7.len]; exact seqIx hl.1 hl.2.1, h8, hq.put hr h0 h5 (show RO W ι H (.lst (ys.eraseIdx j.toNat)) (.lst (vs.eraseIdx j.toNat)) from h7.del _) h9⟩
    · cases hg
  · cases hg
def gPop (ys xs : List Val) : Option (Val × List Val) := match xs with
  | [] => (ys[ys.length - 1]?).map fun y => (y, ys.dropLast)
  | _ => none
theorem RVs.dropLast : ∀ {xs : List Val} {vs : List V}, RVs W.K ι H xs vs → RVs W.K ι H xs.dropLast vs.dropLast := fun {xs vs} h => by
  rw [List.dropLast_eq_take, List.dropLast_eq_take, h.len]
  exact h.take _
theorem mt_popF : MtR X "list.pop" (rm W (onL gPop)) := mtBy fun x xs H Q ⟨ι, st, a, as, v, st', rx, rxs, hr, hf, hq⟩ => by
  obtain ⟨i, p, ys, vs, zs, rfl, h0, h5, h6, h7, hg, rfl⟩ := onL_of hr rx hf
  unfold gPop at hg
  split at hg
  · obtain ⟨y, h1, h2⟩ := Option.map_eq_some_iff.mp hg
    cases h2
    obtain ⟨w, h8, h9⟩ := h7.at _ h1
    cases rxs
    exact ⟨_, mt_pop, p, vs, w, rfl, rfl, h6, by rw [← h7.len]; exact h8, hq.put hr h0 h5 (show RO W ι H (.lst ys.dropLast) (.lst vs.dropLast) from h7.dropLast) h9⟩
  · cases hg
def gInsert (ys xs : List Val) : Option (Val × List Val) := match xs with
  | [.int i, x] => if ys.length < LINE ∧ 0 ≤ i ∧ i < 2 ^ 63 then some (.non, ys.take i.toNat ++ [x] ++ ys.drop i.toNat) else none
  | _ => none
theorem mt_insertF : MtR X "list.insert" (rm W (onL gInsert)) := mtBy fun x xs H Q ⟨ι, st, a, as, v, st', rx, rxs, hr, hf, hq⟩ => by
  obtain ⟨i, p, ys, vs, zs, rfl, h0, h5, h6, h7, hg, rfl⟩ := onL_of hr rx hf
  unfold gInsert at hg
  split at hg
  · rename_i j y
    split at hg
    · rename_i hl
      cases hg
      cases rxs with
      | cons r0 rr =>
        cases r0
        cases rr with
        | @cons _ w _ _ r1 r2 =>
          cases r2
          exact ⟨_, mt_insert, p, vs, j, w, rfl, rfl, h6, by rw [← h7.len, ← line_eq]; exact hl.1, hl.2.1, hl.2.2, hq.put hr h0 h5 (show RO W ι H (.lst (ys.take j.toNat ++ [y] ++ ys.drop j.toNat)) (.lst (vs.take j.toNat ++ [w] ++ vs.drop j.toNat)) from ((h7.take _).app (.cons r1 .nil)).app (h7.drop _)) .non⟩
    · cases hg
  · cases hg
/-- sep.join(xs) -/
def jn (sep : List Nat) : List (List Nat) → List Nat
  | [] => []
  | p :: ps => ps.foldl (fun acc q => acc ++ sep ++ q) p
def strsOf : List Val → Option (List (List Nat))
  | [] => some []
  | .str s :: xs => match strsOf xs with
    | some ss => some (s :: ss)
    | none => none
  | _ => none
theorem strsOf_map : ∀ {xs : List Val} {ss : List (List Nat)}, strsOf xs = some ss → xs = ss.map Val.str
  | [], ss, h => by cases h; rfl
  | x :: xs, ss, h => by
    cases x with
    | str s =>
      have h2 : (match strsOf xs with | some ss => some (s :: ss) | none => none) = some ss := h
      split at h2
      · rename_i d h3
        cases h2
        rw [strsOf_map h3]
        rfl
      · cases h2
    | _ => cases h
def fJoin : Val → ON := fun x xs st => match x, xs with
  | .str sep, [.ref p] => match st[p]? with
    | some (.lst ys) => (match strsOf ys with
      | some ss => if (ss.map (·.length)).sum + ss.length * sep.length ≤ LINE then some (.str (jn sep ss), st) else none
      | none => none)
    | _ => none
  | .str sep, [.tup ys] => (match strsOf ys with
      | some ss => if (ss.map (·.length)).sum + ss.length * sep.length ≤ LINE then some (.str (jn sep ss), st) else none
      | none => none)
  | _, _ => none
theorem jn_fold (sep : List Nat) : ∀ (ps : List (List Nat)) (acc : List Nat), ((ps.map St').foldl (fun acc p => acc ++ (St' sep).cps ++ p.cps) acc.toArray) = (ps.foldl (fun acc q => acc ++ sep ++ q) acc).toArray
  | [], acc => rfl
  | p :: ps, acc => by
    rw [List.map_cons, List.foldl_cons, List.foldl_cons, ← jn_fold sep ps]
    congr 1
    simp
theorem jn_join (sep : List Nat) (ps : List (List Nat)) : Txt.join (St' sep) (ps.map St') = St' (jn sep ps) := by
  cases ps with
  | nil => rfl
  | cons p ps =>
    show Str.mk _ = _
    have := jn_fold sep ps p
    exact congrArg Str.mk this
theorem mt_joinF (C : Ctx W k X Ew) : MtR X "str.join" (rm W fJoin) := mtBy fun x xs H Q ⟨ι, st, a, as, v, st', rx, rxs, hr, hf, hq⟩ => by
  unfold fJoin at hf
  split at hf
  · rename_i sep i
    split at hf
    · rename_i ys h5
      split at hf
      · rename_i ss h1
        split at hf
        · rename_i hl
          cases hf
          cases rx
          cases rxs with
          | cons r0 rr =>
            cases rr
            cases r0 with
            | @ref j p h0 =>
              obtain ⟨vs, h6, h7⟩ := hr.lst h5 h0
              rw [strsOf_map h1] at h7
              rw [RVs.ofStrs ss h7] at h6
              refine ⟨_, mt_join, _, p, ss.map St', rfl, rfl, .inl (SqL.of h6), ?_, by rw [jn_join]; exact hq.here hr (.str _)⟩
              rw [List.map_map, st_len, List.length_map]
              have e : (ss.map ((fun x => x.length) ∘ St')) = ss.map (·.length) := List.map_congr_left fun x _ => st_len x
              rw [e]
              exact hl
        · cases hf
      · cases hf
    · cases hf
  · rename_i sep ys
    split at hf
    · rename_i ss h1
      split at hf
      · rename_i hl
        cases hf
        cases rx
        cases rxs with
        | cons r0 rr =>
          cases rr
          cases r0 with
          | @tup p vs xs sx rxs =>
            rw [strsOf_map h1] at rxs
            rw [RVs.ofStrs ss rxs] at sx
            refine ⟨_, mt_join, _, p, ss.map St', rfl, rfl, .inr (by rw [C.eK]; exact sx), ?_, by rw [jn_join]; exact hq.here hr (.str _)⟩
            rw [List.map_map, st_len, List.length_map]
            have e : (ss.map ((fun x => x.length) ∘ St')) = ss.map (·.length) := List.map_congr_left fun x _ => st_len x
            rw [e]
            exact hl
      · cases hf
    · cases hf
  · cases hf

/-! ### xs[i] = v -/
def fSetI : O3 := fun o i v st => match o, i with
  | .ref p, .int j => match st[p]? with
    | some (.lst xs) => (ixN xs.length j).map fun n => st.set p (.lst (xs.set n v))
    | _ => none
  | _, _ => none
theorem set_F : PSet X (rset W fSetI) := fun pins s σ H o i v ov iv u Q I ro ri rv h => by
  obtain ⟨ι, st, x, y, z, st', rx, ry, rz, hr, hf, hq⟩ := h
  refine set_list pins s σ H o i v ov iv u Q I ro ri rv ?_
  unfold fSetI at hf
  split at hf
  · rename_i n j
    split at hf
    · rename_i xs h5
      obtain ⟨m, h1, h2⟩ := Option.map_eq_some_iff.mp hf
      cases h2
      cases rx with
      | @ref n p h0 =>
        cases ry
        obtain ⟨vs, h6, h7⟩ := hr.lst h5 h0
        exact ⟨p, vs, j, m, rfl, rfl, h6, by rw [← h7.len]; exact h1, hq ι _ (Ext.put hr h0 h5) (hr.put h0 h5 (show RO W ι H (.lst (xs.set m z)) (.lst (vs.set m v)) from RVs.set rz m h7))⟩
    · cases hf
  · cases hf

/-! ### what is walked -/
def asIt (st : Sto) : Val → Option Itb
  | .tup xs => some ⟨xs, .none⟩
  | .str s => some ⟨s.map fun c => .str [c], .none⟩
  | .scr ns => some ⟨ns.map .int, .none⟩
  | .ref p => match st[p]? with
    | some (.lst xs) => some ⟨xs, .some p⟩
    | _ => none
  | _ => none
def fIt (m : FE) : FI := bnd m fun x => fun _ st => (asIt st x).map fun b => .ok b st
end
end FL
/-! FL7: what is walked; a slice stored. -/
namespace FL
open PySem PySem.Spec PyProof.Rows L2

section
variable {W : Wd} {k : Nat} {X : Cx} {Ew : WX} {ι ι' : List Addr} {H H' : Hp} {st : Sto} {a b c e : Expr} {es : List Expr} {ma mb me : FE} {mt mu : FT} {mas : FA} {pos : Pos} {tg : Expr}

/-! ### tuples, lists, texts walked -/
/-- any of the three, by its value -/
def iAny (K : PySem.W.Frag) (t : TE) : TI := fun σ H R => t σ H fun x H1 => (∃ p, x = .ref p ∧ (∃ xs, SqL K H1 p xs) ∧ R (Itl K p) H1) ∨ (∃ p, x = .ref p ∧ (∃ xs, SqT K H1 p xs) ∧ R (Itt K p) H1) ∨ ∃ z, x = .str z ∧ R (Its z) H1
theorem pi_any {l : Expr} {t : TE} (hl : PE X l t) : PI X tg l (iAny X.K t) := by
  refine ⟨fun pins s σ H R I h => thn (hl.run pins s σ H _ I h) ?_⟩
  rintro v s1 ⟨x, H1, I1, r1, ⟨p, rfl, ⟨xs, hx⟩, q⟩ | ⟨p, rfl, ⟨xs, hx⟩, q⟩ | ⟨z, rfl, q⟩⟩
  · cases r1; obtain ⟨its, _, pl, _⟩ := I1.list hx
    exact wpAny_pyIter_list pl.isList (pi_one (tk := s1.toks) I1 _ (turn_list p _) ⟨_, Heap.get?_push_size _ rfl, rfl, rfl⟩ q)
  · cases r1; obtain ⟨its, _, pl, _⟩ := I1.tuple hx
    exact wpAny_pyIter_tuple (show s1.heap.IsTuple p its.toArray from pl) (pi_one (tk := s1.toks) I1 _ (turn_tuple p _) ⟨_, Heap.get?_push_size _ rfl, rfl, rfl⟩ q)
  · obtain ⟨t, rfl⟩ := r1
    cases hz : z.cps.all (· < 128) with
    | false => exact wpAny_pyIter_wide hz (pi_one (tk := s1.toks) I1 _ (turn_str _ z t "str_iterator" (.inr rfl)) ⟨_, Heap.get?_push_size _ rfl, rfl, rfl⟩ q)
    | true => exact wpAny_pyIter_ascii hz (pi_one (tk := s1.toks) I1 _ (turn_str _ z t "str_ascii_iterator" (.inl rfl)) ⟨_, Heap.get?_push_size _ rfl, rfl, rfl⟩ q)
theorem ok_tup {p : Addr} {vs : List V} {xs : List Val} (sx : SqT W.K H p vs) (rxs : RVs W.K ι H xs vs) : ItOk W ι H ⟨xs, .none⟩ (Itt W.K p) := fun ι' H' st i e r _ => by
  refine ⟨fun x hx => ?_, fun hi => ⟨vs, e.sqT sx, by rw [← rxs.len]; exact hi⟩⟩
  obtain ⟨v, h1, h2⟩ := rxs.at i hx
  refine ⟨⟨vs, v, e.sqT sx, h1⟩, fun y H2 ⟨hH, hy⟩ => ?_⟩
  subst hH
  have := hy vs (e.sqT sx)
  rw [h1] at this
  cases this
  exact ⟨Ext.refl _ _, r, h2.mono e⟩
theorem ok_str (s : List Nat) : ItOk W ι H ⟨s.map fun c => .str [c], .none⟩ (Its (St' s)) := fun ι' H' st i e r _ => by
  refine ⟨fun x hx => ?_, fun hi => by
    show s.toArray.size ≤ i
    simpa using hi⟩
  have hx2 : (s.map fun c => Val.str [c])[i]? = some x := hx
  rw [List.getElem?_map] at hx2
  obtain ⟨c, h1, rfl⟩ := Option.map_eq_some_iff.mp hx2
  have hi := (List.getElem?_eq_some_iff.mp h1).1
  refine ⟨by show i < s.toArray.size; simpa using hi, fun y H2 ⟨hH, c', h3, h4⟩ => ?_⟩
  subst hH h4
  have h5 : s.toArray[i]? = some c' := h3
  rw [List.getElem?_toArray, h1] at h5
  cases h5
  exact ⟨Ext.refl _ _, r, .str [c]⟩
theorem ok_lst {j : Nat} {p : Addr} {xs : List Val} (h0 : ι[j]? = some p) : ItOk W ι H ⟨xs, .some j⟩ (Itl W.K p) := fun ι' H' st i e r lv => by
  have lv2 : st[j]? = some (.lst xs) := lv
  obtain ⟨vs, h1, h2⟩ := r.lst lv2 (e.pre _ _ h0)
  refine ⟨fun x hx => ?_, fun hi => ⟨vs, SqL.of h1, by rw [← h2.len]; exact hi⟩⟩
  obtain ⟨v, h3, h4⟩ := h2.at i hx
  refine ⟨⟨vs, v, SqL.of h1, h3⟩, fun y H2 ⟨hH, hy⟩ => ?_⟩
  subst hH
  have := hy vs (SqL.of h1)
  rw [h3] at this
  cases this
  exact ⟨Ext.refl _ _, r, h4⟩
theorem ok_scr {p : Addr} {ns : List Int} (h0 : SqZ W.K H p (ns.map V.int)) : ItOk W ι H ⟨ns.map .int, .none⟩ (Itl W.K p) := fun ι' H' st i e r _ => by
  have h1 := e.sqZ h0
  refine ⟨fun x hx => ?_, fun hi => ⟨_, h1.sq, by rw [List.length_map]; simpa using hi⟩⟩
  have hx2 : (ns.map Val.int)[i]? = some x := hx
  rw [List.getElem?_map] at hx2
  obtain ⟨n, h2, rfl⟩ := Option.map_eq_some_iff.mp hx2
  have h3 : (ns.map V.int)[i]? = some (.int n) := by
    rw [List.getElem?_map, h2]
    rfl
  refine ⟨⟨_, _, h1.sq, h3⟩, fun y H2 ⟨hH, hy⟩ => ?_⟩
  subst hH
  have := hy _ h1.sq
  rw [h3] at this
  cases this
  exact ⟨Ext.refl _ _, r, .int n⟩
theorem si_any (C : Ctx W k X Ew) (ha : SE W X Ew a ma) : SI W X Ew tg a (fIt ma) :=
  imI (pi_any ha) fun σ H Q ⟨ι, sl, st, r, hs, hr, hm, hq⟩ => run hs hr hm hq fun x st1 ι1 H1 vx e1 s1 r1 rx hm1 hq1 => by
    have hm2 : (asIt st1 x).map (fun b => R.ok b st1) = some r := hm1
    obtain ⟨b, h1, rfl⟩ := Option.map_eq_some_iff.mp hm2
    rw [C.eK]
    cases rx with
    | @tup p vs xs sx rxs =>
      cases h1
      exact .inr (.inl ⟨p, rfl, ⟨vs, sx⟩, hq1 ι1 H1 _ (Ext.refl _ _) r1 (ok_tup sx rxs)⟩)
    | str s =>
      cases h1
      exact .inr (.inr ⟨_, rfl, hq1 ι1 H1 _ (Ext.refl _ _) r1 (ok_str s)⟩)
    | @scr p ns h0 =>
      cases h1
      exact .inl ⟨p, rfl, ⟨_, h0.sq⟩, hq1 ι1 H1 _ (Ext.refl _ _) r1 (ok_scr h0)⟩
    | @ref j p h0 =>
      have h2 : (match st1[j]? with | some (.lst xs) => some (Itb.mk xs (.some j)) | _ => none) = some b := h1
      split at h2
      · rename_i xs h5
        cases h2
        obtain ⟨vs, h6, _⟩ := r1.lst h5 h0
        exact .inl ⟨p, rfl, ⟨vs, SqL.of h6⟩, hq1 ι1 H1 _ (Ext.refl _ _) r1 (ok_lst h0)⟩
      · cases h2
    | _ => cases h1

/-! ### range -/
def rngL (lo : Int) (n : Nat) : List Val := (List.range n).map fun i => Val.int (lo + (i : Nat))
theorem ok_rng (lo : Int) (n : Nat) : ItOk W ι H ⟨rngL lo n, .none⟩ (Itr lo n) := fun ι' H' st i e r _ => by
  refine ⟨fun x hx => ?_, fun hi => by
    have h1 : (rngL lo n).length ≤ i := hi
    unfold rngL at h1
    rw [List.length_map, List.length_range] at h1
    exact h1⟩
  have hx2 : (rngL lo n)[i]? = some x := hx
  unfold rngL at hx2
  rw [List.getElem?_map] at hx2
  obtain ⟨j, h1, rfl⟩ := Option.map_eq_some_iff.mp hx2
  have hi := (List.getElem?_eq_some_iff.mp h1).1
  rw [List.length_range] at hi
  rw [List.getElem?_range hi] at h1
  cases h1
  refine ⟨hi, fun y H2 ⟨hH, hy⟩ => ?_⟩
  subst hH hy
  exact ⟨Ext.refl _ _, r, .int _⟩
def small62 (j : Int) : Prop := -(2 ^ 62) ≤ j ∧ j < 2 ^ 62
instance (j : Int) : Decidable (small62 j) := by unfold small62; exact inferInstance
def fRng1 (m : FA) : FI := bnd m fun xs => fun _ st => match xs with
  | [.int j] => if small62 j then some (.ok ⟨rngL 0 j.toNat, .none⟩ st) else none
  | _ => none
theorem si_rng1 {p : Pos} (C : Ctx W k X Ew) (hm : W.mg "range" = none) (ha : SA W X Ew [a] mas) (hg : Gl X "range" := by rfl) (hs : starEach [a] X.env = [(false, eval a X.env)] := by rfl) : SI W X Ew tg (.Call (.Name "range" p) [a] [] pos) (fRng1 mas) :=
  imI (pi_range1 hg (by rw [C.em]; exact hm) ha hs) fun σ H Q ⟨ι, sl, st, r, hs, hr, hm, hq⟩ => run hs hr hm hq fun x st1 ι1 H1 vx e1 s1 r1 rx hm1 hq1 => by
    split at hm1
    · rename_i j
      split at hm1
      · rename_i hj
        cases hm1
        cases rx with
        | cons r0 rr =>
          cases rr
          cases r0
          exact ⟨j, rfl, hj.1, hj.2, hq1 ι1 H1 _ (Ext.refl _ _) r1 (ok_rng 0 _)⟩
      · cases hm1
    · cases hm1
def fRng2 (m : FA) : FI := bnd m fun xs => fun _ st => match xs with
  | [.int i, .int j] => if small62 i ∧ small62 j then some (.ok ⟨rngL i (j - i).toNat, .none⟩ st) else none
  | _ => none
theorem si_rng2 {p : Pos} (C : Ctx W k X Ew) (hm : W.mg "range" = none) (ha : SA W X Ew [a, b] mas) (hg : Gl X "range" := by rfl) (hs : starEach [a, b] X.env = [(false, eval a X.env), (false, eval b X.env)] := by rfl) (hs2 : starEach [b] X.env = [(false, eval b X.env)] := by rfl) : SI W X Ew tg (.Call (.Name "range" p) [a, b] [] pos) (fRng2 mas) :=
  imI (pi_range2 hg (by rw [C.em]; exact hm) ha hs hs2) fun σ H Q ⟨ι, sl, st, r, hs, hr, hm, hq⟩ => run hs hr hm hq fun x st1 ι1 H1 vx e1 s1 r1 rx hm1 hq1 => by
    split at hm1
    · rename_i i j
      split at hm1
      · rename_i hj
        cases hm1
        cases rx with
        | cons r0 rr =>
          cases rr with
          | cons r2 rr =>
            cases rr
            cases r0
            cases r2
            exact ⟨i, j, rfl, ⟨hj.1.1, hj.1.2, hj.2.1, hj.2.2⟩, hq1 ι1 H1 _ (Ext.refl _ _) r1 (ok_rng i _)⟩
      · cases hm1
    · cases hm1

/-! ### xs[i:j] = ys, of another list -/
theorem bounds2 {i c n : Nat} (hi : i ≤ n) (hc : i ≤ c) : sliceBounds (some (i : Int)) (some (c : Int)) none n = ((i : Int), ((min c n : Nat) : Int), 1) := by
  simp only [sliceBounds, Option.getD_none]
  have h1 : ¬ ((i : Int) < 0) := by omega
  have h2 : ¬ ((c : Int) < 0) := by omega
  simp only [h1, h2, if_false, show (1 : Int) > 0 by decide, if_true]
  congr 1
  · omega
  · congr 1; omega
theorem setSlice {prog : Program} {w : World} {A : Around} {E : Value → Shared → Prop} {s : Shared} {l b sl : Addr} {items new : Array Value} {n n2 : Nat} {vl vu : Value} {i c : Nat} {Q : Unit → Shared → Prop}
    (g : s.heap.get? l = some { cls := .type "list", data := .seq items n }) (g2 : s.heap.get? b = some { cls := .type "list", data := .seq new n2 }) (nb : l ≠ b) (so : s.heap.IsSliceOf sl vl vu .none) (pl : IsPart vl (some (i : Int))) (pu : IsPart vu (some (c : Int)))
    (hi : i ≤ items.size) (hc : i ≤ c) (hsz : items.size + new.size ≤ sizeLine) (q : Q () { s with heap := s.heap.update l (Obj.mapSeq fun xs => xs.extract 0 i ++ new ++ xs.extract (min c items.size) xs.size) }) :
    wpAny (model prog w) A (setItem (.ref l) (.ref sl) (.ref b)) Q E s := by
  have Ll : s.heap.IsList l items := PySem.IsL.isList g; have Lb : s.heap.IsList b new := PySem.IsL.isList g2
  obtain ⟨os, hos, hcs, hds⟩ := id so
  have Ts : s.TypeIs (.ref sl) "slice" := ⟨os, hos, hcs⟩
  have st0 : ¬ ((rawPart none == rawInt 0) = true) := Bool.false_ne_true
  have ns : Builtin.List.listSameRef (.ref l) (.ref b) = false := by unfold Builtin.List.listSameRef; exact beq_eq_false_iff_ne.mpr nb
  have mx : (max (i : Int) ((min c items.size : Nat) : Int)).toNat = min c items.size := by omega
  have z1 : ((fun xs : Array Value => xs.extract 0 i ++ new ++ xs.extract (min c items.size) xs.size) items).size ≤ sizeLine + 1 := by simp only [Array.size_append, Array.size_extract]; omega
  unfold setItem
  try with_reducible refine wpAny_holding ?_
  first | (refine wpAny_bind (wpAny_pure ?_)) | skip
  refine wpAny_bind (wpAny_sequenceKey Ll.typeIs (by decide) (wpAny_bind (wpAny_callSpecial?_slot (name := Str.ofString "__setitem__") Ll.typeIs slot_list_setitem (wpAny_call_entry slot_list_setitem Ll.typeIs entry_list_setitem ?_ (args_list_setitem _ _ _)))))
  show wpAny _ _ (Builtin.List.listSubscript? (.ref sl) >>= _) _ _ s; refine wpAny_bind ?_
  unfold Builtin.List.listSubscript?; refine wpAny_bind (wpAny_specialOf Ts slice_no_index ?_); simp only [Option.isNone_none, if_true]; refine wpAny_pure ?_
  show wpAny _ _ (typeOf (.ref sl) >>= _) _ _ s; refine wpAny_bind (wpAny_typeOf Ts ?_)
  first | (rw [if_neg (by decide)]) | (refine PySem.W.KFB.if_not (by decide) ?_)
  rw [listSliceParts_eq]; refine wpAny_bind (wpAny_bind (wpAny_field hos hds (x := .none) rfl (wpAny_bind (wpAny_listPart .none ?_)))); rw [if_neg st0]
  refine wpAny_bind (wpAny_field hos hds (x := vl) rfl (wpAny_bind (wpAny_listPart pl (wpAny_bind (wpAny_field hos hds (x := vu) rfl (wpAny_bind (wpAny_listPart pu (wpAny_pure ?_))))))))
  first | (simp only [ns, Bool.false_eq_true, if_false]) | (refine PySem.W.KFB.if_not ns ?_) | (dsimp only; rw [if_neg (by rw [ns]; exact Bool.false_ne_true)])
  refine wpAny_bind (m := Builtin.List.listAllItems (.ref b) "must assign iterable to extended slice") ?_; unfold Builtin.List.listAllItems; refine wpAny_bind (wpAny_typeOf Lb.typeIs ?_)
  first | (refine PySem.W.KFB.if_so (by decide) ?_) | (rw [if_pos (by decide)]) | (simp only [beq_self_eq_true, Bool.true_or, if_true])
  unfold Builtin.List.listItems; refine wpAny_bind (wpAny_seqItems g2 rfl (wpAny_pure (wpAny_bind (wpAny_bind (wpAny_seqItems g rfl (wpAny_pure ?_))))))
  refine wpAny_bind (wpAny_of_eq ((sliceIndices_raw (some (i : Int)) (some (c : Int)) none items.size (by simp)).trans (congrArg (pure : Int × Int × Int → Sem (Int × Int × Int)) (bounds2 hi hc))) ?_)
  show wpAny _ _ (if ((1 : Int) == 1) = true then _ else _) _ _ s; rw [if_pos (by decide)]; refine wpAny_bind (wpAny_rule ?_)
  first | (simp only [notLongL hsz, Bool.false_eq_true, if_false]) | (refine PySem.W.KFB.if_not (notLongL hsz) ?_)
  first | (refine wpAny_bind (wpAny_pure ?_)) | skip
  show wpAny _ _ (updateSeq l (fun xs => xs.extract 0 ((i : Int)).toNat ++ new ++ xs.extract (max (i : Int) ((min c items.size : Nat) : Int)).toNat xs.size) >>= _) _ _ s
  rw [mx, Int.toNat_natCast]; refine wpAny_bind (wpAny_updateSeq (hz := Nat.le_trans (Nat.le_add_right _ _) hsz) (_hz' := z1) g rfl (wpAny_bind (wpAny_letGo ?_)))
  first | (exact wpAny_bind (wpAny_pure (wpAny_pure ⟨.none, rfl, wpAny_pure q⟩))) | (exact wpAny_pure ⟨.none, rfl, wpAny_pure q⟩)
/-- what stands where -/
def tSlc (mo : TE) (tl th : TO) : TG := fun v σ H Q => mo σ H fun x H1 => tl σ H1 fun lo H2 => th σ H2 fun hi H3 => ∃ l b xs ys i c, x = .ref l ∧ v = .ref b ∧ lo = some i ∧ hi = some c ∧ H3 l = some (.lst xs) ∧ H3 b = some (.lst ys) ∧ l ≠ b ∧ 0 ≤ i ∧ i ≤ c ∧ i ≤ xs.length ∧
  xs.length + ys.length ≤ sizeLine ∧ Q σ (upd H3 l (.lst (xs.take i.toNat ++ ys ++ xs.drop (min c.toNat xs.length))))
theorem pg_slc {o : Expr} {lo hi : Option Expr} {mo : TE} {tl th : TO} {p2 : Pos} (ho : PE X o mo) (hl : PO X lo tl) (hh : PO X hi th)
    (ha : ∀ v, assign (.Subscript o (.Slice lo hi none p2) pos) X.env v = (do let ov ← holding [v] (eval o X.env); let iv ← holding [v, ov] (eval (.Slice lo hi none p2) X.env); standAt pos; holding [v, ov, iv] (setItem ov iv v); release [iv, v, ov] []) := by intro _; rfl) : PG X (.Subscript o (.Slice lo hi none p2) pos) (tSlc mo tl th) := by
  refine ⟨fun pins s σ H v u Q I r h => ?_⟩
  rw [ha]
  refine wpAny_bind (wpAny_holding (thn (ho.run pins s σ H _ I h) fun ov s1 ⟨x, H1, I1, r1, q1⟩ => ?_))
  refine wpAny_bind (wpAny_holding (wpAny_Slice (thn (hl.run pins s1 σ H1 _ I1 q1) fun vl s2 ⟨l, H2, I2, pl, q2⟩ => thn (hh.run pins s2 σ H2 _ I2 q2) fun vu s3 ⟨z, H3, I3, pu, q3⟩ => ?_)))
  rw [evalPart_none]
  refine wpAny_pure ?_
  obtain ⟨l, b, xs, ys, i, c, rfl, rfl, rfl, rfl, hx, hy, ne, hi0, hic, hil, hz, q⟩ := q3
  cases r
  cases r1
  obtain ⟨i', rfl⟩ := Int.eq_ofNat_of_zero_le hi0
  obtain ⟨c', rfl⟩ := Int.eq_ofNat_of_zero_le (Int.le_trans hi0 hic)
  have I4 : Inv X pins σ H3 { s3 with heap := s3.heap.push { cls := .type "slice", data := .fields #[vl, vu, .none] } } := I3.kept (t' := s3.toks) fun b ob q => Heap.get?_push_of_some _ q
  obtain ⟨z1, its, n, rv, hl1, e⟩ := I4.lstM hx
  obtain ⟨z2, its2, n2, rv2, hl2, e2⟩ := I4.lstM hy
  refine wpAny_bind (wpAny_standAt (wpAny_bind (wpAny_holding (setSlice e e2 ne (Heap.IsSliceOf.new ..) pl pu (by rw [List.size_toArray]; omega) (by omega) (by rw [List.size_toArray, List.size_toArray]; omega) ?_))))
  refine wpAny_release ⟨σ, _, I4.lset (its' := its.take i' ++ its2 ++ its.drop (min c' its.length)) (t' := s3.toks) hx e ?_ (Vals.append (Vals.append (rv.take _) rv2) (rv.drop _)) ?_, ?_⟩
  · have e9 : min c' its.toArray.size = min c' its.length := by rw [List.size_toArray]
    show its.toArray.extract 0 i' ++ its2.toArray ++ its.toArray.extract (min c' its.toArray.size) its.toArray.size = _
    rw [e9]
    exact splice_eq its its2 i' (min c' its.length)
  · rw [List.length_append, List.length_append, List.length_take, List.length_drop]
    omega
  · rw [hl1] at q
    simpa using q
def gSlc (mo : FE) (lo hi : FO) : FG := fun v sl st => match mo sl st with
  | some (.ok (.ref l) st1) => match lo sl st1 with
    | some (.ok (some i) st2) => match hi sl st2 with
      | some (.ok (some c) st3) => match v with
        | .ref b => match st3[l]?, st3[b]? with
          | some (.lst xs), some (.lst ys) => if l ≠ b ∧ 0 ≤ i ∧ i ≤ c ∧ i ≤ xs.length ∧ xs.length + ys.length ≤ LINE then some (sl, st3.set l (.lst (xs.take i.toNat ++ ys ++ xs.drop (min c.toNat xs.length)))) else none
          | _, _ => none
        | _ => none
      | _ => none
    | _ => none
  | _ => none
theorem sg_slc {o : Expr} {lo hi : Option Expr} {mo : FE} {ml mh : FO} {p2 : Pos} (C : Ctx W k X Ew) (ho : SE W X Ew o mo) (hl : SO W X Ew lo ml) (hh : SO W X Ew hi mh)
    (ha : ∀ v, assign (.Subscript o (.Slice lo hi none p2) pos) X.env v = (do let ov ← holding [v] (eval o X.env); let iv ← holding [v, ov] (eval (.Slice lo hi none p2) X.env); standAt pos; holding [v, ov, iv] (setItem ov iv v); release [iv, v, ov] []) := by intro _; rfl) : SG W X (.Subscript o (.Slice lo hi none p2) pos) (gSlc mo ml mh) :=
  imG (pg_slc ho hl hh ha) fun v σ H Q ⟨ι, sl, st, x, sl', st', hs, hr, hx, hm, hq⟩ => by
    unfold gSlc at hm
    split at hm
    case h_2 => cases hm
    rename_i l st1 h1
    refine ⟨ι, sl, st, _, hs, hr, h1, fun ι1 H1 vo e1 r1 ro => ?_⟩
    split at hm
    case h_2 => cases hm
    rename_i i st2 h2
    refine ⟨ι1, sl, st1, _, hs.mono e1, r1, h2, fun ι2 H2 vi e2 r2 ri => ?_⟩
    subst ri
    split at hm
    case h_2 => cases hm
    rename_i c st3 h3
    refine ⟨ι2, sl, st2, _, (hs.mono e1).mono e2, r2, h3, fun ι3 H3 vc e3 r3 rc => ?_⟩
    subst rc
    split at hm
    case h_2 => cases hm
    rename_i b
    split at hm
    case h_2 => cases hm
    rename_i xs ys h4 h5
    split at hm
    case isFalse => cases hm
    rename_i h6
    obtain ⟨g1, g2, g3, g4, g5⟩ := h6
    cases hm
    cases ro with
    | @ref _ p h7 =>
      cases hx with
      | @ref _ q h8 =>
        have h7' := e3.pre _ _ (e2.pre _ _ h7)
        have h8' := e3.pre _ _ (e2.pre _ _ (e1.pre _ _ h8))
        obtain ⟨vs, h9, h10⟩ := r3.lst h4 h7'
        obtain ⟨ws, h11, h12⟩ := r3.lst h5 h8'
        refine ⟨p, q, vs, ws, i, c, rfl, rfl, rfl, rfl, h9, h11, fun z => g1 (r3.nd _ _ p h7' (z ▸ h8')), g2, g3, by rw [← h10.len]; exact g4, by rw [← h10.len, ← h12.len]; exact sz_of g5, ?_⟩
        rw [← h10.len]
        exact hq ι3 _ σ (((e1.trans e2).trans e3).trans (Ext.put r3 h7' h4)) (r3.put h7' h4 (show RO W ι3 H3 (.lst (xs.take i.toNat ++ ys ++ xs.drop (min c.toNat xs.length))) (.lst (vs.take i.toNat ++ ws ++ vs.drop (min c.toNat xs.length))) from ((h10.take _).app h12).app (h10.drop _))) ((((hs.mono e1).mono e2).mono e3).mono (Ext.put r3 h7' h4))
end
end FL
/-! FL8: a law's end: what its def is to answer; the head by facts. -/
namespace FL
open PySem PySem.Spec PyProof.Rows L2
def spLaw (K : PySem.W.Frag) : Sp := fun vs H Q _ => ∃ (a : Addr) (ns : List Int), vs = [.ref a] ∧ SqZ K H a (ns.map V.int) ∧ ns.length ≤ 63 ∧ ∀ H', Q (.bl true) H'
theorem sp_law {W : Wd} {F : FF} (hF : ∀ ns : List Int, ns.length ≤ 63 → ∃ st', F [.scr ns] [] = some (.ok (.bl true) st')) {vs : List V} {H : Hp} {Q : VK} {E : XK} (h : spLaw W.K vs H Q E) : spOf W F vs H Q E := by
  obtain ⟨a, ns, rfl, hS, hl, hq⟩ := h
  obtain ⟨st', h1⟩ := hF ns hl
  refine ⟨[], [], [.scr ns], _, .cons (.scr hS) .nil, ⟨rfl, fun i j a h => by simp at h, fun i a o h => by simp at h⟩, h1, ?_⟩
  intro ι' H' b _ _ hb
  cases hb
  exact hq H'
theorem sqZ_of {K : PySem.W.Frag} {H : Hp} {a : Addr} {xs : List V} (hO : Only H) (hS : SqL K H a xs) : SqZ K H a xs := by
  rcases hS with (h | ⟨o, h⟩) | h
  · rcases hO a with e | ⟨o, ys, e⟩ <;> rw [e] at h <;> cases h
  · exact .inl ⟨o, h⟩
  · exact .inr fun H0 => .inr h
theorem end_of {l : PySem.W.OpenLaw} {k : Nat} {q : Program} {loose : List Str} {XP : (Str → Option Value) → Heap → Prop} {YP : World → Heap → Prop} {d : DefRec} (hn : l.most = some 63) (hdf : d.params.defaults = []) (hr : Room k callerA)
    (F : ∀ (w : World) (mg : Str → Option Value) (fa : Addr) (h : Heap), YP w h → h.Ns mainGlobals mg → mg d.name = some (.ref fa) → ∃ (K : PySem.W.Frag) (fd : FuncData), K.In h ∧ (∀ (s : Shared) (u : Value), BindsTo s fd ⟨[u], []⟩ [("script", u)]) ∧
      ∀ base : Heap, K.In base → base.Ns mainGlobals mg → FnOk l.prog w K mg base (L2.CX l.prog w) k fa fd ["script"] (spLaw K)) : PySem.W.WalkO q loose XP YP l.row.toRowW d [] (fun f vs => PySem.call f vs) :=
  Att.attach_call hn hdf fun w s₀ s₁ mg mb fa o pm cd doc a vs ns G Y ho hd hcd hmg hobj hints hlen hg => by
    obtain ⟨K, fd, h1, h2, h3⟩ := F w mg fa _ Y G.T.g hmg
    have h4 : ns.length ≤ sizeLine := Nat.le_trans hlen (by decide)
    exact law_call h1 G.T.g G.T.b G.T.builtins G.T.nolimit hg hobj hints h4 hr h3 h2 (fun H hO hS => ⟨a, ns, rfl, sqZ_of hO hS, hlen, fun _ => rfl⟩) fun H e s' ⟨_, _, _, _, _, _, _, _, _, _, _, _, z⟩ => z
end FL
/-! FL9: sorted pairs, the greatest of a list, zip, what is never reached. -/
namespace FL
open PySem PySem.Spec PyProof.Rows L2
section
variable {W : Wd} {k : Nat} {X : Cx} {Ew : WX} {ι ι' : List Addr} {H H' : Hp} {st : Sto} {a b e : Expr} {es : List Expr} {ma mb me : FE} {mt mu : FT} {mas : FA} {pos : Pos} {tg : Expr}
/-! ### sorted(pairs) -/
def prOf : Val → Option (Int × Int)
  | .tup [.int i, .int j] => some (i, j)
  | _ => none
def ofPr (p : Int × Int) : Val := .tup [.int p.1, .int p.2]
def prLe (p q : Int × Int) : Bool := decide (p.1 < q.1 ∨ p.1 = q.1 ∧ p.2 ≤ q.2)
def srtP (l : List (Int × Int)) : List (Int × Int) := l.mergeSort prLe
theorem mapO_pr : ∀ {xs : List Val} {ps : List (Int × Int)}, mapO prOf xs = some ps → xs = ps.map ofPr
  | [], _, h => by cases h; rfl
  | x :: xs, ps, h => by
    unfold mapO at h
    cases h1 : prOf x with
    | none => rw [h1] at h; cases h
    | some p =>
      rw [h1] at h
      cases h2 : mapO prOf xs with
      | none => rw [h2] at h; cases h
      | some qs =>
        rw [h2] at h
        cases h
        rw [mapO_pr h2]
        have : x = ofPr p := by
          unfold prOf at h1
          split at h1
          · cases h1
            rfl
          · cases h1
        rw [this]
        rfl
def fSortP : ON := oneR fun p st => match st[p]? with
  | some (.lst xs) => (mapO prOf xs).map fun ps => (.ref st.length, st ++ [.lst ((srtP ps).map ofPr)])
  | _ => none
theorem RVs.permP {K : PySem.W.Frag} : ∀ {xs : List Val} {vs ws : List V}, ws.Perm vs → RVs K ι H xs vs → ∃ ys : List Val, ys.Perm xs ∧ RVs K ι H ys ws := by
  intro xs vs ws h
  induction h generalizing xs with
  | nil => intro r; exact ⟨xs, .refl _, r⟩
  | cons x _ ih =>
    intro r
    cases r with
    | cons a b =>
      obtain ⟨ys, h1, h2⟩ := ih b
      exact ⟨_ :: ys, h1.cons _, .cons a h2⟩
  | swap x y l =>
    intro r
    cases r with
    | cons a b =>
      cases b with
      | cons c d => exact ⟨_, .swap _ _ _, .cons c (.cons a d)⟩
  | trans _ _ ih1 ih2 =>
    intro r
    obtain ⟨ys, h1, h2⟩ := ih2 r
    obtain ⟨zs, h3, h4⟩ := ih1 h2
    exact ⟨zs, h3.trans h1, h4⟩
theorem RVs.pairs : ∀ {xs : List Val} {vs : List V} {R : Val → Val → Prop} {S : V → V → Prop}, RVs W.K ι H xs vs → vs.Pairwise S → (∀ x ∈ xs, ∀ y ∈ xs, ∀ u v, RV W.K ι H x u → RV W.K ι H y v → S u v → R x y) → xs.Pairwise R
  | _, _, _, _, .nil, _, _ => .nil
  | x :: xs, v :: vs, R, S, .cons a b, h, f => by
    obtain ⟨h1, h2⟩ := List.pairwise_cons.mp h
    refine List.pairwise_cons.mpr ⟨fun y hy => ?_, RVs.pairs b h2 fun x hx y hy => f x (List.mem_cons_of_mem _ hx) y (List.mem_cons_of_mem _ hy)⟩
    obtain ⟨i, hi⟩ := List.mem_iff_getElem?.mp hy
    obtain ⟨u, h3, h4⟩ := b.at i hi
    exact f x List.mem_cons_self y (List.mem_cons_of_mem _ hy) v u a h4 (h1 u (List.mem_of_getElem? h3))
theorem prLe_iff {p q : Int × Int} : prLe p q = true ↔ (p.1 < q.1 ∨ p.1 = q.1 ∧ p.2 ≤ q.2) := by
  unfold prLe
  rw [decide_eq_true_iff]
theorem srtP_perm (l : List (Int × Int)) : (srtP l).Perm l := List.mergeSort_perm _ _
theorem srtP_sorted (l : List (Int × Int)) : (srtP l).Pairwise fun p q => prLe p q = true :=
  List.pairwise_mergeSort (le := prLe) (fun a b c h1 h2 => by
    have h1 := prLe_iff.mp h1
    have h2 := prLe_iff.mp h2
    exact prLe_iff.mpr (by omega)) (fun a b => by
    cases h : prLe a b with
    | true => rfl
    | false =>
      have : ¬ (prLe a b = true) := by rw [h]; decide
      rw [prLe_iff] at this
      show prLe b a = true
      exact prLe_iff.mpr (by omega)) l
theorem srtP_uniq {l m : List (Int × Int)} (h1 : m.Perm l) (h2 : m.Pairwise fun p q => prLe p q = true) : m = srtP l :=
  List.Perm.eq_of_pairwise (le := fun p q => prLe p q = true) (fun a b _ _ x y => by
    have x := prLe_iff.mp x
    have y := prLe_iff.mp y
    exact Prod.ext (by omega) (by omega)) h2 (srtP_sorted l) (h1.trans (srtP_perm l).symm)
open Classical in
noncomputable def keyV (K : PySem.W.Frag) (H : Hp) (v : V) : Int × Int := if h : ∃ p : Int × Int, ∃ t, v = .ref t ∧ SqT K H t [.int p.1, .int p.2] then h.choose else (0, 0)
theorem keyV_eq {pins : List (Addr × Obj)} {σ : L2.St} {s : Shared} {v : V} {p : Int × Int} (I : Inv X pins σ H s) (eK : X.K = W.K) (r : RV W.K ι H (ofPr p) v) : keyV W.K H v = p ∧ ∃ t, v = .ref t ∧ SqT W.K H t [.int p.1, .int p.2] := by
  unfold ofPr at r
  cases r with
  | @tup t vs xs sx rx =>
    rw [RVs.pair rx] at sx
    have h : ∃ p : Int × Int, ∃ t', V.ref t = .ref t' ∧ SqT W.K H t' [.int p.1, .int p.2] := ⟨p, t, rfl, sx⟩
    refine ⟨?_, t, rfl, sx⟩
    unfold keyV
    rw [dif_pos h]
    obtain ⟨t', e, s'⟩ := h.choose_spec
    cases e
    generalize h.choose = q at s' ⊢
    rw [← eK] at s' sx
    have := I.tuple_inj s' sx
    simp at this
    exact Prod.ext this.1 this.2
theorem call_sortP (C : Ctx W k X Ew) : CallR X (.builtin "sorted") (rc W fSortP) := by
  intro pins s σ H zs us Q I rz ⟨ι, st, as, v, st', rx, hr, hf, hq⟩
  obtain ⟨n, p, rfl, rfl, h0, h1⟩ := one_ref rx hf
  split at h1
  case h_2 => cases h1
  rename_i xs h5
  obtain ⟨ps, h2, h3⟩ := Option.map_eq_some_iff.mp h1
  cases h3
  have hx := mapO_pr h2
  subst hx
  obtain ⟨vs, h6, h7⟩ := hr.lst h5 h0
  obtain ⟨its, rv, hl, hz⟩ := I.list (SqL.of h6 (K := X.K))
  obtain ⟨u, rfl, ru⟩ := vals1 rz
  obtain rfl : u = Value.ref p := ru
  have key : ∀ v ∈ vs, ∃ q, q ∈ ps ∧ keyV W.K H v = q ∧ RV W.K ι H (ofPr q) v ∧ ∃ t, v = .ref t ∧ SqT W.K H t [.int q.1, .int q.2] := fun v hv => by
    obtain ⟨i, hi⟩ := List.mem_iff_getElem?.mp hv
    have hlt : i < ps.length := by
      have := (List.getElem?_eq_some_iff.mp hi).1
      rw [← h7.len, List.length_map] at this
      exact this
    obtain ⟨w, hw, rw'⟩ := h7.at i (x := ofPr ps[i]) (by rw [List.getElem?_map, List.getElem?_eq_getElem hlt]; rfl)
    rw [hi] at hw
    cases hw
    exact ⟨ps[i], List.getElem_mem hlt, (keyV_eq I C.eK rw').1, rw', (keyV_eq I C.eK rw').2⟩
  obtain ⟨e1, e2⟩ := refs_back rv fun x m => by
    obtain ⟨_, _, _, _, t, e, _⟩ := key x m
    exact ⟨t, e⟩
  refine SrtO.sorted_pairsO (k := fun u => keyV W.K H (backV u)) hl.isList (by rw [← rv.length]; exact hz) (fun v hv => ?_) fun h' d out hs1 hs2 kp hd hn => ?_
  · obtain ⟨t, rfl⟩ := e2 v hv
    have hm : V.ref t ∈ vs := by rw [e1]; exact List.mem_map.mpr ⟨_, hv, rfl⟩
    obtain ⟨q, _, hk, _, t', e, ht⟩ := key _ hm
    cases e
    rw [← C.eK] at ht
    obtain ⟨its2, r2, ⟨o, ho, hc, n2, hd⟩, _⟩ := I.tuple ht
    obtain ⟨u1, u2, rfl, ri, rj⟩ := vals2 r2
    obtain ⟨t1, rfl⟩ := ri
    obtain ⟨t2, rfl⟩ := rj
    show ∃ _, _
    have hk2 : keyV W.K H (backV (Value.ref t)) = q := hk
    rw [hk2]
    exact ⟨t, o, t1, t2, n2, rfl, ho, hc, hd⟩
  · have h3 : ∀ u ∈ out, ∃ a, u = Value.ref a := fun u hu => e2 u (hs2.perm.mem_iff.mp hu)
    obtain ⟨n2, hn2⟩ := hn
    have hp : (out.map backV).Perm vs := by
      rw [e1]
      exact hs2.perm.map backV
    obtain ⟨ys, hy1, hy2⟩ := h7.permP hp
    -- the new list's items: pairs, in order
    have hys : ∃ qs : List (Int × Int), ys = qs.map ofPr ∧ qs.Perm ps := by
      have : ∀ (ys : List Val) (ps : List (Int × Int)), ys.Perm (ps.map ofPr) → ∃ qs : List (Int × Int), ys = qs.map ofPr ∧ qs.Perm ps := fun ys ps h => by
        have hinj : ∀ p q, ofPr p = ofPr q → p = q := fun p q e => by
          unfold ofPr at e
          simp at e
          exact Prod.ext e.1 e.2
        have h9 : ∀ y ∈ ys, ∃ q, y = ofPr q := fun y hy => by
          obtain ⟨q, _, e⟩ := List.mem_map.mp (h.mem_iff.mp hy)
          exact ⟨q, e.symm⟩
        have h8 : ∃ qs : List (Int × Int), ys = qs.map ofPr := by
          clear h
          induction ys with
          | nil => exact ⟨[], rfl⟩
          | cons y ys ih =>
            obtain ⟨q, rfl⟩ := h9 y List.mem_cons_self
            obtain ⟨qs, rfl⟩ := ih fun z hz => h9 z (List.mem_cons_of_mem _ hz)
            exact ⟨q :: qs, rfl⟩
        obtain ⟨qs, rfl⟩ := h8
        refine ⟨qs, rfl, ?_⟩
        have h7 := h.map fun v => (prOf v).getD (0, 0)
        rw [List.map_map, List.map_map] at h7
        have e : ((fun v => (prOf v).getD (0, 0)) ∘ ofPr) = id := rfl
        rw [e, List.map_id, List.map_id] at h7
        exact h7
      exact this ys ps hy1
    obtain ⟨qs, rfl, hq2⟩ := hys
    have hso : qs.Pairwise fun p q => prLe p q = true := by
      have h8 : (qs.map ofPr).Pairwise fun x y => ∀ p q, x = ofPr p → y = ofPr q → prLe p q = true := by
        refine RVs.pairs hy2 (SrtO.srtd_map (lt := ltP (keyV W.K H)) (f := backV) hs1) fun x hx y hy u v ru' rv' hs p q e1 e2 => ?_
        subst e1 e2
        have k1 := (keyV_eq I C.eK ru').1
        have k2 := (keyV_eq I C.eK rv').1
        have h9 : SrtO.lexB (keyV W.K H v) (keyV W.K H u) = false := hs
        rw [k1, k2] at h9
        have := SrtO.lexB_no.mp h9
        exact prLe_iff.mpr (by omega)
      exact (List.pairwise_map.mp h8).imp fun h => h _ _ rfl rfl
    have hfin := srtP_uniq hq2 hso
    subst hfin
    refine ⟨.ref d, upd H d (.lst (out.map backV)), I.laid (t' := s.toks) kp hd ⟨?_, out, n2, vals_back h3, hn2⟩, rfl, ?_⟩
    · rw [hp.length_eq]
      exact hz
    · have hd0 := I.hok.fresh hd
      exact hq.new hr (show RO W ι H (.lst _) (.lst _) from hy2) d hd0
/-! ### max(list) -/
def maxI : List Int → Option Int
  | [] => none
  | x :: xs => some (xs.foldl max x)
def fMaxL : ON := oneR fun p st => match st[p]? with
  | some (.lst xs) => (mapO (fun v => match v with | .int i => some i | _ => none) xs).bind fun ns => (maxI ns).map fun m => (.int m, st)
  | _ => none
theorem mapO_int : ∀ {xs : List Val} {ps : List Int}, mapO (fun v => match v with | .int i => some i | _ => none) xs = some ps → xs = ps.map .int
  | [], _, h => by cases h; rfl
  | x :: xs, ps, h => by
    unfold mapO at h
    cases x with
    | int i =>
      cases h2 : mapO (fun v => match v with | .int i => some i | _ => none) xs with
      | none => rw [h2] at h; cases h
      | some qs =>
        rw [h2] at h
        cases h
        rw [mapO_int h2]
        rfl
    | _ => cases h
theorem foldl_max : ∀ (xs : List Int) (x : Int), xs.foldl max x ∈ x :: xs ∧ ∀ y ∈ x :: xs, y ≤ xs.foldl max x
  | [], x => ⟨List.mem_cons_self, fun y hy => by rw [List.mem_singleton.mp hy]; exact Int.le_refl _⟩
  | z :: xs, x => by
    obtain ⟨h1, h2⟩ := foldl_max xs (max x z)
    refine ⟨?_, fun y hy => ?_⟩
    · rw [List.foldl_cons]
      rcases List.mem_cons.mp h1 with e | e
      · rw [e]
        by_cases h : x ≤ z
        · rw [Int.max_eq_right h]
          exact List.mem_cons_of_mem _ List.mem_cons_self
        · rw [Int.max_eq_left (by omega)]
          exact List.mem_cons_self
      · exact List.mem_cons_of_mem _ (List.mem_cons_of_mem _ e)
    · rw [List.foldl_cons]
      have h3 := h2 (max x z) List.mem_cons_self
      rcases List.mem_cons.mp hy with e | e
      · rw [e]
        omega
      · rcases List.mem_cons.mp e with e | e
        · rw [e]
          omega
        · exact h2 y (List.mem_cons_of_mem _ e)
theorem call_maxLF (C : Ctx W k X Ew) (hc : X.calm = true) : CallR X (.builtin "max") (rc W fMaxL) := callBy fun xs H Q ⟨ι, st, as, v, st', rx, hr, hf, hq⟩ => by
  obtain ⟨i, p, rfl, rfl, h0, h1⟩ := one_ref rx hf
  split at h1
  · rename_i ys h5
    obtain ⟨ns, h2, h3⟩ := Option.bind_eq_some_iff.mp h1
    obtain ⟨m, h4, h6⟩ := Option.map_eq_some_iff.mp h3
    cases h6
    have := mapO_int h2
    subst this
    obtain ⟨vs, h6, h7⟩ := hr.lst h5 h0
    rw [RVs.ofInts ns h7] at h6
    cases ns with
    | nil => cases h4
    | cons n ns =>
      cases h4
      refine ⟨_, cr_max hc, p, n :: ns, rfl, SqL.of h6, by simp, fun m hm hle => ?_⟩
      obtain ⟨g1, g2⟩ := foldl_max ns n
      have e : m = ns.foldl max n := Int.le_antisymm (g2 m hm) (hle _ g1)
      rw [e]
      exact hq.here hr (.int _)
  · cases h1
/-! ### zip of two lists -/
def zipV (xs ys : List Val) : List Val := (xs.zip ys).map fun p => .tup [p.1, p.2]
theorem ok_zip {i j : Nat} {p q : Addr} {xs ys : List Val} (h0 : ι[i]? = some p) (h1 : ι[j]? = some q) : ItOk W ι H ⟨zipV xs ys, .two i xs j ys⟩ (Itz W.K p q) := fun ι' H' st n e r lv => by
  obtain ⟨l1, l2⟩ : st[i]? = some (.lst xs) ∧ st[j]? = some (.lst ys) := lv
  obtain ⟨vs, a1, a2⟩ := r.lst l1 (e.pre _ _ h0)
  obtain ⟨ws, b1, b2⟩ := r.lst l2 (e.pre _ _ h1)
  have len : (zipV xs ys).length = min xs.length ys.length := by
    unfold zipV
    rw [List.length_map, List.length_zip]
  refine ⟨fun x hx => ?_, fun hi => ⟨vs, ws, SqL.of a1, SqL.of b1, by
    have hi' : (zipV xs ys).length ≤ n := hi
    rw [len, a2.len, b2.len] at hi'
    omega⟩⟩
  have hx' : (zipV xs ys)[n]? = some x := hx
  unfold zipV at hx'
  rw [List.getElem?_map] at hx'
  obtain ⟨⟨y, z⟩, hz, rfl⟩ := Option.map_eq_some_iff.mp hx'
  rw [List.getElem?_zip_eq_some] at hz
  obtain ⟨v, h3, h4⟩ := a2.at n hz.1
  obtain ⟨w, h5, h6⟩ := b2.at n hz.2
  refine ⟨⟨vs, ws, v, w, SqL.of a1, SqL.of b1, h3, h5⟩, fun u H2 hy => ?_⟩
  obtain ⟨T, v', w', rfl, nT, rfl, f1, f2⟩ := hy
  have e1 := f1 vs (SqL.of a1)
  have e2 := f2 ws (SqL.of b1)
  rw [h3] at e1
  rw [h5] at e2
  cases e1
  cases e2
  have ex : Ext ι' H' ι' (upd H' T (.tup [v, w])) := Ext.newT nT
  exact ⟨ex, r.newT nT, .tup (SqT.of upd_same) (.cons (h4.mono ex) (.cons (h6.mono ex) .nil))⟩
def fZip (m : FA) : FI := bnd m fun vs => fun _ st => match vs with
  | [.ref p, .ref q] => (match st[p]?, st[q]? with
    | some (.lst xs), some (.lst ys) => some (.ok ⟨zipV xs ys, .two p xs q ys⟩ st)
    | _, _ => none)
  | _ => none
theorem si_zip {elts : List Expr} {kk : Nat} {p tpos : Pos} (C : Ctx W k X Ew) (hm : W.mg "zip" = none) (ha : SA W X Ew [a, b] mas) (hg : Gl X "zip" := by rfl)
    (hs : starEach [a, b] X.env = (false, eval a X.env) :: starEach [b] X.env := by rfl) (hpl : (backTo pos (starEach [b] X.env)).any (·.1) = false := by rfl) : SI W X Ew (.Tuple elts kk tpos) (.Call (.Name "zip" p) [a, b] [] pos) (fZip mas) :=
  imI (pi_zip hg (by rw [C.em]; exact hm) ha hs hpl) fun σ H Q ⟨ι, sl, st, r, hs, hr, hm, hq⟩ => run hs hr hm hq fun x st1 ι1 H1 vx e1 s1 r1 rx hm1 hq1 => by
    split at hm1
    · rename_i i j
      split at hm1
      · rename_i xs ys h5 h6
        cases hm1
        cases rx with
        | cons r0 rr =>
          cases rr with
          | cons r2 r3 =>
            cases r3
            cases r0 with
            | @ref _ p h0 =>
              cases r2 with
              | @ref _ q h1 =>
                obtain ⟨vs, h7, _⟩ := r1.lst h5 h0
                obtain ⟨ws, h8, _⟩ := r1.lst h6 h1
                rw [C.eK]
                exact ⟨p, q, vs, ws, rfl, SqL.of h7, SqL.of h8, hq1 ι1 H1 _ (Ext.refl _ _) r1 (ok_zip h0 h1)⟩
      · cases hm1
    · cases hm1
/-! ### a, b = x, y -/
def fPar (i j : Nat) (m : FA) : FS := bndS m fun vs => fun sl st => match vs with
  | [v, w] => some (.nx ((sl.set i (some v)).set j (some w)) st)
  | _ => none
def fPar3 (i j l : Nat) (m : FA) : FS := bndS m fun vs => fun sl st => match vs with
  | [u, v, w] => some (.nx (((sl.set i (some u)).set j (some v)).set l (some w)) st)
  | _ => none
theorem ss_par (i j : Nat) {x y : Str} {px py pt pt2 : Pos} {kt k2} (C : Ctx W k X Ew) (ha : SA W X Ew [a, b] mas) (hi : X.N[i]? = some x := by rfl) (hj : X.N[j]? = some y := by rfl) (hij : i ≠ j := by decide)
    (hx : X.env.scope.names.lookup x = some .local := by rfl) (hy : X.env.scope.names.lookup y = some .local := by rfl)
    (hw : swappedStores [.Tuple [.Name x px, .Name y py] kt pt] (.Tuple [a, b] k2 pt2) X.env = pure (some [x, y]) := by rfl)
    (hs : swapsWithSole [.Tuple [.Name x px, .Name y py] kt pt] (.Tuple [a, b] k2 pt2) pos.line X.env = pure false := by rfl) : SS W X Ew (.Assign [.Tuple [.Name x px, .Name y py] kt pt] (.Tuple [a, b] k2 pt2) pos) (fPar i j mas) :=
  imS (ps_par C.calm C.nd hi hj hij hx hy ha hw hs) fun D σ H ⟨ι, sl, st, r, hs, hr, hm, hq⟩ => runS hs hr hm hq fun x st1 ι1 H1 vx e1 s1 r1 rx hm1 hq1 => by
    split at hm1
    · cases rx with
      | cons r0 rr =>
        cases rr with
        | cons r2 r3 =>
          cases r3
          exact ⟨_, _, rfl, nx_of ((s1.set r0 i).set r2 j) r1 hm1 hq1⟩
    · cases hm1
theorem ss_par3 (i j l : Nat) {x y z : Str} {c : Expr} {px py pz pt pt2 : Pos} {kt k2} (C : Ctx W k X Ew) (ha : SA W X Ew [a, b, c] mas) (hi : X.N[i]? = some x := by rfl) (hj : X.N[j]? = some y := by rfl) (hl : X.N[l]? = some z := by rfl) (hij : i ≠ j := by decide) (hil : i ≠ l := by decide) (hjl : j ≠ l := by decide)
    (hx : X.env.scope.names.lookup x = some .local := by rfl) (hy : X.env.scope.names.lookup y = some .local := by rfl) (hz : X.env.scope.names.lookup z = some .local := by rfl)
    (hw : swappedStores [.Tuple [.Name x px, .Name y py, .Name z pz] kt pt] (.Tuple [a, b, c] k2 pt2) X.env = pure (some [x, y, z]) := by rfl)
    (hs : swapsWithSole [.Tuple [.Name x px, .Name y py, .Name z pz] kt pt] (.Tuple [a, b, c] k2 pt2) pos.line X.env = pure false := by rfl) : SS W X Ew (.Assign [.Tuple [.Name x px, .Name y py, .Name z pz] kt pt] (.Tuple [a, b, c] k2 pt2) pos) (fPar3 i j l mas) :=
  imS (ps_par3 C.calm C.nd hi hj hl hij hil hjl hx hy hz ha hw hs) fun D σ H ⟨ι, sl, st, r, hs, hr, hm, hq⟩ => runS hs hr hm hq fun x st1 ι1 H1 vx e1 s1 r1 rx hm1 hq1 => by
    split at hm1
    · cases rx with
      | cons r0 rr =>
        cases rr with
        | cons r2 r3 =>
          cases r3 with
          | cons r4 r5 =>
            cases r5
            exact ⟨_, _, _, rfl, nx_of (((s1.set r0 i).set r2 j).set r4 l) r1 hm1 hq1⟩
    · cases hm1
/-! ### a, b = a list -/
def gUnL (g : FGs) (n : Nat) : FG := fun x sl st => match x with
  | .ref p => (match st[p]? with
    | some (.lst xs) => if xs.length = n then g xs sl st else none
    | _ => none)
  | _ => none
theorem sg_unl {g : FGs} {j n : Nat} (C : Ctx W k X Ew) (h : SGs W X es g) (h1 : (assignEach es X.env).length = n := by rfl) (h2 : List.findIdx? (fun x => x.1) (assignEach es X.env) = none := by rfl) : SG W X (.Tuple es j pos) (gUnL g n) :=
  imG (pg_lst C.calm h h1 h2) fun v σ H Q ⟨ι, sl, st, x, sl', st', hs, hr, hx, hm, hq⟩ => by
    cases hx with
    | @ref i a h0 =>
      have hm2 : (match st[i]? with | some (.lst xs) => if xs.length = n then g xs sl st else none | _ => none) = some (sl', st') := hm
      split at hm2
      · rename_i xs h5
        by_cases hl : xs.length = n
        · rw [if_pos hl] at hm2
          obtain ⟨vs, h6, h7⟩ := hr.lst h5 h0
          exact ⟨a, vs, rfl, SqL.of h6, by rw [← h7.len]; exact hl, ι, sl, st, xs, sl', st', hs, hr, h7, hm2, hq⟩
        · rw [if_neg hl] at hm2
          cases hm2
      · cases hm2
    | _ => cases hm
/-! ### what is never reached -/
def fNever : FS := fun _ _ => none
theorem ss_never {s : Stmt} : SS W X Ew s fNever := ⟨fun pins s σ H D I ⟨ι, sl, st, r, hs, hr, hm, hq⟩ => by cases hm⟩
end
end FL
/-! PL1: what a plain function comes to: a small calculus of what must hold behind it (P), and where it raises (G). -/
namespace FL
open PySem PySem.Spec PyProof.Rows L2

abbrev EP' := Nat → Sto → Prop
/-- nothing is raised -/
abbrev G0 : EP' := fun _ _ => False
def okP {α : Type} (P : α → Sto → Prop) (G : EP') : R α → Prop
  | .ok a st => P a st
  | .ex c st => G c st
/-- hides what comes behind from simp -/
inductive Lk {α : Type} (a : α) : Type where
  | mk
def wX {α : Type} (m : FX α) (sl : Sl) (st : Sto) (P : α → Sto → Prop) (G : EP') (_ : Lk P := .mk) (_ : Lk G := .mk) : Prop := ∃ r, m sl st = some r ∧ okP P G r
def wF (F : FF) (as : List Val) (st : Sto) (P : Val → Sto → Prop) (G : EP') (_ : Lk P := .mk) (_ : Lk G := .mk) : Prop := ∃ r, F as st = some r ∧ okP P G r
def wS (m : FS) (sl : Sl) (st : Sto) (P : RS → Prop) (_ : Lk P := .mk) : Prop := ∃ r, m sl st = some r ∧ P r
def wG (o : Option (Val × Sto)) (P : Val → Sto → Prop) (_ : Lk P := .mk) : Prop := ∃ v st', o = some (v, st') ∧ P v st'
def finP (P : Val → Sto → Prop) (G : EP') : RS → Prop
  | .nx _ st => P .non st
  | .rt v st => P v st
  | .ex c _ st => G c st
  | _ => False
def sqP (n : FS) (P : RS → Prop) : RS → Prop
  | .nx sl st => wS n sl st P
  | r => P r
theorem okP.mono {α : Type} {P Q : α → Sto → Prop} {G G' : EP'} {r : R α} (h : okP P G r) (i : ∀ v st', P v st' → Q v st') (j : ∀ c st', G c st' → G' c st') : okP Q G' r := by
  cases r with
  | ok a st => exact i _ _ h
  | ex c st => exact j _ _ h
theorem wF.mono {F : FF} {as : List Val} {st : Sto} {P Q : Val → Sto → Prop} {G : EP'} (h : wF F as st P G) (i : ∀ v st', P v st' → Q v st') : wF F as st Q G :=
  let ⟨r, h1, h2⟩ := h
  ⟨r, h1, h2.mono i fun _ _ h => h⟩
theorem wF.monoE {F : FF} {as : List Val} {st : Sto} {P Q : Val → Sto → Prop} {G G' : EP'} (h : wF F as st P G) (i : ∀ v st', P v st' → Q v st') (j : ∀ c st', G c st' → G' c st') : wF F as st Q G' :=
  let ⟨r, h1, h2⟩ := h
  ⟨r, h1, h2.mono i j⟩
theorem wF.go {F : FF} {as : List Val} {st : Sto} {P Q : Val → Sto → Prop} {G : EP'} (h : wF F as st P G0) (i : ∀ v st', P v st' → Q v st') : wF F as st Q G := h.monoE i fun _ _ z => z.elim
theorem wX.mono {α : Type} {m : FX α} {sl : Sl} {st : Sto} {P Q : α → Sto → Prop} {G : EP'} (h : wX m sl st P G) (i : ∀ v st', P v st' → Q v st') : wX m sl st Q G :=
  let ⟨r, h1, h2⟩ := h
  ⟨r, h1, h2.mono i fun _ _ h => h⟩
theorem wS.mono {m : FS} {sl : Sl} {st : Sto} {P Q : RS → Prop} (h : wS m sl st P) (i : ∀ r, P r → Q r) : wS m sl st Q :=
  let ⟨r, h1, h2⟩ := h
  ⟨r, h1, i _ h2⟩
theorem wX_congr {α : Type} {m : FX α} {sl : Sl} {st : Sto} {P Q : α → Sto → Prop} {G : EP'} (i : ∀ v st', P v st' ↔ Q v st') : wX m sl st P G ↔ wX m sl st Q G := ⟨fun h => h.mono fun v st' => (i v st').mp, fun h => h.mono fun v st' => (i v st').mpr⟩
section
variable {sl : Sl} {st : Sto} {ma mb mc me : FE} {mt mu : FT} {mas : FA} {m n : FS} {v : Val} {i c : Nat} {F : FF}
variable {P : Val → Sto → Prop} {PB : Bool → Sto → Prop} {PA : List Val → Sto → Prop} {PO : Option Int → Sto → Prop} {PS : RS → Prop} {G : EP'}
@[simp] theorem finP_rt : finP P G (.rt v st) = P v st := rfl
@[simp] theorem finP_nx : finP P G (.nx sl st) = P .non st := rfl
@[simp] theorem finP_ex : finP P G (.ex c sl st) = G c st := rfl
@[simp] theorem sqP_nx : sqP n PS (.nx sl st) = wS n sl st PS := rfl
@[simp] theorem sqP_rt : sqP n PS (.rt v st) = PS (.rt v st) := rfl
@[simp] theorem sqP_bk : sqP n PS (.bk sl st) = PS (.bk sl st) := rfl
@[simp] theorem sqP_ct : sqP n PS (.ct sl st) = PS (.ct sl st) := rfl
@[simp] theorem sqP_ex : sqP n PS (.ex c sl st) = PS (.ex c sl st) := rfl
@[simp] theorem wG_some {p : Val × Sto} : wG (some p) P ↔ P p.1 p.2 := ⟨fun ⟨v, st', h, q⟩ => by cases h; exact q, fun h => ⟨p.1, p.2, rfl, h⟩⟩
@[simp] theorem wG_none : wG none P ↔ False := ⟨fun ⟨_, _, h, _⟩ => (nomatch h), False.elim⟩
@[simp] theorem wG_if {c : Prop} [Decidable c] {o : Option (Val × Sto)} : wG (if c then o else none) P ↔ c ∧ wG o P := by
  by_cases h : c
  · simp [h]
  · simp [h]
theorem wX_bnd {α β : Type} {a : FX α} {k : α → FX β} {Q : β → Sto → Prop} : wX (bnd a k) sl st Q G ↔ wX a sl st (fun x st' => wX (k x) sl st' Q G) G := by
  unfold wX bnd
  constructor
  · rintro ⟨r, h, q⟩
    cases h1 : a sl st with
    | none => rw [h1] at h; cases h
    | some r1 =>
      rw [h1] at h
      cases r1 with
      | ok x st1 => exact ⟨_, rfl, r, h, q⟩
      | ex c st1 => cases h; exact ⟨_, rfl, q⟩
  · rintro ⟨r1, h, q⟩
    rw [h]
    cases r1 with
    | ok x st1 => exact q
    | ex c st1 => exact ⟨_, rfl, q⟩
theorem wS_bnd {α : Type} {a : FX α} {k : α → FS} : wS (bndS a k) sl st PS ↔ wX a sl st (fun x st' => wS (k x) sl st' PS) (fun c st' => PS (.ex c sl st')) := by
  unfold wX wS bndS
  constructor
  · rintro ⟨r, h, q⟩
    cases h1 : a sl st with
    | none => rw [h1] at h; cases h
    | some r1 =>
      rw [h1] at h
      cases r1 with
      | ok x st1 => exact ⟨_, rfl, r, h, q⟩
      | ex c st1 => cases h; exact ⟨_, rfl, q⟩
  · rintro ⟨r1, h, q⟩
    rw [h]
    cases r1 with
    | ok x st1 => exact q
    | ex c st1 => exact ⟨_, rfl, q⟩
@[simp ↓] theorem wX_var : wX (fVar i) sl st P G ↔ ∃ v, sl[i]? = some (some v) ∧ P v st := by
  unfold wX fVar
  constructor
  · rintro ⟨r, h, q⟩
    split at h
    · rename_i w hw
      cases h
      exact ⟨w, hw, q⟩
    · cases h
  · rintro ⟨v, h, q⟩
    exact ⟨.ok v st, by rw [h], q⟩
theorem wX_ret {α : Type} {a : α} {Q : α → Sto → Prop} : wX (fun _ st => some (.ok a st)) sl st Q G ↔ Q a st := ⟨fun ⟨r, h, q⟩ => by cases h; exact q, fun h => ⟨_, rfl, h⟩⟩
theorem wX_no {α : Type} {Q : α → Sto → Prop} : wX (fun _ _ => none) sl st Q G ↔ False := ⟨fun ⟨r, h, q⟩ => (nomatch h), False.elim⟩
@[simp ↓] theorem wX_c : wX (fC v) sl st P G ↔ P v st := wX_ret
@[simp ↓] theorem wX_lft {g : Sto → Option (Val × Sto)} : wX (lft g) sl st P G ↔ wG (g st) P := by
  unfold wX lft wG
  constructor
  · rintro ⟨r, h, q⟩
    split at h
    · rename_i w st1 hw
      cases h
      exact ⟨w, st1, hw, q⟩
    · cases h
  · rintro ⟨v, st', h, q⟩
    exact ⟨.ok v st', by rw [h], q⟩
@[simp ↓] theorem wX_op {f : O2} : wX (fOp f ma mb) sl st P G ↔ wX ma sl st (fun x st1 => wX mb sl st1 (fun y st2 => wG (f x y st2) P) G) G := by
  unfold fOp
  rw [wX_bnd]
  refine wX_congr fun x st1 => ?_
  rw [wX_bnd]
  exact wX_congr fun y st2 => wX_lft
@[simp ↓] theorem wX_asB {x : Val} : wX (asB x) sl st PB G ↔ ∃ b, x = .bl b ∧ PB b st := by
  cases x with
  | bl b =>
    show wX (fun _ st => some (.ok b st)) sl st PB G ↔ _
    rw [wX_ret]
    exact ⟨fun h => ⟨b, rfl, h⟩, fun ⟨c, e, h⟩ => by cases e; exact h⟩
  | _ => exact ⟨fun ⟨_, h, _⟩ => (nomatch h), fun ⟨_, e, _⟩ => (nomatch e)⟩
@[simp ↓] theorem wX_B : wX (fB me) sl st PB G ↔ wX me sl st (fun x st' => ∃ b, x = .bl b ∧ PB b st') G := by
  unfold fB
  rw [wX_bnd]
  exact wX_congr fun x st1 => wX_asB
@[simp ↓] theorem wX_And : wX (fAnd mt mu) sl st PB G ↔ wX mt sl st (fun b st' => if b = true then wX mu sl st' PB G else PB false st') G := by
  simp only [fAnd, wX_bnd]
  refine wX_congr fun b st' => ?_
  cases b <;> simp [wX_ret]
@[simp ↓] theorem wX_Or : wX (fOr mt mu) sl st PB G ↔ wX mt sl st (fun b st' => if b = true then PB true st' else wX mu sl st' PB G) G := by
  simp only [fOr, wX_bnd]
  refine wX_congr fun b st' => ?_
  cases b <;> simp [wX_ret]
@[simp ↓] theorem wX_Not : wX (fNot mt) sl st PB G ↔ wX mt sl st (fun b st' => PB (!b) st') G := by
  unfold fNot
  rw [wX_bnd]
  exact wX_congr fun x st1 => wX_ret
@[simp ↓] theorem wX_If {α : Type} {a b : FX α} {Q : α → Sto → Prop} : wX (fIf mt a b) sl st Q G ↔ wX mt sl st (fun c st' => if c = true then wX a sl st' Q G else wX b sl st' Q G) G := by
  simp only [fIf, wX_bnd]
  refine wX_congr fun b st' => ?_
  cases b <;> simp
@[simp ↓] theorem wX_AndV : wX (fAndV ma mb) sl st P G ↔ wX ma sl st (fun x st' => ∃ b, x = .bl b ∧ if b = true then wX mb sl st' P G else P (.bl false) st') G := by
  simp only [fAndV, wX_bnd]
  refine wX_congr fun x st' => ?_
  cases x with
  | bl b => cases b <;> simp [wX_ret]
  | _ => simp [wX_no]
@[simp ↓] theorem wX_OrV : wX (fOrV ma mb) sl st P G ↔ wX ma sl st (fun x st' => ∃ b, x = .bl b ∧ if b = true then P (.bl true) st' else wX mb sl st' P G) G := by
  simp only [fOrV, wX_bnd]
  refine wX_congr fun x st' => ?_
  cases x with
  | bl b => cases b <;> simp [wX_ret]
  | _ => simp [wX_no]
@[simp ↓] theorem wX_NotV : wX (fNotV ma) sl st P G ↔ wX ma sl st (fun x st' => ∃ b, x = .bl b ∧ P (.bl (!b)) st') G := by
  simp only [fNotV, wX_bnd]
  refine wX_congr fun x st' => ?_
  cases x with
  | bl b => simp [wX_ret]
  | _ => simp [wX_no]
@[simp ↓] theorem wX_Neg : wX (fNeg ma) sl st P G ↔ wX ma sl st (fun x st' => ∃ i, x = .int i ∧ P (.int (-i)) st') G := by
  simp only [fNeg, wX_bnd]
  refine wX_congr fun x st' => ?_
  cases x with
  | int b => simp [wX_ret]
  | _ => simp [wX_no]
@[simp ↓] theorem wX_Chain {f g : O2} : wX (fChain f g ma mb mc) sl st P G ↔ wX ma sl st (fun x st1 => wX mb sl st1 (fun y st2 => wG (f x y st2) fun z st3 => ∃ b, z = .bl b ∧ if b = true then wX mc sl st3 (fun w st4 => wG (g y w st4) P) G else P (.bl false) st3) G) G := by
  unfold fChain
  rw [wX_bnd]
  refine wX_congr fun x st1 => ?_
  rw [wX_bnd]
  refine wX_congr fun y st2 => ?_
  rw [wX_bnd, wX_lft]
  unfold wG
  constructor
  · rintro ⟨z, st3, h1, h⟩
    refine ⟨z, st3, h1, ?_⟩
    cases z with
    | bl b =>
      refine ⟨b, rfl, ?_⟩
      cases b with
      | false => exact wX_ret.mp h
      | true => exact (wX_congr fun w st4 => wX_lft).mp (wX_bnd.mp h)
    | _ => exact (wX_no.mp h).elim
  · rintro ⟨z, st3, h1, b, rfl, h⟩
    refine ⟨_, st3, h1, ?_⟩
    cases b with
    | false => exact wX_ret.mpr h
    | true => exact wX_bnd.mpr ((wX_congr fun w st4 => wX_lft).mpr h)
@[simp ↓] theorem wX_nil : wX fNil sl st PA G ↔ PA [] st := wX_ret
@[simp ↓] theorem wX_cons : wX (fCons ma mas) sl st PA G ↔ wX ma sl st (fun x st1 => wX mas sl st1 (fun xs st2 => PA (x :: xs) st2) G) G := by
  unfold fCons
  rw [wX_bnd]
  refine wX_congr fun x st1 => ?_
  rw [wX_bnd]
  exact wX_congr fun y st2 => wX_ret
theorem wX_guard {α : Type} {c : Sto → Prop} [∀ st, Decidable (c st)] {a : FX α} {Q : α → Sto → Prop} : wX (fun sl st => if c st then a sl st else none) sl st Q G ↔ c st ∧ wX a sl st Q G := by
  unfold wX
  by_cases h : c st
  · simp [h]
  · simp [h]
theorem wX_ifR {α : Type} {c : Prop} [Decidable c] {v : Sto → α} {f : Sto → Sto} {Q : α → Sto → Prop} : wX (fun _ st => if c then some (R.ok (v st) (f st)) else none) sl st Q G ↔ c ∧ Q (v st) (f st) := by
  unfold wX
  by_cases h : c
  · simp [h, okP]
  · simp [h]
@[simp ↓] theorem wX_tup : wX (fTup mas) sl st P G ↔ wX mas sl st (fun xs st' => xs.length ≤ LINE ∧ P (.tup xs) st') G := by
  simp only [fTup, wX_bnd]
  exact wX_congr fun xs st' => wX_ifR (v := fun _ => Val.tup xs) (f := fun st => st)
@[simp ↓] theorem wX_lst : wX (fLst mas) sl st P G ↔ wX mas sl st (fun xs st' => xs.length ≤ LINE ∧ P (.ref st'.length) (st' ++ [.lst xs])) G := by
  simp only [fLst, wX_bnd]
  exact wX_congr fun xs st' => wX_ifR (v := fun st => Val.ref st.length) (f := fun st => st ++ [Ob.lst xs])
@[simp ↓] theorem wX_part : wX (fPart me) sl st PO G ↔ wX me sl st (fun x st' => ∃ i, x = .int i ∧ PO (some i) st') G := by
  simp only [fPart, wX_bnd]
  refine wX_congr fun x st' => ?_
  cases x with
  | int b => simp [wX_ret]
  | _ => simp [wX_no]
@[simp ↓] theorem wX_nopart : wX fNoPart sl st PO G ↔ PO none st := wX_ret
@[simp ↓] theorem wX_slice {f : OSl} {lo hi : FO} : wX (fSlice f me lo hi) sl st P G ↔ wX me sl st (fun x st1 => wX lo sl st1 (fun l st2 => wX hi sl st2 (fun u st3 => wG (f x l u st3) P) G) G) G := by
  unfold fSlice
  rw [wX_bnd]
  refine wX_congr fun x st1 => ?_
  rw [wX_bnd]
  refine wX_congr fun y st2 => ?_
  rw [wX_bnd]
  exact wX_congr fun y st2 => wX_lft
def revO (st : Sto) (x : Val) : Option (Val × Sto) := match x with
  | .ref p => match st[p]? with
    | some (.lst xs) => some (Val.ref st.length, st ++ [.lst xs.reverse])
    | _ => none
  | _ => none
@[simp ↓] theorem wX_revL : wX (fRevL me) sl st P G ↔ wX me sl st (fun x st' => wG (revO st' x) P) G := by
  unfold fRevL
  rw [wX_bnd]
  exact wX_congr fun x st1 => wX_lft
@[simp ↓] theorem wX_call {f : ON} : wX (fCall f mas) sl st P G ↔ wX mas sl st (fun xs st' => wG (f xs st') P) G := by
  unfold fCall
  rw [wX_bnd]
  exact wX_congr fun x st1 => wX_lft
@[simp ↓] theorem wX_callF : wX (fCallF F mas) sl st P G ↔ wX mas sl st (fun xs st' => wF F xs st' P G) G := by
  simp only [fCallF, wX_bnd]
  exact Iff.rfl
@[simp ↓] theorem wX_mt {T : String} {f : Val → ON} : wX (fMt T f me mas) sl st P G ↔ wX me sl st (fun x st1 => kindOf T st1 x = true ∧ wX mas sl st1 (fun xs st2 => wG (f x xs st2) P) G) G := by
  unfold fMt
  rw [wX_bnd]
  refine wX_congr fun x st1 => ?_
  rw [wX_guard (c := fun st => kindOf T st x = true), wX_bnd]
  exact and_congr_right fun _ => wX_congr fun xs st2 => wX_lft
@[simp ↓] theorem wX_mt0 {T : String} {f : Val → ON} : wX (fMt0 T f me) sl st P G ↔ wX me sl st (fun x st1 => kindOf T st1 x = true ∧ wG (f x [] st1) P) G := by
  unfold fMt0
  rw [wX_bnd]
  refine wX_congr fun x st1 => ?_
  rw [wX_guard (c := fun st => kindOf T st x = true), wX_lft]

/-! statements -/
@[simp ↓] theorem wS_seq : wS (fSeq m n) sl st PS ↔ wS m sl st (sqP n PS) := by
  unfold wS fSeq
  constructor
  · rintro ⟨r, h, q⟩
    cases h1 : m sl st with
    | none => rw [h1] at h; cases h
    | some r1 =>
      rw [h1] at h
      cases r1 with
      | nx sl' st' => exact ⟨_, rfl, r, h, q⟩
      | _ => cases h; exact ⟨_, rfl, q⟩
  · rintro ⟨r, h1, h2⟩
    rw [h1]
    cases r with
    | nx sl' st' => exact h2
    | _ => exact ⟨_, rfl, h2⟩
theorem wS_one {r : RS} : wS (fun _ _ => some r) sl st PS ↔ PS r := ⟨fun ⟨r, h, q⟩ => by cases h; exact q, fun h => ⟨_, rfl, h⟩⟩
@[simp ↓] theorem wS_skip : wS fSkip sl st PS ↔ PS (.nx sl st) := ⟨fun ⟨r, h, q⟩ => by cases h; exact q, fun h => ⟨_, rfl, h⟩⟩
@[simp ↓] theorem wS_brk : wS fBreak sl st PS ↔ PS (.bk sl st) := ⟨fun ⟨r, h, q⟩ => by cases h; exact q, fun h => ⟨_, rfl, h⟩⟩
@[simp ↓] theorem wS_cnt : wS fCont sl st PS ↔ PS (.ct sl st) := ⟨fun ⟨r, h, q⟩ => by cases h; exact q, fun h => ⟨_, rfl, h⟩⟩
/-- behind a target -/
def wT (g : FG) (v : Val) (sl : Sl) (st : Sto) (Q : Sl → Sto → Prop) (_ : Lk Q := .mk) : Prop := ∃ sl2 st2, g v sl st = some (sl2, st2) ∧ Q sl2 st2
def wTs (g : FGs) (v : List Val) (sl : Sl) (st : Sto) (Q : Sl → Sto → Prop) (_ : Lk Q := .mk) : Prop := ∃ sl2 st2, g v sl st = some (sl2, st2) ∧ Q sl2 st2
def wO (o : Option Sto) (Q : Sto → Prop) (_ : Lk Q := .mk) : Prop := ∃ st', o = some st' ∧ Q st'
@[simp] theorem wO_some {Q : Sto → Prop} : wO (some st) Q ↔ Q st := ⟨fun ⟨_, h, q⟩ => by cases h; exact q, fun q => ⟨_, rfl, q⟩⟩
@[simp] theorem wO_none {Q : Sto → Prop} : wO none Q ↔ False := ⟨fun ⟨_, h, _⟩ => (nomatch h), False.elim⟩
@[simp ↓] theorem wS_asg {g : FG} : wS (fAsg ma g) sl st PS ↔ wX ma sl st (fun v st' => wT g v sl st' fun sl2 st2 => PS (.nx sl2 st2)) (fun c st' => PS (.ex c sl st')) := by
  unfold fAsg
  rw [wS_bnd]
  refine wX_congr fun v st' => ?_
  unfold wS wT
  constructor
  · rintro ⟨r, h, q⟩
    cases h1 : g v sl st' with
    | none => simp [h1] at h
    | some p =>
      simp only [h1] at h
      cases h
      exact ⟨_, _, rfl, q⟩
  · rintro ⟨sl2, st2, h, q⟩
    exact ⟨.nx sl2 st2, by simp only [h], q⟩
@[simp ↓] theorem wT_set {Q : Sl → Sto → Prop} : wT (gSet i) v sl st Q ↔ Q (sl.set i (some v)) st := ⟨fun ⟨_, _, h, q⟩ => by cases h; exact q, fun q => ⟨_, _, rfl, q⟩⟩
@[simp ↓] theorem wTs_no {Q : Sl → Sto → Prop} {xs : List Val} : wTs gNo xs sl st Q ↔ xs = [] ∧ Q sl st := by
  unfold wTs gNo
  cases xs with
  | nil => exact ⟨fun ⟨_, _, h, q⟩ => by cases h; exact ⟨rfl, q⟩, fun ⟨_, q⟩ => ⟨_, _, rfl, q⟩⟩
  | cons x xs => simp
@[simp ↓] theorem wTs_and {Q : Sl → Sto → Prop} {g : FG} {h : FGs} {xs : List Val} : wTs (gAnd g h) xs sl st Q ↔ ∃ x r, xs = x :: r ∧ wT g x sl st fun sl2 st2 => wTs h r sl2 st2 Q := by
  unfold wTs wT gAnd
  cases xs with
  | nil => simp
  | cons x xs =>
    constructor
    · rintro ⟨sl2, st2, h1, q⟩
      cases h2 : g x sl st with
      | none => simp [h2] at h1
      | some p =>
        simp only [h2] at h1
        exact ⟨x, xs, rfl, _, _, h2, sl2, st2, h1, q⟩
    · rintro ⟨_, _, e, sl1, st1, h2, sl2, st2, h1, q⟩
      cases e
      exact ⟨sl2, st2, by simp only [h2]; exact h1, q⟩
@[simp ↓] theorem wT_tupl {Q : Sl → Sto → Prop} {g : FGs} {k : Nat} : wT (gTupl g k) v sl st Q ↔ ∃ xs, v = .tup xs ∧ xs.length = k ∧ wTs g xs sl st Q := by
  unfold wTs wT gTupl
  constructor
  · rintro ⟨sl2, st2, h1, q⟩
    split at h1
    · rename_i xs
      split at h1
      · rename_i hl
        exact ⟨xs, rfl, hl, _, _, h1, q⟩
      · cases h1
    · cases h1
  · rintro ⟨xs, rfl, hl, sl2, st2, h1, q⟩
    exact ⟨sl2, st2, by simp only [if_pos hl]; exact h1, q⟩
@[simp ↓] theorem wT_ix {Q : Sl → Sto → Prop} {f : O3} {mo mi : FE} : wT (gIx f mo mi) v sl st Q ↔ wX mo sl st (fun o st1 => wX mi sl st1 (fun i st2 => wO (f o i v st2) fun st3 => Q sl st3) G0) G0 := by
  unfold wT gIx wX wO
  constructor
  · rintro ⟨sl2, st2, h1, q⟩
    split at h1
    · rename_i o st1 h2
      split at h1
      · rename_i j st3 h3
        split at h1
        · rename_i st4 h4
          cases h1
          exact ⟨_, h2, _, h3, _, h4, q⟩
        · cases h1
      · cases h1
    · cases h1
  · rintro ⟨r, h2, q⟩
    cases r with
    | ex c st1 => exact q.elim
    | ok o st1 =>
      obtain ⟨r2, h3, q⟩ := q
      cases r2 with
      | ex c st1 => exact q.elim
      | ok j st3 =>
        obtain ⟨st4, h4, q⟩ := q
        exact ⟨sl, st4, by simp only [h2, h3, h4], q⟩
@[simp ↓] theorem wS_set : wS (fSet i ma) sl st PS ↔ wX ma sl st (fun v st' => PS (.nx (sl.set i (some v)) st')) (fun c st' => PS (.ex c sl st')) := by
  unfold fSet
  rw [wS_asg]
  refine wX_congr fun v st' => ?_
  exact wT_set
@[simp ↓] theorem wS_expr : wS (fExpr ma) sl st PS ↔ wX ma sl st (fun _ st' => PS (.nx sl st')) (fun c st' => PS (.ex c sl st')) := by
  unfold fExpr
  rw [wS_bnd]
  exact wX_congr fun v st' => ⟨fun ⟨r, h, q⟩ => by cases h; exact q, fun q => ⟨_, rfl, q⟩⟩
@[simp ↓] theorem wS_ret : wS (fRet ma) sl st PS ↔ wX ma sl st (fun v st' => PS (.rt v st')) (fun c st' => PS (.ex c sl st')) := by
  unfold fRet
  rw [wS_bnd]
  exact wX_congr fun v st' => ⟨fun ⟨r, h, q⟩ => by cases h; exact q, fun q => ⟨_, rfl, q⟩⟩
@[simp ↓] theorem wS_retN : wS fRetN sl st PS ↔ PS (.rt .non st) := ⟨fun ⟨r, h, q⟩ => by cases h; exact q, fun h => ⟨_, rfl, h⟩⟩
@[simp ↓] theorem wS_if : wS (fIfS mt m n) sl st PS ↔ wX mt sl st (fun c st' => if c = true then wS m sl st' PS else wS n sl st' PS) (fun c st' => PS (.ex c sl st')) := by
  unfold fIfS
  rw [wS_bnd]
  refine wX_congr fun c st' => ?_
  cases c <;> simp
theorem wF_run {k N : Nat} {as : List Val} (hl : as.length = k) : wF (runF k N m) as st P G ↔ wS m (as.map some ++ List.replicate (N - k) none) st (finP P G) := by
  unfold wF runF wS
  rw [if_pos hl]
  constructor
  · rintro ⟨r, h, q⟩
    split at h <;> rename_i h1
    · cases h; exact ⟨_, h1, q⟩
    · cases h; exact ⟨_, h1, q⟩
    · cases h; exact ⟨_, h1, q⟩
    · cases h
  · rintro ⟨r, h1, h2⟩
    rw [h1]
    cases r with
    | nx sl' st' => exact ⟨_, rfl, h2⟩
    | rt v st' => exact ⟨_, rfl, h2⟩
    | ex c _ st' => exact ⟨_, rfl, h2⟩
    | _ => exact h2.elim
@[simp ↓] theorem wF_iff {k N : Nat} {as : List Val} : wF (runF k N m) as st P G ↔ as.length = k ∧ wS m (as.map some ++ List.replicate (N - k) none) st (finP P G) := by
  by_cases hl : as.length = k
  · rw [wF_run hl]
    exact ⟨fun h => ⟨hl, h⟩, fun h => h.2⟩
  · refine ⟨fun ⟨r, h, _⟩ => ?_, fun h => absurd h.1 hl⟩
    unfold runF at h
    rw [if_neg hl] at h
    cases h
end
end FL
/-! PL2: loops and comprehensions by an invariant; what only grows; a law's well. -/
namespace FL
open PySem PySem.Spec PyProof.Rows L2

/-- behind a loop's turn -/
def lpP (I : Sl → Sto → Prop) (PS : RS → Prop) : RS → Prop
  | .nx sl st => I sl st
  | .ct sl st => I sl st
  | .bk sl st => PS (.nx sl st)
  | r => PS r
theorem ok_of {α : Type} {m : FX α} {sl : Sl} {st : Sto} {P : α → Sto → Prop} (h : wX m sl st P G0) : ∃ a st', m sl st = some (.ok a st') ∧ P a st' := by
  obtain ⟨r, h1, h2⟩ := h
  cases r with
  | ok a st' => exact ⟨a, st', h1, h2⟩
  | ex c st' => exact h2.elim
section
variable {sl sl' : Sl} {st st' : Sto} {v : Val} {PS : RS → Prop} {I : Sl → Sto → Prop} {c : Nat} {G : EP'}
@[simp] theorem lpP_nx : lpP I PS (.nx sl st) = I sl st := rfl
@[simp] theorem lpP_ct : lpP I PS (.ct sl st) = I sl st := rfl
@[simp] theorem lpP_bk : lpP I PS (.bk sl st) = PS (.nx sl st) := rfl
@[simp] theorem lpP_ex : lpP I PS (.ex c sl st) = PS (.ex c sl st) := rfl
@[simp] theorem lpP_rt : lpP I PS (.rt v st) = PS (.rt v st) := rfl
open Classical in
theorem forL_run {l : Lv} {all : List Val} {g : FG} {body : FS} {I : Nat → Sl → Sto → Prop} (lv : ∀ i sl st, i ≤ all.length → I i sl st → Live l all st)
    (turn : ∀ i x sl st, all[i]? = some x → I i sl st → ∃ sl1 st1, g x sl st = some (sl1, st1) ∧ wS body sl1 st1 (lpP (I (i + 1)) PS)) (done : ∀ sl st, I all.length sl st → PS (.nx sl st)) :
    ∀ (n i : Nat) (sl : Sl) (st : Sto), n + i = all.length → I i sl st → wS (forL l all g body (all.drop i)) sl st PS
  | 0, i, sl, st, hn, hi => by
    have e : all.drop i = [] := List.drop_eq_nil_of_le (by omega)
    have e2 : i = all.length := by omega
    rw [e]
    subst e2
    exact ⟨.nx sl st, by show (if Live l all st then some (RS.nx sl st) else none) = _; rw [if_pos (lv _ _ _ (Nat.le_refl _) hi)], done _ _ hi⟩
  | n + 1, i, sl, st, hn, hi => by
    have hlt : i < all.length := by omega
    have hx : all[i]? = some all[i] := List.getElem?_eq_getElem hlt
    obtain ⟨sl1, st1, h1, r, h2, h3⟩ := turn i _ sl st hx hi
    rw [List.drop_eq_getElem_cons hlt]
    unfold wS forL
    rw [if_pos (lv _ _ _ (Nat.le_of_lt hlt) hi), h1]
    simp only [h2]
    cases r with
    | nx sl2 st2 => exact forL_run lv turn done n (i + 1) sl2 st2 (by omega) h3
    | ct sl2 st2 => exact forL_run lv turn done n (i + 1) sl2 st2 (by omega) h3
    | bk sl2 st2 => exact ⟨_, rfl, h3⟩
    | rt v st2 => exact ⟨_, rfl, h3⟩
    | ex c sl2 st2 => exact ⟨_, rfl, h3⟩
/-- what is to be shown of a for: an invariant of your own (by the turn, the slots, the store) -/
def ForOb (g : FG) (body : FS) (PS : RS → Prop) (sl : Sl) (b : Itb) (st : Sto) : Prop := ∃ I : Nat → Sl → Sto → Prop, I 0 sl st ∧ (∀ i sl st, i ≤ b.items.length → I i sl st → Live b.live b.items st) ∧
  (∀ i x sl st, b.items[i]? = some x → I i sl st → wT g x sl st fun sl1 st1 => wS body sl1 st1 (lpP (I (i + 1)) PS)) ∧ ∀ sl st, I b.items.length sl st → PS (.nx sl st)
theorem wS_for {mi : FI} {g : FG} {body : FS} (h : wX mi sl st (fun b st1 => ForOb g body PS sl b st1) (fun c st' => PS (.ex c sl st'))) : wS (fFor mi g body) sl st PS :=
  wS_bnd.mpr (h.mono fun b st1 ⟨I, h1, h2, h3, h4⟩ => by
    have := forL_run h2 h3 h4 b.items.length 0 sl st1 (by omega) h1
    simpa using this)
open Classical in
theorem lcL_run {l : Lv} {all : List Val} {g : FG} {t : FT} {m : FE} {J : Nat → List Val → Sto → Prop} (lv : ∀ i acc st, i ≤ all.length → J i acc st → Live l all st)
    (turn : ∀ i x acc st, all[i]? = some x → J i acc st → ∃ sl1 st1, g x sl st = some (sl1, st1) ∧ wX t sl1 st1 (fun b st2 => if b = true then wX m sl1 st2 (fun y st3 => J (i + 1) (acc ++ [y]) st3) G0 else J (i + 1) acc st2) G0) :
    ∀ (n i : Nat) (acc : List Val) (st : Sto), n + i = all.length → J i acc st → ∃ ys st', lcL l all g t m sl (all.drop i) st = some (ys, st') ∧ J all.length (acc ++ ys) st'
  | 0, i, acc, st, hn, hi => by
    have e : all.drop i = [] := List.drop_eq_nil_of_le (by omega)
    have e2 : i = all.length := by omega
    rw [e]
    subst e2
    exact ⟨[], st, by show (if Live l all st then some (([] : List Val), st) else none) = _; rw [if_pos (lv _ _ _ (Nat.le_refl _) hi)], by simpa using hi⟩
  | n + 1, i, acc, st, hn, hi => by
    have hlt : i < all.length := by omega
    have hx : all[i]? = some all[i] := List.getElem?_eq_getElem hlt
    obtain ⟨sl1, st1, h1, h9⟩ := turn i _ acc st hx hi
    obtain ⟨b, st2, h2, h3⟩ := ok_of h9
    rw [List.drop_eq_getElem_cons hlt]
    unfold lcL
    rw [if_pos (lv _ _ _ (Nat.le_of_lt hlt) hi), h1]
    simp only [h2]
    cases b with
    | false =>
      have h4 : J (i + 1) acc st2 := by simpa using h3
      exact lcL_run lv turn n (i + 1) acc st2 (by omega) h4
    | true =>
      have h4 : wX m sl1 st2 (fun y st3 => J (i + 1) (acc ++ [y]) st3) G0 := by simpa using h3
      obtain ⟨y, st3, h5, h6⟩ := ok_of h4
      simp only [h5]
      obtain ⟨ys, st4, h7, h8⟩ := lcL_run lv turn n (i + 1) _ st3 (by omega) h6
      exact ⟨y :: ys, st4, by rw [h7], by simpa using h8⟩
/-- what is to be shown of a comprehension: an invariant by the turn, what is made so far, the store -/
def LcOb (g : FG) (t : FT) (m : FE) (P : Val → Sto → Prop) (sl : Sl) (b : Itb) (st : Sto) : Prop := b.items.length ≤ LINE ∧ ∃ J : Nat → List Val → Sto → Prop, J 0 [] st ∧ (∀ i acc st, i ≤ b.items.length → J i acc st → Live b.live b.items st) ∧
  (∀ i x acc st, b.items[i]? = some x → J i acc st → wT g x sl st fun sl1 st1 => wX t sl1 st1 (fun c st2 => if c = true then wX m sl1 st2 (fun y st3 => J (i + 1) (acc ++ [y]) st3) G0 else J (i + 1) acc st2) G0) ∧
  ∀ acc st, J b.items.length acc st → P (.ref st.length) (st ++ [.lst acc])
theorem wX_lc {mi : FI} {g : FG} {t : FT} {m : FE} {vs : List Nat} {P : Val → Sto → Prop} (h : wX mi sl st (fun b st1 => LcOb g t m P (wipeL sl vs) b st1) G) : wX (fLc mi g t m vs) sl st P G := by
  unfold fLc
  rw [wX_bnd]
  refine h.mono fun b st1 ⟨h0, J, h1, h2, h3, h4⟩ => ?_
  obtain ⟨ys, st', h5, h6⟩ := lcL_run (sl := wipeL sl vs) h2 h3 b.items.length 0 [] st1 (by omega) h1
  refine ⟨.ok _ _, ?_, h4 _ _ (by simpa using h6)⟩
  simp only [if_pos h0]
  rw [List.drop_zero] at h5
  rw [h5]
@[simp ↓] theorem wX_yes {PB : Bool → Sto → Prop} : wX fYes sl st PB G ↔ PB true st := wX_ret
@[simp ↓] theorem wX_it {me : FE} {Q : Itb → Sto → Prop} : wX (fIt me) sl st Q G ↔ wX me sl st (fun x st' => ∃ b, asIt st' x = some b ∧ Q b st') G := by
  simp only [fIt, wX_bnd]
  refine wX_congr fun x st' => ?_
  unfold wX
  constructor
  · rintro ⟨r, h1, q⟩
    obtain ⟨b, h2, rfl⟩ := Option.map_eq_some_iff.mp h1
    exact ⟨b, h2, q⟩
  · rintro ⟨b, h1, q⟩
    exact ⟨.ok b st', by simp only [h1]; rfl, q⟩
@[simp ↓] theorem wX_rng1 {mas : FA} {Q : Itb → Sto → Prop} : wX (fRng1 mas) sl st Q G ↔ wX mas sl st (fun xs st' => ∃ j, xs = [.int j] ∧ small62 j ∧ Q ⟨rngL 0 j.toNat, .none⟩ st') G := by
  simp only [fRng1, wX_bnd]
  refine wX_congr fun x st' => ?_
  unfold wX
  constructor
  · rintro ⟨r, h1, q⟩
    split at h1
    · split at h1
      · rename_i hj
        cases h1
        exact ⟨_, rfl, hj, q⟩
      · cases h1
    · cases h1
  · rintro ⟨j, rfl, hj, q⟩
    exact ⟨.ok _ _, by simp [hj], q⟩
@[simp ↓] theorem wX_rng2 {mas : FA} {Q : Itb → Sto → Prop} : wX (fRng2 mas) sl st Q G ↔ wX mas sl st (fun xs st' => ∃ i j, xs = [.int i, .int j] ∧ (small62 i ∧ small62 j) ∧ Q ⟨rngL i (j - i).toNat, .none⟩ st') G := by
  simp only [fRng2, wX_bnd]
  refine wX_congr fun x st' => ?_
  unfold wX
  constructor
  · rintro ⟨r, h1, q⟩
    split at h1
    · split at h1
      · rename_i hj
        cases h1
        exact ⟨_, _, rfl, hj, q⟩
      · cases h1
    · cases h1
  · rintro ⟨i, j, rfl, hj, q⟩
    exact ⟨.ok _ _, by simp [hj], q⟩
end
theorem rngL_get {lo : Int} {n i : Nat} {x : Val} (h : (rngL lo n)[i]? = some x) : i < n ∧ x = .int (lo + i) := by
  unfold rngL at h
  rw [List.getElem?_map] at h
  obtain ⟨j, h1, rfl⟩ := Option.map_eq_some_iff.mp h
  have hi := (List.getElem?_eq_some_iff.mp h1).1
  rw [List.length_range] at hi
  rw [List.getElem?_range hi] at h1
  cases h1
  exact ⟨hi, rfl⟩
@[simp] theorem rngL_len {lo : Int} {n : Nat} : (rngL lo n).length = n := by unfold rngL; simp
@[simp] theorem wipeL_nil {sl : Sl} : wipeL sl [] = sl := rfl
@[simp] theorem wipeL_cons {sl : Sl} {v : Nat} {vs : List Nat} : wipeL sl (v :: vs) = (wipeL sl vs).set v none := rfl
@[simp] theorem live_none {xs : List Val} {st : Sto} : Live .none xs st := trivial

/-! ### xs[i:j] = ys -/
def slcO (o : Val) (l u : Option Int) (v : Val) (st : Sto) : Option Sto := match o, l, u, v with
  | .ref l, some i, some c, .ref b => match st[l]?, st[b]? with
    | some (Ob.lst xs), some (Ob.lst ys) => if l ≠ b ∧ 0 ≤ i ∧ i ≤ c ∧ i ≤ xs.length ∧ xs.length + ys.length ≤ LINE then some (st.set l (Ob.lst (xs.take i.toNat ++ ys ++ xs.drop (min c.toNat xs.length)))) else none
    | _, _ => none
  | _, _, _, _ => none
theorem wT_slc {mo : FE} {lo hi : FO} {v : Val} {sl : Sl} {st : Sto} {Q : Sl → Sto → Prop} (h : wX mo sl st (fun o st1 => wX lo sl st1 (fun l st2 => wX hi sl st2 (fun u st3 => wO (slcO o l u v st3) fun st4 => Q sl st4) G0) G0) G0) : wT (gSlc mo lo hi) v sl st Q := by
  obtain ⟨o, st1, h1, h⟩ := ok_of h
  obtain ⟨l, st2, h2, h⟩ := ok_of h
  obtain ⟨u, st3, h3, h⟩ := ok_of h
  obtain ⟨st4, h4, q⟩ := h
  unfold slcO at h4
  split at h4
  · rename_i l' i c b
    split at h4
    · rename_i xs ys g1 g2
      split at h4
      · rename_i g3
        cases h4
        refine ⟨sl, _, ?_, q⟩
        unfold gSlc
        simp only [h1, h2, h3, g1, g2]
        exact if_pos g3
      · cases h4
    · cases h4
  · cases h4
theorem slcO_ref {l b : Nat} {i c : Int} {st : Sto} {xs ys : List Val} (g1 : st[l]? = some (Ob.lst xs)) (g2 : st[b]? = some (Ob.lst ys)) (h1 : l ≠ b) (h2 : 0 ≤ i) (h3 : i ≤ c) (h4 : i ≤ xs.length) (h5 : xs.length + ys.length ≤ LINE) :
    slcO (.ref l) (some i) (some c) (.ref b) st = some (st.set l (Ob.lst (xs.take i.toNat ++ ys ++ xs.drop (min c.toNat xs.length)))) := by
  show (match st[l]?, st[b]? with
    | some (Ob.lst xs), some (Ob.lst ys) => if l ≠ b ∧ 0 ≤ i ∧ i ≤ c ∧ i ≤ xs.length ∧ xs.length + ys.length ≤ LINE then some (st.set l (Ob.lst (xs.take i.toNat ++ ys ++ xs.drop (min c.toNat xs.length)))) else none
    | _, _ => none) = _
  rw [g1, g2]
  exact if_pos ⟨h1, h2, h3, h4, h5⟩

/-! ### what only grows; all but the number w stays -/
def Dr (w : Nat) (st st' : Sto) : Prop := st.length ≤ st'.length ∧ ∀ i, i < st.length → i ≠ w → st'[i]? = st[i]?
def Ap (st st' : Sto) : Prop := ∃ l, st' = st ++ l
theorem Dr.refl (w : Nat) (st : Sto) : Dr w st st := ⟨Nat.le_refl _, fun _ _ _ => rfl⟩
theorem Dr.trans {w : Nat} {a b c : Sto} (h : Dr w a b) (k : Dr w b c) : Dr w a c := ⟨Nat.le_trans h.1 k.1, fun i hi hw => (k.2 i (Nat.lt_of_lt_of_le hi h.1) hw).trans (h.2 i hi hw)⟩
theorem Dr.get {w : Nat} {st st' : Sto} (h : Dr w st st') {i : Nat} {o : Ob} (hw : i ≠ w) (g : st[i]? = some o) : st'[i]? = some o := by
  rw [h.2 i (List.getElem?_eq_some_iff.mp g).1 hw]
  exact g
theorem Ap.refl (st : Sto) : Ap st st := ⟨[], by simp⟩
theorem Ap.trans {a b c : Sto} (h : Ap a b) (k : Ap b c) : Ap a c := by
  obtain ⟨l, rfl⟩ := h
  obtain ⟨m, rfl⟩ := k
  exact ⟨l ++ m, by simp⟩
theorem Ap.one (st : Sto) (o : Ob) : Ap st (st ++ [o]) := ⟨[o], rfl⟩
theorem Ap.get {st st' : Sto} (h : Ap st st') {i : Nat} {o : Ob} (g : st[i]? = some o) : st'[i]? = some o := by
  obtain ⟨l, rfl⟩ := h
  rw [List.getElem?_append_left (List.getElem?_eq_some_iff.mp g).1]
  exact g
theorem Ap.le {st st' : Sto} (h : Ap st st') : st.length ≤ st'.length := by
  obtain ⟨l, rfl⟩ := h
  simp
theorem Ap.dr {w : Nat} {st st' : Sto} (h : Ap st st') : Dr w st st' := by
  obtain ⟨l, rfl⟩ := h
  exact ⟨by simp, fun i hi _ => List.getElem?_append_left hi⟩
theorem Dr.set {w : Nat} {st : Sto} (o : Ob) : Dr w st (st.set w o) := ⟨by simp, fun i hi hw => by rw [List.getElem?_set_ne (Ne.symm hw)]⟩
theorem Dr.app {w : Nat} {st st' : Sto} (h : Dr w st st') (o : Ob) : Dr w st (st' ++ [o]) := h.trans (Ap.one _ _).dr
/-- something new may change -/
theorem Dr.new {w : Nat} {st st' : Sto} (h : Dr w st st') {i : Nat} (o : Ob) (hi : st.length ≤ i) : Dr w st (st'.set i o) := ⟨by simpa using h.1, fun j hj hw => by rw [List.getElem?_set_ne (by omega)]; exact h.2 j hj hw⟩

/-! ### the well of a law -/
def WellAt (w : Nat) (st : Sto) : Prop := ∃ c s p : Int, st[w]? = some (.lst [.int c, .int s, .int p]) ∧ 0 ≤ s ∧ s ≤ 2147483648 ∧ 0 < p ∧ p ≤ 2147483647
theorem WellAt.ap {w : Nat} {st st' : Sto} (h : WellAt w st) (a : Ap st st') : WellAt w st' := by
  obtain ⟨c, s, p, h1, h2⟩ := h
  exact ⟨c, s, p, a.get h1, h2⟩
theorem WellAt.lt {w : Nat} {st : Sto} (h : WellAt w st) : w < st.length := by
  obtain ⟨c, s, p, h1, h2⟩ := h
  exact (List.getElem?_eq_some_iff.mp h1).1
theorem WellAt.set {w i : Nat} {st : Sto} (h : WellAt w st) (o : Ob) (hi : i ≠ w) : WellAt w (st.set i o) := by
  obtain ⟨c, s, p, h1, h2⟩ := h
  exact ⟨c, s, p, by rw [List.getElem?_set_ne hi]; exact h1, h2⟩
/-- a comprehension whose parts change nothing that was there: (xs.filter q).map f -/
theorem LcOb.fm {g : FG} {t : FT} {m : FE} {P : Val → Sto → Prop} {sl : Sl} {b : Itb} {st : Sto} (q : Val → Bool) (f : Val → Val) (hl : b.items.length ≤ LINE) (hv : ∀ st', Ap st st' → Live b.live b.items st')
    (h : ∀ x ∈ b.items, ∀ st1, Ap st st1 → wT g x sl st1 fun sl1 st2 => wX t sl1 st2 (fun c st3 => c = q x ∧ Ap st1 st3 ∧ (q x = true → wX m sl1 st3 (fun y st4 => y = f x ∧ Ap st1 st4) G0)) G0)
    (done : ∀ st', Ap st st' → P (.ref st'.length) (st' ++ [.lst ((b.items.filter q).map f)])) : LcOb g t m P sl b st := by
  refine ⟨hl, fun i acc st' => acc = ((b.items.take i).filter q).map f ∧ Ap st st', ⟨by simp, Ap.refl _⟩, fun i acc st' _ h => hv st' h.2, ?_, ?_⟩
  · rintro i x acc st1 hx ⟨rfl, a1⟩
    have hm : x ∈ b.items := List.mem_of_getElem? hx
    have ht : b.items.take (i + 1) = b.items.take i ++ [x] := by
      rw [List.take_add_one, hx]
      rfl
    obtain ⟨sl1, st2, h1, h2⟩ := h x hm st1 a1
    refine ⟨sl1, st2, h1, h2.mono ?_⟩
    rintro c st3 ⟨rfl, a3, h3⟩
    cases hq : q x with
    | true =>
      simp
      refine (h3 hq).mono ?_
      rintro y st4 ⟨rfl, a4⟩
      exact ⟨by rw [ht]; simp [hq], a1.trans a4⟩
    | false =>
      simp
      exact ⟨by rw [ht]; simp [hq], a1.trans a3⟩
  · rintro acc st' ⟨rfl, a⟩
    rw [List.take_length]
    exact done st' a
end FL
/-! PL3: the operations on values that are seen. -/
namespace FL
open PySem PySem.Spec PyProof.Rows L2
@[simp] theorem LINE_def : LINE = 16777216 := rfl
section
variable {st : Sto} {i j : Int} {s t : List Nat} {xs ys : List Val} {p q : Nat} {v w : Val}
@[simp] theorem fAdd_int : fAdd (.int i) (.int j) st = some (.int (i + j), st) := rfl
@[simp] theorem fAdd_str (h : s.length + t.length ≤ LINE) : fAdd (.str s) (.str t) st = some (.str (s ++ t), st) := if_pos h
@[simp] theorem fAdd_tup (h : xs.length + ys.length ≤ LINE) : fAdd (.tup xs) (.tup ys) st = some (.tup (xs ++ ys), st) := if_pos h
theorem fAdd_ref (h1 : st[p]? = some (Ob.lst xs)) (h2 : st[q]? = some (Ob.lst ys)) (h : xs.length + ys.length ≤ LINE) : fAdd (.ref p) (.ref q) st = some (.ref st.length, st ++ [Ob.lst (xs ++ ys)]) := by
  show (match st[p]?, st[q]? with | some (Ob.lst xs), some (Ob.lst ys) => if xs.length + ys.length ≤ LINE then some (Val.ref st.length, st ++ [Ob.lst (xs ++ ys)]) else none | _, _ => none) = _
  rw [h1, h2]
  exact if_pos h
@[simp] theorem fSub_int : fSub (.int i) (.int j) st = some (.int (i - j), st) := rfl
@[simp] theorem fMod_int (h : 0 < j) : fMod (.int i) (.int j) st = some (.int (i % j), st) := if_pos h
@[simp] theorem fDiv_int (h1 : 0 < j) (h2 : j < 1073741824) : fDiv (.int i) (.int j) st = some (.int (i / j), st) := if_pos ⟨h1, h2⟩
@[simp] theorem fMul_r (h1 : -(2 ^ 64) < j) (h2 : j < 2 ^ 64) : fMul (.int i) (.int j) st = some (.int (i * j), st) := if_pos (.inr ⟨h1, h2⟩)
theorem fMul_l (h1 : -(2 ^ 64) < i) (h2 : i < 2 ^ 64) : fMul (.int i) (.int j) st = some (.int (i * j), st) := if_pos (.inl ⟨h1, h2⟩)
@[simp] theorem fMul_str (h1 : 0 ≤ j) (h2 : j ≤ 1000) (h3 : s.length ≤ 1000) : fMul (.str s) (.int j) st = some (.str (reps j.toNat s), st) := if_pos ⟨h1, h2, h3⟩
theorem fMul_tup (h1 : 2 ≤ j) (h2 : j ≤ 1000) (h3 : xs.length ≤ 1000) (h4 : xs ≠ []) : fMul (.tup xs) (.int j) st = some (.tup (reps j.toNat xs), st) := if_pos ⟨h1, h2, h3, h4⟩
@[simp] theorem fPow_10_18 : fPow (.int 10) (.int 18) st = some (.int (10 ^ 18), st) := rfl
@[simp] theorem fPow_10_11 : fPow (.int 10) (.int 11) st = some (.int (10 ^ 11), st) := rfl
@[simp] theorem fLt_int : fLt (.int i) (.int j) st = some (.bl (decide (i < j)), st) := rfl
@[simp] theorem fLe_int : fLe (.int i) (.int j) st = some (.bl (decide (i ≤ j)), st) := rfl
@[simp] theorem fGt_int : fGt (.int i) (.int j) st = some (.bl (decide (j < i)), st) := rfl
@[simp] theorem fGe_int : fGe (.int i) (.int j) st = some (.bl (decide (j ≤ i)), st) := rfl
@[simp] theorem fLt_str : fLt (.str s) (.str t) st = some (.bl (decide (s < t)), st) := rfl
@[simp] theorem fLe_str : fLe (.str s) (.str t) st = some (.bl (!decide (t < s)), st) := rfl
@[simp] theorem atI_0 {α : Type} {a : α} {l : List α} : L2.atI (a :: l) 0 = some a := by simp [L2.atI, ixN]
@[simp] theorem atI_1 {α : Type} {a b : α} {l : List α} : L2.atI (a :: b :: l) 1 = some b := by
  have : (1 : Int) < (l.length : Int) + 1 + 1 := by omega
  simp [L2.atI, ixN, this]
@[simp] theorem atI_2 {α : Type} {a b c : α} {l : List α} : L2.atI (a :: b :: c :: l) 2 = some c := by
  have : (2 : Int) < (l.length : Int) + 1 + 1 + 1 := by omega
  simp [L2.atI, ixN, this]
theorem atI_at {α : Type} {l : List α} {i : Int} (h0 : 0 ≤ i) (h1 : i < l.length) : L2.atI l i = l[i.toNat]? := by
  simp [L2.atI, ixN, h0, h1]
@[simp] theorem fIx_tup : fIx (.tup xs) (.int i) st = (L2.atI xs i).map fun v => (v, st) := rfl
@[simp] theorem fIx_ref (h : st[p]? = some (Ob.lst xs)) : fIx (.ref p) (.int i) st = (L2.atI xs i).map fun v => (v, st) := by
  show (match st[p]? with | some (Ob.lst xs) => (L2.atI xs i).map (fun v => (v, st)) | _ => none) = _
  rw [h]
@[simp] theorem fIx_scr {ns : List Int} : fIx (.scr ns) (.int i) st = (L2.atI ns i).map fun n => (.int n, st) := rfl
@[simp] theorem fIx_str (h : s.length ≤ LINE) : fIx (.str s) (.int i) st = (L2.atI s i).map fun c => (.str [c], st) := if_pos h
@[simp] theorem fSl_str {lo hi : Option Int} (h : s.length ≤ LINE) : fSl (.str s) lo hi st = some (.str (cutG s lo hi), st) := if_pos h
@[simp] theorem fSl_tup {lo hi : Option Int} : fSl (.tup xs) lo hi st = some (.tup (cutG xs lo hi), st) := rfl
@[simp] theorem fSl_ref {lo hi : Option Int} (h : st[p]? = some (Ob.lst xs)) : fSl (.ref p) lo hi st = some (.ref st.length, st ++ [Ob.lst (cutG xs lo hi)]) := by
  show (match st[p]? with | some (Ob.lst xs) => some (Val.ref st.length, st ++ [Ob.lst (cutG xs lo hi)]) | _ => none) = _
  rw [h]
@[simp] theorem revO_ref (h : st[p]? = some (Ob.lst xs)) : revO st (.ref p) = some (.ref st.length, st ++ [Ob.lst xs.reverse]) := by
  show (match st[p]? with | some (Ob.lst xs) => some (Val.ref st.length, st ++ [Ob.lst xs.reverse]) | _ => none) = _
  rw [h]
@[simp] theorem fSetI_ref (h : st[p]? = some (Ob.lst xs)) : fSetI (.ref p) (.int i) v st = (ixN xs.length i).map fun n => st.set p (Ob.lst (xs.set n v)) := by
  show (match st[p]? with | some (Ob.lst xs) => (ixN xs.length i).map (fun n => st.set p (Ob.lst (xs.set n v))) | _ => none) = _
  rw [h]
@[simp] theorem ixN_0 {n : Nat} (h : 0 < n) : ixN n 0 = some 0 := by simp [ixN, h]
@[simp] theorem ixN_1 {n : Nat} (h : 1 < n) : ixN n 1 = some 1 := by
  have : (1 : Int) < (n : Int) := by omega
  simp [ixN, this]
@[simp] theorem ixN_2 {n : Nat} (h : 2 < n) : ixN n 2 = some 2 := by
  have : (2 : Int) < (n : Int) := by omega
  simp [ixN, this]
@[simp] theorem ixN_m1 {n : Nat} (h : 0 < n) : ixN n (-1) = some (n - 1) := by
  have h1 : -(n : Int) ≤ -1 := by omega
  have h2 : (-1 + (n : Int)).toNat = n - 1 := by omega
  simp [ixN, h1, h2]
theorem ixN_at {n : Nat} (h0 : 0 ≤ i) (h1 : i < n) : ixN n i = some i.toNat := by simp [ixN, h0, h1]
@[simp] theorem fLen_str (h : s.length ≤ LINE) : fLen [.str s] st = some (.int s.length, st) := if_pos h
@[simp] theorem fLen_tup : fLen [.tup xs] st = some (.int xs.length, st) := rfl
@[simp] theorem fLen_scr {ns : List Int} : fLen [.scr ns] st = some (.int ns.length, st) := rfl
@[simp] theorem fLen_ref (h : st[p]? = some (Ob.lst xs)) : fLen [.ref p] st = some (.int xs.length, st) := by
  show (match st[p]? with | some (Ob.lst xs) => some (Val.int xs.length, st) | _ => none) = _
  rw [h]
@[simp] theorem fOrd_one {c : Nat} : fOrd [.str [c]] st = some (.int c, st) := rfl
@[simp] theorem fAll_ref (h : st[p]? = some (Ob.lst xs)) : fAll [.ref p] st = (allB xs).map fun c => (.bl c, st) := by
  show (match st[p]? with | some (Ob.lst xs) => (allB xs).map (fun c => (Val.bl c, st)) | _ => none) = _
  rw [h]
@[simp] theorem fAny_ref (h : st[p]? = some (Ob.lst xs)) : fAny [.ref p] st = (anyB xs).map fun c => (.bl c, st) := by
  show (match st[p]? with | some (Ob.lst xs) => (anyB xs).map (fun c => (Val.bl c, st)) | _ => none) = _
  rw [h]
@[simp] theorem allB_map (bs : List Bool) : allB (bs.map Val.bl) = some (bs.all id) := by
  induction bs with
  | nil => rfl
  | cons b bs ih =>
    show (match allB (bs.map Val.bl) with | some c => some (b && c) | none => none) = _
    rw [ih]
    rfl
@[simp] theorem allB_comp {α : Type} (f : α → Bool) (l : List α) : allB (l.map (Val.bl ∘ f)) = some (l.all f) := by
  rw [← List.map_map, allB_map, List.all_map]
  rfl
@[simp] theorem allB_fun {α : Type} (f : α → Bool) (l : List α) : allB (l.map fun x => Val.bl (f x)) = some (l.all f) := allB_comp f l
@[simp] theorem anyB_map (bs : List Bool) : anyB (bs.map Val.bl) = some (bs.any id) := by
  induction bs with
  | nil => rfl
  | cons b bs ih =>
    show (match anyB (bs.map Val.bl) with | some c => some (b || c) | none => none) = _
    rw [ih]
    rfl
@[simp] theorem fListOf_tup : fListOf [.tup xs] st = some (.ref st.length, st ++ [Ob.lst xs]) := rfl
@[simp] theorem fListOf_ref (h : st[p]? = some (Ob.lst xs)) : fListOf [.ref p] st = some (.ref st.length, st ++ [Ob.lst xs]) := by
  show (match st[p]? with | some (Ob.lst xs) => some (Val.ref st.length, st ++ [Ob.lst xs]) | _ => none) = _
  rw [h]
@[simp] theorem fTupOf_tup : fTupOf [.tup xs] st = some (.tup xs, st) := rfl
@[simp] theorem fTupOf_ref (h : st[p]? = some (Ob.lst xs)) : fTupOf [.ref p] st = some (.tup xs, st) := by
  show (match st[p]? with | some (Ob.lst xs) => some (Val.tup xs, st) | _ => none) = _
  rw [h]
@[simp] theorem fJoin_ref {ss : List (List Nat)} (h : st[p]? = some (Ob.lst (ss.map Val.str))) (h2 : (ss.map List.length).sum + ss.length * s.length ≤ LINE) : fJoin (.str s) [.ref p] st = some (.str (jn s ss), st) := by
  have e : strsOf (ss.map Val.str) = some ss := by
    clear h h2
    induction ss with
    | nil => rfl
    | cons b bs ih =>
      show (match strsOf (bs.map Val.str) with | some ss => some (b :: ss) | none => none) = _
      rw [ih]
  show (match st[p]? with
    | some (Ob.lst ys) => (match strsOf ys with
      | some ss => if (ss.map List.length).sum + ss.length * s.length ≤ LINE then some (Val.str (jn s ss), st) else none
      | none => none)
    | _ => none) = _
  rw [h]
  simp only [e]
  exact if_pos h2
theorem jn_nil : ∀ (ss : List (List Nat)), jn [] ss = ss.flatten
  | [] => rfl
  | p :: ss => by
    show ss.foldl (fun acc q => acc ++ [] ++ q) p = p ++ ss.flatten
    have : ∀ (l : List (List Nat)) (a : List Nat), l.foldl (fun acc q => acc ++ [] ++ q) a = a ++ l.flatten := fun l => by
      induction l with
      | nil => intro a; simp
      | cons x l ih => intro a; rw [List.foldl_cons, ih]; simp
    exact this ss p
@[simp] theorem fMin2_int : fMin2 [.int i, .int j] st = some (.int (if j < i then j else i), st) := rfl
@[simp] theorem fMax2_int : fMax2 [.int i, .int j] st = some (.int (if j > i then j else i), st) := rfl
@[simp] theorem kind_str : kindOf "str" st (.str s) = true := rfl
theorem kind_lst (h : st[p]? = some (Ob.lst xs)) : kindOf "list" st (.ref p) = true := by
  show (match st[p]? with | some (.lst _) => "list" == "list" | some (.dic _) => "list" == "dict" | _ => false) = true
  rw [h]
  rfl
theorem onL_ref {g : List Val → List Val → Option (Val × List Val)} (h : st[p]? = some (Ob.lst xs)) : onL g (.ref p) ys st = (g xs ys).map fun (r : Val × List Val) => (r.1, st.set p (Ob.lst r.2)) := by
  show (match st[p]? with | some (Ob.lst zs) => (g zs ys).map (fun (r : Val × List Val) => (r.1, st.set p (Ob.lst r.2))) | _ => none) = _
  rw [h]
@[simp] theorem gAppend_one (h : xs.length < LINE) : gAppend xs [v] = some (.non, xs ++ [v]) := if_pos h
@[simp] theorem asIt_tup : asIt st (.tup xs) = some ⟨xs, .none⟩ := rfl
@[simp] theorem asIt_str : asIt st (.str s) = some ⟨s.map fun c => .str [c], .none⟩ := rfl
@[simp] theorem asIt_ref (h : st[p]? = some (Ob.lst xs)) : asIt st (.ref p) = some ⟨xs, .some p⟩ := by
  show (match st[p]? with | some (Ob.lst xs) => some (Itb.mk xs (.some p)) | _ => none) = _
  rw [h]
/-! isinstance -/
def isiB (t : String) (st : Sto) (v : Val) : Option Bool := match tyN st v with
  | some n => isSub n t
  | none => none
theorem fIsi_eq {t : String} {c : Bool} (h : isiB t st v = some c) : fIsi [v, .ty t] st = some (.bl c, st) := by
  unfold isiB at h
  show (match tyN st v with | some n => (isSub n t).map (fun c => (Val.bl c, st)) | none => none) = _
  cases h1 : tyN st v with
  | none => rw [h1] at h; cases h
  | some n =>
    rw [h1] at h
    simp only [h]
    rfl
end
end FL
/-! PL4: ==; things of any kind, bounded in depth and size. -/
namespace FL
open PySem PySem.Spec PyProof.Rows L2

/-- a text of bounded size and of usual signs -/
def OkS (c : Nat) (s : List Nat) : Prop := s.length ≤ c ∧ ∀ x ∈ s, x < 128
theorem OkS.mono {c d : Nat} {s : List Nat} (h : OkS c s) (e : c ≤ d) : OkS d s := ⟨Nat.le_trans h.1 e, h.2⟩
theorem strOk_of {s : List Nat} (h : ∀ x ∈ s, x < 128) : PyData.strOk (St' s) = true := by
  unfold PyData.strOk
  rw [Array.all_eq_true]
  intro i hi
  have h1 : s.toArray[i] ∈ s := by
    rw [List.getElem_toArray]
    exact List.getElem_mem _
  have h2 := h _ h1
  exact decide_eq_true (Nat.lt_trans h2 (by decide))
/-- a thing of bounded depth and size, none of its lists among the numbers B -/
def Gd (B : Nat → Prop) (c : Nat) (st : Sto) : Nat → Val → Prop
  | 0, v => match v with
    | .non => True
    | .bl _ => True
    | .int _ => True
    | .str s => OkS c s
    | _ => False
  | n + 1, v => match v with
    | .non => True
    | .bl _ => True
    | .int _ => True
    | .str s => OkS c s
    | .tup xs => xs.length ≤ c ∧ ∀ x ∈ xs, Gd B c st n x
    | .ref i => ¬ B i ∧ ∃ xs, st[i]? = some (.lst xs) ∧ xs.length ≤ c ∧ ∀ x ∈ xs, Gd B c st n x
    | _ => False
section
variable {w c : Nat} {st st' : Sto} {B : Nat → Prop}
theorem Gd.keepB (d : ∀ i o, ¬ B i → st[i]? = some o → st'[i]? = some o) : ∀ {n : Nat} {v : Val}, Gd B c st n v → Gd B c st' n v
  | 0, v, h => by cases v <;> exact h
  | n + 1, v, h => by
    cases v with
    | tup xs => exact ⟨h.1, fun x hx => Gd.keepB d (h.2 x hx)⟩
    | ref i =>
      obtain ⟨h1, xs, h2, h3, h4⟩ := h
      exact ⟨h1, xs, d _ _ h1 h2, h3, fun x hx => Gd.keepB d (h4 x hx)⟩
    | _ => exact h
theorem Gd.keep (hB : B w) (d : Dr w st st') {n : Nat} {v : Val} (h : Gd B c st n v) : Gd B c st' n v :=
  h.keepB fun i o hi e => d.get (fun z => hi (by rw [z]; exact hB)) e
theorem Gd.keepA (d : Ap st st') {n : Nat} {v : Val} (h : Gd B c st n v) : Gd B c st' n v := h.keepB fun i o hi e => d.get e
theorem Gd.weak {B' : Nat → Prop} (d : ∀ i, i < st.length → B' i → B i) : ∀ {n : Nat} {v : Val}, Gd B c st n v → Gd B' c st n v
  | 0, v, h => by cases v <;> exact h
  | n + 1, v, h => by
    cases v with
    | tup xs => exact ⟨h.1, fun x hx => Gd.weak d (h.2 x hx)⟩
    | ref i =>
      obtain ⟨h1, xs, h2, h3, h4⟩ := h
      exact ⟨fun z => h1 (d i (List.getElem?_eq_some_iff.mp h2).1 z), xs, h2, h3, fun x hx => Gd.weak d (h4 x hx)⟩
    | _ => exact h
theorem Gd.up : ∀ {n : Nat} {v : Val}, Gd B c st n v → Gd B c st (n + 1) v
  | 0, v, h => by cases v <;> first | exact h | exact h.elim
  | n + 1, v, h => by
    cases v with
    | tup xs => exact ⟨h.1, fun x hx => Gd.up (h.2 x hx)⟩
    | ref i =>
      obtain ⟨h1, xs, h2, h3, h4⟩ := h
      exact ⟨h1, xs, h2, h3, fun x hx => Gd.up (h4 x hx)⟩
    | _ => exact h
theorem Gd.le {n m : Nat} {v : Val} (h : Gd B c st n v) (e : n ≤ m) : Gd B c st m v := by
  induction e with
  | refl => exact h
  | step _ ih => exact ih.up
theorem Gd.more {c' : Nat} (e : c ≤ c') : ∀ {n : Nat} {v : Val}, Gd B c st n v → Gd B c' st n v
  | 0, v, h => by
    cases v with
    | str s => exact OkS.mono h e
    | _ => exact h
  | n + 1, v, h => by
    cases v with
    | str s => exact OkS.mono h e
    | tup xs => exact ⟨Nat.le_trans h.1 e, fun x hx => Gd.more e (h.2 x hx)⟩
    | ref i =>
      obtain ⟨h1, xs, h2, h3, h4⟩ := h
      exact ⟨h1, xs, h2, Nat.le_trans h3 e, fun x hx => Gd.more e (h4 x hx)⟩
    | _ => exact h
theorem mapO_some {α β : Type} {f : α → Option β} {R : β → Prop} : ∀ {xs : List α}, (∀ x ∈ xs, ∃ d, f x = some d ∧ R d) → ∃ ds, mapO f xs = some ds ∧ ds.length = xs.length ∧ ∀ d ∈ ds, R d
  | [], _ => ⟨[], rfl, rfl, by simp⟩
  | x :: xs, h => by
    obtain ⟨d, h1, h2⟩ := h x List.mem_cons_self
    obtain ⟨ds, h3, h4, h5⟩ := mapO_some (xs := xs) fun y hy => h y (List.mem_cons_of_mem _ hy)
    refine ⟨d :: ds, by unfold mapO; rw [h1, h3], by simp [h4], fun e he => ?_⟩
    rcases List.mem_cons.mp he with rfl | he
    · exact h2
    · exact h5 e he
theorem canAll {ds : List PyData} (h : ∀ d ∈ ds, PyData.canLay0 d = true) : PyData.canLayAll0 ds = true := by
  induction ds with
  | nil => simp [PyData.canLayAll0]
  | cons d ds ih => simp [PyData.canLayAll0, h d List.mem_cons_self, ih fun e he => h e (List.mem_cons_of_mem _ he)]
theorem depAll {k : Nat} {ds : List PyData} (h : ∀ d ∈ ds, PyData.depth d ≤ k) : PyData.depthAll ds ≤ k := by
  induction ds with
  | nil => simp [PyData.depthAll]
  | cons d ds ih =>
    have h1 := h d List.mem_cons_self
    have h2 := ih fun e he => h e (List.mem_cons_of_mem _ he)
    simp [PyData.depthAll]
    omega
theorem Gd.toD : ∀ {n m : Nat} {v : Val}, Gd B c st n v → n < m → ∃ d, FL.toD m st v = some d ∧ PyData.canLay0 d = true ∧ PyData.depth d ≤ n
  | n, 0, v, _, e => absurd e (Nat.not_lt_zero _)
  | 0, m + 1, v, h, _ => by
    cases v with
    | non => exact ⟨_, rfl, by simp [PyData.canLay0], by simp [PyData.depth]⟩
    | bl b => exact ⟨_, rfl, by simp [PyData.canLay0], by simp [PyData.depth]⟩
    | int b => exact ⟨_, rfl, by simp [PyData.canLay0], by simp [PyData.depth]⟩
    | str s => exact ⟨_, rfl, by simp only [PyData.canLay0]; exact strOk_of h.2, by simp [PyData.depth]⟩
    | _ => exact h.elim
  | n + 1, m + 1, v, h, e => by
    cases v with
    | non => exact ⟨_, rfl, by simp [PyData.canLay0], by simp [PyData.depth]⟩
    | bl b => exact ⟨_, rfl, by simp [PyData.canLay0], by simp [PyData.depth]⟩
    | int b => exact ⟨_, rfl, by simp [PyData.canLay0], by simp [PyData.depth]⟩
    | str s => exact ⟨_, rfl, by simp only [PyData.canLay0]; exact strOk_of h.2, by simp [PyData.depth]⟩
    | tup xs =>
      obtain ⟨ds, h1, h2, h3⟩ := mapO_some (R := fun d => PyData.canLay0 d = true ∧ PyData.depth d ≤ n) fun x hx => Gd.toD (h.2 x hx) (show n < m by omega)
      refine ⟨.tuple ds, by show (mapO (FL.toD m st) xs).map PyData.tuple = _; rw [h1]; rfl, by simp only [PyData.canLay0]; exact canAll fun d hd => (h3 d hd).1, ?_⟩
      have := depAll fun d hd => (h3 d hd).2
      simp only [PyData.depth]
      omega
    | ref i =>
      obtain ⟨_, xs, hx, _, h4⟩ := h
      obtain ⟨ds, h1, h2, h3⟩ := mapO_some (R := fun d => PyData.canLay0 d = true ∧ PyData.depth d ≤ n) fun x hx => Gd.toD (h4 x hx) (show n < m by omega)
      refine ⟨.list ds, by show (match st[i]? with | some (Ob.lst xs) => (mapO (FL.toD m st) xs).map PyData.list | _ => none) = _; rw [hx]; simp only [h1]; rfl, by simp only [PyData.canLay0]; exact canAll fun d hd => (h3 d hd).1, ?_⟩
      have := depAll fun d hd => (h3 d hd).2
      simp only [PyData.depth]
      omega
    | _ => exact h.elim
theorem shaped_of {d : PyData} (h1 : PyData.canLay0 d = true) (h2 : PyData.depth d ≤ 64) : SeqAt.shaped d = true := by
  unfold SeqAt.shaped
  rw [h1, decide_eq_true h2]
  rfl
theorem fEqB_gd {n m : Nat} {a b : Val} (ha : Gd B c st n a) (hb : Gd B c st m b) (hn : n < 9) (hm : m < 9) : ∃ d e, FL.toD 9 st a = some d ∧ FL.toD 9 st b = some e ∧ fEqB a b st = some (PyData.eqv d e) := by
  obtain ⟨d, h1, h2, h3⟩ := ha.toD hn
  obtain ⟨e, h4, h5, h6⟩ := hb.toD hm
  refine ⟨d, e, h1, h4, ?_⟩
  unfold fEqB
  rw [h1, h4]
  exact if_pos ⟨shaped_of h2 (by omega), shaped_of h5 (by omega)⟩
/-- a list against the empty one -/
theorem fEq_nil {p q n : Nat} {xs : List Val} (h1 : st[p]? = some (.lst xs)) (h2 : st[q]? = some (.lst [])) (hx : ∀ x ∈ xs, Gd B c st n x) (hn : n < 8) : fEq (.ref p) (.ref q) st = some (.bl (decide (xs = [])), st) := by
  obtain ⟨ds, h3, h4, h5⟩ := mapO_some (R := fun d => PyData.canLay0 d = true ∧ PyData.depth d ≤ n) fun x hx' => (hx x hx').toD (show n < 8 by omega)
  have e1 : FL.toD 9 st (.ref p) = some (.list ds) := by
    show (match st[p]? with | some (Ob.lst xs) => (mapO (FL.toD 8 st) xs).map PyData.list | _ => none) = _
    rw [h1]
    simp only [h3]
    rfl
  have e2 : FL.toD 9 st (.ref q) = some (.list []) := by
    show (match st[q]? with | some (Ob.lst xs) => (mapO (FL.toD 8 st) xs).map PyData.list | _ => none) = _
    rw [h2]
    rfl
  have d1 := depAll fun d hd => (h5 d hd).2
  have e3 : SeqAt.shaped (.list ds) = true := shaped_of (by simp only [PyData.canLay0]; exact canAll fun d hd => (h5 d hd).1) (by simp only [PyData.depth]; omega)
  have e4 : SeqAt.shaped (.list []) = true := by decide
  unfold fEq fEqB
  rw [e1, e2]
  simp only [e3, e4, and_self, if_true, Option.map_some]
  congr 3
  cases xs with
  | nil =>
    cases ds with
    | nil => rfl
    | cons d ds => simp at h4
  | cons x xs =>
    cases ds with
    | nil => simp at h4
    | cons d ds => rfl
theorem fEq_of {a b : Val} {d e : PyData} (h1 : FL.toD 9 st a = some d) (h2 : FL.toD 9 st b = some e) (h3 : SeqAt.shaped d = true) (h4 : SeqAt.shaped e = true) : fEq a b st = some (.bl (PyData.eqv d e), st) := by
  unfold fEq fEqB
  rw [h1, h2]
  simp only [h3, h4, and_self, if_true, Option.map_some]
theorem fNe_of {a b : Val} {d e : PyData} (h1 : FL.toD 9 st a = some d) (h2 : FL.toD 9 st b = some e) (h3 : SeqAt.shaped d = true) (h4 : SeqAt.shaped e = true) : fNe a b st = some (.bl (!PyData.eqv d e), st) := by
  unfold fNe fEqB
  rw [h1, h2]
  simp only [h3, h4, and_self, if_true, Option.map_some]
@[simp] theorem fEq_int {i j : Int} : fEq (.int i) (.int j) st = some (.bl (decide (i = j)), st) := by
  rw [fEq_of rfl rfl rfl rfl]
  simp only [PyData.eqv, Bool.beq_eq_decide_eq]
@[simp] theorem fNe_int {i j : Int} : fNe (.int i) (.int j) st = some (.bl (!decide (i = j)), st) := by
  rw [fNe_of rfl rfl rfl rfl]
  simp only [PyData.eqv, Bool.beq_eq_decide_eq]
@[simp] theorem fEq_bl {i j : Bool} : fEq (.bl i) (.bl j) st = some (.bl (i == j), st) := by
  rw [fEq_of rfl rfl rfl rfl]
  simp only [PyData.eqv]
def isTup : Val → Bool
  | .tup _ => true
  | _ => false
def isInt : Val → Bool
  | .int _ => true
  | .bl _ => true
  | _ => false
def isBl : Val → Bool
  | .bl _ => true
  | _ => false
def isStr : Val → Bool
  | .str _ => true
  | _ => false
theorem tyN_gd {n : Nat} {v : Val} (h : Gd B c st n v) : ∃ t, tyN st v = some t ∧ isSub t "tuple" = some (isTup v) ∧ isSub t "int" = some (isInt v) ∧ isSub t "bool" = some (isBl v) ∧ isSub t "str" = some (isStr v) := by
  cases v with
  | ref i =>
    cases n with
    | zero => exact h.elim
    | succ n =>
      obtain ⟨_, xs, h2, _⟩ := h
      refine ⟨"list", ?_, rfl, rfl, rfl, rfl⟩
      show (match st[i]? with | some (Ob.lst _) => some "list" | some (Ob.dic _) => some "dict" | _ => none) = _
      rw [h2]
  | scr ns => cases n <;> exact h.elim
  | ty ns => cases n <;> exact h.elim
  | _ => exact ⟨_, rfl, rfl, rfl, rfl, rfl⟩
theorem isi_tup {n : Nat} {v : Val} (h : Gd B c st n v) : fIsi [v, .ty "tuple"] st = some (.bl (isTup v), st) := by
  obtain ⟨t, h1, h2, h3, h4, h5⟩ := tyN_gd h
  exact fIsi_eq (by unfold isiB; rw [h1]; exact h2)
theorem isi_int {n : Nat} {v : Val} (h : Gd B c st n v) : fIsi [v, .ty "int"] st = some (.bl (isInt v), st) := by
  obtain ⟨t, h1, h2, h3, h4, h5⟩ := tyN_gd h
  exact fIsi_eq (by unfold isiB; rw [h1]; exact h3)
theorem isi_bl {n : Nat} {v : Val} (h : Gd B c st n v) : fIsi [v, .ty "bool"] st = some (.bl (isBl v), st) := by
  obtain ⟨t, h1, h2, h3, h4, h5⟩ := tyN_gd h
  exact fIsi_eq (by unfold isiB; rw [h1]; exact h4)
theorem isi_str {n : Nat} {v : Val} (h : Gd B c st n v) : fIsi [v, .ty "str"] st = some (.bl (isStr v), st) := by
  obtain ⟨t, h1, h2, h3, h4, h5⟩ := tyN_gd h
  exact fIsi_eq (by unfold isiB; rw [h1]; exact h5)
@[simp] theorem isi_bl_bl {b : Bool} : fIsi [.bl b, .ty "bool"] st = some (.bl true, st) := rfl
end
end FL
/-! PL5: more of the calculus. -/
namespace FL
open PySem L2
section
variable {sl : Sl} {st : Sto} {v : Val} {PS : RS → Prop} {G : EP'}
@[simp ↓] theorem wT_unl {Q : Sl → Sto → Prop} {g : FGs} {k : Nat} : wT (gUnL g k) v sl st Q ↔ ∃ p xs, v = .ref p ∧ st[p]? = some (Ob.lst xs) ∧ xs.length = k ∧ wTs g xs sl st Q := by
  unfold wTs wT gUnL
  constructor
  · rintro ⟨sl2, st2, h1, q⟩
    split at h1
    · rename_i p
      split at h1
      · rename_i xs h5
        split at h1
        · rename_i hl
          exact ⟨p, xs, rfl, h5, hl, _, _, h1, q⟩
        · cases h1
      · cases h1
    · cases h1
  · rintro ⟨p, xs, rfl, h5, hl, sl2, st2, h1, q⟩
    exact ⟨sl2, st2, by simp only [h5, if_pos hl]; exact h1, q⟩
@[simp ↓] theorem wS_par {i j : Nat} {m : FA} : wS (fPar i j m) sl st PS ↔ wX m sl st (fun vs st1 => ∃ v w, vs = [v, w] ∧ PS (.nx ((sl.set i (some v)).set j (some w)) st1)) (fun c st' => PS (.ex c sl st')) := by
  unfold fPar
  rw [wS_bnd]
  refine wX_congr fun x st' => ?_
  unfold wS
  constructor
  · rintro ⟨r, h1, q⟩
    split at h1
    · cases h1
      exact ⟨_, _, rfl, q⟩
    · cases h1
  · rintro ⟨v, w, rfl, q⟩
    exact ⟨_, rfl, q⟩
@[simp ↓] theorem wS_par3 {i j l : Nat} {m : FA} : wS (fPar3 i j l m) sl st PS ↔ wX m sl st (fun vs st1 => ∃ u v w, vs = [u, v, w] ∧ PS (.nx (((sl.set i (some u)).set j (some v)).set l (some w)) st1)) (fun c st' => PS (.ex c sl st')) := by
  unfold fPar3
  rw [wS_bnd]
  refine wX_congr fun x st' => ?_
  unfold wS
  constructor
  · rintro ⟨r, h1, q⟩
    split at h1
    · cases h1
      exact ⟨_, _, _, rfl, q⟩
    · cases h1
  · rintro ⟨u, v, w, rfl, q⟩
    exact ⟨_, rfl, q⟩
@[simp ↓] theorem wX_zip {mas : FA} {Q : Itb → Sto → Prop} : wX (fZip mas) sl st Q G ↔ wX mas sl st (fun vs st' => ∃ p q xs ys, vs = [.ref p, .ref q] ∧ st'[p]? = some (Ob.lst xs) ∧ st'[q]? = some (Ob.lst ys) ∧ Q ⟨zipV xs ys, .two p xs q ys⟩ st') G := by
  simp only [fZip, wX_bnd]
  refine wX_congr fun x st' => ?_
  unfold wX
  constructor
  · rintro ⟨r, h1, q⟩
    split at h1
    · dsimp only at h1
      split at h1
      · rename_i h5 h6
        cases h1
        exact ⟨_, _, _, _, rfl, h5, h6, q⟩
      · cases h1
    · cases h1
  · rintro ⟨p, q, xs, ys, rfl, h5, h6, hq⟩
    exact ⟨.ok _ st', by simp only [h5, h6], hq⟩
/-- a while: an invariant by the turns that are left at most -/
theorem whileL_run {c : FT} {body : FS} {I : Nat → Sl → Sto → Prop} (turn : ∀ n sl st, I n sl st → wX c sl st (fun b st1 => if b = true then ∃ m, n = m + 1 ∧ wS body sl st1 (lpP (I m) PS) else PS (.nx sl st1)) G0) :
    ∀ (n : Nat) (sl : Sl) (st : Sto), I n sl st → ∃ k r, whileL c body k sl st = some r ∧ PS r
  | n, sl, st, hi => by
    obtain ⟨b, st1, h1, h2⟩ := ok_of (turn n sl st hi)
    cases b with
    | false =>
      have h3 : PS (.nx sl st1) := by simpa using h2
      exact ⟨1, .nx sl st1, by show bndS c _ sl st = _; unfold bndS; rw [h1]; rfl, h3⟩
    | true =>
      have h3 : ∃ m, n = m + 1 ∧ wS body sl st1 (lpP (I m) PS) := by simpa using h2
      obtain ⟨m, rfl, r, h4, h5⟩ := h3
      have go : ∀ k, whileL c body (k + 1) sl st = match body sl st1 with
          | some (.nx sl2 st2) => whileL c body k sl2 st2
          | some (.ct sl2 st2) => whileL c body k sl2 st2
          | some (.bk sl2 st2) => some (.nx sl2 st2)
          | r => r := fun k => by
        show bndS c _ sl st = _
        unfold bndS
        rw [h1]
        rfl
      cases r with
      | nx sl2 st2 =>
        obtain ⟨k, r, h6, h7⟩ := whileL_run turn m sl2 st2 h5
        exact ⟨k + 1, r, by rw [go, h4]; exact h6, h7⟩
      | ct sl2 st2 =>
        obtain ⟨k, r, h6, h7⟩ := whileL_run turn m sl2 st2 h5
        exact ⟨k + 1, r, by rw [go, h4]; exact h6, h7⟩
      | bk sl2 st2 => exact ⟨1, _, by rw [go, h4], h5⟩
      | rt v st2 => exact ⟨1, _, by rw [go, h4], h5⟩
      | ex c' sl2 st2 => exact ⟨1, _, by rw [go, h4], h5⟩
theorem whileL_mono {c : FT} {body : FS} : ∀ (n m : Nat) (sl : Sl) (st : Sto) (r : RS), whileL c body n sl st = some r → whileL c body m sl st = some r ∨ m < n
  | 0, m, sl, st, r, h => by cases h
  | n + 1, 0, sl, st, r, h => .inr (Nat.succ_pos _)
  | n + 1, m + 1, sl, st, r, h => by
    have h0 : bndS c (fun b => if b then fun sl st => match body sl st with
      | some (.nx sl2 st2) => whileL c body n sl2 st2
      | some (.ct sl2 st2) => whileL c body n sl2 st2
      | some (.bk sl2 st2) => some (.nx sl2 st2)
      | r => r else fun sl st => some (.nx sl st)) sl st = some r := h
    show bndS c (fun b => if b then fun sl st => match body sl st with
      | some (.nx sl2 st2) => whileL c body m sl2 st2
      | some (.ct sl2 st2) => whileL c body m sl2 st2
      | some (.bk sl2 st2) => some (.nx sl2 st2)
      | r => r else fun sl st => some (.nx sl st)) sl st = some r ∨ _
    unfold bndS at h0 ⊢
    cases h1 : c sl st with
    | none => rw [h1] at h0; cases h0
    | some x =>
      rw [h1] at h0
      cases x with
      | ex e st1 => exact .inl h0
      | ok b st1 =>
        cases b with
        | false => exact .inl h0
        | true =>
          have h2 : (match body sl st1 with
            | some (.nx sl2 st2) => whileL c body n sl2 st2
            | some (.ct sl2 st2) => whileL c body n sl2 st2
            | some (.bk sl2 st2) => some (.nx sl2 st2)
            | r => r) = some r := h0
          show (match body sl st1 with
            | some (.nx sl2 st2) => whileL c body m sl2 st2
            | some (.ct sl2 st2) => whileL c body m sl2 st2
            | some (.bk sl2 st2) => some (.nx sl2 st2)
            | r => r) = some r ∨ _
          cases h3 : body sl st1 with
          | none => rw [h3] at h2; cases h2
          | some y =>
            rw [h3] at h2
            cases y with
            | nx sl2 st2 =>
              rcases whileL_mono n m sl2 st2 r h2 with z | z
              · exact .inl z
              · exact .inr (by omega)
            | ct sl2 st2 =>
              rcases whileL_mono n m sl2 st2 r h2 with z | z
              · exact .inl z
              · exact .inr (by omega)
            | bk sl2 st2 => exact .inl h2
            | rt v st2 => exact .inl h2
            | ex c' sl2 st2 => exact .inl h2
/-- what is to be shown of a while -/
theorem wS_while {c : FT} {body : FS} (I : Nat → Sl → Sto → Prop) (n : Nat) (h0 : I n sl st) (turn : ∀ n sl st, I n sl st → wX c sl st (fun b st1 => if b = true then ∃ m, n = m + 1 ∧ wS body sl st1 (lpP (I m) PS) else PS (.nx sl st1)) G0) : wS (fWhile c body) sl st PS := by
  obtain ⟨k, r, h1, h2⟩ := whileL_run turn n sl st h0
  refine ⟨r, ?_, h2⟩
  have hex : ∃ n r, whileL c body n sl st = some r := ⟨k, r, h1⟩
  unfold fWhile
  rw [dif_pos hex]
  obtain ⟨r', h3⟩ := hex.choose_spec
  rcases Nat.lt_or_ge hex.choose k with z | z
  · rcases whileL_mono _ k sl st r' h3 with y | y
    · rw [h1] at y
      cases y
      exact h3
    · omega
  · rcases whileL_mono k hex.choose sl st r h1 with y | y
    · exact y
    · omega
/-! ### alike -/
variable {B : Nat → Prop} {c n : Nat} {xs : List Val}
theorem fNe_same (g : Gd B c st n v) (hn : n < 9) : fNe v v st = some (.bl false, st) := by
  obtain ⟨d, h1, h2, h3⟩ := g.toD hn
  obtain ⟨d1, e1, h4, h5, h6⟩ := fEqB_gd g g hn hn
  rw [h1] at h4 h5
  cases h4
  cases h5
  unfold fNe
  rw [h6, PySem.SeqAt.eqv_refl d h2]
  rfl
theorem fNe_fEq {a b : Val} {k : Bool} (h : fEq a b st = some (.bl k, st)) : fNe a b st = some (.bl (!k), st) := by
  obtain ⟨e, h1, h2⟩ := Option.map_eq_some_iff.mp h
  cases h2
  unfold fNe
  rw [h1]
  rfl
theorem fNe_nil {p q : Nat} (h1 : st[p]? = some (Ob.lst xs)) (h2 : st[q]? = some (Ob.lst [])) (hx : ∀ x ∈ xs, Gd B c st n x) (hn : n < 8) : fNe (.ref p) (.ref q) st = some (.bl (!decide (xs = [])), st) := fNe_fEq (fEq_nil h1 h2 hx hn)
theorem fNe_lst {p q : Nat} (h1 : st[p]? = some (Ob.lst xs)) (h2 : st[q]? = some (Ob.lst xs)) (hx : ∀ x ∈ xs, Gd (fun _ => False) c st n x) (hl : xs.length ≤ c) (hn : n < 8) : fNe (.ref p) (.ref q) st = some (.bl false, st) := by
  have g1 : Gd (fun _ => False) c st (n + 1) (.ref p) := ⟨fun z => z, xs, h1, hl, hx⟩
  have g2 : Gd (fun _ => False) c st (n + 1) (.ref q) := ⟨fun z => z, xs, h2, hl, hx⟩
  obtain ⟨d, e1, e2, e3⟩ := g1.toD (m := 9) (by omega)
  have e4 : FL.toD 9 st (.ref q) = some d := by
    rw [← e1]
    show (match st[q]? with | some (Ob.lst xs) => (mapO (FL.toD 8 st) xs).map PyData.list | _ => none) = (match st[p]? with | some (Ob.lst xs) => (mapO (FL.toD 8 st) xs).map PyData.list | _ => none)
    rw [h1, h2]
  have sh := shaped_of e2 (by omega)
  unfold fNe fEqB
  rw [e1, e4]
  simp only [sh, and_self, if_true, Option.map_some, PySem.SeqAt.eqv_refl d e2]
  rfl
theorem pop_last {p : Nat} {x : Val} (h : st[p]? = some (Ob.lst (xs ++ [x]))) : onL gPop (.ref p) [] st = some (x, st.set p (Ob.lst xs)) := by
  rw [onL_ref h]
  unfold gPop
  simp
end
end FL
/-! TX1: texts as flat lists of signs and line feeds: rows, places, cuts. -/
namespace TX
/-- the rows of a flat text -/
def T : List Nat → List (List Nat)
  | [] => [[]]
  | c :: s => if c = 10 then [] :: T s else (c :: (T s).headD []) :: (T s).tail
def J : List (List Nat) → List Nat
  | [] => []
  | [r] => r
  | r :: q :: l => r ++ 10 :: J (q :: l)
theorem T_ne (s : List Nat) : T s ≠ [] := by
  cases s with
  | nil => simp [T]
  | cons c s => unfold T; split <;> simp
theorem T_ht (s : List Nat) : T s = (T s).headD [] :: (T s).tail := by
  cases h : T s with
  | nil => exact absurd h (T_ne s)
  | cons a l => rfl
theorem T_len (s : List Nat) : 1 ≤ (T s).length := List.length_pos_iff.mpr (T_ne s)
/-- the last row -/
def la : List (List Nat) → List Nat
  | [] => []
  | [a] => a
  | _ :: b :: l => la (b :: l)
theorem la_app : ∀ {l m : List (List Nat)}, m ≠ [] → la (l ++ m) = la m
  | [], m, _ => rfl
  | [a], m, h => by
    cases m with
    | nil => exact absurd rfl h
    | cons b m => rfl
  | a :: b :: l, m, h => by
    show la (b :: l ++ m) = _
    exact la_app h
@[simp] theorem la_snoc {l : List (List Nat)} {a : List Nat} : la (l ++ [a]) = a := la_app (by simp)
@[simp] theorem la_two {l : List (List Nat)} {a b : List Nat} : la (a :: b :: l) = la (b :: l) := rfl
@[simp] theorem la_one {a : List Nat} : la [a] = a := rfl
theorem dl_last : ∀ {l : List (List Nat)}, l ≠ [] → l.dropLast ++ [la l] = l
  | [], h => absurd rfl h
  | [a], _ => rfl
  | a :: b :: l, _ => by
    show a :: ((b :: l).dropLast ++ [la (b :: l)]) = _
    rw [dl_last (by simp)]
theorem T_last (s : List Nat) : (T s).dropLast ++ [la (T s)] = T s := dl_last (T_ne s)
theorem T_app : ∀ (x y : List Nat), T (x ++ y) = (T x).dropLast ++ (la (T x) ++ (T y).headD []) :: (T y).tail
  | [], y => by
    show T y = ([] : List (List Nat)) ++ ([] ++ (T y).headD []) :: (T y).tail
    exact T_ht y
  | c :: x, y => by
    have ih := T_app x y
    show T (c :: (x ++ y)) = _
    by_cases h : c = 10
    · simp only [T, h, if_true]
      rw [ih]
      obtain ⟨a, l, e⟩ : ∃ a l, T x = a :: l := ⟨_, _, T_ht x⟩
      rw [e]
      simp
    · simp only [T, h, if_false]
      rw [ih]
      obtain ⟨a, l, e⟩ : ∃ a l, T x = a :: l := ⟨_, _, T_ht x⟩
      rw [e]
      cases l with
      | nil => simp
      | cons b l => simp
theorem JT : ∀ s : List Nat, J (T s) = s
  | [] => rfl
  | c :: s => by
    have ih := JT s
    obtain ⟨a, l, e⟩ : ∃ a l, T s = a :: l := ⟨_, _, T_ht s⟩
    rw [e] at ih
    unfold T
    split
    · rename_i h
      rw [e, h]
      show [] ++ 10 :: J (a :: l) = _
      rw [ih]
      rfl
    · rw [e]
      show J ((c :: a) :: l) = _
      cases l with
      | nil =>
        show c :: a = _
        rw [← ih]
        rfl
      | cons b l =>
        show (c :: a) ++ 10 :: J (b :: l) = _
        rw [← ih]
        rfl
theorem T_inj {s t : List Nat} (h : T s = T t) : s = t := by rw [← JT s, h, JT t]
theorem T_row : ∀ {r : List Nat}, 10 ∉ r → T r = [r]
  | [], _ => rfl
  | c :: r, h => by
    have h1 : c ≠ 10 := fun z => h (by rw [z]; exact List.mem_cons_self)
    unfold T
    rw [if_neg h1, T_row fun z => h (List.mem_cons_of_mem _ z)]
    rfl
theorem T_lf (t : List Nat) : T (10 :: t) = [] :: T t := by simp [T]
theorem TJ : ∀ {ss : List (List Nat)}, ss ≠ [] → (∀ r ∈ ss, 10 ∉ r) → T (J ss) = ss
  | [], h, _ => absurd rfl h
  | [r], _, h => T_row (h r List.mem_cons_self)
  | r :: q :: l, _, h => by
    show T (r ++ 10 :: J (q :: l)) = _
    rw [T_app, T_row (h r List.mem_cons_self), T_lf, TJ (by simp) fun x hx => h x (List.mem_cons_of_mem _ hx)]
    simp
theorem T_no10 : ∀ (s : List Nat), ∀ r ∈ T s, 10 ∉ r
  | [], r, h => by simp [T] at h; subst h; simp
  | c :: s, r, h => by
    have ih := T_no10 s
    unfold T at h
    split at h
    · rcases List.mem_cons.mp h with e | e
      · rw [e]; simp
      · exact ih r e
    · rename_i hc
      rcases List.mem_cons.mp h with e | e
      · rw [e]
        have h2 := ih ((T s).headD []) (by rw [T_ht s]; exact List.mem_cons_self)
        intro z
        rcases List.mem_cons.mp z with z | z
        · exact hc z.symm
        · exact h2 z
      · exact ih r (List.mem_of_mem_tail e)
/-- how many line feeds -/
def nl (s : List Nat) : Nat := (T s).length - 1
/-- what stands behind the last -/
def co (s : List Nat) : Nat := (la (T s)).length
theorem len_T (s : List Nat) : (T s).length = nl s + 1 := by
  have := T_len s
  unfold nl
  omega
theorem nl_app (x y : List Nat) : nl (x ++ y) = nl x + nl y := by
  have h1 := T_len x
  have h2 := T_len y
  unfold nl
  rw [T_app]
  simp
theorem co_app0 {x y : List Nat} (h : nl y = 0) : co (x ++ y) = co x + y.length := by
  obtain ⟨a, l, e⟩ : ∃ a l, T y = a :: l := ⟨_, _, T_ht y⟩
  have hl : l = [] := by
    unfold nl at h
    rw [e] at h
    simpa using h
  subst hl
  have e2 : y = a := by
    have := JT y
    rw [e] at this
    exact this.symm
  unfold co
  rw [T_app, e, e2]
  simp
theorem co_app1 {x y : List Nat} (h : nl y ≠ 0) : co (x ++ y) = co y := by
  obtain ⟨a, l, e⟩ : ∃ a l, T y = a :: l := ⟨_, _, T_ht y⟩
  cases l with
  | nil =>
    unfold nl at h
    rw [e] at h
    simp at h
  | cons b l =>
    unfold co
    rw [T_app, e]
    simp only [List.tail_cons, la_two]
    rw [la_app (by simp)]
    rfl
/-! rows at a cut: x ++ y -/
theorem take_T (x y : List Nat) : (T (x ++ y)).take (nl x) = (T x).dropLast := by
  rw [T_app]
  have h : nl x = (T x).dropLast.length := by simp [nl]
  rw [h, List.take_left]
theorem drop_T (x y : List Nat) : (T (x ++ y)).drop (nl x) = (la (T x) ++ (T y).headD []) :: (T y).tail := by
  rw [T_app]
  have h : nl x = (T x).dropLast.length := by simp [nl]
  rw [h, List.drop_left]
theorem drop1_T (x y : List Nat) : (T (x ++ y)).drop (nl x + 1) = (T y).tail := by
  have := congrArg (List.drop 1) (drop_T x y)
  rw [List.drop_drop] at this
  simpa using this
theorem at_T (x y : List Nat) : (T (x ++ y))[nl x]? = some (la (T x) ++ (T y).headD []) := by
  have := congrArg (fun l => l[0]?) (drop_T x y)
  simp only [List.getElem?_drop] at this
  simpa using this
theorem take1_T (x y : List Nat) : (T (x ++ y)).take (nl x + 1) = (T x).dropLast ++ [la (T x) ++ (T y).headD []] := by
  rw [List.take_succ, take_T, at_T]
  rfl
theorem lt_T (x y : List Nat) : nl x < (T (x ++ y)).length := by
  rw [len_T, nl_app]
  omega
/-! order of places -/
theorem co_le {x y : List Nat} (h : nl y = 0) : co x ≤ co (x ++ y) := by
  rw [co_app0 h]
  omega
/-- lexicographic -/
def pLt (p q : Nat × Nat) : Prop := p.1 < q.1 ∨ p.1 = q.1 ∧ p.2 < q.2
def pl (s : List Nat) (n : Nat) : Nat × Nat := (nl (s.take n), co (s.take n))
theorem pl_app {x y : List Nat} : pl (x ++ y) x.length = (nl x, co x) := by
  unfold pl
  rw [List.take_left]
theorem pl_mono {s : List Nat} {n m : Nat} (h : n < m) (hm : m ≤ s.length) : pLt (pl s n) (pl s m) := by
  have e : s.take m = s.take n ++ (s.take m).drop n := by
    have := List.take_append_drop n (s.take m)
    rw [List.take_take, Nat.min_eq_left (Nat.le_of_lt h)] at this
    exact this.symm
  have hw : 0 < ((s.take m).drop n).length := by
    rw [List.length_drop, List.length_take]
    omega
  generalize (s.take m).drop n = w at e hw
  unfold pl pLt
  rw [e]
  simp only
  rw [nl_app]
  by_cases h0 : nl w = 0
  · right
    rw [co_app0 h0]
    omega
  · left
    omega
theorem pl_lt {s : List Nat} {n m : Nat} (hn : n ≤ s.length) (hm : m ≤ s.length) : pLt (pl s n) (pl s m) ↔ n < m := by
  constructor
  · intro h
    rcases Nat.lt_trichotomy n m with z | z | z
    · exact z
    · subst z
      unfold pLt at h
      omega
    · have := pl_mono z hn
      unfold pLt at h this
      omega
  · intro h
    exact pl_mono h hm
theorem pl_eq {s : List Nat} {n m : Nat} (hn : n ≤ s.length) (hm : m ≤ s.length) : pl s n = pl s m ↔ n = m := by
  constructor
  · intro h
    rcases Nat.lt_trichotomy n m with z | z | z
    · have := pl_mono z hm
      rw [h] at this
      unfold pLt at this
      omega
    · exact z
    · have := pl_mono z hn
      rw [h] at this
      unfold pLt at this
      omega
  · intro h
    rw [h]
/-- a place of the rows is one of the flat text -/
theorem pl_of {s : List Nat} {r c : Nat} {row : List Nat} (h1 : (T s)[r]? = some row) (h2 : c ≤ row.length) : ∃ n, n ≤ s.length ∧ pl s n = (r, c) := by
  have hr : r < (T s).length := (List.getElem?_eq_some_iff.mp h1).1
  have no := T_no10 s
  have hrow : row ∈ T s := List.mem_of_getElem? h1
  have cut : T s = (T s).take r ++ row :: (T s).drop (r + 1) := by
    have := List.take_append_drop r (T s)
    rw [List.drop_eq_getElem_cons hr] at this
    rw [List.getElem?_eq_getElem hr] at h1
    cases h1
    exact this.symm
  obtain ⟨x, hx⟩ : ∃ x, T x = (T s).take r ++ [row.take c] := ⟨_, TJ (by simp) fun q hq => by
    rcases List.mem_append.mp hq with h | h
    · exact no q (List.mem_of_mem_take h)
    · rw [List.mem_singleton.mp h]
      exact fun z => no row hrow (List.mem_of_mem_take z)⟩
  obtain ⟨y, hy⟩ : ∃ y, T y = row.drop c :: (T s).drop (r + 1) := ⟨_, TJ (by simp) fun q hq => by
    rcases List.mem_cons.mp hq with h | h
    · rw [h]
      exact fun z => no row hrow (List.mem_of_mem_drop z)
    · exact no q (List.mem_of_mem_drop h)⟩
  have e : x ++ y = s := T_inj (by
    rw [T_app, hx, hy]
    simp
    exact cut.symm)
  refine ⟨x.length, by rw [← e]; simp, ?_⟩
  rw [← e, pl_app]
  unfold nl co
  rw [hx]
  simp
  omega
end TX
namespace K03
open PySem PySem.Spec PyProof.Rows L2 FL
noncomputable def MF_is_int : FS :=
  (fRet (fAndV (fCall fIsi (fCons (fVar 0) (fCons (fC (.ty "int")) fNil))) (fNotV (fCall fIsi (fCons (fVar 0) (fCons (fC (.ty "bool")) fNil))))))
noncomputable def F_is_int : FF := runF 1 1 MF_is_int
noncomputable def MF_is_whole : FS :=
  (fRet (fAndV (fCallF F_is_int (fCons (fVar 0) fNil)) (fChain fLe fLe (fVar 1) (fVar 0) (fVar 2))))
noncomputable def F_is_whole : FF := runF 3 3 MF_is_whole
noncomputable def MF_are_signs : FS :=
  (fRet (fAndV (fCall fIsi (fCons (fVar 0) (fCons (fC (.ty "str")) fNil))) (fCall fAll (fCons (fLc (fIt (fVar 0)) (gSet 1) fYes (fAndV (fChain fLe fLe (fC (.str [32])) (fVar 1) (fC (.str [126]))) (fOp fNe (fCall fOrd (fCons (fVar 1) fNil)) (fC (.int 37)))) [1]) fNil))))
noncomputable def F_are_signs : FF := runF 1 2 MF_are_signs
noncomputable def MF_is_text : FS :=
  (fSeq (fIfS (fOr (fNot (fB (fCall fIsi (fCons (fVar 0) (fCons (fC (.ty "tuple")) fNil))))) (fNot (fB (fChain fLe fLe (fC (.int 1)) (fCall fLen (fCons (fVar 0) fNil)) (fC (.int 200)))))) (fRet (fC (.bl false))) fSkip)
  (fRet (fCall fAll (fCons (fLc (fIt (fVar 0)) (gSet 1) fYes (fAndV (fCallF F_are_signs (fCons (fVar 1) fNil)) (fOp fLe (fCall fLen (fCons (fVar 1) fNil)) (fC (.int 120)))) [1]) fNil))))
noncomputable def F_is_text : FF := runF 1 2 MF_is_text
noncomputable def MF_is_place : FS :=
  (fSeq (fIfS (fOr (fNot (fB (fCall fIsi (fCons (fVar 1) (fCons (fC (.ty "tuple")) fNil))))) (fOr (fB (fOp fNe (fCall fLen (fCons (fVar 1) fNil)) (fC (.int 2)))) (fNot (fB (fCallF F_is_whole (fCons (fOp fIx (fVar 1) (fC (.int 0))) (fCons (fC (.int 0)) (fCons (fOp fSub (fCall fLen (fCons (fVar 0) fNil)) (fC (.int 1))) fNil)))))))) (fRet (fC (.bl false))) fSkip)
  (fRet (fCallF F_is_whole (fCons (fOp fIx (fVar 1) (fC (.int 1))) (fCons (fC (.int 0)) (fCons (fCall fLen (fCons (fOp fIx (fVar 0) (fOp fIx (fVar 1) (fC (.int 0)))) fNil)) fNil))))))
noncomputable def F_is_place : FF := runF 2 2 MF_is_place
noncomputable def MF_span_text : FS :=
  (fSeq (fSet 3 (fCall fListOf (fCons (fSlice fSl (fVar 0) (fPart (fOp fIx (fVar 1) (fC (.int 0)))) (fPart (fOp fAdd (fOp fIx (fVar 2) (fC (.int 0))) (fC (.int 1))))) fNil)))
  (fSeq (fAsg (fSlice fSl (fOp fIx (fVar 3) (fNeg (fC (.int 1)))) fNoPart (fPart (fOp fIx (fVar 2) (fC (.int 1))))) (gIx fSetI (fVar 3) (fNeg (fC (.int 1)))))
  (fSeq (fAsg (fSlice fSl (fOp fIx (fVar 3) (fC (.int 0))) (fPart (fOp fIx (fVar 1) (fC (.int 1)))) fNoPart) (gIx fSetI (fVar 3) (fC (.int 0))))
  (fRet (fCall fTupOf (fCons (fVar 3) fNil))))))
noncomputable def F_span_text : FF := runF 3 4 MF_span_text
noncomputable def MF_end_of : FS :=
  (fSeq (fSet 2 (fIf (fB (fOp fEq (fCall fLen (fCons (fVar 1) fNil)) (fC (.int 1)))) (fOp fIx (fVar 0) (fC (.int 1))) (fC (.int 0))))
  (fRet (fTup (fCons (fOp fSub (fOp fAdd (fOp fIx (fVar 0) (fC (.int 0))) (fCall fLen (fCons (fVar 1) fNil))) (fC (.int 1))) (fCons (fOp fAdd (fVar 2) (fCall fLen (fCons (fOp fIx (fVar 1) (fNeg (fC (.int 1)))) fNil))) fNil)))))
noncomputable def F_end_of : FF := runF 2 3 MF_end_of
noncomputable def MF_edited : FS :=
  (fSeq (fAsg (fVar 1) (gTupl (gAnd (gSet 4) (gAnd (gSet 5) (gAnd (gSet 6) gNo))) 3))
  (fSeq (fSet 2 (fCall fListOf (fCons (fVar 6) fNil)))
  (fSeq (fAsg (fOp fAdd (fSlice fSl (fOp fIx (fVar 0) (fOp fIx (fVar 4) (fC (.int 0)))) fNoPart (fPart (fOp fIx (fVar 4) (fC (.int 1))))) (fOp fIx (fVar 2) (fC (.int 0)))) (gIx fSetI (fVar 2) (fC (.int 0))))
  (fSeq (fAsg (fOp fAdd (fOp fIx (fVar 2) (fNeg (fC (.int 1)))) (fSlice fSl (fOp fIx (fVar 0) (fOp fIx (fVar 5) (fC (.int 0)))) (fPart (fOp fIx (fVar 5) (fC (.int 1)))) fNoPart)) (gIx fSetI (fVar 2) (fNeg (fC (.int 1)))))
  (fSeq (fSet 3 (fOp fAdd (fOp fAdd (fSlice fSl (fVar 0) fNoPart (fPart (fOp fIx (fVar 4) (fC (.int 0))))) (fCall fTupOf (fCons (fVar 2) fNil))) (fSlice fSl (fVar 0) (fPart (fOp fAdd (fOp fIx (fVar 5) (fC (.int 0))) (fC (.int 1)))) fNoPart)))
  (fSeq (fIfS (fNot (fB (fCallF F_is_text (fCons (fVar 3) fNil)))) fNever fSkip)
  (fRet (fVar 3))))))))
noncomputable def F_edited : FF := runF 2 7 MF_edited
noncomputable def MF_taken_back : FS :=
  (fSeq (fAsg (fVar 1) (gTupl (gAnd (gSet 2) (gAnd (gSet 3) (gAnd (gSet 4) gNo))) 3))
  (fRet (fTup (fCons (fVar 2) (fCons (fCallF F_end_of (fCons (fVar 2) (fCons (fVar 4) fNil))) (fCons (fCallF F_span_text (fCons (fVar 0) (fCons (fVar 2) (fCons (fVar 3) fNil)))) fNil))))))
noncomputable def F_taken_back : FF := runF 2 5 MF_taken_back
noncomputable def MF_carried : FS :=
  (fSeq (fAsg (fVar 1) (gTupl (gAnd (gSet 3) (gAnd (gSet 4) (gAnd (gSet 5) gNo))) 3))
  (fSeq (fIfS (fB (fOp fLe (fVar 0) (fVar 3))) (fRet (fVar 0)) fSkip)
  (fSeq (fIfS (fB (fOp fLt (fVar 0) (fVar 4))) (fRet (fVar 3)) fSkip)
  (fSeq (fSet 2 (fCallF F_end_of (fCons (fVar 3) (fCons (fVar 5) fNil))))
  (fSeq (fIfS (fB (fOp fEq (fOp fIx (fVar 0) (fC (.int 0))) (fOp fIx (fVar 4) (fC (.int 0))))) (fRet (fTup (fCons (fOp fIx (fVar 2) (fC (.int 0))) (fCons (fOp fSub (fOp fAdd (fOp fIx (fVar 2) (fC (.int 1))) (fOp fIx (fVar 0) (fC (.int 1)))) (fOp fIx (fVar 4) (fC (.int 1)))) fNil)))) fSkip)
  (fRet (fTup (fCons (fOp fSub (fOp fAdd (fOp fIx (fVar 0) (fC (.int 0))) (fOp fIx (fVar 2) (fC (.int 0)))) (fOp fIx (fVar 4) (fC (.int 0)))) (fCons (fOp fIx (fVar 0) (fC (.int 1))) fNil)))))))))
noncomputable def F_carried : FF := runF 2 6 MF_carried
noncomputable def T0L_well : FS :=
  (fSeq (fSet 3 (fLst (fCons (fC (.int 2147483647)) (fCons (fC (.int 2147483629)) (fCons (fC (.int 2147483587)) (fCons (fC (.int 2147483579)) (fCons (fC (.int 2147483563)) (fCons (fC (.int 2147483549)) (fCons (fC (.int 2147483543)) (fCons (fC (.int 2147483497)) fNil))))))))))
  (fSeq (fSet 4 (fOp fMod (fOp fMul (fOp fAdd (fOp fMod (fVar 2) (fC (.int 2147483489))) (fC (.int 1))) (fOp fAdd (fC (.int 48271)) (fOp fMul (fC (.int 2)) (fVar 1)))) (fC (.int 2147483489))))
  (fSeq (fSet 4 (fOp fAdd (fOp fAdd (fOp fMod (fOp fMul (fVar 4) (fVar 4)) (fC (.int 2147483477))) (fVar 1)) (fC (.int 1))))
  (fSeq (fIfS (fB (fOp fGe (fVar 2) (fOp fPow (fC (.int 10)) (fC (.int 18))))) (fRet (fLst (fCons (fVar 2) (fCons (fVar 4) (fCons (fOp fIx (fVar 3) (fOp fMod (fVar 1) (fC (.int 8)))) fNil))))) fSkip)
  (fRet (fLst (fCons (fC (.int 0)) (fCons (fVar 4) (fCons (fOp fIx (fVar 3) (fOp fMod (fVar 1) (fC (.int 8)))) fNil)))))))))
noncomputable def ML_well : FS :=
  (fSeq (fSet 2 (fC (.int 0)))
  (fSeq (fIfS (fB (fOp fLt (fVar 1) (fCall fLen (fCons (fVar 0) fNil)))) (fSet 2 (fOp fIx (fVar 0) (fVar 1))) fSkip)
  T0L_well))
noncomputable def L_well : FF := runF 2 5 ML_well
noncomputable def ML_take : FS :=
  (fSeq (fIfS (fB (fOp fGt (fOp fIx (fVar 0) (fC (.int 0))) (fC (.int 0)))) (fSeq (fSet 2 (fOp fMod (fOp fIx (fVar 0) (fC (.int 0))) (fVar 1)))
  (fSeq (fAsg (fOp fDiv (fOp fIx (fVar 0) (fC (.int 0))) (fVar 1)) (gIx fSetI (fVar 0) (fC (.int 0))))
  (fRet (fVar 2)))) fSkip)
  (fSeq (fAsg (fOp fAdd (fOp fMod (fOp fMul (fOp fIx (fVar 0) (fC (.int 1))) (fC (.int 48271))) (fOp fIx (fVar 0) (fC (.int 2)))) (fC (.int 1))) (gIx fSetI (fVar 0) (fC (.int 1))))
  (fRet (fOp fMod (fOp fDiv (fOp fMod (fOp fMul (fOp fIx (fVar 0) (fC (.int 1))) (fOp fIx (fVar 0) (fC (.int 1)))) (fC (.int 2147483423))) (fC (.int 7))) (fVar 1)))))
noncomputable def L_take : FF := runF 2 3 ML_take
noncomputable def ML_row : FS :=
  (fSeq (fSet 1 (fLst (fCons (fC (.str [97, 98])) (fCons (fC (.str [70, 111, 111, 95, 49])) (fCons (fC (.str [32])) (fCons (fC (.str [32])) (fCons (fC (.str [32, 32])) (fCons (fC (.str [40])) (fCons (fC (.str [41])) (fCons (fC (.str [91, 120, 93])) (fCons (fC (.str [34])) (fCons (fC (.str [45, 45])) (fCons (fC (.str [122, 57])) (fCons (fC (.str [97])) (fCons (fC (.str [123])) (fCons (fC (.str [125])) (fCons (fC (.str [98, 32, 98])) (fCons (fC (.str [44])) (fCons (fC (.str [81])) fNil)))))))))))))))))))
  (fSeq (fSet 2 (fCallF L_take (fCons (fVar 0) (fCons (fOp fIx (fLst (fCons (fC (.int 3)) (fCons (fC (.int 9)) fNil))) (fCallF L_take (fCons (fVar 0) (fCons (fC (.int 2)) fNil)))) fNil))))
  (fRet (fMt "str" (fJoin) (fC (.str [])) (fCons (fLc (fRng1 (fCons (fVar 2) fNil)) (gSet 3) fYes (fOp fIx (fVar 1) (fCallF L_take (fCons (fVar 0) (fCons (fC (.int 17)) fNil)))) [3]) fNil)))))
noncomputable def L_row : FF := runF 1 4 ML_row
noncomputable def ML_text : FS :=
  (fSeq (fSet 2 (fLst fNil))
  (fSeq (fFor (fRng1 (fCons (fOp fAdd (fC (.int 1)) (fCallF L_take (fCons (fVar 0) (fCons (fVar 1) fNil)))) fNil)) (gSet 3) (fExpr (fMt "list" (onL gAppend) (fVar 2) (fCons (fIf (fB (fOp fEq (fCallF L_take (fCons (fVar 0) (fCons (fC (.int 5)) fNil))) (fC (.int 0)))) (fC (.str [])) (fCallF L_row (fCons (fVar 0) fNil))) fNil))))
  (fRet (fCall fTupOf (fCons (fVar 2) fNil)))))
noncomputable def L_text : FF := runF 2 4 ML_text
noncomputable def ML_place : FS :=
  (fSeq (fSet 2 (fCallF L_take (fCons (fVar 0) (fCons (fCall fLen (fCons (fVar 1) fNil)) fNil))))
  (fRet (fTup (fCons (fVar 2) (fCons (fCallF L_take (fCons (fVar 0) (fCons (fOp fAdd (fCall fLen (fCons (fOp fIx (fVar 1) (fVar 2)) fNil)) (fC (.int 1))) fNil))) fNil)))))
noncomputable def L_place : FF := runF 2 3 ML_place
noncomputable def ML_cut : FS :=
  (fSeq (fIfS (fB (fOp fEq (fOp fIx (fVar 1) (fC (.int 0))) (fOp fIx (fVar 2) (fC (.int 0))))) (fRet (fTup (fCons (fSlice fSl (fOp fIx (fVar 0) (fOp fIx (fVar 1) (fC (.int 0)))) (fPart (fOp fIx (fVar 1) (fC (.int 1)))) (fPart (fOp fIx (fVar 2) (fC (.int 1))))) fNil))) fSkip)
  (fSeq (fSet 3 (fLst (fCons (fSlice fSl (fOp fIx (fVar 0) (fOp fIx (fVar 1) (fC (.int 0)))) (fPart (fOp fIx (fVar 1) (fC (.int 1)))) fNoPart) fNil)))
  (fSeq (fFor (fRng2 (fCons (fOp fAdd (fOp fIx (fVar 1) (fC (.int 0))) (fC (.int 1))) (fCons (fOp fIx (fVar 2) (fC (.int 0))) fNil))) (gSet 4) (fExpr (fMt "list" (onL gAppend) (fVar 3) (fCons (fOp fIx (fVar 0) (fVar 4)) fNil))))
  (fRet (fCall fTupOf (fCons (fOp fAdd (fVar 3) (fLst (fCons (fSlice fSl (fOp fIx (fVar 0) (fOp fIx (fVar 2) (fC (.int 0)))) fNoPart (fPart (fOp fIx (fVar 2) (fC (.int 1))))) fNil))) fNil))))))
noncomputable def L_cut : FF := runF 3 5 ML_cut
noncomputable def T0L_edit : FS :=
  (fSeq (fSet 2 (fIf (fB (fOp fGt (fCallF L_take (fCons (fVar 0) (fCons (fC (.int 3)) fNil))) (fC (.int 0)))) (fCallF L_text (fCons (fVar 0) (fCons (fC (.int 3)) fNil))) (fTup (fCons (fC (.str [])) fNil))))
  (fRet (fTup (fCons (fVar 3) (fCons (fVar 4) (fCons (fVar 2) fNil))))))
noncomputable def ML_edit : FS :=
  (fSeq (fAsg (fCall fSortP (fCons (fLst (fCons (fCallF L_place (fCons (fVar 0) (fCons (fVar 1) fNil))) (fCons (fCallF L_place (fCons (fVar 0) (fCons (fVar 1) fNil))) fNil))) fNil)) (gUnL (gAnd (gSet 3) (gAnd (gSet 4) gNo)) 2))
  (fSeq (fIfS (fB (fOp fEq (fCallF L_take (fCons (fVar 0) (fCons (fC (.int 3)) fNil))) (fC (.int 0)))) (fSet 4 (fVar 3)) fSkip)
  T0L_edit))
noncomputable def L_edit : FF := runF 2 5 ML_edit
noncomputable def T0L_too_long : FS :=
  (fRet (fOp fGt (fCall fMaxL (fCons (fLc (fIt (fVar 2)) (gSet 6) fYes (fCall fLen (fCons (fVar 6) fNil)) [6]) fNil)) (fC (.int 120))))
noncomputable def ML_too_long : FS :=
  (fSeq (fAsg (fVar 1) (gTupl (gAnd (gSet 3) (gAnd (gSet 4) (gAnd (gSet 5) gNo))) 3))
  (fSeq (fSet 2 (fLc (fIt (fVar 5)) (gSet 6) fYes (fVar 6) [6]))
  (fSeq (fAsg (fOp fAdd (fSlice fSl (fOp fIx (fVar 0) (fOp fIx (fVar 3) (fC (.int 0)))) fNoPart (fPart (fOp fIx (fVar 3) (fC (.int 1))))) (fOp fIx (fVar 2) (fC (.int 0)))) (gIx fSetI (fVar 2) (fC (.int 0))))
  (fSeq (fAsg (fOp fAdd (fOp fIx (fVar 2) (fNeg (fC (.int 1)))) (fSlice fSl (fOp fIx (fVar 0) (fOp fIx (fVar 4) (fC (.int 0)))) (fPart (fOp fIx (fVar 4) (fC (.int 1)))) fNoPart)) (gIx fSetI (fVar 2) (fNeg (fC (.int 1)))))
  T0L_too_long))))
noncomputable def L_too_long : FF := runF 2 7 ML_too_long
noncomputable def ML_rest : FS :=
  (fRet (fCallF L_cut (fCons (fVar 0) (fCons (fVar 1) (fCons (fTup (fCons (fOp fSub (fCall fLen (fCons (fVar 0) fNil)) (fC (.int 1))) (fCons (fCall fLen (fCons (fOp fIx (fVar 0) (fNeg (fC (.int 1)))) fNil)) fNil))) fNil)))))
noncomputable def L_rest : FF := runF 2 2 ML_rest
noncomputable def T6F_law : FS :=
  (fIfS (fB (fOp fNe (fVar 3) (fMt0 "list" (onL gPop) (fVar 5)))) (fRet (fC (.bl false))) fSkip)
noncomputable def T4F_law : FS :=
  (fWhile (fB (fOp fNe (fVar 5) (fLst fNil))) (fSeq (fSet 3 (fCallF F_edited (fCons (fVar 3) (fCons (fMt0 "list" (onL gPop) (fVar 6)) fNil))))
  T6F_law))
noncomputable def T3F_law : FS :=
  (fSeq (fExpr (fMt "list" (onL gAppend) (fVar 5) (fCons (fVar 3) fNil)))
  (fSeq (fExpr (fMt "list" (onL gAppend) (fVar 6) (fCons (fVar 11) fNil)))
  (fSet 3 (fVar 10))))
noncomputable def T5F_law : FS :=
  (fIfS (fAnd (fB (fOp fLe (fVar 12) (fOp fIx (fVar 7) (fC (.int 0))))) (fB (fOp fNe (fVar 13) (fVar 12)))) (fRet (fC (.bl false))) fSkip)
noncomputable def T2F_law : FS :=
  (fSeq (fSet 8 (fCall fSortP (fCons (fLc (fRng1 (fCons (fC (.int 5)) fNil)) (gSet 15) fYes (fCallF L_place (fCons (fVar 2) (fCons (fVar 3) fNil))) [15]) fNil)))
  (fSeq (fSet 9 (fLc (fIt (fVar 8)) (gSet 12) fYes (fCallF F_carried (fCons (fVar 12) (fCons (fVar 7) fNil))) [12]))
  (fSeq (fIfS (fB (fOp fNe (fVar 9) (fCall fSortP (fCons (fVar 9) fNil)))) (fRet (fC (.bl false))) fSkip)
  (fSeq (fIfS (fB (fOp fNe (fLc (fIt (fVar 9)) (gSet 12) (fNot (fB (fCallF F_is_place (fCons (fVar 10) (fCons (fVar 12) fNil))))) (fVar 12) [12]) (fLst fNil))) (fRet (fC (.bl false))) fSkip)
  (fSeq (fFor (fZip (fCons (fVar 8) (fCons (fVar 9) fNil))) (gTupl (gAnd (gSet 12) (gAnd (gSet 13) gNo)) 2) (fSeq (fSet 14 (fAndV (fOp fGt (fVar 12) (fOp fIx (fVar 7) (fC (.int 0)))) (fOp fGe (fVar 12) (fOp fIx (fVar 7) (fC (.int 1))))))
  (fSeq (fIfS (fAnd (fB (fVar 14)) (fB (fOp fNe (fCallF L_rest (fCons (fVar 10) (fCons (fVar 13) fNil))) (fCallF L_rest (fCons (fVar 3) (fCons (fVar 12) fNil)))))) (fRet (fC (.bl false))) fSkip)
  T5F_law)))
  T3F_law)))))
noncomputable def T1F_law : FS :=
  (fSeq (fAsg (fTup (fCons (fCallF F_edited (fCons (fVar 3) (fCons (fVar 7) fNil))) (fCons (fCallF F_taken_back (fCons (fVar 3) (fCons (fVar 7) fNil))) fNil))) (gTupl (gAnd (gSet 10) (gAnd (gSet 11) gNo)) 2))
  (fSeq (fIfS (fOr (fB (fOp fNe (fCallF F_span_text (fCons (fVar 10) (fCons (fOp fIx (fVar 11) (fC (.int 0))) (fCons (fOp fIx (fVar 11) (fC (.int 1))) fNil)))) (fOp fIx (fVar 7) (fC (.int 2))))) (fB (fOp fNe (fOp fIx (fVar 11) (fC (.int 0))) (fOp fIx (fVar 7) (fC (.int 0)))))) (fRet (fC (.bl false))) fSkip)
  (fSeq (fIfS (fOr (fB (fOp fNe (fCallF F_edited (fCons (fVar 10) (fCons (fVar 11) fNil))) (fVar 3))) (fB (fOp fNe (fCallF F_taken_back (fCons (fVar 10) (fCons (fVar 11) fNil))) (fVar 7)))) (fRet (fC (.bl false))) fSkip)
  T2F_law)))
noncomputable def T0F_law : FS :=
  (fSeq (fSet 7 (fCallF L_edit (fCons (fVar 2) (fCons (fVar 3) fNil))))
  (fSeq (fIfS (fB (fCallF L_too_long (fCons (fVar 3) (fCons (fVar 7) fNil)))) (fSet 7 (fTup (fCons (fOp fIx (fVar 7) (fC (.int 0))) (fCons (fOp fIx (fVar 7) (fC (.int 0))) (fCons (fTup (fCons (fC (.str [])) fNil)) fNil))))) fSkip)
  T1F_law))
noncomputable def MF_law : FS :=
  (fSeq (fFor (fRng1 (fCons (fCall fMax2 (fCons (fC (.int 8)) (fCons (fCall fMin2 (fCons (fC (.int 60)) (fCons (fCall fLen (fCons (fVar 0) fNil)) fNil))) fNil))) fNil)) (gSet 1) (fSeq (fSet 2 (fCallF L_well (fCons (fVar 0) (fCons (fVar 1) fNil))))
  (fSeq (fSet 3 (fCallF L_text (fCons (fVar 2) (fCons (fC (.int 5)) fNil))))
  (fSeq (fPar 5 6 (fCons (fLst fNil) (fCons (fLst fNil) fNil)))
  (fSeq (fFor (fRng1 (fCons (fOp fAdd (fC (.int 1)) (fCallF L_take (fCons (fVar 2) (fCons (fC (.int 6)) fNil)))) fNil)) (gSet 4) T0F_law)
  T4F_law)))))
  (fRet (fC (.bl true))))
noncomputable def F_law : FF := runF 1 16 MF_law
end K03
namespace K03
open PySem L2 FL TX
theorem take_spec {w : Nat} {st : Sto} {many : Int} (h : WellAt w st) (h1 : 0 < many) (h2 : many < 1073741824) :
    wF L_take [.ref w, .int many] st (fun v st' => ∃ r, v = .int r ∧ 0 ≤ r ∧ r < many ∧ WellAt w st' ∧ st'.length = st.length ∧ Dr w st st') G0 := by
  obtain ⟨c, s, p, hw, s0, s1, p0, p1⟩ := h
  have hlt := (List.getElem?_eq_some_iff.mp hw).1
  unfold L_take ML_take
  by_cases hc : 0 < c
  · simp [hw, hc, h1, h2]
    exact ⟨Int.emod_nonneg _ (by omega), Int.emod_lt_of_pos _ h1, ⟨_, s, p, by simp [hlt]; rfl, s0, s1, p0, p1⟩, Dr.set _⟩
  · have q1 := Int.emod_nonneg (s * 48271) (b := p) (by omega)
    have q2 := Int.emod_lt_of_pos (s * 48271) p0
    have hw2 : (st.set w (.lst [.int c, .int (s * 48271 % p + 1), .int p]))[w]? = some (.lst [.int c, .int (s * 48271 % p + 1), .int p]) := List.getElem?_set_self hlt
    have l1 : -(2 ^ 64) < s * 48271 % p + 1 := by omega
    have l2 : s * 48271 % p + 1 < 2 ^ 64 := by omega
    simp [hw, hw2, hc, h1, h2, p0, fMul_l l1 l2]
    exact ⟨Int.emod_nonneg _ (by omega), Int.emod_lt_of_pos _ h1, ⟨c, _, p, hw2, by omega, by omega, p0, p1⟩, Dr.set _⟩
def PARTS : List (List Nat) := [[97, 98], [70, 111, 111, 95, 49], [32], [32], [32, 32], [40], [41], [91, 120, 93], [34], [45, 45], [122, 57], [97], [123], [125], [98, 32, 98], [44], [81]]
def Signs (s : List Nat) : Prop := ∀ c ∈ s, 32 ≤ c ∧ c ≤ 126 ∧ c ≠ 37
theorem parts_ok : ∀ s ∈ PARTS, (∀ c ∈ s, 32 ≤ c ∧ c ≤ 126 ∧ c ≠ 37) ∧ s.length ≤ 5 := by decide
theorem sum_le {α : Type} (f : α → Nat) (k : Nat) : ∀ (l : List α), (∀ x ∈ l, f x ≤ k) → (l.map f).sum ≤ l.length * k
  | [], _ => by simp
  | x :: l, h => by
    have h1 := h x List.mem_cons_self
    have h2 := sum_le f k l fun y hy => h y (List.mem_cons_of_mem _ hy)
    simp only [List.map_cons, List.sum_cons, List.length_cons, Nat.add_mul, Nat.one_mul]
    omega
theorem row_spec {w : Nat} {st : Sto} (h : WellAt w st) :
    wF L_row [.ref w] st (fun v st' => ∃ s, v = .str s ∧ Signs s ∧ s.length ≤ 40 ∧ WellAt w st' ∧ Dr w st st') G0 := by
  have hw := h.lt
  unfold L_row ML_row
  simp
  refine (take_spec (h.ap ⟨_, rfl⟩) (by decide) (by decide)).mono ?_
  rintro v st1 ⟨r, rfl, r0, r1, hw1, hl1, d1⟩
  have hB := d1.get (i := st.length + 1) (o := .lst [.int 3, .int 9]) (by omega) (by simp)
  have hA := d1.get (i := st.length) (o := .lst (PARTS.map Val.str)) (by omega) (by simp [PARTS])
  have hN : ∃ n : Int, 0 < n ∧ n ≤ 9 ∧ fIx (.ref (st.length + 1)) (.int r) st1 = some (.int n, st1) := by
    have : r = 0 ∨ r = 1 := by omega
    rcases this with rfl | rfl
    · exact ⟨3, by decide, by decide, by simp [hB]⟩
    · exact ⟨9, by decide, by decide, by simp [hB]⟩
  obtain ⟨n, n0, n9, hn⟩ := hN
  simp [hn]
  refine (take_spec hw1 n0 (by omega)).mono ?_
  rintro v st2 ⟨m, rfl, m0, m1, hw2, hl2, d2⟩
  have hA2 := d2.get (by omega) hA
  simp
  refine wX_lc ?_
  have hm : small62 m := by unfold small62; omega
  simp [hm]
  refine ⟨by simp; omega, fun i acc st3 => WellAt w st3 ∧ Dr w st2 st3 ∧ ∃ ss : List (List Nat), acc = ss.map Val.str ∧ ss.length = i ∧ ∀ s ∈ ss, s ∈ PARTS, ⟨hw2, Dr.refl _ _, [], rfl, rfl, by simp⟩, fun _ _ _ _ _ => live_none, ?_, ?_⟩
  · rintro i x acc st3 hx ⟨hw3, d3, ss, e1, e2, e3⟩
    subst e1
    obtain ⟨hi, rfl⟩ := rngL_get hx
    simp
    refine (take_spec (many := 17) hw3 (by decide) (by decide)).mono ?_
    rintro v st4 ⟨q, rfl, q0, q1, hw4, hl4, d4⟩
    have hA4 := d4.get (by omega) (d3.get (by omega) hA2)
    have hq : q.toNat < PARTS.length := by
      show q.toNat < 17
      omega
    have hl : ((PARTS.map Val.str).length : Int) = 17 := rfl
    simp [hA4, atI_at q0 (show q < ((PARTS.map Val.str).length : Int) by omega)]
    rw [List.getElem?_eq_getElem hq]
    refine ⟨Val.str PARTS[q.toNat], st4, rfl, ?_⟩
    refine ⟨hw4, d3.trans d4, ss ++ [PARTS[q.toNat]], by simp, by simp [e2], ?_⟩
    intro s hs
    rcases List.mem_append.mp hs with h1 | h1
    · exact e3 s h1
    · rw [List.mem_singleton.mp h1]
      exact List.getElem_mem hq
  · rintro acc st3 ⟨hw3, d3, ss, e1, e2, e3⟩
    have e2 : ss.length = m.toNat := by simpa using e2
    subst e1
    have h5 := sum_le List.length 5 ss fun s hs => (parts_ok s (e3 s hs)).2
    have h6 : (ss.map List.length).sum ≤ 40 := by omega
    simp [fJoin_ref (s := []) (st := st3 ++ [Ob.lst (ss.map Val.str)]) (p := st3.length) (ss := ss) (by simp) (by simp only [LINE_def, List.length_nil]; omega)]
    rw [jn_nil]
    refine ⟨fun c hc => ?_, by rw [List.length_flatten]; exact h6, hw3.ap (Ap.one _ _), ?_⟩
    · obtain ⟨s, hs, hc⟩ := List.mem_flatten.mp hc
      exact (parts_ok s (e3 s hs)).1 c hc
    · exact ((((Ap.dr ⟨_, rfl⟩).trans d1).trans d2).trans d3).app _
theorem text_spec {w : Nat} {st : Sto} {most : Int} (h : WellAt w st) (h1 : 0 < most) (h2 : most ≤ 1000) :
    wF L_text [.ref w, .int most] st (fun v st' => ∃ ss : List (List Nat), v = .tup (ss.map .str) ∧ 1 ≤ ss.length ∧ (ss.length : Int) ≤ most ∧ (∀ s ∈ ss, Signs s ∧ s.length ≤ 40) ∧ WellAt w st' ∧ Dr w st st') G0 := by
  have hw := h.lt
  unfold L_text ML_text
  simp
  refine wS_for ?_
  simp
  refine (take_spec (h.ap (Ap.one _ _)) h1 (by omega)).mono ?_
  rintro v st1 ⟨r, rfl, r0, r1, hw1, hl1, d1⟩
  have hA := d1.get (i := st.length) (o := .lst []) (by omega) (by simp)
  have hm : small62 (1 + r) := by unfold small62; omega
  simp [hm]
  refine ⟨fun i sl st3 => (∃ t, sl = [some (.ref w), some (.int most), some (.ref st.length), t]) ∧ WellAt w st3 ∧ Dr w st st3 ∧ ∃ ss : List (List Nat), st3[st.length]? = some (.lst (ss.map Val.str)) ∧ ss.length = i ∧ ∀ s ∈ ss, Signs s ∧ s.length ≤ 40,
    ⟨⟨_, rfl⟩, hw1, (Ap.dr (Ap.one _ _)).trans d1, [], hA, rfl, by simp⟩, fun _ _ _ _ _ => live_none, ?_, ?_⟩
  · rintro i x sl st3 hx ⟨⟨t, rfl⟩, hw3, d3, ss, e1, e2, e3⟩
    obtain ⟨hi, rfl⟩ := rngL_get hx
    have fin : ∀ (s : List Nat) (st4 : Sto), Signs s → s.length ≤ 40 → WellAt w st4 → Dr w st3 st4 → st4[st.length]? = some (.lst (ss.map Val.str)) ∧ WellAt w (st4.set st.length (.lst (ss.map Val.str ++ [.str s]))) ∧ Dr w st (st4.set st.length (.lst (ss.map Val.str ++ [.str s]))) ∧
        ∃ us : List (List Nat), (st4.set st.length (.lst (ss.map Val.str ++ [.str s])))[st.length]? = some (.lst (us.map Val.str)) ∧ us.length = i + 1 ∧ ∀ s ∈ us, Signs s ∧ s.length ≤ 40 := by
      intro s st4 s1 s2 hw4 d4
      have e4 := d4.get (by omega) e1
      refine ⟨e4, hw4.set _ (by omega), (d3.trans d4).new _ (Nat.le_refl _), ss ++ [s], ?_, by simp [e2], ?_⟩
      · rw [List.getElem?_set_self (by have := (List.getElem?_eq_some_iff.mp e4).1; exact this)]
        simp
      · intro u hu
        rcases List.mem_append.mp hu with h5 | h5
        · exact e3 u h5
        · rw [List.mem_singleton.mp h5]
          exact ⟨s1, s2⟩
    have hz : ss.length < 16777216 := by omega
    simp [kind_lst e1]
    refine (take_spec (many := 5) hw3 (by decide) (by decide)).mono ?_
    rintro v st4 ⟨q, rfl, q0, q1, hw4, hl4, d4⟩
    simp
    split
    · obtain ⟨f1, f2⟩ := fin [] st4 (by intro c hc; cases hc) (by decide) hw4 d4
      simp [onL_ref f1, hz]
      exact f2
    · refine (row_spec hw4).mono ?_
      rintro v st5 ⟨s, rfl, s1, s2, hw5, d5⟩
      obtain ⟨f1, f2⟩ := fin s st5 s1 s2 hw5 (d4.trans d5)
      simp [onL_ref f1, hz]
      exact f2
  · rintro sl st3 ⟨⟨t, rfl⟩, hw3, d3, ss, e1, e2, e3⟩
    have e2 : ss.length = (1 + r).toNat := by simpa using e2
    simp [e1]
    exact ⟨ss, rfl, by omega, by omega, e3, hw3, d3⟩
theorem place_spec {w : Nat} {st : Sto} {ss : List (List Nat)} (h : WellAt w st) (h1 : 0 < ss.length) (h2 : ss.length ≤ 1000) (h3 : ∀ s ∈ ss, s.length ≤ 1000) :
    wF L_place [.ref w, .tup (ss.map .str)] st (fun v st' => ∃ (r c : Nat) (s : List Nat), v = .tup [.int r, .int c] ∧ ss[r]? = some s ∧ c ≤ s.length ∧ WellAt w st' ∧ Dr w st st') G0 := by
  unfold L_place ML_place
  simp
  refine (take_spec h (by omega) (by omega)).mono ?_
  rintro v st1 ⟨r, rfl, r0, r1, hw1, hl1, d1⟩
  obtain ⟨r, rfl⟩ := Int.eq_ofNat_of_zero_le r0
  have hr : r < ss.length := by omega
  have hs := h3 _ (List.getElem_mem hr)
  have hz : ss[r].length ≤ 16777216 := by omega
  simp [atI_at (l := ss.map Val.str) (i := (r : Int)) (by omega) (by simpa using r1), hr, hz]
  refine (take_spec hw1 (by omega) (by omega)).mono ?_
  rintro v st2 ⟨c, rfl, c0, c1, hw2, hl2, d2⟩
  obtain ⟨c, rfl⟩ := Int.eq_ofNat_of_zero_le c0
  simp
  exact ⟨r, c, ⟨rfl, rfl⟩, ss[r], by simp [hr], by omega, hw2, d1.trans d2⟩
def signB (c : Nat) : Bool := decide (32 ≤ c) && decide (c ≤ 126) && !decide (c = 37)
def signsB : Val → Bool
  | .str s => s.all signB
  | _ => false
def rowB : Val → Bool
  | .str s => s.all signB && decide (s.length ≤ 120)
  | _ => false
def textB : Val → Bool
  | .tup xs => decide (1 ≤ xs.length ∧ xs.length ≤ 200) && xs.all rowB
  | _ => false
theorem lt1 {a b : Nat} : ([a] : List Nat) < [b] ↔ a < b := by
  rw [List.cons_lt_cons_iff]
  simp
theorem le1 {a b : Nat} : ([a] : List Nat) ≤ [b] ↔ a ≤ b := by
  rw [← List.not_lt, lt1]
  omega
def sgF : Val → Val
  | .str [c] => .bl (signB c)
  | _ => .non
theorem sgF_map (s : List Nat) : ((s.map fun c => Val.str [c]).filter fun _ => true).map sgF = (s.map signB).map Val.bl := by
  rw [List.filter_eq_self.mpr (fun _ _ => rfl), List.map_map, List.map_map]
  rfl
theorem signs_spec {B : Nat → Prop} {c n : Nat} {st : Sto} {v : Val} (g : Gd B c st n v) (hc : c ≤ 1000000) : wF F_are_signs [v] st (fun r st' => r = .bl (signsB v) ∧ Ap st st') G0 := by
  unfold F_are_signs MF_are_signs
  simp [isi_str g]
  cases v with
  | str s =>
    have hs : OkS c s := by cases n <;> exact g
    have := hs.1
    simp [isStr]
    refine wX_lc ?_
    simp
    refine LcOb.fm (fun _ => true) sgF (by simp; omega) (fun _ _ => live_none) ?_ ?_
    · intro x hx st1 a1
      simp at hx
      obtain ⟨c, hc, rfl⟩ := hx
      have e : ((c : Int) = 37) ↔ c = 37 := by omega
      simp [Ap.refl, lt1, le1, sgF, signB, e]
      by_cases h1 : 32 ≤ c <;> by_cases h2 : c ≤ 126 <;> by_cases h3 : c = 37 <;> simp [*] <;> omega
    · intro st' a
      simp only [sgF_map]
      simp [signsB]
      exact a.trans (Ap.one _ _)
  | _ => simp [isStr, signsB, Ap.refl]
def rwF : Val → Val := fun x => .bl (rowB x)
theorem rwF_map (xs : List Val) : (xs.filter fun _ => true).map rwF = (xs.map rowB).map Val.bl := by
  rw [List.filter_eq_self.mpr (fun _ _ => rfl), List.map_map]
  rfl
theorem is_text_spec {B : Nat → Prop} {c n : Nat} {st : Sto} {v : Val} (g : Gd B c st n v) (hc : c ≤ 1000000) : wF F_is_text [v] st (fun r st' => r = .bl (textB v) ∧ Ap st st') G0 := by
  unfold F_is_text MF_is_text
  simp [isi_tup g]
  cases v with
  | tup xs =>
    cases n with
    | zero => exact g.elim
    | succ n =>
    simp [isTup]
    by_cases h1 : 1 ≤ xs.length ∧ xs.length ≤ 200
    · have h2 : (1 : Int) ≤ (xs.length : Int) := by omega
      have h3 : (xs.length : Int) ≤ 200 := by omega
      simp [h2, h3]
      refine wX_lc ?_
      simp
      refine LcOb.fm (fun _ => true) rwF (by simp; omega) (fun _ _ => live_none) ?_ ?_
      · intro x hx st1 a1
        have gx := (g.2 x hx).keepA a1
        simp [Ap.refl]
        refine (signs_spec gx hc).mono ?_
        rintro r st2 ⟨rfl, a2⟩
        simp
        cases x with
        | str s =>
          have hs : OkS c s := by cases n <;> exact gx
          have := hs.1
          have h9 : s.length ≤ 16777216 := by omega
          have h8 : ((s.length : Int) ≤ 120) ↔ s.length ≤ 120 := by omega
          cases h7 : s.all signB <;> simp [signsB, rwF, rowB, h9, a2, h7, h8]
        | _ => simp [signsB, rwF, rowB, a2]
      · intro st' a
        simp only [rwF_map]
        simp [textB, h1]
        exact a.trans (Ap.one _ _)
    · have e : textB (.tup xs) = false := by
        show (decide (1 ≤ xs.length ∧ xs.length ≤ 200) && xs.all rowB) = false
        rw [decide_eq_false h1]
        rfl
      by_cases h2 : (1 : Int) ≤ (xs.length : Int)
      · have h3 : ¬ (xs.length : Int) ≤ 200 := by omega
        simp [h2, h3, e, Ap.refl]
      · simp [h2, e, Ap.refl]
  | _ => simp [isTup, textB, Ap.refl]

def wholeB (v : Val) (lo hi : Int) : Bool := match v with
  | .int i => decide (lo ≤ i) && decide (i ≤ hi)
  | _ => false
theorem whole_spec {B : Nat → Prop} {c n : Nat} {st : Sto} {v : Val} {lo hi : Int} (g : Gd B c st n v) : wF F_is_whole [v, .int lo, .int hi] st (fun r st' => r = .bl (wholeB v lo hi) ∧ st' = st) G0 := by
  unfold F_is_whole MF_is_whole F_is_int MF_is_int
  simp [isi_int g, isi_bl g]
  cases v <;> simp [isInt, isBl, wholeB]
  rename_i i
  by_cases h1 : lo ≤ i <;> by_cases h2 : i ≤ hi <;> simp [*]
def placeB (ss : List (List Nat)) (v : Val) : Bool := match v with
  | .tup [.int i, b] => decide (0 ≤ i) && decide (i ≤ ss.length - 1) && wholeB b 0 (ss.getD i.toNat []).length
  | _ => false
theorem is_place_spec {B : Nat → Prop} {c n : Nat} {st : Sto} {v : Val} {ss : List (List Nat)} (g : Gd B c st n v) (h3 : ∀ s ∈ ss, s.length ≤ 1000) : wF F_is_place [.tup (ss.map .str), v] st (fun r st' => r = .bl (placeB ss v) ∧ st' = st) G0 := by
  unfold F_is_place MF_is_place
  simp [isi_tup g]
  cases v with
  | tup xs =>
    cases n with
    | zero => exact g.elim
    | succ n =>
    simp [isTup]
    by_cases hl : xs.length = 2
    · obtain ⟨a, b, rfl⟩ : ∃ a b, xs = [a, b] := by
        match xs, hl with
        | [a, b], _ => exact ⟨a, b, rfl⟩
      have ga := g.2 a (by simp)
      have gb := g.2 b (by simp)
      simp
      refine (whole_spec ga).mono ?_
      rintro r st1 ⟨rfl, rfl⟩
      cases a with
      | int i =>
        simp [wholeB]
        by_cases h1 : 0 ≤ i <;> by_cases h2 : i ≤ (ss.length : Int) - 1 <;> simp [h1, h2, placeB]
        have hi : i.toNat < ss.length := by omega
        have hs := h3 _ (List.getElem_mem hi)
        have hz : ss[i.toNat].length ≤ 16777216 := by omega
        simp [atI_at (l := ss.map Val.str) h1 (by simp; omega), hi, hz]
        refine (whole_spec gb).mono ?_
        rintro r st2 ⟨rfl, rfl⟩
        simp [hi]
        exact fun _ => ⟨h1, h2⟩
      | _ => simp [wholeB, placeB]
    · have h9 : ¬ ((xs.length : Int) = 2) := by omega
      have e : placeB ss (.tup xs) = false := by
        unfold placeB
        split
        · rename_i h
          cases h
          exact absurd rfl hl
        · rfl
      simp [h9, e]
  | _ => simp [isTup, placeB]
theorem well_spec {st : Sto} {ns : List Int} {k : Nat} (hk : k < 64) (hn : ns.length ≤ 63) :
    wF L_well [.scr ns, .int k] st (fun v st' => ∃ w, v = .ref w ∧ st.length ≤ w ∧ WellAt w st' ∧ Ap st st') G0 := by
  unfold L_well ML_well
  have tail : ∀ c : Int, wS (T0L_well) [some (.scr ns), some (.int k), some (.int c), none, none] st (finP (fun v st' => ∃ w, v = .ref w ∧ st.length ≤ w ∧ WellAt w st' ∧ Ap st st') G0) := by
    intro c
    have b1 : -(2 ^ 64) < 48271 + 2 * (k : Int) := by omega
    have b2 : 48271 + 2 * (k : Int) < 2 ^ 64 := by omega
    have b5 : -(2 ^ 64) < (k : Int) := by omega
    have b6 : (k : Int) < 2 ^ 64 := by omega
    obtain ⟨s, hs⟩ : ∃ s, s = (c % 2147483489 + 1) * (48271 + 2 * (k : Int)) % 2147483489 := ⟨_, rfl⟩
    have s0 : 0 ≤ s := by rw [hs]; exact Int.emod_nonneg _ (by decide)
    have s1 : s < 2147483489 := by rw [hs]; exact Int.emod_lt_of_pos _ (by decide)
    have b3 : -(2 ^ 64) < s := by omega
    have b4 : s < 2 ^ 64 := by omega
    have q0 := Int.emod_nonneg (s * s) (b := 2147483477) (by decide)
    have q1 := Int.emod_lt_of_pos (s * s) (b := 2147483477) (by decide)
    have hp : ∃ p : Int, 0 < p ∧ p ≤ 2147483647 ∧ L2.atI [Val.int 2147483647, .int 2147483629, .int 2147483587, .int 2147483579, .int 2147483563, .int 2147483549, .int 2147483543, .int 2147483497] ((k : Int) % 8) = some (.int p) := by
      have : (k : Int) % 8 = 0 ∨ (k : Int) % 8 = 1 ∨ (k : Int) % 8 = 2 ∨ (k : Int) % 8 = 3 ∨ (k : Int) % 8 = 4 ∨ (k : Int) % 8 = 5 ∨ (k : Int) % 8 = 6 ∨ (k : Int) % 8 = 7 := by omega
      rcases this with e | e | e | e | e | e | e | e <;> rw [e] <;> exact ⟨_, by decide, by decide, rfl⟩
    obtain ⟨p, p0, p1, hp⟩ := hp
    have well : ∀ c' : Int, WellAt (st.length + 1) (st ++ [.lst [.int 2147483647, .int 2147483629, .int 2147483587, .int 2147483579, .int 2147483563, .int 2147483549, .int 2147483543, .int 2147483497], .lst [.int c', .int (s * s % 2147483477 + k + 1), .int p]]) := fun c' => ⟨c', s * s % 2147483477 + k + 1, p, by simp, by omega, by omega, p0, p1⟩
    unfold T0L_well
    simp [fMul_r b1 b2, ← hs, fMul_r b3 b4, fMul_r b5 b6, hp]
    by_cases hc : (1000000000000000000 : Int) ≤ c <;> simp [hc, hp] <;> exact ⟨well _, ⟨_, rfl⟩⟩
  simp
  by_cases h1 : k < ns.length
  · simp [h1]
    rw [atI_at (by omega) (by omega)]
    simp [h1]
    exact tail _
  · simp [h1]
    exact tail 0
def tx (s : List Nat) : Val := .tup ((T s).map .str)
def pv (x : List Nat) : Val := .tup [.int (nl x), .int (co x)]
theorem row_len : ∀ (s : List Nat), ∀ r ∈ T s, r.length ≤ s.length
  | [], r, h => by simp [T] at h; subst h; simp
  | c :: s, r, h => by
    have ih := row_len s
    unfold T at h
    split at h
    · rcases List.mem_cons.mp h with e | e
      · rw [e]; simp
      · have := ih r e
        simp
        omega
    · rcases List.mem_cons.mp h with e | e
      · rw [e]
        have := ih ((T s).headD []) (by rw [T_ht s]; exact List.mem_cons_self)
        simp at this ⊢
        omega
      · have := ih r (List.mem_of_mem_tail e)
        simp
        omega
theorem nl_len : ∀ (s : List Nat), nl s ≤ s.length
  | [] => Nat.le_refl _
  | c :: s => by
    have ih := nl_len s
    have : c :: s = [c] ++ s := rfl
    rw [this, nl_app]
    have : nl [c] ≤ 1 := by
      unfold nl T
      split <;> simp [T]
    simp
    omega
theorem cut_map {α β : Type} {f : α → β} {xs : List α} {lo hi : Option Int} : cutG (xs.map f) lo hi = (cutG xs lo hi).map f := by
  unfold cutG
  rw [List.length_map, List.map_take, List.map_drop]
theorem cut_nat {α : Type} {xs : List α} {a b : Nat} : cutG xs (some (a : Int)) (some (b : Int)) = (xs.take b).drop a := by
  unfold cutG
  rw [HT.sIx_nat, HT.sIx_nat]
  refine List.ext_getElem? fun i => ?_
  simp only [List.getElem?_take, List.getElem?_drop]
  by_cases h1 : a ≤ xs.length
  · rw [Nat.min_eq_left h1]
    by_cases h2 : i < min b xs.length - a
    · rw [if_pos h2, if_pos (by omega)]
    · rw [if_neg h2]
      by_cases h3 : a + i < b
      · rw [if_pos h3, List.getElem?_eq_none (by omega)]
      · rw [if_neg h3]
  · rw [if_neg (by omega)]
    by_cases h3 : a + i < b
    · rw [if_pos h3, List.getElem?_eq_none (by omega)]
    · rw [if_neg h3]
theorem cut_to {α : Type} {xs : List α} {n : Nat} : cutG xs none (some (n : Int)) = xs.take n := by
  have : cutG xs none (some (n : Int)) = cutG xs (some ((0 : Nat) : Int)) (some (n : Int)) := by
    unfold cutG
    rw [HT.sIx_nat xs.length 0 0, HT.sIx_none, Nat.zero_min]
  rw [this, cut_nat]
  rfl
theorem cut_from {α : Type} {xs : List α} {n : Nat} : cutG xs (some (n : Int)) none = xs.drop n := by
  have : cutG xs (some (n : Int)) none = cutG xs (some (n : Int)) (some (xs.length : Int)) := by
    unfold cutG
    rw [HT.sIx_nat xs.length xs.length xs.length, HT.sIx_none, Nat.min_self]
  rw [this, cut_nat, List.take_length]
theorem slice1 {α : Type} {X Z : List α} {r : α} {n : Nat} (h : X.length = n) : cutG (X ++ r :: Z) (some (n : Int)) (some ((n : Int) + 1)) = [r] := by
  subst h
  have e : ((X.length : Int) + 1) = ((X.length + 1 : Nat) : Int) := by omega
  rw [e, cut_nat, List.take_append, List.take_of_length_le (by omega)]
  simp
theorem slice2 {α : Type} {X M Z : List α} {r t : α} {n k : Nat} (h : X.length = n) (h2 : M.length = k) : cutG (X ++ r :: (M ++ t :: Z)) (some (n : Int)) (some ((n : Int) + (k : Int) + 1 + 1)) = r :: (M ++ [t]) := by
  subst h h2
  have e : ((X.length : Int) + (M.length : Int) + 1 + 1) = ((X.length + (M.length + 2) : Nat) : Int) := by omega
  rw [e, cut_nat, List.take_append, List.take_of_length_le (by omega)]
  have e2 : X.length + (M.length + 2) - X.length = (M.length + 1) + 1 := by omega
  rw [e2, List.take_succ_cons, List.take_append, List.take_of_length_le (by omega)]
  have e3 : M.length + 1 - M.length = 0 + 1 := by omega
  rw [e3, List.take_succ_cons, List.take_zero, List.drop_left]
theorem c1 {p m q : List Nat} : cutG (p ++ (m ++ q)) none (some ((p.length : Int) + (m.length : Int))) = p ++ m := by
  have e : (p.length : Int) + (m.length : Int) = ((p ++ m).length : Int) := by simp
  rw [e, cut_to, ← List.append_assoc, List.take_left]
theorem c2 {p m : List Nat} : cutG (p ++ m) none (some (p.length : Int)) = p := by rw [cut_to, List.take_left]
theorem c3 {p m : List Nat} : cutG (p ++ m) (some (p.length : Int)) none = m := by rw [cut_from, List.drop_left]
theorem c4 {p m q : List Nat} : cutG (p ++ (m ++ q)) (some ((p.length : Int) + (m.length : Int))) none = q := by
  have e : (p.length : Int) + (m.length : Int) = ((p ++ m).length : Int) := by simp
  rw [e, cut_from, ← List.append_assoc, List.drop_left]
/-- a text cut at two places: within one row, or over some -/
theorem shape_of {x z : List Nat} {X Z : List (List Nat)} {p q : List Nat} (e1 : T x = X ++ [p]) (e2 : T z = q :: Z) (w : List Nat) :
    (∃ m, T w = [m] ∧ nl (x ++ w) = X.length ∧ co (x ++ w) = p.length + m.length ∧ T (x ++ w ++ z) = X ++ (p ++ (m ++ q)) :: Z) ∨
     (∃ m M l, T w = m :: (M ++ [l]) ∧ nl (x ++ w) = X.length + M.length + 1 ∧ co (x ++ w) = l.length ∧ T (x ++ w ++ z) = X ++ (p ++ m) :: (M ++ (l ++ q) :: Z)) := by
  have a1 := T_app x w
  have a2 := T_app (x ++ w) z
  rw [e1, List.dropLast_concat, la_snoc] at a1
  rw [e2] at a2
  obtain ⟨m, l0, e⟩ : ∃ a l, T w = a :: l := ⟨_, _, T_ht w⟩
  rw [e] at a1
  rcases List.eq_nil_or_concat l0 with h | ⟨M, l, h⟩
  · subst h
    left
    have a1' : T (x ++ w) = X ++ [p ++ m] := by rw [a1]; rfl
    refine ⟨m, e, by unfold nl; rw [a1']; simp, by unfold co; rw [a1']; simp, ?_⟩
    rw [a2, a1']
    simp
  · rw [List.concat_eq_append] at h
    subst h
    right
    have a1' : T (x ++ w) = (X ++ (p ++ m) :: M) ++ [l] := by rw [a1]; simp
    refine ⟨m, M, l, e, by unfold nl; rw [a1']; simp; omega, by unfold co; rw [a1', la_snoc], ?_⟩
    rw [a2, a1', List.dropLast_concat, la_snoc]
    simp
theorem ends_of (x z : List Nat) : ∃ X p q Z, T x = X ++ [p] ∧ T z = q :: Z ∧ nl x = X.length ∧ co x = p.length :=
  ⟨(T x).dropLast, la (T x), (T z).headD [], (T z).tail, (T_last x).symm, T_ht z, by simp [nl], rfl⟩
theorem shape (x w z : List Nat) : ∃ X p q Z, T x = X ++ [p] ∧ T z = q :: Z ∧ nl x = X.length ∧ co x = p.length ∧
    ((∃ m, T w = [m] ∧ nl (x ++ w) = X.length ∧ co (x ++ w) = p.length + m.length ∧ T (x ++ w ++ z) = X ++ (p ++ (m ++ q)) :: Z) ∨
     (∃ m M l, T w = m :: (M ++ [l]) ∧ nl (x ++ w) = X.length + M.length + 1 ∧ co (x ++ w) = l.length ∧ T (x ++ w ++ z) = X ++ (p ++ m) :: (M ++ (l ++ q) :: Z))) := by
  obtain ⟨X, p, q, Z, e1, e2, e3, e4⟩ := ends_of x z
  exact ⟨X, p, q, Z, e1, e2, e3, e4, shape_of e1 e2 w⟩
theorem at_last {α : Type} {l : List α} {a : α} : L2.atI (l ++ [a]) (-1) = some a := L2.atI_last _ _
theorem at_last2 {α : Type} {l : List α} {a b : α} : L2.atI (b :: (l ++ [a])) (-1) = some a := L2.atI_last (b :: l) a
theorem ix_last2 {α : Type} {l : List α} {a b : α} : ixN (b :: (l ++ [a])).length (-1) = some (l.length + 1) := by
  unfold ixN
  simp
  omega
theorem at_one {α : Type} {a : α} : L2.atI [a] (-1) = some a := rfl
theorem ixN_one : ixN 1 (-1) = some 0 := rfl
theorem ixN_last {n : Nat} : ixN (n + 1 + 1) (-1) = some (n + 1) := by
  unfold ixN
  simp
  omega
theorem set_last {α : Type} {l : List α} {a b c : α} {n : Nat} (h : l.length = n) : (b :: (l ++ [a])).set (n + 1) c = b :: (l ++ [c]) := by
  subst h
  simp
theorem span_spec {x w z : List Nat} {st : Sto} (h : (x ++ (w ++ z)).length ≤ 100000) : wF F_span_text [tx (x ++ (w ++ z)), pv x, pv (x ++ w)] st (fun v st' => v = tx w ∧ Ap st st') G0 := by
  rw [← List.append_assoc] at h ⊢
  have rl := row_len (x ++ w ++ z)
  obtain ⟨X, p, q, Z, e1, e2, e3, e4, ⟨m, e5, e6, e7, e8⟩ | ⟨m, M, l, e5, e6, e7, e8⟩⟩ := shape x w z
  · have k1 := rl (p ++ (m ++ q)) (by rw [e8]; simp)
    have k2 : p.length + (m.length + q.length) ≤ 16777216 := by simp at k1 h; omega
    have k3 : p.length + m.length ≤ 16777216 := by omega
    unfold F_span_text MF_span_text tx pv
    rw [e8, e5, e3, e4, e6, e7]
    simp [slice1, c1, c2, c3, k2, k3, at_one, ixN_one]
    exact Ap.one _ _
  · have k1 := rl (l ++ q) (by rw [e8]; simp)
    have k0 := rl (p ++ m) (by rw [e8]; simp)
    have k2 : l.length + q.length ≤ 16777216 := by simp at k1 h; omega
    have k3 : p.length + m.length ≤ 16777216 := by simp at k0 h; omega
    unfold F_span_text MF_span_text tx pv
    rw [e8, e5, e3, e4, e6, e7]
    simp [slice2, at_last2, c1, c2, c3, c4, k2, k3, ixN_last, set_last]
    exact Ap.one _ _
theorem at1 {α : Type} {X Z : List α} {r : α} {n : Nat} (h : X.length = n) : L2.atI (X ++ r :: Z) (n : Int) = some r := by
  subst h
  rw [atI_at (by omega) (by simp; omega)]
  simp
theorem at2 {α : Type} {X M Z : List α} {r t : α} {n k : Nat} (h : X.length = n) (h2 : M.length = k) : L2.atI (X ++ r :: (M ++ t :: Z)) ((n : Int) + (k : Int) + 1) = some t := by
  subst h h2
  have e : ((X.length : Int) + (M.length : Int) + 1) = ((X.length + (M.length + 1) : Nat) : Int) := by omega
  rw [e, atI_at (by omega) (by simp; omega), Int.toNat_natCast, List.getElem?_append_right (by omega)]
  have e2 : X.length + (M.length + 1) - X.length = M.length + 1 := by omega
  rw [e2, List.getElem?_cons_succ, List.getElem?_append_right (by omega)]
  simp
theorem s_to {α : Type} {X Z : List α} {n : Nat} (h : X.length = n) : cutG (X ++ Z) none (some (n : Int)) = X := by
  subst h
  rw [cut_to, List.take_left]
theorem s_from1 {α : Type} {X Z : List α} {r : α} {n : Nat} (h : X.length = n) : cutG (X ++ r :: Z) (some ((n : Int) + 1)) none = Z := by
  subst h
  have e : ((X.length : Int) + 1) = ((X ++ [r]).length : Int) := by simp
  have e2 : X ++ r :: Z = (X ++ [r]) ++ Z := by simp
  rw [e, e2, cut_from, List.drop_left]
theorem s_from2 {α : Type} {X M Z : List α} {r t : α} {n k : Nat} (h : X.length = n) (h2 : M.length = k) : cutG (X ++ r :: (M ++ t :: Z)) (some ((n : Int) + (k : Int) + 1 + 1)) none = Z := by
  subst h h2
  have e : ((X.length : Int) + (M.length : Int) + 1 + 1) = ((X ++ r :: (M ++ [t])).length : Int) := by simp; omega
  have e2 : X ++ r :: (M ++ t :: Z) = (X ++ r :: (M ++ [t])) ++ Z := by simp
  rw [e, e2, cut_from, List.drop_left]
theorem end_of_spec {x n : List Nat} {st : Sto} (h : n.length ≤ 100000) : wF F_end_of [pv x, tx n] st (fun v st' => v = pv (x ++ n) ∧ st' = st) G0 := by
  have rl := row_len n
  obtain ⟨X, p, q, Z, e1, e2, e3, e4, ⟨m, e5, e6, e7, e8⟩ | ⟨m, M, l, e5, e6, e7, e8⟩⟩ := shape x n []
  · have k1 := rl m (by rw [e5]; simp)
    have k2 : m.length ≤ 16777216 := by omega
    unfold F_end_of MF_end_of tx pv
    rw [e5, e3, e4, e6, e7]
    simp [k2, at_one]
  · have k1 := rl l (by rw [e5]; simp)
    have k2 : l.length ≤ 16777216 := by omega
    unfold F_end_of MF_end_of tx pv
    rw [e5, e3, e4, e6, e7]
    simp [k2, at_last2]
    rw [if_neg (by omega)]
    omega
theorem taken_back_spec {x w z n : List Nat} {st : Sto} (h : (x ++ (w ++ z)).length ≤ 100000) (hn : n.length ≤ 100000) : wF F_taken_back [tx (x ++ (w ++ z)), .tup [pv x, pv (x ++ w), tx n]] st (fun v st' => v = .tup [pv x, pv (x ++ n), tx w] ∧ Ap st st') G0 := by
  unfold F_taken_back MF_taken_back
  simp
  refine ⟨_, _, ⟨rfl, rfl⟩, _, _, rfl, _, _, rfl, rfl, ?_⟩
  refine (end_of_spec hn).mono ?_
  rintro v st1 ⟨rfl, rfl⟩
  simp
  refine (span_spec h).mono ?_
  rintro v st1 ⟨rfl, d⟩
  simp
  exact d
/-- a text as they are: at most R rows, each of signs -/
def OkT (R : Nat) (s : List Nat) : Prop := (T s).length ≤ R ∧ ∀ r ∈ T s, Signs r ∧ r.length ≤ 120
theorem OkT.gd {R : Nat} {s : List Nat} (h : OkT R s) (hR : R ≤ 1000) {B : Nat → Prop} {st : Sto} : Gd B 1000 st 7 (tx s) := ⟨by simp; have := h.1; omega, fun v hv => by
  obtain ⟨r, hr, rfl⟩ := List.mem_map.mp hv
  obtain ⟨h1, h2⟩ := h.2 r hr
  exact ⟨by omega, fun c hc => by have := h1 c hc; omega⟩⟩
theorem OkT.textB {R : Nat} {s : List Nat} (h : OkT R s) (hR : R ≤ 200) : textB (tx s) = true := by
  have h1 := T_len s
  have h2 := h.1
  show (decide (1 ≤ ((T s).map Val.str).length ∧ ((T s).map Val.str).length ≤ 200) && ((T s).map Val.str).all rowB) = true
  rw [decide_eq_true (by rw [List.length_map]; omega), Bool.true_and, List.all_eq_true]
  intro v hv
  obtain ⟨r, hr, rfl⟩ := List.mem_map.mp hv
  obtain ⟨h3, h4⟩ := h.2 r hr
  show (r.all signB && decide (r.length ≤ 120)) = true
  rw [decide_eq_true h4, Bool.and_true, List.all_eq_true]
  intro c hc
  obtain ⟨i1, i2, i3⟩ := h3 c hc
  simp [signB, i1, i2, i3]
theorem edited_spec {x w z n : List Nat} {st : Sto} (h : (x ++ (w ++ z)).length ≤ 100000) (hn : n.length ≤ 100000) (ok : OkT 200 (x ++ (n ++ z))) : wF F_edited [tx (x ++ (w ++ z)), .tup [pv x, pv (x ++ w), tx n]] st (fun v st' => v = tx (x ++ (n ++ z)) ∧ Ap st st') G0 := by
  have fin0 : ∀ st : Sto, wF F_is_text [tx (x ++ (n ++ z))] st (fun v st' => v = .bl true ∧ Ap st st') G0 := fun st => by
    refine (is_text_spec (ok.gd (B := fun _ => False) (by decide)) (by decide)).mono ?_
    rintro v st1 ⟨rfl, d⟩
    exact ⟨by rw [ok.textB (by decide)], d⟩
  have okr := ok.2
  have okl := ok.1
  rw [← List.append_assoc] at h fin0 okr okl ⊢
  rw [← List.append_assoc x n z]
  have rl := row_len (x ++ w ++ z)
  have rn := row_len n
  obtain ⟨X, p, q, Z, e1, e2, e3, e4⟩ := ends_of x z
  have A := shape_of e1 e2 w
  have B := shape_of e1 e2 n
  rcases A with ⟨m, e5, e6, e7, e8⟩ | ⟨m, M, l, e5, e6, e7, e8⟩ <;> rcases B with ⟨k, g5, g6, g7, g8⟩ | ⟨k, K, u, g5, g6, g7, g8⟩
  · have b1 := rl (p ++ (m ++ q)) (by rw [e8]; simp)
    have b2 := (okr (p ++ (k ++ q)) (by rw [g8]; simp)).2
    rw [g8] at okl
    simp only [List.length_append, List.length_cons] at b1 b2 okl h
    have y0 : p.length + (m.length + q.length) ≤ 16777216 := by omega
    have y1 : p.length + k.length ≤ 16777216 := by omega
    have y2 : p.length + k.length + q.length ≤ 16777216 := by omega
    have y3 : X.length + 1 ≤ 16777216 := by omega
    have y4 : X.length + (Z.length + 1) ≤ 16777216 := by omega
    have y5 : X.length + 1 + Z.length ≤ 16777216 := by omega
    unfold tx at fin0
    unfold F_edited MF_edited tx pv
    rw [g8] at fin0 ⊢
    rw [e8, g5, e3, e4, e6, e7]
    simp only [List.map_append, List.map_cons, List.append_assoc] at fin0
    simp [and_assoc, at1, at2, s_to, s_from1, s_from2, c1, c2, c3, c4, at_one, at_last2, ixN_one, ixN_last, set_last, y0, y1, y2, y3, y4, y5]
    refine (fin0 _).mono ?_
    rintro v st1 ⟨rfl, d⟩
    simp
    exact (Ap.one _ _).trans d
  · have b1 := rl (p ++ (m ++ q)) (by rw [e8]; simp)
    have b2 := (okr (p ++ k) (by rw [g8]; simp)).2
    have b2b := (okr (u ++ q) (by rw [g8]; simp)).2
    rw [g8] at okl
    simp only [List.length_append, List.length_cons] at b2b b1 b2 okl h
    have y0 : p.length + (m.length + q.length) ≤ 16777216 := by omega
    have y1 : p.length + k.length ≤ 16777216 := by omega
    have y2 : u.length + q.length ≤ 16777216 := by omega
    have y3 : X.length + (K.length + 1 + 1) ≤ 16777216 := by omega
    have y4 : X.length + (K.length + 1 + 1 + Z.length) ≤ 16777216 := by omega
    have y5 : X.length + (K.length + 1 + 1) + Z.length ≤ 16777216 := by omega
    have y6 : X.length + (K.length + (Z.length + 1) + 1) ≤ 16777216 := by omega
    unfold tx at fin0
    unfold F_edited MF_edited tx pv
    rw [g8] at fin0 ⊢
    rw [e8, g5, e3, e4, e6, e7]
    simp only [List.map_append, List.map_cons, List.append_assoc] at fin0
    simp [and_assoc, at1, at2, s_to, s_from1, s_from2, c1, c2, c3, c4, at_one, at_last2, ixN_one, ixN_last, set_last, y0, y1, y2, y3, y4, y5, y6]
    refine (fin0 _).mono ?_
    rintro v st1 ⟨rfl, d⟩
    simp
    exact (Ap.one _ _).trans d
  · have b1 := rl (p ++ m) (by rw [e8]; simp)
    have b0 := rl (l ++ q) (by rw [e8]; simp)
    have b2 := (okr (p ++ (k ++ q)) (by rw [g8]; simp)).2
    rw [g8] at okl
    simp only [List.length_append, List.length_cons] at b0 b1 b2 okl h
    have y0 : p.length + m.length ≤ 16777216 := by omega
    have y1 : l.length + q.length ≤ 16777216 := by omega
    have y2 : p.length + k.length ≤ 16777216 := by omega
    have y3 : p.length + k.length + q.length ≤ 16777216 := by omega
    have y4 : X.length + 1 ≤ 16777216 := by omega
    have y5 : X.length + (Z.length + 1) ≤ 16777216 := by omega
    have y6 : X.length + 1 + Z.length ≤ 16777216 := by omega
    unfold tx at fin0
    unfold F_edited MF_edited tx pv
    rw [g8] at fin0 ⊢
    rw [e8, g5, e3, e4, e6, e7]
    simp only [List.map_append, List.map_cons, List.append_assoc] at fin0
    simp [and_assoc, at1, at2, s_to, s_from1, s_from2, c1, c2, c3, c4, at_one, at_last2, ixN_one, ixN_last, set_last, y0, y1, y2, y3, y4, y5, y6]
    refine (fin0 _).mono ?_
    rintro v st1 ⟨rfl, d⟩
    simp
    exact (Ap.one _ _).trans d
  · have b1 := rl (p ++ m) (by rw [e8]; simp)
    have b0 := rl (l ++ q) (by rw [e8]; simp)
    have b2 := (okr (p ++ k) (by rw [g8]; simp)).2
    have b2b := (okr (u ++ q) (by rw [g8]; simp)).2
    rw [g8] at okl
    simp only [List.length_append, List.length_cons] at b0 b2b b1 b2 okl h
    have y0 : p.length + m.length ≤ 16777216 := by omega
    have y1 : l.length + q.length ≤ 16777216 := by omega
    have y2 : p.length + k.length ≤ 16777216 := by omega
    have y3 : u.length + q.length ≤ 16777216 := by omega
    have y4 : X.length + (K.length + 1 + 1) ≤ 16777216 := by omega
    have y5 : X.length + (K.length + 1 + 1 + Z.length) ≤ 16777216 := by omega
    have y6 : X.length + (K.length + 1 + 1) + Z.length ≤ 16777216 := by omega
    have y7 : X.length + (K.length + (Z.length + 1) + 1) ≤ 16777216 := by omega
    unfold tx at fin0
    unfold F_edited MF_edited tx pv
    rw [g8] at fin0 ⊢
    rw [e8, g5, e3, e4, e6, e7]
    simp only [List.map_append, List.map_cons, List.append_assoc] at fin0
    simp [and_assoc, at1, at2, s_to, s_from1, s_from2, c1, c2, c3, c4, at_one, at_last2, ixN_one, ixN_last, set_last, y0, y1, y2, y3, y4, y5, y6, y7]
    refine (fin0 _).mono ?_
    rintro v st1 ⟨rfl, d⟩
    simp
    exact (Ap.one _ _).trans d
/-- a longer beginning is a later place -/
theorem later {x y : List Nat} (h : y ≠ []) : nl x < nl (x ++ y) ∨ nl x = nl (x ++ y) ∧ co x < co (x ++ y) := by
  have h1 : 0 < y.length := List.length_pos_iff.mpr h
  rw [nl_app]
  by_cases h0 : nl y = 0
  · right
    rw [co_app0 h0]
    omega
  · left
    omega
theorem later0 (x y : List Nat) : nl x < nl (x ++ y) ∨ nl x = nl (x ++ y) ∧ co x ≤ co (x ++ y) := by
  by_cases h : y = []
  · subst h
    rw [List.append_nil]
    right
    omega
  · have := later (x := x) h
    omega
def leP (a b : List Nat) : Bool := decide (nl a < nl b ∨ nl a = nl b ∧ co a ≤ co b)
def ltP (a b : List Nat) : Bool := decide (nl a < nl b ∨ nl a = nl b ∧ co a < co b)
@[simp] theorem fLe_pv {st : Sto} {a b : List Nat} : fLe (pv a) (pv b) st = some (.bl (leP a b), st) := by
  show some (Val.bl (decide ((nl a : Int) < (nl b : Int) ∨ (nl a : Int) = (nl b : Int) ∧ (co a : Int) ≤ (co b : Int))), st) = _
  exact congrArg (fun b => some (Val.bl b, st)) (decide_eq_decide.mpr (by omega))
@[simp] theorem fLt_pv {st : Sto} {a b : List Nat} : fLt (pv a) (pv b) st = some (.bl (ltP a b), st) := by
  show some (Val.bl (decide ((nl a : Int) < (nl b : Int) ∨ (nl a : Int) = (nl b : Int) ∧ (co a : Int) < (co b : Int))), st) = _
  exact congrArg (fun b => some (Val.bl b, st)) (decide_eq_decide.mpr (by omega))
@[simp] theorem fGe_pv {st : Sto} {a b : List Nat} : fGe (pv a) (pv b) st = some (.bl (leP b a), st) := fLe_pv
@[simp] theorem fGt_pv {st : Sto} {a b : List Nat} : fGt (pv a) (pv b) st = some (.bl (ltP b a), st) := fLt_pv
@[simp] theorem fIx_pv0 {st : Sto} {a : List Nat} : fIx (pv a) (.int 0) st = some (.int (nl a), st) := rfl
@[simp] theorem fIx_pv1 {st : Sto} {a : List Nat} : fIx (pv a) (.int 1) st = some (.int (co a), st) := rfl
theorem leP_app (t y : List Nat) : leP t (t ++ y) = true := decide_eq_true (later0 t y)
theorem ltP_app {t y : List Nat} (h : y ≠ []) : ltP t (t ++ y) = true := decide_eq_true (later h)
theorem leP_no {t y : List Nat} (h : y ≠ []) : leP (t ++ y) t = false := decide_eq_false (by have := later (x := t) h; omega)
theorem ltP_no (t y : List Nat) : ltP (t ++ y) t = false := decide_eq_false (by have := later0 t y; omega)
theorem carried1 {t y w n : List Nat} {st : Sto} : wF F_carried [pv t, .tup [pv (t ++ y), pv w, tx n]] st (fun v st' => v = pv t ∧ st' = st) G0 := by
  unfold F_carried MF_carried
  simp [and_assoc, leP_app]
theorem carried2 {x y w n : List Nat} {st : Sto} (hy : y ≠ []) (hw : w ≠ []) : wF F_carried [pv (x ++ y), .tup [pv x, pv (x ++ (y ++ w)), tx n]] st (fun v st' => v = pv x ∧ st' = st) G0 := by
  have e := ltP_app (t := x ++ y) hw
  rw [List.append_assoc] at e
  unfold F_carried MF_carried
  simp [and_assoc, leP_no hy, e]
theorem carried3 {x w v n : List Nat} {st : Sto} (hv : w ++ v ≠ []) (hn : n.length ≤ 100000) : wF F_carried [pv (x ++ (w ++ v)), .tup [pv x, pv (x ++ w), tx n]] st (fun r st' => r = pv (x ++ (n ++ v)) ∧ st' = st) G0 := by
  have e := ltP_no (x ++ w) v
  rw [List.append_assoc] at e
  have hnl := nl_app (x ++ w) v
  have k1 := nl_app (x ++ n) v
  rw [List.append_assoc] at hnl k1
  unfold F_carried MF_carried
  simp [and_assoc, leP_no hv, e]
  refine (end_of_spec hn).mono ?_
  rintro r st1 ⟨rfl, rfl⟩
  by_cases h0 : nl v = 0
  · have c1 := co_app0 (x := x ++ w) h0
    have c2 := co_app0 (x := x ++ n) h0
    rw [List.append_assoc] at c1 c2
    have e3 : nl (x ++ (w ++ v)) = nl (x ++ w) := by omega
    simp [e3]
    unfold pv
    simp
    omega
  · have c1 := co_app1 (x := x ++ w) h0
    have c2 := co_app1 (x := x ++ n) h0
    rw [List.append_assoc] at c1 c2
    have e3 : ¬ (nl (x ++ (w ++ v)) : Int) = (nl (x ++ w) : Int) := by omega
    simp [e3]
    unfold pv
    simp
    omega
theorem c5 {p m q : List Nat} : cutG (p ++ (m ++ q)) (some (p.length : Int)) (some ((p.length : Int) + (m.length : Int))) = m := by
  have e : (p.length : Int) + (m.length : Int) = ((p ++ m).length : Int) := by simp
  rw [e, cut_nat, ← List.append_assoc, List.take_left, List.drop_left]
/-- whatever was there is there, as it was -/
def Kp (st st' : Sto) : Prop := st.length ≤ st'.length ∧ ∀ (i : Nat) (o : Ob), st[i]? = some o → st'[i]? = some o
theorem Kp.refl (st : Sto) : Kp st st := ⟨Nat.le_refl _, fun _ _ h => h⟩
theorem Kp.trans {a b c : Sto} (h : Kp a b) (k : Kp b c) : Kp a c := ⟨Nat.le_trans h.1 k.1, fun i o e => k.2 i o (h.2 i o e)⟩
theorem Ap.kp {a b : Sto} (h : Ap a b) : Kp a b := ⟨by obtain ⟨l, rfl⟩ := h; simp, fun i o e => h.get e⟩
theorem Kp.new {a b : Sto} {i : Nat} (h : Kp a b) (hi : a.length ≤ i) (o : Ob) : Kp a (b.set i o) := ⟨by rw [List.length_set]; exact h.1, fun j u e => by
  have := (List.getElem?_eq_some_iff.mp e).1
  rw [List.getElem?_set_ne (by omega)]
  exact h.2 j u e⟩
theorem Kp.add {a b : Sto} (h : Kp a b) (l : List Ob) : Kp a (b ++ l) := h.trans (Ap.kp ⟨l, rfl⟩)
theorem cut_spec {x w z : List Nat} {st : Sto} (h : (x ++ (w ++ z)).length ≤ 100000) : wF L_cut [tx (x ++ (w ++ z)), pv x, pv (x ++ w)] st (fun v st' => v = tx w ∧ Kp st st') G0 := by
  rw [← List.append_assoc] at h ⊢
  have rl := row_len (x ++ w ++ z)
  obtain ⟨X, p, q, Z, e1, e2, e3, e4, ⟨m, e5, e6, e7, e8⟩ | ⟨m, M, l, e5, e6, e7, e8⟩⟩ := shape x w z
  · have k1 := rl (p ++ (m ++ q)) (by rw [e8]; simp)
    have k2 : p.length + (m.length + q.length) ≤ 16777216 := by simp at k1 h; omega
    unfold L_cut ML_cut tx pv
    rw [e8, e5, e3, e4, e6, e7]
    simp [at1, c5, k2]
    exact Kp.refl _
  · have k1 := rl (l ++ q) (by rw [e8]; simp)
    have k0 := rl (p ++ m) (by rw [e8]; simp)
    have k2 : l.length + q.length ≤ 16777216 := by simp at k1 h; omega
    have k3 : p.length + m.length ≤ 16777216 := by simp at k0 h; omega
    have k4 := nl_len (x ++ w ++ z)
    have k5 := len_T (x ++ w ++ z)
    rw [e8] at k5
    simp only [List.length_append, List.length_cons] at k5 k4 h
    have ne : ¬ (X.length : Int) = (X.length : Int) + (M.length : Int) + 1 := by omega
    have sm : small62 ((X.length : Int) + 1) ∧ small62 ((X.length : Int) + (M.length : Int) + 1) := by unfold small62; omega
    unfold L_cut ML_cut tx pv
    rw [e8, e5, e3, e4, e6, e7]
    simp [at1, c3, k3, ne]
    refine wS_for ?_
    simp [sm, and_assoc]
    refine ⟨fun i sl st2 => (∃ t, sl = [some (.tup (X.map Val.str ++ .str (p ++ m) :: (M.map Val.str ++ .str (l ++ q) :: Z.map Val.str))), some (.tup [.int X.length, .int p.length]), some (.tup [.int ((X.length : Int) + M.length + 1), .int l.length]), some (.ref st.length), t]) ∧ Kp st st2 ∧
      st2[st.length]? = some (.lst (.str m :: (M.take i).map Val.str)), ⟨⟨_, rfl⟩, (Kp.refl _).add _, by simp⟩, fun _ _ _ _ _ => live_none, ?_, ?_⟩
    · rintro i y sl st2 hy ⟨⟨t, rfl⟩, d, e⟩
      obtain ⟨hi, rfl⟩ := rngL_get hy
      have hi2 : i < M.length := by omega
      have hat : L2.atI (X.map Val.str ++ .str (p ++ m) :: (M.map Val.str ++ .str (l ++ q) :: Z.map Val.str)) ((X.length : Int) + 1 + i) = some (.str M[i]) := by
        have e : (X.length : Int) + 1 + i = ((X.length + (i + 1) : Nat) : Int) := by omega
        rw [e, atI_at (by omega) (by simp; omega), Int.toNat_natCast, List.getElem?_append_right (by simp)]
        have e2 : X.length + (i + 1) - (X.map Val.str).length = i + 1 := by simp
        rw [e2, List.getElem?_cons_succ, List.getElem?_append_left (by simpa using hi2), List.getElem?_map, List.getElem?_eq_getElem hi2]
        rfl
      have hlen : (Val.str m :: (M.take i).map Val.str).length < 16777216 := by simp; omega
      simp at hlen
      have hlt := (List.getElem?_eq_some_iff.mp e).1
      simp [kind_lst e, hat, onL_ref e, hlen]
      refine ⟨d.new (Nat.le_refl _) _, ?_⟩
      rw [List.getElem?_set_self hlt, List.take_add_one, List.getElem?_map, List.getElem?_eq_getElem hi2]
      simp
    · rintro sl st2 ⟨⟨t, rfl⟩, d, e⟩
      have en : (((X.length : Int) + M.length + 1) - ((X.length : Int) + 1)).toNat = M.length := by omega
      simp [en] at e
      simp [at2, c2, k2]
      have hlt := (List.getElem?_eq_some_iff.mp e).1
      rw [fAdd_ref (xs := .str m :: M.map Val.str) (ys := [.str l]) (by rw [List.getElem?_append_left hlt]; exact e) (by simp) (by simp; omega)]
      simp
      exact d.add _
theorem la_map {l : List (List Nat)} (h : l ≠ []) : L2.atI (l.map Val.str) (-1) = some (.str (la l)) := by
  have := dl_last h
  rw [← this, List.map_append]
  simp [at_last]
theorem rest_spec {t v : List Nat} {st : Sto} (h : (t ++ v).length ≤ 100000) : wF L_rest [tx (t ++ v), pv t] st (fun r st' => r = tx v ∧ Kp st st') G0 := by
  have cs := cut_spec (x := t) (w := v) (z := []) (st := st) (by simpa using h)
  have rl := row_len (t ++ v) (la (T (t ++ v))) (by rw [← T_last (t ++ v)]; simp)
  have k : (la (T (t ++ v))).length ≤ LINE := by
    have : (100000 : Nat) ≤ LINE := by decide
    omega
  have e2 : ((T (t ++ v)).length : Int) - 1 = nl (t ++ v) := by rw [len_T]; omega
  rw [List.append_nil] at cs
  generalize hs : t ++ v = s at *
  unfold L_rest ML_rest
  unfold tx at *
  simp [la_map (T_ne s), k, e2]
  exact cs
/-- a text that is not too great -/
def SmT (s : List Nat) : Prop := (T s).length ≤ 1000 ∧ (∀ r ∈ T s, r.length ≤ 1000) ∧ s.length ≤ 90000
theorem place_flat {w : Nat} {s : List Nat} {st : Sto} (hw : WellAt w st) (h : SmT s) :
    wF L_place [.ref w, tx s] st (fun v st' => ∃ t y, s = t ++ y ∧ v = pv t ∧ WellAt w st' ∧ Dr w st st') G0 := by
  have h1 := T_len s
  refine (place_spec hw (by omega) h.1 h.2.1).mono ?_
  rintro v st1 ⟨r, c, row, rfl, hr, hc, hw1, d⟩
  obtain ⟨n, hn, hp⟩ := pl_of hr hc
  refine ⟨s.take n, s.drop n, (List.take_append_drop n s).symm, ?_, hw1, d⟩
  unfold pv
  unfold pl at hp
  cases hp
  rfl
theorem leP_tr {a b c : List Nat} (h1 : leP a b = true) (h2 : leP b c = true) : leP a c = true := by
  unfold leP at *
  rw [decide_eq_true_iff] at *
  omega
theorem leP_tot (a b : List Nat) : (leP a b || leP b a) = true := by
  unfold leP
  rw [Bool.or_eq_true, decide_eq_true_iff, decide_eq_true_iff]
  omega
def sortT (ts : List (List Nat)) : List (List Nat) := ts.mergeSort leP
theorem sortT_perm (ts : List (List Nat)) : (sortT ts).Perm ts := List.mergeSort_perm _ _
theorem sortT_srt (ts : List (List Nat)) : (sortT ts).Pairwise fun a b => leP a b = true :=
  List.pairwise_mergeSort (le := leP) (fun a b c => leP_tr) leP_tot ts
def prT (t : List Nat) : Int × Int := (nl t, co t)
theorem sort_pv {st : Sto} {p : Nat} {ts : List (List Nat)} (h : st[p]? = some (.lst (ts.map pv))) : fSortP [.ref p] st = some (.ref st.length, st ++ [.lst ((sortT ts).map pv)]) := by
  have e : mapO prOf (ts.map pv) = some (ts.map prT) := by
    clear h
    induction ts with
    | nil => rfl
    | cons t ts ih =>
      show mapO prOf (pv t :: ts.map pv) = _
      unfold mapO
      rw [ih]
      rfl
  have e2 : (sortT ts).map prT = srtP (ts.map prT) := srtP_uniq ((sortT_perm ts).map prT) (List.pairwise_map.mpr ((sortT_srt ts).imp fun {a b} h => by
    unfold leP at h
    rw [decide_eq_true_iff] at h
    exact prLe_iff.mpr (by unfold prT; simp; omega)))
  have e3 : ∀ l : List (List Nat), (l.map prT).map ofPr = l.map pv := fun l => by
    rw [List.map_map]
    rfl
  show (match st[p]? with | some (Ob.lst xs) => (mapO prOf xs).map (fun ps => (Val.ref st.length, st ++ [Ob.lst ((srtP ps).map ofPr)])) | _ => none) = _
  rw [h]
  show (mapO prOf (ts.map pv)).map _ = _
  rw [e, Option.map_some, ← e2, e3]
/-- of two beginnings of a text the one that is not later begins the other -/
theorem pre_of {s a b y1 y2 : List Nat} (h1 : s = a ++ y1) (h2 : s = b ++ y2) (h : leP a b = true) : ∃ w, b = a ++ w ∧ y1 = w ++ y2 := by
  have e : a ++ y1 = b ++ y2 := h1.symm.trans h2
  rcases List.append_eq_append_iff.mp e with ⟨w, e1, e2⟩ | ⟨w, e1, e2⟩
  · exact ⟨w, e1, e2⟩
  · by_cases hw : w = []
    · subst hw
      rw [List.append_nil] at e1
      exact ⟨[], by rw [List.append_nil, e1], by simpa using e2.symm⟩
    · rw [e1, leP_no hw] at h
      cases h
theorem len_rows : ∀ s : List Nat, s.length + 1 = ((T s).map fun r => r.length + 1).sum
  | [] => rfl
  | c :: s => by
    have ih := len_rows s
    obtain ⟨a, l, e⟩ : ∃ a l, T s = a :: l := ⟨_, _, T_ht s⟩
    rw [e] at ih
    unfold T
    split
    · rw [e]
      simp at ih ⊢
      omega
    · rw [e]
      simp at ih ⊢
      omega
theorem sum_rows {l : List (List Nat)} {c : Nat} (h : ∀ r ∈ l, r.length ≤ c) : (l.map fun r => r.length + 1).sum ≤ l.length * (c + 1) := by
  induction l with
  | nil => simp
  | cons a l ih =>
    have h1 := h a List.mem_cons_self
    have h2 := ih fun r hr => h r (List.mem_cons_of_mem _ hr)
    rw [List.map_cons, List.sum_cons, List.length_cons, Nat.succ_mul]
    omega
theorem flat_len {s : List Nat} {R c : Nat} (h1 : (T s).length ≤ R) (h2 : ∀ r ∈ T s, r.length ≤ c) : s.length ≤ R * (c + 1) := by
  have := len_rows s
  have h3 := sum_rows h2
  have h4 := Nat.mul_le_mul_right (c + 1) h1
  omega
theorem perm2 {α : Type} {l : List α} {a b : α} (h : l.Perm [a, b]) : l = [a, b] ∨ l = [b, a] := by
  have hl := h.length_eq
  match l, hl with
  | [x, y], _ =>
    have hx : x = a ∨ x = b := by simpa using h.mem_iff.mp (List.mem_cons_self (a := x) (l := [y]))
    rcases hx with rfl | rfl
    · have := h.cons_inv
      have := List.perm_singleton.mp this
      cases this
      exact .inl rfl
    · have h2 := h.trans (List.Perm.swap x a [])
      have := List.perm_singleton.mp h2.cons_inv
      cases this
      exact .inr rfl
theorem signs_no10 {r : List Nat} (h : Signs r) : 10 ∉ r := fun z => by have := h 10 z; omega
/-- an edit of s, what it leaves -/
def EdP (w : Nat) (s : List Nat) (st : Sto) (v : Val) (st' : Sto) : Prop := ∃ x y z n, s = x ++ (y ++ z) ∧ v = .tup [pv x, pv (x ++ y), tx n] ∧ (T n).length ≤ 3 ∧ (∀ r ∈ T n, Signs r ∧ r.length ≤ 40) ∧ WellAt w st' ∧ Dr w st st'
theorem edit_spec {w : Nat} {s : List Nat} {st : Sto} (hw : WellAt w st) (h : SmT s) :
    wF L_edit [.ref w, tx s] st (EdP w s st) G0 := by
  have fin : ∀ (a y' z' : List Nat) (st3 : Sto), s = a ++ (y' ++ z') → WellAt w st3 → Dr w st st3 → wS T0L_edit [some (.ref w), some (tx s), none, some (pv a), some (pv (a ++ y'))] st3
      (finP (EdP w s st) G0) := by
    intro a y' z' st3 hs hw3 d3
    unfold T0L_edit
    simp
    refine (take_spec (many := 3) hw3 (by decide) (by decide)).mono ?_
    rintro v st4 ⟨q, rfl, q0, q1, hw4, hl4, d4⟩
    simp
    split
    · refine (text_spec (most := 3) hw4 (by decide) (by decide)).mono ?_
      rintro v st5 ⟨ss, rfl, s1, s2, s3, hw5, d5⟩
      have e : T (J ss) = ss := TJ (fun z => by rw [z] at s1; simp at s1) fun r hr => signs_no10 (s3 r hr).1
      have e2 : Val.tup (ss.map Val.str) = tx (J ss) := by unfold tx; rw [e]
      rw [e2]
      simp
      refine ⟨a, y', z', J ss, hs, rfl, by rw [e]; omega, by rw [e]; exact s3, hw5, (d3.trans d4).trans d5⟩
    · skip
      refine ⟨a, y', z', [], hs, rfl, by decide, fun r hr => ?_, hw4, d3.trans d4⟩
      simp [T] at hr
      subst hr
      exact ⟨fun c hc => (nomatch hc), by decide⟩
  unfold L_edit ML_edit
  simp
  refine (place_flat hw h).mono ?_
  rintro v st1 ⟨t1, y1, e1, rfl, hw1, d1⟩
  simp
  refine (place_flat hw1 h).mono ?_
  rintro v st2 ⟨t2, y2, e2, rfl, hw2, d2⟩
  have hlt := hw2.lt
  have sp := sort_pv (st := st2 ++ [.lst [pv t1, pv t2]]) (p := st2.length) (ts := [t1, t2]) (by simp)
  have hs := sortT_srt [t1, t2]
  have hp := sortT_perm [t1, t2]
  generalize sortT [t1, t2] = us at sp hs hp
  have hu : ∃ a b za zb, us = [a, b] ∧ s = a ++ za ∧ s = b ++ zb ∧ leP a b = true := by
    rcases perm2 hp with rfl | rfl
    · exact ⟨t1, t2, y1, y2, rfl, e1, e2, (List.pairwise_cons.mp hs).1 t2 (by simp)⟩
    · exact ⟨t2, t1, y2, y1, rfl, e2, e1, (List.pairwise_cons.mp hs).1 t1 (by simp)⟩
  obtain ⟨a, b, za, zb, rfl, ea, eb, hab⟩ := hu
  obtain ⟨y, rfl, hz⟩ := pre_of ea eb hab
  simp [sp]
  refine ⟨_, _, ⟨rfl, rfl⟩, _, _, rfl, rfl, ?_⟩
  refine (take_spec (many := 3) (hw2.ap ⟨_, rfl⟩) (by decide) (by decide)).mono ?_
  rintro v st3 ⟨q, rfl, q0, q1, hw3, hl3, d3⟩
  have D := ((d1.trans d2).trans (Ap.dr ⟨_, rfl⟩)).trans d3
  simp
  split
  · have := fin a [] (y ++ zb) st3 (by rw [ea, hz]; rfl) hw3 D
    simpa using this
  · exact fin a y zb st3 (by rw [ea, hz]) hw3 D
theorem mem_T : ∀ {s r : List Nat} {c : Nat}, r ∈ T s → c ∈ r → c ∈ s
  | [], r, c, h, hc => by simp [T] at h; subst h; cases hc
  | d :: s, r, c, h, hc => by
    unfold T at h
    split at h
    · rcases List.mem_cons.mp h with e | e
      · rw [e] at hc; cases hc
      · exact List.mem_cons_of_mem _ (mem_T e hc)
    · rcases List.mem_cons.mp h with e | e
      · rw [e] at hc
        rcases List.mem_cons.mp hc with z | z
        · rw [z]; exact List.mem_cons_self
        · exact List.mem_cons_of_mem _ (mem_T (r := (T s).headD []) (by rw [T_ht s]; exact List.mem_cons_self) z)
      · exact List.mem_cons_of_mem _ (mem_T (List.mem_of_mem_tail e) hc)
theorem mem_of_T : ∀ {s : List Nat} {c : Nat}, c ∈ s → c = 10 ∨ ∃ r ∈ T s, c ∈ r
  | [], c, h => by cases h
  | d :: s, c, h => by
    unfold T
    split
    · rename_i hd
      rcases List.mem_cons.mp h with z | z
      · exact .inl (z.trans hd)
      · rcases mem_of_T z with z | ⟨r, h1, h2⟩
        · exact .inl z
        · exact .inr ⟨r, List.mem_cons_of_mem _ h1, h2⟩
    · rcases List.mem_cons.mp h with z | z
      · exact .inr ⟨_, List.mem_cons_self, by rw [z]; exact List.mem_cons_self⟩
      · rcases mem_of_T z with z | ⟨r, h1, h2⟩
        · exact .inl z
        · rw [T_ht s] at h1
          rcases List.mem_cons.mp h1 with e | e
          · exact .inr ⟨_, List.mem_cons_self, by rw [e] at h2; exact List.mem_cons_of_mem _ h2⟩
          · exact .inr ⟨r, List.mem_cons_of_mem _ e, h2⟩
/-- all signs of a flat text -/
def SgT (s : List Nat) : Prop := ∀ c ∈ s, c = 10 ∨ (32 ≤ c ∧ c ≤ 126 ∧ c ≠ 37)
theorem sgT_of {s : List Nat} (h : ∀ r ∈ T s, Signs r) : SgT s := fun c hc => by
  rcases mem_of_T hc with z | ⟨r, h1, h2⟩
  · exact .inl z
  · exact .inr (h r h1 c h2)
theorem SgT.rows {s : List Nat} (h : SgT s) : ∀ r ∈ T s, Signs r := fun r hr c hc => by
  rcases h c (mem_T hr hc) with z | z
  · exact absurd (z ▸ hc) (T_no10 s r hr)
  · exact z
/-- after an edit whose first and last rows are short enough -/
theorem ok_edit {x y z n : List Nat} {R : Nat} (ok : OkT R (x ++ (y ++ z))) (h3 : (T n).length ≤ 3) (hn : ∀ r ∈ T n, Signs r ∧ r.length ≤ 40) (hl : ∀ r, r ∈ T (x ++ (n ++ z)) → r ∈ T (x ++ (y ++ z)) ∨ r.length ≤ 120) : OkT (R + 2) (x ++ (n ++ z)) := by
  have g1 : SgT (x ++ (y ++ z)) := sgT_of fun r hr => (ok.2 r hr).1
  have g2 : SgT n := sgT_of fun r hr => (hn r hr).1
  have g3 : SgT (x ++ (n ++ z)) := fun c hc => by
    rcases List.mem_append.mp hc with h | h
    · exact g1 c (List.mem_append.mpr (.inl h))
    · rcases List.mem_append.mp h with h | h
      · exact g2 c h
      · exact g1 c (List.mem_append.mpr (.inr (List.mem_append.mpr (.inr h))))
  refine ⟨?_, fun r hr => ⟨g3.rows r hr, ?_⟩⟩
  · have := ok.1
    rw [len_T, nl_app, nl_app] at *
    omega
  · rcases hl r hr with h | h
    · exact (ok.2 r h).2
    · exact h
theorem OkT.sm {R : Nat} {s : List Nat} (h : OkT R s) (hR : R ≤ 200) : SmT s := by
  have h1 := flat_len h.1 fun r hr => (h.2 r hr).2
  refine ⟨by have := h.1; omega, fun r hr => by have := (h.2 r hr).2; omega, ?_⟩
  have h2 := Nat.mul_le_mul_right 121 hR
  omega
theorem maxI_le {l : List Int} {m : Int} (h : maxI l = some m) : ∀ i ∈ l, i ≤ m := by
  cases l with
  | nil => cases h
  | cons a l =>
    cases h
    exact (foldl_max l a).2
theorem fMaxL_ref {st : Sto} {p : Nat} {ns : List Int} {m : Int} (h : st[p]? = some (Ob.lst (ns.map Val.int))) (hm : maxI ns = some m) : fMaxL [.ref p] st = some (.int m, st) := by
  have e : ∀ ns : List Int, mapO (fun v => match v with | Val.int i => some i | _ => none) (ns.map Val.int) = some ns := fun ns => by
    induction ns with
    | nil => rfl
    | cons a l ih =>
      show mapO _ (Val.int a :: l.map Val.int) = _
      unfold mapO
      rw [ih]
  show (match st[p]? with | some (Ob.lst xs) => (mapO (fun v => match v with | Val.int i => some i | _ => none) xs).bind (fun ns => (maxI ns).map fun m => (Val.int m, st)) | _ => none) = _
  rw [h]
  show (mapO _ (ns.map Val.int)).bind _ = _
  rw [e]
  show (maxI ns).map _ = _
  rw [hm]
  rfl
def lenV : Val → Val
  | .str s => .int s.length
  | _ => .non
def TlP (x y z n : List Nat) (st : Sto) (v : Val) (st' : Sto) : Prop := ∃ b, v = .bl b ∧ Kp st st' ∧ (b = false → ∀ r, r ∈ T (x ++ (n ++ z)) → r ∈ T (x ++ (y ++ z)) ∨ r.length ≤ 120)
theorem too_long_spec {x y z n : List Nat} {st : Sto} (h : (x ++ (y ++ z)).length ≤ 100000) (hn : n.length ≤ 100000) : wF L_too_long [tx (x ++ (y ++ z)), .tup [pv x, pv (x ++ y), tx n]] st (TlP x y z n st) G0 := by
  rw [← List.append_assoc] at h ⊢
  have rl := row_len (x ++ y ++ z)
  have rn := row_len n
  have ln := len_T n
  have ln2 := nl_len n
  have fin : ∀ (rows : List (List Nat)) (i : Nat) (st1 : Sto), Kp st st1 → st.length ≤ i → st1[i]? = some (Ob.lst (rows.map Val.str)) → rows ≠ [] → (∀ r ∈ rows, r.length ≤ 16777216) → rows.length ≤ 16777216 → (∀ r, r ∈ T (x ++ n ++ z) → r ∈ T (x ++ y ++ z) ∨ r ∈ rows) →
      ∀ a0 a1 a3 a4 a5 a6, wS T0L_too_long [a0, a1, some (.ref i), a3, a4, a5, a6] st1 (finP (TlP x y z n st) G0) := by
    intro rows i st1 d hi hr hne hl hll hmem a0 a1 a3 a4 a5 a6
    unfold T0L_too_long
    simp
    refine wX_lc ?_
    simp [hr]
    refine LcOb.fm (fun _ => true) lenV (by simpa using hll) (fun st' a => a.get hr) ?_ ?_
    · intro v hv st2 a2
      obtain ⟨r, hr2, rfl⟩ := List.mem_map.mp hv
      simp [Ap.refl, hl r hr2, lenV]
    · intro st2 a2
      have e : (((rows.map Val.str).filter fun _ => true).map lenV) = (rows.map fun r => (r.length : Int)).map Val.int := by
        rw [List.filter_eq_self.mpr (fun _ _ => rfl), List.map_map, List.map_map]
        rfl
      simp only [e]
      obtain ⟨m, hm⟩ : ∃ m, maxI (rows.map fun r => (r.length : Int)) = some m := by
        cases rows with
        | nil => exact absurd rfl hne
        | cons a l => exact ⟨_, rfl⟩
      have hf := fMaxL_ref (st := st2 ++ [Ob.lst ((rows.map fun r => (r.length : Int)).map Val.int)]) (p := st2.length) (ns := rows.map fun r => (r.length : Int)) (m := m) (by simp) hm
      simp only [hf]
      simp
      refine ⟨_, rfl, (d.trans (Ap.kp a2)).add _, fun hm2 r hr3 => ?_⟩
      rw [decide_eq_false_iff_not] at hm2
      rw [← List.append_assoc] at hr3 ⊢
      rcases hmem r hr3 with z | z
      · exact .inl z
      · have := maxI_le hm (r.length : Int) (List.mem_map.mpr ⟨r, z, rfl⟩)
        exact .inr (by omega)
  obtain ⟨X, p, q, Z, e1, e2, e3, e4⟩ := ends_of x z
  have A := shape_of e1 e2 y
  have B := shape_of e1 e2 n
  rcases A with ⟨m, e5, e6, e7, e8⟩ | ⟨m, M, l, e5, e6, e7, e8⟩ <;> rcases B with ⟨k, g5, g6, g7, g8⟩ | ⟨k, K, u, g5, g6, g7, g8⟩
  · have b1 := rl (p ++ (m ++ q)) (by rw [e8]; simp)
    have b2 := rn k (by rw [g5]; simp)
    rw [g5] at ln
    simp only [List.length_append, List.length_cons] at b1 b2 h ln
    have y0 : p.length + (m.length + q.length) ≤ 16777216 := by omega
    have y1 : p.length + k.length ≤ 16777216 := by omega
    have y2 : p.length + k.length + q.length ≤ 16777216 := by omega
    have F := fin [p ++ k ++ q]
    unfold L_too_long ML_too_long tx pv
    rw [e8, g5, e3, e4, e6, e7]
    simp [and_assoc]
    refine wX_lc ?_
    simp
    refine LcOb.fm (fun _ => true) id (by simp <;> omega) (fun _ _ => live_none) ?_ ?_
    · intro v hv st1 a1
      simp [Ap.refl]
    · intro st1 d1
      rw [List.filter_eq_self.mpr (fun _ _ => rfl), List.map_id]
      simp [at1, at2, s_to, s_from1, s_from2, c1, c2, c3, c4, at_one, at_last2, ixN_one, ixN_last, set_last, y0, y1, y2]
      have F2 := F st1.length (st1 ++ [Ob.lst ([p ++ k ++ q].map Val.str)]) ((Ap.kp d1).add _) d1.le (by simp) (by simp) (fun r hr => by
        simp at hr
        subst hr
        simp only [List.length_append]
        omega) (by simp) (fun r hr => by
        rw [g8] at hr
        rw [e8]
        simp at hr ⊢
        rcases hr with z | z | z <;> simp [z])
      have F3 := fun a0 a1 a3 a4 a5 a6 => F2 a0 a1 a3 a4 a5 a6
      simp at F3
      exact F3 _ _ _ _ _ _
  · have b1 := rl (p ++ (m ++ q)) (by rw [e8]; simp)
    have b2 := rn k (by rw [g5]; simp)
    have b2b := rn u (by rw [g5]; simp)
    have b2c : ∀ r ∈ K, r.length ≤ n.length := fun r hr => rn r (by rw [g5]; simp [hr])
    rw [g5] at ln
    simp only [List.length_append, List.length_cons] at b1 b2 h ln
    have y0 : p.length + (m.length + q.length) ≤ 16777216 := by omega
    have y1 : p.length + k.length ≤ 16777216 := by omega
    have y2 : u.length + q.length ≤ 16777216 := by omega
    have y3 : K.length + 1 + 1 ≤ 16777216 := by simp only [List.length_append, List.length_cons, List.length_nil] at ln; omega
    have F := fin ((p ++ k) :: (K ++ [u ++ q]))
    unfold L_too_long ML_too_long tx pv
    rw [e8, g5, e3, e4, e6, e7]
    simp [and_assoc]
    refine wX_lc ?_
    simp
    refine LcOb.fm (fun _ => true) id (by simp <;> omega) (fun _ _ => live_none) ?_ ?_
    · intro v hv st1 a1
      simp [Ap.refl]
    · intro st1 d1
      rw [List.filter_eq_self.mpr (fun _ _ => rfl), List.map_id]
      simp [at1, at2, s_to, s_from1, s_from2, c1, c2, c3, c4, at_one, at_last2, ixN_one, ixN_last, set_last, y0, y1, y2, y3]
      have F2 := F st1.length (st1 ++ [Ob.lst (((p ++ k) :: (K ++ [u ++ q])).map Val.str)]) ((Ap.kp d1).add _) d1.le (by simp) (by simp) (fun r hr => by
        simp at hr
        rcases hr with z | z | z
        · rw [z, List.length_append]; omega
        · have := b2c r z; omega
        · rw [z, List.length_append]; omega) (by simp; omega) (fun r hr => by
        rw [g8] at hr
        rw [e8]
        simp at hr ⊢
        rcases hr with z | z | z | z | z <;> simp [z])
      have F3 := fun a0 a1 a3 a4 a5 a6 => F2 a0 a1 a3 a4 a5 a6
      simp at F3
      exact F3 _ _ _ _ _ _
  · have b1 := rl (p ++ m) (by rw [e8]; simp)
    have b0 := rl (l ++ q) (by rw [e8]; simp)
    have b2 := rn k (by rw [g5]; simp)
    rw [g5] at ln
    simp only [List.length_append, List.length_cons] at b0 b1 b2 h ln
    have y0 : p.length + m.length ≤ 16777216 := by omega
    have y1 : l.length + q.length ≤ 16777216 := by omega
    have y2 : p.length + k.length ≤ 16777216 := by omega
    have y3 : p.length + k.length + q.length ≤ 16777216 := by omega
    have F := fin [p ++ k ++ q]
    unfold L_too_long ML_too_long tx pv
    rw [e8, g5, e3, e4, e6, e7]
    simp [and_assoc]
    refine wX_lc ?_
    simp
    refine LcOb.fm (fun _ => true) id (by simp <;> omega) (fun _ _ => live_none) ?_ ?_
    · intro v hv st1 a1
      simp [Ap.refl]
    · intro st1 d1
      rw [List.filter_eq_self.mpr (fun _ _ => rfl), List.map_id]
      simp [at1, at2, s_to, s_from1, s_from2, c1, c2, c3, c4, at_one, at_last2, ixN_one, ixN_last, set_last, y0, y1, y2, y3]
      have F2 := F st1.length (st1 ++ [Ob.lst ([p ++ k ++ q].map Val.str)]) ((Ap.kp d1).add _) d1.le (by simp) (by simp) (fun r hr => by
        simp at hr
        subst hr
        simp only [List.length_append]
        omega) (by simp) (fun r hr => by
        rw [g8] at hr
        rw [e8]
        simp at hr ⊢
        rcases hr with z | z | z <;> simp [z])
      have F3 := fun a0 a1 a3 a4 a5 a6 => F2 a0 a1 a3 a4 a5 a6
      simp at F3
      exact F3 _ _ _ _ _ _
  · have b1 := rl (p ++ m) (by rw [e8]; simp)
    have b0 := rl (l ++ q) (by rw [e8]; simp)
    have b2 := rn k (by rw [g5]; simp)
    have b2b := rn u (by rw [g5]; simp)
    have b2c : ∀ r ∈ K, r.length ≤ n.length := fun r hr => rn r (by rw [g5]; simp [hr])
    rw [g5] at ln
    simp only [List.length_append, List.length_cons] at b0 b1 b2 h ln
    have y0 : p.length + m.length ≤ 16777216 := by omega
    have y1 : l.length + q.length ≤ 16777216 := by omega
    have y2 : p.length + k.length ≤ 16777216 := by omega
    have y3 : u.length + q.length ≤ 16777216 := by omega
    have y4 : K.length + 1 + 1 ≤ 16777216 := by simp only [List.length_append, List.length_cons, List.length_nil] at ln; omega
    have F := fin ((p ++ k) :: (K ++ [u ++ q]))
    unfold L_too_long ML_too_long tx pv
    rw [e8, g5, e3, e4, e6, e7]
    simp [and_assoc]
    refine wX_lc ?_
    simp
    refine LcOb.fm (fun _ => true) id (by simp <;> omega) (fun _ _ => live_none) ?_ ?_
    · intro v hv st1 a1
      simp [Ap.refl]
    · intro st1 d1
      rw [List.filter_eq_self.mpr (fun _ _ => rfl), List.map_id]
      simp [at1, at2, s_to, s_from1, s_from2, c1, c2, c3, c4, at_one, at_last2, ixN_one, ixN_last, set_last, y0, y1, y2, y3, y4]
      have F2 := F st1.length (st1 ++ [Ob.lst (((p ++ k) :: (K ++ [u ++ q])).map Val.str)]) ((Ap.kp d1).add _) d1.le (by simp) (by simp) (fun r hr => by
        simp at hr
        rcases hr with z | z | z
        · rw [z, List.length_append]; omega
        · have := b2c r z; omega
        · rw [z, List.length_append]; omega) (by simp; omega) (fun r hr => by
        rw [g8] at hr
        rw [e8]
        simp at hr ⊢
        rcases hr with z | z | z | z | z <;> simp [z])
      have F3 := fun a0 a1 a3 a4 a5 a6 => F2 a0 a1 a3 a4 a5 a6
      simp at F3
      exact F3 _ _ _ _ _ _
theorem pre_len {s a b a' b' : List Nat} (h1 : s = a ++ a') (h2 : s = b ++ b') (h : a.length ≤ b.length) : ∃ u, b = a ++ u ∧ a' = u ++ b' := by
  have e : a ++ a' = b ++ b' := h1.symm.trans h2
  rcases List.append_eq_append_iff.mp e with ⟨w, e1, e2⟩ | ⟨w, e1, e2⟩
  · exact ⟨w, e1, e2⟩
  · have hw : w = [] := by
      rw [e1, List.length_append] at h
      exact List.length_eq_zero_iff.mp (by omega)
    subst hw
    rw [List.append_nil] at e1
    exact ⟨[], by rw [List.append_nil, e1], by simpa using e2.symm⟩
theorem leP_len {s a b a' b' : List Nat} (h1 : s = a ++ a') (h2 : s = b ++ b') (h : a.length ≤ b.length) : leP a b = true := by
  obtain ⟨u, rfl, _⟩ := pre_len h1 h2 h
  exact leP_app a u
theorem len_leP {s a b a' b' : List Nat} (h1 : s = a ++ a') (h2 : s = b ++ b') (h : leP a b = true) : a.length ≤ b.length := by
  obtain ⟨u, rfl, _⟩ := pre_of h1 h2 h
  simp
/-- where a place goes by an edit -/
def car (x y n t : List Nat) : List Nat := if t.length ≤ x.length then t else if t.length < (x ++ y).length then x else x ++ (n ++ t.drop (x ++ y).length)
theorem carried_spec {x y z n t t' : List Nat} {st : Sto} (ht : x ++ (y ++ z) = t ++ t') (hn : n.length ≤ 100000) : wF F_carried [pv t, .tup [pv x, pv (x ++ y), tx n]] st (fun v st' => v = pv (car x y n t) ∧ st' = st) G0 := by
  by_cases h : t.length ≤ x.length
  · rw [show car x y n t = t from if_pos h]
    obtain ⟨u, hx, _⟩ := pre_len (s := x ++ (y ++ z)) ht rfl h
    have := carried1 (t := t) (y := u) (w := x ++ y) (n := n) (st := st)
    rw [← hx] at this
    exact this
  · obtain ⟨a, rfl, e1⟩ := pre_len (s := x ++ (y ++ z)) (a := x) (b := t) rfl ht (by omega)
    by_cases h2 : (x ++ a).length < (x ++ y).length
    · rw [show car x y n (x ++ a) = x from (if_neg h).trans (if_pos h2)]
      obtain ⟨b, rfl, _⟩ := pre_len (s := y ++ z) (a := a) (b := y) e1 rfl (by simp at h2; omega)
      refine carried2 (fun z => ?_) (fun z => ?_)
      · rw [z] at h; simp at h
      · rw [z] at h2; simp at h2
    · rw [show car x y n (x ++ a) = x ++ (n ++ (x ++ a).drop (x ++ y).length) from (if_neg h).trans (if_neg h2)]
      obtain ⟨v, rfl, _⟩ := pre_len (s := y ++ z) (a := y) (b := a) rfl e1 (by simp at h2; omega)
      have e : (x ++ (y ++ v)).drop (x ++ y).length = v := by rw [← List.append_assoc, List.drop_left]
      rw [e]
      refine carried3 (fun z => ?_) hn
      rw [z] at h; simp at h
theorem car_pre {x y z n t t' : List Nat} (ht : x ++ (y ++ z) = t ++ t') : ∃ u, x ++ (n ++ z) = car x y n t ++ u ∧ (x.length < t.length → (x ++ y).length ≤ t.length → u = t') := by
  unfold car
  split
  · rename_i h
    obtain ⟨u, hx, _⟩ := pre_len (s := x ++ (y ++ z)) ht rfl h
    exact ⟨u ++ (n ++ z), by rw [← List.append_assoc t, ← hx], fun z => by omega⟩
  · rename_i h
    obtain ⟨a, rfl, e1⟩ := pre_len (s := x ++ (y ++ z)) (a := x) (b := t) rfl ht (by omega)
    split
    · rename_i h2
      exact ⟨n ++ z, rfl, fun _ z => by omega⟩
    · rename_i h2
      obtain ⟨v, rfl, e2⟩ := pre_len (s := y ++ z) (a := y) (b := a) rfl e1 (by simp at h2; omega)
      have e : (x ++ (y ++ v)).drop (x ++ y).length = v := by rw [← List.append_assoc, List.drop_left]
      rw [e]
      exact ⟨t', by rw [e2]; simp, fun _ _ => rfl⟩
theorem car_mono {x y n t u : List Nat} (h : t.length ≤ u.length) : (car x y n t).length ≤ (car x y n u).length := by
  have e : (x ++ y).length = x.length + y.length := List.length_append
  unfold car
  split <;> split <;> (try split) <;> (try split) <;> simp only [List.length_append, List.length_drop] at * <;> omega
/-- sorted places stay -/
theorem sortT_id {l : List (List Nat)} (h : l.Pairwise fun a b => leP a b = true) : (sortT l).map pv = l.map pv := by
  have e2 : ∀ l : List (List Nat), (l.Pairwise fun a b => leP a b = true) → (l.map prT).Pairwise fun p q => prLe p q = true := fun l hl => List.pairwise_map.mpr (hl.imp fun {a b} h => by
    unfold leP at h
    rw [decide_eq_true_iff] at h
    exact prLe_iff.mpr (by unfold prT; simp; omega))
  have e3 : (sortT l).map prT = srtP (l.map prT) := srtP_uniq ((sortT_perm l).map prT) (e2 _ (sortT_srt l))
  have e4 : l.map prT = srtP (l.map prT) := srtP_uniq (List.Perm.refl _) (e2 _ h)
  have e5 : ∀ l : List (List Nat), (l.map prT).map ofPr = l.map pv := fun l => by
    rw [List.map_map]
    rfl
  rw [← e5, ← e5, e3, ← e4]
theorem pv_gd {B : Nat → Prop} {st : Sto} {t : List Nat} : Gd B 1000 st 1 (pv t) := ⟨by simp, fun x hx => by
  simp only [List.mem_cons, List.not_mem_nil, or_false] at hx
  rcases hx with rfl | rfl <;> trivial⟩
theorem place_ok {s t t' : List Nat} (h : s = t ++ t') : placeB (T s) (pv t) = true := by
  have e := at_T t t'
  rw [← h] at e
  have k : co t ≤ (la (T t) ++ (T t').headD []).length := by unfold co; simp
  have hl := len_T s
  have hn : nl t ≤ nl s := by rw [h, nl_app]; omega
  show (decide ((0 : Int) ≤ (nl t : Int)) && decide ((nl t : Int) ≤ (T s).length - 1) && wholeB (.int (co t)) 0 ((T s).getD (nl t : Int).toNat []).length) = true
  rw [Int.toNat_natCast, List.getD_eq_getElem?_getD, e, Option.getD_some]
  simp only [wholeB, Bool.and_eq_true, decide_eq_true_iff]
  omega
theorem tx_gd {B : Nat → Prop} {st : Sto} {s : List Nat} (h : SgT s) (hl : s.length ≤ 90000) : Gd B 100000 st 7 (tx s) := ⟨by
    have h1 := len_T s
    have h2 := nl_len s
    simp
    omega, fun v hv => by
  obtain ⟨r, hr, rfl⟩ := List.mem_map.mp hv
  have h1 := row_len s r hr
  exact ⟨by omega, fun c hc => by have := h.rows r hr c hc; omega⟩⟩
theorem zip_at {us : List (List Nat)} {f : List Nat → List Nat} {i : Nat} {v : Val} (h : (zipV (us.map pv) ((us.map f).map pv))[i]? = some v) : ∃ t, us[i]? = some t ∧ v = .tup [pv t, pv (f t)] := by
  unfold zipV at h
  rw [List.getElem?_map] at h
  obtain ⟨⟨a, b⟩, h1, rfl⟩ := Option.map_eq_some_iff.mp h
  rw [List.getElem?_zip_eq_some] at h1
  obtain ⟨h2, h3⟩ := h1
  rw [List.getElem?_map] at h2 h3
  obtain ⟨t, h4, rfl⟩ := Option.map_eq_some_iff.mp h2
  rw [List.getElem?_map, h4] at h3
  simp only [Option.map_some, Option.some.injEq] at h3
  subst h3
  exact ⟨t, h4, rfl⟩
theorem t5_eq {ns : List Int} {w p q p8 p9 : Nat} {x y z n t t' : List Nat} {st9 : Sto} {a1 a4 a11 b14 a15 : Option Val} (ht' : x ++ (y ++ z) = t ++ t') :
    T5F_law [some (.scr ns), a1, some (.ref w), some (tx (x ++ (y ++ z))), a4, some (.ref p), some (.ref q), some (.tup [pv x, pv (x ++ y), tx n]), some (.ref p8), some (.ref p9), some (tx (x ++ (n ++ z))), a11, some (pv t), some (pv (car x y n t)), b14, a15] st9 =
    some (.nx [some (.scr ns), a1, some (.ref w), some (tx (x ++ (y ++ z))), a4, some (.ref p), some (.ref q), some (.tup [pv x, pv (x ++ y), tx n]), some (.ref p8), some (.ref p9), some (tx (x ++ (n ++ z))), a11, some (pv t), some (pv (car x y n t)), b14, a15] st9) := by
  obtain ⟨sl, hsl⟩ : ∃ sl : Sl, sl = [some (.scr ns), a1, some (.ref w), some (tx (x ++ (y ++ z))), a4, some (.ref p), some (.ref q), some (.tup [pv x, pv (x ++ y), tx n]), some (.ref p8), some (.ref p9), some (tx (x ++ (n ++ z))), a11, some (pv t), some (pv (car x y n t)), b14, a15] := ⟨_, rfl⟩
  rw [← hsl]
  have : wS T5F_law sl st9 (fun r => r = .nx sl st9) := by
    unfold T5F_law
    rw [hsl]
    simp
    cases h3 : leP t x with
    | false => simp
    | true =>
      have hlen : t.length ≤ x.length := len_leP ht' (rfl : x ++ (y ++ z) = x ++ (y ++ z)) h3
      have hcar : car x y n t = t := if_pos hlen
      have ne3 := fNe_same (B := fun _ => False) (st := st9) (pv_gd (t := t)) (by decide)
      simp [hcar, ne3]
  obtain ⟨r, h1, rfl⟩ := this
  exact h1
theorem t2_spec {Q : RS → Prop} {ns : List Int} {w p q : Nat} {x y z n : List Nat} {st : Sto} {a1 a4 a8 a9 a11 a12 a13 a14 a15 : Option Val} (hw : WellAt w st) (hs : SmT (x ++ (y ++ z))) (hs' : (x ++ (n ++ z)).length ≤ 100000) (hok0 : OkT 200 (x ++ (y ++ z))) (hok : OkT 200 (x ++ (n ++ z))) (hn : n.length ≤ 100000)
    (hX : ∀ b8 b9 b12 b13 b14 b15 st', WellAt w st' → Dr w st st' → wS T3F_law [some (.scr ns), a1, some (.ref w), some (tx (x ++ (y ++ z))), a4, some (.ref p), some (.ref q), some (.tup [pv x, pv (x ++ y), tx n]), b8, b9, some (tx (x ++ (n ++ z))), a11, b12, b13, b14, b15] st' Q) :
    wS T2F_law [some (.scr ns), a1, some (.ref w), some (tx (x ++ (y ++ z))), a4, some (.ref p), some (.ref q), some (.tup [pv x, pv (x ++ y), tx n]), a8, a9, some (tx (x ++ (n ++ z))), a11, a12, a13, a14, a15] st Q := by
  have hwl := hw.lt
  have five : small62 5 := by unfold small62; omega
  unfold T2F_law
  simp
  refine wX_lc ?_
  simp [five]
  refine ⟨by decide, fun i acc st2 => WellAt w st2 ∧ Dr w st st2 ∧ ∃ ts : List (List Nat), acc = ts.map pv ∧ ts.length = i ∧ ∀ t ∈ ts, ∃ t', x ++ (y ++ z) = t ++ t', ⟨hw, Dr.refl _ _, [], rfl, rfl, by simp⟩, fun _ _ _ _ _ => live_none, ?_, ?_⟩
  · rintro i v acc st2 hv ⟨hw2, d2, ts, rfl, e2, e3⟩
    simp
    refine (place_flat hw2 hs).mono ?_
    rintro v st3 ⟨t, t', ht, rfl, hw3, d3⟩
    refine ⟨hw3, d2.trans d3, ts ++ [t], by simp, by simp [e2], fun u hu => ?_⟩
    rcases List.mem_append.mp hu with h | h
    · exact e3 u h
    · rw [List.mem_singleton.mp h]
      exact ⟨t', ht⟩
  · rintro acc st2 ⟨hw2, d2, ts, rfl, e2, e3⟩
    have e2 : ts.length = 5 := by simpa using e2
    have hwl2 := hw2.lt
    simp only [sort_pv (st := st2 ++ [Ob.lst (ts.map pv)]) (p := st2.length) (ts := ts) (by simp)]
    have u1 := sortT_srt ts
    have u2 : ∀ t ∈ sortT ts, ∃ t', x ++ (y ++ z) = t ++ t' := fun t ht => e3 t ((sortT_perm ts).mem_iff.mp ht)
    have u3 : (sortT ts).length = 5 := by rw [(sortT_perm ts).length_eq, e2]
    generalize sortT ts = us at u1 u2 u3
    obtain ⟨st3, hst3⟩ : ∃ st3, st3 = st2 ++ [Ob.lst (ts.map pv)] ++ [Ob.lst (us.map pv)] := ⟨_, rfl⟩
    have hp8 : st3[(st2 ++ [Ob.lst (ts.map pv)]).length]? = some (Ob.lst (us.map pv)) := by rw [hst3, List.getElem?_append_right (Nat.le_refl _)]; simp
    have hw3 : WellAt w st3 := by rw [hst3, List.append_assoc]; exact hw2.ap ⟨_, rfl⟩
    have d3 : Dr w st st3 := by rw [hst3, List.append_assoc]; exact d2.trans (Ap.dr ⟨_, rfl⟩)
    rw [← hst3]
    generalize (st2 ++ [Ob.lst (ts.map pv)]).length = p8 at hp8
    simp
    refine wX_lc ?_
    simp [hp8]
    have cl : ∀ t ∈ us, ∃ u, x ++ (n ++ z) = car x y n t ++ u := fun t ht => by
      obtain ⟨t', h'⟩ := u2 t ht
      obtain ⟨u, h1, _⟩ := car_pre (n := n) h'
      exact ⟨u, h1⟩
    refine ⟨by simp [u3], fun i acc st4 => acc = ((us.take i).map (car x y n)).map pv ∧ Ap st3 st4, ⟨by simp, Ap.refl _⟩, fun i acc st4 _ h => h.2.get hp8, ?_, ?_⟩
    · rintro i v acc st4 hv ⟨rfl, d4⟩
      have hv : (us.map pv)[i]? = some v := hv
      rw [List.getElem?_map] at hv
      obtain ⟨t, ht, rfl⟩ := Option.map_eq_some_iff.mp hv
      obtain ⟨t', ht'⟩ := u2 t (List.mem_of_getElem? ht)
      simp
      refine (carried_spec ht' hn).mono ?_
      rintro v st5 ⟨rfl, rfl⟩
      refine ⟨?_, d4⟩
      rw [List.take_add_one, ht]
      simp
    · rintro acc st4 ⟨rfl, d4⟩
      have etake : us.take (us.map pv).length = us := by rw [List.length_map, List.take_length]
      have hws : (us.map (car x y n)).Pairwise fun a b => leP a b = true := by
        refine List.pairwise_map.mpr (List.Pairwise.imp_of_mem (fun {a b} ha hb hab => ?_) u1)
        obtain ⟨a', ha'⟩ := u2 a ha
        obtain ⟨b', hb'⟩ := u2 b hb
        obtain ⟨ca, hca⟩ := cl a ha
        obtain ⟨cb, hcb⟩ := cl b hb
        exact leP_len hca hcb (car_mono (len_leP ha' hb' hab))
      have hsid := sortT_id hws
      have wl : (us.map (car x y n)).length = 5 := by rw [List.length_map, u3]
      have wpre : ∀ t ∈ us.map (car x y n), ∃ u, x ++ (n ++ z) = t ++ u := fun t ht => by
        obtain ⟨t0, h0, rfl⟩ := List.mem_map.mp ht
        exact cl t0 h0
      show wG (fSortP [Val.ref st4.length] (st4 ++ [Ob.lst (((us.take (us.map pv).length).map (car x y n)).map pv)])) _
      rw [etake]
      obtain ⟨ws, hwsd⟩ : ∃ ws, ws = us.map (car x y n) := ⟨_, rfl⟩
      rw [← hwsd] at hws hsid wl wpre ⊢
      obtain ⟨st5, hst5⟩ : ∃ st5, st5 = st4 ++ [Ob.lst (ws.map pv)] := ⟨_, rfl⟩
      have h9 : st5[st4.length]? = some (Ob.lst (ws.map pv)) := by rw [hst5]; simp
      have h8 : st5[p8]? = some (Ob.lst (us.map pv)) := by rw [hst5]; exact Ap.get ⟨_, rfl⟩ (d4.get hp8)
      have hw5 : WellAt w st5 := by rw [hst5]; exact (hw3.ap d4).ap ⟨_, rfl⟩
      have d5 : Dr w st st5 := by rw [hst5]; exact (d3.trans (Ap.dr d4)).trans (Ap.dr ⟨_, rfl⟩)
      rw [← hst5]
      generalize st4.length = p9 at h9
      rw [sort_pv h9, hsid]
      have gw : ∀ v ∈ ws.map pv, Gd (fun _ => False) 1000 (st5 ++ [Ob.lst (ws.map pv)]) 1 v := fun v hv => by
        obtain ⟨t, _, rfl⟩ := List.mem_map.mp hv
        exact pv_gd
      have ne1 := fNe_lst (st := st5 ++ [Ob.lst (ws.map pv)]) (p := p9) (q := st5.length) (xs := ws.map pv) (Ap.get ⟨_, rfl⟩ h9) (by simp) gw (by simp [wl]) (by decide)
      simp [ne1]
      refine wX_lc ?_
      have h9b : (st5 ++ [Ob.lst (ws.map pv)])[p9]? = some (Ob.lst (ws.map pv)) := Ap.get ⟨_, rfl⟩ h9
      simp [h9b]
      refine LcOb.fm (fun _ => false) id (by simp [wl]) (fun st' a => a.get h9b) ?_ ?_
      · intro v hv st6 d6
        obtain ⟨t, ht, rfl⟩ := List.mem_map.mp hv
        obtain ⟨u, hu⟩ := wpre t ht
        have isp := is_place_spec (B := fun _ => False) (st := st6) (v := pv t) (ss := T (x ++ (n ++ z))) (pv_gd (B := fun _ => False)) (fun r hr => by have := (hok.2 r hr).2; omega)
        simp
        refine isp.mono ?_
        rintro r st7 ⟨rfl, rfl⟩
        rw [place_ok hu]
        simp [Ap.refl]
      · intro st6 d6
        have en : ((ws.map pv).filter fun _ => false).map id = [] := by simp
        simp only [en]
        have ne2 := fNe_nil (B := fun _ => False) (c := 1000) (n := 1) (st := st6 ++ [Ob.lst []] ++ [Ob.lst []]) (p := st6.length) (q := st6.length + 1) (xs := []) (by simp) (by simp) (by simp) (by decide)
        simp at ne2
        simp [ne2]
        obtain ⟨st7, hst7⟩ : ∃ st7, st7 = st6 ++ [Ob.lst [], Ob.lst []] := ⟨_, rfl⟩
        have d57 : Ap st5 st7 := by rw [hst7]; exact (Ap.trans ⟨_, rfl⟩ d6).trans ⟨_, rfl⟩
        rw [← hst7]
        have k8 := d57.get h8
        have k9 := d57.get h9
        refine wS_for ?_
        simp only [wX_zip]
        simp
        refine ⟨p8, p9, ⟨rfl, rfl⟩, us.map pv, k8, ws.map pv, k9, ?_⟩
        refine ⟨fun i sl st8 => (∃ b12 b13 b14, sl = [some (.scr ns), a1, some (.ref w), some (tx (x ++ (y ++ z))), a4, some (.ref p), some (.ref q), some (.tup [pv x, pv (x ++ y), tx n]), some (.ref p8), some (.ref p9), some (tx (x ++ (n ++ z))), a11, b12, b13, b14, a15]) ∧ Kp st7 st8,
          ⟨⟨_, _, _, rfl⟩, Kp.refl _⟩, fun i sl st8 _ h => ⟨h.2.2 _ _ k8, h.2.2 _ _ k9⟩, ?_, ?_⟩
        · rintro i v sl st8 hv ⟨⟨b12, b13, b14, rfl⟩, d8⟩
          have hv2 : (zipV (us.map pv) (ws.map pv))[i]? = some v := hv
          rw [hwsd] at hv2
          obtain ⟨t, ht, rfl⟩ := zip_at hv2
          obtain ⟨t', ht'⟩ := u2 t (List.mem_of_getElem? ht)
          obtain ⟨u, hu, hu2⟩ := car_pre (n := n) ht'
          have sgs : SgT (x ++ (y ++ z)) := sgT_of fun r hr => (hok0.2 r hr).1
          have sgt : SgT t' := fun c hc => sgs c (by rw [ht']; exact List.mem_append.mpr (.inr hc))
          have lt' : t'.length ≤ 90000 := by
            have h0 := hs.2.2
            have e : (x ++ (y ++ z)).length = t.length + t'.length := by rw [ht', List.length_append]
            omega
          have t5 := fun st9 b14 => t5_eq (st9 := st9) (n := n) (w := w) (p := p) (q := q) (p8 := p8) (p9 := p9) (ns := ns) (a1 := a1) (a4 := a4) (a11 := a11) (b14 := b14) (a15 := a15) ht'
          have r1 := fun st9 => rest_spec (t := car x y n t) (v := u) (st := st9) (by rw [← hu]; exact hs')
          have r2 := fun st9 => rest_spec (t := t) (v := t') (st := st9) (by rw [← ht']; have := hs.2.2; omega)
          rw [← hu] at r1
          rw [← ht'] at r2
          simp
          refine ⟨_, _, ⟨rfl, rfl⟩, _, _, rfl, rfl, ?_⟩
          cases g1 : ltP x t with
          | false =>
            simp [g1]
            exact ⟨_, t5 _ _, ⟨_, _, _, rfl⟩, d8⟩
          | true =>
            cases g2 : leP (x ++ y) t with
            | false =>
              simp [g1, g2]
              exact ⟨_, t5 _ _, ⟨_, _, _, rfl⟩, d8⟩
            | true =>
              have l1 : x.length < t.length := by
                rcases Nat.lt_or_ge x.length t.length with h | h
                · exact h
                · obtain ⟨c, rfl, _⟩ := pre_len ht' (rfl : x ++ (y ++ z) = x ++ (y ++ z)) h
                  rw [ltP_no] at g1
                  cases g1
              have l2 : (x ++ y).length ≤ t.length := len_leP (s := x ++ (y ++ z)) (a' := z) (by simp) ht' g2
              have hut := hu2 l1 l2
              subst hut
              simp [g1, g2]
              refine (r1 _).go ?_
              rintro v st9 ⟨rfl, d9⟩
              simp
              refine (r2 _).go ?_
              rintro v st10 ⟨rfl, d10⟩
              have ne3 := fNe_same (B := fun _ => False) (st := st10) (tx_gd (B := fun _ => False) sgt lt') (by decide)
              simp [ne3]
              exact ⟨_, t5 _ _, ⟨_, _, _, rfl⟩, (d8.trans d9).trans d10⟩
        · rintro sl st8 ⟨⟨b12, b13, b14, rfl⟩, d8⟩
          have D : Dr w st st8 := (d5.trans (Ap.dr d57)).trans ⟨d8.1, fun j hj _ => by
            have e := List.getElem?_eq_getElem hj
            rw [e]
            exact d8.2 j _ e⟩
          have W8 : WellAt w st8 := by
            obtain ⟨c, s0, p0, h1, h2⟩ := hw5.ap d57
            exact ⟨c, s0, p0, d8.2 _ _ h1, h2⟩
          simp
          exact hX _ _ _ _ _ _ st8 W8 D
theorem edit_gd {B : Nat → Prop} {st : Sto} {a b n : List Nat} (h : SgT n) (hl : n.length ≤ 90000) : Gd B 100000 st 8 (.tup [pv a, pv b, tx n]) := ⟨by simp, fun v hv => by
  simp only [List.mem_cons, List.not_mem_nil, or_false] at hv
  rcases hv with rfl | rfl | rfl
  · exact (pv_gd.le (by decide)).more (by decide)
  · exact (pv_gd.le (by decide)).more (by decide)
  · exact tx_gd h hl⟩
theorem t1_spec {Q : RS → Prop} {ns : List Int} {w p q : Nat} {x y z n : List Nat} {st : Sto} {a1 a4 a8 a9 a10 a11 a12 a13 a14 a15 : Option Val} (hw : WellAt w st) (ok0 : OkT 200 (x ++ (y ++ z))) (ok : OkT 200 (x ++ (n ++ z))) (sgn : SgT n) (hn : n.length ≤ 90000)
    (hX : ∀ b8 b9 b12 b13 b14 b15 st', WellAt w st' → Dr w st st' → wS T3F_law [some (.scr ns), a1, some (.ref w), some (tx (x ++ (y ++ z))), a4, some (.ref p), some (.ref q), some (.tup [pv x, pv (x ++ y), tx n]), b8, b9, some (tx (x ++ (n ++ z))), some (.tup [pv x, pv (x ++ n), tx y]), b12, b13, b14, b15] st' Q) :
    wS T1F_law [some (.scr ns), a1, some (.ref w), some (tx (x ++ (y ++ z))), a4, some (.ref p), some (.ref q), some (.tup [pv x, pv (x ++ y), tx n]), a8, a9, a10, a11, a12, a13, a14, a15] st Q := by
  have sm0 := ok0.sm (by decide)
  have sm1 := ok.sm (by decide)
  have l0 : (x ++ (y ++ z)).length ≤ 100000 := by have := sm0.2.2; omega
  have l1 : (x ++ (n ++ z)).length ≤ 100000 := by have := sm1.2.2; omega
  have ly : y.length ≤ 90000 := by
    have := sm0.2.2
    rw [List.length_append, List.length_append] at this
    omega
  have sg0 : SgT (x ++ (y ++ z)) := sgT_of fun r hr => (ok0.2 r hr).1
  unfold T1F_law
  simp
  refine (edited_spec l0 (by omega) ok).go ?_
  rintro v st1 ⟨rfl, d1⟩
  simp
  refine (taken_back_spec l0 (by omega)).go ?_
  rintro v st2 ⟨rfl, d2⟩
  simp
  refine ⟨_, _, ⟨rfl, rfl⟩, _, _, rfl, rfl, ?_⟩
  simp
  refine (span_spec l1).go ?_
  rintro v st3 ⟨rfl, d3⟩
  have ne1 := fNe_same (B := fun _ => False) (st := st3) (tx_gd (B := fun _ => False) sgn hn) (by decide)
  have ne2 := fNe_same (B := fun _ => False) (st := st3) (pv_gd (t := x)) (by decide)
  simp [ne1, ne2]
  refine (edited_spec l1 (by omega) ok0).go ?_
  rintro v st4 ⟨rfl, d4⟩
  have ne3 := fNe_same (B := fun _ => False) (st := st4) (tx_gd (B := fun _ => False) sg0 sm0.2.2) (by decide)
  simp [ne3]
  refine (taken_back_spec l1 (by omega)).go ?_
  rintro v st5 ⟨rfl, d5⟩
  have ne4 := fNe_same (B := fun _ => False) (st := st5) (edit_gd (B := fun _ => False) (a := x) (b := x ++ y) sgn hn) (by decide)
  simp [ne4]
  have D := (((d1.trans d2).trans d3).trans d4).trans d5
  exact t2_spec (hw.ap D) sm0 l1 ok0 ok (by omega) fun b8 b9 b12 b13 b14 b15 st' h1 h2 => hX _ _ _ _ _ _ _ h1 ((Ap.dr D).trans h2)
/-- what was edited, and what takes each edit back -/
inductive Chain : List Nat → List (List Nat) → List Val → Prop
  | nil (s : List Nat) : OkT 200 s → Chain s [] []
  | snoc {x y z n : List Nat} {hs : List (List Nat)} {bs : List Val} : Chain (x ++ (y ++ z)) hs bs → OkT 200 (x ++ (n ++ z)) → OkT 200 (x ++ (y ++ z)) → Chain (x ++ (n ++ z)) (hs ++ [x ++ (y ++ z)]) (bs ++ [.tup [pv x, pv (x ++ n), tx y]])
theorem Chain.len {s : List Nat} {hs : List (List Nat)} {bs : List Val} (h : Chain s hs bs) : bs.length = hs.length := by
  induction h with
  | nil => rfl
  | snoc _ _ _ ih => simp [ih]
def IvT (ns : List Int) (w p q R m : Nat) (sl : Sl) (st : Sto) : Prop := ∃ s hs bs a1 a4 a7 a8 a9 a10 a11 a12 a13 a14 a15, sl = [some (.scr ns), a1, some (.ref w), some (tx s), a4, some (.ref p), some (.ref q), a7, a8, a9, a10, a11, a12, a13, a14, a15] ∧
  WellAt w st ∧ st[p]? = some (Ob.lst (hs.map tx)) ∧ st[q]? = some (Ob.lst bs) ∧ Chain s hs bs ∧ OkT R s ∧ hs.length = m
theorem t3_spec {ns : List Int} {w p q R m : Nat} {x y z n : List Nat} {hs : List (List Nat)} {bs : List Val} {st : Sto} {a1 a4 a7 a8 a9 a12 a13 a14 a15 : Option Val} (hw : WellAt w st) (hp : st[p]? = some (Ob.lst (hs.map tx))) (hq : st[q]? = some (Ob.lst bs)) (wp : w ≠ p) (wq : w ≠ q) (pq : p ≠ q)
    (C : Chain (x ++ (y ++ z)) hs bs) (ok0 : OkT 200 (x ++ (y ++ z))) (okR : OkT R (x ++ (n ++ z))) (hR : R ≤ 200) (hm : hs.length = m) (hm2 : m ≤ 1000) :
    wS T3F_law [some (.scr ns), a1, some (.ref w), some (tx (x ++ (y ++ z))), a4, some (.ref p), some (.ref q), a7, a8, a9, some (tx (x ++ (n ++ z))), some (.tup [pv x, pv (x ++ n), tx y]), a12, a13, a14, a15] st (fun r => ∃ sl' st', r = .nx sl' st' ∧ IvT ns w p q R (m + 1) sl' st') := by
  have lp := (List.getElem?_eq_some_iff.mp hp).1
  have lq := (List.getElem?_eq_some_iff.mp hq).1
  have l1 : hs.length < 16777216 := by omega
  have l2 : bs.length < 16777216 := by have := C.len; omega
  have hq2 : (st.set p (Ob.lst (hs.map tx ++ [tx (x ++ (y ++ z))])))[q]? = some (Ob.lst bs) := by rw [List.getElem?_set_ne pq]; exact hq
  have okn : OkT 200 (x ++ (n ++ z)) := ⟨by have := okR.1; omega, okR.2⟩
  unfold T3F_law
  simp [kind_lst hp, onL_ref hp, l1, kind_lst hq2, onL_ref hq2, l2]
  refine ⟨_, _, ⟨rfl, rfl⟩, x ++ (n ++ z), hs ++ [x ++ (y ++ z)], bs ++ [.tup [pv x, pv (x ++ n), tx y]], _, _, _, _, _, _, _, _, _, _, _, rfl, (hw.set _ wp.symm).set _ wq.symm, ?_, ?_, .snoc C okn ok0, okR, by simp [hm]⟩
  · rw [List.getElem?_set_ne pq.symm, List.getElem?_set_self lp]
    simp
  · rw [List.getElem?_set_self (by rw [List.length_set]; exact lq)]
theorem t0_spec {ns : List Int} {w p q R m : Nat} {sl : Sl} {st : Sto} (h : IvT ns w p q R m sl st) (wp : w ≠ p) (wq : w ≠ q) (pq : p ≠ q) (hR : R + 2 ≤ 200) (hm2 : m ≤ 1000) :
    wS T0F_law sl st (fun r => ∃ sl' st', r = .nx sl' st' ∧ IvT ns w p q (R + 2) (m + 1) sl' st') := by
  obtain ⟨s, hs, bs, a1, a4, a7, a8, a9, a10, a11, a12, a13, a14, a15, rfl, hw, hp, hq, C, ok, hm⟩ := h
  have ok2 : OkT 200 s := ⟨by have := ok.1; omega, ok.2⟩
  have okR2 : OkT (R + 2) s := ⟨by have := ok.1; omega, ok.2⟩
  have sm := ok2.sm (by decide)
  unfold T0F_law
  simp
  refine (edit_spec hw sm).go ?_
  rintro v st1 ⟨x, y, z, n, rfl, rfl, n1, n2, hw1, d1⟩
  have ln := flat_len n1 fun r hr => (n2 r hr).2
  have l0 : (x ++ (y ++ z)).length ≤ 100000 := by have := sm.2.2; omega
  have sgn : SgT n := sgT_of fun r hr => (n2 r hr).1
  simp
  refine (too_long_spec l0 (by omega)).go ?_
  rintro v st2 ⟨b, rfl, d2, hb⟩
  have D2 : Dr w st st2 := d1.trans ⟨d2.1, fun j hj _ => by
    have e := List.getElem?_eq_getElem hj
    rw [e]
    exact d2.2 j _ e⟩
  have W2 : WellAt w st2 := by
    obtain ⟨c, s0, p0, h1, h2⟩ := hw1
    exact ⟨c, s0, p0, d2.2 _ _ h1, h2⟩
  cases b with
  | false =>
    have okn := ok_edit ok n1 n2 (hb rfl)
    have okn2 : OkT 200 (x ++ (n ++ z)) := ⟨by have := okn.1; omega, okn.2⟩
    simp
    refine t1_spec W2 ok2 okn2 sgn (by omega) fun b8 b9 b12 b13 b14 b15 st' h1 h2 => ?_
    have D := D2.trans h2
    exact t3_spec h1 (D.get wp.symm hp) (D.get wq.symm hq) wp wq pq C ok2 okn hR hm hm2
  | true =>
    simp
    have := t1_spec (Q := fun r => ∃ sl' st', r = .nx sl' st' ∧ IvT ns w p q (R + 2) (m + 1) sl' st') (ns := ns) (p := p) (q := q) (x := x) (y := []) (z := y ++ z) (n := []) (a1 := a1) (a4 := a4) (a8 := a8) (a9 := a9) (a10 := a10) (a11 := a11) (a12 := a12) (a13 := a13) (a14 := a14) (a15 := a15) W2 ok2 ok2 (fun c hc => (nomatch hc)) (by simp) fun b8 b9 b12 b13 b14 b15 st' h1 h2 => by
      have D := D2.trans h2
      exact t3_spec (y := []) (n := []) h1 (D.get wp.symm hp) (D.get wq.symm hq) wp wq pq C ok2 okR2 hR hm hm2
    rw [List.append_nil] at this
    exact this
theorem chain_ok {s : List Nat} {hs : List (List Nat)} {bs : List Val} (C : Chain s hs bs) : OkT 200 s := by
  cases C with
  | nil _ h => exact h
  | snoc _ h _ => exact h
theorem chain_all {s : List Nat} {hs : List (List Nat)} {bs : List Val} (C : Chain s hs bs) : ∀ t ∈ hs, OkT 200 t := by
  induction C with
  | nil => simp
  | snoc _ _ h ih =>
    intro t ht
    rcases List.mem_append.mp ht with z | z
    · exact ih t z
    · rw [List.mem_singleton.mp z]
      exact h
theorem law_spec {st : Sto} {ns : List Int} (hn : ns.length ≤ 63) : wF F_law [.scr ns] st (fun v _ => v = .bl true) G0 := by
  unfold F_law MF_law
  simp
  refine wS_for ?_
  simp
  obtain ⟨N, hN⟩ : ∃ N : Int, N = (if (8 : Int) < (if (ns.length : Int) < 60 then (ns.length : Int) else 60) then (if (ns.length : Int) < 60 then (ns.length : Int) else 60) else 8) := ⟨_, rfl⟩
  have hN2 : 0 ≤ N ∧ N ≤ 60 := by rw [hN]; split <;> (try split) <;> omega
  rw [← hN]
  refine ⟨by unfold small62; omega, fun i sl _ => ∃ l, sl = some (.scr ns) :: l ∧ l.length = 15, ⟨_, rfl, rfl⟩, fun _ _ _ _ _ => live_none, ?_, ?_⟩
  · rintro i x sl st1 hx ⟨l, rfl, hl⟩
    obtain ⟨hi, rfl⟩ := rngL_get hx
    obtain ⟨a1, a2, a3, a4, a5, a6, a7, a8, a9, a10, a11, a12, a13, a14, a15, rfl⟩ : ∃ a1 a2 a3 a4 a5 a6 a7 a8 a9 a10 a11 a12 a13 a14 a15, l = [a1, a2, a3, a4, a5, a6, a7, a8, a9, a10, a11, a12, a13, a14, a15] := by
      match l, hl with
      | [a1, a2, a3, a4, a5, a6, a7, a8, a9, a10, a11, a12, a13, a14, a15], _ => exact ⟨a1, a2, a3, a4, a5, a6, a7, a8, a9, a10, a11, a12, a13, a14, a15, rfl⟩
    simp
    refine (well_spec (by omega) hn).go ?_
    rintro v st2 ⟨w, rfl, hwge, hw2, d2⟩
    simp
    refine (text_spec (most := 5) hw2 (by decide) (by decide)).go ?_
    rintro v st3 ⟨ss, rfl, s1, s2, s3, hw3, d3⟩
    have eJ : T (J ss) = ss := TJ (fun z => by rw [z] at s1; simp at s1) fun r hr => signs_no10 (s3 r hr).1
    have etx : Val.tup (ss.map Val.str) = tx (J ss) := by unfold tx; rw [eJ]
    have ok5 : OkT 5 (J ss) := ⟨by rw [eJ]; omega, fun r hr => by rw [eJ] at hr; exact ⟨(s3 r hr).1, by have := (s3 r hr).2; omega⟩⟩
    have hlt3 := hw3.lt
    rw [etx]
    simp
    refine ⟨_, _, ⟨rfl, rfl⟩, ?_⟩
    refine wS_for ?_
    simp
    refine (take_spec (many := 6) (hw3.ap ⟨_, rfl⟩) (by decide) (by decide)).go ?_
    rintro v st4 ⟨t, rfl, t0, t1, hw4, hl4, d4⟩
    have hp4 := d4.get (i := st3.length) (o := .lst []) (by omega) (by simp)
    have hq4 := d4.get (i := st3.length + 1) (o := .lst []) (by omega) (by simp)
    have sm4 : small62 (1 + t) := by unfold small62; omega
    simp [sm4]
    refine ⟨fun j sl st5 => IvT ns w st3.length (st3.length + 1) (5 + 2 * j) j sl st5, ?_, fun _ _ _ _ _ => live_none, ?_, ?_⟩
    · exact ⟨J ss, [], [], _, _, _, _, _, _, _, _, _, _, _, rfl, hw4, hp4, hq4, .nil _ ⟨by have := ok5.1; omega, ok5.2⟩, ok5, rfl⟩
    · rintro j v sl st5 hv hI
      obtain ⟨hj, rfl⟩ := rngL_get hv
      obtain ⟨s, hs, bs, b1, b4, b7, b8, b9, b10, b11, b12, b13, b14, b15, rfl, r⟩ := hI
      simp
      have h0 := t0_spec (ns := ns) (w := w) (p := st3.length) (q := st3.length + 1) (R := 5 + 2 * j) (m := j) (sl := [some (.scr ns), b1, some (.ref w), some (tx s), some (.int j), some (.ref st3.length), some (.ref (st3.length + 1)), b7, b8, b9, b10, b11, b12, b13, b14, b15]) (st := st5) ⟨s, hs, bs, _, _, _, _, _, _, _, _, _, _, _, rfl, r⟩ (by omega) (by omega) (by omega) (by omega) (by omega)
      obtain ⟨r', h1, sl', st', rfl, h2⟩ := h0
      refine ⟨_, h1, ?_⟩
      simp
      exact h2
    · rintro sl st5 hI
      obtain ⟨s, hs, bs, b1, b4, b7, b8, b9, b10, b11, b12, b13, b14, b15, rfl, hw5, hp5, hq5, C, ok, hm⟩ := hI
      simp
      unfold T4F_law
      refine wS_while (fun m sl st6 => ∃ s hs bs b1 b4 b7 b8 b9 b10 b11 b12 b13 b14 b15, sl = [some (.scr ns), b1, some (.ref w), some (tx s), b4, some (.ref st3.length), some (.ref (st3.length + 1)), b7, b8, b9, b10, b11, b12, b13, b14, b15] ∧
        st6[st3.length]? = some (Ob.lst (hs.map tx)) ∧ st6[st3.length + 1]? = some (Ob.lst bs) ∧ Chain s hs bs ∧ hs.length = m) hs.length ⟨s, hs, bs, _, _, _, _, _, _, _, _, _, _, _, rfl, hp5, hq5, C, rfl⟩ ?_
      rintro m sl st6 ⟨s, hs, bs, b1, b4, b7, b8, b9, b10, b11, b12, b13, b14, b15, rfl, hp6, hq6, C, hm⟩
      have gds : ∀ v ∈ hs.map tx, Gd (fun _ => False) 100000 (st6 ++ [Ob.lst []]) 7 v := fun v hv => by
        obtain ⟨u, hu, rfl⟩ := List.mem_map.mp hv
        have ok := chain_all C u hu
        exact tx_gd (sgT_of fun r hr => (ok.2 r hr).1) (ok.sm (by decide)).2.2
      have ne := fNe_nil (st := st6 ++ [Ob.lst []]) (p := st3.length) (q := st6.length) (Ap.get ⟨_, rfl⟩ hp6) (by simp) gds (by decide)
      simp [ne]
      cases C with
      | nil _ _ => exact .inl rfl
      | @snoc x y z n hs' bs' C' ok1 ok0 =>
        refine .inr ⟨by simp, hs'.length, by rw [← hm]; simp, ?_⟩
        have hq7 : (st6 ++ [Ob.lst []])[st3.length + 1]? = some (Ob.lst (bs' ++ [.tup [pv x, pv (x ++ n), tx y]])) := Ap.get ⟨_, rfl⟩ hq6
        have hp7 : (st6 ++ [Ob.lst []])[st3.length]? = some (Ob.lst ((hs' ++ [x ++ (y ++ z)]).map tx)) := Ap.get ⟨_, rfl⟩ hp6
        have lq7 := (List.getElem?_eq_some_iff.mp hq7).1
        refine ⟨kind_lst hq7, ?_⟩
        rw [pop_last hq7]
        have sm1 := ok1.sm (by decide)
        have sm0 := ok0.sm (by decide)
        have ly : y.length ≤ 100000 := by
          have := sm0.2.2
          rw [List.length_append, List.length_append] at this
          omega
        simp
        refine (edited_spec (w := n) (n := y) (by have := sm1.2.2; omega) ly ok0).go ?_
        rintro v st8 ⟨rfl, d8⟩
        have hp8 : st8[st3.length]? = some (Ob.lst (hs'.map tx ++ [tx (x ++ (y ++ z))])) := d8.get (by
          rw [List.getElem?_set_ne (by omega), hp7]
          simp)
        have hq8 : st8[st3.length + 1]? = some (Ob.lst bs') := d8.get (by rw [List.getElem?_set_self lq7])
        have lp8 := (List.getElem?_eq_some_iff.mp hp8).1
        have sg0 : SgT (x ++ (y ++ z)) := sgT_of fun r hr => (ok0.2 r hr).1
        have ne2 := fun st9 => fNe_same (B := fun _ => False) (st := st9) (tx_gd (B := fun _ => False) sg0 sm0.2.2) (by decide)
        unfold T6F_law
        simp [kind_lst hp8, pop_last hp8, ne2]
        exact ⟨x ++ (y ++ z), rfl, hs', List.getElem?_set_self lp8, bs', hq8, C', rfl⟩
  · rintro sl st1 ⟨l, rfl, hl⟩
    simp
end K03
namespace K03
open PySem PySem.Spec PyProof.Rows L2 FL
def topS (i : Nat) : Stmt := PySem.Challenge.pw_keyroom_k03_whole_edits_and_places.main.body.getD i (.Pass ⟨0, 0, 0, 0⟩)
abbrev s_is_int : Stmt := topS 7
abbrev s_is_whole : Stmt := topS 8
abbrev s_are_signs : Stmt := topS 9
abbrev s_is_text : Stmt := topS 10
abbrev s_is_place : Stmt := topS 11
abbrev s_span_text : Stmt := topS 12
abbrev s_end_of : Stmt := topS 13
abbrev s_edited : Stmt := topS 14
abbrev s_taken_back : Stmt := topS 15
abbrev s_carried : Stmt := topS 16
abbrev s__law_well : Stmt := topS 18
abbrev s__law_take : Stmt := topS 19
abbrev s__law_row : Stmt := topS 20
abbrev s__law_text : Stmt := topS 21
abbrev s__law_place : Stmt := topS 22
abbrev s__law_cut : Stmt := topS 23
abbrev s__law_edit : Stmt := topS 24
abbrev s__law_too_long : Stmt := topS 25
abbrev s__law_rest : Stmt := topS 26
abbrev s_law : Stmt := topS 27
/-- what the module's names hold -/
structure Gb (W : Wd) : Prop where
  n_bool : W.mg "bool" = none
  n_isinstance : W.mg "isinstance" = none
  n_int : W.mg "int" = none
  n_ord : W.mg "ord" = none
  n_all : W.mg "all" = none
  n_str : W.mg "str" = none
  n_len : W.mg "len" = none
  n_tuple : W.mg "tuple" = none
  n_list : W.mg "list" = none
  n_range : W.mg "range" = none
  n_sorted : W.mg "sorted" = none
  n_max : W.mg "max" = none
  n_min : W.mg "min" = none
  n_zip : W.mg "zip" = none
  k_PERCENT : ∃ t, W.mg "PERCENT" = some (.int 37 t)
  k_SIGNS : ∃ t, W.mg "SIGNS" = some (.int 120 t)
  k_ROWS : ∃ t, W.mg "ROWS" = some (.int 200 t)
theorem sc_is_int : FnScope ["thing"] ["thing"] (defScope s_is_int) := ⟨rfl, rfl, rfl, by decide +kernel, rfl, by decide +kernel, by decide +kernel⟩
theorem ok_is_int {W : Wd} (G : Gb W) (h : Has W "is_int" s_is_int) : Callee W "is_int" 1 F_is_int :=
  callee (k := 0) h sc_is_int (fun _ _ _ _ _ _ us hl => match us, hl with | [_], _ => rfl) fun f cdv A outer s H E C =>
  (ss_one (ss_ret (se_and (se_blt C (call_isiF C) G.n_isinstance (by decide +kernel) (sa_cons (se_var 0) (sa_cons (se_ty "int" C G.n_int (by decide +kernel)) sa_nil))) (se_one (se_not (se_blt C (call_isiF C) G.n_isinstance (by decide +kernel) (sa_cons (se_var 0) (sa_cons (se_ty "bool" C G.n_bool (by decide +kernel)) sa_nil))))))))
theorem sc_is_whole : FnScope ["thing", "low", "high"] ["thing", "low", "high"] (defScope s_is_whole) := ⟨rfl, rfl, rfl, by decide +kernel, rfl, by decide +kernel, by decide +kernel⟩
theorem ok_is_whole {W : Wd} (G : Gb W) (h : Has W "is_whole" s_is_whole) (cis_int : Callee W "is_int" 1 F_is_int) : Callee W "is_whole" 2 F_is_whole :=
  callee (k := 1) h sc_is_whole (fun _ _ _ _ _ _ us hl => match us, hl with | [_, _, _], _ => rfl) fun f cdv A outer s H E C =>
  (ss_one (ss_ret (se_and (se_call C cis_int (by omega) (sa_cons (se_var 0) sa_nil)) (se_one (se_chain (op_leF C) (op_leF C) (se_var 1) (se_var 0) (se_var 2))))))
theorem sc_are_signs : FnScope ["thing", "sign"] ["thing"] (defScope s_are_signs) := ⟨rfl, rfl, rfl, by decide +kernel, rfl, by decide +kernel, by decide +kernel⟩
theorem ok_are_signs {W : Wd} (G : Gb W) (h : Has W "are_signs" s_are_signs) : Callee W "are_signs" 1 F_are_signs :=
  callee (k := 0) h sc_are_signs (fun _ _ _ _ _ _ us hl => match us, hl with | [_], _ => rfl) fun f cdv A outer s H E C =>
  (ss_one (ss_ret (se_and (se_blt C (call_isiF C) G.n_isinstance (by decide +kernel) (sa_cons (se_var 0) (sa_cons (se_ty "str" C G.n_str (by decide +kernel)) sa_nil))) (se_one (se_blt C (call_allF C) G.n_all (by decide +kernel) (sa_cons (se_lc (own := [("sign", 1)]) C (si_any C (se_var 0)) (blkOk_by (N := ["thing", "sign"]) (sc := defScope s_are_signs) (by decide +kernel)) (fun _ _ _ _ _ => sgw_name 1 (Ctx.blk C _ _ _ _ _).nd) (fun _ _ _ _ _ => sts_nil) (fun _ _ _ _ _ => (se_and (se_chain (op_leF (Ctx.blk C _ _ _ _ _)) (op_leF (Ctx.blk C _ _ _ _ _)) (se_str [32]) (se_var 1) (se_str [126])) (se_one (se_cmp (op_neF (Ctx.blk C _ _ _ _ _)) (se_blt (Ctx.blk C _ _ _ _ _) call_ordF G.n_ord (by decide +kernel) (sa_cons (se_var 1) sa_nil)) (se_gint (Ctx.blk C _ _ _ _ _) G.k_PERCENT)))))) sa_nil))))))
theorem sc_is_text : FnScope ["thing", "row"] ["thing"] (defScope s_is_text) := ⟨rfl, rfl, rfl, by decide +kernel, rfl, by decide +kernel, by decide +kernel⟩
theorem ok_is_text {W : Wd} (G : Gb W) (h : Has W "is_text" s_is_text) (care_signs : Callee W "are_signs" 1 F_are_signs) : Callee W "is_text" 2 F_is_text :=
  callee (k := 1) h sc_is_text (fun _ _ _ _ _ _ us hl => match us, hl with | [_], _ => rfl) fun f cdv A outer s H E C =>
  (ss_cons (ss_if (sc_w (sw_or (sc_not (sc_val (se_blt C (call_isiF C) G.n_isinstance (by decide +kernel) (sa_cons (se_var 0) (sa_cons (se_ty "tuple" C G.n_tuple (by decide +kernel)) sa_nil))))) (sw_one2 (sc_not (sc_chain (op_leF C) (op_leF C) se_int (se_blt C (call_lenF C) G.n_len (by decide +kernel) (sa_cons (se_var 0) sa_nil)) (se_gint C G.k_ROWS)))))) (ss_one (ss_ret se_bl)) ss_nil)
  (ss_one (ss_ret (se_blt C (call_allF C) G.n_all (by decide +kernel) (sa_cons (se_lc (own := [("row", 1)]) C (si_any C (se_var 0)) (blkOk_by (N := ["thing", "row"]) (sc := defScope s_is_text) (by decide +kernel)) (fun _ _ _ _ _ => sgw_name 1 (Ctx.blk C _ _ _ _ _).nd) (fun _ _ _ _ _ => sts_nil) (fun _ _ _ _ _ => (se_and (se_call (Ctx.blk C _ _ _ _ _) care_signs (by omega) (sa_cons (se_var 1) sa_nil)) (se_one (se_cmp (op_leF (Ctx.blk C _ _ _ _ _)) (se_blt (Ctx.blk C _ _ _ _ _) (call_lenF (Ctx.blk C _ _ _ _ _)) G.n_len (by decide +kernel) (sa_cons (se_var 1) sa_nil)) (se_gint (Ctx.blk C _ _ _ _ _) G.k_SIGNS)))))) sa_nil)))))
theorem sc_is_place : FnScope ["text", "thing"] ["text", "thing"] (defScope s_is_place) := ⟨rfl, rfl, rfl, by decide +kernel, rfl, by decide +kernel, by decide +kernel⟩
theorem ok_is_place {W : Wd} (G : Gb W) (h : Has W "is_place" s_is_place) (cis_whole : Callee W "is_whole" 2 F_is_whole) : Callee W "is_place" 3 F_is_place :=
  callee (k := 2) h sc_is_place (fun _ _ _ _ _ _ us hl => match us, hl with | [_, _], _ => rfl) fun f cdv A outer s H E C =>
  (ss_cons (ss_if (sc_w (sw_or (sc_not (sc_val (se_blt C (call_isiF C) G.n_isinstance (by decide +kernel) (sa_cons (se_var 1) (sa_cons (se_ty "tuple" C G.n_tuple (by decide +kernel)) sa_nil))))) (sw_or (sc_cmp (op_neF C) (se_blt C (call_lenF C) G.n_len (by decide +kernel) (sa_cons (se_var 1) sa_nil)) se_int) (sw_one2 (sc_not (sc_val (se_call C cis_whole (by omega) (sa_cons (se_ix (ix_F C) (se_var 1) se_int) (sa_cons se_int (sa_cons (se_op op_subF (se_blt C (call_lenF C) G.n_len (by decide +kernel) (sa_cons (se_var 0) sa_nil)) se_int) sa_nil)))))))))) (ss_one (ss_ret se_bl)) ss_nil)
  (ss_one (ss_ret (se_call C cis_whole (by omega) (sa_cons (se_ix (ix_F C) (se_var 1) se_int) (sa_cons se_int (sa_cons (se_blt C (call_lenF C) G.n_len (by decide +kernel) (sa_cons (se_ix (ix_F C) (se_var 0) (se_ix (ix_F C) (se_var 1) se_int)) sa_nil)) sa_nil)))))))
theorem sc_span_text : FnScope ["text", "begin", "end", "rows"] ["text", "begin", "end"] (defScope s_span_text) := ⟨rfl, rfl, rfl, by decide +kernel, rfl, by decide +kernel, by decide +kernel⟩
theorem ok_span_text {W : Wd} (G : Gb W) (h : Has W "span_text" s_span_text) : Callee W "span_text" 1 F_span_text :=
  callee (k := 0) h sc_span_text (fun _ _ _ _ _ _ us hl => match us, hl with | [_, _, _], _ => rfl) fun f cdv A outer s H E C =>
  (ss_cons (ss_set 3 C.nd (se_bty C (call_listF C) G.n_list (by decide +kernel) (sa_cons (se_sl (sl_F C) (se_var 0) (so_some (se_ix (ix_F C) (se_var 1) se_int)) (so_some (se_op (op_addF C) (se_ix (ix_F C) (se_var 2) se_int) se_int))) sa_nil)))
  (ss_cons (ss_asg (se_sl (sl_F C) (se_ix (ix_F C) (se_var 3) (se_neg se_int)) so_none (so_some (se_ix (ix_F C) (se_var 2) se_int))) (sg_sub C (se_var 3) (se_neg se_int) set_F))
  (ss_cons (ss_asg (se_sl (sl_F C) (se_ix (ix_F C) (se_var 3) se_int) (so_some (se_ix (ix_F C) (se_var 1) se_int)) so_none) (sg_sub C (se_var 3) se_int set_F))
  (ss_one (ss_ret (se_bty C (call_tupF C) G.n_tuple (by decide +kernel) (sa_cons (se_var 3) sa_nil)))))))
theorem sc_end_of : FnScope ["begin", "new", "first"] ["begin", "new"] (defScope s_end_of) := ⟨rfl, rfl, rfl, by decide +kernel, rfl, by decide +kernel, by decide +kernel⟩
theorem ok_end_of {W : Wd} (G : Gb W) (h : Has W "end_of" s_end_of) : Callee W "end_of" 1 F_end_of :=
  callee (k := 0) h sc_end_of (fun _ _ _ _ _ _ us hl => match us, hl with | [_, _], _ => rfl) fun f cdv A outer s H E C =>
  (ss_cons (ss_set 2 C.nd (se_if (sc_cmp (op_eqF C) (se_blt C (call_lenF C) G.n_len (by decide +kernel) (sa_cons (se_var 1) sa_nil)) se_int) (se_ix (ix_F C) (se_var 0) se_int) se_int))
  (ss_one (ss_ret (se_tup (sa_cons (se_op op_subF (se_op (op_addF C) (se_ix (ix_F C) (se_var 0) se_int) (se_blt C (call_lenF C) G.n_len (by decide +kernel) (sa_cons (se_var 1) sa_nil))) se_int) (sa_cons (se_op (op_addF C) (se_var 2) (se_blt C (call_lenF C) G.n_len (by decide +kernel) (sa_cons (se_ix (ix_F C) (se_var 1) (se_neg se_int)) sa_nil))) sa_nil))))))
theorem sc_edited : FnScope ["text", "edit", "rows", "found", "begin", "end", "new"] ["text", "edit"] (defScope s_edited) := ⟨rfl, rfl, rfl, by decide +kernel, rfl, by decide +kernel, by decide +kernel⟩
theorem ok_edited {W : Wd} (G : Gb W) (h : Has W "edited" s_edited) (cis_text : Callee W "is_text" 2 F_is_text) : Callee W "edited" 3 F_edited :=
  callee (k := 2) h sc_edited (fun _ _ _ _ _ _ us hl => match us, hl with | [_, _], _ => rfl) fun f cdv A outer s H E C =>
  (ss_cons (ss_asg (se_var 1) (sg_tup C (sgs_cons (sg_name 4 C.nd) (sgs_cons (sg_name 5 C.nd) (sgs_cons (sg_name 6 C.nd) sgs_nil)))))
  (ss_cons (ss_set 2 C.nd (se_bty C (call_listF C) G.n_list (by decide +kernel) (sa_cons (se_var 6) sa_nil)))
  (ss_cons (ss_asg (se_op (op_addF C) (se_sl (sl_F C) (se_ix (ix_F C) (se_var 0) (se_ix (ix_F C) (se_var 4) se_int)) so_none (so_some (se_ix (ix_F C) (se_var 4) se_int))) (se_ix (ix_F C) (se_var 2) se_int)) (sg_sub C (se_var 2) se_int set_F))
  (ss_cons (ss_asg (se_op (op_addF C) (se_ix (ix_F C) (se_var 2) (se_neg se_int)) (se_sl (sl_F C) (se_ix (ix_F C) (se_var 0) (se_ix (ix_F C) (se_var 5) se_int)) (so_some (se_ix (ix_F C) (se_var 5) se_int)) so_none)) (sg_sub C (se_var 2) (se_neg se_int) set_F))
  (ss_cons (ss_set 3 C.nd (se_op (op_addF C) (se_op (op_addF C) (se_sl (sl_F C) (se_var 0) so_none (so_some (se_ix (ix_F C) (se_var 4) se_int))) (se_bty C (call_tupF C) G.n_tuple (by decide +kernel) (sa_cons (se_var 2) sa_nil))) (se_sl (sl_F C) (se_var 0) (so_some (se_op (op_addF C) (se_ix (ix_F C) (se_var 5) se_int) se_int)) so_none)))
  (ss_cons (ss_if (sc_not (sc_val (se_call C cis_text (by omega) (sa_cons (se_var 3) sa_nil)))) (ss_one ss_never) ss_nil)
  (ss_one (ss_ret (se_var 3)))))))))
theorem sc_taken_back : FnScope ["text", "edit", "begin", "end", "new"] ["text", "edit"] (defScope s_taken_back) := ⟨rfl, rfl, rfl, by decide +kernel, rfl, by decide +kernel, by decide +kernel⟩
theorem ok_taken_back {W : Wd} (G : Gb W) (h : Has W "taken_back" s_taken_back) (cspan_text : Callee W "span_text" 1 F_span_text) (cend_of : Callee W "end_of" 1 F_end_of) : Callee W "taken_back" 2 F_taken_back :=
  callee (k := 1) h sc_taken_back (fun _ _ _ _ _ _ us hl => match us, hl with | [_, _], _ => rfl) fun f cdv A outer s H E C =>
  (ss_cons (ss_asg (se_var 1) (sg_tup C (sgs_cons (sg_name 2 C.nd) (sgs_cons (sg_name 3 C.nd) (sgs_cons (sg_name 4 C.nd) sgs_nil)))))
  (ss_one (ss_ret (se_tup (sa_cons (se_var 2) (sa_cons (se_call C cend_of (by omega) (sa_cons (se_var 2) (sa_cons (se_var 4) sa_nil))) (sa_cons (se_call C cspan_text (by omega) (sa_cons (se_var 0) (sa_cons (se_var 2) (sa_cons (se_var 3) sa_nil)))) sa_nil)))))))
theorem sc_carried : FnScope ["place", "edit", "last", "begin", "end", "new"] ["place", "edit"] (defScope s_carried) := ⟨rfl, rfl, rfl, by decide +kernel, rfl, by decide +kernel, by decide +kernel⟩
theorem ok_carried {W : Wd} (G : Gb W) (h : Has W "carried" s_carried) (cend_of : Callee W "end_of" 1 F_end_of) : Callee W "carried" 2 F_carried :=
  callee (k := 1) h sc_carried (fun _ _ _ _ _ _ us hl => match us, hl with | [_, _], _ => rfl) fun f cdv A outer s H E C =>
  (ss_cons (ss_asg (se_var 1) (sg_tup C (sgs_cons (sg_name 3 C.nd) (sgs_cons (sg_name 4 C.nd) (sgs_cons (sg_name 5 C.nd) sgs_nil)))))
  (ss_cons (ss_if (sc_cmp (op_leF C) (se_var 0) (se_var 3)) (ss_one (ss_ret (se_var 0))) ss_nil)
  (ss_cons (ss_if (sc_cmp (op_ltF C) (se_var 0) (se_var 4)) (ss_one (ss_ret (se_var 3))) ss_nil)
  (ss_cons (ss_set 2 C.nd (se_call C cend_of (by omega) (sa_cons (se_var 3) (sa_cons (se_var 5) sa_nil))))
  (ss_cons (ss_if (sc_cmp (op_eqF C) (se_ix (ix_F C) (se_var 0) se_int) (se_ix (ix_F C) (se_var 4) se_int)) (ss_one (ss_ret (se_tup (sa_cons (se_ix (ix_F C) (se_var 2) se_int) (sa_cons (se_op op_subF (se_op (op_addF C) (se_ix (ix_F C) (se_var 2) se_int) (se_ix (ix_F C) (se_var 0) se_int)) (se_ix (ix_F C) (se_var 4) se_int)) sa_nil))))) ss_nil)
  (ss_one (ss_ret (se_tup (sa_cons (se_op op_subF (se_op (op_addF C) (se_ix (ix_F C) (se_var 0) se_int) (se_ix (ix_F C) (se_var 2) se_int)) (se_ix (ix_F C) (se_var 4) se_int)) (sa_cons (se_ix (ix_F C) (se_var 0) se_int) sa_nil))))))))))
theorem sc__law_well : FnScope ["script", "k", "cell", "primes", "seed"] ["script", "k"] (defScope s__law_well) := ⟨rfl, rfl, rfl, by decide +kernel, rfl, by decide +kernel, by decide +kernel⟩
theorem ok__law_well {W : Wd} (G : Gb W) (h : Has W "_law_well" s__law_well) : Callee W "_law_well" 1 L_well :=
  callee (k := 0) h sc__law_well (fun _ _ _ _ _ _ us hl => match us, hl with | [_, _], _ => rfl) fun f cdv A outer s H E C =>
  (ss_cons (ss_set 2 C.nd se_int)
  (ss_cons (ss_if (sc_cmp (op_ltF C) (se_var 1) (se_blt C (call_lenF C) G.n_len (by decide +kernel) (sa_cons (se_var 0) sa_nil))) (ss_one (ss_set 2 C.nd (se_ix (ix_F C) (se_var 0) (se_var 1)))) ss_nil)
  (ss_cons (ss_set 3 C.nd (se_lst (sa_cons se_int (sa_cons se_int (sa_cons se_int (sa_cons se_int (sa_cons se_int (sa_cons se_int (sa_cons se_int (sa_cons se_int sa_nil))))))))))
  (ss_cons (ss_set 4 C.nd (se_op op_modF (se_op (op_mulF C) (se_op (op_addF C) (se_op op_modF (se_var 2) se_int) se_int) (se_op (op_addF C) se_int (se_op (op_mulF C) se_int (se_var 1)))) se_int))
  (ss_cons (ss_set 4 C.nd (se_op (op_addF C) (se_op (op_addF C) (se_op op_modF (se_op (op_mulF C) (se_var 4) (se_var 4)) se_int) (se_var 1)) se_int))
  (ss_cons (ss_if (sc_cmp (op_geF C) (se_var 2) (se_op op_powF se_int se_int)) (ss_one (ss_ret (se_lst (sa_cons (se_var 2) (sa_cons (se_var 4) (sa_cons (se_ix (ix_F C) (se_var 3) (se_op op_modF (se_var 1) se_int)) sa_nil)))))) ss_nil)
  (ss_one (ss_ret (se_lst (sa_cons se_int (sa_cons (se_var 4) (sa_cons (se_ix (ix_F C) (se_var 3) (se_op op_modF (se_var 1) se_int)) sa_nil))))))))))))
theorem sc__law_take : FnScope ["well", "many", "got"] ["well", "many"] (defScope s__law_take) := ⟨rfl, rfl, rfl, by decide +kernel, rfl, by decide +kernel, by decide +kernel⟩
theorem ok__law_take {W : Wd} (G : Gb W) (h : Has W "_law_take" s__law_take) : Callee W "_law_take" 1 L_take :=
  callee (k := 0) h sc__law_take (fun _ _ _ _ _ _ us hl => match us, hl with | [_, _], _ => rfl) fun f cdv A outer s H E C =>
  (ss_cons (ss_if (sc_cmp (op_gtF C) (se_ix (ix_F C) (se_var 0) se_int) se_int) (ss_cons (ss_set 2 C.nd (se_op op_modF (se_ix (ix_F C) (se_var 0) se_int) (se_var 1)))
  (ss_cons (ss_asg (se_op op_divF (se_ix (ix_F C) (se_var 0) se_int) (se_var 1)) (sg_sub C (se_var 0) se_int set_F))
  (ss_one (ss_ret (se_var 2))))) ss_nil)
  (ss_cons (ss_asg (se_op (op_addF C) (se_op op_modF (se_op (op_mulF C) (se_ix (ix_F C) (se_var 0) se_int) se_int) (se_ix (ix_F C) (se_var 0) se_int)) se_int) (sg_sub C (se_var 0) se_int set_F))
  (ss_one (ss_ret (se_op op_modF (se_op op_divF (se_op op_modF (se_op (op_mulF C) (se_ix (ix_F C) (se_var 0) se_int) (se_ix (ix_F C) (se_var 0) se_int)) se_int) se_int) (se_var 1))))))
theorem sc__law_row : FnScope ["well", "parts", "many", "turn"] ["well"] (defScope s__law_row) := ⟨rfl, rfl, rfl, by decide +kernel, rfl, by decide +kernel, by decide +kernel⟩
theorem ok__law_row {W : Wd} (G : Gb W) (h : Has W "_law_row" s__law_row) (c_law_take : Callee W "_law_take" 1 L_take) : Callee W "_law_row" 2 L_row :=
  callee (k := 1) h sc__law_row (fun _ _ _ _ _ _ us hl => match us, hl with | [_], _ => rfl) fun f cdv A outer s H E C =>
  (ss_cons (ss_set 1 C.nd (se_lst (sa_cons (se_str [97, 98]) (sa_cons (se_str [70, 111, 111, 95, 49]) (sa_cons (se_str [32]) (sa_cons (se_str [32]) (sa_cons (se_str [32, 32]) (sa_cons (se_str [40]) (sa_cons (se_str [41]) (sa_cons (se_str [91, 120, 93]) (sa_cons (se_str [34]) (sa_cons (se_str [45, 45]) (sa_cons (se_str [122, 57]) (sa_cons (se_str [97]) (sa_cons (se_str [123]) (sa_cons (se_str [125]) (sa_cons (se_str [98, 32, 98]) (sa_cons (se_str [44]) (sa_cons (se_str [81]) sa_nil)))))))))))))))))))
  (ss_cons (ss_set 2 C.nd (se_call C c_law_take (by omega) (sa_cons (se_var 0) (sa_cons (se_ix (ix_F C) (se_lst (sa_cons se_int (sa_cons se_int sa_nil))) (se_call C c_law_take (by omega) (sa_cons (se_var 0) (sa_cons se_int sa_nil)))) sa_nil))))
  (ss_one (ss_ret (se_mt C PySem.F.plainAttrs_str PySem.F.slot_str_join PySem.F.type_str_join (mt_joinF C) (se_str []) (sa_cons (se_lc (own := [("turn", 3)]) C (si_rng1 C G.n_range (sa_cons (se_var 2) sa_nil)) (blkOk_by (N := ["well", "parts", "many", "turn"]) (sc := defScope s__law_row) (by decide +kernel)) (fun _ _ _ _ _ => sgw_name 3 (Ctx.blk C _ _ _ _ _).nd) (fun _ _ _ _ _ => sts_nil) (fun _ _ _ _ _ => (se_ix (ix_F (Ctx.blk C _ _ _ _ _)) (se_var 1) (se_call (Ctx.blk C _ _ _ _ _) c_law_take (by omega) (sa_cons (se_var 0) (sa_cons se_int sa_nil)))))) sa_nil))))))
theorem sc__law_text : FnScope ["well", "most", "rows", "turn"] ["well", "most"] (defScope s__law_text) := ⟨rfl, rfl, rfl, by decide +kernel, rfl, by decide +kernel, by decide +kernel⟩
theorem ok__law_text {W : Wd} (G : Gb W) (h : Has W "_law_text" s__law_text) (c_law_take : Callee W "_law_take" 1 L_take) (c_law_row : Callee W "_law_row" 2 L_row) : Callee W "_law_text" 3 L_text :=
  callee (k := 2) h sc__law_text (fun _ _ _ _ _ _ us hl => match us, hl with | [_, _], _ => rfl) fun f cdv A outer s H E C =>
  (ss_cons (ss_set 2 C.nd (se_lst sa_nil))
  (ss_cons (ss_for C (si_rng1 C G.n_range (sa_cons (se_op (op_addF C) se_int (se_call C c_law_take (by omega) (sa_cons (se_var 0) (sa_cons (se_var 1) sa_nil)))) sa_nil)) (sg_name 3 C.nd) (ss_one (ss_expr (se_mt C PySem.F.plainAttrs_list PySem.F.slot_list_append PySem.F.type_list_append mt_appendF (se_var 2) (sa_cons (se_if (sc_cmp (op_eqF C) (se_call C c_law_take (by omega) (sa_cons (se_var 0) (sa_cons se_int sa_nil))) se_int) (se_str []) (se_call C c_law_row (by omega) (sa_cons (se_var 0) sa_nil))) sa_nil)))))
  (ss_one (ss_ret (se_bty C (call_tupF C) G.n_tuple (by decide +kernel) (sa_cons (se_var 2) sa_nil))))))
theorem sc__law_place : FnScope ["well", "text", "row"] ["well", "text"] (defScope s__law_place) := ⟨rfl, rfl, rfl, by decide +kernel, rfl, by decide +kernel, by decide +kernel⟩
theorem ok__law_place {W : Wd} (G : Gb W) (h : Has W "_law_place" s__law_place) (c_law_take : Callee W "_law_take" 1 L_take) : Callee W "_law_place" 2 L_place :=
  callee (k := 1) h sc__law_place (fun _ _ _ _ _ _ us hl => match us, hl with | [_, _], _ => rfl) fun f cdv A outer s H E C =>
  (ss_cons (ss_set 2 C.nd (se_call C c_law_take (by omega) (sa_cons (se_var 0) (sa_cons (se_blt C (call_lenF C) G.n_len (by decide +kernel) (sa_cons (se_var 1) sa_nil)) sa_nil))))
  (ss_one (ss_ret (se_tup (sa_cons (se_var 2) (sa_cons (se_call C c_law_take (by omega) (sa_cons (se_var 0) (sa_cons (se_op (op_addF C) (se_blt C (call_lenF C) G.n_len (by decide +kernel) (sa_cons (se_ix (ix_F C) (se_var 1) (se_var 2)) sa_nil)) se_int) sa_nil))) sa_nil))))))
theorem sc__law_cut : FnScope ["text", "begin", "end", "rows", "row"] ["text", "begin", "end"] (defScope s__law_cut) := ⟨rfl, rfl, rfl, by decide +kernel, rfl, by decide +kernel, by decide +kernel⟩
theorem ok__law_cut {W : Wd} (G : Gb W) (h : Has W "_law_cut" s__law_cut) : Callee W "_law_cut" 1 L_cut :=
  callee (k := 0) h sc__law_cut (fun _ _ _ _ _ _ us hl => match us, hl with | [_, _, _], _ => rfl) fun f cdv A outer s H E C =>
  (ss_cons (ss_if (sc_cmp (op_eqF C) (se_ix (ix_F C) (se_var 1) se_int) (se_ix (ix_F C) (se_var 2) se_int)) (ss_one (ss_ret (se_tup (sa_cons (se_sl (sl_F C) (se_ix (ix_F C) (se_var 0) (se_ix (ix_F C) (se_var 1) se_int)) (so_some (se_ix (ix_F C) (se_var 1) se_int)) (so_some (se_ix (ix_F C) (se_var 2) se_int))) sa_nil)))) ss_nil)
  (ss_cons (ss_set 3 C.nd (se_lst (sa_cons (se_sl (sl_F C) (se_ix (ix_F C) (se_var 0) (se_ix (ix_F C) (se_var 1) se_int)) (so_some (se_ix (ix_F C) (se_var 1) se_int)) so_none) sa_nil)))
  (ss_cons (ss_for C (si_rng2 C G.n_range (sa_cons (se_op (op_addF C) (se_ix (ix_F C) (se_var 1) se_int) se_int) (sa_cons (se_ix (ix_F C) (se_var 2) se_int) sa_nil))) (sg_name 4 C.nd) (ss_one (ss_expr (se_mt C PySem.F.plainAttrs_list PySem.F.slot_list_append PySem.F.type_list_append mt_appendF (se_var 3) (sa_cons (se_ix (ix_F C) (se_var 0) (se_var 4)) sa_nil)))))
  (ss_one (ss_ret (se_bty C (call_tupF C) G.n_tuple (by decide +kernel) (sa_cons (se_op (op_addF C) (se_var 3) (se_lst (sa_cons (se_sl (sl_F C) (se_ix (ix_F C) (se_var 0) (se_ix (ix_F C) (se_var 2) se_int)) so_none (so_some (se_ix (ix_F C) (se_var 2) se_int))) sa_nil))) sa_nil)))))))
theorem sc__law_edit : FnScope ["well", "text", "new", "begin", "end"] ["well", "text"] (defScope s__law_edit) := ⟨rfl, rfl, rfl, by decide +kernel, rfl, by decide +kernel, by decide +kernel⟩
theorem ok__law_edit {W : Wd} (G : Gb W) (h : Has W "_law_edit" s__law_edit) (c_law_take : Callee W "_law_take" 1 L_take) (c_law_text : Callee W "_law_text" 3 L_text) (c_law_place : Callee W "_law_place" 2 L_place) : Callee W "_law_edit" 4 L_edit :=
  callee (k := 3) h sc__law_edit (fun _ _ _ _ _ _ us hl => match us, hl with | [_, _], _ => rfl) fun f cdv A outer s H E C =>
  (ss_cons (ss_asg (se_blt C (call_sortP C) G.n_sorted (by decide +kernel) (sa_cons (se_lst (sa_cons (se_call C c_law_place (by omega) (sa_cons (se_var 0) (sa_cons (se_var 1) sa_nil))) (sa_cons (se_call C c_law_place (by omega) (sa_cons (se_var 0) (sa_cons (se_var 1) sa_nil))) sa_nil))) sa_nil)) (sg_unl C (sgs_cons (sg_name 3 C.nd) (sgs_cons (sg_name 4 C.nd) sgs_nil))))
  (ss_cons (ss_if (sc_cmp (op_eqF C) (se_call C c_law_take (by omega) (sa_cons (se_var 0) (sa_cons se_int sa_nil))) se_int) (ss_one (ss_set 4 C.nd (se_var 3))) ss_nil)
  (ss_cons (ss_set 2 C.nd (se_if (sc_cmp (op_gtF C) (se_call C c_law_take (by omega) (sa_cons (se_var 0) (sa_cons se_int sa_nil))) se_int) (se_call C c_law_text (by omega) (sa_cons (se_var 0) (sa_cons se_int sa_nil))) (se_tup (sa_cons (se_str []) sa_nil))))
  (ss_one (ss_ret (se_tup (sa_cons (se_var 3) (sa_cons (se_var 4) (sa_cons (se_var 2) sa_nil)))))))))
theorem sc__law_too_long : FnScope ["text", "edit", "rows", "begin", "end", "new", "row"] ["text", "edit"] (defScope s__law_too_long) := ⟨rfl, rfl, rfl, by decide +kernel, rfl, by decide +kernel, by decide +kernel⟩
theorem ok__law_too_long {W : Wd} (G : Gb W) (h : Has W "_law_too_long" s__law_too_long) : Callee W "_law_too_long" 1 L_too_long :=
  callee (k := 0) h sc__law_too_long (fun _ _ _ _ _ _ us hl => match us, hl with | [_, _], _ => rfl) fun f cdv A outer s H E C =>
  (ss_cons (ss_asg (se_var 1) (sg_tup C (sgs_cons (sg_name 3 C.nd) (sgs_cons (sg_name 4 C.nd) (sgs_cons (sg_name 5 C.nd) sgs_nil)))))
  (ss_cons (ss_setLc 2 (own := [("row", 6)]) C (sw_true rfl rfl rfl (by decide +kernel)) (si_any C (se_var 5)) (blkOk_by (N := ["text", "edit", "rows", "begin", "end", "new", "row"]) (sc := defScope s__law_too_long) (by decide +kernel)) (fun _ _ _ _ _ => sgw_name 6 (Ctx.blk C _ _ _ _ _).nd) (fun _ _ _ _ _ => sts_nil) (fun _ _ _ _ _ => (se_var 6)))
  (ss_cons (ss_asg (se_op (op_addF C) (se_sl (sl_F C) (se_ix (ix_F C) (se_var 0) (se_ix (ix_F C) (se_var 3) se_int)) so_none (so_some (se_ix (ix_F C) (se_var 3) se_int))) (se_ix (ix_F C) (se_var 2) se_int)) (sg_sub C (se_var 2) se_int set_F))
  (ss_cons (ss_asg (se_op (op_addF C) (se_ix (ix_F C) (se_var 2) (se_neg se_int)) (se_sl (sl_F C) (se_ix (ix_F C) (se_var 0) (se_ix (ix_F C) (se_var 4) se_int)) (so_some (se_ix (ix_F C) (se_var 4) se_int)) so_none)) (sg_sub C (se_var 2) (se_neg se_int) set_F))
  (ss_one (ss_ret (se_cmp (op_gtF C) (se_blt C (call_maxLF C C.calm) G.n_max (by decide +kernel) (sa_cons (se_lc (own := [("row", 6)]) C (si_any C (se_var 2)) (blkOk_by (N := ["text", "edit", "rows", "begin", "end", "new", "row"]) (sc := defScope s__law_too_long) (by decide +kernel)) (fun _ _ _ _ _ => sgw_name 6 (Ctx.blk C _ _ _ _ _).nd) (fun _ _ _ _ _ => sts_nil) (fun _ _ _ _ _ => (se_blt (Ctx.blk C _ _ _ _ _) (call_lenF (Ctx.blk C _ _ _ _ _)) G.n_len (by decide +kernel) (sa_cons (se_var 6) sa_nil)))) sa_nil)) se_int)))))))
theorem sc__law_rest : FnScope ["text", "place"] ["text", "place"] (defScope s__law_rest) := ⟨rfl, rfl, rfl, by decide +kernel, rfl, by decide +kernel, by decide +kernel⟩
theorem ok__law_rest {W : Wd} (G : Gb W) (h : Has W "_law_rest" s__law_rest) (c_law_cut : Callee W "_law_cut" 1 L_cut) : Callee W "_law_rest" 2 L_rest :=
  callee (k := 1) h sc__law_rest (fun _ _ _ _ _ _ us hl => match us, hl with | [_, _], _ => rfl) fun f cdv A outer s H E C =>
  (ss_one (ss_ret (se_call C c_law_cut (by omega) (sa_cons (se_var 0) (sa_cons (se_var 1) (sa_cons (se_tup (sa_cons (se_op op_subF (se_blt C (call_lenF C) G.n_len (by decide +kernel) (sa_cons (se_var 0) sa_nil)) se_int) (sa_cons (se_blt C (call_lenF C) G.n_len (by decide +kernel) (sa_cons (se_ix (ix_F C) (se_var 0) (se_neg se_int)) sa_nil)) sa_nil))) sa_nil))))))
theorem sc_law : FnScope ["script", "k", "well", "text", "turn", "past", "backs", "edit", "some", "went", "after", "back", "place", "there", "far", "one"] ["script"] (defScope s_law) := ⟨rfl, rfl, rfl, by decide +kernel, rfl, by decide +kernel, by decide +kernel⟩
theorem ok_law {W : Wd} {f : Addr} {fd : FuncData} (G : Gb W) (Fu : Fun W.K "law" "law" s_law f fd) (cedited : Callee W "edited" 3 F_edited) (c_law_take : Callee W "_law_take" 1 L_take) (c_law_rest : Callee W "_law_rest" 2 L_rest) (cis_place : Callee W "is_place" 3 F_is_place) (ccarried : Callee W "carried" 2 F_carried) (c_law_place : Callee W "_law_place" 2 L_place) (ctaken_back : Callee W "taken_back" 2 F_taken_back) (cspan_text : Callee W "span_text" 1 F_span_text) (c_law_too_long : Callee W "_law_too_long" 1 L_too_long) (c_law_edit : Callee W "_law_edit" 4 L_edit) (c_law_text : Callee W "_law_text" 3 L_text) (c_law_well : Callee W "_law_well" 1 L_well) : FnOk W.P W.w W.K W.mg W.base (L2.CX W.P W.w) 5 f fd ["script"] (spOf W F_law) :=
  fn_snd (k := 4) (N := ["script", "k", "well", "text", "turn", "past", "backs", "edit", "some", "went", "after", "back", "place", "there", "far", "one"]) (ps := ["script"]) Fu sc_law fun cdv A outer s H E C =>
  (ss_cons (ss_for C (si_rng1 C G.n_range (sa_cons (se_blt C (call_maxF C) G.n_max (by decide +kernel) (sa_cons se_int (sa_cons (se_blt C (call_minF C) G.n_min (by decide +kernel) (sa_cons se_int (sa_cons (se_blt C (call_lenF C) G.n_len (by decide +kernel) (sa_cons (se_var 0) sa_nil)) sa_nil))) sa_nil))) sa_nil)) (sg_name 1 C.nd) (ss_cons (ss_set 2 C.nd (se_call C c_law_well (by omega) (sa_cons (se_var 0) (sa_cons (se_var 1) sa_nil))))
  (ss_cons (ss_set 3 C.nd (se_call C c_law_text (by omega) (sa_cons (se_var 2) (sa_cons se_int sa_nil))))
  (ss_cons (ss_par 5 6 C (sa_cons (se_lst sa_nil) (sa_cons (se_lst sa_nil) sa_nil)))
  (ss_cons (ss_for C (si_rng1 C G.n_range (sa_cons (se_op (op_addF C) se_int (se_call C c_law_take (by omega) (sa_cons (se_var 2) (sa_cons se_int sa_nil)))) sa_nil)) (sg_name 4 C.nd) (ss_cons (ss_set 7 C.nd (se_call C c_law_edit (by omega) (sa_cons (se_var 2) (sa_cons (se_var 3) sa_nil))))
  (ss_cons (ss_if (sc_val (se_call C c_law_too_long (by omega) (sa_cons (se_var 3) (sa_cons (se_var 7) sa_nil)))) (ss_one (ss_set 7 C.nd (se_tup (sa_cons (se_ix (ix_F C) (se_var 7) se_int) (sa_cons (se_ix (ix_F C) (se_var 7) se_int) (sa_cons (se_tup (sa_cons (se_str []) sa_nil)) sa_nil)))))) ss_nil)
  (ss_cons (ss_asg (se_tup (sa_cons (se_call C cedited (by omega) (sa_cons (se_var 3) (sa_cons (se_var 7) sa_nil))) (sa_cons (se_call C ctaken_back (by omega) (sa_cons (se_var 3) (sa_cons (se_var 7) sa_nil))) sa_nil))) (sg_tup C (sgs_cons (sg_name 10 C.nd) (sgs_cons (sg_name 11 C.nd) sgs_nil))))
  (ss_cons (ss_if (sc_w (sw_or (sc_cmp (op_neF C) (se_call C cspan_text (by omega) (sa_cons (se_var 10) (sa_cons (se_ix (ix_F C) (se_var 11) se_int) (sa_cons (se_ix (ix_F C) (se_var 11) se_int) sa_nil)))) (se_ix (ix_F C) (se_var 7) se_int)) (sw_one2 (sc_cmp (op_neF C) (se_ix (ix_F C) (se_var 11) se_int) (se_ix (ix_F C) (se_var 7) se_int))))) (ss_one (ss_ret se_bl)) ss_nil)
  (ss_cons (ss_if (sc_w (sw_or (sc_cmp (op_neF C) (se_call C cedited (by omega) (sa_cons (se_var 10) (sa_cons (se_var 11) sa_nil))) (se_var 3)) (sw_one2 (sc_cmp (op_neF C) (se_call C ctaken_back (by omega) (sa_cons (se_var 10) (sa_cons (se_var 11) sa_nil))) (se_var 7))))) (ss_one (ss_ret se_bl)) ss_nil)
  (ss_cons (ss_set 8 C.nd (se_blt C (call_sortP C) G.n_sorted (by decide +kernel) (sa_cons (se_lc (own := [("one", 15)]) C (si_rng1 C G.n_range (sa_cons se_int sa_nil)) (blkOk_by (N := ["script", "k", "well", "text", "turn", "past", "backs", "edit", "some", "went", "after", "back", "place", "there", "far", "one"]) (sc := defScope s_law) (by decide +kernel)) (fun _ _ _ _ _ => sgw_name 15 (Ctx.blk C _ _ _ _ _).nd) (fun _ _ _ _ _ => sts_nil) (fun _ _ _ _ _ => (se_call (Ctx.blk C _ _ _ _ _) c_law_place (by omega) (sa_cons (se_var 2) (sa_cons (se_var 3) sa_nil))))) sa_nil)))
  (ss_cons (ss_setLc 9 (own := [("place", 12)]) C (sw_true rfl rfl rfl (by decide +kernel)) (si_any C (se_var 8)) (blkOk_by (N := ["script", "k", "well", "text", "turn", "past", "backs", "edit", "some", "went", "after", "back", "place", "there", "far", "one"]) (sc := defScope s_law) (by decide +kernel)) (fun _ _ _ _ _ => sgw_name 12 (Ctx.blk C _ _ _ _ _).nd) (fun _ _ _ _ _ => sts_nil) (fun _ _ _ _ _ => (se_call (Ctx.blk C _ _ _ _ _) ccarried (by omega) (sa_cons (se_var 12) (sa_cons (se_var 7) sa_nil)))))
  (ss_cons (ss_if (sc_cmp (op_neF C) (se_var 9) (se_blt C (call_sortP C) G.n_sorted (by decide +kernel) (sa_cons (se_var 9) sa_nil))) (ss_one (ss_ret se_bl)) ss_nil)
  (ss_cons (ss_if (sc_cmp (op_neF C) (se_lc (own := [("place", 12)]) C (si_any C (se_var 9)) (blkOk_by (N := ["script", "k", "well", "text", "turn", "past", "backs", "edit", "some", "went", "after", "back", "place", "there", "far", "one"]) (sc := defScope s_law) (by decide +kernel)) (fun _ _ _ _ _ => sgw_name 12 (Ctx.blk C _ _ _ _ _).nd) (fun _ _ _ _ _ => (sts_one (sc_not (sc_val (se_call (Ctx.blk C _ _ _ _ _) cis_place (by omega) (sa_cons (se_var 10) (sa_cons (se_var 12) sa_nil))))))) (fun _ _ _ _ _ => (se_var 12))) (se_lst sa_nil)) (ss_one (ss_ret se_bl)) ss_nil)
  (ss_cons (ss_for C (si_zip C G.n_zip (sa_cons (se_var 8) (sa_cons (se_var 9) sa_nil))) (sg_tup C (sgs_cons (sg_name 12 C.nd) (sgs_cons (sg_name 13 C.nd) sgs_nil))) (ss_cons (ss_set 14 C.nd (se_and (se_cmp (op_gtF C) (se_var 12) (se_ix (ix_F C) (se_var 7) se_int)) (se_one (se_cmp (op_geF C) (se_var 12) (se_ix (ix_F C) (se_var 7) se_int)))))
  (ss_cons (ss_if (sc_w (sw_and (sc_val (se_var 14)) (sw_one1 (sc_cmp (op_neF C) (se_call C c_law_rest (by omega) (sa_cons (se_var 10) (sa_cons (se_var 13) sa_nil))) (se_call C c_law_rest (by omega) (sa_cons (se_var 3) (sa_cons (se_var 12) sa_nil))))))) (ss_one (ss_ret se_bl)) ss_nil)
  (ss_one (ss_if (sc_w (sw_and (sc_cmp (op_leF C) (se_var 12) (se_ix (ix_F C) (se_var 7) se_int)) (sw_one1 (sc_cmp (op_neF C) (se_var 13) (se_var 12))))) (ss_one (ss_ret se_bl)) ss_nil)))))
  (ss_cons (ss_expr (se_mt C PySem.F.plainAttrs_list PySem.F.slot_list_append PySem.F.type_list_append mt_appendF (se_var 5) (sa_cons (se_var 3) sa_nil)))
  (ss_cons (ss_expr (se_mt C PySem.F.plainAttrs_list PySem.F.slot_list_append PySem.F.type_list_append mt_appendF (se_var 6) (sa_cons (se_var 11) sa_nil)))
  (ss_one (ss_set 3 C.nd (se_var 10))))))))))))))))
  (ss_one (ss_while C (sc_cmp (op_neF C) (se_var 5) (se_lst sa_nil)) (ss_cons (ss_set 3 C.nd (se_call C cedited (by omega) (sa_cons (se_var 3) (sa_cons (se_mt0 C PySem.F.plainAttrs_list PySem.F.slot_list_pop PySem.F.type_list_pop mt_popF (se_var 6)) sa_nil))))
  (ss_one (ss_if (sc_cmp (op_neF C) (se_var 3) (se_mt0 C PySem.F.plainAttrs_list PySem.F.slot_list_pop PySem.F.type_list_pop mt_popF (se_var 5))) (ss_one (ss_ret se_bl)) ss_nil))))))))))
  (ss_one (ss_ret se_bl)))
end K03
namespace K03
open PySem PySem.Spec PyProof.Rows L2 FL
abbrev LL : PySem.W.OpenLaw := PySem.Challenge.rw_keyroom_k03_whole_edits_and_places
abbrev RR : PySem.W.OpenRow := PySem.W.OpenLaw.row LL
def d_is_int : He.FnD := ⟨("is_int", none), "is_int", "is_int", defArgs s_is_int, defBody s_is_int, defScope s_is_int⟩
def d_is_whole : He.FnD := ⟨("is_whole", none), "is_whole", "is_whole", defArgs s_is_whole, defBody s_is_whole, defScope s_is_whole⟩
def d_are_signs : He.FnD := ⟨("are_signs", none), "are_signs", "are_signs", defArgs s_are_signs, defBody s_are_signs, defScope s_are_signs⟩
def d_is_text : He.FnD := ⟨("is_text", none), "is_text", "is_text", defArgs s_is_text, defBody s_is_text, defScope s_is_text⟩
def d_is_place : He.FnD := ⟨("is_place", none), "is_place", "is_place", defArgs s_is_place, defBody s_is_place, defScope s_is_place⟩
def d_span_text : He.FnD := ⟨("span_text", none), "span_text", "span_text", defArgs s_span_text, defBody s_span_text, defScope s_span_text⟩
def d_end_of : He.FnD := ⟨("end_of", none), "end_of", "end_of", defArgs s_end_of, defBody s_end_of, defScope s_end_of⟩
def d_edited : He.FnD := ⟨("edited", none), "edited", "edited", defArgs s_edited, defBody s_edited, defScope s_edited⟩
def d_taken_back : He.FnD := ⟨("taken_back", none), "taken_back", "taken_back", defArgs s_taken_back, defBody s_taken_back, defScope s_taken_back⟩
def d_carried : He.FnD := ⟨("carried", none), "carried", "carried", defArgs s_carried, defBody s_carried, defScope s_carried⟩
def d__law_well : He.FnD := ⟨("_law_well", none), "_law_well", "_law_well", defArgs s__law_well, defBody s__law_well, defScope s__law_well⟩
def d__law_take : He.FnD := ⟨("_law_take", none), "_law_take", "_law_take", defArgs s__law_take, defBody s__law_take, defScope s__law_take⟩
def d__law_row : He.FnD := ⟨("_law_row", none), "_law_row", "_law_row", defArgs s__law_row, defBody s__law_row, defScope s__law_row⟩
def d__law_text : He.FnD := ⟨("_law_text", none), "_law_text", "_law_text", defArgs s__law_text, defBody s__law_text, defScope s__law_text⟩
def d__law_place : He.FnD := ⟨("_law_place", none), "_law_place", "_law_place", defArgs s__law_place, defBody s__law_place, defScope s__law_place⟩
def d__law_cut : He.FnD := ⟨("_law_cut", none), "_law_cut", "_law_cut", defArgs s__law_cut, defBody s__law_cut, defScope s__law_cut⟩
def d__law_edit : He.FnD := ⟨("_law_edit", none), "_law_edit", "_law_edit", defArgs s__law_edit, defBody s__law_edit, defScope s__law_edit⟩
def d__law_too_long : He.FnD := ⟨("_law_too_long", none), "_law_too_long", "_law_too_long", defArgs s__law_too_long, defBody s__law_too_long, defScope s__law_too_long⟩
def d__law_rest : He.FnD := ⟨("_law_rest", none), "_law_rest", "_law_rest", defArgs s__law_rest, defBody s__law_rest, defScope s__law_rest⟩
def d_law : He.FnD := ⟨("law", none), "law", "law", defArgs s_law, defBody s_law, defScope s_law⟩
def fn : List He.FnD := [d_is_int, d_is_whole, d_are_signs, d_is_text, d_is_place, d_span_text, d_end_of, d_edited, d_taken_back, d_carried, d__law_well, d__law_take, d__law_row, d__law_text, d__law_place, d__law_cut, d__law_edit, d__law_too_long, d__law_rest, d_law]
def fa0 : List He.Fa := [.glo "is_int", .keep "is_int", .glo "is_whole", .keep "is_whole", .glo "are_signs", .keep "are_signs", .glo "is_text", .keep "is_text", .glo "is_place", .keep "is_place", .glo "span_text", .keep "span_text", .glo "end_of", .keep "end_of", .glo "edited", .keep "edited", .glo "taken_back", .keep "taken_back", .glo "carried", .keep "carried", .glo "_law_well", .keep "_law_well", .glo "_law_take", .keep "_law_take", .glo "_law_row", .keep "_law_row", .glo "_law_text", .keep "_law_text", .glo "_law_place", .keep "_law_place", .glo "_law_cut", .keep "_law_cut", .glo "_law_edit", .keep "_law_edit", .glo "_law_too_long", .keep "_law_too_long", .glo "_law_rest", .keep "_law_rest", .glo "law", .keep "law"]
def fa1 : List He.Fa := [.free "bool", .free "isinstance", .free "int", .free "ord", .free "all", .free "str", .free "len", .free "tuple", .free "list", .free "range", .free "sorted", .free "max", .free "min", .free "zip", .int "PERCENT" 37, .int "SIGNS" 120, .int "ROWS" 200]
def fa : List He.Fa := fa0 ++ fa1
def loose0 : List PySem.Str := ["RoomError", "TooGreat", "ROWS", "SIGNS", "PERCENT", "is_int", "is_whole", "are_signs", "is_text", "is_place", "span_text", "end_of", "edited", "taken_back", "carried", "_law_well", "_law_take", "_law_row", "_law_text", "_law_place", "_law_cut", "_law_edit", "_law_too_long", "_law_rest"]
def loose : List PySem.Str := loose0
abbrev hk : PySem.W.Hook := He.hookE 4 fa fn
def ob (s : PySem.W.SharedT) : He.Al := He.obsG 4 fa fn (HandSHeadRun.getT s)
theorem ob_eq (s : PySem.W.SharedT) : ob s = hk.obs s.abs := He.obsG_eq (HandSHeadRun.getT_eq s)
theorem run (w : World) : HandSHeadRun.RunEq RR (PySem.W.view RR.prog [27]) hk ob 3000 loose w := by
  intro os
  kernel_rfl
section
variable {W : Wd} {h : Heap}
theorem has_is_int (X : W.K.In h) (G : h.Ns mainGlobals W.mg) (c : He.SaysE fa fn W.K) : Has W "is_int" s_is_int := by
  obtain ⟨oc, od, osl, kV, doc, pm, an, cdv, ct, l, cd⟩ := c.def_ 0 (d := d_is_int) rfl
  exact ⟨_, _, He.glo_ok X G (c.fact 0 (f := .glo "is_int") rfl), fun_mk (st := s_is_int) l cd (He.keep_ok (c.fact 1 (f := .keep "is_int") rfl))⟩
theorem has_is_whole (X : W.K.In h) (G : h.Ns mainGlobals W.mg) (c : He.SaysE fa fn W.K) : Has W "is_whole" s_is_whole := by
  obtain ⟨oc, od, osl, kV, doc, pm, an, cdv, ct, l, cd⟩ := c.def_ 1 (d := d_is_whole) rfl
  exact ⟨_, _, He.glo_ok X G (c.fact 2 (f := .glo "is_whole") rfl), fun_mk (st := s_is_whole) l cd (He.keep_ok (c.fact 3 (f := .keep "is_whole") rfl))⟩
theorem has_are_signs (X : W.K.In h) (G : h.Ns mainGlobals W.mg) (c : He.SaysE fa fn W.K) : Has W "are_signs" s_are_signs := by
  obtain ⟨oc, od, osl, kV, doc, pm, an, cdv, ct, l, cd⟩ := c.def_ 2 (d := d_are_signs) rfl
  exact ⟨_, _, He.glo_ok X G (c.fact 4 (f := .glo "are_signs") rfl), fun_mk (st := s_are_signs) l cd (He.keep_ok (c.fact 5 (f := .keep "are_signs") rfl))⟩
theorem has_is_text (X : W.K.In h) (G : h.Ns mainGlobals W.mg) (c : He.SaysE fa fn W.K) : Has W "is_text" s_is_text := by
  obtain ⟨oc, od, osl, kV, doc, pm, an, cdv, ct, l, cd⟩ := c.def_ 3 (d := d_is_text) rfl
  exact ⟨_, _, He.glo_ok X G (c.fact 6 (f := .glo "is_text") rfl), fun_mk (st := s_is_text) l cd (He.keep_ok (c.fact 7 (f := .keep "is_text") rfl))⟩
theorem has_is_place (X : W.K.In h) (G : h.Ns mainGlobals W.mg) (c : He.SaysE fa fn W.K) : Has W "is_place" s_is_place := by
  obtain ⟨oc, od, osl, kV, doc, pm, an, cdv, ct, l, cd⟩ := c.def_ 4 (d := d_is_place) rfl
  exact ⟨_, _, He.glo_ok X G (c.fact 8 (f := .glo "is_place") rfl), fun_mk (st := s_is_place) l cd (He.keep_ok (c.fact 9 (f := .keep "is_place") rfl))⟩
theorem has_span_text (X : W.K.In h) (G : h.Ns mainGlobals W.mg) (c : He.SaysE fa fn W.K) : Has W "span_text" s_span_text := by
  obtain ⟨oc, od, osl, kV, doc, pm, an, cdv, ct, l, cd⟩ := c.def_ 5 (d := d_span_text) rfl
  exact ⟨_, _, He.glo_ok X G (c.fact 10 (f := .glo "span_text") rfl), fun_mk (st := s_span_text) l cd (He.keep_ok (c.fact 11 (f := .keep "span_text") rfl))⟩
theorem has_end_of (X : W.K.In h) (G : h.Ns mainGlobals W.mg) (c : He.SaysE fa fn W.K) : Has W "end_of" s_end_of := by
  obtain ⟨oc, od, osl, kV, doc, pm, an, cdv, ct, l, cd⟩ := c.def_ 6 (d := d_end_of) rfl
  exact ⟨_, _, He.glo_ok X G (c.fact 12 (f := .glo "end_of") rfl), fun_mk (st := s_end_of) l cd (He.keep_ok (c.fact 13 (f := .keep "end_of") rfl))⟩
theorem has_edited (X : W.K.In h) (G : h.Ns mainGlobals W.mg) (c : He.SaysE fa fn W.K) : Has W "edited" s_edited := by
  obtain ⟨oc, od, osl, kV, doc, pm, an, cdv, ct, l, cd⟩ := c.def_ 7 (d := d_edited) rfl
  exact ⟨_, _, He.glo_ok X G (c.fact 14 (f := .glo "edited") rfl), fun_mk (st := s_edited) l cd (He.keep_ok (c.fact 15 (f := .keep "edited") rfl))⟩
theorem has_taken_back (X : W.K.In h) (G : h.Ns mainGlobals W.mg) (c : He.SaysE fa fn W.K) : Has W "taken_back" s_taken_back := by
  obtain ⟨oc, od, osl, kV, doc, pm, an, cdv, ct, l, cd⟩ := c.def_ 8 (d := d_taken_back) rfl
  exact ⟨_, _, He.glo_ok X G (c.fact 16 (f := .glo "taken_back") rfl), fun_mk (st := s_taken_back) l cd (He.keep_ok (c.fact 17 (f := .keep "taken_back") rfl))⟩
theorem has_carried (X : W.K.In h) (G : h.Ns mainGlobals W.mg) (c : He.SaysE fa fn W.K) : Has W "carried" s_carried := by
  obtain ⟨oc, od, osl, kV, doc, pm, an, cdv, ct, l, cd⟩ := c.def_ 9 (d := d_carried) rfl
  exact ⟨_, _, He.glo_ok X G (c.fact 18 (f := .glo "carried") rfl), fun_mk (st := s_carried) l cd (He.keep_ok (c.fact 19 (f := .keep "carried") rfl))⟩
theorem has__law_well (X : W.K.In h) (G : h.Ns mainGlobals W.mg) (c : He.SaysE fa fn W.K) : Has W "_law_well" s__law_well := by
  obtain ⟨oc, od, osl, kV, doc, pm, an, cdv, ct, l, cd⟩ := c.def_ 10 (d := d__law_well) rfl
  exact ⟨_, _, He.glo_ok X G (c.fact 20 (f := .glo "_law_well") rfl), fun_mk (st := s__law_well) l cd (He.keep_ok (c.fact 21 (f := .keep "_law_well") rfl))⟩
theorem has__law_take (X : W.K.In h) (G : h.Ns mainGlobals W.mg) (c : He.SaysE fa fn W.K) : Has W "_law_take" s__law_take := by
  obtain ⟨oc, od, osl, kV, doc, pm, an, cdv, ct, l, cd⟩ := c.def_ 11 (d := d__law_take) rfl
  exact ⟨_, _, He.glo_ok X G (c.fact 22 (f := .glo "_law_take") rfl), fun_mk (st := s__law_take) l cd (He.keep_ok (c.fact 23 (f := .keep "_law_take") rfl))⟩
theorem has__law_row (X : W.K.In h) (G : h.Ns mainGlobals W.mg) (c : He.SaysE fa fn W.K) : Has W "_law_row" s__law_row := by
  obtain ⟨oc, od, osl, kV, doc, pm, an, cdv, ct, l, cd⟩ := c.def_ 12 (d := d__law_row) rfl
  exact ⟨_, _, He.glo_ok X G (c.fact 24 (f := .glo "_law_row") rfl), fun_mk (st := s__law_row) l cd (He.keep_ok (c.fact 25 (f := .keep "_law_row") rfl))⟩
theorem has__law_text (X : W.K.In h) (G : h.Ns mainGlobals W.mg) (c : He.SaysE fa fn W.K) : Has W "_law_text" s__law_text := by
  obtain ⟨oc, od, osl, kV, doc, pm, an, cdv, ct, l, cd⟩ := c.def_ 13 (d := d__law_text) rfl
  exact ⟨_, _, He.glo_ok X G (c.fact 26 (f := .glo "_law_text") rfl), fun_mk (st := s__law_text) l cd (He.keep_ok (c.fact 27 (f := .keep "_law_text") rfl))⟩
theorem has__law_place (X : W.K.In h) (G : h.Ns mainGlobals W.mg) (c : He.SaysE fa fn W.K) : Has W "_law_place" s__law_place := by
  obtain ⟨oc, od, osl, kV, doc, pm, an, cdv, ct, l, cd⟩ := c.def_ 14 (d := d__law_place) rfl
  exact ⟨_, _, He.glo_ok X G (c.fact 28 (f := .glo "_law_place") rfl), fun_mk (st := s__law_place) l cd (He.keep_ok (c.fact 29 (f := .keep "_law_place") rfl))⟩
theorem has__law_cut (X : W.K.In h) (G : h.Ns mainGlobals W.mg) (c : He.SaysE fa fn W.K) : Has W "_law_cut" s__law_cut := by
  obtain ⟨oc, od, osl, kV, doc, pm, an, cdv, ct, l, cd⟩ := c.def_ 15 (d := d__law_cut) rfl
  exact ⟨_, _, He.glo_ok X G (c.fact 30 (f := .glo "_law_cut") rfl), fun_mk (st := s__law_cut) l cd (He.keep_ok (c.fact 31 (f := .keep "_law_cut") rfl))⟩
theorem has__law_edit (X : W.K.In h) (G : h.Ns mainGlobals W.mg) (c : He.SaysE fa fn W.K) : Has W "_law_edit" s__law_edit := by
  obtain ⟨oc, od, osl, kV, doc, pm, an, cdv, ct, l, cd⟩ := c.def_ 16 (d := d__law_edit) rfl
  exact ⟨_, _, He.glo_ok X G (c.fact 32 (f := .glo "_law_edit") rfl), fun_mk (st := s__law_edit) l cd (He.keep_ok (c.fact 33 (f := .keep "_law_edit") rfl))⟩
theorem has__law_too_long (X : W.K.In h) (G : h.Ns mainGlobals W.mg) (c : He.SaysE fa fn W.K) : Has W "_law_too_long" s__law_too_long := by
  obtain ⟨oc, od, osl, kV, doc, pm, an, cdv, ct, l, cd⟩ := c.def_ 17 (d := d__law_too_long) rfl
  exact ⟨_, _, He.glo_ok X G (c.fact 34 (f := .glo "_law_too_long") rfl), fun_mk (st := s__law_too_long) l cd (He.keep_ok (c.fact 35 (f := .keep "_law_too_long") rfl))⟩
theorem has__law_rest (X : W.K.In h) (G : h.Ns mainGlobals W.mg) (c : He.SaysE fa fn W.K) : Has W "_law_rest" s__law_rest := by
  obtain ⟨oc, od, osl, kV, doc, pm, an, cdv, ct, l, cd⟩ := c.def_ 18 (d := d__law_rest) rfl
  exact ⟨_, _, He.glo_ok X G (c.fact 36 (f := .glo "_law_rest") rfl), fun_mk (st := s__law_rest) l cd (He.keep_ok (c.fact 37 (f := .keep "_law_rest") rfl))⟩
theorem fun_law (c : He.SaysE fa fn W.K) : ∃ fd, Fun W.K "law" "law" s_law (He.ga W.K "law") fd ∧ ∀ v, bindArgs fd ⟨[v], []⟩ = pure [(("script" : Str), v)] := by
  obtain ⟨oc, od, osl, kV, doc, pm, an, cdv, ct, l, cd⟩ := c.def_ 19 (d := d_law) rfl
  exact ⟨_, fun_mk (st := s_law) l cd (He.keep_ok (c.fact 39 (f := .keep "law") rfl)), fun v => rfl⟩
theorem gb_of (X : W.K.In h) (G : h.Ns mainGlobals W.mg) (c : He.SaysE fa fn W.K) : Gb W := ⟨He.free_ok X G (c.fact 40 (f := .free "bool") rfl),
  He.free_ok X G (c.fact 41 (f := .free "isinstance") rfl),
  He.free_ok X G (c.fact 42 (f := .free "int") rfl),
  He.free_ok X G (c.fact 43 (f := .free "ord") rfl),
  He.free_ok X G (c.fact 44 (f := .free "all") rfl),
  He.free_ok X G (c.fact 45 (f := .free "str") rfl),
  He.free_ok X G (c.fact 46 (f := .free "len") rfl),
  He.free_ok X G (c.fact 47 (f := .free "tuple") rfl),
  He.free_ok X G (c.fact 48 (f := .free "list") rfl),
  He.free_ok X G (c.fact 49 (f := .free "range") rfl),
  He.free_ok X G (c.fact 50 (f := .free "sorted") rfl),
  He.free_ok X G (c.fact 51 (f := .free "max") rfl),
  He.free_ok X G (c.fact 52 (f := .free "min") rfl),
  He.free_ok X G (c.fact 53 (f := .free "zip") rfl),
  He.int_ok X G (c.fact 54 (f := .int "PERCENT" 37) rfl),
  He.int_ok X G (c.fact 55 (f := .int "SIGNS" 120) rfl),
  He.int_ok X G (c.fact 56 (f := .int "ROWS" 200) rfl)⟩
end
theorem law_ok (ns : List Int) (h : ns.length ≤ 63) : ∃ st', F_law [.scr ns] [] = some (.ok (.bl true) st') := by
  obtain ⟨r, h1, h2⟩ := law_spec (st := []) h
  cases r with
  | ok v st' =>
    have e : v = .bl true := h2
    subst e
    exact ⟨st', h1⟩
  | ex c st' => exact h2.elim
theorem all_ok {W : Wd} (X : W.K.In W.base) (G : W.base.Ns mainGlobals W.mg) (c : He.SaysE fa fn W.K) {f : Addr} {fd : FuncData} (Fu : Fun W.K "law" "law" s_law f fd) : FnOk W.P W.w W.K W.mg W.base (L2.CX W.P W.w) 5 f fd ["script"] (spLaw W.K) := by
  have gb := gb_of X G c
  have cis_int := ok_is_int gb (has_is_int X G c) 
  have cis_whole := ok_is_whole gb (has_is_whole X G c) cis_int
  have care_signs := ok_are_signs gb (has_are_signs X G c) 
  have cis_text := ok_is_text gb (has_is_text X G c) care_signs
  have cis_place := ok_is_place gb (has_is_place X G c) cis_whole
  have cspan_text := ok_span_text gb (has_span_text X G c) 
  have cend_of := ok_end_of gb (has_end_of X G c) 
  have cedited := ok_edited gb (has_edited X G c) cis_text
  have ctaken_back := ok_taken_back gb (has_taken_back X G c) cspan_text cend_of
  have ccarried := ok_carried gb (has_carried X G c) cend_of
  have c_law_well := ok__law_well gb (has__law_well X G c) 
  have c_law_take := ok__law_take gb (has__law_take X G c) 
  have c_law_row := ok__law_row gb (has__law_row X G c) c_law_take
  have c_law_text := ok__law_text gb (has__law_text X G c) c_law_take c_law_row
  have c_law_place := ok__law_place gb (has__law_place X G c) c_law_take
  have c_law_cut := ok__law_cut gb (has__law_cut X G c) 
  have c_law_edit := ok__law_edit gb (has__law_edit X G c) c_law_take c_law_text c_law_place
  have c_law_too_long := ok__law_too_long gb (has__law_too_long X G c) 
  have c_law_rest := ok__law_rest gb (has__law_rest X G c) c_law_cut
  exact (ok_law gb Fu cedited c_law_take c_law_rest cis_place ccarried c_law_place ctaken_back cspan_text c_law_too_long c_law_edit c_law_text c_law_well).imp fun vs H Q E z => sp_law law_ok z
theorem facts {w : World} {K : PySem.W.Frag} {h : Heap} {mg : Str → Option Value} {f : Addr} (X : K.In h) (G : h.Ns mainGlobals mg) (hfa : mg ("law" : Str) = some (.ref f)) (c : He.SaysE fa fn K) :
    ∃ fd : FuncData, (∀ (s : Shared) (v : Value), BindsTo s fd ⟨[v], []⟩ [("script", v)]) ∧ ∀ base : Heap, K.In base → base.Ns mainGlobals mg → FnOk LL.prog w K mg base (L2.CX LL.prog w) 5 f fd ["script"] (spLaw K) := by
  obtain ⟨fd, F, hb⟩ := fun_law (W := ⟨LL.prog, w, K, mg, h, fun _ => 0⟩) c
  have e := hfa.symm.trans (He.glo_ok X G (c.fact 38 (f := .glo "law") rfl))
  cases e
  exact ⟨fd, fun s v => .of_eq (hb v), fun base KX Gb => all_ok (W := ⟨LL.prog, w, K, mg, base, fun _ => 0⟩) KX Gb c F⟩
end K03
open PySem PySem.W PySem.Calls PyProof.Rows
theorem PySem.Challenge.cw_keyroom_k03_whole_edits_and_places_holds : PySem.Challenge.rw_keyroom_k03_whole_edits_and_places.Holds := by
  w_on; o_law
  refine HandSHeadRun.head_any (r := OpenLaw.row PySem.Challenge.rw_keyroom_k03_whole_edits_and_places) (q := view (OpenLaw.row PySem.Challenge.rw_keyroom_k03_whole_edits_and_places).prog [27]) (H := K03.hk) (ob := K03.ob) (M := 3000) (loose := K03.loose) (d := HandSHeadRun.topDef (OpenLaw.row PySem.Challenge.rw_keyroom_k03_whole_edits_and_places).prog 27) (kwd := []) K03.ob_eq
    (by kernel_rfl) (fun s => by kernel_rfl) K03.run (by kernel_rfl) (by kernel_rfl) (by kernel_rfl) (by rfl) (by first | assumption | decide +kernel) (by decide +kernel) ⟨rfl, rfl, rfl, rfl, rfl, by decide +kernel⟩ ?hw ?hc
  case hw => w_witness2
  case hc =>
    refine FL.end_of (l := PySem.Challenge.rw_keyroom_k03_whole_edits_and_places) (k := 5) rfl (by kernel_rfl) ⟨rfl, by decide, by decide⟩ ?F
    intro w mg fa h Y G hmg0
    obtain ⟨K, KX, c⟩ := Y
    have hmg : mg ("law" : PySem.Str) = some (.ref fa) := by
      have e : (HandSHeadRun.topDef (OpenLaw.row PySem.Challenge.rw_keyroom_k03_whole_edits_and_places).prog 27).name = ("law" : PySem.Str) := by kernel_rfl
      rw [← e]
      exact hmg0
    obtain ⟨fd, hb, hF⟩ := K03.facts (w := w) KX G hmg c
    exact ⟨K, fd, KX, hb, hF⟩

