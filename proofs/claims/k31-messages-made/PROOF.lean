import PyProof.Rows.All
import Wide.All
import OpenK.AllK
import Wide.FinOn
import KE.KStateDown
import HandS.ForMost
import HandS.Flow
import HandS.Style
import HandS.Wide
import HandS.Defaults
import HandS.MakeKw
import HandS.MakeKwOnly
import HandS.Exc
import HandS.TryOnly
import HandS.TryMany
import HandS.CallSlots
import HandS.ExcInit
import HandS.Head0
import HandS.Head1
import HandS.Head2
import HandS.HeadEnd
import HandS.HeadHook1
import HandS.HeadHook2
import HandS.TupLe
import HandS.TupAny
import HandS.Deep
import HandS.Comp
import HandS.Conv
import HandS.WordsDict
import HandS.Small
import HandS.Dict
import HandS.DictComp
import HandS.IsInst
import KE.KExcIs
import HandS.ExcField
import HandS.ExcIs
import HandS.Text
import HandS.More
import PyProof.InstNe
import HandS.ListItems
import HandS.ListEq
import HandS.DictEq
import PyProof.NeKinds
import HandS.Property
import HandS.ClsMeth
import HandS.SortInts
import HandS.Iter
import HandS.Finally
import PySem.Challenge.RW_filteredcopies_k31_messages_made
set_option Elab.async false
set_option linter.all false
set_option maxRecDepth 100000
set_option autoImplicit false
/-! Dn: values of the walked programs as plain data, a store for what is shared and changed, and how both lie in the layer's heap. -/
namespace Dn
open PySem PySem.Spec L2
open PyProof.Rows hiding St RelV

inductive D where
  | non | bl (b : Bool) | int (i : Int) | str (x : Str)
  | tup (ds : List D) | lst (ds : List D) | dic (kvs : List (D × D))
  | obj (C : String) (fs : List (Str × D))
  | ref (n : Nat) | glob (x : String) | scr (ns : List Int)
deriving Inhabited

abbrev Store := List D
abbrev Mu := List Addr

/-- a tuple, a list that stands in the written part -/
def KTup (K : PySem.W.Frag) (a : Addr) (xs : List V) : Prop :=
  ∃ (o : Obj) (its : Array Value) (n : Nat), K.lookup a = some o ∧ o.cls = .type "tuple" ∧ o.data = .seq its n ∧ its.size ≤ sizeLine ∧ Vals xs its.toList
def KLst (K : PySem.W.Frag) (a : Addr) (xs : List V) : Prop :=
  ∃ (o : Obj) (its : Array Value) (n : Nat), K.lookup a = some o ∧ o.cls = .type "list" ∧ o.dict = none ∧ o.data = .seq its n ∧ its.size ≤ sizeLine ∧ Vals xs its.toList

mutual
/-- the value v stands for d: what d leans on lies apart from the shared objects (μ) and from those that F owns -/
def RV (K : PySem.W.Frag) (H : Hp) (μ : Mu) (F : Addr → Prop) : D → V → Prop
  | .non, v => v = .non
  | .bl b, v => v = .bl b
  | .int b, v => v = .int b
  | .str b, v => v = .str b
  | .tup ds, v => ∃ a xs, v = .ref a ∧ ((H a = some (.tup xs) ∧ a ∉ μ ∧ ¬ F a) ∨ KTup K a xs) ∧ RVs K H μ F ds xs
  | .lst ds, v => ∃ a xs, v = .ref a ∧ (H a = some (.lst xs) ∧ a ∉ μ ∧ ¬ F a) ∧ RVs K H μ F ds xs
  | .dic kvs, v => ∃ a xs, v = .ref a ∧ (Rd H a (.dK xs) ∧ a ∉ μ ∧ ¬ F a) ∧ RVd K H μ F kvs xs
  | .obj C fs, v => ∃ a dx xs, v = .ref a ∧ (H a = some (.ins (He.ga K C) dx xs) ∧ a ∉ μ ∧ ¬ F a) ∧ RVf K H μ F fs xs
  | .ref n, v => ∃ a, v = .ref a ∧ μ[n]? = some a
  | .glob x, v => v = .ref (He.ga K x)
  | .scr ns, v => ∃ a, v = .ref a ∧ ((∃ o, H a = some (.frz o (.lst (ns.map V.int))) ∧ a ∉ μ ∧ ¬ F a) ∨ KLst K a (ns.map V.int))
def RVs (K : PySem.W.Frag) (H : Hp) (μ : Mu) (F : Addr → Prop) : List D → List V → Prop
  | [], xs => xs = []
  | d :: ds, xs => ∃ y ys, xs = y :: ys ∧ RV K H μ F d y ∧ RVs K H μ F ds ys
def RVd (K : PySem.W.Frag) (H : Hp) (μ : Mu) (F : Addr → Prop) : List (D × D) → List (Key × V) → Prop
  | [], xs => xs = []
  | (k, d) :: ds, xs => ∃ q y ys, xs = (q, y) :: ys ∧ RV K H μ F k (kV q) ∧ RV K H μ F d y ∧ RVd K H μ F ds ys
def RVf (K : PySem.W.Frag) (H : Hp) (μ : Mu) (F : Addr → Prop) : List (Str × D) → List (Str × V) → Prop
  | [], xs => xs = []
  | (k, d) :: ds, xs => ∃ y ys, xs = (k, y) :: ys ∧ RV K H μ F d y ∧ RVf K H μ F ds ys
end

/-- what is no shared and no owned object stays, the shared ones keep their numbers -/
structure Kp (H : Hp) (μ : Mu) (F : Addr → Prop) (H' : Hp) (μ' : Mu) (F' : Addr → Prop) : Prop where
  pure : ∀ a o, H a = some o → a ∉ μ → ¬ F a → H' a = some o ∧ a ∉ μ' ∧ ¬ F' a
  ix : ∀ (n : Nat) (a : Addr), μ[n]? = some a → μ'[n]? = some a

section
variable {K : PySem.W.Frag} {H H' : Hp} {μ μ' : Mu} {F F' : Addr → Prop}
theorem Rd.kp {a : Addr} {o : HO} (k : Kp H μ F H' μ' F') (h : Rd H a o ∧ a ∉ μ ∧ ¬ F a) : Rd H' a o ∧ a ∉ μ' ∧ ¬ F' a := by
  obtain ⟨h | ⟨q, h⟩, h1, h2⟩ := h
  · obtain ⟨e, r⟩ := k.pure a _ h h1 h2
    exact ⟨.inl e, r⟩
  · obtain ⟨e, r⟩ := k.pure a _ h h1 h2
    exact ⟨.inr ⟨q, e⟩, r⟩
mutual
theorem RV.kp (k : Kp H μ F H' μ' F') : ∀ {d : D} {v : V}, RV K H μ F d v → RV K H' μ' F' d v
  | .non, v, h => by unfold RV at h ⊢; exact h
  | .bl _, v, h => by unfold RV at h ⊢; exact h
  | .int _, v, h => by unfold RV at h ⊢; exact h
  | .str _, v, h => by unfold RV at h ⊢; exact h
  | .tup ds, v, h => by
    unfold RV at h ⊢
    obtain ⟨a, xs, e, h1, h2⟩ := h
    refine ⟨a, xs, e, ?_, RVs.kp k h2⟩
    rcases h1 with ⟨q1, q2, q3⟩ | q
    · exact .inl (k.pure a _ q1 q2 q3)
    · exact .inr q
  | .lst ds, v, h => by
    unfold RV at h ⊢
    obtain ⟨a, xs, e, h1, h2⟩ := h
    obtain ⟨q1, q2, q3⟩ := h1
    exact ⟨a, xs, e, k.pure a _ q1 q2 q3, RVs.kp k h2⟩
  | .dic ds, v, h => by
    unfold RV at h ⊢
    obtain ⟨a, xs, e, h1, h2⟩ := h
    exact ⟨a, xs, e, Rd.kp k h1, RVd.kp k h2⟩
  | .obj C fs, v, h => by
    unfold RV at h ⊢
    obtain ⟨a, dx, xs, e, ⟨q1, q2, q3⟩, h2⟩ := h
    exact ⟨a, dx, xs, e, k.pure a _ q1 q2 q3, RVf.kp k h2⟩
  | .ref n, v, h => by
    unfold RV at h ⊢
    obtain ⟨a, e, q⟩ := h
    exact ⟨a, e, k.ix n a q⟩
  | .glob x, v, h => by unfold RV at h ⊢; exact h
  | .scr ns, v, h => by
    unfold RV at h ⊢
    obtain ⟨a, e, h1⟩ := h
    refine ⟨a, e, ?_⟩
    rcases h1 with ⟨o, q1, q2, q3⟩ | q
    · exact .inl ⟨o, k.pure a _ q1 q2 q3⟩
    · exact .inr q
theorem RVs.kp (k : Kp H μ F H' μ' F') : ∀ {ds : List D} {vs : List V}, RVs K H μ F ds vs → RVs K H' μ' F' ds vs
  | [], vs, h => by unfold RVs at h ⊢; exact h
  | d :: ds, vs, h => by
    unfold RVs at h ⊢
    obtain ⟨y, ys, e, h1, h2⟩ := h
    exact ⟨y, ys, e, RV.kp k h1, RVs.kp k h2⟩
theorem RVd.kp (k : Kp H μ F H' μ' F') : ∀ {ds : List (D × D)} {vs : List (Key × V)}, RVd K H μ F ds vs → RVd K H' μ' F' ds vs
  | [], vs, h => by unfold RVd at h ⊢; exact h
  | (q, d) :: ds, vs, h => by
    unfold RVd at h ⊢
    obtain ⟨z, y, ys, e, h0, h1, h2⟩ := h
    exact ⟨z, y, ys, e, RV.kp k h0, RV.kp k h1, RVd.kp k h2⟩
theorem RVf.kp (k : Kp H μ F H' μ' F') : ∀ {ds : List (Str × D)} {vs : List (Str × V)}, RVf K H μ F ds vs → RVf K H' μ' F' ds vs
  | [], vs, h => by unfold RVf at h ⊢; exact h
  | (q, d) :: ds, vs, h => by
    unfold RVf at h ⊢
    obtain ⟨y, ys, e, h1, h2⟩ := h
    exact ⟨y, ys, e, RV.kp k h1, RVf.kp k h2⟩
end
end

/-- what lies at an address that is written -/
def RC (K : PySem.W.Frag) (H : Hp) (μ : Mu) (F : Addr → Prop) : D → Addr → Prop
  | .lst ds, a => ∃ xs, H a = some (.lst xs) ∧ RVs K H μ F ds xs
  | .dic kvs, a => ∃ xs, H a = some (.dK xs) ∧ RVd K H μ F kvs xs
  | .obj C fs, a => ∃ dx xs, H a = some (.ins (He.ga K C) dx xs) ∧ RVf K H μ F fs xs
  | _, _ => False

/-- .. or nothing is known of what lies there (a thing that is locked) -/
def RO (K : PySem.W.Frag) (H : Hp) (μ : Mu) (F : Addr → Prop) (d : D) (a : Addr) : Prop := RC K H μ F d a ∨ (d = .non ∧ ∃ o, H a = some o ∧ ∀ xs, o ≠ .tup xs)
/-- the store lies in the heap -/
structure RS (K : PySem.W.Frag) (H : Hp) (μ : Mu) (F : Addr → Prop) (st : Store) : Prop where
  len : μ.length = st.length
  nd : μ.Nodup
  nf : ∀ a ∈ μ, ¬ F a
  fd : ∀ a, F a → ∃ o, H a = some o
  at_ : ∀ (n : Nat) (d : D), st[n]? = some d → ∃ a, μ[n]? = some a ∧ RO K H μ F d a

/-- what an expression may do -/
structure Fut (H : Hp) (μ : Mu) (H' : Hp) (μ' : Mu) : Prop where
  ext : ∃ l, μ' = μ ++ l ∧ ∀ a ∈ l, H a = none
  keep : ∀ a o, a ∉ μ → H a = some o → H' a = some o
  there : ∀ a o, H a = some o → ∃ o', H' a = some o'

section
variable {K : PySem.W.Frag} {H H' H1 : Hp} {μ μ' μ1 : Mu} {F F' : Addr → Prop} {st : Store}
theorem Fut.refl : Fut H μ H μ := ⟨⟨[], by simp, fun _ h => nomatch h⟩, fun _ _ _ h => h, fun _ o h => ⟨o, h⟩⟩
theorem Fut.out (f : Fut H μ H' μ') {a : Addr} {o : HO} (h : H a = some o) (n : a ∉ μ) : a ∉ μ' := by
  obtain ⟨l, e, q⟩ := f.ext
  rw [e]
  intro z
  rcases List.mem_append.mp z with z | z
  · exact n z
  · rw [q a z] at h; cases h
theorem Fut.none_of (f : Fut H μ H' μ') {a : Addr} (h : H' a = none) : H a = none := by
  cases e : H a with
  | none => rfl
  | some o =>
    obtain ⟨o', q⟩ := f.there a o e
    rw [h] at q; cases q
theorem Fut.trans (f : Fut H μ H1 μ1) (g : Fut H1 μ1 H' μ') : Fut H μ H' μ' := by
  obtain ⟨l, e, q⟩ := id f.ext
  obtain ⟨l', e', q'⟩ := id g.ext
  refine ⟨⟨l ++ l', by rw [e', e, List.append_assoc], fun a h => ?_⟩, fun a o n h => g.keep a o (f.out h n) (f.keep a o n h), fun a o h => ?_⟩
  · rcases List.mem_append.mp h with h | h
    · exact q a h
    · exact f.none_of (q' a h)
  · obtain ⟨o1, h1⟩ := f.there a o h
    exact g.there a o1 h1
theorem Fut.kp (f : Fut H μ H' μ') (hi : ∀ a, F' a → F a ∨ H a = none) : Kp H μ F H' μ' F' where
  pure := fun a o h n nF => ⟨f.keep a o n h, f.out h n, fun z => (hi a z).elim nF fun q => by rw [h] at q; cases q⟩
  ix := fun n a h => by
    obtain ⟨l, e, _⟩ := f.ext
    rw [e, List.getElem?_append_left (List.getElem?_eq_some_iff.mp h).1]
    exact h
theorem Fut.kp0 (f : Fut H μ H' μ') : Kp H μ F H' μ' F := f.kp fun _ z => .inl z
/-- a new object, of no number -/
theorem Fut.new {p : Addr} {o : HO} (n : H p = none) : Fut H μ (upd H p o) μ :=
  ⟨⟨[], by simp, fun _ h => nomatch h⟩, fun a q _ h => by rw [upd_ne (ne_of_none h n)]; exact h, fun a q h => ⟨q, by rw [upd_ne (ne_of_none h n)]; exact h⟩⟩
theorem RC.kp (k : Kp H μ F H' μ' F') {d : D} {a b : Addr} (h : RC K H μ F d a) (e : H' b = H a) : RC K H' μ' F' d b := by
  cases d with
  | lst ds => obtain ⟨xs, q, r⟩ := h; exact ⟨xs, e.trans q, RVs.kp k r⟩
  | dic ds => obtain ⟨xs, q, r⟩ := h; exact ⟨xs, e.trans q, RVd.kp k r⟩
  | obj C fs => obtain ⟨dx, xs, q, r⟩ := h; exact ⟨dx, xs, e.trans q, RVf.kp k r⟩
  | _ => exact h
theorem RC.some {d : D} {a : Addr} (h : RC K H μ F d a) : ∃ o, H a = some o ∧ ∀ xs, o ≠ .tup xs := by
  cases d with
  | lst ds => obtain ⟨xs, q, r⟩ := h; exact ⟨_, q, fun _ z => nomatch z⟩
  | dic ds => obtain ⟨xs, q, r⟩ := h; exact ⟨_, q, fun _ z => nomatch z⟩
  | obj C fs => obtain ⟨dx, xs, q, r⟩ := h; exact ⟨_, q, fun _ z => nomatch z⟩
  | _ => exact h.elim
theorem RO.kp (k : Kp H μ F H' μ' F') {d : D} {a b : Addr} (h : RO K H μ F d a) (e : H' b = H a) : RO K H' μ' F' d b := by
  rcases h with h | ⟨h, o, q, n⟩
  · exact .inl (h.kp k e)
  · exact .inr ⟨h, o, e.trans q, n⟩
theorem RO.some {d : D} {a : Addr} (h : RO K H μ F d a) : ∃ o, H a = some o ∧ ∀ xs, o ≠ .tup xs := by
  rcases h with h | ⟨h, o, q, n⟩
  · exact h.some
  · exact ⟨o, q, n⟩
theorem RO.c {d : D} {a : Addr} (h : RO K H μ F d a) (n : d ≠ .non) : RC K H μ F d a := h.resolve_right fun z => n z.1
theorem RS.there (r : RS K H μ F st) {a : Addr} (h : a ∈ μ) : ∃ o, H a = some o := by
  obtain ⟨n, e⟩ := List.getElem?_of_mem h
  have hn : n < st.length := by rw [← r.len]; exact (List.getElem?_eq_some_iff.mp e).1
  obtain ⟨b, e2, c⟩ := r.at_ n st[n] (List.getElem?_eq_getElem hn)
  rw [e] at e2; cases e2
  obtain ⟨o, q, _⟩ := c.some
  exact ⟨o, q⟩
theorem RS.fresh (r : RS K H μ F st) {p : Addr} (n : H p = none) : p ∉ μ ∧ ¬ F p :=
  ⟨fun z => (by
    obtain ⟨o, q⟩ := r.there z
    rw [n] at q
    cases q), fun z => (by
    obtain ⟨o, q⟩ := r.fd p z
    rw [n] at q
    cases q)⟩
/-- a new object of no number: the store lies as it lay -/
theorem RS.new (r : RS K H μ F st) {p : Addr} {o : HO} (n : H p = none) : RS K (upd H p o) μ F st where
  len := r.len
  nd := r.nd
  nf := r.nf
  fd := fun a h => by
    obtain ⟨q, e⟩ := r.fd a h
    exact ⟨q, by rw [upd_ne (ne_of_none e n)]; exact e⟩
  at_ := fun m d h => by
    obtain ⟨a, e, c⟩ := r.at_ m d h
    refine ⟨a, e, c.kp (Fut.new n).kp0 ?_⟩
    obtain ⟨q, e2, _⟩ := c.some
    exact upd_ne (ne_of_none e2 n)
/-- .. and it gets a number -/
theorem RS.alloc (r : RS K H μ F st) {p : Addr} {o : HO} {d : D} (n : H p = none) (c : RC K (upd H p o) (μ ++ [p]) F d p) : RS K (upd H p o) (μ ++ [p]) F (st ++ [d]) := by
  have f : Fut H μ (upd H p o) (μ ++ [p]) := ⟨⟨[p], rfl, fun a h => by rw [List.mem_singleton.mp h]; exact n⟩, (Fut.new (μ := μ) n).keep, (Fut.new (μ := μ) n).there⟩
  refine ⟨by rw [List.length_append, List.length_append, r.len]; rfl, ?_, fun a h => ?_, (r.new n).fd, fun m q h => ?_⟩
  · rw [List.nodup_append]
    refine ⟨r.nd, by simp, fun a h b h2 => ?_⟩
    rw [List.mem_singleton.mp h2]
    rintro rfl
    exact (r.fresh n).1 h
  · rcases List.mem_append.mp h with h | h
    · exact r.nf a h
    · rw [List.mem_singleton.mp h]; exact (r.fresh n).2
  · by_cases hm : m < st.length
    · rw [List.getElem?_append_left hm] at h
      obtain ⟨a, e, c'⟩ := r.at_ m q h
      refine ⟨a, ?_, c'.kp f.kp0 ?_⟩
      · rw [List.getElem?_append_left (by rw [r.len]; exact hm)]; exact e
      · obtain ⟨z, e2, _⟩ := c'.some
        exact upd_ne (ne_of_none e2 n)
    · have hl : m = st.length := by
        have := (List.getElem?_eq_some_iff.mp h).1
        rw [List.length_append, List.length_singleton] at this
        omega
      subst hl
      rw [List.getElem?_append_right (Nat.le_refl _), Nat.sub_self] at h
      cases h
      exact ⟨p, by rw [← r.len, List.getElem?_append_right (Nat.le_refl _), Nat.sub_self]; rfl, .inl c⟩
theorem Fut.alloc {p : Addr} {o : HO} (n : H p = none) : Fut H μ (upd H p o) (μ ++ [p]) :=
  ⟨⟨[p], rfl, fun a h => by rw [List.mem_singleton.mp h]; exact n⟩, (Fut.new (μ := μ) n).keep, (Fut.new (μ := μ) n).there⟩
/-- a shared object is written -/
theorem Fut.write {a : Addr} {o : HO} (h : a ∈ μ) : Fut H μ (upd H a o) μ :=
  ⟨⟨[], by simp, fun _ h => nomatch h⟩, fun b q n e => by rw [upd_ne (fun z => n (by rw [z]; exact h))]; exact e, fun b q e => by
    by_cases z : b = a
    · exact ⟨o, by rw [z, upd_same]⟩
    · exact ⟨q, by rw [upd_ne z]; exact e⟩⟩
theorem RS.write (r : RS K H μ F st) {n : Nat} {a : Addr} {o : HO} {d : D} (e : μ[n]? = some a) (c : RC K (upd H a o) μ F d a) : RS K (upd H a o) μ F (st.set n d) := by
  have ha : a ∈ μ := List.mem_of_getElem? e
  have f : Fut H μ (upd H a o) μ := Fut.write ha
  refine ⟨by rw [List.length_set]; exact r.len, r.nd, r.nf, fun b h => ?_, fun m q h => ?_⟩
  · obtain ⟨u, z⟩ := r.fd b h
    exact f.there b u z
  · by_cases hm : m = n
    · subst hm
      have hl : m < st.length := by
        have := (List.getElem?_eq_some_iff.mp h).1
        rwa [List.length_set] at this
      rw [List.getElem?_set_self hl] at h
      cases h
      exact ⟨a, e, .inl c⟩
    · rw [List.getElem?_set_ne (Ne.symm hm)] at h
      obtain ⟨b, e2, c'⟩ := r.at_ m q h
      refine ⟨b, e2, c'.kp f.kp0 (upd_ne ?_)⟩
      rintro rfl
      have l1 := (List.getElem?_eq_some_iff.mp e2).1
      have l2 := (List.getElem?_eq_some_iff.mp e).1
      exact hm ((List.getElem_inj r.nd).mp ((List.getElem?_eq_some_iff.mp e2).2.trans (List.getElem?_eq_some_iff.mp e).2.symm))
end
end Dn

/-! Dn: slots, results, what it means that a Lean function says what an expression, a statement does. -/
namespace Dn
open PySem PySem.Spec L2
open PyProof.Rows hiding St RelV

/-- a slot: not known, a value, an object that the frame alone holds (b: the one that is being made), a caught exception -/
inductive Slot where
  | no | pu (d : D) | ow (b : Bool) (d : D) | exc (C : String) (fs : List (Str × D))
abbrev Loc := List Slot
inductive Res (α : Type) where
  | ok (a : α) (s : Store) | ex (C : String) (fs : List (Str × D)) (s : Store) | bad
abbrev E := Loc → Store → Res D
def Res.bind {α β : Type} (r : Res α) (k : α → Store → Res β) : Res β := match r with
  | .ok d s => k d s
  | .ex C fs s => .ex C fs s
  | .bad => .bad
@[simp] theorem Res.bind_ok {α β : Type} (a : α) (s : Store) (k : α → Store → Res β) : (Res.ok a s).bind k = k a s := rfl
@[simp] theorem Res.bind_ex {α β : Type} (C : String) (fs : List (Str × D)) (s : Store) (k : α → Store → Res β) : (Res.ex C fs s : Res α).bind k = .ex C fs s := rfl
@[simp] theorem Res.bind_bad {α β : Type} (k : α → Store → Res β) : (Res.bad : Res α).bind k = .bad := rfl
def Res.of {α : Type} (o : Option α) (s : Store) : Res α := match o with
  | some a => .ok a s
  | none => .bad
@[simp] theorem Res.of_some {α : Type} (a : α) (s : Store) : Res.of (some a) s = .ok a s := rfl
@[simp] theorem Res.of_none {α : Type} (s : Store) : (Res.of none s : Res α) = .bad := rfl
abbrev Pn := List (Addr × Obj)

/-- what a frame owns; the object that it makes -/
structure Own where
  g : Addr → Prop
  sf : Option Addr
def ownNo : Own := ⟨fun _ => False, none⟩
def RSlot (pn : Pn) (K : PySem.W.Frag) (H : Hp) (μ : Mu) (F : Addr → Prop) (G : Own) : Slot → Option V → Prop
  | .no, _ => True
  | .pu d, o => ∃ v, o = some v ∧ RV K H μ F d v
  | .ow b d, o => ∃ a, o = some (.ref a) ∧ (G.g a ∧ (b = true → G.sf = some a)) ∧ F a ∧ RC K H μ F d a
  | .exc C fs, o => ∃ a oe d xs, o = some (.ref a) ∧ (a, oe) ∈ pn ∧ Zc (.ref (He.ga K C)) (some d) oe ∧ (∃ vs, oe.data = .fields vs) ∧ H d = some (.xd xs) ∧ d ∉ μ ∧ ¬ F d ∧ RVf K H μ F fs xs

structure RL (pn : Pn) (K : PySem.W.Frag) (H : Hp) (μ : Mu) (F : Addr → Prop) (G : Own) (ρ : Loc) (σ : St) : Prop where
  len : ρ.length = σ.length
  at_ : ∀ (i : Nat) (sl : Slot), ρ[i]? = some sl → ∃ o, σ[i]? = some o ∧ RSlot pn K H μ F G sl o
  inj : ∀ (i j : Nat) (b c : Bool) (d e : D) (a : Addr), ρ[i]? = some (.ow b d) → ρ[j]? = some (.ow c e) → σ[i]? = some (some (.ref a)) → σ[j]? = some (some (.ref a)) → i = j

/-- a value that may be read: one that stands for itself, or an object of the frame's own -/
def RD (K : PySem.W.Frag) (H : Hp) (μ : Mu) (F : Addr → Prop) (d : D) (v : V) : Prop := RV K H μ F d v ∨ ∃ a, v = .ref a ∧ F a ∧ RC K H μ F d a

/-- what follows a result: P tells how what came lies behind it -/
def OkG {α β : Type} (P : Hp → Mu → α → β → Prop) (K : PySem.W.Frag) (W : WX) (F : Addr → Prop) (σ : St) (H : Hp) (μ : Mu) (r : Res α) (Q : β → Hp → Prop) : Prop := match r with
  | .ok d s => ∀ v H' μ', Fut H μ H' μ' → RS K H' μ' F s → P H' μ' d v → Q v H'
  | .ex C fs s => ∀ d H' μ' xs, Fut H μ H' μ' → RS K H' μ' F s → H' d = some (.xd xs) → d ∉ μ' → ¬ F d → RVf K H' μ' F fs xs → W (.ref (He.ga K C)) (some d) σ H'
  | .bad => False
/-- all of them may be read -/
def RDs (K : PySem.W.Frag) (H : Hp) (μ : Mu) (F : Addr → Prop) : List D → List V → Prop
  | [], xs => xs = []
  | d :: ds, xs => ∃ y ys, xs = y :: ys ∧ RD K H μ F d y ∧ RDs K H μ F ds ys
abbrev OkE (K : PySem.W.Frag) (W : WX) (F : Addr → Prop) (σ : St) (H : Hp) (μ : Mu) (r : Res D) (Q : VK) : Prop := OkG (fun H' μ' d v => RV K H' μ' F d v) K W F σ H μ r Q
abbrev OkR (K : PySem.W.Frag) (W : WX) (F : Addr → Prop) (σ : St) (H : Hp) (μ : Mu) (r : Res D) (Q : VK) : Prop := OkG (fun H' μ' d v => RD K H' μ' F d v) K W F σ H μ r Q
abbrev OkA (K : PySem.W.Frag) (W : WX) (F : Addr → Prop) (σ : St) (H : Hp) (μ : Mu) (r : Res (List D)) (Q : List V → Hp → Prop) : Prop := OkG (fun H' μ' d v => RVs K H' μ' F d v) K W F σ H μ r Q
abbrev OkAR (K : PySem.W.Frag) (W : WX) (F : Addr → Prop) (σ : St) (H : Hp) (μ : Mu) (r : Res (List D)) (Q : List V → Hp → Prop) : Prop := OkG (fun H' μ' d v => RDs K H' μ' F d v) K W F σ H μ r Q
abbrev OkT (K : PySem.W.Frag) (W : WX) (F : Addr → Prop) (σ : St) (H : Hp) (μ : Mu) (r : Res Bool) (Q : Bool → Hp → Prop) : Prop := OkG (fun _ _ d v => d = v) K W F σ H μ r Q
/-- the state: slots and store -/
structure At (pn : Pn) (K : PySem.W.Frag) (H : Hp) (μ : Mu) (F : Addr → Prop) (G : Own) (ρ : Loc) (σ : St) (st : Store) : Prop where
  l : RL pn K H μ F G ρ σ
  s : RS K H μ F st
  gf : ∀ a, G.g a → F a
abbrev EL := Loc → Store → Res (List D)
abbrev ET := Loc → Store → Res Bool
def tG {α β : Type} (P : (Addr → Prop) → Hp → Mu → α → β → Prop) (pn : Pn) (K : PySem.W.Frag) (W : WX) (m : Loc → Store → Res α) : St → Hp → (β → Hp → Prop) → Prop :=
  fun σ H Q => ∃ ρ μ F G st, At pn K H μ F G ρ σ st ∧ OkG (P F) K W F σ H μ (m ρ st) Q
/-- m says what e does: a value; one that may be read; arguments; a test -/
def SE (X : Cx) (W : WX) (e : Expr) (m : E) : Prop := PE X e (tG (fun F H μ d v => RV X.K H μ F d v) X.pn X.K W m)
def SR (X : Cx) (W : WX) (e : Expr) (m : E) : Prop := PE X e (tG (fun F H μ d v => RD X.K H μ F d v) X.pn X.K W m)
def SA (X : Cx) (W : WX) (es : List Expr) (m : EL) : Prop := PA X es (tG (fun F H μ d v => RVs X.K H μ F d v) X.pn X.K W m)
def SAR (X : Cx) (W : WX) (es : List Expr) (m : EL) : Prop := PA X es (tG (fun F H μ d v => RDs X.K H μ F d v) X.pn X.K W m)
def ST (X : Cx) (W : WX) (e : Expr) (m : ET) : Prop := PT X e (tG (fun _ _ _ d v => d = v) X.pn X.K W m)

theorem PE.of {X : Cx} {e : Expr} {t t' : TE} (h : PE X e t) (i : ∀ σ H Q, t' σ H Q → t σ H Q) : PE X e t' := ⟨fun pins s σ H Q I q => h.run pins s σ H Q I (i σ H Q q)⟩
theorem PT.of {X : Cx} {e : Expr} {t t' : TT} (h : PT X e t) (i : ∀ σ H Q, t' σ H Q → t σ H Q) : PT X e t' := ⟨fun pins s σ H Q I q => h.run pins s σ H Q I (i σ H Q q)⟩
theorem PS.of {X : Cx} {e : Stmt} {t t' : TS} (h : PS X e t) (i : ∀ D σ H, t' D σ H → t D σ H) : PS X e t' := ⟨fun pins s σ H Q I q => h.run pins s σ H Q I (i Q σ H q)⟩
theorem PSs.of {X : Cx} {e : List Stmt} {t t' : TS} (h : PSs X e t) (i : ∀ D σ H, t' D σ H → t D σ H) : PSs X e t' := ⟨fun pins s σ H Q I q => h.run pins s σ H Q I (i Q σ H q)⟩
theorem PA.of {X : Cx} {e : List Expr} {t t' : TA} (h : PA X e t) (i : ∀ σ H Q, t' σ H Q → t σ H Q) : PA X e t' := ⟨fun pos pins s σ H Q I q => h.run pos pins s σ H Q I (i σ H Q q)⟩

section
variable {pn : Pn} {K : PySem.W.Frag} {W : WX} {H H' H1 : Hp} {μ μ' μ1 : Mu} {F F' : Addr → Prop} {G : Own} {st st1 : Store} {ρ : Loc} {σ : St} {d : D} {v : V}
theorem RD.of (h : RV K H μ F d v) : RD K H μ F d v := .inl h
theorem RD.fut (s : RS K H μ F st) (f : Fut H μ H' μ') (h : RD K H μ F d v) : RD K H' μ' F d v := by
  rcases h with h | ⟨a, e, h1, h2⟩
  · exact .inl (RV.kp f.kp0 h)
  · obtain ⟨o, q⟩ := s.fd a h1
    exact .inr ⟨a, e, h1, h2.kp f.kp0 ((f.keep a o (fun z => s.nf a z h1) q).trans q.symm)⟩
theorem OkG.fut {α β : Type} {P : Hp → Mu → α → β → Prop} {r : Res α} {Q : β → Hp → Prop} (f : Fut H μ H1 μ1) (h : OkG P K W F σ H μ r Q) : OkG P K W F σ H1 μ1 r Q := by
  cases r with
  | ok d s => exact fun v H' μ' g => h v H' μ' (f.trans g)
  | ex C fs s => exact fun d H' μ' xs g => h d H' μ' xs (f.trans g)
  | bad => exact h
theorem OkG.imp {α β : Type} {P P' : Hp → Mu → α → β → Prop} {r : Res α} {Q Q' : β → Hp → Prop} (h : OkG P K W F σ H μ r Q) (i : ∀ H' μ' d v, P' H' μ' d v → P H' μ' d v) (q : ∀ v H', Q v H' → Q' v H') : OkG P' K W F σ H μ r Q' := by
  cases r with
  | ok d s => exact fun v H' μ' f rs p => q _ _ (h v H' μ' f rs (i _ _ _ _ p))
  | ex C fs s => exact h
  | bad => exact h
theorem RDs.fut (s : RS K H μ F st) (f : Fut H μ H' μ') : ∀ {ds : List D} {vs : List V}, RDs K H μ F ds vs → RDs K H' μ' F ds vs
  | [], vs, h => h
  | d :: ds, vs, h => let ⟨y, ys, e, a, b⟩ := h; ⟨y, ys, e, a.fut s f, RDs.fut s f b⟩
theorem RSlot.fut (s : RS K H μ F st) (f : Fut H μ H' μ') {sl : Slot} {o : Option V} (h : RSlot pn K H μ F G sl o) : RSlot pn K H' μ' F G sl o := by
  cases sl with
  | no => exact True.intro
  | pu d => obtain ⟨v, e, q⟩ := h; exact ⟨v, e, RV.kp f.kp0 q⟩
  | ow b d =>
    obtain ⟨a, e, h0, h1, h2⟩ := h
    obtain ⟨u, q⟩ := s.fd a h1
    exact ⟨a, e, h0, h1, h2.kp f.kp0 ((f.keep a u (fun z => s.nf a z h1) q).trans q.symm)⟩
  | exc C fs =>
    obtain ⟨a, oe, d, xs, e, hp, hz, hd, h1, h2, h3, h4⟩ := h
    exact ⟨a, oe, d, xs, e, hp, hz, hd, f.keep d _ h2 h1, f.out h1 h2, h3, RVf.kp f.kp0 h4⟩
theorem RL.fut (s : RS K H μ F st) (f : Fut H μ H' μ') (h : RL pn K H μ F G ρ σ) : RL pn K H' μ' F G ρ σ :=
  ⟨h.len, fun i sl e => let ⟨o, e1, q⟩ := h.at_ i sl e; ⟨o, e1, q.fut s f⟩, h.inj⟩
theorem At.fut (h : At pn K H μ F G ρ σ st) (f : Fut H μ H1 μ1) (s : RS K H1 μ1 F st1) : At pn K H1 μ1 F G ρ σ st1 := ⟨h.l.fut h.s f, s, h.gf⟩

/-- one part, then what follows -/
theorem tG_at {α β γ δ : Type} {P : (Addr → Prop) → Hp → Mu → α → β → Prop} {P' : Hp → Mu → γ → δ → Prop} {Q : δ → Hp → Prop} {m : Loc → Store → Res α} {k : α → Store → Res γ} (a : At pn K H μ F G ρ σ st) (h : OkG P' K W F σ H μ ((m ρ st).bind k) Q) {R : β → Hp → Prop}
    (hR : ∀ x H1 μ1 st1 d, At pn K H1 μ1 F G ρ σ st1 → Fut H μ H1 μ1 → P F H1 μ1 d x → OkG P' K W F σ H1 μ1 (k d st1) Q → R x H1) :
    tG P pn K W m σ H R := by
  refine ⟨ρ, μ, F, G, st, a, ?_⟩
  cases e : m ρ st with
  | ok d s =>
    rw [e] at h
    exact fun v H' μ' f rs rv => hR v H' μ' s d (a.fut f rs) f rv (OkG.fut f h)
  | ex C fs s => rw [e] at h; exact h
  | bad => rw [e] at h; exact h
end
theorem SE.r {X : Cx} {W : WX} {e : Expr} {m : E} (h : SE X W e m) : SR X W e m := PE.of h fun σ H Q ⟨ρ, μ, F, G, st, a, q⟩ => ⟨ρ, μ, F, G, st, a, q.imp (fun _ _ _ _ p => .inl p) fun _ _ z => z⟩
end Dn

/-! Dn: what a value reads as; equality of data. -/
namespace Dn
open PySem PySem.Spec L2
open PyProof.Rows hiding St RelV

/-- a shared object's content -/
@[simp] def hid (n : Nat) : D → D
  | .non => .ref n
  | d => d
@[simp] def der (st : Store) : D → D
  | .ref n => hid n ((st[n]?).getD (.ref n))
  | d => d
/-- v reads as d -/
def DR (K : PySem.W.Frag) (H : Hp) (μ : Mu) (F : Addr → Prop) : D → V → Prop
  | .non, v => v = .non
  | .bl b, v => v = .bl b
  | .int b, v => v = .int b
  | .str b, v => v = .str b
  | .tup ds, v => ∃ a xs, v = .ref a ∧ SqT K H a xs ∧ RVs K H μ F ds xs
  | .lst ds, v => ∃ a xs, v = .ref a ∧ H a = some (.lst xs) ∧ RVs K H μ F ds xs
  | .dic kvs, v => ∃ a xs, v = .ref a ∧ Rd H a (.dK xs) ∧ RVd K H μ F kvs xs
  | .obj C fs, v => ∃ a dx xs, v = .ref a ∧ H a = some (.ins (He.ga K C) dx xs) ∧ RVf K H μ F fs xs
  | .ref n, v => ∃ a, v = .ref a
  | .glob x, v => v = .ref (He.ga K x)
  | .scr ns, v => ∃ a, v = .ref a ∧ SqL K H a (ns.map V.int)
section
variable {K : PySem.W.Frag} {H H' : Hp} {μ μ' : Mu} {F F' : Addr → Prop} {st : Store} {d e : D} {v x y : V}
theorem RV.dr (h : RV K H μ F d v) (hr : ∀ n, d ≠ .ref n) : DR K H μ F d v := by
  cases d with
  | tup ds =>
    unfold RV at h
    obtain ⟨a, xs, e, q, r⟩ := h
    refine ⟨a, xs, e, ?_, r⟩
    rcases q with ⟨q, _⟩ | q
    · exact .inl (.inl q)
    · exact .inr q
  | lst ds => unfold RV at h; obtain ⟨a, xs, e, q, r⟩ := h; exact ⟨a, xs, e, q.1, r⟩
  | dic ds => unfold RV at h; obtain ⟨a, xs, e, q, r⟩ := h; exact ⟨a, xs, e, q.1, r⟩
  | obj C fs => unfold RV at h; obtain ⟨a, dx, xs, e, q, r⟩ := h; exact ⟨a, dx, xs, e, q.1, r⟩
  | ref n => exact absurd rfl (hr n)
  | scr ns =>
    unfold RV at h
    obtain ⟨a, e, q⟩ := h
    refine ⟨a, e, ?_⟩
    rcases q with ⟨o, q, _⟩ | q
    · exact .inl (.inr ⟨o, q⟩)
    · exact .inr q
  | _ => unfold RV at h; exact h
theorem RC.dr {a : Addr} (h : RC K H μ F d a) : DR K H μ F d (.ref a) := by
  cases d with
  | lst ds => obtain ⟨xs, q, r⟩ := h; exact ⟨a, xs, rfl, q, r⟩
  | dic ds => obtain ⟨xs, q, r⟩ := h; exact ⟨a, xs, rfl, .inl q, r⟩
  | obj C fs => obtain ⟨dx, xs, q, r⟩ := h; exact ⟨a, dx, xs, rfl, q, r⟩
  | _ => exact h.elim
theorem RD.dr (s : RS K H μ F st) (h : RD K H μ F d v) : DR K H μ F (der st d) v := by
  rcases h with h | ⟨a, e, _, h⟩
  · cases d with
    | ref n =>
      unfold RV at h
      obtain ⟨a, e, q⟩ := h
      have hn : n < st.length := by rw [← s.len]; exact (List.getElem?_eq_some_iff.mp q).1
      obtain ⟨b, q2, c⟩ := s.at_ n st[n] (List.getElem?_eq_getElem hn)
      rw [q] at q2; cases q2
      show DR K H μ F (hid n ((st[n]?).getD (.ref n))) v
      rw [List.getElem?_eq_getElem hn, e]
      rcases c with c | ⟨c, _⟩
      · show DR K H μ F (hid n st[n]) (.ref a)
        have c' := c.dr
        generalize st[n] = z at c c'
        cases z <;> first | exact c' | exact c.elim
      · rw [c]
        exact ⟨a, rfl⟩
    | _ => exact RV.dr h (fun n z => by cases z)
  · rw [e]
    cases d with
    | lst ds => exact h.dr
    | dic ds => exact h.dr
    | obj C fs => exact h.dr
    | _ => exact h.elim
theorem RVs.length : ∀ {ds : List D} {xs : List V}, RVs K H μ F ds xs → xs.length = ds.length
  | [], xs, h => by
    unfold RVs at h
    rw [h]
    rfl
  | d :: ds, xs, h => by
    unfold RVs at h
    obtain ⟨y, ys, e, _, r⟩ := h
    rw [e, List.length_cons, List.length_cons, RVs.length r]
theorem RVs.nil : RVs K H μ F [] [] := by unfold RVs; rfl
theorem RVs.cons {ds : List D} {xs : List V} (h : RV K H μ F d v) (r : RVs K H μ F ds xs) : RVs K H μ F (d :: ds) (v :: xs) := by
  unfold RVs; exact ⟨v, xs, rfl, h, r⟩
theorem RVs.get : ∀ {ds : List D} {xs : List V} {i : Nat} {d : D}, RVs K H μ F ds xs → ds[i]? = some d → ∃ v, xs[i]? = some v ∧ RV K H μ F d v
  | [], _, i, d, _, e => by simp at e
  | c :: ds, xs, 0, d, h, e => by
    unfold RVs at h
    obtain ⟨y, ys, e1, q, r⟩ := h
    have e2 : c = d := by simpa using e
    subst e2
    exact ⟨y, by rw [e1]; rfl, q⟩
  | c :: ds, xs, i + 1, d, h, e => by
    unfold RVs at h
    obtain ⟨y, ys, e1, q, r⟩ := h
    obtain ⟨v, e2, q2⟩ := RVs.get r (i := i) (d := d) (by simpa using e)
    exact ⟨v, by rw [e1]; simpa using e2, q2⟩
theorem RVs.append : ∀ {ds es : List D} {xs ys : List V}, RVs K H μ F ds xs → RVs K H μ F es ys → RVs K H μ F (ds ++ es) (xs ++ ys)
  | [], es, xs, ys, h, g => by unfold RVs at h; rw [h]; exact g
  | c :: ds, es, xs, ys, h, g => by
    unfold RVs at h
    obtain ⟨z, zs, e1, q, r⟩ := h
    rw [e1]
    exact RVs.cons q (RVs.append r g)
theorem RVs.take : ∀ {ds : List D} {xs : List V} (n : Nat), RVs K H μ F ds xs → RVs K H μ F (ds.take n) (xs.take n)
  | ds, xs, 0, h => by simp only [List.take_zero]; exact RVs.nil
  | [], xs, n + 1, h => by unfold RVs at h; rw [h]; exact RVs.nil
  | c :: ds, xs, n + 1, h => by
    unfold RVs at h
    obtain ⟨z, zs, e1, q, r⟩ := h
    rw [e1]
    exact RVs.cons q (RVs.take n r)
theorem RVs.drop : ∀ {ds : List D} {xs : List V} (n : Nat), RVs K H μ F ds xs → RVs K H μ F (ds.drop n) (xs.drop n)
  | ds, xs, 0, h => h
  | [], xs, n + 1, h => by unfold RVs at h; rw [h]; exact RVs.nil
  | c :: ds, xs, n + 1, h => by
    unfold RVs at h
    obtain ⟨z, zs, e1, q, r⟩ := h
    rw [e1]
    exact RVs.drop n r
theorem RVs.reverse : ∀ {ds : List D} {xs : List V}, RVs K H μ F ds xs → RVs K H μ F ds.reverse xs.reverse
  | [], xs, h => by unfold RVs at h; rw [h]; exact RVs.nil
  | c :: ds, xs, h => by
    unfold RVs at h
    obtain ⟨z, zs, e1, q, r⟩ := h
    rw [e1, List.reverse_cons, List.reverse_cons]
    exact RVs.append (RVs.reverse r) (RVs.cons q RVs.nil)
theorem RVs.ints : ∀ (ns : List Int), RVs K H μ F (ns.map D.int) (ns.map V.int)
  | [] => RVs.nil
  | n :: ns => RVs.cons (by unfold RV; rfl) (RVs.ints ns)
theorem RVs.set : ∀ {ds : List D} {xs : List V} (n : Nat), RVs K H μ F ds xs → RV K H μ F d v → RVs K H μ F (ds.set n d) (xs.set n v)
  | [], xs, n, h, _ => by unfold RVs at h; rw [h]; exact RVs.nil
  | c :: ds, xs, 0, h, g => by
    unfold RVs at h
    obtain ⟨z, zs, e1, q, r⟩ := h
    rw [e1]
    exact RVs.cons g r
  | c :: ds, xs, n + 1, h, g => by
    unfold RVs at h
    obtain ⟨z, zs, e1, q, r⟩ := h
    rw [e1]
    exact RVs.cons q (RVs.set n r g)
end

/-! ### equality of data -/
mutual
def deq : D → D → Bool
  | .non, .non => true
  | .bl a, .bl b => a == b
  | .bl a, .int j => (if a then 1 else 0) == j
  | .int i, .bl b => i == (if b then 1 else 0)
  | .int i, .int j => i == j
  | .str x, .str y => x == y
  | .tup ds, .tup es => deqs ds es
  | .lst ds, .lst es => deqs ds es
  | _, _ => false
def deqs : List D → List D → Bool
  | [], [] => true
  | d :: ds, e :: es => deq d e && deqs ds es
  | _, _ => false
end
/-- data that == can tell, nested at most n deep -/
def okq : Nat → D → Bool
  | _, .non => true
  | _, .bl _ => true
  | _, .int _ => true
  | _, .str _ => true
  | n + 1, .tup ds => ds.all (okq n)
  | n + 1, .lst ds => ds.all (okq n)
  | _, _ => false
section
variable {X : Cx} {pins : List (Addr × Obj)} {σ : St} {H : Hp} {s : Shared} {μ : Mu} {F : Addr → Prop}
theorem deqs_at : ∀ (ds es : List D), deqs ds es = ((List.range (min ds.length es.length)).all (fun j => deq (ds.getD j .non) (es.getD j .non)) && ds.length == es.length)
  | [], [] => by simp [deqs]
  | [], e :: es => by simp [deqs]
  | d :: ds, [] => by simp [deqs]
  | d :: ds, e :: es => by
    have ih := deqs_at ds es
    show (deq d e && deqs ds es) = _
    rw [ih]
    have hm : min (d :: ds).length (e :: es).length = min ds.length es.length + 1 := by simp only [List.length_cons]; omega
    rw [hm, List.range_succ_eq_map, List.all_cons, List.all_map]
    have e1 : ((d :: ds).length == (e :: es).length) = (ds.length == es.length) := by simp
    rw [e1, Bool.and_assoc]
    rfl
mutual
/-- one value, two readings -/
theorem deq_same (I : Inv X pins σ H s) : ∀ (d e : D) (n m : Nat) (v : V), okq n d = true → okq m e = true → DR X.K H μ F d v → DR X.K H μ F e v → d = e
  | .tup ds, .tup es, n, m, v, od, oe, h, g => by
    obtain ⟨a, xs, e1, q, r⟩ := h
    obtain ⟨b, ys, e2, q2, r2⟩ := g
    rw [e1] at e2; cases e2
    have := I.tuple_inj q q2
    subst this
    cases n with
    | zero => simp [okq] at od
    | succ n =>
      cases m with
      | zero => simp [okq] at oe
      | succ m =>
        simp only [okq] at od oe
        rw [deqs_same I ds es n m xs od oe r r2]
  | .lst ds, .lst es, n, m, v, od, oe, h, g => by
    obtain ⟨a, xs, e1, q, r⟩ := h
    obtain ⟨b, ys, e2, q2, r2⟩ := g
    rw [e1] at e2; cases e2
    rw [q] at q2; cases q2
    cases n with
    | zero => simp [okq] at od
    | succ n =>
      cases m with
      | zero => simp [okq] at oe
      | succ m =>
        simp only [okq] at od oe
        rw [deqs_same I ds es n m xs od oe r r2]
  | .tup ds, .lst es, n, m, v, od, oe, h, g => by
    obtain ⟨a, xs, e1, q, r⟩ := h
    obtain ⟨b, ys, e2, q2, r2⟩ := g
    rw [e1] at e2; cases e2
    obtain ⟨its, _, ⟨o, ho, hc, _⟩, _⟩ := I.tuple q
    obtain ⟨its2, _, p2, _⟩ := I.list (.inl (.inl q2))
    obtain ⟨o2, _, ho2, hc2, _⟩ := p2
    rw [ho] at ho2; cases ho2
    rw [hc] at hc2
    exact absurd (Value.type.inj hc2) (by decide)
  | .lst ds, .tup es, n, m, v, od, oe, h, g => by
    obtain ⟨a, xs, e1, q, r⟩ := h
    obtain ⟨b, ys, e2, q2, r2⟩ := g
    rw [e1] at e2; cases e2
    obtain ⟨its, _, ⟨o, ho, hc, _⟩, _⟩ := I.tuple q2
    obtain ⟨its2, _, p2, _⟩ := I.list (.inl (.inl q))
    obtain ⟨o2, _, ho2, hc2, _⟩ := p2
    rw [ho] at ho2; cases ho2
    rw [hc] at hc2
    exact absurd (Value.type.inj hc2) (by decide)
  | .non, .non, _, _, v, _, _, _, _ => rfl
  | .bl a, .bl b, _, _, v, _, _, h, g => by
    have h1 : v = .bl a := h
    have g1 : v = .bl b := g
    rw [h1] at g1; cases g1
    rfl
  | .int a, .int b, _, _, v, _, _, h, g => by
    have h1 : v = .int a := h
    have g1 : v = .int b := g
    rw [h1] at g1; cases g1
    rfl
  | .str a, .str b, _, _, v, _, _, h, g => by
    have h1 : v = .str a := h
    have g1 : v = .str b := g
    rw [h1] at g1; cases g1
    rfl
  | .non, .bl _, _, _, v, _, _, h, g => by simp only [DR] at h g; rw [h] at g; cases g
  | .non, .int _, _, _, v, _, _, h, g => by simp only [DR] at h g; rw [h] at g; cases g
  | .non, .str _, _, _, v, _, _, h, g => by simp only [DR] at h g; rw [h] at g; cases g
  | .non, .tup _, _, _, v, _, _, h, g => by obtain ⟨a, xs, e1, _⟩ := g; have h1 : v = .non := h; rw [h1] at e1; cases e1
  | .non, .lst _, _, _, v, _, _, h, g => by obtain ⟨a, xs, e1, _⟩ := g; have h1 : v = .non := h; rw [h1] at e1; cases e1
  | .bl _, .non, _, _, v, _, _, h, g => by simp only [DR] at h g; rw [h] at g; cases g
  | .bl _, .int _, _, _, v, _, _, h, g => by simp only [DR] at h g; rw [h] at g; cases g
  | .bl _, .str _, _, _, v, _, _, h, g => by simp only [DR] at h g; rw [h] at g; cases g
  | .bl b, .tup _, _, _, v, _, _, h, g => by obtain ⟨a, xs, e1, _⟩ := g; have h1 : v = .bl b := h; rw [h1] at e1; cases e1
  | .bl b, .lst _, _, _, v, _, _, h, g => by obtain ⟨a, xs, e1, _⟩ := g; have h1 : v = .bl b := h; rw [h1] at e1; cases e1
  | .int _, .non, _, _, v, _, _, h, g => by simp only [DR] at h g; rw [h] at g; cases g
  | .int _, .bl _, _, _, v, _, _, h, g => by simp only [DR] at h g; rw [h] at g; cases g
  | .int _, .str _, _, _, v, _, _, h, g => by simp only [DR] at h g; rw [h] at g; cases g
  | .int b, .tup _, _, _, v, _, _, h, g => by obtain ⟨a, xs, e1, _⟩ := g; have h1 : v = .int b := h; rw [h1] at e1; cases e1
  | .int b, .lst _, _, _, v, _, _, h, g => by obtain ⟨a, xs, e1, _⟩ := g; have h1 : v = .int b := h; rw [h1] at e1; cases e1
  | .str _, .non, _, _, v, _, _, h, g => by simp only [DR] at h g; rw [h] at g; cases g
  | .str _, .bl _, _, _, v, _, _, h, g => by simp only [DR] at h g; rw [h] at g; cases g
  | .str _, .int _, _, _, v, _, _, h, g => by simp only [DR] at h g; rw [h] at g; cases g
  | .str b, .tup _, _, _, v, _, _, h, g => by obtain ⟨a, xs, e1, _⟩ := g; have h1 : v = .str b := h; rw [h1] at e1; cases e1
  | .str b, .lst _, _, _, v, _, _, h, g => by obtain ⟨a, xs, e1, _⟩ := g; have h1 : v = .str b := h; rw [h1] at e1; cases e1
  | .tup _, .non, _, _, v, _, _, h, g => by obtain ⟨a, xs, e1, _⟩ := h; have h1 : v = .non := g; rw [h1] at e1; cases e1
  | .tup _, .bl b, _, _, v, _, _, h, g => by obtain ⟨a, xs, e1, _⟩ := h; have h1 : v = .bl b := g; rw [h1] at e1; cases e1
  | .tup _, .int b, _, _, v, _, _, h, g => by obtain ⟨a, xs, e1, _⟩ := h; have h1 : v = .int b := g; rw [h1] at e1; cases e1
  | .tup _, .str b, _, _, v, _, _, h, g => by obtain ⟨a, xs, e1, _⟩ := h; have h1 : v = .str b := g; rw [h1] at e1; cases e1
  | .lst _, .non, _, _, v, _, _, h, g => by obtain ⟨a, xs, e1, _⟩ := h; have h1 : v = .non := g; rw [h1] at e1; cases e1
  | .lst _, .bl b, _, _, v, _, _, h, g => by obtain ⟨a, xs, e1, _⟩ := h; have h1 : v = .bl b := g; rw [h1] at e1; cases e1
  | .lst _, .int b, _, _, v, _, _, h, g => by obtain ⟨a, xs, e1, _⟩ := h; have h1 : v = .int b := g; rw [h1] at e1; cases e1
  | .lst _, .str b, _, _, v, _, _, h, g => by obtain ⟨a, xs, e1, _⟩ := h; have h1 : v = .str b := g; rw [h1] at e1; cases e1
  | .dic _, _, n, _, _, od, _, _, _ => by cases n <;> simp [okq] at od
  | .obj _ _, _, n, _, _, od, _, _, _ => by cases n <;> simp [okq] at od
  | .ref _, _, n, _, _, od, _, _, _ => by cases n <;> simp [okq] at od
  | .glob _, _, n, _, _, od, _, _, _ => by cases n <;> simp [okq] at od
  | .scr _, _, n, _, _, od, _, _, _ => by cases n <;> simp [okq] at od
  | _, .dic _, _, n, _, _, od, _, _ => by cases n <;> simp [okq] at od
  | _, .obj _ _, _, n, _, _, od, _, _ => by cases n <;> simp [okq] at od
  | _, .ref _, _, n, _, _, od, _, _ => by cases n <;> simp [okq] at od
  | _, .glob _, _, n, _, _, od, _, _ => by cases n <;> simp [okq] at od
  | _, .scr _, _, n, _, _, od, _, _ => by cases n <;> simp [okq] at od
theorem deqs_same (I : Inv X pins σ H s) : ∀ (ds es : List D) (n m : Nat) (vs : List V), ds.all (okq n) = true → es.all (okq m) = true → RVs X.K H μ F ds vs → RVs X.K H μ F es vs → ds = es
  | [], [], _, _, _, _, _, _, _ => rfl
  | [], e :: es, _, _, vs, _, _, h, g => by
    unfold RVs at h g
    obtain ⟨y, ys, e1, _⟩ := g
    rw [h] at e1; cases e1
  | d :: ds, [], _, _, vs, _, _, h, g => by
    unfold RVs at h g
    obtain ⟨y, ys, e1, _⟩ := h
    rw [g] at e1; cases e1
  | d :: ds, e :: es, n, m, vs, od, oe, h, g => by
    unfold RVs at h g
    obtain ⟨y, ys, e1, q1, r1⟩ := h
    obtain ⟨z, zs, e2, q2, r2⟩ := g
    rw [e1] at e2; cases e2
    rw [List.all_cons, Bool.and_eq_true] at od oe
    have nr : ∀ {k : Nat} {c : D}, okq k c = true → ∀ n, c ≠ .ref n := fun {k c} ok n z => by subst z; cases k <;> simp [okq] at ok
    rw [deq_same I d e n m y od.1 oe.1 (q1.dr (nr od.1)) (q2.dr (nr oe.1)), deqs_same I ds es n m ys od.2 oe.2 r1 r2]
end
mutual
theorem deq_refl : ∀ (n : Nat) (d : D), okq n d = true → deq d d = true
  | n, .non, _ => rfl
  | n, .bl b, _ => by simp [deq]
  | n, .int b, _ => by simp [deq]
  | n, .str b, _ => by simp [deq]
  | 0, .tup ds, h => by simp [okq] at h
  | 0, .lst ds, h => by simp [okq] at h
  | n + 1, .tup ds, h => by
    simp only [okq] at h
    exact deqs_refl n ds h
  | n + 1, .lst ds, h => by
    simp only [okq] at h
    exact deqs_refl n ds h
  | n, .dic ds, h => by cases n <;> simp [okq] at h
  | n, .obj _ _, h => by cases n <;> simp [okq] at h
  | n, .ref _, h => by cases n <;> simp [okq] at h
  | n, .glob _, h => by cases n <;> simp [okq] at h
  | n, .scr _, h => by cases n <;> simp [okq] at h
theorem deqs_refl : ∀ (n : Nat) (ds : List D), ds.all (okq n) = true → deqs ds ds = true
  | _, [], _ => rfl
  | n, d :: ds, h => by
    rw [List.all_cons, Bool.and_eq_true] at h
    show (deq d d && deqs ds ds) = true
    rw [deq_refl n d h.1, deqs_refl n ds h.2]
    rfl
end

theorem okq_mono : ∀ {n : Nat} {d : D}, okq n d = true → ∀ {m : Nat}, n ≤ m → okq m d = true := by
  intro n
  induction n with
  | zero =>
    intro d h m _
    cases d <;> cases m <;> simp [okq] at h ⊢
  | succ n ih =>
    intro d h m hm
    obtain ⟨k, rfl⟩ : ∃ k, m = k + 1 := ⟨m - 1, by omega⟩
    cases d with
    | tup ds =>
      simp only [okq, List.all_eq_true] at h ⊢
      exact fun x hx => ih (h x hx) (by omega)
    | lst ds =>
      simp only [okq, List.all_eq_true] at h ⊢
      exact fun x hx => ih (h x hx) (by omega)
    | _ => simp [okq] at h ⊢
theorem okq_nr {k : Nat} {c : D} (ok : okq k c = true) : ∀ n, c ≠ .ref n := fun n z => by subst z; cases k <;> simp [okq] at ok

/-- what stands at a place of two lists of values -/
theorem items_at {ds : List D} {xs : List V} {its : List Value} {j : Nat} (r : RVs X.K H μ F ds xs) (q : Vals xs its) (h : j < its.length) : ∃ d v, ds[j]? = some d ∧ ds.getD j .non = d ∧ RV X.K H μ F d v ∧ RelV v its[j] := by
  have l1 := r.length
  have l2 := q.length
  have hd : j < ds.length := by omega
  obtain ⟨v, e, rv⟩ := r.get (List.getElem?_eq_getElem hd)
  obtain ⟨u, e2, rl⟩ := q.get e
  rw [List.getElem?_eq_getElem h] at e2
  cases e2
  exact ⟨ds[j], v, List.getElem?_eq_getElem hd, by simp [hd], rv, rl⟩

set_option maxHeartbeats 2000000 in
theorem deq_at (I : Inv X pins σ H s) : ∀ (n : Nat) (d e : D) (A : Around) (v w : V) (u u' : Value), okq n d = true → okq n e = true → DR X.K H μ F d v → DR X.K H μ F e w → RelV v u → RelV w u' → A.units + n + 1 < cLine →
    SeqAt.EqAt A s u u' (deq d e) ∧ SeqAt.RcAt A s u u' (deq d e) := by
  intro n
  induction n with
  | zero =>
    intro d e A v w u u' od oe hd he rv rw' hu
    cases d with
    | non =>
      cases e with
      | non =>
        cases (show v = .non from hd); cases (show u = Value.none from rv)
        cases (show w = .non from he); cases (show u' = Value.none from rw')
        exact ⟨.same _, .none_none⟩
      | bl b =>
        cases (show v = .non from hd); cases (show u = Value.none from rv)
        cases (show w = .bl b from he); cases (show u' = Value.bool b from rw')
        exact ⟨.none_bool b, .none_bool b⟩
      | int b =>
        cases (show v = .non from hd); cases (show u = Value.none from rv)
        cases (show w = .int b from he); obtain ⟨tb, eb⟩ := (show ∃ t, u' = Value.int b t from rw'); subst eb
        exact ⟨.none_int b tb, .none_int b tb⟩
      | str b =>
        cases (show v = .non from hd); cases (show u = Value.none from rv)
        cases (show w = .str b from he); obtain ⟨tb, eb⟩ := (show ∃ t, u' = Value.str b t from rw'); subst eb
        exact ⟨.none_str b tb, .none_str b tb⟩
      | _ => simp [okq] at oe
    | bl a =>
      cases e with
      | non =>
        cases (show v = .bl a from hd); cases (show u = Value.bool a from rv)
        cases (show w = .non from he); cases (show u' = Value.none from rw')
        exact ⟨.bool_none a, .bool_none a⟩
      | bl b =>
        cases (show v = .bl a from hd); cases (show u = Value.bool a from rv)
        cases (show w = .bl b from he); cases (show u' = Value.bool b from rw')
        exact ⟨.bool_bool a b, .bool_bool a b⟩
      | int b =>
        cases (show v = .bl a from hd); cases (show u = Value.bool a from rv)
        cases (show w = .int b from he); obtain ⟨tb, eb⟩ := (show ∃ t, u' = Value.int b t from rw'); subst eb
        exact ⟨.bool_int a b tb, .bool_int a b tb⟩
      | str b =>
        cases (show v = .bl a from hd); cases (show u = Value.bool a from rv)
        cases (show w = .str b from he); obtain ⟨tb, eb⟩ := (show ∃ t, u' = Value.str b t from rw'); subst eb
        exact ⟨.bool_str a b tb, .bool_str a b tb⟩
      | _ => simp [okq] at oe
    | int a =>
      cases e with
      | non =>
        cases (show v = .int a from hd); obtain ⟨ta, ea⟩ := (show ∃ t, u = Value.int a t from rv); subst ea
        cases (show w = .non from he); cases (show u' = Value.none from rw')
        exact ⟨.int_none a ta, .int_none a ta⟩
      | bl b =>
        cases (show v = .int a from hd); obtain ⟨ta, ea⟩ := (show ∃ t, u = Value.int a t from rv); subst ea
        cases (show w = .bl b from he); cases (show u' = Value.bool b from rw')
        exact ⟨.int_bool a ta b, .int_bool a ta b⟩
      | int b =>
        cases (show v = .int a from hd); obtain ⟨ta, ea⟩ := (show ∃ t, u = Value.int a t from rv); subst ea
        cases (show w = .int b from he); obtain ⟨tb, eb⟩ := (show ∃ t, u' = Value.int b t from rw'); subst eb
        exact ⟨.int_int a ta b tb, .int_int a ta b tb⟩
      | str b =>
        cases (show v = .int a from hd); obtain ⟨ta, ea⟩ := (show ∃ t, u = Value.int a t from rv); subst ea
        cases (show w = .str b from he); obtain ⟨tb, eb⟩ := (show ∃ t, u' = Value.str b t from rw'); subst eb
        exact ⟨.int_str a ta b tb, .int_str a ta b tb⟩
      | _ => simp [okq] at oe
    | str a =>
      cases e with
      | non =>
        cases (show v = .str a from hd); obtain ⟨ta, ea⟩ := (show ∃ t, u = Value.str a t from rv); subst ea
        cases (show w = .non from he); cases (show u' = Value.none from rw')
        exact ⟨.str_none a ta, .str_none a ta⟩
      | bl b =>
        cases (show v = .str a from hd); obtain ⟨ta, ea⟩ := (show ∃ t, u = Value.str a t from rv); subst ea
        cases (show w = .bl b from he); cases (show u' = Value.bool b from rw')
        exact ⟨.str_bool a ta b, .str_bool a ta b⟩
      | int b =>
        cases (show v = .str a from hd); obtain ⟨ta, ea⟩ := (show ∃ t, u = Value.str a t from rv); subst ea
        cases (show w = .int b from he); obtain ⟨tb, eb⟩ := (show ∃ t, u' = Value.int b t from rw'); subst eb
        exact ⟨.str_int a ta b tb, .str_int a ta b tb⟩
      | str b =>
        cases (show v = .str a from hd); obtain ⟨ta, ea⟩ := (show ∃ t, u = Value.str a t from rv); subst ea
        cases (show w = .str b from he); obtain ⟨tb, eb⟩ := (show ∃ t, u' = Value.str b t from rw'); subst eb
        exact ⟨.str_str a ta b tb, .str_str a ta b tb⟩
      | _ => simp [okq] at oe
    | _ => simp [okq] at od
  | succ n ih =>
    intro d e A v w u u' od oe hd he rv rw' hu
    have hu0 : A.units < cLine := by omega
    have hu1 : A.in1.units + n + 1 < cLine := by show A.units + 1 + n + 1 < cLine; omega
    cases d with
    | tup ds =>
      obtain ⟨a, xs, e1, q1, r1⟩ := hd
      subst e1
      cases (show u = Value.ref a from rv)
      obtain ⟨its, va, p1, _⟩ := I.tuple q1
      cases e with
      | tup es =>
        obtain ⟨b, ys, e2, q2, r2⟩ := he
        subst e2
        cases (show u' = Value.ref b from rw')
        obtain ⟨its2, vb, p2, _⟩ := I.tuple q2
        have rc : SeqAt.RcAt A s (.ref a) (.ref b) (deq (.tup ds) (.tup es)) := by
          have go := SeqAt.RcAt.tuples (s := s) (A := A) (e := fun j => deq (ds.getD j .non) (es.getD j .non)) p1 p2 hu0 fun j h1 h2 => by
            obtain ⟨c, x, ec, eg, rx, lx⟩ := items_at r1 va (j := j) (by simpa using h1)
            obtain ⟨c', x', ec', eg', rx', lx'⟩ := items_at r2 vb (j := j) (by simpa using h2)
            rw [eg, eg']
            simp only [okq, List.all_eq_true] at od oe
            have o1 := od c (List.mem_of_getElem? ec)
            have o2 := oe c' (List.mem_of_getElem? ec')
            exact (ih c c' A.in1 x x' _ _ o1 o2 (rx.dr (okq_nr o1)) (rx'.dr (okq_nr o2)) (by simpa using lx) (by simpa using lx') hu1).1
          have l1 := va.length
          have l2 := vb.length
          have l3 := r1.length
          have l4 := r2.length
          have ee : deq (.tup ds) (.tup es) = ((List.range (min its.toArray.size its2.toArray.size)).all (fun j => deq (ds.getD j .non) (es.getD j .non)) && its.toArray.size == its2.toArray.size) := by
            rw [List.size_toArray, List.size_toArray, ← l1, ← l2, l3, l4]
            exact deqs_at ds es
          rw [ee]
          exact go
        refine ⟨?_, rc⟩
        by_cases hab : a = b
        · subst hab
          rw [← deq_same I (.tup ds) (.tup es) (n + 1) (n + 1) (.ref a) od oe ⟨a, xs, rfl, q1, r1⟩ ⟨a, ys, rfl, q2, r2⟩, deq_refl (n + 1) _ od]
          exact .same _
        · exact .of_refs hab rc
      | lst es =>
        obtain ⟨b, ys, e2, q2, r2⟩ := he
        subst e2
        cases (show u' = Value.ref b from rw')
        obtain ⟨its2, vb, p2, _⟩ := I.list (.inl (.inl q2))
        exact ⟨.tuple_list p1 p2.isList hu0, .tuple_list p1 p2.isList hu0⟩
      | non => cases (show w = .non from he); cases (show u' = Value.none from rw'); exact ⟨.tuple_none p1 hu0, .tuple_none p1 hu0⟩
      | bl b => cases (show w = .bl b from he); cases (show u' = Value.bool b from rw'); exact ⟨.tuple_bool b p1 hu0, .tuple_bool b p1 hu0⟩
      | int b => cases (show w = .int b from he); obtain ⟨t, e2⟩ := (show ∃ t, u' = Value.int b t from rw'); subst e2; exact ⟨.tuple_int b t p1 hu0, .tuple_int b t p1 hu0⟩
      | str b => cases (show w = .str b from he); obtain ⟨t, e2⟩ := (show ∃ t, u' = Value.str b t from rw'); subst e2; exact ⟨.tuple_str b t p1 hu0, .tuple_str b t p1 hu0⟩
      | _ => simp [okq] at oe
    | lst ds =>
      obtain ⟨a, xs, e1, q1, r1⟩ := hd
      subst e1
      cases (show u = Value.ref a from rv)
      obtain ⟨its, va, p1, _⟩ := I.list (.inl (.inl q1))
      cases e with
      | lst es =>
        obtain ⟨b, ys, e2, q2, r2⟩ := he
        subst e2
        cases (show u' = Value.ref b from rw')
        obtain ⟨its2, vb, p2, _⟩ := I.list (.inl (.inl q2))
        have l1 := va.length
        have l2 := vb.length
        have l3 := r1.length
        have l4 := r2.length
        have rc : SeqAt.RcAt A s (.ref a) (.ref b) (deq (.lst ds) (.lst es)) := by
          show SeqAt.RcAt A s (.ref a) (.ref b) (deqs ds es)
          rw [deqs_at]
          by_cases hl : ds.length = es.length
          · have go := SeqAt.RcAt.lists (s := s) (A := A) (e := fun j => deq (ds.getD j .non) (es.getD j .non)) p1.isList p2.isList (by simp only [List.size_toArray]; omega) hu0 fun j h1 h2 => by
              obtain ⟨c, x, ec, eg, rx, lx⟩ := items_at r1 va (j := j) (by simpa using h1)
              obtain ⟨c', x', ec', eg', rx', lx'⟩ := items_at r2 vb (j := j) (by simpa using h2)
              rw [eg, eg']
              simp only [okq, List.all_eq_true] at od oe
              have o1 := od c (List.mem_of_getElem? ec)
              have o2 := oe c' (List.mem_of_getElem? ec')
              exact (ih c c' A.in1 x x' _ _ o1 o2 (rx.dr (okq_nr o1)) (rx'.dr (okq_nr o2)) (by simpa using lx) (by simpa using lx') hu1).1
            rw [List.size_toArray] at go
            rw [← hl, Nat.min_self, ← l3, l1, beq_self_eq_true, Bool.and_true]
            exact go
          · have e0 : (ds.length == es.length) = false := beq_eq_false_iff_ne.mpr hl
            rw [e0, Bool.and_false]
            exact .lists_lengths p1.isList p2.isList (by simp only [List.size_toArray, bne_iff_ne, ne_eq]; omega) hu0
        refine ⟨?_, rc⟩
        by_cases hab : a = b
        · subst hab
          rw [← deq_same I (.lst ds) (.lst es) (n + 1) (n + 1) (.ref a) od oe ⟨a, xs, rfl, q1, r1⟩ ⟨a, ys, rfl, q2, r2⟩, deq_refl (n + 1) _ od]
          exact .same _
        · exact .of_refs hab rc
      | tup es =>
        obtain ⟨b, ys, e2, q2, r2⟩ := he
        subst e2
        cases (show u' = Value.ref b from rw')
        obtain ⟨its2, vb, p2, _⟩ := I.tuple q2
        exact ⟨.list_tuple p1.isList p2 hu0, .list_tuple p1.isList p2 hu0⟩
      | non => cases (show w = .non from he); cases (show u' = Value.none from rw'); exact ⟨.list_none p1.isList hu0, .list_none p1.isList hu0⟩
      | bl b => cases (show w = .bl b from he); cases (show u' = Value.bool b from rw'); exact ⟨.list_bool b p1.isList hu0, .list_bool b p1.isList hu0⟩
      | int b => cases (show w = .int b from he); obtain ⟨t, e2⟩ := (show ∃ t, u' = Value.int b t from rw'); subst e2; exact ⟨.list_int b t p1.isList hu0, .list_int b t p1.isList hu0⟩
      | str b => cases (show w = .str b from he); obtain ⟨t, e2⟩ := (show ∃ t, u' = Value.str b t from rw'); subst e2; exact ⟨.list_str b t p1.isList hu0, .list_str b t p1.isList hu0⟩
      | _ => simp [okq] at oe
    | dic _ => simp [okq] at od
    | obj _ _ => simp [okq] at od
    | ref _ => simp [okq] at od
    | glob _ => simp [okq] at od
    | scr _ => simp [okq] at od
    | non =>
      cases e with
      | tup es =>
        obtain ⟨b, ys, e2, q2, r2⟩ := he
        subst e2
        cases (show u' = Value.ref b from rw')
        obtain ⟨its2, vb, p2, _⟩ := I.tuple q2
        cases (show v = .non from hd); cases (show u = Value.none from rv)
        exact ⟨.none_tuple p2 hu0, .none_tuple p2 hu0⟩
      | lst es =>
        obtain ⟨b, ys, e2, q2, r2⟩ := he
        subst e2
        cases (show u' = Value.ref b from rw')
        obtain ⟨its2, vb, p2, _⟩ := I.list (.inl (.inl q2))
        cases (show v = .non from hd); cases (show u = Value.none from rv)
        exact ⟨.none_list p2.isList hu0, .none_list p2.isList hu0⟩
      | non => exact ih .non .non A v w u u' (by cases n <;> rfl) (by cases n <;> rfl) hd he rv rw' (by omega)
      | bl b => exact ih .non (.bl b) A v w u u' (by cases n <;> rfl) (by cases n <;> rfl) hd he rv rw' (by omega)
      | int b => exact ih .non (.int b) A v w u u' (by cases n <;> rfl) (by cases n <;> rfl) hd he rv rw' (by omega)
      | str b => exact ih .non (.str b) A v w u u' (by cases n <;> rfl) (by cases n <;> rfl) hd he rv rw' (by omega)
      | _ => simp [okq] at oe
    | bl a =>
      cases e with
      | tup es =>
        obtain ⟨b, ys, e2, q2, r2⟩ := he
        subst e2
        cases (show u' = Value.ref b from rw')
        obtain ⟨its2, vb, p2, _⟩ := I.tuple q2
        cases (show v = .bl a from hd); cases (show u = Value.bool a from rv)
        exact ⟨.bool_tuple a p2 hu0, .bool_tuple a p2 hu0⟩
      | lst es =>
        obtain ⟨b, ys, e2, q2, r2⟩ := he
        subst e2
        cases (show u' = Value.ref b from rw')
        obtain ⟨its2, vb, p2, _⟩ := I.list (.inl (.inl q2))
        cases (show v = .bl a from hd); cases (show u = Value.bool a from rv)
        exact ⟨.bool_list a p2.isList hu0, .bool_list a p2.isList hu0⟩
      | non => exact ih (.bl a) .non A v w u u' (by cases n <;> rfl) (by cases n <;> rfl) hd he rv rw' (by omega)
      | bl b => exact ih (.bl a) (.bl b) A v w u u' (by cases n <;> rfl) (by cases n <;> rfl) hd he rv rw' (by omega)
      | int b => exact ih (.bl a) (.int b) A v w u u' (by cases n <;> rfl) (by cases n <;> rfl) hd he rv rw' (by omega)
      | str b => exact ih (.bl a) (.str b) A v w u u' (by cases n <;> rfl) (by cases n <;> rfl) hd he rv rw' (by omega)
      | _ => simp [okq] at oe
    | int a =>
      cases e with
      | tup es =>
        obtain ⟨b, ys, e2, q2, r2⟩ := he
        subst e2
        cases (show u' = Value.ref b from rw')
        obtain ⟨its2, vb, p2, _⟩ := I.tuple q2
        cases (show v = .int a from hd); obtain ⟨t, e3⟩ := (show ∃ t, u = Value.int a t from rv); subst e3
        exact ⟨.int_tuple a t p2 hu0, .int_tuple a t p2 hu0⟩
      | lst es =>
        obtain ⟨b, ys, e2, q2, r2⟩ := he
        subst e2
        cases (show u' = Value.ref b from rw')
        obtain ⟨its2, vb, p2, _⟩ := I.list (.inl (.inl q2))
        cases (show v = .int a from hd); obtain ⟨t, e3⟩ := (show ∃ t, u = Value.int a t from rv); subst e3
        exact ⟨.int_list a t p2.isList hu0, .int_list a t p2.isList hu0⟩
      | non => exact ih (.int a) .non A v w u u' (by cases n <;> rfl) (by cases n <;> rfl) hd he rv rw' (by omega)
      | bl b => exact ih (.int a) (.bl b) A v w u u' (by cases n <;> rfl) (by cases n <;> rfl) hd he rv rw' (by omega)
      | int b => exact ih (.int a) (.int b) A v w u u' (by cases n <;> rfl) (by cases n <;> rfl) hd he rv rw' (by omega)
      | str b => exact ih (.int a) (.str b) A v w u u' (by cases n <;> rfl) (by cases n <;> rfl) hd he rv rw' (by omega)
      | _ => simp [okq] at oe
    | str a =>
      cases e with
      | tup es =>
        obtain ⟨b, ys, e2, q2, r2⟩ := he
        subst e2
        cases (show u' = Value.ref b from rw')
        obtain ⟨its2, vb, p2, _⟩ := I.tuple q2
        cases (show v = .str a from hd); obtain ⟨t, e3⟩ := (show ∃ t, u = Value.str a t from rv); subst e3
        exact ⟨.str_tuple a t p2 hu0, .str_tuple a t p2 hu0⟩
      | lst es =>
        obtain ⟨b, ys, e2, q2, r2⟩ := he
        subst e2
        cases (show u' = Value.ref b from rw')
        obtain ⟨its2, vb, p2, _⟩ := I.list (.inl (.inl q2))
        cases (show v = .str a from hd); obtain ⟨t, e3⟩ := (show ∃ t, u = Value.str a t from rv); subst e3
        exact ⟨.str_list a t p2.isList hu0, .str_list a t p2.isList hu0⟩
      | non => exact ih (.str a) .non A v w u u' (by cases n <;> rfl) (by cases n <;> rfl) hd he rv rw' (by omega)
      | bl b => exact ih (.str a) (.bl b) A v w u u' (by cases n <;> rfl) (by cases n <;> rfl) hd he rv rw' (by omega)
      | int b => exact ih (.str a) (.int b) A v w u u' (by cases n <;> rfl) (by cases n <;> rfl) hd he rv rw' (by omega)
      | str b => exact ih (.str a) (.str b) A v w u u' (by cases n <;> rfl) (by cases n <;> rfl) hd he rv rw' (by omega)
      | _ => simp [okq] at oe
theorem dne_at (I : Inv X pins σ H s) (n : Nat) (d e : D) (A : Around) (v w : V) (u u' : Value) (od : okq (n + 1) d = true) (oe : okq (n + 1) e = true) (hd : DR X.K H μ F d v) (he : DR X.K H μ F e w) (rv : RelV v u) (rw' : RelV w u') (hu : A.units + n + 2 < cLine) :
    SeqAt.RcNeAt A s u u' (!deq d e) := by
  have hu0 : A.units < cLine := by omega
  have hu1 : A.in1.units + n + 1 < cLine := by show A.units + 1 + n + 1 < cLine; omega
  cases d with
  | non =>
    cases e with
    | non =>
      cases (show v = .non from hd); cases (show u = Value.none from rv)
      cases (show w = .non from he); cases (show u' = Value.none from rw')
      exact .none_none
    | bl b =>
      cases (show v = .non from hd); cases (show u = Value.none from rv)
      cases (show w = .bl b from he); cases (show u' = Value.bool b from rw')
      exact .none_bool b
    | int b =>
      cases (show v = .non from hd); cases (show u = Value.none from rv)
      cases (show w = .int b from he); obtain ⟨tb, eb⟩ := (show ∃ t, u' = Value.int b t from rw'); subst eb
      exact .none_int b tb
    | str b =>
      cases (show v = .non from hd); cases (show u = Value.none from rv)
      cases (show w = .str b from he); obtain ⟨tb, eb⟩ := (show ∃ t, u' = Value.str b t from rw'); subst eb
      exact .none_str b tb
    | tup b =>
      cases (show v = .non from hd); cases (show u = Value.none from rv)
      obtain ⟨lb, xsb, zb, qb, rb⟩ := he
      subst zb
      cases (show u' = Value.ref lb from rw')
      obtain ⟨itsb, vab, pb, _⟩ := I.tuple qb
      exact .none_tuple pb hu0
    | lst b =>
      cases (show v = .non from hd); cases (show u = Value.none from rv)
      obtain ⟨lb, xsb, zb, qb, rb⟩ := he
      subst zb
      cases (show u' = Value.ref lb from rw')
      obtain ⟨itsb, vab, pb, _⟩ := I.list (.inl (.inl qb))
      exact .none_list pb.isList hu0
    | _ => simp [okq] at oe
  | bl a =>
    cases e with
    | non =>
      cases (show v = .bl a from hd); cases (show u = Value.bool a from rv)
      cases (show w = .non from he); cases (show u' = Value.none from rw')
      exact .bool_none a
    | bl b =>
      cases (show v = .bl a from hd); cases (show u = Value.bool a from rv)
      cases (show w = .bl b from he); cases (show u' = Value.bool b from rw')
      exact .bool_bool a b
    | int b =>
      cases (show v = .bl a from hd); cases (show u = Value.bool a from rv)
      cases (show w = .int b from he); obtain ⟨tb, eb⟩ := (show ∃ t, u' = Value.int b t from rw'); subst eb
      exact .bool_int a b tb
    | str b =>
      cases (show v = .bl a from hd); cases (show u = Value.bool a from rv)
      cases (show w = .str b from he); obtain ⟨tb, eb⟩ := (show ∃ t, u' = Value.str b t from rw'); subst eb
      exact .bool_str a b tb
    | tup b =>
      cases (show v = .bl a from hd); cases (show u = Value.bool a from rv)
      obtain ⟨lb, xsb, zb, qb, rb⟩ := he
      subst zb
      cases (show u' = Value.ref lb from rw')
      obtain ⟨itsb, vab, pb, _⟩ := I.tuple qb
      exact .bool_tuple a pb hu0
    | lst b =>
      cases (show v = .bl a from hd); cases (show u = Value.bool a from rv)
      obtain ⟨lb, xsb, zb, qb, rb⟩ := he
      subst zb
      cases (show u' = Value.ref lb from rw')
      obtain ⟨itsb, vab, pb, _⟩ := I.list (.inl (.inl qb))
      exact .bool_list a pb.isList hu0
    | _ => simp [okq] at oe
  | int a =>
    cases e with
    | non =>
      cases (show v = .int a from hd); obtain ⟨ta, ea⟩ := (show ∃ t, u = Value.int a t from rv); subst ea
      cases (show w = .non from he); cases (show u' = Value.none from rw')
      exact .int_none a ta
    | bl b =>
      cases (show v = .int a from hd); obtain ⟨ta, ea⟩ := (show ∃ t, u = Value.int a t from rv); subst ea
      cases (show w = .bl b from he); cases (show u' = Value.bool b from rw')
      exact .int_bool a ta b
    | int b =>
      cases (show v = .int a from hd); obtain ⟨ta, ea⟩ := (show ∃ t, u = Value.int a t from rv); subst ea
      cases (show w = .int b from he); obtain ⟨tb, eb⟩ := (show ∃ t, u' = Value.int b t from rw'); subst eb
      exact .int_int a ta b tb
    | str b =>
      cases (show v = .int a from hd); obtain ⟨ta, ea⟩ := (show ∃ t, u = Value.int a t from rv); subst ea
      cases (show w = .str b from he); obtain ⟨tb, eb⟩ := (show ∃ t, u' = Value.str b t from rw'); subst eb
      exact .int_str a ta b tb
    | tup b =>
      cases (show v = .int a from hd); obtain ⟨ta, ea⟩ := (show ∃ t, u = Value.int a t from rv); subst ea
      obtain ⟨lb, xsb, zb, qb, rb⟩ := he
      subst zb
      cases (show u' = Value.ref lb from rw')
      obtain ⟨itsb, vab, pb, _⟩ := I.tuple qb
      exact .int_tuple a ta pb hu0
    | lst b =>
      cases (show v = .int a from hd); obtain ⟨ta, ea⟩ := (show ∃ t, u = Value.int a t from rv); subst ea
      obtain ⟨lb, xsb, zb, qb, rb⟩ := he
      subst zb
      cases (show u' = Value.ref lb from rw')
      obtain ⟨itsb, vab, pb, _⟩ := I.list (.inl (.inl qb))
      exact .int_list a ta pb.isList hu0
    | _ => simp [okq] at oe
  | str a =>
    cases e with
    | non =>
      cases (show v = .str a from hd); obtain ⟨ta, ea⟩ := (show ∃ t, u = Value.str a t from rv); subst ea
      cases (show w = .non from he); cases (show u' = Value.none from rw')
      exact .str_none a ta
    | bl b =>
      cases (show v = .str a from hd); obtain ⟨ta, ea⟩ := (show ∃ t, u = Value.str a t from rv); subst ea
      cases (show w = .bl b from he); cases (show u' = Value.bool b from rw')
      exact .str_bool a ta b
    | int b =>
      cases (show v = .str a from hd); obtain ⟨ta, ea⟩ := (show ∃ t, u = Value.str a t from rv); subst ea
      cases (show w = .int b from he); obtain ⟨tb, eb⟩ := (show ∃ t, u' = Value.int b t from rw'); subst eb
      exact .str_int a ta b tb
    | str b =>
      cases (show v = .str a from hd); obtain ⟨ta, ea⟩ := (show ∃ t, u = Value.str a t from rv); subst ea
      cases (show w = .str b from he); obtain ⟨tb, eb⟩ := (show ∃ t, u' = Value.str b t from rw'); subst eb
      exact .str_str a ta b tb
    | tup b =>
      cases (show v = .str a from hd); obtain ⟨ta, ea⟩ := (show ∃ t, u = Value.str a t from rv); subst ea
      obtain ⟨lb, xsb, zb, qb, rb⟩ := he
      subst zb
      cases (show u' = Value.ref lb from rw')
      obtain ⟨itsb, vab, pb, _⟩ := I.tuple qb
      exact .str_tuple a ta pb hu0
    | lst b =>
      cases (show v = .str a from hd); obtain ⟨ta, ea⟩ := (show ∃ t, u = Value.str a t from rv); subst ea
      obtain ⟨lb, xsb, zb, qb, rb⟩ := he
      subst zb
      cases (show u' = Value.ref lb from rw')
      obtain ⟨itsb, vab, pb, _⟩ := I.list (.inl (.inl qb))
      exact .str_list a ta pb.isList hu0
    | _ => simp [okq] at oe
  | tup a =>
    cases e with
    | non =>
      obtain ⟨la, xsa, za, qa, ra⟩ := hd
      subst za
      cases (show u = Value.ref la from rv)
      obtain ⟨itsa, vaa, pa, _⟩ := I.tuple qa
      cases (show w = .non from he); cases (show u' = Value.none from rw')
      exact .tuple_none pa hu0
    | bl b =>
      obtain ⟨la, xsa, za, qa, ra⟩ := hd
      subst za
      cases (show u = Value.ref la from rv)
      obtain ⟨itsa, vaa, pa, _⟩ := I.tuple qa
      cases (show w = .bl b from he); cases (show u' = Value.bool b from rw')
      exact .tuple_bool b pa hu0
    | int b =>
      obtain ⟨la, xsa, za, qa, ra⟩ := hd
      subst za
      cases (show u = Value.ref la from rv)
      obtain ⟨itsa, vaa, pa, _⟩ := I.tuple qa
      cases (show w = .int b from he); obtain ⟨tb, eb⟩ := (show ∃ t, u' = Value.int b t from rw'); subst eb
      exact .tuple_int b tb pa hu0
    | str b =>
      obtain ⟨la, xsa, za, qa, ra⟩ := hd
      subst za
      cases (show u = Value.ref la from rv)
      obtain ⟨itsa, vaa, pa, _⟩ := I.tuple qa
      cases (show w = .str b from he); obtain ⟨tb, eb⟩ := (show ∃ t, u' = Value.str b t from rw'); subst eb
      exact .tuple_str b tb pa hu0
    | tup b =>
      obtain ⟨la, xsa, za, qa, ra⟩ := hd
      subst za
      cases (show u = Value.ref la from rv)
      obtain ⟨itsa, vaa, pa, _⟩ := I.tuple qa
      obtain ⟨lb, xsb, zb, qb, rb⟩ := he
      subst zb
      cases (show u' = Value.ref lb from rw')
      obtain ⟨itsb, vab, pb, _⟩ := I.tuple qb
      have l1 := vaa.length
      have l2 := vab.length
      have l3 := ra.length
      have l4 := rb.length
      have go := SeqAt.RcNeAt.tuples (s := s) (A := A) (e := fun j => deq (a.getD j .non) (b.getD j .non)) pa pb hu0 fun j h1 h2 => by
          obtain ⟨c, x, ec, eg, rx, lx⟩ := items_at ra vaa (j := j) (by simpa using h1)
          obtain ⟨c', x', ec', eg', rx', lx'⟩ := items_at rb vab (j := j) (by simpa using h2)
          rw [eg, eg']
          simp only [okq, List.all_eq_true] at od oe
          have o1 := od c (List.mem_of_getElem? ec)
          have o2 := oe c' (List.mem_of_getElem? ec')
          exact (deq_at I n c c' A.in1 x x' _ _ o1 o2 (rx.dr (okq_nr o1)) (rx'.dr (okq_nr o2)) (by simpa using lx) (by simpa using lx') hu1).1
      have ee : deq (.tup a) (.tup b) = ((List.range (min itsa.toArray.size itsb.toArray.size)).all (fun j => deq (a.getD j .non) (b.getD j .non)) && itsa.toArray.size == itsb.toArray.size) := by
        rw [List.size_toArray, List.size_toArray, ← l1, ← l2, l3, l4]
        exact deqs_at a b
      rw [ee]
      exact go
    | lst b =>
      obtain ⟨la, xsa, za, qa, ra⟩ := hd
      subst za
      cases (show u = Value.ref la from rv)
      obtain ⟨itsa, vaa, pa, _⟩ := I.tuple qa
      obtain ⟨lb, xsb, zb, qb, rb⟩ := he
      subst zb
      cases (show u' = Value.ref lb from rw')
      obtain ⟨itsb, vab, pb, _⟩ := I.list (.inl (.inl qb))
      exact .tuple_list pa pb.isList hu0
    | _ => simp [okq] at oe
  | lst a =>
    cases e with
    | non =>
      obtain ⟨la, xsa, za, qa, ra⟩ := hd
      subst za
      cases (show u = Value.ref la from rv)
      obtain ⟨itsa, vaa, pa, _⟩ := I.list (.inl (.inl qa))
      cases (show w = .non from he); cases (show u' = Value.none from rw')
      exact .list_none pa.isList hu0
    | bl b =>
      obtain ⟨la, xsa, za, qa, ra⟩ := hd
      subst za
      cases (show u = Value.ref la from rv)
      obtain ⟨itsa, vaa, pa, _⟩ := I.list (.inl (.inl qa))
      cases (show w = .bl b from he); cases (show u' = Value.bool b from rw')
      exact .list_bool b pa.isList hu0
    | int b =>
      obtain ⟨la, xsa, za, qa, ra⟩ := hd
      subst za
      cases (show u = Value.ref la from rv)
      obtain ⟨itsa, vaa, pa, _⟩ := I.list (.inl (.inl qa))
      cases (show w = .int b from he); obtain ⟨tb, eb⟩ := (show ∃ t, u' = Value.int b t from rw'); subst eb
      exact .list_int b tb pa.isList hu0
    | str b =>
      obtain ⟨la, xsa, za, qa, ra⟩ := hd
      subst za
      cases (show u = Value.ref la from rv)
      obtain ⟨itsa, vaa, pa, _⟩ := I.list (.inl (.inl qa))
      cases (show w = .str b from he); obtain ⟨tb, eb⟩ := (show ∃ t, u' = Value.str b t from rw'); subst eb
      exact .list_str b tb pa.isList hu0
    | tup b =>
      obtain ⟨la, xsa, za, qa, ra⟩ := hd
      subst za
      cases (show u = Value.ref la from rv)
      obtain ⟨itsa, vaa, pa, _⟩ := I.list (.inl (.inl qa))
      obtain ⟨lb, xsb, zb, qb, rb⟩ := he
      subst zb
      cases (show u' = Value.ref lb from rw')
      obtain ⟨itsb, vab, pb, _⟩ := I.tuple qb
      exact .list_tuple pa.isList pb hu0
    | lst b =>
      obtain ⟨la, xsa, za, qa, ra⟩ := hd
      subst za
      cases (show u = Value.ref la from rv)
      obtain ⟨itsa, vaa, pa, _⟩ := I.list (.inl (.inl qa))
      obtain ⟨lb, xsb, zb, qb, rb⟩ := he
      subst zb
      cases (show u' = Value.ref lb from rw')
      obtain ⟨itsb, vab, pb, _⟩ := I.list (.inl (.inl qb))
      have l1 := vaa.length
      have l2 := vab.length
      have l3 := ra.length
      have l4 := rb.length
      show SeqAt.RcNeAt A s (.ref la) (.ref lb) (!deqs a b)
      rw [deqs_at]
      by_cases hl : a.length = b.length
      · have go := SeqAt.RcNeAt.lists (s := s) (A := A) (e := fun j => deq (a.getD j .non) (b.getD j .non)) pa.isList pb.isList (by simp only [List.size_toArray]; omega) hu0 fun j h1 h2 => by
          obtain ⟨c, x, ec, eg, rx, lx⟩ := items_at ra vaa (j := j) (by simpa using h1)
          obtain ⟨c', x', ec', eg', rx', lx'⟩ := items_at rb vab (j := j) (by simpa using h2)
          rw [eg, eg']
          simp only [okq, List.all_eq_true] at od oe
          have o1 := od c (List.mem_of_getElem? ec)
          have o2 := oe c' (List.mem_of_getElem? ec')
          exact (deq_at I n c c' A.in1 x x' _ _ o1 o2 (rx.dr (okq_nr o1)) (rx'.dr (okq_nr o2)) (by simpa using lx) (by simpa using lx') hu1).1
        rw [List.size_toArray] at go
        rw [← hl, Nat.min_self, ← l3, l1, beq_self_eq_true, Bool.and_true]
        exact go
      · have e0 : (a.length == b.length) = false := beq_eq_false_iff_ne.mpr hl
        rw [e0, Bool.and_false]
        exact .lists_lengths pa.isList pb.isList (by simp only [List.size_toArray, bne_iff_ne, ne_eq]; omega) hu0
    | _ => simp [okq] at oe
  | _ => simp [okq] at od

end
end Dn

/-! Dn: expressions. -/
namespace Dn
open PySem PySem.Spec L2
open PyProof.Rows hiding St RelV

def isNon : D → Bool
  | .non => true
  | _ => false
section
variable {K : PySem.W.Frag} {H H' : Hp} {μ μ' : Mu} {F F' : Addr → Prop} {st : Store} {d e : D} {v x y : V}
/-! ### new values -/
theorem RS.newT (s : RS K H μ F st) {p : Addr} (n : H p = none) {ds : List D} {xs : List V} (r : RVs K H μ F ds xs) : RV K (upd H p (.tup xs)) μ F (.tup ds) (.ref p) := by
  unfold RV
  exact ⟨p, xs, rfl, .inl ⟨upd_same, s.fresh n⟩, RVs.kp (Fut.new n).kp0 r⟩
theorem RS.newL (s : RS K H μ F st) {p : Addr} (n : H p = none) {ds : List D} {xs : List V} (r : RVs K H μ F ds xs) : RV K (upd H p (.lst xs)) μ F (.lst ds) (.ref p) := by
  unfold RV
  exact ⟨p, xs, rfl, ⟨upd_same, s.fresh n⟩, RVs.kp (Fut.new n).kp0 r⟩
theorem RS.newD (s : RS K H μ F st) {p : Addr} (n : H p = none) {ds : List (D × D)} {xs : List (Key × V)} (r : RVd K H μ F ds xs) : RV K (upd H p (.dK xs)) μ F (.dic ds) (.ref p) := by
  unfold RV
  exact ⟨p, xs, rfl, ⟨.inl upd_same, s.fresh n⟩, RVd.kp (Fut.new n).kp0 r⟩
@[simp] theorem RV_non : RV K H μ F .non .non := by unfold RV; rfl
@[simp] theorem RV_bl (b : Bool) : RV K H μ F (.bl b) (.bl b) := by unfold RV; rfl
@[simp] theorem RV_int (b : Int) : RV K H μ F (.int b) (.int b) := by unfold RV; rfl
@[simp] theorem RV_str (b : Str) : RV K H μ F (.str b) (.str b) := by unfold RV; rfl
theorem RV_glob (x : String) : RV K H μ F (.glob x) (.ref (He.ga K x)) := by unfold RV; rfl
theorem DR.non_iff (h : DR K H μ F d v) : decide (v = .non) = isNon d := by
  cases d with
  | non => have h1 : v = .non := h; simp [h1, isNon]
  | bl b => have h1 : v = .bl b := h; simp [h1, isNon]
  | int b => have h1 : v = .int b := h; simp [h1, isNon]
  | str b => have h1 : v = .str b := h; simp [h1, isNon]
  | tup ds => obtain ⟨a, xs, e, _⟩ := h; simp [e, isNon]
  | lst ds => obtain ⟨a, xs, e, _⟩ := h; simp [e, isNon]
  | dic ds => obtain ⟨a, xs, e, _⟩ := h; simp [e, isNon]
  | obj C fs => obtain ⟨a, dx, xs, e, _⟩ := h; simp [e, isNon]
  | ref n => obtain ⟨a, e⟩ := h; simp [e, isNon]
  | glob x => have h1 : v = .ref (He.ga K x) := h; simp [h1, isNon]
  | scr ns => obtain ⟨a, e, _⟩ := h; simp [e, isNon]
/-- sequences read -/
theorem DR.seq {ds : List D} (h : DR K H μ F (.lst ds) v ∨ DR K H μ F (.tup ds) v) : ∃ a xs, v = .ref a ∧ (SqL K H a xs ∨ SqT K H a xs) ∧ RVs K H μ F ds xs := by
  rcases h with ⟨a, xs, e, q, r⟩ | ⟨a, xs, e, q, r⟩
  · exact ⟨a, xs, e, .inl (.inl (.inl q)), r⟩
  · exact ⟨a, xs, e, .inr q, r⟩
end

/-! ### names, constants -/
def eLoc (i : Nat) : E := fun ρ s => match ρ[i]? with
  | some (.pu d) => .ok d s
  | _ => .bad
def eRd (i : Nat) : E := fun ρ s => match ρ[i]? with
  | some (.pu d) => .ok d s
  | some (.ow _ d) => .ok d s
  | _ => .bad
def eC (d : D) : E := fun _ s => .ok d s
section
variable {X : Cx} {W : WX} {a b c : Expr} {ma mb mc : E} {pos : Pos} {i : Nat} {x : Str}
theorem se_loc (i : Nat) {x : Str} {pos : Pos} (hN : X.N[i]? = some x := by rfl) (hv : Vis X.env.scope x := by first | exact Or.inl rfl | exact Or.inr (Or.inl rfl) | exact Or.inr (Or.inr rfl)) (hd : (x == ("__debug__" : Str)) = false := by decide)
    (hcd : (x == ("__classdict__" : Str)) = false := by decide) : SE X W (.Name x pos) (eLoc i) := PE.of (pe_var hN hv hd hcd) fun σ H Q ⟨ρ, μ, F, G, st, a, q⟩ => by
  unfold eLoc at q
  split at q
  · rename_i d e
    obtain ⟨o, e1, v, e2, rv⟩ := a.l.at_ i _ e
    subst e2
    exact ⟨v, e1, q v H μ .refl a.s rv⟩
  · exact q.elim
theorem sr_rd (i : Nat) {x : Str} {pos : Pos} (hN : X.N[i]? = some x := by rfl) (hv : Vis X.env.scope x := by first | exact Or.inl rfl | exact Or.inr (Or.inl rfl) | exact Or.inr (Or.inr rfl)) (hd : (x == ("__debug__" : Str)) = false := by decide)
    (hcd : (x == ("__classdict__" : Str)) = false := by decide) : SR X W (.Name x pos) (eRd i) := PE.of (pe_var hN hv hd hcd) fun σ H Q ⟨ρ, μ, F, G, st, a, q⟩ => by
  unfold eRd at q
  split at q
  · rename_i d e
    obtain ⟨o, e1, v, e2, rv⟩ := a.l.at_ i _ e
    subst e2
    exact ⟨v, e1, q v H μ .refl a.s (.inl rv)⟩
  · rename_i _ d e
    obtain ⟨o, e1, b, e2, h0, h1, h2⟩ := a.l.at_ i _ e
    subst e2
    exact ⟨.ref b, e1, q _ H μ .refl a.s (.inr ⟨b, rfl, h1, h2⟩)⟩
  · exact q.elim
theorem se_int {n : Int} {j pos} : SE X W (.Constant (.int n) j pos) (eC (.int n)) := PE.of pe_int fun σ H Q ⟨ρ, μ, F, G, st, a, q⟩ => q _ H μ .refl a.s (RV_int n)
theorem se_bl {n : Bool} {j pos} : SE X W (.Constant (.bool n) j pos) (eC (.bl n)) := PE.of pe_bl fun σ H Q ⟨ρ, μ, F, G, st, a, q⟩ => q _ H μ .refl a.s (RV_bl n)
theorem se_non {j pos} : SE X W (.Constant .none j pos) (eC .non) := PE.of pe_non fun σ H Q ⟨ρ, μ, F, G, st, a, q⟩ => q _ H μ .refl a.s RV_non
theorem se_str {n : Str} {j pos} : SE X W (.Constant (.str n) j pos) (eC (.str n)) := PE.of pe_str fun σ H Q ⟨ρ, μ, F, G, st, a, q⟩ => q _ H μ .refl a.s (RV_str n)
/-- a module's name that stands for d -/
def Gv (K : PySem.W.Frag) (mg : Str → Option Value) (x : Str) (d : D) : Prop := ∃ u v, mg x = some u ∧ RelV v u ∧ ∀ H μ F, RV K H μ F d v
theorem se_glob {d : D} (hg : Gl X x) (h : Gv X.K X.mg x d) (hd : (x == ("__debug__" : Str)) = false := by decide) : SE X W (.Name x pos) (eC d) := by
  obtain ⟨u, v, hm, r, hv⟩ := h
  exact PE.of (pe_glob hg hm r hd) fun σ H Q ⟨ρ, μ, F, G, st, a, q⟩ => q _ H μ .refl a.s (hv H μ F)

/-! ### operators on values -/
def line : Nat := 16777216
def binop : Operator → D → D → Option D
  | .Add, .int i, .int j => some (.int (i + j))
  | .Add, .str i, .str j => if i.length + j.length ≤ line then some (.str (i ++ j)) else none
  | .Add, .lst ds, .lst es => if ds.length + es.length ≤ line then some (.lst (ds ++ es)) else none
  | .Add, .tup ds, .tup es => if ds.length + es.length ≤ line then some (.tup (ds ++ es)) else none
  | .Sub, .int i, .int j => some (.int (i - j))
  | .Mult, .int i, .int j => if i.natAbs.log2 + j.natAbs.log2 < 1000000 then some (.int (i * j)) else none
  | .Mult, .lst ds, .int k => if -(2 ^ 63) ≤ k ∧ k < 2 ^ 63 ∧ ds.length * k.toNat ≤ line then some (.lst (List.replicate k.toNat ds).flatten) else none
  | .FloorDiv, .int i, .int j => if 0 < j ∧ j.natAbs.log2 < 9000 then some (.int (i / j)) else none
  | .Mod, .int i, .int j => if 0 < j then some (.int (i % j)) else none
  | .Pow, .int i, .int j => if 0 ≤ j ∧ j ≤ 1000000 ∧ i.natAbs < 2 ^ 64 then some (.int (i ^ j.toNat)) else none
  | .LShift, .int i, .int j => if 0 ≤ j ∧ j ≤ 1000000 ∧ i.natAbs < 2 ^ 64 then some (.int (i * 2 ^ j.toNat)) else none
  | .BitAnd, .int i, .int j => some (.int (Builtin.bitAnd i j))
  | _, _, _ => none
/-- f answers by g -/
def V2 (X : Cx) (f : Value → Value → Sem Value) (g : D → D → Option D) : Prop := OpR X f fun x y H Q =>
  ∃ μ F st d e r, RS X.K H μ F st ∧ RD X.K H μ F d x ∧ RD X.K H μ F e y ∧ g (der st d) (der st e) = some r ∧ ∀ v H' μ', Fut H μ H' μ' → RS X.K H' μ' F st → RV X.K H' μ' F r v → Q v H'
theorem OkG.some {α β : Type} {P : Hp → Mu → α → β → Prop} {K : PySem.W.Frag} {F : Addr → Prop} {σ : St} {H : Hp} {μ : Mu} {o : Option α} {s : Store} {Q : β → Hp → Prop} (h : OkG P K W F σ H μ (Res.of o s) Q) :
    ∃ r, o = some r ∧ ∀ v H' μ', Fut H μ H' μ' → RS K H' μ' F s → P H' μ' r v → Q v H' := by
  cases o with
  | none => exact h.elim
  | some r => exact ⟨r, rfl, h⟩
theorem flat_rep {K : PySem.W.Frag} {H : Hp} {μ : Mu} {F : Addr → Prop} {ds : List D} {xs : List V} (r : RVs K H μ F ds xs) : ∀ n, RVs K H μ F (List.replicate n ds).flatten (List.replicate n xs).flatten
  | 0 => RVs.nil
  | n + 1 => by
    rw [List.replicate_succ, List.replicate_succ, List.flatten_cons, List.flatten_cons]
    exact r.append (flat_rep r n)
theorem RD.tup {K : PySem.W.Frag} {H : Hp} {μ : Mu} {F : Addr → Prop} {st : Store} {d : D} {ds : List D} {v : V} (s : RS K H μ F st) (h : RD K H μ F d v) (e : der st d = .tup ds) : RV K H μ F (.tup ds) v := by
  cases d with
  | ref n =>
    rcases h with h | ⟨a, _, _, h⟩
    · unfold RV at h
      obtain ⟨a, _, q⟩ := h
      have hn : n < st.length := by rw [← s.len]; exact (List.getElem?_eq_some_iff.mp q).1
      obtain ⟨b, q2, c⟩ := s.at_ n st[n] (List.getElem?_eq_getElem hn)
      have e2 : hid n ((st[n]?).getD (.ref n)) = .tup ds := e
      rw [List.getElem?_eq_getElem hn] at e2
      have e3 : hid n st[n] = .tup ds := e2
      rcases c with c | ⟨c, _⟩
      · generalize st[n] = z at c e3
        cases z <;> first | exact c.elim | cases e3
      · rw [c] at e3
        cases e3
    · exact h.elim
  | tup es =>
    have e2 : D.tup es = .tup ds := e
    rw [← e2]
    rcases h with h | ⟨a, _, _, h⟩
    · exact h
    · exact h.elim
  | _ => cases e
theorem line_eq : sizeLine = line := sizeLine_eq
theorem binop_ok (op : Operator) : V2 X (binaryOp op) (binop op) := by
  intro pins s σ H x y v u Q I rx ry h
  obtain ⟨μ, F, st, d, e, r, rs, hd, he, hg, q⟩ := h
  have hd0 := hd
  have he0 := he
  replace hd := hd.dr rs
  replace he := he.dr rs
  generalize e1 : der st d = d' at hg hd
  generalize e2 : der st e = e' at hg he
  unfold binop at hg
  split at hg
  · cases hg; exact op_add pins s σ H x y v u Q I rx ry ⟨_, _, hd, he, q _ H μ .refl rs (RV_int _)⟩
  · split at hg
    · rename_i hl
      cases hg
      exact op_add_str pins s σ H x y v u Q I rx ry ⟨_, _, hd, he, (by rw [line_eq]; exact hl), q _ H μ .refl rs (RV_str _)⟩
    · cases hg
  · split at hg
    · rename_i hl
      cases hg
      obtain ⟨a, xs, e1, q1, r1⟩ := hd
      obtain ⟨b, ys, e2, q2, r2⟩ := he
      exact op_cat pins s σ H x y v u Q I rx ry ⟨a, b, xs, ys, e1, e2, q1, q2, (by rw [line_eq, r1.length, r2.length]; exact hl), fun p hp => q _ _ μ (.new hp) (rs.new hp) (rs.newL hp (r1.append r2))⟩
    · cases hg
  · split at hg
    · rename_i hl
      cases hg
      rename_i ds es
      obtain ⟨a, xs, e1, q1, r1⟩ := hd
      obtain ⟨b, ys, e2, q2, r2⟩ := he
      have hd1 := hd0.tup rs ‹_›
      have he1 := he0.tup rs ‹_›
      refine op_catA pins s σ H x y v u Q I rx ry ⟨a, b, xs, ys, e1, e2, q1, q2, (by rw [line_eq, r1.length, r2.length]; exact hl), fun z => ?_, fun _ z => ?_, fun _ _ p hp => q _ _ μ (.new hp) (rs.new hp) (rs.newT hp (r1.append r2))⟩
      · have l := r1.length
        rw [z, List.length_nil] at l
        rw [List.eq_nil_of_length_eq_zero l.symm, List.nil_append] at q
        rw [e2] at he1
        exact q _ H μ .refl rs he1
      · have l := r2.length
        rw [z, List.length_nil] at l
        rw [List.eq_nil_of_length_eq_zero l.symm, List.append_nil] at q
        rw [e1] at hd1
        exact q _ H μ .refl rs hd1
    · cases hg
  · cases hg; exact op_sub pins s σ H x y v u Q I rx ry ⟨_, _, hd, he, q _ H μ .refl rs (RV_int _)⟩
  · split at hg
    · rename_i hl; cases hg; exact op_mulW pins s σ H x y v u Q I rx ry ⟨_, _, hd, he, hl, q _ H μ .refl rs (RV_int _)⟩
    · cases hg
  · split at hg
    · rename_i hl
      cases hg
      obtain ⟨a, xs, e1, q1, r1⟩ := hd
      exact op_rep pins s σ H x y v u Q I rx ry ⟨a, _, xs, e1, he, q1, hl.1, hl.2.1, (by rw [line_eq, r1.length]; exact hl.2.2), fun p hp => q _ _ μ (.new hp) (rs.new hp) (rs.newL hp (flat_rep r1 _))⟩
    · cases hg
  · split at hg
    · rename_i hl; cases hg; exact op_fdivW pins s σ H x y v u Q I rx ry ⟨_, _, hd, he, hl, q _ H μ .refl rs (RV_int _)⟩
    · cases hg
  · split at hg
    · rename_i hl; cases hg; exact op_mod pins s σ H x y v u Q I rx ry ⟨_, _, hd, he, hl, q _ H μ .refl rs (RV_int _)⟩
    · cases hg
  · split at hg
    · rename_i hl; cases hg; exact op_pow pins s σ H x y v u Q I rx ry ⟨_, _, hd, he, hl, q _ H μ .refl rs (RV_int _)⟩
    · cases hg
  · split at hg
    · rename_i hl; cases hg; exact op_shl pins s σ H x y v u Q I rx ry ⟨_, _, hd, he, hl, q _ H μ .refl rs (RV_int _)⟩
    · cases hg
  · cases hg; exact op_and pins s σ H x y v u Q I rx ry ⟨_, _, hd, he, q _ H μ .refl rs (RV_int _)⟩
  · cases hg

/-! ### comparisons -/
def strIn (i j : Str) : Option Bool := if i.length = 1 then some (j.cps.toList.contains (i.cps.getD 0 0)) else none
def cmpop : CmpOp → D → D → Option D
  | .Eq, d, e => if okq 60 d && okq 60 e then some (.bl (deq d e)) else none
  | .NotEq, d, e => if okq 60 d && okq 60 e then some (.bl (!deq d e)) else none
  | .Lt, .int i, .int j => some (.bl (decide (i < j)))
  | .LtE, .int i, .int j => some (.bl (decide (i ≤ j)))
  | .Gt, .int i, .int j => some (.bl (decide (j < i)))
  | .GtE, .int i, .int j => some (.bl (decide (j ≤ i)))
  | .Is, d, .non => some (.bl (isNon d))
  | .IsNot, d, .non => some (.bl (!isNon d))
  | .Is, .bl a, .bl b => some (.bl (decide (a = b)))
  | .Is, .non, .bl _ => some (.bl false)
  | .IsNot, .bl a, .bl b => some (.bl (!decide (a = b)))
  | .In, x, .lst ds => if okq 60 x && ds.all (okq 60) then some (.bl (ds.any fun y => deq y x)) else none
  | .In, x, .tup ds => if okq 60 x && ds.all (okq 60) then some (.bl (ds.any fun y => deq y x)) else none
  | .NotIn, x, .lst ds => if okq 60 x && ds.all (okq 60) then some (.bl (!ds.any fun y => deq y x)) else none
  | .NotIn, x, .tup ds => if okq 60 x && ds.all (okq 60) then some (.bl (!ds.any fun y => deq y x)) else none
  | .In, .str i, .str j => (strIn i j).map fun b => .bl b
  | .NotIn, .str i, .str j => (strIn i j).map fun b => .bl (!b)
  | _, _, _ => none
open Classical in
noncomputable def eqf (X : Cx) (H : Hp) (μ : Mu) (F : Addr → Prop) (x : D) (w : Value) : Bool := if ∃ d v, RV X.K H μ F d v ∧ okq 60 d = true ∧ RelV v w ∧ deq d x = true then true else false
theorem eqf_at {pins : List (Addr × Obj)} {σ : St} {H : Hp} {s : Shared} {μ : Mu} {F : Addr → Prop} (I : Inv X pins σ H s) {x d : D} {v : V} {w : Value} (rv : RV X.K H μ F d v) (ok : okq 60 d = true) (r : RelV v w) : eqf X H μ F x w = deq d x := by
  unfold eqf
  by_cases h : deq d x = true
  · rw [if_pos ⟨d, v, rv, ok, r, h⟩, h]
  · rw [if_neg, Bool.eq_false_iff.mpr h]
    rintro ⟨d', v', rv', ok', r', h'⟩
    have e : v' = v := r'.inj r
    subst e
    exact h (by rw [deq_same I d d' 60 60 v' ok ok' (rv.dr (okq_nr ok)) (rv'.dr (okq_nr ok'))]; exact h')
theorem any_deq {pins : List (Addr × Obj)} {σ : St} {H : Hp} {s : Shared} {μ : Mu} {F : Addr → Prop} (I : Inv X pins σ H s) {x : D} : ∀ {ds : List D} {xs : List V} {its : List Value}, ds.all (okq 60) = true → RVs X.K H μ F ds xs → Vals xs its →
    its.any (eqf X H μ F x) = ds.any fun y => deq y x
  | [], xs, its, _, r, q => by
    unfold RVs at r
    subst r
    cases q
    rfl
  | d :: ds, xs, its, ok, r, q => by
    unfold RVs at r
    obtain ⟨y, ys, e, h1, h2⟩ := r
    subst e
    rw [List.all_cons, Bool.and_eq_true] at ok
    cases q with
    | cons q1 q2 => rw [List.any_cons, List.any_cons, eqf_at I h1 ok.1 q1, any_deq I ok.2 h2 q2]
theorem mem_deq {pins : List (Addr × Obj)} {σ : St} {H : Hp} {s : Shared} {μ : Mu} {F : Addr → Prop} (I : Inv X pins σ H s) (hu : X.A.units + 64 < cLine) {x : D} {vx : V} {ux : Value} (ox : okq 60 x = true) (hx : DR X.K H μ F x vx) (rx : RelV vx ux) :
    ∀ {ds : List D} {xs : List V} {its : List Value}, ds.all (okq 60) = true → RVs X.K H μ F ds xs → Vals xs its → ∀ w ∈ its, SeqAt.EqAt X.A.in1 s w ux (eqf X H μ F x w)
  | [], xs, its, _, r, q, w, hw => by
    unfold RVs at r
    subst r
    cases q
    cases hw
  | d :: ds, xs, its, ok, r, q, w, hw => by
    unfold RVs at r
    obtain ⟨y, ys, e, h1, h2⟩ := r
    subst e
    rw [List.all_cons, Bool.and_eq_true] at ok
    cases q with
    | cons q1 q2 =>
      rcases List.mem_cons.mp hw with rfl | hw
      · rw [eqf_at I h1 ok.1 q1]
        exact (deq_at I 60 d x X.A.in1 y vx _ ux ok.1 ox (h1.dr (okq_nr ok.1)) hx q1 rx (by show X.A.units + 1 + 60 + 1 < cLine; omega)).1
      · exact mem_deq I hu ox hx rx ok.2 h2 q2 w hw
theorem in_ok {pins : List (Addr × Obj)} {σ : St} {H : Hp} {s : Shared} {μ : Mu} {F : Addr → Prop} {Q : Value → Shared → Prop} {E : Value → Shared → Prop} (I : Inv X pins σ H s) (hu : X.A.units + 64 < cLine) {x e : D} {ds : List D} {vx vy : V} {ux uy : Value} (he : e = .lst ds ∨ e = .tup ds)
    (ox : okq 60 x = true) (hx : DR X.K H μ F x vx) (rx : RelV vx ux) (od : ds.all (okq 60) = true) (hy : DR X.K H μ F e vy) (ry : RelV vy uy) :
    (Q (.bool (ds.any fun y => deq y x)) s → wpAny (model X.prog X.w) X.A (compareOp .In ux uy) Q E s) ∧ (Q (.bool (!ds.any fun y => deq y x)) s → wpAny (model X.prog X.w) X.A (compareOp .NotIn ux uy) Q E s) := by
  rcases he with rfl | rfl
  · obtain ⟨a, xs, e1, q1, r1⟩ := hy
    subst e1
    cases (show uy = Value.ref a from ry)
    obtain ⟨its, va, p1, _⟩ := I.list (.inl (.inl q1))
    have ha : its.toArray.any (eqf X H μ F x) = ds.any fun y => deq y x := by
      rw [show its.toArray.any (eqf X H μ F x) = its.any (eqf X H μ F x) by simp, any_deq I od r1 va]
    exact ⟨fun q => SeqAt.in_listAt (eqf X H μ F x) p1.isList (fun w hw => mem_deq I hu ox hx rx od r1 va w (by simpa using hw)) (by rw [ha]; exact q),
      fun q => SeqAt.notIn_listAt (eqf X H μ F x) p1.isList (fun w hw => mem_deq I hu ox hx rx od r1 va w (by simpa using hw)) (by rw [ha]; exact q)⟩
  · obtain ⟨a, xs, e1, q1, r1⟩ := hy
    subst e1
    cases (show uy = Value.ref a from ry)
    obtain ⟨its, va, p1, _⟩ := I.tuple q1
    have ha : its.toArray.any (eqf X H μ F x) = ds.any fun y => deq y x := by
      rw [show its.toArray.any (eqf X H μ F x) = its.any (eqf X H μ F x) by simp, any_deq I od r1 va]
    exact ⟨fun q => SeqAt.in_tupleAt (eqf X H μ F x) p1 (fun w hw => mem_deq I hu ox hx rx od r1 va w (by simpa using hw)) (by rw [ha]; exact q),
      fun q => SeqAt.notIn_tupleAt (eqf X H μ F x) p1 (fun w hw => mem_deq I hu ox hx rx od r1 va w (by simpa using hw)) (by rw [ha]; exact q)⟩
theorem str_one {i : Str} (h : i.length = 1) : i = ⟨#[i.cps.getD 0 0]⟩ := by
  obtain ⟨a⟩ := i
  have h1 : a.size = 1 := h
  congr 1
  apply Array.ext
  · simp [h1, isNon]
  · intro k hk _
    have : k = 0 := by omega
    subst this
    simp [Array.getD, h1]
theorem cmpop_ok (hu : X.A.units + 64 < cLine) (op : CmpOp) : V2 X (compareOp op) (cmpop op) := by
  intro pins s σ H x y v u Q I rx ry h
  obtain ⟨μ, F, st, d, e, r, rs, hd, he, hg, q⟩ := h
  replace hd := hd.dr rs
  replace he := he.dr rs
  generalize der st d = d at hg hd
  generalize der st e = e at hg he
  have fin : ∀ {b : Bool}, r = .bl b → EP X pins σ Q (.bool b) s := fun {b} z => ⟨.bl b, H, I, rfl, by subst z; exact q _ H μ .refl rs (RV_bl b)⟩
  unfold cmpop at hg
  split at hg
  · split at hg
    · rename_i hc
      rw [Bool.and_eq_true] at hc
      cases hg
      exact (deq_at I 60 d e X.A x y v u hc.1 hc.2 hd he rx ry (by omega)).2 _ _ _ _ (fin rfl)
    · cases hg
  · split at hg
    · rename_i hc
      rw [Bool.and_eq_true] at hc
      cases hg
      exact dne_at I 59 d e X.A x y v u hc.1 hc.2 hd he rx ry (by omega) _ _ _ _ (fin rfl)
    · cases hg
  · cases hg; exact op_lt pins s σ H x y v u Q I rx ry ⟨_, _, hd, he, q _ H μ .refl rs (RV_bl _)⟩
  · cases hg; exact op_le pins s σ H x y v u Q I rx ry ⟨_, _, hd, he, q _ H μ .refl rs (RV_bl _)⟩
  · cases hg; exact op_gt pins s σ H x y v u Q I rx ry ⟨_, _, hd, he, q _ H μ .refl rs (RV_bl _)⟩
  · cases hg; exact op_ge pins s σ H x y v u Q I rx ry ⟨_, _, hd, he, q _ H μ .refl rs (RV_bl _)⟩
  · cases hg
    have z := hd.non_iff
    refine op_isN pins s σ H x y v u Q I rx ry ⟨he, ?_⟩
    rw [z]
    exact q _ H μ .refl rs (RV_bl _)
  · cases hg
    have z := hd.non_iff
    refine op_notN pins s σ H x y v u Q I rx ry ⟨he, ?_⟩
    rw [z]
    exact q _ H μ .refl rs (RV_bl _)
  · cases hg; exact op_isBl pins s σ H x y v u Q I rx ry ⟨_, _, hd, he, q _ H μ .refl rs (RV_bl _)⟩
  · cases hg
    cases (show x = .non from hd)
    cases (show y = .bl _ from he)
    cases (show v = Value.none from rx)
    cases (show u = Value.bool _ from ry)
    exact wpAny_is_other rfl (fun z => by cases z) (fin rfl)
  · cases hg; exact op_notBl pins s σ H x y v u Q I rx ry ⟨_, _, hd, he, q _ H μ .refl rs (RV_bl _)⟩
  · split at hg
    · rename_i hc
      rw [Bool.and_eq_true] at hc
      cases hg
      exact (in_ok I hu (.inl rfl) hc.1 hd rx hc.2 he ry).1 (fin rfl)
    · cases hg
  · split at hg
    · rename_i hc
      rw [Bool.and_eq_true] at hc
      cases hg
      exact (in_ok I hu (.inr rfl) hc.1 hd rx hc.2 he ry).1 (fin rfl)
    · cases hg
  · split at hg
    · rename_i hc
      rw [Bool.and_eq_true] at hc
      cases hg
      exact (in_ok I hu (.inl rfl) hc.1 hd rx hc.2 he ry).2 (fin rfl)
    · cases hg
  · split at hg
    · rename_i hc
      rw [Bool.and_eq_true] at hc
      cases hg
      exact (in_ok I hu (.inr rfl) hc.1 hd rx hc.2 he ry).2 (fin rfl)
    · cases hg
  · rename_i i j
    unfold strIn at hg
    split at hg
    · rename_i hl
      cases hg
      have hd' : x = .str ⟨#[i.cps.getD 0 0]⟩ := by rw [← str_one hl]; exact hd
      refine op_in_sign pins s σ H x y v u Q I rx ry ⟨_, _, hd', he, ?_⟩
      have e : decide (i.cps.getD 0 0 ∈ j.cps.toList) = j.cps.toList.contains (i.cps.getD 0 0) := by rw [List.contains_eq_mem]
      rw [e]
      exact q _ H μ .refl rs (RV_bl _)
    · cases hg
  · rename_i i j
    unfold strIn at hg
    split at hg
    · rename_i hl
      cases hg
      have hd' : x = .str ⟨#[i.cps.getD 0 0]⟩ := by rw [← str_one hl]; exact hd
      refine op_notIn_sign pins s σ H x y v u Q I rx ry ⟨_, _, hd', he, ?_⟩
      have e : decide (i.cps.getD 0 0 ∈ j.cps.toList) = j.cps.toList.contains (i.cps.getD 0 0) := by rw [List.contains_eq_mem]
      rw [e]
      exact q _ H μ .refl rs (RV_bl _)
    · cases hg
  · cases hg
end
end Dn

/-! Dn: more expressions: operators in place, tests, displays, items, slices. -/
namespace Dn
open PySem PySem.Spec L2
open PyProof.Rows hiding St RelV

/-! ### dicts of plain keys -/
def dkey : D → Option Key
  | .int i => some (.inl i)
  | .str x => some (.inr x)
  | _ => none
def dgetK (q : Key) : List (D × D) → Option D
  | [] => none
  | (k, d) :: r => if dkey k = some q then some d else dgetK q r
def dhasK (q : Key) (kvs : List (D × D)) : Bool := kvs.any fun kv => decide (dkey kv.1 = some q)
def dputK (k : D) (q : Key) (v : D) (kvs : List (D × D)) : List (D × D) := if dhasK q kvs = true then kvs.map (fun kv => if dkey kv.1 = some q then (kv.1, v) else kv) else kvs ++ [(k, v)]
def dget (kvs : List (D × D)) (k : D) : Option (Option D) := (dkey k).map fun q => dgetK q kvs
section
variable {K : PySem.W.Frag} {H H' : Hp} {μ μ' : Mu} {F F' : Addr → Prop} {st : Store} {d e k : D} {v x y : V} {q : Key}
theorem RV_key (h : RV K H μ F k (kV q)) : dkey k = some q := by
  cases k <;> unfold RV at h
  case non => cases q <;> cases h
  case bl b => cases q <;> cases h
  case int i => cases q <;> cases h; rfl
  case str i => cases q <;> cases h; rfl
  case tup ds => obtain ⟨a, xs, e, _⟩ := h; cases q <;> cases e
  case lst ds => obtain ⟨a, xs, e, _⟩ := h; cases q <;> cases e
  case dic ds => obtain ⟨a, xs, e, _⟩ := h; cases q <;> cases e
  case obj C fs => obtain ⟨a, dx, xs, e, _⟩ := h; cases q <;> cases e
  case ref n => obtain ⟨a, e, _⟩ := h; cases q <;> cases e
  case glob x => cases q <;> cases h
  case scr ns => obtain ⟨a, e, _⟩ := h; cases q <;> cases e
theorem DR_key (h : DR K H μ F k v) (hq : dkey k = some q) : v = kV q := by
  cases k with
  | int i => cases hq; exact h
  | str i => cases hq; exact h
  | _ => cases hq
theorem RVd.get : ∀ {kvs : List (D × D)} {xs : List (Key × V)}, RVd K H μ F kvs xs → (∀ d, dgetK q kvs = some d → ∃ v, valV xs q = some v ∧ RV K H μ F d v) ∧ (dgetK q kvs = none → valV xs q = none)
  | [], xs, h => by
    unfold RVd at h
    subst h
    exact ⟨fun d e => (by cases e), fun _ => rfl⟩
  | (k, c) :: r, xs, h => by
    unfold RVd at h
    obtain ⟨q', y, ys, e, h1, h2, h3⟩ := h
    subst e
    have hk := RV_key h1
    obtain ⟨i1, i2⟩ := RVd.get h3
    by_cases z : q' = q
    · subst z
      refine ⟨fun d e => ?_, fun e => ?_⟩
      · unfold dgetK at e
        rw [if_pos hk] at e
        cases e
        exact ⟨y, valV_pos rfl, h2⟩
      · unfold dgetK at e
        rw [if_pos hk] at e
        cases e
    · have z2 : ¬ dkey k = some q := by rw [hk]; exact fun w => z (Option.some.inj w)
      refine ⟨fun d e => ?_, fun e => ?_⟩
      · unfold dgetK at e
        rw [if_neg z2] at e
        obtain ⟨w, e1, e2⟩ := i1 d e
        exact ⟨w, (valV_neg z).trans e1, e2⟩
      · unfold dgetK at e
        rw [if_neg z2] at e
        exact (valV_neg z).trans (i2 e)
theorem RVd.length : ∀ {kvs : List (D × D)} {xs : List (Key × V)}, RVd K H μ F kvs xs → xs.length = kvs.length
  | [], xs, h => by
    unfold RVd at h
    subst h
    rfl
  | (k, c) :: r, xs, h => by
    unfold RVd at h
    obtain ⟨q', y, ys, e, h1, h2, h3⟩ := h
    subst e
    rw [List.length_cons, List.length_cons, RVd.length h3]
theorem RVd.nil : RVd K H μ F [] [] := by unfold RVd; rfl
theorem RVd.cons {kvs : List (D × D)} {xs : List (Key × V)} (hk : RV K H μ F k (kV q)) (hv : RV K H μ F d v) (r : RVd K H μ F kvs xs) : RVd K H μ F ((k, d) :: kvs) ((q, v) :: xs) := by
  unfold RVd; exact ⟨q, v, xs, rfl, hk, hv, r⟩
theorem RVd.dget {kvs : List (D × D)} {xs : List (Key × V)} (r : RVd K H μ F kvs xs) {a : Addr} (hr : Rd H a (.dK xs)) (hk : DR K H μ F k y) {o : Option D} (ho : Dn.dget kvs k = some o) :
    ∃ ov : Option V, DGet H a y ov ∧ (∀ d, o = some d → ∃ v, ov = some v ∧ RV K H μ F d v) ∧ (o = none → ov = none) := by
  unfold Dn.dget at ho
  cases hq : dkey k with
  | none => rw [hq] at ho; cases ho
  | some q =>
    rw [hq] at ho
    have ho2 : dgetK q kvs = o := Option.some.inj ho
    subst ho2
    obtain ⟨i1, i2⟩ := RVd.get (q := q) r
    have hy := DR_key hk hq
    subst hy
    exact ⟨valV xs q, .inl ⟨xs, q, hr, rfl, rfl⟩, i1, i2⟩
end

section
variable {X : Cx} {W : WX} {a b c : Expr} {ma mb mc : E} {pos : Pos} {i : Nat} {x : Str}
/-! ### in for dicts -/
def cmpD : CmpOp → D → D → Option D
  | .In, x, .dic kvs => (dget kvs x).map fun o => .bl o.isSome
  | .NotIn, x, .dic kvs => (dget kvs x).map fun o => .bl (!o.isSome)
  | op, d, e => cmpop op d e
theorem cmpD_ok (hu : X.A.units + 64 < cLine) (op : CmpOp) : V2 X (compareOp op) (cmpD op) := by
  intro pins s σ H x y v u Q I rx ry h
  obtain ⟨μ, F, st, d, e, r, rs, hd, he, hg, q⟩ := h
  have hd0 := hd.dr rs
  have he0 := he.dr rs
  unfold cmpD at hg
  split at hg
  · rename_i kvs h2
    rw [h2] at he0
    obtain ⟨a, xs, e1, q1, r1⟩ := he0
    subst e1
    obtain ⟨o, ho, hr⟩ := Option.map_eq_some_iff.mp hg
    obtain ⟨ov, g, g1, g2⟩ := r1.dget q1 hd0 ho
    cases (show u = Value.ref a from ry)
    refine d_in (X := X) (by omega) I g rx fun s' I' => ⟨.bl ov.isSome, H, I', rfl, ?_⟩
    have hb : ov.isSome = o.isSome := by
      cases o with
      | none => rw [g2 rfl]; rfl
      | some d => obtain ⟨w, e2, _⟩ := g1 d rfl; rw [e2]; rfl
    rw [hb]
    subst hr
    exact q _ H μ .refl rs (RV_bl _)
  · rename_i kvs h2
    rw [h2] at he0
    obtain ⟨a, xs, e1, q1, r1⟩ := he0
    subst e1
    obtain ⟨o, ho, hr⟩ := Option.map_eq_some_iff.mp hg
    obtain ⟨ov, g, g1, g2⟩ := r1.dget q1 hd0 ho
    cases (show u = Value.ref a from ry)
    refine d_notIn (X := X) (by omega) I g rx fun s' I' => ⟨.bl (!ov.isSome), H, I', rfl, ?_⟩
    have hb : ov.isSome = o.isSome := by
      cases o with
      | none => rw [g2 rfl]; rfl
      | some d => obtain ⟨w, e2, _⟩ := g1 d rfl; rw [e2]; rfl
    rw [hb]
    subst hr
    exact q _ H μ .refl rs (RV_bl _)
  · exact cmpop_ok hu _ pins s σ H x y v u Q I rx ry ⟨μ, F, st, d, e, r, rs, hd, he, hg, q⟩

/-! ### a op b -/
def eBin (op : Operator) (a b : E) : E := fun ρ s => (a ρ s).bind fun x s => (b ρ s).bind fun y s => Res.of (binop op (der s x) (der s y)) s
def eCmp (op : CmpOp) (a b : E) : E := fun ρ s => (a ρ s).bind fun x s => (b ρ s).bind fun y s => Res.of (cmpD op (der s x) (der s y)) s
theorem two_at {g : D → D → Option D} {σ : St} {H : Hp} {Q : VK} (h : tG (fun F H μ d v => RV X.K H μ F d v) X.pn X.K W (fun ρ s => (ma ρ s).bind fun x s => (mb ρ s).bind fun y s => Res.of (g (der s x) (der s y)) s) σ H Q) :
    tG (fun F H μ d v => RD X.K H μ F d v) X.pn X.K W ma σ H fun x H1 => tG (fun F H μ d v => RD X.K H μ F d v) X.pn X.K W mb σ H1 fun y H2 =>
      ∃ μ F st d e r, RS X.K H2 μ F st ∧ RD X.K H2 μ F d x ∧ RD X.K H2 μ F e y ∧ g (der st d) (der st e) = some r ∧ ∀ v H' μ', Fut H2 μ H' μ' → RS X.K H' μ' F st → RV X.K H' μ' F r v → Q v H' := by
  obtain ⟨ρ, μ, F, G, st, a, h⟩ := h
  refine tG_at (k := fun x s => (mb ρ s).bind fun y s => Res.of (g (der s x) (der s y)) s) a h fun x H1 μ1 st1 d a1 f1 r1 h1 => ?_
  refine tG_at (k := fun y s => Res.of (g (der s d) (der s y)) s) a1 h1 fun y H2 μ2 st2 e a2 f2 r2 h2 => ?_
  obtain ⟨r, hr, hq⟩ := OkG.some h2
  exact ⟨μ2, F, st2, d, e, r, a2.s, r1.fut a1.s f2, r2, hr, hq⟩
theorem se_bin {op : Operator} (ha : SR X W a ma) (hb : SR X W b mb) : SE X W (.BinOp a op b pos) (eBin op ma mb) := PE.of (pe_op (binop_ok op) ha hb) fun σ H Q h => two_at h
theorem se_cmp {op : CmpOp} (hu : X.A.units + 64 < cLine) (ha : SR X W a ma) (hb : SR X W b mb) (hm : behindInMarks op b = false := by first | exact nomark _ | rfl) : SE X W (.Compare a [op] [b] pos) (eCmp op ma mb) :=
  PE.of (pe_cmpR (cmpD_ok hu op) ha hb hm) fun σ H Q h => two_at h

/-! ### tests -/
def truth : D → Option Bool
  | .non => some false
  | .bl b => some b
  | .int i => some (i != 0)
  | .str x => if x.length ≤ line then some ((x.length : Int) != 0) else none
  | .tup ds => some (!ds.isEmpty)
  | .lst ds => some (!ds.isEmpty)
  | .dic ds => some (!ds.isEmpty)
  | .scr ns => some (!ns.isEmpty)
  | _ => none
theorem isEmpty_len {α β : Type} {l : List α} {m : List β} (h : l.length = m.length) : l.isEmpty = m.isEmpty := by
  cases l <;> cases m <;> first | rfl | cases h
theorem truth_tru {K : PySem.W.Frag} {H : Hp} {μ : Mu} {F : Addr → Prop} {d : D} {v : V} {k : Bool} (h : DR K H μ F d v) (e : truth d = some k) : TruV K v H k ∨ ∃ a xs, v = .ref a ∧ Rd H a (.dK xs) ∧ k = !xs.isEmpty := by
  unfold truth at e
  split at e
  · cases e; cases (show v = _ from h); exact .inl rfl
  · cases e; cases (show v = _ from h); exact .inl rfl
  · cases e; cases (show v = _ from h); exact .inl rfl
  · split at e
    · rename_i hl
      cases e; cases (show v = _ from h)
      exact .inl ⟨by rw [line_eq]; exact hl, rfl⟩
    · cases e
  · cases e
    obtain ⟨a, xs, e1, q1, r1⟩ := h
    subst e1
    exact .inl (.inr (.inl ⟨xs, q1, by rw [isEmpty_len r1.length]⟩))
  · cases e
    obtain ⟨a, xs, e1, q1, r1⟩ := h
    subst e1
    exact .inl (.inl ⟨xs, .inl (.inl q1), by rw [isEmpty_len r1.length]⟩)
  · cases e
    obtain ⟨a, xs, e1, q1, r1⟩ := h
    subst e1
    exact .inr ⟨a, xs, rfl, q1, by rw [isEmpty_len r1.length]⟩
  · cases e
    obtain ⟨a, e1, q1⟩ := h
    subst e1
    exact .inl (.inl ⟨_, q1, by rw [isEmpty_len (List.length_map V.int)]⟩)
  · cases e
def eTru (a : E) : ET := fun ρ s => (a ρ s).bind fun x s => Res.of (truth (der s x)) s
theorem st_tru (ha : SR X W a ma) (he : ∀ whole, isTrue a X.env whole = (do let v ← whole; standAt a.pos; holding [v] (truthy v)) := by intro _; rfl) : ST X W a (eTru ma) := by
  refine ⟨fun pins s σ H Q I h => ?_⟩
  obtain ⟨ρ, μ, F, G, st, a, h⟩ := h
  refine isTrue_plain (thn (ha.run pins s σ H _ I (tG_at (k := fun x s => Res.of (truth (der s x)) s) (R := fun x H1 => ∃ k, (TruV X.K x H1 k ∨ ∃ a xs, x = .ref a ∧ Rd H1 a (.dK xs) ∧ k = !xs.isEmpty) ∧ Q k H1) a h fun x H1 μ1 st1 d a1 f1 r1 h1 => ?_)) fun v s1 ⟨x, H1, I1, r1, k, tr, q⟩ => ?_) (he _)
  · obtain ⟨k, hk, hq⟩ := OkG.some h1
    exact ⟨k, truth_tru (r1.dr a1.s) hk, hq k H1 μ1 .refl a1.s rfl⟩
  · rcases tr with tr | ⟨a, xs, e1, q1, e2⟩
    · exact tru_ok pins s1 σ H1 x v Q I1 r1 ⟨k, tr, q⟩
    · subst e1 e2
      cases (show v = Value.ref a from r1)
      exact d_truth (X := X) I1 q1 fun s' I' => ⟨H1, I', q⟩
/-- the value of a comparison is a truth value: its own test -/
def eIs (a : E) : ET := fun ρ s => (a ρ s).bind fun x s => match x with
  | .bl b => .ok b s
  | _ => .bad
theorem bool_at {σ : St} {H : Hp} {Q : Bool → Hp → Prop} {P : (Addr → Prop) → Hp → Mu → D → V → Prop} (hP : ∀ F H μ b v, P F H μ (.bl b) v → v = .bl b) (h : tG (fun _ _ _ d v => d = v) X.pn X.K W (eIs ma) σ H Q) : tG P X.pn X.K W ma σ H fun x H1 => ∃ k, x = .bl k ∧ Q k H1 := by
  obtain ⟨ρ, μ, F, G, st, a, h⟩ := h
  refine tG_at (k := fun (x : D) (s : Store) => match x with
  | .bl b => .ok b s
  | _ => .bad) a h fun x H1 μ1 st1 d a1 f1 r1 h1 => ?_
  cases d with
  | bl b => exact ⟨b, hP _ _ _ _ _ r1, h1 b H1 μ1 .refl a1.s rfl⟩
  | _ => exact h1.elim
theorem st_cmp {op : CmpOp} (hu : X.A.units + 64 < cLine) (ha : SR X W a ma) (hb : SR X W b mb) (hm : behindInMarks op b = false := by first | exact nomark _ | rfl) : ST X W (.Compare a [op] [b] pos) (eIs (eCmp op ma mb)) :=
  PT.of (pt_cmpR (cmpD_ok hu op) ha hb hm) fun σ H Q h => two_at (bool_at (fun _ _ _ _ _ h => by unfold RV at h; exact h) h)

def eNotT (a : ET) : ET := fun ρ s => (a ρ s).bind fun b s => .ok (!b) s
def eAndT (a b : ET) : ET := fun ρ s => (a ρ s).bind fun x s => if x = true then b ρ s else .ok false s
def eOrT (a b : ET) : ET := fun ρ s => (a ρ s).bind fun x s => if x = true then .ok true s else b ρ s
variable {ta tb tc : ET} {rest : List Expr}
theorem st_not (ha : ST X W a ta) : ST X W (.UnaryOp .Not a pos) (eNotT ta) := PT.of (pt_not ha) fun σ H Q ⟨ρ, μ, F, G, st, a, h⟩ =>
  tG_at (k := fun (b : Bool) (s : Store) => .ok (!b) s) a h fun x H1 μ1 st1 d a1 f1 r1 h1 => by
    subst r1
    exact h1 _ H1 μ1 .refl a1.s rfl
/-- a chain of and, of or, as a test -/
def SW (X : Cx) (W : WX) (e : Expr) (m : ET) : Prop := PW X e (tG (fun _ _ _ d v => d = v) X.pn X.K W m)
theorem PW.of {X : Cx} {e : Expr} {t t' : TT} (h : PW X e t) (i : ∀ σ H Q, t' σ H Q → t σ H Q) : PW X e t' := ⟨fun w pins s σ H Q I q => h.run w pins s σ H Q I (i σ H Q q)⟩
theorem sw_st (h : SW X W a ta) : ST X W a ta := PW.pt h
theorem sw_and1 (ha : ST X W a ta) : SW X W (.BoolOp .And [a] pos) ta := pw_and1 ha
theorem sw_or1 (ha : ST X W a ta) : SW X W (.BoolOp .Or [a] pos) ta := pw_or1 ha
theorem sw_and (ha : ST X W a ta) (hb : SW X W (.BoolOp .And (b :: rest) pos) tb) : SW X W (.BoolOp .And (a :: b :: rest) pos) (eAndT ta tb) := PW.of (pw_and ha hb) fun σ H Q ⟨ρ, μ, F, G, st, a, h⟩ =>
  tG_at (k := fun (x : Bool) (s : Store) => if x = true then tb ρ s else .ok false s) a h fun x H1 μ1 st1 d a1 f1 r1 h1 => by
    subst r1
    cases d with
    | true => rw [if_pos rfl]; exact ⟨ρ, μ1, F, G, st1, a1, h1⟩
    | false => rw [if_neg Bool.false_ne_true]; exact h1 _ H1 μ1 .refl a1.s rfl
theorem sw_or (ha : ST X W a ta) (hb : SW X W (.BoolOp .Or (b :: rest) pos) tb) : SW X W (.BoolOp .Or (a :: b :: rest) pos) (eOrT ta tb) := PW.of (pw_or ha hb) fun σ H Q ⟨ρ, μ, F, G, st, a, h⟩ =>
  tG_at (k := fun (x : Bool) (s : Store) => if x = true then .ok true s else tb ρ s) a h fun x H1 μ1 st1 d a1 f1 r1 h1 => by
    subst r1
    cases d with
    | true => rw [if_pos rfl]; exact h1 _ H1 μ1 .refl a1.s rfl
    | false => rw [if_neg Bool.false_ne_true]; exact ⟨ρ, μ1, F, G, st1, a1, h1⟩
/-! .. as values: what stands ahead of the last one is a truth value -/
def eNot (a : E) : E := fun ρ s => (a ρ s).bind fun x s => match x with
  | .bl b => .ok (.bl (!b)) s
  | _ => .bad
def eAnd (a b : E) : E := fun ρ s => (a ρ s).bind fun x s => match x with
  | .bl true => b ρ s
  | .bl false => .ok (.bl false) s
  | _ => .bad
def eOr (a b : E) : E := fun ρ s => (a ρ s).bind fun x s => match x with
  | .bl true => .ok (.bl true) s
  | .bl false => b ρ s
  | _ => .bad
theorem RV_blv {K : PySem.W.Frag} {H : Hp} {μ : Mu} {F : Addr → Prop} {b : Bool} {v : V} (h : RV K H μ F (.bl b) v) : v = .bl b := by unfold RV at h; exact h
theorem se_not (ha : SE X W a ma) : SE X W (.UnaryOp .Not a pos) (eNot ma) := PE.of (pe_not ha) fun σ H Q ⟨ρ, μ, F, G, st, a, h⟩ =>
  tG_at (k := fun (x : D) (s : Store) => match x with
  | D.bl b => Res.ok (D.bl (!b)) s
  | _ => .bad) a h fun x H1 μ1 st1 d a1 f1 r1 h1 => by
    cases d with
    | bl b => exact ⟨b, RV_blv r1, h1 _ H1 μ1 .refl a1.s (RV_bl _)⟩
    | _ => exact h1.elim
theorem se_one {op} (h : SE X W a ma) : SE X W (.BoolOp op [a] pos) ma := pe_one h
theorem se_and (ha : SE X W a ma) (hb : SE X W (.BoolOp .And (b :: rest) pos) mb) : SE X W (.BoolOp .And (a :: b :: rest) pos) (eAnd ma mb) := PE.of (pe_and ha hb) fun σ H Q ⟨ρ, μ, F, G, st, a, h⟩ =>
  tG_at (k := fun (x : D) (s : Store) => match x with
  | D.bl true => mb ρ s
  | D.bl false => Res.ok (D.bl false) s
  | _ => .bad) a h fun x H1 μ1 st1 d a1 f1 r1 h1 => by
    cases d with
    | bl b =>
      refine ⟨b, RV_blv r1, ?_⟩
      cases b with
      | true => rw [if_pos rfl]; exact ⟨ρ, μ1, F, G, st1, a1, h1⟩
      | false => rw [if_neg Bool.false_ne_true]; exact h1 _ H1 μ1 .refl a1.s (RV_bl _)
    | _ => exact h1.elim
theorem se_or (ha : SE X W a ma) (hb : SE X W (.BoolOp .Or (b :: rest) pos) mb) : SE X W (.BoolOp .Or (a :: b :: rest) pos) (eOr ma mb) := PE.of (pe_or ha hb) fun σ H Q ⟨ρ, μ, F, G, st, a, h⟩ =>
  tG_at (k := fun (x : D) (s : Store) => match x with
  | D.bl true => Res.ok (D.bl true) s
  | D.bl false => mb ρ s
  | _ => .bad) a h fun x H1 μ1 st1 d a1 f1 r1 h1 => by
    cases d with
    | bl b =>
      refine ⟨b, RV_blv r1, ?_⟩
      cases b with
      | true => rw [if_pos rfl]; exact h1 _ H1 μ1 .refl a1.s (RV_bl _)
      | false => rw [if_neg Bool.false_ne_true]; exact ⟨ρ, μ1, F, G, st1, a1, h1⟩
    | _ => exact h1.elim
def eIf (c : ET) (a b : E) : E := fun ρ s => (c ρ s).bind fun x s => if x = true then a ρ s else b ρ s
theorem se_if (hc : ST X W c tc) (ha : SE X W a ma) (hb : SE X W b mb) : SE X W (.IfExp c a b pos) (eIf tc ma mb) := PE.of (pe_ifExp hc ha hb) fun σ H Q ⟨ρ, μ, F, G, st, a, h⟩ =>
  tG_at (k := fun (x : Bool) (s : Store) => if x = true then ma ρ s else mb ρ s) a h fun x H1 μ1 st1 d a1 f1 r1 h1 => by
    subst r1
    cases d with
    | true => rw [if_pos rfl]; exact ⟨ρ, μ1, F, G, st1, a1, h1⟩
    | false => rw [if_neg Bool.false_ne_true]; exact ⟨ρ, μ1, F, G, st1, a1, h1⟩

/-! ### a op b op' c -/
def eChain (op op' : CmpOp) (a b c : E) : E := fun ρ s => (a ρ s).bind fun x s => (b ρ s).bind fun y s => match cmpD op (der s x) (der s y) with
  | some (.bl true) => (c ρ s).bind fun z s => Res.of (cmpD op' (der s y) (der s z)) s
  | some (.bl false) => .ok (.bl false) s
  | _ => .bad
theorem chain_at {op op' : CmpOp} {σ : St} {H : Hp} {Q : VK} (h : tG (fun F H μ d v => RV X.K H μ F d v) X.pn X.K W (eChain op op' ma mb mc) σ H Q) :
    tChain (fun x y H Q => ∃ μ F st d e r, RS X.K H μ F st ∧ RD X.K H μ F d x ∧ RD X.K H μ F e y ∧ cmpD op (der st d) (der st e) = some r ∧ ∀ v H' μ', Fut H μ H' μ' → RS X.K H' μ' F st → RV X.K H' μ' F r v → Q v H')
      (fun x y H Q => ∃ μ F st d e r, RS X.K H μ F st ∧ RD X.K H μ F d x ∧ RD X.K H μ F e y ∧ cmpD op' (der st d) (der st e) = some r ∧ ∀ v H' μ', Fut H μ H' μ' → RS X.K H' μ' F st → RV X.K H' μ' F r v → Q v H')
      (tG (fun F H μ d v => RD X.K H μ F d v) X.pn X.K W ma) (tG (fun F H μ d v => RD X.K H μ F d v) X.pn X.K W mb) (tG (fun F H μ d v => RD X.K H μ F d v) X.pn X.K W mc) σ H Q := by
  obtain ⟨ρ, μ, F, G, st, a, h⟩ := h
  refine tG_at (k := fun x s => (mb ρ s).bind fun y s => match cmpD op (der s x) (der s y) with
  | some (.bl true) => (mc ρ s).bind fun z s => Res.of (cmpD op' (der s y) (der s z)) s
  | some (.bl false) => .ok (.bl false) s
  | _ => .bad) a h fun x H1 μ1 st1 d a1 f1 r1 h1 => ?_
  refine tG_at (k := fun y s => match cmpD op (der s d) (der s y) with
  | some (.bl true) => (mc ρ s).bind fun z s => Res.of (cmpD op' (der s y) (der s z)) s
  | some (.bl false) => .ok (.bl false) s
  | _ => .bad) a1 h1 fun y H2 μ2 st2 e a2 f2 r2 h2 => ?_
  have h2 : OkE X.K W F σ H2 μ2 (match cmpD op (der st2 d) (der st2 e) with
  | some (.bl true) => (mc ρ st2).bind fun z s => Res.of (cmpD op' (der s e) (der s z)) s
  | some (.bl false) => .ok (.bl false) st2
  | _ => .bad) Q := h2
  cases hc : cmpD op (der st2 d) (der st2 e) with
  | none => rw [hc] at h2; exact h2.elim
  | some r =>
    rw [hc] at h2
    cases r with
    | bl b =>
      refine ⟨μ2, F, st2, d, e, .bl b, a2.s, r1.fut a1.s f2, r2, hc, fun v H' μ' f3 rs3 rv3 => ?_⟩
      refine ⟨b, RV_blv rv3, ?_⟩
      cases b with
      | true =>
        rw [if_pos rfl]
        refine tG_at (k := fun z s => Res.of (cmpD op' (der s e) (der s z)) s) (a2.fut f3 rs3) (OkG.fut f3 h2) fun z H4 μ4 st4 g a4 f4 r4 h4 => ?_
        obtain ⟨r, hr, hq⟩ := OkG.some h4
        exact ⟨μ4, F, st4, e, g, r, a4.s, (r2.fut a2.s f3).fut rs3 f4, r4, hr, hq⟩
      | false =>
        rw [if_neg Bool.false_ne_true]
        exact h2 _ H' μ' f3 rs3 (RV_bl _)
    | _ => exact h2.elim
theorem se_chain {op op' : CmpOp} (hu : X.A.units + 64 < cLine) (ha : SR X W a ma) (hb : SR X W b mb) (hc : SR X W c mc) (hm : lastMarks [op, op'] [b, c] = false := by with_unfolding_all rfl) : SE X W (.Compare a [op, op'] [b, c] pos) (eChain op op' ma mb mc) :=
  PE.of (pe_chain (cmpD_ok hu op) (cmpD_ok hu op') ha hb hc hm) fun σ H Q h => chain_at h
theorem st_chain {op op' : CmpOp} (hu : X.A.units + 64 < cLine) (ha : SR X W a ma) (hb : SR X W b mb) (hc : SR X W c mc) (hm : lastMarks [op, op'] [b, c] = false := by with_unfolding_all rfl) : ST X W (.Compare a [op, op'] [b, c] pos) (eIs (eChain op op' ma mb mc)) :=
  PT.of (pt_chain (cmpD_ok hu op) (cmpD_ok hu op') ha hb hc hm) fun σ H Q h => chain_at (bool_at (fun _ _ _ _ _ h => by unfold RV at h; exact h) h)

/-! ### arguments, displays -/
def eNil : EL := fun _ s => .ok [] s
def eCons (a : E) (r : EL) : EL := fun ρ s => (a ρ s).bind fun d s => (r ρ s).bind fun ds s => .ok (d :: ds) s
variable {es : List Expr} {ml : EL}
theorem sa_nil : SA X W [] eNil := PA.of pa_nil fun σ H Q ⟨ρ, μ, F, G, st, a, h⟩ => h [] H μ .refl a.s RVs.nil
theorem sar_nil : SAR X W [] eNil := PA.of pa_nil fun σ H Q ⟨ρ, μ, F, G, st, a, h⟩ => h [] H μ .refl a.s rfl
theorem sa_cons (ha : SE X W a ma) (hr : SA X W es ml) (hs : starEach (a :: es) X.env = (false, eval a X.env) :: starEach es X.env := by rfl) : SA X W (a :: es) (eCons ma ml) := PA.of (pa_cons ha hr hs) fun σ H Q ⟨ρ, μ, F, G, st, a, h⟩ => by
  refine tG_at (k := fun d s => (ml ρ s).bind fun ds s => .ok (d :: ds) s) a h fun x H1 μ1 st1 d a1 f1 r1 h1 => ?_
  refine tG_at (k := fun ds s => .ok (d :: ds) s) a1 h1 fun xs H2 μ2 st2 ds a2 f2 r2 h2 => ?_
  exact h2 _ H2 μ2 .refl a2.s (RVs.cons (RV.kp f2.kp0 r1) r2)
theorem sar_cons (ha : SR X W a ma) (hr : SAR X W es ml) (hs : starEach (a :: es) X.env = (false, eval a X.env) :: starEach es X.env := by rfl) : SAR X W (a :: es) (eCons ma ml) := PA.of (pa_cons ha hr hs) fun σ H Q ⟨ρ, μ, F, G, st, a, h⟩ => by
  refine tG_at (k := fun d s => (ml ρ s).bind fun ds s => .ok (d :: ds) s) a h fun x H1 μ1 st1 d a1 f1 r1 h1 => ?_
  refine tG_at (k := fun ds s => .ok (d :: ds) s) a1 h1 fun xs H2 μ2 st2 ds a2 f2 r2 h2 => ?_
  exact h2 _ H2 μ2 .refl a2.s ⟨x, xs, rfl, r1.fut a1.s f2, r2⟩
def eTup (r : EL) : E := fun ρ s => (r ρ s).bind fun ds s => if ds.length ≤ line then .ok (.tup ds) s else .bad
def eLst (r : EL) : E := fun ρ s => (r ρ s).bind fun ds s => if ds.length ≤ line then .ok (.lst ds) s else .bad
theorem se_tup {k} (h : SA X W es ml) : SE X W (.Tuple es k pos) (eTup ml) := PE.of (pe_tup h) fun σ H Q ⟨ρ, μ, F, G, st, a, h⟩ => by
  refine tG_at (k := fun (ds : List D) s => if ds.length ≤ line then Res.ok (D.tup ds) s else .bad) a h fun xs H1 μ1 st1 ds a1 f1 r1 h1 => ?_
  by_cases hl : ds.length ≤ line
  · rw [if_pos hl] at h1
    exact ⟨by rw [line_eq, r1.length]; exact hl, fun p hp => h1 _ _ μ1 (.new hp) (a1.s.new hp) (a1.s.newT hp r1)⟩
  · rw [if_neg hl] at h1; exact h1.elim
theorem se_lst (h : SA X W es ml) : SE X W (.List es pos) (eLst ml) := PE.of (pe_lst h) fun σ H Q ⟨ρ, μ, F, G, st, a, h⟩ => by
  refine tG_at (k := fun (ds : List D) s => if ds.length ≤ line then Res.ok (D.lst ds) s else .bad) a h fun xs H1 μ1 st1 ds a1 f1 r1 h1 => ?_
  by_cases hl : ds.length ≤ line
  · rw [if_pos hl] at h1
    exact ⟨by rw [line_eq, r1.length]; exact hl, fun p hp => h1 _ _ μ1 (.new hp) (a1.s.new hp) (a1.s.newL hp r1)⟩
  · rw [if_neg hl] at h1; exact h1.elim

/-! ### items -/
def item : D → D → Option D
  | .lst ds, .int i => atI ds i
  | .tup ds, .int i => atI ds i
  | .scr ns, .int i => (atI ns i).map .int
  | .str z, .int i => if z.length ≤ line then (atI z.cps.toList i).map fun c => .str ⟨#[c]⟩ else none
  | .dic kvs, k => (dget kvs k).bind id
  | _, _ => none
theorem atI_rel {K : PySem.W.Frag} {H : Hp} {μ : Mu} {F : Addr → Prop} {ds : List D} {xs : List V} (r : RVs K H μ F ds xs) {i : Int} {d : D} (h : atI ds i = some d) : ∃ v, atI xs i = some v ∧ RV K H μ F d v := by
  unfold atI at h ⊢
  rw [r.length]
  obtain ⟨j, e1, e2⟩ := Option.bind_eq_some_iff.mp h
  obtain ⟨v, e3, rv⟩ := r.get e2
  exact ⟨v, Option.bind_eq_some_iff.mpr ⟨j, e1, e3⟩, rv⟩
theorem atI_map {α β : Type} (f : α → β) (xs : List α) (i : Int) : atI (xs.map f) i = (atI xs i).map f := by
  unfold atI
  rw [List.length_map]
  cases ixN xs.length i with
  | none => rfl
  | some j => simp
def IxV (X : Cx) : R2 := fun x y H Q => ∃ μ F st d e r, RS X.K H μ F st ∧ RD X.K H μ F d x ∧ RD X.K H μ F e y ∧ item (der st d) (der st e) = some r ∧ ∀ v H' μ', Fut H μ H' μ' → RS X.K H' μ' F st → RV X.K H' μ' F r v → Q v H'
theorem item_ok (hu : X.A.units + 64 < cLine) : IxR X (IxV X) := by
  intro value slice pins s σ H x y v u Q I rx ry h hs
  obtain ⟨μ, F, st, d, e, r, rs, hd, he, hg, q⟩ := h
  have hd0 := hd.dr rs
  have he0 := he.dr rs
  generalize der st d = d' at hg hd0
  generalize der st e = e' at hg he0
  unfold item at hg
  split at hg
  · obtain ⟨a, xs, e1, q1, r1⟩ := hd0
    obtain ⟨w, e2, rw2⟩ := atI_rel r1 hg
    exact ix_list value slice pins s σ H x y v u Q I rx ry ⟨a, xs, _, w, e1, he0, .inl (.inl q1), e2, q w H μ .refl rs rw2⟩ hs
  · obtain ⟨a, xs, e1, q1, r1⟩ := hd0
    obtain ⟨w, e2, rw2⟩ := atI_rel r1 hg
    exact ix_tup value slice pins s σ H x y v u Q I rx ry ⟨a, xs, _, w, e1, he0, q1, e2, q w H μ .refl rs rw2⟩ hs
  · obtain ⟨a, e1, q1⟩ := hd0
    obtain ⟨n, e2, e3⟩ := Option.map_eq_some_iff.mp hg
    subst e3
    exact ix_list value slice pins s σ H x y v u Q I rx ry ⟨a, _, _, .int n, e1, he0, q1, by rw [atI_map, e2]; rfl, q _ H μ .refl rs (RV_int n)⟩ hs
  · split at hg
    · rename_i hl
      obtain ⟨c, e2, e3⟩ := Option.map_eq_some_iff.mp hg
      subst e3
      exact ix_str value slice pins s σ H x y v u Q I rx ry ⟨_, _, c, hd0, he0, by rw [line_eq]; exact hl, e2, q _ H μ .refl rs (RV_str _)⟩ hs
    · cases hg
  · obtain ⟨a, xs, e1, q1, r1⟩ := hd0
    obtain ⟨o, ho, hr⟩ := Option.bind_eq_some_iff.mp hg
    obtain ⟨ov, g, g1, g2⟩ := r1.dget q1 he0 ho
    have hr2 : o = some r := hr
    obtain ⟨w, e2, rw2⟩ := g1 r hr2
    subst e2 e1
    cases (show v = Value.ref a from rx)
    exact tail_any (dict_typeIs I g) PySem.F.slot_dict_getitem.lookup (d_getItem (X := X) (by omega) I g ry fun w' s3 I3 rw' => ⟨w, H, I3, rw', q w H μ .refl rs rw2⟩) hs
  · cases hg
def eIx (a b : E) : E := fun ρ s => (a ρ s).bind fun x s => (b ρ s).bind fun y s => Res.of (item (der s x) (der s y)) s
theorem se_ix (hu : X.A.units + 64 < cLine) (ha : SR X W a ma) (hb : SR X W b mb) (hs : PlainIx b := by exact fun _ _ => rfl) : SE X W (.Subscript a b pos) (eIx ma mb) := PE.of (pe_ix (item_ok hu) ha hb hs) fun σ H Q h => two_at h
end
end Dn

/-! Dn: statements. -/
namespace Dn
open PySem PySem.Spec L2
open PyProof.Rows hiding St RelV

inductive SRes where
  | nx (ρ : Loc) (s : Store) | rt (d : D) (s : Store) | bk (ρ : Loc) (s : Store) | ct (ρ : Loc) (s : Store) | ex (C : String) (fs : List (Str × D)) (ρ : Loc) (s : Store) | bad
abbrev S := Loc → Store → SRes
def Res.to {α : Type} (r : Res α) (ρ : Loc) (k : α → Store → SRes) : SRes := match r with
  | .ok a s => k a s
  | .ex C fs s => .ex C fs ρ s
  | .bad => .bad
@[simp] theorem Res.to_ok {α : Type} (a : α) (s : Store) (ρ : Loc) (k : α → Store → SRes) : (Res.ok a s).to ρ k = k a s := rfl
@[simp] theorem Res.to_ex {α : Type} (C : String) (fs : List (Str × D)) (s : Store) (ρ : Loc) (k : α → Store → SRes) : (Res.ex C fs s : Res α).to ρ k = .ex C fs ρ s := rfl
@[simp] theorem Res.to_bad {α : Type} (ρ : Loc) (k : α → Store → SRes) : (Res.bad : Res α).to ρ k = .bad := rfl
def SRes.then (r : SRes) (k : S) : SRes := match r with
  | .nx ρ s => k ρ s
  | r => r
@[simp] theorem SRes.then_nx (ρ : Loc) (s : Store) (k : S) : (SRes.nx ρ s).then k = k ρ s := rfl
@[simp] theorem SRes.then_rt (d : D) (s : Store) (k : S) : (SRes.rt d s).then k = .rt d s := rfl
@[simp] theorem SRes.then_bk (ρ : Loc) (s : Store) (k : S) : (SRes.bk ρ s).then k = .bk ρ s := rfl
@[simp] theorem SRes.then_ct (ρ : Loc) (s : Store) (k : S) : (SRes.ct ρ s).then k = .ct ρ s := rfl
@[simp] theorem SRes.then_ex (C : String) (fs : List (Str × D)) (ρ : Loc) (s : Store) (k : S) : (SRes.ex C fs ρ s).then k = .ex C fs ρ s := rfl
@[simp] theorem SRes.then_bad (k : S) : (SRes.bad).then k = .bad := rfl

/-- what the statements of a frame may do: shared objects and the frame's own change, new ones come -/
structure Ev (H : Hp) (μ : Mu) (F : Addr → Prop) (G : Own) (H' : Hp) (μ' : Mu) (F' : Addr → Prop) (G' : Own) : Prop where
  ext : ∃ l, μ' = μ ++ l ∧ ∀ a ∈ l, H a = none
  keep : ∀ a o, a ∉ μ → ¬ G.g a → H a = some o → H' a = some o
  there : ∀ a o, H a = some o → ∃ o', H' a = some o'
  sub : ∀ a, F a → F' a ∨ G.g a
  own : ∀ a, F' a → F a ∨ H a = none
  g : ∀ a, G'.g a → G.g a ∨ H a = none
  fd : ∀ a, F a → ∃ o, H a = some o
  sf : G'.sf = G.sf

def OkS (pn : Pn) (K : PySem.W.Frag) (W : WX) (H0 : Hp) (μ0 : Mu) (F0 : Addr → Prop) (G0 : Own) (r : SRes) (D : Ends) : Prop := match r with
  | .nx ρ s => ∀ σ H μ F G, Ev H0 μ0 F0 G0 H μ F G → At pn K H μ F G ρ σ s → D.nx σ H
  | .rt d s => ∀ v H μ F G, Ev H0 μ0 F0 G0 H μ F G → RS K H μ F s → RV K H μ F d v → D.rt v H
  | .bk ρ s => ∀ σ H μ F G, Ev H0 μ0 F0 G0 H μ F G → At pn K H μ F G ρ σ s → D.bk σ H
  | .ct ρ s => ∀ σ H μ F G, Ev H0 μ0 F0 G0 H μ F G → At pn K H μ F G ρ σ s → D.ct σ H
  | .ex C fs ρ s => ∀ d σ H μ F G xs, Ev H0 μ0 F0 G0 H μ F G → At pn K H μ F G ρ σ s → H d = some (.xd xs) → d ∉ μ → ¬ F d → RVf K H μ F fs xs → W (.ref (He.ga K C)) (some d) σ H
  | .bad => False
def tS (pn : Pn) (K : PySem.W.Frag) (W : WX) (m : S) : TS := fun D σ H => ∃ ρ μ F G st, At pn K H μ F G ρ σ st ∧ OkS pn K W H μ F G (m ρ st) D
def SS (X : Cx) (W : WX) (st : Stmt) (m : S) : Prop := PS X st (tS X.pn X.K W m)
def SB (X : Cx) (W : WX) (st : List Stmt) (m : S) : Prop := PSs X st (tS X.pn X.K W m)

section
variable {pn : Pn} {K : PySem.W.Frag} {W : WX} {H0 H H' H1 : Hp} {μ0 μ μ' μ1 : Mu} {F0 F F' F1 : Addr → Prop} {G G' G0 G1 : Own} {st st1 : Store} {ρ ρ1 : Loc} {σ σ1 : St} {d : D} {v : V} {r : SRes} {D1 D2 : Ends}
theorem Ev.trans (f : Ev H μ F G H1 μ1 F1 G1) (g : Ev H1 μ1 F1 G1 H' μ' F' G') : Ev H μ F G H' μ' F' G' := by
  obtain ⟨l, e, q⟩ := id f.ext
  obtain ⟨l', e', q'⟩ := id g.ext
  have nn : ∀ {a : Addr}, H1 a = none → H a = none := fun {a} h => by
    cases z : H a with
    | none => rfl
    | some o =>
      obtain ⟨o', w⟩ := f.there a o z
      rw [h] at w; cases w
  refine ⟨⟨l ++ l', by rw [e', e, List.append_assoc], fun a h => ?_⟩, fun a o n nG h => ?_, fun a o h => ?_, fun a h => ?_, fun a h => ?_, fun a h => ?_, f.fd, g.sf.trans f.sf⟩
  · rcases List.mem_append.mp h with h | h
    · exact q a h
    · exact nn (q' a h)
  · refine g.keep a o ?_ ?_ (f.keep a o n nG h)
    · rw [e]
      intro z
      rcases List.mem_append.mp z with z | z
      · exact n z
      · rw [q a z] at h; cases h
    · intro z
      rcases f.g a z with z | z
      · exact nG z
      · rw [z] at h; cases h
  · obtain ⟨o1, h1⟩ := f.there a o h
    exact g.there a o1 h1
  · rcases f.sub a h with h1 | h1
    · rcases g.sub a h1 with h2 | h2
      · exact .inl h2
      · rcases f.g a h2 with h3 | h3
        · exact .inr h3
        · obtain ⟨o, w⟩ := f.fd a h
          rw [h3] at w; cases w
    · exact .inr h1
  · rcases g.own a h with h | h
    · exact f.own a h
    · exact .inr (nn h)
  · rcases g.g a h with h | h
    · exact f.g a h
    · exact .inr (nn h)
theorem At.ev (a : At pn K H μ F G ρ σ st) (f : Fut H μ H' μ') : Ev H μ F G H' μ' F G := ⟨f.ext, fun b o n _ h => f.keep b o n h, f.there, fun _ h => .inl h, fun _ h => .inl h, fun _ h => .inl h, a.s.fd, rfl⟩
theorem Ev.fut (e : Ev H μ F ownNo H' μ' F' G') : Fut H μ H' μ' := ⟨e.ext, fun a o n h => e.keep a o n (fun z => z) h, e.there⟩
theorem Ev.out (e : Ev H μ F G H' μ' F' G') {a : Addr} {o : HO} (h : H a = some o) (n : a ∉ μ) : a ∉ μ' := by
  obtain ⟨l, e, q⟩ := e.ext
  rw [e]
  intro z
  rcases List.mem_append.mp z with z | z
  · exact n z
  · rw [q a z] at h; cases h
theorem Ev.kp (e : Ev H μ F G H' μ' F' G') (gf : ∀ a, G.g a → F a) : Kp H μ F H' μ' F' where
  pure := fun a o h n nF => ⟨e.keep a o n (fun z => nF (gf a z)) h, e.out h n, fun z => (e.own a z).elim nF fun q => by rw [h] at q; cases q⟩
  ix := fun n a h => by
    obtain ⟨l, e, _⟩ := e.ext
    rw [e, List.getElem?_append_left (List.getElem?_eq_some_iff.mp h).1]
    exact h
theorem RS.weak (s : RS K H μ F st) (k : ∀ a, F0 a → F a) : RS K H μ F0 st :=
  ⟨s.len, s.nd, fun a h z => s.nf a h (k a z), fun a h => s.fd a (k a h), fun n d h => let ⟨a, e, c⟩ := s.at_ n d h; ⟨a, e, c.kp ⟨fun a o h n nF => ⟨h, n, fun z => nF (k a z)⟩, fun _ _ h => h⟩ rfl⟩⟩
theorem RV.weak (k : ∀ a, F0 a → F a) (h : RV K H μ F d v) : RV K H μ F0 d v := RV.kp ⟨fun a o h n nF => ⟨h, n, fun z => nF (k a z)⟩, fun _ _ h => h⟩ h
theorem OkS.ev (e : Ev H0 μ0 F0 G0 H μ F G) (h : OkS pn K W H0 μ0 F0 G0 r D1) : OkS pn K W H μ F G r D1 := by
  cases r with
  | nx ρ s => exact fun σ H μ F G a b => h σ H μ F G (e.trans a) b
  | rt d s => exact fun v H μ F G a b c => h v H μ F G (e.trans a) b c
  | bk ρ s => exact fun σ H μ F G a b => h σ H μ F G (e.trans a) b
  | ct ρ s => exact fun σ H μ F G a b => h σ H μ F G (e.trans a) b
  | ex C fs ρ s => exact fun d σ H μ F G xs a => h d σ H μ F G xs (e.trans a)
  | bad => exact h
/-- an expression within a statement -/
theorem tS_e {α β : Type} {P : (Addr → Prop) → Hp → Mu → α → β → Prop} {m : Loc → Store → Res α} {k : α → Store → SRes} {R : β → Hp → Prop} (a : At pn K H μ F G ρ σ st) (h : OkS pn K W H μ F G ((m ρ st).to ρ k) D1)
    (hR : ∀ x H1 μ1 st1 d, At pn K H1 μ1 F G ρ σ st1 → Fut H μ H1 μ1 → P F H1 μ1 d x → OkS pn K W H1 μ1 F G (k d st1) D1 → R x H1) : tG P pn K W m σ H R := by
  refine ⟨ρ, μ, F, G, st, a, ?_⟩
  cases e : m ρ st with
  | ok d s =>
    rw [e] at h
    exact fun v H' μ' f rs rv => hR v H' μ' s d (a.fut f rs) f rv (OkS.ev (a.ev f) h)
  | ex C fs s =>
    rw [e] at h
    exact fun d H' μ' xs f rs e1 e2 e3 e4 => h d σ H' μ' F G xs (a.ev f) (a.fut f rs) e1 e2 e3 e4
  | bad => rw [e] at h; exact h
/-- a slot gets a value -/
theorem RL.setP (l : RL pn K H μ F G ρ σ) {i : Nat} (hv : RV K H μ F d v) : RL pn K H μ F G (ρ.set i (.pu d)) (σ.set i (some v)) := by
  refine ⟨by rw [List.length_set, List.length_set]; exact l.len, fun j sl e => ?_, fun j k b c d e a h1 h2 h3 h4 => ?_⟩
  · by_cases h : i = j
    · subst h
      have hi : i < ρ.length := by
        have := (List.getElem?_eq_some_iff.mp e).1
        rwa [List.length_set] at this
      rw [List.getElem?_set_self hi] at e
      cases e
      exact ⟨_, List.getElem?_set_self (by rw [← l.len]; exact hi), v, rfl, hv⟩
    · rw [List.getElem?_set_ne h] at e
      obtain ⟨o, e1, q⟩ := l.at_ j sl e
      exact ⟨o, (List.getElem?_set_ne h).trans e1, q⟩
  · have ne2 : ∀ {c : D} {j : Nat} {b' : Bool} {d' : D}, (ρ.set i (.pu c))[j]? = some (.ow b' d') → i ≠ j ∧ ρ[j]? = some (.ow b' d') := fun {c j b' d'} q => by
      by_cases h : i = j
      · subst h
        have hi : i < ρ.length := by
          have := (List.getElem?_eq_some_iff.mp q).1
          rwa [List.length_set] at this
        rw [List.getElem?_set_self hi] at q
        cases q
      · exact ⟨h, by rw [List.getElem?_set_ne h] at q; exact q⟩
    obtain ⟨n1, e1⟩ := ne2 h1
    obtain ⟨n2, e2⟩ := ne2 h2
    rw [List.getElem?_set_ne n1] at h3
    rw [List.getElem?_set_ne n2] at h4
    exact l.inj j k _ _ _ _ a e1 e2 h3 h4
theorem At.setP (a : At pn K H μ F G ρ σ st) {i : Nat} (hv : RV K H μ F d v) : At pn K H μ F G (ρ.set i (.pu d)) (σ.set i (some v)) st := ⟨a.l.setP hv, a.s, a.gf⟩
end

section
variable {X : Cx} {W : WX} {st : Stmt} {sts : List Stmt} {e b c : Expr} {m k : S} {me ma mb : E} {tc : ET} {pos : Pos}
/-! ### blocks -/
def bNil : S := fun ρ s => .nx ρ s
def bCons (m k : S) : S := fun ρ s => (m ρ s).then k
theorem sb_nil : SB X W [] bNil := PSs.of pss_nil fun D σ H ⟨ρ, μ, F, G, st, a, h⟩ => h σ H μ F G (a.ev .refl) a
theorem sb_cons (h1 : SS X W st m) (h2 : SB X W sts k) : SB X W (st :: sts) (bCons m k) := PSs.of (pss_cons h1 h2) fun D σ H ⟨ρ, μ, F, G, s, a, h⟩ => by
  refine ⟨ρ, μ, F, G, s, a, ?_⟩
  have h : OkS X.pn X.K W H μ F G ((m ρ s).then k) D := h
  cases q : m ρ s with
  | nx ρ1 s1 => rw [q] at h; exact fun σ1 H1 μ1 F1 G1 sc1 a1 => ⟨ρ1, μ1, F1, G1, s1, a1, OkS.ev sc1 h⟩
  | rt d s1 => rw [q] at h; exact h
  | bk ρ1 s1 => rw [q] at h; exact h
  | ct ρ1 s1 => rw [q] at h; exact h
  | ex C fs ρ1 s1 => rw [q] at h; exact h
  | bad => rw [q] at h; exact h
theorem sb_one (h1 : SS X W st m) : SB X W [st] m := pss_one h1
/-! ### small ones -/
def sPass : S := fun ρ s => .nx ρ s
def sBreak : S := fun ρ s => .bk ρ s
def sCont : S := fun ρ s => .ct ρ s
def sExpr (e : E) : S := fun ρ s => (e ρ s).to ρ fun _ s => .nx ρ s
def sRet (e : E) : S := fun ρ s => (e ρ s).to ρ fun d s => .rt d s
def sRetN : S := fun _ s => .rt .non s
def sIf (c : ET) (m k : S) : S := fun ρ s => (c ρ s).to ρ fun x s => if x = true then m ρ s else k ρ s
def sSet (i : Nat) (e : E) : S := fun ρ s => (e ρ s).to ρ fun d s => .nx (ρ.set i (.pu d)) s
theorem ss_pass : SS X W (.Pass pos) sPass := PS.of ps_pass fun D σ H ⟨ρ, μ, F, G, st, a, h⟩ => h σ H μ F G (a.ev .refl) a
theorem ss_break : SS X W (.Break pos) sBreak := PS.of ps_break fun D σ H ⟨ρ, μ, F, G, st, a, h⟩ => h σ H μ F G (a.ev .refl) a
theorem ss_cont : SS X W (.Continue pos) sCont := PS.of ps_continue fun D σ H ⟨ρ, μ, F, G, st, a, h⟩ => h σ H μ F G (a.ev .refl) a
theorem ss_expr (he : SR X W e me) (hs : swapsWith e none pos.line X.env = pure false := by rfl) : SS X W (.Expr e pos) (sExpr me) := PS.of (ps_expr he hs) fun D σ H ⟨ρ, μ, F, G, st, a, h⟩ =>
  tS_e (k := fun _ s => .nx ρ s) a h fun x H1 μ1 st1 d a1 f r h1 => h1 σ H1 μ1 F G (a1.ev .refl) a1
theorem ss_ret (he : SE X W e me) : SS X W (.Return (some e) pos) (sRet me) := PS.of (ps_ret he) fun D σ H ⟨ρ, μ, F, G, st, a, h⟩ =>
  tS_e (k := fun d s => .rt d s) a h fun x H1 μ1 st1 d a1 f r h1 => h1 x H1 μ1 F G (a1.ev .refl) a1.s r
theorem ss_retN : SS X W (.Return none pos) sRetN := PS.of ps_retN fun D σ H ⟨ρ, μ, F, G, st, a, h⟩ => h .non H μ F G (a.ev .refl) a.s RV_non
theorem ss_if {s1 s2 : List Stmt} (hc : ST X W c tc) (h1 : SB X W s1 m) (h2 : SB X W s2 k) : SS X W (.If c s1 s2 pos) (sIf tc m k) := PS.of (ps_if hc h1 h2) fun D σ H ⟨ρ, μ, F, G, st, a, h⟩ =>
  tS_e (k := fun x s => if x = true then m ρ s else k ρ s) a h fun x H1 μ1 st1 d a1 f r h1 => by
    subst r
    cases d with
    | true => rw [if_pos rfl]; exact ⟨ρ, μ1, F, G, st1, a1, h1⟩
    | false => rw [if_neg Bool.false_ne_true]; exact ⟨ρ, μ1, F, G, st1, a1, h1⟩
theorem ss_set {i : Nat} {x : Str} {pos' : Pos} (hN : X.N.Nodup) (he : SE X W e me) (hi : X.N[i]? = some x := by rfl) (hx : L2.Loc X.env.scope x := by first | exact Or.inl rfl | exact Or.inr rfl) (hs : swapsWith e (some (.Name x pos')) pos.line X.env = pure false := by rfl)
    (hf : X.fn x = true ∨ X.env.scope.names.lookup x = some .local := by first | exact .inl rfl | exact .inr rfl) : SS X W (.Assign [.Name x pos'] e pos) (sSet i me) :=
  PS.of (ps_set hN hi hx he hs hf) fun D σ H ⟨ρ, μ, F, G, st, a, h⟩ =>
    tS_e (k := fun d s => .nx (ρ.set i (.pu d)) s) a h fun x H1 μ1 st1 d a1 f r h1 => h1 _ H1 μ1 F G (a1.ev .refl) (a1.setP r)
/-! ### a, b = x, y -/
def kPar2 (i j : Nat) (ρ : Loc) (ds : List D) (s : Store) : SRes := match ds with
  | [d, e] => .nx ((ρ.set i (.pu d)).set j (.pu e)) s
  | _ => .bad
def sPar2 (i j : Nat) (es : EL) : S := fun ρ s => (es ρ s).to ρ (kPar2 i j ρ)
theorem RVs2 {K : PySem.W.Frag} {H : Hp} {μ : Mu} {F : Addr → Prop} {d e : D} {xs : List V} (r : RVs K H μ F [d, e] xs) : ∃ v w, xs = [v, w] ∧ RV K H μ F d v ∧ RV K H μ F e w := by
  simp only [RVs] at r
  obtain ⟨v, ys, e1, r1, w, zs, e2, r2, e3⟩ := r
  subst e3 e2
  exact ⟨v, w, e1, r1, r2⟩
theorem ss_par2 {i j : Nat} {x y : Str} {a b : Expr} {ml : EL} {px py pt : Pos} {kt k2 pt2} (hc : X.calm = true) (hN : X.N.Nodup) (ha : SA X W [a, b] ml) (hi : X.N[i]? = some x := by rfl) (hj : X.N[j]? = some y := by rfl) (hij : i ≠ j := by decide)
    (hx : X.env.scope.names.lookup x = some .local := by rfl) (hy : X.env.scope.names.lookup y = some .local := by rfl)
    (hw : swappedStores [.Tuple [.Name x px, .Name y py] kt pt] (.Tuple [a, b] k2 pt2) X.env = pure (some [x, y]) := by rfl)
    (hs : swapsWithSole [.Tuple [.Name x px, .Name y py] kt pt] (.Tuple [a, b] k2 pt2) pos.line X.env = pure false := by rfl) :
    SS X W (.Assign [.Tuple [.Name x px, .Name y py] kt pt] (.Tuple [a, b] k2 pt2) pos) (sPar2 i j ml) :=
  PS.of (ps_par hc hN hi hj hij hx hy ha hw hs) fun D σ H ⟨ρ, μ, F, G, st, a, h⟩ =>
    tS_e (k := kPar2 i j ρ) a h fun xs H1 μ1 st1 ds a1 f r h1 => by
      match ds, r, h1 with
      | [d, e], r, h1 =>
        obtain ⟨v, w, e1, r1, r2⟩ := RVs2 r
        exact ⟨v, w, e1, h1 _ H1 μ1 F G (a1.ev .refl) ((a1.setP r1).setP r2)⟩
      | [], r, h1 => exact h1.elim
      | [_], r, h1 => exact h1.elim
      | _ :: _ :: _ :: _, r, h1 => exact h1.elim
end
end Dn

/-! Dn: loops. -/
namespace Dn
open PySem PySem.Spec L2
open PyProof.Rows hiding St RelV

inductive Tgt where
  | nm (i : Nat) | tup (ts : List Tgt)
mutual
def setT : Tgt → D → Loc → Option Loc
  | .nm i, d, ρ => some (ρ.set i (.pu d))
  | .tup ts, d, ρ => match d with
    | .tup ds => setTs ts ds ρ
    | _ => none
def setTs : List Tgt → List D → Loc → Option Loc
  | [], [], ρ => some ρ
  | t :: ts, d :: ds, ρ => match setT t d ρ with
    | some ρ' => setTs ts ds ρ'
    | none => none
  | _, _, _ => none
end
mutual
def tvs : Tgt → List Nat
  | .nm i => [i]
  | .tup ts => tvss ts
def tvss : List Tgt → List Nat
  | [] => []
  | t :: ts => tvs t ++ tvss ts
end
/-- alike but at l -/
def Out (l : List Nat) (σ σ' : St) : Prop := σ'.length = σ.length ∧ ∀ j, j ∉ l → σ'[j]? = σ[j]?
theorem Out.trans {l l' : List Nat} {σ σ1 σ2 : St} (h : Out l σ σ1) (g : Out l' σ1 σ2) : Out (l ++ l') σ σ2 :=
  ⟨g.1.trans h.1, fun j n => (g.2 j fun z => n (List.mem_append_right _ z)).trans (h.2 j fun z => n (List.mem_append_left _ z))⟩
/-- the target is stored as t says -/
def gT (pn : Pn) (K : PySem.W.Frag) (t : Tgt) : TG := fun v σ H Q => ∃ ρ μ F G st d ρ', At pn K H μ F G ρ σ st ∧ RV K H μ F d v ∧ setT t d ρ = some ρ' ∧ ∀ σ', At pn K H μ F G ρ' σ' st → Out (tvs t) σ σ' → Q σ' H
def gTs (pn : Pn) (K : PySem.W.Frag) (t : List Tgt) : TGs := fun vs σ H Q => ∃ ρ μ F G st ds ρ', At pn K H μ F G ρ σ st ∧ RVs K H μ F ds vs ∧ setTs t ds ρ = some ρ' ∧ ∀ σ', At pn K H μ F G ρ' σ' st → Out (tvss t) σ σ' → Q σ' H
def SG (X : Cx) (tg : Expr) (t : Tgt) : Prop := PG X tg (gT X.pn X.K t)
def SGs (X : Cx) (tg : List Expr) (t : List Tgt) : Prop := PGs X tg (gTs X.pn X.K t)
theorem PG.of {X : Cx} {e : Expr} {t t' : TG} (h : PG X e t) (i : ∀ v σ H Q, t' v σ H Q → t v σ H Q) : PG X e t' := ⟨fun pins s σ H v u Q I r q => h.run pins s σ H v u Q I r (i v σ H Q q)⟩
theorem PGs.of {X : Cx} {e : List Expr} {t t' : TGs} (h : PGs X e t) (i : ∀ v σ H Q, t' v σ H Q → t v σ H Q) : PGs X e t' := ⟨fun pins s σ H v u Q I r q => h.run pins s σ H v u Q I r (i v σ H Q q)⟩
section
variable {X : Cx} {W : WX} {pos : Pos} {e : Expr} {es : List Expr} {t : Tgt} {ts : List Tgt}
theorem sg_nm (i : Nat) {x : Str} {pos : Pos} (hN : X.N.Nodup) (hi : X.N[i]? = some x := by rfl) (hx : L2.Loc X.env.scope x := by first | exact Or.inl rfl | exact Or.inr rfl) (hf : X.fn x = true ∨ X.env.scope.names.lookup x = some .local := by first | exact .inl rfl | exact .inr rfl) :
    SG X (.Name x pos) (.nm i) := PG.of (pg_name hN hi hx hf) fun v σ H Q ⟨ρ, μ, F, G, st, d, ρ', a, r, e, q⟩ => by
  simp only [setT, Option.some.injEq] at e
  subst e
  exact q _ (a.setP r) ⟨List.length_set, fun j n => List.getElem?_set_ne fun z => n (by rw [z]; exact List.mem_singleton.mpr rfl)⟩
theorem sgs_nil : SGs X [] [] := PGs.of pgs_nil fun v σ H Q ⟨ρ, μ, F, G, st, ds, ρ', a, r, e, q⟩ => by
  cases ds with
  | nil =>
    simp only [setTs, Option.some.injEq] at e
    subst e
    unfold RVs at r
    exact ⟨r, q σ a ⟨rfl, fun _ _ => rfl⟩⟩
  | cons d ds => simp [setTs] at e
theorem sgs_cons (h1 : SG X e t) (h2 : SGs X es ts) (hs : (assignEach (e :: es) X.env).map (·.2) = assign e X.env :: (assignEach es X.env).map (·.2) := by rfl) : SGs X (e :: es) (t :: ts) := PGs.of (pgs_cons h1 h2 hs) fun v σ H Q ⟨ρ, μ, F, G, st, ds, ρ', a, r, e, q⟩ => by
  cases ds with
  | nil => simp [setTs] at e
  | cons d ds =>
    unfold RVs at r
    obtain ⟨y, ys, e1, r1, r2⟩ := r
    simp only [setTs] at e
    cases hc : setT t d ρ with
    | none => rw [hc] at e; cases e
    | some ρ1 =>
      rw [hc] at e
      exact ⟨y, ys, e1, ρ, μ, F, G, st, d, ρ1, a, r1, hc, fun σ1 a1 o1 => ⟨ρ1, μ, F, G, st, ds, ρ', a1, r2, e, fun σ2 a2 o2 => q σ2 a2 (o1.trans o2)⟩⟩
theorem sg_tup {k : Nat} (hc : X.calm = true) (h : SGs X es ts) (hn : (assignEach es X.env).length = ts.length := by rfl) (hst : (assignEach es X.env).findIdx? (·.1) = none := by rfl) : SG X (.Tuple es k pos) (.tup ts) :=
  PG.of (pg_tup hc h hn hst) fun v σ H Q ⟨ρ, μ, F, G, st, d, ρ', a, r, e, q⟩ => by
    cases d with
    | tup ds =>
      simp only [setT] at e
      obtain ⟨b, xs, e1, q1, r1⟩ := r.dr (fun n z => by cases z)
      refine ⟨b, xs, e1, q1, ?_, ρ, μ, F, G, st, ds, ρ', a, r1, e, q⟩
      rw [r1.length]
      have key : ∀ (ts : List Tgt) (ds : List D) (ρ ρ' : Loc), setTs ts ds ρ = some ρ' → ds.length = ts.length := by
        intro ts
        induction ts with
        | nil => intro ds ρ ρ' e; cases ds with | nil => rfl | cons d ds => simp [setTs] at e
        | cons t ts ih =>
          intro ds ρ ρ' e
          cases ds with
          | nil => simp [setTs] at e
          | cons d ds =>
            simp only [setTs] at e
            cases hc : setT t d ρ with
            | none => rw [hc] at e; cases e
            | some ρ1 => rw [hc] at e; rw [List.length_cons, List.length_cons, ih ds ρ1 ρ' e]
      exact key ts ds ρ ρ' e
    | _ => simp [setT] at e
end

/-! ### what is walked -/
structure Walks (K : PySem.W.Frag) (F : Addr → Prop) (H0 : Hp) (μ0 : Mu) (J : It) (ds : List D) : Prop where
  go : ∀ (i : Nat) (d : D) (H : Hp) (μ : Mu) (F2 : Addr → Prop) (st : Store), ds[i]? = some d → Kp H0 μ0 F H μ F2 → RS K H μ F2 st →
    J.go i H ∧ ∀ x H2, J.yld i H x H2 → RS K H2 μ F2 st ∧ Fut H μ H2 μ ∧ RV K H2 μ F2 d x
  stop : ∀ (i : Nat) (H : Hp) (μ : Mu) (F2 : Addr → Prop), ds.length ≤ i → Kp H0 μ0 F H μ F2 → J.stop i H
abbrev EI := Loc → Store → Res (List D)
abbrev OkI (K : PySem.W.Frag) (W : WX) (F : Addr → Prop) (σ : St) (H : Hp) (μ : Mu) (r : Res (List D)) (R : It → Hp → Prop) : Prop := OkG (fun H' μ' ds J => Walks K F H' μ' J ds) K W F σ H μ r R
def SI (X : Cx) (W : WX) (tg e : Expr) (m : EI) : Prop := PI X tg e (tG (fun F H μ ds J => Walks X.K F H μ J ds) X.pn X.K W m)
theorem PI.of {X : Cx} {g e : Expr} {t t' : TI} (h : PI X g e t) (i : ∀ σ H Q, t' σ H Q → t σ H Q) : PI X g e t' := ⟨fun pins s σ H Q I q => h.run pins s σ H Q I (i σ H Q q)⟩
section
variable {X : Cx} {W : WX} {tg e a b : Expr} {me : E} {ml : EL} {pos p : Pos}
/-- a list, a tuple, the script: what does not change -/
def seqOf : D → Option (List D)
  | .lst ds => some ds
  | .tup ds => some ds
  | .scr ns => some (ns.map .int)
  | _ => none
def iSeq (e : E) : EI := fun ρ s => (e ρ s).bind fun d s => Res.of (seqOf d) s
theorem walks_list {K : PySem.W.Frag} {F : Addr → Prop} {H0 : Hp} {μ0 : Mu} {a : Addr} {xs : List V} {ds : List D} (h : H0 a = some (.lst xs) ∧ a ∉ μ0 ∧ ¬ F a) (r : RVs K H0 μ0 F ds xs) : Walks K F H0 μ0 (Itl K a) ds where
  go := fun i d H μ F2 st e kp rs => by
    have q : SqL K H a xs := .inl (.inl (kp.pure a _ h.1 h.2.1 h.2.2).1)
    obtain ⟨v, e2, rv⟩ := r.get e
    refine ⟨⟨xs, v, q, e2⟩, fun x H2 hy => ?_⟩
    obtain ⟨rfl, hy⟩ := hy
    have := hy xs q
    rw [e2] at this; cases this
    exact ⟨rs, .refl, RV.kp kp rv⟩
  stop := fun i H μ F2 hl kp => ⟨xs, .inl (.inl (kp.pure a _ h.1 h.2.1 h.2.2).1), by rw [r.length]; exact hl⟩
theorem walks_script {K : PySem.W.Frag} {F : Addr → Prop} {H0 : Hp} {μ0 : Mu} {a : Addr} {ns : List Int} (h : (∃ o, H0 a = some (.frz o (.lst (ns.map V.int))) ∧ a ∉ μ0 ∧ ¬ F a) ∨ KLst K a (ns.map V.int)) : Walks K F H0 μ0 (Itl K a) (ns.map .int) := by
  have key : ∀ H μ F2, Kp H0 μ0 F H μ F2 → SqL K H a (ns.map V.int) := fun H μ F2 f => by
    rcases h with ⟨o, h1, h2, h3⟩ | h
    · exact .inl (.inr ⟨o, (f.pure a _ h1 h2 h3).1⟩)
    · exact .inr h
  refine ⟨fun i d H μ F2 st e f rs => ?_, fun i H μ F2 hl f => ⟨_, key H μ F2 f, by rw [List.length_map] at hl ⊢; exact hl⟩⟩
  rw [List.getElem?_map] at e
  obtain ⟨n, e1, e2⟩ := Option.map_eq_some_iff.mp e
  subst e2
  have e3 : (ns.map V.int)[i]? = some (.int n) := by rw [List.getElem?_map, e1]; rfl
  refine ⟨⟨_, _, key H μ F2 f, e3⟩, fun x H2 hy => ?_⟩
  obtain ⟨rfl, hy⟩ := hy
  have := hy _ (key _ μ F2 f)
  rw [e3] at this; cases this
  exact ⟨rs, .refl, RV_int n⟩
theorem walks_tuple {K : PySem.W.Frag} {F : Addr → Prop} {H0 : Hp} {μ0 : Mu} {a : Addr} {xs : List V} {ds : List D} (h : (H0 a = some (.tup xs) ∧ a ∉ μ0 ∧ ¬ F a) ∨ KTup K a xs) (r : RVs K H0 μ0 F ds xs) : Walks K F H0 μ0 (Itt K a) ds := by
  have key : ∀ H μ F2, Kp H0 μ0 F H μ F2 → SqT K H a xs := fun H μ F2 f => by
    rcases h with ⟨h1, h2, h3⟩ | h
    · exact .inl (.inl (f.pure a _ h1 h2 h3).1)
    · exact .inr h
  refine ⟨fun i d H μ F2 st e f rs => ?_, fun i H μ F2 hl f => ⟨xs, key H μ F2 f, by rw [r.length]; exact hl⟩⟩
  obtain ⟨v, e2, rv⟩ := r.get e
  refine ⟨⟨xs, v, key H μ F2 f, e2⟩, fun x H2 hy => ?_⟩
  obtain ⟨rfl, hy⟩ := hy
  have := hy xs (key _ μ F2 f)
  rw [e2] at this; cases this
  exact ⟨rs, .refl, RV.kp f rv⟩
def isLst : D → Bool
  | .lst _ => true
  | .scr _ => true
  | _ => false
def iLst (e : E) : EI := fun ρ s => (e ρ s).bind fun d s => if isLst d = true then Res.of (seqOf d) s else .bad
def isTup : D → Bool
  | .tup _ => true
  | _ => false
def iTp (e : E) : EI := fun ρ s => (e ρ s).bind fun d s => if isTup d = true then Res.of (seqOf d) s else .bad
theorem si_lst (he : SE X W e me) : SI X W tg e (iLst me) := PI.of (pi_list he) fun σ H Q ⟨ρ, μ, F, G, st, a, h⟩ => by
  refine tG_at (k := fun (d : D) s => if isLst d = true then Res.of (seqOf d) s else .bad) a h fun x H1 μ1 st1 d a1 f1 r1 h1 => ?_
  cases d with
  | lst ds =>
    unfold RV at r1
    obtain ⟨b, xs, e1, q1, r1⟩ := r1
    exact ⟨b, e1, ⟨xs, .inl (.inl q1.1)⟩, h1 _ H1 μ1 .refl a1.s (walks_list q1 r1)⟩
  | scr ns =>
    unfold RV at r1
    obtain ⟨b, e1, q1⟩ := r1
    refine ⟨b, e1, ⟨ns.map V.int, ?_⟩, h1 _ H1 μ1 .refl a1.s (walks_script q1)⟩
    rcases q1 with ⟨o, q1, _⟩ | q1
    · exact .inl (.inr ⟨o, q1⟩)
    · exact .inr q1
  | _ => exact h1.elim
theorem si_tup (he : SE X W e me) : SI X W tg e (iTp me) := PI.of (pi_tup he) fun σ H Q ⟨ρ, μ, F, G, st, a, h⟩ => by
  refine tG_at (k := fun (d : D) s => if isTup d = true then Res.of (seqOf d) s else .bad) a h fun x H1 μ1 st1 d a1 f1 r1 h1 => ?_
  cases d with
  | tup ds =>
    unfold RV at r1
    obtain ⟨b, xs, e1, q1, r1⟩ := r1
    refine ⟨b, e1, ⟨xs, ?_⟩, h1 _ H1 μ1 .refl a1.s (walks_tuple q1 r1)⟩
    rcases q1 with ⟨q1, _⟩ | q1
    · exact .inl (.inl q1)
    · exact .inr q1
  | _ => exact h1.elim
/-- lo, lo + 1, .. -/
def intsD (lo : Int) (n : Nat) : List D := (List.range n).map fun (i : Nat) => D.int (lo + (i : Int))
theorem walks_range {K : PySem.W.Frag} {F : Addr → Prop} {H0 : Hp} {μ0 : Mu} (lo : Int) (n : Nat) : Walks K F H0 μ0 (Itr lo n) (intsD lo n) := by
  refine ⟨fun i d H μ F2 st e f rs => ?_, fun i H μ F2 hl f => ?_⟩
  · unfold intsD at e
    rw [List.getElem?_map] at e
    obtain ⟨k, e1, e2⟩ := Option.map_eq_some_iff.mp e
    have hk : i < n ∧ k = i := by
      have := List.getElem?_eq_some_iff.mp e1
      obtain ⟨h1, h2⟩ := this
      rw [List.length_range] at h1
      simp at h2
      exact ⟨h1, h2.symm⟩
    obtain ⟨hk, rfl⟩ := hk
    subst e2
    refine ⟨hk, fun x H2 hy => ?_⟩
    obtain ⟨rfl, rfl⟩ := hy
    exact ⟨rs, .refl, RV_int _⟩
  · unfold intsD at hl
    rw [List.length_map, List.length_range] at hl
    exact hl
def big : Int := 4611686018427387904
def rng1K (ds : List D) (s : Store) : Res (List D) := match ds with
  | [.int j] => if -big ≤ j ∧ j < big then .ok (intsD 0 j.toNat) s else .bad
  | _ => .bad
def rng2K (ds : List D) (s : Store) : Res (List D) := match ds with
  | [.int i, .int j] => if -big ≤ i ∧ i < big ∧ -big ≤ j ∧ j < big then .ok (intsD i (j - i).toNat) s else .bad
  | _ => .bad
def iRng1 (es : EL) : EI := fun ρ s => (es ρ s).bind rng1K
def iRng2 (es : EL) : EI := fun ρ s => (es ρ s).bind rng2K
theorem big_eq : big = 2 ^ 62 := by decide
theorem RVs1i {K : PySem.W.Frag} {H : Hp} {μ : Mu} {F : Addr → Prop} {j : Int} {xs : List V} (r : RVs K H μ F [.int j] xs) : xs = [.int j] := by
  simp only [RVs, RV] at r
  obtain ⟨v, ys, e1, r1, e2⟩ := r
  rw [e1, r1, e2]
theorem RVs2i {K : PySem.W.Frag} {H : Hp} {μ : Mu} {F : Addr → Prop} {i j : Int} {xs : List V} (r : RVs K H μ F [.int i, .int j] xs) : xs = [.int i, .int j] := by
  simp only [RVs, RV] at r
  obtain ⟨v, ys, e1, r1, w, zs, e2, r2, e3⟩ := r
  rw [e1, e2, e3, r1, r2]
theorem si_rng1 (hg : Gl X "range") (hm : X.mg "range" = none) (ha : SA X W [a] ml) (hs : starEach [a] X.env = [(false, eval a X.env)] := by rfl) : SI X W tg (.Call (.Name "range" p) [a] [] pos) (Dn.iRng1 ml) :=
  PI.of (pi_range1 hg hm ha hs) fun σ H Q ⟨ρ, μ, F, G, st, a, h⟩ => by
    refine tG_at (k := rng1K) a h fun xs H1 μ1 st1 ds a1 f1 r1 h1 => ?_
    unfold rng1K at h1
    split at h1
    · split at h1
      · rename_i j hj
        rw [big_eq] at hj
        exact ⟨j, RVs1i r1, hj.1, hj.2, h1 _ H1 μ1 .refl a1.s (walks_range 0 j.toNat)⟩
      · exact h1.elim
    · exact h1.elim
theorem si_rng2 (hg : Gl X "range") (hm : X.mg "range" = none) (ha : SA X W [a, b] ml) (hs : starEach [a, b] X.env = [(false, eval a X.env), (false, eval b X.env)] := by rfl) (hs2 : starEach [b] X.env = [(false, eval b X.env)] := by rfl) : SI X W tg (.Call (.Name "range" p) [a, b] [] pos) (Dn.iRng2 ml) :=
  PI.of (pi_range2 hg hm ha hs hs2) fun σ H Q ⟨ρ, μ, F, G, st, a, h⟩ => by
    refine tG_at (k := rng2K) a h fun xs H1 μ1 st1 ds a1 f1 r1 h1 => ?_
    unfold rng2K at h1
    split at h1
    · split at h1
      · rename_i i j hj
        rw [big_eq] at hj
        exact ⟨i, j, RVs2i r1, hj, h1 _ H1 μ1 .refl a1.s (walks_range i (j - i).toNat)⟩
      · exact h1.elim
    · exact h1.elim

/-! ### for, while -/
def forM (t : Tgt) (body : S) : List D → S
  | [], ρ, s => .nx ρ s
  | d :: ds, ρ, s => match setT t d ρ with
    | none => .bad
    | some ρ' => match body ρ' s with
      | .nx ρ s => forM t body ds ρ s
      | .ct ρ s => forM t body ds ρ s
      | .bk ρ s => .nx ρ s
      | r => r
def sFor (t : Tgt) (it : EI) (body : S) : S := fun ρ s => (it ρ s).to ρ fun ds s => forM t body ds ρ s
theorem ss_for {iter : Expr} {body : List Stmt} {mi : EI} {t : Tgt} {mb : S} (hp : PassesOwn (model X.prog X.w) X.A X.env X.xe) (hc : X.calm = true) (hi : SI X W tg iter mi) (hg : SG X tg t) (hb : SB X W body mb)
    (hs : ∀ x, foldedSetIterable iter X.env x = pure x := by intro _; rfl) : SS X W (.For tg iter body [] pos) (sFor t mi mb) := PS.of (ps_for hp hc hi hg hb hs) fun D σ H ⟨ρ, μ, F, G, st, a, h⟩ => by
  refine tS_e (k := fun ds s => forM t mb ds ρ s) a h fun J H1 μ1 st1 ds a1 f1 wk h1 => ?_
  refine ⟨fun i m σ H => m = ds.length - i ∧ i ≤ ds.length ∧ ∃ ρ μ F' G' st, Ev H1 μ1 F G H μ F' G' ∧ At X.pn X.K H μ F' G' ρ σ st ∧ OkS X.pn X.K W H μ F' G' (forM t mb (ds.drop i) ρ st) D, ⟨ds.length, by simp, Nat.zero_le _, ρ, μ1, F, G, st1, a1.ev .refl, a1, h1⟩, ?_⟩
  rintro i m σ2 H2 ⟨rfl, hi2, ρ2, μ2, F2, G2, st2, e2, a2, h2⟩
  have kp := e2.kp a1.gf
  by_cases hlt : i < ds.length
  · have ed : ds.drop i = ds[i] :: ds.drop (i + 1) := List.drop_eq_getElem_cons hlt
    rw [ed] at h2
    obtain ⟨g1, g2⟩ := wk.go i ds[i] H2 μ2 F2 st2 (List.getElem?_eq_getElem hlt) kp a2.s
    refine .inr ⟨g1, fun σ3 H3 => ∃ ρ μ F' G' st, Ev H1 μ1 F G H3 μ F' G' ∧ At X.pn X.K H3 μ F' G' ρ σ3 st ∧ OkS X.pn X.K W H3 μ F' G' (forM t mb (ds.drop (i + 1)) ρ st) D, fun σ3 H3 h3 => ⟨ds.length - (i + 1), by omega, rfl, hlt, h3⟩, fun x H3 hy => ?_⟩
    obtain ⟨rs3, f3, rv3⟩ := g2 x H3 hy
    have a3 := a2.fut f3 rs3
    have e3 := e2.trans (a2.ev f3)
    have h3 := OkS.ev (a2.ev f3) h2
    have h3 : OkS X.pn X.K W H3 μ2 F2 G2 (match setT t ds[i] ρ2 with
    | none => .bad
    | some ρ' => match mb ρ' st2 with
      | .nx ρ s => forM t mb (ds.drop (i + 1)) ρ s
      | .ct ρ s => forM t mb (ds.drop (i + 1)) ρ s
      | .bk ρ s => .nx ρ s
      | r => r) D := h3
    cases hs : setT t ds[i] ρ2 with
    | none => rw [hs] at h3; exact h3.elim
    | some ρ3 =>
      rw [hs] at h3
      have h3 : OkS X.pn X.K W H3 μ2 F2 G2 (match mb ρ3 st2 with
      | .nx ρ s => forM t mb (ds.drop (i + 1)) ρ s
      | .ct ρ s => forM t mb (ds.drop (i + 1)) ρ s
      | .bk ρ s => .nx ρ s
      | r => r) D := h3
      refine ⟨ρ2, μ2, F2, G2, st2, ds[i], ρ3, a3, rv3, hs, fun σ4 a4 _ => ?_⟩
      refine ⟨ρ3, μ2, F2, G2, st2, a4, ?_⟩
      cases hm : mb ρ3 st2 with
      | nx ρ s => rw [hm] at h3; exact fun σ5 H5 μ5 F5 G5 e5 a5 => ⟨ρ, μ5, F5, G5, s, e3.trans e5, a5, OkS.ev e5 h3⟩
      | ct ρ s => rw [hm] at h3; exact fun σ5 H5 μ5 F5 G5 e5 a5 => ⟨ρ, μ5, F5, G5, s, e3.trans e5, a5, OkS.ev e5 h3⟩
      | bk ρ s => rw [hm] at h3; exact h3
      | rt d s => rw [hm] at h3; exact h3
      | ex C fs ρ s => rw [hm] at h3; exact h3
      | bad => rw [hm] at h3; exact h3
  · have e : i = ds.length := by omega
    subst e
    rw [List.drop_length] at h2
    exact .inl ⟨wk.stop _ H2 μ2 F2 (Nat.le_refl _) kp, h2 σ2 H2 μ2 F2 G2 (a2.ev .refl) a2⟩

def whileM (c : ET) (body : S) : Nat → S
  | 0, _, _ => .bad
  | n + 1, ρ, s => (c ρ s).to ρ fun b s => if b = true then (match body ρ s with
      | .nx ρ s => whileM c body n ρ s
      | .ct ρ s => whileM c body n ρ s
      | .bk ρ s => .nx ρ s
      | r => r) else .nx ρ s
theorem ss_while {c : Expr} {body : List Stmt} {mc : ET} {mb : S} (n : Nat) (hp : PassesOwn (model X.prog X.w) X.A X.env X.xe) (hc : ST X W c mc) (hb : SB X W body mb) : SS X W (.While c body [] pos) (whileM mc mb n) := PS.of (ps_while hp hc hb) fun D σ H ⟨ρ, μ, F, G, st, a, h⟩ => by
  refine ⟨fun m σ H => ∃ ρ μ F G st, At X.pn X.K H μ F G ρ σ st ∧ OkS X.pn X.K W H μ F G (whileM mc mb m ρ st) D, ⟨n, ρ, μ, F, G, st, a, h⟩, ?_⟩
  rintro m σ2 H2 ⟨ρ2, μ2, F2, G2, st2, a2, h2⟩
  cases m with
  | zero => exact h2.elim
  | succ m =>
    refine tS_e (k := fun b s => if b = true then (match mb ρ2 s with
      | .nx ρ s => whileM mc mb m ρ s
      | .ct ρ s => whileM mc mb m ρ s
      | .bk ρ s => .nx ρ s
      | r => r) else .nx ρ2 s) a2 h2 fun x H3 μ3 st3 b a3 f3 r3 h3 => ?_
    subst r3
    cases b with
    | true =>
      rw [if_pos rfl]
      rw [if_pos rfl] at h3
      refine ⟨fun σ H => ∃ ρ μ F G st, At X.pn X.K H μ F G ρ σ st ∧ OkS X.pn X.K W H μ F G (whileM mc mb m ρ st) D, fun σ' H' h' => ⟨m, Nat.lt_succ_self _, h'⟩, ρ2, μ3, F2, G2, st3, a3, ?_⟩
      cases hm : mb ρ2 st3 with
      | nx ρ s => rw [hm] at h3; exact fun σ5 H5 μ5 F5 G5 e5 a5 => ⟨ρ, μ5, F5, G5, s, a5, OkS.ev e5 h3⟩
      | ct ρ s => rw [hm] at h3; exact fun σ5 H5 μ5 F5 G5 e5 a5 => ⟨ρ, μ5, F5, G5, s, a5, OkS.ev e5 h3⟩
      | bk ρ s => rw [hm] at h3; exact h3
      | rt d s => rw [hm] at h3; exact h3
      | ex C fs ρ s => rw [hm] at h3; exact h3
      | bad => rw [hm] at h3; exact h3
    | false =>
      rw [if_neg Bool.false_ne_true]
      rw [if_neg Bool.false_ne_true] at h3
      exact h3 σ2 H3 μ3 F2 G2 (a3.ev .refl) a3
end
end Dn

/-! Dn: defs, calls, what the head tells. -/
namespace Dn
open PySem PySem.Spec L2
open PyProof.Rows hiding St RelV

/-! ### what a def promises -/
abbrev M := List D → Store → Res D
def spOf (K : PySem.W.Frag) (n : Nat) (m : M) : Sp := fun vs H Q E => ∃ μ F st ds, RS K H μ F st ∧ RVs K H μ F ds vs ∧ ds.length = n ∧ OkE K (fun c d _ H => E c d H) F [] H μ (m ds st) Q
def SRes.fin (r : SRes) : Res D := match r with
  | .nx _ s => .ok .non s
  | .rt d s => .ok d s
  | .ex C fs _ s => .ex C fs s
  | _ => .bad
/-- a def's body at its arguments; N: how many slots -/
def fnM (N : Nat) (body : S) : M := fun ds s => (body (ds.map .pu ++ List.replicate (N - ds.length) .no) s).fin
section
variable {pn : Pn} {K : PySem.W.Frag} {W : WX} {H : Hp} {μ : Mu} {F : Addr → Prop} {st : Store}
theorem RL.start {ds : List D} {vs : List V} (r : RVs K H μ F ds vs) (N : List Str) : RL pn K H μ F ownNo (ds.map .pu ++ List.replicate (N.length - ds.length) .no) (L2.start N vs) := by
  have hl := r.length
  refine ⟨by unfold L2.start; simp [hl], fun i sl e => ?_, fun i j b c d e a h1 _ _ _ => ?_⟩
  · by_cases hi : i < ds.length
    · rw [List.getElem?_append_left (by simpa using hi), List.getElem?_map] at e
      obtain ⟨d, e1, e2⟩ := Option.map_eq_some_iff.mp e
      subst e2
      obtain ⟨v, e3, rv⟩ := r.get e1
      refine ⟨some v, ?_, v, rfl, rv⟩
      unfold L2.start
      rw [List.getElem?_append_left (by simpa [hl] using hi), List.getElem?_map, e3]
      rfl
    · rw [List.getElem?_append_right (by simpa using hi), List.getElem?_replicate] at e
      split at e
      · rename_i h
        cases e
        refine ⟨none, ?_, True.intro⟩
        unfold L2.start
        rw [List.length_map] at h
        rw [List.getElem?_append_right (by simp [hl]; omega), List.getElem?_replicate, if_pos (by rw [List.length_map, hl]; exact h)]
      · cases e
  · by_cases hi : i < ds.length
    · rw [List.getElem?_append_left (by simpa using hi), List.getElem?_map] at h1
      obtain ⟨d, e1, e2⟩ := Option.map_eq_some_iff.mp h1
      cases e2
    · rw [List.getElem?_append_right (by simpa using hi), List.getElem?_replicate] at h1
      split at h1 <;> cases h1
/-- THE RULE for a def -/
theorem fn_ok {P : Program} {w : World} {mg : Str → Option Value} {base : Heap} {x qual : Str} {params : Arguments} {body : List Stmt} {scope : Scope} {dvs : List V} {kws : List (Str × V)} {f : Addr} {fd : FuncData} {N ps : List Str} {k : Nat} {mb : S}
    (Fu : FunD K x qual params body scope dvs kws f fd) (S : FnScope N ps scope)
    (hb : ∀ (cdv : Value) (A : Around) (outer : List Env) (s : Shared) (H : Hp) (E : XK), Room k (A.deeper (envOfC qual scope s.heap.objs.size f cdv)) →
      SB (cxOf (L2.CX P w) P w K mg base N qual scope f cdv A outer s H E) (fun c d _ H => E c d H) body mb) : FnOk P w K mg base (L2.CX P w) (k + 1) f fd ps (spOf K ps.length (fnM N.length mb)) := by
  refine Fu.ok S (fun vs H Q E ⟨μ, F, st, ds, _, r, hl, _⟩ => by rw [r.length]; exact hl) fun cdv A outer s H vs Q E hr ⟨μ, F, st, ds, rs, r, hl, h⟩ => ⟨_, hb cdv A outer s H E hr, _, μ, F, ownNo, st, ⟨RL.start r N, rs, fun _ z => False.elim z⟩, ?_⟩
  unfold fnM at h
  have bk : ∀ {H' : Hp} {μ' : Mu} {F' : Addr → Prop} {G' : Own}, Ev H μ F ownNo H' μ' F' G' → ∀ a, F a → F' a := fun e a z => (e.sub a z).elim id fun z => False.elim z
  show OkS [] K (fun c d _ H => E c d H) H μ F ownNo (mb _ st) _
  cases e : mb (ds.map .pu ++ List.replicate (N.length - ds.length) .no) st with
  | nx ρ s => rw [e] at h; exact fun σ H' μ' F' G' e' a' => h .non H' μ' e'.fut (a'.s.weak (bk e')) RV_non
  | rt d s => rw [e] at h; exact fun v H' μ' F' G' e' a' rv => h v H' μ' e'.fut (a'.weak (bk e')) (RV.weak (bk e') rv)
  | ex C fs ρ s => rw [e] at h; exact fun d σ H' μ' F' G' xs e' a' q1 q2 q3 q4 => h d H' μ' xs e'.fut (a'.s.weak (bk e')) q1 q2 (fun z => q3 (bk e' d z)) (RVf.kp ⟨fun a o h n nF => ⟨h, n, fun z => nF (bk e' a z)⟩, fun _ _ h => h⟩ q4)
  | bk ρ s => rw [e] at h; exact h.elim
  | ct ρ s => rw [e] at h; exact h.elim
  | bad => rw [e] at h; exact h.elim
end

/-! ### the frame of a def -/
structure Fr (X : Cx) (W : WX) : Prop where
  hu : X.A.units + 64 < cLine
  hc : X.calm = true
  tk : Takes X W
  hp : PassesOwn (model X.prog X.w) X.A X.env X.xe
theorem Fr.of {P : Program} {w : World} {K : PySem.W.Frag} {mg : Str → Option Value} {base : Heap} {N : List Str} {qual : Str} {scope : Scope} {f : Addr} {cdv : Value} {A : Around} {outer : List Env} {s : Shared} {H : Hp} {E : XK} {k : Nat} (hr : Room k (A.deeper (envOfC qual scope s.heap.objs.size f cdv))) :
    Fr (cxOf (L2.CX P w) P w K mg base N qual scope f cdv A outer s H E) (fun c d _ H => E c d H) :=
  ⟨hr.units, rfl, takes_of rfl rfl rfl rfl, passes_of (K := fun e s'' => L2.CX P w outer H s E e s'') rfl⟩

/-! ### calls -/
def pick {α : Type} (perm : List Nat) (l : List α) : List α := perm.filterMap fun i => l[i]?
theorem Vals.pick {vs : List V} {us : List Value} (r : Vals vs us) : ∀ perm : List Nat, Vals (pick perm vs) (pick perm us)
  | [] => .nil
  | i :: perm => by
    have ih := Vals.pick r perm
    unfold Dn.pick at ih ⊢
    rw [List.filterMap_cons, List.filterMap_cons]
    cases e : vs[i]? with
    | none =>
      have : us[i]? = none := by
        rw [List.getElem?_eq_none_iff] at e ⊢
        rw [← r.length]; exact e
      rw [this]
      exact ih
    | some v =>
      obtain ⟨u, e2, rv⟩ := r.get e
      rw [e2]
      exact .cons rv ih
theorem RVs.pick {K : PySem.W.Frag} {H : Hp} {μ : Mu} {F : Addr → Prop} {ds : List D} {vs : List V} (r : RVs K H μ F ds vs) : ∀ perm : List Nat, RVs K H μ F (pick perm ds) (pick perm vs)
  | [] => RVs.nil
  | i :: perm => by
    have ih := RVs.pick r perm
    unfold Dn.pick at ih ⊢
    rw [List.filterMap_cons, List.filterMap_cons]
    cases e : ds[i]? with
    | none =>
      have : vs[i]? = none := by
        rw [List.getElem?_eq_none_iff] at e ⊢
        rw [r.length]; exact e
      rw [this]
      exact ih
    | some v =>
      obtain ⟨u, e2, rv⟩ := r.get e
      rw [e2]
      exact RVs.cons rv ih
/-- the call of c with positional arguments and keywords ks: m tells what comes of the written arguments -/
def CallsD (X : Cx) (W : WX) (c : Value) (ks : List Str) (m : M) : Prop := ∀ (pins : List (Addr × Obj)) (s : Shared) (σ : St) (H : Hp) (us ws : List Value) (vs zs : List V) (Q : VK) (μ : Mu) (F : Addr → Prop) (st : Store) (ds es : List D),
  Inv X pins σ H s → Vals vs us → Vals zs ws → ws.length = ks.length → RS X.K H μ F st → RVs X.K H μ F ds vs → RVs X.K H μ F es zs → OkE X.K W F σ H μ (m (ds ++ es) st) Q → wpAny (model X.prog X.w) X.A (call c us (ks.zip ws)) (EP X pins σ Q) X.xe s
/-- how a def binds np positional values and the keywords ks; dfl: the defaults that fill up; perm: where each parameter's value stands among them -/
def KB (K : PySem.W.Frag) (fd : FuncData) (ps : List Str) (np : Nat) (ks : List Str) (perm : List Nat) (dfl : List D) : Prop := ∃ (its : List Value) (dvs : List V), Vals dvs its ∧ (∀ H μ F, RVs K H μ F dfl dvs) ∧
  ∀ (s : Shared) (us ws : List Value), K.In s.heap → us.length = np → ws.length = ks.length → BindsTo s fd ⟨us, ks.zip ws⟩ (ps.zip (pick perm (us ++ ws ++ its)))
def argsM (np nk : Nat) (perm : List Nat) (dfl : List D) (m : M) : M := fun ds s => if ds.length = np + nk ∧ (pick perm (ds ++ dfl)).length = perm.length then m (pick perm (ds ++ dfl)) s else .bad
section
variable {X : Cx} {W : WX} {k np : Nat} {f : Addr} {fd : FuncData} {ps ks : List Str} {perm : List Nat} {dfl : List D} {m : M}
theorem OkG.at {α β : Type} {P : Hp → Mu → α → β → Prop} {K : PySem.W.Frag} {F : Addr → Prop} {σ : St} {H : Hp} {μ : Mu} {r : Res α} {Q : β → Hp → Prop} (h : OkG P K W F σ H μ r Q) : OkG P K (fun c d _ H => W c d σ H) F [] H μ r Q := by
  cases r with
  | ok d s => exact h
  | ex C fs s => exact h
  | bad => exact h
theorem fn_calls (Fn : FnOk X.prog X.w X.K X.mg X.base (L2.CX X.prog X.w) k f fd ps (spOf X.K ps.length m)) (hr : Room k X.A) (tk : Takes X W) (hb : KB X.K fd ps np ks perm dfl) (hp : perm.length = ps.length) : CallsD X W (.ref f) ks (argsM np ks.length perm dfl m) := by
  intro pins s σ H us ws vs zs Q μ F st ds es I r rz lz rs rd re h
  obtain ⟨its, dvs, rt, rdf, hb⟩ := hb
  unfold argsM at h
  split at h
  · rename_i hl
    have l1 := rd.length
    have l2 := re.length
    have l3 := r.length
    have l4 := rz.length
    rw [List.length_append] at hl
    have hus : us.length = np := by omega
    have r2 : Vals (pick perm (vs ++ zs ++ dvs)) (pick perm (us ++ ws ++ its)) := Vals.pick ((r.append rz).append rt) perm
    have r3 : RVs X.K H μ F (pick perm (ds ++ es ++ dfl)) (pick perm (vs ++ zs ++ dvs)) := RVs.pick ((rd.append re).append (rdf H μ F)) perm
    have hq : spOf X.K ps.length m (pick perm (vs ++ zs ++ dvs)) H Q (WE W σ) := ⟨μ, F, st, _, rs, r3, by rw [hl.2, hp], h.at⟩
    refine wpAny_call (codeAny_mono (Fn.run X.A X.stack s H ⟨us, ks.zip ws⟩ _ _ Q (WE W σ) hr I.env0 (hb s us ws I.kIn hus lz) r2 hq) fun r s' hq => ?_)
    cases r with
    | error e => exact passAt tk σ pins H s e s' I hq
    | ok fl =>
      cases fl with
      | ret u => exact I.after hq
      | next => exact False.elim hq
      | brk => exact False.elim hq
      | cont => exact False.elim hq
  · exact h.elim
variable {x : Str} {p pos : Pos} {e : Expr} {es : List Expr} {kws : List Keyword} {ml mk : EL} {c : Value}
def eCall (m : M) (a : EL) : E := fun ρ s => (a ρ s).bind fun ds s => m ds s
def eCallK (nk : Nat) (m : M) (a b : EL) : E := fun ρ s => (a ρ s).bind fun ds s => (b ρ s).bind fun es s => if es.length = nk then m (ds ++ es) s else .bad
theorem call_at {σ : St} {H : Hp} {Q : VK} (h : tG (fun F H μ d v => RV X.K H μ F d v) X.pn X.K W (eCall m ml) σ H Q) (C : CallsD X W c [] m) :
    tG (fun F H μ d v => RVs X.K H μ F d v) X.pn X.K W ml σ H fun vs H1 => ∀ pins s us, Inv X pins σ H1 s → Vals vs us → wpAny (model X.prog X.w) X.A (call c us) (EP X pins σ Q) X.xe s := by
  obtain ⟨ρ, μ, F, G, st, a, h⟩ := h
  refine tG_at (k := fun ds s => m ds s) a h fun vs H1 μ1 st1 ds a1 f1 r1 h1 => fun pins s us I r => ?_
  exact C pins s σ H1 us [] vs [] Q μ1 F st1 ds [] I r .nil rfl a1.s r1 RVs.nil (by rw [List.append_nil]; exact h1)
/-- x(e, ..), a name of the module -/
theorem se_call (C : CallsD X W c [] m) (hg : Gl X x) (hm : X.mg x = some c) (hk : PySem.W.keepIn X.K c = true) (ha : SA X W (e :: es) ml) (hdb : (x == ("__debug__" : Str)) = false := by decide)
    (he : starEach (e :: es) X.env = (false, eval e X.env) :: starEach es X.env := by rfl) (hpl : (backTo pos (starEach es X.env)).any (·.1) = false := by rfl) : SE X W (.Call (.Name x p) (e :: es) [] pos) (eCall m ml) := by
  refine ⟨fun pins s σ H Q I h => ?_⟩
  refine wpAny_Call_Name_kw (ld_glob I hg hm ?_ hdb)
  refine PySem.W.callWith_K (h₀ := X.base) I.ok.mod.kin hk (thn (ha.run pos pins s σ H _ I (call_at h C)) fun us s1 ⟨vs, H1, I1, r, q⟩ => ⟨I1.kIn, ?_⟩) he hpl
  exact q pins s1 us I1 r
theorem se_call0 (C : CallsD X W c [] m) (hg : Gl X x) (hm : X.mg x = some c) (hk : PySem.W.keepIn X.K c = true) (hdb : (x == ("__debug__" : Str)) = false := by decide) : SE X W (.Call (.Name x p) [] [] pos) (eCall m eNil) := by
  refine ⟨fun pins s σ H Q I ⟨ρ, μ, F, G, st, a, h⟩ => ?_⟩
  refine wpAny_Call_Name_kw (ld_glob I hg hm ?_ hdb)
  exact PySem.W.callWith_K0 I.kIn hk (C pins s σ H [] [] [] [] Q μ F st [] [] I .nil .nil rfl a.s RVs.nil RVs.nil h)
/-- the values of keywords -/
def SK (X : Cx) (W : WX) (kws : List Keyword) (m : EL) : Prop := PK X kws (tG (fun F H μ d v => RVs X.K H μ F d v) X.pn X.K W m)
theorem PK.of {X : Cx} {e : List Keyword} {t t' : TA} (h : PK X e t) (i : ∀ σ H Q, t' σ H Q → t σ H Q) : PK X e t' := ⟨fun pos pins s σ H Q I q => h.run pos pins s σ H Q I (i σ H Q q)⟩
theorem sk_nil : SK X W [] eNil := PK.of pk_nil fun σ H Q ⟨ρ, μ, F, G, st, a, h⟩ => h [] H μ .refl a.s RVs.nil
theorem sk_cons {nm : Option Str} {kpos : Pos} {me : E} (ha : SE X W e me) (hr : SK X W kws mk) : SK X W (⟨nm, e, kpos⟩ :: kws) (eCons me mk) := PK.of (pk_cons ha hr) fun σ H Q ⟨ρ, μ, F, G, st, a, h⟩ => by
  refine tG_at (k := fun d s => (mk ρ s).bind fun ds s => .ok (d :: ds) s) a h fun x H1 μ1 st1 d a1 f1 r1 h1 => ?_
  refine tG_at (k := fun ds s => .ok (d :: ds) s) a1 h1 fun xs H2 μ2 st2 ds a2 f2 r2 h2 => ?_
  exact h2 _ H2 μ2 .refl a2.s (RVs.cons (RV.kp f2.kp0 r1) r2)
theorem callK_at {σ : St} {H : Hp} {Q : VK} (h : tG (fun F H μ d v => RV X.K H μ F d v) X.pn X.K W (eCallK ks.length m ml mk) σ H Q) (C : CallsD X W c ks m) :
    tG (fun F H μ d v => RVs X.K H μ F d v) X.pn X.K W ml σ H fun vs H1 => tG (fun F H μ d v => RVs X.K H μ F d v) X.pn X.K W mk σ H1 fun zs H2 => ∀ pins s us ws, Inv X pins σ H2 s → Vals vs us → Vals zs ws → wpAny (model X.prog X.w) X.A (call c us (ks.zip ws)) (EP X pins σ Q) X.xe s := by
  obtain ⟨ρ, μ, F, G, st, a, h⟩ := h
  refine tG_at (k := fun ds s => (mk ρ s).bind fun es s => if es.length = ks.length then m (ds ++ es) s else .bad) a h fun vs H1 μ1 st1 ds a1 f1 r1 h1 => ?_
  refine tG_at (k := fun es s => if es.length = ks.length then m (ds ++ es) s else .bad) a1 h1 fun zs H2 μ2 st2 es a2 f2 r2 h2 => fun pins s us ws I r rz => ?_
  split at h2
  · rename_i hl
    exact C pins s σ H2 us ws vs zs Q μ2 F st2 ds es I r rz (by rw [← rz.length, r2.length, hl]) a2.s (RVs.kp f2.kp0 r1) r2 h2
  · exact h2.elim
theorem se_callK (C : CallsD X W c ks m) (hg : Gl X x) (hm : X.mg x = some c) (hk : PySem.W.keepIn X.K c = true) (ha : SA X W (e :: es) ml) (hkw : SK X W kws mk) (hall : (backToKw pos (keywordEach kws X.env)).all (·.1.isSome) = true := by rfl) (hks : (backToKw pos (keywordEach kws X.env)).filterMap (·.1) = ks := by rfl)
    (hdb : (x == ("__debug__" : Str)) = false := by decide) (he : starEach (e :: es) X.env = (false, eval e X.env) :: starEach es X.env := by rfl)
    (hpl : ((backTo pos (starEach (e :: es) X.env)).any (·.1) || (backToKw pos (keywordEach kws X.env)).any (·.1.isNone)) = false := by rfl) : SE X W (.Call (.Name x p) (e :: es) kws pos) (eCallK ks.length m ml mk) := by
  refine ⟨fun pins s σ H Q I h => ?_⟩
  refine wpAny_Call_Name_kw (ld_glob I hg hm ?_ hdb)
  refine PySem.W.callWith_KW (h₀ := X.base) I.ok.mod.kin hk hall (thn (ha.run pos pins s σ H _ I (callK_at h C)) fun us s1 ⟨vs, H1, I1, r, q⟩ => ?_) hpl he
  refine thn (hkw.run pos pins s1 σ H1 _ I1 q) fun ws s2 ⟨zs, H2, I2, rz, q2⟩ => ⟨I2.kIn, ?_⟩
  rw [hks]
  exact q2 pins s2 us ws I2 r rz
theorem se_callK0 (C : CallsD X W c ks m) (hg : Gl X x) (hm : X.mg x = some c) (hk : PySem.W.keepIn X.K c = true) (hkw : SK X W kws mk) (hall : (backToKw pos (keywordEach kws X.env)).all (·.1.isSome) = true := by rfl) (hks : (backToKw pos (keywordEach kws X.env)).filterMap (·.1) = ks := by rfl)
    (hdb : (x == ("__debug__" : Str)) = false := by decide)
    (hpl : ((backTo pos (starEach [] X.env)).any (·.1) || (backToKw pos (keywordEach kws X.env)).any (·.1.isNone)) = false := by rfl) : SE X W (.Call (.Name x p) [] kws pos) (eCallK ks.length m eNil mk) := by
  refine ⟨fun pins s σ H Q I ⟨ρ, μ, F, G, st, a, h⟩ => ?_⟩
  refine wpAny_Call_Name_kw (ld_glob I hg hm ?_ hdb)
  refine PySem.W.callWith_KW0 (h₀ := X.base) I.ok.mod.kin hk hall ?_ hpl
  refine thn (hkw.run pos pins s σ H _ I (tG_at (k := fun es s => if es.length = ks.length then m es s else .bad) a h fun zs H2 μ2 st2 es a2 f2 r2 h2 => ?_ : tG (fun F H μ d v => RVs X.K H μ F d v) X.pn X.K W mk σ H fun zs H2 => ∀ pins s ws, Inv X pins σ H2 s → Vals zs ws → wpAny (model X.prog X.w) X.A (call c [] (ks.zip ws)) (EP X pins σ Q) X.xe s)) fun ws s2 ⟨zs, H2, I2, rz, q2⟩ => ⟨I2.kIn, ?_⟩
  · intro pins s ws I rz
    split at h2
    · rename_i hl
      exact C pins s σ H2 [] ws [] zs Q μ2 F st2 [] es I .nil rz (by rw [← rz.length, r2.length, hl]) a2.s RVs.nil r2 h2
    · exact h2.elim
  · rw [hks]
    exact q2 pins s2 ws I2 rz
end

/-! ### what the head tells -/
/-- a value that stands in the written part -/
def relU : V → Value → Bool := He.relB
mutual
def kB (K : PySem.W.Frag) : D → Value → Bool
  | .non, u => (match u with | .none => true | _ => false)
  | .bl b, u => (match u with | .bool c => b == c | _ => false)
  | .int i, u => (match u with | .int j _ => decide (i = j) | _ => false)
  | .str x, u => (match u with | .str y _ => decide (x = y) | _ => false)
  | .glob x, u => (match u with | .ref a => decide (a = He.ga K x) | _ => false)
  | .tup ds, u => (match u with
    | .ref a => (match K.lookup a with
      | some ⟨.type c, _, .seq its _, _⟩ => decide (c = "tuple") && (decide (its.size ≤ sizeLine) && kBs K ds its.toList)
      | _ => false)
    | _ => false)
  | _, _ => false
def kBs (K : PySem.W.Frag) : List D → List Value → Bool
  | [], us => us.isEmpty
  | d :: ds, us => (match us with
    | [] => false
    | u :: us => kB K d u && kBs K ds us)
end
theorem kB_and {a b : Bool} (h : (a && b) = true) : a = true ∧ b = true := Bool.and_eq_true_iff.mp h
mutual
theorem kB_ok {K : PySem.W.Frag} : ∀ (d : D) (u : Value), kB K d u = true → ∃ v, RelV v u ∧ ∀ H μ F, RV K H μ F d v
  | .non, u, h => by
    unfold kB at h
    split at h
    · exact ⟨.non, rfl, fun _ _ _ => RV_non⟩
    · cases h
  | .bl b, u, h => by
    unfold kB at h
    split at h
    · rename_i c
      have e : b = c := eq_of_beq h
      subst e
      exact ⟨.bl b, rfl, fun _ _ _ => RV_bl b⟩
    · cases h
  | .int i, u, h => by
    unfold kB at h
    split at h
    · rename_i j t
      have e : i = j := of_decide_eq_true h
      subst e
      exact ⟨.int i, ⟨t, rfl⟩, fun _ _ _ => RV_int i⟩
    · cases h
  | .str i, u, h => by
    unfold kB at h
    split at h
    · rename_i j t
      have e : i = j := of_decide_eq_true h
      subst e
      exact ⟨.str i, ⟨t, rfl⟩, fun _ _ _ => RV_str i⟩
    · cases h
  | .glob x, u, h => by
    unfold kB at h
    split at h
    · rename_i a
      have e : a = He.ga K x := of_decide_eq_true h
      subst e
      exact ⟨.ref _, rfl, fun _ _ _ => by unfold RV; rfl⟩
    · cases h
  | .tup ds, u, h => by
    unfold kB at h
    split at h
    · rename_i a
      split at h
      · rename_i c _ its n _ hl
        obtain ⟨h1, h2⟩ := kB_and h
        obtain ⟨h3, h4⟩ := kB_and h2
        obtain ⟨vs, r, q⟩ := kBs_ok ds _ h4
        refine ⟨.ref a, rfl, fun H μ F => ?_⟩
        unfold RV
        exact ⟨a, vs, rfl, .inr ⟨_, its, n, hl, congrArg Value.type (of_decide_eq_true h1), rfl, of_decide_eq_true h3, r⟩, q H μ F⟩
      · cases h
    · cases h
  | .lst _, _, h => by simp [kB] at h
  | .dic _, _, h => by simp [kB] at h
  | .obj _ _, _, h => by simp [kB] at h
  | .ref _, _, h => by simp [kB] at h
  | .scr _, _, h => by simp [kB] at h
theorem kBs_ok {K : PySem.W.Frag} : ∀ (ds : List D) (us : List Value), kBs K ds us = true → ∃ vs, Vals vs us ∧ ∀ H μ F, RVs K H μ F ds vs
  | [], us, h => by
    unfold kBs at h
    have e : us = [] := by cases us with | nil => rfl | cons _ _ => cases h
    subst e
    exact ⟨[], .nil, fun _ _ _ => RVs.nil⟩
  | d :: ds, us, h => by
    unfold kBs at h
    split at h
    · cases h
    · obtain ⟨h1, h2⟩ := kB_and h
      obtain ⟨v, r, q⟩ := kB_ok d _ h1
      obtain ⟨vs, r2, q2⟩ := kBs_ok ds _ h2
      exact ⟨v :: vs, .cons r r2, fun H μ F => RVs.cons (q H μ F) (q2 H μ F)⟩
end
/-- the module's name x stands for d -/
def gB (K : PySem.W.Frag) (x : Str) (d : D) : Bool := match PySem.W.nsIn K mainGlobals x with
  | some (some u) => kB K d u
  | _ => false
theorem gB_ok {K : PySem.W.Frag} {h : Heap} {mg : Str → Option Value} {x : Str} {d : D} (X : K.In h) (G : h.Ns mainGlobals mg) (c : gB K x d = true) : Gv K mg x d := by
  unfold gB at c
  split at c
  · rename_i u e
    obtain ⟨v, r, q⟩ := kB_ok d u c
    exact ⟨u, v, PySem.W.mg_of X G e, r, q⟩
  · cases c
/-- facts by names, and what a law checks besides -/
abbrev AlX : Type := He.AlD × Bool
def obsX (fa : List He.Fa) (fn : List He.DefD) (chk : PySem.W.Frag → Bool) (K : PySem.W.Frag) : AlX := (He.obsD fa fn K, chk K)
def SaysX (fa : List He.Fa) (fn : List He.DefD) (chk : PySem.W.Frag → Bool) (K : PySem.W.Frag) : Prop := obsX fa fn chk K = (He.valD fn, true)
def obsXG (n : Nat) (fa : List He.Fa) (fn : List He.DefD) (chk : PySem.W.Frag → Bool) (g : Addr → Option Obj) : AlX := obsX fa fn chk (He.frG g (He.asD g n))
def hookX (n : Nat) (fa : List He.Fa) (fn : List He.DefD) (chk : PySem.W.Frag → Bool) : PySem.W.Hook where
  α := AlX
  obs := fun s => obsXG n fa fn chk s.heap.get?
  val := fun _ => (He.valD fn, true)
  says := fun _ h => ∃ K : PySem.W.Frag, K.In h ∧ SaysX fa fn chk K
  of := fun _ _ e => ⟨_, He.frG_in, e⟩
  keeps := fun _ _ _ ⟨K, hK, c⟩ k => ⟨K, PySem.W.Frag.In.keeps hK k, c⟩
theorem obsXG_eq {n : Nat} {fa : List He.Fa} {fn : List He.DefD} {chk : PySem.W.Frag → Bool} {g : Addr → Option Obj} {s : Shared} (h : ∀ a, g a = s.heap.get? a) : obsXG n fa fn chk g = (hookX n fa fn chk).obs s := by
  have e : g = s.heap.get? := funext h
  rw [e] <;> rfl
theorem SaysX.d {fa : List He.Fa} {fn : List He.DefD} {chk : PySem.W.Frag → Bool} {K : PySem.W.Frag} (c : SaysX fa fn chk K) : He.SaysD fa fn K := congrArg (fun z : AlX => z.1) c
theorem SaysX.c {fa : List He.Fa} {fn : List He.DefD} {chk : PySem.W.Frag → Bool} {K : PySem.W.Frag} (c : SaysX fa fn chk K) : chk K = true := congrArg (fun z : AlX => z.2) c

/-! ### the law's end -/
/-- the law's def answers True at every script of at most n numbers -/
def spLaw (K : PySem.W.Frag) (most : Nat) (m : M) : Prop := ∀ ns : List Int, ns.length ≤ most → ∃ s, m [.scr ns] [] = .ok (.bl true) s
theorem only_rs {K : PySem.W.Frag} {H : Hp} : RS K H [] (fun _ => False) [] := ⟨rfl, List.nodup_nil, fun _ h => (by cases h), fun _ h => False.elim h, fun _ _ h => (by cases h)⟩
theorem law_sp {K : PySem.W.Frag} {most : Nat} {m : M} (hm : ∀ ns : List Int, ns.length ≤ most → ∃ s, m [.scr ns] [] = .ok (.bl true) s) (H : Hp) (a : Addr) (ns : List Int) (hl : ns.length ≤ most) (hO : Only H) (hS : SqL K H a (ns.map V.int)) :
    spOf K 1 m [.ref a] H (fun v _ => v = .bl true) fun _ _ _ => False := by
  obtain ⟨s, e⟩ := hm ns hl
  refine ⟨[], fun _ => False, [], [.scr ns], only_rs, ?_, rfl, ?_⟩
  · refine RVs.cons ?_ RVs.nil
    unfold RV
    refine ⟨a, rfl, ?_⟩
    rcases hS with (h | ⟨o, h⟩) | h
    · rcases hO a with z | ⟨o, xs, z⟩
      · rw [h] at z; cases z
      · rw [h] at z; cases z
    · exact .inl ⟨o, h, by simp, fun z => z⟩
    · exact .inr h
  · rw [e]
    exact fun v H' μ' f rs rv => RV_blv rv
end Dn

/-! Dn: built-ins, slices, enumerate, list comprehensions, displays of dicts, stores into shared objects. -/
namespace Dn
open PySem PySem.Spec L2
open PyProof.Rows hiding St RelV

/-! ### built-ins by data -/
def VB (X : Cx) (f : Value) (g : List D → Option D) : Prop := CallR X f fun xs H Q => ∃ μ F st ds r, RS X.K H μ F st ∧ RDs X.K H μ F ds xs ∧ g (ds.map (der st)) = some r ∧ ∀ v H' μ', Fut H μ H' μ' → RS X.K H' μ' F st → RV X.K H' μ' F r v → Q v H'
def eBt (g : List D → Option D) (a : EL) : E := fun ρ s => (a ρ s).bind fun ds s => Res.of (g (ds.map (der s))) s
section
variable {X : Cx} {W : WX} {e : Expr} {es : List Expr} {ml : EL} {g : List D → Option D} {p pos : Pos} {x : Str}
theorem bt_at {σ : St} {H : Hp} {Q : VK} (h : tG (fun F H μ d v => RV X.K H μ F d v) X.pn X.K W (eBt g ml) σ H Q) :
    tG (fun F H μ d v => RDs X.K H μ F d v) X.pn X.K W ml σ H fun xs H => ∃ μ F st ds r, RS X.K H μ F st ∧ RDs X.K H μ F ds xs ∧ g (ds.map (der st)) = some r ∧ ∀ v H' μ', Fut H μ H' μ' → RS X.K H' μ' F st → RV X.K H' μ' F r v → Q v H' := by
  obtain ⟨ρ, μ, F, G, st, a, h⟩ := h
  refine tG_at (k := fun (ds : List D) s => Res.of (g (ds.map (der s))) s) a h fun xs H1 μ1 st1 ds a1 f1 r1 h1 => ?_
  obtain ⟨r, hr, hq⟩ := OkG.some h1
  exact ⟨μ1, F, st1, ds, r, a1.s, r1, hr, hq⟩
theorem se_bt {id : String} (hc : VB X (.builtin id) g) (hg : Gl X x) (hm : X.mg x = none) (ha : SAR X W (e :: es) ml) (hv : bootBuiltins x = some (.builtin id) := by decide +kernel) (hn : x ≠ "__name__" := by decide) (hdb : (x == ("__debug__" : Str)) = false := by decide)
    (he : starEach (e :: es) X.env = (false, eval e X.env) :: starEach es X.env := by rfl) (hpl : (backTo pos (starEach es X.env)).any (·.1) = false := by rfl) : SE X W (.Call (.Name x p) (e :: es) [] pos) (eBt g ml) :=
  PE.of (pe_callB hc hg hm hv ha hn hdb he hpl) fun σ H Q h => bt_at h
theorem se_bty {T : String} (hc : VB X (.type T) g) (hg : Gl X x) (hm : X.mg x = none) (ha : SAR X W (e :: es) ml) (hv : bootBuiltins x = some (.type T) := by decide +kernel) (hn : x ≠ "__name__" := by decide) (hdb : (x == ("__debug__" : Str)) = false := by decide)
    (he : starEach (e :: es) X.env = (false, eval e X.env) :: starEach es X.env := by rfl) (hpl : (backTo pos (starEach es X.env)).any (·.1) = false := by rfl) : SE X W (.Call (.Name x p) (e :: es) [] pos) (eBt g ml) :=
  PE.of (pe_callTy hc hg hm hv ha hn hdb he hpl) fun σ H Q h => bt_at h
end
def gLen : List D → Option D
  | [.lst ds] => some (.int ds.length)
  | [.tup ds] => some (.int ds.length)
  | [.scr ns] => some (.int ns.length)
  | [.dic ds] => some (.int ds.length)
  | [.str z] => if z.length ≤ line then some (.int z.length) else none
  | _ => none
def gAbs : List D → Option D
  | [.int i] => some (.int (if i < 0 then -i else i))
  | _ => none
def gInt : List D → Option D
  | [.int i] => some (.int i)
  | [.bl b] => some (.int (if b then 1 else 0))
  | _ => none
def gMax2 : List D → Option D
  | [.int i, .int j] => some (.int (if j > i then j else i))
  | _ => none
def gMin2 : List D → Option D
  | [.int i, .int j] => some (.int (if j < i then j else i))
  | _ => none
def gTuple : List D → Option D
  | [.lst ds] => some (.tup ds)
  | [.tup ds] => some (.tup ds)
  | [.scr ns] => some (.tup (ns.map .int))
  | _ => none
def gList : List D → Option D
  | [.lst ds] => some (.lst ds)
  | [.tup ds] => some (.lst ds)
  | [.scr ns] => some (.lst (ns.map .int))
  | _ => none
section
variable {X : Cx} {K : PySem.W.Frag} {H : Hp} {μ : Mu} {F : Addr → Prop} {st : Store}
theorem RDs.one {ds : List D} {xs : List V} {c : D} (s : RS K H μ F st) (r : RDs K H μ F ds xs) (e : ds.map (der st) = [c]) : ∃ d x, ds = [d] ∧ xs = [x] ∧ RD K H μ F d x ∧ der st d = c := by
  match ds, r, e with
  | [], r, e => cases e
  | [d], r, e =>
    obtain ⟨x, ys, e1, r1, e2⟩ := r
    rw [show ys = [] from e2] at e1
    exact ⟨d, x, rfl, e1, r1, List.cons.inj e |>.1⟩
  | _ :: _ :: _, r, e => cases e
theorem RDs.two {ds : List D} {xs : List V} {c c' : D} (s : RS K H μ F st) (r : RDs K H μ F ds xs) (e : ds.map (der st) = [c, c']) : ∃ d d' x x', ds = [d, d'] ∧ xs = [x, x'] ∧ RD K H μ F d x ∧ RD K H μ F d' x' ∧ der st d = c ∧ der st d' = c' := by
  match ds, r, e with
  | [], r, e => cases e
  | [d], r, e => cases e
  | [d, d'], r, e =>
    obtain ⟨x, ys, e1, r1, x', zs, e2, r2, e3⟩ := r
    rw [show zs = [] from e3] at e2
    rw [e2] at e1
    have e' := List.cons.inj e
    exact ⟨d, d', x, x', rfl, e1, r1, r2, e'.1, (List.cons.inj e'.2).1⟩
  | _ :: _ :: _ :: _, r, e => cases e
theorem gLen_ok : VB X (.builtin "len") gLen := by
  intro pins s σ H xs us Q I r h
  obtain ⟨μ, F, st, ds, rr, rs, rd, hg, q⟩ := h
  generalize hds : ds.map (der st) = cs at hg
  unfold gLen at hg
  split at hg
  · cases hg
    obtain ⟨d, x, e1, e2, r1, e3⟩ := rd.one rs hds
    have r2 := r1.dr rs
    rw [e3] at r2
    obtain ⟨a, ys, e4, q1, q2⟩ := r2
    refine call_len pins s σ H xs us Q I r ⟨x, ys.length, e2, ?_, ?_⟩
    · rw [e4]; exact .inl ⟨ys, .inl (.inl q1), rfl⟩
    · rw [q2.length]; exact q _ H μ .refl rs (RV_int _)
  · cases hg
    obtain ⟨d, x, e1, e2, r1, e3⟩ := rd.one rs hds
    have r2 := r1.dr rs
    rw [e3] at r2
    obtain ⟨a, ys, e4, q1, q2⟩ := r2
    refine call_len pins s σ H xs us Q I r ⟨x, ys.length, e2, ?_, ?_⟩
    · rw [e4]; exact .inr ⟨ys, q1, rfl⟩
    · rw [q2.length]; exact q _ H μ .refl rs (RV_int _)
  · cases hg
    rename_i ns
    obtain ⟨d, x, e1, e2, r1, e3⟩ := rd.one rs hds
    have r2 := r1.dr rs
    rw [e3] at r2
    obtain ⟨a, e4, q1⟩ := r2
    refine call_len pins s σ H xs us Q I r ⟨x, (ns.map V.int).length, e2, ?_, ?_⟩
    · rw [e4]; exact .inl ⟨_, q1, rfl⟩
    · rw [List.length_map]; exact q _ H μ .refl rs (RV_int _)
  · cases hg
    obtain ⟨d, x, e1, e2, r1, e3⟩ := rd.one rs hds
    have r2 := r1.dr rs
    rw [e3] at r2
    obtain ⟨a, ys, e4, q1, q2⟩ := r2
    subst e2 e4
    obtain rfl := Vals.ref1 r
    refine d_len I q1 fun t s' I' => ⟨.int ys.length, H, I', ⟨t, rfl⟩, ?_⟩
    rw [q2.length]; exact q _ H μ .refl rs (RV_int _)
  · split at hg
    · rename_i hl
      cases hg
      obtain ⟨d, x, e1, e2, r1, e3⟩ := rd.one rs hds
      have r2 := r1.dr rs
      rw [e3] at r2
      rw [show x = .str _ from r2] at e2
      exact call_len pins s σ H xs us Q I r ⟨_, _, e2, ⟨by rw [line_eq]; exact hl, rfl⟩, q _ H μ .refl rs (RV_int _)⟩
    · cases hg
  · cases hg
theorem gAbs_ok : VB X (.builtin "abs") gAbs := by
  intro pins s σ H xs us Q I r h
  obtain ⟨μ, F, st, ds, rr, rs, rd, hg, q⟩ := h
  generalize hds : ds.map (der st) = cs at hg
  unfold gAbs at hg
  split at hg
  · cases hg
    obtain ⟨d, x, e1, e2, r1, e3⟩ := rd.one rs hds
    have r2 := r1.dr rs
    rw [e3] at r2
    rw [show x = .int _ from r2] at e2
    exact call_abs pins s σ H xs us Q I r ⟨_, e2, q _ H μ .refl rs (RV_int _)⟩
  · cases hg
theorem gInt_ok : VB X (.type "int") gInt := by
  intro pins s σ H xs us Q I r h
  obtain ⟨μ, F, st, ds, rr, rs, rd, hg, q⟩ := h
  generalize hds : ds.map (der st) = cs at hg
  unfold gInt at hg
  split at hg
  · cases hg
    obtain ⟨d, x, e1, e2, r1, e3⟩ := rd.one rs hds
    have r2 := r1.dr rs
    rw [e3] at r2
    rw [show x = .int _ from r2] at e2
    exact call_int1 pins s σ H xs us Q I r (.inl ⟨_, e2, q _ H μ .refl rs (RV_int _)⟩)
  · cases hg
    obtain ⟨d, x, e1, e2, r1, e3⟩ := rd.one rs hds
    have r2 := r1.dr rs
    rw [e3] at r2
    rw [show x = .bl _ from r2] at e2
    exact call_int1 pins s σ H xs us Q I r (.inr ⟨_, e2, q _ H μ .refl rs (RV_int _)⟩)
  · cases hg
theorem gMax2_ok (hc : X.calm = true) : VB X (.builtin "max") gMax2 := by
  intro pins s σ H xs us Q I r h
  obtain ⟨μ, F, st, ds, rr, rs, rd, hg, q⟩ := h
  generalize hds : ds.map (der st) = cs at hg
  unfold gMax2 at hg
  split at hg
  · cases hg
    obtain ⟨d, d', x, x', e1, e2, r1, r1', e3, e3'⟩ := rd.two rs hds
    have r2 := r1.dr rs
    have r2' := r1'.dr rs
    rw [e3] at r2
    rw [e3'] at r2'
    rw [show x = .int _ from r2, show x' = .int _ from r2'] at e2
    exact call_max2 hc pins s σ H xs us Q I r ⟨_, _, e2, q _ H μ .refl rs (RV_int _)⟩
  · cases hg
theorem gMin2_ok (hc : X.calm = true) : VB X (.builtin "min") gMin2 := by
  intro pins s σ H xs us Q I r h
  obtain ⟨μ, F, st, ds, rr, rs, rd, hg, q⟩ := h
  generalize hds : ds.map (der st) = cs at hg
  unfold gMin2 at hg
  split at hg
  · cases hg
    obtain ⟨d, d', x, x', e1, e2, r1, r1', e3, e3'⟩ := rd.two rs hds
    have r2 := r1.dr rs
    have r2' := r1'.dr rs
    rw [e3] at r2
    rw [e3'] at r2'
    rw [show x = .int _ from r2, show x' = .int _ from r2'] at e2
    exact call_min2 hc pins s σ H xs us Q I r ⟨_, _, e2, q _ H μ .refl rs (RV_int _)⟩
  · cases hg
theorem gTuple_ok : VB X (.type "tuple") gTuple := by
  intro pins s σ H xs us Q I r h
  obtain ⟨μ, F, st, ds, rr, rs, rd, hg, q⟩ := h
  generalize hds : ds.map (der st) = cs at hg
  unfold gTuple at hg
  split at hg
  · cases hg
    obtain ⟨d, x, e1, e2, r1, e3⟩ := rd.one rs hds
    have r2 := r1.dr rs
    rw [e3] at r2
    obtain ⟨a, ys, e4, q1, q2⟩ := r2
    rw [e4] at e2
    exact call_tuple_of pins s σ H xs us Q I r ⟨a, ys, e2, .inl ⟨.inl (.inl q1), fun l hl => q _ _ μ (.new hl) (rs.new hl) (rs.newT hl q2)⟩⟩
  · cases hg
    obtain ⟨d, x, e1, e2, r1, e3⟩ := rd.one rs hds
    have r2 := r1.dr rs
    rw [e3] at r2
    obtain ⟨a, ys, e4, q1, q2⟩ := r2
    have rv := r1.tup rs e3
    rw [e4] at e2 rv
    exact call_tuple_of pins s σ H xs us Q I r ⟨a, ys, e2, .inr ⟨q1, q _ H μ .refl rs rv⟩⟩
  · cases hg
    obtain ⟨d, x, e1, e2, r1, e3⟩ := rd.one rs hds
    have r2 := r1.dr rs
    rw [e3] at r2
    obtain ⟨a, e4, q1⟩ := r2
    rw [e4] at e2
    exact call_tuple_of pins s σ H xs us Q I r ⟨a, _, e2, .inl ⟨q1, fun l hl => q _ _ μ (.new hl) (rs.new hl) (rs.newT hl (RVs.ints _))⟩⟩
  · cases hg
theorem gList_ok : VB X (.type "list") gList := by
  intro pins s σ H xs us Q I r h
  obtain ⟨μ, F, st, ds, rr, rs, rd, hg, q⟩ := h
  generalize hds : ds.map (der st) = cs at hg
  unfold gList at hg
  split at hg
  · cases hg
    obtain ⟨d, x, e1, e2, r1, e3⟩ := rd.one rs hds
    have r2 := r1.dr rs
    rw [e3] at r2
    obtain ⟨a, ys, e4, q1, q2⟩ := r2
    rw [e4] at e2
    exact call_list_of pins s σ H xs us Q I r ⟨a, ys, e2, .inl (.inl (.inl q1)), fun l hl => q _ _ μ (.new hl) (rs.new hl) (rs.newL hl q2)⟩
  · cases hg
    obtain ⟨d, x, e1, e2, r1, e3⟩ := rd.one rs hds
    have r2 := r1.dr rs
    rw [e3] at r2
    obtain ⟨a, ys, e4, q1, q2⟩ := r2
    rw [e4] at e2
    exact call_list_of pins s σ H xs us Q I r ⟨a, ys, e2, .inr q1, fun l hl => q _ _ μ (.new hl) (rs.new hl) (rs.newL hl q2)⟩
  · cases hg
    obtain ⟨d, x, e1, e2, r1, e3⟩ := rd.one rs hds
    have r2 := r1.dr rs
    rw [e3] at r2
    obtain ⟨a, e4, q1⟩ := r2
    rw [e4] at e2
    exact call_list_of pins s σ H xs us Q I r ⟨a, _, e2, .inl q1, fun l hl => q _ _ μ (.new hl) (rs.new hl) (rs.newL hl (RVs.ints _))⟩
  · cases hg
end
end Dn

/-! Dn: slices, enumerate, displays of dicts, targets, stores into shared objects. -/
namespace Dn
open PySem PySem.Spec L2
open PyProof.Rows hiding St RelV

/-! ### slices -/
def cutD {α : Type} (xs : List α) (lo hi : Option Int) : List α := (xs.drop (HT.sIx xs.length 0 lo)).take (HT.sIx xs.length xs.length hi - HT.sIx xs.length 0 lo)
def cutOf : D → Option Int → Option Int → Option D
  | .lst ds, l, u => some (.lst (cutD ds l u))
  | .tup ds, l, u => some (.tup (cutD ds l u))
  | .scr ns, l, u => some (.lst ((cutD ns l u).map .int))
  | .str z, l, u => if z.length ≤ line then some (.str (cutS z l u)) else none
  | _, _, _ => none
abbrev EP' := Loc → Store → Res (Option Int)
def eNoPart : EP' := fun _ s => .ok none s
def partK (d : D) (s : Store) : Res (Option Int) := match d with
  | .int i => .ok (some i) s
  | _ => .bad
def ePart (e : E) : EP' := fun ρ s => (e ρ s).bind partK
def eSl (a : E) (l u : EP') : E := fun ρ s => (a ρ s).bind fun x s => (l ρ s).bind fun l s => (u ρ s).bind fun u s => Res.of (cutOf (der s x) l u) s
section
variable {X : Cx} {W : WX} {e : Expr} {es : List Expr} {me : E} {ml mu : EP'} {pos p2 : Pos} {lo hi : Option Expr}
def SO (X : Cx) (W : WX) (e : Option Expr) (m : EP') : Prop := PO X e (tG (fun _ _ _ d v => d = v) X.pn X.K W m)
theorem PO.of {X : Cx} {e : Option Expr} {t t' : TO} (h : PO X e t) (i : ∀ σ H Q, t' σ H Q → t σ H Q) : PO X e t' := ⟨fun pins s σ H Q I q => h.run pins s σ H Q I (i σ H Q q)⟩
theorem so_none : SO X W none eNoPart := PO.of po_none fun σ H Q ⟨ρ, μ, F, G, st, a, h⟩ => h none H μ .refl a.s rfl
theorem so_some (he : SE X W e me) : SO X W (some e) (ePart me) := PO.of (po_some he) fun σ H Q ⟨ρ, μ, F, G, st, a, h⟩ =>
  tG_at (k := partK) a h fun x H1 μ1 st1 d a1 f1 r1 h1 => by
    cases d with
    | int i =>
      unfold RV at r1
      exact ⟨i, r1, h1 _ H1 μ1 .refl a1.s rfl⟩
    | _ => exact h1.elim
def rCut (X : Cx) : V → Option Int → Option Int → Hp → VK → Prop := fun x l u H Q => ∃ μ F st d r, RS X.K H μ F st ∧ RD X.K H μ F d x ∧ cutOf (der st d) l u = some r ∧ ∀ v H' μ', Fut H μ H' μ' → RS X.K H' μ' F st → RV X.K H' μ' F r v → Q v H'
theorem RVs.cut {K : PySem.W.Frag} {H : Hp} {μ : Mu} {F : Addr → Prop} {ds : List D} {xs : List V} (r : RVs K H μ F ds xs) (l u : Option Int) : RVs K H μ F (cutD ds l u) (cutV xs l u) := by
  unfold cutD cutV
  rw [r.length]
  exact (r.drop _).take _
theorem cutV_map (ns : List Int) (l u : Option Int) : cutV (ns.map V.int) l u = (cutD ns l u).map V.int := by
  unfold cutD cutV
  rw [List.length_map, List.map_take, List.map_drop]
theorem cut_ok : SlR X (rCut X) := by
  intro pins s σ H x v vl vu lo hi sl Q I rx hs pl pu h
  obtain ⟨μ, F, st, d, r, rs, rd, hg, q⟩ := h
  have rr := rd.dr rs
  generalize hd : der st d = c at hg rr
  unfold cutOf at hg
  split at hg
  · cases hg
    obtain ⟨a, xs, e1, q1, q2⟩ := rr
    exact sl_list pins s σ H x v vl vu lo hi sl Q I rx hs pl pu ⟨a, xs, e1, .inl (.inl q1), fun p hp => q _ _ μ (.new hp) (rs.new hp) (rs.newL hp (q2.cut lo hi))⟩
  · cases hg
    rename_i ds
    obtain ⟨a, xs, e1, q1, q2⟩ := rr
    have rv := rd.tup rs hd
    rw [e1] at rv
    refine sl_tupA pins s σ H x v vl vu lo hi sl Q I rx hs pl pu ⟨a, xs, e1, q1, fun hw => ?_, fun _ p hp => q _ _ μ (.new hp) (rs.new hp) (rs.newT hp (q2.cut lo hi))⟩
    have e : cutD ds lo hi = ds := by
      unfold cutD
      rw [q2.length] at hw
      rw [hw.1, hw.2, List.drop_zero, Nat.sub_zero, List.take_length]
    rw [e] at q
    exact q _ H μ .refl rs rv
  · cases hg
    obtain ⟨a, e1, q1⟩ := rr
    refine sl_list pins s σ H x v vl vu lo hi sl Q I rx hs pl pu ⟨a, _, e1, q1, fun p hp => q _ _ μ (.new hp) (rs.new hp) (rs.newL hp ?_)⟩
    rw [cutV_map]
    exact RVs.ints _
  · split at hg
    · rename_i hl
      cases hg
      exact sl_str pins s σ H x v vl vu lo hi sl Q I rx hs pl pu ⟨_, rr, by rw [line_eq]; exact hl, q _ H μ .refl rs (RV_str _)⟩
    · cases hg
  · cases hg
theorem se_sl (he : SR X W e me) (hl : SO X W lo ml) (hu : SO X W hi mu) : SE X W (.Subscript e (.Slice lo hi none p2) pos) (eSl me ml mu) := PE.of (pe_slice cut_ok he hl hu) fun σ H Q ⟨ρ, μ, F, G, st, a, h⟩ => by
  refine tG_at (k := fun x s => (ml ρ s).bind fun l s => (mu ρ s).bind fun u s => Res.of (cutOf (der s x) l u) s) a h fun x H1 μ1 st1 d a1 f1 r1 h1 => ?_
  refine tG_at (k := fun l s => (mu ρ s).bind fun u s => Res.of (cutOf (der s d) l u) s) a1 h1 fun l H2 μ2 st2 l' a2 f2 r2 h2 => ?_
  refine tG_at (k := fun u s => Res.of (cutOf (der s d) l' u) s) a2 h2 fun u H3 μ3 st3 u' a3 f3 r3 h3 => ?_
  subst r2 r3
  obtain ⟨r, hr, hq⟩ := OkG.some h3
  exact ⟨μ3, F, st3, d, r, a3.s, (r1.fut a1.s f2).fut a2.s f3, hr, hq⟩
def revOf : D → Option D
  | .lst ds => some (.lst ds.reverse)
  | .scr ns => some (.lst (ns.reverse.map .int))
  | _ => none
def eRev (a : E) : E := fun ρ s => (a ρ s).bind fun x s => Res.of (revOf (der s x)) s
theorem se_rev {k : Nat} {p1 p3 : Pos} (he : SR X W e me) : SE X W (.Subscript e (.Slice none none (some (.UnaryOp .USub (.Constant (.int 1) k p1) p2)) p3) pos) (eRev me) := PE.of (pe_revL he) fun σ H Q ⟨ρ, μ, F, G, st, a, h⟩ => by
  refine tG_at (k := fun x s => Res.of (revOf (der s x)) s) a h fun x H1 μ1 st1 d a1 f1 r1 h1 => ?_
  obtain ⟨r, hr, hq⟩ := OkG.some h1
  have rr := r1.dr a1.s
  generalize hd : der st1 d = c at hr rr
  unfold revOf at hr
  split at hr
  · cases hr
    obtain ⟨b, xs, e1, q1, q2⟩ := rr
    exact ⟨b, xs, e1, .inl (.inl q1), fun p hp => hq _ _ μ1 (.new hp) (a1.s.new hp) (a1.s.newL hp q2.reverse)⟩
  · cases hr
    obtain ⟨b, e1, q1⟩ := rr
    refine ⟨b, _, e1, q1, fun p hp => hq _ _ μ1 (.new hp) (a1.s.new hp) (a1.s.newL hp ?_)⟩
    rw [← List.map_reverse]
    exact RVs.ints _
  · cases hr
end

/-! ### enumerate, zip -/
def enumD : Nat → List D → List D
  | _, [] => []
  | i, d :: ds => .tup [.int (i : Int), d] :: enumD (i + 1) ds
theorem enumD_get : ∀ (ds : List D) (k i : Nat), (enumD k ds)[i]? = (ds[i]?).map fun d => .tup [.int ((k + i : Nat) : Int), d]
  | [], k, i => by simp [enumD]
  | d :: ds, k, 0 => by simp [enumD]
  | d :: ds, k, i + 1 => by
    show (enumD (k + 1) ds)[i]? = _
    rw [enumD_get ds (k + 1) i]
    have e : k + 1 + i = k + (i + 1) := by omega
    rw [e]
    rfl
theorem enumD_len : ∀ (ds : List D) (k : Nat), (enumD k ds).length = ds.length
  | [], _ => rfl
  | d :: ds, k => by simp [enumD, enumD_len ds]
def enumK (ds : List D) (s : Store) : Res (List D) := match ds with
  | [d] => (match d with
    | .lst xs => .ok (enumD 0 xs) s
    | .scr ns => .ok (enumD 0 (ns.map .int)) s
    | _ => .bad)
  | _ => .bad
def iEnum (a : EL) : EI := fun ρ s => (a ρ s).bind enumK
theorem walks_enum {K : PySem.W.Frag} {F : Addr → Prop} {H0 : Hp} {μ0 : Mu} {a : Addr} {ds : List D} (h : ∀ H μ F2, Kp H0 μ0 F H μ F2 → ∃ xs, SqL K H a xs ∧ RVs K H μ F2 ds xs) : Walks K F H0 μ0 (Ite K a) (enumD 0 ds) where
  go := fun i d H μ F2 st e kp rs => by
    obtain ⟨xs, q, r⟩ := h H μ F2 kp
    rw [enumD_get] at e
    obtain ⟨c, e1, e2⟩ := Option.map_eq_some_iff.mp e
    subst e2
    obtain ⟨v, e3, rv⟩ := r.get e1
    refine ⟨⟨xs, v, q, e3⟩, fun x H2 hy => ?_⟩
    obtain ⟨T, y, rfl, hT, rfl, hy⟩ := hy
    have hy := hy xs q
    rw [e3] at hy; cases hy
    refine ⟨rs.new hT, .new hT, ?_⟩
    rw [Nat.zero_add]
    exact rs.newT hT (RVs.cons (RV_int _) (RVs.cons rv RVs.nil))
  stop := fun i H μ F2 hl kp => by
    obtain ⟨xs, q, r⟩ := h H μ F2 kp
    exact ⟨xs, q, by rw [r.length]; rw [enumD_len] at hl; exact hl⟩
section
variable {X : Cx} {W : WX} {e : Expr} {elts : List Expr} {kk : Nat} {tpos p pos : Pos} {ml : EL}
/-- of a list: nothing else can be read at its address in a state of the walk -/
theorem si_enum (hg : Gl X "enumerate") (hm : X.mg "enumerate" = none) (ha : SA X W [e] ml) (hs : starEach [e] X.env = [(false, eval e X.env)] := by rfl) : SI X W (.Tuple elts kk tpos) (.Call (.Name "enumerate" p) [e] [] pos) (Dn.iEnum ml) := by
  refine ⟨fun pins s σ H R I h => ?_⟩
  refine (pi_enum hg hm ha hs).run pins s σ H R I ?_
  obtain ⟨ρ, μ, F, G, st, a, h⟩ := h
  refine tG_at (k := enumK) a h fun xs H1 μ1 st1 ds a1 f1 r1 h1 => ?_
  unfold enumK at h1
  split at h1
  · split at h1
    · rename_i ds
      simp only [RVs] at r1
      obtain ⟨v, ys, e1, r1, e2⟩ := r1
      subst e2
      unfold RV at r1
      obtain ⟨b, xs, e2, q1, q2⟩ := r1
      subst e2
      refine ⟨b, xs, e1, .inl (.inl q1.1), h1 _ H1 μ1 .refl a1.s (walks_enum fun H μ F2 kp => ⟨xs, .inl (.inl (kp.pure b _ q1.1 q1.2.1 q1.2.2).1), RVs.kp kp q2⟩)⟩
    · rename_i ns
      simp only [RVs] at r1
      obtain ⟨v, ys, e1, r1, e2⟩ := r1
      subst e2
      unfold RV at r1
      obtain ⟨b, e2, q1⟩ := r1
      subst e2
      have key : ∀ H μ F2, Kp H1 μ1 F H μ F2 → SqL X.K H b (ns.map V.int) := fun H μ F2 f => by
        rcases q1 with ⟨o, h1, h2, h3⟩ | q1
        · exact .inl (.inr ⟨o, (f.pure b _ h1 h2 h3).1⟩)
        · exact .inr q1
      exact ⟨b, _, e1, key H1 μ1 F ⟨fun _ _ h n nf => ⟨h, n, nf⟩, fun _ _ h => h⟩, h1 _ H1 μ1 .refl a1.s (walks_enum fun H μ F2 kp => ⟨_, key H μ F2 kp, RVs.ints ns⟩)⟩
    · exact h1.elim
  · exact h1.elim
end

/-! ### targets in general, stores -/
section
variable {X : Cx} {W : WX} {e o i tg : Expr} {me mo mi : E} {t : Tgt} {pos tpos : Pos}
def sAsg (t : Tgt) (e : E) : S := fun ρ s => (e ρ s).to ρ fun d s => match setT t d ρ with
  | some ρ' => .nx ρ' s
  | none => .bad
theorem ss_asg (he : SE X W e me) (hg : SG X tg t) (hs : swapsWithSole [tg] e pos.line X.env = pure false := by rfl) (hw : swappedStores [tg] e X.env = pure none := by rfl)
    (h1 : (assignEach [tg] X.env).map (·.2) = [assign tg X.env] := by rfl) : SS X W (.Assign [tg] e pos) (sAsg t me) := PS.of (ps_asg he hg hs hw h1) fun D σ H ⟨ρ, μ, F, G, st, a, h⟩ =>
  tS_e (k := fun d s => match setT t d ρ with
  | some ρ' => .nx ρ' s
  | none => .bad) a h fun x H1 μ1 st1 d a1 f r h1 => by
    cases hc : setT t d ρ with
    | none => rw [hc] at h1; exact h1.elim
    | some ρ' =>
      rw [hc] at h1
      exact ⟨ρ, μ1, F, G, st1, d, ρ', a1, r, hc, fun σ' a' _ => h1 σ' H1 μ1 F G (At.ev (st := st1) a' .refl) a'⟩
/-- c[i] = d -/
def putIx (c : D) (i : D) (d : D) : Option D := match c, i with
  | .lst ds, .int j => (ixN ds.length j).map fun k => .lst (ds.set k d)
  | .dic kvs, k => if kvs.length < line then (dkey k).map fun q => .dic (dputK k q d kvs) else none
  | _, _ => none
/-- o[i] = e, o a shared object -/
def sPut (e o i : E) : S := fun ρ s => (e ρ s).to ρ fun d s => (o ρ s).to ρ fun b s => (i ρ s).to ρ fun j s => match b with
  | .ref n => (match s[n]? with
    | some c => (match putIx c (der s j) d with
      | some c' => .nx ρ (s.set n c')
      | none => .bad)
    | none => .bad)
  | _ => .bad
theorem RVd.any {K : PySem.W.Frag} {H : Hp} {μ : Mu} {F : Addr → Prop} {q : Key} : ∀ {kvs : List (D × D)} {xs : List (Key × V)}, RVd K H μ F kvs xs → (xs.any fun kv => decide (kv.1 = q)) = dhasK q kvs
  | [], xs, h => by
    unfold RVd at h
    subst h
    rfl
  | (k', c) :: r, xs, h => by
    unfold RVd at h
    obtain ⟨q', y, ys, e, h1, h2, h3⟩ := h
    subst e
    have hq := RV_key h1
    have ih := RVd.any (q := q) h3
    unfold dhasK at ih ⊢
    rw [List.any_cons, List.any_cons, ih]
    show (decide (q' = q) || _) = (decide (dkey k' = some q) || _)
    rw [hq]
    simp
theorem RVd.upd {K : PySem.W.Frag} {H : Hp} {μ : Mu} {F : Addr → Prop} {d : D} {v : V} {q : Key} (hv : RV K H μ F d v) : ∀ {kvs : List (D × D)} {xs : List (Key × V)}, RVd K H μ F kvs xs →
    RVd K H μ F (kvs.map fun kv => if dkey kv.1 = some q then (kv.1, d) else kv) (xs.map fun kv => if kv.1 = q then (kv.1, v) else kv)
  | [], xs, h => by
    unfold RVd at h
    subst h
    exact RVd.nil
  | (k', c) :: r, xs, h => by
    unfold RVd at h
    obtain ⟨q', y, ys, e, h1, h2, h3⟩ := h
    subst e
    have hq := RV_key h1
    have ih := RVd.upd (q := q) hv h3
    rw [List.map_cons, List.map_cons]
    by_cases z : q' = q
    · subst z
      rw [if_pos hq, if_pos rfl]
      exact RVd.cons h1 hv ih
    · rw [if_neg (by rw [hq]; exact fun w => z (Option.some.inj w)), if_neg z]
      exact RVd.cons h1 h2 ih
theorem RVd.append {K : PySem.W.Frag} {H : Hp} {μ : Mu} {F : Addr → Prop} : ∀ {kvs ls : List (D × D)} {xs ys : List (Key × V)}, RVd K H μ F kvs xs → RVd K H μ F ls ys → RVd K H μ F (kvs ++ ls) (xs ++ ys)
  | [], ls, xs, ys, h, g => by
    unfold RVd at h
    subst h
    exact g
  | (k', c) :: r, ls, xs, ys, h, g => by
    unfold RVd at h
    obtain ⟨q', y, zs, e, h1, h2, h3⟩ := h
    subst e
    exact RVd.cons h1 h2 (RVd.append h3 g)
theorem RVd.put {K : PySem.W.Frag} {H : Hp} {μ : Mu} {F : Addr → Prop} {k d : D} {v : V} {q : Key} (hk : RV K H μ F k (kV q)) (hv : RV K H μ F d v) {kvs : List (D × D)} {xs : List (Key × V)} (h : RVd K H μ F kvs xs) : RVd K H μ F (dputK k q d kvs) (putK xs q v) := by
  unfold dputK putK
  rw [h.any]
  by_cases z : dhasK q kvs = true
  · rw [if_pos z, if_pos z]
    exact h.upd hv
  · rw [if_neg z, if_neg z]
    exact h.append (RVd.cons hk hv RVd.nil)
theorem dkey_RV {K : PySem.W.Frag} {H : Hp} {μ : Mu} {F : Addr → Prop} {k : D} {y : V} {q : Key} (h : dkey k = some q) (r : DR K H μ F k y) : y = kV q ∧ RV K H μ F k (kV q) := by
  have e := DR_key r h
  subst e
  refine ⟨rfl, ?_⟩
  cases k with
  | int i => cases h; exact RV_int i
  | str i => cases h; exact RV_str i
  | _ => cases h
theorem ss_put (hu : X.A.units + 64 < cLine) (he : SE X W e me) (ho : SE X W o mo) (hi : SR X W i mi) (ha : ∀ v, assign (.Subscript o i tpos) X.env v = (do
      let ov ← holding [v] (eval o X.env)
      let iv ← holding [v, ov] (eval i X.env)
      standAt tpos
      holding [v, ov, iv] (setItem ov iv v)
      release [v, ov, iv] []) := by intro _; rfl) (hs : swapsWithSole [.Subscript o i tpos] e pos.line X.env = pure false := by rfl) (hw : swappedStores [.Subscript o i tpos] e X.env = pure none := by rfl)
    (h1 : (assignEach [.Subscript o i tpos] X.env).map (·.2) = [assign (.Subscript o i tpos) X.env] := by rfl) : SS X W (.Assign [.Subscript o i tpos] e pos) (sPut me mo mi) := by
  refine ⟨fun pins s σ H D I h => ?_⟩
  have hset : PSet X (fun o i v H Q => rSetL o i v H Q ∨ rSetD o i v H Q) := by
    intro pins s σ H o i v ov iv u Q I ro ri rv h
    rcases h with h | h
    · exact set_list pins s σ H o i v ov iv u Q I ro ri rv h
    · exact set_dict (by omega) pins s σ H o i v ov iv u Q I ro ri rv h
  refine (ps_asg he (pg_sub ho hi hset ha) hs hw h1).run pins s σ H D I ?_
  obtain ⟨ρ, μ, F, G, st, a, h⟩ := h
  refine tS_e (k := fun d s => (mo ρ s).to ρ fun b s => (mi ρ s).to ρ fun j s => match b with
  | .ref n => (match s[n]? with
    | some c => (match putIx c (der s j) d with
      | some c' => .nx ρ (s.set n c')
      | none => .bad)
    | none => .bad)
  | _ => .bad) a h fun x H1 μ1 st1 d a1 f1 r1 h1 => ?_
  refine tS_e (k := fun b s => (mi ρ s).to ρ fun j s => match b with
  | .ref n => (match s[n]? with
    | some c => (match putIx c (der s j) d with
      | some c' => .nx ρ (s.set n c')
      | none => .bad)
    | none => .bad)
  | _ => .bad) a1 h1 fun y H2 μ2 st2 b a2 f2 r2 h2 => ?_
  refine tS_e (k := fun j s => match b with
  | .ref n => (match s[n]? with
    | some c => (match putIx c (der s j) d with
      | some c' => .nx ρ (s.set n c')
      | none => .bad)
    | none => .bad)
  | _ => .bad) a2 h2 fun z H3 μ3 st3 j a3 f3 r3 h3 => ?_
  cases b with
  | ref n =>
    replace h3 : OkS X.pn X.K W H3 μ3 F G (match st3[n]? with
    | some c => (match putIx c (der st3 j) d with
      | some c' => .nx ρ (st3.set n c')
      | none => .bad)
    | none => .bad) D := h3
    cases hc : st3[n]? with
    | none => rw [hc] at h3; exact h3.elim
    | some c =>
      rw [hc] at h3
      replace h3 : OkS X.pn X.K W H3 μ3 F G (match putIx c (der st3 j) d with
      | some c' => .nx ρ (st3.set n c')
      | none => .bad) D := h3
      cases hp : putIx c (der st3 j) d with
      | none => rw [hp] at h3; exact h3.elim
      | some c' =>
        rw [hp] at h3
        have r2' := RV.kp f3.kp0 r2
        unfold RV at r2'
        obtain ⟨p, rfl, hn⟩ := r2'
        have hmem : p ∈ μ3 := List.mem_of_getElem? hn
        obtain ⟨p', hn', rc⟩ := a3.s.at_ n c hc
        rw [hn] at hn'; cases hn'
        have rj := r3.dr a3.s
        have rx : RV X.K H3 μ3 F d x := RV.kp f3.kp0 (RV.kp f2.kp0 r1)
        have fin : ∀ o : HO, RC X.K (upd H3 p o) μ3 F c' p → D.nx σ (upd H3 p o) := fun o rc' => by
          have fw : Fut H3 μ3 (upd H3 p o) μ3 := Fut.write hmem
          have rs' := a3.s.write hn rc'
          exact h3 σ (upd H3 p o) μ3 F G (a3.ev fw) (a3.fut fw rs')
        unfold putIx at hp
        split at hp
        · rename_i ds k hj
          obtain ⟨m, hm, hr⟩ := Option.map_eq_some_iff.mp hp
          obtain ⟨xs, hx, rxs⟩ := rc.c (fun z => nomatch z)
          subst hr
          rw [hj] at rj
          refine .inl ⟨p, xs, k, m, rfl, rj, hx, by rw [rxs.length]; exact hm, fin _ ⟨_, upd_same, ?_⟩⟩
          exact RVs.kp (Fut.write hmem).kp0 (rxs.set m rx)
        · rename_i kvs kk
          split at hp
          · rename_i hl
            obtain ⟨q, hq, hr⟩ := Option.map_eq_some_iff.mp hp
            obtain ⟨xs, hx, rxs⟩ := rc.c (fun z => nomatch z)
            subst hr
            obtain ⟨e1, rk⟩ := dkey_RV hq rj
            refine .inr ⟨p, _, rfl, .inl ⟨xs, q, hx, e1, by rw [rxs.length, line_eq]; exact hl, rfl⟩, fin _ ⟨_, upd_same, ?_⟩⟩
            exact RVd.kp (Fut.write hmem).kp0 (rxs.put rk rx)
          · cases hp
        · cases hp
  | _ => exact h3.elim
/-! ### new shared objects -/
/-- a list display whose list is to be changed: it gets a number -/
def eNewL (r : EL) : E := fun ρ s => (r ρ s).bind fun ds s => if ds.length ≤ line then .ok (.ref s.length) (s ++ [.lst ds]) else .bad
theorem se_newL {es : List Expr} {ml : EL} (h : SA X W es ml) : SE X W (.List es pos) (eNewL ml) := PE.of (pe_lst h) fun σ H Q ⟨ρ, μ, F, G, st, a, h⟩ => by
  refine tG_at (k := fun (ds : List D) s => if ds.length ≤ line then Res.ok (D.ref s.length) (s ++ [D.lst ds]) else .bad) a h fun xs H1 μ1 st1 ds a1 f1 r1 h1 => ?_
  by_cases hl : ds.length ≤ line
  · rw [if_pos hl] at h1
    refine ⟨by rw [line_eq, r1.length]; exact hl, fun p hp => h1 _ _ (μ1 ++ [p]) (.alloc hp) (a1.s.alloc hp ⟨xs, upd_same, RVs.kp (Fut.alloc hp).kp0 r1⟩) ?_⟩
    unfold RV
    exact ⟨p, rfl, by rw [← a1.s.len, List.getElem?_append_right (Nat.le_refl _), Nat.sub_self, List.getElem?_cons_zero]⟩
  · rw [if_neg hl] at h1; exact h1.elim
end

/-! ### displays of dicts -/
abbrev EPs := Loc → Store → Res (List (D × D))
def dNil : EPs := fun _ s => .ok [] s
def dCons (k v : E) (r : EPs) : EPs := fun ρ s => (k ρ s).bind fun x s => (v ρ s).bind fun y s => (r ρ s).bind fun ps s => .ok ((x, y) :: ps) s
def dicOf : List (D × D) → List (D × D) → Option (List (D × D))
  | acc, [] => some acc
  | acc, (k, v) :: r => match dkey k with
    | some q => dicOf (dputK k q v acc) r
    | none => none
def eDic (r : EPs) : E := fun ρ s => (r ρ s).bind fun ps s => if ps.length ≤ 15 then (match dicOf [] ps with
  | some kvs => .ok (.dic kvs) s
  | none => .bad) else .bad
def RPs (K : PySem.W.Frag) (H : Hp) (μ : Mu) (F : Addr → Prop) : List (D × D) → List (V × V) → Prop
  | [], xs => xs = []
  | (k, d) :: ds, xs => ∃ x y ys, xs = (x, y) :: ys ∧ RV K H μ F k x ∧ RV K H μ F d y ∧ RPs K H μ F ds ys
/-- an object of the walk's own, beside those that F has -/
def plus (F : Addr → Prop) (p : Addr) : Addr → Prop := fun a => F a ∨ a = p
section
variable {pn : Pn} {K : PySem.W.Frag} {W : WX} {H H1 : Hp} {μ μ1 : Mu} {F : Addr → Prop} {G : Own} {st st1 : Store} {ρ : Loc} {σ : St} {p : Addr} {o : HO}
theorem Fut.kpP (n : H p = none) (f : Fut (upd H p o) μ H1 μ1) : Kp H μ F H1 μ1 (plus F p) :=
  ((Fut.new (μ := μ) n).trans f).kp fun a h => h.elim .inl fun e => .inr (by rw [e]; exact n)
theorem RS.plus (s : RS K H μ F st) (n : H p = none) : RS K (upd H p o) μ (plus F p) st where
  len := s.len
  nd := s.nd
  nf := fun a h z => z.elim (s.nf a h) fun e => (s.fresh n).1 (by rw [← e]; exact h)
  fd := fun a h => h.elim (fun z => (s.new n).fd a z) fun e => ⟨o, by rw [e, upd_same]⟩
  at_ := fun m d h => by
    obtain ⟨a, e, c⟩ := s.at_ m d h
    refine ⟨a, e, c.kp (Fut.kpP n .refl) ?_⟩
    obtain ⟨q, e2, _⟩ := c.some
    exact upd_ne (ne_of_none e2 n)
theorem RSlot.kp {H' : Hp} {μ' : Mu} {F' : Addr → Prop} (k : Kp H μ F H' μ' F') (hG : ∀ a, G.g a → F a → F' a ∧ ∀ o, H a = some o → H' a = some o) {sl : Slot} {v : Option V} (h : RSlot pn K H μ F G sl v) : RSlot pn K H' μ' F' G sl v := by
  cases sl with
  | no => exact True.intro
  | pu d => obtain ⟨v, e, q⟩ := h; exact ⟨v, e, RV.kp k q⟩
  | ow b d =>
    obtain ⟨a, e, h0, h1, h2⟩ := h
    obtain ⟨z1, z2⟩ := hG a h0.1 h1
    obtain ⟨u, q, _⟩ := h2.some
    exact ⟨a, e, h0, z1, h2.kp k ((z2 u q).trans q.symm)⟩
  | exc C fs =>
    obtain ⟨a, oe, d, xs, e, hp, hz, hd, h1, h2, h3, h4⟩ := h
    obtain ⟨q1, q2, q3⟩ := k.pure d _ h1 h2 h3
    exact ⟨a, oe, d, xs, e, hp, hz, hd, q1, q2, q3, RVf.kp k h4⟩
theorem At.plus (a : At pn K H μ F G ρ σ st) (n : H p = none) : At pn K (upd H p o) μ (plus F p) G ρ σ st where
  l := ⟨a.l.len, fun i sl e => let ⟨v, e1, q⟩ := a.l.at_ i sl e; ⟨v, e1, q.kp (Fut.kpP n .refl) fun b h1 h2 => ⟨.inl h2, fun u e => by rw [upd_ne (ne_of_none e n)]; exact e⟩⟩, a.l.inj⟩
  s := a.s.plus n
  gf := fun b h => .inl (a.gf b h)
theorem RS.minus (s : RS K H1 μ1 (Dn.plus F p) st) : RS K H1 μ1 F st := s.weak fun a h => .inl h
/-- what is held changes -/
theorem RS.held (s : RS K H μ F st) (h : F p) : RS K (upd H p o) μ F st where
  len := s.len
  nd := s.nd
  nf := s.nf
  fd := fun a z => by
    by_cases e : a = p
    · exact ⟨o, by rw [e, upd_same]⟩
    · obtain ⟨u, q⟩ := s.fd a z
      exact ⟨u, by rw [upd_ne e]; exact q⟩
  at_ := fun m d z => by
    obtain ⟨a, e, c⟩ := s.at_ m d z
    have na : a ≠ p := fun w => s.nf a (List.mem_of_getElem? e) (by rw [w]; exact h)
    exact ⟨a, e, c.kp ⟨fun b u q1 q2 q3 => ⟨by rw [upd_ne (fun w => q3 (by rw [w]; exact h))]; exact q1, q2, q3⟩, fun _ _ q => q⟩ (upd_ne na)⟩
theorem kp_held (h : F p) : Kp H μ F (upd H p o) μ F := ⟨fun b u q1 q2 q3 => ⟨by rw [upd_ne (fun w => q3 (by rw [w]; exact h))]; exact q1, q2, q3⟩, fun _ _ q => q⟩
theorem Fut.heldNew {o' : HO} (f : Fut (upd H p o) μ H1 μ1) (n : H p = none) : Fut H μ (upd H1 p o') μ1 := by
  obtain ⟨l, e, q⟩ := id f.ext
  refine ⟨⟨l, e, fun a h => ?_⟩, fun a u m h => ?_, fun a u h => ?_⟩
  · have z := q a h
    by_cases w : a = p
    · rw [w, upd_same] at z; cases z
    · rw [upd_ne w] at z; exact z
  · have w := ne_of_none h n
    rw [upd_ne w]
    exact f.keep a u m (by rw [upd_ne w]; exact h)
  · have w := ne_of_none h n
    rw [upd_ne w]
    exact f.there a u (by rw [upd_ne w]; exact h)
/-- the held object is let go: a dict, a list -/
theorem RS.outD (s : RS K H1 μ1 (Dn.plus F p) st) (n : ¬ F p) {kvs : List (D × D)} {xs : List (Key × V)} (r : RVd K H1 μ1 (Dn.plus F p) kvs xs) : RV K (upd H1 p (.dK xs)) μ1 F (.dic kvs) (.ref p) := by
  unfold RV
  exact ⟨p, xs, rfl, ⟨.inl upd_same, fun z => s.nf p z (.inr rfl), n⟩, RVd.kp ⟨fun b u q1 q2 q3 => ⟨by rw [upd_ne (fun w => q3 (.inr w))]; exact q1, q2, fun z => q3 (.inl z)⟩, fun _ _ q => q⟩ r⟩
theorem RS.outL (s : RS K H1 μ1 (Dn.plus F p) st) (n : ¬ F p) {ds : List D} {xs : List V} (h : H1 p = some (.lst xs)) (r : RVs K H1 μ1 (Dn.plus F p) ds xs) : RV K H1 μ1 F (.lst ds) (.ref p) := by
  unfold RV
  exact ⟨p, xs, rfl, ⟨h, fun z => s.nf p z (.inr rfl), n⟩, RVs.kp ⟨fun b u q1 q2 q3 => ⟨q1, q2, fun z => q3 (.inl z)⟩, fun _ _ q => q⟩ r⟩
theorem RPs.length : ∀ {ds : List (D × D)} {xs : List (V × V)}, RPs K H μ F ds xs → xs.length = ds.length
  | [], xs, h => by rw [show xs = [] from h]; rfl
  | (q, d) :: ds, xs, h => by
    obtain ⟨x, y, ys, e, a, b, c⟩ := h
    rw [e, List.length_cons, List.length_cons, RPs.length c]
theorem RPs.kp {H' : Hp} {μ' : Mu} {F' : Addr → Prop} (k : Kp H μ F H' μ' F') : ∀ {ds : List (D × D)} {xs : List (V × V)}, RPs K H μ F ds xs → RPs K H' μ' F' ds xs
  | [], xs, h => h
  | (q, d) :: ds, xs, h => let ⟨x, y, ys, e, a, b, c⟩ := h; ⟨x, y, ys, e, RV.kp k a, RV.kp k b, RPs.kp k c⟩
end
section
variable {X : Cx} {W : WX} {pos : Pos}
def dPairs : List (E × E) → EPs
  | [] => dNil
  | (k, v) :: r => dCons k v (dPairs r)
abbrev tGV (X : Cx) (W : WX) (m : E) : TE := tG (fun F H μ d v => RV X.K H μ F d v) X.pn X.K W m
theorem pairs_at : ∀ (ms : List (E × E)) (σ : St) (H : Hp) (R : List (V × V) → Hp → Prop), tG (fun F H μ ds xs => RPs X.K H μ F ds xs) X.pn X.K W (dPairs ms) σ H R → tPairs (ms.map fun m => (tGV X W m.1, tGV X W m.2)) σ H R
  | [], σ, H, R, ⟨ρ, μ, F, G, st, a, h⟩ => h [] H μ .refl a.s rfl
  | (k, v) :: r, σ, H, R, ⟨ρ, μ, F, G, st, a, h⟩ => by
    refine tG_at (k := fun x s => (v ρ s).bind fun y s => (dPairs r ρ s).bind fun ps s => .ok ((x, y) :: ps) s) a h fun x H1 μ1 st1 d a1 f1 r1 h1 => ?_
    refine tG_at (k := fun y s => (dPairs r ρ s).bind fun ps s => .ok ((d, y) :: ps) s) a1 h1 fun y H2 μ2 st2 e a2 f2 r2 h2 => ?_
    refine pairs_at r σ H2 _ (tG_at (k := fun ps s => .ok ((d, e) :: ps) s) a2 h2 fun ps H3 μ3 st3 ds a3 f3 r3 h3 => ?_)
    exact h3 _ H3 μ3 .refl a3.s ⟨x, y, ps, rfl, RV.kp f3.kp0 (RV.kp f2.kp0 r1), RV.kp f3.kp0 r2, r3⟩
theorem dicOf_rel {K : PySem.W.Frag} {H : Hp} {μ : Mu} {F : Addr → Prop} : ∀ {ds : List (D × D)} {ps : List (V × V)} {acc kvs : List (D × D)} {xs : List (Key × V)}, RPs K H μ F ds ps → RVd K H μ F acc xs → dicOf acc ds = some kvs →
    ∃ ks : List (Key × V), ps = ks.map (fun kv => (kV kv.1, kv.2)) ∧ RVd K H μ F kvs (mergeK xs ks)
  | [], ps, acc, kvs, xs, h, g, e => by
    cases e
    rw [show ps = [] from h]
    exact ⟨[], rfl, g⟩
  | (k, d) :: ds, ps, acc, kvs, xs, h, g, e => by
    obtain ⟨x, y, ys, e1, a, b, c⟩ := h
    simp only [dicOf] at e
    cases hq : dkey k with
    | none => rw [hq] at e; cases e
    | some q =>
      rw [hq] at e
      have ex : x = kV q := by
        cases k with
        | int i => cases hq; unfold RV at a; exact a
        | str i => cases hq; unfold RV at a; exact a
        | _ => cases hq
      subst ex
      obtain ⟨ks, e2, r⟩ := dicOf_rel c (g.put a b) e
      refine ⟨(q, y) :: ks, by rw [e1, e2]; rfl, ?_⟩
      exact r
theorem se_dic {keys : List (Option Expr)} {values : List Expr} {ms : List (E × E)} (h : PPs X pos keys values (ms.map fun m => (tGV X W m.1, tGV X W m.2))) (hall : keys.all (·.isSome) = true := by rfl) (hl : keys.length = values.length := by rfl) (h0 : keys ≠ [] := by exact fun z => nomatch z)
    (h15 : keys.length ≤ 15 := by decide) : SE X W (.Dict keys values pos) (eDic (dPairs ms)) := PE.of (pe_disp h hall hl h0 h15) fun σ H Q ⟨ρ, μ, F, G, st, a, h⟩ => by
  intro p hp
  refine pairs_at ms σ _ _ ⟨ρ, μ, plus F p, G, st, a.plus hp, ?_⟩
  have h : OkG (fun H μ d v => RV X.K H μ F d v) X.K W F σ H μ (((dPairs ms) ρ st).bind fun ps s => if ps.length ≤ 15 then (match dicOf [] ps with
  | some kvs => .ok (.dic kvs) s
  | none => .bad) else .bad) Q := h
  cases e : dPairs ms ρ st with
  | bad => rw [e] at h; exact h.elim
  | ex C fs s =>
    rw [e] at h
    refine fun d H' μ' xs f rs e1 e2 e3 e4 => h d H' μ' xs ((Fut.new hp).trans f) rs.minus e1 e2 (fun z => e3 (.inl z)) (RVf.kp ⟨fun b o q n nF => ⟨q, n, fun z => nF (.inl z)⟩, fun _ _ q => q⟩ e4)
  | ok ds s =>
    rw [e] at h
    intro ps H2 μ2 f rs r
    have h : OkG (fun H μ d v => RV X.K H μ F d v) X.K W F σ H μ (if ds.length ≤ 15 then (match dicOf [] ds with
  | some kvs => .ok (.dic kvs) s
  | none => .bad) else .bad) Q := h
    split at h
    · rename_i hle
      cases ed : dicOf [] ds with
      | none => rw [ed] at h; exact h.elim
      | some kvs =>
        rw [ed] at h
        have hm : p ∉ μ := (a.s.fresh hp).1
        have hk : H2 p = some (.dK []) := f.keep p _ hm upd_same
        obtain ⟨ks, e1, rk⟩ := dicOf_rel (xs := []) r RVd.nil ed
        refine ⟨hk, ks, e1, ?_, ?_⟩
        · rw [← List.length_map (f := fun kv : Key × V => (kV kv.1, kv.2)), ← e1, r.length]; exact hle
        · exact h (.ref p) _ μ2 (f.heldNew hp) (rs.held (.inr rfl)).minus (RS.outD rs (a.s.fresh hp).2 rk)
    · exact h.elim
end
end Dn

/-! Dn: list comprehensions. -/
namespace Dn
open PySem PySem.Spec L2
open PyProof.Rows hiding St RelV

def Slot.drop : Slot → Slot
  | .exc _ _ => .no
  | s => s
/-- the slots within a comprehension's block: its own names forgotten -/
def wipeL (ρ : Loc) : List Nat → Loc
  | [] => ρ.map Slot.drop
  | v :: vs => (wipeL ρ vs).set v .no
def W0 : WX := fun _ _ _ _ => False
/-- the loop: None where something fails -/
def lcM (t : Tgt) (c : ET) (e : E) (ρ0 : Loc) : List D → Store → Option (List D × Store)
  | [], s => some ([], s)
  | d :: ds, s => match setT t d ρ0 with
    | none => none
    | some ρ => match c ρ s with
      | .ok true s => (match e ρ s with
        | .ok x s => (match lcM t c e ρ0 ds s with
          | some (xs, s) => some (x :: xs, s)
          | none => none)
        | _ => none)
      | .ok false s => lcM t c e ρ0 ds s
      | _ => none
def lcK (t : Tgt) (c : ET) (e : E) (ρ0 : Loc) (ds : List D) (s : Store) : Res D := if ds.length ≤ line then (match lcM t c e ρ0 ds s with
  | some (xs, s) => .ok (.lst xs) s
  | none => .bad) else .bad
def eLc (t : Tgt) (it : EI) (c : ET) (e : E) (vs : List Nat) : E := fun ρ s => (it ρ s).bind (lcK t c e (wipeL ρ vs))
def eYes : ET := fun _ s => .ok true s
def SPT (X : Cx) (W : WX) (ifs : List Expr) (m : ET) : Prop := PTs X ifs (tG (fun _ _ _ d v => d = v) X.pn X.K W m)
theorem PTs.of {X : Cx} {e : List Expr} {t t' : TT} (h : PTs X e t) (i : ∀ σ H Q, t' σ H Q → t σ H Q) : PTs X e t' := ⟨fun pins s σ H Q I q => h.run pins s σ H Q I (i σ H Q q)⟩
section
variable {pn : Pn} {K : PySem.W.Frag} {W : WX} {H H' H1 : Hp} {μ μ' μ1 : Mu} {F F' : Addr → Prop} {G GD : Own} {st st1 : Store} {ρ : Loc} {σ : St}
theorem spt_nil {X : Cx} {W : WX} : SPT X W [] eYes := PTs.of pts_nil fun σ H Q ⟨ρ, μ, F, G, st, a, h⟩ => h true H μ .refl a.s rfl
theorem spt_one {X : Cx} {W : WX} {c : Expr} {m : ET} (h : ST X W c m) : SPT X W [c] m := pts_one h
theorem RL.drop (h : RL pn K H μ F G ρ σ) : RL [] K H μ F G (ρ.map Slot.drop) σ := by
  refine ⟨by rw [List.length_map]; exact h.len, fun i sl e => ?_, fun i j b c d e a h1 h2 h3 h4 => ?_⟩
  · rw [List.getElem?_map] at e
    obtain ⟨s0, e1, e2⟩ := Option.map_eq_some_iff.mp e
    obtain ⟨o, e3, q⟩ := h.at_ i s0 e1
    refine ⟨o, e3, ?_⟩
    cases s0 <;> (subst e2; first | exact True.intro | exact q)
  · rw [List.getElem?_map] at h1 h2
    obtain ⟨s1, e1, e2⟩ := Option.map_eq_some_iff.mp h1
    obtain ⟨s2, e3, e4⟩ := Option.map_eq_some_iff.mp h2
    have k1 : s1 = .ow b d := by cases s1 <;> first | exact e2 | cases e2
    have k2 : s2 = .ow c e := by cases s2 <;> first | exact e4 | cases e4
    subst k1 k2
    exact h.inj i j b c d e a e1 e3 h3 h4
theorem RL.unset (h : RL pn K H μ F G ρ σ) (v : Nat) (x : Option V) : RL pn K H μ F G (ρ.set v .no) (σ.set v x) := by
  have get : ∀ {i : Nat} {sl : Slot}, (ρ.set v .no)[i]? = some sl → (i = v ∧ sl = .no) ∨ (v ≠ i ∧ ρ[i]? = some sl) := fun {i sl} e => by
    by_cases z : v = i
    · subst z
      have hi : v < ρ.length := by
        have := (List.getElem?_eq_some_iff.mp e).1
        rwa [List.length_set] at this
      rw [List.getElem?_set_self hi] at e
      cases e
      exact .inl ⟨rfl, rfl⟩
    · rw [List.getElem?_set_ne z] at e
      exact .inr ⟨z, e⟩
  refine ⟨by rw [List.length_set, List.length_set]; exact h.len, fun i sl e => ?_, fun i j b c d e a h1 h2 h3 h4 => ?_⟩
  · rcases get e with ⟨z1, z2⟩ | ⟨z1, z2⟩
    · subst z1 z2
      have hi : i < ρ.length := by
        have := (List.getElem?_eq_some_iff.mp e).1
        rwa [List.length_set] at this
      exact ⟨x, List.getElem?_set_self (by rw [← h.len]; exact hi), True.intro⟩
    · obtain ⟨o, e1, q⟩ := h.at_ i sl z2
      exact ⟨o, (List.getElem?_set_ne z1).trans e1, q⟩
  · rcases get h1 with ⟨_, z2⟩ | ⟨z1, z2⟩
    · cases z2
    · rcases get h2 with ⟨_, w2⟩ | ⟨w1, w2⟩
      · cases w2
      · rw [List.getElem?_set_ne z1] at h3
        rw [List.getElem?_set_ne w1] at h4
        exact h.inj i j b c d e a z2 w2 h3 h4
theorem RL.wipe (h : RL pn K H μ F G ρ σ) : ∀ vs : List Nat, RL [] K H μ F G (wipeL ρ vs) (wipe σ vs)
  | [] => h.drop
  | v :: vs => by
    unfold wipeL L2.wipe
    exact (RL.wipe h vs).unset v none
theorem wipe_out2 {l : List Nat} {σ σ' : St} : ∀ (vs : List Nat), Out l σ σ' → (∀ i ∈ l, i ∈ vs) → wipe σ' vs = wipe σ vs := by
  intro vs h hl
  apply List.ext_getElem?
  intro j
  by_cases hj : j ∈ vs
  · have key : ∀ (τ : St) (vs : List Nat), j ∈ vs → (wipe τ vs)[j]? = if j < τ.length then some none else none := by
      intro τ vs
      induction vs with
      | nil => intro h; cases h
      | cons v vs ih =>
        intro hv
        unfold wipe
        by_cases e : v = j
        · subst e
          by_cases hlen : v < τ.length
          · rw [if_pos hlen, List.getElem?_set_self (by rw [wipe_length]; exact hlen)]
          · rw [if_neg hlen, List.getElem?_eq_none (by rw [List.length_set, wipe_length]; omega)]
        · rw [List.getElem?_set_ne e]
          exact ih ((List.mem_cons.mp hv).resolve_left (Ne.symm e))
    rw [key σ' vs hj, key σ vs hj, h.1]
  · have key : ∀ (τ : St) (vs : List Nat), j ∉ vs → (wipe τ vs)[j]? = τ[j]? := by
      intro τ vs
      induction vs with
      | nil => intro _; rfl
      | cons v vs ih =>
        intro hv
        unfold wipe
        rw [List.getElem?_set_ne (fun e => hv (by rw [e]; exact List.mem_cons_self))]
        exact ih fun z => hv (List.mem_cons_of_mem _ z)
    rw [key σ' vs hj, key σ vs hj]
    exact h.2 j fun z => hj (hl j z)
/-- objects of GD change, those of G do not -/
theorem RL.ev2 (a : At pn K H μ F G ρ σ st) (e : Ev H μ F GD H' μ' F GD) (gd : ∀ b, GD.g b → F b ∧ ¬ G.g b) : RL pn K H' μ' F G ρ σ :=
  ⟨a.l.len, fun i sl h => let ⟨v, e1, q⟩ := a.l.at_ i sl h; ⟨v, e1, q.kp (e.kp fun b z => (gd b z).1) fun b h1 h2 => ⟨h2, fun u w => e.keep b u (fun z => a.s.nf b z h2) (fun z => (gd b z).2 h1) w⟩⟩, a.l.inj⟩
theorem RS.ev (s : RS K H μ F st) (f : Fut H μ H' μ') : Ev H μ F G H' μ' F G := ⟨f.ext, fun b o n _ h => f.keep b o n h, f.there, fun _ h => .inl h, fun _ h => .inl h, fun _ h => .inl h, s.fd, rfl⟩
def own1 (p : Addr) : Own := ⟨(· = p), none⟩
theorem RS.evHeld {p : Addr} {o : HO} (s : RS K H μ F st) (h : ∃ u, H p = some u) : Ev H μ F (own1 p) (upd H p o) μ F (own1 p) :=
  ⟨⟨[], by simp, fun _ z => nomatch z⟩, fun b u _ n z => by rw [upd_ne n]; exact z, fun b u z => by
    by_cases e : b = p
    · exact ⟨o, by rw [e, upd_same]⟩
    · exact ⟨u, by rw [upd_ne e]; exact z⟩, fun _ h => .inl h, fun _ h => .inl h, fun _ h => .inl h, s.fd, rfl⟩
theorem Ev.heldNew {p : Addr} {o : HO} {F' : Addr → Prop} (f : Ev (upd H p o) μ F (own1 p) H1 μ1 F (own1 p)) (n : H p = none) : Fut H μ H1 μ1 := by
  obtain ⟨l, e, q⟩ := id f.ext
  refine ⟨⟨l, e, fun a h => ?_⟩, fun a u m h => ?_, fun a u h => ?_⟩
  · have z := q a h
    by_cases w : a = p
    · rw [w, upd_same] at z; cases z
    · rw [upd_ne w] at z; exact z
  · have w := ne_of_none h n
    exact f.keep a u m w (by rw [upd_ne w]; exact h)
  · have w := ne_of_none h n
    exact f.there a u (by rw [upd_ne w]; exact h)
end
theorem OkG.w0 {α β : Type} {P : Hp → Mu → α → β → Prop} {K : PySem.W.Frag} {F : Addr → Prop} {σ : St} {H : Hp} {μ : Mu} {a : α} {s : Store} {Q : β → Hp → Prop} (h : ∀ v H' μ', Fut H μ H' μ' → RS K H' μ' F s → P H' μ' a v → Q v H') {r : Res α} (e : r = .ok a s) : OkG P K W0 F σ H μ r Q := by
  rw [e]; exact h

section
variable {X : Cx} {W : WX} {elt tg iter : Expr} {ifs : List Expr} {scope : Scope} {own : List (Str × Nat)} {pos : Pos} {mi : EI} {t : Tgt} {mc : ET} {me : E}
theorem lc_at (hv : ∀ i ∈ tvs t, i ∈ own.map (·.2)) {σ : St} {H : Hp} {Q : VK} (h : tG (fun F H μ d v => RV X.K H μ F d v) X.pn X.K W (eLc t mi mc me (own.map (·.2))) σ H Q) :
    tLc (tG (fun F H μ ds J => Walks X.K F H μ J ds) X.pn X.K W mi) (gT [] X.K t) (tG (fun _ _ _ d v => d = v) [] X.K W0 mc) (tG (fun F H μ d v => RV X.K H μ F d v) [] X.K W0 me) (own.map (·.2)) σ H Q := by
  obtain ⟨ρ, μ, F, G, st, a, h⟩ := h
  refine tG_at (k := lcK t mc me (wipeL ρ (own.map (·.2)))) a h fun J H1 μ1 st1 ds a1 f1 wk h1 => ?_
  intro p hp
  unfold lcK at h1
  by_cases hlen : ds.length ≤ line
  case neg =>
    rw [if_neg hlen] at h1
    exact h1.elim
  rw [if_pos hlen] at h1
  cases hm : lcM t mc me (wipeL ρ (own.map (·.2))) ds st1 with
  | none => rw [hm] at h1; exact h1.elim
  | some xs =>
    obtain ⟨xs, sf⟩ := xs
    rw [hm] at h1
    have aw : At [] X.K (upd H1 p (.lst [])) μ1 (plus F p) G (wipeL ρ (own.map (·.2))) (wipe σ (own.map (·.2))) st1 := by
      have ap : At X.pn X.K (upd H1 p (.lst [])) μ1 (plus F p) G ρ σ st1 := a1.plus hp
      exact ⟨ap.l.wipe _, ap.s, ap.gf⟩
    have gd : ∀ b, (own1 p).g b → plus F p b ∧ ¬ G.g b := fun b e => ⟨.inr e, fun z => (a1.s.fresh hp).2 (by rw [← e]; exact a1.gf b z)⟩
    refine ⟨fun i m H => m = ds.length - i ∧ i ≤ ds.length ∧ ∃ μ st acc accd rest, Ev (upd H1 p (.lst [])) μ1 (plus F p) (own1 p) H μ (plus F p) (own1 p) ∧ RS X.K H μ (plus F p) st ∧ H p = some (.lst acc) ∧ RVs X.K H μ (plus F p) accd acc ∧ accd.length ≤ i ∧
      lcM t mc me (wipeL ρ (own.map (·.2))) (ds.drop i) st = some (rest, sf) ∧ accd ++ rest = xs, ⟨ds.length, by simp, Nat.zero_le _, μ1, st1, [], [], xs, aw.s.ev .refl, aw.s, upd_same, RVs.nil, Nat.le_refl _, hm, rfl⟩, ?_⟩
    rintro i m H2 ⟨rfl, hi2, μ2, st2, acc, accd, rest, e2, s2, hp2, ra, hla, hl2, hx⟩
    have kp := e2.kp (fun b z => (gd b z).1)
    have kp0 : Kp H1 μ1 F H2 μ2 (plus F p) := (e2.heldNew (F' := F) hp).kp fun b z => z.elim .inl fun w => .inr (by rw [w]; exact hp)
    have a2 : At [] X.K H2 μ2 (plus F p) G (wipeL ρ (own.map (·.2))) (wipe σ (own.map (·.2))) st2 := ⟨RL.ev2 aw e2 gd, s2, aw.gf⟩
    by_cases hlt : i < ds.length
    · have ed : ds.drop i = ds[i] :: ds.drop (i + 1) := List.drop_eq_getElem_cons hlt
      rw [ed] at hl2
      obtain ⟨g1, g2⟩ := wk.go i ds[i] H2 μ2 (plus F p) st2 (List.getElem?_eq_getElem hlt) kp0 s2
      refine .inr ⟨g1, fun H' => ∃ μ st acc accd rest, Ev (upd H1 p (.lst [])) μ1 (plus F p) (own1 p) H' μ (plus F p) (own1 p) ∧ RS X.K H' μ (plus F p) st ∧ H' p = some (.lst acc) ∧ RVs X.K H' μ (plus F p) accd acc ∧ accd.length ≤ i + 1 ∧
        lcM t mc me (wipeL ρ (own.map (·.2))) (ds.drop (i + 1)) st = some (rest, sf) ∧ accd ++ rest = xs, fun H' h' => ⟨ds.length - (i + 1), by omega, rfl, hlt, h'⟩, fun x H3 hy => ?_⟩
      obtain ⟨rs3, f3, rv3⟩ := g2 x H3 hy
      have a3 := a2.fut f3 rs3
      have e3 := e2.trans (s2.ev f3)
      have hp3 : H3 p = some (.lst acc) := f3.keep p _ (fun z => s2.nf p z (.inr rfl)) hp2
      have ra3 := RVs.kp f3.kp0 ra
      simp only [lcM] at hl2
      cases hset : setT t ds[i] (wipeL ρ (own.map (·.2))) with
      | none => rw [hset] at hl2; cases hl2
      | some ρ3 =>
        rw [hset] at hl2
        refine ⟨_, μ2, plus F p, G, st2, ds[i], ρ3, a3, rv3, hset, fun σ4 a4 o4 => ⟨?_, ?_⟩⟩
        · have w := wipe_out2 (own.map (·.2)) o4 hv
          rw [w]
          exact (wipe_out2 (l := own.map (·.2)) (own.map (·.2)) (σ := σ) (σ' := wipe σ (own.map (·.2))) ⟨wipe_length _ _, fun j hj => wipe_out hj⟩ fun _ z => z)
        · refine ⟨ρ3, μ2, plus F p, G, st2, a4, ?_⟩
          dsimp only at hl2
          cases hcv : mc ρ3 st2 with
          | bad => rw [hcv] at hl2; cases hl2
          | ex C fs s => rw [hcv] at hl2; cases hl2
          | ok b s5 =>
            rw [hcv] at hl2
            intro b' H5 μ5 f5 rs5 eb
            subst eb
            have a5 := a4.fut f5 rs5
            have e5 := e3.trans (rs3.ev f5)
            have hp5 : H5 p = some (.lst acc) := f5.keep p _ (fun z => rs3.nf p z (.inr rfl)) hp3
            have ra5 := RVs.kp f5.kp0 ra3
            cases b with
            | false =>
              rw [if_neg Bool.false_ne_true]
              exact ⟨μ5, s5, acc, accd, rest, e5, rs5, hp5, ra5, Nat.le_succ_of_le hla, hl2, hx⟩
            | true =>
              rw [if_pos rfl]
              refine ⟨ρ3, μ5, plus F p, G, s5, a5, ?_⟩
              dsimp only at hl2
              cases hev : me ρ3 s5 with
              | bad => rw [hev] at hl2; cases hl2
              | ex C fs s => rw [hev] at hl2; cases hl2
              | ok y s6 =>
                rw [hev] at hl2
                dsimp only at hl2
                intro v H6 μ6 f6 rs6 rv6
                have hp6 : H6 p = some (.lst acc) := f6.keep p _ (fun z => rs5.nf p z (.inr rfl)) hp5
                have ra6 := RVs.kp f6.kp0 ra5
                have e6 := e5.trans (rs5.ev f6)
                cases hr : lcM t mc me (wipeL ρ (own.map (·.2))) (ds.drop (i + 1)) s6 with
                | none => rw [hr] at hl2; cases hl2
                | some q =>
                  obtain ⟨ys, sg⟩ := q
                  rw [hr] at hl2
                  dsimp only at hl2
                  have hl3 := Option.some.inj hl2
                  have hl4 : y :: ys = rest ∧ sg = sf := Prod.mk.injEq .. ▸ hl3
                  obtain ⟨hr1, hr2⟩ := hl4
                  subst hr2
                  refine ⟨acc, hp6, ?_, μ6, s6, acc ++ [v], accd ++ [y], ys, e6.trans (rs6.evHeld ⟨_, hp6⟩), rs6.held (.inr rfl), upd_same, ?_, ?_, hr, ?_⟩
                  · rw [ra6.length, line_eq]; omega
                  · exact RVs.kp (kp_held (.inr rfl)) (ra6.append (RVs.cons rv6 RVs.nil))
                  · rw [List.length_append, List.length_singleton]; omega
                  · rw [List.append_assoc, List.singleton_append, hr1]; exact hx
    · have e : i = ds.length := by omega
      subst e
      rw [List.drop_length] at hl2
      simp only [lcM, Option.some.injEq, Prod.mk.injEq] at hl2
      obtain ⟨hr1, hr2⟩ := hl2
      subst hr1 hr2
      rw [List.append_nil] at hx
      subst hx
      exact .inl ⟨wk.stop _ H2 μ2 (plus F p) (Nat.le_refl _) kp0, h1 (.ref p) H2 μ2 (e2.heldNew (F' := F) hp) s2.minus (s2.outL (a1.s.fresh hp).2 hp2 ra)⟩
theorem se_lc (hc : X.calm = true) (hN : X.N.Nodup) (hi : SI X W tg iter mi) (ok : BlkOk X.N X.env.scope scope own)
    (hg : ∀ (s : Shared) (H : Hp) (C : Addr) (cl : List (Str × Addr)) (fp : List Addr), SG (X.blk s H scope (compEnvC scope cl C X.env) fp) tg t) (ht : ∀ (s : Shared) (H : Hp) (C : Addr) (cl : List (Str × Addr)) (fp : List Addr), SPT (X.blk s H scope (compEnvC scope cl C X.env) fp) W0 ifs mc)
    (he : ∀ (s : Shared) (H : Hp) (C : Addr) (cl : List (Str × Addr)) (fp : List Addr), SE (X.blk s H scope (compEnvC scope cl C X.env) fp) W0 elt me) (hv : ∀ i ∈ tvs t, i ∈ own.map (·.2)) (hs : ∀ x, foldedSetIterable iter X.env x = pure x := by intro _; rfl) :
    SE X W (.ListComp elt [⟨tg, iter, ifs, 0⟩] scope pos) (eLc t mi mc me (own.map (·.2))) :=
  PE.of (pe_lc (te := tG (fun F H μ d v => RV X.K H μ F d v) [] X.K W0 me) (tt := tG (fun _ _ _ d v => d = v) [] X.K W0 mc) (g := gT [] X.K t) hc hN hi ok hg ht he hs) fun σ H Q h => lc_at hv h
/-- x = [..], x a plain local -/
theorem ss_setLc {i : Nat} {y : Str} {py spos : Pos} (hc : X.calm = true) (hN : X.N.Nodup) (hi : SI X W tg iter mi) (ok : BlkOk X.N X.env.scope scope own)
    (hg : ∀ (s : Shared) (H : Hp) (C : Addr) (cl : List (Str × Addr)) (fp : List Addr), SG (X.blk s H scope (compEnvC scope cl C X.env) fp) tg t) (ht : ∀ (s : Shared) (H : Hp) (C : Addr) (cl : List (Str × Addr)) (fp : List Addr), SPT (X.blk s H scope (compEnvC scope cl C X.env) fp) W0 ifs mc)
    (he : ∀ (s : Shared) (H : Hp) (C : Addr) (cl : List (Str × Addr)) (fp : List Addr), SE (X.blk s H scope (compEnvC scope cl C X.env) fp) W0 elt me) (hv : ∀ i ∈ tvs t, i ∈ own.map (·.2))
    (hsw : swapsWith (.ListComp elt [⟨tg, iter, ifs, 0⟩] scope pos) (some (.Name y py)) spos.line X.env = pure true := by exact sw_true (by rfl) (by rfl) (by rfl) (by rfl)) (hy : X.N[i]? = some y := by rfl) (hyl : X.env.scope.names.lookup y = some .local := by rfl) (hs : ∀ x, foldedSetIterable iter X.env x = pure x := by intro _; rfl) :
    SS X W (.Assign [.Name y py] (.ListComp elt [⟨tg, iter, ifs, 0⟩] scope pos) spos) (sSet i (eLc t mi mc me (own.map (·.2)))) :=
  PS.of (ps_setLc (te := tG (fun F H μ d v => RV X.K H μ F d v) [] X.K W0 me) (tt := tG (fun _ _ _ d v => d = v) [] X.K W0 mc) (g := gT [] X.K t) hc hN hy hyl hsw hi ok hg ht he hs) fun D σ H ⟨ρ, μ, F, G, st, a, h⟩ =>
    lc_at hv (tS_e (k := fun d s => .nx (ρ.set i (.pu d)) s) a h fun x H1 μ1 st1 d a1 f r h1 => h1 _ H1 μ1 F G (a1.ev .refl) (a1.setP r))
/-! ### - a -/
def eNeg (a : E) : E := fun ρ s => (a ρ s).bind fun x s => match x with
  | .int i => .ok (.int (-i)) s
  | _ => .bad
theorem se_neg {a : Expr} {ma : E} (ha : SE X W a ma) : SE X W (.UnaryOp .USub a pos) (eNeg ma) := PE.of (pe_un un_neg ha) fun σ H Q ⟨ρ, μ, F, G, st, a, h⟩ =>
  tG_at (k := fun (x : D) (s : Store) => match x with
  | D.int i => Res.ok (D.int (-i)) s
  | _ => .bad) a h fun x H1 μ1 st1 d a1 f1 r1 h1 => by
    cases d with
    | int i =>
      unfold RV at r1
      exact ⟨i, r1, h1 _ H1 μ1 .refl a1.s (RV_int _)⟩
    | _ => exact h1.elim
end

theorem takes_w0 {X : Cx} : Takes X W0 := fun _ _ ⟨_, _, _, _, _, _, _, _, _, _, _, _, _, _, _, _, w⟩ => w.elim
/-! ### a def by facts -/
/-- a def of the module, without defaults, keeps its promise -/
def FOk (P : Program) (w : World) (K : PySem.W.Frag) (mg : Str → Option Value) (base : Heap) (x : String) (st : Stmt) (k : Nat) (ps : List Str) (m : M) : Prop :=
  ∃ fd, FunD K x x (defArgs st) (defBody st) (defScope st) [] [] (He.ga K x) fd ∧ FnOk P w K mg base (L2.CX P w) k (He.ga K x) fd ps (spOf K ps.length m)
section
variable {X : Cx} {W : WX} {x : String} {st : Stmt} {k j np : Nat} {ps ks : List Str} {m : M} {perm : List Nat}
theorem FOk.calls (F : FOk X.prog X.w X.K X.mg X.base x st k ps m) (hr : Room j X.A) (hj : k ≤ j) (tk : Takes X W) (np : Nat) (ks : List Str) (perm : List Nat)
    (h : ∀ (kV doc pm : Value) (an : Option Addr) (cdv ct : Value) (us ws : List Value), us.length = np → ws.length = ks.length → bindArgs (PySem.W.fnOf x x (defArgs st) (defBody st) (defScope st) .none kV doc pm an cdv ct) ⟨us, ks.zip ws⟩ = pure (ps.zip (pick perm (us ++ ws))))
    (hp : perm.length = ps.length := by rfl) : CallsD X W (.ref (He.ga X.K x)) ks (argsM np ks.length perm [] m) := by
  obtain ⟨fd, F1, F2⟩ := F
  refine fn_calls F2 (hr.mono hj) tk ?_ hp
  refine ⟨[], [], .nil, fun _ _ _ => RVs.nil, fun s us ws _ h1 h2 => ?_⟩
  obtain ⟨oc, od, dV, kV, doc, pm, an, cdv, ct, osl, rfl, lk, hcd, hD, hK⟩ := F1.ex
  rcases hD with ⟨_, rfl⟩ | ⟨e, _⟩
  · rw [List.append_nil]
    exact .of_eq (h kV doc pm an cdv ct us ws h1 h2)
  · exact absurd rfl e
theorem FOk.keep {P : Program} {w : World} {K : PySem.W.Frag} {mg : Str → Option Value} {base : Heap} (F : FOk P w K mg base x st k ps m) : PySem.W.keepIn K (.ref (He.ga K x)) = true := let ⟨_, F1, _⟩ := F; F1.kp
end
/-- exceptions at any world: what a law's end takes -/
def CXw (P : Program) : CXT := fun outer H s E e s' => ∃ w, L2.CX P w outer H s E e s'
theorem fn_cx {P : Program} {w : World} {K : PySem.W.Frag} {mg : Str → Option Value} {base : Heap} {C C' : CXT} {k : Nat} {f : Addr} {fd : FuncData} {ps : List Str} {sp : Sp} (F : FnOk P w K mg base C k f fd ps sp)
    (h : ∀ outer H s E e s', C outer H s E e s' → C' outer H s E e s') : FnOk P w K mg base C' k f fd ps sp :=
  ⟨F.len, fun A outer s H args us vs Q E hr e0 hb r hsp => codeAny_mono (F.run A outer s H args us vs Q E hr e0 hb r hsp) fun r s' hq => by
    cases r with
    | error e => exact h _ _ _ _ _ _ hq
    | ok fl =>
      cases fl with
      | ret u => exact hq
      | next => exact hq
      | brk => exact hq
      | cont => exact hq⟩
theorem cxw_no {P : Program} {H : Hp} {s : Shared} {e : Value} {s' : Shared} (h : CXw P [] H s (fun _ _ _ => False) e s') : False := let ⟨_, _, _, _, _, _, _, _, _, _, _, _, _, z⟩ := h; z
end Dn

namespace Dn
open PySem PySem.Spec L2
open PyProof.Rows hiding St RelV
theorem seq_nx {m k : S} {ρ ρ1 : Loc} {s s1 : Store} (h : m ρ s = .nx ρ1 s1) : bCons m k ρ s = k ρ1 s1 := by unfold bCons; rw [h]; rfl
theorem set_ok {i : Nat} {e : E} {ρ : Loc} {s s1 : Store} {d : D} (h : e ρ s = .ok d s1) : sSet i e ρ s = .nx (ρ.set i (.pu d)) s1 := by unfold sSet; rw [h]; rfl
theorem fnM_eq (N : Nat) (b : S) (ds : List D) (s : Store) : fnM N b ds s = (b (ds.map .pu ++ List.replicate (N - ds.length) .no) s).fin := rfl
def m_src31 : S := bCons (sSet 2 (eIf (eIs (eCmp .Lt (eRd 1) (eBt gLen (eCons (eRd 0) (eNil))))) (eBt gInt (eCons (eIx (eRd 0) (eRd 1)) (eNil))) (eC (.int 0)))) <| bCons (sSet 3 (eIf (eIs (eCmp .GtE (eBt gAbs (eCons (eRd 2) (eNil))) (eBin .Pow (eC (.int 10)) (eC (.int 18))))) (eBt gAbs (eCons (eRd 2) (eNil))) (eC (.int 0)))) <| sRet (eNewL (eCons (eLoc 3) (eCons (eBin .Add (eBin .Add (eBin .Mod (eBt gInt (eCons (eRd 2) (eNil))) (eC (.int 2305843009213693951))) (eBin .Mult (eC (.int 7919)) (eRd 1))) (eC (.int 13))) (eCons (eC (.int 0)) (eNil)))))
def M_src31 : M := fnM 4 m_src31
def m_drw31 : S := bCons (sIf (eIs (eCmp .Gt (eIx (eRd 0) (eC (.int 0))) (eC (.int 0)))) (bCons (sSet 3 (eBin .Mod (eBt gInt (eCons (eIx (eRd 0) (eC (.int 0))) (eNil))) (eRd 1))) <| bCons (sPut (eBin .FloorDiv (eIx (eRd 0) (eC (.int 0))) (eRd 1)) (eLoc 0) (eC (.int 0))) <| sRet (eLoc 3)) (bNil)) <| bCons (sPut (eBin .Add (eIx (eRd 0) (eC (.int 2))) (eC (.int 1))) (eLoc 0) (eC (.int 2))) <| bCons (sSet 2 (eBin .Mod (eBt gInt (eCons (eBin .Add (eBin .Pow (eBin .Add (eIx (eRd 0) (eC (.int 1))) (eBin .Mult (eC (.int 15485863)) (eIx (eRd 0) (eC (.int 2))))) (eC (.int 2))) (eBin .Mult (eC (.int 31)) (eIx (eRd 0) (eC (.int 1))))) (eNil))) (eC (.int 2305843009213693951)))) <| bCons (sSet 2 (eBin .Mod (eBt gInt (eCons (eBin .Add (eBin .Pow (eBin .Add (eRd 2) (eBin .Mult (eC (.int 32452867)) (eIx (eRd 0) (eC (.int 2))))) (eC (.int 3))) (eBin .Mult (eC (.int 69621)) (eRd 2))) (eNil))) (eC (.int 2305843009213693921)))) <| sRet (eBin .Mod (eBt gInt (eCons (eBin .FloorDiv (eRd 2) (eC (.int 1024))) (eNil))) (eRd 1))
def M_drw31 : M := fnM 4 m_drw31
/-- what `_law_source` makes -/
structure Src (g m c : Int) : Prop where
  g0 : 0 ≤ g
  m0 : 0 ≤ m
  m1 : m < 2305843009215000000
  c0 : 0 ≤ c
  c1 : c < 1000000000
def srcD (g m c : Int) : D := .lst [.int g, .int m, .int c]
theorem mul_ok {a b : Int} (h1 : a.natAbs < 2 ^ 200) (h2 : b.natAbs < 2 ^ 200) : binop .Mult (.int a) (.int b) = some (.int (a * b)) := by
  have l1 : a.natAbs.log2 < 200 := PySem.Flt.log2_lt_of (by decide) h1
  have l2 : b.natAbs.log2 < 200 := PySem.Flt.log2_lt_of (by decide) h2
  show (if _ then _ else _) = _
  rw [if_pos (by omega)]
theorem mod_ok {a b : Int} (h : 0 < b) : binop .Mod (.int a) (.int b) = some (.int (a % b)) := by
  show (if _ then _ else _) = _
  rw [if_pos h]
theorem fdiv_ok {a b : Int} (h : 0 < b) (h2 : b.natAbs < 2 ^ 200) : binop .FloorDiv (.int a) (.int b) = some (.int (a / b)) := by
  have l2 : b.natAbs.log2 < 200 := PySem.Flt.log2_lt_of (by decide) h2
  show (if _ then _ else _) = _
  rw [if_pos ⟨h, by omega⟩]
theorem pow_ok {a : Int} (k : Nat) (hk : (k : Int) ≤ 1000000) (h : a.natAbs < 2 ^ 64) : binop .Pow (.int a) (.int k) = some (.int (a ^ k)) := by
  show (if _ then _ else _) = _
  rw [if_pos ⟨by omega, hk, h⟩, Int.toNat_natCast]
theorem ixN_at {n : Nat} {i : Int} (h0 : 0 ≤ i) (h1 : i < n) : ixN n i = some i.toNat := by
  unfold ixN
  rw [if_pos h0, if_pos h1]
theorem source_ok (ns : List Int) (at_ : Int) (h0 : 0 ≤ at_) (h1 : at_ < 100) (s : Store) : ∃ g m, Src g m 0 ∧ M_src31 [.scr ns, .int at_] s = .ok (.ref s.length) (s ++ [srcD g m 0]) := by
  obtain ⟨cell, hc⟩ : ∃ cell : Int, eIf (eIs (eCmp .Lt (eRd 1) (eBt gLen (eCons (eRd 0) (eNil))))) (eBt gInt (eCons (eIx (eRd 0) (eRd 1)) (eNil))) (eC (.int 0)) [.pu (.scr ns), .pu (.int at_), .no, .no] s = .ok (.int cell) s := by
    by_cases h : at_ < ns.length
    · refine ⟨ns[at_.toNat], ?_⟩
      have e : item (.scr ns) (.int at_) = some (.int ns[at_.toNat]) := by
        show ((ixN ns.length at_).bind fun j => ns[j]?).map D.int = _
        rw [ixN_at h0 h]
        simp [show at_.toNat < ns.length by omega]
      have e2 : decide (at_ < (ns.length : Int)) = true := decide_eq_true h
      simp [eIf, eIs, eCmp, eRd, eBt, eCons, eNil, gLen, cmpD, cmpop, eIx, e, gInt, h]
    · refine ⟨0, ?_⟩
      simp [eIf, eIs, eCmp, eRd, eBt, eCons, eNil, gLen, cmpD, cmpop, eIx, gInt, h, eC]
  obtain ⟨g, g0, hg⟩ : ∃ g : Int, 0 ≤ g ∧ eIf (eIs (eCmp .GtE (eBt gAbs (eCons (eRd 2) (eNil))) (eBin .Pow (eC (.int 10)) (eC (.int 18))))) (eBt gAbs (eCons (eRd 2) (eNil))) (eC (.int 0)) [.pu (.scr ns), .pu (.int at_), .pu (.int cell), .no] s = .ok (.int g) s := by
    have e : binop .Pow (.int 10) (.int 18) = some (.int 1000000000000000000) := pow_ok 18 (by decide) (by decide)
    by_cases h : (1000000000000000000 : Int) ≤ if cell < 0 then -cell else cell
    · refine ⟨if cell < 0 then -cell else cell, by split <;> omega, ?_⟩
      simp [eIf, eIs, eCmp, eRd, eBt, eCons, eNil, gAbs, cmpD, cmpop, eBin, eC, e]
      intro _; omega
    · refine ⟨0, by omega, ?_⟩
      simp [eIf, eIs, eCmp, eRd, eBt, eCons, eNil, gAbs, cmpD, cmpop, eBin, eC, e]
      intro _; omega
  have hm := Int.emod_nonneg cell (b := 2305843009213693951) (by decide)
  have hm2 := Int.emod_lt_of_pos cell (b := 2305843009213693951) (by decide)
  refine ⟨g, cell % 2305843009213693951 + 7919 * at_ + 13, ⟨g0, by omega, by omega, by decide, by decide⟩, ?_⟩
  have e1 : binop .Mult (.int 7919) (.int at_) = some (.int (7919 * at_)) := mul_ok (by decide) (by omega)
  have e2 : binop .Mod (.int cell) (.int 2305843009213693951) = some (.int (cell % 2305843009213693951)) := mod_ok (by decide)
  show (m_src31 [.pu (.scr ns), .pu (.int at_), .no, .no] s).fin = _
  unfold m_src31
  refine (congrArg SRes.fin (seq_nx (ρ1 := [.pu (.scr ns), .pu (.int at_), .pu (.int cell), .no]) (set_ok hc))).trans ?_
  refine (congrArg SRes.fin (seq_nx (ρ1 := [.pu (.scr ns), .pu (.int at_), .pu (.int cell), .pu (.int g)]) (set_ok hg))).trans ?_
  simp [sRet, eNewL, eCons, eNil, eLoc, eC, eBin, eBt, gInt, eRd, e1, e2, SRes.fin, line, srcD]
  simp [binop]
theorem der_int (s : Store) (i : Int) : der s (.int i) = .int i := rfl
theorem get_set {α : Type} {s : List α} {n : Nat} {a : α} (h : n < s.length) : (s.set n a)[n]? = some a := List.getElem?_set_self h
/-- `_law_draw`: some digit below many; the counter grows -/
theorem draw_ok {s : Store} {n : Nat} {g m c : Int} (S : Src g m c) (hs : s[n]? = some (srcD g m c)) (k : Int) (k0 : 0 < k) (k1 : k < 1000000000) :
    ∃ d g' c', 0 ≤ d ∧ d < k ∧ 0 ≤ g' ∧ c ≤ c' ∧ c' ≤ c + 1 ∧ M_drw31 [.ref n, .int k] s = .ok (.int d) (s.set n (srcD g' m c')) := by
  have hn : n < s.length := (List.getElem?_eq_some_iff.mp hs).1
  have S0 := S.g0; have S1 := S.m0; have S2 := S.m1; have S3 := S.c0; have S4 := S.c1
  have hd := hs
  unfold srcD at hd
  have i0 : ∀ (s : Store) (g m c : Int), s[n]? = some (srcD g m c) → item (der s (.ref n)) (.int 0) = some (.int g) := fun s g m c h => by
    show item (hid n ((s[n]?).getD (.ref n))) (.int 0) = _
    rw [h]; rfl
  have i1 : ∀ (s : Store) (g m c : Int), s[n]? = some (srcD g m c) → item (der s (.ref n)) (.int 1) = some (.int m) := fun s g m c h => by
    show item (hid n ((s[n]?).getD (.ref n))) (.int 1) = _
    rw [h]; rfl
  have i2 : ∀ (s : Store) (g m c : Int), s[n]? = some (srcD g m c) → item (der s (.ref n)) (.int 2) = some (.int c) := fun s g m c h => by
    show item (hid n ((s[n]?).getD (.ref n))) (.int 2) = _
    rw [h]; rfl
  by_cases hg : 0 < g
  · refine ⟨g % k, g / k, c, Int.emod_nonneg _ (by omega), Int.emod_lt_of_pos _ k0, Int.ediv_nonneg S0 (by omega), Int.le_refl _, by omega, ?_⟩
    have e1 : binop .Mod (.int g) (.int k) = some (.int (g % k)) := mod_ok k0
    have e2 : binop .FloorDiv (.int g) (.int k) = some (.int (g / k)) := fdiv_ok k0 (by omega)
    have j0 := i0 s g m c hs
    unfold M_drw31
    rw [fnM_eq]
    unfold m_drw31
    simp [bCons, sIf, eIs, eCmp, eIx, eRd, eC, cmpD, cmpop, hd, srcD, item, atI, ixN, hg, sSet, eBin, eBt, eCons, eNil, gInt, e1, e2, sPut, eLoc, putIx, sRet, SRes.fin]
  · have b1 := Int.emod_nonneg ((m + 15485863 * (c + 1)) ^ 2 + 31 * m) (b := 2305843009213693951) (by decide)
    have b2 := Int.emod_lt_of_pos ((m + 15485863 * (c + 1)) ^ 2 + 31 * m) (b := 2305843009213693951) (by decide)
    have a1 : binop .Mult (.int 15485863) (.int (c + 1)) = some (.int (15485863 * (c + 1))) := mul_ok (by decide) (by omega)
    have a2 : binop .Pow (.int (m + 15485863 * (c + 1))) (.int 2) = some (.int ((m + 15485863 * (c + 1)) ^ 2)) := pow_ok 2 (by decide) (by omega)
    have a3 : binop .Mult (.int 31) (.int m) = some (.int (31 * m)) := mul_ok (by decide) (by omega)
    have a4 : ∀ x : Int, binop .Mod (.int x) (.int 2305843009213693951) = some (.int (x % 2305843009213693951)) := fun x => mod_ok (by decide)
    have ad : ∀ x y : Int, binop .Add (.int x) (.int y) = some (.int (x + y)) := fun x y => rfl
    generalize hx : ((m + 15485863 * (c + 1)) ^ 2 + 31 * m) % 2305843009213693951 = x at b1 b2
    have a5 : binop .Mult (.int 32452867) (.int (c + 1)) = some (.int (32452867 * (c + 1))) := mul_ok (by decide) (by omega)
    have a6 : binop .Pow (.int (x + 32452867 * (c + 1))) (.int 3) = some (.int ((x + 32452867 * (c + 1)) ^ 3)) := pow_ok 3 (by decide) (by omega)
    have a7 : binop .Mult (.int 69621) (.int x) = some (.int (69621 * x)) := mul_ok (by decide) (by omega)
    have a8 : ∀ x : Int, binop .Mod (.int x) (.int 2305843009213693921) = some (.int (x % 2305843009213693921)) := fun x => mod_ok (by decide)
    generalize hy : ((x + 32452867 * (c + 1)) ^ 3 + 69621 * x) % 2305843009213693921 = y
    have a9 : binop .FloorDiv (.int y) (.int 1024) = some (.int (y / 1024)) := fdiv_ok (by decide) (by decide)
    have a10 : binop .Mod (.int (y / 1024)) (.int k) = some (.int (y / 1024 % k)) := mod_ok k0
    refine ⟨y / 1024 % k, g, c + 1, Int.emod_nonneg _ (by omega), Int.emod_lt_of_pos _ k0, S0, by omega, by omega, ?_⟩
    have hs1 := get_set (a := srcD g m (c + 1)) hn
    generalize hst : s.set n (srcD g m (c + 1)) = s1 at hs1
    show (m_drw31 [.pu (.ref n), .pu (.int k), .no, .no] s).fin = _
    unfold m_drw31
    have k1 := i0 s g m c hs
    have k2 := i2 s g m c hs
    have k3 := i1 s1 g m (c + 1) hs1
    have k4 := i2 s1 g m (c + 1) hs1
    have w0 : cmpD .Gt (.int g) (.int 0) = some (.bl false) := by
      show some (D.bl (decide (0 < g))) = _
      rw [decide_eq_false hg]
    refine (congrArg SRes.fin (seq_nx (ρ1 := [.pu (.ref n), .pu (.int k), .no, .no]) (s1 := s) ?_)).trans ?_
    · simp only [sIf, eIs, eCmp, eIx, eRd, eC, List.getElem?_cons_zero, Res.bind_ok, k1, Res.of_some, w0, der_int, Res.to_ok, bNil, Bool.false_eq_true, if_false, SRes.then_nx]
    refine (congrArg SRes.fin (seq_nx (ρ1 := [.pu (.ref n), .pu (.int k), .no, .no]) (s1 := s1) ?_)).trans ?_
    · have p1 : putIx (srcD g m c) (.int 2) (.int (c + 1)) = some (srcD g m (c + 1)) := rfl
      simp only [sPut, eBin, eIx, eRd, eC, eLoc, List.getElem?_cons_zero, Res.bind_ok, k2, Res.of_some, Res.to_ok, ad, hs, der_int, p1, hst]
    refine (congrArg SRes.fin (seq_nx (ρ1 := [.pu (.ref n), .pu (.int k), .pu (.int x), .no]) (s1 := s1) (set_ok ?_))).trans ?_
    · simp only [eBin, eBt, eCons, eNil, eIx, eRd, eC, List.getElem?_cons_zero, Res.bind_ok, k3, k4, Res.of_some, ad, a1, a2, a3, a4, der_int, List.map_cons, List.map_nil, gInt, hx]
    refine (congrArg SRes.fin (seq_nx (ρ1 := [.pu (.ref n), .pu (.int k), .pu (.int y), .no]) (s1 := s1) (set_ok ?_))).trans ?_
    · simp only [eBin, eBt, eCons, eNil, eIx, eRd, eC, List.getElem?_cons_zero, List.getElem?_cons_succ, Res.bind_ok, k3, k4, Res.of_some, ad, a5, a6, a7, a8, der_int, List.map_cons, List.map_nil, gInt, hy]
    simp only [sRet, eBin, eBt, eCons, eNil, eRd, eC, List.getElem?_cons_zero, List.getElem?_cons_succ, Res.bind_ok, Res.of_some, a9, a10, der_int, List.map_cons, List.map_nil, gInt, SRes.fin, Res.to_ok]
end Dn

/-! Dn: new objects; objects that the frame alone holds. -/
namespace Dn
open PySem PySem.Spec L2
open PyProof.Rows hiding St RelV

/-! ### what is new -/
/-- the result is a new object of the content d, which nothing else knows -/
def OkN (K : PySem.W.Frag) (W : WX) (F : Addr → Prop) (σ : St) (H : Hp) (μ : Mu) (r : Res D) (Q : VK) : Prop := match r with
  | .ok d s => ∀ H' μ' p, Fut H μ H' μ' → RS K H' μ' (plus F p) s → H p = none → ¬ F p → RC K H' μ' (plus F p) d p → Q (.ref p) H'
  | .ex C fs s => ∀ d H' μ' xs, Fut H μ H' μ' → RS K H' μ' F s → H' d = some (.xd xs) → d ∉ μ' → ¬ F d → RVf K H' μ' F fs xs → W (.ref (He.ga K C)) (some d) σ H'
  | .bad => False
def tN (pn : Pn) (K : PySem.W.Frag) (W : WX) (m : E) : TE := fun σ H Q => ∃ ρ μ F G st, At pn K H μ F G ρ σ st ∧ OkN K W F σ H μ (m ρ st) Q
def SN (X : Cx) (W : WX) (e : Expr) (m : E) : Prop := PE X e (tN X.pn X.K W m)
section
variable {pn : Pn} {K : PySem.W.Frag} {W : WX} {H H1 : Hp} {μ μ1 : Mu} {F : Addr → Prop} {G : Own} {st st1 s : Store} {ρ : Loc} {σ : St} {p : Addr} {o : HO} {d : D} {Q : VK}
theorem OkN.fut {r : Res D} (f : Fut H μ H1 μ1) (h : OkN K W F σ H μ r Q) : OkN K W F σ H1 μ1 r Q := by
  cases r with
  | ok d s => exact fun H' μ' p g a b => h H' μ' p (f.trans g) a (f.none_of b)
  | ex C fs s => exact fun d H' μ' xs g => h d H' μ' xs (f.trans g)
  | bad => exact h
/-- one part, then what follows -/
theorem tN_at {α β : Type} {P : (Addr → Prop) → Hp → Mu → α → β → Prop} {m : Loc → Store → Res α} {k : α → Store → Res D} (a : At pn K H μ F G ρ σ st) (h : OkN K W F σ H μ ((m ρ st).bind k) Q) {R : β → Hp → Prop}
    (hR : ∀ x H1 μ1 st1 d, At pn K H1 μ1 F G ρ σ st1 → Fut H μ H1 μ1 → P F H1 μ1 d x → OkN K W F σ H1 μ1 (k d st1) Q → R x H1) : tG P pn K W m σ H R := by
  refine ⟨ρ, μ, F, G, st, a, ?_⟩
  cases e : m ρ st with
  | ok d s =>
    rw [e] at h
    exact fun v H' μ' f rs rv => hR v H' μ' s d (a.fut f rs) f rv (OkN.fut f h)
  | ex C fs s => rw [e] at h; exact h
  | bad => rw [e] at h; exact h
/-- .. it is laid: a list, a dict -/
theorem OkN.lay (a : RS K H μ F st) (h : OkN K W F σ H μ (.ok d st) Q) (hp : H p = none) (c : RC K (upd H p o) μ (plus F p) d p) : Q (.ref p) (upd H p o) :=
  h _ μ p (.new hp) (a.plus hp) hp (a.fresh hp).2 c
theorem RC.L {ds : List D} {xs : List V} (hp : H p = none) (r : RVs K H μ F ds xs) : RC K (upd H p (.lst xs)) μ (plus F p) (.lst ds) p := ⟨xs, upd_same, RVs.kp (Fut.kpP hp .refl) r⟩
/-- a new object as a value -/
theorem RC.val (s : RS K H1 μ1 (plus F p) st1) (n : ¬ F p) (c : RC K H1 μ1 (plus F p) d p) : RV K H1 μ1 F d (.ref p) := by
  have kp : Kp H1 μ1 (plus F p) H1 μ1 F := ⟨fun b u q1 q2 q3 => ⟨q1, q2, fun z => q3 (.inl z)⟩, fun _ _ q => q⟩
  have nm : p ∉ μ1 := fun z => s.nf p z (.inr rfl)
  cases d with
  | lst ds =>
    obtain ⟨xs, q, r⟩ := c
    unfold RV
    exact ⟨p, xs, rfl, ⟨q, nm, n⟩, RVs.kp kp r⟩
  | dic ds =>
    obtain ⟨xs, q, r⟩ := c
    unfold RV
    exact ⟨p, xs, rfl, ⟨.inl q, nm, n⟩, RVd.kp kp r⟩
  | obj C fs =>
    obtain ⟨dx, xs, q, r⟩ := c
    unfold RV
    exact ⟨p, dx, xs, rfl, ⟨q, nm, n⟩, RVf.kp kp r⟩
  | _ => exact c.elim
/-- a new object gets a number -/
theorem RS.join (s : RS K H1 μ1 (Dn.plus F p) st1) (n : ¬ F p) (c : RC K H1 μ1 (Dn.plus F p) d p) : RS K H1 (μ1 ++ [p]) F (st1 ++ [d]) := by
  have nm : p ∉ μ1 := fun z => s.nf p z (.inr rfl)
  have kp : Kp H1 μ1 (Dn.plus F p) H1 (μ1 ++ [p]) F := ⟨fun b u q1 q2 q3 => ⟨q1, fun z => (List.mem_append.mp z).elim q2 fun w => q3 (.inr (List.mem_singleton.mp w)), fun z => q3 (.inl z)⟩, fun m a q => by
    rw [List.getElem?_append_left (List.getElem?_eq_some_iff.mp q).1]; exact q⟩
  refine ⟨by rw [List.length_append, List.length_append, s.len]; rfl, ?_, fun a h z => ?_, fun a h => s.fd a (.inl h), fun m q h => ?_⟩
  · rw [List.nodup_append]
    refine ⟨s.nd, by simp, fun a h b h2 => ?_⟩
    rw [List.mem_singleton.mp h2]
    rintro rfl
    exact nm h
  · rcases List.mem_append.mp h with h | h
    · exact s.nf a h (.inl z)
    · rw [List.mem_singleton.mp h] at z; exact n z
  · by_cases hm : m < st1.length
    · rw [List.getElem?_append_left hm] at h
      obtain ⟨a, e, c'⟩ := s.at_ m q h
      exact ⟨a, by rw [List.getElem?_append_left (by rw [s.len]; exact hm)]; exact e, c'.kp kp rfl⟩
    · have hl : m = st1.length := by
        have := (List.getElem?_eq_some_iff.mp h).1
        rw [List.length_append, List.length_singleton] at this
        omega
      subst hl
      rw [List.getElem?_append_right (Nat.le_refl _), Nat.sub_self] at h
      cases h
      exact ⟨p, by rw [← s.len, List.getElem?_append_right (Nat.le_refl _), Nat.sub_self]; rfl, .inl (c.kp kp rfl)⟩
theorem Fut.join (f : Fut H μ H1 μ1) (n : H p = none) : Fut H μ H1 (μ1 ++ [p]) := by
  obtain ⟨l, e, q⟩ := id f.ext
  exact ⟨⟨l ++ [p], by rw [e, List.append_assoc], fun a h => (List.mem_append.mp h).elim (q a) fun z => by rw [List.mem_singleton.mp z]; exact n⟩, f.keep, f.there⟩
end
def eNew (m : E) : E := fun ρ s => (m ρ s).bind fun d s => .ok (.ref s.length) (s ++ [d])
section
variable {X : Cx} {W : WX} {e : Expr} {m : E}
theorem SN.se (h : SN X W e m) : SE X W e m := PE.of h fun σ H Q ⟨ρ, μ, F, G, st, a, h⟩ => by
  refine ⟨ρ, μ, F, G, st, a, ?_⟩
  cases e : m ρ st with
  | ok d s => rw [e] at h; exact fun H' μ' p f rs hp nF c => h (.ref p) H' μ' f rs.minus (c.val rs nF)
  | ex C fs s => rw [e] at h; exact h
  | bad => rw [e] at h; exact h
theorem SN.ref (h : SN X W e m) : SE X W e (eNew m) := PE.of h fun σ H Q ⟨ρ, μ, F, G, st, a, h⟩ => by
  refine ⟨ρ, μ, F, G, st, a, ?_⟩
  have h : OkE X.K W F σ H μ ((m ρ st).bind fun d s => .ok (.ref s.length) (s ++ [d])) Q := h
  cases e : m ρ st with
  | ok d s =>
    rw [e] at h
    refine fun H' μ' p f rs hp nF c => h (.ref p) H' (μ' ++ [p]) (f.join hp) (rs.join nF c) ?_
    unfold RV
    exact ⟨p, rfl, by rw [← rs.len, List.getElem?_append_right (Nat.le_refl _), Nat.sub_self, List.getElem?_cons_zero]⟩
  | ex C fs s => rw [e] at h; exact h
  | bad => rw [e] at h; exact h
end
section
variable {X : Cx} {W : WX} {e : Expr} {m : E} {es : List Expr} {ml : EL} {pos : Pos}
theorem sn_lst (h : SA X W es ml) : SN X W (.List es pos) (eLst ml) := PE.of (pe_lst h) fun σ H Q ⟨ρ, μ, F, G, st, a, h⟩ => by
  refine tN_at (k := fun (ds : List D) s => if ds.length ≤ line then Res.ok (D.lst ds) s else .bad) a h fun xs H1 μ1 st1 ds a1 f1 r1 h1 => ?_
  by_cases hl : ds.length ≤ line
  · rw [if_pos hl] at h1
    exact ⟨by rw [line_eq, r1.length]; exact hl, fun p hp => h1.lay a1.s hp (RC.L hp r1)⟩
  · rw [if_neg hl] at h1; exact h1.elim
def eDic0 : E := fun _ s => .ok (.dic []) s
theorem sn_dic0 : SN X W (.Dict [] [] pos) eDic0 := PE.of pe_dnewK fun σ H Q ⟨ρ, μ, F, G, st, a, h⟩ => fun p hp => h.lay (d := .dic []) a.s hp ⟨[], upd_same, RVd.nil⟩
end

/-! ### slots of one's own -/
section
variable {pn : Pn} {K : PySem.W.Frag} {W : WX} {H H1 : Hp} {μ μ1 : Mu} {F : Addr → Prop} {G : Own} {st st1 s : Store} {ρ : Loc} {σ : St} {p : Addr} {o : HO} {d d' : D} {b : Bool} {i : Nat}
def Own.add (G : Own) (p : Addr) : Own := ⟨fun a => G.g a ∨ a = p, G.sf⟩
theorem set_get {α : Type} {l : List α} {i j : Nat} {x y : α} (e : (l.set i x)[j]? = some y) : (i = j ∧ i < l.length ∧ y = x) ∨ (i ≠ j ∧ l[j]? = some y) := by
  by_cases h : i = j
  · subst h
    have hi : i < l.length := by
      have := (List.getElem?_eq_some_iff.mp e).1
      rwa [List.length_set] at this
    rw [List.getElem?_set_self hi] at e
    exact .inl ⟨rfl, hi, (Option.some.inj e).symm⟩
  · rw [List.getElem?_set_ne h] at e
    exact .inr ⟨h, e⟩
/-- a new object becomes the frame's own -/
theorem At.own (a : At pn K H μ F G ρ σ st) (f : Fut H μ H1 μ1) (rs : RS K H1 μ1 (Dn.plus F p) st1) (hp : H p = none) (c : RC K H1 μ1 (Dn.plus F p) d p) : At pn K H1 μ1 (Dn.plus F p) (G.add p) (ρ.set i (.ow false d)) (σ.set i (some (.ref p))) st1 := by
  have kp : Kp H μ F H1 μ1 (Dn.plus F p) := f.kp fun a h => h.elim .inl fun e => .inr (by rw [e]; exact hp)
  refine ⟨⟨by rw [List.length_set, List.length_set]; exact a.l.len, fun j sl e => ?_, fun j k b c d e q h1 h2 h3 h4 => ?_⟩, rs, fun q h => h.elim (fun z => .inl (a.gf q z)) .inr⟩
  · rcases set_get e with ⟨rfl, hi, rfl⟩ | ⟨ne, e⟩
    · exact ⟨_, List.getElem?_set_self (by rw [← a.l.len]; exact hi), p, rfl, ⟨.inr rfl, fun z => by cases z⟩, .inr rfl, c⟩
    · obtain ⟨v, e1, q⟩ := a.l.at_ j sl e
      refine ⟨v, (List.getElem?_set_ne ne).trans e1, ?_⟩
      cases sl with
      | no => exact True.intro
      | pu d => obtain ⟨v, e, q⟩ := q; exact ⟨v, e, RV.kp kp q⟩
      | ow b d =>
        obtain ⟨x, e, h0, h1, h2⟩ := q
        obtain ⟨u, w⟩ := a.s.fd x h1
        exact ⟨x, e, ⟨.inl h0.1, h0.2⟩, .inl h1, h2.kp kp ((f.keep x u (fun z => a.s.nf x z h1) w).trans w.symm)⟩
      | exc C fs =>
        obtain ⟨x, oe, d, xs, e, hp', hz, hd, h1, h2, h3, h4⟩ := q
        obtain ⟨q1, q2, q3⟩ := kp.pure d _ h1 h2 h3
        exact ⟨x, oe, d, xs, e, hp', hz, hd, q1, q2, q3, RVf.kp kp h4⟩
  · have old : ∀ {j : Nat} {b : Bool} {d : D} {q : Addr}, ρ[j]? = some (.ow b d) → σ[j]? = some (some (.ref q)) → q ≠ p := fun {j b d q} e1 e2 z => by
      obtain ⟨v, e3, x, e4, h0, h1, h2⟩ := a.l.at_ j _ e1
      rw [e2] at e3; cases e3
      cases e4
      obtain ⟨u, w⟩ := a.s.fd q h1
      rw [z, hp] at w; cases w
    rcases set_get h1 with ⟨rfl, hi, e1⟩ | ⟨n1, e1⟩ <;> rcases set_get h2 with ⟨rfl, hi2, e2⟩ | ⟨n2, e2⟩
    · rfl
    · rw [List.getElem?_set_self (by rw [← a.l.len]; exact hi)] at h3
      cases h3
      rw [List.getElem?_set_ne n2] at h4
      exact absurd rfl (old e2 h4)
    · rw [List.getElem?_set_self (by rw [← a.l.len]; exact hi2)] at h4
      cases h4
      rw [List.getElem?_set_ne n1] at h3
      exact absurd rfl (old e1 h3)
    · rw [List.getElem?_set_ne n1] at h3
      rw [List.getElem?_set_ne n2] at h4
      exact a.l.inj j k _ _ _ _ q e1 e2 h3 h4
theorem At.evOwn (a : At pn K H μ F G ρ σ st) (f : Fut H μ H1 μ1) (hp : H p = none) : Ev H μ F G H1 μ1 (Dn.plus F p) (G.add p) :=
  ⟨f.ext, fun a o n _ h => f.keep a o n h, f.there, fun _ h => .inl (.inl h), fun a h => h.elim .inl fun e => .inr (by rw [e]; exact hp), fun a h => h.elim .inl fun e => .inr (by rw [e]; exact hp), a.s.fd, rfl⟩
/-- an object of one's own is changed -/
theorem At.mut (a : At pn K H μ F G ρ σ st) (hi : ρ[i]? = some (.ow b d)) (hs : σ[i]? = some (some (.ref p))) (c : RC K (upd H p o) μ F d' p) : At pn K (upd H p o) μ F G (ρ.set i (.ow b d')) σ st ∧ Ev H μ F G (upd H p o) μ F G := by
  obtain ⟨v, e3, x, e4, h0, h1, h2⟩ := a.l.at_ i _ hi
  rw [hs] at e3; cases e3
  cases e4
  have kp : Kp H μ F (upd H p o) μ F := kp_held h1
  refine ⟨⟨⟨by rw [List.length_set]; exact a.l.len, fun j sl e => ?_, fun j k b2 c2 d2 e2 q g1 g2 g3 g4 => ?_⟩, a.s.held h1, a.gf⟩, ⟨⟨[], by simp, fun _ z => nomatch z⟩, fun b u _ n z => by rw [upd_ne (fun w => n (by rw [w]; exact h0.1))]; exact z, fun b u z => by
    by_cases e : b = p
    · exact ⟨o, by rw [e, upd_same]⟩
    · exact ⟨u, by rw [upd_ne e]; exact z⟩, fun _ h => .inl h, fun _ h => .inl h, fun _ h => .inl h, a.s.fd, rfl⟩⟩
  · rcases set_get e with ⟨rfl, hl, rfl⟩ | ⟨ne, e⟩
    · exact ⟨_, hs, p, rfl, h0, h1, c⟩
    · obtain ⟨v, e1, q⟩ := a.l.at_ j sl e
      refine ⟨v, e1, ?_⟩
      cases sl with
      | no => exact True.intro
      | pu d => obtain ⟨v, e, q⟩ := q; exact ⟨v, e, RV.kp kp q⟩
      | ow b' d'' =>
        obtain ⟨x, e', k0, k1, k2⟩ := q
        subst e'
        have nx : x ≠ p := fun z => ne (a.l.inj i j _ _ _ _ p hi e hs (by rw [e1, z]))
        exact ⟨x, rfl, k0, k1, k2.kp kp (upd_ne nx)⟩
      | exc C fs =>
        obtain ⟨x, oe, d, xs, e, hp', hz, hd, k1, k2, k3, k4⟩ := q
        obtain ⟨q1, q2, q3⟩ := kp.pure d _ k1 k2 k3
        exact ⟨x, oe, d, xs, e, hp', hz, hd, q1, q2, q3, RVf.kp kp k4⟩
  · have get : ∀ {j : Nat} {b' : Bool} {d'' : D}, (ρ.set i (.ow b d'))[j]? = some (.ow b' d'') → ∃ b' d'', ρ[j]? = some (.ow b' d'') := fun {j b' d''} e => by
      rcases set_get e with ⟨rfl, hl, _⟩ | ⟨ne, e⟩
      · exact ⟨_, _, hi⟩
      · exact ⟨_, _, e⟩
    obtain ⟨_, _, e1⟩ := get g1
    obtain ⟨_, _, e2⟩ := get g2
    exact a.l.inj j k _ _ _ _ q e1 e2 g3 g4
/-- .. is let go: from now on nobody changes it -/
theorem At.frz (a : At pn K H μ F G ρ σ st) (hi : ρ[i]? = some (.ow false d)) : ∃ F' G', At pn K H μ F' G' (ρ.set i (.pu d)) σ st ∧ ∀ {H' : Hp} {μ' : Mu} {F'' : Addr → Prop} {G'' : Own}, Ev H μ F' G' H' μ' F'' G'' → Ev H μ F G H' μ' F'' G'' := by
  obtain ⟨v, e3, x, e4, h0, h1, h2⟩ := a.l.at_ i _ hi
  subst e4
  have kp : Kp H μ F H μ (fun a => F a ∧ a ≠ x) := ⟨fun b u q1 q2 q3 => ⟨q1, q2, fun z => q3 z.1⟩, fun _ _ q => q⟩
  have rs : RS K H μ (fun a => F a ∧ a ≠ x) st := a.s.weak fun _ h => h.1
  refine ⟨fun a => F a ∧ a ≠ x, ⟨fun a => G.g a ∧ a ≠ x, G.sf⟩, ⟨⟨by rw [List.length_set]; exact a.l.len, fun j sl e => ?_, fun j k b c d e q g1 g2 g3 g4 => ?_⟩, rs, fun q h => ⟨a.gf q h.1, h.2⟩⟩, fun e => ⟨e.ext, fun a o n g h => e.keep a o n (fun z => g z.1) h, e.there, fun q h => ?_, fun q h => (e.own q h).imp (fun z => z.1) id, fun q h => (e.g q h).imp (fun z => z.1) id, a.s.fd, e.sf⟩⟩
  · rcases set_get e with ⟨rfl, hl, rfl⟩ | ⟨ne, e⟩
    · refine ⟨_, e3, .ref x, rfl, ?_⟩
      have nm : x ∉ μ := fun z => a.s.nf x z h1
      cases d with
      | lst ds =>
        obtain ⟨xs, q, r⟩ := h2
        unfold RV
        exact ⟨x, xs, rfl, ⟨q, nm, fun z => z.2 rfl⟩, RVs.kp kp r⟩
      | dic ds =>
        obtain ⟨xs, q, r⟩ := h2
        unfold RV
        exact ⟨x, xs, rfl, ⟨.inl q, nm, fun z => z.2 rfl⟩, RVd.kp kp r⟩
      | obj C fs =>
        obtain ⟨dx, xs, q, r⟩ := h2
        unfold RV
        exact ⟨x, dx, xs, rfl, ⟨q, nm, fun z => z.2 rfl⟩, RVf.kp kp r⟩
      | _ => exact h2.elim
    · obtain ⟨v, e1, q⟩ := a.l.at_ j sl e
      refine ⟨v, e1, ?_⟩
      cases sl with
      | no => exact True.intro
      | pu d => obtain ⟨v, e, q⟩ := q; exact ⟨v, e, RV.kp kp q⟩
      | ow b' d'' =>
        obtain ⟨y, e', k0, k1, k2⟩ := q
        subst e'
        have nx : y ≠ x := fun z => ne (a.l.inj i j _ _ _ _ x hi e e3 (by rw [e1, z]))
        exact ⟨y, rfl, ⟨⟨k0.1, nx⟩, k0.2⟩, ⟨k1, nx⟩, k2.kp kp rfl⟩
      | exc C fs =>
        obtain ⟨x, oe, d, xs, e, hp', hz, hd, k1, k2, k3, k4⟩ := q
        obtain ⟨q1, q2, q3⟩ := kp.pure d _ k1 k2 k3
        exact ⟨x, oe, d, xs, e, hp', hz, hd, q1, q2, q3, RVf.kp kp k4⟩
  · rcases set_get g1 with ⟨rfl, hi, e1⟩ | ⟨n1, e1⟩
    · cases e1
    · rcases set_get g2 with ⟨rfl, hi2, e2⟩ | ⟨n2, e2⟩
      · cases e2
      · exact a.l.inj j k _ _ _ _ q e1 e2 g3 g4
  · by_cases z : q = x
    · right
      rw [z]
      exact h0.1
    · exact (e.sub q ⟨h, z⟩).imp id fun w => w.1
end
section
variable {X : Cx} {W : WX} {st : Stmt} {sts : List Stmt} {e k : Expr} {m : S} {me mk : E} {pos pos' : Pos} {i : Nat} {x : Str}
/-- x = (what is new): from now on an object of the frame's own -/
def sOwn (i : Nat) (e : E) : S := fun ρ s => (e ρ s).to ρ fun d s => .nx (ρ.set i (.ow false d)) s
theorem OkS.own {σ : St} {H : Hp} {μ : Mu} {F : Addr → Prop} {G : Own} {ρ : Loc} {st : Store} {D : Ends} (a : At X.pn X.K H μ F G ρ σ st) (h : OkS X.pn X.K W H μ F G ((me ρ st).to ρ fun d s => .nx (ρ.set i (.ow false d)) s) D) :
    OkN X.K W F σ H μ (me ρ st) fun v H' => D.nx (σ.set i (some v)) H' := by
  cases e : me ρ st with
  | ok d s => rw [e] at h; exact fun H' μ' p f rs hp nF c => h _ H' μ' _ _ (a.evOwn f hp) (a.own f rs hp c)
  | ex C fs s => rw [e] at h; exact fun d H' μ' xs f rs e1 e2 e3 e4 => h d σ H' μ' F G xs (a.ev f) (a.fut f rs) e1 e2 e3 e4
  | bad => rw [e] at h; exact h
theorem ss_own (hN : X.N.Nodup) (he : SN X W e me) (hi : X.N[i]? = some x := by rfl) (hx : L2.Loc X.env.scope x := by first | exact Or.inl rfl | exact Or.inr rfl) (hs : swapsWith e (some (.Name x pos')) pos.line X.env = pure false := by rfl)
    (hf : X.fn x = true ∨ X.env.scope.names.lookup x = some .local := by first | exact .inl rfl | exact .inr rfl) : SS X W (.Assign [.Name x pos'] e pos) (sOwn i me) :=
  PS.of (ps_set hN hi hx he hs hf) fun D σ H ⟨ρ, μ, F, G, st, a, h⟩ => ⟨ρ, μ, F, G, st, a, OkS.own a h⟩
/-- an object of the frame's own is let go ahead of a block -/
def frzL (i : Nat) (ρ : Loc) : Option Loc := match ρ[i]? with
  | some (.ow false d) => some (ρ.set i (.pu d))
  | some (.pu d) => some ρ
  | _ => none
def bFrz (i : Nat) (m : S) : S := fun ρ s => match frzL i ρ with
  | some ρ' => m ρ' s
  | none => .bad
theorem frz_at {tt : TS} (ht : ∀ D σ H, tS X.pn X.K W m D σ H → tt D σ H) : ∀ D σ H, tS X.pn X.K W (bFrz i m) D σ H → tt D σ H := fun D σ H ⟨ρ, μ, F, G, st, a, h⟩ => by
  have h : OkS X.pn X.K W H μ F G (match frzL i ρ with
  | some ρ' => m ρ' st
  | none => .bad) D := h
  unfold frzL at h
  split at h
  · rename_i ρ' e
    split at e
    · rename_i d hd
      cases e
      obtain ⟨F', G', a', ev⟩ := a.frz hd
      refine ht D σ H ⟨_, μ, F', G', st, a', ?_⟩
      cases q : m (ρ.set i (.pu d)) st with
      | nx ρ s => rw [q] at h; exact fun σ H μ F G b c => h σ H μ F G (ev b) c
      | rt d s => rw [q] at h; exact fun v H μ F G b c e => h v H μ F G (ev b) c e
      | bk ρ s => rw [q] at h; exact fun σ H μ F G b c => h σ H μ F G (ev b) c
      | ct ρ s => rw [q] at h; exact fun σ H μ F G b c => h σ H μ F G (ev b) c
      | ex C fs ρ s => rw [q] at h; exact fun d σ H μ F G xs b => h d σ H μ F G xs (ev b)
      | bad => rw [q] at h; exact h
    · cases e
      exact ht D σ H ⟨_, μ, F, G, st, a, h⟩
    · cases e
  · exact h.elim
theorem sb_frz (h : SB X W sts m) : SB X W sts (bFrz i m) := PSs.of h (frz_at fun _ _ _ z => z)
theorem ss_frz (h : SS X W st m) : SS X W st (bFrz i m) := PS.of h (frz_at fun _ _ _ z => z)

/-! ### changes of what is one's own -/
def owOf (ρ : Loc) (i : Nat) : Option (Bool × D) := match ρ[i]? with
  | some (.ow b d) => some (b, d)
  | _ => none
/-- one argument -/
theorem tS_1 {pn : Pn} {K : PySem.W.Frag} {H : Hp} {μ : Mu} {F : Addr → Prop} {G : Own} {ρ : Loc} {σ : St} {st : Store} {D1 : Ends} {kk : D → Store → SRes} {R : List V → Hp → Prop} (a : At pn K H μ F G ρ σ st) (h : OkS pn K W H μ F G ((me ρ st).to ρ kk) D1)
    (hR : ∀ x H1 μ1 st1 d, At pn K H1 μ1 F G ρ σ st1 → Fut H μ H1 μ1 → RV K H1 μ1 F d x → OkS pn K W H1 μ1 F G (kk d st1) D1 → R [x] H1) : tG (fun F H μ d v => RVs K H μ F d v) pn K W (eCons me eNil) σ H R := by
  refine ⟨ρ, μ, F, G, st, a, ?_⟩
  show OkG _ K W F σ H μ ((me ρ st).bind fun d s => (eNil ρ s).bind fun ds s => .ok (d :: ds) s) R
  cases e : me ρ st with
  | ok d s =>
    rw [e] at h
    intro xs H' μ' f rs r
    unfold RVs at r
    obtain ⟨x, ys, e1, r1, r2⟩ := r
    unfold RVs at r2
    subst r2
    subst e1
    exact hR x H' μ' s d (a.fut f rs) f r1 (OkS.ev (a.ev f) h)
  | ex C fs s => rw [e] at h; exact fun d H' μ' xs f rs e1 e2 e3 e4 => h d σ H' μ' F G xs (a.ev f) (a.fut f rs) e1 e2 e3 e4
  | bad => rw [e] at h; exact h
theorem ow_at {pn : Pn} {K : PySem.W.Frag} {H : Hp} {μ : Mu} {F : Addr → Prop} {G : Own} {ρ : Loc} {σ : St} {st : Store} {b : Bool} {d : D} (a : At pn K H μ F G ρ σ st) (h : owOf ρ i = some (b, d)) : ρ[i]? = some (.ow b d) ∧ ∃ p, σ[i]? = some (some (.ref p)) ∧ F p ∧ RC K H μ F d p := by
  unfold owOf at h
  split at h
  · rename_i b' d' e
    cases h
    obtain ⟨v, e3, x, e4, h0, h1, h2⟩ := a.l.at_ i _ e
    subst e4
    exact ⟨e, x, e3, h1, h2⟩
  · cases h
/-- x.append(e) -/
def sApp (i : Nat) (e : E) : S := fun ρ s => match owOf ρ i with
  | some (b, .lst ds) => (e ρ s).to ρ fun d s => if ds.length < line then .nx (ρ.set i (.ow b (.lst (ds ++ [d])))) s else .bad
  | _ => .bad
theorem ss_app {p1 p2 p3 : Pos} (he : SE X W e me) (hN : X.N[i]? = some x := by rfl) (hv : Vis X.env.scope x := by first | exact Or.inl rfl | exact Or.inr (Or.inl rfl) | exact Or.inr (Or.inr rfl)) (hd : (x == ("__debug__" : Str)) = false := by decide)
    (hcd : (x == ("__classdict__" : Str)) = false := by decide) (hbase : attributeBase (.Name x p1) "append" X.env (eval (.Name x p1) X.env) = eval (.Name x p1) X.env := by rfl)
    (hfew : ((backTo p3 (starEach [e] X.env)).all (fun x => !x.1) && (backToKw p3 (keywordEach [] X.env)).all (fun x => x.1.isSome)
      && decide (([e] : List Expr).length + ([] : List Keyword).length + (if ([] : List Keyword).isEmpty then 0 else 1) < 30)) = true := by rfl)
    (hline : (p2.endLine == p3.line) = true := by rfl) (hst : starEach [e] X.env = (false, eval e X.env) :: starEach [] X.env := by rfl) (hplain : (backTo p3 (starEach [] X.env)).any (·.1) = false := by rfl)
    (hs : swapsWith (.Call (.Attribute (.Name x p1) "append" p2) [e] [] p3) none pos.line X.env = pure false := by rfl) : SS X W (.Expr (.Call (.Attribute (.Name x p1) "append" p2) [e] [] p3) pos) (sApp i me) := by
  have ha : SA X W [e] (eCons me eNil) := sa_cons he sa_nil hst
  refine PS.of (ps_expr (pe_bm PySem.F.plainAttrs_list PySem.F.slot_list_append PySem.F.type_list_append mt_append (pe_var hN hv hd hcd) ha hbase hfew hline hst hplain) hs) fun D σ H ⟨ρ, μ, F, G, st, a, h⟩ => ?_
  have h : OkS X.pn X.K W H μ F G (match owOf ρ i with
  | some (b, .lst ds) => (me ρ st).to ρ fun d s => if ds.length < line then .nx (ρ.set i (.ow b (.lst (ds ++ [d])))) s else .bad
  | _ => .bad) D := h
  split at h
  · rename_i b ds ho
    obtain ⟨hi, p, hp, hF, c⟩ := ow_at a ho
    obtain ⟨xs, hx, rx⟩ := id c
    refine ⟨.ref p, hp, .inl ⟨rfl, xs, .inl (.inl hx)⟩, tS_1 a h fun y H1 μ1 st1 d a1 f1 r1 h1 => ?_⟩
    split at h1
    · rename_i hl
      have hx1 := f1.keep p _ (fun z => a.s.nf p z hF) hx
      have rx1 := RVs.kp f1.kp0 rx
      obtain ⟨a2, e2⟩ := a1.mut (o := .lst (xs ++ [y])) (d' := .lst (ds ++ [d])) hi hp ⟨_, upd_same, RVs.kp (kp_held hF) (rx1.append (RVs.cons r1 RVs.nil))⟩
      exact ⟨p, xs, y, rfl, rfl, hx1, by rw [rx.length, line_eq]; exact hl, h1 σ _ μ1 F G e2 a2⟩
    · exact h1.elim
  · exact h.elim
/-- x[k] = e -/
def sPutO (i : Nat) (e k : E) : S := fun ρ s => (e ρ s).to ρ fun d s => match owOf ρ i with
  | some (b, c) => (k ρ s).to ρ fun j s => (match putIx c (der s j) d with
    | some c' => .nx (ρ.set i (.ow b c')) s
    | none => .bad)
  | none => .bad
theorem ss_putO {p1 : Pos} {tpos : Pos} (hu : X.A.units + 64 < cLine) (he : SE X W e me) (hk : SR X W k mk) (hN : X.N[i]? = some x := by rfl) (hv : Vis X.env.scope x := by first | exact Or.inl rfl | exact Or.inr (Or.inl rfl) | exact Or.inr (Or.inr rfl)) (hd : (x == ("__debug__" : Str)) = false := by decide)
    (hcd : (x == ("__classdict__" : Str)) = false := by decide) (ha : ∀ v, assign (.Subscript (.Name x p1) k tpos) X.env v = (do
      let ov ← holding [v] (eval (.Name x p1) X.env)
      let iv ← holding [v, ov] (eval k X.env)
      standAt tpos
      holding [v, ov, iv] (setItem ov iv v)
      release [v, ov, iv] []) := by intro _; rfl) (hs : swapsWithSole [.Subscript (.Name x p1) k tpos] e pos.line X.env = pure false := by rfl) (hw : swappedStores [.Subscript (.Name x p1) k tpos] e X.env = pure none := by rfl)
    (h1 : (assignEach [.Subscript (.Name x p1) k tpos] X.env).map (·.2) = [assign (.Subscript (.Name x p1) k tpos) X.env] := by rfl) : SS X W (.Assign [.Subscript (.Name x p1) k tpos] e pos) (sPutO i me mk) := by
  have hset : PSet X (fun o i v H Q => rSetL o i v H Q ∨ rSetD o i v H Q) := by
    intro pins s σ H o i v ov iv u Q I ro ri rv h
    rcases h with h | h
    · exact set_list pins s σ H o i v ov iv u Q I ro ri rv h
    · exact set_dict (by omega) pins s σ H o i v ov iv u Q I ro ri rv h
  refine PS.of (ps_asg he (pg_sub (pe_var hN hv hd hcd) hk hset ha) hs hw h1) fun D σ H ⟨ρ, μ, F, G, st, a, h⟩ => ?_
  refine tS_e (k := fun d s => match owOf ρ i with
  | some (b, c) => (mk ρ s).to ρ fun j s => (match putIx c (der s j) d with
    | some c' => .nx (ρ.set i (.ow b c')) s
    | none => .bad)
  | none => .bad) a h fun y H1 μ1 st1 d a1 f1 r1 h1 => ?_
  split at h1
  · rename_i b c ho
    obtain ⟨hi, p, hp, hF, rc⟩ := ow_at a1 ho
    refine ⟨.ref p, hp, tS_e (k := fun j s => (match putIx c (der s j) d with
    | some c' => .nx (ρ.set i (.ow b c')) s
    | none => .bad)) a1 h1 fun z H2 μ2 st2 j a2 f2 r2 h2 => ?_⟩
    have rc : RC X.K H2 μ2 F c p := by
      obtain ⟨u, q⟩ := a1.s.fd p hF
      exact rc.kp f2.kp0 ((f2.keep p u (fun z => a1.s.nf p z hF) q).trans q.symm)
    cases hput : putIx c (der st2 j) d with
    | none => rw [hput] at h2; exact h2.elim
    | some c' =>
      rw [hput] at h2
      have rj := r2.dr a2.s
      have rx : RV X.K H2 μ2 F d y := RV.kp f2.kp0 r1
      have fin : ∀ o : HO, RC X.K (upd H2 p o) μ2 F c' p → D.nx σ (upd H2 p o) := fun o rc' => by
        obtain ⟨a3, e3⟩ := a2.mut (o := o) (d' := c') hi hp rc'
        exact h2 σ _ μ2 F G e3 a3
      unfold putIx at hput
      generalize hj : der st2 j = jj at hput rj
      split at hput
      · rename_i ds k rc
        obtain ⟨m, hm, hr⟩ := Option.map_eq_some_iff.mp hput
        obtain ⟨xs, hx, rxs⟩ := rc
        subst hr
        exact .inl ⟨p, xs, k, m, rfl, rj, hx, by rw [rxs.length]; exact hm, fin _ ⟨_, upd_same, RVs.kp (kp_held hF) (rxs.set m rx)⟩⟩
      · rename_i kvs rc
        split at hput
        · rename_i hl
          obtain ⟨q, hq, hr⟩ := Option.map_eq_some_iff.mp hput
          obtain ⟨xs, hx, rxs⟩ := rc
          subst hr
          obtain ⟨e1, rk⟩ := dkey_RV hq rj
          exact .inr ⟨p, _, rfl, .inl ⟨xs, q, hx, e1, by rw [rxs.length, line_eq]; exact hl, rfl⟩, fin _ ⟨_, upd_same, RVd.kp (kp_held hF) (rxs.put rk rx)⟩⟩
        · cases hput
      · cases hput
  · exact h1.elim
end
end Dn

/-! Dn: instances: their fields, how they are made, their methods. -/
namespace Dn
open PySem PySem.Spec L2
open PyProof.Rows hiding St RelV

/-! ### fields -/
def putD (f : Str) (d : D) : List (Str × D) → List (Str × D)
  | [] => [(f, d)]
  | (g, x) :: r => if g = f then (g, d) :: r else (g, x) :: putD f d r
section
variable {K : PySem.W.Frag} {H : Hp} {μ : Mu} {F : Addr → Prop} {f : Str} {d : D} {v : V}
theorem RVf.nil : RVf K H μ F [] [] := by unfold RVf; rfl
theorem RVf.cons {fs : List (Str × D)} {xs : List (Str × V)} (h : RV K H μ F d v) (r : RVf K H μ F fs xs) : RVf K H μ F ((f, d) :: fs) ((f, v) :: xs) := by unfold RVf; exact ⟨v, xs, rfl, h, r⟩
theorem RVf.lookup : ∀ {fs : List (Str × D)} {xs : List (Str × V)}, RVf K H μ F fs xs → (∀ d, fs.lookup f = some d → ∃ v, xs.lookup f = some v ∧ RV K H μ F d v) ∧ (fs.lookup f = none → xs.lookup f = none)
  | [], xs, h => by
    unfold RVf at h
    subst h
    exact ⟨fun d e => (by cases e), fun _ => rfl⟩
  | (k, c) :: fs, xs, h => by
    unfold RVf at h
    obtain ⟨y, ys, e, h1, h2⟩ := h
    subst e
    obtain ⟨i1, i2⟩ := RVf.lookup h2
    simp only [List.lookup]
    cases hk : f == k with
    | true => exact ⟨fun d e => ⟨y, rfl, (by cases e; exact h1)⟩, fun e => (by cases e)⟩
    | false => exact ⟨i1, i2⟩
theorem RVf.length : ∀ {fs : List (Str × D)} {xs : List (Str × V)}, RVf K H μ F fs xs → xs.length = fs.length
  | [], xs, h => by
    unfold RVf at h
    subst h
    rfl
  | (k, c) :: fs, xs, h => by
    unfold RVf at h
    obtain ⟨y, ys, e, h1, h2⟩ := h
    subst e
    rw [List.length_cons, List.length_cons, RVf.length h2]
theorem RVf.put (hv : RV K H μ F d v) : ∀ {fs : List (Str × D)} {xs : List (Str × V)}, RVf K H μ F fs xs → RVf K H μ F (putD f d fs) (putF f v xs)
  | [], xs, h => by
    unfold RVf at h
    subst h
    exact RVf.cons hv RVf.nil
  | (k, c) :: fs, xs, h => by
    unfold RVf at h
    obtain ⟨y, ys, e, h1, h2⟩ := h
    subst e
    by_cases z : k = f
    · subst z
      simp only [putD, putF, if_true]
      exact RVf.cons hv h2
    · simp only [putD, putF, if_neg z]
      exact RVf.cons h1 (RVf.put hv h2)
end
/-- the classes of L let f be read off their instances -/
def ClsF (K : PySem.W.Frag) (L : List String) (f : Str) : Prop := ∀ C ∈ L, Cls K (He.ga K C) ∧ NoAttr K (He.ga K C) f
def attrOf (L : List String) (f : Str) : D → Option D
  | .obj C fs => if C ∈ L then fs.lookup f else none
  | _ => none
def eAttr (L : List String) (f : Str) (a : E) : E := fun ρ s => (a ρ s).bind fun x s => Res.of (attrOf L f (der s x)) s
section
variable {X : Cx} {W : WX} {a e : Expr} {ma me : E} {f : Str} {pos apos pos' : Pos} {L : List String}
theorem se_attr (h : ClsF X.K L f) (ha : SR X W a ma) (hb : attributeBase a f X.env (eval a X.env) = eval a X.env := by rfl) : SE X W (.Attribute a f pos) (eAttr L f ma) := PE.of (pe_fld ha hb) fun σ H Q ⟨ρ, μ, F, G, st, a, q⟩ => by
  refine tG_at (k := fun x s => Res.of (attrOf L f (der s x)) s) a q fun x H1 μ1 st1 d a1 f1 r1 h1 => ?_
  obtain ⟨r, hr, hq⟩ := OkG.some h1
  have rr := r1.dr a1.s
  generalize der st1 d = c at hr rr
  unfold attrOf at hr
  split at hr
  · split at hr
    · rename_i C fs hC
      obtain ⟨p, dx, xs, e1, e2, rf⟩ := rr
      obtain ⟨v, e3, rv⟩ := (rf.lookup (f := f)).1 r hr
      obtain ⟨c1, c2⟩ := h C hC
      exact ⟨p, _, dx, xs, v, e1, e2, c1, c2, e3, hq v H1 μ1 .refl a1.s rv⟩
    · cases hr
  · cases hr
/-- self.f = e, self an object of the frame's own -/
def sFldO (L : List String) (i : Nat) (f : Str) (e : E) : S := fun ρ s => (e ρ s).to ρ fun d s => match owOf ρ i with
  | some (b, .obj C fs) => if C ∈ L ∧ fs.length < 1000 then .nx (ρ.set i (.ow b (.obj C (putD f d fs)))) s else .bad
  | _ => .bad
theorem ss_fldO {i : Nat} {x : Str} {p1 : Pos} (h : ClsF X.K L f) (he : SE X W e me) (hN : X.N[i]? = some x := by rfl) (hv : Vis X.env.scope x := by first | exact Or.inl rfl | exact Or.inr (Or.inl rfl) | exact Or.inr (Or.inr rfl)) (hd : (x == ("__debug__" : Str)) = false := by decide)
    (hcd : (x == ("__classdict__" : Str)) = false := by decide) (hs : swapsWith e (some (.Attribute (.Name x p1) f pos')) pos.line X.env = pure false := by rfl) : SS X W (.Assign [.Attribute (.Name x p1) f pos'] e pos) (sFldO L i f me) :=
  PS.of (ps_fld (pe_var hN hv hd hcd) he hs) fun D σ H ⟨ρ, μ, F, G, st, a, q⟩ => tS_e (k := fun d s => match owOf ρ i with
  | some (b, .obj C fs) => if C ∈ L ∧ fs.length < 1000 then .nx (ρ.set i (.ow b (.obj C (putD f d fs)))) s else .bad
  | _ => .bad) a q fun y H1 μ1 st1 d a1 f1 r1 h1 => by
    split at h1
    · rename_i b C fs ho
      split at h1
      · rename_i hl
        obtain ⟨hi, p, hp, hF, dx, xs, hx, rx⟩ := ow_at a1 ho
        obtain ⟨c1, c2⟩ := h C hl.1
        obtain ⟨a2, e2⟩ := a1.mut (o := .ins (He.ga X.K C) dx (putF f y xs)) (d' := .obj C (putD f d fs)) hi hp ⟨dx, _, upd_same, RVf.kp (kp_held hF) (rx.put r1)⟩
        exact ⟨.ref p, hp, p, _, dx, xs, rfl, hx, c1, c2, by rw [rx.length]; exact hl.2, h1 σ _ μ1 F G e2 a2⟩
      · exact h1.elim
    · exact h1.elim
end

/-! ### __init__ -/
def spInit (K : PySem.W.Frag) (C : String) (n : Nat) (m : M) : Sp := fun vs H Q E => ∃ μ F st ds x dx rest Hc, vs = .ref x :: rest ∧ H = upd (upd Hc dx (.own x)) x (.ins (He.ga K C) dx []) ∧ Hc x = none ∧ Hc dx = none ∧ dx ≠ x ∧ RS K Hc μ F st ∧ RVs K Hc μ F ds rest ∧ ds.length = n ∧
  OkN K (fun c d _ H => E c d H) F [] Hc μ (m ds st) fun v H' => v = .ref x → Q .non H'
def SRes.made (r : SRes) : Res D := match r with
  | .nx ρ s => (match (ρ[0]? : Option Slot) with
    | some (.ow true (.obj C fs)) => .ok (.obj C fs) s
    | _ => .bad)
  | .ex C fs _ s => .ex C fs s
  | _ => .bad
def initM (C : String) (N : Nat) (body : S) : M := fun ds s => (body (.ow true (.obj C []) :: (ds.map .pu ++ List.replicate (N - (ds.length + 1)) .no)) s).made
theorem RL.slot0 {pn : Pn} {K : PySem.W.Frag} {H H' : Hp} {μ μ' : Mu} {F F' : Addr → Prop} {G : Own} {ρ : Loc} {σ : St} {d : D} {x : Addr} (l : RL pn K H μ F ownNo ρ σ) (k : Kp H μ F H' μ' F') (hn : H x = none) (g : G.g x) (sf : G.sf = some x) (hF : F' x) (c : RC K H' μ' F' d x)
    (hno : ∀ sl ∈ ρ, ∀ b d, sl ≠ .ow b d) : RL pn K H' μ' F' G (.ow true d :: ρ) (some (.ref x) :: σ) := by
  refine ⟨by rw [List.length_cons, List.length_cons, l.len], fun i sl e => ?_, fun i j b c d e q h1 h2 _ _ => ?_⟩
  · cases i with
    | zero =>
      cases e
      exact ⟨_, rfl, x, rfl, ⟨g, fun _ => sf⟩, hF, c⟩
    | succ i =>
      have e : ρ[i]? = some sl := by simpa using e
      obtain ⟨v, e1, q⟩ := l.at_ i sl e
      refine ⟨v, by simpa using e1, ?_⟩
      cases sl with
      | no => exact True.intro
      | pu d => obtain ⟨v, e, q⟩ := q; exact ⟨v, e, RV.kp k q⟩
      | ow b d => exact absurd rfl (hno _ (List.mem_of_getElem? e) b d)
      | exc C fs =>
        obtain ⟨a, oe, d, xs, e, hp, hz, hd, h1, h2, h3, h4⟩ := q
        obtain ⟨q1, q2, q3⟩ := k.pure d _ h1 h2 h3
        exact ⟨a, oe, d, xs, e, hp, hz, hd, q1, q2, q3, RVf.kp k h4⟩
  · have z : ∀ {i : Nat} {b : Bool} {d' : D}, (Slot.ow true d :: ρ)[i]? = some (.ow b d') → i = 0 := fun {i b d'} e => by
      cases i with
      | zero => rfl
      | succ i => exact absurd rfl (hno _ (List.mem_of_getElem? (show ρ[i]? = some (.ow b d') by simpa using e)) b d')
    have z : ∀ {d0 : D} {i : Nat} {b : Bool} {d' : D}, (Slot.ow true d0 :: ρ)[i]? = some (.ow b d') → i = 0 := fun {d0 i b d'} e => by
      cases i with
      | zero => rfl
      | succ i => exact absurd rfl (hno _ (List.mem_of_getElem? (show ρ[i]? = some (.ow b d') by simpa using e)) b d')
    rw [z h1, z h2]
theorem init_ok {P : Program} {w : World} {K : PySem.W.Frag} {mg : Str → Option Value} {base : Heap} {x qual : Str} {params : Arguments} {body : List Stmt} {scope : Scope} {dvs : List V} {kws : List (Str × V)} {f : Addr} {fd : FuncData} {N : List Str} {p0 : Str} {ps : List Str} {k : Nat} {mb : S} (C : String)
    (Fu : FunD K x qual params body scope dvs kws f fd) (S : FnScope N (p0 :: ps) scope) (hN : ps.length < N.length)
    (hb : ∀ (cdv : Value) (A : Around) (outer : List Env) (s : Shared) (H : Hp) (E : XK), Room k (A.deeper (envOfC qual scope s.heap.objs.size f cdv)) →
      SB (cxOf (L2.CX P w) P w K mg base N qual scope f cdv A outer s H E) (fun c d _ H => E c d H) body mb) : FnOk P w K mg base (L2.CX P w) (k + 1) f fd (p0 :: ps) (spInit K C ps.length (initM C N.length mb)) := by
  refine Fu.ok S (fun vs H Q E h => ?_) fun cdv A outer s H vs Q E hr h => ?_
  · obtain ⟨μ, F, st, ds, x, dx, rest, Hc, rfl, _, _, _, _, _, r, hl, _⟩ := h
    rw [List.length_cons, List.length_cons, r.length, hl]
  · obtain ⟨μ, F, st, ds, x, dx, rest, Hc, rfl, rfl, hx, hdx, hne, rs, r, hl, h⟩ := h
    have hx1 : (upd Hc dx (.own x)) x = none := by rw [upd_ne (Ne.symm hne)]; exact hx
    have rs1 : RS K (upd Hc dx (.own x)) μ F st := rs.new hdx
    have rs2 : RS K (upd (upd Hc dx (.own x)) x (.ins (He.ga K C) dx [])) μ (plus F x) st := rs1.plus hx1
    have kp0 : Kp Hc μ F (upd Hc dx (.own x)) μ F := (Fut.new (μ := μ) hdx).kp0
    have kp1 : Kp (upd Hc dx (.own x)) μ F (upd (upd Hc dx (.own x)) x (.ins (He.ga K C) dx [])) μ (plus F x) := Fut.kpP hx1 .refl
    have hst : start N (.ref x :: rest) = some (.ref x) :: (rest.map some ++ List.replicate (N.length - (rest.length + 1)) none) := by
      unfold L2.start
      rw [List.map_cons, List.cons_append, List.length_cons]
    have lr := r.length
    have l0 : RL [] K (upd Hc dx (.own x)) μ F ownNo (ds.map .pu ++ List.replicate (N.length - (ds.length + 1)) .no) (rest.map some ++ List.replicate (N.length - (rest.length + 1)) none) := by
      have q := RL.start (pn := []) (RVs.kp kp0 r) (N.tail)
      unfold L2.start at q
      rw [List.length_tail] at q
      rw [show N.length - (ds.length + 1) = N.length - 1 - ds.length by omega, show N.length - (rest.length + 1) = N.length - 1 - rest.length by omega]
      exact q
    have at0 : At [] K (upd (upd Hc dx (.own x)) x (.ins (He.ga K C) dx [])) μ (plus F x) ⟨(· = x), some x⟩ (.ow true (.obj C []) :: (ds.map .pu ++ List.replicate (N.length - (ds.length + 1)) .no)) (start N (.ref x :: rest)) st := by
      rw [hst]
      refine ⟨l0.slot0 kp1 hx1 rfl rfl (.inr rfl) ⟨dx, [], upd_same, RVf.nil⟩ (fun sl h b d => ?_), rs2, fun a h => .inr h⟩
      rcases List.mem_append.mp h with h | h
      · obtain ⟨c, _, e⟩ := List.mem_map.mp h
        subst e
        exact fun z => by cases z
      · rw [(List.mem_replicate.mp h).2]
        exact fun z => by cases z
    have key : ∀ {H' : Hp} {μ' : Mu} {F' : Addr → Prop} {G' : Own}, Ev (upd (upd Hc dx (.own x)) x (.ins (He.ga K C) dx [])) μ (plus F x) ⟨(· = x), some x⟩ H' μ' F' G' → Fut Hc μ H' μ' ∧ ∀ a, F a → F' a := fun {H' μ' F' G'} e => by
      have back : ∀ {b : Addr}, (upd (upd Hc dx (.own x)) x (.ins (He.ga K C) dx [])) b = none → Hc b = none := fun {b} z => by
        by_cases h1 : b = x
        · rw [h1, upd_same] at z; cases z
        · rw [upd_ne h1] at z
          by_cases h2 : b = dx
          · rw [h2]; exact hdx
          · rw [upd_ne h2] at z; exact z
      have fwd : ∀ {b : Addr} {o : HO}, Hc b = some o → (upd (upd Hc dx (.own x)) x (.ins (He.ga K C) dx [])) b = some o := fun {b o} z => by
        rw [upd_ne (ne_of_none z hx), upd_ne (ne_of_none z hdx)]; exact z
      obtain ⟨l, el, ql⟩ := id e.ext
      refine ⟨⟨⟨l, el, fun a h => back (ql a h)⟩, fun a o n h => e.keep a o n (fun z => by rw [show a = x from z, hx] at h; cases h) (fwd h), fun a o h => e.there a o (fwd h)⟩, fun a h => (e.sub a (.inl h)).elim id fun z => ?_⟩
      obtain ⟨o, q⟩ := rs.fd a h
      rw [show a = x from z, hx] at q
      cases q
    refine ⟨_, hb cdv A outer s _ E hr, _, μ, plus F x, ⟨(· = x), some x⟩, st, at0, ?_⟩
    unfold initM at h
    show OkS [] K (fun c d _ H => E c d H) _ μ (plus F x) _ (mb _ st) _
    cases e : mb (.ow true (.obj C []) :: (ds.map .pu ++ List.replicate (N.length - (ds.length + 1)) .no)) st with
    | nx ρ s =>
      rw [e] at h
      intro σ' H' μ' F' G' ev a'
      obtain ⟨fu, fs⟩ := key ev
      have h : OkN K (fun c d _ H => E c d H) F [] Hc μ (match (ρ[0]? : Option Slot) with
        | some (.ow true (.obj C fs)) => .ok (.obj C fs) s
        | _ => .bad) (fun v H' => v = .ref x → Q .non H') := h
      split at h
      · rename_i C' fs' h0
        obtain ⟨v, e3, p, e4, g0, g1, g2⟩ := a'.l.at_ 0 _ h0
        have ex : p = x := by
          have := g0.2 rfl
          rw [ev.sf] at this
          exact (Option.some.inj this).symm
        subst ex
        have wk : ∀ a, plus F p a → F' a := fun a z => z.elim (fs a) fun w => by rw [w]; exact g1
        exact h H' μ' p fu (a'.s.weak wk) hx (fun z => (rs.fresh hx).2 z) (g2.kp ⟨fun a o h n nF => ⟨h, n, fun z => nF (wk a z)⟩, fun _ _ h => h⟩ rfl) rfl
      · exact h.elim
    | ex C' fs' ρ s =>
      rw [e] at h
      intro d σ' H' μ' F' G' xs ev a' q1 q2 q3 q4
      obtain ⟨fu, fs⟩ := key ev
      exact h d H' μ' xs fu (a'.s.weak fs) q1 q2 (fun z => q3 (fs d z)) (RVf.kp ⟨fun a o h n nF => ⟨h, n, fun z => nF (fs a z)⟩, fun _ _ h => h⟩ q4)
    | rt d s => rw [e] at h; exact h.elim
    | bk ρ s => rw [e] at h; exact h.elim
    | ct ρ s => rw [e] at h; exact h.elim
    | bad => rw [e] at h; exact h.elim
end Dn

/-! Dn: calls of classes, of methods; how parameters are bound. -/
namespace Dn
open PySem PySem.Spec L2
open PyProof.Rows hiding St RelV

/-! ### binding -/
section
variable {K : PySem.W.Frag} {x qual : Str} {params : Arguments} {body : List Stmt} {scope : Scope} {kws : List (Str × V)} {f : Addr} {fd : FuncData} {ps : List Str}
/-- no defaults stand -/
theorem kb_all (F : FunD K x qual params body scope [] kws f fd) (np : Nat) (ks : List Str) (perm : List Nat)
    (h : ∀ (kV doc pm : Value) (an : Option Addr) (cdv ct : Value) (us ws : List Value), us.length = np → ws.length = ks.length → bindArgs (PySem.W.fnOf x qual params body scope .none kV doc pm an cdv ct) ⟨us, ks.zip ws⟩ = pure (ps.zip (pick perm (us ++ ws)))) : KB K fd ps np ks perm [] := by
  refine ⟨[], [], .nil, fun _ _ _ => RVs.nil, fun s us ws _ h1 h2 => ?_⟩
  obtain ⟨oc, od, dV, kV, doc, pm, an, cdv, ct, osl, rfl, lk, hcd, hD, hK⟩ := F.ex
  rcases hD with ⟨_, rfl⟩ | ⟨e, _⟩
  · rw [List.append_nil]
    exact .of_eq (h kV doc pm an cdv ct us ws h1 h2)
  · exact absurd rfl e
/-- keyword-only defaults fill up: ms those that lack -/
theorem kb_kw (F : FunD K x qual params body scope [] kws f fd) (np : Nat) (ks : List Str) (perm : List Nat) (ms : List (Str × V)) (dfl : List D) (hk : kws ≠ []) (hms : ∀ q ∈ ms, q ∈ kws) (hdf : ∀ H μ F, RVs K H μ F dfl (ms.map (·.2)))
    (h : ∀ (D : Addr) (doc pm : Value) (an : Option Addr) (cdv ct : Value) (us mv ws : List Value), us.length = np → mv.length = ms.length → ws.length = ks.length →
      KwChain D ((ms.map (·.1)).zip mv) (bindArgs (PySem.W.fnOf x qual params body scope .none (.ref D) doc pm an cdv ct) ⟨us, ks.zip ws⟩) (ps.zip (pick perm (us ++ ws ++ mv)))) : KB K fd ps np ks perm dfl := by
  obtain ⟨oc, od, dV, kV, doc, pm, an, cdv, ct, osl, rfl, lk, hcd, hD, hK⟩ := F.ex
  rcases hD with ⟨_, rfl⟩ | ⟨e, _⟩
  · rcases hK with e | ⟨D, rfl, hq⟩
    · exact absurd e hk
    · obtain ⟨mv, hl, rk, hks⟩ := kwd_vals (ms := ms) fun q hm => hq q (hms q hm)
      exact ⟨mv, _, rk, hdf, fun s us ws X l1 l2 => BindsTo.of_looks fun M => KwChain.looks X hks (h D doc pm an cdv ct us mv ws l1 hl l2)⟩
  · exact absurd rfl e
theorem pick_succ {α : Type} (x : α) (l : List α) : ∀ perm : List Nat, pick (perm.map (· + 1)) (x :: l) = pick perm l
  | [] => rfl
  | i :: perm => by
    have ih := pick_succ x l perm
    unfold pick at ih ⊢
    rw [List.map_cons, List.filterMap_cons, List.filterMap_cons, ih, List.getElem?_cons_succ]
theorem pick_self {α : Type} (x : α) (l : List α) (perm : List Nat) : pick (0 :: perm.map (· + 1)) (x :: l) = x :: pick perm l := by
  have := pick_succ x l perm
  unfold pick at this ⊢
  rw [List.filterMap_cons, this]
  rfl
end

/-! ### classes -/
/-- the call of c makes a new object -/
def CallsN (X : Cx) (W : WX) (c : Value) (ks : List Str) (m : M) : Prop := ∀ (pins : List (Addr × Obj)) (s : Shared) (σ : St) (H : Hp) (us ws : List Value) (vs zs : List V) (Q : VK) (μ : Mu) (F : Addr → Prop) (st : Store) (ds es : List D),
  Inv X pins σ H s → Vals vs us → Vals zs ws → ws.length = ks.length → RS X.K H μ F st → RVs X.K H μ F ds vs → RVs X.K H μ F es zs → OkN X.K W F σ H μ (m (ds ++ es) st) Q → wpAny (model X.prog X.w) X.A (call c us (ks.zip ws)) (EP X pins σ Q) X.xe s
section
variable {X : Cx} {W : WX} {k np : Nat} {f C : Addr} {fd : FuncData} {p0 : Str} {ps ks : List Str} {perm : List Nat} {dfl : List D} {m : M} {Cn : String}
theorem CallsN.d {c : Value} (h : CallsN X W c ks m) : CallsD X W c ks m := by
  intro pins s σ H us ws vs zs Q μ F st ds es I r rz lz rs rd re q
  refine h pins s σ H us ws vs zs Q μ F st ds es I r rz lz rs rd re ?_
  cases e : m (ds ++ es) st with
  | ok d s => rw [e] at q; exact fun H' μ' p f rs hp nF c => q (.ref p) H' μ' f rs.minus (c.val rs nF)
  | ex C fs s => rw [e] at q; exact q
  | bad => rw [e] at q; exact q
theorem mk_calls (Mk' : Mk X.K (He.ga X.K Cn) f) (Fn : FnOk X.prog X.w X.K X.mg X.base (L2.CX X.prog X.w) k f fd (p0 :: ps) (spInit X.K Cn ps.length m)) (hr : Room (k + 1) X.A) (tk : Takes X W) (hb : KB X.K fd (p0 :: ps) (np + 1) ks (0 :: perm.map (· + 1)) dfl) (hp : perm.length = ps.length) :
    CallsN X W (.ref (He.ga X.K Cn)) ks (argsM np ks.length perm dfl m) := by
  intro pins s σ H us ws vs zs Q μ F st ds es I r rz lz rs rd re h
  obtain ⟨its, dvs, rt, rdf, hb⟩ := hb
  unfold argsM at h
  split at h
  case isFalse => exact h.elim
  case isTrue hl =>
    have l1 := rd.length
    have l2 := re.length
    have l3 := r.length
    have l4 := rz.length
    rw [List.length_append] at hl
    have hus : us.length = np := by omega
    have r2 : Vals (pick perm (vs ++ zs ++ dvs)) (pick perm (us ++ ws ++ its)) := Vals.pick ((r.append rz).append rt) perm
    have r3 : RVs X.K H μ F (pick perm (ds ++ es ++ dfl)) (pick perm (vs ++ zs ++ dvs)) := RVs.pick ((rd.append re).append (rdf H μ F)) perm
    have I2 := Inv.made (C := He.ga X.K Cn) I
    have rv : Vals (V.ref (s.heap.objs.size + 1) :: pick perm (vs ++ zs ++ dvs)) (Value.ref (s.heap.objs.size + 1) :: pick perm (us ++ ws ++ its)) := .cons rfl r2
    have hbind := hb { s with heap := (s.heap.push PySem.W.emptyDict).push (PySem.W.instObj (He.ga X.K Cn) s.heap.objs.size) } (Value.ref (s.heap.objs.size + 1) :: us) ws I2.kIn (by rw [List.length_cons, hus]) lz
    rw [List.cons_append, List.cons_append, pick_self] at hbind
    have hq : spInit X.K Cn ps.length m (V.ref (s.heap.objs.size + 1) :: pick perm (vs ++ zs ++ dvs)) (upd (upd H s.heap.objs.size (.own (s.heap.objs.size + 1))) (s.heap.objs.size + 1) (.ins (He.ga X.K Cn) s.heap.objs.size []))
        (fun v H2 => v = .non ∧ Q (.ref (s.heap.objs.size + 1)) H2) (WE W σ) := by
      refine ⟨μ, F, st, _, _, _, _, H, rfl, rfl, I.hok.fresh (Nat.le_succ _), I.hok.fresh (Nat.le_refl _), Nat.ne_of_lt (Nat.lt_succ_self _), rs, r3, by rw [hl.2, hp], ?_⟩
      cases e : m (pick perm (ds ++ es ++ dfl)) st with
      | ok d s' => rw [e] at h; exact fun H' μ' p f rs hp nF c z => ⟨rfl, by rw [← z]; exact h H' μ' p f rs hp nF c⟩
      | ex C fs s' => rw [e] at h; exact h
      | bad => rw [e] at h; exact h
    refine wpAny_call (make_map (f := f) I.kIn Mk'.makes Mk'.init (beq_iff_eq.mp Mk'.fn) (codeAny_mono (Fn.run _ X.stack _ _ ⟨Value.ref (s.heap.objs.size + 1) :: us, ks.zip ws⟩ _ _ _ (WE W σ) (hr.make _ us (ks.zip ws)) (I2.env0.make _ us (ks.zip ws)) hbind rv hq) fun r s' hq' => ?_))
    cases r with
    | error e => exact passAt tk σ pins _ _ e s' I2 hq'
    | ok fl =>
      cases fl with
      | ret u =>
        obtain ⟨v, H', I3, rv3, ev, q3⟩ := I2.after hq'
        subst ev
        exact ⟨rv3, ⟨V.ref (s.heap.objs.size + 1), H', I3, rfl, q3⟩⟩
      | next => exact False.elim hq'
      | brk => exact False.elim hq'
      | cont => exact False.elim hq'
variable {x : Str} {p pos : Pos} {e : Expr} {es : List Expr} {kws : List Keyword} {ml mk : EL} {c : Value}
theorem callN_at {σ : St} {H : Hp} {Q : VK} (h : tN X.pn X.K W (eCallK ks.length m ml mk) σ H Q) (C : CallsN X W c ks m) :
    tG (fun F H μ d v => RVs X.K H μ F d v) X.pn X.K W ml σ H fun vs H1 => tG (fun F H μ d v => RVs X.K H μ F d v) X.pn X.K W mk σ H1 fun zs H2 => ∀ pins s us ws, Inv X pins σ H2 s → Vals vs us → Vals zs ws → wpAny (model X.prog X.w) X.A (call c us (ks.zip ws)) (EP X pins σ Q) X.xe s := by
  obtain ⟨ρ, μ, F, G, st, a, h⟩ := h
  refine tN_at (k := fun ds s => (mk ρ s).bind fun es s => if es.length = ks.length then m (ds ++ es) s else .bad) a h fun vs H1 μ1 st1 ds a1 f1 r1 h1 => ?_
  refine tN_at (k := fun es s => if es.length = ks.length then m (ds ++ es) s else .bad) a1 h1 fun zs H2 μ2 st2 es a2 f2 r2 h2 => fun pins s us ws I r rz => ?_
  split at h2
  · rename_i hl
    exact C pins s σ H2 us ws vs zs Q μ2 F st2 ds es I r rz (by rw [← rz.length, r2.length, hl]) a2.s (RVs.kp f2.kp0 r1) r2 h2
  · exact h2.elim
/-- C(e, .., k = v, ..) -/
theorem sn_callK (C : CallsN X W c ks m) (hg : Gl X x) (hm : X.mg x = some c) (hk : PySem.W.keepIn X.K c = true) (ha : SA X W (e :: es) ml) (hkw : SK X W kws mk) (hall : (backToKw pos (keywordEach kws X.env)).all (·.1.isSome) = true := by rfl) (hks : (backToKw pos (keywordEach kws X.env)).filterMap (·.1) = ks := by rfl)
    (hdb : (x == ("__debug__" : Str)) = false := by decide) (he : starEach (e :: es) X.env = (false, eval e X.env) :: starEach es X.env := by rfl)
    (hpl : ((backTo pos (starEach (e :: es) X.env)).any (·.1) || (backToKw pos (keywordEach kws X.env)).any (·.1.isNone)) = false := by rfl) : SN X W (.Call (.Name x p) (e :: es) kws pos) (eCallK ks.length m ml mk) := by
  refine ⟨fun pins s σ H Q I h => ?_⟩
  refine wpAny_Call_Name_kw (ld_glob I hg hm ?_ hdb)
  refine PySem.W.callWith_KW (h₀ := X.base) I.ok.mod.kin hk hall (thn (ha.run pos pins s σ H _ I (callN_at h C)) fun us s1 ⟨vs, H1, I1, r, q⟩ => ?_) hpl he
  refine thn (hkw.run pos pins s1 σ H1 _ I1 q) fun ws s2 ⟨zs, H2, I2, rz, q2⟩ => ⟨I2.kIn, ?_⟩
  rw [hks]
  exact q2 pins s2 us ws I2 r rz
theorem sn_callK0 (C : CallsN X W c ks m) (hg : Gl X x) (hm : X.mg x = some c) (hk : PySem.W.keepIn X.K c = true) (hkw : SK X W kws mk) (hall : (backToKw pos (keywordEach kws X.env)).all (·.1.isSome) = true := by rfl) (hks : (backToKw pos (keywordEach kws X.env)).filterMap (·.1) = ks := by rfl)
    (hdb : (x == ("__debug__" : Str)) = false := by decide)
    (hpl : ((backTo pos (starEach [] X.env)).any (·.1) || (backToKw pos (keywordEach kws X.env)).any (·.1.isNone)) = false := by rfl) : SN X W (.Call (.Name x p) [] kws pos) (eCallK ks.length m eNil mk) := by
  refine ⟨fun pins s σ H Q I ⟨ρ, μ, F, G, st, a, h⟩ => ?_⟩
  refine wpAny_Call_Name_kw (ld_glob I hg hm ?_ hdb)
  refine PySem.W.callWith_KW0 (h₀ := X.base) I.ok.mod.kin hk hall ?_ hpl
  refine thn (hkw.run pos pins s σ H _ I (tN_at (k := fun es s => if es.length = ks.length then m es s else .bad) a h fun zs H2 μ2 st2 es a2 f2 r2 h2 => ?_ : tG (fun F H μ d v => RVs X.K H μ F d v) X.pn X.K W mk σ H fun zs H2 => ∀ pins s ws, Inv X pins σ H2 s → Vals zs ws → wpAny (model X.prog X.w) X.A (call c [] (ks.zip ws)) (EP X pins σ Q) X.xe s)) fun ws s2 ⟨zs, H2, I2, rz, q2⟩ => ⟨I2.kIn, ?_⟩
  · intro pins s ws I rz
    split at h2
    · rename_i hl
      exact C pins s σ H2 [] ws [] zs Q μ2 F st2 [] es I .nil rz (by rw [← rz.length, r2.length, hl]) a2.s RVs.nil r2 h2
    · exact h2.elim
  · rw [hks]
    exact q2 pins s2 ws I2 rz
/-- C(e, ..) -/
theorem sn_call (C : CallsN X W c [] m) (hg : Gl X x) (hm : X.mg x = some c) (hk : PySem.W.keepIn X.K c = true) (ha : SA X W (e :: es) ml) (hdb : (x == ("__debug__" : Str)) = false := by decide)
    (he : starEach (e :: es) X.env = (false, eval e X.env) :: starEach es X.env := by rfl) (hpl : (backTo pos (starEach es X.env)).any (·.1) = false := by rfl) : SN X W (.Call (.Name x p) (e :: es) [] pos) (eCall m ml) := by
  refine ⟨fun pins s σ H Q I ⟨ρ, μ, F, G, st, a, h⟩ => ?_⟩
  refine wpAny_Call_Name_kw (ld_glob I hg hm ?_ hdb)
  have h' := tN_at (P := fun F H μ d v => RVs X.K H μ F d v) (k := fun ds s => m ds s) (R := fun vs H1 => ∀ pins s us, Inv X pins σ H1 s → Vals vs us → wpAny (model X.prog X.w) X.A (call c us) (EP X pins σ Q) X.xe s) a h fun vs H1 μ1 st1 ds a1 f1 r1 h1 pins s us I r =>
    C pins s σ H1 us [] vs [] Q μ1 F st1 ds [] I r .nil rfl a1.s r1 RVs.nil (by rw [List.append_nil]; exact h1)
  refine PySem.W.callWith_K (h₀ := X.base) I.ok.mod.kin hk (thn (ha.run pos pins s σ H _ I h') fun us s1 ⟨vs, H1, I1, r, q⟩ => ⟨I1.kIn, ?_⟩) he hpl
  exact q pins s1 us I1 r
theorem sn_call0 (C : CallsN X W c [] m) (hg : Gl X x) (hm : X.mg x = some c) (hk : PySem.W.keepIn X.K c = true) (hdb : (x == ("__debug__" : Str)) = false := by decide) : SN X W (.Call (.Name x p) [] [] pos) (eCall m eNil) := by
  refine ⟨fun pins s σ H Q I ⟨ρ, μ, F, G, st, a, h⟩ => ?_⟩
  refine wpAny_Call_Name_kw (ld_glob I hg hm ?_ hdb)
  exact PySem.W.callWith_K0 I.kIn hk (C pins s σ H [] [] [] [] Q μ F st [] [] I .nil .nil rfl a.s RVs.nil RVs.nil h)
end

/-! ### methods -/
/-- the method's meaning by the class of the instance -/
abbrev Disp := List (String × M)
def MethF (X : Cx) (W : WX) (m : Str) (ks : List Str) (L : Disp) : Prop := ∀ C g, (C, g) ∈ L → Cls X.K (He.ga X.K C) ∧ ∃ f, Meth X.K (He.ga X.K C) m f ∧ CallsD X W (.ref f) ks g
def methOf (L : Disp) (m : Str) : D → Option M
  | .obj C fs => if fs.lookup m = none then L.lookup C else none
  | _ => none
def eMeth (L : Disp) (m : Str) (o : E) (a : EL) : E := fun ρ s => (o ρ s).bind fun x s => match methOf L m (der s x) with
  | some g => (a ρ s).bind fun ds s => g (x :: ds) s
  | none => .bad
theorem lookup_mem {α : Type} {C : String} {g : α} : ∀ {L : List (String × α)}, L.lookup C = some g → (C, g) ∈ L
  | [], h => by cases h
  | (k, v) :: L, h => by
    simp only [List.lookup] at h
    cases e : C == k with
    | true =>
      rw [e] at h
      cases h
      rw [eq_of_beq e]
      exact List.mem_cons_self
    | false =>
      rw [e] at h
      exact List.mem_cons_of_mem _ (lookup_mem h)
section
variable {X : Cx} {W : WX} {o e : Expr} {es : List Expr} {m : Str} {mo : E} {ml : EL} {L : Disp} {apos pos : Pos} {pl : Sem Bool}
theorem meth_ins {K : PySem.W.Frag} {H : Hp} {μ : Mu} {F : Addr → Prop} {st : Store} {d : D} {v : V} {g : M} (rs : RS K H μ F st) (r : RV K H μ F d v) (h : methOf L m (der st d) = some g) :
    ∃ C a dx xs, (C, g) ∈ L ∧ v = .ref a ∧ H a = some (.ins (He.ga K C) dx xs) ∧ xs.lookup m = none := by
  have rr := (RD.of r).dr rs
  generalize der st d = c at h rr
  unfold methOf at h
  split at h
  · split at h
    · rename_i C fs hn
      obtain ⟨a, dx, xs, e1, e2, rf⟩ := rr
      exact ⟨C, a, dx, xs, lookup_mem h, e1, e2, (rf.lookup (f := m)).2 hn⟩
    · cases h
  · cases h
theorem se_meth (h : MethF X W m [] L) (ho : SE X W o mo) (ha : SA X W (e :: es) ml)
    (hst : starEach (e :: es) X.env = (false, eval e X.env) :: starEach es X.env := by rfl) (hpl : (backTo pos (starEach es X.env)).any (·.1) = false := by rfl)
    (ht : eval (.Call (.Attribute o m apos) (e :: es) [] pos) X.env = (do
      let ov ← eval o X.env
      standAt apos.atName
      let (f, first) ← holding [ov] (getMethod ov m pl)
      callWith pos f first (backTo pos (starEach (e :: es) X.env)) (backToKw pos (keywordEach [] X.env))) := by rfl) : SE X W (.Call (.Attribute o m apos) (e :: es) [] pos) (eMeth L m mo ml) := by
  refine ⟨fun pins s σ H Q I ⟨ρ, μ, F, G, st, a, q⟩ => ?_⟩
  refine PySem.W.methodCall_KW (pl := pl) ?_ ht
  have q' := tG_at (P := fun F H μ d v => RV X.K H μ F d v) (k := fun x s => match methOf L m (der s x) with
  | some g => (ml ρ s).bind fun ds s => g (x :: ds) s
  | none => .bad) (R := fun x H1 => ∃ C a dx xs g, (C, g) ∈ L ∧ x = .ref a ∧ H1 a = some (.ins (He.ga X.K C) dx xs) ∧ xs.lookup m = none ∧
    tG (fun F H μ d v => RVs X.K H μ F d v) X.pn X.K W ml σ H1 fun vs H2 => ∀ f pins s us, CallsD X W (.ref f) [] g → Inv X pins σ H2 s → Vals vs us → wpAny (model X.prog X.w) X.A (call (.ref f) (.ref a :: us)) (EP X pins σ Q) X.xe s) a q fun x H1 μ1 st1 d a1 f1 r1 h1 => ?_
  · refine thn (ho.run pins s σ H _ I q') fun u s1 ⟨x, H1, I1, rx, C, a, dx, xs, g, hC, ex, ea, l, q2⟩ => ?_
    subst ex
    obtain rfl : u = Value.ref a := rx
    obtain ⟨c, f, hm, hf⟩ := h C g hC
    refine getmeth_ok I1 ea c hm l ?_
    refine PySem.W.callWith_K (first := [.ref a]) (h₀ := X.base) I.ok.mod.kin hm.kp (thn (ha.run pos pins s1 σ H1 _ I1 q2) fun us s2 ⟨vs, H2, I2, r, q3⟩ => ⟨I2.kIn, ?_⟩) hst hpl
    exact q3 f pins s2 us hf I2 r
  · cases hme : methOf L m (der st1 d) with
    | none => rw [hme] at h1; exact h1.elim
    | some g =>
      rw [hme] at h1
      obtain ⟨C, b, dx, xs, hC, ex, ea, l⟩ := meth_ins a1.s r1 hme
      refine ⟨C, b, dx, xs, g, hC, ex, ea, l, tG_at (k := fun ds s => g (d :: ds) s) a1 h1 fun vs H2 μ2 st2 ds a2 f2 r2 h2 => fun f pins s us hf I r => ?_⟩
      have rb := RV.kp f2.kp0 r1
      rw [ex] at rb
      exact hf pins s σ H2 (.ref b :: us) [] (.ref b :: vs) [] Q μ2 F st2 (d :: ds) [] I (.cons rfl r) .nil rfl a2.s (RVs.cons rb r2) RVs.nil (by rw [List.append_nil]; exact h2)
theorem se_meth0 (h : MethF X W m [] L) (ho : SE X W o mo)
    (ht : eval (.Call (.Attribute o m apos) [] [] pos) X.env = (do
      let ov ← eval o X.env
      standAt apos.atName
      let (f, first) ← holding [ov] (getMethod ov m pl)
      callWith pos f first (backTo pos (starEach [] X.env)) (backToKw pos (keywordEach [] X.env))) := by rfl) : SE X W (.Call (.Attribute o m apos) [] [] pos) (eMeth L m mo eNil) := by
  refine ⟨fun pins s σ H Q I ⟨ρ, μ, F, G, st, a, q⟩ => ?_⟩
  refine PySem.W.methodCall_KW (pl := pl) ?_ ht
  have q' := tG_at (P := fun F H μ d v => RV X.K H μ F d v) (k := fun x s => match methOf L m (der s x) with
  | some g => (eNil ρ s).bind fun ds s => g (x :: ds) s
  | none => .bad) (R := fun x H1 => ∃ C a dx xs g, (C, g) ∈ L ∧ x = .ref a ∧ H1 a = some (.ins (He.ga X.K C) dx xs) ∧ xs.lookup m = none ∧
    ∀ f pins s, CallsD X W (.ref f) [] g → Inv X pins σ H1 s → wpAny (model X.prog X.w) X.A (call (.ref f) [.ref a]) (EP X pins σ Q) X.xe s) a q fun x H1 μ1 st1 d a1 f1 r1 h1 => ?_
  · refine thn (ho.run pins s σ H _ I q') fun u s1 ⟨x, H1, I1, rx, C, a, dx, xs, g, hC, ex, ea, l, q2⟩ => ?_
    subst ex
    obtain rfl : u = Value.ref a := rx
    obtain ⟨c, f, hm, hf⟩ := h C g hC
    refine getmeth_ok I1 ea c hm l ?_
    exact PySem.W.callWith_K0 (first := [.ref a]) I1.kIn hm.kp (q2 f pins s1 hf I1)
  · cases hme : methOf L m (der st1 d) with
    | none => rw [hme] at h1; exact h1.elim
    | some g =>
      rw [hme] at h1
      obtain ⟨C, b, dx, xs, hC, ex, ea, l⟩ := meth_ins a1.s r1 hme
      refine ⟨C, b, dx, xs, g, hC, ex, ea, l, fun f pins s hf I => ?_⟩
      rw [ex] at r1
      exact hf pins s σ H1 [.ref b] [] [.ref b] [] Q μ1 F st1 [d] [] I (.cons rfl .nil) .nil rfl a1.s (RVs.cons r1 RVs.nil) RVs.nil h1
end
end Dn

/-! Dn: isinstance; exceptions: made, raised, caught, read. -/
namespace Dn
open PySem PySem.Spec L2
open PyProof.Rows hiding St RelV

/-! ### isinstance -/
/-- the kind of a value: a built-in type (false), an own class (true) -/
def kindD : D → Option (Bool × String)
  | .non => some (false, "NoneType")
  | .bl _ => some (false, "bool")
  | .int _ => some (false, "int")
  | .str _ => some (false, "str")
  | .tup _ => some (false, "tuple")
  | .lst _ => some (false, "list")
  | .dic _ => some (false, "dict")
  | .scr _ => some (false, "list")
  | .obj C _ => some (true, C)
  | _ => none
def tyV' (K : PySem.W.Frag) (k : Bool × String) : Value := if k.1 = true then .ref (He.ga K k.2) else .type k.2
/-- what an own class must say -/
structure InsF (K : PySem.W.Frag) (C : String) : Prop where
  cl : Cls K (He.ga K C)
  ha : PySem.W.findIn K (.ref (He.ga K C)) "__class__" = some (some (.builtin "object.__class__"))
  hn : PySem.W.specialIn K (.builtin "object.__class__") "__get__" = some (some (.builtin "getset_descriptor.__get__"))
  ht : PySem.W.takesIn K (.builtin "object.__class__") = some true
  hm : PySem.W.mroIn K (He.ga K C) (.type "object") = some true
abbrev KTab := List ((Bool × String) × Bool)
/-- the table L tells what isinstance says of the class cv -/
def IsiF (K : PySem.W.Frag) (cv : Value) (L : KTab) : Prop := ∀ k b, (k, b) ∈ L → PySem.W.kitOne K (tyV' K k) cv = some b ∧ (k.1 = true → InsF K k.2)
theorem lookup_memK {α β : Type} [BEq α] [LawfulBEq α] {k : α} {g : β} : ∀ {L : List (α × β)}, L.lookup k = some g → (k, g) ∈ L
  | [], h => by cases h
  | (k', v) :: L, h => by
    simp only [List.lookup] at h
    cases e : k == k' with
    | true =>
      rw [e] at h
      cases h
      rw [eq_of_beq e]
      exact List.mem_cons_self
    | false =>
      rw [e] at h
      exact List.mem_cons_of_mem _ (lookup_memK h)
def isiOf (L : KTab) (d : D) : Option D := (kindD d).bind fun k => (L.lookup k).map .bl
def eIsi (L : KTab) (a : E) : E := fun ρ s => (a ρ s).bind fun x s => Res.of (isiOf L (der s x)) s
section
variable {X : Cx} {W : WX} {a e : Expr} {ma me : E} {pos p q : Pos} {L : KTab}
theorem kind_ty {K : PySem.W.Frag} {H : Hp} {μ : Mu} {F : Addr → Prop} {d : D} {v : V} {k : Bool × String} (h : DR K H μ F d v) (e : kindD d = some k) (hi : k.1 = true → InsF K k.2) : TyX K H v (tyV' K k) := by
  cases d with
  | non => cases e; cases (show v = _ from h); exact .base .non
  | bl b => cases e; cases (show v = _ from h); exact .base (.bl b)
  | int b => cases e; cases (show v = _ from h); exact .base (.int b)
  | str b => cases e; cases (show v = _ from h); exact .base (.str b)
  | tup ds =>
    cases e
    obtain ⟨a, xs, e1, q, r⟩ := h
    subst e1
    rcases q with (q | ⟨o, q⟩) | ⟨o, its, n, q, c, _⟩
    · exact .base (.tup q)
    · exact .fTuple q
    · exact .kTuple q c
  | lst ds =>
    cases e
    obtain ⟨a, xs, e1, q, r⟩ := h
    subst e1
    exact .base (.lst q)
  | dic ds =>
    cases e
    obtain ⟨a, xs, e1, q, r⟩ := h
    subst e1
    exact q.elim (fun q => .base (.dK q)) fun ⟨_, q⟩ => .fDict q
  | obj C fs =>
    cases e
    obtain ⟨a, dx, xs, e1, q, r⟩ := h
    subst e1
    have c := hi rfl
    exact .base (.ins q c.cl c.ha c.hn c.ht c.hm)
  | scr ns =>
    cases e
    obtain ⟨a, e1, q⟩ := h
    subst e1
    rcases q with (q | ⟨o, q⟩) | ⟨o, its, n, q, c, _⟩
    · exact .base (.lst q)
    · exact .base (.frz q)
    · exact .kList q c
  | ref n => cases e
  | glob x => cases e
theorem isi_at {c : V} {cv : Value} {σ : St} {H : Hp} {Q : VK} (hL : IsiF X.K cv L) (hc : ClsV c cv) (h : tG (fun F H μ d v => RV X.K H μ F d v) X.pn X.K W (eIsi L ma) σ H Q) :
    tG (fun F H μ d v => RD X.K H μ F d v) X.pn X.K W ma σ H fun x H1 => rIsi X.K [x, c] H1 Q := by
  obtain ⟨ρ, μ, F, G, st, a, q⟩ := h
  refine tG_at (k := fun x s => Res.of (isiOf L (der s x)) s) a q fun x H1 μ1 st1 d a1 f1 r1 h1 => ?_
  obtain ⟨r, hr, hq⟩ := OkG.some h1
  have rr := r1.dr a1.s
  unfold isiOf at hr
  obtain ⟨k, hk, hr⟩ := Option.bind_eq_some_iff.mp hr
  obtain ⟨b, hb, e⟩ := Option.map_eq_some_iff.mp hr
  subst e
  obtain ⟨h2, h3⟩ := hL k b (lookup_memK hb)
  exact ⟨x, c, _, _, b, rfl, hc, kind_ty rr hk h3, h2, hq _ H1 μ1 .refl a1.s (RV_bl b)⟩
/-- isinstance(e, T), T a built-in type -/
theorem se_isiT {T : String} {x : Str} (hL : IsiF X.K (.type T) L) (hg : Gl X "isinstance") (hm : X.mg "isinstance" = none) (hgT : Gl X x) (hmT : X.mg x = none) (ha : SR X W a ma) (hvT : bootBuiltins x = some (.type T) := by decide +kernel) (hnT : x ≠ "__name__" := by decide) (hdT : (x == ("__debug__" : Str)) = false := by decide)
    (he : starEach [a, .Name x q] X.env = (false, eval a X.env) :: starEach [.Name x q] X.env := by rfl) (he2 : starEach [.Name x q] X.env = (false, eval (.Name x q) X.env) :: starEach [] X.env := by rfl)
    (hpl : (backTo pos (starEach [.Name x q] X.env)).any (·.1) = false := by rfl) : SE X W (.Call (.Name "isinstance" p) [a, .Name x q] [] pos) (eIsi L ma) := by
  refine PE.of (pe_callB call_isi hg hm (by decide +kernel) (pa_cons ha (pa_cons (pe_bltn hgT hmT hvT (show RelV (.ty T) (.type T) from rfl) hnT hdT) pa_nil he2) he) (he := he) (hpl := hpl)) fun σ H Q h => ?_
  exact isi_at hL (.ty T) h
/-- isinstance(e, C), C an own class -/
theorem se_isiC {C : String} (hL : IsiF X.K (.ref (He.ga X.K C)) L) (hg : Gl X "isinstance") (hm : X.mg "isinstance" = none) (hgT : Gl X C) (hmT : X.mg C = some (.ref (He.ga X.K C))) (ha : SR X W a ma) (hdT : ((C : Str) == ("__debug__" : Str)) = false := by decide)
    (he : starEach [a, .Name C q] X.env = (false, eval a X.env) :: starEach [.Name C q] X.env := by rfl) (he2 : starEach [.Name C q] X.env = (false, eval (.Name C q) X.env) :: starEach [] X.env := by rfl)
    (hpl : (backTo pos (starEach [.Name C q] X.env)).any (·.1) = false := by rfl) : SE X W (.Call (.Name "isinstance" p) [a, .Name C q] [] pos) (eIsi L ma) := by
  refine PE.of (pe_callB call_isi hg hm (by decide +kernel) (pa_cons ha (pa_cons (pe_glob hgT hmT (show RelV (.ref (He.ga X.K C)) (.ref (He.ga X.K C)) from rfl) hdT) pa_nil he2) he) (he := he) (hpl := hpl)) fun σ H Q h => ?_
  exact isi_at hL (.own _) h
end

/-! ### exceptions with fields -/
/-- what __init__ stores: the field, the parameter's place -/
def xfs (L : List (Str × Nat)) (ds : List D) (acc : List (Str × D)) : Option (List (Str × D)) := match L with
  | [] => some acc
  | (f, j) :: r => match ds[j]? with
    | some d => xfs r ds ((f, d) :: acc)
    | none => none
def spX (K : PySem.W.Frag) (C : String) (n : Nat) (L : List (Str × Nat)) : Sp := fun vs H Q E => ∃ μ F ds a rest Hc fs, vs = .ref a :: rest ∧ H = upd Hc a (exo a (He.ga K C) none) ∧ Hc a = none ∧ RVs K Hc μ F ds rest ∧ ds.length = n ∧ xfs L ds [] = some fs ∧
  ∀ d xs, Hc d = none → d ≠ a → RVf K Hc μ F fs xs → Q .non (upd (upd Hc d (exd d xs)) a (exo a (He.ga K C) (some d)))
def tXs (K : PySem.W.Frag) : List (Str × Nat) → TS
  | [] => tNext
  | (f, j) :: r => tSeq (tOst K f (tVar 0) (tVar (j + 1))) (tXs K r)
theorem xs_old {K : PySem.W.Frag} {C : String} (T : OexC K (He.ga K C)) {Hc : Hp} {μ : Mu} {F : Addr → Prop} {ds : List D} {rest : List V} {a d : Addr} {N : List Str} (r : RVs K Hc μ F ds rest) (ha : Hc a = none) (hd : Hc d = none) (hda : d ≠ a) {D1 : Ends} :
    ∀ (L : List (Str × Nat)) (acc fs : List (Str × D)) (xs : List (Str × V)), (∀ p ∈ L, PySem.W.findIn K (.ref (He.ga K C)) p.1 = some none) → RVf K Hc μ F acc xs → acc.length + L.length ≤ 900 → xfs L ds acc = some fs →
      (∀ ys, RVf K Hc μ F fs ys → D1.nx (start N (.ref a :: rest)) (upd (upd Hc d (exd d ys)) a (exo a (He.ga K C) (some d)))) → tXs K L D1 (start N (.ref a :: rest)) (upd (upd Hc d (exd d xs)) a (exo a (He.ga K C) (some d)))
  | [], acc, fs, xs, _, rx, _, e, q => by
    cases e
    exact q xs rx
  | (f, j) :: L, acc, fs, xs, hf, rx, hl, e, q => by
    simp only [xfs] at e
    cases hj : ds[j]? with
    | none => rw [hj] at e; cases e
    | some dd =>
      rw [hj] at e
      obtain ⟨y, hy, ry⟩ := r.get hj
      have h0 : (start N (V.ref a :: rest))[0]? = some (some (.ref a)) := by unfold L2.start; simp
      have hj1 : (start N (V.ref a :: rest))[j + 1]? = some (some y) := by
        unfold L2.start
        rw [List.getElem?_append_left (by rw [List.length_map, List.length_cons]; have := (List.getElem?_eq_some_iff.mp hy).1; omega), List.getElem?_map, List.getElem?_cons_succ, hy]
        rfl
      refine ⟨y, hj1, .ref a, h0, a, He.ga K C, rfl, T, hf _ List.mem_cons_self, .inr ⟨d, xs, upd_same, by rw [upd_ne hda, upd_same], by rw [rx.length]; rw [List.length_cons] at hl; omega, ?_⟩⟩
      have e2 : upd (upd (upd Hc d (exd d xs)) a (exo a (He.ga K C) (some d))) d (exd d ((f, y) :: xs)) = upd (upd Hc d (exd d ((f, y) :: xs))) a (exo a (He.ga K C) (some d)) := by
        funext b
        by_cases h1 : b = a
        · rw [h1, upd_ne (Ne.symm hda), upd_same, upd_same]
        · by_cases h2 : b = d
          · rw [h2, upd_same, upd_ne hda, upd_same]
          · rw [upd_ne h2, upd_ne h1, upd_ne h2, upd_ne h1, upd_ne h2]
      rw [e2]
      exact xs_old T r ha hd hda L ((f, dd) :: acc) fs ((f, y) :: xs) (fun p hp => hf p (List.mem_cons_of_mem _ hp)) (RVf.cons ry rx) (by rw [List.length_cons] at hl ⊢; omega) e q
theorem x_init {P : Program} {w : World} {K : PySem.W.Frag} {mg : Str → Option Value} {base : Heap} {x qual : Str} {params : Arguments} {body : List Stmt} {scope : Scope} {dvs : List V} {kws : List (Str × V)} {f : Addr} {fd : FuncData} {N : List Str} {p0 : Str} {ps : List Str} {k : Nat} {C : String} {f0 : Str} {j0 : Nat} {L : List (Str × Nat)}
    (T : OexC K (He.ga K C)) (Fu : FunD K x qual params body scope dvs kws f fd) (S : FnScope N (p0 :: ps) scope) (hf : ∀ p ∈ (f0, j0) :: L, PySem.W.findIn K (.ref (He.ga K C)) p.1 = some none) (hl : L.length ≤ 800)
    (hb : ∀ (cdv : Value) (A : Around) (outer : List Env) (s : Shared) (H : Hp) (E : XK), PSs (cxOf (L2.CX P w) P w K mg base N qual scope f cdv A outer s H E) body (tXs K ((f0, j0) :: L))) : FnOk P w K mg base (L2.CX P w) (k + 1) f fd (p0 :: ps) (spX K C ps.length ((f0, j0) :: L)) := by
  refine Fu.ok S (fun vs H Q E h => ?_) fun cdv A outer s H vs Q E hr h => ?_
  · obtain ⟨μ, F, ds, a, rest, Hc, fs, rfl, _, _, r, hl, _⟩ := h
    rw [List.length_cons, List.length_cons, r.length, hl]
  · obtain ⟨μ, F, ds, a, rest, Hc, fs, rfl, rfl, ha, r, hl2, e, q⟩ := h
    refine ⟨_, hb cdv A outer s _ E, ?_⟩
    simp only [xfs] at e
    cases hj : ds[j0]? with
    | none => rw [hj] at e; cases e
    | some dd =>
      rw [hj] at e
      obtain ⟨y, hy, ry⟩ := r.get hj
      have h0 : (start N (V.ref a :: rest))[0]? = some (some (.ref a)) := by unfold L2.start; simp
      have hj1 : (start N (V.ref a :: rest))[j0 + 1]? = some (some y) := by
        unfold L2.start
        rw [List.getElem?_append_left (by rw [List.length_map, List.length_cons]; have := (List.getElem?_eq_some_iff.mp hy).1; omega), List.getElem?_map, List.getElem?_cons_succ, hy]
        rfl
      refine ⟨y, hj1, .ref a, h0, a, He.ga K C, rfl, T, hf _ List.mem_cons_self, .inl ⟨upd_same, fun d hd hda => ?_⟩⟩
      rw [upd_ne hda] at hd
      have e2 : upd (upd (upd Hc a (exo a (He.ga K C) none)) d (exd d [(f0, y)])) a (exo a (He.ga K C) (some d)) = upd (upd Hc d (exd d [(f0, y)])) a (exo a (He.ga K C) (some d)) := by
        funext b
        by_cases h1 : b = a
        · rw [h1, upd_same, upd_same]
        · rw [upd_ne h1, upd_ne h1]
          by_cases h2 : b = d
          · rw [h2, upd_same, upd_same]
          · rw [upd_ne h2, upd_ne h2, upd_ne h1]
      rw [e2]
      exact xs_old T r ha hd hda L [(f0, dd)] fs [(f0, y)] (fun p hp => hf p (List.mem_cons_of_mem _ hp)) (RVf.cons ry RVf.nil) (by rw [List.length_singleton]; omega) e fun ys ry => q d ys hd hda ry
/-- raise C(e, ..) -/
def kRaise (C : String) (n : Nat) (L : List (Str × Nat)) (ρ : Loc) (ds : List D) (s : Store) : SRes := if ds.length = n then (match xfs L ds [] with
  | some fs => .ex C fs ρ s
  | none => .bad) else .bad
def sRaise (C : String) (n : Nat) (L : List (Str × Nat)) (a : EL) : S := fun ρ s => (a ρ s).to ρ (kRaise C n L ρ)
section
variable {X : Cx} {W : WX} {k : Nat} {f : Addr} {fd : FuncData} {p0 : Str} {ps : List Str} {L : List (Str × Nat)} {C : String} {p pos pos2 : Pos} {e : Expr} {es : List Expr} {ml : EL}
theorem ss_raise (hc : X.calm = true) (tk : Takes X W) (T : OexC X.K (He.ga X.K C)) (iC : PySem.W.findIn X.K (.ref (He.ga X.K C)) "__init__" = some (some (.ref f))) (tI : PySem.W.typeIn X.K (.ref f) = some (.type "function"))
    (Fn : FnOk X.prog X.w X.K X.mg X.base (L2.CX X.prog X.w) k f fd (p0 :: ps) (spX X.K C ps.length L)) (hr : Room (k + 1) X.A) (hb : Binds X.K fd (p0 :: ps) []) (hn : ps.length ≤ 1000) (hg : Gl X C) (hm : X.mg C = some (.ref (He.ga X.K C))) (ha : SA X W (e :: es) ml)
    (hdb : ((C : Str) == ("__debug__" : Str)) = false := by decide) (he : starEach (e :: es) X.env = (false, eval e X.env) :: starEach es X.env := by rfl) (hpl : (backTo pos (starEach es X.env)).any (·.1) = false := by rfl) :
    SS X W (.Raise (some (.Call (.Name C p) (e :: es) [] pos)) none pos2) (sRaise C ps.length L ml) := by
  have hx : Passes (L2.CX X.prog X.w) X (fun _ _ _ => False) := fun _ _ _ _ _ _ _ ⟨_, _, _, _, _, _, _, _, _, _, _, _, z⟩ => z.elim
  refine PS.of (ps_raise hc tk (pmk_oex T iC tI Fn hr hb .nil hx hg hm ha hdb he hpl)) fun D σ H ⟨ρ, μ, F, G, st, a, h⟩ => ?_
  refine tS_e (k := kRaise C ps.length L ρ) a h fun vs H1 μ1 st1 ds a1 f1 r1 h1 => ?_
  unfold kRaise at h1
  split at h1
  · rename_i hl
    split at h1
    · rename_i fs hfs
      have lv := r1.length
      refine ⟨by omega, fun b hb => ?_⟩
      rw [List.append_nil]
      refine ⟨μ1, F, ds, b, vs, H1, fs, rfl, rfl, hb, r1, hl, hfs, fun d xs hd hda rf => ⟨rfl, d, xs, upd_same, by rw [upd_ne hda, upd_same], hd, ?_⟩⟩
      have e2 : upd (del (upd (upd H1 d (exd d xs)) b (exo b (He.ga X.K C) (some d))) b) d (.xd xs) = upd H1 d (.xd xs) := by
        funext c
        by_cases h1 : c = d
        · rw [h1, upd_same, upd_same]
        · rw [upd_ne h1, upd_ne h1]
          by_cases h2 : c = b
          · rw [h2, del_same]; exact hb.symm
          · rw [del_ne h2, upd_ne h2, upd_ne h1]
      rw [e2]
      have a2 := a1.fut (Fut.new (o := .xd xs) hd) (a1.s.new hd)
      exact h1 d σ _ μ1 F G xs (a1.ev (Fut.new hd)) a2 upd_same (a1.s.fresh hd).1 (a1.s.fresh hd).2 (RVf.kp (Fut.new hd).kp0 rf)
    · exact h1.elim
  · exact h1.elim
end
end Dn

/-! Dn: try / except C as e; what a caught exception tells. -/
namespace Dn
open PySem PySem.Spec L2
open PyProof.Rows hiding St RelV

def SRes.dropX : SRes → SRes
  | .nx ρ s => .nx (ρ.map Slot.drop) s
  | .rt d s => .rt d s
  | .bk ρ s => .bk (ρ.map Slot.drop) s
  | .ct ρ s => .ct (ρ.map Slot.drop) s
  | .ex C fs ρ s => .ex C fs (ρ.map Slot.drop) s
  | .bad => .bad
def SRes.unname (i : Nat) : SRes → SRes
  | .nx ρ s => .nx ((ρ.map Slot.drop).set i .no) s
  | .rt d s => .rt d s
  | .bk ρ s => .bk ((ρ.map Slot.drop).set i .no) s
  | .ct ρ s => .ct ((ρ.map Slot.drop).set i .no) s
  | _ => .bad
/-- tbl: which classes the clause takes -/
def sTry (i : Nat) (tbl : List (String × Bool)) (m mh : S) : S := fun ρ s => match (m (ρ.map Slot.drop) s).dropX with
  | .ex C fs ρ' s' => (match tbl.lookup C with
    | some true => (mh (ρ'.set i (.exc C fs)) s').unname i
    | some false => .ex C fs ρ' s'
    | none => .bad)
  | r => r
section
variable {pn pn' : Pn} {K : PySem.W.Frag} {W : WX} {H : Hp} {μ : Mu} {F : Addr → Prop} {G : Own} {st : Store} {ρ : Loc} {σ : St}
theorem RL.up (h : RL [] K H μ F G ρ σ) : RL pn K H μ F G ρ σ := ⟨h.len, fun i sl e => let ⟨o, e1, q⟩ := h.at_ i sl e; ⟨o, e1, by
  cases sl with
  | exc C fs => obtain ⟨_, _, _, _, _, hp, _⟩ := q; cases hp
  | _ => exact q⟩, h.inj⟩
theorem At.up (a : At [] K H μ F G ρ σ st) : At pn K H μ F G ρ σ st := ⟨a.l.up, a.s, a.gf⟩
theorem At.dropX (a : At pn K H μ F G ρ σ st) : At [] K H μ F G (ρ.map Slot.drop) σ st := ⟨a.l.drop, a.s, a.gf⟩
theorem At.unset (a : At pn K H μ F G ρ σ st) (i : Nat) (x : Option V) : At pn K H μ F G (ρ.set i .no) (σ.set i x) st := ⟨a.l.unset i x, a.s, a.gf⟩
theorem RL.setS (l : RL pn K H μ F G ρ σ) {i : Nat} {sl : Slot} {v : V} (hs : RSlot pn K H μ F G sl (some v)) (hn : ∀ b d, sl ≠ .ow b d) : RL pn K H μ F G (ρ.set i sl) (σ.set i (some v)) := by
  refine ⟨by rw [List.length_set, List.length_set]; exact l.len, fun j sl' e => ?_, fun j k b c d e a h1 h2 h3 h4 => ?_⟩
  · rcases set_get e with ⟨rfl, hi, rfl⟩ | ⟨ne, e⟩
    · exact ⟨_, List.getElem?_set_self (by rw [← l.len]; exact hi), hs⟩
    · obtain ⟨o, e1, q⟩ := l.at_ j sl' e
      exact ⟨o, (List.getElem?_set_ne ne).trans e1, q⟩
  · rcases set_get h1 with ⟨rfl, _, e1⟩ | ⟨n1, e1⟩
    · exact absurd e1.symm (hn _ _)
    · rcases set_get h2 with ⟨rfl, _, e2⟩ | ⟨n2, e2⟩
      · exact absurd e2.symm (hn _ _)
      · rw [List.getElem?_set_ne n1] at h3
        rw [List.getElem?_set_ne n2] at h4
        exact l.inj j k _ _ _ _ a e1 e2 h3 h4
theorem At.mono {p : Addr × Obj} (a : At pn K H μ F G ρ σ st) (h : ∀ q ∈ pn, q ∈ pn') : At pn' K H μ F G ρ σ st := ⟨⟨a.l.len, fun i sl e => let ⟨o, e1, q⟩ := a.l.at_ i sl e; ⟨o, e1, by
  cases sl with
  | exc C fs => obtain ⟨x1, x2, x3, x4, x5, hp, x6⟩ := q; exact ⟨x1, x2, x3, x4, x5, h _ hp, x6⟩
  | _ => exact q⟩, a.l.inj⟩, a.s, a.gf⟩
end
section
variable {X : Cx} {W : WX} {x n : Str} {c : Value} {i : Nat} {body suite : List Stmt} {b₀ : Stmt} {np pos pos' : Pos} {m mh : S} {tbl : List (String × Bool)}
theorem ss_try (hs : X.stack = X.env :: X.outer) (hf : X.env.frame = some X.env.locals) (hN : X.N.Nodup) (hc : Names X x c) (tk : Takes X W)
    (hb : ∀ (W' : WX) (pn : List (Addr × Obj)) (xe : Value → Shared → Prop), Takes (X.tr pn xe) W' → PassesOwn (model X.prog X.w) X.A X.env xe → SB (X.tr pn xe) W' body m)
    (hsu : ∀ (a : Addr) (oe : Obj) (pn : List (Addr × Obj)), SB (X.suite a ((a, oe) :: pn)) W0 (b₀ :: suite) mh) (ht : ∀ C b, (C, b) ∈ tbl → PySem.W.exmOne X.K (.ref (He.ga X.K C)) c = some b)
    (hi : X.N[i]? = some n := by rfl) (hln : X.env.kindOf n = some .local := by rfl) : SS X W (.Try body [.ExceptHandler (some (.Name x np)) (some n) (b₀ :: suite) pos'] [] [] pos) (sTry i tbl m mh) := by
  refine PS.of (ps_try_as (tb := fun W' => tS [] X.K W' fun ρ s => (m ρ s).dropX) (ts := fun a cls d D σ H => ∀ oe pn, Zc cls d oe → (∃ vs, oe.data = .fields vs) → tS ((a, oe) :: pn) X.K W0 mh D σ H) hs hf hN hi hln hc tk (fun W' pn xe tk' hp' => ?_) (fun a oe cls d pn hz hd => ?_)) fun D σ H ⟨ρ, μ, F, G, st, a, h⟩ => ?_
  · refine PSs.of (hb W' pn xe tk' hp') fun D σ H ⟨ρ, μ, F, G, st, a, h⟩ => ⟨ρ, μ, F, G, st, a.up, ?_⟩
    have h : OkS [] X.K W' H μ F G ((m ρ st).dropX) D := h
    show OkS pn X.K W' H μ F G (m ρ st) D
    cases e : m ρ st with
    | nx ρ s => rw [e] at h; exact fun σ H μ F G ev a => h σ H μ F G ev a.dropX
    | rt d s => rw [e] at h; exact h
    | bk ρ s => rw [e] at h; exact fun σ H μ F G ev a => h σ H μ F G ev a.dropX
    | ct ρ s => rw [e] at h; exact fun σ H μ F G ev a => h σ H μ F G ev a.dropX
    | ex C fs ρ s => rw [e] at h; exact fun d σ H μ F G xs ev a => h d σ H μ F G xs ev a.dropX
    | bad => rw [e] at h; exact h
  · exact PSs.of (hsu a oe pn) fun D σ H h => h oe pn hz hd
  · refine ⟨ρ.map Slot.drop, μ, F, G, st, a.dropX, ?_⟩
    have h : OkS X.pn X.K W H μ F G (match (m (ρ.map Slot.drop) st).dropX with
      | .ex C fs ρ' s' => (match tbl.lookup C with
        | some true => (mh (ρ'.set i (.exc C fs)) s').unname i
        | some false => .ex C fs ρ' s'
        | none => .bad)
      | r => r) D := h
    show OkS [] X.K _ H μ F G ((m (ρ.map Slot.drop) st).dropX) D
    cases e : (m (ρ.map Slot.drop) st).dropX with
    | nx ρ s => rw [e] at h; exact fun σ H μ F G ev a => h σ H μ F G ev a.up
    | rt d s => rw [e] at h; exact h
    | bk ρ s => rw [e] at h; exact fun σ H μ F G ev a => h σ H μ F G ev a.up
    | ct ρ s => rw [e] at h; exact fun σ H μ F G ev a => h σ H μ F G ev a.up
    | bad => rw [e] at h; exact h
    | ex C fs ρ' s' =>
      rw [e] at h
      intro d σ' H' μ' F' G' xs ev a' e1 e2 e3 e4
      replace h : OkS X.pn X.K W H μ F G (match tbl.lookup C with
        | some true => (mh (ρ'.set i (.exc C fs)) s').unname i
        | some false => .ex C fs ρ' s'
        | none => .bad) D := h
      cases hl : tbl.lookup C with
      | none => rw [hl] at h; exact h.elim
      | some b =>
        rw [hl] at h
        refine ⟨b, ht C b (lookup_mem hl), fun hb' b0 hb0 oe pn hz hd => ?_, fun hb' => ?_⟩
        · subst hb'
          replace h := OkS.ev ev (show OkS X.pn X.K W H μ F G ((mh (ρ'.set i (.exc C fs)) s').unname i) D from h)
          have a2 : At ((b0, oe) :: pn) X.K H' μ' F' G' (ρ'.set i (.exc C fs)) (σ'.set i (some (.ref b0))) s' :=
            ⟨a'.up.l.setS ⟨b0, oe, d, xs, rfl, List.mem_cons_self, hz, hd, e1, e2, e3, e4⟩ (fun _ _ z => by cases z), a'.s, a'.gf⟩
          refine ⟨_, μ', F', G', s', a2, ?_⟩
          cases e5 : mh (ρ'.set i (.exc C fs)) s' with
          | nx ρ s => rw [e5] at h; exact fun σ H μ F G ev a => h _ H μ F G ev (a.dropX.up.unset i none)
          | rt d s => rw [e5] at h; exact h
          | bk ρ s => rw [e5] at h; exact fun σ H μ F G ev a => h _ H μ F G ev (a.dropX.up.unset i none)
          | ct ρ s => rw [e5] at h; exact fun σ H μ F G ev a => h _ H μ F G ev (a.dropX.up.unset i none)
          | ex C fs ρ s => rw [e5] at h; exact h.elim
          | bad => rw [e5] at h; exact h.elim
        · subst hb'
          exact h d σ' H' μ' F' G' xs ev a'.up e1 e2 e3 e4
/-- what stands in a try block's body -/
theorem Fr.tr {X : Cx} {W W' : WX} (z : Fr X W) {pn : List (Addr × Obj)} {xe : Value → Shared → Prop} (tk : Takes (X.tr pn xe) W') (hp : PassesOwn (model X.prog X.w) X.A X.env xe) : Fr (X.tr pn xe) W' := ⟨z.hu, z.hc, tk, hp⟩
end

/-! ### what a caught exception tells -/
def excOf (ρ : Loc) (i : Nat) : Option (String × List (Str × D)) := match ρ[i]? with
  | some (.exc C fs) => some (C, fs)
  | _ => none
/-- e.f -/
def eXf (L : List String) (i : Nat) (f : Str) : E := fun ρ s => match excOf ρ i with
  | some (C, fs) => if C ∈ L then Res.of (fs.lookup f) s else .bad
  | none => .bad
/-- isinstance(e, T) -/
def eXis (L : KTab) (i : Nat) : E := fun ρ s => match excOf ρ i with
  | some (C, _) => Res.of ((L.lookup (true, C)).map .bl) s
  | none => .bad
def XfF (K : PySem.W.Frag) (L : List String) (f : Str) : Prop := ∀ C ∈ L, XfC K (He.ga K C) ∧ PySem.W.findIn K (.ref (He.ga K C)) f = some none
def XisF (K : PySem.W.Frag) (cv : Value) (L : KTab) : Prop := ∀ C b, ((true, C), b) ∈ L → PySem.W.kitOne K (.ref (He.ga K C)) cv = some b ∧ L2.ExcC K (He.ga K C)
section
variable {X : Cx} {W : WX} {i : Nat} {x f : Str} {p p1 q pos : Pos} {L : List String} {T : KTab}
theorem exc_at {pn : Pn} {K : PySem.W.Frag} {H : Hp} {μ : Mu} {F : Addr → Prop} {G : Own} {ρ : Loc} {σ : St} {st : Store} {C : String} {fs : List (Str × D)} (a : At pn K H μ F G ρ σ st) (h : excOf ρ i = some (C, fs)) : RSlot pn K H μ F G (.exc C fs) (σ[i]?.getD none) ∧ ∃ o, σ[i]? = some o := by
  unfold excOf at h
  split at h
  · rename_i C' fs' e
    cases h
    obtain ⟨o, e1, q⟩ := a.l.at_ i _ e
    rw [e1]
    exact ⟨q, o, rfl⟩
  · cases h
theorem se_xf (h : XfF X.K L f) (hN : X.N[i]? = some x := by rfl) (hv : Vis X.env.scope x := by first | exact Or.inl rfl | exact Or.inr (Or.inl rfl) | exact Or.inr (Or.inr rfl)) (hd : (x == ("__debug__" : Str)) = false := by decide)
    (hcd : (x == ("__classdict__" : Str)) = false := by decide) (hb : attributeBase (.Name x p1) f X.env (eval (.Name x p1) X.env) = eval (.Name x p1) X.env := by rfl) : SE X W (.Attribute (.Name x p1) f pos) (eXf L i f) := by
  refine ⟨fun pins s σ H Q I ⟨ρ, μ, F, G, st, a, hq⟩ => ?_⟩
  unfold eXf at hq
  split at hq
  · rename_i C fs he
    split at hq
    · rename_i hC
      obtain ⟨r, hr, hq⟩ := OkG.some hq
      obtain ⟨q, o, ho⟩ := exc_at a he
      rw [ho] at q
      obtain ⟨b, oe, d, xs, e1, hp, hz, hdd, h1, h2, h3, h4⟩ := q
      have e1 : o = some (.ref b) := e1
      subst e1
      obtain ⟨v, hl, rv⟩ := (h4.lookup (f := f)).1 r hr
      obtain ⟨c1, c2⟩ := h C hC
      refine attr_of hb (thn ((pe_var hN hv hd hcd).run pins s σ H (fun y H1 => y = .ref b ∧ H1 = H) I ⟨.ref b, ho, rfl, rfl⟩) fun u s1 ⟨y, H1, I1, rx, ey, eH⟩ => ?_)
      subst ey eH
      obtain rfl : u = Value.ref b := rx
      obtain ⟨ha, _⟩ := I1.pin (b, oe) (List.mem_append_left _ hp)
      obtain ⟨vs, hdat⟩ := hdd
      have hx : ObjOk X.prog X.w H1 s1.heap d (.xd xs) := I1.hok d _ h1
      obtain ⟨mA, hns, rel⟩ := hx
      obtain ⟨od, hod, hlk⟩ := lookIn_ns hns
      obtain ⟨w, hw, rw_⟩ := RelO.some_of (v := v) (o := mA f) (by rw [← hl]; exact rel f)
      have J : PySem.W.InstAt s1.heap b oe (He.ga X.K C) (some od) := ⟨ha, hz.1, by unfold PySem.W.notCls; rw [hdat] <;> rfl, by rw [hz.2]; exact hod⟩
      exact HandSPX.exc_get I1.kIn J c1.ga c1.gg c1.exC (PySem.W.findObj_own c1.hdC c2 rfl (by rw [hlk, hw])) (handed_of rw_) ⟨v, H1, I1.tok _, rw_, hq v H1 μ .refl a.s rv⟩
    · exact hq.elim
  · exact hq.elim
theorem xis_ok {c : V} {cv : Value} (h : XisF X.K cv T) (hc : ClsV c cv) : CallR X (.builtin "isinstance") fun xs H Q => ∃ ρ μ F G st σ0 b, At X.pn X.K H μ F G ρ σ0 st ∧ xs = [.ref b, c] ∧ σ0[i]? = some (some (.ref b)) ∧ OkE X.K W F σ0 H μ (eXis T i ρ st) Q := by
  intro pins s σ H xs us Q I r ⟨ρ, μ, F, G, st, σ0, b, a, e, hs, hq⟩
  subst e
  unfold eXis at hq
  split at hq
  · rename_i C fs he
    obtain ⟨r', hr, hq⟩ := OkG.some hq
    obtain ⟨bb, hb, e⟩ := Option.map_eq_some_iff.mp hr
    subst e
    obtain ⟨q, o, ho⟩ := exc_at a he
    rw [ho] at q
    rw [hs] at ho
    cases ho
    obtain ⟨b', oe, d, xs, e1, hp, hz, ⟨vs, hdat⟩, h1, h2, h3, h4⟩ := q
    cases e1
    obtain ⟨k1, k2⟩ := h C bb (lookup_memK hb)
    obtain ⟨u1, u2, rfl, r1, r2⟩ := vals2 r
    cases (show u1 = Value.ref b from r1)
    have e2 := hc.eq r2
    subst e2
    obtain ⟨ha, _⟩ := I.pin (b, oe) (List.mem_append_left _ hp)
    have hx : ObjOk X.prog X.w H s.heap d (.xd xs) := I.hok d _ h1
    obtain ⟨mA, hns, rel⟩ := hx
    obtain ⟨od, hod, hlk⟩ := lookIn_ns hns
    have J : PySem.W.InstAt s.heap b oe (He.ga X.K C) (some od) := ⟨ha, hz.1, by unfold PySem.W.notCls; rw [hdat] <;> rfl, by rw [hz.2]; exact hod⟩
    have hcl : (PySem.W.clsIn X.K (He.ga X.K C)).isSome = true := by
      obtain ⟨cd, hcd, _⟩ := PySem.W.any_some k2.hd
      rw [hcd]; rfl
    exact PySem.W.kia_one (PySem.W.kitx_exc hcl k2.hg k2.hk k2.hs k2.ha k2.hn k2.ht k2.hm) I.kIn J k1 (fun z => nomatch z) fun tk => ⟨.bl bb, H, I.tok tk, rfl, hq _ H μ .refl a.s (RV_bl bb)⟩
  · exact hq.elim
/-- isinstance(e, C) of a caught exception e, C an own class -/
theorem exc_args {cx : V} {te : TE} {e2 : Expr} {σ : St} {H : Hp} {Q : VK} (h : tG (fun F H μ d v => RV X.K H μ F d v) X.pn X.K W (eXis T i) σ H Q) :
    tCons (tVar i) (tCons (tC cx) tNil) σ H fun xs H => ∃ ρ μ F G st σ0 b, At X.pn X.K H μ F G ρ σ0 st ∧ xs = [.ref b, cx] ∧ σ0[i]? = some (some (.ref b)) ∧ OkE X.K W F σ0 H μ (eXis T i ρ st) Q := by
  obtain ⟨ρ, μ, F, G, st, a, hq⟩ := h
  have hq0 := hq
  unfold eXis at hq
  split at hq
  · rename_i C fs he
    obtain ⟨q, o, ho⟩ := exc_at a he
    rw [ho] at q
    obtain ⟨b, oe, d, xs, e1, _⟩ := q
    have e1 : o = some (.ref b) := e1
    subst e1
    exact ⟨.ref b, ho, ρ, μ, F, G, st, σ, b, a, rfl, ho, hq0⟩
  · exact hq.elim
theorem se_xisC {C : String} (hL : XisF X.K (.ref (He.ga X.K C)) T) (hg : Gl X "isinstance") (hm : X.mg "isinstance" = none) (hgT : Gl X C) (hmT : X.mg C = some (.ref (He.ga X.K C))) (hdT : ((C : Str) == ("__debug__" : Str)) = false := by decide)
    (hN : X.N[i]? = some x := by rfl) (hv : Vis X.env.scope x := by first | exact Or.inl rfl | exact Or.inr (Or.inl rfl) | exact Or.inr (Or.inr rfl)) (hd : (x == ("__debug__" : Str)) = false := by decide) (hcd : (x == ("__classdict__" : Str)) = false := by decide)
    (he : starEach [.Name x p1, .Name C q] X.env = (false, eval (.Name x p1) X.env) :: starEach [.Name C q] X.env := by rfl) (he2 : starEach [.Name C q] X.env = (false, eval (.Name C q) X.env) :: starEach [] X.env := by rfl)
    (hpl : (backTo pos (starEach [.Name C q] X.env)).any (·.1) = false := by rfl) : SE X W (.Call (.Name "isinstance" p) [.Name x p1, .Name C q] [] pos) (eXis T i) :=
  PE.of (pe_callB (xis_ok (W := W) (i := i) hL (.own (He.ga X.K C))) hg hm (by decide +kernel) (pa_cons (pe_var hN hv hd hcd) (pa_cons (pe_glob hgT hmT (show RelV (.ref (He.ga X.K C)) (.ref (He.ga X.K C)) from rfl) hdT) pa_nil he2) he) (he := he) (hpl := hpl)) fun σ H Q h => exc_args (te := tVar 0) (e2 := .Name x p1) h
/-- .. T a built-in class -/
theorem se_xisT {C : String} {y : Str} (hL : XisF X.K (.type C) T) (hg : Gl X "isinstance") (hm : X.mg "isinstance" = none) (hgT : Gl X y) (hmT : X.mg y = none) (hvT : bootBuiltins y = some (.type C) := by decide +kernel) (hnT : y ≠ "__name__" := by decide) (hdT : (y == ("__debug__" : Str)) = false := by decide)
    (hN : X.N[i]? = some x := by rfl) (hv : Vis X.env.scope x := by first | exact Or.inl rfl | exact Or.inr (Or.inl rfl) | exact Or.inr (Or.inr rfl)) (hd : (x == ("__debug__" : Str)) = false := by decide) (hcd : (x == ("__classdict__" : Str)) = false := by decide)
    (he : starEach [.Name x p1, .Name y q] X.env = (false, eval (.Name x p1) X.env) :: starEach [.Name y q] X.env := by rfl) (he2 : starEach [.Name y q] X.env = (false, eval (.Name y q) X.env) :: starEach [] X.env := by rfl)
    (hpl : (backTo pos (starEach [.Name y q] X.env)).any (·.1) = false := by rfl) : SE X W (.Call (.Name "isinstance" p) [.Name x p1, .Name y q] [] pos) (eXis T i) :=
  PE.of (pe_callB (xis_ok (W := W) (i := i) hL (.ty C)) hg hm (by decide +kernel) (pa_cons (pe_var hN hv hd hcd) (pa_cons (pe_bltn hgT hmT hvT (show RelV (.ty C) (.type C) from rfl) hnT hdT) pa_nil he2) he) (he := he) (hpl := hpl)) fun σ H Q h => exc_args (te := tVar 0) (e2 := .Name x p1) h
end
end Dn

/-! Dn: texts that are walked, all, any, sum, methods of built-in values. -/
namespace Dn
open PySem PySem.Spec L2
open PyProof.Rows hiding St RelV

/-! ### the signs of a text -/
def strSigns (x : Str) : List D := x.cps.toList.map fun c => .str ⟨#[c]⟩
def strK (d : D) (s : Store) : Res (List D) := match d with
  | .str x => .ok (strSigns x) s
  | _ => .bad
def iStrD (e : E) : EI := fun ρ s => (e ρ s).bind strK
section
variable {X : Cx} {W : WX} {tg e : Expr} {me : E}
theorem walks_str {K : PySem.W.Frag} {F : Addr → Prop} {H0 : Hp} {μ0 : Mu} (x : Str) : Walks K F H0 μ0 (Its x) (strSigns x) := by
  refine ⟨fun i d H μ F2 st e f rs => ?_, fun i H μ F2 hl f => ?_⟩
  · unfold strSigns at e
    rw [List.getElem?_map] at e
    obtain ⟨c, e1, e2⟩ := Option.map_eq_some_iff.mp e
    subst e2
    have hc : x.cps[i]? = some c := by simpa using e1
    have hi : i < x.cps.size := (Array.getElem?_eq_some_iff.mp hc).1
    refine ⟨hi, fun y H2 hy => ?_⟩
    obtain ⟨rfl, c', h1, rfl⟩ := hy
    rw [hc] at h1
    cases h1
    exact ⟨rs, .refl, RV_str _⟩
  · unfold strSigns at hl
    rw [List.length_map] at hl
    show x.cps.size ≤ i
    simpa using hl
theorem si_str (he : SE X W e me) : SI X W tg e (iStrD me) := PI.of (pi_str he) fun σ H Q ⟨ρ, μ, F, G, st, a, h⟩ => by
  refine tG_at (k := strK) a h fun x H1 μ1 st1 d a1 f1 r1 h1 => ?_
  cases d with
  | str y =>
    unfold RV at r1
    exact ⟨y, r1, h1 _ H1 μ1 .refl a1.s (walks_str y)⟩
  | _ => exact h1.elim
end

/-! ### all, any, sum -/
def bools : List D → Option (List Bool)
  | [] => some []
  | .bl b :: r => (bools r).map fun bs => b :: bs
  | _ => none
def intsOf : List D → Option (List Int)
  | [] => some []
  | .int i :: r => (intsOf r).map fun bs => i :: bs
  | _ => none
def gAll : List D → Option D
  | [.lst ds] => (bools ds).map fun bs => .bl (bs.all id)
  | _ => none
def gAny : List D → Option D
  | [.lst ds] => (bools ds).map fun bs => .bl (bs.any id)
  | _ => none
def gSum : List D → Option D
  | [.lst ds] => (intsOf ds).map fun ns => .int ns.sum
  | _ => none
section
variable {X : Cx} {K : PySem.W.Frag} {H : Hp} {μ : Mu} {F : Addr → Prop} {st : Store}
theorem bools_rel : ∀ {ds : List D} {bs : List Bool} {xs : List V}, bools ds = some bs → RVs K H μ F ds xs → xs = bs.map V.bl
  | [], bs, xs, e, r => by
    cases e
    unfold RVs at r
    exact r
  | d :: ds, bs, xs, e, r => by
    unfold RVs at r
    obtain ⟨y, ys, e1, r1, r2⟩ := r
    cases d with
    | bl b =>
      simp only [bools] at e
      obtain ⟨cs, e2, e3⟩ := Option.map_eq_some_iff.mp e
      subst e3
      unfold RV at r1
      rw [e1, r1, bools_rel e2 r2]
      rfl
    | _ => simp [bools] at e
theorem ints_rel : ∀ {ds : List D} {bs : List Int} {xs : List V}, intsOf ds = some bs → RVs K H μ F ds xs → xs = bs.map V.int
  | [], bs, xs, e, r => by
    cases e
    unfold RVs at r
    exact r
  | d :: ds, bs, xs, e, r => by
    unfold RVs at r
    obtain ⟨y, ys, e1, r1, r2⟩ := r
    cases d with
    | int b =>
      simp only [intsOf] at e
      obtain ⟨cs, e2, e3⟩ := Option.map_eq_some_iff.mp e
      subst e3
      unfold RV at r1
      rw [e1, r1, ints_rel e2 r2]
      rfl
    | _ => simp [intsOf] at e
theorem gAll_ok (hc : X.calm = true) : VB X (.builtin "all") gAll := by
  intro pins s σ H xs us Q I r h
  obtain ⟨μ, F, st, ds, rr, rs, rd, hg, q⟩ := h
  generalize hds : ds.map (der st) = cs at hg
  unfold gAll at hg
  split at hg
  · obtain ⟨bs, hb, e⟩ := Option.map_eq_some_iff.mp hg
    subst e
    obtain ⟨d, x, e1, e2, r1, e3⟩ := rd.one rs hds
    have r2 := r1.dr rs
    rw [e3] at r2
    obtain ⟨a, ys, e4, q1, q2⟩ := r2
    rw [e4] at e2
    exact cr_all hc pins s σ H xs us Q I r ⟨a, bs, e2, .inl (.inl (by rw [← bools_rel hb q2]; exact q1)), q _ H μ .refl rs (RV_bl _)⟩
  · cases hg
theorem gAny_ok (hc : X.calm = true) : VB X (.builtin "any") gAny := by
  intro pins s σ H xs us Q I r h
  obtain ⟨μ, F, st, ds, rr, rs, rd, hg, q⟩ := h
  generalize hds : ds.map (der st) = cs at hg
  unfold gAny at hg
  split at hg
  · obtain ⟨bs, hb, e⟩ := Option.map_eq_some_iff.mp hg
    subst e
    obtain ⟨d, x, e1, e2, r1, e3⟩ := rd.one rs hds
    have r2 := r1.dr rs
    rw [e3] at r2
    obtain ⟨a, ys, e4, q1, q2⟩ := r2
    rw [e4] at e2
    exact cr_any hc pins s σ H xs us Q I r ⟨a, bs, e2, .inl (.inl (by rw [← bools_rel hb q2]; exact q1)), q _ H μ .refl rs (RV_bl _)⟩
  · cases hg
theorem gSum_ok (hc : X.calm = true) : VB X (.builtin "sum") gSum := by
  intro pins s σ H xs us Q I r h
  obtain ⟨μ, F, st, ds, rr, rs, rd, hg, q⟩ := h
  generalize hds : ds.map (der st) = cs at hg
  unfold gSum at hg
  split at hg
  · obtain ⟨bs, hb, e⟩ := Option.map_eq_some_iff.mp hg
    subst e
    obtain ⟨d, x, e1, e2, r1, e3⟩ := rd.one rs hds
    have r2 := r1.dr rs
    rw [e3] at r2
    obtain ⟨a, ys, e4, q1, q2⟩ := r2
    rw [e4] at e2
    exact cr_sum hc pins s σ H xs us Q I r ⟨a, bs, e2, .inl (.inl (by rw [← ints_rel hb q2]; exact q1)), q _ H μ .refl rs (RV_int _)⟩
  · cases hg
end

/-! ### methods of built-in values -/
def tyOfD : D → String
  | .str _ => "str"
  | .lst _ => "list"
  | _ => ""
def VM (X : Cx) (id : String) (g : D → List D → Option D) : Prop := MtR X id fun x xs H Q => ∃ μ F st d ds r, RS X.K H μ F st ∧ RD X.K H μ F d x ∧ RDs X.K H μ F ds xs ∧ g (der st d) (ds.map (der st)) = some r ∧ ∀ v H' μ', Fut H μ H' μ' → RS X.K H' μ' F st → RV X.K H' μ' F r v → Q v H'
def eMt (T : String) (g : D → List D → Option D) (o : E) (a : EL) : E := fun ρ s => (o ρ s).bind fun x s => if T ≠ "" ∧ tyOfD (der s x) = T then (a ρ s).bind fun ds s => Res.of (g (der s x) (ds.map (der s))) s else .bad
section
variable {X : Cx} {W : WX} {o e : Expr} {es : List Expr} {mo : E} {ml : EL} {T id : String} {name : Str} {g : D → List D → Option D} {apos cpos : Pos}
theorem ty_ok {K : PySem.W.Frag} {H : Hp} {μ : Mu} {F : Addr → Prop} {d : D} {v : V} (h : DR K H μ F d v) (hT : T ≠ "" ∧ tyOfD d = T) : tyV K T v H := by
  cases d with
  | str x => cases (show v = _ from h); exact hT.2.symm
  | lst ds =>
    obtain ⟨a, xs, e, q, _⟩ := h
    subst e
    exact .inl ⟨hT.2.symm, xs, .inl (.inl q)⟩
  | _ => exact absurd hT.2.symm hT.1
theorem se_mt (pa : PlainAttrs T) (slot : PySem.Slot T name id) (hty : typeOf (.builtin id) = pure (.type "method_descriptor")) (hm : VM X id g) (ho : SR X W o mo) (ha : SAR X W (e :: es) ml)
    (hbase : attributeBase o name X.env (eval o X.env) = eval o X.env := by rfl)
    (hfew : ((backTo cpos (starEach (e :: es) X.env)).all (fun x => !x.1) && (backToKw cpos (keywordEach [] X.env)).all (fun x => x.1.isSome)
      && decide ((e :: es).length + ([] : List Keyword).length + (if ([] : List Keyword).isEmpty then 0 else 1) < 30)) = true := by rfl)
    (hline : (apos.endLine == cpos.line) = true := by rfl) (hs : starEach (e :: es) X.env = (false, eval e X.env) :: starEach es X.env := by rfl) (hplain : (backTo cpos (starEach es X.env)).any (·.1) = false := by rfl) :
    SE X W (.Call (.Attribute o name apos) (e :: es) [] cpos) (eMt T g mo ml) := PE.of (pe_bm pa slot hty hm ho ha hbase hfew hline hs hplain) fun σ H Q ⟨ρ, μ, F, G, st, a, h⟩ => by
  refine tG_at (k := fun x s => if T ≠ "" ∧ tyOfD (der s x) = T then (ml ρ s).bind fun ds s => Res.of (g (der s x) (ds.map (der s))) s else .bad) a h fun x H1 μ1 st1 d a1 f1 r1 h1 => ?_
  split at h1
  · rename_i hT
    refine ⟨ty_ok (r1.dr a1.s) hT, tG_at (k := fun ds s => Res.of (g (der s d) (ds.map (der s))) s) a1 h1 fun xs H2 μ2 st2 ds a2 f2 r2 h2 => ?_⟩
    obtain ⟨r, hr, hq⟩ := OkG.some h2
    exact ⟨μ2, F, st2, d, ds, r, a2.s, r1.fut a1.s f2, r2, hr, hq⟩
  · exact h1.elim
theorem se_mt0 (pa : PlainAttrs T) (slot : PySem.Slot T name id) (hty : typeOf (.builtin id) = pure (.type "method_descriptor")) (hm : VM X id g) (ho : SR X W o mo)
    (hbase : attributeBase o name X.env (eval o X.env) = eval o X.env := by rfl) (hline : (apos.endLine == cpos.line) = true := by rfl) : SE X W (.Call (.Attribute o name apos) [] [] cpos) (eMt T g mo eNil) := PE.of (pe_bm0 pa slot hty hm ho hbase hline) fun σ H Q ⟨ρ, μ, F, G, st, a, h⟩ => by
  refine tG_at (k := fun x s => if T ≠ "" ∧ tyOfD (der s x) = T then (eNil ρ s).bind fun ds s => Res.of (g (der s x) (ds.map (der s))) s else .bad) a h fun x H1 μ1 st1 d a1 f1 r1 h1 => ?_
  split at h1
  · rename_i hT
    obtain ⟨r, hr, hq⟩ := OkG.some h1
    exact ⟨ty_ok (r1.dr a1.s) hT, μ1, F, st1, d, [], r, a1.s, r1, rfl, hr, hq⟩
  · exact h1.elim
end
/-- sep.join(xs) -/
def strsOf : List D → Option (List Str)
  | [] => some []
  | .str i :: r => (strsOf r).map fun bs => i :: bs
  | _ => none
def gJoin (d : D) (ds : List D) : Option D := match d, ds with
  | .str a, [.lst xs] => (strsOf xs).bind fun ys => if (ys.map (·.length)).sum + ys.length * a.length ≤ line then some (.str (Txt.join a ys)) else none
  | _, _ => none
section
variable {X : Cx} {K : PySem.W.Frag} {H : Hp} {μ : Mu} {F : Addr → Prop} {st : Store}
theorem strs_rel : ∀ {ds : List D} {bs : List Str} {xs : List V}, strsOf ds = some bs → RVs K H μ F ds xs → xs = bs.map V.str
  | [], bs, xs, e, r => by
    cases e
    unfold RVs at r
    exact r
  | d :: ds, bs, xs, e, r => by
    unfold RVs at r
    obtain ⟨y, ys, e1, r1, r2⟩ := r
    cases d with
    | str b =>
      simp only [strsOf] at e
      obtain ⟨cs, e2, e3⟩ := Option.map_eq_some_iff.mp e
      subst e3
      unfold RV at r1
      rw [e1, r1, strs_rel e2 r2]
      rfl
    | _ => simp [strsOf] at e
theorem gJoin_ok : VM X "str.join" gJoin := by
  intro pins s σ H x xs v us Q I rx r h
  obtain ⟨μ, F, st, d, ds, rr, rs, rd, rds, hg, q⟩ := h
  generalize hds : ds.map (der st) = cs at hg
  generalize hd : der st d = c at hg
  unfold gJoin at hg
  split at hg
  · rename_i a xs'
    obtain ⟨ys, hy, hg⟩ := Option.bind_eq_some_iff.mp hg
    split at hg
    · rename_i hl
      cases hg
      have r0 := rd.dr rs
      rw [hd] at r0
      obtain ⟨d1, x1, e1, e2, r1, e3⟩ := rds.one rs hds
      have r2 := r1.dr rs
      rw [e3] at r2
      obtain ⟨p, zs, e4, q1, q2⟩ := r2
      rw [e4] at e2
      exact mt_join pins s σ H x xs v us Q I rx r ⟨a, p, ys, r0, e2, .inl (.inl (.inl (by rw [← strs_rel hy q2]; exact q1))), hl, q _ H μ .refl rs (RV_str _)⟩
    · cases hg
  · cases hg
end
end Dn

/-! Dn: what the head checks of the classes. -/
namespace Dn
open PySem PySem.Spec L2
open PyProof.Rows hiding St RelV

/-- the i-th statement of a class's body -/
def clsAt (s : Stmt) (i : Nat) : Stmt := match s with
  | .ClassDef _ _ _ b _ _ _ _ _ _ _ => b.getD i (.Pass ⟨0, 0, 0, 0⟩)
  | s => s
abbrev Chk := PySem.W.Frag → Bool
def allC (l : List Chk) (K : PySem.W.Frag) : Bool := l.all fun f => f K
theorem allC_at {l : List Chk} {K : PySem.W.Frag} (h : allC l K = true) (i : Nat) {f : Chk} (e : l[i]? = some f := by rfl) : f K = true := List.all_eq_true.mp h f (List.mem_of_getElem? e)
def b2 (a b : Bool) : Bool := a && b
theorem b2_ok {a b : Bool} (h : b2 a b = true) : a = true ∧ b = true := Bool.and_eq_true_iff.mp h
/-- a class of instances -/
def insB (C : String) (K : PySem.W.Frag) : Bool := b2 ((He.Fa.cls C).ok K) (b2 (decide (PySem.W.findIn K (.ref (He.ga K C)) "__class__" = some (some (.builtin "object.__class__")))) (b2 (decide (PySem.W.specialIn K (.builtin "object.__class__") "__get__" = some (some (.builtin "getset_descriptor.__get__"))))
  (b2 (decide (PySem.W.takesIn K (.builtin "object.__class__") = some true)) (decide (PySem.W.mroIn K (He.ga K C) (.type "object") = some true)))))
theorem insB_ok {C : String} {K : PySem.W.Frag} (h : insB C K = true) : InsF K C := by
  obtain ⟨h1, h⟩ := b2_ok h
  obtain ⟨h2, h⟩ := b2_ok h
  obtain ⟨h3, h⟩ := b2_ok h
  obtain ⟨h4, h5⟩ := b2_ok h
  exact ⟨He.cls_ok h1, of_decide_eq_true h2, of_decide_eq_true h3, of_decide_eq_true h4, of_decide_eq_true h5⟩
/-- a field read off instances of the classes L -/
def fldB (L : List String) (f : Str) (K : PySem.W.Frag) : Bool := L.all fun C => b2 ((He.Fa.cls C).ok K) ((He.Fa.noat C f).ok K)
theorem fldB_ok {L : List String} {f : Str} {K : PySem.W.Frag} (h : fldB L f K = true) : ClsF K L f := fun C hC => by
  obtain ⟨h1, h2⟩ := b2_ok (List.all_eq_true.mp h C hC)
  exact ⟨He.cls_ok h1, He.noat_ok h2⟩
/-- isinstance's table for a class -/
def isiB (cv : PySem.W.Frag → Value) (L : KTab) (K : PySem.W.Frag) : Bool := L.all fun kb => b2 (decide (PySem.W.kitOne K (tyV' K kb.1) (cv K) = some kb.2)) (!kb.1.1 || insB kb.1.2 K)
theorem isiB_ok {cv : PySem.W.Frag → Value} {L : KTab} {K : PySem.W.Frag} (h : isiB cv L K = true) : IsiF K (cv K) L := fun k b hk => by
  obtain ⟨h1, h2⟩ := b2_ok (List.all_eq_true.mp h (k, b) hk)
  refine ⟨of_decide_eq_true h1, fun e => insB_ok ?_⟩
  have h2 : (!k.1 || insB k.2 K) = true := h2
  rw [e] at h2
  exact h2
/-- .. of caught exceptions -/
def exB (C : String) (K : PySem.W.Frag) : Bool := b2 (decide (PySem.W.findIn K (.ref (He.ga K C)) "__getattribute__" = some (some (.builtin "BaseException.__getattribute__")))) (b2 (decide (PySem.W.findIn K (.ref (He.ga K C)) "__getattr__" = some none)) (b2 (decide (PySem.W.subIn K (.ref (He.ga K C)) (.type "BaseException") = some true))
  (b2 (PySem.W.hasDictIn K (He.ga K C)) (b2 (decide (PySem.W.findIn K (.ref (He.ga K C)) "__class__" = some (some (.builtin "object.__class__")))) (b2 (decide (PySem.W.specialIn K (.builtin "object.__class__") "__get__" = some (some (.builtin "getset_descriptor.__get__"))))
    (b2 (decide (PySem.W.takesIn K (.builtin "object.__class__") = some true)) (decide (PySem.W.mroIn K (He.ga K C) (.type "object") = some true))))))))
theorem exB_ok {C : String} {K : PySem.W.Frag} (h : exB C K = true) : L2.ExcC K (He.ga K C) := by
  obtain ⟨h1, h⟩ := b2_ok h
  obtain ⟨h2, h⟩ := b2_ok h
  obtain ⟨h3, h⟩ := b2_ok h
  obtain ⟨h4, h⟩ := b2_ok h
  obtain ⟨h5, h⟩ := b2_ok h
  obtain ⟨h6, h⟩ := b2_ok h
  obtain ⟨h7, h8⟩ := b2_ok h
  exact ⟨of_decide_eq_true h1, of_decide_eq_true h2, of_decide_eq_true h3, h4, of_decide_eq_true h5, of_decide_eq_true h6, of_decide_eq_true h7, of_decide_eq_true h8⟩
def xisB (cv : PySem.W.Frag → Value) (L : KTab) (K : PySem.W.Frag) : Bool := L.all fun kb => b2 (decide (PySem.W.kitOne K (.ref (He.ga K kb.1.2)) (cv K) = some kb.2)) (exB kb.1.2 K)
theorem xisB_ok {cv : PySem.W.Frag → Value} {L : KTab} {K : PySem.W.Frag} (h : xisB cv L K = true) : XisF K (cv K) L := fun C b hk => by
  obtain ⟨h1, h2⟩ := b2_ok (List.all_eq_true.mp h ((true, C), b) hk)
  exact ⟨of_decide_eq_true h1, exB_ok h2⟩
def xfdB (L : List String) (f : Str) (K : PySem.W.Frag) : Bool := L.all fun C => b2 (xfB K (He.ga K C)) ((He.Fa.noat C f).ok K)
theorem xfdB_ok {L : List String} {f : Str} {K : PySem.W.Frag} (h : xfdB L f K = true) : XfF K L f := fun C hC => by
  obtain ⟨h1, h2⟩ := b2_ok (List.all_eq_true.mp h C hC)
  exact ⟨xfB_ok h1, He.noat_ok h2⟩
/-- an exception class over ValueError, with its own __init__ -/
def oexB (C : String) (K : PySem.W.Frag) : Bool := b2 (match K.lookup (He.ga K C) with
    | some ⟨.type "type", _, .cls cd, sl⟩ => (match cd.mro, sl.toList with
      | .ref C' :: bm, [_, _, _, _, some (.builtin n), _] => b2 (decide (C' = He.ga K C)) (b2 (decide (n = "ValueError.__new__")) (b2 (!cd.hasDel) (b2 cd.hasDict (PySem.HandSPX.refsVE bm))))
      | _, _ => false)
    | _ => false) (b2 (decide (PySem.W.findIn K (.ref (He.ga K C)) "__setattr__" = some (some (.builtin "object.__setattr__")))) (b2 (decide (PySem.W.subIn K (.ref (He.ga K C)) (.type "BaseException") = some true)) (b2 (decide (PySem.W.typeIn K (.ref (He.ga K C)) = some (.type "type"))) (PySem.W.keepIn K (.ref (He.ga K C))))))
theorem oexB_ok {C : String} {K : PySem.W.Frag} (h : oexB C K = true) : OexC K (He.ga K C) := by
  obtain ⟨h1, h⟩ := b2_ok h
  obtain ⟨h2, h⟩ := b2_ok h
  obtain ⟨h3, h⟩ := b2_ok h
  obtain ⟨h4, h5⟩ := b2_ok h
  refine ⟨?_, of_decide_eq_true h2, of_decide_eq_true h3, of_decide_eq_true h4, h5⟩
  split at h1
  · rename_i dd cd sl ho
    split at h1
    · rename_i C' bm k0 k1 k2 k3 n k5 hm hs
      obtain ⟨g1, h1⟩ := b2_ok h1
      obtain ⟨g2, h1⟩ := b2_ok h1
      obtain ⟨g3, h1⟩ := b2_ok h1
      obtain ⟨g4, g5⟩ := b2_ok h1
      have g1 := of_decide_eq_true g1
      have g2 := of_decide_eq_true g2
      subst g1 g2
      obtain ⟨nm, bs, mro, ns, qn, hd, sn, sub, ab, col, del⟩ := cd
      dsimp only at hm g3 g4
      subst hm g4
      have g3 : del = false := by simpa using g3
      subst g3
      have hsl : sl = #[k0, k1, k2, k3, some (.builtin "ValueError.__new__"), k5] := by
        obtain ⟨l⟩ := sl
        have hs : l = [k0, k1, k2, k3, some (.builtin "ValueError.__new__"), k5] := hs
        rw [hs]
      subst hsl
      exact ⟨nm, qn, ns, bs, bm, sn, sub, ab, col, dd, k0, k1, k2, k3, k5, ho, g5⟩
    · cases h1
  · cases h1
/-- its __init__ -/
def oiB (C : String) (fs : List Str) (K : PySem.W.Frag) : Bool := b2 (decide (PySem.W.findIn K (.ref (He.ga K C)) "__init__" = some (some (.ref (He.ma K (He.ga K C) "__init__"))))) (b2 (decide (PySem.W.typeIn K (.ref (He.ma K (He.ga K C) "__init__")) = some (.type "function"))) (fs.all fun f => (He.Fa.noat C f).ok K))
theorem oiB_ok {C : String} {fs : List Str} {K : PySem.W.Frag} (h : oiB C fs K = true) : PySem.W.findIn K (.ref (He.ga K C)) "__init__" = some (some (.ref (He.ma K (He.ga K C) "__init__"))) ∧ PySem.W.typeIn K (.ref (He.ma K (He.ga K C) "__init__")) = some (.type "function") ∧ ∀ f ∈ fs, PySem.W.findIn K (.ref (He.ga K C)) f = some none := by
  obtain ⟨h1, h⟩ := b2_ok h
  obtain ⟨h2, h3⟩ := b2_ok h
  exact ⟨of_decide_eq_true h1, of_decide_eq_true h2, fun f hf => He.noat_ok (List.all_eq_true.mp h3 f hf)⟩
/-- which classes an except clause takes -/
def exmB (D : String) (L : List (String × Bool)) (K : PySem.W.Frag) : Bool := L.all fun cb => decide (PySem.W.exmOne K (.ref (He.ga K cb.1)) (.ref (He.ga K D)) = some cb.2)
theorem exmB_ok {D : String} {L : List (String × Bool)} {K : PySem.W.Frag} (h : exmB D L K = true) : ∀ C b, (C, b) ∈ L → PySem.W.exmOne K (.ref (He.ga K C)) (.ref (He.ga K D)) = some b := fun C b hk => of_decide_eq_true (List.all_eq_true.mp h (C, b) hk)

/-! ### classes and defs by facts -/
/-- a def that stands in the written part, with its keyword-only defaults -/
abbrev FuD (K : PySem.W.Frag) (d : He.DefD) (fd : FuncData) : Prop := FunD K d.name d.qual d.params d.body d.scope (d.dvs K) (d.kws K) (He.fAd K d.at_) fd
/-- a method keeps its promise -/
def MOk (P : Program) (w : World) (K : PySem.W.Frag) (mg : Str → Option Value) (base : Heap) (d : He.DefD) (k : Nat) (ps : List Str) (m : M) : Prop := ∃ fd, FuD K d fd ∧ FnOk P w K mg base (L2.CX P w) k (He.fAd K d.at_) fd ps (spOf K ps.length m)
/-- an __init__ keeps its promise -/
def IOk (P : Program) (w : World) (K : PySem.W.Frag) (mg : Str → Option Value) (base : Heap) (C : String) (d : He.DefD) (k : Nat) (ps : List Str) (m : M) : Prop := ∃ fd, FuD K d fd ∧ FnOk P w K mg base (L2.CX P w) k (He.ma K (He.ga K C) "__init__") fd ("self" :: ps) (spInit K C ps.length m)
section
variable {X : Cx} {W : WX} {k j np : Nat} {ps ks : List Str} {m : M} {perm : List Nat} {dfl : List D} {d : He.DefD} {C : String}
theorem MOk.calls (F : MOk X.prog X.w X.K X.mg X.base d k ps m) (hr : Room j X.A) (hj : k ≤ j) (tk : Takes X W) (np : Nat) (ks : List Str) (perm : List Nat) (dfl : List D) (hb : ∀ fd, FuD X.K d fd → KB X.K fd ps np ks perm dfl) (hp : perm.length = ps.length := by rfl) :
    CallsD X W (.ref (He.fAd X.K d.at_)) ks (argsM np ks.length perm dfl m) := by
  obtain ⟨fd, F1, F2⟩ := F
  exact fn_calls F2 (hr.mono hj) tk (hb fd F1) hp
theorem IOk.calls (F : IOk X.prog X.w X.K X.mg X.base C d k ps m) (M' : Mk X.K (He.ga X.K C) (He.ma X.K (He.ga X.K C) "__init__")) (hr : Room j X.A) (hj : k + 1 ≤ j) (tk : Takes X W) (np : Nat) (ks : List Str) (perm : List Nat) (dfl : List D)
    (hb : ∀ fd, FuD X.K d fd → KB X.K fd ("self" :: ps) (np + 1) ks (0 :: perm.map (· + 1)) dfl) (hp : perm.length = ps.length := by rfl) : CallsN X W (.ref (He.ga X.K C)) ks (argsM np ks.length perm dfl m) := by
  obtain ⟨fd, F1, F2⟩ := F
  exact mk_calls M' F2 (hr.mono hj) tk (hb fd F1) hp
end
end Dn

/-! Dn: a, b, c = x, y, z; tables of methods. -/
namespace Dn
open PySem PySem.Spec L2
open PyProof.Rows hiding St RelV
section
variable {X : Cx} {W : WX} {m : Str} {ks : List Str} {L : Disp} {C : String} {f : Addr} {g : M}
theorem methF_nil : MethF X W m ks [] := fun C g h => by cases h
theorem methF_cons (c : Cls X.K (He.ga X.K C)) (me : Meth X.K (He.ga X.K C) m f) (h : CallsD X W (.ref f) ks g) (r : MethF X W m ks L) : MethF X W m ks ((C, g) :: L) := fun C' g' h' => by
  rcases List.mem_cons.mp h' with e | h'
  · cases e
    exact ⟨c, f, me, h⟩
  · exact r C' g' h'
theorem MOk.keep {P : Program} {w : World} {K : PySem.W.Frag} {mg : Str → Option Value} {base : Heap} {d : He.DefD} {k : Nat} {ps : List Str} {m : M} (F : MOk P w K mg base d k ps m) : PySem.W.keepIn K (.ref (He.fAd K d.at_)) = true := let ⟨_, F1, _⟩ := F; F1.kp
end
section
variable {X : Cx} {W : WX} {k np : Nat} {ps ks : List Str} {m : M} {perm : List Nat} {dfl : List D} {d : He.DefD} {C : String} {P : Program} {w : World} {K : PySem.W.Frag} {mg : Str → Option Value} {base : Heap}
theorem MOk.callsX (F : MOk P w K mg base d k ps m) (j : Nat) (hj : k ≤ j) (np : Nat) (ks : List Str) (perm : List Nat) (dfl : List D) (hb : ∀ fd, FuD K d fd → KB K fd ps np ks perm dfl) (hp : perm.length = ps.length)
    (tk : Takes X W) (hr : Room j X.A) (hP : X.prog = P) (hw : X.w = w) (hK : X.K = K) (hmg : X.mg = mg) (hbs : X.base = base) : CallsD X W (.ref (He.fAd K d.at_)) ks (argsM np ks.length perm dfl m) := by
  subst hP hw hK hmg hbs
  exact F.calls hr hj tk np ks perm dfl hb hp
theorem IOk.callsX (F : IOk P w K mg base C d k ps m) (M' : Mk K (He.ga K C) (He.ma K (He.ga K C) "__init__")) (j : Nat) (hj : k + 1 ≤ j) (np : Nat) (ks : List Str) (perm : List Nat) (dfl : List D) (hb : ∀ fd, FuD K d fd → KB K fd ("self" :: ps) (np + 1) ks (0 :: perm.map (· + 1)) dfl) (hp : perm.length = ps.length)
    (tk : Takes X W) (hr : Room j X.A) (hP : X.prog = P) (hw : X.w = w) (hK : X.K = K) (hmg : X.mg = mg) (hbs : X.base = base) : CallsN X W (.ref (He.ga K C)) ks (argsM np ks.length perm dfl m) := by
  subst hP hw hK hmg hbs
  exact F.calls M' hr hj tk np ks perm dfl hb hp
end
/-! ### a, b, c = x, y, z -/
def kPar3 (i j l : Nat) (ρ : Loc) (ds : List D) (s : Store) : SRes := match ds with
  | [d, e, f] => .nx (((ρ.set i (.pu d)).set j (.pu e)).set l (.pu f)) s
  | _ => .bad
def sPar3 (i j l : Nat) (es : EL) : S := fun ρ s => (es ρ s).to ρ (kPar3 i j l ρ)
section
variable {X : Cx} {W : WX} {pos : Pos}
theorem RVs3 {K : PySem.W.Frag} {H : Hp} {μ : Mu} {F : Addr → Prop} {d e f : D} {xs : List V} (r : RVs K H μ F [d, e, f] xs) : ∃ u v w, xs = [u, v, w] ∧ RV K H μ F d u ∧ RV K H μ F e v ∧ RV K H μ F f w := by
  simp only [RVs] at r
  obtain ⟨u, ys, e1, r1, v, zs, e2, r2, w, zs', e3, r3, e4⟩ := r
  subst e4 e3 e2
  exact ⟨u, v, w, e1, r1, r2, r3⟩
theorem ss_par3 {i j l : Nat} {x y z : Str} {a b c : Expr} {ml : EL} {px py pz pt : Pos} {kt k2 pt2} (hc : X.calm = true) (hN : X.N.Nodup) (ha : SA X W [a, b, c] ml) (hi : X.N[i]? = some x := by rfl) (hj : X.N[j]? = some y := by rfl) (hl : X.N[l]? = some z := by rfl) (hij : i ≠ j := by decide) (hil : i ≠ l := by decide) (hjl : j ≠ l := by decide)
    (hx : X.env.scope.names.lookup x = some .local := by rfl) (hy : X.env.scope.names.lookup y = some .local := by rfl) (hz : X.env.scope.names.lookup z = some .local := by rfl)
    (hw : swappedStores [.Tuple [.Name x px, .Name y py, .Name z pz] kt pt] (.Tuple [a, b, c] k2 pt2) X.env = pure (some [x, y, z]) := by rfl)
    (hs : swapsWithSole [.Tuple [.Name x px, .Name y py, .Name z pz] kt pt] (.Tuple [a, b, c] k2 pt2) pos.line X.env = pure false := by rfl) :
    SS X W (.Assign [.Tuple [.Name x px, .Name y py, .Name z pz] kt pt] (.Tuple [a, b, c] k2 pt2) pos) (sPar3 i j l ml) :=
  PS.of (ps_par3 hc hN hi hj hl hij hil hjl hx hy hz ha hw hs) fun D σ H ⟨ρ, μ, F, G, st, a, h⟩ =>
    tS_e (k := kPar3 i j l ρ) a h fun xs H1 μ1 st1 ds a1 f r h1 => by
      unfold kPar3 at h1
      split at h1
      · obtain ⟨u, v, w, e1, r1, r2, r3⟩ := RVs3 r
        exact ⟨u, v, w, e1, h1 _ H1 μ1 F G (a1.ev .refl) (((a1.setP r1).setP r2).setP r3)⟩
      · exact h1.elim
end
end Dn

/-! Dn: what a reading answers, step by step (plain Lean, no program in sight). -/
namespace Dn
open PySem PySem.Spec L2
open PyProof.Rows hiding St RelV

/-! ### results -/
/-- r is a value of which P holds -/
def Wp {α : Type} (r : Res α) (P : α → Store → Prop) : Prop := match r with
  | .ok a s => P a s
  | _ => False
/-- .. or an exception of which X holds -/
def Wx {α : Type} (r : Res α) (P : α → Store → Prop) (X : String → List (Str × D) → Store → Prop) : Prop := match r with
  | .ok a s => P a s
  | .ex C fs s => X C fs s
  | .bad => False
/-- the end of a statement: on, or a returned value -/
def Ws (r : SRes) (N : Loc → Store → Prop) (R : D → Store → Prop) : Prop := match r with
  | .nx ρ s => N ρ s
  | .rt d s => R d s
  | _ => False
section
variable {α β : Type} {r : Res α} {P P' : α → Store → Prop} {k : α → Store → Res β} {Q : β → Store → Prop} {N N' : Loc → Store → Prop} {R R' : D → Store → Prop} {ρ : Loc} {s : Store} {a : α}
theorem wp_ok : Wp (.ok a s) P ↔ P a s := Iff.rfl
theorem wp_bind : Wp (r.bind k) Q ↔ Wp r fun a s => Wp (k a s) Q := by cases r <;> exact Iff.rfl
theorem wp_mono (h : Wp r P) (i : ∀ a s, P a s → P' a s) : Wp r P' := by
  cases r with
  | ok a s => exact i a s h
  | ex C fs s => exact h
  | bad => exact h
theorem wp_to {kk : α → Store → SRes} (h : Wp r fun a s => Ws (kk a s) N R) : Ws (r.to ρ kk) N R := by
  cases r with
  | ok a s => exact h
  | ex C fs s => exact h.elim
  | bad => exact h.elim
theorem ws_mono {r : SRes} (h : Ws r N R) (i : ∀ ρ s, N ρ s → N' ρ s) (j : ∀ d s, R d s → R' d s) : Ws r N' R' := by
  cases r with
  | nx ρ s => exact i ρ s h
  | rt d s => exact j d s h
  | _ => exact h
theorem ws_seq {m k : S} (h : Ws (m ρ s) (fun ρ s => Ws (k ρ s) N R) R) : Ws (bCons m k ρ s) N R := by
  unfold bCons
  cases e : m ρ s with
  | nx ρ s => rw [e] at h; exact h
  | rt d s => rw [e] at h; exact h
  | bk ρ s => rw [e] at h; exact h
  | ct ρ s => rw [e] at h; exact h
  | ex C fs ρ s => rw [e] at h; exact h
  | bad => rw [e] at h; exact h
theorem ws_set {i : Nat} {e : E} (h : Wp (e ρ s) fun d s => N (ρ.set i (.pu d)) s) : Ws (sSet i e ρ s) N R := wp_to h
theorem ws_ret {e : E} (h : Wp (e ρ s) R) : Ws (sRet e ρ s) N R := wp_to h
theorem ws_if {c : ET} {m k : S} (h : Wp (c ρ s) fun b s => if b = true then Ws (m ρ s) N R else Ws (k ρ s) N R) : Ws (sIf c m k ρ s) N R := wp_to (wp_mono h fun b s q => by
  cases b with
  | true => simpa using q
  | false => simpa using q)
theorem ws_asg {t : Tgt} {e : E} (h : Wp (e ρ s) fun d s => ∃ ρ', setT t d ρ = some ρ' ∧ N ρ' s) : Ws (sAsg t e ρ s) N R := wp_to (wp_mono h fun d s ⟨ρ', e, q⟩ => by
  rw [e]; exact q)
theorem ws_par2 {i j : Nat} {es : EL} (h : Wp (es ρ s) fun ds s => ∃ d e, ds = [d, e] ∧ N ((ρ.set i (.pu d)).set j (.pu e)) s) : Ws (sPar2 i j es ρ s) N R := wp_to (wp_mono h fun ds s ⟨d, e, q, n⟩ => by
  subst q; exact n)
/-- a loop by an invariant over what is left -/
theorem ws_for {t : Tgt} {it : EI} {body : S} (h : Wp (it ρ s) fun ds s => ∃ I : List D → Loc → Store → Prop, I ds ρ s ∧ (∀ d ds ρ s, I (d :: ds) ρ s → ∃ ρ', setT t d ρ = some ρ' ∧ Ws (body ρ' s) (I ds) R) ∧ ∀ ρ s, I [] ρ s → N ρ s) : Ws (sFor t it body ρ s) N R := by
  refine wp_to (wp_mono h fun ds s ⟨I, h0, h1, h2⟩ => ?_)
  clear h
  induction ds generalizing ρ s with
  | nil => exact h2 ρ s h0
  | cons d ds ih =>
    obtain ⟨ρ', e, q⟩ := h1 d ds ρ s h0
    simp only [forM, e]
    cases hb : body ρ' s with
    | nx ρ s => rw [hb] at q; exact ih _ ⟨I, q, h1, h2⟩ q
    | rt d s => rw [hb] at q; exact q
    | bk ρ s => rw [hb] at q; exact q.elim
    | ct ρ s => rw [hb] at q; exact q.elim
    | ex C fs ρ s => rw [hb] at q; exact q.elim
    | bad => rw [hb] at q; exact q.elim
/-- a comprehension by an invariant -/
theorem wp_lcM {t : Tgt} {c : ET} {e : E} {ρ0 : Loc} (I : List D → List D → Store → Prop) (h1 : ∀ d ds acc s, I (d :: ds) acc s → ∃ ρ, setT t d ρ0 = some ρ ∧ Wp (c ρ s) fun b s => if b = true then Wp (e ρ s) fun x s => I ds (acc ++ [x]) s else I ds acc s) :
    ∀ (ds acc : List D) (s : Store), I ds acc s → ∃ xs s', lcM t c e ρ0 ds s = some (xs, s') ∧ I [] (acc ++ xs) s'
  | [], acc, s, h => ⟨[], s, rfl, by rw [List.append_nil]; exact h⟩
  | d :: ds, acc, s, h => by
    obtain ⟨ρ, e1, q⟩ := h1 d ds acc s h
    simp only [lcM, e1]
    cases hc : c ρ s with
    | bad => rw [hc] at q; exact q.elim
    | ex C fs s => rw [hc] at q; exact q.elim
    | ok b s1 =>
      rw [hc] at q
      cases b with
      | false =>
        have q : I ds acc s1 := by simpa [Wp] using q
        exact wp_lcM I h1 ds acc s1 q
      | true =>
        have q : Wp (e ρ s1) fun x s => I ds (acc ++ [x]) s := by simpa [Wp] using q
        cases he : e ρ s1 with
        | bad => rw [he] at q; exact q.elim
        | ex C fs s => rw [he] at q; exact q.elim
        | ok x s2 =>
          rw [he] at q
          obtain ⟨xs, s', e2, q2⟩ := wp_lcM I h1 ds (acc ++ [x]) s2 q
          refine ⟨x :: xs, s', ?_, by rw [List.append_assoc] at q2; exact q2⟩
          simp only [he, e2]
theorem wp_lc {t : Tgt} {it : EI} {c : ET} {e : E} {vs : List Nat} {P : D → Store → Prop} (h : Wp (it ρ s) fun ds s => ds.length ≤ line ∧ ∃ I : List D → List D → Store → Prop, I ds [] s ∧
    (∀ d ds acc s, I (d :: ds) acc s → ∃ ρ', setT t d (wipeL ρ vs) = some ρ' ∧ Wp (c ρ' s) fun b s => if b = true then Wp (e ρ' s) fun x s => I ds (acc ++ [x]) s else I ds acc s) ∧ ∀ xs s, I [] xs s → P (.lst xs) s) : Wp (eLc t it c e vs ρ s) P := by
  unfold eLc
  rw [wp_bind]
  refine wp_mono h fun ds s ⟨hl, I, h0, h1, h2⟩ => ?_
  obtain ⟨xs, s', e1, q⟩ := wp_lcM I h1 ds [] s h0
  unfold lcK
  rw [if_pos hl, e1]
  exact h2 xs s' q
end

/-! ### drawn numbers: the second way -/
def m_src1 : S := bCons (sSet 2 (eIf (eIs (eCmp .Lt (eRd 1) (eBt gLen (eCons (eRd 0) (eNil))))) (eIx (eRd 0) (eRd 1)) (eC (.int 0)))) <| bCons (sSet 3 (eIf (eIs (eCmp .GtE (eBt gAbs (eCons (eRd 2) (eNil))) (eBin .Pow (eC (.int 10)) (eC (.int 18))))) (eBt gAbs (eCons (eRd 2) (eNil))) (eC (.int 0)))) <|
  sRet (eNew (eLst (eCons (eLoc 3) (eCons (eBin .Add (eBin .Add (eBin .Mod (eBt gInt (eCons (eRd 2) (eNil))) (eC (.int 2305843009213693951))) (eBin .Mult (eC (.int 1299709)) (eRd 1))) (eC (.int 15485863))) (eCons (eC (.int 0)) (eNil))))))
def M_src1 : M := fnM 4 m_src1
def m_drw1 : S := bCons (sIf (eIs (eCmp .Gt (eIx (eRd 0) (eC (.int 0))) (eC (.int 0)))) (bCons (sSet 2 (eBin .Mod (eBt gInt (eCons (eIx (eRd 0) (eC (.int 0))) (eNil))) (eRd 1))) <| bCons (sPut (eBin .FloorDiv (eIx (eRd 0) (eC (.int 0))) (eRd 1)) (eLoc 0) (eC (.int 0))) <| sRet (eLoc 2)) (bNil)) <|
  bCons (sPut (eBin .Add (eIx (eRd 0) (eC (.int 2))) (eC (.int 1))) (eLoc 0) (eC (.int 2))) <|
  bCons (sPut (eBin .Mod (eBt gInt (eCons (eBin .Add (eBin .Add (eBin .Mult (eIx (eRd 0) (eC (.int 1))) (eC (.int 69621))) (eBin .Mult (eBin .Mult (eC (.int 32452843)) (eIx (eRd 0) (eC (.int 2)))) (eIx (eRd 0) (eC (.int 2))))) (eC (.int 40009))) (eNil))) (eC (.int 2305843009213693951))) (eLoc 0) (eC (.int 1))) <|
  sRet (eBin .Mod (eBt gInt (eCons (eBin .FloorDiv (eBin .Mod (eBt gInt (eCons (eBin .Add (eBin .Pow (eBin .FloorDiv (eIx (eRd 0) (eC (.int 1))) (eC (.int 256))) (eC (.int 2))) (eBin .Mult (eC (.int 17)) (eIx (eRd 0) (eC (.int 2))))) (eNil))) (eC (.int 2305843009213693921))) (eC (.int 4096))) (eNil))) (eRd 1))
def M_drw1 : M := fnM 3 m_drw1
/-- at n a source that was asked at most k times -/
def SrcAt (s : Store) (n k : Nat) : Prop := ∃ g m c : Int, 0 ≤ g ∧ 0 ≤ m ∧ m < 2305843009400000000 ∧ 0 ≤ c ∧ c ≤ k ∧ s[n]? = some (srcD g m c)
theorem SrcAt.mono {s : Store} {n k j : Nat} (h : SrcAt s n k) (i : k ≤ j) : SrcAt s n j := by
  obtain ⟨g, m, c, h1, h2, h3, h4, h5, h6⟩ := h
  exact ⟨g, m, c, h1, h2, h3, h4, by omega, h6⟩
theorem wp_src1 (ns : List Int) (at_ : Int) (h0 : 0 ≤ at_) (h1 : at_ < 60) (s : Store) {P : D → Store → Prop} (h : ∀ s', s'.length = s.length + 1 → SrcAt s' s.length 0 → P (.ref s.length) s') : Wp (M_src1 [.scr ns, .int at_] s) P := by
  obtain ⟨cell, hc⟩ : ∃ cell : Int, eIf (eIs (eCmp .Lt (eRd 1) (eBt gLen (eCons (eRd 0) (eNil))))) (eIx (eRd 0) (eRd 1)) (eC (.int 0)) [.pu (.scr ns), .pu (.int at_), .no, .no] s = .ok (.int cell) s := by
    by_cases h : at_ < ns.length
    · refine ⟨ns[at_.toNat], ?_⟩
      have e : item (.scr ns) (.int at_) = some (.int ns[at_.toNat]) := by
        show ((ixN ns.length at_).bind fun j => ns[j]?).map D.int = _
        rw [ixN_at h0 h]
        simp [show at_.toNat < ns.length by omega]
      simp [eIf, eIs, eCmp, eRd, eBt, eCons, eNil, gLen, cmpD, cmpop, eIx, e, h]
    · refine ⟨0, ?_⟩
      simp [eIf, eIs, eCmp, eRd, eBt, eCons, eNil, gLen, cmpD, cmpop, eIx, h, eC]
  obtain ⟨g, g0, hg⟩ : ∃ g : Int, 0 ≤ g ∧ eIf (eIs (eCmp .GtE (eBt gAbs (eCons (eRd 2) (eNil))) (eBin .Pow (eC (.int 10)) (eC (.int 18))))) (eBt gAbs (eCons (eRd 2) (eNil))) (eC (.int 0)) [.pu (.scr ns), .pu (.int at_), .pu (.int cell), .no] s = .ok (.int g) s := by
    have e : binop .Pow (.int 10) (.int 18) = some (.int 1000000000000000000) := pow_ok 18 (by decide) (by decide)
    by_cases h : (1000000000000000000 : Int) ≤ if cell < 0 then -cell else cell
    · refine ⟨if cell < 0 then -cell else cell, by split <;> omega, ?_⟩
      simp [eIf, eIs, eCmp, eRd, eBt, eCons, eNil, gAbs, cmpD, cmpop, eBin, eC, e]
      intro _; omega
    · refine ⟨0, by omega, ?_⟩
      simp [eIf, eIs, eCmp, eRd, eBt, eCons, eNil, gAbs, cmpD, cmpop, eBin, eC, e]
      intro _; omega
  have hm := Int.emod_nonneg cell (b := 2305843009213693951) (by decide)
  have hm2 := Int.emod_lt_of_pos cell (b := 2305843009213693951) (by decide)
  have e1 : binop .Mult (.int 1299709) (.int at_) = some (.int (1299709 * at_)) := mul_ok (by decide) (by omega)
  have e2 : binop .Mod (.int cell) (.int 2305843009213693951) = some (.int (cell % 2305843009213693951)) := mod_ok (by decide)
  have key : M_src1 [.scr ns, .int at_] s = .ok (.ref s.length) (s ++ [srcD g (cell % 2305843009213693951 + 1299709 * at_ + 15485863) 0]) := by
    show (m_src1 [.pu (.scr ns), .pu (.int at_), .no, .no] s).fin = _
    unfold m_src1
    refine (congrArg SRes.fin (seq_nx (ρ1 := [.pu (.scr ns), .pu (.int at_), .pu (.int cell), .no]) (set_ok hc))).trans ?_
    refine (congrArg SRes.fin (seq_nx (ρ1 := [.pu (.scr ns), .pu (.int at_), .pu (.int cell), .pu (.int g)]) (set_ok hg))).trans ?_
    simp [sRet, eNew, eLst, eCons, eNil, eLoc, eC, eBin, eBt, gInt, eRd, e1, e2, SRes.fin, line, srcD]
    simp [binop]
  rw [key]
  refine h _ (by simp) ⟨g, cell % 2305843009213693951 + 1299709 * at_ + 15485863, 0, g0, by omega, by omega, by omega, by omega, ?_⟩
  rw [List.getElem?_append_right (Nat.le_refl _), Nat.sub_self]
  rfl
theorem wp_drw1 {s : Store} {n k : Nat} (S : SrcAt s n k) (hk : k < 100000000) {many : Int} (k0 : 0 < many) (k1 : many < 1000000000) {P : D → Store → Prop} (h : ∀ (d : Int) s', 0 ≤ d → d < many → s'.length = s.length → SrcAt s' n (k + 1) → P (.int d) s') : Wp (M_drw1 [.ref n, .int many] s) P := by
  obtain ⟨g, m, c, S0, S1, S2, S3, S4, hs⟩ := S
  have hn : n < s.length := (List.getElem?_eq_some_iff.mp hs).1
  have i0 : ∀ (s : Store) (g m c : Int), s[n]? = some (srcD g m c) → item (der s (.ref n)) (.int 0) = some (.int g) := fun s g m c h => by
    show item (hid n ((s[n]?).getD (.ref n))) (.int 0) = _
    rw [h]; rfl
  have i1 : ∀ (s : Store) (g m c : Int), s[n]? = some (srcD g m c) → item (der s (.ref n)) (.int 1) = some (.int m) := fun s g m c h => by
    show item (hid n ((s[n]?).getD (.ref n))) (.int 1) = _
    rw [h]; rfl
  have i2 : ∀ (s : Store) (g m c : Int), s[n]? = some (srcD g m c) → item (der s (.ref n)) (.int 2) = some (.int c) := fun s g m c h => by
    show item (hid n ((s[n]?).getD (.ref n))) (.int 2) = _
    rw [h]; rfl
  by_cases hg : 0 < g
  · have e1 : binop .Mod (.int g) (.int many) = some (.int (g % many)) := mod_ok k0
    have e2 : binop .FloorDiv (.int g) (.int many) = some (.int (g / many)) := fdiv_ok k0 (by omega)
    have key : M_drw1 [.ref n, .int many] s = .ok (.int (g % many)) (s.set n (srcD (g / many) m c)) := by
      have hd := hs
      unfold srcD at hd
      unfold M_drw1
      rw [fnM_eq]
      unfold m_drw1
      simp [bCons, sIf, eIs, eCmp, eIx, eRd, eC, cmpD, cmpop, hd, srcD, item, atI, ixN, hg, sSet, eBin, eBt, eCons, eNil, gInt, e1, e2, sPut, eLoc, putIx, sRet, SRes.fin]
    rw [key]
    exact h _ _ (Int.emod_nonneg _ (by omega)) (Int.emod_lt_of_pos _ k0) (by simp) ⟨_, m, c, Int.ediv_nonneg S0 (by omega), S1, S2, S3, by omega, get_set hn⟩
  · have a0 : ∀ x y : Int, binop .Add (.int x) (.int y) = some (.int (x + y)) := fun x y => rfl
    have a1 : binop .Mult (.int m) (.int 69621) = some (.int (m * 69621)) := mul_ok (by omega) (by decide)
    have a2 : binop .Mult (.int 32452843) (.int (c + 1)) = some (.int (32452843 * (c + 1))) := mul_ok (by decide) (by omega)
    have a3 : binop .Mult (.int (32452843 * (c + 1))) (.int (c + 1)) = some (.int (32452843 * (c + 1) * (c + 1))) := mul_ok (by omega) (by omega)
    have a4 : ∀ x : Int, binop .Mod (.int x) (.int 2305843009213693951) = some (.int (x % 2305843009213693951)) := fun x => mod_ok (by decide)
    have b1 := Int.emod_nonneg (m * 69621 + 32452843 * (c + 1) * (c + 1) + 40009) (b := 2305843009213693951) (by decide)
    have b2 := Int.emod_lt_of_pos (m * 69621 + 32452843 * (c + 1) * (c + 1) + 40009) (b := 2305843009213693951) (by decide)
    generalize hx : (m * 69621 + 32452843 * (c + 1) * (c + 1) + 40009) % 2305843009213693951 = x at b1 b2
    have a5 : binop .FloorDiv (.int x) (.int 256) = some (.int (x / 256)) := fdiv_ok (by decide) (by decide)
    have a6 : binop .Pow (.int (x / 256)) (.int 2) = some (.int ((x / 256) ^ 2)) := pow_ok 2 (by decide) (by omega)
    have a7 : binop .Mult (.int 17) (.int (c + 1)) = some (.int (17 * (c + 1))) := mul_ok (by decide) (by omega)
    have a8 : ∀ x : Int, binop .Mod (.int x) (.int 2305843009213693921) = some (.int (x % 2305843009213693921)) := fun x => mod_ok (by decide)
    generalize hy : ((x / 256) ^ 2 + 17 * (c + 1)) % 2305843009213693921 = y
    have a9 : binop .FloorDiv (.int y) (.int 4096) = some (.int (y / 4096)) := fdiv_ok (by decide) (by decide)
    have a10 : binop .Mod (.int (y / 4096)) (.int many) = some (.int (y / 4096 % many)) := mod_ok k0
    have hs1 := get_set (a := srcD g m (c + 1)) hn
    have hn1 : n < (s.set n (srcD g m (c + 1))).length := by simpa using hn
    generalize hst : s.set n (srcD g m (c + 1)) = s1 at hs1 hn1
    have hs2 := get_set (a := srcD g x (c + 1)) hn1
    generalize hst2 : s1.set n (srcD g x (c + 1)) = s2 at hs2
    have k1 := i0 s g m c hs
    have k2 := i2 s g m c hs
    have k3 := i1 s1 g m (c + 1) hs1
    have k4 := i2 s1 g m (c + 1) hs1
    have k5 := i1 s2 g x (c + 1) hs2
    have k6 := i2 s2 g x (c + 1) hs2
    have w0 : cmpD .Gt (.int g) (.int 0) = some (.bl false) := by
      show some (D.bl (decide (0 < g))) = _
      rw [decide_eq_false hg]
    have key : M_drw1 [.ref n, .int many] s = .ok (.int (y / 4096 % many)) s2 := by
      show (m_drw1 [.pu (.ref n), .pu (.int many), .no] s).fin = _
      unfold m_drw1
      refine (congrArg SRes.fin (seq_nx (ρ1 := [.pu (.ref n), .pu (.int many), .no]) (s1 := s) ?_)).trans ?_
      · simp only [sIf, eIs, eCmp, eIx, eRd, eC, List.getElem?_cons_zero, Res.bind_ok, k1, Res.of_some, w0, der_int, Res.to_ok, bNil, Bool.false_eq_true, if_false, SRes.then_nx]
      refine (congrArg SRes.fin (seq_nx (ρ1 := [.pu (.ref n), .pu (.int many), .no]) (s1 := s1) ?_)).trans ?_
      · have p1 : putIx (srcD g m c) (.int 2) (.int (c + 1)) = some (srcD g m (c + 1)) := rfl
        simp only [sPut, eBin, eIx, eRd, eC, eLoc, List.getElem?_cons_zero, Res.bind_ok, k2, Res.of_some, Res.to_ok, a0, hs, der_int, p1, hst]
      refine (congrArg SRes.fin (seq_nx (ρ1 := [.pu (.ref n), .pu (.int many), .no]) (s1 := s2) ?_)).trans ?_
      · have p1 : putIx (srcD g m (c + 1)) (.int 1) (.int x) = some (srcD g x (c + 1)) := rfl
        simp only [sPut, eBin, eBt, eCons, eNil, gInt, eIx, eRd, eC, eLoc, List.getElem?_cons_zero, Res.bind_ok, k3, k4, Res.of_some, Res.to_ok, a0, a1, a2, a3, a4, hx, hs1, der_int, p1, hst2, List.map_cons, List.map_nil]
      simp only [sRet, eBin, eBt, eCons, eNil, eIx, eRd, eC, List.getElem?_cons_zero, List.getElem?_cons_succ, Res.bind_ok, Res.of_some, k5, k6, a0, a5, a6, a7, a8, a9, a10, hy, der_int, List.map_cons, List.map_nil, gInt, SRes.fin, Res.to_ok]
    rw [key]
    refine h _ _ (Int.emod_nonneg _ (by omega)) (Int.emod_lt_of_pos _ k0) ?_ ⟨g, x, c + 1, S0, b1, by omega, by omega, by omega, hs2⟩
    rw [← hst2, ← hst]
    simp
end Dn

/-! Dn: more steps; words. -/
namespace Dn
open PySem PySem.Spec L2
open PyProof.Rows hiding St RelV
section
variable {P : D → Store → Prop} {PL : List D → Store → Prop} {ρ : Loc} {s : Store}
theorem wp_call {m : M} {a : EL} (h : Wp (a ρ s) fun ds s => Wp (m ds s) P) : Wp (eCall m a ρ s) P := by unfold eCall; rw [wp_bind]; exact h
theorem wp_nil (h : PL [] s) : Wp (eNil ρ s) PL := h
theorem wp_cons {a : E} {r : EL} (h : Wp (a ρ s) fun d s => Wp (r ρ s) fun ds s => PL (d :: ds) s) : Wp (eCons a r ρ s) PL := by
  unfold eCons
  rw [wp_bind]
  exact wp_mono h fun d s q => by rw [wp_bind]; exact q
theorem wp_tup {r : EL} (h : Wp (r ρ s) fun ds s => ds.length ≤ line ∧ P (.tup ds) s) : Wp (eTup r ρ s) P := by
  unfold eTup
  rw [wp_bind]
  exact wp_mono h fun ds s q => by rw [if_pos q.1]; exact q.2
theorem wp_lst {r : EL} (h : Wp (r ρ s) fun ds s => ds.length ≤ line ∧ P (.lst ds) s) : Wp (eLst r ρ s) P := by
  unfold eLst
  rw [wp_bind]
  exact wp_mono h fun ds s q => by rw [if_pos q.1]; exact q.2
theorem wp_if {c : ET} {a b : E} (h : Wp (c ρ s) fun x s => if x = true then Wp (a ρ s) P else Wp (b ρ s) P) : Wp (eIf c a b ρ s) P := by
  unfold eIf
  rw [wp_bind]
  exact wp_mono h fun x s q => by cases x <;> simpa using q
theorem wp_bin {op : Operator} {a b : E} (h : Wp (a ρ s) fun x s => Wp (b ρ s) fun y s => ∃ r, binop op (der s x) (der s y) = some r ∧ P r s) : Wp (eBin op a b ρ s) P := by
  unfold eBin
  rw [wp_bind]
  refine wp_mono h fun x s q => ?_
  rw [wp_bind]
  exact wp_mono q fun y s ⟨r, e, p⟩ => by rw [e]; exact p
theorem wp_cmp {op : CmpOp} {a b : E} (h : Wp (a ρ s) fun x s => Wp (b ρ s) fun y s => ∃ r, cmpD op (der s x) (der s y) = some r ∧ P r s) : Wp (eCmp op a b ρ s) P := by
  unfold eCmp
  rw [wp_bind]
  refine wp_mono h fun x s q => ?_
  rw [wp_bind]
  exact wp_mono q fun y s ⟨r, e, p⟩ => by rw [e]; exact p
theorem wp_ix {a b : E} (h : Wp (a ρ s) fun x s => Wp (b ρ s) fun y s => ∃ r, item (der s x) (der s y) = some r ∧ P r s) : Wp (eIx a b ρ s) P := by
  unfold eIx
  rw [wp_bind]
  refine wp_mono h fun x s q => ?_
  rw [wp_bind]
  exact wp_mono q fun y s ⟨r, e, p⟩ => by rw [e]; exact p
theorem wp_bt {g : List D → Option D} {a : EL} (h : Wp (a ρ s) fun ds s => ∃ r, g (ds.map (der s)) = some r ∧ P r s) : Wp (eBt g a ρ s) P := by
  unfold eBt
  rw [wp_bind]
  exact wp_mono h fun ds s ⟨r, e, p⟩ => by rw [e]; exact p
theorem wp_mt {T : String} {g : D → List D → Option D} {o : E} {a : EL} (h : Wp (o ρ s) fun x s => (T ≠ "" ∧ tyOfD (der s x) = T) ∧ Wp (a ρ s) fun ds s => ∃ r, g (der s x) (ds.map (der s)) = some r ∧ P r s) : Wp (eMt T g o a ρ s) P := by
  unfold eMt
  rw [wp_bind]
  refine wp_mono h fun x s ⟨c, q⟩ => ?_
  rw [if_pos c, wp_bind]
  exact wp_mono q fun ds s ⟨r, e, p⟩ => by rw [e]; exact p
variable {PB : Bool → Store → Prop}
theorem wp_is {a : E} (h : Wp (a ρ s) fun x s => ∃ b, x = .bl b ∧ PB b s) : Wp (eIs a ρ s) PB := by
  unfold eIs
  rw [wp_bind]
  exact wp_mono h fun x s ⟨b, e, p⟩ => by subst e; exact p
theorem wp_tru {a : E} (h : Wp (a ρ s) fun x s => ∃ b, truth (der s x) = some b ∧ PB b s) : Wp (eTru a ρ s) PB := by
  unfold eTru
  rw [wp_bind]
  exact wp_mono h fun x s ⟨b, e, p⟩ => by rw [e]; exact p
theorem wp_not {a : ET} (h : Wp (a ρ s) fun b s => PB (!b) s) : Wp (eNotT a ρ s) PB := by
  unfold eNotT
  rw [wp_bind]
  exact h
theorem wp_or {a b : ET} (h : Wp (a ρ s) fun x s => if x = true then PB true s else Wp (b ρ s) PB) : Wp (eOrT a b ρ s) PB := by
  unfold eOrT
  rw [wp_bind]
  exact wp_mono h fun x s q => by cases x <;> simpa [Wp] using q
theorem wp_and {a b : ET} (h : Wp (a ρ s) fun x s => if x = true then Wp (b ρ s) PB else PB false s) : Wp (eAndT a b ρ s) PB := by
  unfold eAndT
  rw [wp_bind]
  exact wp_mono h fun x s q => by cases x <;> simpa [Wp] using q
theorem wp_rng1 {es : EL} (h : Wp (es ρ s) fun ds s => ∃ j : Int, ds = [.int j] ∧ (-big ≤ j ∧ j < big) ∧ PL (intsD 0 j.toNat) s) : Wp (Dn.iRng1 es ρ s) PL := by
  unfold Dn.iRng1
  rw [wp_bind]
  refine wp_mono h fun ds s ⟨j, e, hb, p⟩ => ?_
  subst e
  show Wp (if _ then _ else _) PL
  rw [if_pos hb]
  exact p
/-- a def's body -/
theorem wp_fn {N : Nat} {b : S} {ds : List D} (h : Ws (b (ds.map .pu ++ List.replicate (N - ds.length) .no) s) (fun _ s => P .non s) P) : Wp (fnM N b ds s) P := by
  unfold fnM
  cases e : b (ds.map .pu ++ List.replicate (N - ds.length) .no) s with
  | nx ρ s => rw [e] at h; exact h
  | rt d s => rw [e] at h; exact h
  | bk ρ s => rw [e] at h; exact h.elim
  | ct ρ s => rw [e] at h; exact h.elim
  | ex C fs ρ s => rw [e] at h; exact h.elim
  | bad => rw [e] at h; exact h.elim
theorem wp_eq {α : Type} {r : Res α} {P : α → Store → Prop} {a : α} {s' : Store} (e : r = .ok a s') (h : P a s') : Wp r P := by rw [e]; exact h
end
theorem intsD_mem {lo : Int} {n : Nat} {d : D} (h : d ∈ intsD lo n) : ∃ i : Int, d = .int i ∧ lo ≤ i ∧ i < lo + n := by
  unfold intsD at h
  obtain ⟨k, hk, e⟩ := List.mem_map.mp h
  exact ⟨lo + k, e.symm, by omega, by have := List.mem_range.mp hk; omega⟩
theorem intsD_len (lo : Int) (n : Nat) : (intsD lo n).length = n := by unfold intsD; rw [List.length_map, List.length_range]

/-! ### words of small letters -/
def lettersS : Str := "abcdefghijklmnopqrstuvwxyz"
def IsCs (cs : List Nat) : Prop := ∀ c ∈ cs, 97 ≤ c ∧ c ≤ 122
def strL (cs : List Nat) : Str := ⟨cs.toArray⟩
def Word (w : Str) : Prop := ∃ cs, w = strL cs ∧ 1 ≤ cs.length ∧ cs.length ≤ 8 ∧ IsCs cs
theorem letters_at (i : Int) (h0 : 0 ≤ i) (h1 : i < 26) : item (.str lettersS) (.int i) = some (.str (strL [97 + i.toNat])) := by
  have key : ∀ k : Nat, k < 26 → item (.str lettersS) (.int (k : Int)) = some (.str (strL [97 + k])) := by
    intro k hk
    match k, hk with
    | 0, _ => rfl
    | 1, _ => rfl
    | 2, _ => rfl
    | 3, _ => rfl
    | 4, _ => rfl
    | 5, _ => rfl
    | 6, _ => rfl
    | 7, _ => rfl
    | 8, _ => rfl
    | 9, _ => rfl
    | 10, _ => rfl
    | 11, _ => rfl
    | 12, _ => rfl
    | 13, _ => rfl
    | 14, _ => rfl
    | 15, _ => rfl
    | 16, _ => rfl
    | 17, _ => rfl
    | 18, _ => rfl
    | 19, _ => rfl
    | 20, _ => rfl
    | 21, _ => rfl
    | 22, _ => rfl
    | 23, _ => rfl
    | 24, _ => rfl
    | 25, _ => rfl
    | k + 26, h => omega
  have := key i.toNat (by omega)
  rw [Int.toNat_of_nonneg h0] at this
  exact this
theorem in_letters (c : Nat) (h0 : 97 ≤ c) (h1 : c ≤ 122) : cmpD .In (.str (strL [c])) (.str lettersS) = some (.bl true) := by
  have key : ∀ c : Nat, c < 123 → 97 ≤ c → lettersS.cps.toList.contains c = true := by decide +kernel
  show (strIn (strL [c]) lettersS).map (fun b => D.bl b) = _
  unfold strIn
  rw [if_pos (show (strL [c]).length = 1 from rfl)]
  show some (D.bl (lettersS.cps.toList.contains c)) = _
  rw [key c (by omega) h0]
theorem joinL_nil : ∀ cs : List Nat, TL.joinL [] (cs.map fun c => [c]) = cs
  | [] => rfl
  | [c] => rfl
  | c :: d :: r => by
    show [c] ++ ([] ++ TL.joinL [] ((d :: r).map fun c => [c])) = _
    rw [joinL_nil (d :: r)]
    rfl
theorem strsOf_map (cs : List Nat) : strsOf (cs.map fun c => D.str (strL [c])) = some (cs.map fun c => strL [c]) := by
  induction cs with
  | nil => rfl
  | cons c cs ih =>
    simp only [List.map_cons, strsOf, ih, Option.map_some]
theorem join_chars (cs : List Nat) : Txt.join "" (cs.map fun c => strL [c]) = strL cs := by
  have e : ∀ a b : Str, TL.tl a = TL.tl b → a = b := fun a b h => by
    obtain ⟨x⟩ := a
    obtain ⟨y⟩ := b
    have : x.toList = y.toList := h
    rw [Array.toList_inj.mp this]
  apply e
  rw [TL.join_eq, TL.tl_join]
  have h0 : TL.tl ("" : Str) = [] := by decide +kernel
  rw [h0, List.map_map]
  have h1 : (TL.tl ∘ fun c => strL [c]) = fun c : Nat => [c] := by
    funext c
    rfl
  rw [h1, joinL_nil]
  rfl
theorem gJoin_chars (cs : List Nat) (h : cs.length ≤ 8) : gJoin (.str "") [.lst (cs.map fun c => D.str (strL [c]))] = some (.str (strL cs)) := by
  show (strsOf _).bind _ = _
  rw [strsOf_map, Option.bind_some, join_chars, if_pos]
  have h1 : ((cs.map fun c => strL [c]).map (·.length)).sum = cs.length := by
    clear h
    induction cs with
    | nil => rfl
    | cons c cs ih =>
      rw [List.map_cons, List.map_cons, List.sum_cons, ih, List.length_cons]
      show 1 + _ = _
      omega
  have h2 : ("" : Str).length = 0 := by decide +kernel
  rw [h1, h2]
  unfold line
  omega
/-- the signs of a word -/
theorem strSigns_L (cs : List Nat) : strSigns (strL cs) = cs.map fun c => D.str (strL [c]) := by
  unfold strSigns strL
  simp
end Dn

/-! Dn: steps by tactic. -/
namespace Dn
open PySem PySem.Spec L2
open PyProof.Rows hiding St RelV
section
variable {P : D → Store → Prop} {PL : List D → Store → Prop} {PB : Bool → Store → Prop} {ρ : Loc} {s : Store} {d : D} {i : Nat}
theorem wp_C (h : P d s) : Wp (eC d ρ s) P := h
theorem wp_loc (e : ρ[i]? = some (.pu d)) (h : P d s) : Wp (eLoc i ρ s) P := by unfold eLoc; rw [e]; exact h
theorem wp_rd (e : ρ[i]? = some (.pu d)) (h : P d s) : Wp (eRd i ρ s) P := by unfold eRd; rw [e]; exact h
theorem wp_args {np nk : Nat} {perm : List Nat} {dfl ds ds' : List D} {m : M} (h1 : ds.length = np + nk) (h2 : pick perm (ds ++ dfl) = ds') (h3 : ds'.length = perm.length) (h : Wp (m ds' s) P) : Wp (argsM np nk perm dfl m ds s) P := by
  unfold argsM
  rw [if_pos ⟨h1, by rw [h2]; exact h3⟩, h2]
  exact h
theorem wp_yes (h : PB true s) : Wp (eYes ρ s) PB := h
theorem wp_iLst {e : E} (h : Wp (e ρ s) fun d s => ∃ ds, d = .lst ds ∧ PL ds s) : Wp (iLst e ρ s) PL := by
  unfold iLst
  rw [wp_bind]
  exact wp_mono h fun d s ⟨ds, e, p⟩ => by subst e; exact p
theorem wp_neg {e : E} (h : Wp (e ρ s) fun d s => ∃ i : Int, d = .int i ∧ P (.int (-i)) s) : Wp (eNeg e ρ s) P := by
  unfold eNeg
  rw [wp_bind]
  exact wp_mono h fun d s ⟨i, e, p⟩ => by subst e; exact p
end
theorem ws_nil {ρ : Loc} {s : Store} {N : Loc → Store → Prop} {R : D → Store → Prop} (h : N ρ s) : Ws (bNil ρ s) N R := h
/-- isinstance -/
theorem wp_isi {L : KTab} {e : E} {ρ : Loc} {s : Store} {P : D → Store → Prop} (h : Wp (e ρ s) fun x s => ∃ r, isiOf L (der s x) = some r ∧ P r s) : Wp (eIsi L e ρ s) P := by
  unfold eIsi
  rw [wp_bind]
  exact wp_mono h fun x s ⟨r, e, p⟩ => by rw [e]; exact p
end Dn

/-! Dn: == and != by an own __eq__. -/
namespace Dn
open PySem PySem.Spec PySem.W PyProof.Rows
section
variable {prog : Program} {w : World} {A : Around} {E : Value → Shared → Prop} {s : Shared} {K : Frag} {x C L f : Addr} {h₀ : Heap} {m : Str → Option Value} {ox : Obj} {od : Option Obj} {b tb : Value}
theorem ifBound_objNe {M : Model} {args : List Value} {Q : Option Value → Shared → Prop} (X : K.In s.heap) (I : InstAt s.heap x ox C od) (hs : findIn K (.ref C) "__ne__" = some (some (.builtin "object.__ne__")))
    (h : wpAny M A (call (.builtin "object.__ne__") (.ref x :: args)) (fun v => Q (some v)) E s) : wpAny M A (callSpecialIfBound? (.ref x) "__ne__" args) Q E s := by
  simp only [callSpecialIfBound?, bindSpecialIfBound?]
  refine wpAny_holding (wpAny_bind (wpAny_bind (wpAny_bind (I.type.here ((looks_findIn X hs).here ?_)))))
  refine wpAny_bind (wpAny_askSetting (wpAny_ite ?_))
  have fin : wpAny M A (call (.builtin "object.__ne__") ([.ref x] ++ args) >>= fun v => pure (some v)) Q E s := wpAny_bind (wpAny_mono h (fun v s' h' => wpAny_pure h') fun _ _ h' => h')
  split
  · exact wpAny_bind (wpAny_of_eq (F.cmp_object.ne.bind _) (wpAny_pure (by exact fin)))
  · exact wpAny_tryCatch (wpAny_bind (wpAny_of_eq (F.cmp_object.ne.bind _) (wpAny_pure (by exact fin))))
theorem objNe_entry {Q : Fin → Shared → Prop} (hu : A.units < cLine) (X : K.In s.heap) (I : InstAt s.heap x ox C od) (hs : findIn K (.ref C) "__eq__" = some (some (.ref f))) (hf : isFn K (.ref f) = true)
    (h : wpAny (model prog w) A (call (.ref f) [.ref x, b]) (fun v s' => ∃ r, v = .bool r ∧ Q (.done (.ret (.bool (!r)))) s') E s) : wpAny (model prog w) A (Builtin.«object.__ne__» ⟨[.ref x, b], []⟩) Q E s := by
  unfold Builtin.«object.__ne__»
  repeat (first
    | with_reducible refine wpAny_cRoomFor hu ?_
    | (refine wpAny_bind (m := callSpecialIfBound? (.ref x) (Str.ofString "__eq__") [b])
        (ifBound_K X I hs hf (wpAny_mono h (fun r s' hr => by
          obtain ⟨b, rfl, hq⟩ := hr
          repeat (first | exact hq | exact wpAny_pure hq | exact wpAny_truthy_bool hq | (refine wpAny_bind (m := truthy (.bool _)) (wpAny_truthy_bool ?_)) | wp_step)) fun _ _ e => e)))
    | wp_step)
theorem ne_K {Q : Value → Shared → Prop} (hu : A.units + 1 < cLine) (F₀ : PyProof.Rows.Fr h₀ L s.heap m) (X₀ : K.In h₀) (I : InstAt s.heap x ox C od) (hb : Looks (model prog w) s.heap (typeOf b) tb) (hn : notFirst K C tb = true)
    (hm : mroIn K C (.type "object") = some true) (hs : findIn K (.ref C) "__eq__" = some (some (.ref f))) (hne : findIn K (.ref C) "__ne__" = some (some (.builtin "object.__ne__"))) (hf : isFn K (.ref f) = true)
    (h : wpAny (model prog w) A.in1 (call (.ref f) [.ref x, b]) (fun v s' => ∃ r, v = .bool r ∧ Q (.bool (!r)) s') E s) : wpAny (model prog w) A (richCompare .NotEq (.ref x) b) Q E s := by
  have X := X₀.keeps F₀.keep
  have one : wpAny (model prog w) A (tryCompare (.ref x) "__ne__" b) (fun r s' => ∃ v, r = some v ∧ Q v s') E s := by
    unfold tryCompare
    refine wpAny_bind (ifBound_objNe X I hne (wpAny_call (codeAny_call_builtin F.cmp_object.ne.plain F.cmpEntry_ne (check_slot F.cmpKind_ne F.cmpSplit_ne (I.type.andThen (looks_mroIn X hm)) (F.cmpArgs_ne _ _) (objNe_entry (A := A.in1) hu X I hs hf (wpAny_mono h (fun v s' hv => ?_) fun _ _ e => e))))))
    obtain ⟨r, rfl, q⟩ := hv
    first | exact ⟨r, rfl, wpAny_pure ⟨_, rfl, q⟩⟩ | exact ⟨r, rfl, wpAny_pure (wpAny_pure ⟨_, rfl, q⟩)⟩ | exact ⟨r, rfl, ⟨_, rfl, q⟩⟩
  unfold richCompare
  simp only [oneThing_ref]
  refine wpAny_holding (wpAny_bind (wpAny_cRoomFor (Nat.lt_of_succ_lt hu) ?_))
  rw [cmpInfo_NotEq]
  dsimp only
  refine wpAny_bind (I.type.here (wpAny_bind (hb.here ?_)))
  split
  · rename_i q
    have e : subIn K tb (.ref C) = some false := by
      rcases Bool.or_eq_true_iff.mp hn with e | e
      · rw [beq_iff_eq.mp e] at q; simp at q
      · exact beq_iff_eq.mp e
    refine wpAny_bind ((looks_subIn X e).here ?_)
    simp only [Bool.false_eq_true, if_false]
    refine wpAny_bind (wpAny_mono one (fun r s' z => ?_) fun _ _ e => e)
    obtain ⟨v, rfl, hq⟩ := z
    exact wpAny_pure hq
  · refine wpAny_bind (wpAny_pure ?_)
    simp only [Bool.false_eq_true, if_false]
    refine wpAny_bind (wpAny_mono one (fun r s' z => ?_) fun _ _ e => e)
    obtain ⟨v, rfl, hq⟩ := z
    exact wpAny_pure hq
end
end Dn

namespace Dn
open PySem PySem.Spec L2
open PyProof.Rows hiding St RelV
section
variable {X : Cx} {W : WX} {k np : Nat} {f : Addr} {fd : FuncData} {ps : List Str} {perm : List Nat} {m : M} {A : Around}
/-- a def called at an around of its own -/
def CallsAt (X : Cx) (W : WX) (A : Around) (c : Value) (m : M) : Prop := ∀ (pins : List (Addr × Obj)) (s : Shared) (σ : St) (H : Hp) (us : List Value) (vs : List V) (Q : VK) (μ : Mu) (F : Addr → Prop) (st : Store) (ds : List D),
  Inv X pins σ H s → Vals vs us → RS X.K H μ F st → RVs X.K H μ F ds vs → OkE X.K W F σ H μ (m ds st) Q → wpAny (model X.prog X.w) A (call c us) (EP X pins σ Q) X.xe s
theorem fn_callsAt (Fn : FnOk X.prog X.w X.K X.mg X.base (L2.CX X.prog X.w) k f fd ps (spOf X.K ps.length m)) (hr : Room k A) (hA : A.frames = X.A.frames) (tk : Takes X W) (hb : KB X.K fd ps np [] perm []) (hp : perm.length = ps.length) : CallsAt X W A (.ref f) (argsM np 0 perm [] m) := by
  intro pins s σ H us vs Q μ F st ds I r rs rd h
  obtain ⟨its, dvs, rt, rdf, hb⟩ := hb
  unfold argsM at h
  split at h
  · rename_i hl
    have l1 := rd.length
    have l3 := r.length
    have hus : us.length = np := by omega
    have r2 : Vals (pick perm (vs ++ [] ++ dvs)) (pick perm (us ++ [] ++ its)) := Vals.pick ((r.append .nil).append rt) perm
    have r3 : RVs X.K H μ F (pick perm (ds ++ [] ++ [])) (pick perm (vs ++ [] ++ dvs)) := RVs.pick ((rd.append RVs.nil).append (rdf H μ F)) perm
    rw [List.append_nil ds] at r3
    have hq : spOf X.K ps.length m (pick perm (vs ++ [] ++ dvs)) H Q (WE W σ) := ⟨μ, F, st, _, rs, r3, by rw [hl.2, hp], h.at⟩
    have e0 : Env0 X.prog X.w X.K X.mg X.base A X.stack s H := by
      have e := I.env0
      exact ⟨by rw [hA]; exact e.frames, e.mod, e.bs, e.bsz, e.funs, e.frf, e.hok, e.bare⟩
    refine wpAny_call (codeAny_mono (Fn.run A X.stack s H ⟨us, []⟩ _ _ Q (WE W σ) hr e0 (hb s us [] I.kIn hus rfl) r2 hq) fun r s' hq => ?_)
    cases r with
    | error e => exact passAt tk σ pins H s e s' I hq
    | ok fl =>
      cases fl with
      | ret u => exact I.after hq
      | next => exact False.elim hq
      | brk => exact False.elim hq
      | cont => exact False.elim hq
  · exact h.elim
/-- what the class C says of == -/
structure OwnEqF (K : PySem.W.Frag) (C : String) (f : Addr) : Prop where
  eq : PySem.W.findIn K (.ref (He.ga K C)) "__eq__" = some (some (.ref f))
  ne : PySem.W.findIn K (.ref (He.ga K C)) "__ne__" = some (some (.builtin "object.__ne__"))
  fn : PySem.W.isFn K (.ref f) = true
  ob : PySem.W.mroIn K (He.ga K C) (.type "object") = some true
def EqOk (X : Cx) (W : WX) (C : String) (m : M) : Prop := ∃ f, OwnEqF X.K C f ∧ CallsAt X W X.A (.ref f) m ∧ CallsAt X W X.A.in1 (.ref f) m
def kEq (neg : Bool) (T : List (String × M)) (L : List (Bool × String)) (x y : D) (s : Store) : Res D := match der s x with
  | .obj C _ => (match T.lookup C, kindD (der s y) with
    | some m, some k => if L.contains k = true then (m [x, y] s).bind fun r s => (match r with
      | .bl b => .ok (.bl (b != neg)) s
      | _ => .bad) else .bad
    | _, _ => .bad)
  | _ => Res.of (cmpD (if neg = true then .NotEq else .Eq) (der s x) (der s y)) s
def eEqO (neg : Bool) (T : List (String × M)) (L : List (Bool × String)) (a b : E) : E := fun ρ s => (a ρ s).bind fun x s => (b ρ s).bind fun y s => kEq neg T L x y s
end
section
variable {X : Cx} {W : WX} {a b : Expr} {ma mb : E} {pos : Pos} {T : List (String × M)} {L : List (Bool × String)} {neg : Bool}
theorem ok_bool {K : PySem.W.Frag} {F : Addr → Prop} {σ : St} {H : Hp} {μ : Mu} {r : Res D} {Q : VK} (h : OkE K W F σ H μ (r.bind fun r s => (match r with
      | .bl b => .ok (.bl (b != neg)) s
      | _ => .bad)) Q) : OkE K W F σ H μ r fun v H' => ∃ b, v = .bl b ∧ Q (.bl (b != neg)) H' := by
  cases r with
  | bad => exact h
  | ex C fs s => exact h
  | ok d s =>
    cases d with
    | bl b =>
      intro v H' μ' f rs rv
      cases (show v = _ from rv)
      exact ⟨b, rfl, h _ H' μ' f rs (RV_bl _)⟩
    | _ => exact h.elim
theorem eqO_op {op : CmpOp} (hop : op = (if neg = true then .NotEq else .Eq)) (hT : ∀ C m, T.lookup C = some m → EqOk X W C m) (hL : ∀ C m k, T.lookup C = some m → L.contains k = true → PySem.W.notFirst X.K (He.ga X.K C) (tyV' X.K k) = true ∧ (k.1 = true → InsF X.K k.2))
    (hu : X.A.units + 64 < cLine) {pins : List (Addr × Obj)} {s2 : Shared} {σ : St} {H2 : Hp} {x y : V} {v u : Value} {Q : VK} (I2 : Inv X pins σ H2 s2) (rx : RelV x v) (ry : RelV y u)
    (q : ∃ μ F st d e, RS X.K H2 μ F st ∧ RV X.K H2 μ F d x ∧ RV X.K H2 μ F e y ∧ OkE X.K W F σ H2 μ (kEq neg T L d e st) Q) : wpAny (model X.prog X.w) X.A (compareOp op v u) (EP X pins σ Q) X.xe s2 := by
  obtain ⟨μ, F, st, d, e, rs, rd, re, q⟩ := q
  have oth : ∀ r, cmpD op (der st d) (der st e) = some r → (∀ v H' μ', Fut H2 μ H' μ' → RS X.K H' μ' F st → RV X.K H' μ' F r v → Q v H') → wpAny (model X.prog X.w) X.A (compareOp op v u) (EP X pins σ Q) X.xe s2 := fun r hr hq =>
    cmpD_ok hu op pins s2 σ H2 x y v u Q I2 rx ry ⟨μ, F, st, d, e, r, rs, .of rd, .of re, hr, hq⟩
  have dx := (RD.of rd).dr rs
  have dy := (RD.of re).dr rs
  unfold kEq at q
  split at q
  · rename_i C fs hd
    rw [hd] at dx
    split at q
    · rename_i m k hC hk
      split at q
      · rename_i hc
        obtain ⟨f, O, c1, c2⟩ := hT C m hC
        obtain ⟨nf, hi⟩ := hL C m k hC hc
        obtain ⟨ax, ddx, xs, e1, qx, _⟩ := dx
        subst e1
        cases rx
        have ty := kind_ty dy hk hi
        obtain ⟨P, KX, hP, _⟩ := kit_of I2 ry ty
        have lk := KX.ty (model X.prog X.w) s2.heap I2.kIn hP
        obtain ⟨mA, J, _⟩ := ins_get I2.hok qx
        obtain ⟨od, J, _⟩ := J.look
        obtain ⟨mf, hF⟩ := I2.fr
        have q2 := ok_bool q
        have rr : Vals [V.ref ax, y] [Value.ref ax, u] := .cons rfl (.cons ry .nil)
        cases neg with
        | false =>
          subst hop
          refine PySem.W.cmp_K (op := .Eq) (by omega) hF I2.ok.mod.kin J lk nf O.eq O.fn ?_
          refine wpAny_mono (c1 pins s2 σ H2 _ _ _ μ F st _ I2 rr rs (RVs.cons rd (RVs.cons re RVs.nil)) q2) (fun v s' z => ?_) fun _ _ z => z
          obtain ⟨w, H', I', rw', b, e2, hq⟩ := z
          subst e2
          cases rw'
          exact ⟨.bl b, H', I', rfl, by simpa using hq⟩
        | true =>
          subst hop
          refine ne_K (by omega) hF I2.ok.mod.kin J lk nf O.ob O.eq O.ne O.fn ?_
          refine wpAny_mono (c2 pins s2 σ H2 _ _ _ μ F st _ I2 rr rs (RVs.cons rd (RVs.cons re RVs.nil)) q2) (fun v s' z => ?_) fun _ _ z => z
          obtain ⟨w, H', I', rw', b, e2, hq⟩ := z
          subst e2
          cases rw'
          exact ⟨b, rfl, .bl (!b), H', I', rfl, by simpa using hq⟩
      · exact q.elim
    · exact q.elim
  · obtain ⟨r, hr, hq⟩ := OkG.some q
    rw [← hop] at hr
    exact oth r hr hq
theorem eqO_at {σ : St} {H : Hp} {Q : VK} (h : tG (fun F H μ d v => RV X.K H μ F d v) X.pn X.K W (eEqO neg T L ma mb) σ H Q) : tG (fun F H μ d v => RV X.K H μ F d v) X.pn X.K W ma σ H fun x H1 => tG (fun F H μ d v => RV X.K H μ F d v) X.pn X.K W mb σ H1 fun y H2 =>
      ∃ μ F st d e, RS X.K H2 μ F st ∧ RV X.K H2 μ F d x ∧ RV X.K H2 μ F e y ∧ OkE X.K W F σ H2 μ (kEq neg T L d e st) Q := by
  obtain ⟨ρ, μ, F, G, st, a, h⟩ := h
  refine tG_at (k := fun x s => (mb ρ s).bind fun y s => kEq neg T L x y s) a h fun x H1 μ1 st1 d a1 f1 r1 h1 => ?_
  refine tG_at (k := fun y s => kEq neg T L d y s) a1 h1 fun y H2 μ2 st2 e a2 f2 r2 h2 => ?_
  exact ⟨μ2, F, st2, d, e, a2.s, RV.kp f2.kp0 r1, r2, h2⟩
theorem se_eqO {op : CmpOp} (hop : op = (if neg = true then .NotEq else .Eq)) (hT : ∀ C m, T.lookup C = some m → EqOk X W C m) (hL : ∀ C m k, T.lookup C = some m → L.contains k = true → PySem.W.notFirst X.K (He.ga X.K C) (tyV' X.K k) = true ∧ (k.1 = true → InsF X.K k.2))
    (hu : X.A.units + 64 < cLine) (ha : SE X W a ma) (hb : SE X W b mb) (hm : behindInMarks op b = false := by first | exact nomark _ | rfl) : SE X W (.Compare a [op] [b] pos) (eEqO neg T L ma mb) := by
  refine ⟨fun pins s σ H Q I h => ?_⟩
  exact wpAny_Compare1 (binT ha hb I (eqO_at h) fun v u s2 x y H2 I2 rx ry q => eqO_op hop hT hL hu I2 rx ry q) hm
theorem st_eqO {op : CmpOp} (hop : op = (if neg = true then .NotEq else .Eq)) (hT : ∀ C m, T.lookup C = some m → EqOk X W C m) (hL : ∀ C m k, T.lookup C = some m → L.contains k = true → PySem.W.notFirst X.K (He.ga X.K C) (tyV' X.K k) = true ∧ (k.1 = true → InsF X.K k.2))
    (hu : X.A.units + 64 < cLine) (ha : SE X W a ma) (hb : SE X W b mb) (hm : behindInMarks op b = false := by first | exact nomark _ | rfl) : ST X W (.Compare a [op] [b] pos) (eIs (eEqO neg T L ma mb)) := by
  refine ⟨fun pins s σ H Q I h => ?_⟩
  have h2 := eqO_at (bool_at (fun _ _ _ _ _ h => by unfold RV at h; exact h) h)
  refine wpAny_isTrue_Compare1 (thn (ha.run pins s σ H _ I h2) fun v s1 ⟨x, H1, I1, r1, q1⟩ => thn (hb.run pins s1 σ H1 _ I1 q1) fun u s2 ⟨y, H2, I2, r2, q2⟩ =>
    thn (eqO_op hop hT hL hu I2 r1 r2 q2) fun c s3 ⟨z, H3, I3, r3, k, e, q3⟩ => ?_) hm
  subst e
  cases r3
  exact wpAny_truthy_bool ⟨H3, I3, q3⟩
end
end Dn

/-! Dn: dict(d), dict(list of pairs). -/
namespace Dn
open PySem PySem.Spec L2
open PyProof.Rows hiding St RelV
def pairsD : List D → Option (List (D × D))
  | [] => some []
  | .tup [k, v] :: r => (pairsD r).map fun ps => (k, v) :: ps
  | _ => none
def gDict : List D → Option D
  | [] => none
  | [.dic kvs] => some (.dic kvs)
  | [.lst ds] => (pairsD ds).bind fun ps => (dicOf [] ps).map .dic
  | _ => none
section
variable {X : Cx} {K : PySem.W.Frag} {H : Hp} {μ : Mu} {F : Addr → Prop}
theorem pairsD_rel : ∀ {ds : List D} {xs : List V} {prs : List (D × D)}, RVs K H μ F ds xs → pairsD ds = some prs → ∃ (ps : List Addr) (vs : List (V × V)), xs = ps.map V.ref ∧ RPs K H μ F prs vs ∧ Paired (fun p kv => SqT K H p [kv.1, kv.2]) ps vs
  | [], xs, prs, r, e => by
    cases e
    cases (show xs = [] from r)
    exact ⟨[], [], rfl, rfl, .nil⟩
  | d :: ds, xs, prs, r, e => by
    obtain ⟨y, ys, e1, r1, r2⟩ := r
    subst e1
    unfold pairsD at e
    split at e
    · cases ‹_ :: _ = []›
    · rename_i k v r' he
      cases he
      obtain ⟨ps, e2, e3⟩ := Option.map_eq_some_iff.mp e
      subst e3
      obtain ⟨as, vs, q1, q2, q3⟩ := pairsD_rel r2 e2
      have r3 := r1
      unfold RV at r3
      obtain ⟨a, zs, e4, q, r4⟩ := r3
      obtain ⟨z1, zs1, e5, rk, r5⟩ := r4
      obtain ⟨z2, zs2, e6, rv, r6⟩ := r5
      cases (show zs2 = [] from r6)
      subst e6
      subst e5
      subst e4
      subst q1
      refine ⟨a :: as, (z1, z2) :: vs, rfl, ⟨z1, z2, vs, rfl, rk, rv, q2⟩, .cons ?_ q3⟩
      rcases q with ⟨q, _⟩ | q
      · exact .inl (.inl q)
      · exact .inr q
    · cases e
theorem paired_map {α β γ : Type} {R : α → β → Prop} {f : γ → β} : ∀ {xs : List α} {zs : List γ}, Paired R xs (zs.map f) → Paired (fun a z => R a (f z)) xs zs
  | [], [], _ => .nil
  | x :: xs, z :: zs, .cons h t => .cons h (paired_map t)
theorem gDict_ok (hc : X.calm = true) : VB X (.type "dict") gDict := by
  intro pins s σ H xs us Q I r h
  obtain ⟨μ, F, st, ds, rr, rs, rd, hg, q⟩ := h
  generalize hds : ds.map (der st) = cs at hg
  unfold gDict at hg
  split at hg
  · cases hg
  · cases hg
    obtain ⟨d, x, e1, e2, r1, e3⟩ := rd.one rs hds
    have r2 := r1.dr rs
    rw [e3] at r2
    obtain ⟨a, ys, e4, q1, q2⟩ := r2
    rw [e4] at e2
    exact call_dictD pins s σ H xs us Q I r ⟨a, ys, e2, q1, fun l hl => q _ _ μ (.new hl) (rs.new hl) (rs.newD hl q2)⟩
  · rename_i es
    obtain ⟨ps, hp, hg⟩ := Option.bind_eq_some_iff.mp hg
    obtain ⟨kvs, hk, hg⟩ := Option.map_eq_some_iff.mp hg
    subst hg
    obtain ⟨d, x, e1, e2, r1, e3⟩ := rd.one rs hds
    have r2 := r1.dr rs
    rw [e3] at r2
    obtain ⟨a, ys, e4, q1, q2⟩ := r2
    rw [e4] at e2
    obtain ⟨as, vs, w1, w2, w3⟩ := pairsD_rel q2 hp
    obtain ⟨ks, w4, w5⟩ := dicOf_rel (xs := []) w2 RVd.nil hk
    subst w1
    subst w4
    exact call_dictP hc pins s σ H xs us Q I r ⟨a, as, ks, e2, .inl (.inl q1), paired_map (R := fun p (kv : V × V) => SqT X.K H p [kv.1, kv.2]) (f := fun kv : Key × V => (kV kv.1, kv.2)) w3, fun l hl => q _ _ μ (.new hl) (rs.new hl) (rs.newD hl w5)⟩
  · cases hg
end
/-! ### list(d.keys()) -/
section
variable {X : Cx} {W : WX} {e : Expr} {te : TE} {me : E} {p apos cpos pos : Pos}
def tListKeys (te : TE) : TE := fun σ H Q => te σ H fun x H1 => ∃ (a : Addr) (kvs : List (Key × V)), x = .ref a ∧ Rd H1 a (.dK kvs) ∧ ∀ p, H1 p = none → Q (.ref p) (upd H1 p (.lst (kvs.map fun kv => kV kv.1)))
theorem pe_listKeys (hc : X.calm = true) (he : PE X e te) (hg : Gl X "list") (hm : X.mg "list" = none) (hv : bootBuiltins "list" = some (.type "list")) (hbase : attributeBase e "keys" X.env (eval e X.env) = eval e X.env := by rfl) (hline : (apos.endLine == cpos.line) = true := by rfl)
    (hs : starEach [.Call (.Attribute e "keys" apos) [] [] cpos] X.env = (false, eval (.Call (.Attribute e "keys" apos) [] [] cpos) X.env) :: starEach [] X.env := by rfl) :
    PE X (.Call (.Name "list" p) [.Call (.Attribute e "keys" apos) [] [] cpos] [] pos) (tListKeys te) := by
  refine ⟨fun pins s σ H Q I hq => ?_⟩
  refine wpAny_Call_Name_kw (ld_blt I hg hm hv ?_)
  refine PyProof.Rows.callWith_type1 ?_ hs rfl
  rw [hs]
  show wpAny _ _ (spliced ((false, eval (.Call (.Attribute e "keys" apos) [] [] cpos) X.env) :: backTo pos (starEach [] X.env))) _ _ s
  refine Calls.spliced_cons ?_
  refine wpAny_Call_method (T := "dict") (id := "dict.keys") hbase rfl hline F.plainAttrs_dict F.slot_dict_keys F.type_dict_keys (thn (he.run pins s σ H _ I hq) fun u s1 ⟨x, H1, I1, rx, d, kvs, ex, hd, q⟩ => ?_)
  subst ex
  obtain rfl : u = Value.ref d := rx
  obtain ⟨hz, hs0, vs, kv, hdo⟩ := dk_rd I1.hok hd
  obtain ⟨ep, hat⟩ := hdo.dictAt
  have lk : kvs.length = vs.length := Paired.length kv
  have I2 : Inv X pins σ H1 { s1 with heap := s1.heap.push { cls := .type "dict_keys", data := .fields #[.ref d] } } := I1.kept (t' := s1.toks) fun b ob q => Heap.get?_push_of_some _ q
  refine ⟨hdo.typeIs, hdo.mapOf.noDict, ?_⟩
  show wpAny _ _ (callWith cpos (.builtin "dict.keys") [.ref d] [] []) _ X.xe s1
  refine method_meetsIn F.slot_dict_keys F.entry_dict_keys rfl (PySem.evalArgs_none ⟨rfl, hdo.typeIs, F.args_dict_keys_1 _, _, PySem.W.kdl_meets_keys (mixKind X.prog X.w) d hs0, ⟨vs, hdo⟩, ?_⟩)
  refine Calls.spliced_nil ?_
  have ek : (kvs.map fun kv => kV kv.1) = vs.map fun p => kV p.1 := by
    have e := congrArg (List.map kV) kv.keys
    rw [List.map_map, List.map_map] at e
    exact e
  refine PySem.W.kdl_call (PySem.W.kdl_keys (knd := mixKind X.prog X.w) (kvs := vs) (ep := ep) (d := d)) (I1.ok.hd hc) ⟨⟨_, Heap.get?_push_size _ rfl, rfl, rfl⟩, hat.push _⟩ (by omega) fun h' tk acc c' hk hD hacc => ?_
  have hv : Vals (vs.map fun p => kV p.1) acc.toList := keys_at (by rw [Array.length_toList]; exact hacc.1) fun j v e => hacc.2 j v (by rw [← Array.getElem?_toList]; exact e)
  refine ⟨.ref _, upd H1 _ (.lst (kvs.map fun kv => kV kv.1)), I2.laid (t' := tk) hk (Nat.le_refl _)
    (show ObjOk X.prog X.w _ _ _ (.lst (kvs.map fun kv => kV kv.1)) from ⟨by rw [List.length_map]; exact hz, acc.toList, c', by rw [ek]; exact hv, by rw [Array.toArray_toList]; exact hD⟩), rfl, q _ (I2.hok.fresh (Nat.le_refl _))⟩
def keysD : D → Option D
  | .dic kvs => some (.lst (kvs.map (·.1)))
  | _ => none
def eKeys (a : E) : E := fun ρ s => (a ρ s).bind fun d s => Res.of (keysD (der s d)) s
theorem RVd.keys {K : PySem.W.Frag} {H : Hp} {μ : Mu} {F : Addr → Prop} : ∀ {kvs : List (D × D)} {xs : List (Key × V)}, RVd K H μ F kvs xs → RVs K H μ F (kvs.map (·.1)) (xs.map fun kv => kV kv.1)
  | [], xs, h => by
    cases (show xs = [] from h)
    exact RVs.nil
  | (k, d) :: kvs, xs, h => by
    obtain ⟨q, y, ys, e, h1, h2, h3⟩ := h
    subst e
    exact RVs.cons h1 (RVd.keys h3)
theorem se_keys (hc : X.calm = true) (ha : SR X W e me) (hg : Gl X "list") (hm : X.mg "list" = none) (hbase : attributeBase e "keys" X.env (eval e X.env) = eval e X.env := by rfl) (hline : (apos.endLine == cpos.line) = true := by rfl)
    (hs : starEach [.Call (.Attribute e "keys" apos) [] [] cpos] X.env = (false, eval (.Call (.Attribute e "keys" apos) [] [] cpos) X.env) :: starEach [] X.env := by rfl) :
    SE X W (.Call (.Name "list" p) [.Call (.Attribute e "keys" apos) [] [] cpos] [] pos) (eKeys me) := PE.of (pe_listKeys hc ha hg hm (by decide +kernel) hbase hline hs) fun σ H Q ⟨ρ, μ, F, G, st, a, h⟩ => by
  refine tG_at (k := fun d s => Res.of (keysD (der s d)) s) a h fun x H1 μ1 st1 d a1 f1 r1 h1 => ?_
  obtain ⟨r, hr, hq⟩ := OkG.some h1
  have dr := r1.dr a1.s
  generalize he : der st1 d = y at hr dr
  cases y with
  | dic kvs =>
    cases hr
    obtain ⟨b, xs, e1, q1, q2⟩ := dr
    exact ⟨b, xs, e1, q1, fun l hl => hq _ _ μ1 (.new hl) (a1.s.new hl) (a1.s.newL hl q2.keys)⟩
  | _ => cases hr
end
end Dn

/-! Dn: own __eq__, as the printed texts use it. -/
namespace Dn
open PySem PySem.Spec L2
open PyProof.Rows hiding St RelV
/-- the class C and the kinds L of what it is compared with -/
structure EqF (K : PySem.W.Frag) (C : String) (L : List (Bool × String)) : Prop where
  own : OwnEqF K C (He.ma K (He.ga K C) "__eq__")
  nf : ∀ k, L.contains k = true → PySem.W.notFirst K (He.ga K C) (tyV' K k) = true ∧ (k.1 = true → InsF K k.2)
def eqB (C : String) (L : List (Bool × String)) (K : PySem.W.Frag) : Bool :=
  b2 (decide (PySem.W.findIn K (.ref (He.ga K C)) "__eq__" = some (some (.ref (He.ma K (He.ga K C) "__eq__"))))) (b2 (decide (PySem.W.findIn K (.ref (He.ga K C)) "__ne__" = some (some (.builtin "object.__ne__"))))
    (b2 (PySem.W.isFn K (.ref (He.ma K (He.ga K C) "__eq__"))) (b2 (decide (PySem.W.mroIn K (He.ga K C) (.type "object") = some true))
      (L.all fun k => b2 (PySem.W.notFirst K (He.ga K C) (tyV' K k)) (!k.1 || insB k.2 K)))))
theorem eqB_ok {C : String} {L : List (Bool × String)} {K : PySem.W.Frag} (h : eqB C L K = true) : EqF K C L := by
  obtain ⟨h1, h⟩ := b2_ok h
  obtain ⟨h2, h⟩ := b2_ok h
  obtain ⟨h3, h⟩ := b2_ok h
  obtain ⟨h4, h5⟩ := b2_ok h
  refine ⟨⟨of_decide_eq_true h1, of_decide_eq_true h2, h3, of_decide_eq_true h4⟩, fun k hk => ?_⟩
  obtain ⟨q1, q2⟩ := b2_ok (List.all_eq_true.mp h5 k (List.contains_iff_mem.mp hk))
  refine ⟨q1, fun e => insB_ok ?_⟩
  have h2 : (!k.1 || insB k.2 K) = true := q2
  rw [e] at h2
  exact h2
def EqT (X : Cx) (W : WX) (L : List (Bool × String)) (T : List (String × M)) : Prop := ∀ C m, T.lookup C = some m → EqOk X W C m ∧ ∀ k, L.contains k = true → PySem.W.notFirst X.K (He.ga X.K C) (tyV' X.K k) = true ∧ (k.1 = true → InsF X.K k.2)
section
variable {X : Cx} {W : WX} {L : List (Bool × String)} {T : List (String × M)} {k : Nat} {ps : List Str} {m : M} {d : He.DefD} {C : String} {P : Program} {w : World} {K : PySem.W.Frag} {mg : Str → Option Value} {base : Heap}
theorem eqT_nil : EqT X W L [] := fun C m h => by cases h
theorem eqT_cons (F : MOk P w K mg base d k ps m) (E : EqF K C L) (hat : d.at_ = ((C : Str), some ("__eq__" : Str))) (j : Nat) (hj : k + 1 ≤ j) (hb : ∀ fd, FuD K d fd → KB K fd ps 2 [] [0, 1] []) (hp : [0, 1].length = ps.length)
    (tk : Takes X W) (hr : Room j X.A) (hP : X.prog = P) (hw : X.w = w) (hK : X.K = K) (hmg : X.mg = mg) (hbs : X.base = base) (t : EqT X W L T) : EqT X W L ((C, argsM 2 0 [0, 1] [] m) :: T) := by
  subst hP hw hK hmg hbs
  intro C' m' h
  rw [List.lookup_cons] at h
  split at h
  · rename_i e
    cases h
    have e : C' = C := by simpa using e
    subst e
    obtain ⟨fd, F1, F2⟩ := F
    have hf : He.fAd X.K d.at_ = He.ma X.K (He.ga X.K C') "__eq__" := by rw [hat]; rfl
    rw [hf] at F2
    exact ⟨⟨_, E.own, fn_callsAt F2 (hr.mono (by omega)) rfl tk (hb fd F1) hp, fn_callsAt F2 (Room.in1 (hr.mono hj)) rfl tk (hb fd F1) hp⟩, E.nf⟩
  · exact t C' m' h
variable {a b : Expr} {ma mb : E} {pos : Pos}
theorem se_eqT (t : EqT X W L T) (hu : X.A.units + 64 < cLine) (ha : SE X W a ma) (hb : SE X W b mb) (hm : behindInMarks .Eq b = false := by first | exact nomark _ | rfl) : SE X W (.Compare a [.Eq] [b] pos) (eEqO false T L ma mb) :=
  se_eqO rfl (fun C m h => (t C m h).1) (fun C m k h hk => (t C m h).2 k hk) hu ha hb hm
theorem se_neT (t : EqT X W L T) (hu : X.A.units + 64 < cLine) (ha : SE X W a ma) (hb : SE X W b mb) (hm : behindInMarks .NotEq b = false := by first | exact nomark _ | rfl) : SE X W (.Compare a [.NotEq] [b] pos) (eEqO true T L ma mb) :=
  se_eqO rfl (fun C m h => (t C m h).1) (fun C m k h hk => (t C m h).2 k hk) hu ha hb hm
theorem st_eqT (t : EqT X W L T) (hu : X.A.units + 64 < cLine) (ha : SE X W a ma) (hb : SE X W b mb) (hm : behindInMarks .Eq b = false := by first | exact nomark _ | rfl) : ST X W (.Compare a [.Eq] [b] pos) (eIs (eEqO false T L ma mb)) :=
  st_eqO rfl (fun C m h => (t C m h).1) (fun C m k h hk => (t C m h).2 k hk) hu ha hb hm
theorem st_neT (t : EqT X W L T) (hu : X.A.units + 64 < cLine) (ha : SE X W a ma) (hb : SE X W b mb) (hm : behindInMarks .NotEq b = false := by first | exact nomark _ | rfl) : ST X W (.Compare a [.NotEq] [b] pos) (eIs (eEqO true T L ma mb)) :=
  st_eqO rfl (fun C m h => (t C m h).1) (fun C m k h hk => (t C m h).2 k hk) hu ha hb hm
end
end Dn

/-! Dn: drawn numbers, the first way, step by step. -/
namespace Dn
open PySem PySem.Spec L2
open PyProof.Rows hiding St RelV
theorem draw_ok2 {s : Store} {n : Nat} {g m c : Int} (S : Src g m c) (hs : s[n]? = some (srcD g m c)) (k : Int) (k0 : 0 < k) (kk : k.natAbs < 2 ^ 200) :
    ∃ d g' c', 0 ≤ d ∧ d < k ∧ 0 ≤ g' ∧ c ≤ c' ∧ c' ≤ c + 1 ∧ M_drw31 [.ref n, .int k] s = .ok (.int d) (s.set n (srcD g' m c')) := by
  have hn : n < s.length := (List.getElem?_eq_some_iff.mp hs).1
  have S0 := S.g0; have S1 := S.m0; have S2 := S.m1; have S3 := S.c0; have S4 := S.c1
  have hd := hs
  unfold srcD at hd
  have i0 : ∀ (s : Store) (g m c : Int), s[n]? = some (srcD g m c) → item (der s (.ref n)) (.int 0) = some (.int g) := fun s g m c h => by
    show item (hid n ((s[n]?).getD (.ref n))) (.int 0) = _
    rw [h]; rfl
  have i1 : ∀ (s : Store) (g m c : Int), s[n]? = some (srcD g m c) → item (der s (.ref n)) (.int 1) = some (.int m) := fun s g m c h => by
    show item (hid n ((s[n]?).getD (.ref n))) (.int 1) = _
    rw [h]; rfl
  have i2 : ∀ (s : Store) (g m c : Int), s[n]? = some (srcD g m c) → item (der s (.ref n)) (.int 2) = some (.int c) := fun s g m c h => by
    show item (hid n ((s[n]?).getD (.ref n))) (.int 2) = _
    rw [h]; rfl
  by_cases hg : 0 < g
  · refine ⟨g % k, g / k, c, Int.emod_nonneg _ (by omega), Int.emod_lt_of_pos _ k0, Int.ediv_nonneg S0 (by omega), Int.le_refl _, by omega, ?_⟩
    have e1 : binop .Mod (.int g) (.int k) = some (.int (g % k)) := mod_ok k0
    have e2 : binop .FloorDiv (.int g) (.int k) = some (.int (g / k)) := fdiv_ok k0 kk
    have j0 := i0 s g m c hs
    unfold M_drw31
    rw [fnM_eq]
    unfold m_drw31
    simp [bCons, sIf, eIs, eCmp, eIx, eRd, eC, cmpD, cmpop, hd, srcD, item, atI, ixN, hg, sSet, eBin, eBt, eCons, eNil, gInt, e1, e2, sPut, eLoc, putIx, sRet, SRes.fin]
  · have b1 := Int.emod_nonneg ((m + 15485863 * (c + 1)) ^ 2 + 31 * m) (b := 2305843009213693951) (by decide)
    have b2 := Int.emod_lt_of_pos ((m + 15485863 * (c + 1)) ^ 2 + 31 * m) (b := 2305843009213693951) (by decide)
    have a1 : binop .Mult (.int 15485863) (.int (c + 1)) = some (.int (15485863 * (c + 1))) := mul_ok (by decide) (by omega)
    have a2 : binop .Pow (.int (m + 15485863 * (c + 1))) (.int 2) = some (.int ((m + 15485863 * (c + 1)) ^ 2)) := pow_ok 2 (by decide) (by omega)
    have a3 : binop .Mult (.int 31) (.int m) = some (.int (31 * m)) := mul_ok (by decide) (by omega)
    have a4 : ∀ x : Int, binop .Mod (.int x) (.int 2305843009213693951) = some (.int (x % 2305843009213693951)) := fun x => mod_ok (by decide)
    have ad : ∀ x y : Int, binop .Add (.int x) (.int y) = some (.int (x + y)) := fun x y => rfl
    generalize hx : ((m + 15485863 * (c + 1)) ^ 2 + 31 * m) % 2305843009213693951 = x at b1 b2
    have a5 : binop .Mult (.int 32452867) (.int (c + 1)) = some (.int (32452867 * (c + 1))) := mul_ok (by decide) (by omega)
    have a6 : binop .Pow (.int (x + 32452867 * (c + 1))) (.int 3) = some (.int ((x + 32452867 * (c + 1)) ^ 3)) := pow_ok 3 (by decide) (by omega)
    have a7 : binop .Mult (.int 69621) (.int x) = some (.int (69621 * x)) := mul_ok (by decide) (by omega)
    have a8 : ∀ x : Int, binop .Mod (.int x) (.int 2305843009213693921) = some (.int (x % 2305843009213693921)) := fun x => mod_ok (by decide)
    generalize hy : ((x + 32452867 * (c + 1)) ^ 3 + 69621 * x) % 2305843009213693921 = y
    have a9 : binop .FloorDiv (.int y) (.int 1024) = some (.int (y / 1024)) := fdiv_ok (by decide) (by decide)
    have a10 : binop .Mod (.int (y / 1024)) (.int k) = some (.int (y / 1024 % k)) := mod_ok k0
    refine ⟨y / 1024 % k, g, c + 1, Int.emod_nonneg _ (by omega), Int.emod_lt_of_pos _ k0, S0, by omega, by omega, ?_⟩
    have hs1 := get_set (a := srcD g m (c + 1)) hn
    generalize hst : s.set n (srcD g m (c + 1)) = s1 at hs1
    show (m_drw31 [.pu (.ref n), .pu (.int k), .no, .no] s).fin = _
    unfold m_drw31
    have k1 := i0 s g m c hs
    have k2 := i2 s g m c hs
    have k3 := i1 s1 g m (c + 1) hs1
    have k4 := i2 s1 g m (c + 1) hs1
    have w0 : cmpD .Gt (.int g) (.int 0) = some (.bl false) := by
      show some (D.bl (decide (0 < g))) = _
      rw [decide_eq_false hg]
    refine (congrArg SRes.fin (seq_nx (ρ1 := [.pu (.ref n), .pu (.int k), .no, .no]) (s1 := s) ?_)).trans ?_
    · simp only [sIf, eIs, eCmp, eIx, eRd, eC, List.getElem?_cons_zero, Res.bind_ok, k1, Res.of_some, w0, der_int, Res.to_ok, bNil, Bool.false_eq_true, if_false, SRes.then_nx]
    refine (congrArg SRes.fin (seq_nx (ρ1 := [.pu (.ref n), .pu (.int k), .no, .no]) (s1 := s1) ?_)).trans ?_
    · have p1 : putIx (srcD g m c) (.int 2) (.int (c + 1)) = some (srcD g m (c + 1)) := rfl
      simp only [sPut, eBin, eIx, eRd, eC, eLoc, List.getElem?_cons_zero, Res.bind_ok, k2, Res.of_some, Res.to_ok, ad, hs, der_int, p1, hst]
    refine (congrArg SRes.fin (seq_nx (ρ1 := [.pu (.ref n), .pu (.int k), .pu (.int x), .no]) (s1 := s1) (set_ok ?_))).trans ?_
    · simp only [eBin, eBt, eCons, eNil, eIx, eRd, eC, List.getElem?_cons_zero, Res.bind_ok, k3, k4, Res.of_some, ad, a1, a2, a3, a4, der_int, List.map_cons, List.map_nil, gInt, hx]
    refine (congrArg SRes.fin (seq_nx (ρ1 := [.pu (.ref n), .pu (.int k), .pu (.int y), .no]) (s1 := s1) (set_ok ?_))).trans ?_
    · simp only [eBin, eBt, eCons, eNil, eIx, eRd, eC, List.getElem?_cons_zero, List.getElem?_cons_succ, Res.bind_ok, k3, k4, Res.of_some, ad, a5, a6, a7, a8, der_int, List.map_cons, List.map_nil, gInt, hy]
    simp only [sRet, eBin, eBt, eCons, eNil, eRd, eC, List.getElem?_cons_zero, List.getElem?_cons_succ, Res.bind_ok, Res.of_some, a9, a10, der_int, List.map_cons, List.map_nil, gInt, SRes.fin, Res.to_ok]
/-- at n a source of the first kind that was asked at most k times -/
def SrcB (s : Store) (n k : Nat) : Prop := ∃ g m c : Int, 0 ≤ g ∧ 0 ≤ m ∧ m < 2305843009215000000 ∧ 0 ≤ c ∧ c ≤ k ∧ s[n]? = some (srcD g m c)
theorem SrcB.mono {s : Store} {n k j : Nat} (h : SrcB s n k) (i : k ≤ j) : SrcB s n j := by
  obtain ⟨g, m, c, h1, h2, h3, h4, h5, h6⟩ := h
  exact ⟨g, m, c, h1, h2, h3, h4, by omega, h6⟩
theorem wp_drw31 {s : Store} {n k : Nat} (S : SrcB s n k) (hk : k < 100000000) {many : Int} (k0 : 0 < many) (k1 : many.natAbs < 2 ^ 200) {P : D → Store → Prop} (h : ∀ (d : Int) s', 0 ≤ d → d < many → s'.length = s.length → SrcB s' n (k + 1) → P (.int d) s') : Wp (M_drw31 [.ref n, .int many] s) P := by
  obtain ⟨g, m, c, S0, S1, S2, S3, S4, hs⟩ := S
  obtain ⟨d, g', c', d0, d1, g0, c0, c1, e⟩ := draw_ok2 ⟨S0, S1, S2, S3, by omega⟩ hs many k0 k1
  rw [e]
  have hn : n < s.length := (List.getElem?_eq_some_iff.mp hs).1
  exact h d _ d0 d1 (by simp) ⟨g', m, c', g0, S1, S2, by omega, by omega, get_set hn⟩
def m_src32 : S := bCons (sSet 2 (eIf (eIs (eCmp .Lt (eRd 1) (eBt gLen (eCons (eRd 0) (eNil))))) (eBt gInt (eCons (eIx (eRd 0) (eRd 1)) (eNil))) (eBin .Mod (eBt gInt (eCons (eBt gSum (eCons (eSl (eRd 0) (eNoPart) (ePart (eC (.int 1)))) (eNil))) (eNil))) (eC (.int 1000003))))) <| bCons (sSet 3 (eIf (eIs (eCmp .GtE (eBt gAbs (eCons (eRd 2) (eNil))) (eBin .Pow (eC (.int 10)) (eC (.int 18))))) (eBt gAbs (eCons (eRd 2) (eNil))) (eC (.int 0)))) <|
  sRet (eNew (eLst (eCons (eLoc 3) (eCons (eBin .Add (eBin .Add (eBin .Mod (eBt gInt (eCons (eRd 2) (eNil))) (eC (.int 2305843009213693951))) (eBin .Mult (eC (.int 7919)) (eRd 1))) (eC (.int 13))) (eCons (eC (.int 0)) (eNil))))))
def M_src32 : M := fnM 4 m_src32
theorem wp_src32 (ns : List Int) (at_ : Int) (h0 : 0 ≤ at_) (h1 : at_ < 60) (s : Store) {P : D → Store → Prop} (h : ∀ s', s'.length = s.length + 1 → SrcB s' s.length 0 → P (.ref s.length) s') : Wp (M_src32 [.scr ns, .int at_] s) P := by
  obtain ⟨cell, hc⟩ : ∃ cell : Int, eIf (eIs (eCmp .Lt (eRd 1) (eBt gLen (eCons (eRd 0) (eNil))))) (eBt gInt (eCons (eIx (eRd 0) (eRd 1)) (eNil))) (eBin .Mod (eBt gInt (eCons (eBt gSum (eCons (eSl (eRd 0) (eNoPart) (ePart (eC (.int 1)))) (eNil))) (eNil))) (eC (.int 1000003))) [.pu (.scr ns), .pu (.int at_), .no, .no] s = .ok (.int cell) s := by
    by_cases h : at_ < ns.length
    · refine ⟨ns[at_.toNat], ?_⟩
      have e : item (.scr ns) (.int at_) = some (.int ns[at_.toNat]) := by
        show ((ixN ns.length at_).bind fun j => ns[j]?).map D.int = _
        rw [ixN_at h0 h]
        simp [show at_.toNat < ns.length by omega]
      simp [eIf, eIs, eCmp, eRd, eBt, eCons, eNil, gLen, cmpD, cmpop, eIx, e, h, gInt]
    · cases ns with
      | nil =>
        have q : eBin .Mod (eBt gInt (eCons (eBt gSum (eCons (eSl (eRd 0) (eNoPart) (ePart (eC (.int 1)))) (eNil))) (eNil))) (eC (.int 1000003)) [.pu (.scr []), .pu (.int at_), .no, .no] s = .ok (.int 0) s := by kernel_rfl
        refine ⟨0, ?_⟩
        have qc : eIs (eCmp .Lt (eRd 1) (eBt gLen (eCons (eRd 0) (eNil)))) [.pu (.scr []), .pu (.int at_), .no, .no] s = .ok false s := by
          have : cmpD .Lt (.int at_) (.int 0) = some (.bl false) := by
            show some (D.bl (decide (at_ < 0))) = _
            rw [decide_eq_false (by omega)]
          simp [eIs, eCmp, eRd, eBt, eCons, eNil, gLen, this]
        unfold eIf
        rw [qc]
        exact q
      | cons a r =>
        have q0 : cutOf (.scr (a :: r)) none (some 1) = some (.lst [.int a]) := by
          simp [cutOf, cutD, HT.sIx]
        have q : eBin .Mod (eBt gInt (eCons (eBt gSum (eCons (eSl (eRd 0) (eNoPart) (ePart (eC (.int 1)))) (eNil))) (eNil))) (eC (.int 1000003)) [.pu (.scr (a :: r)), .pu (.int at_), .no, .no] s = .ok (.int (a % 1000003)) s := by
          have e : binop .Mod (.int a) (.int 1000003) = some (.int (a % 1000003)) := mod_ok (by decide)
          simp [eBin, eBt, eCons, eNil, eSl, eRd, eNoPart, ePart, partK, eC, q0, gSum, intsOf, gInt, e]
        refine ⟨a % 1000003, ?_⟩
        have qc : eIs (eCmp .Lt (eRd 1) (eBt gLen (eCons (eRd 0) (eNil)))) [.pu (.scr (a :: r)), .pu (.int at_), .no, .no] s = .ok false s := by
          have : cmpD .Lt (.int at_) (.int ((a :: r).length : Nat)) = some (.bl false) := by
            show some (D.bl (decide (at_ < (((a :: r).length : Nat) : Int)))) = _
            rw [decide_eq_false h]
          show ((eCmp .Lt (eRd 1) (eBt gLen (eCons (eRd 0) (eNil))) [.pu (.scr (a :: r)), .pu (.int at_), .no, .no] s).bind _) = _
          have e2 : eCmp .Lt (eRd 1) (eBt gLen (eCons (eRd 0) (eNil))) [.pu (.scr (a :: r)), .pu (.int at_), .no, .no] s = .ok (.bl false) s := by
            show Res.of (cmpD .Lt (.int at_) (.int ((a :: r).length : Nat))) s = _
            rw [this]; rfl
          rw [e2]; rfl
        unfold eIf
        rw [qc]
        exact q
  obtain ⟨g, g0, hg⟩ : ∃ g : Int, 0 ≤ g ∧ eIf (eIs (eCmp .GtE (eBt gAbs (eCons (eRd 2) (eNil))) (eBin .Pow (eC (.int 10)) (eC (.int 18))))) (eBt gAbs (eCons (eRd 2) (eNil))) (eC (.int 0)) [.pu (.scr ns), .pu (.int at_), .pu (.int cell), .no] s = .ok (.int g) s := by
    have e : binop .Pow (.int 10) (.int 18) = some (.int 1000000000000000000) := pow_ok 18 (by decide) (by decide)
    by_cases h : (1000000000000000000 : Int) ≤ if cell < 0 then -cell else cell
    · refine ⟨if cell < 0 then -cell else cell, by split <;> omega, ?_⟩
      simp [eIf, eIs, eCmp, eRd, eBt, eCons, eNil, gAbs, cmpD, cmpop, eBin, eC, e]
      intro _; omega
    · refine ⟨0, by omega, ?_⟩
      simp [eIf, eIs, eCmp, eRd, eBt, eCons, eNil, gAbs, cmpD, cmpop, eBin, eC, e]
      intro _; omega
  have hm := Int.emod_nonneg cell (b := 2305843009213693951) (by decide)
  have hm2 := Int.emod_lt_of_pos cell (b := 2305843009213693951) (by decide)
  have e1 : binop .Mult (.int 7919) (.int at_) = some (.int (7919 * at_)) := mul_ok (by decide) (by omega)
  have e2 : binop .Mod (.int cell) (.int 2305843009213693951) = some (.int (cell % 2305843009213693951)) := mod_ok (by decide)
  have key : M_src32 [.scr ns, .int at_] s = .ok (.ref s.length) (s ++ [srcD g (cell % 2305843009213693951 + 7919 * at_ + 13) 0]) := by
    show (m_src32 [.pu (.scr ns), .pu (.int at_), .no, .no] s).fin = _
    unfold m_src32
    refine (congrArg SRes.fin (seq_nx (ρ1 := [.pu (.scr ns), .pu (.int at_), .pu (.int cell), .no]) (set_ok hc))).trans ?_
    refine (congrArg SRes.fin (seq_nx (ρ1 := [.pu (.scr ns), .pu (.int at_), .pu (.int cell), .pu (.int g)]) (set_ok hg))).trans ?_
    simp [sRet, eNew, eLst, eCons, eNil, eLoc, eC, eBin, eBt, gInt, eRd, e1, e2, SRes.fin, line, srcD]
    simp [binop]
  rw [key]
  refine h _ (by simp) ⟨g, cell % 2305843009213693951 + 7919 * at_ + 13, 0, g0, by omega, by omega, by omega, by omega, ?_⟩
  rw [List.getElem?_append_right (Nat.le_refl _), Nat.sub_self]
  rfl
end Dn

/-! Dn: == of tuples within one model, pair by pair. -/
namespace Dn
open PySem PySem.SeqAt
open PySem.AutoSeq1 (wpAny_loadPart')
/-- what == says of each pair, and of all -/
inductive EqL (prog : Program) (w : World) (A : Around) (s : Shared) : List (Value × Value) → Bool → Prop
  | nil : EqL prog w A s [] true
  | cons {p : Value × Value} {r : List (Value × Value)} {e b : Bool} : EqP prog w A s p.1 p.2 e → EqL prog w A s r b → EqL prog w A s (p :: r) (e && b)
section
variable {prog : Program} {w : World}
theorem EqL.step {A : Around} {s : Shared} {p : Value × Value} {r : List (Value × Value)} {k : Bool} (h : EqL prog w A s (p :: r) k) : ∃ e b, EqP prog w A s p.1 p.2 e ∧ EqL prog w A s r b ∧ k = (e && b) := by
  cases h with
  | cons h t => exact ⟨_, _, h, t, rfl⟩
theorem tuple_eqL (l b : Addr) (xs ys : Array Value) (n n2 : Nat) (dd dd2 : Option Addr) (sl sl2 : Array (Option Value)) (k : Bool) :
    MeetsIn prog w (Builtin.«tuple.__eq__» ⟨[.ref l, .ref b], []⟩) (fun A R s =>
      s.heap.get? l = some { cls := .type "tuple", dict := dd, data := .seq xs n, slots := sl } ∧ s.heap.get? b = some { cls := .type "tuple", dict := dd2, data := .seq ys n2, slots := sl2 } ∧
      EqL prog w A.in1 s (xs.toList.zip ys.toList) k ∧ R (.ok (.ret (.bool (k && xs.size == ys.size)))) s) := by
  intro A R s h
  obtain ⟨hp, g, d, tk, os⟩ := s
  obtain ⟨hl, hb, he, hR⟩ := h
  have sub := AutoSeq1.sub_tuple_tuple
  wp_walk using wpAny_loadPart' hl, wpAny_loadPart' hb, wpAny_forIn_list _ (fun rest q s' => q.1 = none ∧ s' = ⟨hp, g, d, tk, os⟩ ∧ ∃ k', EqL prog w A.in1 ⟨hp, g, d, tk, os⟩ rest k' ∧ R (.ok (.ret (.bool (k' && xs.size == ys.size)))) ⟨hp, g, d, tk, os⟩) _
  case turn =>
    rintro ⟨y, x⟩ rest q s' ⟨hq, rfl, k', hk, hr⟩
    obtain ⟨e, c, e1, e2, e3⟩ := hk.step
    subst e3
    refine wpAny_bind (e1 _ _ ?_)
    cases e with
    | true =>
      wp_walk
      exact ⟨rfl, rfl, c, e2, by simpa using hr⟩
    | false =>
      wp_walk
      first | exact ⟨_, rfl, by simpa using hr⟩ | simpa using hr
  case fin =>
    rintro ⟨q1, q2⟩ s' ⟨hq, rfl, k', hk, hr⟩
    simp only at hq
    subst hq
    cases hk
    wp_walk
    first | exact ⟨_, rfl, by simpa [Builtin.Tuple.tupleCompareSizes] using hr⟩ | simpa [Builtin.Tuple.tupleCompareSizes] using hr
  case h =>
    exact ⟨rfl, rfl, k, he, hR⟩
theorem rcP_tuples {A : Around} {s : Shared} {l b : Addr} {xs ys : Array Value} {k : Bool} (hl : s.heap.IsTuple l xs) (hb : s.heap.IsTuple b ys) (hu : A.units < cLine) (he : EqL prog w A.in1 s (xs.toList.zip ys.toList) k)
    (E Q : Value → Shared → Prop) (h : Q (.bool (k && xs.size == ys.size)) s) : wpAny (model prog w) A (richCompare .Eq (.ref l) (.ref b)) Q E s := by
  obtain ⟨⟨c1, dd, data, sl⟩, ho, hc, n, hd⟩ := hl
  obtain ⟨⟨c2, dd2, data2, sl2⟩, ho2, hc2, n2, hd2⟩ := hb
  cases (show c1 = _ from hc)
  cases (show data = _ from hd)
  cases (show c2 = _ from hc2)
  cases (show data2 = _ from hd2)
  have ta : s.TypeIs (.ref l) "tuple" := ⟨_, ho, rfl⟩
  exact wpAny_richCompare_same_room (op := .Eq) ta ⟨_, ho2, rfl⟩ F.slot_tuple_eq (call_meetsIn F.slot_tuple_eq ta F.entry_tuple_eq (F.args_tuple_eq_2 _ _) (tuple_eqL l b xs ys n n2 dd dd2 sl sl2 k)
    ⟨ho, ho2, he, (fun x => nomatch x), h⟩) hu
end
end Dn

/-! Dn: == of data with dicts. -/
namespace Dn
open PySem PySem.Spec L2
open PyProof.Rows hiding St RelV
def allo (f : D → D → Option Bool) : List (D × D) → Option Bool
  | [] => some true
  | (d, e) :: r => (f d e).bind fun x => (allo f r).map fun y => x && y
/-- the values of a's keys, in b -/
def hito (f : D → D → Option Bool) (b : List (D × D)) : List (D × D) → Option Bool
  | [] => some true
  | (k, v) :: r => match dkey k with
    | none => none
    | some q => match dgetK q b with
      | none => some false
      | some w => (f v w).bind fun x => (hito f b r).map fun y => x && y
def deqo : Nat → D → D → Option Bool
  | 0, d, e => if okq 0 d && okq 0 e then some (deq d e) else none
  | n + 1, d, e => if okq (n + 1) d && okq (n + 1) e then some (deq d e) else match d, e with
    | .tup ds, .tup es => (allo (deqo n) (ds.zip es)).map fun x => x && ds.length == es.length
    | .lst ds, .lst es => if ds.length = es.length then allo (deqo n) (ds.zip es) else some false
    | .dic a, .dic b => if a.length = b.length then hito (deqo n) b a else some false
    | _, _ => none
section
variable {X : Cx} {pins : List (Addr × Obj)} {σ : St} {H : Hp} {s : Shared} {μ : Mu} {F : Addr → Prop}
theorem allo_eqL {A : Around} {f : D → D → Option Bool} (hf : ∀ d e b v w u u', f d e = some b → RV X.K H μ F d v → RV X.K H μ F e w → RelV v u → RelV w u' → SeqAt.EqP X.prog X.w A s u u' b) :
    ∀ {ds es : List D} {xs ys : List V} {us vs : List Value} {k : Bool}, allo f (ds.zip es) = some k → RVs X.K H μ F ds xs → RVs X.K H μ F es ys → Vals xs us → Vals ys vs → EqL X.prog X.w A s (us.zip vs) k
  | [], es, xs, ys, us, vs, k, h, r1, r2, q1, q2 => by
    cases (show xs = [] from r1)
    cases q1
    cases h
    exact .nil
  | d :: ds, [], xs, ys, us, vs, k, h, r1, r2, q1, q2 => by
    cases (show ys = [] from r2)
    cases q2
    cases h
    rw [List.zip_nil_right]
    exact .nil
  | d :: ds, e :: es, xs, ys, us, vs, k, h, r1, r2, q1, q2 => by
    obtain ⟨x, xs', e1, a1, a2⟩ := r1
    obtain ⟨y, ys', e2, b1, b2⟩ := r2
    subst e1 e2
    cases q1 with
    | cons c1 c2 =>
      cases q2 with
      | cons d1 d2 =>
        obtain ⟨z, h1, h2⟩ := Option.bind_eq_some_iff.mp (show ((f d e).bind fun x => (allo f (ds.zip es)).map fun y => x && y) = some k from h)
        obtain ⟨z2, h3, h4⟩ := Option.map_eq_some_iff.mp h2
        subst h4
        exact .cons (hf d e z x y _ _ h1 a1 b1 c1 d1) (allo_eqL hf h3 a2 b2 c2 d2)
theorem hito_hits {A : Around} {f : D → D → Option Bool} (hf : ∀ d e b v w u u', f d e = some b → RV X.K H μ F d v → RV X.K H μ F e w → RelV v u → RelV w u' → SeqAt.EqP X.prog X.w A s u u' b) {b : List (D × D)} {yb : List (Key × V)} {vb : List (Key × Value)} (rb : RVd X.K H μ F b yb) (kb : KV yb vb) :
    ∀ {a : List (D × D)} {xa : List (Key × V)} {va : List (Key × Value)} {k : Bool}, hito f b a = some k → RVd X.K H μ F a xa → KV xa va → PySem.W.KeqHitsP X.prog X.w A s vb va k
  | [], xa, va, k, h, r, q => by
    cases (show xa = [] from r)
    cases q
    cases h
    exact .nil
  | (kd, v) :: a, xa, va, k, h, r, q => by
    obtain ⟨q0, y, ys, e, r1, r2, r3⟩ := r
    subst e
    cases q with
    | @cons _ p _ rest c1 c2 =>
      obtain ⟨pk, pv⟩ := p
      obtain ⟨c3, c4⟩ := c1
      cases (show q0 = pk from c3)
      have hk := RV_key r1
      unfold hito at h
      rw [hk] at h
      dsimp only at h
      obtain ⟨g1, g2⟩ := rb.get (q := q0)
      have rel := KV.val kb q0
      cases hg : dgetK q0 b with
      | none =>
        rw [hg] at h
        cases h
        have e0 := g2 hg
        rw [e0] at rel
        refine .miss ?_
        cases hv : valueAt vb q0 with
        | none => rfl
        | some u => rw [hv] at rel; exact rel.elim
      | some w =>
        rw [hg] at h
        obtain ⟨yw, e1, e2⟩ := g1 w hg
        rw [e1] at rel
        cases hv : valueAt vb q0 with
        | none => rw [hv] at rel; exact rel.elim
        | some u =>
          rw [hv] at rel
          obtain ⟨z, h1, h2⟩ := Option.bind_eq_some_iff.mp h
          obtain ⟨z2, h3, h4⟩ := Option.map_eq_some_iff.mp h2
          subst h4
          exact .hit hv (hf v w z y yw _ u h1 r2 e2 c4 rel) (hito_hits hf rb kb h3 r3 c2)
end
end Dn

namespace Dn
open PySem PySem.Spec L2
open PyProof.Rows hiding St RelV
section
variable {X : Cx} {pins : List (Addr × Obj)} {σ : St} {H : Hp} {s : Shared} {μ : Mu} {F : Addr → Prop}
theorem deqo_ref {n : Nat} {d e : D} {b : Bool} (h : deqo n d e = some b) : (∀ k, d ≠ .ref k) ∧ ∀ k, e ≠ .ref k := by
  refine ⟨fun k z => ?_, fun k z => ?_⟩
  · subst z
    cases n <;> simp [deqo, okq] at h
  · subst z
    cases n with
    | zero => cases d <;> simp [deqo, okq] at h
    | succ n => cases d <;> simp [deqo, okq] at h
theorem allo_same {f : D → D → Option Bool} (hf : ∀ d e b v, f d e = some b → RV X.K H μ F d v → RV X.K H μ F e v → b = true) : ∀ {ds es : List D} {xs : List V} {k : Bool}, allo f (ds.zip es) = some k → RVs X.K H μ F ds xs → RVs X.K H μ F es xs → k = true
  | [], es, xs, k, h, r1, r2 => by cases h; rfl
  | d :: ds, [], xs, k, h, r1, r2 => by cases h; rfl
  | d :: ds, e :: es, xs, k, h, r1, r2 => by
    obtain ⟨x, xs', e1, a1, a2⟩ := r1
    obtain ⟨y, ys', e2, b1, b2⟩ := r2
    subst e1
    cases e2
    obtain ⟨z, h1, h2⟩ := Option.bind_eq_some_iff.mp (show ((f d e).bind fun x => (allo f (ds.zip es)).map fun y => x && y) = some k from h)
    obtain ⟨z2, h3, h4⟩ := Option.map_eq_some_iff.mp h2
    subst h4
    rw [hf d e z x h1 a1 b1, allo_same hf h3 a2 b2]
    rfl
theorem hito_same {f : D → D → Option Bool} (hf : ∀ d e b v, f d e = some b → RV X.K H μ F d v → RV X.K H μ F e v → b = true) {b : List (D × D)} {yb : List (Key × V)} (rb : RVd X.K H μ F b yb) :
    ∀ {a : List (D × D)} {xa : List (Key × V)} {k : Bool}, (∀ q y, (q, y) ∈ xa → valV yb q = some y) → hito f b a = some k → RVd X.K H μ F a xa → k = true
  | [], xa, k, hs, h, r => by cases h; rfl
  | (kd, v) :: a, xa, k, hs, h, r => by
    obtain ⟨q0, y, ys, e, r1, r2, r3⟩ := r
    subst e
    have hk := RV_key r1
    unfold hito at h
    rw [hk] at h
    dsimp only at h
    obtain ⟨g1, g2⟩ := rb.get (q := q0)
    have e0 := hs q0 y List.mem_cons_self
    cases hg : dgetK q0 b with
    | none =>
      rw [g2 hg] at e0
      cases e0
    | some w =>
      rw [hg] at h
      obtain ⟨yw, e1, e2⟩ := g1 w hg
      rw [e1] at e0
      cases e0
      obtain ⟨z, h1, h2⟩ := Option.bind_eq_some_iff.mp h
      obtain ⟨z2, h3, h4⟩ := Option.map_eq_some_iff.mp h2
      subst h4
      rw [hf v w z y h1 r2 e2, hito_same hf rb (fun q y hq => hs q y (List.mem_cons_of_mem _ hq)) h3 r3]
      rfl
theorem valV_of_nodup : ∀ {xs : List (Key × V)}, (xs.map (·.1)).Nodup → ∀ q y, (q, y) ∈ xs → valV xs q = some y
  | [], _, q, y, h => by cases h
  | (p, z) :: xs, hn, q, y, h => by
    rw [List.map_cons, List.nodup_cons] at hn
    rcases List.mem_cons.mp h with e | h
    · cases e
      exact valV_pos rfl
    · rw [valV_neg (fun e => hn.1 (by rw [show p = q from e]; exact List.mem_map.mpr ⟨(q, y), h, rfl⟩))]
      exact valV_of_nodup hn.2 q y h
theorem rd_inj {H : Hp} {a : Addr} {xs ys : List (Key × V)} (h : Rd H a (.dK xs)) (k : Rd H a (.dK ys)) : xs = ys := by
  rcases h with h | ⟨o, h⟩ <;> rcases k with k | ⟨o2, k⟩ <;> rw [h] at k <;> cases k <;> rfl
theorem deqo_same (I : Inv X pins σ H s) : ∀ (n : Nat) (d e : D) (b : Bool) (v : V), deqo n d e = some b → DR X.K H μ F d v → DR X.K H μ F e v → b = true := by
  intro n
  induction n with
  | zero =>
    intro d e b v h r1 r2
    unfold deqo at h
    split at h
    · rename_i hc
      rw [Bool.and_eq_true] at hc
      cases h
      have := deq_same I d e 0 0 v hc.1 hc.2 r1 r2
      subst this
      exact deq_refl 0 d hc.1
    · cases h
  | succ n ih =>
    intro d e b v h r1 r2
    have hf : ∀ d e b v, deqo n d e = some b → RV X.K H μ F d v → RV X.K H μ F e v → b = true := fun d e b v h a c => ih d e b v h (a.dr (deqo_ref h).1) (c.dr (deqo_ref h).2)
    unfold deqo at h
    split at h
    · rename_i hc
      rw [Bool.and_eq_true] at hc
      cases h
      have := deq_same I d e (n + 1) (n + 1) v hc.1 hc.2 r1 r2
      subst this
      exact deq_refl (n + 1) d hc.1
    · split at h
      · rename_i ds es
        obtain ⟨a, xs, e1, q1, p1⟩ := r1
        obtain ⟨a2, xs2, e2, q2, p2⟩ := r2
        rw [e1] at e2; cases e2
        have := I.tuple_inj q1 q2
        subst this
        obtain ⟨z, h1, h2⟩ := Option.map_eq_some_iff.mp h
        subst h2
        rw [allo_same hf h1 p1 p2, p1.length.symm.trans p2.length]
        simp
      · rename_i ds es
        obtain ⟨a, xs, e1, q1, p1⟩ := r1
        obtain ⟨a2, xs2, e2, q2, p2⟩ := r2
        rw [e1] at e2; cases e2
        rw [q1] at q2; cases q2
        rw [if_pos (p1.length.symm.trans p2.length)] at h
        exact allo_same hf h p1 p2
      · rename_i ka kb
        obtain ⟨a, xs, e1, q1, p1⟩ := r1
        obtain ⟨a2, xs2, e2, q2, p2⟩ := r2
        rw [e1] at e2; cases e2
        have := rd_inj q1 q2
        subst this
        rw [if_pos (p1.length.symm.trans p2.length)] at h
        obtain ⟨_, _, vs, kv, o, es, ep, _, _, _, _, _, nd⟩ := dk_rd I.hok q1
        refine hito_same hf p2 (valV_of_nodup ?_) h p1
        rw [KV.keys kv]
        exact nd
      · cases h
end
end Dn

namespace Dn
open PySem PySem.Spec L2
open PyProof.Rows hiding St RelV
section
variable {X : Cx} {pins : List (Addr × Obj)} {σ : St} {H : Hp} {s : Shared} {μ : Mu} {F : Addr → Prop}
/-- == at one place -/
abbrev RcP (X : Cx) (A : Around) (s : Shared) (u u' : Value) (b : Bool) : Prop := ∀ (E Q : Value → Shared → Prop), Q (.bool b) s → wpAny (model X.prog X.w) A (richCompare .Eq u u') Q E s
theorem eqL_all {A : Around} {us vs : List Value} (hl : us.length = vs.length) : ∀ {k : Bool}, EqL X.prog X.w A s (us.zip vs) k → ∃ e : Nat → Bool, k = (List.range us.length).all e ∧ ∀ j (h1 : j < us.length) (h2 : j < vs.length), SeqAt.EqP X.prog X.w A s us[j] vs[j] (e j) := by
  induction us generalizing vs with
  | nil =>
    intro k h
    cases h
    exact ⟨fun _ => true, rfl, fun j h1 => absurd h1 (Nat.not_lt_zero _)⟩
  | cons u us ih =>
    intro k h
    cases vs with
    | nil => cases hl
    | cons v vs =>
      obtain ⟨e, c, h1, h2, h3⟩ := h.step
      obtain ⟨g, q1, q2⟩ := ih (by simpa using hl) h2
      refine ⟨fun j => match j with
        | 0 => e
        | j + 1 => g j, ?_, fun j => ?_⟩
      · rw [h3, q1, List.length_cons, List.range_succ_eq_map, List.all_cons, List.all_map]
        rfl
      · cases j with
        | zero => exact fun _ _ => h1
        | succ j => exact fun a b => q2 j (by simpa using a) (by simpa using b)
theorem deqo_at (I : Inv X pins σ H s) : ∀ (n : Nat) (d e : D) (b : Bool) (A : Around) (v w : V) (u u' : Value), deqo n d e = some b → DR X.K H μ F d v → DR X.K H μ F e w → RelV v u → RelV w u' → A.units + n + 1 < cLine →
    SeqAt.EqP X.prog X.w A s u u' b ∧ RcP X A s u u' b := by
  have flat : ∀ (n : Nat) (d e : D) (A : Around) (v w : V) (u u' : Value), (okq n d && okq n e) = true → DR X.K H μ F d v → DR X.K H μ F e w → RelV v u → RelV w u' → A.units + n + 1 < cLine → SeqAt.EqP X.prog X.w A s u u' (deq d e) ∧ RcP X A s u u' (deq d e) := fun n d e A v w u u' hc r1 r2 q1 q2 hu => by
    rw [Bool.and_eq_true] at hc
    obtain ⟨h1, h2⟩ := deq_at I n d e A v w u u' hc.1 hc.2 r1 r2 q1 q2 hu
    exact ⟨h1.eqP, fun E Q q => h2 _ _ _ _ q⟩
  intro n
  induction n with
  | zero =>
    intro d e b A v w u u' h r1 r2 q1 q2 hu
    unfold deqo at h
    split at h
    · rename_i hc
      cases h
      exact flat 0 d e A v w u u' hc r1 r2 q1 q2 hu
    · cases h
  | succ n ih =>
    intro d e b A v w u u' h0 r1 r2 q1 q2 hu
    have h := h0
    have hu0 : A.units < cLine := by omega
    have hf : ∀ d e b v w u u', deqo n d e = some b → RV X.K H μ F d v → RV X.K H μ F e w → RelV v u → RelV w u' → SeqAt.EqP X.prog X.w A.in1 s u u' b := fun d e b v w u u' h a c q1 q2 => (ih d e b A.in1 v w u u' h (a.dr (deqo_ref h).1) (c.dr (deqo_ref h).2) q1 q2 (by show A.units + 1 + n + 1 < cLine; omega)).1
    unfold deqo at h
    split at h
    · rename_i hc
      cases h
      exact flat (n + 1) d e A v w u u' hc r1 r2 q1 q2 hu
    · split at h
      · rename_i ds es _
        have hd := r1
        have he := r2
        obtain ⟨a, xs, e1, s1, p1⟩ := r1
        obtain ⟨a2, ys, e2, s2, p2⟩ := r2
        subst e1
        subst e2
        cases (show u = Value.ref a from q1)
        cases (show u' = Value.ref a2 from q2)
        obtain ⟨its, va, t1, _⟩ := I.tuple s1
        obtain ⟨its2, vb, t2, _⟩ := I.tuple s2
        obtain ⟨z, h1, h2⟩ := Option.map_eq_some_iff.mp h
        have rc : RcP X A s (.ref a) (.ref a2) b := fun E Q q => by
          refine rcP_tuples (k := z) t1 t2 hu0 (by simpa using allo_eqL hf h1 p1 p2 va vb) E Q ?_
          have l1 := va.length
          have l2 := vb.length
          have l3 := p1.length
          have l4 := p2.length
          rw [List.size_toArray, List.size_toArray, ← l1, ← l2, l3, l4, h2]
          exact q
        refine ⟨?_, rc⟩
        by_cases hab : a = a2
        · subst hab
          rw [deqo_same I (n + 1) _ _ b _ h0 hd he]
          exact (SeqAt.EqAt.same _).eqP
        · exact SeqAt.eqP_refs hab rc
      · rename_i ds es _
        have hd := r1
        have he := r2
        obtain ⟨a, xs, e1, s1, p1⟩ := r1
        obtain ⟨a2, ys, e2, s2, p2⟩ := r2
        subst e1
        subst e2
        cases (show u = Value.ref a from q1)
        cases (show u' = Value.ref a2 from q2)
        obtain ⟨its, va, t1, _⟩ := I.list (.inl (.inl s1))
        obtain ⟨its2, vb, t2, _⟩ := I.list (.inl (.inl s2))
        have l1 := va.length
        have l2 := vb.length
        have l3 := p1.length
        have l4 := p2.length
        have rc : RcP X A s (.ref a) (.ref a2) b := fun E Q q => by
          split at h
          · obtain ⟨g, g1, g2⟩ := eqL_all (by omega) (allo_eqL hf h p1 p2 va vb)
            refine SeqAt.rcP_lists (e := g) t1.isList t2.isList (by simp only [List.size_toArray]; omega) hu0 (fun j h1 h2 => by simpa using g2 j (by simpa using h1) (by simpa using h2)) E Q ?_
            rw [List.size_toArray, ← g1]
            exact q
          · cases h
            exact SeqAt.RcAt.lists_lengths t1.isList t2.isList (by simp only [List.size_toArray, bne_iff_ne, ne_eq]; omega) hu0 _ _ _ _ q
        refine ⟨?_, rc⟩
        by_cases hab : a = a2
        · subst hab
          rw [deqo_same I (n + 1) _ _ b _ h0 hd he]
          exact (SeqAt.EqAt.same _).eqP
        · exact SeqAt.eqP_refs hab rc
      · rename_i ka kb _
        have hd := r1
        have he := r2
        obtain ⟨a, xs, e1, s1, p1⟩ := r1
        obtain ⟨a2, ys, e2, s2, p2⟩ := r2
        subst e1
        subst e2
        cases (show u = Value.ref a from q1)
        cases (show u' = Value.ref a2 from q2)
        obtain ⟨_, m1, vs, kv, do1⟩ := dk_rd I.hok s1
        obtain ⟨_, m2, vs2, kv2, do2⟩ := dk_rd I.hok s2
        have l1 := Paired.length kv
        have l2 := Paired.length kv2
        have l3 := p1.length
        have l4 := p2.length
        have rc : RcP X A s (.ref a) (.ref a2) b := fun E Q q => by
          split at h
          · refine PySem.W.rcP_dicts (r := b) m1 m2 do1 do2 hu0 (fun _ => hito_hits hf p2 kv2 h p1 kv) E Q ?_
            rw [show vs.length = vs2.length by omega, beq_self_eq_true, Bool.true_and]
            exact q
          · rename_i hl
            cases h
            have hne : ¬ vs.length = vs2.length := by omega
            refine PySem.W.rcP_dicts (r := true) m1 m2 do1 do2 hu0 (fun z => absurd z hne) E Q ?_
            rw [show (vs.length == vs2.length) = false from beq_eq_false_iff_ne.mpr hne, Bool.false_and]
            exact q
        refine ⟨?_, rc⟩
        by_cases hab : a = a2
        · subst hab
          rw [deqo_same I (n + 1) _ _ b _ h0 hd he]
          exact (SeqAt.EqAt.same _).eqP
        · exact SeqAt.eqP_refs hab rc
      · cases h
end
end Dn

namespace Dn
open PySem PySem.Spec L2
open PyProof.Rows hiding St RelV
/-- == with dicts -/
def deqD (d e : D) : Option D := (deqo 60 d e).map D.bl
def eEq2 (a b : E) : E := fun ρ s => (a ρ s).bind fun x s => (b ρ s).bind fun y s => Res.of (deqD (der s x) (der s y)) s
section
variable {X : Cx} {W : WX} {a b : Expr} {ma mb : E} {pos : Pos}
theorem deqD_ok (hu : X.A.units + 64 < cLine) : V2 X (compareOp .Eq) deqD := by
  intro pins s σ H x y v u Q I rx ry h
  obtain ⟨μ, F, st, d, e, r, rs, hd, he, hg, q⟩ := h
  obtain ⟨k, hk, e1⟩ := Option.map_eq_some_iff.mp hg
  subst e1
  refine (deqo_at I 60 _ _ k X.A x y v u hk (hd.dr rs) (he.dr rs) rx ry (by omega)).2 _ _ ⟨.bl k, H, I, rfl, q _ H μ .refl rs (RV_bl _)⟩
theorem se_eq2 (hu : X.A.units + 64 < cLine) (ha : SR X W a ma) (hb : SR X W b mb) (hm : behindInMarks .Eq b = false := by first | exact nomark _ | rfl) : SE X W (.Compare a [.Eq] [b] pos) (eEq2 ma mb) :=
  PE.of (pe_cmpR (deqD_ok hu) ha hb hm) fun σ H Q h => two_at h
theorem st_eq2 (hu : X.A.units + 64 < cLine) (ha : SR X W a ma) (hb : SR X W b mb) (hm : behindInMarks .Eq b = false := by first | exact nomark _ | rfl) : ST X W (.Compare a [.Eq] [b] pos) (eIs (eEq2 ma mb)) :=
  PT.of (pt_cmpR (deqD_ok hu) ha hb hm) fun σ H Q h => two_at (bool_at (fun _ _ _ _ _ h => by unfold RV at h; exact h) h)
end
end Dn

/-! Dn: more steps. -/
namespace Dn
open PySem PySem.Spec L2
open PyProof.Rows hiding St RelV
section
variable {P : D → Store → Prop} {PL : List D → Store → Prop} {PB : Bool → Store → Prop} {N : Loc → Store → Prop} {R : D → Store → Prop} {ρ : Loc} {s : Store} {d : D} {i : Nat} {e : E}
theorem wp_rdo {b : Bool} (h0 : ρ[i]? = some (.ow b d)) (h : P d s) : Wp (eRd i ρ s) P := by unfold eRd; rw [h0]; exact h
theorem ws_own (h : Wp (e ρ s) fun d s => N (ρ.set i (.ow false d)) s) : Ws (sOwn i e ρ s) N R := wp_to h
theorem ws_app {b : Bool} {ds : List D} (h0 : ρ[i]? = some (.ow b (.lst ds))) (h : Wp (e ρ s) fun d s => ds.length < line ∧ N (ρ.set i (.ow b (.lst (ds ++ [d])))) s) : Ws (sApp i e ρ s) N R := by
  unfold sApp owOf
  rw [h0]
  refine wp_to (wp_mono h fun d s q => ?_)
  rw [if_pos q.1]
  exact q.2
theorem ws_frz {m : S} (h0 : ρ[i]? = some (.ow false d)) (h : Ws (m (ρ.set i (.pu d)) s) N R) : Ws (bFrz i m ρ s) N R := by
  unfold bFrz frzL
  rw [h0]
  exact h
theorem ws_frzp {m : S} (h0 : ρ[i]? = some (.pu d)) (h : Ws (m ρ s) N R) : Ws (bFrz i m ρ s) N R := by
  unfold bFrz frzL
  rw [h0]
  exact h
theorem ws_putO {b : Bool} {c : D} {k : E} (h0 : ρ[i]? = some (.ow b c)) (h : Wp (e ρ s) fun d s => Wp (k ρ s) fun j s => ∃ c', putIx c (der s j) d = some c' ∧ N (ρ.set i (.ow b c')) s) : Ws (sPutO i e k ρ s) N R := by
  unfold sPutO owOf
  rw [h0]
  refine wp_to (wp_mono h fun d s q => ?_)
  refine wp_to (wp_mono q fun j s ⟨c', e1, n⟩ => ?_)
  rw [e1]
  exact n
theorem ws_par3 {j l : Nat} {es : EL} (h : Wp (es ρ s) fun ds s => ∃ d e f, ds = [d, e, f] ∧ N (((ρ.set i (.pu d)).set j (.pu e)).set l (.pu f)) s) : Ws (sPar3 i j l es ρ s) N R := wp_to (wp_mono h fun ds s ⟨d, e, f, q, n⟩ => by
  subst q; exact n)
theorem wp_sl {l u : EP'} (h : Wp (e ρ s) fun x s => Wp (l ρ s) fun lo s => Wp (u ρ s) fun hi s => ∃ r, cutOf (der s x) lo hi = some r ∧ P r s) : Wp (eSl e l u ρ s) P := by
  unfold eSl
  rw [wp_bind]
  refine wp_mono h fun x s q => ?_
  rw [wp_bind]
  refine wp_mono q fun lo s q => ?_
  rw [wp_bind]
  exact wp_mono q fun hi s ⟨r, e, p⟩ => by rw [e]; exact p
theorem wp_noPart {PO : Option Int → Store → Prop} (h : PO none s) : Wp (eNoPart ρ s) PO := h
theorem wp_part {PO : Option Int → Store → Prop} (h : Wp (e ρ s) fun d s => ∃ i : Int, d = .int i ∧ PO (some i) s) : Wp (ePart e ρ s) PO := by
  unfold ePart
  rw [wp_bind]
  exact wp_mono h fun d s ⟨i, e, p⟩ => by subst e; exact p
theorem wp_rev (h : Wp (e ρ s) fun x s => ∃ r, revOf (der s x) = some r ∧ P r s) : Wp (eRev e ρ s) P := by
  unfold eRev
  rw [wp_bind]
  exact wp_mono h fun x s ⟨r, e, p⟩ => by rw [e]; exact p
theorem wp_keys (h : Wp (e ρ s) fun x s => ∃ r, keysD (der s x) = some r ∧ P r s) : Wp (eKeys e ρ s) P := by
  unfold eKeys
  rw [wp_bind]
  exact wp_mono h fun x s ⟨r, e, p⟩ => by rw [e]; exact p
theorem wp_eq2 {a b : E} (h : Wp (a ρ s) fun x s => Wp (b ρ s) fun y s => ∃ r, deqD (der s x) (der s y) = some r ∧ P r s) : Wp (eEq2 a b ρ s) P := by
  unfold eEq2
  rw [wp_bind]
  refine wp_mono h fun x s q => ?_
  rw [wp_bind]
  exact wp_mono q fun y s ⟨r, e, p⟩ => by rw [e]; exact p
theorem wp_iStrD (h : Wp (e ρ s) fun d s => ∃ z, d = .str z ∧ PL (strSigns z) s) : Wp (iStrD e ρ s) PL := by
  unfold iStrD
  rw [wp_bind]
  exact wp_mono h fun d s ⟨z, e, p⟩ => by subst e; exact p
theorem wp_dic0 (h : P (.dic []) s) : Wp (eDic0 ρ s) P := h
theorem wp_enum {es : EL} (h : Wp (es ρ s) fun ds s => ∃ xs, ds = [.lst xs] ∧ PL (enumD 0 xs) s) : Wp (iEnum es ρ s) PL := by
  unfold iEnum
  rw [wp_bind]
  exact wp_mono h fun ds s ⟨xs, e, p⟩ => by subst e; exact p
end
end Dn

set_option maxHeartbeats 4000000
/-! Dn: the laws' own helpers (k31 and later). -/
namespace Dn
open PySem PySem.Spec L2
open PyProof.Rows hiding St RelV
def m_pick31 : S := sRet (eIx (eRd 1) (eCall (argsM 2 0 [0, 1] [] M_drw31) (eCons (eLoc 0) (eCons (eBt gLen (eCons (eRd 1) (eNil))) (eNil)))))
def M_pick31 : M := fnM 2 m_pick31
def m_num31 : S := bCons (sIf (eIs (eCmp .Gt (eCall (argsM 2 0 [0, 1] [] M_drw31) (eCons (eLoc 0) (eCons (eC (.int 3)) (eNil)))) (eC (.int 0)))) (sRet (eBin .Sub (eCall (argsM 2 0 [0, 1] [] M_drw31) (eCons (eLoc 0) (eCons (eC (.int 9)) (eNil)))) (eC (.int 4)))) (bNil)) <|
  sRet (eBin .Add (eBin .Sub (eCall (argsM 2 0 [0, 1] [] M_drw31) (eCons (eLoc 0) (eCons (eBin .Sub (eBin .Mult (eC (.int 2)) (eRd 1)) (eC (.int 1))) (eNil)))) (eRd 1)) (eC (.int 1)))
def M_num31 : M := fnM 2 m_num31
def m_word31 : S := bCons (sSet 2 (eC (.str "abcdefghijklmnopqrstuvwxyz"))) <| bCons (sSet 3 (eMt "str" gJoin (eC (.str "")) (eCons (eLc (.nm 5) (iRng1 (eCons (eBin .Add (eC (.int 1)) (eCall (argsM 2 0 [0, 1] [] M_drw31) (eCons (eLoc 0) (eCons (eC (.int 8)) (eNil))))) (eNil))) (eYes) (eIx (eRd 2) (eCall (argsM 2 0 [0, 1] [] M_drw31) (eCons (eLoc 0) (eCons (eC (.int 26)) (eNil))))) [5]) (eNil)))) <|
  bCons (sFor (.nm 4) (iStrD (eLoc 2)) (sIf (eIs (eCmp .In (eRd 3) (eRd 1))) (sSet 3 (eBin .Add (eRd 4) (eSl (eRd 3) (ePart (eC (.int 1))) (eNoPart)))) (bNil))) <| sRet (eLoc 3)
def M_word31 : M := fnM 6 m_word31
def m_words31 : S := bCons (sOwn 3 (eLst (eNil))) <| bCons (sFor (.nm 4) (iRng1 (eCons (eLoc 1) (eNil))) (sApp 3 (eCall (argsM 2 0 [0, 1] [] M_word31) (eCons (eLoc 0) (eCons (eBin .Add (eRd 2) (eRd 3)) (eNil)))))) <| bFrz 3 (sRet (eLoc 3))
def M_words31 : M := fnM 5 m_words31

theorem wp_pick31 {s : Store} {n k : Nat} (S : SrcB s n k) (hk : k < 100000000) {ds : List D} (k0 : 0 < ds.length) (k1 : ds.length < 1000000000) {P : D → Store → Prop} (h : ∀ d s', d ∈ ds → s'.length = s.length → SrcB s' n (k + 1) → P d s') : Wp (M_pick31 [.ref n, .lst ds] s) P := by
  refine wp_fn ?_
  show Ws (m_pick31 [.pu (.ref n), .pu (.lst ds)] s) _ P
  unfold m_pick31
  (repeat (first | with_reducible refine wp_cons ?_ | with_reducible refine wp_nil ?_ | with_reducible refine wp_C ?_ | with_reducible refine wp_call ?_ | with_reducible refine wp_tup ?_ | with_reducible refine wp_lst ?_ | with_reducible refine wp_if ?_ | with_reducible refine wp_bin ?_ | with_reducible refine wp_cmp ?_ | with_reducible refine wp_ix ?_ | with_reducible refine wp_bt ?_ | with_reducible refine wp_mt ?_ | with_reducible refine wp_is ?_ | with_reducible refine wp_tru ?_ | with_reducible refine wp_not ?_ | with_reducible refine wp_or ?_ | with_reducible refine wp_and ?_ | with_reducible refine wp_rng1 ?_ | with_reducible refine wp_yes ?_ | with_reducible refine wp_lc ?_ | with_reducible refine wp_iLst ?_ | with_reducible refine wp_neg ?_ | with_reducible refine wp_isi ?_ | with_reducible refine wp_sl ?_ | with_reducible refine wp_noPart ?_ | with_reducible refine wp_part ?_ | with_reducible refine wp_rev ?_ | with_reducible refine wp_keys ?_ | with_reducible refine wp_eq2 ?_ | with_reducible refine wp_iStrD ?_ | with_reducible refine wp_dic0 ?_ | with_reducible refine wp_enum ?_ | with_reducible refine ws_seq ?_ | with_reducible refine ws_nil ?_ | with_reducible refine ws_set ?_ | with_reducible refine ws_ret ?_ | with_reducible refine ws_if ?_ | with_reducible refine ws_asg ?_ | with_reducible refine ws_par2 ?_ | with_reducible refine ws_par3 ?_ | with_reducible refine ws_own ?_ | with_reducible refine ws_for ?_ | ((with_reducible apply ws_app); (· exact rfl)) | ((with_reducible apply ws_putO); (· exact rfl)) | ((with_reducible apply ws_frz); (· exact rfl)) | ((with_reducible apply ws_frzp); (· exact rfl)) | ((with_reducible apply wp_loc); (· exact rfl)) | ((with_reducible apply wp_rd); (· exact rfl)) | ((with_reducible apply wp_rdo); (· exact rfl)) | ((with_reducible apply wp_args); (· exact rfl); (· exact rfl); (· exact rfl))))
  refine ⟨.int ds.length, rfl, ?_⟩
  (repeat (first | with_reducible refine wp_cons ?_ | with_reducible refine wp_nil ?_ | with_reducible refine wp_C ?_ | with_reducible refine wp_call ?_ | with_reducible refine wp_tup ?_ | with_reducible refine wp_lst ?_ | with_reducible refine wp_if ?_ | with_reducible refine wp_bin ?_ | with_reducible refine wp_cmp ?_ | with_reducible refine wp_ix ?_ | with_reducible refine wp_bt ?_ | with_reducible refine wp_mt ?_ | with_reducible refine wp_is ?_ | with_reducible refine wp_tru ?_ | with_reducible refine wp_not ?_ | with_reducible refine wp_or ?_ | with_reducible refine wp_and ?_ | with_reducible refine wp_rng1 ?_ | with_reducible refine wp_yes ?_ | with_reducible refine wp_lc ?_ | with_reducible refine wp_iLst ?_ | with_reducible refine wp_neg ?_ | with_reducible refine wp_isi ?_ | with_reducible refine wp_sl ?_ | with_reducible refine wp_noPart ?_ | with_reducible refine wp_part ?_ | with_reducible refine wp_rev ?_ | with_reducible refine wp_keys ?_ | with_reducible refine wp_eq2 ?_ | with_reducible refine wp_iStrD ?_ | with_reducible refine wp_dic0 ?_ | with_reducible refine wp_enum ?_ | with_reducible refine ws_seq ?_ | with_reducible refine ws_nil ?_ | with_reducible refine ws_set ?_ | with_reducible refine ws_ret ?_ | with_reducible refine ws_if ?_ | with_reducible refine ws_asg ?_ | with_reducible refine ws_par2 ?_ | with_reducible refine ws_par3 ?_ | with_reducible refine ws_own ?_ | with_reducible refine ws_for ?_ | ((with_reducible apply ws_app); (· exact rfl)) | ((with_reducible apply ws_putO); (· exact rfl)) | ((with_reducible apply ws_frz); (· exact rfl)) | ((with_reducible apply ws_frzp); (· exact rfl)) | ((with_reducible apply wp_loc); (· exact rfl)) | ((with_reducible apply wp_rd); (· exact rfl)) | ((with_reducible apply wp_rdo); (· exact rfl)) | ((with_reducible apply wp_args); (· exact rfl); (· exact rfl); (· exact rfl))))
  refine wp_drw31 S hk (by omega) (by omega) fun d s' h0 h1 h2 h3 => ?_
  have e : atI ds d = some ds[d.toNat] := by
    unfold atI
    rw [ixN_at h0 h1]
    simp [show d.toNat < ds.length by omega]
  exact ⟨ds[d.toNat], e, h _ _ (List.getElem_mem _) h2 h3⟩
theorem wp_num31 {s : Store} {n k : Nat} (S : SrcB s n k) (hk : k < 90000000) {lim : Int} (l0 : 0 < lim) (l1 : lim < 2 ^ 190) {P : D → Store → Prop} (h : ∀ (i : Int) s', s'.length = s.length → SrcB s' n (k + 2) → (-lim < i ∧ i < lim ∨ -4 ≤ i ∧ i ≤ 4) → P (.int i) s') : Wp (M_num31 [.ref n, .int lim] s) P := by
  refine wp_fn ?_
  show Ws (m_num31 [.pu (.ref n), .pu (.int lim)] s) _ P
  unfold m_num31
  (repeat (first | with_reducible refine wp_cons ?_ | with_reducible refine wp_nil ?_ | with_reducible refine wp_C ?_ | with_reducible refine wp_call ?_ | with_reducible refine wp_tup ?_ | with_reducible refine wp_lst ?_ | with_reducible refine wp_if ?_ | with_reducible refine wp_bin ?_ | with_reducible refine wp_cmp ?_ | with_reducible refine wp_ix ?_ | with_reducible refine wp_bt ?_ | with_reducible refine wp_mt ?_ | with_reducible refine wp_is ?_ | with_reducible refine wp_tru ?_ | with_reducible refine wp_not ?_ | with_reducible refine wp_or ?_ | with_reducible refine wp_and ?_ | with_reducible refine wp_rng1 ?_ | with_reducible refine wp_yes ?_ | with_reducible refine wp_lc ?_ | with_reducible refine wp_iLst ?_ | with_reducible refine wp_neg ?_ | with_reducible refine wp_isi ?_ | with_reducible refine wp_sl ?_ | with_reducible refine wp_noPart ?_ | with_reducible refine wp_part ?_ | with_reducible refine wp_rev ?_ | with_reducible refine wp_keys ?_ | with_reducible refine wp_eq2 ?_ | with_reducible refine wp_iStrD ?_ | with_reducible refine wp_dic0 ?_ | with_reducible refine wp_enum ?_ | with_reducible refine ws_seq ?_ | with_reducible refine ws_nil ?_ | with_reducible refine ws_set ?_ | with_reducible refine ws_ret ?_ | with_reducible refine ws_if ?_ | with_reducible refine ws_asg ?_ | with_reducible refine ws_par2 ?_ | with_reducible refine ws_par3 ?_ | with_reducible refine ws_own ?_ | with_reducible refine ws_for ?_ | ((with_reducible apply ws_app); (· exact rfl)) | ((with_reducible apply ws_putO); (· exact rfl)) | ((with_reducible apply ws_frz); (· exact rfl)) | ((with_reducible apply ws_frzp); (· exact rfl)) | ((with_reducible apply wp_loc); (· exact rfl)) | ((with_reducible apply wp_rd); (· exact rfl)) | ((with_reducible apply wp_rdo); (· exact rfl)) | ((with_reducible apply wp_args); (· exact rfl); (· exact rfl); (· exact rfl))))
  refine wp_drw31 S (by omega) (by decide) (by decide) fun d s1 h0 h1 h2 S1 => ?_
  (repeat (first | with_reducible refine wp_cons ?_ | with_reducible refine wp_nil ?_ | with_reducible refine wp_C ?_ | with_reducible refine wp_call ?_ | with_reducible refine wp_tup ?_ | with_reducible refine wp_lst ?_ | with_reducible refine wp_if ?_ | with_reducible refine wp_bin ?_ | with_reducible refine wp_cmp ?_ | with_reducible refine wp_ix ?_ | with_reducible refine wp_bt ?_ | with_reducible refine wp_mt ?_ | with_reducible refine wp_is ?_ | with_reducible refine wp_tru ?_ | with_reducible refine wp_not ?_ | with_reducible refine wp_or ?_ | with_reducible refine wp_and ?_ | with_reducible refine wp_rng1 ?_ | with_reducible refine wp_yes ?_ | with_reducible refine wp_lc ?_ | with_reducible refine wp_iLst ?_ | with_reducible refine wp_neg ?_ | with_reducible refine wp_isi ?_ | with_reducible refine wp_sl ?_ | with_reducible refine wp_noPart ?_ | with_reducible refine wp_part ?_ | with_reducible refine wp_rev ?_ | with_reducible refine wp_keys ?_ | with_reducible refine wp_eq2 ?_ | with_reducible refine wp_iStrD ?_ | with_reducible refine wp_dic0 ?_ | with_reducible refine wp_enum ?_ | with_reducible refine ws_seq ?_ | with_reducible refine ws_nil ?_ | with_reducible refine ws_set ?_ | with_reducible refine ws_ret ?_ | with_reducible refine ws_if ?_ | with_reducible refine ws_asg ?_ | with_reducible refine ws_par2 ?_ | with_reducible refine ws_par3 ?_ | with_reducible refine ws_own ?_ | with_reducible refine ws_for ?_ | ((with_reducible apply ws_app); (· exact rfl)) | ((with_reducible apply ws_putO); (· exact rfl)) | ((with_reducible apply ws_frz); (· exact rfl)) | ((with_reducible apply ws_frzp); (· exact rfl)) | ((with_reducible apply wp_loc); (· exact rfl)) | ((with_reducible apply wp_rd); (· exact rfl)) | ((with_reducible apply wp_rdo); (· exact rfl)) | ((with_reducible apply wp_args); (· exact rfl); (· exact rfl); (· exact rfl))))
  refine ⟨.bl (decide (0 < d)), rfl, _, rfl, ?_⟩
  by_cases hd : 0 < d
  · rw [decide_eq_true hd, if_pos rfl]
    (repeat (first | with_reducible refine wp_cons ?_ | with_reducible refine wp_nil ?_ | with_reducible refine wp_C ?_ | with_reducible refine wp_call ?_ | with_reducible refine wp_tup ?_ | with_reducible refine wp_lst ?_ | with_reducible refine wp_if ?_ | with_reducible refine wp_bin ?_ | with_reducible refine wp_cmp ?_ | with_reducible refine wp_ix ?_ | with_reducible refine wp_bt ?_ | with_reducible refine wp_mt ?_ | with_reducible refine wp_is ?_ | with_reducible refine wp_tru ?_ | with_reducible refine wp_not ?_ | with_reducible refine wp_or ?_ | with_reducible refine wp_and ?_ | with_reducible refine wp_rng1 ?_ | with_reducible refine wp_yes ?_ | with_reducible refine wp_lc ?_ | with_reducible refine wp_iLst ?_ | with_reducible refine wp_neg ?_ | with_reducible refine wp_isi ?_ | with_reducible refine wp_sl ?_ | with_reducible refine wp_noPart ?_ | with_reducible refine wp_part ?_ | with_reducible refine wp_rev ?_ | with_reducible refine wp_keys ?_ | with_reducible refine wp_eq2 ?_ | with_reducible refine wp_iStrD ?_ | with_reducible refine wp_dic0 ?_ | with_reducible refine wp_enum ?_ | with_reducible refine ws_seq ?_ | with_reducible refine ws_nil ?_ | with_reducible refine ws_set ?_ | with_reducible refine ws_ret ?_ | with_reducible refine ws_if ?_ | with_reducible refine ws_asg ?_ | with_reducible refine ws_par2 ?_ | with_reducible refine ws_par3 ?_ | with_reducible refine ws_own ?_ | with_reducible refine ws_for ?_ | ((with_reducible apply ws_app); (· exact rfl)) | ((with_reducible apply ws_putO); (· exact rfl)) | ((with_reducible apply ws_frz); (· exact rfl)) | ((with_reducible apply ws_frzp); (· exact rfl)) | ((with_reducible apply wp_loc); (· exact rfl)) | ((with_reducible apply wp_rd); (· exact rfl)) | ((with_reducible apply wp_rdo); (· exact rfl)) | ((with_reducible apply wp_args); (· exact rfl); (· exact rfl); (· exact rfl))))
    refine wp_drw31 S1 (by omega) (by decide) (by decide) fun d2 s2 g0 g1 g2 S2 => ?_
    exact ⟨.int (d2 - 4), rfl, h _ _ (g2.trans h2) S2 (by omega)⟩
  · rw [decide_eq_false hd, if_neg Bool.false_ne_true]
    (repeat (first | with_reducible refine wp_cons ?_ | with_reducible refine wp_nil ?_ | with_reducible refine wp_C ?_ | with_reducible refine wp_call ?_ | with_reducible refine wp_tup ?_ | with_reducible refine wp_lst ?_ | with_reducible refine wp_if ?_ | with_reducible refine wp_bin ?_ | with_reducible refine wp_cmp ?_ | with_reducible refine wp_ix ?_ | with_reducible refine wp_bt ?_ | with_reducible refine wp_mt ?_ | with_reducible refine wp_is ?_ | with_reducible refine wp_tru ?_ | with_reducible refine wp_not ?_ | with_reducible refine wp_or ?_ | with_reducible refine wp_and ?_ | with_reducible refine wp_rng1 ?_ | with_reducible refine wp_yes ?_ | with_reducible refine wp_lc ?_ | with_reducible refine wp_iLst ?_ | with_reducible refine wp_neg ?_ | with_reducible refine wp_isi ?_ | with_reducible refine wp_sl ?_ | with_reducible refine wp_noPart ?_ | with_reducible refine wp_part ?_ | with_reducible refine wp_rev ?_ | with_reducible refine wp_keys ?_ | with_reducible refine wp_eq2 ?_ | with_reducible refine wp_iStrD ?_ | with_reducible refine wp_dic0 ?_ | with_reducible refine wp_enum ?_ | with_reducible refine ws_seq ?_ | with_reducible refine ws_nil ?_ | with_reducible refine ws_set ?_ | with_reducible refine ws_ret ?_ | with_reducible refine ws_if ?_ | with_reducible refine ws_asg ?_ | with_reducible refine ws_par2 ?_ | with_reducible refine ws_par3 ?_ | with_reducible refine ws_own ?_ | with_reducible refine ws_for ?_ | ((with_reducible apply ws_app); (· exact rfl)) | ((with_reducible apply ws_putO); (· exact rfl)) | ((with_reducible apply ws_frz); (· exact rfl)) | ((with_reducible apply ws_frzp); (· exact rfl)) | ((with_reducible apply wp_loc); (· exact rfl)) | ((with_reducible apply wp_rd); (· exact rfl)) | ((with_reducible apply wp_rdo); (· exact rfl)) | ((with_reducible apply wp_args); (· exact rfl); (· exact rfl); (· exact rfl))))
    refine ⟨.int (2 * lim), mul_ok (by decide) (by omega), ?_⟩
    (repeat (first | with_reducible refine wp_cons ?_ | with_reducible refine wp_nil ?_ | with_reducible refine wp_C ?_ | with_reducible refine wp_call ?_ | with_reducible refine wp_tup ?_ | with_reducible refine wp_lst ?_ | with_reducible refine wp_if ?_ | with_reducible refine wp_bin ?_ | with_reducible refine wp_cmp ?_ | with_reducible refine wp_ix ?_ | with_reducible refine wp_bt ?_ | with_reducible refine wp_mt ?_ | with_reducible refine wp_is ?_ | with_reducible refine wp_tru ?_ | with_reducible refine wp_not ?_ | with_reducible refine wp_or ?_ | with_reducible refine wp_and ?_ | with_reducible refine wp_rng1 ?_ | with_reducible refine wp_yes ?_ | with_reducible refine wp_lc ?_ | with_reducible refine wp_iLst ?_ | with_reducible refine wp_neg ?_ | with_reducible refine wp_isi ?_ | with_reducible refine wp_sl ?_ | with_reducible refine wp_noPart ?_ | with_reducible refine wp_part ?_ | with_reducible refine wp_rev ?_ | with_reducible refine wp_keys ?_ | with_reducible refine wp_eq2 ?_ | with_reducible refine wp_iStrD ?_ | with_reducible refine wp_dic0 ?_ | with_reducible refine wp_enum ?_ | with_reducible refine ws_seq ?_ | with_reducible refine ws_nil ?_ | with_reducible refine ws_set ?_ | with_reducible refine ws_ret ?_ | with_reducible refine ws_if ?_ | with_reducible refine ws_asg ?_ | with_reducible refine ws_par2 ?_ | with_reducible refine ws_par3 ?_ | with_reducible refine ws_own ?_ | with_reducible refine ws_for ?_ | ((with_reducible apply ws_app); (· exact rfl)) | ((with_reducible apply ws_putO); (· exact rfl)) | ((with_reducible apply ws_frz); (· exact rfl)) | ((with_reducible apply ws_frzp); (· exact rfl)) | ((with_reducible apply wp_loc); (· exact rfl)) | ((with_reducible apply wp_rd); (· exact rfl)) | ((with_reducible apply wp_rdo); (· exact rfl)) | ((with_reducible apply wp_args); (· exact rfl); (· exact rfl); (· exact rfl))))
    refine ⟨.int (2 * lim - 1), rfl, ?_⟩
    (repeat (first | with_reducible refine wp_cons ?_ | with_reducible refine wp_nil ?_ | with_reducible refine wp_C ?_ | with_reducible refine wp_call ?_ | with_reducible refine wp_tup ?_ | with_reducible refine wp_lst ?_ | with_reducible refine wp_if ?_ | with_reducible refine wp_bin ?_ | with_reducible refine wp_cmp ?_ | with_reducible refine wp_ix ?_ | with_reducible refine wp_bt ?_ | with_reducible refine wp_mt ?_ | with_reducible refine wp_is ?_ | with_reducible refine wp_tru ?_ | with_reducible refine wp_not ?_ | with_reducible refine wp_or ?_ | with_reducible refine wp_and ?_ | with_reducible refine wp_rng1 ?_ | with_reducible refine wp_yes ?_ | with_reducible refine wp_lc ?_ | with_reducible refine wp_iLst ?_ | with_reducible refine wp_neg ?_ | with_reducible refine wp_isi ?_ | with_reducible refine wp_sl ?_ | with_reducible refine wp_noPart ?_ | with_reducible refine wp_part ?_ | with_reducible refine wp_rev ?_ | with_reducible refine wp_keys ?_ | with_reducible refine wp_eq2 ?_ | with_reducible refine wp_iStrD ?_ | with_reducible refine wp_dic0 ?_ | with_reducible refine wp_enum ?_ | with_reducible refine ws_seq ?_ | with_reducible refine ws_nil ?_ | with_reducible refine ws_set ?_ | with_reducible refine ws_ret ?_ | with_reducible refine ws_if ?_ | with_reducible refine ws_asg ?_ | with_reducible refine ws_par2 ?_ | with_reducible refine ws_par3 ?_ | with_reducible refine ws_own ?_ | with_reducible refine ws_for ?_ | ((with_reducible apply ws_app); (· exact rfl)) | ((with_reducible apply ws_putO); (· exact rfl)) | ((with_reducible apply ws_frz); (· exact rfl)) | ((with_reducible apply ws_frzp); (· exact rfl)) | ((with_reducible apply wp_loc); (· exact rfl)) | ((with_reducible apply wp_rd); (· exact rfl)) | ((with_reducible apply wp_rdo); (· exact rfl)) | ((with_reducible apply wp_args); (· exact rfl); (· exact rfl); (· exact rfl))))
    refine wp_drw31 S1 (by omega) (by omega) (by omega) fun d2 s2 g0 g1 g2 S2 => ?_
    (repeat (first | with_reducible refine wp_cons ?_ | with_reducible refine wp_nil ?_ | with_reducible refine wp_C ?_ | with_reducible refine wp_call ?_ | with_reducible refine wp_tup ?_ | with_reducible refine wp_lst ?_ | with_reducible refine wp_if ?_ | with_reducible refine wp_bin ?_ | with_reducible refine wp_cmp ?_ | with_reducible refine wp_ix ?_ | with_reducible refine wp_bt ?_ | with_reducible refine wp_mt ?_ | with_reducible refine wp_is ?_ | with_reducible refine wp_tru ?_ | with_reducible refine wp_not ?_ | with_reducible refine wp_or ?_ | with_reducible refine wp_and ?_ | with_reducible refine wp_rng1 ?_ | with_reducible refine wp_yes ?_ | with_reducible refine wp_lc ?_ | with_reducible refine wp_iLst ?_ | with_reducible refine wp_neg ?_ | with_reducible refine wp_isi ?_ | with_reducible refine wp_sl ?_ | with_reducible refine wp_noPart ?_ | with_reducible refine wp_part ?_ | with_reducible refine wp_rev ?_ | with_reducible refine wp_keys ?_ | with_reducible refine wp_eq2 ?_ | with_reducible refine wp_iStrD ?_ | with_reducible refine wp_dic0 ?_ | with_reducible refine wp_enum ?_ | with_reducible refine ws_seq ?_ | with_reducible refine ws_nil ?_ | with_reducible refine ws_set ?_ | with_reducible refine ws_ret ?_ | with_reducible refine ws_if ?_ | with_reducible refine ws_asg ?_ | with_reducible refine ws_par2 ?_ | with_reducible refine ws_par3 ?_ | with_reducible refine ws_own ?_ | with_reducible refine ws_for ?_ | ((with_reducible apply ws_app); (· exact rfl)) | ((with_reducible apply ws_putO); (· exact rfl)) | ((with_reducible apply ws_frz); (· exact rfl)) | ((with_reducible apply ws_frzp); (· exact rfl)) | ((with_reducible apply wp_loc); (· exact rfl)) | ((with_reducible apply wp_rd); (· exact rfl)) | ((with_reducible apply wp_rdo); (· exact rfl)) | ((with_reducible apply wp_args); (· exact rfl); (· exact rfl); (· exact rfl))))
    refine ⟨.int (d2 - lim), rfl, ?_⟩
    (repeat (first | with_reducible refine wp_cons ?_ | with_reducible refine wp_nil ?_ | with_reducible refine wp_C ?_ | with_reducible refine wp_call ?_ | with_reducible refine wp_tup ?_ | with_reducible refine wp_lst ?_ | with_reducible refine wp_if ?_ | with_reducible refine wp_bin ?_ | with_reducible refine wp_cmp ?_ | with_reducible refine wp_ix ?_ | with_reducible refine wp_bt ?_ | with_reducible refine wp_mt ?_ | with_reducible refine wp_is ?_ | with_reducible refine wp_tru ?_ | with_reducible refine wp_not ?_ | with_reducible refine wp_or ?_ | with_reducible refine wp_and ?_ | with_reducible refine wp_rng1 ?_ | with_reducible refine wp_yes ?_ | with_reducible refine wp_lc ?_ | with_reducible refine wp_iLst ?_ | with_reducible refine wp_neg ?_ | with_reducible refine wp_isi ?_ | with_reducible refine wp_sl ?_ | with_reducible refine wp_noPart ?_ | with_reducible refine wp_part ?_ | with_reducible refine wp_rev ?_ | with_reducible refine wp_keys ?_ | with_reducible refine wp_eq2 ?_ | with_reducible refine wp_iStrD ?_ | with_reducible refine wp_dic0 ?_ | with_reducible refine wp_enum ?_ | with_reducible refine ws_seq ?_ | with_reducible refine ws_nil ?_ | with_reducible refine ws_set ?_ | with_reducible refine ws_ret ?_ | with_reducible refine ws_if ?_ | with_reducible refine ws_asg ?_ | with_reducible refine ws_par2 ?_ | with_reducible refine ws_par3 ?_ | with_reducible refine ws_own ?_ | with_reducible refine ws_for ?_ | ((with_reducible apply ws_app); (· exact rfl)) | ((with_reducible apply ws_putO); (· exact rfl)) | ((with_reducible apply ws_frz); (· exact rfl)) | ((with_reducible apply ws_frzp); (· exact rfl)) | ((with_reducible apply wp_loc); (· exact rfl)) | ((with_reducible apply wp_rd); (· exact rfl)) | ((with_reducible apply wp_rdo); (· exact rfl)) | ((with_reducible apply wp_args); (· exact rfl); (· exact rfl); (· exact rfl))))
    exact ⟨.int (d2 - lim + 1), rfl, h _ _ (g2.trans h2) S2 (by omega)⟩
theorem deq_str (x y : Str) : deq (.str x) (.str y) = decide (x = y) := by
  unfold deq
  by_cases h : x = y
  · subst h; simp
  · simp [h]
theorem in_strs (w : Str) (T : List Str) : cmpD .In (.str w) (.lst (T.map D.str)) = some (.bl (decide (w ∈ T))) := by
  have e1 : (T.map D.str).all (okq 60) = true := by simp [okq]
  have e2 : ((T.map D.str).any fun y => deq y (.str w)) = decide (w ∈ T) := by
    rw [List.any_map]
    by_cases h : w ∈ T
    · rw [decide_eq_true h, List.any_eq_true]
      exact ⟨w, h, by show deq (.str w) (.str w) = true; rw [deq_str]; simp⟩
    · rw [decide_eq_false h, List.any_eq_false]
      intro y hy
      show ¬ deq (.str y) (.str w) = true
      rw [deq_str]
      intro e
      exact h (by rw [← of_decide_eq_true e]; exact hy)
  show (if (okq 60 (.str w) && (T.map D.str).all (okq 60)) = true then _ else _) = _
  rw [e1, e2]
  rfl
theorem signs26 : strSigns "abcdefghijklmnopqrstuvwxyz" = (List.range 26).map fun i => D.str (strL [97 + i]) := by kernel_rfl
theorem strL_app (a b : List Nat) : strL a ++ strL b = strL (a ++ b) := by
  show (⟨a.toArray ++ b.toArray⟩ : Str) = ⟨(a ++ b).toArray⟩
  simp
theorem strL_len (a : List Nat) : (strL a).length = a.length := rfl
theorem strL_inj {a b : List Nat} (h : strL a = strL b) : a = b := by
  have : a.toArray = b.toArray := congrArg Str.cps h
  simpa using congrArg Array.toList this
theorem cut1 {c : Nat} {cs : List Nat} (h : cs.length ≤ 8) : cutOf (.str (strL (c :: cs))) (some 1) none = some (.str (strL cs)) := by
  show (if (strL (c :: cs)).length ≤ line then some (D.str (cutS (strL (c :: cs)) (some 1) none)) else none) = _
  rw [strL_len, if_pos (by rw [List.length_cons]; unfold line; omega)]
  have e : cutS (strL (c :: cs)) (some 1) none = strL cs := by
    unfold cutS
    rw [strL_len]
    show (⟨(((c :: cs).drop (min 1 (c :: cs).length)).take ((c :: cs).length - min 1 (c :: cs).length)).toArray⟩ : Str) = _
    rw [show min 1 (c :: cs).length = 1 by rw [List.length_cons]; omega]
    show (⟨(cs.take ((c :: cs).length - 1)).toArray⟩ : Str) = _
    rw [List.length_cons, Nat.add_sub_cancel, List.take_length]
    rfl
  rw [e]
theorem letters_count {cs : List Nat} : ∀ (n : Nat) (T : List Str), (∀ i, i < n → strL ((97 + i) :: cs) ∈ T) → n ≤ T.length
  | 0, T, _ => Nat.zero_le _
  | n + 1, T, h => by
    have h1 := h n (by omega)
    have := letters_count n (T.erase (strL ((97 + n) :: cs))) fun i hi => by
      refine (List.mem_erase_of_ne fun e => ?_).mpr (h i (by omega))
      have := strL_inj e
      simp at this
      omega
    rw [List.length_erase_of_mem h1] at this
    have : 0 < T.length := List.length_pos_of_mem h1
    omega
theorem wp_word31 {s : Store} {n k : Nat} (S : SrcB s n k) (hk : k < 90000000) {T : List Str} {P : D → Store → Prop} (h : ∀ (w : Str) s', Word w → (T.length < 26 → w ∉ T) → s'.length = s.length → SrcB s' n (k + 9) → P (.str w) s') : Wp (M_word31 [.ref n, .lst (T.map .str)] s) P := by
  refine wp_fn ?_
  show Ws (m_word31 [.pu (.ref n), .pu (.lst (T.map .str)), .no, .no, .no, .no] s) _ P
  unfold m_word31
  (repeat (first | with_reducible refine wp_cons ?_ | with_reducible refine wp_nil ?_ | with_reducible refine wp_C ?_ | with_reducible refine wp_call ?_ | with_reducible refine wp_tup ?_ | with_reducible refine wp_lst ?_ | with_reducible refine wp_if ?_ | with_reducible refine wp_bin ?_ | with_reducible refine wp_cmp ?_ | with_reducible refine wp_ix ?_ | with_reducible refine wp_bt ?_ | with_reducible refine wp_mt ?_ | with_reducible refine wp_is ?_ | with_reducible refine wp_tru ?_ | with_reducible refine wp_not ?_ | with_reducible refine wp_or ?_ | with_reducible refine wp_and ?_ | with_reducible refine wp_rng1 ?_ | with_reducible refine wp_yes ?_ | with_reducible refine wp_lc ?_ | with_reducible refine wp_iLst ?_ | with_reducible refine wp_neg ?_ | with_reducible refine wp_isi ?_ | with_reducible refine wp_sl ?_ | with_reducible refine wp_noPart ?_ | with_reducible refine wp_part ?_ | with_reducible refine wp_rev ?_ | with_reducible refine wp_keys ?_ | with_reducible refine wp_eq2 ?_ | with_reducible refine wp_iStrD ?_ | with_reducible refine wp_dic0 ?_ | with_reducible refine wp_enum ?_ | with_reducible refine ws_seq ?_ | with_reducible refine ws_nil ?_ | with_reducible refine ws_set ?_ | with_reducible refine ws_ret ?_ | with_reducible refine ws_if ?_ | with_reducible refine ws_asg ?_ | with_reducible refine ws_par2 ?_ | with_reducible refine ws_par3 ?_ | with_reducible refine ws_own ?_ | with_reducible refine ws_for ?_ | ((with_reducible apply ws_app); (· exact rfl)) | ((with_reducible apply ws_putO); (· exact rfl)) | ((with_reducible apply ws_frz); (· exact rfl)) | ((with_reducible apply ws_frzp); (· exact rfl)) | ((with_reducible apply wp_loc); (· exact rfl)) | ((with_reducible apply wp_rd); (· exact rfl)) | ((with_reducible apply wp_rdo); (· exact rfl)) | ((with_reducible apply wp_args); (· exact rfl); (· exact rfl); (· exact rfl))))
  refine ⟨⟨by decide, rfl⟩, ?_⟩
  (repeat (first | with_reducible refine wp_cons ?_ | with_reducible refine wp_nil ?_ | with_reducible refine wp_C ?_ | with_reducible refine wp_call ?_ | with_reducible refine wp_tup ?_ | with_reducible refine wp_lst ?_ | with_reducible refine wp_if ?_ | with_reducible refine wp_bin ?_ | with_reducible refine wp_cmp ?_ | with_reducible refine wp_ix ?_ | with_reducible refine wp_bt ?_ | with_reducible refine wp_mt ?_ | with_reducible refine wp_is ?_ | with_reducible refine wp_tru ?_ | with_reducible refine wp_not ?_ | with_reducible refine wp_or ?_ | with_reducible refine wp_and ?_ | with_reducible refine wp_rng1 ?_ | with_reducible refine wp_yes ?_ | with_reducible refine wp_lc ?_ | with_reducible refine wp_iLst ?_ | with_reducible refine wp_neg ?_ | with_reducible refine wp_isi ?_ | with_reducible refine wp_sl ?_ | with_reducible refine wp_noPart ?_ | with_reducible refine wp_part ?_ | with_reducible refine wp_rev ?_ | with_reducible refine wp_keys ?_ | with_reducible refine wp_eq2 ?_ | with_reducible refine wp_iStrD ?_ | with_reducible refine wp_dic0 ?_ | with_reducible refine wp_enum ?_ | with_reducible refine ws_seq ?_ | with_reducible refine ws_nil ?_ | with_reducible refine ws_set ?_ | with_reducible refine ws_ret ?_ | with_reducible refine ws_if ?_ | with_reducible refine ws_asg ?_ | with_reducible refine ws_par2 ?_ | with_reducible refine ws_par3 ?_ | with_reducible refine ws_own ?_ | with_reducible refine ws_for ?_ | ((with_reducible apply ws_app); (· exact rfl)) | ((with_reducible apply ws_putO); (· exact rfl)) | ((with_reducible apply ws_frz); (· exact rfl)) | ((with_reducible apply ws_frzp); (· exact rfl)) | ((with_reducible apply wp_loc); (· exact rfl)) | ((with_reducible apply wp_rd); (· exact rfl)) | ((with_reducible apply wp_rdo); (· exact rfl)) | ((with_reducible apply wp_args); (· exact rfl); (· exact rfl); (· exact rfl))))
  refine wp_drw31 S (by omega) (by decide) (by decide) fun d s1 h0 h1 h2 S1 => ?_
  refine ⟨.int (1 + d), rfl, ?_⟩
  (repeat (first | with_reducible refine wp_cons ?_ | with_reducible refine wp_nil ?_ | with_reducible refine wp_C ?_ | with_reducible refine wp_call ?_ | with_reducible refine wp_tup ?_ | with_reducible refine wp_lst ?_ | with_reducible refine wp_if ?_ | with_reducible refine wp_bin ?_ | with_reducible refine wp_cmp ?_ | with_reducible refine wp_ix ?_ | with_reducible refine wp_bt ?_ | with_reducible refine wp_mt ?_ | with_reducible refine wp_is ?_ | with_reducible refine wp_tru ?_ | with_reducible refine wp_not ?_ | with_reducible refine wp_or ?_ | with_reducible refine wp_and ?_ | with_reducible refine wp_rng1 ?_ | with_reducible refine wp_yes ?_ | with_reducible refine wp_lc ?_ | with_reducible refine wp_iLst ?_ | with_reducible refine wp_neg ?_ | with_reducible refine wp_isi ?_ | with_reducible refine wp_sl ?_ | with_reducible refine wp_noPart ?_ | with_reducible refine wp_part ?_ | with_reducible refine wp_rev ?_ | with_reducible refine wp_keys ?_ | with_reducible refine wp_eq2 ?_ | with_reducible refine wp_iStrD ?_ | with_reducible refine wp_dic0 ?_ | with_reducible refine wp_enum ?_ | with_reducible refine ws_seq ?_ | with_reducible refine ws_nil ?_ | with_reducible refine ws_set ?_ | with_reducible refine ws_ret ?_ | with_reducible refine ws_if ?_ | with_reducible refine ws_asg ?_ | with_reducible refine ws_par2 ?_ | with_reducible refine ws_par3 ?_ | with_reducible refine ws_own ?_ | with_reducible refine ws_for ?_ | ((with_reducible apply ws_app); (· exact rfl)) | ((with_reducible apply ws_putO); (· exact rfl)) | ((with_reducible apply ws_frz); (· exact rfl)) | ((with_reducible apply ws_frzp); (· exact rfl)) | ((with_reducible apply wp_loc); (· exact rfl)) | ((with_reducible apply wp_rd); (· exact rfl)) | ((with_reducible apply wp_rdo); (· exact rfl)) | ((with_reducible apply wp_args); (· exact rfl); (· exact rfl); (· exact rfl))))
  refine ⟨1 + d, rfl, ⟨by unfold big; omega, by unfold big; omega⟩, ?_⟩
  refine ⟨by rw [intsD_len]; unfold line; omega, fun ds acc s => ∃ (j : Nat) (cs : List Nat), ds.length + j = (1 + d).toNat ∧ (∀ d ∈ ds, ∃ i : Int, d = .int i) ∧ acc = cs.map (fun c => D.str (strL [c])) ∧ cs.length = j ∧ IsCs cs ∧ s.length = s1.length ∧ SrcB s n (k + 1 + j), ⟨0, [], ?_, ?_, rfl, rfl, ?_, rfl, S1⟩, ?_, ?_⟩
  · rw [intsD_len]; omega
  · exact fun d hd => let ⟨i, e, _⟩ := intsD_mem hd; ⟨i, e⟩
  · intro c hc; cases hc
  · rintro _ ds acc s2 ⟨j, cs, l1, l2, rfl, l3, l4, l5, S2⟩
    rw [List.length_cons] at l1
    obtain ⟨i, rfl⟩ := l2 _ List.mem_cons_self
    refine ⟨_, rfl, ?_⟩
    (repeat (first | with_reducible refine wp_cons ?_ | with_reducible refine wp_nil ?_ | with_reducible refine wp_C ?_ | with_reducible refine wp_call ?_ | with_reducible refine wp_tup ?_ | with_reducible refine wp_lst ?_ | with_reducible refine wp_if ?_ | with_reducible refine wp_bin ?_ | with_reducible refine wp_cmp ?_ | with_reducible refine wp_ix ?_ | with_reducible refine wp_bt ?_ | with_reducible refine wp_mt ?_ | with_reducible refine wp_is ?_ | with_reducible refine wp_tru ?_ | with_reducible refine wp_not ?_ | with_reducible refine wp_or ?_ | with_reducible refine wp_and ?_ | with_reducible refine wp_rng1 ?_ | with_reducible refine wp_yes ?_ | with_reducible refine wp_lc ?_ | with_reducible refine wp_iLst ?_ | with_reducible refine wp_neg ?_ | with_reducible refine wp_isi ?_ | with_reducible refine wp_sl ?_ | with_reducible refine wp_noPart ?_ | with_reducible refine wp_part ?_ | with_reducible refine wp_rev ?_ | with_reducible refine wp_keys ?_ | with_reducible refine wp_eq2 ?_ | with_reducible refine wp_iStrD ?_ | with_reducible refine wp_dic0 ?_ | with_reducible refine wp_enum ?_ | with_reducible refine ws_seq ?_ | with_reducible refine ws_nil ?_ | with_reducible refine ws_set ?_ | with_reducible refine ws_ret ?_ | with_reducible refine ws_if ?_ | with_reducible refine ws_asg ?_ | with_reducible refine ws_par2 ?_ | with_reducible refine ws_par3 ?_ | with_reducible refine ws_own ?_ | with_reducible refine ws_for ?_ | ((with_reducible apply ws_app); (· exact rfl)) | ((with_reducible apply ws_putO); (· exact rfl)) | ((with_reducible apply ws_frz); (· exact rfl)) | ((with_reducible apply ws_frzp); (· exact rfl)) | ((with_reducible apply wp_loc); (· exact rfl)) | ((with_reducible apply wp_rd); (· exact rfl)) | ((with_reducible apply wp_rdo); (· exact rfl)) | ((with_reducible apply wp_args); (· exact rfl); (· exact rfl); (· exact rfl))))
    rw [if_pos rfl]
    (repeat (first | with_reducible refine wp_cons ?_ | with_reducible refine wp_nil ?_ | with_reducible refine wp_C ?_ | with_reducible refine wp_call ?_ | with_reducible refine wp_tup ?_ | with_reducible refine wp_lst ?_ | with_reducible refine wp_if ?_ | with_reducible refine wp_bin ?_ | with_reducible refine wp_cmp ?_ | with_reducible refine wp_ix ?_ | with_reducible refine wp_bt ?_ | with_reducible refine wp_mt ?_ | with_reducible refine wp_is ?_ | with_reducible refine wp_tru ?_ | with_reducible refine wp_not ?_ | with_reducible refine wp_or ?_ | with_reducible refine wp_and ?_ | with_reducible refine wp_rng1 ?_ | with_reducible refine wp_yes ?_ | with_reducible refine wp_lc ?_ | with_reducible refine wp_iLst ?_ | with_reducible refine wp_neg ?_ | with_reducible refine wp_isi ?_ | with_reducible refine wp_sl ?_ | with_reducible refine wp_noPart ?_ | with_reducible refine wp_part ?_ | with_reducible refine wp_rev ?_ | with_reducible refine wp_keys ?_ | with_reducible refine wp_eq2 ?_ | with_reducible refine wp_iStrD ?_ | with_reducible refine wp_dic0 ?_ | with_reducible refine wp_enum ?_ | with_reducible refine ws_seq ?_ | with_reducible refine ws_nil ?_ | with_reducible refine ws_set ?_ | with_reducible refine ws_ret ?_ | with_reducible refine ws_if ?_ | with_reducible refine ws_asg ?_ | with_reducible refine ws_par2 ?_ | with_reducible refine ws_par3 ?_ | with_reducible refine ws_own ?_ | with_reducible refine ws_for ?_ | ((with_reducible apply ws_app); (· exact rfl)) | ((with_reducible apply ws_putO); (· exact rfl)) | ((with_reducible apply ws_frz); (· exact rfl)) | ((with_reducible apply ws_frzp); (· exact rfl)) | ((with_reducible apply wp_loc); (· exact rfl)) | ((with_reducible apply wp_rd); (· exact rfl)) | ((with_reducible apply wp_rdo); (· exact rfl)) | ((with_reducible apply wp_args); (· exact rfl); (· exact rfl); (· exact rfl))))
    refine wp_drw31 S2 (by omega) (by decide) (by decide) fun d3 s3 e0 e1 e2 S3 => ?_
    refine ⟨_, letters_at d3 e0 e1, j + 1, cs ++ [97 + d3.toNat], by omega, fun d hd => l2 d (List.mem_cons_of_mem _ hd), by simp, by simp [l3], ?_, e2.trans l5, S3⟩
    intro c hc
    rcases List.mem_append.mp hc with hc | hc
    · exact l4 c hc
    · rw [List.mem_singleton] at hc
      omega
  · rintro xs s2 ⟨j, cs, l1, l2, rfl, l3, l4, l5, S2⟩
    rw [List.length_nil] at l1
    (repeat (first | with_reducible refine wp_cons ?_ | with_reducible refine wp_nil ?_ | with_reducible refine wp_C ?_ | with_reducible refine wp_call ?_ | with_reducible refine wp_tup ?_ | with_reducible refine wp_lst ?_ | with_reducible refine wp_if ?_ | with_reducible refine wp_bin ?_ | with_reducible refine wp_cmp ?_ | with_reducible refine wp_ix ?_ | with_reducible refine wp_bt ?_ | with_reducible refine wp_mt ?_ | with_reducible refine wp_is ?_ | with_reducible refine wp_tru ?_ | with_reducible refine wp_not ?_ | with_reducible refine wp_or ?_ | with_reducible refine wp_and ?_ | with_reducible refine wp_rng1 ?_ | with_reducible refine wp_yes ?_ | with_reducible refine wp_lc ?_ | with_reducible refine wp_iLst ?_ | with_reducible refine wp_neg ?_ | with_reducible refine wp_isi ?_ | with_reducible refine wp_sl ?_ | with_reducible refine wp_noPart ?_ | with_reducible refine wp_part ?_ | with_reducible refine wp_rev ?_ | with_reducible refine wp_keys ?_ | with_reducible refine wp_eq2 ?_ | with_reducible refine wp_iStrD ?_ | with_reducible refine wp_dic0 ?_ | with_reducible refine wp_enum ?_ | with_reducible refine ws_seq ?_ | with_reducible refine ws_nil ?_ | with_reducible refine ws_set ?_ | with_reducible refine ws_ret ?_ | with_reducible refine ws_if ?_ | with_reducible refine ws_asg ?_ | with_reducible refine ws_par2 ?_ | with_reducible refine ws_par3 ?_ | with_reducible refine ws_own ?_ | with_reducible refine ws_for ?_ | ((with_reducible apply ws_app); (· exact rfl)) | ((with_reducible apply ws_putO); (· exact rfl)) | ((with_reducible apply ws_frz); (· exact rfl)) | ((with_reducible apply ws_frzp); (· exact rfl)) | ((with_reducible apply wp_loc); (· exact rfl)) | ((with_reducible apply wp_rd); (· exact rfl)) | ((with_reducible apply wp_rdo); (· exact rfl)) | ((with_reducible apply wp_args); (· exact rfl); (· exact rfl); (· exact rfl))))
    refine ⟨_, gJoin_chars cs (by omega), ?_⟩
    obtain ⟨c0, cs, rfl⟩ : ∃ c0 r, cs = c0 :: r := by
      cases cs with
      | nil => simp at l3; omega
      | cons c r => exact ⟨c, r, rfl⟩
    rw [List.length_cons] at l3
    have hcs : IsCs cs := fun c hc => l4 c (List.mem_cons_of_mem _ hc)
    (repeat (first | with_reducible refine wp_cons ?_ | with_reducible refine wp_nil ?_ | with_reducible refine wp_C ?_ | with_reducible refine wp_call ?_ | with_reducible refine wp_tup ?_ | with_reducible refine wp_lst ?_ | with_reducible refine wp_if ?_ | with_reducible refine wp_bin ?_ | with_reducible refine wp_cmp ?_ | with_reducible refine wp_ix ?_ | with_reducible refine wp_bt ?_ | with_reducible refine wp_mt ?_ | with_reducible refine wp_is ?_ | with_reducible refine wp_tru ?_ | with_reducible refine wp_not ?_ | with_reducible refine wp_or ?_ | with_reducible refine wp_and ?_ | with_reducible refine wp_rng1 ?_ | with_reducible refine wp_yes ?_ | with_reducible refine wp_lc ?_ | with_reducible refine wp_iLst ?_ | with_reducible refine wp_neg ?_ | with_reducible refine wp_isi ?_ | with_reducible refine wp_sl ?_ | with_reducible refine wp_noPart ?_ | with_reducible refine wp_part ?_ | with_reducible refine wp_rev ?_ | with_reducible refine wp_keys ?_ | with_reducible refine wp_eq2 ?_ | with_reducible refine wp_iStrD ?_ | with_reducible refine wp_dic0 ?_ | with_reducible refine wp_enum ?_ | with_reducible refine ws_seq ?_ | with_reducible refine ws_nil ?_ | with_reducible refine ws_set ?_ | with_reducible refine ws_ret ?_ | with_reducible refine ws_if ?_ | with_reducible refine ws_asg ?_ | with_reducible refine ws_par2 ?_ | with_reducible refine ws_par3 ?_ | with_reducible refine ws_own ?_ | with_reducible refine ws_for ?_ | ((with_reducible apply ws_app); (· exact rfl)) | ((with_reducible apply ws_putO); (· exact rfl)) | ((with_reducible apply ws_frz); (· exact rfl)) | ((with_reducible apply ws_frzp); (· exact rfl)) | ((with_reducible apply wp_loc); (· exact rfl)) | ((with_reducible apply wp_rd); (· exact rfl)) | ((with_reducible apply wp_rdo); (· exact rfl)) | ((with_reducible apply wp_args); (· exact rfl); (· exact rfl); (· exact rfl))))
    refine ⟨_, rfl, ?_⟩
    rw [signs26]
    refine ⟨fun ds ρ s => ∃ (i c : Nat) (t5 t6 : Slot), i ≤ 26 ∧ ds = ((List.range 26).map fun i => D.str (strL [97 + i])).drop i ∧ 97 ≤ c ∧ c ≤ 122 ∧ ((strL (c :: cs) ∉ T) ∨ ∀ x, x < i → strL ((97 + x) :: cs) ∈ T ∨ x + 1 = i ∧ c = 97 + x) ∧ s = s2 ∧ ρ = [.pu (.ref n), .pu (.lst (T.map .str)), .pu (.str "abcdefghijklmnopqrstuvwxyz"), .pu (.str (strL (c :: cs))), t5, t6], ⟨0, c0, _, _, by decide, rfl, (l4 c0 List.mem_cons_self).1, (l4 c0 List.mem_cons_self).2, .inr fun x hx => absurd hx (Nat.not_lt_zero _), rfl, rfl⟩, ?_, ?_⟩
    · rintro d3 ds ρ s3 ⟨i, c, t5, t6, i0, i1, c1, c2, hT, rfl, rfl⟩
      have hi : i < 26 := by
        have := congrArg List.length i1
        simp at this
        omega
      have e1 : ((List.range 26).map fun i => D.str (strL [97 + i])).drop i = D.str (strL [97 + i]) :: ((List.range 26).map fun i => D.str (strL [97 + i])).drop (i + 1) := by
        rw [List.drop_eq_getElem_cons (by simpa using hi)]
        simp
      rw [e1] at i1
      injection i1 with i1 i2
      subst i1
      refine ⟨_, rfl, ?_⟩
      (repeat (first | with_reducible refine wp_cons ?_ | with_reducible refine wp_nil ?_ | with_reducible refine wp_C ?_ | with_reducible refine wp_call ?_ | with_reducible refine wp_tup ?_ | with_reducible refine wp_lst ?_ | with_reducible refine wp_if ?_ | with_reducible refine wp_bin ?_ | with_reducible refine wp_cmp ?_ | with_reducible refine wp_ix ?_ | with_reducible refine wp_bt ?_ | with_reducible refine wp_mt ?_ | with_reducible refine wp_is ?_ | with_reducible refine wp_tru ?_ | with_reducible refine wp_not ?_ | with_reducible refine wp_or ?_ | with_reducible refine wp_and ?_ | with_reducible refine wp_rng1 ?_ | with_reducible refine wp_yes ?_ | with_reducible refine wp_lc ?_ | with_reducible refine wp_iLst ?_ | with_reducible refine wp_neg ?_ | with_reducible refine wp_isi ?_ | with_reducible refine wp_sl ?_ | with_reducible refine wp_noPart ?_ | with_reducible refine wp_part ?_ | with_reducible refine wp_rev ?_ | with_reducible refine wp_keys ?_ | with_reducible refine wp_eq2 ?_ | with_reducible refine wp_iStrD ?_ | with_reducible refine wp_dic0 ?_ | with_reducible refine wp_enum ?_ | with_reducible refine ws_seq ?_ | with_reducible refine ws_nil ?_ | with_reducible refine ws_set ?_ | with_reducible refine ws_ret ?_ | with_reducible refine ws_if ?_ | with_reducible refine ws_asg ?_ | with_reducible refine ws_par2 ?_ | with_reducible refine ws_par3 ?_ | with_reducible refine ws_own ?_ | with_reducible refine ws_for ?_ | ((with_reducible apply ws_app); (· exact rfl)) | ((with_reducible apply ws_putO); (· exact rfl)) | ((with_reducible apply ws_frz); (· exact rfl)) | ((with_reducible apply ws_frzp); (· exact rfl)) | ((with_reducible apply wp_loc); (· exact rfl)) | ((with_reducible apply wp_rd); (· exact rfl)) | ((with_reducible apply wp_rdo); (· exact rfl)) | ((with_reducible apply wp_args); (· exact rfl); (· exact rfl); (· exact rfl))))
      refine ⟨_, in_strs _ _, _, rfl, ?_⟩
      by_cases hm : strL (c :: cs) ∈ T
      · rw [decide_eq_true hm, if_pos rfl]
        (repeat (first | with_reducible refine wp_cons ?_ | with_reducible refine wp_nil ?_ | with_reducible refine wp_C ?_ | with_reducible refine wp_call ?_ | with_reducible refine wp_tup ?_ | with_reducible refine wp_lst ?_ | with_reducible refine wp_if ?_ | with_reducible refine wp_bin ?_ | with_reducible refine wp_cmp ?_ | with_reducible refine wp_ix ?_ | with_reducible refine wp_bt ?_ | with_reducible refine wp_mt ?_ | with_reducible refine wp_is ?_ | with_reducible refine wp_tru ?_ | with_reducible refine wp_not ?_ | with_reducible refine wp_or ?_ | with_reducible refine wp_and ?_ | with_reducible refine wp_rng1 ?_ | with_reducible refine wp_yes ?_ | with_reducible refine wp_lc ?_ | with_reducible refine wp_iLst ?_ | with_reducible refine wp_neg ?_ | with_reducible refine wp_isi ?_ | with_reducible refine wp_sl ?_ | with_reducible refine wp_noPart ?_ | with_reducible refine wp_part ?_ | with_reducible refine wp_rev ?_ | with_reducible refine wp_keys ?_ | with_reducible refine wp_eq2 ?_ | with_reducible refine wp_iStrD ?_ | with_reducible refine wp_dic0 ?_ | with_reducible refine wp_enum ?_ | with_reducible refine ws_seq ?_ | with_reducible refine ws_nil ?_ | with_reducible refine ws_set ?_ | with_reducible refine ws_ret ?_ | with_reducible refine ws_if ?_ | with_reducible refine ws_asg ?_ | with_reducible refine ws_par2 ?_ | with_reducible refine ws_par3 ?_ | with_reducible refine ws_own ?_ | with_reducible refine ws_for ?_ | ((with_reducible apply ws_app); (· exact rfl)) | ((with_reducible apply ws_putO); (· exact rfl)) | ((with_reducible apply ws_frz); (· exact rfl)) | ((with_reducible apply ws_frzp); (· exact rfl)) | ((with_reducible apply wp_loc); (· exact rfl)) | ((with_reducible apply wp_rd); (· exact rfl)) | ((with_reducible apply wp_rdo); (· exact rfl)) | ((with_reducible apply wp_args); (· exact rfl); (· exact rfl); (· exact rfl))))
        refine ⟨1, rfl, ?_⟩
        (repeat (first | with_reducible refine wp_cons ?_ | with_reducible refine wp_nil ?_ | with_reducible refine wp_C ?_ | with_reducible refine wp_call ?_ | with_reducible refine wp_tup ?_ | with_reducible refine wp_lst ?_ | with_reducible refine wp_if ?_ | with_reducible refine wp_bin ?_ | with_reducible refine wp_cmp ?_ | with_reducible refine wp_ix ?_ | with_reducible refine wp_bt ?_ | with_reducible refine wp_mt ?_ | with_reducible refine wp_is ?_ | with_reducible refine wp_tru ?_ | with_reducible refine wp_not ?_ | with_reducible refine wp_or ?_ | with_reducible refine wp_and ?_ | with_reducible refine wp_rng1 ?_ | with_reducible refine wp_yes ?_ | with_reducible refine wp_lc ?_ | with_reducible refine wp_iLst ?_ | with_reducible refine wp_neg ?_ | with_reducible refine wp_isi ?_ | with_reducible refine wp_sl ?_ | with_reducible refine wp_noPart ?_ | with_reducible refine wp_part ?_ | with_reducible refine wp_rev ?_ | with_reducible refine wp_keys ?_ | with_reducible refine wp_eq2 ?_ | with_reducible refine wp_iStrD ?_ | with_reducible refine wp_dic0 ?_ | with_reducible refine wp_enum ?_ | with_reducible refine ws_seq ?_ | with_reducible refine ws_nil ?_ | with_reducible refine ws_set ?_ | with_reducible refine ws_ret ?_ | with_reducible refine ws_if ?_ | with_reducible refine ws_asg ?_ | with_reducible refine ws_par2 ?_ | with_reducible refine ws_par3 ?_ | with_reducible refine ws_own ?_ | with_reducible refine ws_for ?_ | ((with_reducible apply ws_app); (· exact rfl)) | ((with_reducible apply ws_putO); (· exact rfl)) | ((with_reducible apply ws_frz); (· exact rfl)) | ((with_reducible apply ws_frzp); (· exact rfl)) | ((with_reducible apply wp_loc); (· exact rfl)) | ((with_reducible apply wp_rd); (· exact rfl)) | ((with_reducible apply wp_rdo); (· exact rfl)) | ((with_reducible apply wp_args); (· exact rfl); (· exact rfl); (· exact rfl))))
        refine ⟨_, cut1 (by omega), ?_⟩
        refine ⟨.str (strL ((97 + i) :: cs)), ?_, i + 1, 97 + i, _, _, by omega, i2, by omega, by omega, .inr fun x hx => ?_, rfl, rfl⟩
        · show (if (strL [97 + i]).length + (strL cs).length ≤ line then some (D.str (strL [97 + i] ++ strL cs)) else none) = _
          rw [strL_len, strL_len, if_pos (by unfold line; simp; omega), strL_app]
          rfl
        · by_cases hx2 : x = i
          · exact .inr ⟨by omega, by omega⟩
          · rcases hT with hT | hT
            · exact absurd hm hT
            · rcases hT x (by omega) with q | ⟨q1, q2⟩
              · exact .inl q
              · refine .inl ?_
                rw [← q2]
                exact hm
      · rw [decide_eq_false hm, if_neg Bool.false_ne_true]
        refine ws_nil ?_
        exact ⟨i + 1, c, _, _, by omega, i2, c1, c2, .inl hm, rfl, rfl⟩
    · rintro ρ s3 ⟨i, c, t5, t6, i0, i1, c1, c2, hT, rfl, rfl⟩
      have hi : i = 26 := by
        have := congrArg List.length i1
        simp at this
        omega
      subst hi
      (repeat (first | with_reducible refine wp_cons ?_ | with_reducible refine wp_nil ?_ | with_reducible refine wp_C ?_ | with_reducible refine wp_call ?_ | with_reducible refine wp_tup ?_ | with_reducible refine wp_lst ?_ | with_reducible refine wp_if ?_ | with_reducible refine wp_bin ?_ | with_reducible refine wp_cmp ?_ | with_reducible refine wp_ix ?_ | with_reducible refine wp_bt ?_ | with_reducible refine wp_mt ?_ | with_reducible refine wp_is ?_ | with_reducible refine wp_tru ?_ | with_reducible refine wp_not ?_ | with_reducible refine wp_or ?_ | with_reducible refine wp_and ?_ | with_reducible refine wp_rng1 ?_ | with_reducible refine wp_yes ?_ | with_reducible refine wp_lc ?_ | with_reducible refine wp_iLst ?_ | with_reducible refine wp_neg ?_ | with_reducible refine wp_isi ?_ | with_reducible refine wp_sl ?_ | with_reducible refine wp_noPart ?_ | with_reducible refine wp_part ?_ | with_reducible refine wp_rev ?_ | with_reducible refine wp_keys ?_ | with_reducible refine wp_eq2 ?_ | with_reducible refine wp_iStrD ?_ | with_reducible refine wp_dic0 ?_ | with_reducible refine wp_enum ?_ | with_reducible refine ws_seq ?_ | with_reducible refine ws_nil ?_ | with_reducible refine ws_set ?_ | with_reducible refine ws_ret ?_ | with_reducible refine ws_if ?_ | with_reducible refine ws_asg ?_ | with_reducible refine ws_par2 ?_ | with_reducible refine ws_par3 ?_ | with_reducible refine ws_own ?_ | with_reducible refine ws_for ?_ | ((with_reducible apply ws_app); (· exact rfl)) | ((with_reducible apply ws_putO); (· exact rfl)) | ((with_reducible apply ws_frz); (· exact rfl)) | ((with_reducible apply ws_frzp); (· exact rfl)) | ((with_reducible apply wp_loc); (· exact rfl)) | ((with_reducible apply wp_rd); (· exact rfl)) | ((with_reducible apply wp_rdo); (· exact rfl)) | ((with_reducible apply wp_args); (· exact rfl); (· exact rfl); (· exact rfl))))
      refine h _ _ ⟨c :: cs, rfl, by simp, by rw [List.length_cons]; omega, fun x hx => ?_⟩ (fun hl hm => ?_) (l5.trans h2) (S2.mono (by omega))
      · rcases List.mem_cons.mp hx with rfl | hx
        · exact ⟨c1, c2⟩
        · exact hcs x hx
      · have := letters_count (cs := cs) 26 T fun x hx => by
          rcases hT with hT | hT
          · exact absurd hm hT
          · rcases hT x hx with q | ⟨q1, q2⟩
            · exact q
            · rw [← q2]; exact hm
        omega
theorem wp_words31 {s : Store} {n k : Nat} (S : SrcB s n k) (hk : k < 80000000) {m : Int} (m0 : 0 ≤ m) (hm : m ≤ 20) {T : List Str} (hT : T.length ≤ 5) {P : D → Store → Prop} (h : ∀ (ws : List Str) s', (ws.length : Int) = m → (∀ w ∈ ws, Word w ∧ w ∉ T) → ws.Nodup → s'.length = s.length → SrcB s' n (k + 9 * m.toNat) → P (.lst (ws.map .str)) s') : Wp (M_words31 [.ref n, .int m, .lst (T.map .str)] s) P := by
  refine wp_fn ?_
  show Ws (m_words31 [.pu (.ref n), .pu (.int m), .pu (.lst (T.map .str)), .no, .no] s) _ P
  unfold m_words31
  (repeat (first | with_reducible refine wp_cons ?_ | with_reducible refine wp_nil ?_ | with_reducible refine wp_C ?_ | with_reducible refine wp_call ?_ | with_reducible refine wp_tup ?_ | with_reducible refine wp_lst ?_ | with_reducible refine wp_if ?_ | with_reducible refine wp_bin ?_ | with_reducible refine wp_cmp ?_ | with_reducible refine wp_ix ?_ | with_reducible refine wp_bt ?_ | with_reducible refine wp_mt ?_ | with_reducible refine wp_is ?_ | with_reducible refine wp_tru ?_ | with_reducible refine wp_not ?_ | with_reducible refine wp_or ?_ | with_reducible refine wp_and ?_ | with_reducible refine wp_rng1 ?_ | with_reducible refine wp_yes ?_ | with_reducible refine wp_lc ?_ | with_reducible refine wp_iLst ?_ | with_reducible refine wp_neg ?_ | with_reducible refine wp_isi ?_ | with_reducible refine wp_sl ?_ | with_reducible refine wp_noPart ?_ | with_reducible refine wp_part ?_ | with_reducible refine wp_rev ?_ | with_reducible refine wp_keys ?_ | with_reducible refine wp_eq2 ?_ | with_reducible refine wp_iStrD ?_ | with_reducible refine wp_dic0 ?_ | with_reducible refine wp_enum ?_ | with_reducible refine ws_seq ?_ | with_reducible refine ws_nil ?_ | with_reducible refine ws_set ?_ | with_reducible refine ws_ret ?_ | with_reducible refine ws_if ?_ | with_reducible refine ws_asg ?_ | with_reducible refine ws_par2 ?_ | with_reducible refine ws_par3 ?_ | with_reducible refine ws_own ?_ | with_reducible refine ws_for ?_ | ((with_reducible apply ws_app); (· exact rfl)) | ((with_reducible apply ws_putO); (· exact rfl)) | ((with_reducible apply ws_frz); (· exact rfl)) | ((with_reducible apply ws_frzp); (· exact rfl)) | ((with_reducible apply wp_loc); (· exact rfl)) | ((with_reducible apply wp_rd); (· exact rfl)) | ((with_reducible apply wp_rdo); (· exact rfl)) | ((with_reducible apply wp_args); (· exact rfl); (· exact rfl); (· exact rfl))))
  refine ⟨by decide, ?_⟩
  (repeat (first | with_reducible refine wp_cons ?_ | with_reducible refine wp_nil ?_ | with_reducible refine wp_C ?_ | with_reducible refine wp_call ?_ | with_reducible refine wp_tup ?_ | with_reducible refine wp_lst ?_ | with_reducible refine wp_if ?_ | with_reducible refine wp_bin ?_ | with_reducible refine wp_cmp ?_ | with_reducible refine wp_ix ?_ | with_reducible refine wp_bt ?_ | with_reducible refine wp_mt ?_ | with_reducible refine wp_is ?_ | with_reducible refine wp_tru ?_ | with_reducible refine wp_not ?_ | with_reducible refine wp_or ?_ | with_reducible refine wp_and ?_ | with_reducible refine wp_rng1 ?_ | with_reducible refine wp_yes ?_ | with_reducible refine wp_lc ?_ | with_reducible refine wp_iLst ?_ | with_reducible refine wp_neg ?_ | with_reducible refine wp_isi ?_ | with_reducible refine wp_sl ?_ | with_reducible refine wp_noPart ?_ | with_reducible refine wp_part ?_ | with_reducible refine wp_rev ?_ | with_reducible refine wp_keys ?_ | with_reducible refine wp_eq2 ?_ | with_reducible refine wp_iStrD ?_ | with_reducible refine wp_dic0 ?_ | with_reducible refine wp_enum ?_ | with_reducible refine ws_seq ?_ | with_reducible refine ws_nil ?_ | with_reducible refine ws_set ?_ | with_reducible refine ws_ret ?_ | with_reducible refine ws_if ?_ | with_reducible refine ws_asg ?_ | with_reducible refine ws_par2 ?_ | with_reducible refine ws_par3 ?_ | with_reducible refine ws_own ?_ | with_reducible refine ws_for ?_ | ((with_reducible apply ws_app); (· exact rfl)) | ((with_reducible apply ws_putO); (· exact rfl)) | ((with_reducible apply ws_frz); (· exact rfl)) | ((with_reducible apply ws_frzp); (· exact rfl)) | ((with_reducible apply wp_loc); (· exact rfl)) | ((with_reducible apply wp_rd); (· exact rfl)) | ((with_reducible apply wp_rdo); (· exact rfl)) | ((with_reducible apply wp_args); (· exact rfl); (· exact rfl); (· exact rfl))))
  refine ⟨m, rfl, ⟨by unfold big; omega, by unfold big; omega⟩, ?_⟩
  refine ⟨fun ds ρ s' => ∃ (j : Nat) (ws : List Str) (t : Slot), ((ds.length + j : Nat) : Int) = m ∧ (∀ d ∈ ds, ∃ i : Int, d = .int i) ∧ ws.length = j ∧ (∀ w ∈ ws, Word w ∧ w ∉ T) ∧ ws.Nodup ∧ s'.length = s.length ∧ SrcB s' n (k + 9 * j) ∧ ρ = [.pu (.ref n), .pu (.int m), .pu (.lst (T.map .str)), .ow false (.lst (ws.map .str)), t], ⟨0, [], _, ?_, ?_, rfl, fun w hw => absurd hw List.not_mem_nil, List.nodup_nil, rfl, S, rfl⟩, ?_, ?_⟩
  · rw [intsD_len]; omega
  · exact fun d hd => let ⟨i, e, _⟩ := intsD_mem hd; ⟨i, e⟩
  · rintro _ ds ρ s1 ⟨j, ws, t, l1, l2, l3, l4, l5, l6, S1, rfl⟩
    rw [List.length_cons] at l1
    obtain ⟨i, rfl⟩ := l2 _ List.mem_cons_self
    refine ⟨_, rfl, ?_⟩
    (repeat (first | with_reducible refine wp_cons ?_ | with_reducible refine wp_nil ?_ | with_reducible refine wp_C ?_ | with_reducible refine wp_call ?_ | with_reducible refine wp_tup ?_ | with_reducible refine wp_lst ?_ | with_reducible refine wp_if ?_ | with_reducible refine wp_bin ?_ | with_reducible refine wp_cmp ?_ | with_reducible refine wp_ix ?_ | with_reducible refine wp_bt ?_ | with_reducible refine wp_mt ?_ | with_reducible refine wp_is ?_ | with_reducible refine wp_tru ?_ | with_reducible refine wp_not ?_ | with_reducible refine wp_or ?_ | with_reducible refine wp_and ?_ | with_reducible refine wp_rng1 ?_ | with_reducible refine wp_yes ?_ | with_reducible refine wp_lc ?_ | with_reducible refine wp_iLst ?_ | with_reducible refine wp_neg ?_ | with_reducible refine wp_isi ?_ | with_reducible refine wp_sl ?_ | with_reducible refine wp_noPart ?_ | with_reducible refine wp_part ?_ | with_reducible refine wp_rev ?_ | with_reducible refine wp_keys ?_ | with_reducible refine wp_eq2 ?_ | with_reducible refine wp_iStrD ?_ | with_reducible refine wp_dic0 ?_ | with_reducible refine wp_enum ?_ | with_reducible refine ws_seq ?_ | with_reducible refine ws_nil ?_ | with_reducible refine ws_set ?_ | with_reducible refine ws_ret ?_ | with_reducible refine ws_if ?_ | with_reducible refine ws_asg ?_ | with_reducible refine ws_par2 ?_ | with_reducible refine ws_par3 ?_ | with_reducible refine ws_own ?_ | with_reducible refine ws_for ?_ | ((with_reducible apply ws_app); (· exact rfl)) | ((with_reducible apply ws_putO); (· exact rfl)) | ((with_reducible apply ws_frz); (· exact rfl)) | ((with_reducible apply ws_frzp); (· exact rfl)) | ((with_reducible apply wp_loc); (· exact rfl)) | ((with_reducible apply wp_rd); (· exact rfl)) | ((with_reducible apply wp_rdo); (· exact rfl)) | ((with_reducible apply wp_args); (· exact rfl); (· exact rfl); (· exact rfl))))
    refine ⟨.lst ((T ++ ws).map .str), ?_, ?_⟩
    · show (if (T.map D.str).length + (ws.map D.str).length ≤ line then some (D.lst (T.map D.str ++ ws.map D.str)) else none) = _
      rw [if_pos (by simp; unfold line; omega), List.map_append]
    (repeat (first | with_reducible refine wp_cons ?_ | with_reducible refine wp_nil ?_ | with_reducible refine wp_C ?_ | with_reducible refine wp_call ?_ | with_reducible refine wp_tup ?_ | with_reducible refine wp_lst ?_ | with_reducible refine wp_if ?_ | with_reducible refine wp_bin ?_ | with_reducible refine wp_cmp ?_ | with_reducible refine wp_ix ?_ | with_reducible refine wp_bt ?_ | with_reducible refine wp_mt ?_ | with_reducible refine wp_is ?_ | with_reducible refine wp_tru ?_ | with_reducible refine wp_not ?_ | with_reducible refine wp_or ?_ | with_reducible refine wp_and ?_ | with_reducible refine wp_rng1 ?_ | with_reducible refine wp_yes ?_ | with_reducible refine wp_lc ?_ | with_reducible refine wp_iLst ?_ | with_reducible refine wp_neg ?_ | with_reducible refine wp_isi ?_ | with_reducible refine wp_sl ?_ | with_reducible refine wp_noPart ?_ | with_reducible refine wp_part ?_ | with_reducible refine wp_rev ?_ | with_reducible refine wp_keys ?_ | with_reducible refine wp_eq2 ?_ | with_reducible refine wp_iStrD ?_ | with_reducible refine wp_dic0 ?_ | with_reducible refine wp_enum ?_ | with_reducible refine ws_seq ?_ | with_reducible refine ws_nil ?_ | with_reducible refine ws_set ?_ | with_reducible refine ws_ret ?_ | with_reducible refine ws_if ?_ | with_reducible refine ws_asg ?_ | with_reducible refine ws_par2 ?_ | with_reducible refine ws_par3 ?_ | with_reducible refine ws_own ?_ | with_reducible refine ws_for ?_ | ((with_reducible apply ws_app); (· exact rfl)) | ((with_reducible apply ws_putO); (· exact rfl)) | ((with_reducible apply ws_frz); (· exact rfl)) | ((with_reducible apply ws_frzp); (· exact rfl)) | ((with_reducible apply wp_loc); (· exact rfl)) | ((with_reducible apply wp_rd); (· exact rfl)) | ((with_reducible apply wp_rdo); (· exact rfl)) | ((with_reducible apply wp_args); (· exact rfl); (· exact rfl); (· exact rfl))))
    refine wp_word31 S1 (by omega) fun w s2 hw hn h2 S2 => ?_
    have hn := hn (by simp; omega)
    rw [List.mem_append, not_or] at hn
    refine ⟨by simp; unfold line; omega, j + 1, ws ++ [w], .pu (.int i), by omega, fun d hd => l2 d (List.mem_cons_of_mem _ hd), by simp [l3], ?_, ?_, h2.trans l6, S2.mono (by omega), ?_⟩
    · intro x hx
      rcases List.mem_append.mp hx with hx | hx
      · exact l4 x hx
      · rw [List.mem_singleton] at hx
        subst hx
        exact ⟨hw, hn.1⟩
    · rw [List.nodup_append]
      refine ⟨l5, by simp, fun a ha b hb => ?_⟩
      rw [List.mem_singleton] at hb
      subst hb
      exact fun e => hn.2 (e ▸ ha)
    · rw [List.map_append]
      rfl
  · rintro ρ s1 ⟨j, ws, t, l1, l2, l3, l4, l5, l6, S1, rfl⟩
    rw [List.length_nil] at l1
    (repeat (first | with_reducible refine wp_cons ?_ | with_reducible refine wp_nil ?_ | with_reducible refine wp_C ?_ | with_reducible refine wp_call ?_ | with_reducible refine wp_tup ?_ | with_reducible refine wp_lst ?_ | with_reducible refine wp_if ?_ | with_reducible refine wp_bin ?_ | with_reducible refine wp_cmp ?_ | with_reducible refine wp_ix ?_ | with_reducible refine wp_bt ?_ | with_reducible refine wp_mt ?_ | with_reducible refine wp_is ?_ | with_reducible refine wp_tru ?_ | with_reducible refine wp_not ?_ | with_reducible refine wp_or ?_ | with_reducible refine wp_and ?_ | with_reducible refine wp_rng1 ?_ | with_reducible refine wp_yes ?_ | with_reducible refine wp_lc ?_ | with_reducible refine wp_iLst ?_ | with_reducible refine wp_neg ?_ | with_reducible refine wp_isi ?_ | with_reducible refine wp_sl ?_ | with_reducible refine wp_noPart ?_ | with_reducible refine wp_part ?_ | with_reducible refine wp_rev ?_ | with_reducible refine wp_keys ?_ | with_reducible refine wp_eq2 ?_ | with_reducible refine wp_iStrD ?_ | with_reducible refine wp_dic0 ?_ | with_reducible refine wp_enum ?_ | with_reducible refine ws_seq ?_ | with_reducible refine ws_nil ?_ | with_reducible refine ws_set ?_ | with_reducible refine ws_ret ?_ | with_reducible refine ws_if ?_ | with_reducible refine ws_asg ?_ | with_reducible refine ws_par2 ?_ | with_reducible refine ws_par3 ?_ | with_reducible refine ws_own ?_ | with_reducible refine ws_for ?_ | ((with_reducible apply ws_app); (· exact rfl)) | ((with_reducible apply ws_putO); (· exact rfl)) | ((with_reducible apply ws_frz); (· exact rfl)) | ((with_reducible apply ws_frzp); (· exact rfl)) | ((with_reducible apply wp_loc); (· exact rfl)) | ((with_reducible apply wp_rd); (· exact rfl)) | ((with_reducible apply wp_rdo); (· exact rfl)) | ((with_reducible apply wp_args); (· exact rfl); (· exact rfl); (· exact rfl))))
    exact h ws s1 (by omega) l4 l5 l6 (S1.mono (by omega))
end Dn

/-! Dn: a, b, c = x, [], {} : parts that become the frame's own. -/
namespace Dn
open PySem PySem.Spec L2
open PyProof.Rows hiding St RelV
def mvF (n i j : Nat) : Nat := if j = i ∧ i < n then n else if j < n then j else j + 1
theorem mvF_inj {n i j k : Nat} (h : mvF n i j = mvF n i k) : j = k := by
  unfold mvF at h
  split at h <;> split at h <;> (try split at h) <;> (try split at h) <;> omega
theorem mv_get {α : Type} (ρ T : List α) (t : α) (i j : Nat) : (ρ.set i t ++ T)[j]? = (ρ ++ t :: T)[mvF ρ.length i j]? := by
  unfold mvF
  by_cases h1 : j = i ∧ i < ρ.length
  · rw [if_pos h1, h1.1, List.getElem?_append_left (by rw [List.length_set]; exact h1.2), List.getElem?_set_self h1.2, List.getElem?_append_right (Nat.le_refl _), Nat.sub_self, List.getElem?_cons_zero]
  · rw [if_neg h1]
    by_cases h2 : j < ρ.length
    · rw [if_pos h2, List.getElem?_append_left (by rw [List.length_set]; exact h2), List.getElem?_append_left h2, List.getElem?_set_ne fun e => h1 ⟨e.symm, e ▸ h2⟩]
    · rw [if_neg h2, List.getElem?_append_right (by rw [List.length_set]; omega), List.getElem?_append_right (by omega), List.length_set, show j + 1 - ρ.length = (j - ρ.length) + 1 by omega, List.getElem?_cons_succ]
section
variable {pn : Pn} {K : PySem.W.Frag} {W : WX} {H H1 : Hp} {μ μ1 : Mu} {F : Addr → Prop} {G : Own} {st st1 s : Store} {ρ : Loc} {σ : St} {p : Addr} {d : D} {v : V} {i : Nat} {t : Slot} {o : Option V}
theorem At.mv {T : Loc} {U : St} (a : At pn K H μ F G (ρ ++ t :: T) (σ ++ o :: U) st) (hl : ρ.length = σ.length) : At pn K H μ F G (ρ.set i t ++ T) (σ.set i o ++ U) st := by
  have l := a.l.len
  refine ⟨⟨?_, fun j sl e => ?_, fun j k b c d e q h1 h2 h3 h4 => ?_⟩, a.s, a.gf⟩
  · simp only [List.length_append, List.length_cons, List.length_set] at l ⊢
    omega
  · rw [mv_get] at e ⊢
    obtain ⟨o', e1, q⟩ := a.l.at_ _ sl e
    exact ⟨o', by rw [← hl]; exact e1, q⟩
  · rw [mv_get] at h1 h2 h3 h4
    rw [← hl] at h3 h4
    exact mvF_inj (a.l.inj _ _ b c d e q h1 h2 h3 h4)
theorem At.pre {T : Loc} {U : St} (a : At pn K H μ F G (ρ ++ T) (σ ++ U) st) (hl : ρ.length = σ.length) : At pn K H μ F G ρ σ st := by
  have get : ∀ {j : Nat} {sl : Slot}, ρ[j]? = some sl → (ρ ++ T)[j]? = some sl ∧ (σ ++ U)[j]? = σ[j]? := fun {j sl} e => by
    have := (List.getElem?_eq_some_iff.mp e).1
    exact ⟨by rw [List.getElem?_append_left this]; exact e, List.getElem?_append_left (by omega)⟩
  refine ⟨⟨hl, fun j sl e => ?_, fun j k b c d e q h1 h2 h3 h4 => ?_⟩, a.s, a.gf⟩
  · obtain ⟨g1, g2⟩ := get e
    obtain ⟨o', e1, q⟩ := a.l.at_ _ sl g1
    exact ⟨o', by rw [← g2]; exact e1, q⟩
  · obtain ⟨g1, g2⟩ := get h1
    obtain ⟨g3, g4⟩ := get h2
    exact a.l.inj _ _ b c d e q g1 g3 (by rw [g2]; exact h3) (by rw [g4]; exact h4)
theorem At.push0 (a : At pn K H μ F G ρ σ st) : At pn K H μ F G (ρ ++ [.no]) (σ ++ [none]) st := by
  refine ⟨⟨by rw [List.length_append, List.length_append, a.l.len]; rfl, fun j sl e => ?_, fun j k b c d e q h1 h2 h3 h4 => ?_⟩, a.s, a.gf⟩
  · by_cases h : j < ρ.length
    · rw [List.getElem?_append_left h] at e
      rw [List.getElem?_append_left (by rw [← a.l.len]; exact h)]
      exact a.l.at_ j sl e
    · have hj : j = ρ.length := by
        have := (List.getElem?_eq_some_iff.mp e).1
        rw [List.length_append, List.length_singleton] at this
        omega
      subst hj
      rw [List.getElem?_append_right (Nat.le_refl _), Nat.sub_self] at e
      cases e
      exact ⟨none, by rw [a.l.len, List.getElem?_append_right (Nat.le_refl _), Nat.sub_self]; rfl, True.intro⟩
  · have get : ∀ {j : Nat} {b : Bool} {d : D}, (ρ ++ [Slot.no])[j]? = some (.ow b d) → ρ[j]? = some (.ow b d) ∧ (σ ++ [none])[j]? = σ[j]? := fun {j b d} e => by
      by_cases h : j < ρ.length
      · rw [List.getElem?_append_left h] at e
        exact ⟨e, List.getElem?_append_left (by rw [← a.l.len]; exact h)⟩
      · have hj : j = ρ.length := by
          have := (List.getElem?_eq_some_iff.mp e).1
          rw [List.length_append, List.length_singleton] at this
          omega
        subst hj
        rw [List.getElem?_append_right (Nat.le_refl _), Nat.sub_self] at e
        cases e
    obtain ⟨g1, g2⟩ := get h1
    obtain ⟨g3, g4⟩ := get h2
    exact a.l.inj _ _ b c d e q g1 g3 (by rw [← g2]; exact h3) (by rw [← g4]; exact h4)
theorem set_last {α : Type} (l : List α) (x y : α) : (l ++ [x]).set l.length y = l ++ [y] := by
  rw [List.set_append_right _ _ (Nat.le_refl _), Nat.sub_self]
  rfl
theorem At.pushP (a : At pn K H μ F G ρ σ st) (r : RV K H μ F d v) : At pn K H μ F G (ρ ++ [.pu d]) (σ ++ [some v]) st := by
  have q := (a.push0).setP (i := ρ.length) r
  rw [set_last, a.l.len, set_last] at q
  exact q
theorem At.pushO (a : At pn K H μ F G ρ σ st) (f : Fut H μ H1 μ1) (rs : RS K H1 μ1 (Dn.plus F p) st1) (hp : H p = none) (c : RC K H1 μ1 (Dn.plus F p) d p) : At pn K H1 μ1 (Dn.plus F p) (G.add p) (ρ ++ [.ow false d]) (σ ++ [some (.ref p)]) st1 := by
  have q := (a.push0).own (i := ρ.length) f rs hp c
  rw [set_last, a.l.len, set_last] at q
  exact q
end
def slotO (b : Bool) (d : D) : Slot := if b = true then .ow false d else .pu d
def slotsO : List Bool → List D → List Slot
  | b :: bs, d :: ds => slotO b d :: slotsO bs ds
  | _, _ => []
abbrev sls (T : List (Slot × V)) : Loc := T.map (·.1)
abbrev vls (T : List (Slot × V)) : St := T.map fun t => some t.2
def OkO (pn : Pn) (K : PySem.W.Frag) (W : WX) (H : Hp) (μ : Mu) (F : Addr → Prop) (G : Own) (ρ : Loc) (σ : St) (T : List (Slot × V)) (bs : List Bool) (r : Res (List D)) (Q : List V → Hp → Prop) : Prop := match r with
  | .ok ds s => ∀ H' μ' F' G' T', Ev H μ F G H' μ' F' G' → sls T' = slotsO bs ds → At pn K H' μ' F' G' (ρ ++ sls (T ++ T')) (σ ++ vls (T ++ T')) s → Q (T'.map (·.2)) H'
  | .ex C fs s => ∀ d H' μ' F' G' xs, Ev H μ F G H' μ' F' G' → At pn K H' μ' F' G' ρ σ s → H' d = some (.xd xs) → d ∉ μ' → ¬ F' d → RVf K H' μ' F' fs xs → W (.ref (He.ga K C)) (some d) σ H'
  | .bad => False
def tO (pn : Pn) (K : PySem.W.Frag) (W : WX) (bs : List Bool) (m : EL) : TA := fun σ H Q => ∃ ρ μ F G st T, ρ.length = σ.length ∧ At pn K H μ F G (ρ ++ sls T) (σ ++ vls T) st ∧ OkO pn K W H μ F G ρ σ T bs (m ρ st) Q
def SOw (X : Cx) (W : WX) (es : List Expr) (bs : List Bool) (m : EL) : Prop := PA X es (tO X.pn X.K W bs m)
section
variable {X : Cx} {W : WX} {a : Expr} {es : List Expr} {ma : E} {ml : EL} {bs : List Bool}
theorem so_nil : SOw X W [] [] eNil := PA.of pa_nil fun σ H Q ⟨ρ, μ, F, G, st, T, hl, a, h⟩ => h H μ F G [] (a.ev .refl) rfl (by rw [List.append_nil]; exact a)
/-- what follows the first part -/
theorem OkO.tail {pn : Pn} {K : PySem.W.Frag} {H H1 : Hp} {μ μ1 : Mu} {F F1 : Addr → Prop} {G G1 : Own} {ρ : Loc} {σ : St} {T : List (Slot × V)} {b : Bool} {d : D} {v : V} {s : Store} {Q : List V → Hp → Prop} (e0 : Ev H μ F G H1 μ1 F1 G1)
    (h : OkO pn K W H μ F G ρ σ T (b :: bs) ((ml ρ s).bind fun ds s => .ok (d :: ds) s) Q) : OkO pn K W H1 μ1 F1 G1 ρ σ (T ++ [(slotO b d, v)]) bs (ml ρ s) fun xs H' => Q (v :: xs) H' := by
  cases e : ml ρ s with
  | ok ds s2 =>
    rw [e] at h
    intro H' μ' F' G' T' ev e1 a
    exact h H' μ' F' G' ((slotO b d, v) :: T') (e0.trans ev) (by show _ :: sls T' = _; rw [e1]; rfl) (by rw [List.append_assoc] at a; exact a)
  | ex C fs s2 =>
    rw [e] at h
    exact fun d H' μ' F' G' xs ev => h d H' μ' F' G' xs (e0.trans ev)
  | bad => rw [e] at h; exact h
theorem so_pure (ha : SE X W a ma) (hr : SOw X W es bs ml) (hs : starEach (a :: es) X.env = (false, eval a X.env) :: starEach es X.env := by rfl) : SOw X W (a :: es) (false :: bs) (eCons ma ml) := PA.of (pa_cons ha hr hs) fun σ H Q ⟨ρ, μ, F, G, st, T, hl, a, h⟩ => by
  refine ⟨ρ, μ, F, G, st, a.pre hl, ?_⟩
  have h : OkO X.pn X.K W H μ F G ρ σ T (false :: bs) ((ma ρ st).bind fun d s => (ml ρ s).bind fun ds s => .ok (d :: ds) s) Q := h
  cases e : ma ρ st with
  | ok d s =>
    rw [e] at h
    intro v H1 μ1 f rs rv
    refine ⟨ρ, μ1, F, G, s, T ++ [(.pu d, v)], hl, ?_, h.tail (d := d) (v := v) (a.ev f)⟩
    have q := (a.fut f rs).pushP rv
    rw [List.append_assoc, List.append_assoc] at q
    simpa [sls, vls] using q
  | ex C fs s =>
    rw [e] at h
    exact fun d H' μ' xs f rs e1 e2 e3 e4 => h d H' μ' F G xs (a.ev f) ((a.fut f rs).pre hl) e1 e2 e3 e4
  | bad => rw [e] at h; exact h
theorem so_own (ha : SN X W a ma) (hr : SOw X W es bs ml) (hs : starEach (a :: es) X.env = (false, eval a X.env) :: starEach es X.env := by rfl) : SOw X W (a :: es) (true :: bs) (eCons ma ml) := PA.of (pa_cons ha hr hs) fun σ H Q ⟨ρ, μ, F, G, st, T, hl, a, h⟩ => by
  refine ⟨ρ, μ, F, G, st, a.pre hl, ?_⟩
  have h : OkO X.pn X.K W H μ F G ρ σ T (true :: bs) ((ma ρ st).bind fun d s => (ml ρ s).bind fun ds s => .ok (d :: ds) s) Q := h
  cases e : ma ρ st with
  | ok d s =>
    rw [e] at h
    intro H1 μ1 p f rs hp nF c
    refine ⟨ρ, μ1, plus F p, G.add p, s, T ++ [(.ow false d, .ref p)], hl, ?_, h.tail (d := d) (v := .ref p) (a.evOwn f hp)⟩
    have q := a.pushO f rs hp c
    rw [List.append_assoc, List.append_assoc] at q
    simpa [sls, vls] using q
  | ex C fs s =>
    rw [e] at h
    exact fun d H' μ' xs f rs e1 e2 e3 e4 => h d H' μ' F G xs (a.ev f) ((a.fut f rs).pre hl) e1 e2 e3 e4
  | bad => rw [e] at h; exact h
/-- i, j = .. with parts of one's own -/
def kParO (is : List Nat) (bs : List Bool) (ρ : Loc) (ds : List D) (s : Store) : SRes := if ds.length = is.length ∧ bs.length = is.length then .nx ((is.zip (slotsO bs ds)).foldl (fun ρ p => ρ.set p.1 p.2) ρ) s else .bad
def sParO (is : List Nat) (bs : List Bool) (es : EL) : S := fun ρ s => (es ρ s).to ρ (kParO is bs ρ)
variable {pos : Pos}
/-- .. as a whole -/
theorem tO_S {is : List Nat} {D1 : Ends} {σ : St} {H : Hp} {Q : List V → Hp → Prop} (h : tS X.pn X.K W (sParO is bs ml) D1 σ H)
    (hQ : ∀ (T : List (Slot × V)) (H1 : Hp) (N : St → Prop), T.length = is.length → (∀ ρ μ F G s, (∀ (ρ' : Loc) (σ' : St), At X.pn X.K H1 μ F G ρ' σ' s → ρ' = (is.zip (sls T)).foldl (fun ρ p => ρ.set p.1 p.2) ρ → D1.nx σ' H1) → ρ.length = σ.length → At X.pn X.K H1 μ F G (ρ ++ sls T) (σ ++ vls T) s → Q (T.map (·.2)) H1)) : tO X.pn X.K W bs ml σ H Q := by
  obtain ⟨ρ, μ, F, G, st, a, h⟩ := h
  refine ⟨ρ, μ, F, G, st, [], a.l.len, by simpa using a, ?_⟩
  have h : OkS X.pn X.K W H μ F G ((ml ρ st).to ρ (kParO is bs ρ)) D1 := h
  cases e : ml ρ st with
  | ok ds s =>
    rw [e] at h
    intro H' μ' F' G' T' ev e1 a'
    have h : OkS X.pn X.K W H μ F G (kParO is bs ρ ds s) D1 := h
    unfold kParO at h
    by_cases hc : ds.length = is.length ∧ bs.length = is.length
    · rw [if_pos hc] at h
      have len : ∀ (bs : List Bool) (ds : List D), bs.length = ds.length → (slotsO bs ds).length = ds.length := fun bs => by
        induction bs with
        | nil => intro ds e; cases ds with
          | nil => rfl
          | cons d ds => cases e
        | cons b bs ih => intro ds e; cases ds with
          | nil => cases e
          | cons d ds => simp only [slotsO, List.length_cons, ih ds (Nat.succ.inj e)]
      have hl : T'.length = is.length := by
        have := congrArg List.length e1
        rw [len bs ds (by omega), List.length_map] at this
        omega
      refine hQ T' H' (fun _ => True) hl ρ μ' F' G' s (fun ρ' σ' a2 e2 => ?_) a.l.len (by simpa using a')
      rw [e1] at e2
      subst e2
      exact h _ _ _ _ _ ev a2
    · rw [if_neg hc] at h; exact h.elim
  | ex C fs s =>
    rw [e] at h
    exact fun d H' μ' F' G' xs ev a' => h d σ H' μ' F' G' xs ev a'
  | bad => rw [e] at h; exact h
theorem ss_parO2 {i j : Nat} {x y : Str} {a b : Expr} {px py pt : Pos} {kt k2 pt2} (hc : X.calm = true) (hN : X.N.Nodup) (ha : SOw X W [a, b] bs ml) (hi : X.N[i]? = some x := by rfl) (hj : X.N[j]? = some y := by rfl) (hij : i ≠ j := by decide)
    (hx : X.env.scope.names.lookup x = some .local := by rfl) (hy : X.env.scope.names.lookup y = some .local := by rfl)
    (hw : swappedStores [.Tuple [.Name x px, .Name y py] kt pt] (.Tuple [a, b] k2 pt2) X.env = pure (some [x, y]) := by rfl)
    (hs : swapsWithSole [.Tuple [.Name x px, .Name y py] kt pt] (.Tuple [a, b] k2 pt2) pos.line X.env = pure false := by rfl) :
    SS X W (.Assign [.Tuple [.Name x px, .Name y py] kt pt] (.Tuple [a, b] k2 pt2) pos) (sParO [i, j] bs ml) :=
  PS.of (ps_par hc hN hi hj hij hx hy ha hw hs) fun D σ H h => tO_S h fun T H1 _ hl ρ μ F G s k l a => by
    match T, hl, k, a with
    | [t, u], _, k, a =>
      have q := (a.mv (i := i) l).mv (i := j) (T := []) (U := []) (by rw [List.length_set, List.length_set]; exact l)
      rw [List.append_nil, List.append_nil] at q
      exact ⟨t.2, u.2, rfl, k _ _ q rfl⟩
theorem ss_parO3 {i j l : Nat} {x y z : Str} {a b c : Expr} {px py pz pt : Pos} {kt k2 pt2} (hc : X.calm = true) (hN : X.N.Nodup) (ha : SOw X W [a, b, c] bs ml) (hi : X.N[i]? = some x := by rfl) (hj : X.N[j]? = some y := by rfl) (hl : X.N[l]? = some z := by rfl) (hij : i ≠ j := by decide) (hil : i ≠ l := by decide) (hjl : j ≠ l := by decide)
    (hx : X.env.scope.names.lookup x = some .local := by rfl) (hy : X.env.scope.names.lookup y = some .local := by rfl) (hz : X.env.scope.names.lookup z = some .local := by rfl)
    (hw : swappedStores [.Tuple [.Name x px, .Name y py, .Name z pz] kt pt] (.Tuple [a, b, c] k2 pt2) X.env = pure (some [x, y, z]) := by rfl)
    (hs : swapsWithSole [.Tuple [.Name x px, .Name y py, .Name z pz] kt pt] (.Tuple [a, b, c] k2 pt2) pos.line X.env = pure false := by rfl) :
    SS X W (.Assign [.Tuple [.Name x px, .Name y py, .Name z pz] kt pt] (.Tuple [a, b, c] k2 pt2) pos) (sParO [i, j, l] bs ml) :=
  PS.of (ps_par3 hc hN hi hj hl hij hil hjl hx hy hz ha hw hs) fun D σ H h => tO_S h fun T H1 _ hl ρ μ F G s k e a => by
    match T, hl, k, a with
    | [t, u, v], _, k, a =>
      have q := ((a.mv (i := i) e).mv (i := j) (by rw [List.length_set, List.length_set]; exact e)).mv (i := l) (T := []) (U := []) (by rw [List.length_set, List.length_set, List.length_set, List.length_set]; exact e)
      rw [List.append_nil, List.append_nil] at q
      exact ⟨t.2, u.2, v.2, rfl, k _ _ q rfl⟩
end
section
variable {ρ : Loc} {s : Store} {N : Loc → Store → Prop} {R : D → Store → Prop}
theorem ws_parO {is : List Nat} {bs : List Bool} {es : EL} (h : Wp (es ρ s) fun ds s => (ds.length = is.length ∧ bs.length = is.length) ∧ N ((is.zip (slotsO bs ds)).foldl (fun ρ p => ρ.set p.1 p.2) ρ) s) : Ws (sParO is bs es ρ s) N R := wp_to (wp_mono h fun ds s ⟨c, n⟩ => by
  unfold kParO
  rw [if_pos c]
  exact n)
end
end Dn

/-! Dn: more steps. -/
namespace Dn
open PySem PySem.Spec L2
open PyProof.Rows hiding St RelV
section
variable {P : D → Store → Prop} {ρ : Loc} {s : Store}
theorem wp_eand {a b : E} (h : Wp (a ρ s) fun x s => ∃ t : Bool, x = .bl t ∧ (if t = true then Wp (b ρ s) P else P (.bl false) s)) : Wp (eAnd a b ρ s) P := by
  unfold eAnd
  rw [wp_bind]
  exact wp_mono h fun x s ⟨t, e, q⟩ => by
    subst e
    cases t with
    | true => exact q
    | false => exact q
theorem wp_attr {L : List String} {f : Str} {a : E} (h : Wp (a ρ s) fun x s => ∃ r, attrOf L f (der s x) = some r ∧ P r s) : Wp (eAttr L f a ρ s) P := by
  unfold eAttr
  rw [wp_bind]
  exact wp_mono h fun x s ⟨r, e, p⟩ => by rw [e]; exact p
theorem wp_eqO {neg : Bool} {T : List (String × M)} {L : List (Bool × String)} {a b : E} (h : Wp (a ρ s) fun x s => Wp (b ρ s) fun y s => Wp (kEq neg T L x y s) P) : Wp (eEqO neg T L a b ρ s) P := by
  unfold eEqO
  rw [wp_bind]
  exact wp_mono h fun x s q => by rw [wp_bind]; exact q
theorem wp_get {r : Res D} {a : D} {s : Store} (h : Wp r fun d s' => d = a ∧ s' = s) : r = .ok a s := by
  cases r with
  | ok d s' => obtain ⟨h1, h2⟩ := h; rw [h1, h2]
  | ex C fs s => exact h.elim
  | bad => exact h.elim
/-- one of two ways that are known -/
theorem wp_pick {P Q : D → Store → Prop} {b : Bool} {c : ET} {ea eb : E} (hc : Wp (c ρ s) fun v s' => v = b ∧ s' = s) (h1 : b = true → Wp (ea ρ s) P) (h2 : b = false → Wp (eb ρ s) P) (h : ∀ d s, P d s → Q d s) : Wp (eIf c ea eb ρ s) Q := by
  refine wp_if (wp_mono hc fun v s' e => ?_)
  obtain ⟨rfl, rfl⟩ := e
  cases v with
  | true => rw [if_pos rfl]; exact wp_mono (h1 rfl) h
  | false => rw [if_neg Bool.false_ne_true]; exact wp_mono (h2 rfl) h
end
/-- a comprehension whose parts leave the store -/
theorem wp_lcMap {t : Tgt} {it : EI} {c : ET} {e : E} {vs : List Nat} {P : D → Store → Prop} {ρ : Loc} {s : Store} (f : D → D) (h : Wp (it ρ s) fun ds s => ds.length ≤ line ∧
    (∀ d, d ∈ ds → ∃ ρ', setT t d (wipeL ρ vs) = some ρ' ∧ Wp (c ρ' s) fun b s1 => b = true ∧ Wp (e ρ' s1) fun x s2 => x = f d ∧ s2 = s) ∧ P (.lst (ds.map f)) s) : Wp (eLc t it c e vs ρ s) P := by
  refine wp_lc (wp_mono h fun ds s ⟨hl, h1, h2⟩ => ⟨hl, fun es acc s' => s' = s ∧ ∃ pre, ds = pre ++ es ∧ acc = pre.map f, ⟨rfl, [], rfl, rfl⟩, ?_, ?_⟩)
  · rintro d es acc s' ⟨rfl, pre, e1, rfl⟩
    obtain ⟨ρ', e2, q⟩ := h1 d (by rw [e1]; simp)
    refine ⟨ρ', e2, wp_mono q fun b s1 ⟨hb, q⟩ => ?_⟩
    rw [if_pos hb]
    exact wp_mono q fun x s2 ⟨e3, e4⟩ => ⟨e4, pre ++ [d], by rw [e1]; simp, by rw [e3]; simp⟩
  · rintro xs s' ⟨rfl, pre, e1, rfl⟩
    rw [List.append_nil] at e1
    rw [← e1]
    exact h2
theorem item_map {α : Type} (f : α → D) {qs : List α} {j : Nat} {q : α} (h : qs[j]? = some q) : item (.lst (qs.map f)) (.int (j : Int)) = some (f q) := by
  have hj := (List.getElem?_eq_some_iff.mp h).1
  show atI (qs.map f) (j : Int) = _
  unfold atI
  rw [ixN_at (by omega) (by simpa using hj)]
  simp [h]
/-- the last step: M_law answers True -/
theorem true_of {r : Res D} (key : Wp r fun d _ => d = .bl true) : ∃ s, r = .ok (.bl true) s := by
  cases e : r with
  | ok d s => rw [e] at key; exact ⟨s, by rw [show d = .bl true from key]⟩
  | ex C fs s => rw [e] at key; exact key.elim
  | bad => rw [e] at key; exact key.elim
end Dn

/-! Dn: properties, constants of classes. -/
namespace Dn
open PySem PySem.Spec L2
open PyProof.Rows hiding St RelV
/-! ### defs behind a record (property, classmethod) -/
structure Deco where
  kind : String
  d : He.DefD
def Deco.own (K : PySem.W.Frag) (p : Deco) : Addr := He.ma K (He.ga K p.d.at_.1) (p.d.at_.2.getD "")
def Deco.ad (K : PySem.W.Frag) (p : Deco) : Addr := match PySem.W.recIn K (p.own K) p.kind with
  | some (.ref g :: _) => g
  | _ => 0
def fwA (K : PySem.W.Frag) (a : Addr) : He.FnW := match K.lookup a with
  | some o => (match o.data with
    | .func fd => some (fd.name, fd.qualname, fd.params, fd.body, fd.scope, fd.globals, fd.closure, fd.builtins)
    | _ => none)
  | none => none
def Deco.good (K : PySem.W.Frag) (p : Deco) : Bool := b2 (PySem.W.keepIn K (.ref (p.ad K))) (match K.lookup (p.ad K) with
  | some o => (match o.data with
    | .func fd => b2 (PySem.W.codeIn K fd.code p.d.qual) (b2 (He.dflB K fd.defaults (p.d.dvs K)) (He.kwdB K fd.kwdefaults (p.d.kws K)))
    | _ => false)
  | none => false)
abbrev FuA (K : PySem.W.Frag) (p : Deco) (fd : FuncData) : Prop := FunD K p.d.name p.d.qual p.d.params p.d.body p.d.scope (p.d.dvs K) (p.d.kws K) (p.ad K) fd
theorem Deco.fd {K : PySem.W.Frag} {p : Deco} (e : fwA K (p.ad K) = p.d.val) (c : p.good K = true) : ∃ fd, FuA K p fd := by
  obtain ⟨kp, c⟩ := b2_ok c
  unfold fwA at e
  generalize hq : K.lookup (p.ad K) = z at e c
  match z, e, c with
  | some ⟨oc, od, .func ⟨f1, f2, f3, f4, f5, f6, f7, f8, f9, f10, f11, f12, f13, f14, f15⟩, osl⟩, e, c =>
    obtain ⟨q1, c⟩ := b2_ok c
    obtain ⟨q2, q3⟩ := b2_ok c
    simp only [He.DefD.val, Option.some.injEq, Prod.mk.injEq] at e
    obtain ⟨e1, e2, e3, e4, e5, e6, e7, e8⟩ := e
    subst e1 e2 e3 e4 e5 e6 e7 e8
    exact ⟨_, ⟨oc, od, f8, f9, f10, f11, f12, f13, f14, osl, rfl, hq, q1, He.dflB_ok q2, He.kwdB_ok q3⟩, kp⟩
  | none, e, c => cases c
/-- the look at the end: defs, decorated defs, what is checked besides -/
abbrev AlW : Type := He.AlD × List He.FnW × Bool
def obsW (fn : List He.DefD) (ps : List Deco) (chk : PySem.W.Frag → Bool) (K : PySem.W.Frag) : AlW := (He.obsD [] fn K, ps.map (fun p => fwA K (p.ad K)), b2 (ps.all fun p => p.good K) (chk K))
def valW (fn : List He.DefD) (ps : List Deco) : AlW := (He.valD fn, ps.map (fun p => p.d.val), true)
def SaysW (fn : List He.DefD) (ps : List Deco) (chk : PySem.W.Frag → Bool) (K : PySem.W.Frag) : Prop := obsW fn ps chk K = valW fn ps
def obsWG (n : Nat) (fn : List He.DefD) (ps : List Deco) (chk : PySem.W.Frag → Bool) (g : Addr → Option Obj) : AlW := obsW fn ps chk (He.frG g (He.asD g n ++ [cStatics]))
def hookW (n : Nat) (fn : List He.DefD) (ps : List Deco) (chk : PySem.W.Frag → Bool) : PySem.W.Hook where
  α := AlW
  obs := fun s => obsWG n fn ps chk s.heap.get?
  val := fun _ => valW fn ps
  says := fun _ h => ∃ K : PySem.W.Frag, K.In h ∧ SaysW fn ps chk K
  of := fun _ _ e => ⟨_, He.frG_in, e⟩
  keeps := fun _ _ _ ⟨K, hK, c⟩ k => ⟨K, PySem.W.Frag.In.keeps hK k, c⟩
theorem obsWG_eq {n : Nat} {fn : List He.DefD} {ps : List Deco} {chk : PySem.W.Frag → Bool} {g : Addr → Option Obj} {s : Shared} (h : ∀ a, g a = s.heap.get? a) : obsWG n fn ps chk g = (hookW n fn ps chk).obs s := congrArg (obsWG n fn ps chk) (funext h)
section
variable {fn : List He.DefD} {ps : List Deco} {chk : PySem.W.Frag → Bool} {K : PySem.W.Frag}
theorem SaysW.d (c : SaysW fn ps chk K) : He.SaysD [] fn K := congrArg (fun z : AlW => z.1) c
theorem SaysW.cc (c : SaysW fn ps chk K) : b2 (ps.all fun p => p.good K) (chk K) = true := congrArg (fun z : AlW => z.2.2) c
theorem SaysW.c (c : SaysW fn ps chk K) : chk K = true := (b2_ok c.cc).2
theorem SaysW.deco (c : SaysW fn ps chk K) (i : Nat) {p : Deco} (e : ps[i]? = some p) : ∃ fd, FuA K p fd := by
  have q : (ps.map fun p => fwA K (p.ad K))[i]? = (ps.map fun p => p.d.val)[i]? := congrArg (fun z : AlW => z.2.1[i]?) c
  rw [List.getElem?_map, List.getElem?_map, e] at q
  exact Deco.fd (Option.some.inj q) (List.all_eq_true.mp (b2_ok c.cc).1 p (List.mem_of_getElem? e))
end
/-- such a def keeps its promise -/
def POk (P : Program) (w : World) (K : PySem.W.Frag) (mg : Str → Option Value) (base : Heap) (p : Deco) (k : Nat) (ps : List Str) (m : M) : Prop := ∃ fd, FuA K p fd ∧ FnOk P w K mg base (L2.CX P w) k (p.ad K) fd ps (spOf K ps.length m)

/-! ### properties -/
def propB (p : Deco) (K : PySem.W.Frag) : Bool := b2 ((He.Fa.cls p.d.at_.1).ok K) (b2 (decide (PySem.W.findIn K (.ref (He.ga K p.d.at_.1)) (p.d.at_.2.getD "") = some (some (.ref (p.own K))))) (b2 (decide (PySem.W.specialIn K (.ref (p.own K)) "__get__" = some (some (.builtin "property.__get__"))))
  (b2 (decide (PySem.W.takesIn K (.ref (p.own K)) = some true)) (match PySem.W.recIn K (p.own K) "property" with
    | some (.ref g :: _) => decide (g = p.ad K)
    | _ => false))))
theorem propB_ok {p : Deco} {K : PySem.W.Frag} (h : propB p K = true) : Cls K (He.ga K p.d.at_.1) ∧ PropOf K (He.ga K p.d.at_.1) (p.d.at_.2.getD "") (p.own K) (p.ad K) := by
  obtain ⟨h1, h⟩ := b2_ok h
  obtain ⟨h2, h⟩ := b2_ok h
  obtain ⟨h3, h⟩ := b2_ok h
  obtain ⟨h4, h5⟩ := b2_ok h
  refine ⟨He.cls_ok h1, of_decide_eq_true h2, of_decide_eq_true h3, of_decide_eq_true h4, ?_⟩
  split at h5
  · rename_i g rest e
    exact ⟨rest, by rw [e, of_decide_eq_true h5]⟩
  · cases h5
/-- an answer that is no exception -/
def noX {α : Type} (r : Res α) : Res α := match r with
  | .ex _ _ _ => .bad
  | r => r
/-- the getter by the class of the instance -/
def PropT (X : Cx) (f : Str) (L : Disp) : Prop := ∀ C g, L.lookup C = some g → Cls X.K (He.ga X.K C) ∧ ∃ p fa fd k, PropOf X.K (He.ga X.K C) f p fa ∧ FnOk X.prog X.w X.K X.mg X.base (L2.CX X.prog X.w) k fa fd ["self"] (spOf X.K 1 g) ∧ Room (k + 1) X.A ∧ Binds X.K fd ["self"] []
def getOf (L : Disp) : D → Option M
  | .obj C _ => L.lookup C
  | _ => none
def eProp (L : Disp) (o : E) : E := fun ρ s => (o ρ s).bind fun x s => match getOf L (der s x) with
  | some g => noX (g [x] s)
  | none => .bad
section
variable {X : Cx} {W : WX} {o : Expr} {f : Str} {mo : E} {L : Disp} {pos : Pos}
theorem propT_nil : PropT X f [] := fun C g h => by cases h
theorem propT_cons {p : Deco} {k : Nat} {m : M} (F : POk X.prog X.w X.K X.mg X.base p k ["self"] m) (h : Cls X.K (He.ga X.K p.d.at_.1) ∧ PropOf X.K (He.ga X.K p.d.at_.1) (p.d.at_.2.getD "") (p.own X.K) (p.ad X.K)) (hf : p.d.at_.2.getD "" = f) (hk : Room (k + 1) X.A)
    (hb : ∀ fd, FuA X.K p fd → Binds X.K fd ["self"] []) {Cn : String} (hC : p.d.at_.1 = (Cn : Str)) (t : PropT X f L) : PropT X f ((Cn, m) :: L) := fun C g e => by
  rw [hC, hf] at h
  simp only [List.lookup] at e
  cases q : C == Cn with
  | false => rw [q] at e; exact t C g e
  | true =>
    rw [q] at e
    cases e
    rw [eq_of_beq q]
    obtain ⟨fd, F1, F2⟩ := F
    exact ⟨h.1, _, _, fd, k, h.2, F2, hk, hb fd F1⟩
theorem se_prop (h : PropT X f L) (ho : SE X W o mo) (hab : attributeBase o f X.env (eval o X.env) = eval o X.env := by rfl) : SE X W (.Attribute o f pos) (eProp L mo) := by
  refine ⟨fun pins s σ H Q I ⟨ρ, μ, F, G, st, a, q⟩ => ?_⟩
  have q' := tG_at (P := fun F H μ d v => RV X.K H μ F d v) (k := fun x s => match getOf L (der s x) with
  | some g => noX (g [x] s)
  | none => .bad) (R := fun x H1 => ∃ C g b dx xs, L.lookup C = some g ∧ x = .ref b ∧ H1 b = some (.ins (He.ga X.K C) dx xs) ∧ spOf X.K 1 g [.ref b] H1 Q fun _ _ _ => False) a q fun x H1 μ1 st1 d a1 f1 r1 h1 => ?_
  · refine attr_of hab (thn (ho.run pins s σ H _ I q') fun u s1 ⟨x, H1, I1, rx, C, g, b, dx, xs, hL, ex, ea, hs⟩ => ?_)
    subst ex
    obtain rfl : u = Value.ref b := rx
    obtain ⟨c, p, fa, fd, k, hp, F, hr, hb⟩ := h C g hL
    exact getprop_ok (X := X) I1 ea c hp F hr hb .nil (fun pins σ H s e s' I c => passAt (X := X.nox) (W := W0) takes_w0 σ pins H s e s' I (by exact c)) hs
  · cases hg : getOf L (der st1 d) with
    | none => rw [hg] at h1; exact h1.elim
    | some g =>
      rw [hg] at h1
      have rr := (RD.of r1).dr a1.s
      generalize der st1 d = c at hg rr
      unfold getOf at hg
      split at hg
      · rename_i C fs
        obtain ⟨b, dx, xs, e1, e2, rf⟩ := rr
        subst e1
        refine ⟨C, g, b, dx, xs, hg, rfl, e2, μ1, F, st1, [d], a1.s, RVs.cons r1 RVs.nil, rfl, ?_⟩
        have h1 : OkE X.K W F σ H1 μ1 (noX (g [d] st1)) Q := h1
        cases hr : g [d] st1 with
        | ok d2 s2 => rw [hr] at h1; exact h1
        | ex C fs s2 => rw [hr] at h1; exact h1.elim
        | bad => rw [hr] at h1; exact h1.elim
      · cases hg
end
/-! ### constants of classes -/
/-- at each class of T the name f is this constant -/
def ConT (K : PySem.W.Frag) (f : Str) (T : List (String × D)) : Prop := ∀ C d, T.lookup C = some d → Cls K (He.ga K C) ∧ ∃ v u, Con K (He.ga K C) f v u ∧ ∀ H μ F, RV K H μ F d v
def conB (f : Str) (T : List (String × D)) (K : PySem.W.Frag) : Bool := T.all fun p => b2 ((He.Fa.cls p.1).ok K) (b2 (!PySem.W.copiedNames.contains f) (match PySem.W.findIn K (.ref (He.ga K p.1)) f with
  | some (some u) => b2 (kB K p.2 u) (decide (PySem.W.specialIn K u "__get__" = some none))
  | _ => false))
theorem conB_ok {f : Str} {T : List (String × D)} {K : PySem.W.Frag} (h : conB f T K = true) : ConT K f T := fun C d e => by
  obtain ⟨h1, h2⟩ := b2_ok (List.all_eq_true.mp h (C, d) (lookup_mem e))
  obtain ⟨h2, h3⟩ := b2_ok h2
  refine ⟨He.cls_ok h1, ?_⟩
  split at h3
  · rename_i u e1
    obtain ⟨h4, h5⟩ := b2_ok h3
    obtain ⟨v, r, q⟩ := kB_ok d u h4
    exact ⟨v, u, ⟨e1, r, of_decide_eq_true h5, by simpa using h2⟩, q⟩
  · cases h3
def conOf (f : Str) (T : List (String × D)) : D → Option D
  | .obj C fs => if fs.lookup f = none then T.lookup C else none
  | _ => none
def eCon (f : Str) (T : List (String × D)) (o : E) : E := fun ρ s => (o ρ s).bind fun x s => Res.of (conOf f T (der s x)) s
/-- C.f, C by its name -/
structure CvF (K : PySem.W.Frag) (C : String) (f : Str) (d : D) : Prop where
  ex : ∃ mc v u, ClX.CRead K (He.ga K C) mc ∧ ClX.CVal K (He.ga K C) mc f v u ∧ ∀ H μ F, RV K H μ F d v
def cvB (C : String) (f : Str) (d : D) (K : PySem.W.Frag) : Bool := b2 (PySem.W.readsIn K (He.ga K C) (.type "type")) (b2 (decide (PySem.W.specialIn K (.ref (He.ga K C)) "__getattribute__" = some (some (.builtin "type.__getattribute__")))) (match PySem.W.findCls K (.ref (He.ga K C)) (.type "type") f with
  | some (.val u) => kB K d u
  | _ => false))
theorem cvB_ok {C : String} {f : Str} {d : D} {K : PySem.W.Frag} (h : cvB C f d K = true) : CvF K C f d := by
  obtain ⟨h1, h⟩ := b2_ok h
  obtain ⟨h2, h3⟩ := b2_ok h
  split at h3
  · rename_i u e1
    obtain ⟨v, r, q⟩ := kB_ok d u h3
    exact ⟨_, v, u, ⟨h1, of_decide_eq_true h2⟩, ⟨e1, r⟩, q⟩
  · cases h3
section
variable {X : Cx} {W : WX} {o : Expr} {f : Str} {mo : E} {T : List (String × D)} {pos p1 : Pos} {C : String} {d : D}
theorem se_con (h : ConT X.K f T) (ho : SR X W o mo) (hab : attributeBase o f X.env (eval o X.env) = eval o X.env := by rfl) : SE X W (.Attribute o f pos) (eCon f T mo) := PE.of (pe_con ho hab) fun σ H Q ⟨ρ, μ, F, G, st, a, q⟩ => by
  refine tG_at (k := fun x s => Res.of (conOf f T (der s x)) s) a q fun x H1 μ1 st1 d a1 f1 r1 h1 => ?_
  obtain ⟨r, hr, hq⟩ := OkG.some h1
  have rr := r1.dr a1.s
  generalize der st1 d = c at hr rr
  unfold conOf at hr
  split at hr
  · rename_i C fs
    split at hr
    · rename_i hn
      obtain ⟨b, dx, xs, e1, e2, rf⟩ := rr
      obtain ⟨c, v, u, k, q⟩ := h C r hr
      exact ⟨b, _, dx, xs, v, u, e1, e2, c, k, (rf.lookup (f := f)).2 hn, hq v H1 μ1 .refl a1.s (q _ _ _)⟩
    · cases hr
  · cases hr
theorem se_cval (h : CvF X.K C f d) (ho : SE X W (.Name C p1) (eC (.glob C))) (hab : attributeBase (.Name C p1) f X.env (eval (.Name C p1) X.env) = eval (.Name C p1) X.env := by rfl) : SE X W (.Attribute (.Name C p1) f pos) (eC d) := PE.of (ClX.pe_cval ho hab) fun σ H Q ⟨ρ, μ, F, G, st, a, q⟩ => by
  refine ⟨ρ, μ, F, G, st, a, fun v H1 μ1 f1 rs rv => ?_⟩
  obtain ⟨mc, v2, u, c, k, hv⟩ := h.ex
  unfold RV at rv
  exact ⟨_, mc, v2, u, rv, c, k, q v2 H1 μ1 f1 rs (hv _ _ _)⟩
end
end Dn

/-! Dn: sorted(..) of ints, of strings. -/
namespace Dn
open PySem PySem.Spec L2
open PyProof.Rows hiding St RelV
def leS (a b : Str) : Bool := !ltCps b.cps.toList a.cps.toList
theorem leS_iff {a b : Str} : leS a b = true ↔ a.cps.toList ≤ b.cps.toList := by
  unfold leS
  rw [ltCps_eq, Bool.not_eq_true', decide_eq_false_iff_not]
  exact Iff.rfl
theorem leS_trans (a b c : Str) (h1 : leS a b = true) (h2 : leS b c = true) : leS a c = true := leS_iff.mpr (List.le_trans (leS_iff.mp h1) (leS_iff.mp h2))
theorem leS_total (a b : Str) : (leS a b || leS b a) = true := by
  rw [Bool.or_eq_true, leS_iff, leS_iff]
  exact List.le_total _ _
theorem str_ext {a b : Str} (h : a.cps.toList = b.cps.toList) : a = b := by
  obtain ⟨a⟩ := a
  obtain ⟨b⟩ := b
  exact congrArg Str.mk (Array.toList_inj.mp h)
theorem leS_anti {a b : Str} (h1 : leS a b = true) (h2 : leS b a = true) : a = b := str_ext (List.le_antisymm (leS_iff.mp h1) (leS_iff.mp h2))
def sortI (ns : List Int) : List Int := ns.mergeSort fun a b => decide (a ≤ b)
def sortS (ss : List Str) : List Str := ss.mergeSort leS
theorem sortI_pw (ns : List Int) : (sortI ns).Pairwise (· ≤ ·) := (List.pairwise_mergeSort (le := fun a b : Int => decide (a ≤ b)) (fun a b c h1 h2 => by simp at h1 h2 ⊢; omega) (fun a b => by simp; omega) ns).imp fun h => by simpa using h
theorem sortS_pw (ss : List Str) : (sortS ss).Pairwise fun a b => leS a b = true := List.pairwise_mergeSort leS_trans leS_total ss
theorem sortI_eq {ns ks : List Int} (h : ks.Perm ns) (p : ks.Pairwise (· ≤ ·)) : ks = sortI ns :=
  List.Perm.eq_of_pairwise (fun a b _ _ h1 h2 => by omega) p (sortI_pw ns) (h.trans (List.mergeSort_perm ns _).symm)
theorem rising_pw : ∀ (r : List Str) (x : Str), risingS x r = true → (x :: r).Pairwise fun a b => leS a b = true
  | [], x, _ => List.pairwise_singleton _ _
  | y :: r, x, h => by
    obtain ⟨h1, h2⟩ := Bool.and_eq_true_iff.mp (show (leS x y && risingS y r) = true from h)
    have ih := rising_pw r y h2
    refine List.pairwise_cons.mpr ⟨fun z hz => ?_, ih⟩
    rcases List.mem_cons.mp hz with rfl | hz
    · exact h1
    · exact leS_trans _ _ _ h1 ((List.pairwise_cons.mp ih).1 z hz)
theorem sortS_eq {ss ks : List Str} (h : ks.Perm ss) (p : sortedS ks = true) : ks = sortS ss := by
  have pw : ks.Pairwise fun a b => leS a b = true := by
    cases ks with
    | nil => exact List.Pairwise.nil
    | cons x r => exact rising_pw r x p
  exact List.Perm.eq_of_pairwise (fun a b _ _ h1 h2 => leS_anti h1 h2) pw (sortS_pw ss) (h.trans (List.mergeSort_perm ss _).symm)
theorem sortS_perm (ss : List Str) : (sortS ss).Perm ss := List.mergeSort_perm ss _
theorem sortI_perm (ns : List Int) : (sortI ns).Perm ns := List.mergeSort_perm ns _
/-- what sorted answers -/
def sortOf (ds : List D) : Option D := match intsOf ds with
  | some ns => some (.lst ((sortI ns).map .int))
  | none => (strsOf ds).bind fun ss => if ss.length < 64 then some (.lst ((sortS ss).map .str)) else none
def gSort : List D → Option D
  | [.lst ds] => sortOf ds
  | [.scr ns] => some (.lst ((sortI ns).map .int))
  | _ => none
section
variable {X : Cx} {K : PySem.W.Frag} {H : Hp} {μ : Mu} {F : Addr → Prop}
theorem RVs_ints (ns : List Int) : RVs K H μ F (ns.map D.int) (ns.map V.int) := by
  induction ns with
  | nil => exact RVs.nil
  | cons n r ih => exact RVs.cons (RV_int n) ih
theorem RVs_strs (ns : List Str) : RVs K H μ F (ns.map D.str) (ns.map V.str) := by
  induction ns with
  | nil => exact RVs.nil
  | cons n r ih => exact RVs.cons (RV_str n) ih
theorem gSort_ok : VB X (.builtin "sorted") gSort := by
  intro pins s σ H xs us Q I r h
  obtain ⟨μ, F, st, ds, rr, rs, rd, hg, q⟩ := h
  generalize hds : ds.map (der st) = cs at hg
  have hInts : ∀ (a : Addr) (ns : List Int), xs = [.ref a] → SqL X.K H a (ns.map V.int) → rr = .lst ((sortI ns).map .int) → wpAny (model X.prog X.w) X.A (call (.builtin "sorted") us) (EP X pins σ Q) X.xe s := fun a ns e2 q1 er =>
    cr_sortedI pins s σ H xs us Q I r ⟨a, ns, e2, q1, fun ns' p h1 h2 hp => q _ _ μ (.new hp) (rs.new hp) (by
      rw [er, sortI_eq h1 h2]
      exact rs.newL hp (RVs_ints _))⟩
  unfold gSort at hg
  split at hg
  · obtain ⟨d, x, e1, e2, r1, e3⟩ := rd.one rs hds
    have r2 := r1.dr rs
    rw [e3] at r2
    obtain ⟨a, ys, e4, q1, q2⟩ := r2
    rw [e4] at e2
    unfold sortOf at hg
    split at hg
    · rename_i ns hn
      cases hg
      exact hInts a ns e2 (.inl (.inl (by rw [← ints_rel hn q2]; exact q1))) rfl
    · obtain ⟨ss, hs, hg⟩ := Option.bind_eq_some_iff.mp hg
      split at hg
      · rename_i h64
        cases hg
        exact cr_sortedS pins s σ H xs us Q I r ⟨a, ss, e2, .inl (.inl (by rw [← strs_rel hs q2]; exact q1)), h64, fun ks p h1 h2 hp => q _ _ μ (.new hp) (rs.new hp) (by
          rw [sortS_eq h1 h2]
          exact rs.newL hp (RVs_strs _))⟩
      · cases hg
  · cases hg
    obtain ⟨d, x, e1, e2, r1, e3⟩ := rd.one rs hds
    have r2 := r1.dr rs
    rw [e3] at r2
    obtain ⟨a, e4, q1⟩ := r2
    rw [e4] at e2
    exact hInts a _ e2 q1 rfl
  · cases hg
end
end Dn

/-! Dn: walks over dicts; the dict is locked meanwhile. -/
namespace Dn
open PySem PySem.Spec L2
open PyProof.Rows hiding St RelV
/-- dicts may be locked or unlocked, all else is as it was -/
structure Lk (H H' : Hp) : Prop where
  non : ∀ a o, H a = some o → (∀ kvs, o ≠ .dK kvs) → (∀ q kvs, o ≠ .frz q (.dK kvs)) → H' a = some o
  dic : ∀ a kvs, Rd H a (.dK kvs) → Rd H' a (.dK kvs)
section
variable {K : PySem.W.Frag} {H H' : Hp} {μ : Mu} {F : Addr → Prop} {a : Addr}
mutual
theorem RV.lk (L : Lk H H') : ∀ {d : D} {v : V}, RV K H μ F d v → RV K H' μ F d v
  | .non, v, h => by unfold RV at h ⊢; exact h
  | .bl _, v, h => by unfold RV at h ⊢; exact h
  | .int _, v, h => by unfold RV at h ⊢; exact h
  | .str _, v, h => by unfold RV at h ⊢; exact h
  | .tup ds, v, h => by
    unfold RV at h ⊢
    obtain ⟨a, xs, e, h1, h2⟩ := h
    exact ⟨a, xs, e, h1.imp (fun q => ⟨L.non a _ q.1 (fun _ z => nomatch z) (fun _ _ z => nomatch z), q.2⟩) id, RVs.lk L h2⟩
  | .lst ds, v, h => by
    unfold RV at h ⊢
    obtain ⟨a, xs, e, q, h2⟩ := h
    exact ⟨a, xs, e, ⟨L.non a _ q.1 (fun _ z => nomatch z) (fun _ _ z => nomatch z), q.2⟩, RVs.lk L h2⟩
  | .dic ds, v, h => by
    unfold RV at h ⊢
    obtain ⟨a, xs, e, q, h2⟩ := h
    exact ⟨a, xs, e, ⟨L.dic a _ q.1, q.2⟩, RVd.lk L h2⟩
  | .obj C fs, v, h => by
    unfold RV at h ⊢
    obtain ⟨a, dx, xs, e, q, h2⟩ := h
    exact ⟨a, dx, xs, e, ⟨L.non a _ q.1 (fun _ z => nomatch z) (fun _ _ z => nomatch z), q.2⟩, RVf.lk L h2⟩
  | .ref n, v, h => by unfold RV at h ⊢; exact h
  | .glob x, v, h => by unfold RV at h ⊢; exact h
  | .scr ns, v, h => by
    unfold RV at h ⊢
    obtain ⟨a, e, h1⟩ := h
    exact ⟨a, e, h1.imp (fun ⟨o, q⟩ => ⟨o, L.non a _ q.1 (fun _ z => nomatch z) (fun _ _ z => nomatch z), q.2⟩) id⟩
theorem RVs.lk (L : Lk H H') : ∀ {ds : List D} {vs : List V}, RVs K H μ F ds vs → RVs K H' μ F ds vs
  | [], vs, h => by unfold RVs at h ⊢; exact h
  | d :: ds, vs, h => by
    unfold RVs at h ⊢
    obtain ⟨y, ys, e, h1, h2⟩ := h
    exact ⟨y, ys, e, RV.lk L h1, RVs.lk L h2⟩
theorem RVd.lk (L : Lk H H') : ∀ {ds : List (D × D)} {vs : List (Key × V)}, RVd K H μ F ds vs → RVd K H' μ F ds vs
  | [], vs, h => by unfold RVd at h ⊢; exact h
  | (q, d) :: ds, vs, h => by
    unfold RVd at h ⊢
    obtain ⟨z, y, ys, e, h0, h1, h2⟩ := h
    exact ⟨z, y, ys, e, RV.lk L h0, RV.lk L h1, RVd.lk L h2⟩
theorem RVf.lk (L : Lk H H') : ∀ {ds : List (Str × D)} {vs : List (Str × V)}, RVf K H μ F ds vs → RVf K H' μ F ds vs
  | [], vs, h => by unfold RVf at h ⊢; exact h
  | (q, d) :: ds, vs, h => by
    unfold RVf at h ⊢
    obtain ⟨y, ys, e, h1, h2⟩ := h
    exact ⟨y, ys, e, RV.lk L h1, RVf.lk L h2⟩
end
theorem RC.lk (L : Lk H H') {d : D} (h : RC K H μ F d a) (e : H' a = H a) : RC K H' μ F d a := by
  cases d with
  | lst ds => obtain ⟨xs, q, r⟩ := h; exact ⟨xs, e.trans q, r.lk L⟩
  | dic ds => obtain ⟨xs, q, r⟩ := h; exact ⟨xs, e.trans q, r.lk L⟩
  | obj C fs => obtain ⟨dx, xs, q, r⟩ := h; exact ⟨dx, xs, e.trans q, r.lk L⟩
  | _ => exact h.elim
theorem lk_lock {o : Obj} {kvs : List (Key × V)} (h : H a = some (.dK kvs)) : Lk H (upd H a (.frz o (.dK kvs))) := by
  refine ⟨fun b u e n1 n2 => ?_, fun b xs r => ?_⟩
  · rw [upd_ne]
    · exact e
    · rintro rfl
      rw [h] at e
      exact n1 _ (Option.some.inj e).symm
  · by_cases hb : b = a
    · subst hb
      have := rd_inj (.inl h) r
      subst this
      exact .inr ⟨o, upd_same⟩
    · unfold Rd
      rw [upd_ne hb]
      exact r
theorem lk_unlock {o : Obj} {kvs : List (Key × V)} (h : H a = some (.frz o (.dK kvs))) : Lk H (upd H a (.dK kvs)) := by
  refine ⟨fun b u e n1 n2 => ?_, fun b xs r => ?_⟩
  · rw [upd_ne]
    · exact e
    · rintro rfl
      rw [h] at e
      exact n2 _ _ (Option.some.inj e).symm
  · by_cases hb : b = a
    · subst hb
      have := rd_inj (.inr ⟨o, h⟩) r
      subst this
      exact .inl upd_same
    · unfold Rd
      rw [upd_ne hb]
      exact r
end
section
variable {pn : Pn} {K : PySem.W.Frag} {W : WX} {H H' : Hp} {μ : Mu} {F : Addr → Prop} {G : Own} {st : Store} {ρ : Loc} {σ : St} {d : Addr} {u : HO}
/-- what lies at d, a pure dict, is locked (or unlocked) -/
theorem RS.lk (s : RS K H μ F st) (L : Lk H (upd H d u)) (n1 : d ∉ μ) (n2 : ¬ F d) : RS K (upd H d u) μ F st where
  len := s.len
  nd := s.nd
  nf := s.nf
  fd := fun a h => by
    obtain ⟨o, e⟩ := s.fd a h
    exact ⟨o, by rw [upd_ne fun z => n2 (by rw [← z]; exact h)]; exact e⟩
  at_ := fun n x h => by
    obtain ⟨a, e, c⟩ := s.at_ n x h
    have ne : upd H d u a = H a := upd_ne fun z => n1 (by rw [← z]; exact List.mem_of_getElem? e)
    rcases c with c | ⟨c, o, q, w⟩
    · exact ⟨a, e, .inl (c.lk L ne)⟩
    · exact ⟨a, e, .inr ⟨c, o, ne.trans q, w⟩⟩
theorem At.lk (a : At pn K H μ F G ρ σ st) (L : Lk H (upd H d u)) (n1 : d ∉ μ) (n2 : ¬ F d) (nx : ∀ xs, H d ≠ some (.xd xs)) : At pn K (upd H d u) μ F G ρ σ st := by
  refine ⟨⟨a.l.len, fun i sl e => ?_, a.l.inj⟩, a.s.lk L n1 n2, a.gf⟩
  obtain ⟨o, e1, q⟩ := a.l.at_ i sl e
  refine ⟨o, e1, ?_⟩
  cases sl with
  | no => exact True.intro
  | pu d => obtain ⟨v, e, q⟩ := q; exact ⟨v, e, q.lk L⟩
  | ow b x =>
    obtain ⟨y, e, h0, h1, h2⟩ := q
    exact ⟨y, e, h0, h1, h2.lk L (upd_ne fun z => n2 (by rw [← z]; exact h1))⟩
  | exc C fs =>
    obtain ⟨x, oe, c, xs, e, hp', hz, hd, h1, h2, h3, h4⟩ := q
    exact ⟨x, oe, c, xs, e, hp', hz, hd, by rw [upd_ne fun z => nx xs (by rw [← z]; exact h1)]; exact h1, h2, h3, h4.lk L⟩
/-- r, whose ends see d locked, if the ends of the statement see it unlocked -/
def noXS : SRes → SRes
  | .ex _ _ _ _ => .bad
  | r => r
def lockE (X : Cx) (D : Ends) : Ends where
  nx := fun σ H => D.nx σ H ∨ ∃ d od u, H d = some (.frz od u) ∧ (∀ o' u', X.H_0 d ≠ some (.frz o' u')) ∧ D.nx σ (upd H d u)
  rt := fun v H => D.rt v H ∨ ∃ d od u, H d = some (.frz od u) ∧ (∀ o' u', X.H_0 d ≠ some (.frz o' u')) ∧ D.rt v (upd H d u)
  bk := fun σ H => D.bk σ H ∨ ∃ d od u, H d = some (.frz od u) ∧ (∀ o' u', X.H_0 d ≠ some (.frz o' u')) ∧ D.bk σ (upd H d u)
  ct := fun σ H => D.ct σ H ∨ ∃ d od u, H d = some (.frz od u) ∧ (∀ o' u', X.H_0 d ≠ some (.frz o' u')) ∧ D.ct σ (upd H d u)
theorem upd_upd {o1 o2 : HO} : upd (upd H d o1) d o2 = upd H d o2 := by
  funext b
  by_cases h : b = d
  · rw [h, upd_same, upd_same]
  · rw [upd_ne h, upd_ne h, upd_ne h]
theorem Ev.unlock {o : Obj} {kvs : List (Key × V)} {H' : Hp} {μ' : Mu} {F' : Addr → Prop} {G' : Own} (hd : H d = some (.dK kvs)) (e : Ev (upd H d (.frz o (.dK kvs))) μ F G H' μ' F' G') : Ev H μ F G (upd H' d (.dK kvs)) μ' F' G' := by
  obtain ⟨l, e1, q⟩ := id e.ext
  have out : ∀ b, upd H d (.frz o (.dK kvs)) b = none → H b = none := fun b z => by
    by_cases h : b = d
    · rw [h, upd_same] at z; cases z
    · rw [upd_ne h] at z; exact z
  have there : ∀ b u, H b = some u → ∃ u', upd H d (.frz o (.dK kvs)) b = some u' := fun b u z => by
    by_cases h : b = d
    · exact ⟨_, by rw [h, upd_same]⟩
    · exact ⟨u, by rw [upd_ne h]; exact z⟩
  refine ⟨⟨l, e1, fun b hb => out b (q b hb)⟩, fun b u n1 n2 z => ?_, fun b u z => ?_, e.sub, fun b h => (e.own b h).imp id (out b), fun b h => (e.g b h).imp id (out b), fun b h => ?_, e.sf⟩
  · by_cases h : b = d
    · rw [h] at z ⊢
      rw [hd] at z
      rw [upd_same]
      exact z
    · rw [upd_ne h]
      exact e.keep b u n1 n2 (by rw [upd_ne h]; exact z)
  · by_cases h : b = d
    · exact ⟨_, by rw [h, upd_same]⟩
    · obtain ⟨u', z'⟩ := there b u z
      obtain ⟨u2, z2⟩ := e.there b u' z'
      exact ⟨u2, by rw [upd_ne h]; exact z2⟩
  · obtain ⟨u, z⟩ := e.fd b h
    cases w : H b with
    | none =>
      by_cases h : b = d
      · rw [h, hd] at w; cases w
      · rw [upd_ne h, w] at z; cases z
    | some u => exact ⟨u, rfl⟩
theorem OkS.lock {X : Cx} {o : Obj} {kvs : List (Key × V)} {r : SRes} {D : Ends} (a : At pn K H μ F G ρ σ st) (hd : H d = some (.dK kvs)) (n1 : d ∉ μ) (n2 : ¬ F d) (hn : ∀ o' u', X.H_0 d ≠ some (.frz o' u')) (h : OkS pn K W H μ F G (noXS r) D) : OkS pn K W (upd H d (.frz o (.dK kvs))) μ F G r (lockE X D) := by
  have key : ∀ {H' : Hp} {μ' : Mu} {F' : Addr → Prop} {G' : Own}, Ev (upd H d (.frz o (.dK kvs))) μ F G H' μ' F' G' → H' d = some (.frz o (.dK kvs)) ∧ d ∉ μ' ∧ ¬ F' d := fun e => by
    refine ⟨e.keep d _ n1 (fun z => n2 (a.gf d z)) upd_same, e.out upd_same n1, fun z => ?_⟩
    rcases e.own d z with z | z
    · exact n2 z
    · rw [upd_same] at z; cases z
  have go : ∀ {H' : Hp} {μ' : Mu} {F' : Addr → Prop} {G' : Own} {ρ' : Loc} {σ' : St} {s' : Store}, Ev (upd H d (.frz o (.dK kvs))) μ F G H' μ' F' G' → At pn K H' μ' F' G' ρ' σ' s' → At pn K (upd H' d (.dK kvs)) μ' F' G' ρ' σ' s' := fun e a' => by
    obtain ⟨k1, k2, k3⟩ := key e
    exact a'.lk (lk_unlock k1) k2 k3 fun xs z => by rw [k1] at z; cases z
  cases r with
  | nx ρ s => exact fun σ' H' μ' F' G' e a' => .inr ⟨d, o, _, (key e).1, hn, h σ' _ μ' F' G' (e.unlock hd) (go e a')⟩
  | bk ρ s => exact fun σ' H' μ' F' G' e a' => .inr ⟨d, o, _, (key e).1, hn, h σ' _ μ' F' G' (e.unlock hd) (go e a')⟩
  | ct ρ s => exact fun σ' H' μ' F' G' e a' => .inr ⟨d, o, _, (key e).1, hn, h σ' _ μ' F' G' (e.unlock hd) (go e a')⟩
  | rt x s =>
    intro v H' μ' F' G' e rs rv
    obtain ⟨k1, k2, k3⟩ := key e
    exact .inr ⟨d, o, _, k1, hn, h v _ μ' F' G' (e.unlock hd) (rs.lk (lk_unlock k1) k2 k3) (rv.lk (lk_unlock k1))⟩
  | ex C fs ρ s => exact h.elim
  | bad => exact h
theorem OkS.orl {X : Cx} {r : SRes} {D : Ends} (h : OkS pn K W H μ F G (noXS r) D) : OkS pn K W H μ F G r (lockE X D) := by
  cases r with
  | nx ρ s => exact fun σ' H' μ' F' G' e a' => .inl (h σ' H' μ' F' G' e a')
  | bk ρ s => exact fun σ' H' μ' F' G' e a' => .inl (h σ' H' μ' F' G' e a')
  | ct ρ s => exact fun σ' H' μ' F' G' e a' => .inl (h σ' H' μ' F' G' e a')
  | rt x s => exact fun v H' μ' F' G' e rs rv => .inl (h v H' μ' F' G' e rs rv)
  | ex C fs ρ s => exact h.elim
  | bad => exact h
end
/-! ### locking at the walk's start, unlocking at the statement's end -/
def tLk (X : Cx) (td : TE) : TE := fun σ H Q => td σ H fun x H1 => Q x H1 ∨ ∃ d kvs, x = .ref d ∧ H1 d = some (.dK kvs) ∧ ∀ o, (∀ o' u', X.H_0 d ≠ some (.frz o' u')) → Q x (upd H1 d (.frz o (.dK kvs)))
section
variable {X : Cx} {e : Expr} {td : TE} {stm : Stmt} {ts : TS}
theorem pe_lk (h : PE X e td) : PE X e (tLk X td) := by
  refine ⟨fun pins s σ H Q I hw => thn (h.run pins s σ H _ I hw) fun v s1 ⟨x, H1, I1, rx, q⟩ => ?_⟩
  rcases q with q | ⟨d, kvs, ex, hd, q⟩
  · exact ⟨x, H1, I1, rx, q⟩
  · obtain ⟨o, I2⟩ := I1.lock hd True.intro
    exact ⟨x, _, I2, rx, q o (I1.nofrz hd True.intro)⟩
theorem ps_unlk (h : PS X stm ts) : PS X stm (fun D σ H => ts (lockE X D) σ H) := by
  refine ⟨fun pins s σ H D I hw => thn (h.run pins s σ H _ I hw) fun f s1 q => ?_⟩
  cases f with
  | next =>
    obtain ⟨σ', H', I2, q | ⟨d, od, u, hd, hn, q⟩⟩ := q
    · exact ⟨σ', H', I2, q⟩
    · exact ⟨σ', _, I2.unlock hd hn, q⟩
  | brk =>
    obtain ⟨σ', H', I2, q | ⟨d, od, u, hd, hn, q⟩⟩ := q
    · exact ⟨σ', H', I2, q⟩
    · exact ⟨σ', _, I2.unlock hd hn, q⟩
  | cont =>
    obtain ⟨σ', H', I2, q | ⟨d, od, u, hd, hn, q⟩⟩ := q
    · exact ⟨σ', H', I2, q⟩
    · exact ⟨σ', _, I2.unlock hd hn, q⟩
  | ret w =>
    obtain ⟨v, σ', H', I2, rv, q | ⟨d, od, u, hd, hn, q⟩⟩ := q
    · exact ⟨v, σ', H', I2, rv, q⟩
    · exact ⟨v, σ', _, I2.unlock hd hn, rv, q⟩
theorem pe_unlk (h : PE X e td) : PE X e (fun σ H Q => td σ H fun v H' => Q v H' ∨ ∃ d od u, H' d = some (.frz od u) ∧ (∀ o' u', X.H_0 d ≠ some (.frz o' u')) ∧ Q v (upd H' d u)) := by
  refine ⟨fun pins s σ H Q I hw => thn (h.run pins s σ H _ I hw) fun w s1 ⟨v, H', I2, rv, q⟩ => ?_⟩
  rcases q with q | ⟨d, od, u, hd, hn, q⟩
  · exact ⟨v, H', I2, rv, q⟩
  · exact ⟨v, _, I2.unlock hd hn, rv, q⟩
end
/-! ### what such a walk meets -/
def viewD : Nat → List (D × D) → List D
  | 0, kvs => kvs.map (·.1)
  | 1, kvs => kvs.map (·.2)
  | _, kvs => kvs.map fun p => .tup [p.1, p.2]
section
variable {K : PySem.W.Frag} {H H0 : Hp} {μ μ0 : Mu} {F : Addr → Prop} {a : Addr} {o : Obj} {kvs : List (D × D)} {xs : List (Key × V)}
theorem RVd.nth : ∀ {kvs : List (D × D)} {xs : List (Key × V)} {i : Nat} {k d : D}, RVd K H μ F kvs xs → kvs[i]? = some (k, d) → ∃ q y, xs[i]? = some (q, y) ∧ RV K H μ F k (kV q) ∧ RV K H μ F d y
  | [], _, i, k, d, _, e => by simp at e
  | (k0, d0) :: r, xs, 0, k, d, h, e => by
    unfold RVd at h
    obtain ⟨q, y, ys, e1, h0, h1, h2⟩ := h
    have e2 : (k0, d0) = (k, d) := by simpa using e
    cases e2
    exact ⟨q, y, by rw [e1]; rfl, h0, h1⟩
  | (k0, d0) :: r, xs, i + 1, k, d, h, e => by
    unfold RVd at h
    obtain ⟨q, y, ys, e1, h0, h1, h2⟩ := h
    obtain ⟨q', y', e2, h3⟩ := RVd.nth h2 (i := i) (k := k) (d := d) (by simpa using e)
    exact ⟨q', y', by rw [e1]; simpa using e2, h3⟩
theorem walks_keys (h : H0 a = some (.frz o (.dK xs)) ∧ a ∉ μ0 ∧ ¬ F a) (r : RVd K H0 μ0 F kvs xs) : Walks K F H0 μ0 (Itk a o xs) (viewD 0 kvs) where
  go := fun i d H μ F2 st e kp rs => by
    obtain ⟨p, e1, e2⟩ := Option.map_eq_some_iff.mp ((List.getElem?_map ..).symm.trans e)
    obtain ⟨k, x⟩ := p
    obtain ⟨q, y, e3, r1, r2⟩ := (RVd.kp kp r).nth e1
    refine ⟨⟨(kp.pure a _ h.1 h.2.1 h.2.2).1, (List.getElem?_eq_some_iff.mp e3).1⟩, fun z H2 hy => ?_⟩
    obtain ⟨rfl, k', v', e4, rfl⟩ := hy
    rw [e3] at e4
    cases e4
    subst e2
    exact ⟨rs, .refl, r1⟩
  stop := fun i H μ F2 hl kp => ⟨(kp.pure a _ h.1 h.2.1 h.2.2).1, by rw [r.length]; rw [show (viewD 0 kvs).length = kvs.length from List.length_map ..] at hl; exact hl⟩
theorem walks_vals (h : H0 a = some (.frz o (.dK xs)) ∧ a ∉ μ0 ∧ ¬ F a) (r : RVd K H0 μ0 F kvs xs) : Walks K F H0 μ0 (Itd a o xs) (viewD 1 kvs) where
  go := fun i d H μ F2 st e kp rs => by
    obtain ⟨p, e1, e2⟩ := Option.map_eq_some_iff.mp ((List.getElem?_map ..).symm.trans e)
    obtain ⟨k, x⟩ := p
    obtain ⟨q, y, e3, r1, r2⟩ := (RVd.kp kp r).nth e1
    refine ⟨⟨(kp.pure a _ h.1 h.2.1 h.2.2).1, (List.getElem?_eq_some_iff.mp e3).1⟩, fun z H2 hy => ?_⟩
    obtain ⟨rfl, k', e4⟩ := hy
    rw [e3] at e4
    cases e4
    subst e2
    exact ⟨rs, .refl, r2⟩
  stop := fun i H μ F2 hl kp => ⟨(kp.pure a _ h.1 h.2.1 h.2.2).1, by rw [r.length]; rw [show (viewD 1 kvs).length = kvs.length from List.length_map ..] at hl; exact hl⟩
theorem walks_items (h : H0 a = some (.frz o (.dK xs)) ∧ a ∉ μ0 ∧ ¬ F a) (r : RVd K H0 μ0 F kvs xs) : Walks K F H0 μ0 (Iti a o xs) (viewD 2 kvs) where
  go := fun i d H μ F2 st e kp rs => by
    obtain ⟨p, e1, e2⟩ := Option.map_eq_some_iff.mp ((List.getElem?_map ..).symm.trans e)
    obtain ⟨k, x⟩ := p
    obtain ⟨q, y, e3, r1, r2⟩ := (RVd.kp kp r).nth e1
    refine ⟨⟨(kp.pure a _ h.1 h.2.1 h.2.2).1, (List.getElem?_eq_some_iff.mp e3).1⟩, fun z H2 hy => ?_⟩
    obtain ⟨T, k', v', e4, rfl, hT, rfl⟩ := hy
    rw [e3] at e4
    cases e4
    subst e2
    exact ⟨rs.new hT, .new hT, rs.newT hT (RVs.cons r1 (RVs.cons r2 RVs.nil))⟩
  stop := fun i H μ F2 hl kp => ⟨(kp.pure a _ h.1 h.2.1 h.2.2).1, by rw [r.length]; rw [show (viewD 2 kvs).length = kvs.length from List.length_map ..] at hl; exact hl⟩
end
end Dn

/-! Dn: for over a dict that nobody changes. -/
namespace Dn
open PySem PySem.Spec L2
open PyProof.Rows hiding St RelV
section
variable {X : Cx} {W : WX} {H1 : Hp} {μ1 : Mu} {F : Addr → Prop} {G : Own} {ρ : Loc} {σ : St} {st1 : Store} {D : Ends} {t : Tgt} {mb : S} {J : It}
theorem loop_at {ds : List Dn.D} (a1 : At X.pn X.K H1 μ1 F G ρ σ st1) (wk : Walks X.K F H1 μ1 J ds) (h1 : OkS X.pn X.K W H1 μ1 F G (forM t mb ds ρ st1) D) :
    ∃ Wn : Nat → Nat → St → Hp → Prop, (∃ m, Wn 0 m σ H1) ∧ ∀ i m σ H, Wn i m σ H →
      (J.stop i H ∧ D.nx σ H) ∨ (J.go i H ∧ ∃ N : St → Hp → Prop, (∀ σ' H', N σ' H' → ∃ m', m' < m ∧ Wn (i + 1) m' σ' H') ∧ ∀ x H', J.yld i H x H' → gT X.pn X.K t x σ H' fun σ2 H2 => tS X.pn X.K W mb { D with nx := N, ct := N, bk := D.nx } σ2 H2) := by
  refine ⟨fun i m σ H => m = ds.length - i ∧ i ≤ ds.length ∧ ∃ ρ μ F' G' st, Ev H1 μ1 F G H μ F' G' ∧ At X.pn X.K H μ F' G' ρ σ st ∧ OkS X.pn X.K W H μ F' G' (forM t mb (ds.drop i) ρ st) D, ⟨ds.length, by simp, Nat.zero_le _, ρ, μ1, F, G, st1, a1.ev .refl, a1, h1⟩, ?_⟩
  rintro i m σ2 H2 ⟨rfl, hi2, ρ2, μ2, F2, G2, st2, e2, a2, h2⟩
  have kp := e2.kp a1.gf
  by_cases hlt : i < ds.length
  · have ed : ds.drop i = ds[i] :: ds.drop (i + 1) := List.drop_eq_getElem_cons hlt
    rw [ed] at h2
    obtain ⟨g1, g2⟩ := wk.go i ds[i] H2 μ2 F2 st2 (List.getElem?_eq_getElem hlt) kp a2.s
    refine .inr ⟨g1, fun σ3 H3 => ∃ ρ μ F' G' st, Ev H1 μ1 F G H3 μ F' G' ∧ At X.pn X.K H3 μ F' G' ρ σ3 st ∧ OkS X.pn X.K W H3 μ F' G' (forM t mb (ds.drop (i + 1)) ρ st) D, fun σ3 H3 h3 => ⟨ds.length - (i + 1), by omega, rfl, hlt, h3⟩, fun x H3 hy => ?_⟩
    obtain ⟨rs3, f3, rv3⟩ := g2 x H3 hy
    have a3 := a2.fut f3 rs3
    have e3 := e2.trans (a2.ev f3)
    have h3 := OkS.ev (a2.ev f3) h2
    unfold forM at h3
    cases hs : setT t ds[i] ρ2 with
    | none => rw [hs] at h3; exact h3.elim
    | some ρ3 =>
      rw [hs] at h3
      dsimp only at h3
      refine ⟨ρ2, μ2, F2, G2, st2, ds[i], ρ3, a3, rv3, hs, fun σ4 a4 _ => ?_⟩
      refine ⟨ρ3, μ2, F2, G2, st2, a4, ?_⟩
      cases hm : mb ρ3 st2 with
      | nx ρ s => rw [hm] at h3; exact fun σ5 H5 μ5 F5 G5 e5 a5 => ⟨ρ, μ5, F5, G5, s, e3.trans e5, a5, OkS.ev e5 h3⟩
      | ct ρ s => rw [hm] at h3; exact fun σ5 H5 μ5 F5 G5 e5 a5 => ⟨ρ, μ5, F5, G5, s, e3.trans e5, a5, OkS.ev e5 h3⟩
      | bk ρ s => rw [hm] at h3; exact h3
      | rt d s => rw [hm] at h3; exact h3
      | ex C fs ρ s => rw [hm] at h3; exact h3
      | bad => rw [hm] at h3; exact h3
  · have e : i = ds.length := by omega
    subst e
    rw [List.drop_length] at h2
    exact .inl ⟨wk.stop _ H2 μ2 F2 (Nat.le_refl _) kp, h2 σ2 H2 μ2 F2 G2 (a2.ev .refl) a2⟩
end
/-- for .. in e (k = 0), e.values() (1), e.items() (2): e a dict that stays -/
def sForV (k : Nat) (t : Tgt) (e : E) (body : S) : S := fun ρ s => (e ρ s).to ρ fun d s => match d with
  | .dic kvs => noXS (forM t body (viewD k kvs) ρ s)
  | _ => .bad
section
variable {X : Cx} {W : WX} {e tg : Expr} {me : E} {body : List Stmt} {t : Tgt} {mb : S} {pos apos cpos : Pos}
/-- what all of them share -/
theorem forV_at {k : Nat} {J : Addr → Obj → List (Key × V) → It} {σ : St} {H : Hp} {D : Ends} {Q : V → Hp → Prop} (hw : ∀ {H0 : Hp} {μ0 : Mu} {F : Addr → Prop} {a : Addr} {o : Obj} {kvs : List (Dn.D × Dn.D)} {xs : List (Key × V)}, (H0 a = some (.frz o (.dK xs)) ∧ a ∉ μ0 ∧ ¬ F a) → RVd X.K H0 μ0 F kvs xs → Walks X.K F H0 μ0 (J a o xs) (viewD k kvs))
    (h : tS X.pn X.K W (sForV k t me mb) D σ H)
    (hQ : ∀ (b : Addr) (o : Obj) (xs : List (Key × V)) (H1 : Hp), H1 b = some (.frz o (.dK xs)) → (∃ Wn : Nat → Nat → St → Hp → Prop, (∃ m, Wn 0 m σ H1) ∧ ∀ i m σ H, Wn i m σ H →
      ((J b o xs).stop i H ∧ (lockE X D).nx σ H) ∨ ((J b o xs).go i H ∧ ∃ N : St → Hp → Prop, (∀ σ' H', N σ' H' → ∃ m', m' < m ∧ Wn (i + 1) m' σ' H') ∧ ∀ x H', (J b o xs).yld i H x H' → gT X.pn X.K t x σ H' fun σ2 H2 => tS X.pn X.K W mb { lockE X D with nx := N, ct := N, bk := (lockE X D).nx } σ2 H2)) → Q (.ref b) H1) :
    tG (fun F H μ d v => RV X.K H μ F d v) X.pn X.K W me σ H fun x H1 => Q x H1 ∨ ∃ d kvs, x = .ref d ∧ H1 d = some (.dK kvs) ∧ ∀ o, (∀ o' u', X.H_0 d ≠ some (.frz o' u')) → Q x (upd H1 d (.frz o (.dK kvs))) := by
  obtain ⟨ρ, μ, F, G, st, a, h⟩ := h
  refine tS_e (k := fun (d : Dn.D) s => match d with
  | .dic kvs => noXS (forM t mb (viewD k kvs) ρ s)
  | _ => .bad) a h fun x H1 μ1 st1 d a1 f1 r1 h1 => ?_
  cases d with
  | dic kvs =>
    unfold RV at r1
    obtain ⟨b, xs, rfl, ⟨hd, n1, n2⟩, rv⟩ := r1
    rcases hd with hd | ⟨o, hd⟩
    · refine .inr ⟨b, xs, rfl, hd, fun o hn => hQ b o xs _ upd_same ?_⟩
      have L := lk_lock (o := o) hd
      exact loop_at (a1.lk L n1 n2 fun ys z => by rw [hd] at z; cases z) (hw ⟨upd_same, n1, n2⟩ (rv.lk L)) (OkS.lock a1 hd n1 n2 hn h1)
    · exact .inl (hQ b o xs H1 hd (loop_at a1 (hw ⟨hd, n1, n2⟩ rv) (OkS.orl h1)))
  | _ => exact h1.elim
theorem ss_forK (hp : PassesOwn (model X.prog X.w) X.A X.env X.xe) (hc : X.calm = true) (he : SE X W e me) (hg : SG X tg t) (hb : SB X W body mb)
    (hs : ∀ x, foldedSetIterable e X.env x = pure x := by intro _; rfl) : SS X W (.For tg e body [] pos) (sForV 0 t me mb) :=
  PS.of (ps_unlk (ps_for hp hc (pi_keys (pe_lk he)) hg hb hs)) fun D σ H h => forV_at (k := 0) (J := Itk) walks_keys h fun b o xs H1 hd q => ⟨b, o, rfl, .inl ⟨xs, hd, q⟩⟩
theorem ss_forKM (hp : PassesOwn (model X.prog X.w) X.A X.env X.xe) (hc : X.calm = true) (he : SE X W e me) (hg : SG X tg t) (hb : SB X W body mb) (hbase : attributeBase e "keys" X.env (eval e X.env) = eval e X.env := by rfl) (hline : (apos.endLine == cpos.line) = true := by rfl)
    (hs : ∀ x, foldedSetIterable (.Call (.Attribute e "keys" apos) [] [] cpos) X.env x = pure x := by intro _; rfl) : SS X W (.For tg (.Call (.Attribute e "keys" apos) [] [] cpos) body [] pos) (sForV 0 t me mb) :=
  PS.of (ps_unlk (ps_for hp hc (pi_keysM (pe_lk he) hbase hline) hg hb hs)) fun D σ H h => forV_at (k := 0) (J := Itk) walks_keys h fun b o xs H1 hd q => ⟨b, o, xs, rfl, hd, q⟩
theorem ss_forVa (hp : PassesOwn (model X.prog X.w) X.A X.env X.xe) (hc : X.calm = true) (he : SE X W e me) (hg : SG X tg t) (hb : SB X W body mb) (hbase : attributeBase e "values" X.env (eval e X.env) = eval e X.env := by rfl) (hline : (apos.endLine == cpos.line) = true := by rfl)
    (hs : ∀ x, foldedSetIterable (.Call (.Attribute e "values" apos) [] [] cpos) X.env x = pure x := by intro _; rfl) : SS X W (.For tg (.Call (.Attribute e "values" apos) [] [] cpos) body [] pos) (sForV 1 t me mb) :=
  PS.of (ps_unlk (ps_for hp hc (pi_values (pe_lk he) hbase hline) hg hb hs)) fun D σ H h => forV_at (k := 1) (J := Itd) walks_vals h fun b o xs H1 hd q => ⟨b, o, xs, rfl, hd, q⟩
theorem ss_forIt {elts : List Expr} {kk : Nat} {tpos : Pos} (hp : PassesOwn (model X.prog X.w) X.A X.env X.xe) (hc : X.calm = true) (he : SE X W e me) (hg : SG X (.Tuple elts kk tpos) t) (hb : SB X W body mb) (hbase : attributeBase e "items" X.env (eval e X.env) = eval e X.env := by rfl) (hline : (apos.endLine == cpos.line) = true := by rfl)
    (hs : ∀ x, foldedSetIterable (.Call (.Attribute e "items" apos) [] [] cpos) X.env x = pure x := by intro _; rfl) : SS X W (.For (.Tuple elts kk tpos) (.Call (.Attribute e "items" apos) [] [] cpos) body [] pos) (sForV 2 t me mb) :=
  PS.of (ps_unlk (ps_for hp hc (pi_items (pe_lk he) hbase hline) hg hb hs)) fun D σ H h => forV_at (k := 2) (J := Iti) walks_items h fun b o xs H1 hd q => ⟨b, o, xs, rfl, hd, q⟩
end
section
variable {ρ : Loc} {s : Store} {N : Loc → Store → Prop} {R : D → Store → Prop}
theorem ws_noX {r : SRes} (h : Ws r N R) : Ws (noXS r) N R := by
  cases r <;> first | exact h | exact h.elim
theorem ws_forV {k : Nat} {t : Tgt} {e : E} {body : S} (h : Wp (e ρ s) fun d s => ∃ kvs, d = .dic kvs ∧ ∃ I : List D → Loc → Store → Prop, I (viewD k kvs) ρ s ∧ (∀ d ds ρ s, I (d :: ds) ρ s → ∃ ρ', setT t d ρ = some ρ' ∧ Ws (body ρ' s) (I ds) R) ∧ ∀ ρ s, I [] ρ s → N ρ s) : Ws (sForV k t e body ρ s) N R := wp_to (wp_mono h fun d s ⟨kvs, e, I, h0, h1, h2⟩ => by
  subst e
  exact ws_noX (ws_for (t := t) (it := fun _ s => .ok (viewD k kvs) s) (body := body) (ρ := ρ) (s := s) ⟨I, h0, h1, h2⟩))
end
end Dn

/-! Dn: new objects by dict(..), list(..); dicts changed in place; d.get(..). -/
namespace Dn
open PySem PySem.Spec L2
open PyProof.Rows hiding St RelV
/-! ### new objects -/
def VN (X : Cx) (f : Value) (g : List D → Option D) : Prop := CallR X f fun xs H Q => ∃ μ F st ds r, RS X.K H μ F st ∧ RDs X.K H μ F ds xs ∧ g (ds.map (der st)) = some r ∧ ∀ p o, H p = none → RC X.K (upd H p o) μ (plus F p) r p → Q (.ref p) (upd H p o)
theorem RC.D {K : PySem.W.Frag} {H : Hp} {μ : Mu} {F : Addr → Prop} {p : Addr} {ds : List (D × D)} {xs : List (Key × V)} (hp : H p = none) (r : RVd K H μ F ds xs) : RC K (upd H p (.dK xs)) μ (plus F p) (.dic ds) p := ⟨xs, upd_same, RVd.kp (Fut.kpP hp .refl) r⟩
section
variable {X : Cx} {W : WX} {e : Expr} {es : List Expr} {ml : EL} {g : List D → Option D} {p pos : Pos} {x : Str}
theorem btN_at {σ : St} {H : Hp} {Q : VK} (h : tN X.pn X.K W (eBt g ml) σ H Q) :
    tG (fun F H μ d v => RDs X.K H μ F d v) X.pn X.K W ml σ H fun xs H => ∃ μ F st ds r, RS X.K H μ F st ∧ RDs X.K H μ F ds xs ∧ g (ds.map (der st)) = some r ∧ ∀ p o, H p = none → RC X.K (upd H p o) μ (plus F p) r p → Q (.ref p) (upd H p o) := by
  obtain ⟨ρ, μ, F, G, st, a, h⟩ := h
  refine tN_at (k := fun (ds : List D) s => Res.of (g (ds.map (der s))) s) a h fun xs H1 μ1 st1 ds a1 f1 r1 h1 => ?_
  cases hg : g (ds.map (der st1)) with
  | none => rw [hg] at h1; exact h1.elim
  | some r => rw [hg] at h1; exact ⟨μ1, F, st1, ds, r, a1.s, r1, hg, fun p o hp c => OkN.lay a1.s h1 hp c⟩
theorem sn_bty {T : String} (hc : VN X (.type T) g) (hg : Gl X x) (hm : X.mg x = none) (ha : SAR X W (e :: es) ml) (hv : bootBuiltins x = some (.type T) := by decide +kernel) (hn : x ≠ "__name__" := by decide) (hdb : (x == ("__debug__" : Str)) = false := by decide)
    (he : starEach (e :: es) X.env = (false, eval e X.env) :: starEach es X.env := by rfl) (hpl : (backTo pos (starEach es X.env)).any (·.1) = false := by rfl) : SN X W (.Call (.Name x p) (e :: es) [] pos) (eBt g ml) :=
  PE.of (pe_callTy hc hg hm hv ha hn hdb he hpl) fun σ H Q h => btN_at h
theorem gDictN_ok (hc : X.calm = true) : VN X (.type "dict") gDict := by
  intro pins s σ H xs us Q I r h
  obtain ⟨μ, F, st, ds, rr, rs, rd, hg, q⟩ := h
  generalize hds : ds.map (der st) = cs at hg
  unfold gDict at hg
  split at hg
  · cases hg
  · cases hg
    obtain ⟨d, x, e1, e2, r1, e3⟩ := rd.one rs hds
    have r2 := r1.dr rs
    rw [e3] at r2
    obtain ⟨a, ys, e4, q1, q2⟩ := r2
    rw [e4] at e2
    exact call_dictD pins s σ H xs us Q I r ⟨a, ys, e2, q1, fun l hl => q _ _ hl (RC.D hl q2)⟩
  · rename_i es
    obtain ⟨ps, hp, hg⟩ := Option.bind_eq_some_iff.mp hg
    obtain ⟨kvs, hk, hg⟩ := Option.map_eq_some_iff.mp hg
    subst hg
    obtain ⟨d, x, e1, e2, r1, e3⟩ := rd.one rs hds
    have r2 := r1.dr rs
    rw [e3] at r2
    obtain ⟨a, ys, e4, q1, q2⟩ := r2
    rw [e4] at e2
    obtain ⟨as, vs, w1, w2, w3⟩ := pairsD_rel q2 hp
    obtain ⟨ks, w4, w5⟩ := dicOf_rel (xs := []) w2 RVd.nil hk
    subst w1
    subst w4
    exact call_dictP hc pins s σ H xs us Q I r ⟨a, as, ks, e2, .inl (.inl q1), paired_map (R := fun p (kv : V × V) => SqT X.K H p [kv.1, kv.2]) (f := fun kv : Key × V => (kV kv.1, kv.2)) w3, fun l hl => q _ _ hl (RC.D hl w5)⟩
  · cases hg
theorem gListN_ok : VN X (.type "list") gList := by
  intro pins s σ H xs us Q I r h
  obtain ⟨μ, F, st, ds, rr, rs, rd, hg, q⟩ := h
  generalize hds : ds.map (der st) = cs at hg
  unfold gList at hg
  split at hg
  · cases hg
    obtain ⟨d, x, e1, e2, r1, e3⟩ := rd.one rs hds
    have r2 := r1.dr rs
    rw [e3] at r2
    obtain ⟨a, ys, e4, q1, q2⟩ := r2
    rw [e4] at e2
    exact call_list_of pins s σ H xs us Q I r ⟨a, ys, e2, .inl (.inl (.inl q1)), fun l hl => q _ _ hl (RC.L hl q2)⟩
  · cases hg
    obtain ⟨d, x, e1, e2, r1, e3⟩ := rd.one rs hds
    have r2 := r1.dr rs
    rw [e3] at r2
    obtain ⟨a, ys, e4, q1, q2⟩ := r2
    rw [e4] at e2
    exact call_list_of pins s σ H xs us Q I r ⟨a, ys, e2, .inr q1, fun l hl => q _ _ hl (RC.L hl q2)⟩
  · cases hg
    obtain ⟨d, x, e1, e2, r1, e3⟩ := rd.one rs hds
    have r2 := r1.dr rs
    rw [e3] at r2
    obtain ⟨a, e4, q1⟩ := r2
    rw [e4] at e2
    exact call_list_of pins s σ H xs us Q I r ⟨a, _, e2, .inl q1, fun l hl => q _ _ hl (RC.L hl (RVs.ints _))⟩
  · cases hg
end
/-! ### d.clear(), del d[k], d.pop(k) -/
def ddrop (q : Key) (kvs : List (D × D)) : List (D × D) := kvs.filter fun kv => decide (dkey kv.1 ≠ some q)
theorem RVd.drop {K : PySem.W.Frag} {H : Hp} {μ : Mu} {F : Addr → Prop} {q : Key} : ∀ {kvs : List (D × D)} {xs : List (Key × V)}, RVd K H μ F kvs xs → RVd K H μ F (ddrop q kvs) (dropK xs q)
  | [], xs, h => by
    cases (show xs = [] from h)
    exact RVd.nil
  | (k, d) :: kvs, xs, h => by
    obtain ⟨q0, y, ys, e, h1, h2, h3⟩ := h
    subst e
    have ih := RVd.drop (q := q) h3
    have hk := RV_key h1
    unfold ddrop dropK at ih ⊢
    rw [List.filter_cons, List.filter_cons]
    by_cases hq : q0 = q
    · subst hq
      rw [if_neg (by simp [hk]), if_neg (by simp)]
      exact ih
    · rw [if_pos (by simp only [hk]; exact decide_eq_true fun z => hq (Option.some.inj z)), if_pos (by simpa using hq)]
      exact ⟨q0, y, _, rfl, h1, h2, ih⟩
def clrOf : D → Option D
  | .dic _ => some (.dic [])
  | _ => none
def dropOf (c k : D) : Option D := match c with
  | .dic kvs => (dkey k).bind fun q => if dhasK q kvs = true then some (.dic (ddrop q kvs)) else none
  | _ => none
/-- an object of number n becomes .. -/
def kMut (g : D → Option D) (ρ : Loc) (b : D) (s : Store) : SRes := match b with
  | .ref n => (match s[n]? with
    | some c => (match g c with
      | some c' => .nx ρ (s.set n c')
      | none => .bad)
    | none => .bad)
  | _ => .bad
def sClr (e : E) : S := fun ρ s => (e ρ s).to ρ (kMut clrOf ρ)
def sDel (e k : E) : S := fun ρ s => (e ρ s).to ρ fun b s => (k ρ s).to ρ fun j s => kMut (fun c => dropOf c (der s j)) ρ b s
def sClrO (i : Nat) : S := fun ρ s => match owOf ρ i with
  | some (b, .dic _) => .nx (ρ.set i (.ow b (.dic []))) s
  | _ => .bad
def sDelO (i : Nat) (k : E) : S := fun ρ s => (k ρ s).to ρ fun j s => match owOf ρ i with
  | some (b, c) => (match dropOf c (der s j) with
    | some c' => .nx (ρ.set i (.ow b c')) s
    | none => .bad)
  | none => .bad
def isDic : D → Bool
  | .dic _ => true
  | _ => false
def sPop (e k : E) : S := fun ρ s => (e ρ s).to ρ fun b s => if isDic (der s b) = true then (k ρ s).to ρ fun j s => kMut (fun c => dropOf c (der s j)) ρ b s else .bad
def getD1 (c k : D) : Option D := match c with
  | .dic kvs => (dget kvs k).map fun o => o.getD .non
  | _ => none
def getD2 (c k x : D) : Option D := match c with
  | .dic kvs => (dget kvs k).map fun o => o.getD x
  | _ => none
def eGet1 (o k : E) : E := fun ρ s => (o ρ s).bind fun x s => if isDic (der s x) = true then (k ρ s).bind fun y s => Res.of (getD1 (der s x) (der s y)) s else .bad
def eGet2 (o k x : E) : E := fun ρ s => (o ρ s).bind fun b s => if isDic (der s b) = true then (k ρ s).bind fun y s => (x ρ s).bind fun z s => Res.of (getD2 (der s b) (der s y) z) s else .bad
theorem RVd.has {K : PySem.W.Frag} {H : Hp} {μ : Mu} {F : Addr → Prop} {q : Key} {kvs : List (D × D)} {xs : List (Key × V)} (r : RVd K H μ F kvs xs) (h : dhasK q kvs = true) : (valV xs q).isSome = true := by
  rw [← valV_any, r.any]
  exact h
section
variable {X : Cx} {W : WX} {o k : Expr} {mo mk : E} {i : Nat} {x : Str} {pos apos cpos tpos p1 : Pos} {D : Ends} {σ : St} {H1 : Hp} {μ1 : Mu} {F : Addr → Prop} {G : Own} {ρ : Loc} {st1 : Store} {v : V}
/-- the change of a shared dict -/
theorem kMut_dic {g : Dn.D → Option Dn.D} {b : Dn.D} (a1 : At X.pn X.K H1 μ1 F G ρ σ st1) (r1 : RV X.K H1 μ1 F b v) (h1 : OkS X.pn X.K W H1 μ1 F G (kMut g ρ b st1) D) (hg : ∀ c c', g c = some c' → ∃ kvs kvs', c = .dic kvs ∧ c' = .dic kvs') :
    ∃ p xs kvs kvs', v = .ref p ∧ H1 p = some (.dK xs) ∧ RVd X.K H1 μ1 F kvs xs ∧ g (.dic kvs) = some (.dic kvs') ∧ ∀ ys, RVd X.K H1 μ1 F kvs' ys → D.nx σ (upd H1 p (.dK ys)) := by
  cases b with
  | ref n =>
    replace h1 : OkS X.pn X.K W H1 μ1 F G (match st1[n]? with
    | some c => (match g c with
      | some c' => .nx ρ (st1.set n c')
      | none => .bad)
    | none => .bad) D := h1
    cases hc : st1[n]? with
    | none => rw [hc] at h1; exact h1.elim
    | some c =>
      rw [hc] at h1
      replace h1 : OkS X.pn X.K W H1 μ1 F G (match g c with
      | some c' => .nx ρ (st1.set n c')
      | none => .bad) D := h1
      cases hg2 : g c with
      | none => rw [hg2] at h1; exact h1.elim
      | some c' =>
        rw [hg2] at h1
        obtain ⟨kvs, kvs', e1, e2⟩ := hg c c' hg2
        subst e1 e2
        unfold RV at r1
        obtain ⟨p, rfl, hn⟩ := r1
        obtain ⟨p', hn', rc⟩ := a1.s.at_ n _ hc
        rw [hn] at hn'; cases hn'
        obtain ⟨xs, hx, rv⟩ := rc.c (fun z => nomatch z)
        refine ⟨p, xs, kvs, kvs', rfl, hx, rv, hg2, fun ys ry => ?_⟩
        have fw : Fut H1 μ1 (upd H1 p (.dK ys)) μ1 := Fut.write (List.mem_of_getElem? hn)
        exact h1 σ _ μ1 F G (a1.ev fw) (a1.fut fw (a1.s.write hn ⟨ys, upd_same, RVd.kp fw.kp0 ry⟩))
  | _ => exact h1.elim
theorem clr_is {c c' : Dn.D} (h : clrOf c = some c') : ∃ kvs kvs', c = .dic kvs ∧ c' = .dic kvs' := by
  cases c <;> first | cases h | skip
  exact ⟨_, _, rfl, rfl⟩
theorem drop_is {j c c' : Dn.D} (h : dropOf c j = some c') : ∃ kvs kvs', c = .dic kvs ∧ c' = .dic kvs' := by
  cases c <;> first | cases h | skip
  obtain ⟨q, _, e⟩ := Option.bind_eq_some_iff.mp h
  split at e
  · cases e; exact ⟨_, _, rfl, rfl⟩
  · cases e
theorem ss_clr (ho : SE X W o mo) (hbase : attributeBase o "clear" X.env (eval o X.env) = eval o X.env := by rfl) (hline : (apos.endLine == cpos.line) = true := by rfl)
    (hs : swapsWith (.Call (.Attribute o "clear" apos) [] [] cpos) none pos.line X.env = pure false := by rfl) : SS X W (.Expr (.Call (.Attribute o "clear" apos) [] [] cpos) pos) (sClr mo) :=
  PS.of (ps_expr (pe_dclear ho hbase hline) hs) fun D σ H ⟨ρ, μ, F, G, st, a, h⟩ => tS_e (k := kMut clrOf ρ) a h fun x H1 μ1 st1 d a1 f1 r1 h1 => by
    obtain ⟨p, xs, kvs, kvs', rfl, hx, rv, hg, q⟩ := kMut_dic a1 r1 h1 fun c c' => clr_is
    cases hg
    exact ⟨.inr (.inr (.inl ⟨rfl, .inl ⟨xs, hx⟩⟩)), p, xs, rfl, rfl, hx, q [] RVd.nil⟩
theorem ss_del (ho : SE X W o mo) (hk : SR X W k mk) : SS X W (.Delete [.Subscript o k tpos] pos) (sDel mo mk) :=
  PS.of (ps_ddel ho hk) fun D σ H ⟨ρ, μ, F, G, st, a, h⟩ => tS_e (k := fun b s => (mk ρ s).to ρ fun j s => kMut (fun c => dropOf c (der s j)) ρ b s) a h fun x H1 μ1 st1 d a1 f1 r1 h1 =>
    tS_e (k := fun j s => kMut (fun c => dropOf c (der s j)) ρ d s) a1 h1 fun y H2 μ2 st2 j a2 f2 r2 h2 => by
      obtain ⟨p, xs, kvs, kvs', rfl, hx, rv, hg, q⟩ := kMut_dic a2 (RV.kp f2.kp0 r1) h2 fun c c' => drop_is
      obtain ⟨w, hw, e⟩ := Option.bind_eq_some_iff.mp (show ((dkey (der st2 j)).bind fun q => if dhasK q kvs = true then some (Dn.D.dic (ddrop q kvs)) else none) = some (.dic kvs') from hg)
      split at e
      · rename_i hh
        cases e
        obtain ⟨e1, _⟩ := dkey_RV hw (r2.dr a2.s)
        exact ⟨p, xs, w, rfl, hx, e1, rv.has hh, q _ rv.drop⟩
      · cases e
theorem isD_of {H : Hp} {μ : Mu} {F : Addr → Prop} {st : Store} {d : Dn.D} {x : V} (rs : RS X.K H μ F st) (r : RD X.K H μ F d x) (h : isDic (der st d) = true) : ∃ a kvs xs, der st d = .dic kvs ∧ x = .ref a ∧ Rd H a (.dK xs) ∧ RVd X.K H μ F kvs xs := by
  have rr := r.dr rs
  generalize der st d = c at h rr
  cases c with
  | dic kvs =>
    obtain ⟨a, xs, e, q, rv⟩ := rr
    exact ⟨a, kvs, xs, rfl, e, q, rv⟩
  | _ => cases h
theorem ss_pop (ho : SE X W o mo) (hk : SR X W k mk) (m : M1 X o "pop" apos k cpos) (hs : swapsWith (.Call (.Attribute o "pop" apos) [k] [] cpos) none pos.line X.env = pure false := by rfl) : SS X W (.Expr (.Call (.Attribute o "pop" apos) [k] [] cpos) pos) (sPop mo mk) :=
  PS.of (ps_expr (pe_dpop1 ho hk m) hs) fun D σ H ⟨ρ, μ, F, G, st, a, h⟩ => tS_e (k := fun b s => if isDic (der s b) = true then (mk ρ s).to ρ fun j s => kMut (fun c => dropOf c (der s j)) ρ b s else .bad) a h fun x H1 μ1 st1 d a1 f1 r1 h1 => by
    by_cases hd : isDic (der st1 d) = true
    · rw [if_pos hd] at h1
      obtain ⟨b, kvs0, ys, _, rfl, q1, _⟩ := isD_of a1.s (.of r1) hd
      refine ⟨b, rfl, .inl ⟨ys, q1⟩, tS_e (k := fun j s => kMut (fun c => dropOf c (der s j)) ρ d s) a1 h1 fun y H2 μ2 st2 j a2 f2 r2 h2 => ?_⟩
      obtain ⟨p, xs, kvs, kvs', ep, hx, rv, hg, q⟩ := kMut_dic a2 (RV.kp f2.kp0 r1) h2 fun c c' => drop_is
      cases ep
      obtain ⟨w, hw, e⟩ := Option.bind_eq_some_iff.mp (show ((dkey (der st2 j)).bind fun q => if dhasK q kvs = true then some (Dn.D.dic (ddrop q kvs)) else none) = some (.dic kvs') from hg)
      split at e
      · rename_i hh
        cases e
        obtain ⟨e1, _⟩ := dkey_RV hw (r2.dr a2.s)
        obtain ⟨z, hz⟩ := Option.isSome_iff_exists.mp (rv.has hh)
        exact ⟨xs, w, z, hx, e1, hz, q _ rv.drop⟩
      · cases e
    · rw [if_neg hd] at h1; exact h1.elim
/-! ### d.get(k), d.get(k, x) -/
theorem se_get1 (hu : X.A.units + 64 < cLine) (ho : SR X W o mo) (hk : SR X W k mk) (m : M1 X o "get" apos k cpos) : SE X W (.Call (.Attribute o "get" apos) [k] [] cpos) (eGet1 mo mk) :=
  PE.of (pe_dget1 (by omega) ho hk m) fun σ H Q ⟨ρ, μ, F, G, st, a, h⟩ => tG_at (k := fun x s => if isDic (der s x) = true then (mk ρ s).bind fun y s => Res.of (getD1 (der s x) (der s y)) s else .bad) a h fun x H1 μ1 st1 d a1 f1 r1 h1 => by
    by_cases hd : isDic (der st1 d) = true
    · rw [if_pos hd] at h1
      obtain ⟨b, kvs0, ys, _, rfl, q1, _⟩ := isD_of a1.s r1 hd
      refine ⟨b, rfl, .inl ⟨ys, q1⟩, tG_at (k := fun y s => Res.of (getD1 (der s d) (der s y)) s) a1 h1 fun y H2 μ2 st2 j a2 f2 r2 h2 => ?_⟩
      obtain ⟨r, hr, hq⟩ := OkG.some h2
      have r1' := r1.fut a1.s f2
      cases hc : isDic (der st2 d) with
      | false =>
        generalize der st2 d = c at hc hr
        cases c <;> first | cases hr | cases hc
      | true =>
        obtain ⟨b2, kvs, xs, ed, e2, q2, rv⟩ := isD_of a2.s r1' hc
        cases e2
        rw [ed] at hr
        obtain ⟨oo, h3, h4⟩ := Option.map_eq_some_iff.mp (show (dget kvs (der st2 j)).map (fun o => o.getD Dn.D.non) = some r from hr)
        obtain ⟨ov, g, g1, g2⟩ := rv.dget q2 (r2.dr a2.s) h3
        refine ⟨ov, g, hq _ H2 μ2 .refl a2.s ?_⟩
        subst h4
        cases oo with
        | none => rw [g2 rfl]; exact RV_non
        | some z => obtain ⟨w, e, rw'⟩ := g1 z rfl; rw [e]; exact rw'
    · rw [if_neg hd] at h1; exact h1.elim
theorem se_get2 {k2 : Expr} {mk2 : E} (hu : X.A.units + 64 < cLine) (ho : SR X W o mo) (hk : SR X W k mk) (hk2 : SE X W k2 mk2) (m : M2 X o "get" apos k k2 cpos) : SE X W (.Call (.Attribute o "get" apos) [k, k2] [] cpos) (eGet2 mo mk mk2) :=
  PE.of (pe_dget2 (by omega) ho hk hk2 m) fun σ H Q ⟨ρ, μ, F, G, st, a, h⟩ => tG_at (k := fun x s => if isDic (der s x) = true then (mk ρ s).bind fun y s => (mk2 ρ s).bind fun z s => Res.of (getD2 (der s x) (der s y) z) s else .bad) a h fun x H1 μ1 st1 d a1 f1 r1 h1 => by
    by_cases hd : isDic (der st1 d) = true
    · rw [if_pos hd] at h1
      obtain ⟨b, kvs0, ys, _, rfl, q1, _⟩ := isD_of a1.s r1 hd
      refine ⟨b, rfl, .inl ⟨ys, q1⟩, tG_at (k := fun y s => (mk2 ρ s).bind fun z s => Res.of (getD2 (der s d) (der s y) z) s) a1 h1 fun y H2 μ2 st2 j a2 f2 r2 h2 => ?_⟩
      refine tG_at (k := fun z s => Res.of (getD2 (der s d) (der s j) z) s) a2 h2 fun z H3 μ3 st3 l a3 f3 r3 h3 => ?_
      obtain ⟨r, hr, hq⟩ := OkG.some h3
      have r1' := (r1.fut a1.s f2).fut a2.s f3
      have r2' := r2.fut a2.s f3
      cases hc : isDic (der st3 d) with
      | false =>
        generalize der st3 d = c at hc hr
        cases c <;> first | cases hr | cases hc
      | true =>
        obtain ⟨b2, kvs, xs, ed, e2, q2, rv⟩ := isD_of a3.s r1' hc
        cases e2
        rw [ed] at hr
        obtain ⟨oo, h4, h5⟩ := Option.map_eq_some_iff.mp (show (dget kvs (der st3 j)).map (fun o => o.getD l) = some r from hr)
        obtain ⟨ov, g, g1, g2⟩ := rv.dget q2 (r2'.dr a3.s) h4
        refine ⟨ov, g, hq _ H3 μ3 .refl a3.s ?_⟩
        subst h5
        cases oo with
        | none => rw [g2 rfl]; exact r3
        | some z => obtain ⟨w, e, rw'⟩ := g1 z rfl; rw [e]; exact rw'
    · rw [if_neg hd] at h1; exact h1.elim
end
section
variable {ρ : Loc} {s : Store} {N : Loc → Store → Prop} {R P : D → Store → Prop} {o k k2 : E}
theorem ws_clr {n : Nat} (h : Wp (o ρ s) fun b s => b = .ref n ∧ ∃ kvs, s[n]? = some (.dic kvs) ∧ N ρ (s.set n (.dic []))) : Ws (sClr o ρ s) N R := wp_to (wp_mono h fun b s ⟨e, kvs, e1, q⟩ => by
  subst e
  show Ws (match s[n]? with
    | some c => (match clrOf c with
      | some c' => .nx ρ (s.set n c')
      | none => .bad)
    | none => .bad) N R
  rw [e1]
  exact q)
theorem wp_get1 (h : Wp (o ρ s) fun x s => isDic (der s x) = true ∧ Wp (k ρ s) fun y s => ∃ r, getD1 (der s x) (der s y) = some r ∧ P r s) : Wp (eGet1 o k ρ s) P := by
  unfold eGet1
  rw [wp_bind]
  refine wp_mono h fun x s ⟨c, q⟩ => ?_
  rw [if_pos c, wp_bind]
  exact wp_mono q fun y s ⟨r, e, p⟩ => by rw [e]; exact p
theorem wp_get2 (h : Wp (o ρ s) fun x s => isDic (der s x) = true ∧ Wp (k ρ s) fun y s => Wp (k2 ρ s) fun z s => ∃ r, getD2 (der s x) (der s y) z = some r ∧ P r s) : Wp (eGet2 o k k2 ρ s) P := by
  unfold eGet2
  rw [wp_bind]
  refine wp_mono h fun x s ⟨c, q⟩ => ?_
  rw [if_pos c, wp_bind]
  refine wp_mono q fun y s q => ?_
  rw [wp_bind]
  exact wp_mono q fun z s ⟨r, e, p⟩ => by rw [e]; exact p
end
end Dn

/-! Dn: != of dicts. -/
namespace PySem.W
variable {prog : Program} {w : World} {A : Around} {s : Shared} {knd : Kind}
theorem rcneP_dicts {a b : Addr} {ka kb : List (L2.Key × Value)} {r : Bool} (ha : (a == sysModules) = false) (hb : (b == sysModules) = false)
    (da : s.heap.DictOf (L2.mixKind prog w) a ka) (db : s.heap.DictOf (L2.mixKind prog w) b kb) (hu : A.units < cLine) (hits : ka.length = kb.length → KeqHitsP prog w A.in1 s kb ka r) (E Q : Value → Shared → Prop) (h : Q (.bool (!(ka.length == kb.length && r))) s) : wpAny (model prog w) A (richCompare .NotEq (.ref a) (.ref b)) Q E s := by
  refine wpAny_richCompare_same_room da.typeIs db.typeIs PySem.F.slot_dict_ne (wpAny_call_entry PySem.F.slot_dict_ne da.typeIs PySem.F.entry_dict_ne ?go (PySem.F.args_dict_ne_2 _ _)) hu
  case go =>
    refine wpAny_bind (m := Builtin.Dict.dictSlotArgs "__ne__" ⟨[.ref a, .ref b], []⟩) ?_
    unfold Builtin.Dict.dictSlotArgs
    refine wpAny_bind (wpAny_notOrdered_dict da.typeIs (wpAny_pure ?_))
    refine wpAny_bind (wpAny_isInstance (T := "dict") db.typeIs PySem.F.sub_dict_dict ?_)
    simp only [Bool.not_true, Bool.false_eq_true, if_false]
    refine wpAny_bind (wpAny_pure (wpAny_bind (wpAny_pure (wpAny_bind (samePairsP ha hb da db hits (wpAny_pure ⟨_, rfl, (fun z => nomatch z), ?_⟩))))))
    simpa using h
end PySem.W
namespace Dn
open PySem PySem.Spec L2
open PyProof.Rows hiding St RelV
def dneD (d e : D) : Option D := match d, e with
  | .dic a, .dic b => (deqo 60 (.dic a) (.dic b)).map fun x => .bl (!x)
  | d, e => cmpD .NotEq d e
def eNe2 (a b : E) : E := fun ρ s => (a ρ s).bind fun x s => (b ρ s).bind fun y s => Res.of (dneD (der s x) (der s y)) s
section
variable {X : Cx} {W : WX} {a b : Expr} {ma mb : E} {pos : Pos}
theorem dneD_ok (hu : X.A.units + 64 < cLine) : V2 X (compareOp .NotEq) dneD := by
  intro pins s σ H x y v u Q I rx ry h
  obtain ⟨μ, F, st, d, e, r, rs, hd, he, hg, q⟩ := h
  unfold dneD at hg
  split at hg
  · rename_i ka kb e1 e2
    have r1 := hd.dr rs
    have r2 := he.dr rs
    rw [e1] at r1
    rw [e2] at r2
    obtain ⟨k, hk, e3⟩ := Option.map_eq_some_iff.mp hg
    subst e3
    obtain ⟨a1, xs, f1, s1, p1⟩ := r1
    obtain ⟨a2, ys, f2, s2, p2⟩ := r2
    subst f1 f2
    cases (show v = Value.ref a1 from rx)
    cases (show u = Value.ref a2 from ry)
    obtain ⟨_, m1, vs, kv, do1⟩ := dk_rd I.hok s1
    obtain ⟨_, m2, vs2, kv2, do2⟩ := dk_rd I.hok s2
    have l1 := Paired.length kv
    have l2 := Paired.length kv2
    have l3 := p1.length
    have l4 := p2.length
    have fin : EP X pins σ Q (.bool (!k)) s := ⟨.bl (!k), H, I, rfl, q _ H μ .refl rs (RV_bl _)⟩
    have hk2 : (if ka.length = kb.length then hito (deqo 59) kb ka else some false) = some k := hk
    have hf : ∀ d e b v w u u', deqo 59 d e = some b → RV X.K H μ F d v → RV X.K H μ F e w → RelV v u → RelV w u' → SeqAt.EqP X.prog X.w X.A.in1 s u u' b := fun d e b v w u u' h a c q1 q2 =>
      (deqo_at I 59 d e b X.A.in1 v w u u' h (a.dr (deqo_ref h).1) (c.dr (deqo_ref h).2) q1 q2 (by have : X.A.in1.units = X.A.units + 1 := rfl; omega)).1
    split at hk2
    · refine PySem.W.rcneP_dicts (r := k) m1 m2 do1 do2 (by omega) (fun _ => hito_hits hf p2 kv2 hk2 p1 kv) _ _ ?_
      rw [show vs.length = vs2.length by omega, beq_self_eq_true, Bool.true_and]
      exact fin
    · rename_i hl
      cases hk2
      have hne : ¬ vs.length = vs2.length := by omega
      refine PySem.W.rcneP_dicts (r := true) m1 m2 do1 do2 (by omega) (fun z => absurd z hne) _ _ ?_
      rw [show (vs.length == vs2.length) = false from beq_eq_false_iff_ne.mpr hne, Bool.false_and]
      exact fin
  · exact cmpD_ok hu .NotEq pins s σ H x y v u Q I rx ry ⟨μ, F, st, d, e, r, rs, hd, he, hg, q⟩
theorem se_ne2 (hu : X.A.units + 64 < cLine) (ha : SR X W a ma) (hb : SR X W b mb) (hm : behindInMarks .NotEq b = false := by first | exact nomark _ | rfl) : SE X W (.Compare a [.NotEq] [b] pos) (eNe2 ma mb) :=
  PE.of (pe_cmpR (dneD_ok hu) ha hb hm) fun σ H Q h => two_at h
theorem st_ne2 (hu : X.A.units + 64 < cLine) (ha : SR X W a ma) (hb : SR X W b mb) (hm : behindInMarks .NotEq b = false := by first | exact nomark _ | rfl) : ST X W (.Compare a [.NotEq] [b] pos) (eIs (eNe2 ma mb)) :=
  PT.of (pt_cmpR (dneD_ok hu) ha hb hm) fun σ H Q h => two_at (bool_at (fun _ _ _ _ _ h => by unfold RV at h; exact h) h)
end
section
variable {ρ : Loc} {s : Store} {P : D → Store → Prop}
theorem wp_ne2 {a b : E} (h : Wp (a ρ s) fun x s => Wp (b ρ s) fun y s => ∃ r, dneD (der s x) (der s y) = some r ∧ P r s) : Wp (eNe2 a b ρ s) P := by
  unfold eNe2
  rw [wp_bind]
  refine wp_mono h fun x s q => ?_
  rw [wp_bind]
  exact wp_mono q fun y s ⟨r, e, p⟩ => by rw [e]; exact p
theorem wp_con {f : Str} {T : List (String × D)} {o : E} (h : Wp (o ρ s) fun x s => ∃ r, conOf f T (der s x) = some r ∧ P r s) : Wp (eCon f T o ρ s) P := by
  unfold eCon
  rw [wp_bind]
  exact wp_mono h fun x s ⟨r, e, p⟩ => by rw [e]; exact p
theorem wp_prop {L : Disp} {o : E} (h : Wp (o ρ s) fun x s => ∃ g, getOf L (der s x) = some g ∧ Wp (g [x] s) P) : Wp (eProp L o ρ s) P := by
  unfold eProp
  rw [wp_bind]
  refine wp_mono h fun x s ⟨g, e, q⟩ => ?_
  rw [e]
  show Wp (noX (g [x] s)) P
  cases hr : g [x] s with
  | ok d s => rw [hr] at q; exact q
  | ex C fs s => rw [hr] at q; exact q.elim
  | bad => rw [hr] at q; exact q.elim
end
end Dn

/-! Dn: dicts with strings as keys; frames of draws; more steps. -/
namespace Dn
open PySem PySem.Spec L2
open PyProof.Rows hiding St RelV
/-! ### steps -/
section
variable {P : D → Store → Prop} {N : Loc → Store → Prop} {R : D → Store → Prop} {ρ : Loc} {s : Store}
theorem wp_enot {a : E} (h : Wp (a ρ s) fun x s => ∃ b : Bool, x = .bl b ∧ P (.bl (!b)) s) : Wp (eNot a ρ s) P := by
  unfold eNot
  rw [wp_bind]
  exact wp_mono h fun x s ⟨b, e, p⟩ => by subst e; exact p
theorem wp_init {C : String} {n : Nat} {b : S} {ds : List D} (h : Ws (b (.ow true (.obj C []) :: (ds.map .pu ++ List.replicate (n - (ds.length + 1)) .no)) s) (fun ρ s => ∃ fs, ρ[0]? = some (.ow true (.obj C fs)) ∧ P (.obj C fs) s) (fun _ _ => False)) : Wp (initM C n b ds s) P := by
  unfold initM
  cases e : b (.ow true (.obj C []) :: (ds.map .pu ++ List.replicate (n - (ds.length + 1)) .no)) s with
  | nx ρ s =>
    rw [e] at h
    obtain ⟨fs, e2, p⟩ := h
    show Wp (match (ρ[0]? : Option Slot) with
    | some (.ow true (.obj C fs)) => .ok (.obj C fs) s
    | _ => .bad) P
    rw [e2]
    exact p
  | _ => rw [e] at h; exact h.elim
theorem ws_fldO {L : List String} {i : Nat} {f : Str} {e : E} {b : Bool} {C : String} {fs : List (Str × D)} (h0 : ρ[i]? = some (.ow b (.obj C fs))) (hC : C ∈ L ∧ fs.length < 1000) (h : Wp (e ρ s) fun d s => N (ρ.set i (.ow b (.obj C (putD f d fs)))) s) : Ws (sFldO L i f e ρ s) N R := by
  refine wp_to (wp_mono h fun d s q => ?_)
  unfold owOf
  rw [h0]
  dsimp only
  rw [if_pos hC]
  exact q
theorem ws_put {e o i : E} (h : Wp (e ρ s) fun d s => Wp (o ρ s) fun b s => Wp (i ρ s) fun j s => ∃ n c c', b = .ref n ∧ s[n]? = some c ∧ putIx c (der s j) d = some c' ∧ N ρ (s.set n c')) : Ws (sPut e o i ρ s) N R := by
  refine wp_to (wp_mono h fun d s q => wp_to (wp_mono q fun b s q1 => wp_to (wp_mono q1 fun j s ⟨n, c, c', e1, e2, e3, q2⟩ => ?_)))
  rw [e1]
  dsimp only
  rw [e2]
  dsimp only
  rw [e3]
  exact q2
theorem wp_new {m : E} (h : Wp (m ρ s) fun d s => P (.ref s.length) (s ++ [d])) : Wp (eNew m ρ s) P := by
  unfold eNew
  rw [wp_bind]
  exact h
theorem wp_callK {nk : Nat} {m : M} {a b : EL} (h : Wp (a ρ s) fun ds s => Wp (b ρ s) fun es s => es.length = nk ∧ Wp (m (ds ++ es) s) P) : Wp (eCallK nk m a b ρ s) P := by
  unfold eCallK
  rw [wp_bind]
  refine wp_mono h fun ds s q => ?_
  rw [wp_bind]
  exact wp_mono q fun es s ⟨e, q⟩ => by rw [if_pos e]; exact q
end
/-! ### frames -/
theorem SrcB.app {s t : Store} {n k : Nat} (h : SrcB s n k) : SrcB (s ++ t) n k := by
  obtain ⟨g, m, c, h1, h2, h3, h4, h5, h6⟩ := h
  exact ⟨g, m, c, h1, h2, h3, h4, h5, by rw [List.getElem?_append_left (List.getElem?_eq_some_iff.mp h6).1]; exact h6⟩
theorem SrcB.set {s : Store} {n k m : Nat} {d : D} (h : SrcB s n k) (ne : m ≠ n) : SrcB (s.set m d) n k := by
  obtain ⟨g, mm, c, h1, h2, h3, h4, h5, h6⟩ := h
  exact ⟨g, mm, c, h1, h2, h3, h4, h5, by rw [List.getElem?_set_ne ne]; exact h6⟩
theorem SrcB.lt {s : Store} {n k : Nat} (h : SrcB s n k) : n < s.length := by
  obtain ⟨g, m, c, h1, h2, h3, h4, h5, h6⟩ := h
  exact (List.getElem?_eq_some_iff.mp h6).1
theorem drw31_fr {s : Store} {n k : Nat} (S : SrcB s n k) (hk : k < 100000000) {many : Int} (k0 : 0 < many) (k1 : many.natAbs < 2 ^ 200) {P : D → Store → Prop} (h : ∀ (d : Int) s', 0 ≤ d → d < many → s'.length = s.length → SrcB s' n (k + 1) → (∀ m, m ≠ n → s'[m]? = s[m]?) → P (.int d) s') : Wp (M_drw31 [.ref n, .int many] s) P := by
  obtain ⟨g, m, c, S0, S1, S2, S3, S4, hs⟩ := S
  obtain ⟨d, g', c', d0, d1, g0, c0, c1, e⟩ := draw_ok2 ⟨S0, S1, S2, S3, by omega⟩ hs many k0 k1
  rw [e]
  have hn : n < s.length := (List.getElem?_eq_some_iff.mp hs).1
  exact h d _ d0 d1 (by simp) ⟨g', m, c', g0, S1, S2, by omega, by omega, get_set hn⟩ fun j hj => List.getElem?_set_ne (Ne.symm hj)
/-! ### dicts with strings as keys -/
def Val (d : D) : Prop := d = .non ∨ ∃ i : Int, d = .int i
abbrev sd (ps : List (Str × D)) : List (D × D) := ps.map fun p => (.str p.1, p.2)
def sget (x : Str) : List (Str × D) → Option D
  | [] => none
  | (y, d) :: r => if y = x then some d else sget x r
theorem sd_get (x : Str) : ∀ ps : List (Str × D), dgetK (.inr x) (sd ps) = sget x ps
  | [] => rfl
  | (y, d) :: r => by
    have ih := sd_get x r
    by_cases h : y = x
    · subst h
      simp [dgetK, dkey, sget]
    · have : ¬ (some (Sum.inr y : Key) = some (Sum.inr x)) := fun e => h (by injection e with e; injection e)
      show (if some (Sum.inr y : Key) = some (Sum.inr x) then some d else dgetK (.inr x) (sd r)) = if y = x then some d else sget x r
      rw [if_neg this, if_neg h]
      exact ih
theorem sget_none {x : Str} : ∀ {ps : List (Str × D)}, x ∉ ps.map (·.1) → sget x ps = none
  | [], _ => rfl
  | (y, d) :: r, h => by
    rw [List.map_cons, List.mem_cons, not_or] at h
    show (if y = x then some d else sget x r) = none
    rw [if_neg (fun e : y = x => h.1 e.symm)]
    exact sget_none h.2
theorem sget_mem {x : Str} {d : D} : ∀ {ps : List (Str × D)}, (ps.map (·.1)).Nodup → (x, d) ∈ ps → sget x ps = some d
  | [], _, h => by cases h
  | (y, e) :: r, hn, h => by
    rw [List.map_cons, List.nodup_cons] at hn
    rcases List.mem_cons.mp h with h | h
    · cases h
      simp [sget]
    · have : y ≠ x := fun e => hn.1 (by rw [e]; exact List.mem_map.mpr ⟨(x, d), h, rfl⟩)
      show (if y = x then some e else sget x r) = some d
      rw [if_neg this]
      exact sget_mem hn.2 h
theorem sget_in {x : Str} {d : D} : ∀ {ps : List (Str × D)}, sget x ps = some d → (x, d) ∈ ps
  | [], h => by cases h
  | (y, e) :: r, h => by
    simp only [sget] at h
    split at h
    · rename_i q
      cases h
      rw [q]
      exact List.mem_cons_self
    · exact List.mem_cons_of_mem _ (sget_in h)
theorem sd_item (x : Str) (ps : List (Str × D)) : item (.dic (sd ps)) (.str x) = sget x ps := by
  show (dget (sd ps) (.str x)).bind id = _
  rw [← sd_get]
  rfl
theorem sd_has (x : Str) : ∀ ps : List (Str × D), dhasK (.inr x) (sd ps) = decide (x ∈ ps.map (·.1))
  | [] => rfl
  | (y, d) :: r => by
    have ih := sd_has x r
    unfold dhasK at ih ⊢
    show (decide (dkey (.str y) = some (.inr x)) || (sd r).any fun kv => decide (dkey kv.1 = some (.inr x))) = _
    rw [ih, List.map_cons]
    by_cases h : y = x
    · subst h
      simp [dkey]
    · have : ¬ (some (Sum.inr y : Key) = some (Sum.inr x)) := fun e => h (by injection e with e; injection e)
      have e1 : decide (dkey (.str y) = some (.inr x)) = false := decide_eq_false this
      rw [e1, Bool.false_or]
      by_cases hm : x ∈ r.map (·.1)
      · rw [decide_eq_true hm, decide_eq_true (List.mem_cons_of_mem _ hm)]
      · rw [decide_eq_false hm, decide_eq_false]
        intro z
        rcases List.mem_cons.mp z with z | z
        · exact h z.symm
        · exact hm z
theorem sd_put_new {x : Str} {d : D} {ps : List (Str × D)} (h : x ∉ ps.map (·.1)) (hl : ps.length < line) : putIx (.dic (sd ps)) (.str x) d = some (.dic (sd (ps ++ [(x, d)]))) := by
  show (if (sd ps).length < line then (dkey (.str x)).map fun q => D.dic (dputK (.str x) q d (sd ps)) else none) = _
  rw [if_pos (by rw [List.length_map]; exact hl)]
  show some (D.dic (dputK (.str x) (.inr x) d (sd ps))) = _
  unfold dputK
  rw [sd_has, decide_eq_false h, if_neg Bool.false_ne_true]
  simp [sd]
theorem put_some {x : Str} {d : D} {kvs : List (D × D)} (hl : kvs.length < line) : ∃ c', putIx (.dic kvs) (.str x) d = some (.dic c') := by
  refine ⟨dputK (.str x) (.inr x) d kvs, ?_⟩
  show (if kvs.length < line then (dkey (.str x)).map fun q => D.dic (dputK (.str x) q d kvs) else none) = _
  rw [if_pos hl]
  rfl
theorem val_okq {v : D} (n : Nat) (h : Val v) : okq n v = true := by
  rcases h with rfl | ⟨i, rfl⟩
  · cases n <;> rfl
  · cases n <;> rfl
theorem deqo_vals (n : Nat) {v w : D} (hv : Val v) (hw : Val w) : deqo n v w = some (deq v w) := by
  cases n with
  | zero => unfold deqo; rw [val_okq _ hv, val_okq _ hw]; rfl
  | succ n => unfold deqo; rw [val_okq _ hv, val_okq _ hw]; rfl
theorem deq_val {v : D} (h : Val v) : deq v v = true := deq_refl 0 v (val_okq 0 h)
theorem deqo_dics (n : Nat) (a b : List (D × D)) : deqo (n + 1) (.dic a) (.dic b) = if a.length = b.length then hito (deqo n) b a else some false := by
  unfold deqo
  have e : okq (n + 1) (.dic a) = false := rfl
  rw [e]
  rfl
theorem nodup_len {α : Type} [DecidableEq α] : ∀ {l k : List α}, l.Nodup → (∀ x ∈ l, x ∈ k) → l.length ≤ k.length
  | [], k, _, _ => Nat.zero_le _
  | x :: r, k, hn, h => by
    rw [List.nodup_cons] at hn
    have h1 := h x List.mem_cons_self
    have := nodup_len (l := r) (k := k.erase x) hn.2 fun y hy => (List.mem_erase_of_ne fun e => hn.1 (by rw [← e]; exact hy)).mpr (h y (List.mem_cons_of_mem _ hy))
    rw [List.length_erase_of_mem h1] at this
    have := List.length_pos_of_mem h1
    rw [List.length_cons]
    omega
/-- cells: distinct names, integers or None -/
structure Cells (ps : List (Str × D)) : Prop where
  nd : (ps.map (·.1)).Nodup
  val : ∀ p ∈ ps, Val p.2
theorem hito_sub (n : Nat) {ps : List (Str × D)} (h : Cells ps) : ∀ qs : List (Str × D), (∀ q ∈ qs, q ∈ ps) → hito (deqo n) (sd ps) (sd qs) = some true
  | [], _ => rfl
  | (x, d) :: r, hq => by
    have ih := hito_sub n h r fun q hq' => hq q (List.mem_cons_of_mem _ hq')
    have hm := hq _ List.mem_cons_self
    have hv := h.val _ hm
    simp only [List.map_cons, hito, dkey, sd_get, sget_mem h.nd hm, deqo_vals n hv hv, deq_val hv, Option.bind_some]
    rw [show hito (deqo n) (List.map (fun p => (D.str p.fst, p.snd)) ps) (List.map (fun p => (D.str p.fst, p.snd)) r) = some true from ih]
    rfl
theorem deqo_cells (n : Nat) {ps : List (Str × D)} (h : Cells ps) : deqo (n + 1) (.dic (sd ps)) (.dic (sd ps)) = some true := by
  rw [deqo_dics, if_pos rfl]
  exact hito_sub n h ps fun q hq => hq
theorem deqD_cells {ps : List (Str × D)} (h : Cells ps) : deqD (.dic (sd ps)) (.dic (sd ps)) = some (.bl true) := by
  unfold deqD
  rw [deqo_cells 59 h]
  rfl
theorem dneD_cells {ps : List (Str × D)} (h : Cells ps) : dneD (.dic (sd ps)) (.dic (sd ps)) = some (.bl false) := by
  show ((deqo 60 (.dic (sd ps)) (.dic (sd ps))).map fun x => D.bl (!x)) = _
  rw [deqo_cells 59 h]
  rfl
theorem keys_sd (ps : List (Str × D)) : keysD (.dic (sd ps)) = some (.lst ((ps.map (·.1)).map .str)) := by
  show some (D.lst _) = _
  rw [List.map_map, List.map_map]
  rfl
theorem strsOf_strs (ss : List Str) : strsOf (ss.map .str) = some ss := by
  induction ss with
  | nil => rfl
  | cons x r ih => simp only [List.map_cons, strsOf, ih, Option.map_some]
theorem sort_strs (ss : List Str) (h : ss.length < 64) : gSort [.lst (ss.map .str)] = some (.lst ((sortS ss).map .str)) := by
  show sortOf (ss.map .str) = _
  unfold sortOf
  cases ss with
  | nil =>
    show some (D.lst ((sortI []).map .int)) = some (D.lst ((sortS []).map .str))
    rw [show sortI [] = [] from (sortI_perm []).eq_nil, show sortS [] = [] from (sortS_perm []).eq_nil]
    rfl
  | cons x r =>
    have e : intsOf ((x :: r).map D.str) = none := rfl
    rw [e]
    dsimp only
    rw [strsOf_strs, Option.bind_some, if_pos h]
theorem strs_okq (ss : List Str) (n : Nat) : (ss.map D.str).all (okq n) = true := by
  rw [List.all_map, List.all_eq_true]
  intro x _
  cases n <;> rfl
theorem ne_strs (ss : List Str) : cmpD .NotEq (.lst (ss.map .str)) (.lst (ss.map .str)) = some (.bl false) := by
  have e : okq 60 (.lst (ss.map .str)) = true := strs_okq ss 59
  show (if okq 60 (.lst (ss.map .str)) && okq 60 (.lst (ss.map .str)) then some (D.bl (!deq (.lst (ss.map .str)) (.lst (ss.map .str)))) else none) = _
  rw [e, deq_refl 60 _ e]
  rfl
theorem ne_val {v : D} (h : Val v) : cmpD .NotEq v v = some (.bl false) := by
  have q : cmpD .NotEq v v = if okq 60 v && okq 60 v then some (.bl (!deq v v)) else none := by
    rcases h with rfl | ⟨i, rfl⟩ <;> rfl
  rw [q, val_okq 60 h, deq_val h]
  rfl
theorem gAll_trues {α : Type} (cs : List α) : gAll [.lst (cs.map fun _ => D.bl true)] = some (.bl true) := by
  have e : ∃ bs : List Bool, bools (cs.map fun _ => D.bl true) = some bs ∧ bs.all id = true := by
    induction cs with
    | nil => exact ⟨[], rfl, rfl⟩
    | cons c cs ih =>
      obtain ⟨bs, e1, e2⟩ := ih
      exact ⟨true :: bs, by simp only [List.map_cons, bools, e1, Option.map_some], by simpa using e2⟩
  obtain ⟨bs, e1, e2⟩ := e
  show (bools _).map _ = _
  rw [e1, Option.map_some, e2]
end Dn

set_option maxHeartbeats 0
namespace Dn
open PySem PySem.Spec L2
open PyProof.Rows hiding St RelV
/-! ### the text -/
abbrev Rw : PySem.W.OpenLaw := PySem.Challenge.rw_filteredcopies_k31_messages_made
def top (i : Nat) : Stmt := PySem.Challenge.pw_filteredcopies_k31_messages_made.main.body.getD i (.Pass ⟨0, 0, 0, 0⟩)
abbrev s_Put___init__ : Stmt := clsAt (top 2) 1
abbrev s_Put_cells : Stmt := clsAt (top 2) 2
abbrev s_Change___init__ : Stmt := clsAt (top 3) 1
abbrev s_Change_cells : Stmt := clsAt (top 3) 2
abbrev s_Take___init__ : Stmt := clsAt (top 4) 1
abbrev s_Take_cells : Stmt := clsAt (top 4) 2
abbrev s__law_source : Stmt := top 6
abbrev s__law_draw : Stmt := top 7
abbrev s__law_is_integer : Stmt := top 12
abbrev s__law_word : Stmt := top 9
abbrev s__law_number : Stmt := top 11
abbrev s__law_is_row : Stmt := top 13
abbrev s__law_words : Stmt := top 10
abbrev s__law_cells : Stmt := top 15
abbrev s__law_right : Stmt := top 16
abbrev s_law : Stmt := top 17
def t_Message : KTab := [((false, "NoneType"), false), ((false, "bool"), false), ((false, "int"), false), ((false, "str"), false), ((false, "tuple"), false), ((false, "list"), false), ((false, "dict"), false), ((true, "Change"), true), ((true, "Put"), true), ((true, "Take"), true)]
def t_Take : KTab := [((false, "NoneType"), false), ((false, "bool"), false), ((false, "int"), false), ((false, "str"), false), ((false, "tuple"), false), ((false, "list"), false), ((false, "dict"), false), ((true, "Change"), false), ((true, "Put"), false), ((true, "Take"), true)]
def t_Change : KTab := [((false, "NoneType"), false), ((false, "bool"), false), ((false, "int"), false), ((false, "str"), false), ((false, "tuple"), false), ((false, "list"), false), ((false, "dict"), false), ((true, "Change"), true), ((true, "Put"), false), ((true, "Take"), false)]
def t_Put : KTab := [((false, "NoneType"), false), ((false, "bool"), false), ((false, "int"), false), ((false, "str"), false), ((false, "tuple"), false), ((false, "list"), false), ((false, "dict"), false), ((true, "Change"), false), ((true, "Put"), true), ((true, "Take"), false)]
def t_int : KTab := [((false, "NoneType"), false), ((false, "bool"), true), ((false, "int"), true), ((false, "str"), false), ((false, "tuple"), false), ((false, "list"), false), ((false, "dict"), false), ((true, "Change"), false), ((true, "Put"), false), ((true, "Take"), false)]
def t_bool : KTab := [((false, "NoneType"), false), ((false, "bool"), true), ((false, "int"), false), ((false, "str"), false), ((false, "tuple"), false), ((false, "list"), false), ((false, "dict"), false), ((true, "Change"), false), ((true, "Put"), false), ((true, "Take"), false)]
def t_dict : KTab := [((false, "NoneType"), false), ((false, "bool"), false), ((false, "int"), false), ((false, "str"), false), ((false, "tuple"), false), ((false, "list"), false), ((false, "dict"), true), ((true, "Change"), false), ((true, "Put"), false), ((true, "Take"), false)]
/-! ### what each def says -/
def n_Put___init__ : List Str := ["self", "key", "cells"]
def p_Put___init___1 : S := sFldO ["Put"] 0 "borne" (eBt gDict (eCons (eRd 2) (eNil)))
def m_Put___init__ : S := bCons (sFldO ["Put"] 0 "key" (eLoc 1)) <| p_Put___init___1
def M_Put___init__ : M := initM "Put" 3 m_Put___init__
def n_Put_cells : List Str := ["self"]
def p_Put_cells_0 : S := sRet (eNew (eBt gDict (eCons (eAttr ["Put", "Change"] "borne" (eRd 0)) (eNil))))
def m_Put_cells : S := p_Put_cells_0
def M_Put_cells : M := fnM 1 m_Put_cells
def n_Change___init__ : List Str := ["self", "key", "cells"]
def p_Change___init___1 : S := sFldO ["Change"] 0 "borne" (eBt gDict (eCons (eRd 2) (eNil)))
def m_Change___init__ : S := bCons (sFldO ["Change"] 0 "key" (eLoc 1)) <| p_Change___init___1
def M_Change___init__ : M := initM "Change" 3 m_Change___init__
def n_Change_cells : List Str := ["self"]
def p_Change_cells_0 : S := sRet (eNew (eBt gDict (eCons (eAttr ["Put", "Change"] "borne" (eRd 0)) (eNil))))
def m_Change_cells : S := p_Change_cells_0
def M_Change_cells : M := fnM 1 m_Change_cells
def n_Take___init__ : List Str := ["self", "key"]
def m_Take___init__ : S := sFldO ["Take"] 0 "key" (eLoc 1)
def M_Take___init__ : M := initM "Take" 2 m_Take___init__
def n_Take_cells : List Str := ["self"]
def m_Take_cells : S := sRet (eNew (eDic0))
def M_Take_cells : M := fnM 1 m_Take_cells
def n__law_source : List Str := ["script", "at", "cell", "great"]
def p__law_source_0 : S := sSet 2 (eIf (eIs (eCmp .Lt (eRd 1) (eBt gLen (eCons (eRd 0) (eNil))))) (eBt gInt (eCons (eIx (eRd 0) (eRd 1)) (eNil))) (eBin .Mod (eBt gInt (eCons (eBt gSum (eCons (eSl (eRd 0) (eNoPart) (ePart (eC (.int 1)))) (eNil))) (eNil))) (eC (.int 1000003))))
def p__law_source_1 : S := sSet 3 (eIf (eIs (eCmp .GtE (eBt gAbs (eCons (eRd 2) (eNil))) (eBin .Pow (eC (.int 10)) (eC (.int 18))))) (eBt gAbs (eCons (eRd 2) (eNil))) (eC (.int 0)))
def p__law_source_2 : S := sRet (eNew (eLst (eCons (eLoc 3) (eCons (eBin .Add (eBin .Add (eBin .Mod (eBt gInt (eCons (eRd 2) (eNil))) (eC (.int 2305843009213693951))) (eBin .Mult (eC (.int 7919)) (eRd 1))) (eC (.int 13))) (eCons (eC (.int 0)) (eNil))))))
def m__law_source : S := bCons (p__law_source_0) <| bCons (p__law_source_1) <| p__law_source_2
def M__law_source : M := fnM 4 m__law_source
def n__law_draw : List Str := ["source", "many", "mixed", "digit"]
def p__law_draw_0t0 : S := sSet 3 (eBin .Mod (eBt gInt (eCons (eIx (eRd 0) (eC (.int 0))) (eNil))) (eRd 1))
def p__law_draw_0t1 : S := sPut (eBin .FloorDiv (eIx (eRd 0) (eC (.int 0))) (eRd 1)) (eLoc 0) (eC (.int 0))
def p__law_draw_0 : S := sIf (eIs (eCmp .Gt (eIx (eRd 0) (eC (.int 0))) (eC (.int 0)))) (bCons (p__law_draw_0t0) <| bCons (p__law_draw_0t1) <| sRet (eLoc 3)) (bNil)
def p__law_draw_1 : S := sPut (eBin .Add (eIx (eRd 0) (eC (.int 2))) (eC (.int 1))) (eLoc 0) (eC (.int 2))
def p__law_draw_2 : S := sSet 2 (eBin .Mod (eBt gInt (eCons (eBin .Add (eBin .Pow (eBin .Add (eIx (eRd 0) (eC (.int 1))) (eBin .Mult (eC (.int 15485863)) (eIx (eRd 0) (eC (.int 2))))) (eC (.int 2))) (eBin .Mult (eC (.int 31)) (eIx (eRd 0) (eC (.int 1))))) (eNil))) (eC (.int 2305843009213693951)))
def p__law_draw_3 : S := sSet 2 (eBin .Mod (eBt gInt (eCons (eBin .Add (eBin .Pow (eBin .Add (eRd 2) (eBin .Mult (eC (.int 32452867)) (eIx (eRd 0) (eC (.int 2))))) (eC (.int 3))) (eBin .Mult (eC (.int 69621)) (eRd 2))) (eNil))) (eC (.int 2305843009213693921)))
def p__law_draw_4 : S := sRet (eBin .Mod (eBt gInt (eCons (eBin .FloorDiv (eRd 2) (eC (.int 1024))) (eNil))) (eRd 1))
def m__law_draw : S := bCons (p__law_draw_0) <| bCons (p__law_draw_1) <| bCons (p__law_draw_2) <| bCons (p__law_draw_3) <| p__law_draw_4
def M__law_draw : M := fnM 4 m__law_draw
def n__law_is_integer : List Str := ["value"]
def p__law_is_integer_0 : S := sRet (eAnd (eIsi t_int (eRd 0)) (eNot (eIsi t_bool (eRd 0))))
def m__law_is_integer : S := p__law_is_integer_0
def M__law_is_integer : M := fnM 1 m__law_is_integer
def n__law_word : List Str := ["source", "taken", "letters", "word", "letter", "turn"]
def p__law_word_0 : S := sSet 2 (eC (.str "abcdefghijklmnopqrstuvwxyz"))
def p__law_word_1 : S := sSet 3 (eMt "str" gJoin (eC (.str "")) (eCons (eLc (.nm 5) (iRng1 (eCons (eBin .Add (eC (.int 1)) (eCall (argsM 2 0 [0, 1] [] M__law_draw) (eCons (eLoc 0) (eCons (eC (.int 8)) (eNil))))) (eNil))) (eYes) (eIx (eRd 2) (eCall (argsM 2 0 [0, 1] [] M__law_draw) (eCons (eLoc 0) (eCons (eC (.int 26)) (eNil))))) [5]) (eNil)))
def p__law_word_2b0t0 : S := sSet 3 (eBin .Add (eRd 4) (eSl (eRd 3) (ePart (eC (.int 1))) (eNoPart)))
def p__law_word_2b0 : S := sIf (eIs (eCmp .In (eRd 3) (eRd 1))) (p__law_word_2b0t0) (bNil)
def p__law_word_2 : S := sFor (.nm 4) (iStrD (eLoc 2)) (p__law_word_2b0)
def m__law_word : S := bCons (p__law_word_0) <| bCons (p__law_word_1) <| bCons (p__law_word_2) <| sRet (eLoc 3)
def M__law_word : M := fnM 6 m__law_word
def n__law_number : List Str := ["source", "limit"]
def p__law_number_0t0 : S := sRet (eBin .Sub (eCall (argsM 2 0 [0, 1] [] M__law_draw) (eCons (eLoc 0) (eCons (eC (.int 9)) (eNil)))) (eC (.int 4)))
def p__law_number_0 : S := sIf (eIs (eCmp .Gt (eCall (argsM 2 0 [0, 1] [] M__law_draw) (eCons (eLoc 0) (eCons (eC (.int 3)) (eNil)))) (eC (.int 0)))) (p__law_number_0t0) (bNil)
def p__law_number_1 : S := sRet (eBin .Add (eBin .Sub (eCall (argsM 2 0 [0, 1] [] M__law_draw) (eCons (eLoc 0) (eCons (eBin .Sub (eBin .Mult (eC (.int 2)) (eRd 1)) (eC (.int 1))) (eNil)))) (eRd 1)) (eC (.int 1)))
def m__law_number : S := bCons (p__law_number_0) <| p__law_number_1
def M__law_number : M := fnM 2 m__law_number
def n__law_is_row : List Str := ["told", "due", "name"]
def p__law_is_row_0t0 : S := sRet (eAnd (eCmp .Is (eRd 0) (eC .non)) (eCmp .Is (eRd 1) (eC .non)))
def p__law_is_row_0 : S := sIf (eOrT (eIs (eCmp .Is (eRd 1) (eC .non))) (eIs (eCmp .Is (eRd 0) (eC .non)))) (p__law_is_row_0t0) (bNil)
def p__law_is_row_1 : S := sIf (eOrT (eNotT (eTru (eIsi t_dict (eRd 0)))) (eIs (eCmp .NotEq (eBt gSort (eCons (eKeys (eRd 0)) (eNil))) (eBt gSort (eCons (eKeys (eRd 1)) (eNil)))))) (sRet (eC (.bl false))) (bNil)
def p__law_is_row_2b0 : S := sIf (eOrT (eAndT (eIs (eCmp .IsNot (eIx (eRd 0) (eRd 2)) (eC .non))) (eNotT (eTru (eCall (argsM 1 0 [0] [] M__law_is_integer) (eCons (eIx (eRd 0) (eRd 2)) (eNil)))))) (eIs (eCmp .NotEq (eIx (eRd 0) (eRd 2)) (eIx (eRd 1) (eRd 2))))) (sRet (eC (.bl false))) (bNil)
def p__law_is_row_2 : S := sForV 0 (.nm 2) (eLoc 1) (p__law_is_row_2b0)
def m__law_is_row : S := bCons (p__law_is_row_0) <| bCons (p__law_is_row_1) <| bCons (p__law_is_row_2) <| sRet (eC (.bl true))
def M__law_is_row : M := fnM 3 m__law_is_row
def n__law_words : List Str := ["source", "many", "taken", "found", "turn"]
def p__law_words_1b0 : S := sApp 3 (eCall (argsM 2 0 [0, 1] [] M__law_word) (eCons (eLoc 0) (eCons (eBin .Add (eRd 2) (eRd 3)) (eNil))))
def p__law_words_1 : S := sFor (.nm 4) (iRng1 (eCons (eLoc 1) (eNil))) (p__law_words_1b0)
def m__law_words : S := bCons (sOwn 3 (eLst (eNil))) <| bCons (p__law_words_1) <| bFrz 3 (sRet (eLoc 3))
def M__law_words : M := fnM 5 m__law_words
def n__law_cells : List Str := ["source", "names", "found", "name", "kind"]
def p__law_cells_1b0 : S := sSet 4 (eCall (argsM 2 0 [0, 1] [] M__law_draw) (eCons (eLoc 0) (eCons (eC (.int 5)) (eNil))))
def p__law_cells_1b1t0 : S := sPutO 2 (eCall (argsM 2 0 [0, 1] [] M__law_number) (eCons (eLoc 0) (eCons (eBin .Pow (eC (.int 10)) (eC (.int 40))) (eNil)))) (eRd 3)
def p__law_cells_1b1e0 : S := sIf (eIs (eCmp .Eq (eRd 4) (eC (.int 3)))) (sPutO 2 (eC .non) (eRd 3)) (bNil)
def p__law_cells_1b1 : S := sIf (eIs (eCmp .Lt (eRd 4) (eC (.int 3)))) (p__law_cells_1b1t0) (p__law_cells_1b1e0)
def p__law_cells_1 : S := sFor (.nm 3) (iLst (eLoc 1)) (bCons (p__law_cells_1b0) <| p__law_cells_1b1)
def m__law_cells : S := bCons (sOwn 2 (eDic0)) <| bCons (p__law_cells_1) <| bFrz 2 (sRet (eLoc 2))
def M__law_cells : M := fnM 5 m__law_cells
def n__law_right : List Str := ["message", "deed", "key", "cells", "due", "kinds"]
def p__law_right_0 : S := sSet 4 (eIf (eIs (eCmp .Eq (eRd 1) (eC (.str "take")))) (eDic0) (eLoc 3))
def p__law_right_1 : S := sIf (eOrT (eNotT (eTru (eIsi t_Message (eRd 0)))) (eIs (eCmp .NotEq (eCon "deed" [("Put", (.str "put")), ("Change", (.str "change")), ("Take", (.str "take"))] (eRd 0)) (eRd 1)))) (sRet (eC (.bl false))) (bNil)
def p__law_right_2 : S := sIf (eOrT (eNotT (eTru (eCall (argsM 1 0 [0] [] M__law_is_integer) (eCons (eAttr ["Put", "Change", "Take"] "key" (eRd 0)) (eNil))))) (eOrT (eIs (eCmp .NotEq (eAttr ["Put", "Change", "Take"] "key" (eRd 0)) (eRd 2))) (eNotT (eTru (eCall (argsM 2 0 [0, 1] [] M__law_is_row) (eCons (eProp [("Put", M_Put_cells), ("Change", M_Change_cells), ("Take", M_Take_cells)] (eLoc 0)) (eCons (eLoc 4) (eNil)))))))) (sRet (eC (.bl false))) (bNil)
def p__law_right_3 : S := sSet 5 (eLst (eCons (eIsi t_Put (eRd 0)) (eCons (eIsi t_Change (eRd 0)) (eCons (eIsi t_Take (eRd 0)) (eNil)))))
def p__law_right_4 : S := sRet (eCmp .Eq (eRd 5) (eLst (eCons (eCmp .Eq (eRd 1) (eC (.str "put"))) (eCons (eCmp .Eq (eRd 1) (eC (.str "change"))) (eCons (eCmp .Eq (eRd 1) (eC (.str "take"))) (eNil))))))
def m__law_right : S := bCons (p__law_right_0) <| bCons (p__law_right_1) <| bCons (p__law_right_2) <| bCons (p__law_right_3) <| p__law_right_4
def M__law_right : M := fnM 6 m__law_right
def n_law : List Str := ["script", "made", "at", "turn", "source", "names", "key", "cells", "first", "second", "message", "deed", "told", "kept"]
def p_law_1b0 : S := sSet 4 (eCall (argsM 2 0 [0, 1] [] M__law_source) (eCons (eLoc 0) (eCons (eLoc 2) (eNil))))
def p_law_1b1 : S := sSet 5 (eCall (argsM 3 0 [0, 1, 2] [] M__law_words) (eCons (eLoc 4) (eCons (eCall (argsM 2 0 [0, 1] [] M__law_draw) (eCons (eLoc 4) (eCons (eC (.int 4)) (eNil)))) (eCons (eLst (eCons (eC (.str "key")) (eNil))) (eNil)))))
def p_law_1b2 : S := sPar2 6 7 (eCons (eCall (argsM 2 0 [0, 1] [] M__law_number) (eCons (eLoc 4) (eCons (eBin .Pow (eC (.int 10)) (eC (.int 40))) (eNil)))) (eCons (eCall (argsM 2 0 [0, 1] [] M__law_cells) (eCons (eLoc 4) (eCons (eLoc 5) (eNil)))) (eNil)))
def p_law_1b3 : S := sParO [8, 9] [false, false] (eCons (eNew (eBt gDict (eCons (eRd 7) (eNil)))) (eCons (eNew (eBt gDict (eCons (eRd 7) (eNil)))) (eNil)))
def p_law_1b4t0 : S := sApp 1 (eTup (eCons (eCall (argsM 2 0 [0, 1] [] M_Put___init__) (eCons (eLoc 6) (eCons (eLoc 8) (eNil)))) (eCons (eC (.str "put")) (eCons (eLoc 6) (eCons (eLoc 7) (eNil))))))
def p_law_1b4t1 : S := sApp 1 (eTup (eCons (eCall (argsM 2 0 [0, 1] [] M_Change___init__) (eCons (eLoc 6) (eCons (eLoc 9) (eNil)))) (eCons (eC (.str "change")) (eCons (eLoc 6) (eCons (eLoc 7) (eNil))))))
def p_law_1b4t2 : S := sApp 1 (eTup (eCons (eCall (argsM 1 0 [0] [] M_Take___init__) (eCons (eLoc 6) (eNil))) (eCons (eC (.str "take")) (eCons (eLoc 6) (eCons (eLoc 7) (eNil))))))
def p_law_1b4e0 : S := sApp 1 (eTup (eCons (eCallK 2 (argsM 0 2 [1, 0] [] M_Put___init__) eNil (eCons (eLoc 8) (eCons (eLoc 6) (eNil)))) (eCons (eC (.str "put")) (eCons (eLoc 6) (eCons (eLoc 7) (eNil))))))
def p_law_1b4e1 : S := sApp 1 (eTup (eCons (eCallK 2 (argsM 0 2 [1, 0] [] M_Change___init__) eNil (eCons (eLoc 9) (eCons (eLoc 6) (eNil)))) (eCons (eC (.str "change")) (eCons (eLoc 6) (eCons (eLoc 7) (eNil))))))
def p_law_1b4e2 : S := sApp 1 (eTup (eCons (eCallK 1 (argsM 0 1 [0] [] M_Take___init__) eNil (eCons (eLoc 6) (eNil))) (eCons (eC (.str "take")) (eCons (eLoc 6) (eCons (eLoc 7) (eNil))))))
def p_law_1b4 : S := sIf (eIs (eCmp .Eq (eCall (argsM 2 0 [0, 1] [] M__law_draw) (eCons (eLoc 4) (eCons (eC (.int 2)) (eNil)))) (eC (.int 0)))) (bCons (p_law_1b4t0) <| bCons (p_law_1b4t1) <| p_law_1b4t2) (bCons (p_law_1b4e0) <| bCons (p_law_1b4e1) <| p_law_1b4e2)
def p_law_1b5 : S := sIf (eOrT (eIs (eNe2 (eRd 8) (eRd 7))) (eIs (eNe2 (eRd 9) (eRd 7)))) (sRet (eC (.bl false))) (bNil)
def p_law_1b6 : S := sPut (eC (.int 5)) (eLoc 8) (eC (.str "x"))
def p_law_1 : S := sFor (.nm 2) (iRng1 (eCons (eC (.int 2)) (eNil))) (bCons (p_law_1b0) <| bCons (p_law_1b1) <| bCons (p_law_1b2) <| bCons (p_law_1b3) <| bCons (p_law_1b4) <| bCons (p_law_1b5) <| bCons (p_law_1b6) <| sClr (eLoc 9))
def p_law_2b0 : S := bFrz 1 (sIf (eNotT (eTru (eBt gAll (eCons (eLc (.tup [.nm 10, .nm 11, .nm 6, .nm 7]) (iLst (eLoc 1)) (eYes) (eCall (argsM 4 0 [0, 1, 2, 3] [] M__law_right) (eCons (eLoc 10) (eCons (eLoc 11) (eCons (eLoc 6) (eCons (eLoc 7) (eNil)))))) [10, 11, 6, 7]) (eNil))))) (sRet (eC (.bl false))) (bNil))
def p_law_2b1b0 : S := sSet 12 (eProp [("Put", M_Put_cells), ("Change", M_Change_cells), ("Take", M_Take_cells)] (eLoc 10))
def p_law_2b1b1 : S := sSet 13 (eBt gDict (eCons (eRd 12) (eNil)))
def p_law_2b1b3 : S := sPut (eC (.int 7)) (eLoc 12) (eC (.str "y"))
def p_law_2b1b4 : S := sIf (eIs (eNe2 (eProp [("Put", M_Put_cells), ("Change", M_Change_cells), ("Take", M_Take_cells)] (eLoc 10)) (eRd 13))) (sRet (eC (.bl false))) (bNil)
def p_law_2b1 : S := bFrz 1 (sFor (.tup [.nm 10, .nm 11, .nm 6, .nm 7]) (iLst (eLoc 1)) (bCons (p_law_2b1b0) <| bCons (p_law_2b1b1) <| bCons (sClr (eLoc 12)) <| bCons (p_law_2b1b3) <| p_law_2b1b4))
def p_law_2 : S := sFor (.nm 3) (iRng1 (eCons (eC (.int 2)) (eNil))) (bCons (p_law_2b0) <| p_law_2b1)
def p_law_3 : S := sRet (eCmp .Eq (eTup (eCons (eC (.str "put")) (eCons (eC (.str "change")) (eCons (eC (.str "take")) (eNil))))) (eTup (eCons (eC (.str "put")) (eCons (eC (.str "change")) (eCons (eC (.str "take")) (eNil))))))
def m_law : S := bCons (sOwn 1 (eLst (eNil))) <| bCons (p_law_1) <| bCons (p_law_2) <| p_law_3
def M_law : M := fnM 14 m_law
def dd_Put___init__ : He.DefD := ⟨("Put", some "__init__"), "__init__", "Put.__init__", defArgs s_Put___init__, defBody s_Put___init__, defScope s_Put___init__, [], []⟩
def dd_Put_cells : He.DefD := ⟨("Put", some "cells"), "cells", "Put.cells", defArgs s_Put_cells, defBody s_Put_cells, defScope s_Put_cells, [], []⟩
def dc_Put_cells : Deco := ⟨"property", dd_Put_cells⟩
def dd_Change___init__ : He.DefD := ⟨("Change", some "__init__"), "__init__", "Change.__init__", defArgs s_Change___init__, defBody s_Change___init__, defScope s_Change___init__, [], []⟩
def dd_Change_cells : He.DefD := ⟨("Change", some "cells"), "cells", "Change.cells", defArgs s_Change_cells, defBody s_Change_cells, defScope s_Change_cells, [], []⟩
def dc_Change_cells : Deco := ⟨"property", dd_Change_cells⟩
def dd_Take___init__ : He.DefD := ⟨("Take", some "__init__"), "__init__", "Take.__init__", defArgs s_Take___init__, defBody s_Take___init__, defScope s_Take___init__, [], []⟩
def dd_Take_cells : He.DefD := ⟨("Take", some "cells"), "cells", "Take.cells", defArgs s_Take_cells, defBody s_Take_cells, defScope s_Take_cells, [], []⟩
def dc_Take_cells : Deco := ⟨"property", dd_Take_cells⟩
def dd__law_source : He.DefD := ⟨("_law_source", none), "_law_source", "_law_source", defArgs s__law_source, defBody s__law_source, defScope s__law_source, [], []⟩
def dd__law_draw : He.DefD := ⟨("_law_draw", none), "_law_draw", "_law_draw", defArgs s__law_draw, defBody s__law_draw, defScope s__law_draw, [], []⟩
def dd__law_is_integer : He.DefD := ⟨("_law_is_integer", none), "_law_is_integer", "_law_is_integer", defArgs s__law_is_integer, defBody s__law_is_integer, defScope s__law_is_integer, [], []⟩
def dd__law_word : He.DefD := ⟨("_law_word", none), "_law_word", "_law_word", defArgs s__law_word, defBody s__law_word, defScope s__law_word, [], []⟩
def dd__law_number : He.DefD := ⟨("_law_number", none), "_law_number", "_law_number", defArgs s__law_number, defBody s__law_number, defScope s__law_number, [], []⟩
def dd__law_is_row : He.DefD := ⟨("_law_is_row", none), "_law_is_row", "_law_is_row", defArgs s__law_is_row, defBody s__law_is_row, defScope s__law_is_row, [], []⟩
def dd__law_words : He.DefD := ⟨("_law_words", none), "_law_words", "_law_words", defArgs s__law_words, defBody s__law_words, defScope s__law_words, [], []⟩
def dd__law_cells : He.DefD := ⟨("_law_cells", none), "_law_cells", "_law_cells", defArgs s__law_cells, defBody s__law_cells, defScope s__law_cells, [], []⟩
def dd__law_right : He.DefD := ⟨("_law_right", none), "_law_right", "_law_right", defArgs s__law_right, defBody s__law_right, defScope s__law_right, [], []⟩
def dd_law : He.DefD := ⟨("law", none), "law", "law", defArgs s_law, defBody s_law, defScope s_law, [], []⟩
/-! ### facts of the written part -/
structure Fs (K : PySem.W.Frag) (mg : Str → Option Value) : Prop where
  f_Put___init__ : ∃ fd, FuD K dd_Put___init__ fd
  f_Put_cells : ∃ fd, FuA K dc_Put_cells fd
  f_Change___init__ : ∃ fd, FuD K dd_Change___init__ fd
  f_Change_cells : ∃ fd, FuA K dc_Change_cells fd
  f_Take___init__ : ∃ fd, FuD K dd_Take___init__ fd
  f_Take_cells : ∃ fd, FuA K dc_Take_cells fd
  f__law_source : ∃ fd, FuD K dd__law_source fd
  f__law_draw : ∃ fd, FuD K dd__law_draw fd
  f__law_is_integer : ∃ fd, FuD K dd__law_is_integer fd
  f__law_word : ∃ fd, FuD K dd__law_word fd
  f__law_number : ∃ fd, FuD K dd__law_number fd
  f__law_is_row : ∃ fd, FuD K dd__law_is_row fd
  f__law_words : ∃ fd, FuD K dd__law_words fd
  f__law_cells : ∃ fd, FuD K dd__law_cells fd
  f__law_right : ∃ fd, FuD K dd__law_right fd
  f_law : ∃ fd, FuD K dd_law fd
  n_range : mg "range" = none
  g__law_source : mg "_law_source" = some (.ref (He.ga K "_law_source"))
  g__law_words : mg "_law_words" = some (.ref (He.ga K "_law_words"))
  g__law_draw : mg "_law_draw" = some (.ref (He.ga K "_law_draw"))
  g__law_cells : mg "_law_cells" = some (.ref (He.ga K "_law_cells"))
  g__law_number : mg "_law_number" = some (.ref (He.ga K "_law_number"))
  n_dict : mg "dict" = none
  g_Put : mg "Put" = some (.ref (He.ga K "Put"))
  mk_Put : Mk K (He.ga K "Put") (He.ma K (He.ga K "Put") "__init__")
  g_Change : mg "Change" = some (.ref (He.ga K "Change"))
  mk_Change : Mk K (He.ga K "Change") (He.ma K (He.ga K "Change") "__init__")
  g_Take : mg "Take" = some (.ref (He.ga K "Take"))
  mk_Take : Mk K (He.ga K "Take") (He.ma K (He.ga K "Take") "__init__")
  n_all : mg "all" = none
  g__law_right : mg "_law_right" = some (.ref (He.ga K "_law_right"))
  pr_Take_cells : Cls K (He.ga K "Take") ∧ PropOf K (He.ga K "Take") "cells" (dc_Take_cells.own K) (dc_Take_cells.ad K)
  pr_Change_cells : Cls K (He.ga K "Change") ∧ PropOf K (He.ga K "Change") "cells" (dc_Change_cells.own K) (dc_Change_cells.ad K)
  pr_Put_cells : Cls K (He.ga K "Put") ∧ PropOf K (He.ga K "Put") "cells" (dc_Put_cells.own K) (dc_Put_cells.ad K)
  vc_Take : Gv K mg "Take" (.glob "Take")
  cv_Take_deed : CvF K "Take" "deed" (.str "take")
  vc_Change : Gv K mg "Change" (.glob "Change")
  cv_Change_deed : CvF K "Change" "deed" (.str "change")
  vc_Put : Gv K mg "Put" (.glob "Put")
  cv_Put_deed : CvF K "Put" "deed" (.str "put")
  n_len : mg "len" = none
  n_int : mg "int" = none
  n_sum : mg "sum" = none
  n_abs : mg "abs" = none
  g__law_word : mg "_law_word" = some (.ref (He.ga K "_law_word"))
  fs_Put_key : ClsF K ["Put"] "key"
  fs_Put_borne : ClsF K ["Put"] "borne"
  fs_Change_key : ClsF K ["Change"] "key"
  fs_Change_borne : ClsF K ["Change"] "borne"
  fs_Take_key : ClsF K ["Take"] "key"
  n_isinstance : mg "isinstance" = none
  is_Message : IsiF K (.ref (He.ga K "Message")) t_Message
  g_Message : mg "Message" = some (.ref (He.ga K "Message"))
  con_deed : ConT K "deed" [("Put", (.str "put")), ("Change", (.str "change")), ("Take", (.str "take"))]
  g__law_is_integer : mg "_law_is_integer" = some (.ref (He.ga K "_law_is_integer"))
  fd_key : ClsF K ["Put", "Change", "Take"] "key"
  g__law_is_row : mg "_law_is_row" = some (.ref (He.ga K "_law_is_row"))
  is_Take : IsiF K (.ref (He.ga K "Take")) t_Take
  is_Change : IsiF K (.ref (He.ga K "Change")) t_Change
  is_Put : IsiF K (.ref (He.ga K "Put")) t_Put
  fd_borne : ClsF K ["Put", "Change"] "borne"
  is_int : IsiF K (.type "int") t_int
  is_bool : IsiF K (.type "bool") t_bool
  n_bool : mg "bool" = none
  is_dict : IsiF K (.type "dict") t_dict
  n_sorted : mg "sorted" = none
  n_list : mg "list" = none
  g_law : mg "law" = some (.ref (He.ga K "law"))
section
variable {P : Program} {w : World} {K : PySem.W.Frag} {mg : Str → Option Value} {base : Heap}
theorem nd_Put___init__ : n_Put___init__.Nodup := by decide +kernel
theorem d_Put___init__ (Z : Fs K mg) {f : Addr} {cdv : Value} {A : Around} {outer : List Env} {s : Shared} {H : Hp} {E : XK} (hr : Room 0 (A.deeper (envOfC "Put.__init__" (defScope s_Put___init__) s.heap.objs.size f cdv))) : SB (cxOf (L2.CX P w) P w K mg base n_Put___init__ "Put.__init__" (defScope s_Put___init__) f cdv A outer s H E) (fun c d _ H => E c d H) (defBody s_Put___init__) m_Put___init__ := by
  have z := Fr.of (P := P) (w := w) (K := K) (mg := mg) (base := base) (N := n_Put___init__) (outer := outer) (H := H) (E := E) hr
  have hN := nd_Put___init__
  exact sb_cons (ss_fldO (i := 0) Z.fs_Put_key (se_loc 1)) <| sb_one (ss_fldO (i := 0) Z.fs_Put_borne (se_bty (gDict_ok z.hc) (by rfl) Z.n_dict (sar_cons (sr_rd 2) (sar_nil))))
theorem ok_Put___init__ (Z : Fs K mg) : IOk P w K mg base "Put" dd_Put___init__ 1 ["key", "cells"] M_Put___init__ := by
  obtain ⟨fd, F⟩ := Z.f_Put___init__
  exact ⟨fd, F, init_ok (N := n_Put___init__) (ps := ["key", "cells"]) "Put" F ⟨rfl, rfl, rfl, nd_Put___init__, rfl, by decide +kernel, by decide +kernel⟩ (by decide) fun cdv A outer s H E hr => d_Put___init__ Z hr⟩
theorem nd_Put_cells : n_Put_cells.Nodup := by decide +kernel
theorem d_Put_cells (Z : Fs K mg) {f : Addr} {cdv : Value} {A : Around} {outer : List Env} {s : Shared} {H : Hp} {E : XK} (hr : Room 0 (A.deeper (envOfC "Put.cells" (defScope s_Put_cells) s.heap.objs.size f cdv))) : SB (cxOf (L2.CX P w) P w K mg base n_Put_cells "Put.cells" (defScope s_Put_cells) f cdv A outer s H E) (fun c d _ H => E c d H) (defBody s_Put_cells) m_Put_cells := by
  have z := Fr.of (P := P) (w := w) (K := K) (mg := mg) (base := base) (N := n_Put_cells) (outer := outer) (H := H) (E := E) hr
  have hN := nd_Put_cells
  exact sb_one (ss_ret ((sn_bty (gDictN_ok z.hc) (by rfl) Z.n_dict (sar_cons ((se_attr Z.fd_borne (sr_rd 0)).r) (sar_nil))).ref))
theorem ok_Put_cells (Z : Fs K mg) : POk P w K mg base dc_Put_cells 1 ["self"] M_Put_cells := by
  obtain ⟨fd, F⟩ := Z.f_Put_cells
  exact ⟨fd, F, fn_ok (N := n_Put_cells) F ⟨rfl, rfl, rfl, nd_Put_cells, rfl, by decide +kernel, by decide +kernel⟩ fun cdv A outer s H E hr => d_Put_cells Z hr⟩
theorem nd_Change___init__ : n_Change___init__.Nodup := by decide +kernel
theorem d_Change___init__ (Z : Fs K mg) {f : Addr} {cdv : Value} {A : Around} {outer : List Env} {s : Shared} {H : Hp} {E : XK} (hr : Room 0 (A.deeper (envOfC "Change.__init__" (defScope s_Change___init__) s.heap.objs.size f cdv))) : SB (cxOf (L2.CX P w) P w K mg base n_Change___init__ "Change.__init__" (defScope s_Change___init__) f cdv A outer s H E) (fun c d _ H => E c d H) (defBody s_Change___init__) m_Change___init__ := by
  have z := Fr.of (P := P) (w := w) (K := K) (mg := mg) (base := base) (N := n_Change___init__) (outer := outer) (H := H) (E := E) hr
  have hN := nd_Change___init__
  exact sb_cons (ss_fldO (i := 0) Z.fs_Change_key (se_loc 1)) <| sb_one (ss_fldO (i := 0) Z.fs_Change_borne (se_bty (gDict_ok z.hc) (by rfl) Z.n_dict (sar_cons (sr_rd 2) (sar_nil))))
theorem ok_Change___init__ (Z : Fs K mg) : IOk P w K mg base "Change" dd_Change___init__ 1 ["key", "cells"] M_Change___init__ := by
  obtain ⟨fd, F⟩ := Z.f_Change___init__
  exact ⟨fd, F, init_ok (N := n_Change___init__) (ps := ["key", "cells"]) "Change" F ⟨rfl, rfl, rfl, nd_Change___init__, rfl, by decide +kernel, by decide +kernel⟩ (by decide) fun cdv A outer s H E hr => d_Change___init__ Z hr⟩
theorem nd_Change_cells : n_Change_cells.Nodup := by decide +kernel
theorem d_Change_cells (Z : Fs K mg) {f : Addr} {cdv : Value} {A : Around} {outer : List Env} {s : Shared} {H : Hp} {E : XK} (hr : Room 0 (A.deeper (envOfC "Change.cells" (defScope s_Change_cells) s.heap.objs.size f cdv))) : SB (cxOf (L2.CX P w) P w K mg base n_Change_cells "Change.cells" (defScope s_Change_cells) f cdv A outer s H E) (fun c d _ H => E c d H) (defBody s_Change_cells) m_Change_cells := by
  have z := Fr.of (P := P) (w := w) (K := K) (mg := mg) (base := base) (N := n_Change_cells) (outer := outer) (H := H) (E := E) hr
  have hN := nd_Change_cells
  exact sb_one (ss_ret ((sn_bty (gDictN_ok z.hc) (by rfl) Z.n_dict (sar_cons ((se_attr Z.fd_borne (sr_rd 0)).r) (sar_nil))).ref))
theorem ok_Change_cells (Z : Fs K mg) : POk P w K mg base dc_Change_cells 1 ["self"] M_Change_cells := by
  obtain ⟨fd, F⟩ := Z.f_Change_cells
  exact ⟨fd, F, fn_ok (N := n_Change_cells) F ⟨rfl, rfl, rfl, nd_Change_cells, rfl, by decide +kernel, by decide +kernel⟩ fun cdv A outer s H E hr => d_Change_cells Z hr⟩
theorem nd_Take___init__ : n_Take___init__.Nodup := by decide +kernel
theorem d_Take___init__ (Z : Fs K mg) {f : Addr} {cdv : Value} {A : Around} {outer : List Env} {s : Shared} {H : Hp} {E : XK} (hr : Room 0 (A.deeper (envOfC "Take.__init__" (defScope s_Take___init__) s.heap.objs.size f cdv))) : SB (cxOf (L2.CX P w) P w K mg base n_Take___init__ "Take.__init__" (defScope s_Take___init__) f cdv A outer s H E) (fun c d _ H => E c d H) (defBody s_Take___init__) m_Take___init__ := by
  have z := Fr.of (P := P) (w := w) (K := K) (mg := mg) (base := base) (N := n_Take___init__) (outer := outer) (H := H) (E := E) hr
  have hN := nd_Take___init__
  exact sb_one (ss_fldO (i := 0) Z.fs_Take_key (se_loc 1))
theorem ok_Take___init__ (Z : Fs K mg) : IOk P w K mg base "Take" dd_Take___init__ 1 ["key"] M_Take___init__ := by
  obtain ⟨fd, F⟩ := Z.f_Take___init__
  exact ⟨fd, F, init_ok (N := n_Take___init__) (ps := ["key"]) "Take" F ⟨rfl, rfl, rfl, nd_Take___init__, rfl, by decide +kernel, by decide +kernel⟩ (by decide) fun cdv A outer s H E hr => d_Take___init__ Z hr⟩
theorem nd_Take_cells : n_Take_cells.Nodup := by decide +kernel
theorem d_Take_cells (Z : Fs K mg) {f : Addr} {cdv : Value} {A : Around} {outer : List Env} {s : Shared} {H : Hp} {E : XK} (hr : Room 0 (A.deeper (envOfC "Take.cells" (defScope s_Take_cells) s.heap.objs.size f cdv))) : SB (cxOf (L2.CX P w) P w K mg base n_Take_cells "Take.cells" (defScope s_Take_cells) f cdv A outer s H E) (fun c d _ H => E c d H) (defBody s_Take_cells) m_Take_cells := by
  have z := Fr.of (P := P) (w := w) (K := K) (mg := mg) (base := base) (N := n_Take_cells) (outer := outer) (H := H) (E := E) hr
  have hN := nd_Take_cells
  exact sb_one (ss_ret ((sn_dic0).ref))
theorem ok_Take_cells (Z : Fs K mg) : POk P w K mg base dc_Take_cells 1 ["self"] M_Take_cells := by
  obtain ⟨fd, F⟩ := Z.f_Take_cells
  exact ⟨fd, F, fn_ok (N := n_Take_cells) F ⟨rfl, rfl, rfl, nd_Take_cells, rfl, by decide +kernel, by decide +kernel⟩ fun cdv A outer s H E hr => d_Take_cells Z hr⟩
theorem nd__law_source : n__law_source.Nodup := by decide +kernel
theorem d__law_source (Z : Fs K mg) {f : Addr} {cdv : Value} {A : Around} {outer : List Env} {s : Shared} {H : Hp} {E : XK} (hr : Room 0 (A.deeper (envOfC "_law_source" (defScope s__law_source) s.heap.objs.size f cdv))) : SB (cxOf (L2.CX P w) P w K mg base n__law_source "_law_source" (defScope s__law_source) f cdv A outer s H E) (fun c d _ H => E c d H) (defBody s__law_source) m__law_source := by
  have z := Fr.of (P := P) (w := w) (K := K) (mg := mg) (base := base) (N := n__law_source) (outer := outer) (H := H) (E := E) hr
  have hN := nd__law_source
  exact sb_cons (ss_set hN (se_if (st_cmp z.hu (sr_rd 1) ((se_bt gLen_ok (by rfl) Z.n_len (sar_cons (sr_rd 0) (sar_nil))).r)) (se_bty gInt_ok (by rfl) Z.n_int (sar_cons ((se_ix z.hu (sr_rd 0) (sr_rd 1)).r) (sar_nil))) (se_bin ((se_bty gInt_ok (by rfl) Z.n_int (sar_cons ((se_bt (gSum_ok z.hc) (by rfl) Z.n_sum (sar_cons ((se_sl (sr_rd 0) (so_none) (so_some (se_int))).r) (sar_nil))).r) (sar_nil))).r) ((se_int).r)))) <| sb_cons (ss_set hN (se_if (st_cmp z.hu ((se_bt gAbs_ok (by rfl) Z.n_abs (sar_cons (sr_rd 2) (sar_nil))).r) ((se_bin ((se_int).r) ((se_int).r)).r)) (se_bt gAbs_ok (by rfl) Z.n_abs (sar_cons (sr_rd 2) (sar_nil))) (se_int))) <| sb_one (ss_ret ((sn_lst (sa_cons (se_loc 3) (sa_cons (se_bin ((se_bin ((se_bin ((se_bty gInt_ok (by rfl) Z.n_int (sar_cons (sr_rd 2) (sar_nil))).r) ((se_int).r)).r) ((se_bin ((se_int).r) (sr_rd 1)).r)).r) ((se_int).r)) (sa_cons (se_int) (sa_nil))))).ref))
theorem ok__law_source (Z : Fs K mg) : MOk P w K mg base dd__law_source 1 ["script", "at"] M__law_source := by
  obtain ⟨fd, F⟩ := Z.f__law_source
  exact ⟨fd, F, fn_ok (N := n__law_source) F ⟨rfl, rfl, rfl, nd__law_source, rfl, by decide +kernel, by decide +kernel⟩ fun cdv A outer s H E hr => d__law_source Z hr⟩
theorem nd__law_draw : n__law_draw.Nodup := by decide +kernel
theorem d__law_draw (Z : Fs K mg) {f : Addr} {cdv : Value} {A : Around} {outer : List Env} {s : Shared} {H : Hp} {E : XK} (hr : Room 0 (A.deeper (envOfC "_law_draw" (defScope s__law_draw) s.heap.objs.size f cdv))) : SB (cxOf (L2.CX P w) P w K mg base n__law_draw "_law_draw" (defScope s__law_draw) f cdv A outer s H E) (fun c d _ H => E c d H) (defBody s__law_draw) m__law_draw := by
  have z := Fr.of (P := P) (w := w) (K := K) (mg := mg) (base := base) (N := n__law_draw) (outer := outer) (H := H) (E := E) hr
  have hN := nd__law_draw
  exact sb_cons (ss_if (st_cmp z.hu ((se_ix z.hu (sr_rd 0) ((se_int).r)).r) ((se_int).r)) (sb_cons (ss_set hN (se_bin ((se_bty gInt_ok (by rfl) Z.n_int (sar_cons ((se_ix z.hu (sr_rd 0) ((se_int).r)).r) (sar_nil))).r) (sr_rd 1))) <| sb_cons (ss_put z.hu (se_bin ((se_ix z.hu (sr_rd 0) ((se_int).r)).r) (sr_rd 1)) (se_loc 0) ((se_int).r)) <| sb_one (ss_ret (se_loc 3))) (sb_nil)) <| sb_cons (ss_put z.hu (se_bin ((se_ix z.hu (sr_rd 0) ((se_int).r)).r) ((se_int).r)) (se_loc 0) ((se_int).r)) <| sb_cons (ss_set hN (se_bin ((se_bty gInt_ok (by rfl) Z.n_int (sar_cons ((se_bin ((se_bin ((se_bin ((se_ix z.hu (sr_rd 0) ((se_int).r)).r) ((se_bin ((se_int).r) ((se_ix z.hu (sr_rd 0) ((se_int).r)).r)).r)).r) ((se_int).r)).r) ((se_bin ((se_int).r) ((se_ix z.hu (sr_rd 0) ((se_int).r)).r)).r)).r) (sar_nil))).r) ((se_int).r))) <| sb_cons (ss_set hN (se_bin ((se_bty gInt_ok (by rfl) Z.n_int (sar_cons ((se_bin ((se_bin ((se_bin (sr_rd 2) ((se_bin ((se_int).r) ((se_ix z.hu (sr_rd 0) ((se_int).r)).r)).r)).r) ((se_int).r)).r) ((se_bin ((se_int).r) (sr_rd 2)).r)).r) (sar_nil))).r) ((se_int).r))) <| sb_one (ss_ret (se_bin ((se_bty gInt_ok (by rfl) Z.n_int (sar_cons ((se_bin (sr_rd 2) ((se_int).r)).r) (sar_nil))).r) (sr_rd 1)))
theorem ok__law_draw (Z : Fs K mg) : MOk P w K mg base dd__law_draw 1 ["source", "many"] M__law_draw := by
  obtain ⟨fd, F⟩ := Z.f__law_draw
  exact ⟨fd, F, fn_ok (N := n__law_draw) F ⟨rfl, rfl, rfl, nd__law_draw, rfl, by decide +kernel, by decide +kernel⟩ fun cdv A outer s H E hr => d__law_draw Z hr⟩
theorem nd__law_is_integer : n__law_is_integer.Nodup := by decide +kernel
theorem d__law_is_integer (Z : Fs K mg) {f : Addr} {cdv : Value} {A : Around} {outer : List Env} {s : Shared} {H : Hp} {E : XK} (hr : Room 0 (A.deeper (envOfC "_law_is_integer" (defScope s__law_is_integer) s.heap.objs.size f cdv))) : SB (cxOf (L2.CX P w) P w K mg base n__law_is_integer "_law_is_integer" (defScope s__law_is_integer) f cdv A outer s H E) (fun c d _ H => E c d H) (defBody s__law_is_integer) m__law_is_integer := by
  have z := Fr.of (P := P) (w := w) (K := K) (mg := mg) (base := base) (N := n__law_is_integer) (outer := outer) (H := H) (E := E) hr
  have hN := nd__law_is_integer
  exact sb_one (ss_ret (se_and (se_isiT (T := "int") Z.is_int (by rfl) Z.n_isinstance (by rfl) Z.n_int (sr_rd 0)) (se_one (se_not (se_isiT (T := "bool") Z.is_bool (by rfl) Z.n_isinstance (by rfl) Z.n_bool (sr_rd 0))))))
theorem ok__law_is_integer (Z : Fs K mg) : MOk P w K mg base dd__law_is_integer 1 ["value"] M__law_is_integer := by
  obtain ⟨fd, F⟩ := Z.f__law_is_integer
  exact ⟨fd, F, fn_ok (N := n__law_is_integer) F ⟨rfl, rfl, rfl, nd__law_is_integer, rfl, by decide +kernel, by decide +kernel⟩ fun cdv A outer s H E hr => d__law_is_integer Z hr⟩
theorem nd__law_word : n__law_word.Nodup := by decide +kernel
theorem d__law_word (Z : Fs K mg) {f : Addr} {cdv : Value} {A : Around} {outer : List Env} {s : Shared} {H : Hp} {E : XK} (hr : Room 1 (A.deeper (envOfC "_law_word" (defScope s__law_word) s.heap.objs.size f cdv))) : SB (cxOf (L2.CX P w) P w K mg base n__law_word "_law_word" (defScope s__law_word) f cdv A outer s H E) (fun c d _ H => E c d H) (defBody s__law_word) m__law_word := by
  have z := Fr.of (P := P) (w := w) (K := K) (mg := mg) (base := base) (N := n__law_word) (outer := outer) (H := H) (E := E) hr
  have hN := nd__law_word
  exact sb_cons (ss_set hN (se_str)) <| sb_cons (ss_set hN (se_mt PySem.F.plainAttrs_str PySem.F.slot_str_join PySem.F.type_str_join gJoin_ok ((se_str).r) (sar_cons ((se_lc z.hc hN (si_rng1 (by rfl) Z.n_range (sa_cons (se_bin ((se_int).r) ((se_call ((ok__law_draw (P := P) (w := w) (base := base) Z).callsX 1 (by decide) 2 [] [0, 1] [] (fun fd F => kb_all F 2 [] [0, 1] fun _ _ _ _ _ _ us ws hl hw => match us, ws, hl, hw with | [_, _], [], _, _ => rfl) rfl (by exact z.tk) (by exact hr) (by rfl) (by rfl) (by rfl) (by rfl) (by rfl)) (by rfl) (Z.g__law_draw) (ok__law_draw (P := P) (w := w) (base := base) Z).keep (sa_cons (se_loc 0) (sa_cons (se_int) (sa_nil)))).r)) (sa_nil))) (blkOk_by (own := [("turn", 5)]) (by change blkC n__law_word (defScope s__law_word) _ _ = true; decide +kernel)) (fun _ _ _ _ _ => sg_nm 5 hN) (fun _ _ _ _ _ => spt_nil) (fun _ _ _ _ _ => se_ix (by exact z.hu) (sr_rd 2) ((se_call ((ok__law_draw (P := P) (w := w) (base := base) Z).callsX 1 (by decide) 2 [] [0, 1] [] (fun fd F => kb_all F 2 [] [0, 1] fun _ _ _ _ _ _ us ws hl hw => match us, ws, hl, hw with | [_, _], [], _, _ => rfl) rfl (by exact takes_w0) (by exact hr) (by rfl) (by rfl) (by rfl) (by rfl) (by rfl)) (by rfl) (Z.g__law_draw) (ok__law_draw (P := P) (w := w) (base := base) Z).keep (sa_cons (se_loc 0) (sa_cons (se_int) (sa_nil)))).r)) (by decide)).r) (sar_nil)))) <| sb_cons (ss_for z.hp z.hc (si_str (se_loc 2)) (sg_nm 4 hN) (sb_one (ss_if (st_cmp z.hu (sr_rd 3) (sr_rd 1)) (sb_one (ss_set hN (se_bin (sr_rd 4) ((se_sl (sr_rd 3) (so_some (se_int)) (so_none)).r)))) (sb_nil)))) <| sb_one (ss_ret (se_loc 3))
theorem ok__law_word (Z : Fs K mg) : MOk P w K mg base dd__law_word 2 ["source", "taken"] M__law_word := by
  obtain ⟨fd, F⟩ := Z.f__law_word
  exact ⟨fd, F, fn_ok (N := n__law_word) F ⟨rfl, rfl, rfl, nd__law_word, rfl, by decide +kernel, by decide +kernel⟩ fun cdv A outer s H E hr => d__law_word Z hr⟩
theorem nd__law_number : n__law_number.Nodup := by decide +kernel
theorem d__law_number (Z : Fs K mg) {f : Addr} {cdv : Value} {A : Around} {outer : List Env} {s : Shared} {H : Hp} {E : XK} (hr : Room 1 (A.deeper (envOfC "_law_number" (defScope s__law_number) s.heap.objs.size f cdv))) : SB (cxOf (L2.CX P w) P w K mg base n__law_number "_law_number" (defScope s__law_number) f cdv A outer s H E) (fun c d _ H => E c d H) (defBody s__law_number) m__law_number := by
  have z := Fr.of (P := P) (w := w) (K := K) (mg := mg) (base := base) (N := n__law_number) (outer := outer) (H := H) (E := E) hr
  have hN := nd__law_number
  exact sb_cons (ss_if (st_cmp z.hu ((se_call ((ok__law_draw (P := P) (w := w) (base := base) Z).callsX 1 (by decide) 2 [] [0, 1] [] (fun fd F => kb_all F 2 [] [0, 1] fun _ _ _ _ _ _ us ws hl hw => match us, ws, hl, hw with | [_, _], [], _, _ => rfl) rfl (by exact z.tk) (by exact hr) (by rfl) (by rfl) (by rfl) (by rfl) (by rfl)) (by rfl) (Z.g__law_draw) (ok__law_draw (P := P) (w := w) (base := base) Z).keep (sa_cons (se_loc 0) (sa_cons (se_int) (sa_nil)))).r) ((se_int).r)) (sb_one (ss_ret (se_bin ((se_call ((ok__law_draw (P := P) (w := w) (base := base) Z).callsX 1 (by decide) 2 [] [0, 1] [] (fun fd F => kb_all F 2 [] [0, 1] fun _ _ _ _ _ _ us ws hl hw => match us, ws, hl, hw with | [_, _], [], _, _ => rfl) rfl (by exact z.tk) (by exact hr) (by rfl) (by rfl) (by rfl) (by rfl) (by rfl)) (by rfl) (Z.g__law_draw) (ok__law_draw (P := P) (w := w) (base := base) Z).keep (sa_cons (se_loc 0) (sa_cons (se_int) (sa_nil)))).r) ((se_int).r)))) (sb_nil)) <| sb_one (ss_ret (se_bin ((se_bin ((se_call ((ok__law_draw (P := P) (w := w) (base := base) Z).callsX 1 (by decide) 2 [] [0, 1] [] (fun fd F => kb_all F 2 [] [0, 1] fun _ _ _ _ _ _ us ws hl hw => match us, ws, hl, hw with | [_, _], [], _, _ => rfl) rfl (by exact z.tk) (by exact hr) (by rfl) (by rfl) (by rfl) (by rfl) (by rfl)) (by rfl) (Z.g__law_draw) (ok__law_draw (P := P) (w := w) (base := base) Z).keep (sa_cons (se_loc 0) (sa_cons (se_bin ((se_bin ((se_int).r) (sr_rd 1)).r) ((se_int).r)) (sa_nil)))).r) (sr_rd 1)).r) ((se_int).r)))
theorem ok__law_number (Z : Fs K mg) : MOk P w K mg base dd__law_number 2 ["source", "limit"] M__law_number := by
  obtain ⟨fd, F⟩ := Z.f__law_number
  exact ⟨fd, F, fn_ok (N := n__law_number) F ⟨rfl, rfl, rfl, nd__law_number, rfl, by decide +kernel, by decide +kernel⟩ fun cdv A outer s H E hr => d__law_number Z hr⟩
theorem nd__law_is_row : n__law_is_row.Nodup := by decide +kernel
theorem d__law_is_row (Z : Fs K mg) {f : Addr} {cdv : Value} {A : Around} {outer : List Env} {s : Shared} {H : Hp} {E : XK} (hr : Room 1 (A.deeper (envOfC "_law_is_row" (defScope s__law_is_row) s.heap.objs.size f cdv))) : SB (cxOf (L2.CX P w) P w K mg base n__law_is_row "_law_is_row" (defScope s__law_is_row) f cdv A outer s H E) (fun c d _ H => E c d H) (defBody s__law_is_row) m__law_is_row := by
  have z := Fr.of (P := P) (w := w) (K := K) (mg := mg) (base := base) (N := n__law_is_row) (outer := outer) (H := H) (E := E) hr
  have hN := nd__law_is_row
  exact sb_cons (ss_if (sw_st (sw_or (st_cmp z.hu (sr_rd 1) ((se_non).r)) (sw_or1 (st_cmp z.hu (sr_rd 0) ((se_non).r))))) (sb_one (ss_ret (se_and (se_cmp z.hu (sr_rd 0) ((se_non).r)) (se_one (se_cmp z.hu (sr_rd 1) ((se_non).r)))))) (sb_nil)) <| sb_cons (ss_if (sw_st (sw_or (st_not (st_tru ((se_isiT (T := "dict") Z.is_dict (by rfl) Z.n_isinstance (by rfl) Z.n_dict (sr_rd 0)).r))) (sw_or1 (st_cmp z.hu ((se_bt gSort_ok (by rfl) Z.n_sorted (sar_cons ((se_keys z.hc (sr_rd 0) (by rfl) Z.n_list).r) (sar_nil))).r) ((se_bt gSort_ok (by rfl) Z.n_sorted (sar_cons ((se_keys z.hc (sr_rd 1) (by rfl) Z.n_list).r) (sar_nil))).r))))) (sb_one (ss_ret (se_bl))) (sb_nil)) <| sb_cons (ss_forK z.hp z.hc (se_loc 1) (sg_nm 2 hN) (sb_one (ss_if (sw_st (sw_or (sw_st (sw_and (st_cmp z.hu ((se_ix z.hu (sr_rd 0) (sr_rd 2)).r) ((se_non).r)) (sw_and1 (st_not (st_tru ((se_call ((ok__law_is_integer (P := P) (w := w) (base := base) Z).callsX 1 (by decide) 1 [] [0] [] (fun fd F => kb_all F 1 [] [0] fun _ _ _ _ _ _ us ws hl hw => match us, ws, hl, hw with | [_], [], _, _ => rfl) rfl (by exact z.tk) (by exact hr) (by rfl) (by rfl) (by rfl) (by rfl) (by rfl)) (by rfl) (Z.g__law_is_integer) (ok__law_is_integer (P := P) (w := w) (base := base) Z).keep (sa_cons (se_ix z.hu (sr_rd 0) (sr_rd 2)) (sa_nil))).r)))))) (sw_or1 (st_cmp z.hu ((se_ix z.hu (sr_rd 0) (sr_rd 2)).r) ((se_ix z.hu (sr_rd 1) (sr_rd 2)).r))))) (sb_one (ss_ret (se_bl))) (sb_nil)))) <| sb_one (ss_ret (se_bl))
theorem ok__law_is_row (Z : Fs K mg) : MOk P w K mg base dd__law_is_row 2 ["told", "due"] M__law_is_row := by
  obtain ⟨fd, F⟩ := Z.f__law_is_row
  exact ⟨fd, F, fn_ok (N := n__law_is_row) F ⟨rfl, rfl, rfl, nd__law_is_row, rfl, by decide +kernel, by decide +kernel⟩ fun cdv A outer s H E hr => d__law_is_row Z hr⟩
theorem nd__law_words : n__law_words.Nodup := by decide +kernel
theorem d__law_words (Z : Fs K mg) {f : Addr} {cdv : Value} {A : Around} {outer : List Env} {s : Shared} {H : Hp} {E : XK} (hr : Room 2 (A.deeper (envOfC "_law_words" (defScope s__law_words) s.heap.objs.size f cdv))) : SB (cxOf (L2.CX P w) P w K mg base n__law_words "_law_words" (defScope s__law_words) f cdv A outer s H E) (fun c d _ H => E c d H) (defBody s__law_words) m__law_words := by
  have z := Fr.of (P := P) (w := w) (K := K) (mg := mg) (base := base) (N := n__law_words) (outer := outer) (H := H) (E := E) hr
  have hN := nd__law_words
  exact sb_cons (ss_own hN (sn_lst (sa_nil))) <| sb_cons (ss_for z.hp z.hc (si_rng1 (by rfl) Z.n_range (sa_cons (se_loc 1) (sa_nil))) (sg_nm 4 hN) (sb_one (ss_app (i := 3) (se_call ((ok__law_word (P := P) (w := w) (base := base) Z).callsX 2 (by decide) 2 [] [0, 1] [] (fun fd F => kb_all F 2 [] [0, 1] fun _ _ _ _ _ _ us ws hl hw => match us, ws, hl, hw with | [_, _], [], _, _ => rfl) rfl (by exact z.tk) (by exact hr) (by rfl) (by rfl) (by rfl) (by rfl) (by rfl)) (by rfl) (Z.g__law_word) (ok__law_word (P := P) (w := w) (base := base) Z).keep (sa_cons (se_loc 0) (sa_cons (se_bin (sr_rd 2) (sr_rd 3)) (sa_nil))))))) <| sb_one (ss_frz (i := 3) (ss_ret (se_loc 3)))
theorem ok__law_words (Z : Fs K mg) : MOk P w K mg base dd__law_words 3 ["source", "many", "taken"] M__law_words := by
  obtain ⟨fd, F⟩ := Z.f__law_words
  exact ⟨fd, F, fn_ok (N := n__law_words) F ⟨rfl, rfl, rfl, nd__law_words, rfl, by decide +kernel, by decide +kernel⟩ fun cdv A outer s H E hr => d__law_words Z hr⟩
theorem nd__law_cells : n__law_cells.Nodup := by decide +kernel
theorem d__law_cells (Z : Fs K mg) {f : Addr} {cdv : Value} {A : Around} {outer : List Env} {s : Shared} {H : Hp} {E : XK} (hr : Room 2 (A.deeper (envOfC "_law_cells" (defScope s__law_cells) s.heap.objs.size f cdv))) : SB (cxOf (L2.CX P w) P w K mg base n__law_cells "_law_cells" (defScope s__law_cells) f cdv A outer s H E) (fun c d _ H => E c d H) (defBody s__law_cells) m__law_cells := by
  have z := Fr.of (P := P) (w := w) (K := K) (mg := mg) (base := base) (N := n__law_cells) (outer := outer) (H := H) (E := E) hr
  have hN := nd__law_cells
  exact sb_cons (ss_own hN (sn_dic0)) <| sb_cons (ss_for z.hp z.hc (si_lst (se_loc 1)) (sg_nm 3 hN) (sb_cons (ss_set hN (se_call ((ok__law_draw (P := P) (w := w) (base := base) Z).callsX 2 (by decide) 2 [] [0, 1] [] (fun fd F => kb_all F 2 [] [0, 1] fun _ _ _ _ _ _ us ws hl hw => match us, ws, hl, hw with | [_, _], [], _, _ => rfl) rfl (by exact z.tk) (by exact hr) (by rfl) (by rfl) (by rfl) (by rfl) (by rfl)) (by rfl) (Z.g__law_draw) (ok__law_draw (P := P) (w := w) (base := base) Z).keep (sa_cons (se_loc 0) (sa_cons (se_int) (sa_nil))))) <| sb_one (ss_if (st_cmp z.hu (sr_rd 4) ((se_int).r)) (sb_one (ss_putO (i := 2) z.hu (se_call ((ok__law_number (P := P) (w := w) (base := base) Z).callsX 2 (by decide) 2 [] [0, 1] [] (fun fd F => kb_all F 2 [] [0, 1] fun _ _ _ _ _ _ us ws hl hw => match us, ws, hl, hw with | [_, _], [], _, _ => rfl) rfl (by exact z.tk) (by exact hr) (by rfl) (by rfl) (by rfl) (by rfl) (by rfl)) (by rfl) (Z.g__law_number) (ok__law_number (P := P) (w := w) (base := base) Z).keep (sa_cons (se_loc 0) (sa_cons (se_bin ((se_int).r) ((se_int).r)) (sa_nil)))) (sr_rd 3))) (sb_one (ss_if (st_cmp z.hu (sr_rd 4) ((se_int).r)) (sb_one (ss_putO (i := 2) z.hu (se_non) (sr_rd 3))) (sb_nil)))))) <| sb_one (ss_frz (i := 2) (ss_ret (se_loc 2)))
theorem ok__law_cells (Z : Fs K mg) : MOk P w K mg base dd__law_cells 3 ["source", "names"] M__law_cells := by
  obtain ⟨fd, F⟩ := Z.f__law_cells
  exact ⟨fd, F, fn_ok (N := n__law_cells) F ⟨rfl, rfl, rfl, nd__law_cells, rfl, by decide +kernel, by decide +kernel⟩ fun cdv A outer s H E hr => d__law_cells Z hr⟩
theorem nd__law_right : n__law_right.Nodup := by decide +kernel
theorem d__law_right (Z : Fs K mg) {f : Addr} {cdv : Value} {A : Around} {outer : List Env} {s : Shared} {H : Hp} {E : XK} (hr : Room 2 (A.deeper (envOfC "_law_right" (defScope s__law_right) s.heap.objs.size f cdv))) : SB (cxOf (L2.CX P w) P w K mg base n__law_right "_law_right" (defScope s__law_right) f cdv A outer s H E) (fun c d _ H => E c d H) (defBody s__law_right) m__law_right := by
  have z := Fr.of (P := P) (w := w) (K := K) (mg := mg) (base := base) (N := n__law_right) (outer := outer) (H := H) (E := E) hr
  have hN := nd__law_right
  exact sb_cons (ss_set hN (se_if (st_cmp z.hu (sr_rd 1) ((se_str).r)) ((sn_dic0).se) (se_loc 3))) <| sb_cons (ss_if (sw_st (sw_or (st_not (st_tru ((se_isiC Z.is_Message (by rfl) Z.n_isinstance (by rfl) Z.g_Message (sr_rd 0)).r))) (sw_or1 (st_cmp z.hu ((se_con Z.con_deed (sr_rd 0)).r) (sr_rd 1))))) (sb_one (ss_ret (se_bl))) (sb_nil)) <| sb_cons (ss_if (sw_st (sw_or (st_not (st_tru ((se_call ((ok__law_is_integer (P := P) (w := w) (base := base) Z).callsX 2 (by decide) 1 [] [0] [] (fun fd F => kb_all F 1 [] [0] fun _ _ _ _ _ _ us ws hl hw => match us, ws, hl, hw with | [_], [], _, _ => rfl) rfl (by exact z.tk) (by exact hr) (by rfl) (by rfl) (by rfl) (by rfl) (by rfl)) (by rfl) (Z.g__law_is_integer) (ok__law_is_integer (P := P) (w := w) (base := base) Z).keep (sa_cons (se_attr Z.fd_key (sr_rd 0)) (sa_nil))).r))) (sw_or (st_cmp z.hu ((se_attr Z.fd_key (sr_rd 0)).r) (sr_rd 2)) (sw_or1 (st_not (st_tru ((se_call ((ok__law_is_row (P := P) (w := w) (base := base) Z).callsX 2 (by decide) 2 [] [0, 1] [] (fun fd F => kb_all F 2 [] [0, 1] fun _ _ _ _ _ _ us ws hl hw => match us, ws, hl, hw with | [_, _], [], _, _ => rfl) rfl (by exact z.tk) (by exact hr) (by rfl) (by rfl) (by rfl) (by rfl) (by rfl)) (by rfl) (Z.g__law_is_row) (ok__law_is_row (P := P) (w := w) (base := base) Z).keep (sa_cons (se_prop (propT_cons (ok_Put_cells (P := P) (w := w) (base := base) Z) Z.pr_Put_cells (by rfl) (by exact hr.mono (by decide)) (fun fd F => FunD.bindsN F fun _ _ _ _ _ _ us hl => match us, hl with | [_], _ => rfl) (by rfl) (propT_cons (ok_Change_cells (P := P) (w := w) (base := base) Z) Z.pr_Change_cells (by rfl) (by exact hr.mono (by decide)) (fun fd F => FunD.bindsN F fun _ _ _ _ _ _ us hl => match us, hl with | [_], _ => rfl) (by rfl) (propT_cons (ok_Take_cells (P := P) (w := w) (base := base) Z) Z.pr_Take_cells (by rfl) (by exact hr.mono (by decide)) (fun fd F => FunD.bindsN F fun _ _ _ _ _ _ us hl => match us, hl with | [_], _ => rfl) (by rfl) propT_nil))) (se_loc 0)) (sa_cons (se_loc 4) (sa_nil)))).r))))))) (sb_one (ss_ret (se_bl))) (sb_nil)) <| sb_cons (ss_set hN (se_lst (sa_cons (se_isiC Z.is_Put (by rfl) Z.n_isinstance (by rfl) Z.g_Put (sr_rd 0)) (sa_cons (se_isiC Z.is_Change (by rfl) Z.n_isinstance (by rfl) Z.g_Change (sr_rd 0)) (sa_cons (se_isiC Z.is_Take (by rfl) Z.n_isinstance (by rfl) Z.g_Take (sr_rd 0)) (sa_nil)))))) <| sb_one (ss_ret (se_cmp z.hu (sr_rd 5) ((se_lst (sa_cons (se_cmp z.hu (sr_rd 1) ((se_str).r)) (sa_cons (se_cmp z.hu (sr_rd 1) ((se_str).r)) (sa_cons (se_cmp z.hu (sr_rd 1) ((se_str).r)) (sa_nil))))).r)))
theorem ok__law_right (Z : Fs K mg) : MOk P w K mg base dd__law_right 3 ["message", "deed", "key", "cells"] M__law_right := by
  obtain ⟨fd, F⟩ := Z.f__law_right
  exact ⟨fd, F, fn_ok (N := n__law_right) F ⟨rfl, rfl, rfl, nd__law_right, rfl, by decide +kernel, by decide +kernel⟩ fun cdv A outer s H E hr => d__law_right Z hr⟩
theorem nd_law : n_law.Nodup := by decide +kernel
theorem d_law (Z : Fs K mg) {f : Addr} {cdv : Value} {A : Around} {outer : List Env} {s : Shared} {H : Hp} {E : XK} (hr : Room 3 (A.deeper (envOfC "law" (defScope s_law) s.heap.objs.size f cdv))) : SB (cxOf (L2.CX P w) P w K mg base n_law "law" (defScope s_law) f cdv A outer s H E) (fun c d _ H => E c d H) (defBody s_law) m_law := by
  have z := Fr.of (P := P) (w := w) (K := K) (mg := mg) (base := base) (N := n_law) (outer := outer) (H := H) (E := E) hr
  have hN := nd_law
  exact sb_cons (ss_own hN (sn_lst (sa_nil))) <| sb_cons (ss_for z.hp z.hc (si_rng1 (by rfl) Z.n_range (sa_cons (se_int) (sa_nil))) (sg_nm 2 hN) (sb_cons (ss_set hN (se_call ((ok__law_source (P := P) (w := w) (base := base) Z).callsX 3 (by decide) 2 [] [0, 1] [] (fun fd F => kb_all F 2 [] [0, 1] fun _ _ _ _ _ _ us ws hl hw => match us, ws, hl, hw with | [_, _], [], _, _ => rfl) rfl (by exact z.tk) (by exact hr) (by rfl) (by rfl) (by rfl) (by rfl) (by rfl)) (by rfl) (Z.g__law_source) (ok__law_source (P := P) (w := w) (base := base) Z).keep (sa_cons (se_loc 0) (sa_cons (se_loc 2) (sa_nil))))) <| sb_cons (ss_set hN (se_call ((ok__law_words (P := P) (w := w) (base := base) Z).callsX 3 (by decide) 3 [] [0, 1, 2] [] (fun fd F => kb_all F 3 [] [0, 1, 2] fun _ _ _ _ _ _ us ws hl hw => match us, ws, hl, hw with | [_, _, _], [], _, _ => rfl) rfl (by exact z.tk) (by exact hr) (by rfl) (by rfl) (by rfl) (by rfl) (by rfl)) (by rfl) (Z.g__law_words) (ok__law_words (P := P) (w := w) (base := base) Z).keep (sa_cons (se_loc 4) (sa_cons (se_call ((ok__law_draw (P := P) (w := w) (base := base) Z).callsX 3 (by decide) 2 [] [0, 1] [] (fun fd F => kb_all F 2 [] [0, 1] fun _ _ _ _ _ _ us ws hl hw => match us, ws, hl, hw with | [_, _], [], _, _ => rfl) rfl (by exact z.tk) (by exact hr) (by rfl) (by rfl) (by rfl) (by rfl) (by rfl)) (by rfl) (Z.g__law_draw) (ok__law_draw (P := P) (w := w) (base := base) Z).keep (sa_cons (se_loc 4) (sa_cons (se_int) (sa_nil)))) (sa_cons (se_lst (sa_cons (se_str) (sa_nil))) (sa_nil)))))) <| sb_cons (ss_par2 z.hc hN (sa_cons (se_call ((ok__law_number (P := P) (w := w) (base := base) Z).callsX 3 (by decide) 2 [] [0, 1] [] (fun fd F => kb_all F 2 [] [0, 1] fun _ _ _ _ _ _ us ws hl hw => match us, ws, hl, hw with | [_, _], [], _, _ => rfl) rfl (by exact z.tk) (by exact hr) (by rfl) (by rfl) (by rfl) (by rfl) (by rfl)) (by rfl) (Z.g__law_number) (ok__law_number (P := P) (w := w) (base := base) Z).keep (sa_cons (se_loc 4) (sa_cons (se_bin ((se_int).r) ((se_int).r)) (sa_nil)))) (sa_cons (se_call ((ok__law_cells (P := P) (w := w) (base := base) Z).callsX 3 (by decide) 2 [] [0, 1] [] (fun fd F => kb_all F 2 [] [0, 1] fun _ _ _ _ _ _ us ws hl hw => match us, ws, hl, hw with | [_, _], [], _, _ => rfl) rfl (by exact z.tk) (by exact hr) (by rfl) (by rfl) (by rfl) (by rfl) (by rfl)) (by rfl) (Z.g__law_cells) (ok__law_cells (P := P) (w := w) (base := base) Z).keep (sa_cons (se_loc 4) (sa_cons (se_loc 5) (sa_nil)))) (sa_nil)))) <| sb_cons (ss_parO2 z.hc hN (so_pure ((sn_bty (gDictN_ok z.hc) (by rfl) Z.n_dict (sar_cons (sr_rd 7) (sar_nil))).ref) (so_pure ((sn_bty (gDictN_ok z.hc) (by rfl) Z.n_dict (sar_cons (sr_rd 7) (sar_nil))).ref) (so_nil)))) <| sb_cons (ss_if (st_cmp z.hu ((se_call ((ok__law_draw (P := P) (w := w) (base := base) Z).callsX 3 (by decide) 2 [] [0, 1] [] (fun fd F => kb_all F 2 [] [0, 1] fun _ _ _ _ _ _ us ws hl hw => match us, ws, hl, hw with | [_, _], [], _, _ => rfl) rfl (by exact z.tk) (by exact hr) (by rfl) (by rfl) (by rfl) (by rfl) (by rfl)) (by rfl) (Z.g__law_draw) (ok__law_draw (P := P) (w := w) (base := base) Z).keep (sa_cons (se_loc 4) (sa_cons (se_int) (sa_nil)))).r) ((se_int).r)) (sb_cons (ss_app (i := 1) (se_tup (sa_cons ((sn_call ((ok_Put___init__ (P := P) (w := w) (base := base) Z).callsX Z.mk_Put 3 (by decide) 2 [] [0, 1] [] (fun fd F => kb_all F 3 [] (0 :: ([0, 1] : List Nat).map (· + 1)) fun _ _ _ _ _ _ us ws hl hw => match us, ws, hl, hw with | [_, _, _], [], _, _ => rfl) rfl (by exact z.tk) (by exact hr) (by rfl) (by rfl) (by rfl) (by rfl) (by rfl)) (by rfl) (Z.g_Put) Z.mk_Put.kp (sa_cons (se_loc 6) (sa_cons (se_loc 8) (sa_nil)))).se) (sa_cons (se_str) (sa_cons (se_loc 6) (sa_cons (se_loc 7) (sa_nil))))))) <| sb_cons (ss_app (i := 1) (se_tup (sa_cons ((sn_call ((ok_Change___init__ (P := P) (w := w) (base := base) Z).callsX Z.mk_Change 3 (by decide) 2 [] [0, 1] [] (fun fd F => kb_all F 3 [] (0 :: ([0, 1] : List Nat).map (· + 1)) fun _ _ _ _ _ _ us ws hl hw => match us, ws, hl, hw with | [_, _, _], [], _, _ => rfl) rfl (by exact z.tk) (by exact hr) (by rfl) (by rfl) (by rfl) (by rfl) (by rfl)) (by rfl) (Z.g_Change) Z.mk_Change.kp (sa_cons (se_loc 6) (sa_cons (se_loc 9) (sa_nil)))).se) (sa_cons (se_str) (sa_cons (se_loc 6) (sa_cons (se_loc 7) (sa_nil))))))) <| sb_one (ss_app (i := 1) (se_tup (sa_cons ((sn_call ((ok_Take___init__ (P := P) (w := w) (base := base) Z).callsX Z.mk_Take 3 (by decide) 1 [] [0] [] (fun fd F => kb_all F 2 [] (0 :: ([0] : List Nat).map (· + 1)) fun _ _ _ _ _ _ us ws hl hw => match us, ws, hl, hw with | [_, _], [], _, _ => rfl) rfl (by exact z.tk) (by exact hr) (by rfl) (by rfl) (by rfl) (by rfl) (by rfl)) (by rfl) (Z.g_Take) Z.mk_Take.kp (sa_cons (se_loc 6) (sa_nil))).se) (sa_cons (se_str) (sa_cons (se_loc 6) (sa_cons (se_loc 7) (sa_nil)))))))) (sb_cons (ss_app (i := 1) (se_tup (sa_cons ((sn_callK0 ((ok_Put___init__ (P := P) (w := w) (base := base) Z).callsX Z.mk_Put 3 (by decide) 0 ["cells", "key"] [1, 0] [] (fun fd F => kb_all F 1 ["cells", "key"] (0 :: ([1, 0] : List Nat).map (· + 1)) fun _ _ _ _ _ _ us ws hl hw => match us, ws, hl, hw with | [_], [_, _], _, _ => rfl) rfl (by exact z.tk) (by exact hr) (by rfl) (by rfl) (by rfl) (by rfl) (by rfl)) (by rfl) (Z.g_Put) Z.mk_Put.kp (sk_cons (se_loc 8) (sk_cons (se_loc 6) (sk_nil)))).se) (sa_cons (se_str) (sa_cons (se_loc 6) (sa_cons (se_loc 7) (sa_nil))))))) <| sb_cons (ss_app (i := 1) (se_tup (sa_cons ((sn_callK0 ((ok_Change___init__ (P := P) (w := w) (base := base) Z).callsX Z.mk_Change 3 (by decide) 0 ["cells", "key"] [1, 0] [] (fun fd F => kb_all F 1 ["cells", "key"] (0 :: ([1, 0] : List Nat).map (· + 1)) fun _ _ _ _ _ _ us ws hl hw => match us, ws, hl, hw with | [_], [_, _], _, _ => rfl) rfl (by exact z.tk) (by exact hr) (by rfl) (by rfl) (by rfl) (by rfl) (by rfl)) (by rfl) (Z.g_Change) Z.mk_Change.kp (sk_cons (se_loc 9) (sk_cons (se_loc 6) (sk_nil)))).se) (sa_cons (se_str) (sa_cons (se_loc 6) (sa_cons (se_loc 7) (sa_nil))))))) <| sb_one (ss_app (i := 1) (se_tup (sa_cons ((sn_callK0 ((ok_Take___init__ (P := P) (w := w) (base := base) Z).callsX Z.mk_Take 3 (by decide) 0 ["key"] [0] [] (fun fd F => kb_all F 1 ["key"] (0 :: ([0] : List Nat).map (· + 1)) fun _ _ _ _ _ _ us ws hl hw => match us, ws, hl, hw with | [_], [_], _, _ => rfl) rfl (by exact z.tk) (by exact hr) (by rfl) (by rfl) (by rfl) (by rfl) (by rfl)) (by rfl) (Z.g_Take) Z.mk_Take.kp (sk_cons (se_loc 6) (sk_nil))).se) (sa_cons (se_str) (sa_cons (se_loc 6) (sa_cons (se_loc 7) (sa_nil))))))))) <| sb_cons (ss_if (sw_st (sw_or (st_ne2 z.hu (sr_rd 8) (sr_rd 7)) (sw_or1 (st_ne2 z.hu (sr_rd 9) (sr_rd 7))))) (sb_one (ss_ret (se_bl))) (sb_nil)) <| sb_cons (ss_put z.hu (se_int) (se_loc 8) ((se_str).r)) <| sb_one (ss_clr (se_loc 9)))) <| sb_cons (ss_for z.hp z.hc (si_rng1 (by rfl) Z.n_range (sa_cons (se_int) (sa_nil))) (sg_nm 3 hN) (sb_cons (ss_frz (i := 1) (ss_if (st_not (st_tru ((se_bt (gAll_ok z.hc) (by rfl) Z.n_all (sar_cons ((se_lc z.hc hN (si_lst (se_loc 1)) (blkOk_by (own := [("message", 10), ("deed", 11), ("key", 6), ("cells", 7)]) (by change blkC n_law (defScope s_law) _ _ = true; decide +kernel)) (fun _ _ _ _ _ => sg_tup (by exact z.hc) (sgs_cons (sg_nm 10 hN) (sgs_cons (sg_nm 11 hN) (sgs_cons (sg_nm 6 hN) (sgs_cons (sg_nm 7 hN) (sgs_nil)))))) (fun _ _ _ _ _ => spt_nil) (fun _ _ _ _ _ => se_call ((ok__law_right (P := P) (w := w) (base := base) Z).callsX 3 (by decide) 4 [] [0, 1, 2, 3] [] (fun fd F => kb_all F 4 [] [0, 1, 2, 3] fun _ _ _ _ _ _ us ws hl hw => match us, ws, hl, hw with | [_, _, _, _], [], _, _ => rfl) rfl (by exact takes_w0) (by exact hr) (by rfl) (by rfl) (by rfl) (by rfl) (by rfl)) (by rfl) (Z.g__law_right) (ok__law_right (P := P) (w := w) (base := base) Z).keep (sa_cons (se_loc 10) (sa_cons (se_loc 11) (sa_cons (se_loc 6) (sa_cons (se_loc 7) (sa_nil)))))) (by decide)).r) (sar_nil))).r))) (sb_one (ss_ret (se_bl))) (sb_nil))) <| sb_one (ss_frz (i := 1) (ss_for z.hp z.hc (si_lst (se_loc 1)) (sg_tup z.hc (sgs_cons (sg_nm 10 hN) (sgs_cons (sg_nm 11 hN) (sgs_cons (sg_nm 6 hN) (sgs_cons (sg_nm 7 hN) (sgs_nil)))))) (sb_cons (ss_set hN (se_prop (propT_cons (ok_Put_cells (P := P) (w := w) (base := base) Z) Z.pr_Put_cells (by rfl) (by exact hr.mono (by decide)) (fun fd F => FunD.bindsN F fun _ _ _ _ _ _ us hl => match us, hl with | [_], _ => rfl) (by rfl) (propT_cons (ok_Change_cells (P := P) (w := w) (base := base) Z) Z.pr_Change_cells (by rfl) (by exact hr.mono (by decide)) (fun fd F => FunD.bindsN F fun _ _ _ _ _ _ us hl => match us, hl with | [_], _ => rfl) (by rfl) (propT_cons (ok_Take_cells (P := P) (w := w) (base := base) Z) Z.pr_Take_cells (by rfl) (by exact hr.mono (by decide)) (fun fd F => FunD.bindsN F fun _ _ _ _ _ _ us hl => match us, hl with | [_], _ => rfl) (by rfl) propT_nil))) (se_loc 10))) <| sb_cons (ss_set hN (se_bty (gDict_ok z.hc) (by rfl) Z.n_dict (sar_cons (sr_rd 12) (sar_nil)))) <| sb_cons (ss_clr (se_loc 12)) <| sb_cons (ss_put z.hu (se_int) (se_loc 12) ((se_str).r)) <| sb_one (ss_if (st_ne2 z.hu ((se_prop (propT_cons (ok_Put_cells (P := P) (w := w) (base := base) Z) Z.pr_Put_cells (by rfl) (by exact hr.mono (by decide)) (fun fd F => FunD.bindsN F fun _ _ _ _ _ _ us hl => match us, hl with | [_], _ => rfl) (by rfl) (propT_cons (ok_Change_cells (P := P) (w := w) (base := base) Z) Z.pr_Change_cells (by rfl) (by exact hr.mono (by decide)) (fun fd F => FunD.bindsN F fun _ _ _ _ _ _ us hl => match us, hl with | [_], _ => rfl) (by rfl) (propT_cons (ok_Take_cells (P := P) (w := w) (base := base) Z) Z.pr_Take_cells (by rfl) (by exact hr.mono (by decide)) (fun fd F => FunD.bindsN F fun _ _ _ _ _ _ us hl => match us, hl with | [_], _ => rfl) (by rfl) propT_nil))) (se_loc 10)).r) (sr_rd 13)) (sb_one (ss_ret (se_bl))) (sb_nil))))))) <| sb_one (ss_ret (se_cmp z.hu ((se_tup (sa_cons (se_cval Z.cv_Put_deed (se_glob (by rfl) Z.vc_Put)) (sa_cons (se_cval Z.cv_Change_deed (se_glob (by rfl) Z.vc_Change)) (sa_cons (se_cval Z.cv_Take_deed (se_glob (by rfl) Z.vc_Take)) (sa_nil))))).r) ((se_tup (sa_cons (se_str) (sa_cons (se_str) (sa_cons (se_str) (sa_nil))))).r)))
theorem ok_law (Z : Fs K mg) : MOk P w K mg base dd_law 4 ["script"] M_law := by
  obtain ⟨fd, F⟩ := Z.f_law
  exact ⟨fd, F, fn_ok (N := n_law) F ⟨rfl, rfl, rfl, nd_law, rfl, by decide +kernel, by decide +kernel⟩ fun cdv A outer s H E hr => d_law Z hr⟩
end
/-! ### the head -/
def fn0 : List He.DefD := [dd_Put___init__, dd_Change___init__, dd_Take___init__, dd__law_source, dd__law_draw, dd__law_is_integer, dd__law_word, dd__law_number, dd__law_is_row, dd__law_words, dd__law_cells, dd__law_right, dd_law]
def fn : List He.DefD := fn0
def chk0 : List Chk := [(He.Fa.free "range").ok, (He.Fa.glo "_law_source").ok, (He.Fa.glo "_law_words").ok, (He.Fa.glo "_law_draw").ok, (He.Fa.glo "_law_cells").ok, (He.Fa.glo "_law_number").ok, (He.Fa.free "dict").ok, (He.Fa.glo "Put").ok, (He.Fa.mkr "Put").ok, (He.Fa.glo "Change").ok, (He.Fa.mkr "Change").ok, (He.Fa.glo "Take").ok, (He.Fa.mkr "Take").ok, (He.Fa.free "all").ok, (He.Fa.glo "_law_right").ok, propB dc_Take_cells, propB dc_Change_cells, propB dc_Put_cells, (fun K => gB K "Take" (.glob "Take")), cvB "Take" "deed" (.str "take"), (fun K => gB K "Change" (.glob "Change")), cvB "Change" "deed" (.str "change"), (fun K => gB K "Put" (.glob "Put")), cvB "Put" "deed" (.str "put"), (He.Fa.free "len").ok, (He.Fa.free "int").ok, (He.Fa.free "sum").ok, (He.Fa.free "abs").ok, (He.Fa.glo "_law_word").ok, fldB ["Put"] "key"]
def chk1 : List Chk := [fldB ["Put"] "borne", fldB ["Change"] "key", fldB ["Change"] "borne", fldB ["Take"] "key", (He.Fa.free "isinstance").ok, isiB (fun K => .ref (He.ga K "Message")) t_Message, (He.Fa.glo "Message").ok, conB "deed" [("Put", (.str "put")), ("Change", (.str "change")), ("Take", (.str "take"))], (He.Fa.glo "_law_is_integer").ok, fldB ["Put", "Change", "Take"] "key", (He.Fa.glo "_law_is_row").ok, isiB (fun K => .ref (He.ga K "Take")) t_Take, isiB (fun K => .ref (He.ga K "Change")) t_Change, isiB (fun K => .ref (He.ga K "Put")) t_Put, fldB ["Put", "Change"] "borne", isiB (fun _ => .type "int") t_int, isiB (fun _ => .type "bool") t_bool, (He.Fa.free "bool").ok, isiB (fun _ => .type "dict") t_dict, (He.Fa.free "sorted").ok, (He.Fa.free "list").ok, (He.Fa.glo "law").ok]
def chks : List Chk := chk0 ++ chk1
def prs : List Deco := [dc_Put_cells, dc_Change_cells, dc_Take_cells]
abbrev hk : PySem.W.Hook := hookW 6 fn prs (allC chks)
def ob (s : PySem.W.SharedT) : AlW := obsWG 6 fn prs (allC chks) (HandSHeadRun.getT s)
theorem ob_eq (s : PySem.W.SharedT) : ob s = hk.obs s.abs := obsWG_eq (HandSHeadRun.getT_eq s)
def loose0 : List Str := ["Message", "Put", "Change", "Take", "_law_source", "_law_draw", "_law_pick", "_law_word", "_law_words", "_law_number", "_law_is_integer", "_law_is_row", "_law_message", "_law_cells", "_law_right"]
def loose : List Str := loose0
abbrev qv : Program := PySem.W.view Rw.row.prog [17]
theorem run (w : World) : HandSHeadRun.RunEq Rw.row qv hk ob 8000 loose w := by
  intro os
  kernel_rfl
theorem facts {K : PySem.W.Frag} {h : Heap} {mg : Str → Option Value} (X : K.In h) (G : h.Ns mainGlobals mg) (c : SaysW fn prs (allC chks) K) : Fs K mg where
  f_Put___init__ := c.d.def_ 0 (d := dd_Put___init__) rfl
  f_Change___init__ := c.d.def_ 1 (d := dd_Change___init__) rfl
  f_Take___init__ := c.d.def_ 2 (d := dd_Take___init__) rfl
  f__law_source := c.d.def_ 3 (d := dd__law_source) rfl
  f__law_draw := c.d.def_ 4 (d := dd__law_draw) rfl
  f__law_is_integer := c.d.def_ 5 (d := dd__law_is_integer) rfl
  f__law_word := c.d.def_ 6 (d := dd__law_word) rfl
  f__law_number := c.d.def_ 7 (d := dd__law_number) rfl
  f__law_is_row := c.d.def_ 8 (d := dd__law_is_row) rfl
  f__law_words := c.d.def_ 9 (d := dd__law_words) rfl
  f__law_cells := c.d.def_ 10 (d := dd__law_cells) rfl
  f__law_right := c.d.def_ 11 (d := dd__law_right) rfl
  f_law := c.d.def_ 12 (d := dd_law) rfl
  f_Put_cells := c.deco 0 (p := dc_Put_cells) rfl
  f_Change_cells := c.deco 1 (p := dc_Change_cells) rfl
  f_Take_cells := c.deco 2 (p := dc_Take_cells) rfl
  n_range := He.free_ok X G (allC_at c.c 0 (f := (He.Fa.free "range").ok) rfl)
  g__law_source := He.glo_ok X G (allC_at c.c 1 (f := (He.Fa.glo "_law_source").ok) rfl)
  g__law_words := He.glo_ok X G (allC_at c.c 2 (f := (He.Fa.glo "_law_words").ok) rfl)
  g__law_draw := He.glo_ok X G (allC_at c.c 3 (f := (He.Fa.glo "_law_draw").ok) rfl)
  g__law_cells := He.glo_ok X G (allC_at c.c 4 (f := (He.Fa.glo "_law_cells").ok) rfl)
  g__law_number := He.glo_ok X G (allC_at c.c 5 (f := (He.Fa.glo "_law_number").ok) rfl)
  n_dict := He.free_ok X G (allC_at c.c 6 (f := (He.Fa.free "dict").ok) rfl)
  g_Put := He.glo_ok X G (allC_at c.c 7 (f := (He.Fa.glo "Put").ok) rfl)
  mk_Put := He.mkr_ok (allC_at c.c 8 (f := (He.Fa.mkr "Put").ok) rfl)
  g_Change := He.glo_ok X G (allC_at c.c 9 (f := (He.Fa.glo "Change").ok) rfl)
  mk_Change := He.mkr_ok (allC_at c.c 10 (f := (He.Fa.mkr "Change").ok) rfl)
  g_Take := He.glo_ok X G (allC_at c.c 11 (f := (He.Fa.glo "Take").ok) rfl)
  mk_Take := He.mkr_ok (allC_at c.c 12 (f := (He.Fa.mkr "Take").ok) rfl)
  n_all := He.free_ok X G (allC_at c.c 13 (f := (He.Fa.free "all").ok) rfl)
  g__law_right := He.glo_ok X G (allC_at c.c 14 (f := (He.Fa.glo "_law_right").ok) rfl)
  pr_Take_cells := propB_ok (allC_at c.c 15 (f := propB dc_Take_cells) rfl)
  pr_Change_cells := propB_ok (allC_at c.c 16 (f := propB dc_Change_cells) rfl)
  pr_Put_cells := propB_ok (allC_at c.c 17 (f := propB dc_Put_cells) rfl)
  vc_Take := gB_ok X G (allC_at c.c 18 (f := (fun K => gB K "Take" (.glob "Take"))) rfl)
  cv_Take_deed := cvB_ok (allC_at c.c 19 (f := cvB "Take" "deed" (.str "take")) rfl)
  vc_Change := gB_ok X G (allC_at c.c 20 (f := (fun K => gB K "Change" (.glob "Change"))) rfl)
  cv_Change_deed := cvB_ok (allC_at c.c 21 (f := cvB "Change" "deed" (.str "change")) rfl)
  vc_Put := gB_ok X G (allC_at c.c 22 (f := (fun K => gB K "Put" (.glob "Put"))) rfl)
  cv_Put_deed := cvB_ok (allC_at c.c 23 (f := cvB "Put" "deed" (.str "put")) rfl)
  n_len := He.free_ok X G (allC_at c.c 24 (f := (He.Fa.free "len").ok) rfl)
  n_int := He.free_ok X G (allC_at c.c 25 (f := (He.Fa.free "int").ok) rfl)
  n_sum := He.free_ok X G (allC_at c.c 26 (f := (He.Fa.free "sum").ok) rfl)
  n_abs := He.free_ok X G (allC_at c.c 27 (f := (He.Fa.free "abs").ok) rfl)
  g__law_word := He.glo_ok X G (allC_at c.c 28 (f := (He.Fa.glo "_law_word").ok) rfl)
  fs_Put_key := fldB_ok (allC_at c.c 29 (f := fldB ["Put"] "key") rfl)
  fs_Put_borne := fldB_ok (allC_at c.c 30 (f := fldB ["Put"] "borne") rfl)
  fs_Change_key := fldB_ok (allC_at c.c 31 (f := fldB ["Change"] "key") rfl)
  fs_Change_borne := fldB_ok (allC_at c.c 32 (f := fldB ["Change"] "borne") rfl)
  fs_Take_key := fldB_ok (allC_at c.c 33 (f := fldB ["Take"] "key") rfl)
  n_isinstance := He.free_ok X G (allC_at c.c 34 (f := (He.Fa.free "isinstance").ok) rfl)
  is_Message := isiB_ok (cv := fun K => .ref (He.ga K "Message")) (allC_at c.c 35 (f := isiB (fun K => .ref (He.ga K "Message")) t_Message) rfl)
  g_Message := He.glo_ok X G (allC_at c.c 36 (f := (He.Fa.glo "Message").ok) rfl)
  con_deed := conB_ok (allC_at c.c 37 (f := conB "deed" [("Put", (.str "put")), ("Change", (.str "change")), ("Take", (.str "take"))]) rfl)
  g__law_is_integer := He.glo_ok X G (allC_at c.c 38 (f := (He.Fa.glo "_law_is_integer").ok) rfl)
  fd_key := fldB_ok (allC_at c.c 39 (f := fldB ["Put", "Change", "Take"] "key") rfl)
  g__law_is_row := He.glo_ok X G (allC_at c.c 40 (f := (He.Fa.glo "_law_is_row").ok) rfl)
  is_Take := isiB_ok (cv := fun K => .ref (He.ga K "Take")) (allC_at c.c 41 (f := isiB (fun K => .ref (He.ga K "Take")) t_Take) rfl)
  is_Change := isiB_ok (cv := fun K => .ref (He.ga K "Change")) (allC_at c.c 42 (f := isiB (fun K => .ref (He.ga K "Change")) t_Change) rfl)
  is_Put := isiB_ok (cv := fun K => .ref (He.ga K "Put")) (allC_at c.c 43 (f := isiB (fun K => .ref (He.ga K "Put")) t_Put) rfl)
  fd_borne := fldB_ok (allC_at c.c 44 (f := fldB ["Put", "Change"] "borne") rfl)
  is_int := isiB_ok (cv := fun _ => .type "int") (allC_at c.c 45 (f := isiB (fun _ => .type "int") t_int) rfl)
  is_bool := isiB_ok (cv := fun _ => .type "bool") (allC_at c.c 46 (f := isiB (fun _ => .type "bool") t_bool) rfl)
  n_bool := He.free_ok X G (allC_at c.c 47 (f := (He.Fa.free "bool").ok) rfl)
  is_dict := isiB_ok (cv := fun _ => .type "dict") (allC_at c.c 48 (f := isiB (fun _ => .type "dict") t_dict) rfl)
  n_sorted := He.free_ok X G (allC_at c.c 49 (f := (He.Fa.free "sorted").ok) rfl)
  n_list := He.free_ok X G (allC_at c.c 50 (f := (He.Fa.free "list").ok) rfl)
  g_law := He.glo_ok X G (allC_at c.c 51 (f := (He.Fa.glo "law").ok) rfl)
open PySem.W PySem.Calls in
theorem holds (hm : ∀ ns : List Int, ns.length ≤ 63 → ∃ s, M_law [.scr ns] [] = .ok (.bl true) s) : PySem.Challenge.rw_filteredcopies_k31_messages_made.Holds := by
  w_on; o_law
  refine HandSHeadRun.head_any (r := OpenLaw.row PySem.Challenge.rw_filteredcopies_k31_messages_made) (q := view (OpenLaw.row PySem.Challenge.rw_filteredcopies_k31_messages_made).prog [17]) (H := hk) (ob := ob) (M := 8000) (loose := loose) (d := HandSHeadRun.topDef (OpenLaw.row PySem.Challenge.rw_filteredcopies_k31_messages_made).prog 17) (kwd := []) ob_eq
    (by kernel_rfl) (fun s => by kernel_rfl) run (by kernel_rfl) (by kernel_rfl) (by kernel_rfl) (by rfl) (by first | assumption | decide +kernel) (by decide +kernel) ⟨rfl, rfl, rfl, rfl, rfl, by decide +kernel⟩ ?hw ?hc
  case hw => w_witness2
  case hc =>
    refine L2.walk_ofE (l := PySem.Challenge.rw_filteredcopies_k31_messages_made) (n := 63) (k := 4) (x := "script") (CX := CXw (PySem.Challenge.rw_filteredcopies_k31_messages_made).prog) rfl (by decide) (by kernel_rfl) ⟨rfl, by decide, by decide⟩ ?F fun H s e s' z => cxw_no z
    intro w mg fa h Y G hmg0
    obtain ⟨K, KX, c⟩ := Y
    have hmg : mg ("law" : PySem.Str) = some (.ref fa) := by
      have e : (HandSHeadRun.topDef (OpenLaw.row PySem.Challenge.rw_filteredcopies_k31_messages_made).prog 17).name = ("law" : PySem.Str) := by kernel_rfl
      rw [← e]
      exact hmg0
    have Z := facts KX G c
    have e := hmg.symm.trans Z.g_law
    cases e
    obtain ⟨fd, F⟩ := Z.f_law
    have b := FunD.bindsA (ps := ["script"]) F fun _ _ _ _ _ _ us hl => match us, hl with | [_], _ => rfl
    refine ⟨K, fd, spOf K 1 M_law, KX, fun s v => b s [v] rfl, fun H a ns hl hO hS => law_sp hm H a ns hl hO hS, fun base _ _ => ?_⟩
    exact fn_cx (fn_ok (w := w) (N := n_law) F ⟨rfl, rfl, rfl, nd_law, rfl, by decide +kernel, by decide +kernel⟩ fun cdv A outer s H E hr => d_law Z hr) fun _ _ _ _ _ _ z => ⟨w, z⟩
end Dn

namespace Dn
open PySem PySem.Spec L2
open PyProof.Rows hiding St RelV
theorem wp_source (ns : List Int) (at_ : Int) (h0 : 0 ≤ at_) (h1 : at_ < 60) (s : Store) {P : D → Store → Prop} (h : ∀ s', s'.length = s.length + 1 → SrcB s' s.length 0 → P (.ref s.length) s') : Wp (M__law_source [.scr ns, .int at_] s) P := wp_src32 ns at_ h0 h1 s h
theorem wp_draw {s : Store} {n k : Nat} (S : SrcB s n k) (hk : k < 100000000) {many : Int} (k0 : 0 < many) (k1 : many.natAbs < 2 ^ 200) {P : D → Store → Prop} (h : ∀ (d : Int) s', 0 ≤ d → d < many → s'.length = s.length → SrcB s' n (k + 1) → P (.int d) s') : Wp (M__law_draw [.ref n, .int many] s) P := wp_drw31 S hk k0 k1 h
theorem draw_fr {s : Store} {n k : Nat} (S : SrcB s n k) (hk : k < 100000000) {many : Int} (k0 : 0 < many) (k1 : many.natAbs < 2 ^ 200) {P : D → Store → Prop} (h : ∀ (d : Int) s', 0 ≤ d → d < many → s'.length = s.length → SrcB s' n (k + 1) → (∀ m, m ≠ n → s'[m]? = s[m]?) → P (.int d) s') : Wp (M__law_draw [.ref n, .int many] s) P := drw31_fr S hk k0 k1 h
theorem wp_number {s : Store} {n k : Nat} (S : SrcB s n k) (hk : k < 90000000) {lim : Int} (l0 : 0 < lim) (l1 : lim < 2 ^ 190) {P : D → Store → Prop} (h : ∀ (i : Int) s', s'.length = s.length → SrcB s' n (k + 2) → (-lim < i ∧ i < lim ∨ -4 ≤ i ∧ i ≤ 4) → P (.int i) s') : Wp (M__law_number [.ref n, .int lim] s) P := wp_num31 S hk l0 l1 h
theorem wp_words {s : Store} {n k : Nat} (S : SrcB s n k) (hk : k < 80000000) {m : Int} (m0 : 0 ≤ m) (hm : m ≤ 20) {T : List Str} (hT : T.length ≤ 5) {P : D → Store → Prop} (h : ∀ (ws : List Str) s', (ws.length : Int) = m → (∀ w ∈ ws, Word w ∧ w ∉ T) → ws.Nodup → s'.length = s.length → SrcB s' n (k + 9 * m.toNat) → P (.lst (ws.map .str)) s') : Wp (M__law_words [.ref n, .int m, .lst (T.map .str)] s) P := wp_words31 S hk m0 hm hT h
/-- cells for some of the names -/
theorem wp_cells {s : Store} {n k : Nat} (S : SrcB s n k) (hk : k < 80000000) {ws : List Str} (hl : ws.length ≤ 20) (hn : ws.Nodup) {P : D → Store → Prop} (h : ∀ ps s', Cells ps → (∀ p ∈ ps, p.1 ∈ ws) → s'.length = s.length → SrcB s' n (k + 3 * ws.length) → P (.dic (sd ps)) s') : Wp (M__law_cells [.ref n, .lst (ws.map .str)] s) P := by
  refine wp_fn ?_
  show Ws (m__law_cells [.pu (.ref n), .pu (.lst (ws.map .str)), .no, .no, .no] s) _ P
  unfold m__law_cells p__law_cells_1 p__law_cells_1b0 p__law_cells_1b1
  (repeat (first | with_reducible refine wp_cons ?_ | with_reducible refine wp_nil ?_ | with_reducible refine wp_C ?_ | with_reducible refine wp_call ?_ | with_reducible refine wp_tup ?_ | with_reducible refine wp_lst ?_ | with_reducible refine wp_if ?_ | with_reducible refine wp_bin ?_ | with_reducible refine wp_cmp ?_ | with_reducible refine wp_ix ?_ | with_reducible refine wp_bt ?_ | with_reducible refine wp_mt ?_ | with_reducible refine wp_is ?_ | with_reducible refine wp_tru ?_ | with_reducible refine wp_not ?_ | with_reducible refine wp_or ?_ | with_reducible refine wp_and ?_ | with_reducible refine wp_rng1 ?_ | with_reducible refine wp_yes ?_ | with_reducible refine wp_lc ?_ | with_reducible refine wp_iLst ?_ | with_reducible refine wp_neg ?_ | with_reducible refine wp_isi ?_ | with_reducible refine wp_sl ?_ | with_reducible refine wp_noPart ?_ | with_reducible refine wp_part ?_ | with_reducible refine wp_rev ?_ | with_reducible refine wp_keys ?_ | with_reducible refine wp_eq2 ?_ | with_reducible refine wp_iStrD ?_ | with_reducible refine wp_dic0 ?_ | with_reducible refine wp_enum ?_ | with_reducible refine wp_eand ?_ | with_reducible refine wp_attr ?_ | with_reducible refine wp_eqO ?_ | with_reducible refine wp_ne2 ?_ | with_reducible refine wp_con ?_ | with_reducible refine wp_prop ?_ | with_reducible refine wp_enot ?_ | with_reducible refine wp_new ?_ | with_reducible refine wp_callK ?_ | with_reducible refine wp_get1 ?_ | with_reducible refine wp_get2 ?_ | with_reducible refine ws_seq ?_ | with_reducible refine ws_nil ?_ | with_reducible refine ws_set ?_ | with_reducible refine ws_ret ?_ | with_reducible refine ws_if ?_ | with_reducible refine ws_asg ?_ | with_reducible refine ws_par2 ?_ | with_reducible refine ws_par3 ?_ | with_reducible refine ws_own ?_ | with_reducible refine ws_for ?_ | with_reducible refine ws_parO ?_ | with_reducible refine ws_forV ?_ | with_reducible refine ws_put ?_ | with_reducible refine ws_clr ?_ | ((with_reducible apply ws_app); (· exact rfl)) | ((with_reducible apply ws_putO); (· exact rfl)) | ((with_reducible apply ws_frz); (· exact rfl)) | ((with_reducible apply ws_frzp); (· exact rfl)) | ((with_reducible apply wp_loc); (· exact rfl)) | ((with_reducible apply wp_rd); (· exact rfl)) | ((with_reducible apply wp_rdo); (· exact rfl)) | ((with_reducible apply wp_args); (· exact rfl); (· exact rfl); (· exact rfl))))
  refine ⟨_, rfl, ?_⟩
  refine ⟨fun ds ρ s' => ∃ (j : Nat) (ps : List (Str × D)) (t3 t4 : Slot), ds = (ws.drop j).map .str ∧ j ≤ ws.length ∧ Cells ps ∧ (∀ p ∈ ps, p.1 ∈ ws.take j) ∧ s'.length = s.length ∧ SrcB s' n (k + 3 * j) ∧ ρ = [.pu (.ref n), .pu (.lst (ws.map .str)), .ow false (.dic (sd ps)), t3, t4], ⟨0, [], _, _, rfl, Nat.zero_le _, ⟨List.nodup_nil, fun p hp => absurd hp List.not_mem_nil⟩, fun p hp => absurd hp List.not_mem_nil, rfl, S, rfl⟩, ?_, ?_⟩
  · rintro d ds ρ s1 ⟨j, ps, t3, t4, e1, hj, hc, hp, l1, S1, rfl⟩
    have hlt : j < ws.length := by
      have := congrArg List.length e1
      simp at this
      omega
    have e2 : ws.drop j = ws[j] :: ws.drop (j + 1) := List.drop_eq_getElem_cons hlt
    rw [e2, List.map_cons] at e1
    injection e1 with e3 e4
    subst e3 e4
    have htake : ws.take (j + 1) = ws.take j ++ [ws[j]] := by rw [List.take_add_one, List.getElem?_eq_getElem hlt]; rfl
    have hnew : ws[j] ∉ ps.map (·.1) := fun hm => by
      obtain ⟨p, hp1, hp2⟩ := List.mem_map.mp hm
      have h1 := hp p hp1
      rw [hp2] at h1
      have hn2 := hn
      rw [← List.take_append_drop j ws, e2, List.nodup_append] at hn2
      exact hn2.2.2 _ h1 _ List.mem_cons_self rfl
    have hpl : ps.length ≤ ws.length := by
      have := nodup_len hc.nd fun x hx => (by
        obtain ⟨p, hp1, rfl⟩ := List.mem_map.mp hx
        exact List.mem_of_mem_take (hp p hp1) : x ∈ ws)
      simpa using this
    have old : ∀ p ∈ ps, p.1 ∈ ws.take (j + 1) := fun p hp1 => by rw [htake]; exact List.mem_append_left _ (hp p hp1)
    have add : ∀ v, Val v → Cells (ps ++ [(ws[j], v)]) ∧ ∀ p ∈ ps ++ [(ws[j], v)], p.1 ∈ ws.take (j + 1) := fun v hv => by
      refine ⟨⟨?_, fun p hp1 => ?_⟩, fun p hp1 => ?_⟩
      · rw [List.map_append, List.nodup_append]
        refine ⟨hc.nd, by simp, fun a ha b hb => ?_⟩
        have hb2 : b = ws[j] := by simpa using hb
        rw [hb2]
        exact fun e => hnew (by rw [← e]; exact ha)
      · rcases List.mem_append.mp hp1 with h1 | h1
        · exact hc.val p h1
        · rw [List.mem_singleton.mp h1]; exact hv
      · rcases List.mem_append.mp hp1 with h1 | h1
        · exact old p h1
        · rw [htake]
          refine List.mem_append_right _ ?_
          have : p.1 = ws[j] := by rw [List.mem_singleton.mp h1]
          rw [this]
          exact List.mem_singleton.mpr rfl
    refine ⟨_, rfl, ?_⟩
    (repeat (first | with_reducible refine wp_cons ?_ | with_reducible refine wp_nil ?_ | with_reducible refine wp_C ?_ | with_reducible refine wp_call ?_ | with_reducible refine wp_tup ?_ | with_reducible refine wp_lst ?_ | with_reducible refine wp_if ?_ | with_reducible refine wp_bin ?_ | with_reducible refine wp_cmp ?_ | with_reducible refine wp_ix ?_ | with_reducible refine wp_bt ?_ | with_reducible refine wp_mt ?_ | with_reducible refine wp_is ?_ | with_reducible refine wp_tru ?_ | with_reducible refine wp_not ?_ | with_reducible refine wp_or ?_ | with_reducible refine wp_and ?_ | with_reducible refine wp_rng1 ?_ | with_reducible refine wp_yes ?_ | with_reducible refine wp_lc ?_ | with_reducible refine wp_iLst ?_ | with_reducible refine wp_neg ?_ | with_reducible refine wp_isi ?_ | with_reducible refine wp_sl ?_ | with_reducible refine wp_noPart ?_ | with_reducible refine wp_part ?_ | with_reducible refine wp_rev ?_ | with_reducible refine wp_keys ?_ | with_reducible refine wp_eq2 ?_ | with_reducible refine wp_iStrD ?_ | with_reducible refine wp_dic0 ?_ | with_reducible refine wp_enum ?_ | with_reducible refine wp_eand ?_ | with_reducible refine wp_attr ?_ | with_reducible refine wp_eqO ?_ | with_reducible refine wp_ne2 ?_ | with_reducible refine wp_con ?_ | with_reducible refine wp_prop ?_ | with_reducible refine wp_enot ?_ | with_reducible refine wp_new ?_ | with_reducible refine wp_callK ?_ | with_reducible refine wp_get1 ?_ | with_reducible refine wp_get2 ?_ | with_reducible refine ws_seq ?_ | with_reducible refine ws_nil ?_ | with_reducible refine ws_set ?_ | with_reducible refine ws_ret ?_ | with_reducible refine ws_if ?_ | with_reducible refine ws_asg ?_ | with_reducible refine ws_par2 ?_ | with_reducible refine ws_par3 ?_ | with_reducible refine ws_own ?_ | with_reducible refine ws_for ?_ | with_reducible refine ws_parO ?_ | with_reducible refine ws_forV ?_ | with_reducible refine ws_put ?_ | with_reducible refine ws_clr ?_ | ((with_reducible apply ws_app); (· exact rfl)) | ((with_reducible apply ws_putO); (· exact rfl)) | ((with_reducible apply ws_frz); (· exact rfl)) | ((with_reducible apply ws_frzp); (· exact rfl)) | ((with_reducible apply wp_loc); (· exact rfl)) | ((with_reducible apply wp_rd); (· exact rfl)) | ((with_reducible apply wp_rdo); (· exact rfl)) | ((with_reducible apply wp_args); (· exact rfl); (· exact rfl); (· exact rfl))))
    refine wp_draw S1 (by omega) (by decide) (by decide) fun d s2 d0 d1 l2 S2 => ?_
    (repeat (first | with_reducible refine wp_cons ?_ | with_reducible refine wp_nil ?_ | with_reducible refine wp_C ?_ | with_reducible refine wp_call ?_ | with_reducible refine wp_tup ?_ | with_reducible refine wp_lst ?_ | with_reducible refine wp_if ?_ | with_reducible refine wp_bin ?_ | with_reducible refine wp_cmp ?_ | with_reducible refine wp_ix ?_ | with_reducible refine wp_bt ?_ | with_reducible refine wp_mt ?_ | with_reducible refine wp_is ?_ | with_reducible refine wp_tru ?_ | with_reducible refine wp_not ?_ | with_reducible refine wp_or ?_ | with_reducible refine wp_and ?_ | with_reducible refine wp_rng1 ?_ | with_reducible refine wp_yes ?_ | with_reducible refine wp_lc ?_ | with_reducible refine wp_iLst ?_ | with_reducible refine wp_neg ?_ | with_reducible refine wp_isi ?_ | with_reducible refine wp_sl ?_ | with_reducible refine wp_noPart ?_ | with_reducible refine wp_part ?_ | with_reducible refine wp_rev ?_ | with_reducible refine wp_keys ?_ | with_reducible refine wp_eq2 ?_ | with_reducible refine wp_iStrD ?_ | with_reducible refine wp_dic0 ?_ | with_reducible refine wp_enum ?_ | with_reducible refine wp_eand ?_ | with_reducible refine wp_attr ?_ | with_reducible refine wp_eqO ?_ | with_reducible refine wp_ne2 ?_ | with_reducible refine wp_con ?_ | with_reducible refine wp_prop ?_ | with_reducible refine wp_enot ?_ | with_reducible refine wp_new ?_ | with_reducible refine wp_callK ?_ | with_reducible refine wp_get1 ?_ | with_reducible refine wp_get2 ?_ | with_reducible refine ws_seq ?_ | with_reducible refine ws_nil ?_ | with_reducible refine ws_set ?_ | with_reducible refine ws_ret ?_ | with_reducible refine ws_if ?_ | with_reducible refine ws_asg ?_ | with_reducible refine ws_par2 ?_ | with_reducible refine ws_par3 ?_ | with_reducible refine ws_own ?_ | with_reducible refine ws_for ?_ | with_reducible refine ws_parO ?_ | with_reducible refine ws_forV ?_ | with_reducible refine ws_put ?_ | with_reducible refine ws_clr ?_ | ((with_reducible apply ws_app); (· exact rfl)) | ((with_reducible apply ws_putO); (· exact rfl)) | ((with_reducible apply ws_frz); (· exact rfl)) | ((with_reducible apply ws_frzp); (· exact rfl)) | ((with_reducible apply wp_loc); (· exact rfl)) | ((with_reducible apply wp_rd); (· exact rfl)) | ((with_reducible apply wp_rdo); (· exact rfl)) | ((with_reducible apply wp_args); (· exact rfl); (· exact rfl); (· exact rfl))))
    refine ⟨.bl (decide (d < 3)), rfl, _, rfl, ?_⟩
    by_cases h3 : d < 3
    · rw [decide_eq_true h3, if_pos rfl]
      unfold p__law_cells_1b1t0
      (repeat (first | with_reducible refine wp_cons ?_ | with_reducible refine wp_nil ?_ | with_reducible refine wp_C ?_ | with_reducible refine wp_call ?_ | with_reducible refine wp_tup ?_ | with_reducible refine wp_lst ?_ | with_reducible refine wp_if ?_ | with_reducible refine wp_bin ?_ | with_reducible refine wp_cmp ?_ | with_reducible refine wp_ix ?_ | with_reducible refine wp_bt ?_ | with_reducible refine wp_mt ?_ | with_reducible refine wp_is ?_ | with_reducible refine wp_tru ?_ | with_reducible refine wp_not ?_ | with_reducible refine wp_or ?_ | with_reducible refine wp_and ?_ | with_reducible refine wp_rng1 ?_ | with_reducible refine wp_yes ?_ | with_reducible refine wp_lc ?_ | with_reducible refine wp_iLst ?_ | with_reducible refine wp_neg ?_ | with_reducible refine wp_isi ?_ | with_reducible refine wp_sl ?_ | with_reducible refine wp_noPart ?_ | with_reducible refine wp_part ?_ | with_reducible refine wp_rev ?_ | with_reducible refine wp_keys ?_ | with_reducible refine wp_eq2 ?_ | with_reducible refine wp_iStrD ?_ | with_reducible refine wp_dic0 ?_ | with_reducible refine wp_enum ?_ | with_reducible refine wp_eand ?_ | with_reducible refine wp_attr ?_ | with_reducible refine wp_eqO ?_ | with_reducible refine wp_ne2 ?_ | with_reducible refine wp_con ?_ | with_reducible refine wp_prop ?_ | with_reducible refine wp_enot ?_ | with_reducible refine wp_new ?_ | with_reducible refine wp_callK ?_ | with_reducible refine wp_get1 ?_ | with_reducible refine wp_get2 ?_ | with_reducible refine ws_seq ?_ | with_reducible refine ws_nil ?_ | with_reducible refine ws_set ?_ | with_reducible refine ws_ret ?_ | with_reducible refine ws_if ?_ | with_reducible refine ws_asg ?_ | with_reducible refine ws_par2 ?_ | with_reducible refine ws_par3 ?_ | with_reducible refine ws_own ?_ | with_reducible refine ws_for ?_ | with_reducible refine ws_parO ?_ | with_reducible refine ws_forV ?_ | with_reducible refine ws_put ?_ | with_reducible refine ws_clr ?_ | ((with_reducible apply ws_app); (· exact rfl)) | ((with_reducible apply ws_putO); (· exact rfl)) | ((with_reducible apply ws_frz); (· exact rfl)) | ((with_reducible apply ws_frzp); (· exact rfl)) | ((with_reducible apply wp_loc); (· exact rfl)) | ((with_reducible apply wp_rd); (· exact rfl)) | ((with_reducible apply wp_rdo); (· exact rfl)) | ((with_reducible apply wp_args); (· exact rfl); (· exact rfl); (· exact rfl))))
      refine ⟨.int (10 ^ 40), by kernel_rfl, ?_⟩
      (repeat (first | with_reducible refine wp_cons ?_ | with_reducible refine wp_nil ?_ | with_reducible refine wp_C ?_ | with_reducible refine wp_call ?_ | with_reducible refine wp_tup ?_ | with_reducible refine wp_lst ?_ | with_reducible refine wp_if ?_ | with_reducible refine wp_bin ?_ | with_reducible refine wp_cmp ?_ | with_reducible refine wp_ix ?_ | with_reducible refine wp_bt ?_ | with_reducible refine wp_mt ?_ | with_reducible refine wp_is ?_ | with_reducible refine wp_tru ?_ | with_reducible refine wp_not ?_ | with_reducible refine wp_or ?_ | with_reducible refine wp_and ?_ | with_reducible refine wp_rng1 ?_ | with_reducible refine wp_yes ?_ | with_reducible refine wp_lc ?_ | with_reducible refine wp_iLst ?_ | with_reducible refine wp_neg ?_ | with_reducible refine wp_isi ?_ | with_reducible refine wp_sl ?_ | with_reducible refine wp_noPart ?_ | with_reducible refine wp_part ?_ | with_reducible refine wp_rev ?_ | with_reducible refine wp_keys ?_ | with_reducible refine wp_eq2 ?_ | with_reducible refine wp_iStrD ?_ | with_reducible refine wp_dic0 ?_ | with_reducible refine wp_enum ?_ | with_reducible refine wp_eand ?_ | with_reducible refine wp_attr ?_ | with_reducible refine wp_eqO ?_ | with_reducible refine wp_ne2 ?_ | with_reducible refine wp_con ?_ | with_reducible refine wp_prop ?_ | with_reducible refine wp_enot ?_ | with_reducible refine wp_new ?_ | with_reducible refine wp_callK ?_ | with_reducible refine wp_get1 ?_ | with_reducible refine wp_get2 ?_ | with_reducible refine ws_seq ?_ | with_reducible refine ws_nil ?_ | with_reducible refine ws_set ?_ | with_reducible refine ws_ret ?_ | with_reducible refine ws_if ?_ | with_reducible refine ws_asg ?_ | with_reducible refine ws_par2 ?_ | with_reducible refine ws_par3 ?_ | with_reducible refine ws_own ?_ | with_reducible refine ws_for ?_ | with_reducible refine ws_parO ?_ | with_reducible refine ws_forV ?_ | with_reducible refine ws_put ?_ | with_reducible refine ws_clr ?_ | ((with_reducible apply ws_app); (· exact rfl)) | ((with_reducible apply ws_putO); (· exact rfl)) | ((with_reducible apply ws_frz); (· exact rfl)) | ((with_reducible apply ws_frzp); (· exact rfl)) | ((with_reducible apply wp_loc); (· exact rfl)) | ((with_reducible apply wp_rd); (· exact rfl)) | ((with_reducible apply wp_rdo); (· exact rfl)) | ((with_reducible apply wp_args); (· exact rfl); (· exact rfl); (· exact rfl))))
      refine wp_number S2 (by omega) (by decide) (by decide) fun i s3 l3 S3 _ => ?_
      (repeat (first | with_reducible refine wp_cons ?_ | with_reducible refine wp_nil ?_ | with_reducible refine wp_C ?_ | with_reducible refine wp_call ?_ | with_reducible refine wp_tup ?_ | with_reducible refine wp_lst ?_ | with_reducible refine wp_if ?_ | with_reducible refine wp_bin ?_ | with_reducible refine wp_cmp ?_ | with_reducible refine wp_ix ?_ | with_reducible refine wp_bt ?_ | with_reducible refine wp_mt ?_ | with_reducible refine wp_is ?_ | with_reducible refine wp_tru ?_ | with_reducible refine wp_not ?_ | with_reducible refine wp_or ?_ | with_reducible refine wp_and ?_ | with_reducible refine wp_rng1 ?_ | with_reducible refine wp_yes ?_ | with_reducible refine wp_lc ?_ | with_reducible refine wp_iLst ?_ | with_reducible refine wp_neg ?_ | with_reducible refine wp_isi ?_ | with_reducible refine wp_sl ?_ | with_reducible refine wp_noPart ?_ | with_reducible refine wp_part ?_ | with_reducible refine wp_rev ?_ | with_reducible refine wp_keys ?_ | with_reducible refine wp_eq2 ?_ | with_reducible refine wp_iStrD ?_ | with_reducible refine wp_dic0 ?_ | with_reducible refine wp_enum ?_ | with_reducible refine wp_eand ?_ | with_reducible refine wp_attr ?_ | with_reducible refine wp_eqO ?_ | with_reducible refine wp_ne2 ?_ | with_reducible refine wp_con ?_ | with_reducible refine wp_prop ?_ | with_reducible refine wp_enot ?_ | with_reducible refine wp_new ?_ | with_reducible refine wp_callK ?_ | with_reducible refine wp_get1 ?_ | with_reducible refine wp_get2 ?_ | with_reducible refine ws_seq ?_ | with_reducible refine ws_nil ?_ | with_reducible refine ws_set ?_ | with_reducible refine ws_ret ?_ | with_reducible refine ws_if ?_ | with_reducible refine ws_asg ?_ | with_reducible refine ws_par2 ?_ | with_reducible refine ws_par3 ?_ | with_reducible refine ws_own ?_ | with_reducible refine ws_for ?_ | with_reducible refine ws_parO ?_ | with_reducible refine ws_forV ?_ | with_reducible refine ws_put ?_ | with_reducible refine ws_clr ?_ | ((with_reducible apply ws_app); (· exact rfl)) | ((with_reducible apply ws_putO); (· exact rfl)) | ((with_reducible apply ws_frz); (· exact rfl)) | ((with_reducible apply ws_frzp); (· exact rfl)) | ((with_reducible apply wp_loc); (· exact rfl)) | ((with_reducible apply wp_rd); (· exact rfl)) | ((with_reducible apply wp_rdo); (· exact rfl)) | ((with_reducible apply wp_args); (· exact rfl); (· exact rfl); (· exact rfl))))
      obtain ⟨c1, c2⟩ := add (.int i) (.inr ⟨i, rfl⟩)
      exact ⟨_, sd_put_new hnew (by unfold line; omega), j + 1, _, _, _, rfl, by omega, c1, c2, l3.trans (l2.trans l1), S3.mono (by omega), rfl⟩
    · rw [decide_eq_false h3, if_neg Bool.false_ne_true]
      unfold p__law_cells_1b1e0
      (repeat (first | with_reducible refine wp_cons ?_ | with_reducible refine wp_nil ?_ | with_reducible refine wp_C ?_ | with_reducible refine wp_call ?_ | with_reducible refine wp_tup ?_ | with_reducible refine wp_lst ?_ | with_reducible refine wp_if ?_ | with_reducible refine wp_bin ?_ | with_reducible refine wp_cmp ?_ | with_reducible refine wp_ix ?_ | with_reducible refine wp_bt ?_ | with_reducible refine wp_mt ?_ | with_reducible refine wp_is ?_ | with_reducible refine wp_tru ?_ | with_reducible refine wp_not ?_ | with_reducible refine wp_or ?_ | with_reducible refine wp_and ?_ | with_reducible refine wp_rng1 ?_ | with_reducible refine wp_yes ?_ | with_reducible refine wp_lc ?_ | with_reducible refine wp_iLst ?_ | with_reducible refine wp_neg ?_ | with_reducible refine wp_isi ?_ | with_reducible refine wp_sl ?_ | with_reducible refine wp_noPart ?_ | with_reducible refine wp_part ?_ | with_reducible refine wp_rev ?_ | with_reducible refine wp_keys ?_ | with_reducible refine wp_eq2 ?_ | with_reducible refine wp_iStrD ?_ | with_reducible refine wp_dic0 ?_ | with_reducible refine wp_enum ?_ | with_reducible refine wp_eand ?_ | with_reducible refine wp_attr ?_ | with_reducible refine wp_eqO ?_ | with_reducible refine wp_ne2 ?_ | with_reducible refine wp_con ?_ | with_reducible refine wp_prop ?_ | with_reducible refine wp_enot ?_ | with_reducible refine wp_new ?_ | with_reducible refine wp_callK ?_ | with_reducible refine wp_get1 ?_ | with_reducible refine wp_get2 ?_ | with_reducible refine ws_seq ?_ | with_reducible refine ws_nil ?_ | with_reducible refine ws_set ?_ | with_reducible refine ws_ret ?_ | with_reducible refine ws_if ?_ | with_reducible refine ws_asg ?_ | with_reducible refine ws_par2 ?_ | with_reducible refine ws_par3 ?_ | with_reducible refine ws_own ?_ | with_reducible refine ws_for ?_ | with_reducible refine ws_parO ?_ | with_reducible refine ws_forV ?_ | with_reducible refine ws_put ?_ | with_reducible refine ws_clr ?_ | ((with_reducible apply ws_app); (· exact rfl)) | ((with_reducible apply ws_putO); (· exact rfl)) | ((with_reducible apply ws_frz); (· exact rfl)) | ((with_reducible apply ws_frzp); (· exact rfl)) | ((with_reducible apply wp_loc); (· exact rfl)) | ((with_reducible apply wp_rd); (· exact rfl)) | ((with_reducible apply wp_rdo); (· exact rfl)) | ((with_reducible apply wp_args); (· exact rfl); (· exact rfl); (· exact rfl))))
      refine ⟨.bl (d == 3), rfl, _, rfl, ?_⟩
      cases (d == 3) with
      | true =>
        rw [if_pos rfl]
        (repeat (first | with_reducible refine wp_cons ?_ | with_reducible refine wp_nil ?_ | with_reducible refine wp_C ?_ | with_reducible refine wp_call ?_ | with_reducible refine wp_tup ?_ | with_reducible refine wp_lst ?_ | with_reducible refine wp_if ?_ | with_reducible refine wp_bin ?_ | with_reducible refine wp_cmp ?_ | with_reducible refine wp_ix ?_ | with_reducible refine wp_bt ?_ | with_reducible refine wp_mt ?_ | with_reducible refine wp_is ?_ | with_reducible refine wp_tru ?_ | with_reducible refine wp_not ?_ | with_reducible refine wp_or ?_ | with_reducible refine wp_and ?_ | with_reducible refine wp_rng1 ?_ | with_reducible refine wp_yes ?_ | with_reducible refine wp_lc ?_ | with_reducible refine wp_iLst ?_ | with_reducible refine wp_neg ?_ | with_reducible refine wp_isi ?_ | with_reducible refine wp_sl ?_ | with_reducible refine wp_noPart ?_ | with_reducible refine wp_part ?_ | with_reducible refine wp_rev ?_ | with_reducible refine wp_keys ?_ | with_reducible refine wp_eq2 ?_ | with_reducible refine wp_iStrD ?_ | with_reducible refine wp_dic0 ?_ | with_reducible refine wp_enum ?_ | with_reducible refine wp_eand ?_ | with_reducible refine wp_attr ?_ | with_reducible refine wp_eqO ?_ | with_reducible refine wp_ne2 ?_ | with_reducible refine wp_con ?_ | with_reducible refine wp_prop ?_ | with_reducible refine wp_enot ?_ | with_reducible refine wp_new ?_ | with_reducible refine wp_callK ?_ | with_reducible refine wp_get1 ?_ | with_reducible refine wp_get2 ?_ | with_reducible refine ws_seq ?_ | with_reducible refine ws_nil ?_ | with_reducible refine ws_set ?_ | with_reducible refine ws_ret ?_ | with_reducible refine ws_if ?_ | with_reducible refine ws_asg ?_ | with_reducible refine ws_par2 ?_ | with_reducible refine ws_par3 ?_ | with_reducible refine ws_own ?_ | with_reducible refine ws_for ?_ | with_reducible refine ws_parO ?_ | with_reducible refine ws_forV ?_ | with_reducible refine ws_put ?_ | with_reducible refine ws_clr ?_ | ((with_reducible apply ws_app); (· exact rfl)) | ((with_reducible apply ws_putO); (· exact rfl)) | ((with_reducible apply ws_frz); (· exact rfl)) | ((with_reducible apply ws_frzp); (· exact rfl)) | ((with_reducible apply wp_loc); (· exact rfl)) | ((with_reducible apply wp_rd); (· exact rfl)) | ((with_reducible apply wp_rdo); (· exact rfl)) | ((with_reducible apply wp_args); (· exact rfl); (· exact rfl); (· exact rfl))))
        obtain ⟨c1, c2⟩ := add .non (.inl rfl)
        exact ⟨_, sd_put_new hnew (by unfold line; omega), j + 1, _, _, _, rfl, by omega, c1, c2, l2.trans l1, S2.mono (by omega), rfl⟩
      | false =>
        rw [if_neg Bool.false_ne_true]
        (repeat (first | with_reducible refine wp_cons ?_ | with_reducible refine wp_nil ?_ | with_reducible refine wp_C ?_ | with_reducible refine wp_call ?_ | with_reducible refine wp_tup ?_ | with_reducible refine wp_lst ?_ | with_reducible refine wp_if ?_ | with_reducible refine wp_bin ?_ | with_reducible refine wp_cmp ?_ | with_reducible refine wp_ix ?_ | with_reducible refine wp_bt ?_ | with_reducible refine wp_mt ?_ | with_reducible refine wp_is ?_ | with_reducible refine wp_tru ?_ | with_reducible refine wp_not ?_ | with_reducible refine wp_or ?_ | with_reducible refine wp_and ?_ | with_reducible refine wp_rng1 ?_ | with_reducible refine wp_yes ?_ | with_reducible refine wp_lc ?_ | with_reducible refine wp_iLst ?_ | with_reducible refine wp_neg ?_ | with_reducible refine wp_isi ?_ | with_reducible refine wp_sl ?_ | with_reducible refine wp_noPart ?_ | with_reducible refine wp_part ?_ | with_reducible refine wp_rev ?_ | with_reducible refine wp_keys ?_ | with_reducible refine wp_eq2 ?_ | with_reducible refine wp_iStrD ?_ | with_reducible refine wp_dic0 ?_ | with_reducible refine wp_enum ?_ | with_reducible refine wp_eand ?_ | with_reducible refine wp_attr ?_ | with_reducible refine wp_eqO ?_ | with_reducible refine wp_ne2 ?_ | with_reducible refine wp_con ?_ | with_reducible refine wp_prop ?_ | with_reducible refine wp_enot ?_ | with_reducible refine wp_new ?_ | with_reducible refine wp_callK ?_ | with_reducible refine wp_get1 ?_ | with_reducible refine wp_get2 ?_ | with_reducible refine ws_seq ?_ | with_reducible refine ws_nil ?_ | with_reducible refine ws_set ?_ | with_reducible refine ws_ret ?_ | with_reducible refine ws_if ?_ | with_reducible refine ws_asg ?_ | with_reducible refine ws_par2 ?_ | with_reducible refine ws_par3 ?_ | with_reducible refine ws_own ?_ | with_reducible refine ws_for ?_ | with_reducible refine ws_parO ?_ | with_reducible refine ws_forV ?_ | with_reducible refine ws_put ?_ | with_reducible refine ws_clr ?_ | ((with_reducible apply ws_app); (· exact rfl)) | ((with_reducible apply ws_putO); (· exact rfl)) | ((with_reducible apply ws_frz); (· exact rfl)) | ((with_reducible apply ws_frzp); (· exact rfl)) | ((with_reducible apply wp_loc); (· exact rfl)) | ((with_reducible apply wp_rd); (· exact rfl)) | ((with_reducible apply wp_rdo); (· exact rfl)) | ((with_reducible apply wp_args); (· exact rfl); (· exact rfl); (· exact rfl))))
        exact ⟨j + 1, ps, _, _, rfl, by omega, hc, old, l2.trans l1, S2.mono (by omega), rfl⟩
  · rintro ρ s1 ⟨j, ps, t3, t4, e1, hj, hc, hp, l1, S1, rfl⟩
    (repeat (first | with_reducible refine wp_cons ?_ | with_reducible refine wp_nil ?_ | with_reducible refine wp_C ?_ | with_reducible refine wp_call ?_ | with_reducible refine wp_tup ?_ | with_reducible refine wp_lst ?_ | with_reducible refine wp_if ?_ | with_reducible refine wp_bin ?_ | with_reducible refine wp_cmp ?_ | with_reducible refine wp_ix ?_ | with_reducible refine wp_bt ?_ | with_reducible refine wp_mt ?_ | with_reducible refine wp_is ?_ | with_reducible refine wp_tru ?_ | with_reducible refine wp_not ?_ | with_reducible refine wp_or ?_ | with_reducible refine wp_and ?_ | with_reducible refine wp_rng1 ?_ | with_reducible refine wp_yes ?_ | with_reducible refine wp_lc ?_ | with_reducible refine wp_iLst ?_ | with_reducible refine wp_neg ?_ | with_reducible refine wp_isi ?_ | with_reducible refine wp_sl ?_ | with_reducible refine wp_noPart ?_ | with_reducible refine wp_part ?_ | with_reducible refine wp_rev ?_ | with_reducible refine wp_keys ?_ | with_reducible refine wp_eq2 ?_ | with_reducible refine wp_iStrD ?_ | with_reducible refine wp_dic0 ?_ | with_reducible refine wp_enum ?_ | with_reducible refine wp_eand ?_ | with_reducible refine wp_attr ?_ | with_reducible refine wp_eqO ?_ | with_reducible refine wp_ne2 ?_ | with_reducible refine wp_con ?_ | with_reducible refine wp_prop ?_ | with_reducible refine wp_enot ?_ | with_reducible refine wp_new ?_ | with_reducible refine wp_callK ?_ | with_reducible refine wp_get1 ?_ | with_reducible refine wp_get2 ?_ | with_reducible refine ws_seq ?_ | with_reducible refine ws_nil ?_ | with_reducible refine ws_set ?_ | with_reducible refine ws_ret ?_ | with_reducible refine ws_if ?_ | with_reducible refine ws_asg ?_ | with_reducible refine ws_par2 ?_ | with_reducible refine ws_par3 ?_ | with_reducible refine ws_own ?_ | with_reducible refine ws_for ?_ | with_reducible refine ws_parO ?_ | with_reducible refine ws_forV ?_ | with_reducible refine ws_put ?_ | with_reducible refine ws_clr ?_ | ((with_reducible apply ws_app); (· exact rfl)) | ((with_reducible apply ws_putO); (· exact rfl)) | ((with_reducible apply ws_frz); (· exact rfl)) | ((with_reducible apply ws_frzp); (· exact rfl)) | ((with_reducible apply wp_loc); (· exact rfl)) | ((with_reducible apply wp_rd); (· exact rfl)) | ((with_reducible apply wp_rdo); (· exact rfl)) | ((with_reducible apply wp_args); (· exact rfl); (· exact rfl); (· exact rfl))))
    exact h ps s1 hc (fun p hp1 => List.mem_of_mem_take (hp p hp1)) l1 (S1.mono (by omega))
end Dn

namespace Dn
open PySem PySem.Spec L2
open PyProof.Rows hiding St RelV
theorem is_int_ok (i : Int) (s : Store) : M__law_is_integer [.int i] s = .ok (.bl true) s := by kernel_rfl
theorem view0 (ps : List (Str × D)) : viewD 0 (sd ps) = ps.map fun p => D.str p.1 := by
  show (sd ps).map (·.1) = _
  rw [List.map_map]
  rfl
theorem is_row_ok {ps : List (Str × D)} (hc : Cells ps) (hl : ps.length < 64) (t : D) (s : Store) (ht : der s t = .dic (sd ps)) : M__law_is_row [t, .dic (sd ps)] s = .ok (.bl true) s := by
  refine wp_get (wp_fn ?_)
  show Ws (m__law_is_row [.pu t, .pu (.dic (sd ps)), .no] s) _ _
  unfold m__law_is_row p__law_is_row_0 p__law_is_row_1 p__law_is_row_2 p__law_is_row_2b0
  (repeat (first | with_reducible refine wp_cons ?_ | with_reducible refine wp_nil ?_ | with_reducible refine wp_C ?_ | with_reducible refine wp_call ?_ | with_reducible refine wp_tup ?_ | with_reducible refine wp_lst ?_ | with_reducible refine wp_if ?_ | with_reducible refine wp_bin ?_ | with_reducible refine wp_cmp ?_ | with_reducible refine wp_ix ?_ | with_reducible refine wp_bt ?_ | with_reducible refine wp_mt ?_ | with_reducible refine wp_is ?_ | with_reducible refine wp_tru ?_ | with_reducible refine wp_not ?_ | with_reducible refine wp_or ?_ | with_reducible refine wp_and ?_ | with_reducible refine wp_rng1 ?_ | with_reducible refine wp_yes ?_ | with_reducible refine wp_lc ?_ | with_reducible refine wp_iLst ?_ | with_reducible refine wp_neg ?_ | with_reducible refine wp_isi ?_ | with_reducible refine wp_sl ?_ | with_reducible refine wp_noPart ?_ | with_reducible refine wp_part ?_ | with_reducible refine wp_rev ?_ | with_reducible refine wp_keys ?_ | with_reducible refine wp_eq2 ?_ | with_reducible refine wp_iStrD ?_ | with_reducible refine wp_dic0 ?_ | with_reducible refine wp_enum ?_ | with_reducible refine wp_eand ?_ | with_reducible refine wp_attr ?_ | with_reducible refine wp_eqO ?_ | with_reducible refine wp_ne2 ?_ | with_reducible refine wp_con ?_ | with_reducible refine wp_prop ?_ | with_reducible refine wp_enot ?_ | with_reducible refine wp_new ?_ | with_reducible refine wp_callK ?_ | with_reducible refine wp_get1 ?_ | with_reducible refine wp_get2 ?_ | with_reducible refine ws_seq ?_ | with_reducible refine ws_nil ?_ | with_reducible refine ws_set ?_ | with_reducible refine ws_ret ?_ | with_reducible refine ws_if ?_ | with_reducible refine ws_asg ?_ | with_reducible refine ws_par2 ?_ | with_reducible refine ws_par3 ?_ | with_reducible refine ws_own ?_ | with_reducible refine ws_for ?_ | with_reducible refine ws_parO ?_ | with_reducible refine ws_forV ?_ | with_reducible refine ws_put ?_ | with_reducible refine ws_clr ?_ | ((with_reducible apply ws_app); (· exact rfl)) | ((with_reducible apply ws_putO); (· exact rfl)) | ((with_reducible apply ws_frz); (· exact rfl)) | ((with_reducible apply ws_frzp); (· exact rfl)) | ((with_reducible apply wp_loc); (· exact rfl)) | ((with_reducible apply wp_rd); (· exact rfl)) | ((with_reducible apply wp_rdo); (· exact rfl)) | ((with_reducible apply wp_args); (· exact rfl); (· exact rfl); (· exact rfl))))
  refine ⟨.bl false, rfl, false, rfl, ?_⟩
  rw [if_neg Bool.false_ne_true]
  (repeat (first | with_reducible refine wp_cons ?_ | with_reducible refine wp_nil ?_ | with_reducible refine wp_C ?_ | with_reducible refine wp_call ?_ | with_reducible refine wp_tup ?_ | with_reducible refine wp_lst ?_ | with_reducible refine wp_if ?_ | with_reducible refine wp_bin ?_ | with_reducible refine wp_cmp ?_ | with_reducible refine wp_ix ?_ | with_reducible refine wp_bt ?_ | with_reducible refine wp_mt ?_ | with_reducible refine wp_is ?_ | with_reducible refine wp_tru ?_ | with_reducible refine wp_not ?_ | with_reducible refine wp_or ?_ | with_reducible refine wp_and ?_ | with_reducible refine wp_rng1 ?_ | with_reducible refine wp_yes ?_ | with_reducible refine wp_lc ?_ | with_reducible refine wp_iLst ?_ | with_reducible refine wp_neg ?_ | with_reducible refine wp_isi ?_ | with_reducible refine wp_sl ?_ | with_reducible refine wp_noPart ?_ | with_reducible refine wp_part ?_ | with_reducible refine wp_rev ?_ | with_reducible refine wp_keys ?_ | with_reducible refine wp_eq2 ?_ | with_reducible refine wp_iStrD ?_ | with_reducible refine wp_dic0 ?_ | with_reducible refine wp_enum ?_ | with_reducible refine wp_eand ?_ | with_reducible refine wp_attr ?_ | with_reducible refine wp_eqO ?_ | with_reducible refine wp_ne2 ?_ | with_reducible refine wp_con ?_ | with_reducible refine wp_prop ?_ | with_reducible refine wp_enot ?_ | with_reducible refine wp_new ?_ | with_reducible refine wp_callK ?_ | with_reducible refine wp_get1 ?_ | with_reducible refine wp_get2 ?_ | with_reducible refine ws_seq ?_ | with_reducible refine ws_nil ?_ | with_reducible refine ws_set ?_ | with_reducible refine ws_ret ?_ | with_reducible refine ws_if ?_ | with_reducible refine ws_asg ?_ | with_reducible refine ws_par2 ?_ | with_reducible refine ws_par3 ?_ | with_reducible refine ws_own ?_ | with_reducible refine ws_for ?_ | with_reducible refine ws_parO ?_ | with_reducible refine ws_forV ?_ | with_reducible refine ws_put ?_ | with_reducible refine ws_clr ?_ | ((with_reducible apply ws_app); (· exact rfl)) | ((with_reducible apply ws_putO); (· exact rfl)) | ((with_reducible apply ws_frz); (· exact rfl)) | ((with_reducible apply ws_frzp); (· exact rfl)) | ((with_reducible apply wp_loc); (· exact rfl)) | ((with_reducible apply wp_rd); (· exact rfl)) | ((with_reducible apply wp_rdo); (· exact rfl)) | ((with_reducible apply wp_args); (· exact rfl); (· exact rfl); (· exact rfl))))
  refine ⟨.bl false, by rw [ht]; rfl, false, rfl, ?_⟩
  rw [if_neg Bool.false_ne_true]
  (repeat (first | with_reducible refine wp_cons ?_ | with_reducible refine wp_nil ?_ | with_reducible refine wp_C ?_ | with_reducible refine wp_call ?_ | with_reducible refine wp_tup ?_ | with_reducible refine wp_lst ?_ | with_reducible refine wp_if ?_ | with_reducible refine wp_bin ?_ | with_reducible refine wp_cmp ?_ | with_reducible refine wp_ix ?_ | with_reducible refine wp_bt ?_ | with_reducible refine wp_mt ?_ | with_reducible refine wp_is ?_ | with_reducible refine wp_tru ?_ | with_reducible refine wp_not ?_ | with_reducible refine wp_or ?_ | with_reducible refine wp_and ?_ | with_reducible refine wp_rng1 ?_ | with_reducible refine wp_yes ?_ | with_reducible refine wp_lc ?_ | with_reducible refine wp_iLst ?_ | with_reducible refine wp_neg ?_ | with_reducible refine wp_isi ?_ | with_reducible refine wp_sl ?_ | with_reducible refine wp_noPart ?_ | with_reducible refine wp_part ?_ | with_reducible refine wp_rev ?_ | with_reducible refine wp_keys ?_ | with_reducible refine wp_eq2 ?_ | with_reducible refine wp_iStrD ?_ | with_reducible refine wp_dic0 ?_ | with_reducible refine wp_enum ?_ | with_reducible refine wp_eand ?_ | with_reducible refine wp_attr ?_ | with_reducible refine wp_eqO ?_ | with_reducible refine wp_ne2 ?_ | with_reducible refine wp_con ?_ | with_reducible refine wp_prop ?_ | with_reducible refine wp_enot ?_ | with_reducible refine wp_new ?_ | with_reducible refine wp_callK ?_ | with_reducible refine wp_get1 ?_ | with_reducible refine wp_get2 ?_ | with_reducible refine ws_seq ?_ | with_reducible refine ws_nil ?_ | with_reducible refine ws_set ?_ | with_reducible refine ws_ret ?_ | with_reducible refine ws_if ?_ | with_reducible refine ws_asg ?_ | with_reducible refine ws_par2 ?_ | with_reducible refine ws_par3 ?_ | with_reducible refine ws_own ?_ | with_reducible refine ws_for ?_ | with_reducible refine ws_parO ?_ | with_reducible refine ws_forV ?_ | with_reducible refine ws_put ?_ | with_reducible refine ws_clr ?_ | ((with_reducible apply ws_app); (· exact rfl)) | ((with_reducible apply ws_putO); (· exact rfl)) | ((with_reducible apply ws_frz); (· exact rfl)) | ((with_reducible apply ws_frzp); (· exact rfl)) | ((with_reducible apply wp_loc); (· exact rfl)) | ((with_reducible apply wp_rd); (· exact rfl)) | ((with_reducible apply wp_rdo); (· exact rfl)) | ((with_reducible apply wp_args); (· exact rfl); (· exact rfl); (· exact rfl))))
  refine ⟨.bl true, by rw [ht]; rfl, true, rfl, ?_⟩
  rw [show (!true) = false from rfl, if_neg Bool.false_ne_true]
  (repeat (first | with_reducible refine wp_cons ?_ | with_reducible refine wp_nil ?_ | with_reducible refine wp_C ?_ | with_reducible refine wp_call ?_ | with_reducible refine wp_tup ?_ | with_reducible refine wp_lst ?_ | with_reducible refine wp_if ?_ | with_reducible refine wp_bin ?_ | with_reducible refine wp_cmp ?_ | with_reducible refine wp_ix ?_ | with_reducible refine wp_bt ?_ | with_reducible refine wp_mt ?_ | with_reducible refine wp_is ?_ | with_reducible refine wp_tru ?_ | with_reducible refine wp_not ?_ | with_reducible refine wp_or ?_ | with_reducible refine wp_and ?_ | with_reducible refine wp_rng1 ?_ | with_reducible refine wp_yes ?_ | with_reducible refine wp_lc ?_ | with_reducible refine wp_iLst ?_ | with_reducible refine wp_neg ?_ | with_reducible refine wp_isi ?_ | with_reducible refine wp_sl ?_ | with_reducible refine wp_noPart ?_ | with_reducible refine wp_part ?_ | with_reducible refine wp_rev ?_ | with_reducible refine wp_keys ?_ | with_reducible refine wp_eq2 ?_ | with_reducible refine wp_iStrD ?_ | with_reducible refine wp_dic0 ?_ | with_reducible refine wp_enum ?_ | with_reducible refine wp_eand ?_ | with_reducible refine wp_attr ?_ | with_reducible refine wp_eqO ?_ | with_reducible refine wp_ne2 ?_ | with_reducible refine wp_con ?_ | with_reducible refine wp_prop ?_ | with_reducible refine wp_enot ?_ | with_reducible refine wp_new ?_ | with_reducible refine wp_callK ?_ | with_reducible refine wp_get1 ?_ | with_reducible refine wp_get2 ?_ | with_reducible refine ws_seq ?_ | with_reducible refine ws_nil ?_ | with_reducible refine ws_set ?_ | with_reducible refine ws_ret ?_ | with_reducible refine ws_if ?_ | with_reducible refine ws_asg ?_ | with_reducible refine ws_par2 ?_ | with_reducible refine ws_par3 ?_ | with_reducible refine ws_own ?_ | with_reducible refine ws_for ?_ | with_reducible refine ws_parO ?_ | with_reducible refine ws_forV ?_ | with_reducible refine ws_put ?_ | with_reducible refine ws_clr ?_ | ((with_reducible apply ws_app); (· exact rfl)) | ((with_reducible apply ws_putO); (· exact rfl)) | ((with_reducible apply ws_frz); (· exact rfl)) | ((with_reducible apply ws_frzp); (· exact rfl)) | ((with_reducible apply wp_loc); (· exact rfl)) | ((with_reducible apply wp_rd); (· exact rfl)) | ((with_reducible apply wp_rdo); (· exact rfl)) | ((with_reducible apply wp_args); (· exact rfl); (· exact rfl); (· exact rfl))))
  refine ⟨_, by rw [ht]; exact keys_sd ps, ?_⟩
  (repeat (first | with_reducible refine wp_cons ?_ | with_reducible refine wp_nil ?_ | with_reducible refine wp_C ?_ | with_reducible refine wp_call ?_ | with_reducible refine wp_tup ?_ | with_reducible refine wp_lst ?_ | with_reducible refine wp_if ?_ | with_reducible refine wp_bin ?_ | with_reducible refine wp_cmp ?_ | with_reducible refine wp_ix ?_ | with_reducible refine wp_bt ?_ | with_reducible refine wp_mt ?_ | with_reducible refine wp_is ?_ | with_reducible refine wp_tru ?_ | with_reducible refine wp_not ?_ | with_reducible refine wp_or ?_ | with_reducible refine wp_and ?_ | with_reducible refine wp_rng1 ?_ | with_reducible refine wp_yes ?_ | with_reducible refine wp_lc ?_ | with_reducible refine wp_iLst ?_ | with_reducible refine wp_neg ?_ | with_reducible refine wp_isi ?_ | with_reducible refine wp_sl ?_ | with_reducible refine wp_noPart ?_ | with_reducible refine wp_part ?_ | with_reducible refine wp_rev ?_ | with_reducible refine wp_keys ?_ | with_reducible refine wp_eq2 ?_ | with_reducible refine wp_iStrD ?_ | with_reducible refine wp_dic0 ?_ | with_reducible refine wp_enum ?_ | with_reducible refine wp_eand ?_ | with_reducible refine wp_attr ?_ | with_reducible refine wp_eqO ?_ | with_reducible refine wp_ne2 ?_ | with_reducible refine wp_con ?_ | with_reducible refine wp_prop ?_ | with_reducible refine wp_enot ?_ | with_reducible refine wp_new ?_ | with_reducible refine wp_callK ?_ | with_reducible refine wp_get1 ?_ | with_reducible refine wp_get2 ?_ | with_reducible refine ws_seq ?_ | with_reducible refine ws_nil ?_ | with_reducible refine ws_set ?_ | with_reducible refine ws_ret ?_ | with_reducible refine ws_if ?_ | with_reducible refine ws_asg ?_ | with_reducible refine ws_par2 ?_ | with_reducible refine ws_par3 ?_ | with_reducible refine ws_own ?_ | with_reducible refine ws_for ?_ | with_reducible refine ws_parO ?_ | with_reducible refine ws_forV ?_ | with_reducible refine ws_put ?_ | with_reducible refine ws_clr ?_ | ((with_reducible apply ws_app); (· exact rfl)) | ((with_reducible apply ws_putO); (· exact rfl)) | ((with_reducible apply ws_frz); (· exact rfl)) | ((with_reducible apply ws_frzp); (· exact rfl)) | ((with_reducible apply wp_loc); (· exact rfl)) | ((with_reducible apply wp_rd); (· exact rfl)) | ((with_reducible apply wp_rdo); (· exact rfl)) | ((with_reducible apply wp_args); (· exact rfl); (· exact rfl); (· exact rfl))))
  refine ⟨_, sort_strs _ (by rw [List.length_map]; exact hl), ?_⟩
  (repeat (first | with_reducible refine wp_cons ?_ | with_reducible refine wp_nil ?_ | with_reducible refine wp_C ?_ | with_reducible refine wp_call ?_ | with_reducible refine wp_tup ?_ | with_reducible refine wp_lst ?_ | with_reducible refine wp_if ?_ | with_reducible refine wp_bin ?_ | with_reducible refine wp_cmp ?_ | with_reducible refine wp_ix ?_ | with_reducible refine wp_bt ?_ | with_reducible refine wp_mt ?_ | with_reducible refine wp_is ?_ | with_reducible refine wp_tru ?_ | with_reducible refine wp_not ?_ | with_reducible refine wp_or ?_ | with_reducible refine wp_and ?_ | with_reducible refine wp_rng1 ?_ | with_reducible refine wp_yes ?_ | with_reducible refine wp_lc ?_ | with_reducible refine wp_iLst ?_ | with_reducible refine wp_neg ?_ | with_reducible refine wp_isi ?_ | with_reducible refine wp_sl ?_ | with_reducible refine wp_noPart ?_ | with_reducible refine wp_part ?_ | with_reducible refine wp_rev ?_ | with_reducible refine wp_keys ?_ | with_reducible refine wp_eq2 ?_ | with_reducible refine wp_iStrD ?_ | with_reducible refine wp_dic0 ?_ | with_reducible refine wp_enum ?_ | with_reducible refine wp_eand ?_ | with_reducible refine wp_attr ?_ | with_reducible refine wp_eqO ?_ | with_reducible refine wp_ne2 ?_ | with_reducible refine wp_con ?_ | with_reducible refine wp_prop ?_ | with_reducible refine wp_enot ?_ | with_reducible refine wp_new ?_ | with_reducible refine wp_callK ?_ | with_reducible refine wp_get1 ?_ | with_reducible refine wp_get2 ?_ | with_reducible refine ws_seq ?_ | with_reducible refine ws_nil ?_ | with_reducible refine ws_set ?_ | with_reducible refine ws_ret ?_ | with_reducible refine ws_if ?_ | with_reducible refine ws_asg ?_ | with_reducible refine ws_par2 ?_ | with_reducible refine ws_par3 ?_ | with_reducible refine ws_own ?_ | with_reducible refine ws_for ?_ | with_reducible refine ws_parO ?_ | with_reducible refine ws_forV ?_ | with_reducible refine ws_put ?_ | with_reducible refine ws_clr ?_ | ((with_reducible apply ws_app); (· exact rfl)) | ((with_reducible apply ws_putO); (· exact rfl)) | ((with_reducible apply ws_frz); (· exact rfl)) | ((with_reducible apply ws_frzp); (· exact rfl)) | ((with_reducible apply wp_loc); (· exact rfl)) | ((with_reducible apply wp_rd); (· exact rfl)) | ((with_reducible apply wp_rdo); (· exact rfl)) | ((with_reducible apply wp_args); (· exact rfl); (· exact rfl); (· exact rfl))))
  refine ⟨_, keys_sd ps, ?_⟩
  (repeat (first | with_reducible refine wp_cons ?_ | with_reducible refine wp_nil ?_ | with_reducible refine wp_C ?_ | with_reducible refine wp_call ?_ | with_reducible refine wp_tup ?_ | with_reducible refine wp_lst ?_ | with_reducible refine wp_if ?_ | with_reducible refine wp_bin ?_ | with_reducible refine wp_cmp ?_ | with_reducible refine wp_ix ?_ | with_reducible refine wp_bt ?_ | with_reducible refine wp_mt ?_ | with_reducible refine wp_is ?_ | with_reducible refine wp_tru ?_ | with_reducible refine wp_not ?_ | with_reducible refine wp_or ?_ | with_reducible refine wp_and ?_ | with_reducible refine wp_rng1 ?_ | with_reducible refine wp_yes ?_ | with_reducible refine wp_lc ?_ | with_reducible refine wp_iLst ?_ | with_reducible refine wp_neg ?_ | with_reducible refine wp_isi ?_ | with_reducible refine wp_sl ?_ | with_reducible refine wp_noPart ?_ | with_reducible refine wp_part ?_ | with_reducible refine wp_rev ?_ | with_reducible refine wp_keys ?_ | with_reducible refine wp_eq2 ?_ | with_reducible refine wp_iStrD ?_ | with_reducible refine wp_dic0 ?_ | with_reducible refine wp_enum ?_ | with_reducible refine wp_eand ?_ | with_reducible refine wp_attr ?_ | with_reducible refine wp_eqO ?_ | with_reducible refine wp_ne2 ?_ | with_reducible refine wp_con ?_ | with_reducible refine wp_prop ?_ | with_reducible refine wp_enot ?_ | with_reducible refine wp_new ?_ | with_reducible refine wp_callK ?_ | with_reducible refine wp_get1 ?_ | with_reducible refine wp_get2 ?_ | with_reducible refine ws_seq ?_ | with_reducible refine ws_nil ?_ | with_reducible refine ws_set ?_ | with_reducible refine ws_ret ?_ | with_reducible refine ws_if ?_ | with_reducible refine ws_asg ?_ | with_reducible refine ws_par2 ?_ | with_reducible refine ws_par3 ?_ | with_reducible refine ws_own ?_ | with_reducible refine ws_for ?_ | with_reducible refine ws_parO ?_ | with_reducible refine ws_forV ?_ | with_reducible refine ws_put ?_ | with_reducible refine ws_clr ?_ | ((with_reducible apply ws_app); (· exact rfl)) | ((with_reducible apply ws_putO); (· exact rfl)) | ((with_reducible apply ws_frz); (· exact rfl)) | ((with_reducible apply ws_frzp); (· exact rfl)) | ((with_reducible apply wp_loc); (· exact rfl)) | ((with_reducible apply wp_rd); (· exact rfl)) | ((with_reducible apply wp_rdo); (· exact rfl)) | ((with_reducible apply wp_args); (· exact rfl); (· exact rfl); (· exact rfl))))
  refine ⟨_, sort_strs _ (by rw [List.length_map]; exact hl), ?_⟩
  refine ⟨_, ne_strs _, false, rfl, ?_⟩
  rw [if_neg Bool.false_ne_true]
  (repeat (first | with_reducible refine wp_cons ?_ | with_reducible refine wp_nil ?_ | with_reducible refine wp_C ?_ | with_reducible refine wp_call ?_ | with_reducible refine wp_tup ?_ | with_reducible refine wp_lst ?_ | with_reducible refine wp_if ?_ | with_reducible refine wp_bin ?_ | with_reducible refine wp_cmp ?_ | with_reducible refine wp_ix ?_ | with_reducible refine wp_bt ?_ | with_reducible refine wp_mt ?_ | with_reducible refine wp_is ?_ | with_reducible refine wp_tru ?_ | with_reducible refine wp_not ?_ | with_reducible refine wp_or ?_ | with_reducible refine wp_and ?_ | with_reducible refine wp_rng1 ?_ | with_reducible refine wp_yes ?_ | with_reducible refine wp_lc ?_ | with_reducible refine wp_iLst ?_ | with_reducible refine wp_neg ?_ | with_reducible refine wp_isi ?_ | with_reducible refine wp_sl ?_ | with_reducible refine wp_noPart ?_ | with_reducible refine wp_part ?_ | with_reducible refine wp_rev ?_ | with_reducible refine wp_keys ?_ | with_reducible refine wp_eq2 ?_ | with_reducible refine wp_iStrD ?_ | with_reducible refine wp_dic0 ?_ | with_reducible refine wp_enum ?_ | with_reducible refine wp_eand ?_ | with_reducible refine wp_attr ?_ | with_reducible refine wp_eqO ?_ | with_reducible refine wp_ne2 ?_ | with_reducible refine wp_con ?_ | with_reducible refine wp_prop ?_ | with_reducible refine wp_enot ?_ | with_reducible refine wp_new ?_ | with_reducible refine wp_callK ?_ | with_reducible refine wp_get1 ?_ | with_reducible refine wp_get2 ?_ | with_reducible refine ws_seq ?_ | with_reducible refine ws_nil ?_ | with_reducible refine ws_set ?_ | with_reducible refine ws_ret ?_ | with_reducible refine ws_if ?_ | with_reducible refine ws_asg ?_ | with_reducible refine ws_par2 ?_ | with_reducible refine ws_par3 ?_ | with_reducible refine ws_own ?_ | with_reducible refine ws_for ?_ | with_reducible refine ws_parO ?_ | with_reducible refine ws_forV ?_ | with_reducible refine ws_put ?_ | with_reducible refine ws_clr ?_ | ((with_reducible apply ws_app); (· exact rfl)) | ((with_reducible apply ws_putO); (· exact rfl)) | ((with_reducible apply ws_frz); (· exact rfl)) | ((with_reducible apply ws_frzp); (· exact rfl)) | ((with_reducible apply wp_loc); (· exact rfl)) | ((with_reducible apply wp_rd); (· exact rfl)) | ((with_reducible apply wp_rdo); (· exact rfl)) | ((with_reducible apply wp_args); (· exact rfl); (· exact rfl); (· exact rfl))))
  refine ⟨_, rfl, fun ds ρ s' => s' = s ∧ ∃ (j : Nat) (t2 : Slot), ds = (ps.drop j).map (fun p => D.str p.1) ∧ ρ = [.pu t, .pu (.dic (sd ps)), t2], ⟨rfl, 0, _, view0 ps, rfl⟩, ?_, ?_⟩
  · rintro d ds ρ s' ⟨rfl, j, t2, e1, rfl⟩
    have hlt : j < ps.length := by
      have := congrArg List.length e1
      simp at this
      omega
    rw [List.drop_eq_getElem_cons hlt, List.map_cons] at e1
    injection e1 with e3 e4
    subst e3 e4
    have hv := hc.val _ (List.getElem_mem hlt)
    have hi : item (.dic (sd ps)) (.str ps[j].1) = some ps[j].2 := by
      rw [sd_item]
      exact sget_mem hc.nd (List.getElem_mem hlt)
    have fin : ∀ v, Val v → der s' v = v := fun v h => by rcases h with rfl | ⟨i, rfl⟩ <;> rfl
    refine ⟨_, rfl, ?_⟩
    (repeat (first | with_reducible refine wp_cons ?_ | with_reducible refine wp_nil ?_ | with_reducible refine wp_C ?_ | with_reducible refine wp_call ?_ | with_reducible refine wp_tup ?_ | with_reducible refine wp_lst ?_ | with_reducible refine wp_if ?_ | with_reducible refine wp_bin ?_ | with_reducible refine wp_cmp ?_ | with_reducible refine wp_ix ?_ | with_reducible refine wp_bt ?_ | with_reducible refine wp_mt ?_ | with_reducible refine wp_is ?_ | with_reducible refine wp_tru ?_ | with_reducible refine wp_not ?_ | with_reducible refine wp_or ?_ | with_reducible refine wp_and ?_ | with_reducible refine wp_rng1 ?_ | with_reducible refine wp_yes ?_ | with_reducible refine wp_lc ?_ | with_reducible refine wp_iLst ?_ | with_reducible refine wp_neg ?_ | with_reducible refine wp_isi ?_ | with_reducible refine wp_sl ?_ | with_reducible refine wp_noPart ?_ | with_reducible refine wp_part ?_ | with_reducible refine wp_rev ?_ | with_reducible refine wp_keys ?_ | with_reducible refine wp_eq2 ?_ | with_reducible refine wp_iStrD ?_ | with_reducible refine wp_dic0 ?_ | with_reducible refine wp_enum ?_ | with_reducible refine wp_eand ?_ | with_reducible refine wp_attr ?_ | with_reducible refine wp_eqO ?_ | with_reducible refine wp_ne2 ?_ | with_reducible refine wp_con ?_ | with_reducible refine wp_prop ?_ | with_reducible refine wp_enot ?_ | with_reducible refine wp_new ?_ | with_reducible refine wp_callK ?_ | with_reducible refine wp_get1 ?_ | with_reducible refine wp_get2 ?_ | with_reducible refine ws_seq ?_ | with_reducible refine ws_nil ?_ | with_reducible refine ws_set ?_ | with_reducible refine ws_ret ?_ | with_reducible refine ws_if ?_ | with_reducible refine ws_asg ?_ | with_reducible refine ws_par2 ?_ | with_reducible refine ws_par3 ?_ | with_reducible refine ws_own ?_ | with_reducible refine ws_for ?_ | with_reducible refine ws_parO ?_ | with_reducible refine ws_forV ?_ | with_reducible refine ws_put ?_ | with_reducible refine ws_clr ?_ | ((with_reducible apply ws_app); (· exact rfl)) | ((with_reducible apply ws_putO); (· exact rfl)) | ((with_reducible apply ws_frz); (· exact rfl)) | ((with_reducible apply ws_frzp); (· exact rfl)) | ((with_reducible apply wp_loc); (· exact rfl)) | ((with_reducible apply wp_rd); (· exact rfl)) | ((with_reducible apply wp_rdo); (· exact rfl)) | ((with_reducible apply wp_args); (· exact rfl); (· exact rfl); (· exact rfl))))
    refine ⟨ps[j].2, by rw [ht]; exact hi, ?_⟩
    have last : Wp (eIs (eCmp .NotEq (eIx (eRd 0) (eRd 2)) (eIx (eRd 1) (eRd 2))) [.pu t, .pu (.dic (sd ps)), .pu (.str ps[j].1)] s') fun b s1 => b = false ∧ s1 = s' := by
      (repeat (first | with_reducible refine wp_cons ?_ | with_reducible refine wp_nil ?_ | with_reducible refine wp_C ?_ | with_reducible refine wp_call ?_ | with_reducible refine wp_tup ?_ | with_reducible refine wp_lst ?_ | with_reducible refine wp_if ?_ | with_reducible refine wp_bin ?_ | with_reducible refine wp_cmp ?_ | with_reducible refine wp_ix ?_ | with_reducible refine wp_bt ?_ | with_reducible refine wp_mt ?_ | with_reducible refine wp_is ?_ | with_reducible refine wp_tru ?_ | with_reducible refine wp_not ?_ | with_reducible refine wp_or ?_ | with_reducible refine wp_and ?_ | with_reducible refine wp_rng1 ?_ | with_reducible refine wp_yes ?_ | with_reducible refine wp_lc ?_ | with_reducible refine wp_iLst ?_ | with_reducible refine wp_neg ?_ | with_reducible refine wp_isi ?_ | with_reducible refine wp_sl ?_ | with_reducible refine wp_noPart ?_ | with_reducible refine wp_part ?_ | with_reducible refine wp_rev ?_ | with_reducible refine wp_keys ?_ | with_reducible refine wp_eq2 ?_ | with_reducible refine wp_iStrD ?_ | with_reducible refine wp_dic0 ?_ | with_reducible refine wp_enum ?_ | with_reducible refine wp_eand ?_ | with_reducible refine wp_attr ?_ | with_reducible refine wp_eqO ?_ | with_reducible refine wp_ne2 ?_ | with_reducible refine wp_con ?_ | with_reducible refine wp_prop ?_ | with_reducible refine wp_enot ?_ | with_reducible refine wp_new ?_ | with_reducible refine wp_callK ?_ | with_reducible refine wp_get1 ?_ | with_reducible refine wp_get2 ?_ | with_reducible refine ws_seq ?_ | with_reducible refine ws_nil ?_ | with_reducible refine ws_set ?_ | with_reducible refine ws_ret ?_ | with_reducible refine ws_if ?_ | with_reducible refine ws_asg ?_ | with_reducible refine ws_par2 ?_ | with_reducible refine ws_par3 ?_ | with_reducible refine ws_own ?_ | with_reducible refine ws_for ?_ | with_reducible refine ws_parO ?_ | with_reducible refine ws_forV ?_ | with_reducible refine ws_put ?_ | with_reducible refine ws_clr ?_ | ((with_reducible apply ws_app); (· exact rfl)) | ((with_reducible apply ws_putO); (· exact rfl)) | ((with_reducible apply ws_frz); (· exact rfl)) | ((with_reducible apply ws_frzp); (· exact rfl)) | ((with_reducible apply wp_loc); (· exact rfl)) | ((with_reducible apply wp_rd); (· exact rfl)) | ((with_reducible apply wp_rdo); (· exact rfl)) | ((with_reducible apply wp_args); (· exact rfl); (· exact rfl); (· exact rfl))))
      refine ⟨ps[j].2, by rw [ht]; exact hi, ?_⟩
      (repeat (first | with_reducible refine wp_cons ?_ | with_reducible refine wp_nil ?_ | with_reducible refine wp_C ?_ | with_reducible refine wp_call ?_ | with_reducible refine wp_tup ?_ | with_reducible refine wp_lst ?_ | with_reducible refine wp_if ?_ | with_reducible refine wp_bin ?_ | with_reducible refine wp_cmp ?_ | with_reducible refine wp_ix ?_ | with_reducible refine wp_bt ?_ | with_reducible refine wp_mt ?_ | with_reducible refine wp_is ?_ | with_reducible refine wp_tru ?_ | with_reducible refine wp_not ?_ | with_reducible refine wp_or ?_ | with_reducible refine wp_and ?_ | with_reducible refine wp_rng1 ?_ | with_reducible refine wp_yes ?_ | with_reducible refine wp_lc ?_ | with_reducible refine wp_iLst ?_ | with_reducible refine wp_neg ?_ | with_reducible refine wp_isi ?_ | with_reducible refine wp_sl ?_ | with_reducible refine wp_noPart ?_ | with_reducible refine wp_part ?_ | with_reducible refine wp_rev ?_ | with_reducible refine wp_keys ?_ | with_reducible refine wp_eq2 ?_ | with_reducible refine wp_iStrD ?_ | with_reducible refine wp_dic0 ?_ | with_reducible refine wp_enum ?_ | with_reducible refine wp_eand ?_ | with_reducible refine wp_attr ?_ | with_reducible refine wp_eqO ?_ | with_reducible refine wp_ne2 ?_ | with_reducible refine wp_con ?_ | with_reducible refine wp_prop ?_ | with_reducible refine wp_enot ?_ | with_reducible refine wp_new ?_ | with_reducible refine wp_callK ?_ | with_reducible refine wp_get1 ?_ | with_reducible refine wp_get2 ?_ | with_reducible refine ws_seq ?_ | with_reducible refine ws_nil ?_ | with_reducible refine ws_set ?_ | with_reducible refine ws_ret ?_ | with_reducible refine ws_if ?_ | with_reducible refine ws_asg ?_ | with_reducible refine ws_par2 ?_ | with_reducible refine ws_par3 ?_ | with_reducible refine ws_own ?_ | with_reducible refine ws_for ?_ | with_reducible refine ws_parO ?_ | with_reducible refine ws_forV ?_ | with_reducible refine ws_put ?_ | with_reducible refine ws_clr ?_ | ((with_reducible apply ws_app); (· exact rfl)) | ((with_reducible apply ws_putO); (· exact rfl)) | ((with_reducible apply ws_frz); (· exact rfl)) | ((with_reducible apply ws_frzp); (· exact rfl)) | ((with_reducible apply wp_loc); (· exact rfl)) | ((with_reducible apply wp_rd); (· exact rfl)) | ((with_reducible apply wp_rdo); (· exact rfl)) | ((with_reducible apply wp_args); (· exact rfl); (· exact rfl); (· exact rfl))))
      refine ⟨ps[j].2, hi, ?_⟩
      exact ⟨_, by rw [fin _ hv]; exact ne_val hv, false, rfl, rfl, rfl⟩
    have go : ∀ {PB : Bool → Store → Prop}, PB false s' → Wp (eIs (eCmp .NotEq (eIx (eRd 0) (eRd 2)) (eIx (eRd 1) (eRd 2))) [.pu t, .pu (.dic (sd ps)), .pu (.str ps[j].1)] s') PB := fun {PB} h => wp_mono last fun b s1 ⟨e1, e2⟩ => by rw [e1, e2]; exact h
    have nx : Ws (bNil [.pu t, .pu (.dic (sd ps)), .pu (.str ps[j].1)] s') (fun ρ s'' => s'' = s' ∧ ∃ (j' : Nat) (t2 : Slot), List.map (fun p => D.str p.1) (List.drop (j + 1) ps) = (ps.drop j').map (fun p => D.str p.1) ∧ ρ = [.pu t, .pu (.dic (sd ps)), t2]) (fun d s_1 => d = .bl true ∧ s_1 = s') := ⟨rfl, j + 1, _, rfl, rfl⟩
    generalize hw : ps[j].2 = v at hv hi
    rcases hv with rfl | ⟨i, rfl⟩
    · refine ⟨.bl false, rfl, false, rfl, ?_⟩
      rw [if_neg Bool.false_ne_true, if_neg Bool.false_ne_true]
      exact go (by rw [if_neg Bool.false_ne_true]; exact nx)
    · refine ⟨.bl true, rfl, true, rfl, ?_⟩
      rw [if_pos rfl]
      (repeat (first | with_reducible refine wp_cons ?_ | with_reducible refine wp_nil ?_ | with_reducible refine wp_C ?_ | with_reducible refine wp_call ?_ | with_reducible refine wp_tup ?_ | with_reducible refine wp_lst ?_ | with_reducible refine wp_if ?_ | with_reducible refine wp_bin ?_ | with_reducible refine wp_cmp ?_ | with_reducible refine wp_ix ?_ | with_reducible refine wp_bt ?_ | with_reducible refine wp_mt ?_ | with_reducible refine wp_is ?_ | with_reducible refine wp_tru ?_ | with_reducible refine wp_not ?_ | with_reducible refine wp_or ?_ | with_reducible refine wp_and ?_ | with_reducible refine wp_rng1 ?_ | with_reducible refine wp_yes ?_ | with_reducible refine wp_lc ?_ | with_reducible refine wp_iLst ?_ | with_reducible refine wp_neg ?_ | with_reducible refine wp_isi ?_ | with_reducible refine wp_sl ?_ | with_reducible refine wp_noPart ?_ | with_reducible refine wp_part ?_ | with_reducible refine wp_rev ?_ | with_reducible refine wp_keys ?_ | with_reducible refine wp_eq2 ?_ | with_reducible refine wp_iStrD ?_ | with_reducible refine wp_dic0 ?_ | with_reducible refine wp_enum ?_ | with_reducible refine wp_eand ?_ | with_reducible refine wp_attr ?_ | with_reducible refine wp_eqO ?_ | with_reducible refine wp_ne2 ?_ | with_reducible refine wp_con ?_ | with_reducible refine wp_prop ?_ | with_reducible refine wp_enot ?_ | with_reducible refine wp_new ?_ | with_reducible refine wp_callK ?_ | with_reducible refine wp_get1 ?_ | with_reducible refine wp_get2 ?_ | with_reducible refine ws_seq ?_ | with_reducible refine ws_nil ?_ | with_reducible refine ws_set ?_ | with_reducible refine ws_ret ?_ | with_reducible refine ws_if ?_ | with_reducible refine ws_asg ?_ | with_reducible refine ws_par2 ?_ | with_reducible refine ws_par3 ?_ | with_reducible refine ws_own ?_ | with_reducible refine ws_for ?_ | with_reducible refine ws_parO ?_ | with_reducible refine ws_forV ?_ | with_reducible refine ws_put ?_ | with_reducible refine ws_clr ?_ | ((with_reducible apply ws_app); (· exact rfl)) | ((with_reducible apply ws_putO); (· exact rfl)) | ((with_reducible apply ws_frz); (· exact rfl)) | ((with_reducible apply ws_frzp); (· exact rfl)) | ((with_reducible apply wp_loc); (· exact rfl)) | ((with_reducible apply wp_rd); (· exact rfl)) | ((with_reducible apply wp_rdo); (· exact rfl)) | ((with_reducible apply wp_args); (· exact rfl); (· exact rfl); (· exact rfl))))
      refine ⟨.int i, by rw [ht]; exact hi, ?_⟩
      (repeat (first | with_reducible refine wp_cons ?_ | with_reducible refine wp_nil ?_ | with_reducible refine wp_C ?_ | with_reducible refine wp_call ?_ | with_reducible refine wp_tup ?_ | with_reducible refine wp_lst ?_ | with_reducible refine wp_if ?_ | with_reducible refine wp_bin ?_ | with_reducible refine wp_cmp ?_ | with_reducible refine wp_ix ?_ | with_reducible refine wp_bt ?_ | with_reducible refine wp_mt ?_ | with_reducible refine wp_is ?_ | with_reducible refine wp_tru ?_ | with_reducible refine wp_not ?_ | with_reducible refine wp_or ?_ | with_reducible refine wp_and ?_ | with_reducible refine wp_rng1 ?_ | with_reducible refine wp_yes ?_ | with_reducible refine wp_lc ?_ | with_reducible refine wp_iLst ?_ | with_reducible refine wp_neg ?_ | with_reducible refine wp_isi ?_ | with_reducible refine wp_sl ?_ | with_reducible refine wp_noPart ?_ | with_reducible refine wp_part ?_ | with_reducible refine wp_rev ?_ | with_reducible refine wp_keys ?_ | with_reducible refine wp_eq2 ?_ | with_reducible refine wp_iStrD ?_ | with_reducible refine wp_dic0 ?_ | with_reducible refine wp_enum ?_ | with_reducible refine wp_eand ?_ | with_reducible refine wp_attr ?_ | with_reducible refine wp_eqO ?_ | with_reducible refine wp_ne2 ?_ | with_reducible refine wp_con ?_ | with_reducible refine wp_prop ?_ | with_reducible refine wp_enot ?_ | with_reducible refine wp_new ?_ | with_reducible refine wp_callK ?_ | with_reducible refine wp_get1 ?_ | with_reducible refine wp_get2 ?_ | with_reducible refine ws_seq ?_ | with_reducible refine ws_nil ?_ | with_reducible refine ws_set ?_ | with_reducible refine ws_ret ?_ | with_reducible refine ws_if ?_ | with_reducible refine ws_asg ?_ | with_reducible refine ws_par2 ?_ | with_reducible refine ws_par3 ?_ | with_reducible refine ws_own ?_ | with_reducible refine ws_for ?_ | with_reducible refine ws_parO ?_ | with_reducible refine ws_forV ?_ | with_reducible refine ws_put ?_ | with_reducible refine ws_clr ?_ | ((with_reducible apply ws_app); (· exact rfl)) | ((with_reducible apply ws_putO); (· exact rfl)) | ((with_reducible apply ws_frz); (· exact rfl)) | ((with_reducible apply ws_frzp); (· exact rfl)) | ((with_reducible apply wp_loc); (· exact rfl)) | ((with_reducible apply wp_rd); (· exact rfl)) | ((with_reducible apply wp_rdo); (· exact rfl)) | ((with_reducible apply wp_args); (· exact rfl); (· exact rfl); (· exact rfl))))
      refine wp_eq (is_int_ok i s') ?_
      refine ⟨true, rfl, ?_⟩
      rw [show (!true) = false from rfl, if_neg Bool.false_ne_true]
      exact go (by rw [if_neg Bool.false_ne_true]; exact nx)
  · rintro ρ s' ⟨rfl, j, t2, e1, rfl⟩
    (repeat (first | with_reducible refine wp_cons ?_ | with_reducible refine wp_nil ?_ | with_reducible refine wp_C ?_ | with_reducible refine wp_call ?_ | with_reducible refine wp_tup ?_ | with_reducible refine wp_lst ?_ | with_reducible refine wp_if ?_ | with_reducible refine wp_bin ?_ | with_reducible refine wp_cmp ?_ | with_reducible refine wp_ix ?_ | with_reducible refine wp_bt ?_ | with_reducible refine wp_mt ?_ | with_reducible refine wp_is ?_ | with_reducible refine wp_tru ?_ | with_reducible refine wp_not ?_ | with_reducible refine wp_or ?_ | with_reducible refine wp_and ?_ | with_reducible refine wp_rng1 ?_ | with_reducible refine wp_yes ?_ | with_reducible refine wp_lc ?_ | with_reducible refine wp_iLst ?_ | with_reducible refine wp_neg ?_ | with_reducible refine wp_isi ?_ | with_reducible refine wp_sl ?_ | with_reducible refine wp_noPart ?_ | with_reducible refine wp_part ?_ | with_reducible refine wp_rev ?_ | with_reducible refine wp_keys ?_ | with_reducible refine wp_eq2 ?_ | with_reducible refine wp_iStrD ?_ | with_reducible refine wp_dic0 ?_ | with_reducible refine wp_enum ?_ | with_reducible refine wp_eand ?_ | with_reducible refine wp_attr ?_ | with_reducible refine wp_eqO ?_ | with_reducible refine wp_ne2 ?_ | with_reducible refine wp_con ?_ | with_reducible refine wp_prop ?_ | with_reducible refine wp_enot ?_ | with_reducible refine wp_new ?_ | with_reducible refine wp_callK ?_ | with_reducible refine wp_get1 ?_ | with_reducible refine wp_get2 ?_ | with_reducible refine ws_seq ?_ | with_reducible refine ws_nil ?_ | with_reducible refine ws_set ?_ | with_reducible refine ws_ret ?_ | with_reducible refine ws_if ?_ | with_reducible refine ws_asg ?_ | with_reducible refine ws_par2 ?_ | with_reducible refine ws_par3 ?_ | with_reducible refine ws_own ?_ | with_reducible refine ws_for ?_ | with_reducible refine ws_parO ?_ | with_reducible refine ws_forV ?_ | with_reducible refine ws_put ?_ | with_reducible refine ws_clr ?_ | ((with_reducible apply ws_app); (· exact rfl)) | ((with_reducible apply ws_putO); (· exact rfl)) | ((with_reducible apply ws_frz); (· exact rfl)) | ((with_reducible apply ws_frzp); (· exact rfl)) | ((with_reducible apply wp_loc); (· exact rfl)) | ((with_reducible apply wp_rd); (· exact rfl)) | ((with_reducible apply wp_rdo); (· exact rfl)) | ((with_reducible apply wp_args); (· exact rfl); (· exact rfl); (· exact rfl))))
    exact ⟨rfl, rfl⟩
/-! ### messages -/
inductive Deed | put | change | take
def Deed.str : Deed → Str
  | .put => "put"
  | .change => "change"
  | .take => "take"
def msgD : Deed → Int → List (D × D) → D
  | .put, k, c => .obj "Put" [("key", .int k), ("borne", .dic c)]
  | .change, k, c => .obj "Change" [("key", .int k), ("borne", .dic c)]
  | .take, k, _ => .obj "Take" [("key", .int k)]
abbrev LC : Disp := [("Put", M_Put_cells), ("Change", M_Change_cells), ("Take", M_Take_cells)]
def due : Deed → List (Str × D) → List (Str × D)
  | .take, _ => []
  | _, ps => ps
theorem due_cells {e : Deed} {ps : List (Str × D)} (h : Cells ps) : Cells (due e ps) := by
  cases e
  · exact h
  · exact h
  · exact ⟨List.nodup_nil, fun p hp => absurd hp List.not_mem_nil⟩
theorem due_len {e : Deed} {ps : List (Str × D)} (h : ps.length < 64) : (due e ps).length < 64 := by
  cases e
  · exact h
  · exact h
  · show 0 < 64
    decide
/-- message.cells -/
theorem cells_get (e : Deed) (k : Int) (ps : List (Str × D)) (s : Store) : ∃ g, getOf LC (msgD e k (sd ps)) = some g ∧ g [msgD e k (sd ps)] s = .ok (.ref s.length) (s ++ [.dic (sd (due e ps))]) := by
  cases e
  · exact ⟨_, rfl, by kernel_rfl⟩
  · exact ⟨_, rfl, by kernel_rfl⟩
  · exact ⟨_, rfl, by kernel_rfl⟩
theorem der_msg (e : Deed) (k : Int) (c : List (D × D)) (s : Store) : der s (msgD e k c) = msgD e k c := by cases e <;> rfl
theorem der_last (s : Store) (kvs : List (D × D)) : der (s ++ [.dic kvs]) (.ref s.length) = .dic kvs := by
  show hid _ (((s ++ [D.dic kvs])[s.length]?).getD _) = _
  rw [List.getElem?_append_right (Nat.le_refl _), Nat.sub_self]
  rfl
theorem right_ok (e : Deed) (k : Int) {ps : List (Str × D)} (hc : Cells ps) (hl : ps.length < 64) (s : Store) : Wp (M__law_right [msgD e k (sd ps), .str e.str, .int k, .dic (sd ps)] s) fun d _ => d = .bl true := by
  refine wp_fn ?_
  show Ws (m__law_right [.pu (msgD e k (sd ps)), .pu (.str e.str), .pu (.int k), .pu (.dic (sd ps)), .no, .no] s) _ _
  unfold m__law_right p__law_right_0 p__law_right_1 p__law_right_2 p__law_right_3 p__law_right_4
  have d0 : Wp (eIf (eIs (eCmp .Eq (eRd 1) (eC (.str "take")))) (eDic0) (eLoc 3) [.pu (msgD e k (sd ps)), .pu (.str e.str), .pu (.int k), .pu (.dic (sd ps)), .no, .no] s) fun d s' => d = .dic (sd (due e ps)) ∧ s' = s := by
    cases e
    · exact ⟨rfl, rfl⟩
    · exact ⟨rfl, rfl⟩
    · exact ⟨rfl, rfl⟩
  refine ws_seq (ws_set (wp_mono d0 ?_))
  rintro _ s ⟨rfl, rfl⟩
  clear d0
  (repeat (first | with_reducible refine wp_cons ?_ | with_reducible refine wp_nil ?_ | with_reducible refine wp_C ?_ | with_reducible refine wp_call ?_ | with_reducible refine wp_tup ?_ | with_reducible refine wp_lst ?_ | with_reducible refine wp_if ?_ | with_reducible refine wp_bin ?_ | with_reducible refine wp_cmp ?_ | with_reducible refine wp_ix ?_ | with_reducible refine wp_bt ?_ | with_reducible refine wp_mt ?_ | with_reducible refine wp_is ?_ | with_reducible refine wp_tru ?_ | with_reducible refine wp_not ?_ | with_reducible refine wp_or ?_ | with_reducible refine wp_and ?_ | with_reducible refine wp_rng1 ?_ | with_reducible refine wp_yes ?_ | with_reducible refine wp_lc ?_ | with_reducible refine wp_iLst ?_ | with_reducible refine wp_neg ?_ | with_reducible refine wp_isi ?_ | with_reducible refine wp_sl ?_ | with_reducible refine wp_noPart ?_ | with_reducible refine wp_part ?_ | with_reducible refine wp_rev ?_ | with_reducible refine wp_keys ?_ | with_reducible refine wp_eq2 ?_ | with_reducible refine wp_iStrD ?_ | with_reducible refine wp_dic0 ?_ | with_reducible refine wp_enum ?_ | with_reducible refine wp_eand ?_ | with_reducible refine wp_attr ?_ | with_reducible refine wp_eqO ?_ | with_reducible refine wp_ne2 ?_ | with_reducible refine wp_con ?_ | with_reducible refine wp_prop ?_ | with_reducible refine wp_enot ?_ | with_reducible refine wp_new ?_ | with_reducible refine wp_callK ?_ | with_reducible refine wp_get1 ?_ | with_reducible refine wp_get2 ?_ | with_reducible refine ws_seq ?_ | with_reducible refine ws_nil ?_ | with_reducible refine ws_set ?_ | with_reducible refine ws_ret ?_ | with_reducible refine ws_if ?_ | with_reducible refine ws_asg ?_ | with_reducible refine ws_par2 ?_ | with_reducible refine ws_par3 ?_ | with_reducible refine ws_own ?_ | with_reducible refine ws_for ?_ | with_reducible refine ws_parO ?_ | with_reducible refine ws_forV ?_ | with_reducible refine ws_put ?_ | with_reducible refine ws_clr ?_ | ((with_reducible apply ws_app); (· exact rfl)) | ((with_reducible apply ws_putO); (· exact rfl)) | ((with_reducible apply ws_frz); (· exact rfl)) | ((with_reducible apply ws_frzp); (· exact rfl)) | ((with_reducible apply wp_loc); (· exact rfl)) | ((with_reducible apply wp_rd); (· exact rfl)) | ((with_reducible apply wp_rdo); (· exact rfl)) | ((with_reducible apply wp_args); (· exact rfl); (· exact rfl); (· exact rfl))))
  refine ⟨.bl true, by rw [der_msg]; cases e <;> kernel_rfl, true, rfl, ?_⟩
  rw [show (!true) = false from rfl, if_neg Bool.false_ne_true]
  (repeat (first | with_reducible refine wp_cons ?_ | with_reducible refine wp_nil ?_ | with_reducible refine wp_C ?_ | with_reducible refine wp_call ?_ | with_reducible refine wp_tup ?_ | with_reducible refine wp_lst ?_ | with_reducible refine wp_if ?_ | with_reducible refine wp_bin ?_ | with_reducible refine wp_cmp ?_ | with_reducible refine wp_ix ?_ | with_reducible refine wp_bt ?_ | with_reducible refine wp_mt ?_ | with_reducible refine wp_is ?_ | with_reducible refine wp_tru ?_ | with_reducible refine wp_not ?_ | with_reducible refine wp_or ?_ | with_reducible refine wp_and ?_ | with_reducible refine wp_rng1 ?_ | with_reducible refine wp_yes ?_ | with_reducible refine wp_lc ?_ | with_reducible refine wp_iLst ?_ | with_reducible refine wp_neg ?_ | with_reducible refine wp_isi ?_ | with_reducible refine wp_sl ?_ | with_reducible refine wp_noPart ?_ | with_reducible refine wp_part ?_ | with_reducible refine wp_rev ?_ | with_reducible refine wp_keys ?_ | with_reducible refine wp_eq2 ?_ | with_reducible refine wp_iStrD ?_ | with_reducible refine wp_dic0 ?_ | with_reducible refine wp_enum ?_ | with_reducible refine wp_eand ?_ | with_reducible refine wp_attr ?_ | with_reducible refine wp_eqO ?_ | with_reducible refine wp_ne2 ?_ | with_reducible refine wp_con ?_ | with_reducible refine wp_prop ?_ | with_reducible refine wp_enot ?_ | with_reducible refine wp_new ?_ | with_reducible refine wp_callK ?_ | with_reducible refine wp_get1 ?_ | with_reducible refine wp_get2 ?_ | with_reducible refine ws_seq ?_ | with_reducible refine ws_nil ?_ | with_reducible refine ws_set ?_ | with_reducible refine ws_ret ?_ | with_reducible refine ws_if ?_ | with_reducible refine ws_asg ?_ | with_reducible refine ws_par2 ?_ | with_reducible refine ws_par3 ?_ | with_reducible refine ws_own ?_ | with_reducible refine ws_for ?_ | with_reducible refine ws_parO ?_ | with_reducible refine ws_forV ?_ | with_reducible refine ws_put ?_ | with_reducible refine ws_clr ?_ | ((with_reducible apply ws_app); (· exact rfl)) | ((with_reducible apply ws_putO); (· exact rfl)) | ((with_reducible apply ws_frz); (· exact rfl)) | ((with_reducible apply ws_frzp); (· exact rfl)) | ((with_reducible apply wp_loc); (· exact rfl)) | ((with_reducible apply wp_rd); (· exact rfl)) | ((with_reducible apply wp_rdo); (· exact rfl)) | ((with_reducible apply wp_args); (· exact rfl); (· exact rfl); (· exact rfl))))
  refine ⟨.str e.str, by rw [der_msg]; cases e <;> kernel_rfl, .bl false, by cases e <;> kernel_rfl, false, rfl, ?_⟩
  rw [if_neg Bool.false_ne_true]
  (repeat (first | with_reducible refine wp_cons ?_ | with_reducible refine wp_nil ?_ | with_reducible refine wp_C ?_ | with_reducible refine wp_call ?_ | with_reducible refine wp_tup ?_ | with_reducible refine wp_lst ?_ | with_reducible refine wp_if ?_ | with_reducible refine wp_bin ?_ | with_reducible refine wp_cmp ?_ | with_reducible refine wp_ix ?_ | with_reducible refine wp_bt ?_ | with_reducible refine wp_mt ?_ | with_reducible refine wp_is ?_ | with_reducible refine wp_tru ?_ | with_reducible refine wp_not ?_ | with_reducible refine wp_or ?_ | with_reducible refine wp_and ?_ | with_reducible refine wp_rng1 ?_ | with_reducible refine wp_yes ?_ | with_reducible refine wp_lc ?_ | with_reducible refine wp_iLst ?_ | with_reducible refine wp_neg ?_ | with_reducible refine wp_isi ?_ | with_reducible refine wp_sl ?_ | with_reducible refine wp_noPart ?_ | with_reducible refine wp_part ?_ | with_reducible refine wp_rev ?_ | with_reducible refine wp_keys ?_ | with_reducible refine wp_eq2 ?_ | with_reducible refine wp_iStrD ?_ | with_reducible refine wp_dic0 ?_ | with_reducible refine wp_enum ?_ | with_reducible refine wp_eand ?_ | with_reducible refine wp_attr ?_ | with_reducible refine wp_eqO ?_ | with_reducible refine wp_ne2 ?_ | with_reducible refine wp_con ?_ | with_reducible refine wp_prop ?_ | with_reducible refine wp_enot ?_ | with_reducible refine wp_new ?_ | with_reducible refine wp_callK ?_ | with_reducible refine wp_get1 ?_ | with_reducible refine wp_get2 ?_ | with_reducible refine ws_seq ?_ | with_reducible refine ws_nil ?_ | with_reducible refine ws_set ?_ | with_reducible refine ws_ret ?_ | with_reducible refine ws_if ?_ | with_reducible refine ws_asg ?_ | with_reducible refine ws_par2 ?_ | with_reducible refine ws_par3 ?_ | with_reducible refine ws_own ?_ | with_reducible refine ws_for ?_ | with_reducible refine ws_parO ?_ | with_reducible refine ws_forV ?_ | with_reducible refine ws_put ?_ | with_reducible refine ws_clr ?_ | ((with_reducible apply ws_app); (· exact rfl)) | ((with_reducible apply ws_putO); (· exact rfl)) | ((with_reducible apply ws_frz); (· exact rfl)) | ((with_reducible apply ws_frzp); (· exact rfl)) | ((with_reducible apply wp_loc); (· exact rfl)) | ((with_reducible apply wp_rd); (· exact rfl)) | ((with_reducible apply wp_rdo); (· exact rfl)) | ((with_reducible apply wp_args); (· exact rfl); (· exact rfl); (· exact rfl))))
  refine ⟨.int k, by rw [der_msg]; cases e <;> kernel_rfl, ?_⟩
  (repeat (first | with_reducible refine wp_cons ?_ | with_reducible refine wp_nil ?_ | with_reducible refine wp_C ?_ | with_reducible refine wp_call ?_ | with_reducible refine wp_tup ?_ | with_reducible refine wp_lst ?_ | with_reducible refine wp_if ?_ | with_reducible refine wp_bin ?_ | with_reducible refine wp_cmp ?_ | with_reducible refine wp_ix ?_ | with_reducible refine wp_bt ?_ | with_reducible refine wp_mt ?_ | with_reducible refine wp_is ?_ | with_reducible refine wp_tru ?_ | with_reducible refine wp_not ?_ | with_reducible refine wp_or ?_ | with_reducible refine wp_and ?_ | with_reducible refine wp_rng1 ?_ | with_reducible refine wp_yes ?_ | with_reducible refine wp_lc ?_ | with_reducible refine wp_iLst ?_ | with_reducible refine wp_neg ?_ | with_reducible refine wp_isi ?_ | with_reducible refine wp_sl ?_ | with_reducible refine wp_noPart ?_ | with_reducible refine wp_part ?_ | with_reducible refine wp_rev ?_ | with_reducible refine wp_keys ?_ | with_reducible refine wp_eq2 ?_ | with_reducible refine wp_iStrD ?_ | with_reducible refine wp_dic0 ?_ | with_reducible refine wp_enum ?_ | with_reducible refine wp_eand ?_ | with_reducible refine wp_attr ?_ | with_reducible refine wp_eqO ?_ | with_reducible refine wp_ne2 ?_ | with_reducible refine wp_con ?_ | with_reducible refine wp_prop ?_ | with_reducible refine wp_enot ?_ | with_reducible refine wp_new ?_ | with_reducible refine wp_callK ?_ | with_reducible refine wp_get1 ?_ | with_reducible refine wp_get2 ?_ | with_reducible refine ws_seq ?_ | with_reducible refine ws_nil ?_ | with_reducible refine ws_set ?_ | with_reducible refine ws_ret ?_ | with_reducible refine ws_if ?_ | with_reducible refine ws_asg ?_ | with_reducible refine ws_par2 ?_ | with_reducible refine ws_par3 ?_ | with_reducible refine ws_own ?_ | with_reducible refine ws_for ?_ | with_reducible refine ws_parO ?_ | with_reducible refine ws_forV ?_ | with_reducible refine ws_put ?_ | with_reducible refine ws_clr ?_ | ((with_reducible apply ws_app); (· exact rfl)) | ((with_reducible apply ws_putO); (· exact rfl)) | ((with_reducible apply ws_frz); (· exact rfl)) | ((with_reducible apply ws_frzp); (· exact rfl)) | ((with_reducible apply wp_loc); (· exact rfl)) | ((with_reducible apply wp_rd); (· exact rfl)) | ((with_reducible apply wp_rdo); (· exact rfl)) | ((with_reducible apply wp_args); (· exact rfl); (· exact rfl); (· exact rfl))))
  refine wp_eq (is_int_ok k s) ?_
  refine ⟨true, rfl, ?_⟩
  rw [show (!true) = false from rfl, if_neg Bool.false_ne_true]
  (repeat (first | with_reducible refine wp_cons ?_ | with_reducible refine wp_nil ?_ | with_reducible refine wp_C ?_ | with_reducible refine wp_call ?_ | with_reducible refine wp_tup ?_ | with_reducible refine wp_lst ?_ | with_reducible refine wp_if ?_ | with_reducible refine wp_bin ?_ | with_reducible refine wp_cmp ?_ | with_reducible refine wp_ix ?_ | with_reducible refine wp_bt ?_ | with_reducible refine wp_mt ?_ | with_reducible refine wp_is ?_ | with_reducible refine wp_tru ?_ | with_reducible refine wp_not ?_ | with_reducible refine wp_or ?_ | with_reducible refine wp_and ?_ | with_reducible refine wp_rng1 ?_ | with_reducible refine wp_yes ?_ | with_reducible refine wp_lc ?_ | with_reducible refine wp_iLst ?_ | with_reducible refine wp_neg ?_ | with_reducible refine wp_isi ?_ | with_reducible refine wp_sl ?_ | with_reducible refine wp_noPart ?_ | with_reducible refine wp_part ?_ | with_reducible refine wp_rev ?_ | with_reducible refine wp_keys ?_ | with_reducible refine wp_eq2 ?_ | with_reducible refine wp_iStrD ?_ | with_reducible refine wp_dic0 ?_ | with_reducible refine wp_enum ?_ | with_reducible refine wp_eand ?_ | with_reducible refine wp_attr ?_ | with_reducible refine wp_eqO ?_ | with_reducible refine wp_ne2 ?_ | with_reducible refine wp_con ?_ | with_reducible refine wp_prop ?_ | with_reducible refine wp_enot ?_ | with_reducible refine wp_new ?_ | with_reducible refine wp_callK ?_ | with_reducible refine wp_get1 ?_ | with_reducible refine wp_get2 ?_ | with_reducible refine ws_seq ?_ | with_reducible refine ws_nil ?_ | with_reducible refine ws_set ?_ | with_reducible refine ws_ret ?_ | with_reducible refine ws_if ?_ | with_reducible refine ws_asg ?_ | with_reducible refine ws_par2 ?_ | with_reducible refine ws_par3 ?_ | with_reducible refine ws_own ?_ | with_reducible refine ws_for ?_ | with_reducible refine ws_parO ?_ | with_reducible refine ws_forV ?_ | with_reducible refine ws_put ?_ | with_reducible refine ws_clr ?_ | ((with_reducible apply ws_app); (· exact rfl)) | ((with_reducible apply ws_putO); (· exact rfl)) | ((with_reducible apply ws_frz); (· exact rfl)) | ((with_reducible apply ws_frzp); (· exact rfl)) | ((with_reducible apply wp_loc); (· exact rfl)) | ((with_reducible apply wp_rd); (· exact rfl)) | ((with_reducible apply wp_rdo); (· exact rfl)) | ((with_reducible apply wp_args); (· exact rfl); (· exact rfl); (· exact rfl))))
  refine ⟨.int k, by rw [der_msg]; cases e <;> kernel_rfl, ?_⟩
  (repeat (first | with_reducible refine wp_cons ?_ | with_reducible refine wp_nil ?_ | with_reducible refine wp_C ?_ | with_reducible refine wp_call ?_ | with_reducible refine wp_tup ?_ | with_reducible refine wp_lst ?_ | with_reducible refine wp_if ?_ | with_reducible refine wp_bin ?_ | with_reducible refine wp_cmp ?_ | with_reducible refine wp_ix ?_ | with_reducible refine wp_bt ?_ | with_reducible refine wp_mt ?_ | with_reducible refine wp_is ?_ | with_reducible refine wp_tru ?_ | with_reducible refine wp_not ?_ | with_reducible refine wp_or ?_ | with_reducible refine wp_and ?_ | with_reducible refine wp_rng1 ?_ | with_reducible refine wp_yes ?_ | with_reducible refine wp_lc ?_ | with_reducible refine wp_iLst ?_ | with_reducible refine wp_neg ?_ | with_reducible refine wp_isi ?_ | with_reducible refine wp_sl ?_ | with_reducible refine wp_noPart ?_ | with_reducible refine wp_part ?_ | with_reducible refine wp_rev ?_ | with_reducible refine wp_keys ?_ | with_reducible refine wp_eq2 ?_ | with_reducible refine wp_iStrD ?_ | with_reducible refine wp_dic0 ?_ | with_reducible refine wp_enum ?_ | with_reducible refine wp_eand ?_ | with_reducible refine wp_attr ?_ | with_reducible refine wp_eqO ?_ | with_reducible refine wp_ne2 ?_ | with_reducible refine wp_con ?_ | with_reducible refine wp_prop ?_ | with_reducible refine wp_enot ?_ | with_reducible refine wp_new ?_ | with_reducible refine wp_callK ?_ | with_reducible refine wp_get1 ?_ | with_reducible refine wp_get2 ?_ | with_reducible refine ws_seq ?_ | with_reducible refine ws_nil ?_ | with_reducible refine ws_set ?_ | with_reducible refine ws_ret ?_ | with_reducible refine ws_if ?_ | with_reducible refine ws_asg ?_ | with_reducible refine ws_par2 ?_ | with_reducible refine ws_par3 ?_ | with_reducible refine ws_own ?_ | with_reducible refine ws_for ?_ | with_reducible refine ws_parO ?_ | with_reducible refine ws_forV ?_ | with_reducible refine ws_put ?_ | with_reducible refine ws_clr ?_ | ((with_reducible apply ws_app); (· exact rfl)) | ((with_reducible apply ws_putO); (· exact rfl)) | ((with_reducible apply ws_frz); (· exact rfl)) | ((with_reducible apply ws_frzp); (· exact rfl)) | ((with_reducible apply wp_loc); (· exact rfl)) | ((with_reducible apply wp_rd); (· exact rfl)) | ((with_reducible apply wp_rdo); (· exact rfl)) | ((with_reducible apply wp_args); (· exact rfl); (· exact rfl); (· exact rfl))))
  refine ⟨_, ne_val (.inr ⟨k, rfl⟩), false, rfl, ?_⟩
  rw [if_neg Bool.false_ne_true]
  (repeat (first | with_reducible refine wp_cons ?_ | with_reducible refine wp_nil ?_ | with_reducible refine wp_C ?_ | with_reducible refine wp_call ?_ | with_reducible refine wp_tup ?_ | with_reducible refine wp_lst ?_ | with_reducible refine wp_if ?_ | with_reducible refine wp_bin ?_ | with_reducible refine wp_cmp ?_ | with_reducible refine wp_ix ?_ | with_reducible refine wp_bt ?_ | with_reducible refine wp_mt ?_ | with_reducible refine wp_is ?_ | with_reducible refine wp_tru ?_ | with_reducible refine wp_not ?_ | with_reducible refine wp_or ?_ | with_reducible refine wp_and ?_ | with_reducible refine wp_rng1 ?_ | with_reducible refine wp_yes ?_ | with_reducible refine wp_lc ?_ | with_reducible refine wp_iLst ?_ | with_reducible refine wp_neg ?_ | with_reducible refine wp_isi ?_ | with_reducible refine wp_sl ?_ | with_reducible refine wp_noPart ?_ | with_reducible refine wp_part ?_ | with_reducible refine wp_rev ?_ | with_reducible refine wp_keys ?_ | with_reducible refine wp_eq2 ?_ | with_reducible refine wp_iStrD ?_ | with_reducible refine wp_dic0 ?_ | with_reducible refine wp_enum ?_ | with_reducible refine wp_eand ?_ | with_reducible refine wp_attr ?_ | with_reducible refine wp_eqO ?_ | with_reducible refine wp_ne2 ?_ | with_reducible refine wp_con ?_ | with_reducible refine wp_prop ?_ | with_reducible refine wp_enot ?_ | with_reducible refine wp_new ?_ | with_reducible refine wp_callK ?_ | with_reducible refine wp_get1 ?_ | with_reducible refine wp_get2 ?_ | with_reducible refine ws_seq ?_ | with_reducible refine ws_nil ?_ | with_reducible refine ws_set ?_ | with_reducible refine ws_ret ?_ | with_reducible refine ws_if ?_ | with_reducible refine ws_asg ?_ | with_reducible refine ws_par2 ?_ | with_reducible refine ws_par3 ?_ | with_reducible refine ws_own ?_ | with_reducible refine ws_for ?_ | with_reducible refine ws_parO ?_ | with_reducible refine ws_forV ?_ | with_reducible refine ws_put ?_ | with_reducible refine ws_clr ?_ | ((with_reducible apply ws_app); (· exact rfl)) | ((with_reducible apply ws_putO); (· exact rfl)) | ((with_reducible apply ws_frz); (· exact rfl)) | ((with_reducible apply ws_frzp); (· exact rfl)) | ((with_reducible apply wp_loc); (· exact rfl)) | ((with_reducible apply wp_rd); (· exact rfl)) | ((with_reducible apply wp_rdo); (· exact rfl)) | ((with_reducible apply wp_args); (· exact rfl); (· exact rfl); (· exact rfl))))
  obtain ⟨g, g1, g2⟩ := cells_get e k ps s
  refine ⟨g, by rw [der_msg]; exact g1, wp_eq g2 ?_⟩
  (repeat (first | with_reducible refine wp_cons ?_ | with_reducible refine wp_nil ?_ | with_reducible refine wp_C ?_ | with_reducible refine wp_call ?_ | with_reducible refine wp_tup ?_ | with_reducible refine wp_lst ?_ | with_reducible refine wp_if ?_ | with_reducible refine wp_bin ?_ | with_reducible refine wp_cmp ?_ | with_reducible refine wp_ix ?_ | with_reducible refine wp_bt ?_ | with_reducible refine wp_mt ?_ | with_reducible refine wp_is ?_ | with_reducible refine wp_tru ?_ | with_reducible refine wp_not ?_ | with_reducible refine wp_or ?_ | with_reducible refine wp_and ?_ | with_reducible refine wp_rng1 ?_ | with_reducible refine wp_yes ?_ | with_reducible refine wp_lc ?_ | with_reducible refine wp_iLst ?_ | with_reducible refine wp_neg ?_ | with_reducible refine wp_isi ?_ | with_reducible refine wp_sl ?_ | with_reducible refine wp_noPart ?_ | with_reducible refine wp_part ?_ | with_reducible refine wp_rev ?_ | with_reducible refine wp_keys ?_ | with_reducible refine wp_eq2 ?_ | with_reducible refine wp_iStrD ?_ | with_reducible refine wp_dic0 ?_ | with_reducible refine wp_enum ?_ | with_reducible refine wp_eand ?_ | with_reducible refine wp_attr ?_ | with_reducible refine wp_eqO ?_ | with_reducible refine wp_ne2 ?_ | with_reducible refine wp_con ?_ | with_reducible refine wp_prop ?_ | with_reducible refine wp_enot ?_ | with_reducible refine wp_new ?_ | with_reducible refine wp_callK ?_ | with_reducible refine wp_get1 ?_ | with_reducible refine wp_get2 ?_ | with_reducible refine ws_seq ?_ | with_reducible refine ws_nil ?_ | with_reducible refine ws_set ?_ | with_reducible refine ws_ret ?_ | with_reducible refine ws_if ?_ | with_reducible refine ws_asg ?_ | with_reducible refine ws_par2 ?_ | with_reducible refine ws_par3 ?_ | with_reducible refine ws_own ?_ | with_reducible refine ws_for ?_ | with_reducible refine ws_parO ?_ | with_reducible refine ws_forV ?_ | with_reducible refine ws_put ?_ | with_reducible refine ws_clr ?_ | ((with_reducible apply ws_app); (· exact rfl)) | ((with_reducible apply ws_putO); (· exact rfl)) | ((with_reducible apply ws_frz); (· exact rfl)) | ((with_reducible apply ws_frzp); (· exact rfl)) | ((with_reducible apply wp_loc); (· exact rfl)) | ((with_reducible apply wp_rd); (· exact rfl)) | ((with_reducible apply wp_rdo); (· exact rfl)) | ((with_reducible apply wp_args); (· exact rfl); (· exact rfl); (· exact rfl))))
  refine wp_eq (is_row_ok (due_cells hc) (due_len hl) _ _ (der_last _ _)) ?_
  refine ⟨true, rfl, ?_⟩
  rw [show (!true) = false from rfl, if_neg Bool.false_ne_true]
  refine ws_nil ?_
  have last : ∀ s' : Store, bCons p__law_right_3 p__law_right_4 [.pu (msgD e k (sd ps)), .pu (.str e.str), .pu (.int k), .pu (.dic (sd ps)), .pu (.dic (sd (due e ps))), .no] s' = .rt (.bl true) s' := fun s' => by cases e <;> kernel_rfl
  show Ws (bCons p__law_right_3 p__law_right_4 [.pu (msgD e k (sd ps)), .pu (.str e.str), .pu (.int k), .pu (.dic (sd ps)), .pu (.dic (sd (due e ps))), .no] _) _ _
  rw [last]
  rfl
end Dn

namespace Dn
open PySem PySem.Spec L2
open PyProof.Rows hiding St RelV
theorem der_at {s : Store} {m : Nat} {c : List (D × D)} (h : s[m]? = some (.dic c)) : der s (.ref m) = .dic c := by
  show hid m ((s[m]?).getD (.ref m)) = _
  rw [h]
  rfl
theorem put_init (k : Int) (t : D) (c : List (D × D)) (s : Store) (ht : der s t = .dic c) : M_Put___init__ [.int k, t] s = .ok (msgD .put k c) s := by
  refine wp_get (wp_init ?_)
  show Ws (m_Put___init__ [.ow true (.obj "Put" []), .pu (.int k), .pu t] s) _ _
  unfold m_Put___init__ p_Put___init___1
  refine ws_seq (ws_fldO rfl ⟨by decide, by decide⟩ ?_)
  (repeat (first | with_reducible refine wp_cons ?_ | with_reducible refine wp_nil ?_ | with_reducible refine wp_C ?_ | with_reducible refine wp_call ?_ | with_reducible refine wp_tup ?_ | with_reducible refine wp_lst ?_ | with_reducible refine wp_if ?_ | with_reducible refine wp_bin ?_ | with_reducible refine wp_cmp ?_ | with_reducible refine wp_ix ?_ | with_reducible refine wp_bt ?_ | with_reducible refine wp_mt ?_ | with_reducible refine wp_is ?_ | with_reducible refine wp_tru ?_ | with_reducible refine wp_not ?_ | with_reducible refine wp_or ?_ | with_reducible refine wp_and ?_ | with_reducible refine wp_rng1 ?_ | with_reducible refine wp_yes ?_ | with_reducible refine wp_lc ?_ | with_reducible refine wp_iLst ?_ | with_reducible refine wp_neg ?_ | with_reducible refine wp_isi ?_ | with_reducible refine wp_sl ?_ | with_reducible refine wp_noPart ?_ | with_reducible refine wp_part ?_ | with_reducible refine wp_rev ?_ | with_reducible refine wp_keys ?_ | with_reducible refine wp_eq2 ?_ | with_reducible refine wp_iStrD ?_ | with_reducible refine wp_dic0 ?_ | with_reducible refine wp_enum ?_ | with_reducible refine wp_eand ?_ | with_reducible refine wp_attr ?_ | with_reducible refine wp_eqO ?_ | with_reducible refine wp_ne2 ?_ | with_reducible refine wp_con ?_ | with_reducible refine wp_prop ?_ | with_reducible refine wp_enot ?_ | with_reducible refine wp_new ?_ | with_reducible refine wp_callK ?_ | with_reducible refine wp_get1 ?_ | with_reducible refine wp_get2 ?_ | with_reducible refine ws_seq ?_ | with_reducible refine ws_nil ?_ | with_reducible refine ws_set ?_ | with_reducible refine ws_ret ?_ | with_reducible refine ws_if ?_ | with_reducible refine ws_asg ?_ | with_reducible refine ws_par2 ?_ | with_reducible refine ws_par3 ?_ | with_reducible refine ws_own ?_ | with_reducible refine ws_for ?_ | with_reducible refine ws_parO ?_ | with_reducible refine ws_forV ?_ | with_reducible refine ws_put ?_ | with_reducible refine ws_clr ?_ | ((with_reducible apply ws_app); (· exact rfl)) | ((with_reducible apply ws_putO); (· exact rfl)) | ((with_reducible apply ws_frz); (· exact rfl)) | ((with_reducible apply ws_frzp); (· exact rfl)) | ((with_reducible apply wp_loc); (· exact rfl)) | ((with_reducible apply wp_rd); (· exact rfl)) | ((with_reducible apply wp_rdo); (· exact rfl)) | ((with_reducible apply wp_args); (· exact rfl); (· exact rfl); (· exact rfl))))
  refine ws_fldO rfl ⟨by decide, by show 1 < 1000; decide⟩ ?_
  (repeat (first | with_reducible refine wp_cons ?_ | with_reducible refine wp_nil ?_ | with_reducible refine wp_C ?_ | with_reducible refine wp_call ?_ | with_reducible refine wp_tup ?_ | with_reducible refine wp_lst ?_ | with_reducible refine wp_if ?_ | with_reducible refine wp_bin ?_ | with_reducible refine wp_cmp ?_ | with_reducible refine wp_ix ?_ | with_reducible refine wp_bt ?_ | with_reducible refine wp_mt ?_ | with_reducible refine wp_is ?_ | with_reducible refine wp_tru ?_ | with_reducible refine wp_not ?_ | with_reducible refine wp_or ?_ | with_reducible refine wp_and ?_ | with_reducible refine wp_rng1 ?_ | with_reducible refine wp_yes ?_ | with_reducible refine wp_lc ?_ | with_reducible refine wp_iLst ?_ | with_reducible refine wp_neg ?_ | with_reducible refine wp_isi ?_ | with_reducible refine wp_sl ?_ | with_reducible refine wp_noPart ?_ | with_reducible refine wp_part ?_ | with_reducible refine wp_rev ?_ | with_reducible refine wp_keys ?_ | with_reducible refine wp_eq2 ?_ | with_reducible refine wp_iStrD ?_ | with_reducible refine wp_dic0 ?_ | with_reducible refine wp_enum ?_ | with_reducible refine wp_eand ?_ | with_reducible refine wp_attr ?_ | with_reducible refine wp_eqO ?_ | with_reducible refine wp_ne2 ?_ | with_reducible refine wp_con ?_ | with_reducible refine wp_prop ?_ | with_reducible refine wp_enot ?_ | with_reducible refine wp_new ?_ | with_reducible refine wp_callK ?_ | with_reducible refine wp_get1 ?_ | with_reducible refine wp_get2 ?_ | with_reducible refine ws_seq ?_ | with_reducible refine ws_nil ?_ | with_reducible refine ws_set ?_ | with_reducible refine ws_ret ?_ | with_reducible refine ws_if ?_ | with_reducible refine ws_asg ?_ | with_reducible refine ws_par2 ?_ | with_reducible refine ws_par3 ?_ | with_reducible refine ws_own ?_ | with_reducible refine ws_for ?_ | with_reducible refine ws_parO ?_ | with_reducible refine ws_forV ?_ | with_reducible refine ws_put ?_ | with_reducible refine ws_clr ?_ | ((with_reducible apply ws_app); (· exact rfl)) | ((with_reducible apply ws_putO); (· exact rfl)) | ((with_reducible apply ws_frz); (· exact rfl)) | ((with_reducible apply ws_frzp); (· exact rfl)) | ((with_reducible apply wp_loc); (· exact rfl)) | ((with_reducible apply wp_rd); (· exact rfl)) | ((with_reducible apply wp_rdo); (· exact rfl)) | ((with_reducible apply wp_args); (· exact rfl); (· exact rfl); (· exact rfl))))
  exact ⟨.dic c, by rw [List.map_cons, ht]; rfl, _, rfl, by kernel_rfl, rfl⟩
theorem change_init (k : Int) (t : D) (c : List (D × D)) (s : Store) (ht : der s t = .dic c) : M_Change___init__ [.int k, t] s = .ok (msgD .change k c) s := by
  refine wp_get (wp_init ?_)
  show Ws (m_Change___init__ [.ow true (.obj "Change" []), .pu (.int k), .pu t] s) _ _
  unfold m_Change___init__ p_Change___init___1
  refine ws_seq (ws_fldO rfl ⟨by decide, by decide⟩ ?_)
  (repeat (first | with_reducible refine wp_cons ?_ | with_reducible refine wp_nil ?_ | with_reducible refine wp_C ?_ | with_reducible refine wp_call ?_ | with_reducible refine wp_tup ?_ | with_reducible refine wp_lst ?_ | with_reducible refine wp_if ?_ | with_reducible refine wp_bin ?_ | with_reducible refine wp_cmp ?_ | with_reducible refine wp_ix ?_ | with_reducible refine wp_bt ?_ | with_reducible refine wp_mt ?_ | with_reducible refine wp_is ?_ | with_reducible refine wp_tru ?_ | with_reducible refine wp_not ?_ | with_reducible refine wp_or ?_ | with_reducible refine wp_and ?_ | with_reducible refine wp_rng1 ?_ | with_reducible refine wp_yes ?_ | with_reducible refine wp_lc ?_ | with_reducible refine wp_iLst ?_ | with_reducible refine wp_neg ?_ | with_reducible refine wp_isi ?_ | with_reducible refine wp_sl ?_ | with_reducible refine wp_noPart ?_ | with_reducible refine wp_part ?_ | with_reducible refine wp_rev ?_ | with_reducible refine wp_keys ?_ | with_reducible refine wp_eq2 ?_ | with_reducible refine wp_iStrD ?_ | with_reducible refine wp_dic0 ?_ | with_reducible refine wp_enum ?_ | with_reducible refine wp_eand ?_ | with_reducible refine wp_attr ?_ | with_reducible refine wp_eqO ?_ | with_reducible refine wp_ne2 ?_ | with_reducible refine wp_con ?_ | with_reducible refine wp_prop ?_ | with_reducible refine wp_enot ?_ | with_reducible refine wp_new ?_ | with_reducible refine wp_callK ?_ | with_reducible refine wp_get1 ?_ | with_reducible refine wp_get2 ?_ | with_reducible refine ws_seq ?_ | with_reducible refine ws_nil ?_ | with_reducible refine ws_set ?_ | with_reducible refine ws_ret ?_ | with_reducible refine ws_if ?_ | with_reducible refine ws_asg ?_ | with_reducible refine ws_par2 ?_ | with_reducible refine ws_par3 ?_ | with_reducible refine ws_own ?_ | with_reducible refine ws_for ?_ | with_reducible refine ws_parO ?_ | with_reducible refine ws_forV ?_ | with_reducible refine ws_put ?_ | with_reducible refine ws_clr ?_ | ((with_reducible apply ws_app); (· exact rfl)) | ((with_reducible apply ws_putO); (· exact rfl)) | ((with_reducible apply ws_frz); (· exact rfl)) | ((with_reducible apply ws_frzp); (· exact rfl)) | ((with_reducible apply wp_loc); (· exact rfl)) | ((with_reducible apply wp_rd); (· exact rfl)) | ((with_reducible apply wp_rdo); (· exact rfl)) | ((with_reducible apply wp_args); (· exact rfl); (· exact rfl); (· exact rfl))))
  refine ws_fldO rfl ⟨by decide, by show 1 < 1000; decide⟩ ?_
  (repeat (first | with_reducible refine wp_cons ?_ | with_reducible refine wp_nil ?_ | with_reducible refine wp_C ?_ | with_reducible refine wp_call ?_ | with_reducible refine wp_tup ?_ | with_reducible refine wp_lst ?_ | with_reducible refine wp_if ?_ | with_reducible refine wp_bin ?_ | with_reducible refine wp_cmp ?_ | with_reducible refine wp_ix ?_ | with_reducible refine wp_bt ?_ | with_reducible refine wp_mt ?_ | with_reducible refine wp_is ?_ | with_reducible refine wp_tru ?_ | with_reducible refine wp_not ?_ | with_reducible refine wp_or ?_ | with_reducible refine wp_and ?_ | with_reducible refine wp_rng1 ?_ | with_reducible refine wp_yes ?_ | with_reducible refine wp_lc ?_ | with_reducible refine wp_iLst ?_ | with_reducible refine wp_neg ?_ | with_reducible refine wp_isi ?_ | with_reducible refine wp_sl ?_ | with_reducible refine wp_noPart ?_ | with_reducible refine wp_part ?_ | with_reducible refine wp_rev ?_ | with_reducible refine wp_keys ?_ | with_reducible refine wp_eq2 ?_ | with_reducible refine wp_iStrD ?_ | with_reducible refine wp_dic0 ?_ | with_reducible refine wp_enum ?_ | with_reducible refine wp_eand ?_ | with_reducible refine wp_attr ?_ | with_reducible refine wp_eqO ?_ | with_reducible refine wp_ne2 ?_ | with_reducible refine wp_con ?_ | with_reducible refine wp_prop ?_ | with_reducible refine wp_enot ?_ | with_reducible refine wp_new ?_ | with_reducible refine wp_callK ?_ | with_reducible refine wp_get1 ?_ | with_reducible refine wp_get2 ?_ | with_reducible refine ws_seq ?_ | with_reducible refine ws_nil ?_ | with_reducible refine ws_set ?_ | with_reducible refine ws_ret ?_ | with_reducible refine ws_if ?_ | with_reducible refine ws_asg ?_ | with_reducible refine ws_par2 ?_ | with_reducible refine ws_par3 ?_ | with_reducible refine ws_own ?_ | with_reducible refine ws_for ?_ | with_reducible refine ws_parO ?_ | with_reducible refine ws_forV ?_ | with_reducible refine ws_put ?_ | with_reducible refine ws_clr ?_ | ((with_reducible apply ws_app); (· exact rfl)) | ((with_reducible apply ws_putO); (· exact rfl)) | ((with_reducible apply ws_frz); (· exact rfl)) | ((with_reducible apply ws_frzp); (· exact rfl)) | ((with_reducible apply wp_loc); (· exact rfl)) | ((with_reducible apply wp_rd); (· exact rfl)) | ((with_reducible apply wp_rdo); (· exact rfl)) | ((with_reducible apply wp_args); (· exact rfl); (· exact rfl); (· exact rfl))))
  exact ⟨.dic c, by rw [List.map_cons, ht]; rfl, _, rfl, by kernel_rfl, rfl⟩
theorem take_init (k : Int) (c : List (D × D)) (s : Store) : M_Take___init__ [.int k] s = .ok (msgD .take k c) s := by kernel_rfl
def Made (d : D) : Prop := ∃ e k ps, d = .tup [msgD e k (sd ps), .str e.str, .int k, .dic (sd ps)] ∧ Cells ps ∧ ps.length < 64
/-- one turn of the first loop -/
theorem build_ok (ns : List Int) (i : Int) (i0 : 0 ≤ i) (i1 : i < 60) {ms : List D} (hm : ∀ d ∈ ms, Made d) (hl : ms.length ≤ 100) {t3 t4 t5 t6 t7 t8 t9 t10 t11 t12 t13 : Slot} {s : Store} {N : Loc → Store → Prop} {R : D → Store → Prop}
    (hN : ∀ m1 m2 m3 t4 t5 t6 t7 t8 t9 s', Made m1 → Made m2 → Made m3 → N [.pu (.scr ns), .ow false (.lst (ms ++ [m1] ++ [m2] ++ [m3])), .pu (.int i), t3, t4, t5, t6, t7, t8, t9, t10, t11, t12, t13] s') :
    Ws ((bCons (p_law_1b0) <| bCons (p_law_1b1) <| bCons (p_law_1b2) <| bCons (p_law_1b3) <| bCons (p_law_1b4) <| bCons (p_law_1b5) <| bCons (p_law_1b6) <| sClr (eLoc 9)) [.pu (.scr ns), .ow false (.lst ms), .pu (.int i), t3, t4, t5, t6, t7, t8, t9, t10, t11, t12, t13] s) N R := by
  unfold p_law_1b0 p_law_1b1 p_law_1b2 p_law_1b3
  (repeat (first | with_reducible refine wp_cons ?_ | with_reducible refine wp_nil ?_ | with_reducible refine wp_C ?_ | with_reducible refine wp_call ?_ | with_reducible refine wp_tup ?_ | with_reducible refine wp_lst ?_ | with_reducible refine wp_if ?_ | with_reducible refine wp_bin ?_ | with_reducible refine wp_cmp ?_ | with_reducible refine wp_ix ?_ | with_reducible refine wp_bt ?_ | with_reducible refine wp_mt ?_ | with_reducible refine wp_is ?_ | with_reducible refine wp_tru ?_ | with_reducible refine wp_not ?_ | with_reducible refine wp_or ?_ | with_reducible refine wp_and ?_ | with_reducible refine wp_rng1 ?_ | with_reducible refine wp_yes ?_ | with_reducible refine wp_lc ?_ | with_reducible refine wp_iLst ?_ | with_reducible refine wp_neg ?_ | with_reducible refine wp_isi ?_ | with_reducible refine wp_sl ?_ | with_reducible refine wp_noPart ?_ | with_reducible refine wp_part ?_ | with_reducible refine wp_rev ?_ | with_reducible refine wp_keys ?_ | with_reducible refine wp_eq2 ?_ | with_reducible refine wp_iStrD ?_ | with_reducible refine wp_dic0 ?_ | with_reducible refine wp_enum ?_ | with_reducible refine wp_eand ?_ | with_reducible refine wp_attr ?_ | with_reducible refine wp_eqO ?_ | with_reducible refine wp_ne2 ?_ | with_reducible refine wp_con ?_ | with_reducible refine wp_prop ?_ | with_reducible refine wp_enot ?_ | with_reducible refine wp_new ?_ | with_reducible refine wp_callK ?_ | with_reducible refine wp_get1 ?_ | with_reducible refine wp_get2 ?_ | with_reducible refine ws_seq ?_ | with_reducible refine ws_nil ?_ | with_reducible refine ws_set ?_ | with_reducible refine ws_ret ?_ | with_reducible refine ws_if ?_ | with_reducible refine ws_asg ?_ | with_reducible refine ws_par2 ?_ | with_reducible refine ws_par3 ?_ | with_reducible refine ws_own ?_ | with_reducible refine ws_for ?_ | with_reducible refine ws_parO ?_ | with_reducible refine ws_forV ?_ | with_reducible refine ws_put ?_ | with_reducible refine ws_clr ?_ | ((with_reducible apply ws_app); (· exact rfl)) | ((with_reducible apply ws_putO); (· exact rfl)) | ((with_reducible apply ws_frz); (· exact rfl)) | ((with_reducible apply ws_frzp); (· exact rfl)) | ((with_reducible apply wp_loc); (· exact rfl)) | ((with_reducible apply wp_rd); (· exact rfl)) | ((with_reducible apply wp_rdo); (· exact rfl)) | ((with_reducible apply wp_args); (· exact rfl); (· exact rfl); (· exact rfl))))
  refine wp_source ns i i0 i1 s fun s1 _ S1 => ?_
  (repeat (first | with_reducible refine wp_cons ?_ | with_reducible refine wp_nil ?_ | with_reducible refine wp_C ?_ | with_reducible refine wp_call ?_ | with_reducible refine wp_tup ?_ | with_reducible refine wp_lst ?_ | with_reducible refine wp_if ?_ | with_reducible refine wp_bin ?_ | with_reducible refine wp_cmp ?_ | with_reducible refine wp_ix ?_ | with_reducible refine wp_bt ?_ | with_reducible refine wp_mt ?_ | with_reducible refine wp_is ?_ | with_reducible refine wp_tru ?_ | with_reducible refine wp_not ?_ | with_reducible refine wp_or ?_ | with_reducible refine wp_and ?_ | with_reducible refine wp_rng1 ?_ | with_reducible refine wp_yes ?_ | with_reducible refine wp_lc ?_ | with_reducible refine wp_iLst ?_ | with_reducible refine wp_neg ?_ | with_reducible refine wp_isi ?_ | with_reducible refine wp_sl ?_ | with_reducible refine wp_noPart ?_ | with_reducible refine wp_part ?_ | with_reducible refine wp_rev ?_ | with_reducible refine wp_keys ?_ | with_reducible refine wp_eq2 ?_ | with_reducible refine wp_iStrD ?_ | with_reducible refine wp_dic0 ?_ | with_reducible refine wp_enum ?_ | with_reducible refine wp_eand ?_ | with_reducible refine wp_attr ?_ | with_reducible refine wp_eqO ?_ | with_reducible refine wp_ne2 ?_ | with_reducible refine wp_con ?_ | with_reducible refine wp_prop ?_ | with_reducible refine wp_enot ?_ | with_reducible refine wp_new ?_ | with_reducible refine wp_callK ?_ | with_reducible refine wp_get1 ?_ | with_reducible refine wp_get2 ?_ | with_reducible refine ws_seq ?_ | with_reducible refine ws_nil ?_ | with_reducible refine ws_set ?_ | with_reducible refine ws_ret ?_ | with_reducible refine ws_if ?_ | with_reducible refine ws_asg ?_ | with_reducible refine ws_par2 ?_ | with_reducible refine ws_par3 ?_ | with_reducible refine ws_own ?_ | with_reducible refine ws_for ?_ | with_reducible refine ws_parO ?_ | with_reducible refine ws_forV ?_ | with_reducible refine ws_put ?_ | with_reducible refine ws_clr ?_ | ((with_reducible apply ws_app); (· exact rfl)) | ((with_reducible apply ws_putO); (· exact rfl)) | ((with_reducible apply ws_frz); (· exact rfl)) | ((with_reducible apply ws_frzp); (· exact rfl)) | ((with_reducible apply wp_loc); (· exact rfl)) | ((with_reducible apply wp_rd); (· exact rfl)) | ((with_reducible apply wp_rdo); (· exact rfl)) | ((with_reducible apply wp_args); (· exact rfl); (· exact rfl); (· exact rfl))))
  refine wp_draw S1 (by omega) (by decide) (by decide) fun d s2 d0 d1 _ S2 => ?_
  (repeat (first | with_reducible refine wp_cons ?_ | with_reducible refine wp_nil ?_ | with_reducible refine wp_C ?_ | with_reducible refine wp_call ?_ | with_reducible refine wp_tup ?_ | with_reducible refine wp_lst ?_ | with_reducible refine wp_if ?_ | with_reducible refine wp_bin ?_ | with_reducible refine wp_cmp ?_ | with_reducible refine wp_ix ?_ | with_reducible refine wp_bt ?_ | with_reducible refine wp_mt ?_ | with_reducible refine wp_is ?_ | with_reducible refine wp_tru ?_ | with_reducible refine wp_not ?_ | with_reducible refine wp_or ?_ | with_reducible refine wp_and ?_ | with_reducible refine wp_rng1 ?_ | with_reducible refine wp_yes ?_ | with_reducible refine wp_lc ?_ | with_reducible refine wp_iLst ?_ | with_reducible refine wp_neg ?_ | with_reducible refine wp_isi ?_ | with_reducible refine wp_sl ?_ | with_reducible refine wp_noPart ?_ | with_reducible refine wp_part ?_ | with_reducible refine wp_rev ?_ | with_reducible refine wp_keys ?_ | with_reducible refine wp_eq2 ?_ | with_reducible refine wp_iStrD ?_ | with_reducible refine wp_dic0 ?_ | with_reducible refine wp_enum ?_ | with_reducible refine wp_eand ?_ | with_reducible refine wp_attr ?_ | with_reducible refine wp_eqO ?_ | with_reducible refine wp_ne2 ?_ | with_reducible refine wp_con ?_ | with_reducible refine wp_prop ?_ | with_reducible refine wp_enot ?_ | with_reducible refine wp_new ?_ | with_reducible refine wp_callK ?_ | with_reducible refine wp_get1 ?_ | with_reducible refine wp_get2 ?_ | with_reducible refine ws_seq ?_ | with_reducible refine ws_nil ?_ | with_reducible refine ws_set ?_ | with_reducible refine ws_ret ?_ | with_reducible refine ws_if ?_ | with_reducible refine ws_asg ?_ | with_reducible refine ws_par2 ?_ | with_reducible refine ws_par3 ?_ | with_reducible refine ws_own ?_ | with_reducible refine ws_for ?_ | with_reducible refine ws_parO ?_ | with_reducible refine ws_forV ?_ | with_reducible refine ws_put ?_ | with_reducible refine ws_clr ?_ | ((with_reducible apply ws_app); (· exact rfl)) | ((with_reducible apply ws_putO); (· exact rfl)) | ((with_reducible apply ws_frz); (· exact rfl)) | ((with_reducible apply ws_frzp); (· exact rfl)) | ((with_reducible apply wp_loc); (· exact rfl)) | ((with_reducible apply wp_rd); (· exact rfl)) | ((with_reducible apply wp_rdo); (· exact rfl)) | ((with_reducible apply wp_args); (· exact rfl); (· exact rfl); (· exact rfl))))
  refine ⟨by show 1 ≤ line; decide, ?_⟩
  (repeat (first | with_reducible refine wp_cons ?_ | with_reducible refine wp_nil ?_ | with_reducible refine wp_C ?_ | with_reducible refine wp_call ?_ | with_reducible refine wp_tup ?_ | with_reducible refine wp_lst ?_ | with_reducible refine wp_if ?_ | with_reducible refine wp_bin ?_ | with_reducible refine wp_cmp ?_ | with_reducible refine wp_ix ?_ | with_reducible refine wp_bt ?_ | with_reducible refine wp_mt ?_ | with_reducible refine wp_is ?_ | with_reducible refine wp_tru ?_ | with_reducible refine wp_not ?_ | with_reducible refine wp_or ?_ | with_reducible refine wp_and ?_ | with_reducible refine wp_rng1 ?_ | with_reducible refine wp_yes ?_ | with_reducible refine wp_lc ?_ | with_reducible refine wp_iLst ?_ | with_reducible refine wp_neg ?_ | with_reducible refine wp_isi ?_ | with_reducible refine wp_sl ?_ | with_reducible refine wp_noPart ?_ | with_reducible refine wp_part ?_ | with_reducible refine wp_rev ?_ | with_reducible refine wp_keys ?_ | with_reducible refine wp_eq2 ?_ | with_reducible refine wp_iStrD ?_ | with_reducible refine wp_dic0 ?_ | with_reducible refine wp_enum ?_ | with_reducible refine wp_eand ?_ | with_reducible refine wp_attr ?_ | with_reducible refine wp_eqO ?_ | with_reducible refine wp_ne2 ?_ | with_reducible refine wp_con ?_ | with_reducible refine wp_prop ?_ | with_reducible refine wp_enot ?_ | with_reducible refine wp_new ?_ | with_reducible refine wp_callK ?_ | with_reducible refine wp_get1 ?_ | with_reducible refine wp_get2 ?_ | with_reducible refine ws_seq ?_ | with_reducible refine ws_nil ?_ | with_reducible refine ws_set ?_ | with_reducible refine ws_ret ?_ | with_reducible refine ws_if ?_ | with_reducible refine ws_asg ?_ | with_reducible refine ws_par2 ?_ | with_reducible refine ws_par3 ?_ | with_reducible refine ws_own ?_ | with_reducible refine ws_for ?_ | with_reducible refine ws_parO ?_ | with_reducible refine ws_forV ?_ | with_reducible refine ws_put ?_ | with_reducible refine ws_clr ?_ | ((with_reducible apply ws_app); (· exact rfl)) | ((with_reducible apply ws_putO); (· exact rfl)) | ((with_reducible apply ws_frz); (· exact rfl)) | ((with_reducible apply ws_frzp); (· exact rfl)) | ((with_reducible apply wp_loc); (· exact rfl)) | ((with_reducible apply wp_rd); (· exact rfl)) | ((with_reducible apply wp_rdo); (· exact rfl)) | ((with_reducible apply wp_args); (· exact rfl); (· exact rfl); (· exact rfl))))
  refine wp_words (T := ["key"]) S2 (by omega) d0 (by omega) (by decide) fun ws s3 hws _ hnd _ S3 => ?_
  (repeat (first | with_reducible refine wp_cons ?_ | with_reducible refine wp_nil ?_ | with_reducible refine wp_C ?_ | with_reducible refine wp_call ?_ | with_reducible refine wp_tup ?_ | with_reducible refine wp_lst ?_ | with_reducible refine wp_if ?_ | with_reducible refine wp_bin ?_ | with_reducible refine wp_cmp ?_ | with_reducible refine wp_ix ?_ | with_reducible refine wp_bt ?_ | with_reducible refine wp_mt ?_ | with_reducible refine wp_is ?_ | with_reducible refine wp_tru ?_ | with_reducible refine wp_not ?_ | with_reducible refine wp_or ?_ | with_reducible refine wp_and ?_ | with_reducible refine wp_rng1 ?_ | with_reducible refine wp_yes ?_ | with_reducible refine wp_lc ?_ | with_reducible refine wp_iLst ?_ | with_reducible refine wp_neg ?_ | with_reducible refine wp_isi ?_ | with_reducible refine wp_sl ?_ | with_reducible refine wp_noPart ?_ | with_reducible refine wp_part ?_ | with_reducible refine wp_rev ?_ | with_reducible refine wp_keys ?_ | with_reducible refine wp_eq2 ?_ | with_reducible refine wp_iStrD ?_ | with_reducible refine wp_dic0 ?_ | with_reducible refine wp_enum ?_ | with_reducible refine wp_eand ?_ | with_reducible refine wp_attr ?_ | with_reducible refine wp_eqO ?_ | with_reducible refine wp_ne2 ?_ | with_reducible refine wp_con ?_ | with_reducible refine wp_prop ?_ | with_reducible refine wp_enot ?_ | with_reducible refine wp_new ?_ | with_reducible refine wp_callK ?_ | with_reducible refine wp_get1 ?_ | with_reducible refine wp_get2 ?_ | with_reducible refine ws_seq ?_ | with_reducible refine ws_nil ?_ | with_reducible refine ws_set ?_ | with_reducible refine ws_ret ?_ | with_reducible refine ws_if ?_ | with_reducible refine ws_asg ?_ | with_reducible refine ws_par2 ?_ | with_reducible refine ws_par3 ?_ | with_reducible refine ws_own ?_ | with_reducible refine ws_for ?_ | with_reducible refine ws_parO ?_ | with_reducible refine ws_forV ?_ | with_reducible refine ws_put ?_ | with_reducible refine ws_clr ?_ | ((with_reducible apply ws_app); (· exact rfl)) | ((with_reducible apply ws_putO); (· exact rfl)) | ((with_reducible apply ws_frz); (· exact rfl)) | ((with_reducible apply ws_frzp); (· exact rfl)) | ((with_reducible apply wp_loc); (· exact rfl)) | ((with_reducible apply wp_rd); (· exact rfl)) | ((with_reducible apply wp_rdo); (· exact rfl)) | ((with_reducible apply wp_args); (· exact rfl); (· exact rfl); (· exact rfl))))
  refine ⟨.int (10 ^ 40), by kernel_rfl, ?_⟩
  (repeat (first | with_reducible refine wp_cons ?_ | with_reducible refine wp_nil ?_ | with_reducible refine wp_C ?_ | with_reducible refine wp_call ?_ | with_reducible refine wp_tup ?_ | with_reducible refine wp_lst ?_ | with_reducible refine wp_if ?_ | with_reducible refine wp_bin ?_ | with_reducible refine wp_cmp ?_ | with_reducible refine wp_ix ?_ | with_reducible refine wp_bt ?_ | with_reducible refine wp_mt ?_ | with_reducible refine wp_is ?_ | with_reducible refine wp_tru ?_ | with_reducible refine wp_not ?_ | with_reducible refine wp_or ?_ | with_reducible refine wp_and ?_ | with_reducible refine wp_rng1 ?_ | with_reducible refine wp_yes ?_ | with_reducible refine wp_lc ?_ | with_reducible refine wp_iLst ?_ | with_reducible refine wp_neg ?_ | with_reducible refine wp_isi ?_ | with_reducible refine wp_sl ?_ | with_reducible refine wp_noPart ?_ | with_reducible refine wp_part ?_ | with_reducible refine wp_rev ?_ | with_reducible refine wp_keys ?_ | with_reducible refine wp_eq2 ?_ | with_reducible refine wp_iStrD ?_ | with_reducible refine wp_dic0 ?_ | with_reducible refine wp_enum ?_ | with_reducible refine wp_eand ?_ | with_reducible refine wp_attr ?_ | with_reducible refine wp_eqO ?_ | with_reducible refine wp_ne2 ?_ | with_reducible refine wp_con ?_ | with_reducible refine wp_prop ?_ | with_reducible refine wp_enot ?_ | with_reducible refine wp_new ?_ | with_reducible refine wp_callK ?_ | with_reducible refine wp_get1 ?_ | with_reducible refine wp_get2 ?_ | with_reducible refine ws_seq ?_ | with_reducible refine ws_nil ?_ | with_reducible refine ws_set ?_ | with_reducible refine ws_ret ?_ | with_reducible refine ws_if ?_ | with_reducible refine ws_asg ?_ | with_reducible refine ws_par2 ?_ | with_reducible refine ws_par3 ?_ | with_reducible refine ws_own ?_ | with_reducible refine ws_for ?_ | with_reducible refine ws_parO ?_ | with_reducible refine ws_forV ?_ | with_reducible refine ws_put ?_ | with_reducible refine ws_clr ?_ | ((with_reducible apply ws_app); (· exact rfl)) | ((with_reducible apply ws_putO); (· exact rfl)) | ((with_reducible apply ws_frz); (· exact rfl)) | ((with_reducible apply ws_frzp); (· exact rfl)) | ((with_reducible apply wp_loc); (· exact rfl)) | ((with_reducible apply wp_rd); (· exact rfl)) | ((with_reducible apply wp_rdo); (· exact rfl)) | ((with_reducible apply wp_args); (· exact rfl); (· exact rfl); (· exact rfl))))
  refine wp_number S3 (by omega) (by decide) (by decide) fun key s4 _ S4 _ => ?_
  (repeat (first | with_reducible refine wp_cons ?_ | with_reducible refine wp_nil ?_ | with_reducible refine wp_C ?_ | with_reducible refine wp_call ?_ | with_reducible refine wp_tup ?_ | with_reducible refine wp_lst ?_ | with_reducible refine wp_if ?_ | with_reducible refine wp_bin ?_ | with_reducible refine wp_cmp ?_ | with_reducible refine wp_ix ?_ | with_reducible refine wp_bt ?_ | with_reducible refine wp_mt ?_ | with_reducible refine wp_is ?_ | with_reducible refine wp_tru ?_ | with_reducible refine wp_not ?_ | with_reducible refine wp_or ?_ | with_reducible refine wp_and ?_ | with_reducible refine wp_rng1 ?_ | with_reducible refine wp_yes ?_ | with_reducible refine wp_lc ?_ | with_reducible refine wp_iLst ?_ | with_reducible refine wp_neg ?_ | with_reducible refine wp_isi ?_ | with_reducible refine wp_sl ?_ | with_reducible refine wp_noPart ?_ | with_reducible refine wp_part ?_ | with_reducible refine wp_rev ?_ | with_reducible refine wp_keys ?_ | with_reducible refine wp_eq2 ?_ | with_reducible refine wp_iStrD ?_ | with_reducible refine wp_dic0 ?_ | with_reducible refine wp_enum ?_ | with_reducible refine wp_eand ?_ | with_reducible refine wp_attr ?_ | with_reducible refine wp_eqO ?_ | with_reducible refine wp_ne2 ?_ | with_reducible refine wp_con ?_ | with_reducible refine wp_prop ?_ | with_reducible refine wp_enot ?_ | with_reducible refine wp_new ?_ | with_reducible refine wp_callK ?_ | with_reducible refine wp_get1 ?_ | with_reducible refine wp_get2 ?_ | with_reducible refine ws_seq ?_ | with_reducible refine ws_nil ?_ | with_reducible refine ws_set ?_ | with_reducible refine ws_ret ?_ | with_reducible refine ws_if ?_ | with_reducible refine ws_asg ?_ | with_reducible refine ws_par2 ?_ | with_reducible refine ws_par3 ?_ | with_reducible refine ws_own ?_ | with_reducible refine ws_for ?_ | with_reducible refine ws_parO ?_ | with_reducible refine ws_forV ?_ | with_reducible refine ws_put ?_ | with_reducible refine ws_clr ?_ | ((with_reducible apply ws_app); (· exact rfl)) | ((with_reducible apply ws_putO); (· exact rfl)) | ((with_reducible apply ws_frz); (· exact rfl)) | ((with_reducible apply ws_frzp); (· exact rfl)) | ((with_reducible apply wp_loc); (· exact rfl)) | ((with_reducible apply wp_rd); (· exact rfl)) | ((with_reducible apply wp_rdo); (· exact rfl)) | ((with_reducible apply wp_args); (· exact rfl); (· exact rfl); (· exact rfl))))
  refine wp_cells S4 (by omega) (by omega) hnd fun ps s5 hc hp _ S5 => ?_
  have hpl : ps.length < 64 := by
    have := nodup_len hc.nd fun x hx => (by
      obtain ⟨p, hp1, rfl⟩ := List.mem_map.mp hx
      exact hp p hp1 : x ∈ ws)
    rw [List.length_map] at this
    omega
  refine ⟨_, _, rfl, ?_⟩
  (repeat (first | with_reducible refine wp_cons ?_ | with_reducible refine wp_nil ?_ | with_reducible refine wp_C ?_ | with_reducible refine wp_call ?_ | with_reducible refine wp_tup ?_ | with_reducible refine wp_lst ?_ | with_reducible refine wp_if ?_ | with_reducible refine wp_bin ?_ | with_reducible refine wp_cmp ?_ | with_reducible refine wp_ix ?_ | with_reducible refine wp_bt ?_ | with_reducible refine wp_mt ?_ | with_reducible refine wp_is ?_ | with_reducible refine wp_tru ?_ | with_reducible refine wp_not ?_ | with_reducible refine wp_or ?_ | with_reducible refine wp_and ?_ | with_reducible refine wp_rng1 ?_ | with_reducible refine wp_yes ?_ | with_reducible refine wp_lc ?_ | with_reducible refine wp_iLst ?_ | with_reducible refine wp_neg ?_ | with_reducible refine wp_isi ?_ | with_reducible refine wp_sl ?_ | with_reducible refine wp_noPart ?_ | with_reducible refine wp_part ?_ | with_reducible refine wp_rev ?_ | with_reducible refine wp_keys ?_ | with_reducible refine wp_eq2 ?_ | with_reducible refine wp_iStrD ?_ | with_reducible refine wp_dic0 ?_ | with_reducible refine wp_enum ?_ | with_reducible refine wp_eand ?_ | with_reducible refine wp_attr ?_ | with_reducible refine wp_eqO ?_ | with_reducible refine wp_ne2 ?_ | with_reducible refine wp_con ?_ | with_reducible refine wp_prop ?_ | with_reducible refine wp_enot ?_ | with_reducible refine wp_new ?_ | with_reducible refine wp_callK ?_ | with_reducible refine wp_get1 ?_ | with_reducible refine wp_get2 ?_ | with_reducible refine ws_seq ?_ | with_reducible refine ws_nil ?_ | with_reducible refine ws_set ?_ | with_reducible refine ws_ret ?_ | with_reducible refine ws_if ?_ | with_reducible refine ws_asg ?_ | with_reducible refine ws_par2 ?_ | with_reducible refine ws_par3 ?_ | with_reducible refine ws_own ?_ | with_reducible refine ws_for ?_ | with_reducible refine ws_parO ?_ | with_reducible refine ws_forV ?_ | with_reducible refine ws_put ?_ | with_reducible refine ws_clr ?_ | ((with_reducible apply ws_app); (· exact rfl)) | ((with_reducible apply ws_putO); (· exact rfl)) | ((with_reducible apply ws_frz); (· exact rfl)) | ((with_reducible apply ws_frzp); (· exact rfl)) | ((with_reducible apply wp_loc); (· exact rfl)) | ((with_reducible apply wp_rd); (· exact rfl)) | ((with_reducible apply wp_rdo); (· exact rfl)) | ((with_reducible apply wp_args); (· exact rfl); (· exact rfl); (· exact rfl))))
  refine ⟨.dic (sd ps), rfl, ?_⟩
  (repeat (first | with_reducible refine wp_cons ?_ | with_reducible refine wp_nil ?_ | with_reducible refine wp_C ?_ | with_reducible refine wp_call ?_ | with_reducible refine wp_tup ?_ | with_reducible refine wp_lst ?_ | with_reducible refine wp_if ?_ | with_reducible refine wp_bin ?_ | with_reducible refine wp_cmp ?_ | with_reducible refine wp_ix ?_ | with_reducible refine wp_bt ?_ | with_reducible refine wp_mt ?_ | with_reducible refine wp_is ?_ | with_reducible refine wp_tru ?_ | with_reducible refine wp_not ?_ | with_reducible refine wp_or ?_ | with_reducible refine wp_and ?_ | with_reducible refine wp_rng1 ?_ | with_reducible refine wp_yes ?_ | with_reducible refine wp_lc ?_ | with_reducible refine wp_iLst ?_ | with_reducible refine wp_neg ?_ | with_reducible refine wp_isi ?_ | with_reducible refine wp_sl ?_ | with_reducible refine wp_noPart ?_ | with_reducible refine wp_part ?_ | with_reducible refine wp_rev ?_ | with_reducible refine wp_keys ?_ | with_reducible refine wp_eq2 ?_ | with_reducible refine wp_iStrD ?_ | with_reducible refine wp_dic0 ?_ | with_reducible refine wp_enum ?_ | with_reducible refine wp_eand ?_ | with_reducible refine wp_attr ?_ | with_reducible refine wp_eqO ?_ | with_reducible refine wp_ne2 ?_ | with_reducible refine wp_con ?_ | with_reducible refine wp_prop ?_ | with_reducible refine wp_enot ?_ | with_reducible refine wp_new ?_ | with_reducible refine wp_callK ?_ | with_reducible refine wp_get1 ?_ | with_reducible refine wp_get2 ?_ | with_reducible refine ws_seq ?_ | with_reducible refine ws_nil ?_ | with_reducible refine ws_set ?_ | with_reducible refine ws_ret ?_ | with_reducible refine ws_if ?_ | with_reducible refine ws_asg ?_ | with_reducible refine ws_par2 ?_ | with_reducible refine ws_par3 ?_ | with_reducible refine ws_own ?_ | with_reducible refine ws_for ?_ | with_reducible refine ws_parO ?_ | with_reducible refine ws_forV ?_ | with_reducible refine ws_put ?_ | with_reducible refine ws_clr ?_ | ((with_reducible apply ws_app); (· exact rfl)) | ((with_reducible apply ws_putO); (· exact rfl)) | ((with_reducible apply ws_frz); (· exact rfl)) | ((with_reducible apply ws_frzp); (· exact rfl)) | ((with_reducible apply wp_loc); (· exact rfl)) | ((with_reducible apply wp_rd); (· exact rfl)) | ((with_reducible apply wp_rdo); (· exact rfl)) | ((with_reducible apply wp_args); (· exact rfl); (· exact rfl); (· exact rfl))))
  refine ⟨.dic (sd ps), rfl, ?_⟩
  (repeat (first | with_reducible refine wp_cons ?_ | with_reducible refine wp_nil ?_ | with_reducible refine wp_C ?_ | with_reducible refine wp_call ?_ | with_reducible refine wp_tup ?_ | with_reducible refine wp_lst ?_ | with_reducible refine wp_if ?_ | with_reducible refine wp_bin ?_ | with_reducible refine wp_cmp ?_ | with_reducible refine wp_ix ?_ | with_reducible refine wp_bt ?_ | with_reducible refine wp_mt ?_ | with_reducible refine wp_is ?_ | with_reducible refine wp_tru ?_ | with_reducible refine wp_not ?_ | with_reducible refine wp_or ?_ | with_reducible refine wp_and ?_ | with_reducible refine wp_rng1 ?_ | with_reducible refine wp_yes ?_ | with_reducible refine wp_lc ?_ | with_reducible refine wp_iLst ?_ | with_reducible refine wp_neg ?_ | with_reducible refine wp_isi ?_ | with_reducible refine wp_sl ?_ | with_reducible refine wp_noPart ?_ | with_reducible refine wp_part ?_ | with_reducible refine wp_rev ?_ | with_reducible refine wp_keys ?_ | with_reducible refine wp_eq2 ?_ | with_reducible refine wp_iStrD ?_ | with_reducible refine wp_dic0 ?_ | with_reducible refine wp_enum ?_ | with_reducible refine wp_eand ?_ | with_reducible refine wp_attr ?_ | with_reducible refine wp_eqO ?_ | with_reducible refine wp_ne2 ?_ | with_reducible refine wp_con ?_ | with_reducible refine wp_prop ?_ | with_reducible refine wp_enot ?_ | with_reducible refine wp_new ?_ | with_reducible refine wp_callK ?_ | with_reducible refine wp_get1 ?_ | with_reducible refine wp_get2 ?_ | with_reducible refine ws_seq ?_ | with_reducible refine ws_nil ?_ | with_reducible refine ws_set ?_ | with_reducible refine ws_ret ?_ | with_reducible refine ws_if ?_ | with_reducible refine ws_asg ?_ | with_reducible refine ws_par2 ?_ | with_reducible refine ws_par3 ?_ | with_reducible refine ws_own ?_ | with_reducible refine ws_for ?_ | with_reducible refine ws_parO ?_ | with_reducible refine ws_forV ?_ | with_reducible refine ws_put ?_ | with_reducible refine ws_clr ?_ | ((with_reducible apply ws_app); (· exact rfl)) | ((with_reducible apply ws_putO); (· exact rfl)) | ((with_reducible apply ws_frz); (· exact rfl)) | ((with_reducible apply ws_frzp); (· exact rfl)) | ((with_reducible apply wp_loc); (· exact rfl)) | ((with_reducible apply wp_rd); (· exact rfl)) | ((with_reducible apply wp_rdo); (· exact rfl)) | ((with_reducible apply wp_args); (· exact rfl); (· exact rfl); (· exact rfl))))
  refine ⟨⟨rfl, rfl⟩, ?_⟩
  have l5 := S5.lt
  have S6 : SrcB (s5 ++ [D.dic (sd ps)] ++ [D.dic (sd ps)]) s.length (0 + 1 + 9 * d.toNat + 2 + 3 * ws.length) := (S5.app).app
  have f1 : (s5 ++ [D.dic (sd ps)] ++ [D.dic (sd ps)])[s5.length]? = some (.dic (sd ps)) := by simp
  have f2 : (s5 ++ [D.dic (sd ps)] ++ [D.dic (sd ps)])[(s5 ++ [D.dic (sd ps)]).length]? = some (.dic (sd ps)) := by simp
  have n1 : s5.length ≠ s.length := by omega
  have n2 : (s5 ++ [D.dic (sd ps)]).length ≠ s.length := by simp; omega
  have n3 : s5.length ≠ (s5 ++ [D.dic (sd ps)]).length := by simp
  generalize (s5 ++ [D.dic (sd ps)]).length = b at f2 n2 n3
  generalize hs6 : s5 ++ [D.dic (sd ps)] ++ [D.dic (sd ps)] = s6 at S6 f1 f2
  generalize s5.length = a at f1 n1 n3
  generalize s.length = c at S6 n1 n2
  clear S1 S2 S3 S4 S5 l5 hs6
  unfold p_law_1b4 p_law_1b4t0 p_law_1b4t1 p_law_1b4t2 p_law_1b4e0 p_law_1b4e1 p_law_1b4e2
  (repeat (first | with_reducible refine wp_cons ?_ | with_reducible refine wp_nil ?_ | with_reducible refine wp_C ?_ | with_reducible refine wp_call ?_ | with_reducible refine wp_tup ?_ | with_reducible refine wp_lst ?_ | with_reducible refine wp_if ?_ | with_reducible refine wp_bin ?_ | with_reducible refine wp_cmp ?_ | with_reducible refine wp_ix ?_ | with_reducible refine wp_bt ?_ | with_reducible refine wp_mt ?_ | with_reducible refine wp_is ?_ | with_reducible refine wp_tru ?_ | with_reducible refine wp_not ?_ | with_reducible refine wp_or ?_ | with_reducible refine wp_and ?_ | with_reducible refine wp_rng1 ?_ | with_reducible refine wp_yes ?_ | with_reducible refine wp_lc ?_ | with_reducible refine wp_iLst ?_ | with_reducible refine wp_neg ?_ | with_reducible refine wp_isi ?_ | with_reducible refine wp_sl ?_ | with_reducible refine wp_noPart ?_ | with_reducible refine wp_part ?_ | with_reducible refine wp_rev ?_ | with_reducible refine wp_keys ?_ | with_reducible refine wp_eq2 ?_ | with_reducible refine wp_iStrD ?_ | with_reducible refine wp_dic0 ?_ | with_reducible refine wp_enum ?_ | with_reducible refine wp_eand ?_ | with_reducible refine wp_attr ?_ | with_reducible refine wp_eqO ?_ | with_reducible refine wp_ne2 ?_ | with_reducible refine wp_con ?_ | with_reducible refine wp_prop ?_ | with_reducible refine wp_enot ?_ | with_reducible refine wp_new ?_ | with_reducible refine wp_callK ?_ | with_reducible refine wp_get1 ?_ | with_reducible refine wp_get2 ?_ | with_reducible refine ws_seq ?_ | with_reducible refine ws_nil ?_ | with_reducible refine ws_set ?_ | with_reducible refine ws_ret ?_ | with_reducible refine ws_if ?_ | with_reducible refine ws_asg ?_ | with_reducible refine ws_par2 ?_ | with_reducible refine ws_par3 ?_ | with_reducible refine ws_own ?_ | with_reducible refine ws_for ?_ | with_reducible refine ws_parO ?_ | with_reducible refine ws_forV ?_ | with_reducible refine ws_put ?_ | with_reducible refine ws_clr ?_ | ((with_reducible apply ws_app); (· exact rfl)) | ((with_reducible apply ws_putO); (· exact rfl)) | ((with_reducible apply ws_frz); (· exact rfl)) | ((with_reducible apply ws_frzp); (· exact rfl)) | ((with_reducible apply wp_loc); (· exact rfl)) | ((with_reducible apply wp_rd); (· exact rfl)) | ((with_reducible apply wp_rdo); (· exact rfl)) | ((with_reducible apply wp_args); (· exact rfl); (· exact rfl); (· exact rfl))))
  refine draw_fr S6 (by omega) (by decide) (by decide) fun d2 s7 _ _ _ _ fr => ?_
  have g1 : s7[a]? = some (.dic (sd ps)) := (fr a n1).trans f1
  have g2 : s7[b]? = some (.dic (sd ps)) := (fr b n2).trans f2
  clear fr f1 f2 S6
  have a1 := der_at g1
  have a2 := der_at g2
  (repeat (first | with_reducible refine wp_cons ?_ | with_reducible refine wp_nil ?_ | with_reducible refine wp_C ?_ | with_reducible refine wp_call ?_ | with_reducible refine wp_tup ?_ | with_reducible refine wp_lst ?_ | with_reducible refine wp_if ?_ | with_reducible refine wp_bin ?_ | with_reducible refine wp_cmp ?_ | with_reducible refine wp_ix ?_ | with_reducible refine wp_bt ?_ | with_reducible refine wp_mt ?_ | with_reducible refine wp_is ?_ | with_reducible refine wp_tru ?_ | with_reducible refine wp_not ?_ | with_reducible refine wp_or ?_ | with_reducible refine wp_and ?_ | with_reducible refine wp_rng1 ?_ | with_reducible refine wp_yes ?_ | with_reducible refine wp_lc ?_ | with_reducible refine wp_iLst ?_ | with_reducible refine wp_neg ?_ | with_reducible refine wp_isi ?_ | with_reducible refine wp_sl ?_ | with_reducible refine wp_noPart ?_ | with_reducible refine wp_part ?_ | with_reducible refine wp_rev ?_ | with_reducible refine wp_keys ?_ | with_reducible refine wp_eq2 ?_ | with_reducible refine wp_iStrD ?_ | with_reducible refine wp_dic0 ?_ | with_reducible refine wp_enum ?_ | with_reducible refine wp_eand ?_ | with_reducible refine wp_attr ?_ | with_reducible refine wp_eqO ?_ | with_reducible refine wp_ne2 ?_ | with_reducible refine wp_con ?_ | with_reducible refine wp_prop ?_ | with_reducible refine wp_enot ?_ | with_reducible refine wp_new ?_ | with_reducible refine wp_callK ?_ | with_reducible refine wp_get1 ?_ | with_reducible refine wp_get2 ?_ | with_reducible refine ws_seq ?_ | with_reducible refine ws_nil ?_ | with_reducible refine ws_set ?_ | with_reducible refine ws_ret ?_ | with_reducible refine ws_if ?_ | with_reducible refine ws_asg ?_ | with_reducible refine ws_par2 ?_ | with_reducible refine ws_par3 ?_ | with_reducible refine ws_own ?_ | with_reducible refine ws_for ?_ | with_reducible refine ws_parO ?_ | with_reducible refine ws_forV ?_ | with_reducible refine ws_put ?_ | with_reducible refine ws_clr ?_ | ((with_reducible apply ws_app); (· exact rfl)) | ((with_reducible apply ws_putO); (· exact rfl)) | ((with_reducible apply ws_frz); (· exact rfl)) | ((with_reducible apply ws_frzp); (· exact rfl)) | ((with_reducible apply wp_loc); (· exact rfl)) | ((with_reducible apply wp_rd); (· exact rfl)) | ((with_reducible apply wp_rdo); (· exact rfl)) | ((with_reducible apply wp_args); (· exact rfl); (· exact rfl); (· exact rfl))))
  refine ⟨.bl (d2 == 0), rfl, _, rfl, ?_⟩
  have k1 : Made (.tup [msgD .put key (sd ps), .str "put", .int key, .dic (sd ps)]) := ⟨.put, key, ps, rfl, hc, hpl⟩
  have k2 : Made (.tup [msgD .change key (sd ps), .str "change", .int key, .dic (sd ps)]) := ⟨.change, key, ps, rfl, hc, hpl⟩
  have k3 : Made (.tup [msgD .take key (sd ps), .str "take", .int key, .dic (sd ps)]) := ⟨.take, key, ps, rfl, hc, hpl⟩
  have rest : Ws ((bCons (p_law_1b5) <| bCons (p_law_1b6) <| sClr (eLoc 9)) [.pu (.scr ns), .ow false (.lst (ms ++ [.tup [msgD .put key (sd ps), .str "put", .int key, .dic (sd ps)]] ++ [.tup [msgD .change key (sd ps), .str "change", .int key, .dic (sd ps)]] ++ [.tup [msgD .take key (sd ps), .str "take", .int key, .dic (sd ps)]])), .pu (.int i), t3, .pu (.ref c), .pu (.lst (ws.map .str)), .pu (.int key), .pu (.dic (sd ps)), .pu (.ref a), .pu (.ref b), t10, t11, t12, t13] s7) N R := by
    unfold p_law_1b5 p_law_1b6
    (repeat (first | with_reducible refine wp_cons ?_ | with_reducible refine wp_nil ?_ | with_reducible refine wp_C ?_ | with_reducible refine wp_call ?_ | with_reducible refine wp_tup ?_ | with_reducible refine wp_lst ?_ | with_reducible refine wp_if ?_ | with_reducible refine wp_bin ?_ | with_reducible refine wp_cmp ?_ | with_reducible refine wp_ix ?_ | with_reducible refine wp_bt ?_ | with_reducible refine wp_mt ?_ | with_reducible refine wp_is ?_ | with_reducible refine wp_tru ?_ | with_reducible refine wp_not ?_ | with_reducible refine wp_or ?_ | with_reducible refine wp_and ?_ | with_reducible refine wp_rng1 ?_ | with_reducible refine wp_yes ?_ | with_reducible refine wp_lc ?_ | with_reducible refine wp_iLst ?_ | with_reducible refine wp_neg ?_ | with_reducible refine wp_isi ?_ | with_reducible refine wp_sl ?_ | with_reducible refine wp_noPart ?_ | with_reducible refine wp_part ?_ | with_reducible refine wp_rev ?_ | with_reducible refine wp_keys ?_ | with_reducible refine wp_eq2 ?_ | with_reducible refine wp_iStrD ?_ | with_reducible refine wp_dic0 ?_ | with_reducible refine wp_enum ?_ | with_reducible refine wp_eand ?_ | with_reducible refine wp_attr ?_ | with_reducible refine wp_eqO ?_ | with_reducible refine wp_ne2 ?_ | with_reducible refine wp_con ?_ | with_reducible refine wp_prop ?_ | with_reducible refine wp_enot ?_ | with_reducible refine wp_new ?_ | with_reducible refine wp_callK ?_ | with_reducible refine wp_get1 ?_ | with_reducible refine wp_get2 ?_ | with_reducible refine ws_seq ?_ | with_reducible refine ws_nil ?_ | with_reducible refine ws_set ?_ | with_reducible refine ws_ret ?_ | with_reducible refine ws_if ?_ | with_reducible refine ws_asg ?_ | with_reducible refine ws_par2 ?_ | with_reducible refine ws_par3 ?_ | with_reducible refine ws_own ?_ | with_reducible refine ws_for ?_ | with_reducible refine ws_parO ?_ | with_reducible refine ws_forV ?_ | with_reducible refine ws_put ?_ | with_reducible refine ws_clr ?_ | ((with_reducible apply ws_app); (· exact rfl)) | ((with_reducible apply ws_putO); (· exact rfl)) | ((with_reducible apply ws_frz); (· exact rfl)) | ((with_reducible apply ws_frzp); (· exact rfl)) | ((with_reducible apply wp_loc); (· exact rfl)) | ((with_reducible apply wp_rd); (· exact rfl)) | ((with_reducible apply wp_rdo); (· exact rfl)) | ((with_reducible apply wp_args); (· exact rfl); (· exact rfl); (· exact rfl))))
    refine ⟨.bl false, by rw [a1]; exact dneD_cells hc, false, rfl, ?_⟩
    rw [if_neg Bool.false_ne_true]
    (repeat (first | with_reducible refine wp_cons ?_ | with_reducible refine wp_nil ?_ | with_reducible refine wp_C ?_ | with_reducible refine wp_call ?_ | with_reducible refine wp_tup ?_ | with_reducible refine wp_lst ?_ | with_reducible refine wp_if ?_ | with_reducible refine wp_bin ?_ | with_reducible refine wp_cmp ?_ | with_reducible refine wp_ix ?_ | with_reducible refine wp_bt ?_ | with_reducible refine wp_mt ?_ | with_reducible refine wp_is ?_ | with_reducible refine wp_tru ?_ | with_reducible refine wp_not ?_ | with_reducible refine wp_or ?_ | with_reducible refine wp_and ?_ | with_reducible refine wp_rng1 ?_ | with_reducible refine wp_yes ?_ | with_reducible refine wp_lc ?_ | with_reducible refine wp_iLst ?_ | with_reducible refine wp_neg ?_ | with_reducible refine wp_isi ?_ | with_reducible refine wp_sl ?_ | with_reducible refine wp_noPart ?_ | with_reducible refine wp_part ?_ | with_reducible refine wp_rev ?_ | with_reducible refine wp_keys ?_ | with_reducible refine wp_eq2 ?_ | with_reducible refine wp_iStrD ?_ | with_reducible refine wp_dic0 ?_ | with_reducible refine wp_enum ?_ | with_reducible refine wp_eand ?_ | with_reducible refine wp_attr ?_ | with_reducible refine wp_eqO ?_ | with_reducible refine wp_ne2 ?_ | with_reducible refine wp_con ?_ | with_reducible refine wp_prop ?_ | with_reducible refine wp_enot ?_ | with_reducible refine wp_new ?_ | with_reducible refine wp_callK ?_ | with_reducible refine wp_get1 ?_ | with_reducible refine wp_get2 ?_ | with_reducible refine ws_seq ?_ | with_reducible refine ws_nil ?_ | with_reducible refine ws_set ?_ | with_reducible refine ws_ret ?_ | with_reducible refine ws_if ?_ | with_reducible refine ws_asg ?_ | with_reducible refine ws_par2 ?_ | with_reducible refine ws_par3 ?_ | with_reducible refine ws_own ?_ | with_reducible refine ws_for ?_ | with_reducible refine ws_parO ?_ | with_reducible refine ws_forV ?_ | with_reducible refine ws_put ?_ | with_reducible refine ws_clr ?_ | ((with_reducible apply ws_app); (· exact rfl)) | ((with_reducible apply ws_putO); (· exact rfl)) | ((with_reducible apply ws_frz); (· exact rfl)) | ((with_reducible apply ws_frzp); (· exact rfl)) | ((with_reducible apply wp_loc); (· exact rfl)) | ((with_reducible apply wp_rd); (· exact rfl)) | ((with_reducible apply wp_rdo); (· exact rfl)) | ((with_reducible apply wp_args); (· exact rfl); (· exact rfl); (· exact rfl))))
    refine ⟨.bl false, by rw [a2]; exact dneD_cells hc, false, rfl, ?_⟩
    rw [if_neg Bool.false_ne_true]
    (repeat (first | with_reducible refine wp_cons ?_ | with_reducible refine wp_nil ?_ | with_reducible refine wp_C ?_ | with_reducible refine wp_call ?_ | with_reducible refine wp_tup ?_ | with_reducible refine wp_lst ?_ | with_reducible refine wp_if ?_ | with_reducible refine wp_bin ?_ | with_reducible refine wp_cmp ?_ | with_reducible refine wp_ix ?_ | with_reducible refine wp_bt ?_ | with_reducible refine wp_mt ?_ | with_reducible refine wp_is ?_ | with_reducible refine wp_tru ?_ | with_reducible refine wp_not ?_ | with_reducible refine wp_or ?_ | with_reducible refine wp_and ?_ | with_reducible refine wp_rng1 ?_ | with_reducible refine wp_yes ?_ | with_reducible refine wp_lc ?_ | with_reducible refine wp_iLst ?_ | with_reducible refine wp_neg ?_ | with_reducible refine wp_isi ?_ | with_reducible refine wp_sl ?_ | with_reducible refine wp_noPart ?_ | with_reducible refine wp_part ?_ | with_reducible refine wp_rev ?_ | with_reducible refine wp_keys ?_ | with_reducible refine wp_eq2 ?_ | with_reducible refine wp_iStrD ?_ | with_reducible refine wp_dic0 ?_ | with_reducible refine wp_enum ?_ | with_reducible refine wp_eand ?_ | with_reducible refine wp_attr ?_ | with_reducible refine wp_eqO ?_ | with_reducible refine wp_ne2 ?_ | with_reducible refine wp_con ?_ | with_reducible refine wp_prop ?_ | with_reducible refine wp_enot ?_ | with_reducible refine wp_new ?_ | with_reducible refine wp_callK ?_ | with_reducible refine wp_get1 ?_ | with_reducible refine wp_get2 ?_ | with_reducible refine ws_seq ?_ | with_reducible refine ws_nil ?_ | with_reducible refine ws_set ?_ | with_reducible refine ws_ret ?_ | with_reducible refine ws_if ?_ | with_reducible refine ws_asg ?_ | with_reducible refine ws_par2 ?_ | with_reducible refine ws_par3 ?_ | with_reducible refine ws_own ?_ | with_reducible refine ws_for ?_ | with_reducible refine ws_parO ?_ | with_reducible refine ws_forV ?_ | with_reducible refine ws_put ?_ | with_reducible refine ws_clr ?_ | ((with_reducible apply ws_app); (· exact rfl)) | ((with_reducible apply ws_putO); (· exact rfl)) | ((with_reducible apply ws_frz); (· exact rfl)) | ((with_reducible apply ws_frzp); (· exact rfl)) | ((with_reducible apply wp_loc); (· exact rfl)) | ((with_reducible apply wp_rd); (· exact rfl)) | ((with_reducible apply wp_rdo); (· exact rfl)) | ((with_reducible apply wp_args); (· exact rfl); (· exact rfl); (· exact rfl))))
    obtain ⟨c', hc'⟩ := put_some (x := "x") (d := .int 5) (kvs := sd ps) (by rw [List.length_map]; unfold line; omega)
    refine ⟨a, _, _, rfl, g1, hc', ?_⟩
    refine ws_clr (n := b) ?_
    (repeat (first | with_reducible refine wp_cons ?_ | with_reducible refine wp_nil ?_ | with_reducible refine wp_C ?_ | with_reducible refine wp_call ?_ | with_reducible refine wp_tup ?_ | with_reducible refine wp_lst ?_ | with_reducible refine wp_if ?_ | with_reducible refine wp_bin ?_ | with_reducible refine wp_cmp ?_ | with_reducible refine wp_ix ?_ | with_reducible refine wp_bt ?_ | with_reducible refine wp_mt ?_ | with_reducible refine wp_is ?_ | with_reducible refine wp_tru ?_ | with_reducible refine wp_not ?_ | with_reducible refine wp_or ?_ | with_reducible refine wp_and ?_ | with_reducible refine wp_rng1 ?_ | with_reducible refine wp_yes ?_ | with_reducible refine wp_lc ?_ | with_reducible refine wp_iLst ?_ | with_reducible refine wp_neg ?_ | with_reducible refine wp_isi ?_ | with_reducible refine wp_sl ?_ | with_reducible refine wp_noPart ?_ | with_reducible refine wp_part ?_ | with_reducible refine wp_rev ?_ | with_reducible refine wp_keys ?_ | with_reducible refine wp_eq2 ?_ | with_reducible refine wp_iStrD ?_ | with_reducible refine wp_dic0 ?_ | with_reducible refine wp_enum ?_ | with_reducible refine wp_eand ?_ | with_reducible refine wp_attr ?_ | with_reducible refine wp_eqO ?_ | with_reducible refine wp_ne2 ?_ | with_reducible refine wp_con ?_ | with_reducible refine wp_prop ?_ | with_reducible refine wp_enot ?_ | with_reducible refine wp_new ?_ | with_reducible refine wp_callK ?_ | with_reducible refine wp_get1 ?_ | with_reducible refine wp_get2 ?_ | with_reducible refine ws_seq ?_ | with_reducible refine ws_nil ?_ | with_reducible refine ws_set ?_ | with_reducible refine ws_ret ?_ | with_reducible refine ws_if ?_ | with_reducible refine ws_asg ?_ | with_reducible refine ws_par2 ?_ | with_reducible refine ws_par3 ?_ | with_reducible refine ws_own ?_ | with_reducible refine ws_for ?_ | with_reducible refine ws_parO ?_ | with_reducible refine ws_forV ?_ | with_reducible refine ws_put ?_ | with_reducible refine ws_clr ?_ | ((with_reducible apply ws_app); (· exact rfl)) | ((with_reducible apply ws_putO); (· exact rfl)) | ((with_reducible apply ws_frz); (· exact rfl)) | ((with_reducible apply ws_frzp); (· exact rfl)) | ((with_reducible apply wp_loc); (· exact rfl)) | ((with_reducible apply wp_rd); (· exact rfl)) | ((with_reducible apply wp_rdo); (· exact rfl)) | ((with_reducible apply wp_args); (· exact rfl); (· exact rfl); (· exact rfl))))
    refine ⟨rfl, sd ps, by rw [List.getElem?_set_ne n3]; exact g2, ?_⟩
    exact hN _ _ _ _ _ _ _ _ _ _ k1 k2 k3
  cases (d2 == 0) with
  | true =>
    rw [if_pos rfl]
    (repeat (first | with_reducible refine wp_cons ?_ | with_reducible refine wp_nil ?_ | with_reducible refine wp_C ?_ | with_reducible refine wp_call ?_ | with_reducible refine wp_tup ?_ | with_reducible refine wp_lst ?_ | with_reducible refine wp_if ?_ | with_reducible refine wp_bin ?_ | with_reducible refine wp_cmp ?_ | with_reducible refine wp_ix ?_ | with_reducible refine wp_bt ?_ | with_reducible refine wp_mt ?_ | with_reducible refine wp_is ?_ | with_reducible refine wp_tru ?_ | with_reducible refine wp_not ?_ | with_reducible refine wp_or ?_ | with_reducible refine wp_and ?_ | with_reducible refine wp_rng1 ?_ | with_reducible refine wp_yes ?_ | with_reducible refine wp_lc ?_ | with_reducible refine wp_iLst ?_ | with_reducible refine wp_neg ?_ | with_reducible refine wp_isi ?_ | with_reducible refine wp_sl ?_ | with_reducible refine wp_noPart ?_ | with_reducible refine wp_part ?_ | with_reducible refine wp_rev ?_ | with_reducible refine wp_keys ?_ | with_reducible refine wp_eq2 ?_ | with_reducible refine wp_iStrD ?_ | with_reducible refine wp_dic0 ?_ | with_reducible refine wp_enum ?_ | with_reducible refine wp_eand ?_ | with_reducible refine wp_attr ?_ | with_reducible refine wp_eqO ?_ | with_reducible refine wp_ne2 ?_ | with_reducible refine wp_con ?_ | with_reducible refine wp_prop ?_ | with_reducible refine wp_enot ?_ | with_reducible refine wp_new ?_ | with_reducible refine wp_callK ?_ | with_reducible refine wp_get1 ?_ | with_reducible refine wp_get2 ?_ | with_reducible refine ws_seq ?_ | with_reducible refine ws_nil ?_ | with_reducible refine ws_set ?_ | with_reducible refine ws_ret ?_ | with_reducible refine ws_if ?_ | with_reducible refine ws_asg ?_ | with_reducible refine ws_par2 ?_ | with_reducible refine ws_par3 ?_ | with_reducible refine ws_own ?_ | with_reducible refine ws_for ?_ | with_reducible refine ws_parO ?_ | with_reducible refine ws_forV ?_ | with_reducible refine ws_put ?_ | with_reducible refine ws_clr ?_ | ((with_reducible apply ws_app); (· exact rfl)) | ((with_reducible apply ws_putO); (· exact rfl)) | ((with_reducible apply ws_frz); (· exact rfl)) | ((with_reducible apply ws_frzp); (· exact rfl)) | ((with_reducible apply wp_loc); (· exact rfl)) | ((with_reducible apply wp_rd); (· exact rfl)) | ((with_reducible apply wp_rdo); (· exact rfl)) | ((with_reducible apply wp_args); (· exact rfl); (· exact rfl); (· exact rfl))))
    refine wp_eq (put_init key (.ref a) _ s7 a1) ?_
    (repeat (first | with_reducible refine wp_cons ?_ | with_reducible refine wp_nil ?_ | with_reducible refine wp_C ?_ | with_reducible refine wp_call ?_ | with_reducible refine wp_tup ?_ | with_reducible refine wp_lst ?_ | with_reducible refine wp_if ?_ | with_reducible refine wp_bin ?_ | with_reducible refine wp_cmp ?_ | with_reducible refine wp_ix ?_ | with_reducible refine wp_bt ?_ | with_reducible refine wp_mt ?_ | with_reducible refine wp_is ?_ | with_reducible refine wp_tru ?_ | with_reducible refine wp_not ?_ | with_reducible refine wp_or ?_ | with_reducible refine wp_and ?_ | with_reducible refine wp_rng1 ?_ | with_reducible refine wp_yes ?_ | with_reducible refine wp_lc ?_ | with_reducible refine wp_iLst ?_ | with_reducible refine wp_neg ?_ | with_reducible refine wp_isi ?_ | with_reducible refine wp_sl ?_ | with_reducible refine wp_noPart ?_ | with_reducible refine wp_part ?_ | with_reducible refine wp_rev ?_ | with_reducible refine wp_keys ?_ | with_reducible refine wp_eq2 ?_ | with_reducible refine wp_iStrD ?_ | with_reducible refine wp_dic0 ?_ | with_reducible refine wp_enum ?_ | with_reducible refine wp_eand ?_ | with_reducible refine wp_attr ?_ | with_reducible refine wp_eqO ?_ | with_reducible refine wp_ne2 ?_ | with_reducible refine wp_con ?_ | with_reducible refine wp_prop ?_ | with_reducible refine wp_enot ?_ | with_reducible refine wp_new ?_ | with_reducible refine wp_callK ?_ | with_reducible refine wp_get1 ?_ | with_reducible refine wp_get2 ?_ | with_reducible refine ws_seq ?_ | with_reducible refine ws_nil ?_ | with_reducible refine ws_set ?_ | with_reducible refine ws_ret ?_ | with_reducible refine ws_if ?_ | with_reducible refine ws_asg ?_ | with_reducible refine ws_par2 ?_ | with_reducible refine ws_par3 ?_ | with_reducible refine ws_own ?_ | with_reducible refine ws_for ?_ | with_reducible refine ws_parO ?_ | with_reducible refine ws_forV ?_ | with_reducible refine ws_put ?_ | with_reducible refine ws_clr ?_ | ((with_reducible apply ws_app); (· exact rfl)) | ((with_reducible apply ws_putO); (· exact rfl)) | ((with_reducible apply ws_frz); (· exact rfl)) | ((with_reducible apply ws_frzp); (· exact rfl)) | ((with_reducible apply wp_loc); (· exact rfl)) | ((with_reducible apply wp_rd); (· exact rfl)) | ((with_reducible apply wp_rdo); (· exact rfl)) | ((with_reducible apply wp_args); (· exact rfl); (· exact rfl); (· exact rfl))))
    refine ⟨by show 4 ≤ line; decide, by unfold line; omega, ?_⟩
    (repeat (first | with_reducible refine wp_cons ?_ | with_reducible refine wp_nil ?_ | with_reducible refine wp_C ?_ | with_reducible refine wp_call ?_ | with_reducible refine wp_tup ?_ | with_reducible refine wp_lst ?_ | with_reducible refine wp_if ?_ | with_reducible refine wp_bin ?_ | with_reducible refine wp_cmp ?_ | with_reducible refine wp_ix ?_ | with_reducible refine wp_bt ?_ | with_reducible refine wp_mt ?_ | with_reducible refine wp_is ?_ | with_reducible refine wp_tru ?_ | with_reducible refine wp_not ?_ | with_reducible refine wp_or ?_ | with_reducible refine wp_and ?_ | with_reducible refine wp_rng1 ?_ | with_reducible refine wp_yes ?_ | with_reducible refine wp_lc ?_ | with_reducible refine wp_iLst ?_ | with_reducible refine wp_neg ?_ | with_reducible refine wp_isi ?_ | with_reducible refine wp_sl ?_ | with_reducible refine wp_noPart ?_ | with_reducible refine wp_part ?_ | with_reducible refine wp_rev ?_ | with_reducible refine wp_keys ?_ | with_reducible refine wp_eq2 ?_ | with_reducible refine wp_iStrD ?_ | with_reducible refine wp_dic0 ?_ | with_reducible refine wp_enum ?_ | with_reducible refine wp_eand ?_ | with_reducible refine wp_attr ?_ | with_reducible refine wp_eqO ?_ | with_reducible refine wp_ne2 ?_ | with_reducible refine wp_con ?_ | with_reducible refine wp_prop ?_ | with_reducible refine wp_enot ?_ | with_reducible refine wp_new ?_ | with_reducible refine wp_callK ?_ | with_reducible refine wp_get1 ?_ | with_reducible refine wp_get2 ?_ | with_reducible refine ws_seq ?_ | with_reducible refine ws_nil ?_ | with_reducible refine ws_set ?_ | with_reducible refine ws_ret ?_ | with_reducible refine ws_if ?_ | with_reducible refine ws_asg ?_ | with_reducible refine ws_par2 ?_ | with_reducible refine ws_par3 ?_ | with_reducible refine ws_own ?_ | with_reducible refine ws_for ?_ | with_reducible refine ws_parO ?_ | with_reducible refine ws_forV ?_ | with_reducible refine ws_put ?_ | with_reducible refine ws_clr ?_ | ((with_reducible apply ws_app); (· exact rfl)) | ((with_reducible apply ws_putO); (· exact rfl)) | ((with_reducible apply ws_frz); (· exact rfl)) | ((with_reducible apply ws_frzp); (· exact rfl)) | ((with_reducible apply wp_loc); (· exact rfl)) | ((with_reducible apply wp_rd); (· exact rfl)) | ((with_reducible apply wp_rdo); (· exact rfl)) | ((with_reducible apply wp_args); (· exact rfl); (· exact rfl); (· exact rfl))))
    refine wp_eq (change_init key (.ref b) _ s7 a2) ?_
    (repeat (first | with_reducible refine wp_cons ?_ | with_reducible refine wp_nil ?_ | with_reducible refine wp_C ?_ | with_reducible refine wp_call ?_ | with_reducible refine wp_tup ?_ | with_reducible refine wp_lst ?_ | with_reducible refine wp_if ?_ | with_reducible refine wp_bin ?_ | with_reducible refine wp_cmp ?_ | with_reducible refine wp_ix ?_ | with_reducible refine wp_bt ?_ | with_reducible refine wp_mt ?_ | with_reducible refine wp_is ?_ | with_reducible refine wp_tru ?_ | with_reducible refine wp_not ?_ | with_reducible refine wp_or ?_ | with_reducible refine wp_and ?_ | with_reducible refine wp_rng1 ?_ | with_reducible refine wp_yes ?_ | with_reducible refine wp_lc ?_ | with_reducible refine wp_iLst ?_ | with_reducible refine wp_neg ?_ | with_reducible refine wp_isi ?_ | with_reducible refine wp_sl ?_ | with_reducible refine wp_noPart ?_ | with_reducible refine wp_part ?_ | with_reducible refine wp_rev ?_ | with_reducible refine wp_keys ?_ | with_reducible refine wp_eq2 ?_ | with_reducible refine wp_iStrD ?_ | with_reducible refine wp_dic0 ?_ | with_reducible refine wp_enum ?_ | with_reducible refine wp_eand ?_ | with_reducible refine wp_attr ?_ | with_reducible refine wp_eqO ?_ | with_reducible refine wp_ne2 ?_ | with_reducible refine wp_con ?_ | with_reducible refine wp_prop ?_ | with_reducible refine wp_enot ?_ | with_reducible refine wp_new ?_ | with_reducible refine wp_callK ?_ | with_reducible refine wp_get1 ?_ | with_reducible refine wp_get2 ?_ | with_reducible refine ws_seq ?_ | with_reducible refine ws_nil ?_ | with_reducible refine ws_set ?_ | with_reducible refine ws_ret ?_ | with_reducible refine ws_if ?_ | with_reducible refine ws_asg ?_ | with_reducible refine ws_par2 ?_ | with_reducible refine ws_par3 ?_ | with_reducible refine ws_own ?_ | with_reducible refine ws_for ?_ | with_reducible refine ws_parO ?_ | with_reducible refine ws_forV ?_ | with_reducible refine ws_put ?_ | with_reducible refine ws_clr ?_ | ((with_reducible apply ws_app); (· exact rfl)) | ((with_reducible apply ws_putO); (· exact rfl)) | ((with_reducible apply ws_frz); (· exact rfl)) | ((with_reducible apply ws_frzp); (· exact rfl)) | ((with_reducible apply wp_loc); (· exact rfl)) | ((with_reducible apply wp_rd); (· exact rfl)) | ((with_reducible apply wp_rdo); (· exact rfl)) | ((with_reducible apply wp_args); (· exact rfl); (· exact rfl); (· exact rfl))))
    refine ⟨by show 4 ≤ line; decide, by simp; unfold line; omega, ?_⟩
    (repeat (first | with_reducible refine wp_cons ?_ | with_reducible refine wp_nil ?_ | with_reducible refine wp_C ?_ | with_reducible refine wp_call ?_ | with_reducible refine wp_tup ?_ | with_reducible refine wp_lst ?_ | with_reducible refine wp_if ?_ | with_reducible refine wp_bin ?_ | with_reducible refine wp_cmp ?_ | with_reducible refine wp_ix ?_ | with_reducible refine wp_bt ?_ | with_reducible refine wp_mt ?_ | with_reducible refine wp_is ?_ | with_reducible refine wp_tru ?_ | with_reducible refine wp_not ?_ | with_reducible refine wp_or ?_ | with_reducible refine wp_and ?_ | with_reducible refine wp_rng1 ?_ | with_reducible refine wp_yes ?_ | with_reducible refine wp_lc ?_ | with_reducible refine wp_iLst ?_ | with_reducible refine wp_neg ?_ | with_reducible refine wp_isi ?_ | with_reducible refine wp_sl ?_ | with_reducible refine wp_noPart ?_ | with_reducible refine wp_part ?_ | with_reducible refine wp_rev ?_ | with_reducible refine wp_keys ?_ | with_reducible refine wp_eq2 ?_ | with_reducible refine wp_iStrD ?_ | with_reducible refine wp_dic0 ?_ | with_reducible refine wp_enum ?_ | with_reducible refine wp_eand ?_ | with_reducible refine wp_attr ?_ | with_reducible refine wp_eqO ?_ | with_reducible refine wp_ne2 ?_ | with_reducible refine wp_con ?_ | with_reducible refine wp_prop ?_ | with_reducible refine wp_enot ?_ | with_reducible refine wp_new ?_ | with_reducible refine wp_callK ?_ | with_reducible refine wp_get1 ?_ | with_reducible refine wp_get2 ?_ | with_reducible refine ws_seq ?_ | with_reducible refine ws_nil ?_ | with_reducible refine ws_set ?_ | with_reducible refine ws_ret ?_ | with_reducible refine ws_if ?_ | with_reducible refine ws_asg ?_ | with_reducible refine ws_par2 ?_ | with_reducible refine ws_par3 ?_ | with_reducible refine ws_own ?_ | with_reducible refine ws_for ?_ | with_reducible refine ws_parO ?_ | with_reducible refine ws_forV ?_ | with_reducible refine ws_put ?_ | with_reducible refine ws_clr ?_ | ((with_reducible apply ws_app); (· exact rfl)) | ((with_reducible apply ws_putO); (· exact rfl)) | ((with_reducible apply ws_frz); (· exact rfl)) | ((with_reducible apply ws_frzp); (· exact rfl)) | ((with_reducible apply wp_loc); (· exact rfl)) | ((with_reducible apply wp_rd); (· exact rfl)) | ((with_reducible apply wp_rdo); (· exact rfl)) | ((with_reducible apply wp_args); (· exact rfl); (· exact rfl); (· exact rfl))))
    refine wp_eq (take_init key (sd ps) s7) ?_
    (repeat (first | with_reducible refine wp_cons ?_ | with_reducible refine wp_nil ?_ | with_reducible refine wp_C ?_ | with_reducible refine wp_call ?_ | with_reducible refine wp_tup ?_ | with_reducible refine wp_lst ?_ | with_reducible refine wp_if ?_ | with_reducible refine wp_bin ?_ | with_reducible refine wp_cmp ?_ | with_reducible refine wp_ix ?_ | with_reducible refine wp_bt ?_ | with_reducible refine wp_mt ?_ | with_reducible refine wp_is ?_ | with_reducible refine wp_tru ?_ | with_reducible refine wp_not ?_ | with_reducible refine wp_or ?_ | with_reducible refine wp_and ?_ | with_reducible refine wp_rng1 ?_ | with_reducible refine wp_yes ?_ | with_reducible refine wp_lc ?_ | with_reducible refine wp_iLst ?_ | with_reducible refine wp_neg ?_ | with_reducible refine wp_isi ?_ | with_reducible refine wp_sl ?_ | with_reducible refine wp_noPart ?_ | with_reducible refine wp_part ?_ | with_reducible refine wp_rev ?_ | with_reducible refine wp_keys ?_ | with_reducible refine wp_eq2 ?_ | with_reducible refine wp_iStrD ?_ | with_reducible refine wp_dic0 ?_ | with_reducible refine wp_enum ?_ | with_reducible refine wp_eand ?_ | with_reducible refine wp_attr ?_ | with_reducible refine wp_eqO ?_ | with_reducible refine wp_ne2 ?_ | with_reducible refine wp_con ?_ | with_reducible refine wp_prop ?_ | with_reducible refine wp_enot ?_ | with_reducible refine wp_new ?_ | with_reducible refine wp_callK ?_ | with_reducible refine wp_get1 ?_ | with_reducible refine wp_get2 ?_ | with_reducible refine ws_seq ?_ | with_reducible refine ws_nil ?_ | with_reducible refine ws_set ?_ | with_reducible refine ws_ret ?_ | with_reducible refine ws_if ?_ | with_reducible refine ws_asg ?_ | with_reducible refine ws_par2 ?_ | with_reducible refine ws_par3 ?_ | with_reducible refine ws_own ?_ | with_reducible refine ws_for ?_ | with_reducible refine ws_parO ?_ | with_reducible refine ws_forV ?_ | with_reducible refine ws_put ?_ | with_reducible refine ws_clr ?_ | ((with_reducible apply ws_app); (· exact rfl)) | ((with_reducible apply ws_putO); (· exact rfl)) | ((with_reducible apply ws_frz); (· exact rfl)) | ((with_reducible apply ws_frzp); (· exact rfl)) | ((with_reducible apply wp_loc); (· exact rfl)) | ((with_reducible apply wp_rd); (· exact rfl)) | ((with_reducible apply wp_rdo); (· exact rfl)) | ((with_reducible apply wp_args); (· exact rfl); (· exact rfl); (· exact rfl))))
    exact ⟨by show 4 ≤ line; decide, by simp; unfold line; omega, rest⟩
  | false =>
    rw [if_neg Bool.false_ne_true]
    (repeat (first | with_reducible refine wp_cons ?_ | with_reducible refine wp_nil ?_ | with_reducible refine wp_C ?_ | with_reducible refine wp_call ?_ | with_reducible refine wp_tup ?_ | with_reducible refine wp_lst ?_ | with_reducible refine wp_if ?_ | with_reducible refine wp_bin ?_ | with_reducible refine wp_cmp ?_ | with_reducible refine wp_ix ?_ | with_reducible refine wp_bt ?_ | with_reducible refine wp_mt ?_ | with_reducible refine wp_is ?_ | with_reducible refine wp_tru ?_ | with_reducible refine wp_not ?_ | with_reducible refine wp_or ?_ | with_reducible refine wp_and ?_ | with_reducible refine wp_rng1 ?_ | with_reducible refine wp_yes ?_ | with_reducible refine wp_lc ?_ | with_reducible refine wp_iLst ?_ | with_reducible refine wp_neg ?_ | with_reducible refine wp_isi ?_ | with_reducible refine wp_sl ?_ | with_reducible refine wp_noPart ?_ | with_reducible refine wp_part ?_ | with_reducible refine wp_rev ?_ | with_reducible refine wp_keys ?_ | with_reducible refine wp_eq2 ?_ | with_reducible refine wp_iStrD ?_ | with_reducible refine wp_dic0 ?_ | with_reducible refine wp_enum ?_ | with_reducible refine wp_eand ?_ | with_reducible refine wp_attr ?_ | with_reducible refine wp_eqO ?_ | with_reducible refine wp_ne2 ?_ | with_reducible refine wp_con ?_ | with_reducible refine wp_prop ?_ | with_reducible refine wp_enot ?_ | with_reducible refine wp_new ?_ | with_reducible refine wp_callK ?_ | with_reducible refine wp_get1 ?_ | with_reducible refine wp_get2 ?_ | with_reducible refine ws_seq ?_ | with_reducible refine ws_nil ?_ | with_reducible refine ws_set ?_ | with_reducible refine ws_ret ?_ | with_reducible refine ws_if ?_ | with_reducible refine ws_asg ?_ | with_reducible refine ws_par2 ?_ | with_reducible refine ws_par3 ?_ | with_reducible refine ws_own ?_ | with_reducible refine ws_for ?_ | with_reducible refine ws_parO ?_ | with_reducible refine ws_forV ?_ | with_reducible refine ws_put ?_ | with_reducible refine ws_clr ?_ | ((with_reducible apply ws_app); (· exact rfl)) | ((with_reducible apply ws_putO); (· exact rfl)) | ((with_reducible apply ws_frz); (· exact rfl)) | ((with_reducible apply ws_frzp); (· exact rfl)) | ((with_reducible apply wp_loc); (· exact rfl)) | ((with_reducible apply wp_rd); (· exact rfl)) | ((with_reducible apply wp_rdo); (· exact rfl)) | ((with_reducible apply wp_args); (· exact rfl); (· exact rfl); (· exact rfl))))
    refine ⟨rfl, ?_⟩
    (repeat (first | with_reducible refine wp_cons ?_ | with_reducible refine wp_nil ?_ | with_reducible refine wp_C ?_ | with_reducible refine wp_call ?_ | with_reducible refine wp_tup ?_ | with_reducible refine wp_lst ?_ | with_reducible refine wp_if ?_ | with_reducible refine wp_bin ?_ | with_reducible refine wp_cmp ?_ | with_reducible refine wp_ix ?_ | with_reducible refine wp_bt ?_ | with_reducible refine wp_mt ?_ | with_reducible refine wp_is ?_ | with_reducible refine wp_tru ?_ | with_reducible refine wp_not ?_ | with_reducible refine wp_or ?_ | with_reducible refine wp_and ?_ | with_reducible refine wp_rng1 ?_ | with_reducible refine wp_yes ?_ | with_reducible refine wp_lc ?_ | with_reducible refine wp_iLst ?_ | with_reducible refine wp_neg ?_ | with_reducible refine wp_isi ?_ | with_reducible refine wp_sl ?_ | with_reducible refine wp_noPart ?_ | with_reducible refine wp_part ?_ | with_reducible refine wp_rev ?_ | with_reducible refine wp_keys ?_ | with_reducible refine wp_eq2 ?_ | with_reducible refine wp_iStrD ?_ | with_reducible refine wp_dic0 ?_ | with_reducible refine wp_enum ?_ | with_reducible refine wp_eand ?_ | with_reducible refine wp_attr ?_ | with_reducible refine wp_eqO ?_ | with_reducible refine wp_ne2 ?_ | with_reducible refine wp_con ?_ | with_reducible refine wp_prop ?_ | with_reducible refine wp_enot ?_ | with_reducible refine wp_new ?_ | with_reducible refine wp_callK ?_ | with_reducible refine wp_get1 ?_ | with_reducible refine wp_get2 ?_ | with_reducible refine ws_seq ?_ | with_reducible refine ws_nil ?_ | with_reducible refine ws_set ?_ | with_reducible refine ws_ret ?_ | with_reducible refine ws_if ?_ | with_reducible refine ws_asg ?_ | with_reducible refine ws_par2 ?_ | with_reducible refine ws_par3 ?_ | with_reducible refine ws_own ?_ | with_reducible refine ws_for ?_ | with_reducible refine ws_parO ?_ | with_reducible refine ws_forV ?_ | with_reducible refine ws_put ?_ | with_reducible refine ws_clr ?_ | ((with_reducible apply ws_app); (· exact rfl)) | ((with_reducible apply ws_putO); (· exact rfl)) | ((with_reducible apply ws_frz); (· exact rfl)) | ((with_reducible apply ws_frzp); (· exact rfl)) | ((with_reducible apply wp_loc); (· exact rfl)) | ((with_reducible apply wp_rd); (· exact rfl)) | ((with_reducible apply wp_rdo); (· exact rfl)) | ((with_reducible apply wp_args); (· exact rfl); (· exact rfl); (· exact rfl))))
    refine wp_eq (put_init key (.ref a) _ s7 a1) ?_
    (repeat (first | with_reducible refine wp_cons ?_ | with_reducible refine wp_nil ?_ | with_reducible refine wp_C ?_ | with_reducible refine wp_call ?_ | with_reducible refine wp_tup ?_ | with_reducible refine wp_lst ?_ | with_reducible refine wp_if ?_ | with_reducible refine wp_bin ?_ | with_reducible refine wp_cmp ?_ | with_reducible refine wp_ix ?_ | with_reducible refine wp_bt ?_ | with_reducible refine wp_mt ?_ | with_reducible refine wp_is ?_ | with_reducible refine wp_tru ?_ | with_reducible refine wp_not ?_ | with_reducible refine wp_or ?_ | with_reducible refine wp_and ?_ | with_reducible refine wp_rng1 ?_ | with_reducible refine wp_yes ?_ | with_reducible refine wp_lc ?_ | with_reducible refine wp_iLst ?_ | with_reducible refine wp_neg ?_ | with_reducible refine wp_isi ?_ | with_reducible refine wp_sl ?_ | with_reducible refine wp_noPart ?_ | with_reducible refine wp_part ?_ | with_reducible refine wp_rev ?_ | with_reducible refine wp_keys ?_ | with_reducible refine wp_eq2 ?_ | with_reducible refine wp_iStrD ?_ | with_reducible refine wp_dic0 ?_ | with_reducible refine wp_enum ?_ | with_reducible refine wp_eand ?_ | with_reducible refine wp_attr ?_ | with_reducible refine wp_eqO ?_ | with_reducible refine wp_ne2 ?_ | with_reducible refine wp_con ?_ | with_reducible refine wp_prop ?_ | with_reducible refine wp_enot ?_ | with_reducible refine wp_new ?_ | with_reducible refine wp_callK ?_ | with_reducible refine wp_get1 ?_ | with_reducible refine wp_get2 ?_ | with_reducible refine ws_seq ?_ | with_reducible refine ws_nil ?_ | with_reducible refine ws_set ?_ | with_reducible refine ws_ret ?_ | with_reducible refine ws_if ?_ | with_reducible refine ws_asg ?_ | with_reducible refine ws_par2 ?_ | with_reducible refine ws_par3 ?_ | with_reducible refine ws_own ?_ | with_reducible refine ws_for ?_ | with_reducible refine ws_parO ?_ | with_reducible refine ws_forV ?_ | with_reducible refine ws_put ?_ | with_reducible refine ws_clr ?_ | ((with_reducible apply ws_app); (· exact rfl)) | ((with_reducible apply ws_putO); (· exact rfl)) | ((with_reducible apply ws_frz); (· exact rfl)) | ((with_reducible apply ws_frzp); (· exact rfl)) | ((with_reducible apply wp_loc); (· exact rfl)) | ((with_reducible apply wp_rd); (· exact rfl)) | ((with_reducible apply wp_rdo); (· exact rfl)) | ((with_reducible apply wp_args); (· exact rfl); (· exact rfl); (· exact rfl))))
    refine ⟨by show 4 ≤ line; decide, by unfold line; omega, ?_⟩
    (repeat (first | with_reducible refine wp_cons ?_ | with_reducible refine wp_nil ?_ | with_reducible refine wp_C ?_ | with_reducible refine wp_call ?_ | with_reducible refine wp_tup ?_ | with_reducible refine wp_lst ?_ | with_reducible refine wp_if ?_ | with_reducible refine wp_bin ?_ | with_reducible refine wp_cmp ?_ | with_reducible refine wp_ix ?_ | with_reducible refine wp_bt ?_ | with_reducible refine wp_mt ?_ | with_reducible refine wp_is ?_ | with_reducible refine wp_tru ?_ | with_reducible refine wp_not ?_ | with_reducible refine wp_or ?_ | with_reducible refine wp_and ?_ | with_reducible refine wp_rng1 ?_ | with_reducible refine wp_yes ?_ | with_reducible refine wp_lc ?_ | with_reducible refine wp_iLst ?_ | with_reducible refine wp_neg ?_ | with_reducible refine wp_isi ?_ | with_reducible refine wp_sl ?_ | with_reducible refine wp_noPart ?_ | with_reducible refine wp_part ?_ | with_reducible refine wp_rev ?_ | with_reducible refine wp_keys ?_ | with_reducible refine wp_eq2 ?_ | with_reducible refine wp_iStrD ?_ | with_reducible refine wp_dic0 ?_ | with_reducible refine wp_enum ?_ | with_reducible refine wp_eand ?_ | with_reducible refine wp_attr ?_ | with_reducible refine wp_eqO ?_ | with_reducible refine wp_ne2 ?_ | with_reducible refine wp_con ?_ | with_reducible refine wp_prop ?_ | with_reducible refine wp_enot ?_ | with_reducible refine wp_new ?_ | with_reducible refine wp_callK ?_ | with_reducible refine wp_get1 ?_ | with_reducible refine wp_get2 ?_ | with_reducible refine ws_seq ?_ | with_reducible refine ws_nil ?_ | with_reducible refine ws_set ?_ | with_reducible refine ws_ret ?_ | with_reducible refine ws_if ?_ | with_reducible refine ws_asg ?_ | with_reducible refine ws_par2 ?_ | with_reducible refine ws_par3 ?_ | with_reducible refine ws_own ?_ | with_reducible refine ws_for ?_ | with_reducible refine ws_parO ?_ | with_reducible refine ws_forV ?_ | with_reducible refine ws_put ?_ | with_reducible refine ws_clr ?_ | ((with_reducible apply ws_app); (· exact rfl)) | ((with_reducible apply ws_putO); (· exact rfl)) | ((with_reducible apply ws_frz); (· exact rfl)) | ((with_reducible apply ws_frzp); (· exact rfl)) | ((with_reducible apply wp_loc); (· exact rfl)) | ((with_reducible apply wp_rd); (· exact rfl)) | ((with_reducible apply wp_rdo); (· exact rfl)) | ((with_reducible apply wp_args); (· exact rfl); (· exact rfl); (· exact rfl))))
    refine ⟨rfl, ?_⟩
    (repeat (first | with_reducible refine wp_cons ?_ | with_reducible refine wp_nil ?_ | with_reducible refine wp_C ?_ | with_reducible refine wp_call ?_ | with_reducible refine wp_tup ?_ | with_reducible refine wp_lst ?_ | with_reducible refine wp_if ?_ | with_reducible refine wp_bin ?_ | with_reducible refine wp_cmp ?_ | with_reducible refine wp_ix ?_ | with_reducible refine wp_bt ?_ | with_reducible refine wp_mt ?_ | with_reducible refine wp_is ?_ | with_reducible refine wp_tru ?_ | with_reducible refine wp_not ?_ | with_reducible refine wp_or ?_ | with_reducible refine wp_and ?_ | with_reducible refine wp_rng1 ?_ | with_reducible refine wp_yes ?_ | with_reducible refine wp_lc ?_ | with_reducible refine wp_iLst ?_ | with_reducible refine wp_neg ?_ | with_reducible refine wp_isi ?_ | with_reducible refine wp_sl ?_ | with_reducible refine wp_noPart ?_ | with_reducible refine wp_part ?_ | with_reducible refine wp_rev ?_ | with_reducible refine wp_keys ?_ | with_reducible refine wp_eq2 ?_ | with_reducible refine wp_iStrD ?_ | with_reducible refine wp_dic0 ?_ | with_reducible refine wp_enum ?_ | with_reducible refine wp_eand ?_ | with_reducible refine wp_attr ?_ | with_reducible refine wp_eqO ?_ | with_reducible refine wp_ne2 ?_ | with_reducible refine wp_con ?_ | with_reducible refine wp_prop ?_ | with_reducible refine wp_enot ?_ | with_reducible refine wp_new ?_ | with_reducible refine wp_callK ?_ | with_reducible refine wp_get1 ?_ | with_reducible refine wp_get2 ?_ | with_reducible refine ws_seq ?_ | with_reducible refine ws_nil ?_ | with_reducible refine ws_set ?_ | with_reducible refine ws_ret ?_ | with_reducible refine ws_if ?_ | with_reducible refine ws_asg ?_ | with_reducible refine ws_par2 ?_ | with_reducible refine ws_par3 ?_ | with_reducible refine ws_own ?_ | with_reducible refine ws_for ?_ | with_reducible refine ws_parO ?_ | with_reducible refine ws_forV ?_ | with_reducible refine ws_put ?_ | with_reducible refine ws_clr ?_ | ((with_reducible apply ws_app); (· exact rfl)) | ((with_reducible apply ws_putO); (· exact rfl)) | ((with_reducible apply ws_frz); (· exact rfl)) | ((with_reducible apply ws_frzp); (· exact rfl)) | ((with_reducible apply wp_loc); (· exact rfl)) | ((with_reducible apply wp_rd); (· exact rfl)) | ((with_reducible apply wp_rdo); (· exact rfl)) | ((with_reducible apply wp_args); (· exact rfl); (· exact rfl); (· exact rfl))))
    refine wp_eq (change_init key (.ref b) _ s7 a2) ?_
    (repeat (first | with_reducible refine wp_cons ?_ | with_reducible refine wp_nil ?_ | with_reducible refine wp_C ?_ | with_reducible refine wp_call ?_ | with_reducible refine wp_tup ?_ | with_reducible refine wp_lst ?_ | with_reducible refine wp_if ?_ | with_reducible refine wp_bin ?_ | with_reducible refine wp_cmp ?_ | with_reducible refine wp_ix ?_ | with_reducible refine wp_bt ?_ | with_reducible refine wp_mt ?_ | with_reducible refine wp_is ?_ | with_reducible refine wp_tru ?_ | with_reducible refine wp_not ?_ | with_reducible refine wp_or ?_ | with_reducible refine wp_and ?_ | with_reducible refine wp_rng1 ?_ | with_reducible refine wp_yes ?_ | with_reducible refine wp_lc ?_ | with_reducible refine wp_iLst ?_ | with_reducible refine wp_neg ?_ | with_reducible refine wp_isi ?_ | with_reducible refine wp_sl ?_ | with_reducible refine wp_noPart ?_ | with_reducible refine wp_part ?_ | with_reducible refine wp_rev ?_ | with_reducible refine wp_keys ?_ | with_reducible refine wp_eq2 ?_ | with_reducible refine wp_iStrD ?_ | with_reducible refine wp_dic0 ?_ | with_reducible refine wp_enum ?_ | with_reducible refine wp_eand ?_ | with_reducible refine wp_attr ?_ | with_reducible refine wp_eqO ?_ | with_reducible refine wp_ne2 ?_ | with_reducible refine wp_con ?_ | with_reducible refine wp_prop ?_ | with_reducible refine wp_enot ?_ | with_reducible refine wp_new ?_ | with_reducible refine wp_callK ?_ | with_reducible refine wp_get1 ?_ | with_reducible refine wp_get2 ?_ | with_reducible refine ws_seq ?_ | with_reducible refine ws_nil ?_ | with_reducible refine ws_set ?_ | with_reducible refine ws_ret ?_ | with_reducible refine ws_if ?_ | with_reducible refine ws_asg ?_ | with_reducible refine ws_par2 ?_ | with_reducible refine ws_par3 ?_ | with_reducible refine ws_own ?_ | with_reducible refine ws_for ?_ | with_reducible refine ws_parO ?_ | with_reducible refine ws_forV ?_ | with_reducible refine ws_put ?_ | with_reducible refine ws_clr ?_ | ((with_reducible apply ws_app); (· exact rfl)) | ((with_reducible apply ws_putO); (· exact rfl)) | ((with_reducible apply ws_frz); (· exact rfl)) | ((with_reducible apply ws_frzp); (· exact rfl)) | ((with_reducible apply wp_loc); (· exact rfl)) | ((with_reducible apply wp_rd); (· exact rfl)) | ((with_reducible apply wp_rdo); (· exact rfl)) | ((with_reducible apply wp_args); (· exact rfl); (· exact rfl); (· exact rfl))))
    refine ⟨by show 4 ≤ line; decide, by simp; unfold line; omega, ?_⟩
    (repeat (first | with_reducible refine wp_cons ?_ | with_reducible refine wp_nil ?_ | with_reducible refine wp_C ?_ | with_reducible refine wp_call ?_ | with_reducible refine wp_tup ?_ | with_reducible refine wp_lst ?_ | with_reducible refine wp_if ?_ | with_reducible refine wp_bin ?_ | with_reducible refine wp_cmp ?_ | with_reducible refine wp_ix ?_ | with_reducible refine wp_bt ?_ | with_reducible refine wp_mt ?_ | with_reducible refine wp_is ?_ | with_reducible refine wp_tru ?_ | with_reducible refine wp_not ?_ | with_reducible refine wp_or ?_ | with_reducible refine wp_and ?_ | with_reducible refine wp_rng1 ?_ | with_reducible refine wp_yes ?_ | with_reducible refine wp_lc ?_ | with_reducible refine wp_iLst ?_ | with_reducible refine wp_neg ?_ | with_reducible refine wp_isi ?_ | with_reducible refine wp_sl ?_ | with_reducible refine wp_noPart ?_ | with_reducible refine wp_part ?_ | with_reducible refine wp_rev ?_ | with_reducible refine wp_keys ?_ | with_reducible refine wp_eq2 ?_ | with_reducible refine wp_iStrD ?_ | with_reducible refine wp_dic0 ?_ | with_reducible refine wp_enum ?_ | with_reducible refine wp_eand ?_ | with_reducible refine wp_attr ?_ | with_reducible refine wp_eqO ?_ | with_reducible refine wp_ne2 ?_ | with_reducible refine wp_con ?_ | with_reducible refine wp_prop ?_ | with_reducible refine wp_enot ?_ | with_reducible refine wp_new ?_ | with_reducible refine wp_callK ?_ | with_reducible refine wp_get1 ?_ | with_reducible refine wp_get2 ?_ | with_reducible refine ws_seq ?_ | with_reducible refine ws_nil ?_ | with_reducible refine ws_set ?_ | with_reducible refine ws_ret ?_ | with_reducible refine ws_if ?_ | with_reducible refine ws_asg ?_ | with_reducible refine ws_par2 ?_ | with_reducible refine ws_par3 ?_ | with_reducible refine ws_own ?_ | with_reducible refine ws_for ?_ | with_reducible refine ws_parO ?_ | with_reducible refine ws_forV ?_ | with_reducible refine ws_put ?_ | with_reducible refine ws_clr ?_ | ((with_reducible apply ws_app); (· exact rfl)) | ((with_reducible apply ws_putO); (· exact rfl)) | ((with_reducible apply ws_frz); (· exact rfl)) | ((with_reducible apply ws_frzp); (· exact rfl)) | ((with_reducible apply wp_loc); (· exact rfl)) | ((with_reducible apply wp_rd); (· exact rfl)) | ((with_reducible apply wp_rdo); (· exact rfl)) | ((with_reducible apply wp_args); (· exact rfl); (· exact rfl); (· exact rfl))))
    refine ⟨rfl, ?_⟩
    (repeat (first | with_reducible refine wp_cons ?_ | with_reducible refine wp_nil ?_ | with_reducible refine wp_C ?_ | with_reducible refine wp_call ?_ | with_reducible refine wp_tup ?_ | with_reducible refine wp_lst ?_ | with_reducible refine wp_if ?_ | with_reducible refine wp_bin ?_ | with_reducible refine wp_cmp ?_ | with_reducible refine wp_ix ?_ | with_reducible refine wp_bt ?_ | with_reducible refine wp_mt ?_ | with_reducible refine wp_is ?_ | with_reducible refine wp_tru ?_ | with_reducible refine wp_not ?_ | with_reducible refine wp_or ?_ | with_reducible refine wp_and ?_ | with_reducible refine wp_rng1 ?_ | with_reducible refine wp_yes ?_ | with_reducible refine wp_lc ?_ | with_reducible refine wp_iLst ?_ | with_reducible refine wp_neg ?_ | with_reducible refine wp_isi ?_ | with_reducible refine wp_sl ?_ | with_reducible refine wp_noPart ?_ | with_reducible refine wp_part ?_ | with_reducible refine wp_rev ?_ | with_reducible refine wp_keys ?_ | with_reducible refine wp_eq2 ?_ | with_reducible refine wp_iStrD ?_ | with_reducible refine wp_dic0 ?_ | with_reducible refine wp_enum ?_ | with_reducible refine wp_eand ?_ | with_reducible refine wp_attr ?_ | with_reducible refine wp_eqO ?_ | with_reducible refine wp_ne2 ?_ | with_reducible refine wp_con ?_ | with_reducible refine wp_prop ?_ | with_reducible refine wp_enot ?_ | with_reducible refine wp_new ?_ | with_reducible refine wp_callK ?_ | with_reducible refine wp_get1 ?_ | with_reducible refine wp_get2 ?_ | with_reducible refine ws_seq ?_ | with_reducible refine ws_nil ?_ | with_reducible refine ws_set ?_ | with_reducible refine ws_ret ?_ | with_reducible refine ws_if ?_ | with_reducible refine ws_asg ?_ | with_reducible refine ws_par2 ?_ | with_reducible refine ws_par3 ?_ | with_reducible refine ws_own ?_ | with_reducible refine ws_for ?_ | with_reducible refine ws_parO ?_ | with_reducible refine ws_forV ?_ | with_reducible refine ws_put ?_ | with_reducible refine ws_clr ?_ | ((with_reducible apply ws_app); (· exact rfl)) | ((with_reducible apply ws_putO); (· exact rfl)) | ((with_reducible apply ws_frz); (· exact rfl)) | ((with_reducible apply ws_frzp); (· exact rfl)) | ((with_reducible apply wp_loc); (· exact rfl)) | ((with_reducible apply wp_rd); (· exact rfl)) | ((with_reducible apply wp_rdo); (· exact rfl)) | ((with_reducible apply wp_args); (· exact rfl); (· exact rfl); (· exact rfl))))
    refine wp_eq (take_init key (sd ps) s7) ?_
    (repeat (first | with_reducible refine wp_cons ?_ | with_reducible refine wp_nil ?_ | with_reducible refine wp_C ?_ | with_reducible refine wp_call ?_ | with_reducible refine wp_tup ?_ | with_reducible refine wp_lst ?_ | with_reducible refine wp_if ?_ | with_reducible refine wp_bin ?_ | with_reducible refine wp_cmp ?_ | with_reducible refine wp_ix ?_ | with_reducible refine wp_bt ?_ | with_reducible refine wp_mt ?_ | with_reducible refine wp_is ?_ | with_reducible refine wp_tru ?_ | with_reducible refine wp_not ?_ | with_reducible refine wp_or ?_ | with_reducible refine wp_and ?_ | with_reducible refine wp_rng1 ?_ | with_reducible refine wp_yes ?_ | with_reducible refine wp_lc ?_ | with_reducible refine wp_iLst ?_ | with_reducible refine wp_neg ?_ | with_reducible refine wp_isi ?_ | with_reducible refine wp_sl ?_ | with_reducible refine wp_noPart ?_ | with_reducible refine wp_part ?_ | with_reducible refine wp_rev ?_ | with_reducible refine wp_keys ?_ | with_reducible refine wp_eq2 ?_ | with_reducible refine wp_iStrD ?_ | with_reducible refine wp_dic0 ?_ | with_reducible refine wp_enum ?_ | with_reducible refine wp_eand ?_ | with_reducible refine wp_attr ?_ | with_reducible refine wp_eqO ?_ | with_reducible refine wp_ne2 ?_ | with_reducible refine wp_con ?_ | with_reducible refine wp_prop ?_ | with_reducible refine wp_enot ?_ | with_reducible refine wp_new ?_ | with_reducible refine wp_callK ?_ | with_reducible refine wp_get1 ?_ | with_reducible refine wp_get2 ?_ | with_reducible refine ws_seq ?_ | with_reducible refine ws_nil ?_ | with_reducible refine ws_set ?_ | with_reducible refine ws_ret ?_ | with_reducible refine ws_if ?_ | with_reducible refine ws_asg ?_ | with_reducible refine ws_par2 ?_ | with_reducible refine ws_par3 ?_ | with_reducible refine ws_own ?_ | with_reducible refine ws_for ?_ | with_reducible refine ws_parO ?_ | with_reducible refine ws_forV ?_ | with_reducible refine ws_put ?_ | with_reducible refine ws_clr ?_ | ((with_reducible apply ws_app); (· exact rfl)) | ((with_reducible apply ws_putO); (· exact rfl)) | ((with_reducible apply ws_frz); (· exact rfl)) | ((with_reducible apply ws_frzp); (· exact rfl)) | ((with_reducible apply wp_loc); (· exact rfl)) | ((with_reducible apply wp_rd); (· exact rfl)) | ((with_reducible apply wp_rdo); (· exact rfl)) | ((with_reducible apply wp_args); (· exact rfl); (· exact rfl); (· exact rfl))))
    exact ⟨by show 4 ≤ line; decide, by simp; unfold line; omega, rest⟩
abbrev L14 (ns : List Int) (ms : List D) (t2 t3 t4 t5 t6 t7 t8 t9 t10 t11 t12 t13 : Slot) : Loc := [.pu (.scr ns), .pu (.lst ms), t2, t3, t4, t5, t6, t7, t8, t9, t10, t11, t12, t13]
/-- one turn of the second loop -/
theorem asked_ok (ns : List Int) {ms : List D} (hm : ∀ d ∈ ms, Made d) (hl : ms.length ≤ 100) {t2 t3 t4 t5 t6 t7 t8 t9 t10 t11 t12 t13 : Slot} {s : Store} {N : Loc → Store → Prop} {R : D → Store → Prop}
    (hN : ∀ t6 t7 t10 t11 t12 t13 s', N (L14 ns ms t2 t3 t4 t5 t6 t7 t8 t9 t10 t11 t12 t13) s') :
    Ws ((bCons (p_law_2b0) <| p_law_2b1) (L14 ns ms t2 t3 t4 t5 t6 t7 t8 t9 t10 t11 t12 t13) s) N R := by
  unfold p_law_2b0 p_law_2b1 L14
  refine ws_seq (ws_frzp rfl ?_)
  (repeat (first | with_reducible refine wp_cons ?_ | with_reducible refine wp_nil ?_ | with_reducible refine wp_C ?_ | with_reducible refine wp_call ?_ | with_reducible refine wp_tup ?_ | with_reducible refine wp_lst ?_ | with_reducible refine wp_if ?_ | with_reducible refine wp_bin ?_ | with_reducible refine wp_cmp ?_ | with_reducible refine wp_ix ?_ | with_reducible refine wp_bt ?_ | with_reducible refine wp_mt ?_ | with_reducible refine wp_is ?_ | with_reducible refine wp_tru ?_ | with_reducible refine wp_not ?_ | with_reducible refine wp_or ?_ | with_reducible refine wp_and ?_ | with_reducible refine wp_rng1 ?_ | with_reducible refine wp_yes ?_ | with_reducible refine wp_lc ?_ | with_reducible refine wp_iLst ?_ | with_reducible refine wp_neg ?_ | with_reducible refine wp_isi ?_ | with_reducible refine wp_sl ?_ | with_reducible refine wp_noPart ?_ | with_reducible refine wp_part ?_ | with_reducible refine wp_rev ?_ | with_reducible refine wp_keys ?_ | with_reducible refine wp_eq2 ?_ | with_reducible refine wp_iStrD ?_ | with_reducible refine wp_dic0 ?_ | with_reducible refine wp_enum ?_ | with_reducible refine wp_eand ?_ | with_reducible refine wp_attr ?_ | with_reducible refine wp_eqO ?_ | with_reducible refine wp_ne2 ?_ | with_reducible refine wp_con ?_ | with_reducible refine wp_prop ?_ | with_reducible refine wp_enot ?_ | with_reducible refine wp_new ?_ | with_reducible refine wp_callK ?_ | with_reducible refine wp_get1 ?_ | with_reducible refine wp_get2 ?_ | with_reducible refine ws_seq ?_ | with_reducible refine ws_nil ?_ | with_reducible refine ws_set ?_ | with_reducible refine ws_ret ?_ | with_reducible refine ws_if ?_ | with_reducible refine ws_asg ?_ | with_reducible refine ws_par2 ?_ | with_reducible refine ws_par3 ?_ | with_reducible refine ws_own ?_ | with_reducible refine ws_for ?_ | with_reducible refine ws_parO ?_ | with_reducible refine ws_forV ?_ | with_reducible refine ws_put ?_ | with_reducible refine ws_clr ?_ | ((with_reducible apply ws_app); (· exact rfl)) | ((with_reducible apply ws_putO); (· exact rfl)) | ((with_reducible apply ws_frz); (· exact rfl)) | ((with_reducible apply ws_frzp); (· exact rfl)) | ((with_reducible apply wp_loc); (· exact rfl)) | ((with_reducible apply wp_rd); (· exact rfl)) | ((with_reducible apply wp_rdo); (· exact rfl)) | ((with_reducible apply wp_args); (· exact rfl); (· exact rfl); (· exact rfl))))
  refine ⟨_, rfl, by unfold line; omega, fun ds acc s' => (∀ d ∈ ds, Made d) ∧ ∃ bs : List Unit, acc = bs.map (fun _ => D.bl true), ⟨hm, [], rfl⟩, ?_, ?_⟩
  · rintro d ds acc s' ⟨h1, bs, rfl⟩
    obtain ⟨e, k, ps, rfl, hc, hpl⟩ := h1 _ List.mem_cons_self
    refine ⟨_, rfl, ?_⟩
    (repeat (first | with_reducible refine wp_cons ?_ | with_reducible refine wp_nil ?_ | with_reducible refine wp_C ?_ | with_reducible refine wp_call ?_ | with_reducible refine wp_tup ?_ | with_reducible refine wp_lst ?_ | with_reducible refine wp_if ?_ | with_reducible refine wp_bin ?_ | with_reducible refine wp_cmp ?_ | with_reducible refine wp_ix ?_ | with_reducible refine wp_bt ?_ | with_reducible refine wp_mt ?_ | with_reducible refine wp_is ?_ | with_reducible refine wp_tru ?_ | with_reducible refine wp_not ?_ | with_reducible refine wp_or ?_ | with_reducible refine wp_and ?_ | with_reducible refine wp_rng1 ?_ | with_reducible refine wp_yes ?_ | with_reducible refine wp_lc ?_ | with_reducible refine wp_iLst ?_ | with_reducible refine wp_neg ?_ | with_reducible refine wp_isi ?_ | with_reducible refine wp_sl ?_ | with_reducible refine wp_noPart ?_ | with_reducible refine wp_part ?_ | with_reducible refine wp_rev ?_ | with_reducible refine wp_keys ?_ | with_reducible refine wp_eq2 ?_ | with_reducible refine wp_iStrD ?_ | with_reducible refine wp_dic0 ?_ | with_reducible refine wp_enum ?_ | with_reducible refine wp_eand ?_ | with_reducible refine wp_attr ?_ | with_reducible refine wp_eqO ?_ | with_reducible refine wp_ne2 ?_ | with_reducible refine wp_con ?_ | with_reducible refine wp_prop ?_ | with_reducible refine wp_enot ?_ | with_reducible refine wp_new ?_ | with_reducible refine wp_callK ?_ | with_reducible refine wp_get1 ?_ | with_reducible refine wp_get2 ?_ | with_reducible refine ws_seq ?_ | with_reducible refine ws_nil ?_ | with_reducible refine ws_set ?_ | with_reducible refine ws_ret ?_ | with_reducible refine ws_if ?_ | with_reducible refine ws_asg ?_ | with_reducible refine ws_par2 ?_ | with_reducible refine ws_par3 ?_ | with_reducible refine ws_own ?_ | with_reducible refine ws_for ?_ | with_reducible refine ws_parO ?_ | with_reducible refine ws_forV ?_ | with_reducible refine ws_put ?_ | with_reducible refine ws_clr ?_ | ((with_reducible apply ws_app); (· exact rfl)) | ((with_reducible apply ws_putO); (· exact rfl)) | ((with_reducible apply ws_frz); (· exact rfl)) | ((with_reducible apply ws_frzp); (· exact rfl)) | ((with_reducible apply wp_loc); (· exact rfl)) | ((with_reducible apply wp_rd); (· exact rfl)) | ((with_reducible apply wp_rdo); (· exact rfl)) | ((with_reducible apply wp_args); (· exact rfl); (· exact rfl); (· exact rfl))))
    rw [if_pos rfl]
    (repeat (first | with_reducible refine wp_cons ?_ | with_reducible refine wp_nil ?_ | with_reducible refine wp_C ?_ | with_reducible refine wp_call ?_ | with_reducible refine wp_tup ?_ | with_reducible refine wp_lst ?_ | with_reducible refine wp_if ?_ | with_reducible refine wp_bin ?_ | with_reducible refine wp_cmp ?_ | with_reducible refine wp_ix ?_ | with_reducible refine wp_bt ?_ | with_reducible refine wp_mt ?_ | with_reducible refine wp_is ?_ | with_reducible refine wp_tru ?_ | with_reducible refine wp_not ?_ | with_reducible refine wp_or ?_ | with_reducible refine wp_and ?_ | with_reducible refine wp_rng1 ?_ | with_reducible refine wp_yes ?_ | with_reducible refine wp_lc ?_ | with_reducible refine wp_iLst ?_ | with_reducible refine wp_neg ?_ | with_reducible refine wp_isi ?_ | with_reducible refine wp_sl ?_ | with_reducible refine wp_noPart ?_ | with_reducible refine wp_part ?_ | with_reducible refine wp_rev ?_ | with_reducible refine wp_keys ?_ | with_reducible refine wp_eq2 ?_ | with_reducible refine wp_iStrD ?_ | with_reducible refine wp_dic0 ?_ | with_reducible refine wp_enum ?_ | with_reducible refine wp_eand ?_ | with_reducible refine wp_attr ?_ | with_reducible refine wp_eqO ?_ | with_reducible refine wp_ne2 ?_ | with_reducible refine wp_con ?_ | with_reducible refine wp_prop ?_ | with_reducible refine wp_enot ?_ | with_reducible refine wp_new ?_ | with_reducible refine wp_callK ?_ | with_reducible refine wp_get1 ?_ | with_reducible refine wp_get2 ?_ | with_reducible refine ws_seq ?_ | with_reducible refine ws_nil ?_ | with_reducible refine ws_set ?_ | with_reducible refine ws_ret ?_ | with_reducible refine ws_if ?_ | with_reducible refine ws_asg ?_ | with_reducible refine ws_par2 ?_ | with_reducible refine ws_par3 ?_ | with_reducible refine ws_own ?_ | with_reducible refine ws_for ?_ | with_reducible refine ws_parO ?_ | with_reducible refine ws_forV ?_ | with_reducible refine ws_put ?_ | with_reducible refine ws_clr ?_ | ((with_reducible apply ws_app); (· exact rfl)) | ((with_reducible apply ws_putO); (· exact rfl)) | ((with_reducible apply ws_frz); (· exact rfl)) | ((with_reducible apply ws_frzp); (· exact rfl)) | ((with_reducible apply wp_loc); (· exact rfl)) | ((with_reducible apply wp_rd); (· exact rfl)) | ((with_reducible apply wp_rdo); (· exact rfl)) | ((with_reducible apply wp_args); (· exact rfl); (· exact rfl); (· exact rfl))))
    refine wp_mono (right_ok e k hc hpl s') fun d s2 h => ?_
    subst h
    exact ⟨fun d hd => h1 d (List.mem_cons_of_mem _ hd), bs ++ [()], by rw [List.map_append]; rfl⟩
  rintro xs s' ⟨_, bs, rfl⟩
  (repeat (first | with_reducible refine wp_cons ?_ | with_reducible refine wp_nil ?_ | with_reducible refine wp_C ?_ | with_reducible refine wp_call ?_ | with_reducible refine wp_tup ?_ | with_reducible refine wp_lst ?_ | with_reducible refine wp_if ?_ | with_reducible refine wp_bin ?_ | with_reducible refine wp_cmp ?_ | with_reducible refine wp_ix ?_ | with_reducible refine wp_bt ?_ | with_reducible refine wp_mt ?_ | with_reducible refine wp_is ?_ | with_reducible refine wp_tru ?_ | with_reducible refine wp_not ?_ | with_reducible refine wp_or ?_ | with_reducible refine wp_and ?_ | with_reducible refine wp_rng1 ?_ | with_reducible refine wp_yes ?_ | with_reducible refine wp_lc ?_ | with_reducible refine wp_iLst ?_ | with_reducible refine wp_neg ?_ | with_reducible refine wp_isi ?_ | with_reducible refine wp_sl ?_ | with_reducible refine wp_noPart ?_ | with_reducible refine wp_part ?_ | with_reducible refine wp_rev ?_ | with_reducible refine wp_keys ?_ | with_reducible refine wp_eq2 ?_ | with_reducible refine wp_iStrD ?_ | with_reducible refine wp_dic0 ?_ | with_reducible refine wp_enum ?_ | with_reducible refine wp_eand ?_ | with_reducible refine wp_attr ?_ | with_reducible refine wp_eqO ?_ | with_reducible refine wp_ne2 ?_ | with_reducible refine wp_con ?_ | with_reducible refine wp_prop ?_ | with_reducible refine wp_enot ?_ | with_reducible refine wp_new ?_ | with_reducible refine wp_callK ?_ | with_reducible refine wp_get1 ?_ | with_reducible refine wp_get2 ?_ | with_reducible refine ws_seq ?_ | with_reducible refine ws_nil ?_ | with_reducible refine ws_set ?_ | with_reducible refine ws_ret ?_ | with_reducible refine ws_if ?_ | with_reducible refine ws_asg ?_ | with_reducible refine ws_par2 ?_ | with_reducible refine ws_par3 ?_ | with_reducible refine ws_own ?_ | with_reducible refine ws_for ?_ | with_reducible refine ws_parO ?_ | with_reducible refine ws_forV ?_ | with_reducible refine ws_put ?_ | with_reducible refine ws_clr ?_ | ((with_reducible apply ws_app); (· exact rfl)) | ((with_reducible apply ws_putO); (· exact rfl)) | ((with_reducible apply ws_frz); (· exact rfl)) | ((with_reducible apply ws_frzp); (· exact rfl)) | ((with_reducible apply wp_loc); (· exact rfl)) | ((with_reducible apply wp_rd); (· exact rfl)) | ((with_reducible apply wp_rdo); (· exact rfl)) | ((with_reducible apply wp_args); (· exact rfl); (· exact rfl); (· exact rfl))))
  refine ⟨_, gAll_trues bs, true, rfl, ?_⟩
  rw [show (!true) = false from rfl, if_neg Bool.false_ne_true]
  (repeat (first | with_reducible refine wp_cons ?_ | with_reducible refine wp_nil ?_ | with_reducible refine wp_C ?_ | with_reducible refine wp_call ?_ | with_reducible refine wp_tup ?_ | with_reducible refine wp_lst ?_ | with_reducible refine wp_if ?_ | with_reducible refine wp_bin ?_ | with_reducible refine wp_cmp ?_ | with_reducible refine wp_ix ?_ | with_reducible refine wp_bt ?_ | with_reducible refine wp_mt ?_ | with_reducible refine wp_is ?_ | with_reducible refine wp_tru ?_ | with_reducible refine wp_not ?_ | with_reducible refine wp_or ?_ | with_reducible refine wp_and ?_ | with_reducible refine wp_rng1 ?_ | with_reducible refine wp_yes ?_ | with_reducible refine wp_lc ?_ | with_reducible refine wp_iLst ?_ | with_reducible refine wp_neg ?_ | with_reducible refine wp_isi ?_ | with_reducible refine wp_sl ?_ | with_reducible refine wp_noPart ?_ | with_reducible refine wp_part ?_ | with_reducible refine wp_rev ?_ | with_reducible refine wp_keys ?_ | with_reducible refine wp_eq2 ?_ | with_reducible refine wp_iStrD ?_ | with_reducible refine wp_dic0 ?_ | with_reducible refine wp_enum ?_ | with_reducible refine wp_eand ?_ | with_reducible refine wp_attr ?_ | with_reducible refine wp_eqO ?_ | with_reducible refine wp_ne2 ?_ | with_reducible refine wp_con ?_ | with_reducible refine wp_prop ?_ | with_reducible refine wp_enot ?_ | with_reducible refine wp_new ?_ | with_reducible refine wp_callK ?_ | with_reducible refine wp_get1 ?_ | with_reducible refine wp_get2 ?_ | with_reducible refine ws_seq ?_ | with_reducible refine ws_nil ?_ | with_reducible refine ws_set ?_ | with_reducible refine ws_ret ?_ | with_reducible refine ws_if ?_ | with_reducible refine ws_asg ?_ | with_reducible refine ws_par2 ?_ | with_reducible refine ws_par3 ?_ | with_reducible refine ws_own ?_ | with_reducible refine ws_for ?_ | with_reducible refine ws_parO ?_ | with_reducible refine ws_forV ?_ | with_reducible refine ws_put ?_ | with_reducible refine ws_clr ?_ | ((with_reducible apply ws_app); (· exact rfl)) | ((with_reducible apply ws_putO); (· exact rfl)) | ((with_reducible apply ws_frz); (· exact rfl)) | ((with_reducible apply ws_frzp); (· exact rfl)) | ((with_reducible apply wp_loc); (· exact rfl)) | ((with_reducible apply wp_rd); (· exact rfl)) | ((with_reducible apply wp_rdo); (· exact rfl)) | ((with_reducible apply wp_args); (· exact rfl); (· exact rfl); (· exact rfl))))
  refine ⟨_, rfl, ?_⟩
  refine ⟨fun ds ρ s' => (∀ d ∈ ds, Made d) ∧ ∃ t6 t7 t10 t11 t12 t13, ρ = L14 ns ms t2 t3 t4 t5 t6 t7 t8 t9 t10 t11 t12 t13, ⟨hm, _, _, _, _, _, _, rfl⟩, ?_, ?_⟩
  · rintro d ds ρ s2 ⟨h1, t6, t7, t10, t11, t12, t13, rfl⟩
    obtain ⟨e, k, ps, rfl, hc, hpl⟩ := h1 _ List.mem_cons_self
    refine ⟨_, rfl, ?_⟩
    unfold p_law_2b1b0 p_law_2b1b1 p_law_2b1b3 p_law_2b1b4
    (repeat (first | with_reducible refine wp_cons ?_ | with_reducible refine wp_nil ?_ | with_reducible refine wp_C ?_ | with_reducible refine wp_call ?_ | with_reducible refine wp_tup ?_ | with_reducible refine wp_lst ?_ | with_reducible refine wp_if ?_ | with_reducible refine wp_bin ?_ | with_reducible refine wp_cmp ?_ | with_reducible refine wp_ix ?_ | with_reducible refine wp_bt ?_ | with_reducible refine wp_mt ?_ | with_reducible refine wp_is ?_ | with_reducible refine wp_tru ?_ | with_reducible refine wp_not ?_ | with_reducible refine wp_or ?_ | with_reducible refine wp_and ?_ | with_reducible refine wp_rng1 ?_ | with_reducible refine wp_yes ?_ | with_reducible refine wp_lc ?_ | with_reducible refine wp_iLst ?_ | with_reducible refine wp_neg ?_ | with_reducible refine wp_isi ?_ | with_reducible refine wp_sl ?_ | with_reducible refine wp_noPart ?_ | with_reducible refine wp_part ?_ | with_reducible refine wp_rev ?_ | with_reducible refine wp_keys ?_ | with_reducible refine wp_eq2 ?_ | with_reducible refine wp_iStrD ?_ | with_reducible refine wp_dic0 ?_ | with_reducible refine wp_enum ?_ | with_reducible refine wp_eand ?_ | with_reducible refine wp_attr ?_ | with_reducible refine wp_eqO ?_ | with_reducible refine wp_ne2 ?_ | with_reducible refine wp_con ?_ | with_reducible refine wp_prop ?_ | with_reducible refine wp_enot ?_ | with_reducible refine wp_new ?_ | with_reducible refine wp_callK ?_ | with_reducible refine wp_get1 ?_ | with_reducible refine wp_get2 ?_ | with_reducible refine ws_seq ?_ | with_reducible refine ws_nil ?_ | with_reducible refine ws_set ?_ | with_reducible refine ws_ret ?_ | with_reducible refine ws_if ?_ | with_reducible refine ws_asg ?_ | with_reducible refine ws_par2 ?_ | with_reducible refine ws_par3 ?_ | with_reducible refine ws_own ?_ | with_reducible refine ws_for ?_ | with_reducible refine ws_parO ?_ | with_reducible refine ws_forV ?_ | with_reducible refine ws_put ?_ | with_reducible refine ws_clr ?_ | ((with_reducible apply ws_app); (· exact rfl)) | ((with_reducible apply ws_putO); (· exact rfl)) | ((with_reducible apply ws_frz); (· exact rfl)) | ((with_reducible apply ws_frzp); (· exact rfl)) | ((with_reducible apply wp_loc); (· exact rfl)) | ((with_reducible apply wp_rd); (· exact rfl)) | ((with_reducible apply wp_rdo); (· exact rfl)) | ((with_reducible apply wp_args); (· exact rfl); (· exact rfl); (· exact rfl))))
    obtain ⟨g, q1, q2⟩ := cells_get e k ps s2
    refine ⟨g, by rw [der_msg]; exact q1, wp_eq q2 ?_⟩
    (repeat (first | with_reducible refine wp_cons ?_ | with_reducible refine wp_nil ?_ | with_reducible refine wp_C ?_ | with_reducible refine wp_call ?_ | with_reducible refine wp_tup ?_ | with_reducible refine wp_lst ?_ | with_reducible refine wp_if ?_ | with_reducible refine wp_bin ?_ | with_reducible refine wp_cmp ?_ | with_reducible refine wp_ix ?_ | with_reducible refine wp_bt ?_ | with_reducible refine wp_mt ?_ | with_reducible refine wp_is ?_ | with_reducible refine wp_tru ?_ | with_reducible refine wp_not ?_ | with_reducible refine wp_or ?_ | with_reducible refine wp_and ?_ | with_reducible refine wp_rng1 ?_ | with_reducible refine wp_yes ?_ | with_reducible refine wp_lc ?_ | with_reducible refine wp_iLst ?_ | with_reducible refine wp_neg ?_ | with_reducible refine wp_isi ?_ | with_reducible refine wp_sl ?_ | with_reducible refine wp_noPart ?_ | with_reducible refine wp_part ?_ | with_reducible refine wp_rev ?_ | with_reducible refine wp_keys ?_ | with_reducible refine wp_eq2 ?_ | with_reducible refine wp_iStrD ?_ | with_reducible refine wp_dic0 ?_ | with_reducible refine wp_enum ?_ | with_reducible refine wp_eand ?_ | with_reducible refine wp_attr ?_ | with_reducible refine wp_eqO ?_ | with_reducible refine wp_ne2 ?_ | with_reducible refine wp_con ?_ | with_reducible refine wp_prop ?_ | with_reducible refine wp_enot ?_ | with_reducible refine wp_new ?_ | with_reducible refine wp_callK ?_ | with_reducible refine wp_get1 ?_ | with_reducible refine wp_get2 ?_ | with_reducible refine ws_seq ?_ | with_reducible refine ws_nil ?_ | with_reducible refine ws_set ?_ | with_reducible refine ws_ret ?_ | with_reducible refine ws_if ?_ | with_reducible refine ws_asg ?_ | with_reducible refine ws_par2 ?_ | with_reducible refine ws_par3 ?_ | with_reducible refine ws_own ?_ | with_reducible refine ws_for ?_ | with_reducible refine ws_parO ?_ | with_reducible refine ws_forV ?_ | with_reducible refine ws_put ?_ | with_reducible refine ws_clr ?_ | ((with_reducible apply ws_app); (· exact rfl)) | ((with_reducible apply ws_putO); (· exact rfl)) | ((with_reducible apply ws_frz); (· exact rfl)) | ((with_reducible apply ws_frzp); (· exact rfl)) | ((with_reducible apply wp_loc); (· exact rfl)) | ((with_reducible apply wp_rd); (· exact rfl)) | ((with_reducible apply wp_rdo); (· exact rfl)) | ((with_reducible apply wp_args); (· exact rfl); (· exact rfl); (· exact rfl))))
    refine ⟨.dic (sd (due e ps)), by rw [List.map_cons, der_last]; rfl, ?_⟩
    refine ws_seq (ws_clr (n := s2.length) ?_)
    (repeat (first | with_reducible refine wp_cons ?_ | with_reducible refine wp_nil ?_ | with_reducible refine wp_C ?_ | with_reducible refine wp_call ?_ | with_reducible refine wp_tup ?_ | with_reducible refine wp_lst ?_ | with_reducible refine wp_if ?_ | with_reducible refine wp_bin ?_ | with_reducible refine wp_cmp ?_ | with_reducible refine wp_ix ?_ | with_reducible refine wp_bt ?_ | with_reducible refine wp_mt ?_ | with_reducible refine wp_is ?_ | with_reducible refine wp_tru ?_ | with_reducible refine wp_not ?_ | with_reducible refine wp_or ?_ | with_reducible refine wp_and ?_ | with_reducible refine wp_rng1 ?_ | with_reducible refine wp_yes ?_ | with_reducible refine wp_lc ?_ | with_reducible refine wp_iLst ?_ | with_reducible refine wp_neg ?_ | with_reducible refine wp_isi ?_ | with_reducible refine wp_sl ?_ | with_reducible refine wp_noPart ?_ | with_reducible refine wp_part ?_ | with_reducible refine wp_rev ?_ | with_reducible refine wp_keys ?_ | with_reducible refine wp_eq2 ?_ | with_reducible refine wp_iStrD ?_ | with_reducible refine wp_dic0 ?_ | with_reducible refine wp_enum ?_ | with_reducible refine wp_eand ?_ | with_reducible refine wp_attr ?_ | with_reducible refine wp_eqO ?_ | with_reducible refine wp_ne2 ?_ | with_reducible refine wp_con ?_ | with_reducible refine wp_prop ?_ | with_reducible refine wp_enot ?_ | with_reducible refine wp_new ?_ | with_reducible refine wp_callK ?_ | with_reducible refine wp_get1 ?_ | with_reducible refine wp_get2 ?_ | with_reducible refine ws_seq ?_ | with_reducible refine ws_nil ?_ | with_reducible refine ws_set ?_ | with_reducible refine ws_ret ?_ | with_reducible refine ws_if ?_ | with_reducible refine ws_asg ?_ | with_reducible refine ws_par2 ?_ | with_reducible refine ws_par3 ?_ | with_reducible refine ws_own ?_ | with_reducible refine ws_for ?_ | with_reducible refine ws_parO ?_ | with_reducible refine ws_forV ?_ | with_reducible refine ws_put ?_ | with_reducible refine ws_clr ?_ | ((with_reducible apply ws_app); (· exact rfl)) | ((with_reducible apply ws_putO); (· exact rfl)) | ((with_reducible apply ws_frz); (· exact rfl)) | ((with_reducible apply ws_frzp); (· exact rfl)) | ((with_reducible apply wp_loc); (· exact rfl)) | ((with_reducible apply wp_rd); (· exact rfl)) | ((with_reducible apply wp_rdo); (· exact rfl)) | ((with_reducible apply wp_args); (· exact rfl); (· exact rfl); (· exact rfl))))
    refine ⟨rfl, sd (due e ps), by simp, ?_⟩
    (repeat (first | with_reducible refine wp_cons ?_ | with_reducible refine wp_nil ?_ | with_reducible refine wp_C ?_ | with_reducible refine wp_call ?_ | with_reducible refine wp_tup ?_ | with_reducible refine wp_lst ?_ | with_reducible refine wp_if ?_ | with_reducible refine wp_bin ?_ | with_reducible refine wp_cmp ?_ | with_reducible refine wp_ix ?_ | with_reducible refine wp_bt ?_ | with_reducible refine wp_mt ?_ | with_reducible refine wp_is ?_ | with_reducible refine wp_tru ?_ | with_reducible refine wp_not ?_ | with_reducible refine wp_or ?_ | with_reducible refine wp_and ?_ | with_reducible refine wp_rng1 ?_ | with_reducible refine wp_yes ?_ | with_reducible refine wp_lc ?_ | with_reducible refine wp_iLst ?_ | with_reducible refine wp_neg ?_ | with_reducible refine wp_isi ?_ | with_reducible refine wp_sl ?_ | with_reducible refine wp_noPart ?_ | with_reducible refine wp_part ?_ | with_reducible refine wp_rev ?_ | with_reducible refine wp_keys ?_ | with_reducible refine wp_eq2 ?_ | with_reducible refine wp_iStrD ?_ | with_reducible refine wp_dic0 ?_ | with_reducible refine wp_enum ?_ | with_reducible refine wp_eand ?_ | with_reducible refine wp_attr ?_ | with_reducible refine wp_eqO ?_ | with_reducible refine wp_ne2 ?_ | with_reducible refine wp_con ?_ | with_reducible refine wp_prop ?_ | with_reducible refine wp_enot ?_ | with_reducible refine wp_new ?_ | with_reducible refine wp_callK ?_ | with_reducible refine wp_get1 ?_ | with_reducible refine wp_get2 ?_ | with_reducible refine ws_seq ?_ | with_reducible refine ws_nil ?_ | with_reducible refine ws_set ?_ | with_reducible refine ws_ret ?_ | with_reducible refine ws_if ?_ | with_reducible refine ws_asg ?_ | with_reducible refine ws_par2 ?_ | with_reducible refine ws_par3 ?_ | with_reducible refine ws_own ?_ | with_reducible refine ws_for ?_ | with_reducible refine ws_parO ?_ | with_reducible refine ws_forV ?_ | with_reducible refine ws_put ?_ | with_reducible refine ws_clr ?_ | ((with_reducible apply ws_app); (· exact rfl)) | ((with_reducible apply ws_putO); (· exact rfl)) | ((with_reducible apply ws_frz); (· exact rfl)) | ((with_reducible apply ws_frzp); (· exact rfl)) | ((with_reducible apply wp_loc); (· exact rfl)) | ((with_reducible apply wp_rd); (· exact rfl)) | ((with_reducible apply wp_rdo); (· exact rfl)) | ((with_reducible apply wp_args); (· exact rfl); (· exact rfl); (· exact rfl))))
    obtain ⟨c', hc'⟩ := put_some (x := "y") (d := .int 7) (kvs := []) (by decide)
    refine ⟨s2.length, .dic [], _, rfl, by simp, hc', ?_⟩
    generalize List.set (List.set (s2 ++ [D.dic (sd (due e ps))]) s2.length (D.dic [])) s2.length (D.dic c') = s3
    (repeat (first | with_reducible refine wp_cons ?_ | with_reducible refine wp_nil ?_ | with_reducible refine wp_C ?_ | with_reducible refine wp_call ?_ | with_reducible refine wp_tup ?_ | with_reducible refine wp_lst ?_ | with_reducible refine wp_if ?_ | with_reducible refine wp_bin ?_ | with_reducible refine wp_cmp ?_ | with_reducible refine wp_ix ?_ | with_reducible refine wp_bt ?_ | with_reducible refine wp_mt ?_ | with_reducible refine wp_is ?_ | with_reducible refine wp_tru ?_ | with_reducible refine wp_not ?_ | with_reducible refine wp_or ?_ | with_reducible refine wp_and ?_ | with_reducible refine wp_rng1 ?_ | with_reducible refine wp_yes ?_ | with_reducible refine wp_lc ?_ | with_reducible refine wp_iLst ?_ | with_reducible refine wp_neg ?_ | with_reducible refine wp_isi ?_ | with_reducible refine wp_sl ?_ | with_reducible refine wp_noPart ?_ | with_reducible refine wp_part ?_ | with_reducible refine wp_rev ?_ | with_reducible refine wp_keys ?_ | with_reducible refine wp_eq2 ?_ | with_reducible refine wp_iStrD ?_ | with_reducible refine wp_dic0 ?_ | with_reducible refine wp_enum ?_ | with_reducible refine wp_eand ?_ | with_reducible refine wp_attr ?_ | with_reducible refine wp_eqO ?_ | with_reducible refine wp_ne2 ?_ | with_reducible refine wp_con ?_ | with_reducible refine wp_prop ?_ | with_reducible refine wp_enot ?_ | with_reducible refine wp_new ?_ | with_reducible refine wp_callK ?_ | with_reducible refine wp_get1 ?_ | with_reducible refine wp_get2 ?_ | with_reducible refine ws_seq ?_ | with_reducible refine ws_nil ?_ | with_reducible refine ws_set ?_ | with_reducible refine ws_ret ?_ | with_reducible refine ws_if ?_ | with_reducible refine ws_asg ?_ | with_reducible refine ws_par2 ?_ | with_reducible refine ws_par3 ?_ | with_reducible refine ws_own ?_ | with_reducible refine ws_for ?_ | with_reducible refine ws_parO ?_ | with_reducible refine ws_forV ?_ | with_reducible refine ws_put ?_ | with_reducible refine ws_clr ?_ | ((with_reducible apply ws_app); (· exact rfl)) | ((with_reducible apply ws_putO); (· exact rfl)) | ((with_reducible apply ws_frz); (· exact rfl)) | ((with_reducible apply ws_frzp); (· exact rfl)) | ((with_reducible apply wp_loc); (· exact rfl)) | ((with_reducible apply wp_rd); (· exact rfl)) | ((with_reducible apply wp_rdo); (· exact rfl)) | ((with_reducible apply wp_args); (· exact rfl); (· exact rfl); (· exact rfl))))
    obtain ⟨g, q1, q2⟩ := cells_get e k ps s3
    refine ⟨g, by rw [der_msg]; exact q1, wp_eq q2 ?_⟩
    (repeat (first | with_reducible refine wp_cons ?_ | with_reducible refine wp_nil ?_ | with_reducible refine wp_C ?_ | with_reducible refine wp_call ?_ | with_reducible refine wp_tup ?_ | with_reducible refine wp_lst ?_ | with_reducible refine wp_if ?_ | with_reducible refine wp_bin ?_ | with_reducible refine wp_cmp ?_ | with_reducible refine wp_ix ?_ | with_reducible refine wp_bt ?_ | with_reducible refine wp_mt ?_ | with_reducible refine wp_is ?_ | with_reducible refine wp_tru ?_ | with_reducible refine wp_not ?_ | with_reducible refine wp_or ?_ | with_reducible refine wp_and ?_ | with_reducible refine wp_rng1 ?_ | with_reducible refine wp_yes ?_ | with_reducible refine wp_lc ?_ | with_reducible refine wp_iLst ?_ | with_reducible refine wp_neg ?_ | with_reducible refine wp_isi ?_ | with_reducible refine wp_sl ?_ | with_reducible refine wp_noPart ?_ | with_reducible refine wp_part ?_ | with_reducible refine wp_rev ?_ | with_reducible refine wp_keys ?_ | with_reducible refine wp_eq2 ?_ | with_reducible refine wp_iStrD ?_ | with_reducible refine wp_dic0 ?_ | with_reducible refine wp_enum ?_ | with_reducible refine wp_eand ?_ | with_reducible refine wp_attr ?_ | with_reducible refine wp_eqO ?_ | with_reducible refine wp_ne2 ?_ | with_reducible refine wp_con ?_ | with_reducible refine wp_prop ?_ | with_reducible refine wp_enot ?_ | with_reducible refine wp_new ?_ | with_reducible refine wp_callK ?_ | with_reducible refine wp_get1 ?_ | with_reducible refine wp_get2 ?_ | with_reducible refine ws_seq ?_ | with_reducible refine ws_nil ?_ | with_reducible refine ws_set ?_ | with_reducible refine ws_ret ?_ | with_reducible refine ws_if ?_ | with_reducible refine ws_asg ?_ | with_reducible refine ws_par2 ?_ | with_reducible refine ws_par3 ?_ | with_reducible refine ws_own ?_ | with_reducible refine ws_for ?_ | with_reducible refine ws_parO ?_ | with_reducible refine ws_forV ?_ | with_reducible refine ws_put ?_ | with_reducible refine ws_clr ?_ | ((with_reducible apply ws_app); (· exact rfl)) | ((with_reducible apply ws_putO); (· exact rfl)) | ((with_reducible apply ws_frz); (· exact rfl)) | ((with_reducible apply ws_frzp); (· exact rfl)) | ((with_reducible apply wp_loc); (· exact rfl)) | ((with_reducible apply wp_rd); (· exact rfl)) | ((with_reducible apply wp_rdo); (· exact rfl)) | ((with_reducible apply wp_args); (· exact rfl); (· exact rfl); (· exact rfl))))
    refine ⟨.bl false, by rw [der_last]; exact dneD_cells (due_cells hc), false, rfl, ?_⟩
    rw [if_neg Bool.false_ne_true]
    exact ⟨fun d hd => h1 d (List.mem_cons_of_mem _ hd), _, _, _, _, _, _, rfl⟩
  · rintro ρ s2 ⟨_, t6, t7, t10, t11, t12, t13, rfl⟩
    exact hN _ _ _ _ _ _ _
theorem law_plain (ns : List Int) (hl : ns.length ≤ 63) : ∃ s, M_law [.scr ns] [] = .ok (.bl true) s := by
  refine true_of (wp_fn ?_)
  show Ws (m_law [.pu (.scr ns), .no, .no, .no, .no, .no, .no, .no, .no, .no, .no, .no, .no, .no] []) _ _
  unfold m_law p_law_1
  (repeat (first | with_reducible refine wp_cons ?_ | with_reducible refine wp_nil ?_ | with_reducible refine wp_C ?_ | with_reducible refine wp_call ?_ | with_reducible refine wp_tup ?_ | with_reducible refine wp_lst ?_ | with_reducible refine wp_if ?_ | with_reducible refine wp_bin ?_ | with_reducible refine wp_cmp ?_ | with_reducible refine wp_ix ?_ | with_reducible refine wp_bt ?_ | with_reducible refine wp_mt ?_ | with_reducible refine wp_is ?_ | with_reducible refine wp_tru ?_ | with_reducible refine wp_not ?_ | with_reducible refine wp_or ?_ | with_reducible refine wp_and ?_ | with_reducible refine wp_rng1 ?_ | with_reducible refine wp_yes ?_ | with_reducible refine wp_lc ?_ | with_reducible refine wp_iLst ?_ | with_reducible refine wp_neg ?_ | with_reducible refine wp_isi ?_ | with_reducible refine wp_sl ?_ | with_reducible refine wp_noPart ?_ | with_reducible refine wp_part ?_ | with_reducible refine wp_rev ?_ | with_reducible refine wp_keys ?_ | with_reducible refine wp_eq2 ?_ | with_reducible refine wp_iStrD ?_ | with_reducible refine wp_dic0 ?_ | with_reducible refine wp_enum ?_ | with_reducible refine wp_eand ?_ | with_reducible refine wp_attr ?_ | with_reducible refine wp_eqO ?_ | with_reducible refine wp_ne2 ?_ | with_reducible refine wp_con ?_ | with_reducible refine wp_prop ?_ | with_reducible refine wp_enot ?_ | with_reducible refine wp_new ?_ | with_reducible refine wp_callK ?_ | with_reducible refine wp_get1 ?_ | with_reducible refine wp_get2 ?_ | with_reducible refine ws_seq ?_ | with_reducible refine ws_nil ?_ | with_reducible refine ws_set ?_ | with_reducible refine ws_ret ?_ | with_reducible refine ws_if ?_ | with_reducible refine ws_asg ?_ | with_reducible refine ws_par2 ?_ | with_reducible refine ws_par3 ?_ | with_reducible refine ws_own ?_ | with_reducible refine ws_for ?_ | with_reducible refine ws_parO ?_ | with_reducible refine ws_forV ?_ | with_reducible refine ws_put ?_ | with_reducible refine ws_clr ?_ | ((with_reducible apply ws_app); (· exact rfl)) | ((with_reducible apply ws_putO); (· exact rfl)) | ((with_reducible apply ws_frz); (· exact rfl)) | ((with_reducible apply ws_frzp); (· exact rfl)) | ((with_reducible apply wp_loc); (· exact rfl)) | ((with_reducible apply wp_rd); (· exact rfl)) | ((with_reducible apply wp_rdo); (· exact rfl)) | ((with_reducible apply wp_args); (· exact rfl); (· exact rfl); (· exact rfl))))
  refine ⟨by decide, ?_⟩
  (repeat (first | with_reducible refine wp_cons ?_ | with_reducible refine wp_nil ?_ | with_reducible refine wp_C ?_ | with_reducible refine wp_call ?_ | with_reducible refine wp_tup ?_ | with_reducible refine wp_lst ?_ | with_reducible refine wp_if ?_ | with_reducible refine wp_bin ?_ | with_reducible refine wp_cmp ?_ | with_reducible refine wp_ix ?_ | with_reducible refine wp_bt ?_ | with_reducible refine wp_mt ?_ | with_reducible refine wp_is ?_ | with_reducible refine wp_tru ?_ | with_reducible refine wp_not ?_ | with_reducible refine wp_or ?_ | with_reducible refine wp_and ?_ | with_reducible refine wp_rng1 ?_ | with_reducible refine wp_yes ?_ | with_reducible refine wp_lc ?_ | with_reducible refine wp_iLst ?_ | with_reducible refine wp_neg ?_ | with_reducible refine wp_isi ?_ | with_reducible refine wp_sl ?_ | with_reducible refine wp_noPart ?_ | with_reducible refine wp_part ?_ | with_reducible refine wp_rev ?_ | with_reducible refine wp_keys ?_ | with_reducible refine wp_eq2 ?_ | with_reducible refine wp_iStrD ?_ | with_reducible refine wp_dic0 ?_ | with_reducible refine wp_enum ?_ | with_reducible refine wp_eand ?_ | with_reducible refine wp_attr ?_ | with_reducible refine wp_eqO ?_ | with_reducible refine wp_ne2 ?_ | with_reducible refine wp_con ?_ | with_reducible refine wp_prop ?_ | with_reducible refine wp_enot ?_ | with_reducible refine wp_new ?_ | with_reducible refine wp_callK ?_ | with_reducible refine wp_get1 ?_ | with_reducible refine wp_get2 ?_ | with_reducible refine ws_seq ?_ | with_reducible refine ws_nil ?_ | with_reducible refine ws_set ?_ | with_reducible refine ws_ret ?_ | with_reducible refine ws_if ?_ | with_reducible refine ws_asg ?_ | with_reducible refine ws_par2 ?_ | with_reducible refine ws_par3 ?_ | with_reducible refine ws_own ?_ | with_reducible refine ws_for ?_ | with_reducible refine ws_parO ?_ | with_reducible refine ws_forV ?_ | with_reducible refine ws_put ?_ | with_reducible refine ws_clr ?_ | ((with_reducible apply ws_app); (· exact rfl)) | ((with_reducible apply ws_putO); (· exact rfl)) | ((with_reducible apply ws_frz); (· exact rfl)) | ((with_reducible apply ws_frzp); (· exact rfl)) | ((with_reducible apply wp_loc); (· exact rfl)) | ((with_reducible apply wp_rd); (· exact rfl)) | ((with_reducible apply wp_rdo); (· exact rfl)) | ((with_reducible apply wp_args); (· exact rfl); (· exact rfl); (· exact rfl))))
  refine ⟨2, rfl, ⟨by decide, by decide⟩, ?_⟩
  refine ⟨fun ds ρ s => (∀ d ∈ ds, ∃ i : Int, d = .int i ∧ 0 ≤ i ∧ i < 60) ∧ ∃ ms t2 t3 t4 t5 t6 t7 t8 t9 t10 t11 t12 t13, (∀ d ∈ ms, Made d) ∧ ds.length * 3 + ms.length ≤ 10 ∧ ρ = [.pu (.scr ns), .ow false (.lst ms), t2, t3, t4, t5, t6, t7, t8, t9, t10, t11, t12, t13], ⟨?_, [], _, _, _, _, _, _, _, _, _, _, _, _, fun d hd => absurd hd List.not_mem_nil, by decide, rfl⟩, ?_, ?_⟩
  · intro d hd
    obtain ⟨i, e, h0, h1⟩ := intsD_mem hd
    exact ⟨i, e, h0, Int.lt_trans h1 (by decide)⟩
  · rintro _ ds ρ s ⟨hi, ms, t2, t3, t4, t5, t6, t7, t8, t9, t10, t11, t12, t13, hm, hl, rfl⟩
    obtain ⟨i, rfl, i0, i1⟩ := hi _ List.mem_cons_self
    rw [List.length_cons] at hl
    refine ⟨_, rfl, ?_⟩
    refine build_ok ns i i0 i1 hm (by omega) fun m1 m2 m3 t4 t5 t6 t7 t8 t9 s' k1 k2 k3 => ⟨fun d hd => hi d (List.mem_cons_of_mem _ hd), _, _, _, _, _, _, _, _, _, _, _, _, _, ?_, ?_, rfl⟩
    · intro d hd
      simp only [List.mem_append, List.mem_singleton] at hd
      rcases hd with ((hd | rfl) | rfl) | rfl
      · exact hm d hd
      · exact k1
      · exact k2
      · exact k3
    · simp; omega
  · rintro ρ s ⟨_, ms, t2, t3, t4, t5, t6, t7, t8, t9, t10, t11, t12, t13, hm, hl, rfl⟩
    rw [List.length_nil] at hl
    unfold p_law_2
    (repeat (first | with_reducible refine wp_cons ?_ | with_reducible refine wp_nil ?_ | with_reducible refine wp_C ?_ | with_reducible refine wp_call ?_ | with_reducible refine wp_tup ?_ | with_reducible refine wp_lst ?_ | with_reducible refine wp_if ?_ | with_reducible refine wp_bin ?_ | with_reducible refine wp_cmp ?_ | with_reducible refine wp_ix ?_ | with_reducible refine wp_bt ?_ | with_reducible refine wp_mt ?_ | with_reducible refine wp_is ?_ | with_reducible refine wp_tru ?_ | with_reducible refine wp_not ?_ | with_reducible refine wp_or ?_ | with_reducible refine wp_and ?_ | with_reducible refine wp_rng1 ?_ | with_reducible refine wp_yes ?_ | with_reducible refine wp_lc ?_ | with_reducible refine wp_iLst ?_ | with_reducible refine wp_neg ?_ | with_reducible refine wp_isi ?_ | with_reducible refine wp_sl ?_ | with_reducible refine wp_noPart ?_ | with_reducible refine wp_part ?_ | with_reducible refine wp_rev ?_ | with_reducible refine wp_keys ?_ | with_reducible refine wp_eq2 ?_ | with_reducible refine wp_iStrD ?_ | with_reducible refine wp_dic0 ?_ | with_reducible refine wp_enum ?_ | with_reducible refine wp_eand ?_ | with_reducible refine wp_attr ?_ | with_reducible refine wp_eqO ?_ | with_reducible refine wp_ne2 ?_ | with_reducible refine wp_con ?_ | with_reducible refine wp_prop ?_ | with_reducible refine wp_enot ?_ | with_reducible refine wp_new ?_ | with_reducible refine wp_callK ?_ | with_reducible refine wp_get1 ?_ | with_reducible refine wp_get2 ?_ | with_reducible refine ws_seq ?_ | with_reducible refine ws_nil ?_ | with_reducible refine ws_set ?_ | with_reducible refine ws_ret ?_ | with_reducible refine ws_if ?_ | with_reducible refine ws_asg ?_ | with_reducible refine ws_par2 ?_ | with_reducible refine ws_par3 ?_ | with_reducible refine ws_own ?_ | with_reducible refine ws_for ?_ | with_reducible refine ws_parO ?_ | with_reducible refine ws_forV ?_ | with_reducible refine ws_put ?_ | with_reducible refine ws_clr ?_ | ((with_reducible apply ws_app); (· exact rfl)) | ((with_reducible apply ws_putO); (· exact rfl)) | ((with_reducible apply ws_frz); (· exact rfl)) | ((with_reducible apply ws_frzp); (· exact rfl)) | ((with_reducible apply wp_loc); (· exact rfl)) | ((with_reducible apply wp_rd); (· exact rfl)) | ((with_reducible apply wp_rdo); (· exact rfl)) | ((with_reducible apply wp_args); (· exact rfl); (· exact rfl); (· exact rfl))))
    refine ⟨2, rfl, ⟨by decide, by decide⟩, ?_⟩
    refine ⟨fun ds ρ s => (∃ d0, ds = d0 :: ds.tail ∧ False) ∨ True ∧ ∃ t2 t3 t4 t5 t6 t7 t8 t9 t10 t11 t12 t13, ρ = [.pu (.scr ns), .ow false (.lst ms), t2, t3, t4, t5, t6, t7, t8, t9, t10, t11, t12, t13] ∨ ρ = L14 ns ms t2 t3 t4 t5 t6 t7 t8 t9 t10 t11 t12 t13, .inr ⟨True.intro, _, _, _, _, _, _, _, _, _, _, _, _, .inl rfl⟩, ?_, ?_⟩
    · rintro d ds ρ s2 (⟨_, _, z⟩ | ⟨_, t2, t3, t4, t5, t6, t7, t8, t9, t10, t11, t12, t13, rfl | rfl⟩)
      · exact z.elim
      · refine ⟨_, rfl, ?_⟩
        have q := asked_ok ns hm (show ms.length ≤ 100 by omega) (t2 := t2) (t3 := .pu d) (t4 := t4) (t5 := t5) (t6 := t6) (t7 := t7) (t8 := t8) (t9 := t9) (t10 := t10) (t11 := t11) (t12 := t12) (t13 := t13) (s := s2) (R := fun d _ => d = .bl true)
          (N := fun ρ s => (∃ d0, ds = d0 :: ds.tail ∧ False) ∨ True ∧ ∃ t2 t3 t4 t5 t6 t7 t8 t9 t10 t11 t12 t13, ρ = [.pu (.scr ns), .ow false (.lst ms), t2, t3, t4, t5, t6, t7, t8, t9, t10, t11, t12, t13] ∨ ρ = L14 ns ms t2 t3 t4 t5 t6 t7 t8 t9 t10 t11 t12 t13)
          fun _ _ _ _ _ _ _ => .inr ⟨True.intro, _, _, _, _, _, _, _, _, _, _, _, _, .inr rfl⟩
        exact q
      · refine ⟨_, rfl, ?_⟩
        exact asked_ok ns hm (show ms.length ≤ 100 by omega) fun _ _ _ _ _ _ _ => .inr ⟨True.intro, _, _, _, _, _, _, _, _, _, _, _, _, .inr rfl⟩
    · rintro ρ s2 _
      unfold p_law_3
      (repeat (first | with_reducible refine wp_cons ?_ | with_reducible refine wp_nil ?_ | with_reducible refine wp_C ?_ | with_reducible refine wp_call ?_ | with_reducible refine wp_tup ?_ | with_reducible refine wp_lst ?_ | with_reducible refine wp_if ?_ | with_reducible refine wp_bin ?_ | with_reducible refine wp_cmp ?_ | with_reducible refine wp_ix ?_ | with_reducible refine wp_bt ?_ | with_reducible refine wp_mt ?_ | with_reducible refine wp_is ?_ | with_reducible refine wp_tru ?_ | with_reducible refine wp_not ?_ | with_reducible refine wp_or ?_ | with_reducible refine wp_and ?_ | with_reducible refine wp_rng1 ?_ | with_reducible refine wp_yes ?_ | with_reducible refine wp_lc ?_ | with_reducible refine wp_iLst ?_ | with_reducible refine wp_neg ?_ | with_reducible refine wp_isi ?_ | with_reducible refine wp_sl ?_ | with_reducible refine wp_noPart ?_ | with_reducible refine wp_part ?_ | with_reducible refine wp_rev ?_ | with_reducible refine wp_keys ?_ | with_reducible refine wp_eq2 ?_ | with_reducible refine wp_iStrD ?_ | with_reducible refine wp_dic0 ?_ | with_reducible refine wp_enum ?_ | with_reducible refine wp_eand ?_ | with_reducible refine wp_attr ?_ | with_reducible refine wp_eqO ?_ | with_reducible refine wp_ne2 ?_ | with_reducible refine wp_con ?_ | with_reducible refine wp_prop ?_ | with_reducible refine wp_enot ?_ | with_reducible refine wp_new ?_ | with_reducible refine wp_callK ?_ | with_reducible refine wp_get1 ?_ | with_reducible refine wp_get2 ?_ | with_reducible refine ws_seq ?_ | with_reducible refine ws_nil ?_ | with_reducible refine ws_set ?_ | with_reducible refine ws_ret ?_ | with_reducible refine ws_if ?_ | with_reducible refine ws_asg ?_ | with_reducible refine ws_par2 ?_ | with_reducible refine ws_par3 ?_ | with_reducible refine ws_own ?_ | with_reducible refine ws_for ?_ | with_reducible refine ws_parO ?_ | with_reducible refine ws_forV ?_ | with_reducible refine ws_put ?_ | with_reducible refine ws_clr ?_ | ((with_reducible apply ws_app); (· exact rfl)) | ((with_reducible apply ws_putO); (· exact rfl)) | ((with_reducible apply ws_frz); (· exact rfl)) | ((with_reducible apply ws_frzp); (· exact rfl)) | ((with_reducible apply wp_loc); (· exact rfl)) | ((with_reducible apply wp_rd); (· exact rfl)) | ((with_reducible apply wp_rdo); (· exact rfl)) | ((with_reducible apply wp_args); (· exact rfl); (· exact rfl); (· exact rfl))))
      refine ⟨by show 3 ≤ line; decide, ?_⟩
      (repeat (first | with_reducible refine wp_cons ?_ | with_reducible refine wp_nil ?_ | with_reducible refine wp_C ?_ | with_reducible refine wp_call ?_ | with_reducible refine wp_tup ?_ | with_reducible refine wp_lst ?_ | with_reducible refine wp_if ?_ | with_reducible refine wp_bin ?_ | with_reducible refine wp_cmp ?_ | with_reducible refine wp_ix ?_ | with_reducible refine wp_bt ?_ | with_reducible refine wp_mt ?_ | with_reducible refine wp_is ?_ | with_reducible refine wp_tru ?_ | with_reducible refine wp_not ?_ | with_reducible refine wp_or ?_ | with_reducible refine wp_and ?_ | with_reducible refine wp_rng1 ?_ | with_reducible refine wp_yes ?_ | with_reducible refine wp_lc ?_ | with_reducible refine wp_iLst ?_ | with_reducible refine wp_neg ?_ | with_reducible refine wp_isi ?_ | with_reducible refine wp_sl ?_ | with_reducible refine wp_noPart ?_ | with_reducible refine wp_part ?_ | with_reducible refine wp_rev ?_ | with_reducible refine wp_keys ?_ | with_reducible refine wp_eq2 ?_ | with_reducible refine wp_iStrD ?_ | with_reducible refine wp_dic0 ?_ | with_reducible refine wp_enum ?_ | with_reducible refine wp_eand ?_ | with_reducible refine wp_attr ?_ | with_reducible refine wp_eqO ?_ | with_reducible refine wp_ne2 ?_ | with_reducible refine wp_con ?_ | with_reducible refine wp_prop ?_ | with_reducible refine wp_enot ?_ | with_reducible refine wp_new ?_ | with_reducible refine wp_callK ?_ | with_reducible refine wp_get1 ?_ | with_reducible refine wp_get2 ?_ | with_reducible refine ws_seq ?_ | with_reducible refine ws_nil ?_ | with_reducible refine ws_set ?_ | with_reducible refine ws_ret ?_ | with_reducible refine ws_if ?_ | with_reducible refine ws_asg ?_ | with_reducible refine ws_par2 ?_ | with_reducible refine ws_par3 ?_ | with_reducible refine ws_own ?_ | with_reducible refine ws_for ?_ | with_reducible refine ws_parO ?_ | with_reducible refine ws_forV ?_ | with_reducible refine ws_put ?_ | with_reducible refine ws_clr ?_ | ((with_reducible apply ws_app); (· exact rfl)) | ((with_reducible apply ws_putO); (· exact rfl)) | ((with_reducible apply ws_frz); (· exact rfl)) | ((with_reducible apply ws_frzp); (· exact rfl)) | ((with_reducible apply wp_loc); (· exact rfl)) | ((with_reducible apply wp_rd); (· exact rfl)) | ((with_reducible apply wp_rdo); (· exact rfl)) | ((with_reducible apply wp_args); (· exact rfl); (· exact rfl); (· exact rfl))))
      refine ⟨by show 3 ≤ line; decide, ?_⟩
      exact ⟨.bl true, by kernel_rfl, rfl⟩
end Dn

theorem PySem.Challenge.cw_filteredcopies_k31_messages_made_holds : PySem.Challenge.rw_filteredcopies_k31_messages_made.Holds :=
  Dn.holds Dn.law_plain
